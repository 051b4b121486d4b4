import PyProof.Rows.All
import Wide.All
import OpenK.AllK
import Wide.FinOn
import KE.KStateDown
import Lean
import HandS.Base
import HandS.Call
import HandS.List
import HandS.Ends
import HandS.More
import HandS.Words
import HandS.WordsExc
import HandS.Defaults
import HandS.Property
import HandS.HeadHook1
import HandS.HeadHook2
import HandS.Head0
import HandS.Head1
import HandS.Head2
import HandS.HeadEnd
import HandS.Comp
import HandS.Dict
import HandS.Iter
import HandS.Text
import HandS.Style
import HandS.Conv
import HandS.Exc
import HandS.IsInst
import HandS.SetFor
import HandS.Star
import PySem.Challenge.RW_scanpages_k44_whole_torn_scans
set_option Elab.async false
set_option linter.all false
set_option maxRecDepth 100000
set_option maxHeartbeats 4000000
/-! ### the text by places -/
namespace K44
open PySem PySem.Spec PyProof.Rows L2
def top (i : Nat) : Stmt := PySem.Challenge.pw_scanpages_k44_whole_torn_scans.main.body.getD i (.Pass ⟨0, 0, 0, 0⟩)
abbrev s_mark_colour : Stmt := top 20
abbrev s_ring_cells : Stmt := top 21
abbrev s_check_square : Stmt := top 22
abbrev s__symbol : Stmt := top 23
abbrev s_taken : Stmt := top 24
abbrev s__check_turn : Stmt := top 28
abbrev s_turned : Stmt := top 29
abbrev s_opposite : Stmt := top 30
abbrev s_turned_marks : Stmt := top 31
abbrev s_check_bed : Stmt := top 34
abbrev s_check_symbols : Stmt := top 39
abbrev s__differences : Stmt := top 49
abbrev s__continued : Stmt := top 50
abbrev s__known : Stmt := top 51
abbrev s_is_near : Stmt := top 53
abbrev s_corrected : Stmt := top 56
abbrev s_check_label : Stmt := top 63
abbrev s_group_count : Stmt := top 64
abbrev s_symbols_label : Stmt := top 65
abbrev s_label_of : Stmt := top 67
abbrev s_read_lists : Stmt := top 68
abbrev s_read_page : Stmt := top 69
abbrev s_frame_threshold : Stmt := top 71
abbrev s__sums : Stmt := top 72
abbrev s_find_page : Stmt := top 74
abbrev s_find_turn : Stmt := top 75
abbrev s_upright : Stmt := top 76
abbrev s_read_scan : Stmt := top 77
abbrev s__law_cell : Stmt := top 79
abbrev s__law_mix : Stmt := top 80
abbrev s__law_row : Stmt := top 81
abbrev s__law_form : Stmt := top 83
abbrev s__law_words : Stmt := top 84
abbrev s__law_body_size : Stmt := top 85
abbrev s__law_label : Stmt := top 87
abbrev s__law_label_symbols : Stmt := top 88
abbrev s__law_times : Stmt := top 89
abbrev s__law_inverse : Stmt := top 92
abbrev s__law_at : Stmt := top 93
abbrev s__law_codeword : Stmt := top 94
abbrev s__law_ring : Stmt := top 96
abbrev s__law_mark : Stmt := top 97
abbrev s__law_place : Stmt := top 98
abbrev s__law_draw : Stmt := top 99
abbrev s__law_page : Stmt := top 100
abbrev s__law_turned : Stmt := top 101
abbrev s__law_bed : Stmt := top 102
abbrev s__law_tear : Stmt := top 103
abbrev s__law_is_readable : Stmt := top 104
abbrev s_law : Stmt := top 105
abbrev s_Format___init__ : Stmt := inClass (top 15) 0
abbrev s_Format_data_symbols : Stmt := inClass (top 15) 1
abbrev s_Format_codewords : Stmt := inClass (top 15) 2
abbrev s_Format_body_size : Stmt := inClass (top 15) 3
abbrev s_Format_capacity : Stmt := inClass (top 15) 4
abbrev s_FrameFinder___init__ : Stmt := inClass (top 73) 0
abbrev s_FrameFinder_black_cells : Stmt := inClass (top 73) 1
abbrev n_mark_colour : List Str := ["side", "row", "column"]
abbrev p_mark_colour : List Str := ["side", "row", "column"]
theorem sc_mark_colour : FnScope n_mark_colour p_mark_colour (defScope s_mark_colour) := ⟨rfl, rfl, rfl, by decide +kernel, rfl, by decide +kernel, by decide +kernel⟩
abbrev n_ring_cells : List Str := ["side", "inset", "last", "cells", "column", "row"]
abbrev p_ring_cells : List Str := ["side", "inset"]
theorem sc_ring_cells : FnScope n_ring_cells p_ring_cells (defScope s_ring_cells) := ⟨rfl, rfl, rfl, by decide +kernel, rfl, by decide +kernel, by decide +kernel⟩
abbrev n_check_square : List Str := ["rows", "side", "row", "cell"]
abbrev p_check_square : List Str := ["rows", "side"]
theorem sc_check_square : FnScope n_check_square p_check_square (defScope s_check_square) := ⟨rfl, rfl, rfl, by decide +kernel, rfl, by decide +kernel, by decide +kernel⟩
abbrev n__symbol : List Str := ["cells", "symbol", "cell"]
abbrev p__symbol : List Str := ["cells"]
theorem sc__symbol : FnScope n__symbol p__symbol (defScope s__symbol) := ⟨rfl, rfl, rfl, by decide +kernel, rfl, by decide +kernel, by decide +kernel⟩
abbrev n_taken : List Str := ["form", "rows", "field", "row", "count", "places", "symbols", "at", "number"]
abbrev p_taken : List Str := ["form", "rows"]
theorem sc_taken : FnScope n_taken p_taken (defScope s_taken) := ⟨rfl, rfl, rfl, by decide +kernel, rfl, by decide +kernel, by decide +kernel⟩
abbrev n__check_turn : List Str := ["turn"]
abbrev p__check_turn : List Str := ["turn"]
theorem sc__check_turn : FnScope n__check_turn p__check_turn (defScope s__check_turn) := ⟨rfl, rfl, rfl, by decide +kernel, rfl, by decide +kernel, by decide +kernel⟩
abbrev n_turned : List Str := ["rows", "turn", "size", "row", "result", "_", "upside", "column"]
abbrev p_turned : List Str := ["rows", "turn"]
theorem sc_turned : FnScope n_turned p_turned (defScope s_turned) := ⟨rfl, rfl, rfl, by decide +kernel, rfl, by decide +kernel, by decide +kernel⟩
abbrev n_opposite : List Str := ["turn"]
abbrev p_opposite : List Str := ["turn"]
theorem sc_opposite : FnScope n_opposite p_opposite (defScope s_opposite) := ⟨rfl, rfl, rfl, by decide +kernel, rfl, by decide +kernel, by decide +kernel⟩
abbrev n_turned_marks : List Str := ["side", "turn", "colours", "row", "column", "quarter", "moved"]
abbrev p_turned_marks : List Str := ["side", "turn"]
theorem sc_turned_marks : FnScope n_turned_marks p_turned_marks (defScope s_turned_marks) := ⟨rfl, rfl, rfl, by decide +kernel, rfl, by decide +kernel, by decide +kernel⟩
abbrev n_check_bed : List Str := ["bed", "row", "cell"]
abbrev p_check_bed : List Str := ["bed"]
theorem sc_check_bed : FnScope n_check_bed p_check_bed (defScope s_check_bed) := ⟨rfl, rfl, rfl, by decide +kernel, rfl, by decide +kernel, by decide +kernel⟩
abbrev n_check_symbols : List Str := ["symbols", "symbol"]
abbrev p_check_symbols : List Str := ["symbols"]
theorem sc_check_symbols : FnScope n_check_symbols p_check_symbols (defScope s_check_symbols) := ⟨rfl, rfl, rfl, by decide +kernel, rfl, by decide +kernel, by decide +kernel⟩
abbrev n__differences : List Str := ["known", "result", "_", "symbol", "step", "at", "slope"]
abbrev p__differences : List Str := ["known"]
theorem sc__differences : FnScope n__differences p__differences (defScope s__differences) := ⟨rfl, rfl, rfl, by decide +kernel, rfl, by decide +kernel, by decide +kernel⟩
abbrev n__continued : List Str := ["known", "points", "differences", "values", "point", "value", "at"]
abbrev p__continued : List Str := ["known", "points"]
theorem sc__continued : FnScope n__continued p__continued (defScope s__continued) := ⟨rfl, rfl, rfl, by decide +kernel, rfl, by decide +kernel, by decide +kernel⟩
abbrev n__known : List Str := ["received", "count", "known", "point", "symbol", "_"]
abbrev p__known : List Str := ["received", "count"]
theorem sc__known : FnScope n__known p__known (defScope s__known) := ⟨rfl, rfl, rfl, by decide +kernel, rfl, by decide +kernel, by decide +kernel⟩
abbrev n_is_near : List Str := ["codeword", "received", "count", "missing", "symbol", "wrong", "a", "b"]
abbrev p_is_near : List Str := ["codeword", "received", "count"]
theorem sc_is_near : FnScope n_is_near p_is_near (defScope s_is_near) := ⟨rfl, rfl, rfl, by decide +kernel, rfl, by decide +kernel, by decide +kernel⟩
abbrev n_corrected : List Str := ["received", "count", "known", "size", "codeword", "poly"]
abbrev p_corrected : List Str := ["received", "count"]
theorem sc_corrected : FnScope n_corrected p_corrected (defScope s_corrected) := ⟨rfl, rfl, rfl, by decide +kernel, rfl, by decide +kernel, by decide +kernel⟩
abbrev n_check_label : List Str := ["label", "archive", "number", "data", "size", "checks", "pages"]
abbrev p_check_label : List Str := ["label"]
theorem sc_check_label : FnScope n_check_label p_check_label (defScope s_check_label) := ⟨rfl, rfl, rfl, by decide +kernel, rfl, by decide +kernel, by decide +kernel⟩
abbrev n_group_count : List Str := ["data", "size"]
abbrev p_group_count : List Str := ["data", "size"]
theorem sc_group_count : FnScope n_group_count p_group_count (defScope s_group_count) := ⟨rfl, rfl, rfl, by decide +kernel, rfl, by decide +kernel, by decide +kernel⟩
abbrev n_symbols_label : List Str := ["symbols", "label"]
abbrev p_symbols_label : List Str := ["symbols"]
theorem sc_symbols_label : FnScope n_symbols_label p_symbols_label (defScope s_symbols_label) := ⟨rfl, rfl, rfl, by decide +kernel, rfl, by decide +kernel, by decide +kernel⟩
abbrev n_label_of : List Str := ["symbols", "symbol"]
abbrev p_label_of : List Str := ["symbols"]
theorem sc_label_of : FnScope n_label_of p_label_of (defScope s_label_of) := ⟨rfl, rfl, rfl, by decide +kernel, rfl, by decide +kernel, by decide +kernel⟩
abbrev n_read_lists : List Str := ["form", "lists", "symbols", "received", "codeword", "label"]
abbrev p_read_lists : List Str := ["form", "lists"]
theorem sc_read_lists : FnScope n_read_lists p_read_lists (defScope s_read_lists) := ⟨rfl, rfl, rfl, by decide +kernel, rfl, by decide +kernel, by decide +kernel⟩
abbrev n_read_page : List Str := ["form", "rows"]
abbrev p_read_page : List Str := ["form", "rows"]
theorem sc_read_page : FnScope n_read_page p_read_page (defScope s_read_page) := ⟨rfl, rfl, rfl, by decide +kernel, rfl, by decide +kernel, by decide +kernel⟩
abbrev n_frame_threshold : List Str := ["side"]
abbrev p_frame_threshold : List Str := ["side"]
theorem sc_frame_threshold : FnScope n_frame_threshold p_frame_threshold (defScope s_frame_threshold) := ⟨rfl, rfl, rfl, by decide +kernel, rfl, by decide +kernel, by decide +kernel⟩
abbrev n__sums : List Str := ["lines", "result", "line", "sums", "cell"]
abbrev p__sums : List Str := ["lines"]
theorem sc__sums : FnScope n__sums p__sums (defScope s__sums) := ⟨rfl, rfl, rfl, by decide +kernel, rfl, by decide +kernel, by decide +kernel⟩
abbrev n_find_page : List Str := ["side", "bed", "height", "width", "finder", "found", "row", "column"]
abbrev p_find_page : List Str := ["side", "bed"]
theorem sc_find_page : FnScope n_find_page p_find_page (defScope s_find_page) := ⟨rfl, rfl, rfl, by decide +kernel, rfl, by decide +kernel, by decide +kernel⟩
abbrev n_find_turn : List Str := ["rows", "side", "cells", "row", "column", "scores", "turn", "colours", "cell", "colour", "best"]
abbrev p_find_turn : List Str := ["rows"]
theorem sc_find_turn : FnScope n_find_turn p_find_turn (defScope s_find_turn) := ⟨rfl, rfl, rfl, by decide +kernel, rfl, by decide +kernel, by decide +kernel⟩
abbrev n_upright : List Str := ["side", "bed", "place", "row", "column", "square", "line", "turn"]
abbrev p_upright : List Str := ["side", "bed"]
theorem sc_upright : FnScope n_upright p_upright (defScope s_upright) := ⟨rfl, rfl, rfl, by decide +kernel, rfl, by decide +kernel, by decide +kernel⟩
abbrev n_read_scan : List Str := ["form", "bed", "square"]
abbrev p_read_scan : List Str := ["form", "bed"]
theorem sc_read_scan : FnScope n_read_scan p_read_scan (defScope s_read_scan) := ⟨rfl, rfl, rfl, by decide +kernel, rfl, by decide +kernel, by decide +kernel⟩
abbrev n__law_cell : List Str := ["_law_script", "_law_k"]
abbrev p__law_cell : List Str := ["_law_script", "_law_k"]
theorem sc__law_cell : FnScope n__law_cell p__law_cell (defScope s__law_cell) := ⟨rfl, rfl, rfl, by decide +kernel, rfl, by decide +kernel, by decide +kernel⟩
abbrev n__law_mix : List Str := ["_law_cell_here", "_law_k", "_law_number"]
abbrev p__law_mix : List Str := ["_law_cell_here", "_law_k"]
theorem sc__law_mix : FnScope n__law_mix p__law_mix (defScope s__law_mix) := ⟨rfl, rfl, rfl, by decide +kernel, rfl, by decide +kernel, by decide +kernel⟩
abbrev n__law_row : List Str := ["_law_cell_here", "_law_count", "_law_bound", "_law_found", "_law_rest", "_law_k"]
abbrev p__law_row : List Str := ["_law_cell_here", "_law_count", "_law_bound"]
theorem sc__law_row : FnScope n__law_row p__law_row (defScope s__law_row) := ⟨rfl, rfl, rfl, by decide +kernel, rfl, by decide +kernel, by decide +kernel⟩
abbrev n__law_form : List Str := ["_law_cell_here", "_law_side", "_law_checks"]
abbrev p__law_form : List Str := ["_law_cell_here"]
theorem sc__law_form : FnScope n__law_form p__law_form (defScope s__law_form) := ⟨rfl, rfl, rfl, by decide +kernel, rfl, by decide +kernel, by decide +kernel⟩
abbrev n__law_words : List Str := ["_law_side"]
abbrev p__law_words : List Str := ["_law_side"]
theorem sc__law_words : FnScope n__law_words p__law_words (defScope s__law_words) := ⟨rfl, rfl, rfl, by decide +kernel, rfl, by decide +kernel, by decide +kernel⟩
abbrev n__law_body_size : List Str := ["_law_side", "_law_checks"]
abbrev p__law_body_size : List Str := ["_law_side", "_law_checks"]
theorem sc__law_body_size : FnScope n__law_body_size p__law_body_size (defScope s__law_body_size) := ⟨rfl, rfl, rfl, by decide +kernel, rfl, by decide +kernel, by decide +kernel⟩
abbrev n__law_label : List Str := ["_law_cell_here", "_law_size", "_law_checks", "_law_data", "_law_pages", "_law_number"]
abbrev p__law_label : List Str := ["_law_cell_here"]
theorem sc__law_label : FnScope n__law_label p__law_label (defScope s__law_label) := ⟨rfl, rfl, rfl, by decide +kernel, rfl, by decide +kernel, by decide +kernel⟩
abbrev n__law_label_symbols : List Str := ["_law_label_here", "_law_symbols", "_law_value"]
abbrev p__law_label_symbols : List Str := ["_law_label_here"]
theorem sc__law_label_symbols : FnScope n__law_label_symbols p__law_label_symbols (defScope s__law_label_symbols) := ⟨rfl, rfl, rfl, by decide +kernel, rfl, by decide +kernel, by decide +kernel⟩
abbrev n__law_times : List Str := ["_law_a", "_law_b", "_law_logs"]
abbrev p__law_times : List Str := ["_law_a", "_law_b"]
theorem sc__law_times : FnScope n__law_times p__law_times (defScope s__law_times) := ⟨rfl, rfl, rfl, by decide +kernel, rfl, by decide +kernel, by decide +kernel⟩
abbrev n__law_inverse : List Str := ["_law_a"]
abbrev p__law_inverse : List Str := ["_law_a"]
theorem sc__law_inverse : FnScope n__law_inverse p__law_inverse (defScope s__law_inverse) := ⟨rfl, rfl, rfl, by decide +kernel, rfl, by decide +kernel, by decide +kernel⟩
abbrev n__law_at : List Str := ["_law_points", "_law_values", "_law_target", "_law_total", "_law_i", "_law_factor", "_law_j"]
abbrev p__law_at : List Str := ["_law_points", "_law_values", "_law_target"]
theorem sc__law_at : FnScope n__law_at p__law_at (defScope s__law_at) := ⟨rfl, rfl, rfl, by decide +kernel, rfl, by decide +kernel, by decide +kernel⟩
abbrev n__law_codeword : List Str := ["_law_symbols", "_law_size", "_law_points", "_law_point"]
abbrev p__law_codeword : List Str := ["_law_symbols", "_law_size"]
theorem sc__law_codeword : FnScope n__law_codeword p__law_codeword (defScope s__law_codeword) := ⟨rfl, rfl, rfl, by decide +kernel, rfl, by decide +kernel, by decide +kernel⟩
abbrev n__law_ring : List Str := ["_law_side", "_law_inset", "_law_last", "_law_cells", "_law_k"]
abbrev p__law_ring : List Str := ["_law_side", "_law_inset"]
theorem sc__law_ring : FnScope n__law_ring p__law_ring (defScope s__law_ring) := ⟨rfl, rfl, rfl, by decide +kernel, rfl, by decide +kernel, by decide +kernel⟩
abbrev n__law_mark : List Str := ["_law_side", "_law_row_here", "_law_column"]
abbrev p__law_mark : List Str := ["_law_side", "_law_row_here", "_law_column"]
theorem sc__law_mark : FnScope n__law_mark p__law_mark (defScope s__law_mark) := ⟨rfl, rfl, rfl, by decide +kernel, rfl, by decide +kernel, by decide +kernel⟩
abbrev n__law_place : List Str := ["_law_side", "_law_place_here", "_law_width", "_law_at_here"]
abbrev p__law_place : List Str := ["_law_side", "_law_place_here"]
theorem sc__law_place : FnScope n__law_place p__law_place (defScope s__law_place) := ⟨rfl, rfl, rfl, by decide +kernel, rfl, by decide +kernel, by decide +kernel⟩
abbrev n__law_draw : List Str := ["_law_side", "_law_codewords", "_law_page_here", "_law_k", "_law_row_here", "_law_column", "_law_count", "_law_w", "_law_s", "_law_cells"]
abbrev p__law_draw : List Str := ["_law_side", "_law_codewords"]
theorem sc__law_draw : FnScope n__law_draw p__law_draw (defScope s__law_draw) := ⟨rfl, rfl, rfl, by decide +kernel, rfl, by decide +kernel, by decide +kernel⟩
abbrev n__law_page : List Str := ["_law_side", "_law_checks", "_law_label_here", "_law_body", "_law_count", "_law_symbols", "_law_words_here", "_law_k"]
abbrev p__law_page : List Str := ["_law_side", "_law_checks", "_law_label_here", "_law_body"]
theorem sc__law_page : FnScope n__law_page p__law_page (defScope s__law_page) := ⟨rfl, rfl, rfl, by decide +kernel, rfl, by decide +kernel, by decide +kernel⟩
abbrev n__law_turned : List Str := ["_law_rows", "_law_turn", "_law_size", "_law_square", "_law_row_here", "_law_k", "_law_j", "_law_i"]
abbrev p__law_turned : List Str := ["_law_rows", "_law_turn"]
theorem sc__law_turned : FnScope n__law_turned p__law_turned (defScope s__law_turned) := ⟨rfl, rfl, rfl, by decide +kernel, rfl, by decide +kernel, by decide +kernel⟩
abbrev n__law_bed : List Str := ["_law_page_here", "_law_turn", "_law_height", "_law_width", "_law_row_here", "_law_column", "_law_square", "_law_bed_here", "_law_k", "_law_i", "_law_j"]
abbrev p__law_bed : List Str := ["_law_page_here", "_law_turn", "_law_height", "_law_width", "_law_row_here", "_law_column"]
theorem sc__law_bed : FnScope n__law_bed p__law_bed (defScope s__law_bed) := ⟨rfl, rfl, rfl, by decide +kernel, rfl, by decide +kernel, by decide +kernel⟩
abbrev n__law_tear : List Str := ["_law_bed_here", "_law_place_here", "_law_side", "_law_cell_here", "_law_row_here", "_law_column", "_law_kind", "_law_size", "_law_first", "_law_second", "_law_i", "_law_j", "_law_gone"]
abbrev p__law_tear : List Str := ["_law_bed_here", "_law_place_here", "_law_side", "_law_cell_here"]
theorem sc__law_tear : FnScope n__law_tear p__law_tear (defScope s__law_tear) := ⟨rfl, rfl, rfl, by decide +kernel, rfl, by decide +kernel, by decide +kernel⟩
abbrev n__law_is_readable : List Str := ["_law_bed_here", "_law_side", "_law_checks", "_law_place_here", "_law_turn", "_law_row_here", "_law_column", "_law_square", "_law_line", "_law_black", "_law_cell_here", "_law_blank", "_law_other", "_law_marks", "_law_right", "_law_seen", "_law_r", "_law_c", "_law_w", "_law_gone", "_law_s", "_law_hidden"]
abbrev p__law_is_readable : List Str := ["_law_bed_here", "_law_side", "_law_checks", "_law_place_here", "_law_turn"]
theorem sc__law_is_readable : FnScope n__law_is_readable p__law_is_readable (defScope s__law_is_readable) := ⟨rfl, rfl, rfl, by decide +kernel, rfl, by decide +kernel, by decide +kernel⟩
abbrev n_law : List Str := ["_law_script", "_law_side", "_law_checks", "_law_form_here", "_law_label_here", "_law_body", "_law_turn", "_law_height", "_law_width", "_law_place_here", "_law_bed_here", "_law_k", "_law_copy", "_law_line", "_law_actual"]
abbrev p_law : List Str := ["_law_script"]
theorem sc_law : FnScope n_law p_law (defScope s_law) := ⟨rfl, rfl, rfl, by decide +kernel, rfl, by decide +kernel, by decide +kernel⟩
abbrev n_Format___init__ : List Str := ["self", "side", "checks"]
abbrev p_Format___init__ : List Str := ["self", "side", "checks"]
theorem sc_Format___init__ : FnScope n_Format___init__ p_Format___init__ (defScope s_Format___init__) := ⟨rfl, rfl, rfl, by decide +kernel, rfl, by decide +kernel, by decide +kernel⟩
abbrev n_Format_data_symbols : List Str := ["self"]
abbrev p_Format_data_symbols : List Str := ["self"]
theorem sc_Format_data_symbols : FnScope n_Format_data_symbols p_Format_data_symbols (defScope s_Format_data_symbols) := ⟨rfl, rfl, rfl, by decide +kernel, rfl, by decide +kernel, by decide +kernel⟩
abbrev n_Format_codewords : List Str := ["self", "field"]
abbrev p_Format_codewords : List Str := ["self"]
theorem sc_Format_codewords : FnScope n_Format_codewords p_Format_codewords (defScope s_Format_codewords) := ⟨rfl, rfl, rfl, by decide +kernel, rfl, by decide +kernel, by decide +kernel⟩
abbrev n_Format_body_size : List Str := ["self"]
abbrev p_Format_body_size : List Str := ["self"]
theorem sc_Format_body_size : FnScope n_Format_body_size p_Format_body_size (defScope s_Format_body_size) := ⟨rfl, rfl, rfl, by decide +kernel, rfl, by decide +kernel, by decide +kernel⟩
abbrev n_Format_capacity : List Str := ["self"]
abbrev p_Format_capacity : List Str := ["self"]
theorem sc_Format_capacity : FnScope n_Format_capacity p_Format_capacity (defScope s_Format_capacity) := ⟨rfl, rfl, rfl, by decide +kernel, rfl, by decide +kernel, by decide +kernel⟩
abbrev n_FrameFinder___init__ : List Str := ["self", "bed", "row", "column"]
abbrev p_FrameFinder___init__ : List Str := ["self", "bed"]
theorem sc_FrameFinder___init__ : FnScope n_FrameFinder___init__ p_FrameFinder___init__ (defScope s_FrameFinder___init__) := ⟨rfl, rfl, rfl, by decide +kernel, rfl, by decide +kernel, by decide +kernel⟩
abbrev n_FrameFinder_black_cells : List Str := ["self", "side", "row", "column", "right", "below", "first", "last", "left", "far"]
abbrev p_FrameFinder_black_cells : List Str := ["self", "side", "row", "column"]
theorem sc_FrameFinder_black_cells : FnScope n_FrameFinder_black_cells p_FrameFinder_black_cells (defScope s_FrameFinder_black_cells) := ⟨rfl, rfl, rfl, by decide +kernel, rfl, by decide +kernel, by decide +kernel⟩
/-! ### what the head is to tell -/
abbrev Pth : Type := PySem.W.Frag → Addr
/-- one def of the text: where it stands, its names, its statement -/
structure Dn where
  pl : Pth
  nm : Str
  qn : Str
  st : Stmt
/-- what a function object says of itself -/
def seenFn (K : PySem.W.Frag) (f : Addr) : He.FnV := match K.lookup f with
  | some ob => (match ob.data with
    | .func z => some (z.name, z.qualname, z.params, z.body, z.scope, z.globals, z.closure, z.defaults, z.builtins)
    | _ => none)
  | none => none
def Dn.told (d : Dn) : He.FnV := some (d.nm, d.qn, defArgs d.st, .stmts (defBody d.st), defScope d.st, mainGlobals, [], .none, builtinsNs)
def Dn.fine (K : PySem.W.Frag) (d : Dn) : Bool := PySem.W.keepIn K (.ref (d.pl K)) && (match K.lookup (d.pl K) with
  | some ob => (match ob.data with
    | .func z => PySem.W.codeIn K z.code d.qn
    | _ => false)
  | none => false)
theorem Dn.fun_ {K : PySem.W.Frag} {d : Dn} (e : seenFn K (d.pl K) = d.told) (c : d.fine K = true) : ∃ fd, Fun K d.nm d.qn d.st (d.pl K) fd := by
  unfold Dn.fine at c
  obtain ⟨kp, c2⟩ := Bool.and_eq_true_iff.mp c
  unfold seenFn at e
  cases q : K.lookup (d.pl K) with
  | none => rw [q] at c2; cases c2
  | some ob =>
    obtain ⟨a1, a2, a3, a4⟩ := ob
    rw [q] at c2 e
    cases a3 with
    | func z =>
      obtain ⟨y1, y2, y3, y4, y5, y6, y7, y8, y9, y10, y11, y12, y13, y14, y15⟩ := z
      have e3 := Option.some.inj e
      simp only [Prod.mk.injEq] at e3
      obtain ⟨g1, g2, g3, g4, g5, g6, g7, g8, g9⟩ := e3
      subst g1 g2 g3 g4 g5 g6 g7 g8 g9
      exact ⟨_, ⟨⟨a1, a2, y9, y10, y11, y12, y13, y14, a4, rfl, q, c2⟩, kp⟩⟩
    | _ => cases c2
/-- a tuple of ints of the written part -/
def tupIs (K : PySem.W.Frag) (a : Addr) (vs : List V) : Bool := match K.lookup a with
  | some ob => (match ob.cls, ob.data with
    | .type c, .seq its _ => decide (c = "tuple") && (decide (its.size ≤ sizeLine) && He.relAll vs its.toList)
    | _, _ => false)
  | none => false
theorem tupIs_ok {K : PySem.W.Frag} {a : Addr} {vs : List V} (h : tupIs K a vs = true) (H : Hp) : SqT K H a vs := by
  unfold tupIs at h
  cases q : K.lookup a with
  | none => rw [q] at h; cases h
  | some ob =>
    obtain ⟨a1, a2, a3, a4⟩ := ob
    rw [q] at h
    cases a1 with
    | type c =>
      cases a3 with
      | seq its n =>
        obtain ⟨h1, h2⟩ := Bool.and_eq_true_iff.mp h
        obtain ⟨h3, h4⟩ := Bool.and_eq_true_iff.mp h2
        exact .inr ⟨_, its, n, q, congrArg Value.type (of_decide_eq_true h1), rfl, of_decide_eq_true h3, He.relAll_ok h4⟩
      | _ => cases h
    | _ => cases a3 <;> cases h
def nvs (ns : List Nat) : List V := ns.map fun n : Nat => V.int (n : Int)
def prodRow (K : PySem.W.Frag) (i : Nat) : Addr := match K.lookup (He.ga K "PRODUCTS") with
  | some ob => (match ob.data with
    | .seq its _ => (match its.toList[i]? with
      | some (.ref a) => a
      | _ => 0)
    | _ => 0)
  | none => 0
/-- the table of products -/
def prodT : List (List Nat) := [[0, 0, 0, 0, 0, 0, 0, 0, 0, 0, 0, 0, 0, 0, 0, 0],
  [0, 1, 2, 3, 4, 5, 6, 7, 8, 9, 10, 11, 12, 13, 14, 15],
  [0, 2, 4, 6, 8, 10, 12, 14, 3, 1, 7, 5, 11, 9, 15, 13],
  [0, 3, 6, 5, 12, 15, 10, 9, 11, 8, 13, 14, 7, 4, 1, 2],
  [0, 4, 8, 12, 3, 7, 11, 15, 6, 2, 14, 10, 5, 1, 13, 9],
  [0, 5, 10, 15, 7, 2, 13, 8, 14, 11, 4, 1, 9, 12, 3, 6],
  [0, 6, 12, 10, 11, 13, 7, 1, 5, 3, 9, 15, 14, 8, 2, 4],
  [0, 7, 14, 9, 15, 8, 1, 6, 13, 10, 3, 4, 2, 5, 12, 11],
  [0, 8, 3, 11, 6, 14, 5, 13, 12, 4, 15, 7, 10, 2, 9, 1],
  [0, 9, 1, 8, 2, 11, 3, 10, 4, 13, 5, 12, 6, 15, 7, 14],
  [0, 10, 7, 13, 14, 4, 9, 3, 15, 5, 8, 2, 1, 11, 6, 12],
  [0, 11, 5, 14, 10, 1, 15, 4, 7, 12, 2, 9, 13, 6, 8, 3],
  [0, 12, 11, 7, 5, 9, 14, 2, 10, 6, 1, 13, 15, 3, 4, 8],
  [0, 13, 9, 4, 1, 12, 8, 5, 2, 15, 11, 6, 3, 14, 10, 7],
  [0, 14, 15, 1, 13, 3, 2, 12, 9, 7, 6, 8, 4, 10, 11, 5],
  [0, 15, 13, 2, 9, 6, 4, 11, 1, 14, 12, 3, 8, 7, 5, 10]]
def invT : List Nat := [0, 1, 9, 14, 13, 11, 7, 6, 15, 2, 12, 5, 10, 4, 3, 8]
def tabsOk (K : PySem.W.Frag) : Bool := tupIs K (He.ga K "NUMBERS_OF_CHECKS") (nvs [2, 4, 6, 8]) && (tupIs K (He.ga K "INVERSES") (nvs invT) &&
  (tupIs K (He.ga K "PRODUCTS") ((List.range 16).map fun i => V.ref (prodRow K i)) && (List.range 16).all fun i => tupIs K (prodRow K i) (nvs (prodT.getD i []))))
/-- a property of a class: the property's object, its getter -/
def propAt (K : PySem.W.Frag) (c f : Str) : Addr := match PySem.W.findIn K (.ref (He.ga K c)) f with
  | some (some (.ref a)) => a
  | _ => 0
def propGet (c f : Str) : Pth := fun K => match PySem.W.recIn K (propAt K c f) "property" with
  | some (.ref g :: _) => g
  | _ => 0
def isProp (K : PySem.W.Frag) (c f : Str) : Bool := decide (PySem.W.findIn K (.ref (He.ga K c)) f = some (some (.ref (propAt K c f)))) && (decide (PySem.W.specialIn K (.ref (propAt K c f)) "__get__" = some (some (.builtin "property.__get__"))) &&
  (decide (PySem.W.takesIn K (.ref (propAt K c f)) = some true) && (match PySem.W.recIn K (propAt K c f) "property" with
    | some (.ref _ :: _) => true
    | _ => false)))
theorem isProp_ok {K : PySem.W.Frag} {c f : Str} (h : isProp K c f = true) : PropOf K (He.ga K c) f (propAt K c f) (propGet c f K) := by
  obtain ⟨h1, h⟩ := Bool.and_eq_true_iff.mp h
  obtain ⟨h2, h⟩ := Bool.and_eq_true_iff.mp h
  obtain ⟨h3, h⟩ := Bool.and_eq_true_iff.mp h
  refine ⟨of_decide_eq_true h1, of_decide_eq_true h2, of_decide_eq_true h3, ?_⟩
  unfold propGet
  split at h
  · rename_i g rest q
    rw [q]
    exact ⟨rest, rfl⟩
  · cases h
def fa : List He.Fa := ([.free "len", .free "range", .free "list", .free "zip", .free "enumerate", .free "int", .free "abs", .free "max", .free "all", .free "any", .free "isinstance", .free "tuple", .int "LEAST_SIDE" 16, .int "GREATEST_SIDE" 40, .int "CODEWORD" 16, .int "CELLS_OF_SYMBOL" 4] : List He.Fa) ++ ([.int "HEAD" 10, .int "BORDER" 2, .int "WHITE" 0, .int "BLACK" 1, .int "UNREADABLE" 2, .int "TURNS" 8, .int "QUARTERS" 4, .int "GREATEST_SIZE" 60, .int "SYMBOLS" 16, .int "SIZE" 8, .int "GREATEST_ARCHIVE" 255, .int "MOST_PAGES" 255, .int "GREATEST_GROUP" 12, .int "MOST_MEMBERS" 16, .glo "NUMBERS_OF_CHECKS", .glo "INVERSES"] : List He.Fa) ++ ([.glo "PRODUCTS", .glo "Format", .glo "FrameFinder", .cls "Format", .mkr "Format", .cls "FrameFinder", .mkr "FrameFinder", .noat "Format" "side", .noat "Format" "checks", .noat "FrameFinder" "_rows", .noat "FrameFinder" "_columns", .meth "FrameFinder" "black_cells", .glo "mark_colour", .glo "ring_cells", .glo "check_square", .glo "_symbol"] : List He.Fa) ++ ([.glo "taken", .glo "_check_turn", .glo "turned", .glo "opposite", .glo "turned_marks", .glo "check_bed", .glo "check_symbols", .glo "_differences", .glo "_continued", .glo "_known", .glo "is_near", .glo "corrected", .glo "check_label", .glo "group_count", .glo "symbols_label", .glo "label_of"] : List He.Fa) ++ ([.glo "read_lists", .glo "read_page", .glo "frame_threshold", .glo "_sums", .glo "find_page", .glo "find_turn", .glo "upright", .glo "read_scan", .glo "_law_cell", .glo "_law_mix", .glo "_law_row", .glo "_law_form", .glo "_law_words", .glo "_law_body_size", .glo "_law_label", .glo "_law_label_symbols"] : List He.Fa) ++ ([.glo "_law_times", .glo "_law_inverse", .glo "_law_at", .glo "_law_codeword", .glo "_law_ring", .glo "_law_mark", .glo "_law_place", .glo "_law_draw", .glo "_law_page", .glo "_law_turned", .glo "_law_bed", .glo "_law_tear", .glo "_law_is_readable", .glo "law"] : List He.Fa)
def dn : List Dn := ([⟨fun K => He.ga K "mark_colour", "mark_colour", "mark_colour", s_mark_colour⟩, ⟨fun K => He.ga K "ring_cells", "ring_cells", "ring_cells", s_ring_cells⟩, ⟨fun K => He.ga K "check_square", "check_square", "check_square", s_check_square⟩, ⟨fun K => He.ga K "_symbol", "_symbol", "_symbol", s__symbol⟩, ⟨fun K => He.ga K "taken", "taken", "taken", s_taken⟩, ⟨fun K => He.ga K "_check_turn", "_check_turn", "_check_turn", s__check_turn⟩, ⟨fun K => He.ga K "turned", "turned", "turned", s_turned⟩, ⟨fun K => He.ga K "opposite", "opposite", "opposite", s_opposite⟩, ⟨fun K => He.ga K "turned_marks", "turned_marks", "turned_marks", s_turned_marks⟩, ⟨fun K => He.ga K "check_bed", "check_bed", "check_bed", s_check_bed⟩, ⟨fun K => He.ga K "check_symbols", "check_symbols", "check_symbols", s_check_symbols⟩, ⟨fun K => He.ga K "_differences", "_differences", "_differences", s__differences⟩] : List Dn) ++ ([⟨fun K => He.ga K "_continued", "_continued", "_continued", s__continued⟩, ⟨fun K => He.ga K "_known", "_known", "_known", s__known⟩, ⟨fun K => He.ga K "is_near", "is_near", "is_near", s_is_near⟩, ⟨fun K => He.ga K "corrected", "corrected", "corrected", s_corrected⟩, ⟨fun K => He.ga K "check_label", "check_label", "check_label", s_check_label⟩, ⟨fun K => He.ga K "group_count", "group_count", "group_count", s_group_count⟩, ⟨fun K => He.ga K "symbols_label", "symbols_label", "symbols_label", s_symbols_label⟩, ⟨fun K => He.ga K "label_of", "label_of", "label_of", s_label_of⟩, ⟨fun K => He.ga K "read_lists", "read_lists", "read_lists", s_read_lists⟩, ⟨fun K => He.ga K "read_page", "read_page", "read_page", s_read_page⟩, ⟨fun K => He.ga K "frame_threshold", "frame_threshold", "frame_threshold", s_frame_threshold⟩, ⟨fun K => He.ga K "_sums", "_sums", "_sums", s__sums⟩] : List Dn) ++ ([⟨fun K => He.ga K "find_page", "find_page", "find_page", s_find_page⟩, ⟨fun K => He.ga K "find_turn", "find_turn", "find_turn", s_find_turn⟩, ⟨fun K => He.ga K "upright", "upright", "upright", s_upright⟩, ⟨fun K => He.ga K "read_scan", "read_scan", "read_scan", s_read_scan⟩, ⟨fun K => He.ga K "_law_cell", "_law_cell", "_law_cell", s__law_cell⟩, ⟨fun K => He.ga K "_law_mix", "_law_mix", "_law_mix", s__law_mix⟩, ⟨fun K => He.ga K "_law_row", "_law_row", "_law_row", s__law_row⟩, ⟨fun K => He.ga K "_law_form", "_law_form", "_law_form", s__law_form⟩, ⟨fun K => He.ga K "_law_words", "_law_words", "_law_words", s__law_words⟩, ⟨fun K => He.ga K "_law_body_size", "_law_body_size", "_law_body_size", s__law_body_size⟩, ⟨fun K => He.ga K "_law_label", "_law_label", "_law_label", s__law_label⟩, ⟨fun K => He.ga K "_law_label_symbols", "_law_label_symbols", "_law_label_symbols", s__law_label_symbols⟩] : List Dn) ++ ([⟨fun K => He.ga K "_law_times", "_law_times", "_law_times", s__law_times⟩, ⟨fun K => He.ga K "_law_inverse", "_law_inverse", "_law_inverse", s__law_inverse⟩, ⟨fun K => He.ga K "_law_at", "_law_at", "_law_at", s__law_at⟩, ⟨fun K => He.ga K "_law_codeword", "_law_codeword", "_law_codeword", s__law_codeword⟩, ⟨fun K => He.ga K "_law_ring", "_law_ring", "_law_ring", s__law_ring⟩, ⟨fun K => He.ga K "_law_mark", "_law_mark", "_law_mark", s__law_mark⟩, ⟨fun K => He.ga K "_law_place", "_law_place", "_law_place", s__law_place⟩, ⟨fun K => He.ga K "_law_draw", "_law_draw", "_law_draw", s__law_draw⟩, ⟨fun K => He.ga K "_law_page", "_law_page", "_law_page", s__law_page⟩, ⟨fun K => He.ga K "_law_turned", "_law_turned", "_law_turned", s__law_turned⟩, ⟨fun K => He.ga K "_law_bed", "_law_bed", "_law_bed", s__law_bed⟩, ⟨fun K => He.ga K "_law_tear", "_law_tear", "_law_tear", s__law_tear⟩] : List Dn) ++ ([⟨fun K => He.ga K "_law_is_readable", "_law_is_readable", "_law_is_readable", s__law_is_readable⟩, ⟨fun K => He.ga K "law", "law", "law", s_law⟩, ⟨fun K => He.ma K (He.ga K "Format") "__init__", "__init__", "Format.__init__", s_Format___init__⟩, ⟨propGet "Format" "data_symbols", "data_symbols", "Format.data_symbols", s_Format_data_symbols⟩, ⟨propGet "Format" "codewords", "codewords", "Format.codewords", s_Format_codewords⟩, ⟨propGet "Format" "body_size", "body_size", "Format.body_size", s_Format_body_size⟩, ⟨propGet "Format" "capacity", "capacity", "Format.capacity", s_Format_capacity⟩, ⟨fun K => He.ma K (He.ga K "FrameFinder") "__init__", "__init__", "FrameFinder.__init__", s_FrameFinder___init__⟩, ⟨fun K => He.ma K (He.ga K "FrameFinder") "black_cells", "black_cells", "FrameFinder.black_cells", s_FrameFinder_black_cells⟩] : List Dn)
def exB (K : PySem.W.Frag) : Bool := tabsOk K && (isProp K "Format" "data_symbols" && isProp K "Format" "codewords" && isProp K "Format" "body_size" && isProp K "Format" "capacity")
abbrev AlM : Type := Bool × List He.FnV
def obsM (K : PySem.W.Frag) : AlM := ((fa.all fun f => f.ok K) && ((dn.all fun d => d.fine K) && exB K), dn.map fun d => seenFn K (d.pl K))
def valM : AlM := (true, dn.map Dn.told)
/-- what an object leads on to -/
def nextA (g : Addr → Option Obj) (a : Addr) : List Addr := match g a with
  | some o => (match o.data with
    | .seq its _ => its.toList.flatMap He.refV
    | .dict es _ => es.toList.flatMap fun e => He.refV e.val
    | .func z => He.refV z.code
    | .cls z => [z.ns]
    | .fields vs => vs.toList.flatMap He.refV
    | _ => [])
  | none => []
def layA (g : Addr → Option Obj) : Nat → List Addr → List Addr
  | 0, l => l
  | n + 1, l => l ++ layA g n (l.flatMap (nextA g))
def obsH (g : Addr → Option Obj) : AlM := obsM (He.frG g (layA g 5 [mainGlobals]))
def hookM : PySem.W.Hook where
  α := AlM
  obs := fun s => obsH s.heap.get?
  val := fun _ => valM
  says := fun _ h => ∃ K : PySem.W.Frag, K.In h ∧ obsM K = valM
  of := fun _ _ e => ⟨_, He.frG_in, e⟩
  keeps := fun _ _ _ ⟨K, i, c⟩ k => ⟨K, i.keeps k, c⟩
/-! ### the facts, by names -/
/-- a def of the module: it stands where its name says -/
def Dfn (K : PySem.W.Frag) (mg : Str → Option Value) (x : Str) (st : Stmt) : Prop := ∃ f fd, Fun K x x st f fd ∧ mg x = some (.ref f)
/-- a class: instances of it, its __init__ -/
structure ClsF (K : PySem.W.Frag) (mg : Str → Option Value) (x : Str) (C : Addr) : Prop where
  mgC : mg x = some (.ref C)
  cl : Cls K C
structure Tx (K : PySem.W.Frag) (mg : Str → Option Value) : Prop where
  b_len : mg "len" = none
  b_range : mg "range" = none
  b_list : mg "list" = none
  b_zip : mg "zip" = none
  b_enumerate : mg "enumerate" = none
  b_int : mg "int" = none
  b_abs : mg "abs" = none
  b_max : mg "max" = none
  b_all : mg "all" = none
  b_any : mg "any" = none
  b_isinstance : mg "isinstance" = none
  b_tuple : mg "tuple" = none
  c_LEAST_SIDE : ∃ t, mg "LEAST_SIDE" = some (.int 16 t)
  c_GREATEST_SIDE : ∃ t, mg "GREATEST_SIDE" = some (.int 40 t)
  c_CODEWORD : ∃ t, mg "CODEWORD" = some (.int 16 t)
  c_CELLS_OF_SYMBOL : ∃ t, mg "CELLS_OF_SYMBOL" = some (.int 4 t)
  c_HEAD : ∃ t, mg "HEAD" = some (.int 10 t)
  c_BORDER : ∃ t, mg "BORDER" = some (.int 2 t)
  c_WHITE : ∃ t, mg "WHITE" = some (.int 0 t)
  c_BLACK : ∃ t, mg "BLACK" = some (.int 1 t)
  c_UNREADABLE : ∃ t, mg "UNREADABLE" = some (.int 2 t)
  c_TURNS : ∃ t, mg "TURNS" = some (.int 8 t)
  c_QUARTERS : ∃ t, mg "QUARTERS" = some (.int 4 t)
  c_GREATEST_SIZE : ∃ t, mg "GREATEST_SIZE" = some (.int 60 t)
  c_SYMBOLS : ∃ t, mg "SYMBOLS" = some (.int 16 t)
  c_SIZE : ∃ t, mg "SIZE" = some (.int 8 t)
  c_GREATEST_ARCHIVE : ∃ t, mg "GREATEST_ARCHIVE" = some (.int 255 t)
  c_MOST_PAGES : ∃ t, mg "MOST_PAGES" = some (.int 255 t)
  c_GREATEST_GROUP : ∃ t, mg "GREATEST_GROUP" = some (.int 12 t)
  c_MOST_MEMBERS : ∃ t, mg "MOST_MEMBERS" = some (.int 16 t)
  t_checks : ∃ a, mg "NUMBERS_OF_CHECKS" = some (.ref a) ∧ ∀ H, SqT K H a (nvs [2, 4, 6, 8])
  t_inv : ∃ a, mg "INVERSES" = some (.ref a) ∧ ∀ H, SqT K H a (nvs invT)
  t_prod : ∃ (a : Addr) (rs : Nat → Addr), mg "PRODUCTS" = some (.ref a) ∧ (∀ H, SqT K H a ((List.range 16).map fun i => V.ref (rs i))) ∧ ∀ i, i < 16 → ∀ H, SqT K H (rs i) (nvs (prodT.getD i []))
  d_mark_colour : Dfn K mg "mark_colour" s_mark_colour
  d_ring_cells : Dfn K mg "ring_cells" s_ring_cells
  d_check_square : Dfn K mg "check_square" s_check_square
  d__symbol : Dfn K mg "_symbol" s__symbol
  d_taken : Dfn K mg "taken" s_taken
  d__check_turn : Dfn K mg "_check_turn" s__check_turn
  d_turned : Dfn K mg "turned" s_turned
  d_opposite : Dfn K mg "opposite" s_opposite
  d_turned_marks : Dfn K mg "turned_marks" s_turned_marks
  d_check_bed : Dfn K mg "check_bed" s_check_bed
  d_check_symbols : Dfn K mg "check_symbols" s_check_symbols
  d__differences : Dfn K mg "_differences" s__differences
  d__continued : Dfn K mg "_continued" s__continued
  d__known : Dfn K mg "_known" s__known
  d_is_near : Dfn K mg "is_near" s_is_near
  d_corrected : Dfn K mg "corrected" s_corrected
  d_check_label : Dfn K mg "check_label" s_check_label
  d_group_count : Dfn K mg "group_count" s_group_count
  d_symbols_label : Dfn K mg "symbols_label" s_symbols_label
  d_label_of : Dfn K mg "label_of" s_label_of
  d_read_lists : Dfn K mg "read_lists" s_read_lists
  d_read_page : Dfn K mg "read_page" s_read_page
  d_frame_threshold : Dfn K mg "frame_threshold" s_frame_threshold
  d__sums : Dfn K mg "_sums" s__sums
  d_find_page : Dfn K mg "find_page" s_find_page
  d_find_turn : Dfn K mg "find_turn" s_find_turn
  d_upright : Dfn K mg "upright" s_upright
  d_read_scan : Dfn K mg "read_scan" s_read_scan
  d__law_cell : Dfn K mg "_law_cell" s__law_cell
  d__law_mix : Dfn K mg "_law_mix" s__law_mix
  d__law_row : Dfn K mg "_law_row" s__law_row
  d__law_form : Dfn K mg "_law_form" s__law_form
  d__law_words : Dfn K mg "_law_words" s__law_words
  d__law_body_size : Dfn K mg "_law_body_size" s__law_body_size
  d__law_label : Dfn K mg "_law_label" s__law_label
  d__law_label_symbols : Dfn K mg "_law_label_symbols" s__law_label_symbols
  d__law_times : Dfn K mg "_law_times" s__law_times
  d__law_inverse : Dfn K mg "_law_inverse" s__law_inverse
  d__law_at : Dfn K mg "_law_at" s__law_at
  d__law_codeword : Dfn K mg "_law_codeword" s__law_codeword
  d__law_ring : Dfn K mg "_law_ring" s__law_ring
  d__law_mark : Dfn K mg "_law_mark" s__law_mark
  d__law_place : Dfn K mg "_law_place" s__law_place
  d__law_draw : Dfn K mg "_law_draw" s__law_draw
  d__law_page : Dfn K mg "_law_page" s__law_page
  d__law_turned : Dfn K mg "_law_turned" s__law_turned
  d__law_bed : Dfn K mg "_law_bed" s__law_bed
  d__law_tear : Dfn K mg "_law_tear" s__law_tear
  d__law_is_readable : Dfn K mg "_law_is_readable" s__law_is_readable
  d_law : Dfn K mg "law" s_law
  k_Format : ClsF K mg "Format" (He.ga K "Format")
  k_FrameFinder : ClsF K mg "FrameFinder" (He.ga K "FrameFinder")
  m_Format : ∃ f fd, Fun K "__init__" "Format.__init__" s_Format___init__ f fd ∧ Mk K (He.ga K "Format") f
  m_FrameFinder : ∃ f fd, Fun K "__init__" "FrameFinder.__init__" s_FrameFinder___init__ f fd ∧ Mk K (He.ga K "FrameFinder") f
  m_black_cells : ∃ f fd, Fun K "black_cells" "FrameFinder.black_cells" s_FrameFinder_black_cells f fd ∧ Meth K (He.ga K "FrameFinder") "black_cells" f
  p_data_symbols : ∃ p g fd, Fun K "data_symbols" "Format.data_symbols" s_Format_data_symbols g fd ∧ PropOf K (He.ga K "Format") "data_symbols" p g
  p_codewords : ∃ p g fd, Fun K "codewords" "Format.codewords" s_Format_codewords g fd ∧ PropOf K (He.ga K "Format") "codewords" p g
  p_body_size : ∃ p g fd, Fun K "body_size" "Format.body_size" s_Format_body_size g fd ∧ PropOf K (He.ga K "Format") "body_size" p g
  p_capacity : ∃ p g fd, Fun K "capacity" "Format.capacity" s_Format_capacity g fd ∧ PropOf K (He.ga K "Format") "capacity" p g
  n_side : NoAttr K (He.ga K "Format") "side"
  n_checks : NoAttr K (He.ga K "Format") "checks"
  n_rows : NoAttr K (He.ga K "FrameFinder") "_rows"
  n_columns : NoAttr K (He.ga K "FrameFinder") "_columns"
theorem Tx.of {K : PySem.W.Frag} {h : Heap} {mg : Str → Option Value} (X : K.In h) (G : h.Ns mainGlobals mg) (c : obsM K = valM) : Tx K mg := by
  have c1 := congrArg (fun z : AlM => z.1) c
  obtain ⟨c2, c3⟩ := Bool.and_eq_true_iff.mp (show ((fa.all fun f => f.ok K) && ((dn.all fun d => d.fine K) && exB K)) = true from c1)
  obtain ⟨c4, c5⟩ := Bool.and_eq_true_iff.mp c3
  have c6 : dn.map (fun d => seenFn K (d.pl K)) = dn.map Dn.told := congrArg (fun z : AlM => z.2) c
  have F : ∀ (i : Nat) (f : He.Fa), fa[i]? = some f → f.ok K = true := fun i f e => List.all_eq_true.mp c2 f (List.mem_of_getElem? e)
  have D : ∀ (i : Nat) (d : Dn), dn[i]? = some d → ∃ fd, Fun K d.nm d.qn d.st (d.pl K) fd := fun i d e => by
    have e2 : (dn.map fun d => seenFn K (d.pl K))[i]? = (dn.map Dn.told)[i]? := by rw [c6]
    rw [List.getElem?_map, List.getElem?_map, e] at e2
    exact Dn.fun_ (Option.some.inj e2) (List.all_eq_true.mp c4 d (List.mem_of_getElem? e))
  obtain ⟨x1, x2⟩ := Bool.and_eq_true_iff.mp (show (tabsOk K && _) = true from c5)
  obtain ⟨t1, t2⟩ := Bool.and_eq_true_iff.mp (show (_ && _) = true from x1)
  obtain ⟨t2, t3⟩ := Bool.and_eq_true_iff.mp t2
  obtain ⟨t3, t4⟩ := Bool.and_eq_true_iff.mp t3
  simp only [Bool.and_eq_true] at x2
  exact {
    b_len := He.free_ok X G (F 0 _ rfl)
    b_range := He.free_ok X G (F 1 _ rfl)
    b_list := He.free_ok X G (F 2 _ rfl)
    b_zip := He.free_ok X G (F 3 _ rfl)
    b_enumerate := He.free_ok X G (F 4 _ rfl)
    b_int := He.free_ok X G (F 5 _ rfl)
    b_abs := He.free_ok X G (F 6 _ rfl)
    b_max := He.free_ok X G (F 7 _ rfl)
    b_all := He.free_ok X G (F 8 _ rfl)
    b_any := He.free_ok X G (F 9 _ rfl)
    b_isinstance := He.free_ok X G (F 10 _ rfl)
    b_tuple := He.free_ok X G (F 11 _ rfl)
    c_LEAST_SIDE := He.int_ok X G (F 12 _ rfl)
    c_GREATEST_SIDE := He.int_ok X G (F 13 _ rfl)
    c_CODEWORD := He.int_ok X G (F 14 _ rfl)
    c_CELLS_OF_SYMBOL := He.int_ok X G (F 15 _ rfl)
    c_HEAD := He.int_ok X G (F 16 _ rfl)
    c_BORDER := He.int_ok X G (F 17 _ rfl)
    c_WHITE := He.int_ok X G (F 18 _ rfl)
    c_BLACK := He.int_ok X G (F 19 _ rfl)
    c_UNREADABLE := He.int_ok X G (F 20 _ rfl)
    c_TURNS := He.int_ok X G (F 21 _ rfl)
    c_QUARTERS := He.int_ok X G (F 22 _ rfl)
    c_GREATEST_SIZE := He.int_ok X G (F 23 _ rfl)
    c_SYMBOLS := He.int_ok X G (F 24 _ rfl)
    c_SIZE := He.int_ok X G (F 25 _ rfl)
    c_GREATEST_ARCHIVE := He.int_ok X G (F 26 _ rfl)
    c_MOST_PAGES := He.int_ok X G (F 27 _ rfl)
    c_GREATEST_GROUP := He.int_ok X G (F 28 _ rfl)
    c_MOST_MEMBERS := He.int_ok X G (F 29 _ rfl)
    t_checks := ⟨_, He.glo_ok X G (F 30 _ rfl), tupIs_ok t1⟩
    t_inv := ⟨_, He.glo_ok X G (F 31 _ rfl), tupIs_ok t2⟩
    t_prod := ⟨_, prodRow K, He.glo_ok X G (F 32 _ rfl), tupIs_ok t3, fun i hi => tupIs_ok (List.all_eq_true.mp t4 i (List.mem_range.mpr hi))⟩
    d_mark_colour := by obtain ⟨fd, z⟩ := D 0 _ rfl; exact ⟨_, fd, z, He.glo_ok X G (F 44 _ rfl)⟩
    d_ring_cells := by obtain ⟨fd, z⟩ := D 1 _ rfl; exact ⟨_, fd, z, He.glo_ok X G (F 45 _ rfl)⟩
    d_check_square := by obtain ⟨fd, z⟩ := D 2 _ rfl; exact ⟨_, fd, z, He.glo_ok X G (F 46 _ rfl)⟩
    d__symbol := by obtain ⟨fd, z⟩ := D 3 _ rfl; exact ⟨_, fd, z, He.glo_ok X G (F 47 _ rfl)⟩
    d_taken := by obtain ⟨fd, z⟩ := D 4 _ rfl; exact ⟨_, fd, z, He.glo_ok X G (F 48 _ rfl)⟩
    d__check_turn := by obtain ⟨fd, z⟩ := D 5 _ rfl; exact ⟨_, fd, z, He.glo_ok X G (F 49 _ rfl)⟩
    d_turned := by obtain ⟨fd, z⟩ := D 6 _ rfl; exact ⟨_, fd, z, He.glo_ok X G (F 50 _ rfl)⟩
    d_opposite := by obtain ⟨fd, z⟩ := D 7 _ rfl; exact ⟨_, fd, z, He.glo_ok X G (F 51 _ rfl)⟩
    d_turned_marks := by obtain ⟨fd, z⟩ := D 8 _ rfl; exact ⟨_, fd, z, He.glo_ok X G (F 52 _ rfl)⟩
    d_check_bed := by obtain ⟨fd, z⟩ := D 9 _ rfl; exact ⟨_, fd, z, He.glo_ok X G (F 53 _ rfl)⟩
    d_check_symbols := by obtain ⟨fd, z⟩ := D 10 _ rfl; exact ⟨_, fd, z, He.glo_ok X G (F 54 _ rfl)⟩
    d__differences := by obtain ⟨fd, z⟩ := D 11 _ rfl; exact ⟨_, fd, z, He.glo_ok X G (F 55 _ rfl)⟩
    d__continued := by obtain ⟨fd, z⟩ := D 12 _ rfl; exact ⟨_, fd, z, He.glo_ok X G (F 56 _ rfl)⟩
    d__known := by obtain ⟨fd, z⟩ := D 13 _ rfl; exact ⟨_, fd, z, He.glo_ok X G (F 57 _ rfl)⟩
    d_is_near := by obtain ⟨fd, z⟩ := D 14 _ rfl; exact ⟨_, fd, z, He.glo_ok X G (F 58 _ rfl)⟩
    d_corrected := by obtain ⟨fd, z⟩ := D 15 _ rfl; exact ⟨_, fd, z, He.glo_ok X G (F 59 _ rfl)⟩
    d_check_label := by obtain ⟨fd, z⟩ := D 16 _ rfl; exact ⟨_, fd, z, He.glo_ok X G (F 60 _ rfl)⟩
    d_group_count := by obtain ⟨fd, z⟩ := D 17 _ rfl; exact ⟨_, fd, z, He.glo_ok X G (F 61 _ rfl)⟩
    d_symbols_label := by obtain ⟨fd, z⟩ := D 18 _ rfl; exact ⟨_, fd, z, He.glo_ok X G (F 62 _ rfl)⟩
    d_label_of := by obtain ⟨fd, z⟩ := D 19 _ rfl; exact ⟨_, fd, z, He.glo_ok X G (F 63 _ rfl)⟩
    d_read_lists := by obtain ⟨fd, z⟩ := D 20 _ rfl; exact ⟨_, fd, z, He.glo_ok X G (F 64 _ rfl)⟩
    d_read_page := by obtain ⟨fd, z⟩ := D 21 _ rfl; exact ⟨_, fd, z, He.glo_ok X G (F 65 _ rfl)⟩
    d_frame_threshold := by obtain ⟨fd, z⟩ := D 22 _ rfl; exact ⟨_, fd, z, He.glo_ok X G (F 66 _ rfl)⟩
    d__sums := by obtain ⟨fd, z⟩ := D 23 _ rfl; exact ⟨_, fd, z, He.glo_ok X G (F 67 _ rfl)⟩
    d_find_page := by obtain ⟨fd, z⟩ := D 24 _ rfl; exact ⟨_, fd, z, He.glo_ok X G (F 68 _ rfl)⟩
    d_find_turn := by obtain ⟨fd, z⟩ := D 25 _ rfl; exact ⟨_, fd, z, He.glo_ok X G (F 69 _ rfl)⟩
    d_upright := by obtain ⟨fd, z⟩ := D 26 _ rfl; exact ⟨_, fd, z, He.glo_ok X G (F 70 _ rfl)⟩
    d_read_scan := by obtain ⟨fd, z⟩ := D 27 _ rfl; exact ⟨_, fd, z, He.glo_ok X G (F 71 _ rfl)⟩
    d__law_cell := by obtain ⟨fd, z⟩ := D 28 _ rfl; exact ⟨_, fd, z, He.glo_ok X G (F 72 _ rfl)⟩
    d__law_mix := by obtain ⟨fd, z⟩ := D 29 _ rfl; exact ⟨_, fd, z, He.glo_ok X G (F 73 _ rfl)⟩
    d__law_row := by obtain ⟨fd, z⟩ := D 30 _ rfl; exact ⟨_, fd, z, He.glo_ok X G (F 74 _ rfl)⟩
    d__law_form := by obtain ⟨fd, z⟩ := D 31 _ rfl; exact ⟨_, fd, z, He.glo_ok X G (F 75 _ rfl)⟩
    d__law_words := by obtain ⟨fd, z⟩ := D 32 _ rfl; exact ⟨_, fd, z, He.glo_ok X G (F 76 _ rfl)⟩
    d__law_body_size := by obtain ⟨fd, z⟩ := D 33 _ rfl; exact ⟨_, fd, z, He.glo_ok X G (F 77 _ rfl)⟩
    d__law_label := by obtain ⟨fd, z⟩ := D 34 _ rfl; exact ⟨_, fd, z, He.glo_ok X G (F 78 _ rfl)⟩
    d__law_label_symbols := by obtain ⟨fd, z⟩ := D 35 _ rfl; exact ⟨_, fd, z, He.glo_ok X G (F 79 _ rfl)⟩
    d__law_times := by obtain ⟨fd, z⟩ := D 36 _ rfl; exact ⟨_, fd, z, He.glo_ok X G (F 80 _ rfl)⟩
    d__law_inverse := by obtain ⟨fd, z⟩ := D 37 _ rfl; exact ⟨_, fd, z, He.glo_ok X G (F 81 _ rfl)⟩
    d__law_at := by obtain ⟨fd, z⟩ := D 38 _ rfl; exact ⟨_, fd, z, He.glo_ok X G (F 82 _ rfl)⟩
    d__law_codeword := by obtain ⟨fd, z⟩ := D 39 _ rfl; exact ⟨_, fd, z, He.glo_ok X G (F 83 _ rfl)⟩
    d__law_ring := by obtain ⟨fd, z⟩ := D 40 _ rfl; exact ⟨_, fd, z, He.glo_ok X G (F 84 _ rfl)⟩
    d__law_mark := by obtain ⟨fd, z⟩ := D 41 _ rfl; exact ⟨_, fd, z, He.glo_ok X G (F 85 _ rfl)⟩
    d__law_place := by obtain ⟨fd, z⟩ := D 42 _ rfl; exact ⟨_, fd, z, He.glo_ok X G (F 86 _ rfl)⟩
    d__law_draw := by obtain ⟨fd, z⟩ := D 43 _ rfl; exact ⟨_, fd, z, He.glo_ok X G (F 87 _ rfl)⟩
    d__law_page := by obtain ⟨fd, z⟩ := D 44 _ rfl; exact ⟨_, fd, z, He.glo_ok X G (F 88 _ rfl)⟩
    d__law_turned := by obtain ⟨fd, z⟩ := D 45 _ rfl; exact ⟨_, fd, z, He.glo_ok X G (F 89 _ rfl)⟩
    d__law_bed := by obtain ⟨fd, z⟩ := D 46 _ rfl; exact ⟨_, fd, z, He.glo_ok X G (F 90 _ rfl)⟩
    d__law_tear := by obtain ⟨fd, z⟩ := D 47 _ rfl; exact ⟨_, fd, z, He.glo_ok X G (F 91 _ rfl)⟩
    d__law_is_readable := by obtain ⟨fd, z⟩ := D 48 _ rfl; exact ⟨_, fd, z, He.glo_ok X G (F 92 _ rfl)⟩
    d_law := by obtain ⟨fd, z⟩ := D 49 _ rfl; exact ⟨_, fd, z, He.glo_ok X G (F 93 _ rfl)⟩
    k_Format := ⟨He.glo_ok X G (F 33 _ rfl), He.cls_ok (F 35 _ rfl)⟩
    k_FrameFinder := ⟨He.glo_ok X G (F 34 _ rfl), He.cls_ok (F 37 _ rfl)⟩
    m_Format := by obtain ⟨fd, z⟩ := D 50 _ rfl; exact ⟨_, fd, z, He.mkr_ok (F 36 _ rfl)⟩
    m_FrameFinder := by obtain ⟨fd, z⟩ := D 55 _ rfl; exact ⟨_, fd, z, He.mkr_ok (F 38 _ rfl)⟩
    m_black_cells := by obtain ⟨fd, z⟩ := D 56 _ rfl; exact ⟨_, fd, z, He.meth_ok (F 43 _ rfl)⟩
    p_data_symbols := by obtain ⟨fd, z⟩ := D 51 _ rfl; exact ⟨_, _, fd, z, isProp_ok x2.1.1.1⟩
    p_codewords := by obtain ⟨fd, z⟩ := D 52 _ rfl; exact ⟨_, _, fd, z, isProp_ok x2.1.1.2⟩
    p_body_size := by obtain ⟨fd, z⟩ := D 53 _ rfl; exact ⟨_, _, fd, z, isProp_ok x2.1.2⟩
    p_capacity := by obtain ⟨fd, z⟩ := D 54 _ rfl; exact ⟨_, _, fd, z, isProp_ok x2.2⟩
    n_side := He.noat_ok (F 39 _ rfl)
    n_checks := He.noat_ok (F 40 _ rfl)
    n_rows := He.noat_ok (F 41 _ rfl)
    n_columns := He.noat_ok (F 42 _ rfl)
  }
/-- the names that the view does not hold -/
def loose : List Str := (["ArchiveError", "InvalidSymbol", "InvalidFormat", "InvalidLabel", "InvalidPage", "InvalidBed", "LEAST_SIDE", "GREATEST_SIDE", "NUMBERS_OF_CHECKS", "CODEWORD", "CELLS_OF_SYMBOL", "HEAD", "BORDER", "Format", "WHITE", "BLACK"] : List Str) ++ (["UNREADABLE", "mark_colour", "ring_cells", "check_square", "_symbol", "taken", "TURNS", "QUARTERS", "_check_turn", "turned", "opposite", "turned_marks", "GREATEST_SIZE", "check_bed", "SYMBOLS", "PRODUCTS"] : List Str) ++ (["INVERSES", "check_symbols", "_subtract", "_eliminated", "solve_system", "reduced", "evaluate", "divide", "_differences", "_continued", "_known", "_values", "is_near", "_equation", "_solved", "corrected"] : List Str) ++ (["SIZE", "GREATEST_ARCHIVE", "MOST_PAGES", "GREATEST_GROUP", "MOST_MEMBERS", "check_label", "group_count", "symbols_label", "label_of", "read_lists", "read_page", "frame_threshold", "_sums", "FrameFinder", "find_page", "find_turn"] : List Str) ++ (["upright", "read_scan", "_law_cell", "_law_mix", "_law_row", "_law_is_int", "_law_form", "_law_words", "_law_body_size", "_law_capacity", "_law_label", "_law_label_symbols", "_law_times", "_law_value_at", "_law_reduced", "_law_inverse"] : List Str) ++ (["_law_at", "_law_codeword", "_law_picks", "_law_ring", "_law_mark", "_law_place", "_law_draw", "_law_page", "_law_turned", "_law_bed", "_law_tear", "_law_is_readable"] : List Str)
end K44
set_option maxHeartbeats 0
namespace K44
open PySem PySem.Spec PyProof.Rows L2
abbrev R : PySem.W.OpenRow := PySem.W.OpenLaw.row PySem.Challenge.rw_scanpages_k44_whole_torn_scans
def obT (s : PySem.W.SharedT) : AlM := obsH (HandSHeadRun.getT s)
theorem obT_eq (s : PySem.W.SharedT) : obT s = hookM.obs s.abs := by
  have e : HandSHeadRun.getT s = s.abs.heap.get? := funext (HandSHeadRun.getT_eq s)
  show obsH _ = obsH _
  rw [e]
theorem run (w : World) : HandSHeadRun.RunEq R (PySem.W.view R.prog [105]) hookM obT 6000 loose w := by
  intro os
  kernel_rfl
end K44
namespace K44
/-! ### the field of the 16 symbols -/
/-- a symbol -/
structure G where
  v : Fin 16
  deriving DecidableEq
def d2 (a : Nat) : Nat := if 2 * a < 16 then 2 * a else (2 * a) ^^^ 19
def mulN (a b : Nat) : Nat := (if b % 2 = 1 then a else 0) ^^^ (if b / 2 % 2 = 1 then d2 a else 0) ^^^ (if b / 4 % 2 = 1 then d2 (d2 a) else 0) ^^^ (if b / 8 % 2 = 1 then d2 (d2 (d2 a)) else 0)
theorem mulN_lt : ∀ a b : Fin 16, mulN a.val b.val < 16 := by decide +kernel
def invL : List Nat := [0, 1, 9, 14, 13, 11, 7, 6, 15, 2, 12, 5, 10, 4, 3, 8]
theorem invL_lt : ∀ a : Fin 16, invL.getD a.val 0 < 16 := by decide +kernel
def fx (a b : Fin 16) : Fin 16 := ⟨a.val ^^^ b.val, Nat.xor_lt_two_pow (n := 4) a.isLt b.isLt⟩
def fm (a b : Fin 16) : Fin 16 := ⟨mulN a.val b.val, mulN_lt a b⟩
def fi (a : Fin 16) : Fin 16 := ⟨invL.getD a.val 0, invL_lt a⟩
instance : Add G := ⟨fun a b => ⟨fx a.v b.v⟩⟩
instance : Mul G := ⟨fun a b => ⟨fm a.v b.v⟩⟩
instance : Neg G := ⟨fun a => a⟩
instance : Sub G := ⟨fun a b => a + b⟩
def gi (a : G) : G := ⟨fi a.v⟩
def natG (n : Nat) : G := if n % 2 = 1 then ⟨1⟩ else ⟨0⟩
instance (n : Nat) : OfNat G n := ⟨natG n⟩
instance : NatCast G := ⟨natG⟩
instance : IntCast G := ⟨fun i => natG i.natAbs⟩
instance : SMul Nat G := ⟨fun n a => natG n * a⟩
instance : SMul Int G := ⟨fun n a => natG n.natAbs * a⟩
def powG (a : G) : Nat → G
  | 0 => ⟨1⟩
  | n + 1 => powG a n * a
instance : HPow G Nat G := ⟨powG⟩
theorem allG {p : G → Prop} (h : ∀ a : Fin 16, p ⟨a⟩) : ∀ a : G, p a := fun ⟨a⟩ => h a
theorem fx_comm : ∀ a b : Fin 16, fx a b = fx b a := by decide +kernel
theorem fx_assoc : ∀ a b c : Fin 16, fx (fx a b) c = fx a (fx b c) := by decide +kernel
theorem fx_self : ∀ a : Fin 16, fx a a = 0 := by decide +kernel
theorem fx_zero : ∀ a : Fin 16, fx a 0 = a := by decide +kernel
theorem fm_comm : ∀ a b : Fin 16, fm a b = fm b a := by decide +kernel
theorem fm_assoc : ∀ a b c : Fin 16, fm (fm a b) c = fm a (fm b c) := by decide +kernel
theorem fm_fx : ∀ a b c : Fin 16, fm a (fx b c) = fx (fm a b) (fm a c) := by decide +kernel
theorem fm_zero : ∀ a : Fin 16, fm a 0 = 0 := by decide +kernel
theorem fm_one : ∀ a : Fin 16, fm a 1 = a := by decide +kernel
theorem fm_fi : ∀ a : Fin 16, a ≠ 0 → fm a (fi a) = 1 := by decide +kernel
theorem g_add_comm (a b : G) : a + b = b + a := congrArg G.mk (fx_comm a.v b.v)
theorem g_add_assoc (a b c : G) : a + b + c = a + (b + c) := congrArg G.mk (fx_assoc a.v b.v c.v)
theorem g_self (a : G) : a + a = 0 := congrArg G.mk (fx_self a.v)
theorem g_add_zero (a : G) : a + 0 = a := congrArg G.mk (fx_zero a.v)
theorem g_zero_add (a : G) : 0 + a = a := by rw [g_add_comm, g_add_zero]
theorem g_mul_comm (a b : G) : a * b = b * a := congrArg G.mk (fm_comm a.v b.v)
theorem g_mul_assoc (a b c : G) : a * b * c = a * (b * c) := congrArg G.mk (fm_assoc a.v b.v c.v)
theorem g_mul_add (a b c : G) : a * (b + c) = a * b + a * c := congrArg G.mk (fm_fx a.v b.v c.v)
theorem g_add_mul (a b c : G) : (a + b) * c = a * c + b * c := by rw [g_mul_comm, g_mul_add, g_mul_comm c a, g_mul_comm c b]
theorem g_mul_zero (a : G) : a * 0 = 0 := congrArg G.mk (fm_zero a.v)
theorem g_zero_mul (a : G) : 0 * a = 0 := by rw [g_mul_comm, g_mul_zero]
theorem g_mul_one (a : G) : a * 1 = a := congrArg G.mk (fm_one a.v)
theorem g_one_mul (a : G) : 1 * a = a := by rw [g_mul_comm, g_mul_one]
theorem g_inv (a : G) (h : a ≠ 0) : a * gi a = 1 := congrArg G.mk (fm_fi a.v fun e => h (congrArg G.mk e))
theorem natG_succ (n : Nat) : natG (n + 1) = natG n + natG 1 := by
  unfold natG
  by_cases h : n % 2 = 1
  · have h2 : (n + 1) % 2 ≠ 1 := by omega
    rw [if_neg h2, if_pos h]; decide +kernel
  · have h2 : (n + 1) % 2 = 1 := by omega
    rw [if_pos h2, if_neg h]; decide +kernel
instance : Lean.Grind.CommRing G where
  add_zero := g_add_zero
  add_comm := g_add_comm
  add_assoc := g_add_assoc
  mul_assoc := g_mul_assoc
  mul_one := g_mul_one
  one_mul := g_one_mul
  left_distrib := g_mul_add
  right_distrib := g_add_mul
  zero_mul := g_zero_mul
  mul_zero := g_mul_zero
  pow_zero _ := rfl
  pow_succ _ _ := rfl
  ofNat_succ := natG_succ
  mul_comm := g_mul_comm
  neg_add_cancel := g_self
  sub_eq_add_neg _ _ := rfl
  neg_zsmul i a := by
    show natG (-i).natAbs * a = natG i.natAbs * a
    rw [Int.natAbs_neg]
  intCast_neg i := by
    show natG (-i).natAbs = natG i.natAbs
    rw [Int.natAbs_neg]
instance : Lean.Grind.IsCharP G 2 where
  ofNat_ext_iff := by
    intro x y
    show natG x = natG y ↔ _
    unfold natG
    rcases Nat.mod_two_eq_zero_or_one x with h | h <;> rcases Nat.mod_two_eq_zero_or_one y with h2 | h2 <;> simp [h, h2] <;> decide +kernel
theorem g_cancel (a b : G) (h : a + b = 0) : a = b := by
  have e : a + b + b = 0 + b := by rw [h]
  rw [g_add_assoc, g_self, g_add_zero, g_zero_add] at e
  exact e
theorem g_mul_eq_zero (a b : G) (h : a * b = 0) : a = 0 ∨ b = 0 := by
  by_cases ha : a = 0
  · exact .inl ha
  · right
    have e : gi a * (a * b) = gi a * 0 := by rw [h]
    rw [← g_mul_assoc, g_mul_comm (gi a) a, g_inv a ha, g_one_mul, g_mul_zero] at e
    exact e
theorem g_mul_cancel (a b c : G) (ha : a ≠ 0) (h : a * b = a * c) : b = c := by
  have e : gi a * (a * b) = gi a * (a * c) := by rw [h]
  rw [← g_mul_assoc, ← g_mul_assoc, g_mul_comm (gi a) a, g_inv a ha, g_one_mul, g_one_mul] at e
  exact e
theorem g_ne (a b : G) (h : a ≠ b) : a + b ≠ 0 := fun e => h (g_cancel a b e)
example (a b c : G) : (a + b) * (a + c) = a * a + a * c + b * a + b * c := by grind
example (a b : G) : (a + b) * (a + b) = a * a + b * b := by grind
end K44
namespace K44
/-! ### polynomials as functions -/
def Pl : Nat → (G → G) → Prop
  | 0, f => ∀ x, f x = 0
  | n + 1, f => ∃ (a : G) (g : G → G), Pl n g ∧ ∀ x, f x = a + x * g x
theorem Pl.ext {f g : G → G} : ∀ {n : Nat}, Pl n f → (∀ x, g x = f x) → Pl n g
  | 0, h, e => fun x => (e x).trans (h x)
  | _ + 1, ⟨a, k, hk, h⟩, e => ⟨a, k, hk, fun x => (e x).trans (h x)⟩
theorem Pl.zero : ∀ {n : Nat} {f : G → G}, (∀ x, f x = 0) → Pl n f
  | 0, _, h => h
  | n + 1, f, h => ⟨0, fun _ => 0, Pl.zero fun _ => rfl, fun x => by rw [h x]; grind⟩
theorem Pl.succ : ∀ {n : Nat} {f : G → G}, Pl n f → Pl (n + 1) f
  | 0, _, h => Pl.zero h
  | _ + 1, _, ⟨a, k, hk, h⟩ => ⟨a, k, hk.succ, h⟩
theorem Pl.mono {n m : Nat} {f : G → G} (h : Pl n f) (l : n ≤ m) : Pl m f := by
  induction l with
  | refl => exact h
  | step _ ih => exact ih.succ
theorem Pl.add : ∀ {n : Nat} {f g : G → G}, Pl n f → Pl n g → Pl n fun x => f x + g x
  | 0, _, _, h, h2 => fun x => by show _ + _ = _; rw [h x, h2 x]; rfl
  | _ + 1, _, _, ⟨a, k, hk, h⟩, ⟨b, l, hl, h2⟩ => ⟨a + b, fun x => k x + l x, hk.add hl, fun x => by show _ + _ = _; rw [h x, h2 x]; grind⟩
theorem Pl.smul (c : G) : ∀ {n : Nat} {f : G → G}, Pl n f → Pl n fun x => c * f x
  | 0, _, h => fun x => by show _ * _ = _; rw [h x, g_mul_zero]
  | _ + 1, _, ⟨a, k, hk, h⟩ => ⟨c * a, fun x => c * k x, hk.smul c, fun x => by show _ * _ = _; rw [h x]; grind⟩
theorem Pl.lin (p : G) {n : Nat} {f : G → G} (h : Pl n f) : Pl (n + 1) fun x => (x + p) * f x := by
  have h1 : Pl (n + 1) fun x => x * f x := ⟨0, f, h, fun x => by grind⟩
  exact (h1.add (h.smul p).succ).ext fun x => by grind
theorem Pl.const (c : G) : Pl 1 fun _ => c := ⟨c, fun _ => 0, fun _ => rfl, fun x => by grind⟩
/-- a zero is split off -/
theorem Pl.factor : ∀ {n : Nat} {f : G → G} {p : G}, Pl (n + 1) f → f p = 0 → ∃ g, Pl n g ∧ ∀ x, f x = (x + p) * g x
  | 0, f, p, ⟨a, k, hk, h⟩, z => by
    have hk : ∀ x, k x = 0 := hk
    refine ⟨fun _ => 0, fun _ => rfl, fun x => ?_⟩
    have e := h p
    rw [z, hk p] at e
    rw [h x, hk x]
    grind
  | n + 1, f, p, ⟨a, k, hk, h⟩, z => by
    have hk1 : Pl (n + 1) fun x => k x + k p := hk.add ((Pl.const (k p)).mono (by omega))
    obtain ⟨l, hl, e⟩ := Pl.factor (p := p) hk1 (g_self _)
    refine ⟨fun x => (x + 0) * l x + k p, (hl.lin 0).add ((Pl.const (k p)).mono (by omega)), fun x => ?_⟩
    have e1 := h p
    rw [z] at e1
    have e2 := e x
    have e3 := h x
    rw [e3]
    show _ = (x + p) * ((x + 0) * l x + k p)
    have e4 : k x = (x + p) * l x + k p := by grind
    rw [e4]
    grind
/-- as many zeros as it may have: it is zero -/
theorem Pl.all_zero : ∀ {ps : List G} {n : Nat} {f : G → G}, Pl n f → n ≤ ps.length → ps.Nodup → (∀ p ∈ ps, f p = 0) → ∀ x, f x = 0
  | [], n, f, h, l, _, _ => by
    have : n = 0 := by simpa using l
    subst this
    exact h
  | p :: ps, 0, f, h, _, _, _ => h
  | p :: ps, n + 1, f, h, l, nd, z => by
    obtain ⟨g, hg, e⟩ := h.factor (z p List.mem_cons_self)
    have nd2 := List.nodup_cons.mp nd
    have gz : ∀ x, g x = 0 := hg.all_zero (ps := ps) (by simpa using l) nd2.2 fun q hq => by
      have e1 := z q (List.mem_cons_of_mem _ hq)
      rw [e q] at e1
      rcases g_mul_eq_zero _ _ e1 with e2 | e2
      · exact absurd (g_cancel _ _ e2) fun e3 => nd2.1 (e3 ▸ hq)
      · exact e2
    intro x
    rw [e x, gz x, g_mul_zero]
theorem Pl.unique {ps : List G} {n : Nat} {f g : G → G} (hf : Pl n f) (hg : Pl n g) (l : n ≤ ps.length) (nd : ps.Nodup) (e : ∀ p ∈ ps, f p = g p) : ∀ x, f x = g x := fun x =>
  g_cancel _ _ ((hf.add hg).all_zero l nd (fun p hp => by show _ + _ = _; rw [e p hp, g_self]) x)

/-! ### Newton's form. p: the points, y: the values -/
/-- the divided difference over the points i .. i + k -/
def dd (p y : Nat → G) : Nat → Nat → G
  | i, 0 => y i
  | i, k + 1 => (dd p y (i + 1) k + dd p y i k) * gi (p (i + k + 1) + p i)
def wf (p : Nat → G) (i : Nat) : Nat → G → G
  | 0, _ => 1
  | m + 1, x => wf p i m x * (x + p (i + m))
/-- k terms -/
def nw (p y : Nat → G) (i : Nat) : Nat → G → G
  | 0, _ => 0
  | k + 1, x => nw p y i k x + dd p y i k * wf p i k x
theorem wf_front (p : Nat → G) (i : Nat) (x : G) : ∀ m, wf p i (m + 1) x = (x + p i) * wf p (i + 1) m x
  | 0 => by show 1 * (x + p (i + 0)) = (x + p i) * 1; grind
  | m + 1 => by
    show wf p i (m + 1) x * (x + p (i + (m + 1))) = (x + p i) * (wf p (i + 1) m x * (x + p (i + 1 + m)))
    rw [wf_front p i x m, show i + 1 + m = i + (m + 1) by omega]
    grind
theorem dd_mul {p : Nat → G} (y : Nat → G) {n : Nat} (hp : ∀ i j, i < n → j < n → p i = p j → i = j) (i k : Nat) (h : i + k + 1 < n) : (p (i + k + 1) + p i) * dd p y i (k + 1) = dd p y (i + 1) k + dd p y i k := by
  have ne : p (i + k + 1) + p i ≠ 0 := g_ne _ _ fun e => by have := hp _ _ h (by omega) e; omega
  have e := g_inv _ ne
  show _ * ((dd p y (i + 1) k + dd p y i k) * gi (p (i + k + 1) + p i)) = _
  generalize gi (p (i + k + 1) + p i) = z at *
  generalize dd p y (i + 1) k + dd p y i k = u
  calc (p (i + k + 1) + p i) * (u * z) = u * ((p (i + k + 1) + p i) * z) := by grind
    _ = u := by rw [e, g_mul_one]
theorem nw_star {p : Nat → G} (y : Nat → G) {n : Nat} (hp : ∀ i j, i < n → j < n → p i = p j → i = j) (x : G) (i : Nat) : ∀ k, i + k + 1 < n → (x + p i) * (nw p y (i + 1) (k + 1) x + nw p y i (k + 1) x) = (dd p y (i + 1) k + dd p y i k) * wf p i (k + 1) x
  | 0, _ => by
    show (x + p i) * ((0 + y (i + 1) * 1) + (0 + y i * 1)) = (y (i + 1) + y i) * (1 * (x + p (i + 0)))
    rw [Nat.add_zero]
    grind
  | k + 1, h => by
    have ih := nw_star y hp x i k (by omega)
    have e1 := dd_mul y hp i k (by omega)
    have e2 := wf_front p i x (k + 1)
    have e3 : wf p i (k + 1 + 1) x = wf p i (k + 1) x * (x + p (i + (k + 1))) := rfl
    show (x + p i) * ((nw p y (i + 1) (k + 1) x + dd p y (i + 1) (k + 1) * wf p (i + 1) (k + 1) x) + (nw p y i (k + 1) x + dd p y i (k + 1) * wf p i (k + 1) x)) = (dd p y (i + 1) (k + 1) + dd p y i (k + 1)) * wf p i (k + 1 + 1) x
    rw [← e1] at ih
    rw [show i + k + 1 = i + (k + 1) by omega] at ih
    generalize nw p y (i + 1) (k + 1) x = a at *
    generalize nw p y i (k + 1) x = b at *
    generalize dd p y (i + 1) (k + 1) = c at *
    generalize dd p y i (k + 1) = d at *
    generalize wf p (i + 1) (k + 1) x = w1 at *
    generalize wf p i (k + 1) x = w at *
    generalize wf p i (k + 1 + 1) x = w2 at *
    generalize p (i + (k + 1)) = q at *
    generalize p i = r at *
    grind
/-- Neville's rule -/
theorem nw_nev {p : Nat → G} (y : Nat → G) {n : Nat} (hp : ∀ i j, i < n → j < n → p i = p j → i = j) (x : G) (i k : Nat) (h : i + k + 1 < n) :
    (p (i + k + 1) + p i) * nw p y i (k + 2) x = (x + p i) * nw p y (i + 1) (k + 1) x + (x + p (i + k + 1)) * nw p y i (k + 1) x := by
  have e1 := nw_star y hp x i k h
  have e2 := dd_mul y hp i k h
  show _ * (nw p y i (k + 1) x + dd p y i (k + 1) * wf p i (k + 1) x) = _
  rw [← e2] at e1
  generalize nw p y (i + 1) (k + 1) x = a at *
  generalize nw p y i (k + 1) x = b at *
  generalize dd p y i (k + 1) = d at *
  generalize wf p i (k + 1) x = w at *
  generalize p (i + k + 1) = q at *
  generalize p i = r at *
  grind
/-- it takes the values -/
theorem nw_at {p : Nat → G} (y : Nat → G) {n : Nat} (hp : ∀ i j, i < n → j < n → p i = p j → i = j) : ∀ (k i m : Nat), i + k < n → m ≤ k → nw p y i (k + 1) (p (i + m)) = y (i + m)
  | 0, i, m, _, hm => by
    have : m = 0 := by omega
    subst this
    show 0 + y i * 1 = y (i + 0)
    rw [Nat.add_zero]
    grind
  | k + 1, i, m, h, hm => by
    have ne : p (i + k + 1) + p i ≠ 0 := g_ne _ _ fun e => by have := hp _ _ (by omega) (by omega) e; omega
    refine g_mul_cancel _ _ _ ne ?_
    rw [nw_nev y hp (p (i + m)) i k (by omega)]
    by_cases h0 : m = 0
    · subst h0
      rw [nw_at y hp k i 0 (by omega) (by omega), Nat.add_zero]
      grind
    · by_cases h1 : m = k + 1
      · subst h1
        have e := nw_at y hp k (i + 1) k (by omega) (Nat.le_refl _)
        rw [show i + 1 + k = i + (k + 1) by omega] at e
        rw [e, show i + k + 1 = i + (k + 1) by omega]
        grind
      · have e := nw_at y hp k (i + 1) (m - 1) (by omega) (by omega)
        rw [show i + 1 + (m - 1) = i + m by omega] at e
        rw [e, nw_at y hp k i m (by omega) (by omega)]
        grind
theorem wf_pl (p : Nat → G) (i : Nat) : ∀ m, Pl (m + 1) (wf p i m)
  | 0 => Pl.const 1
  | m + 1 => ((wf_pl p i m).lin (p (i + m))).ext fun x => g_mul_comm _ _
theorem nw_pl (p y : Nat → G) (i : Nat) : ∀ k, Pl k (nw p y i k)
  | 0 => fun _ => rfl
  | k + 1 => (nw_pl p y i k).succ.add ((wf_pl p i k).smul _)
/-! ### Lagrange's form, as the law reckons it. The points are 0, 1, .. -/
def pt (i : Nat) : G := ⟨⟨i % 16, Nat.mod_lt _ (by decide)⟩⟩
theorem pt_inj {i j : Nat} (hi : i < 16) (hj : j < 16) (e : pt i = pt j) : i = j := by
  have e1 : i % 16 = j % 16 := congrArg (fun g : G => g.v.val) e
  omega
/-- one factor, behind the points below j -/
def lgF (y : Nat → G) (x : G) (i : Nat) : Nat → G
  | 0 => y i
  | j + 1 => if j ≠ i then lgF y x i j * (x + pt j) * gi (pt i + pt j) else lgF y x i j
/-- the sum of the first k -/
def lgS (y : Nat → G) (n : Nat) (x : G) : Nat → G
  | 0 => 0
  | k + 1 => lgS y n x k + lgF y x k n
theorem lgF_pl (y : Nat → G) (i : Nat) : ∀ j, Pl ((if i < j then j - 1 else j) + 1) fun x => lgF y x i j
  | 0 => by rw [if_neg (Nat.not_lt_zero _)]; exact Pl.const (y i)
  | j + 1 => by
    have ih := lgF_pl y i j
    by_cases h : j = i
    · subst h
      rw [if_neg (Nat.lt_irrefl _)] at ih
      rw [if_pos (Nat.lt_succ_self _)]
      exact ih.ext fun x => by show (if j ≠ j then _ else _) = _; rw [if_neg (by simp)]
    · have e : (if i < j + 1 then j + 1 - 1 else j + 1) + 1 = (if i < j then j - 1 else j) + 1 + 1 := by
        split <;> split <;> omega
      rw [e]
      exact ((ih.lin (pt j)).smul (gi (pt i + pt j))).ext fun x => by show (if j ≠ i then _ else _) = _; rw [if_pos h]; grind
theorem lgS_pl (y : Nat → G) (n : Nat) : ∀ k, k ≤ n → Pl n fun x => lgS y n x k
  | 0, _ => Pl.zero fun _ => rfl
  | k + 1, h => by
    have h1 := lgF_pl y k n
    rw [if_pos (by omega), show n - 1 + 1 = n by omega] at h1
    exact (lgS_pl y n k (by omega)).add h1
theorem lgF_self (y : Nat → G) {i : Nat} (hi : i < 16) : ∀ j, j ≤ 16 → lgF y (pt i) i j = y i
  | 0, _ => rfl
  | j + 1, h => by
    show (if j ≠ i then _ else _) = _
    rw [lgF_self y hi j (by omega)]
    split
    · rename_i hne
      have ne : pt i + pt j ≠ 0 := g_ne _ _ fun e => hne (pt_inj hi (by omega) e).symm
      rw [g_mul_assoc, g_inv _ ne, g_mul_one]
    · rfl
theorem lgF_other (y : Nat → G) {i m : Nat} (hne : m ≠ i) : ∀ j, m < j → lgF y (pt m) i j = 0
  | 0, h => absurd h (Nat.not_lt_zero _)
  | j + 1, h => by
    show (if j ≠ i then _ else _) = _
    by_cases e : j = m
    · subst e
      rw [if_pos hne, g_self, g_mul_zero, g_zero_mul]
    · rw [lgF_other y hne j (by omega)]
      split
      · rw [g_zero_mul, g_zero_mul]
      · rfl
theorem lgS_at (y : Nat → G) {n m : Nat} (hn : n ≤ 16) (hm : m < n) : ∀ k, k ≤ n → lgS y n (pt m) k = if m < k then y m else 0
  | 0, _ => rfl
  | k + 1, h => by
    show lgS y n (pt m) k + lgF y (pt m) k n = _
    rw [lgS_at y hn hm k (by omega)]
    by_cases e : m = k
    · subst e
      rw [if_neg (Nat.lt_irrefl _), if_pos (Nat.lt_succ_self _), lgF_self y (by omega) n hn]
      grind
    · rw [lgF_other y e n hm, g_add_zero]
      by_cases l : m < k
      · rw [if_pos l, if_pos (by omega)]
      · rw [if_neg l, if_neg (by omega)]
/-- the codeword of n symbols: symbol j -/
def cwf (y : Nat → G) (n : Nat) (j : Nat) : G := if j < n then y j else lgS y n (pt j) n
theorem cwf_eq (y : Nat → G) {n : Nat} (hn : n ≤ 16) (j : Nat) : cwf y n j = lgS y n (pt j) n := by
  unfold cwf
  split
  · rename_i h
    rw [lgS_at y hn h n (Nat.le_refl _), if_pos h]
  · rfl
/-- THE DECODER'S LAW: Newton's polynomial through n symbols of the codeword is the codeword's -/
theorem nw_cwf (y : Nat → G) {n : Nat} (hn : n ≤ 16) (q : Nat → Nat) (hq : ∀ i, i < n → q i < 16) (hi : ∀ i j, i < n → j < n → q i = q j → i = j) (x : Nat) :
    nw (fun i => pt (q i)) (fun i => cwf y n (q i)) 0 n (pt x) = cwf y n x := by
  have hp : ∀ i j, i < n → j < n → pt (q i) = pt (q j) → i = j := fun i j h1 h2 e => hi i j h1 h2 (pt_inj (hq i h1) (hq j h2) e)
  rw [cwf_eq y hn x]
  refine Pl.unique (ps := (List.range n).map fun i => pt (q i)) (nw_pl _ _ 0 n) (lgS_pl y n n (Nat.le_refl _)) (by simp) ?_ (fun p hp2 => ?_) (pt x)
  · rw [List.nodup_iff_pairwise_ne, List.pairwise_map]
    refine List.Pairwise.imp_of_mem (fun {a b} ha hb hne e => hne (hp a b (List.mem_range.mp ha) (List.mem_range.mp hb) e)) (List.nodup_iff_pairwise_ne.mp List.nodup_range)
  · obtain ⟨i, hi2, rfl⟩ := List.mem_map.mp hp2
    have hi3 := List.mem_range.mp hi2
    have e := nw_at (fun i => cwf y n (q i)) hp (n - 1) 0 i (by omega) (by omega)
    rw [show n - 1 + 1 = n by omega, Nat.zero_add] at e
    rw [e]
    exact cwf_eq y hn (q i)
end K44
set_option maxHeartbeats 4000000
namespace K44
open PySem PySem.Spec PyProof.Rows L2
/-! ### a def's promise, by its name -/
/-- called by its name, the def keeps the promise sp -/
def Keeps (P : Program) (w : World) (K : PySem.W.Frag) (mg : Str → Option Value) (base : Heap) (k : Nat) (x : Str) (ps : List Str) (sp : Sp) : Prop :=
  ∃ f fd, mg x = some (.ref f) ∧ PySem.W.keepIn K (.ref f) = true ∧ Binds K fd ps [] ∧ FnOk P w K mg base CX0 k f fd ps sp
theorem pcall {X : Cx} {x : Str} {ps : List Str} {sp : Sp} {k : Nat} {e : Expr} {es : List Expr} {t : TA} {p pos : Pos} (G : Keeps X.prog X.w X.K X.mg X.base k x ps sp) (hr : Room k X.A) (ha : PA X (e :: es) t)
    (hg : Gl X x := by rfl) (hdb : (x == ("__debug__" : Str)) = false := by decide) (he : starEach (e :: es) X.env = (false, eval e X.env) :: starEach es X.env := by rfl) (hpl : (backTo pos (starEach es X.env)).any (·.1) = false := by rfl) :
    PE X (.Call (.Name x p) (e :: es) [] pos) (tCall sp [] E0 t) := by
  obtain ⟨f, fd, m, kp, b, F⟩ := G
  exact pe_call F hr hg m kp b .nil pass0 ha hdb he hpl
section
variable {P : Program} {w : World} {K : PySem.W.Frag} {mg : Str → Option Value} {base : Heap}
theorem Keeps.mono {j k : Nat} {x : Str} {ps : List Str} {sp : Sp} (G : Keeps P w K mg base j x ps sp) (h : j ≤ k) : Keeps P w K mg base k x ps sp :=
  let ⟨f, fd, m, kp, b, F⟩ := G
  ⟨f, fd, m, kp, b, F.mono h⟩
theorem Dfn.keeps {x : Str} {st : Stmt} {N ps : List Str} {k : Nat} {sp : Sp} (D : Dfn K mg x st) (S : FnScope N ps (defScope st))
    (hb : ∀ (kV doc pm : Value) (an : Option Addr) (cdv ct : Value) (us : List Value), us.length = ps.length → bindArgs (PySem.W.fnOf x x (defArgs st) (defBody st) (defScope st) .none kV doc pm an cdv ct) ⟨us, []⟩ = pure (ps.zip us))
    (len : ∀ vs H Q E, sp vs H Q E → vs.length = ps.length)
    (body : ∀ (f : Addr) (cdv : Value) (A : Around) (outer : List Env) (s : Shared) (H : Hp) (vs : List V) (Q : VK) (E : XK), Room k (A.deeper (envOfC x (defScope st) s.heap.objs.size f cdv)) → sp vs H Q E →
      ∃ t, PSs (cxOf CX0 P w K mg base N x (defScope st) f cdv A outer s H E).nox (defBody st) t ∧ t { nx := fun _ H' => Q .non H', rt := Q } (start N vs) H) : Keeps P w K mg base (k + 1) x ps sp := by
  obtain ⟨f, fd, F, m⟩ := D
  exact ⟨f, fd, m, F.kp, F.binds hb, F.ok S len (body f)⟩
end
/-- a module's int -/
theorem cst {X : Cx} {x : Str} {i : Int} {pos : Pos} (h : ∃ t, X.mg x = some (.int i t)) (hg : Gl X x := by rfl) (hd : (x == ("__debug__" : Str)) = false := by decide) : PE X (.Name x pos) (tC (.int i)) := by
  obtain ⟨t, e⟩ := h
  exact pe_glob hg e ⟨t, rfl⟩ hd
end K44
set_option maxHeartbeats 4000000
/-! ### zip of as many lists as there are: zip(*rows), walked with a target of one name -/
namespace K44.Zs
open PySem PySem.Spec PyProof.Rows L2
def zipO (f0 : Value) (f1 : Bool) (TI TO : Addr) : Obj := { cls := .type "zip", dict := none, data := .fields #[f0, .bool f1, .bool false, .ref TI, .ref TO], slots := #[] }
def tupO (vs : Array Value) : Obj := { cls := .type "tuple", data := .seq vs }
/-- one column: its iterator, its list, the item that comes -/
structure Dr where
  it : Addr
  l : Addr
  x : Value
def Rdy (h : Heap) (i : Nat) (d : Dr) : Prop := h.IsListIter d.it d.l i ∧ ∃ ys : Array Value, h.IsList d.l ys ∧ ys[i]? = some d.x
theorem iter_cls {h : Heap} {a l : Addr} {i : Nat} (x : h.IsListIter a l i) : ∃ o, h.get? a = some o ∧ o.cls = .type "list_iterator" := let ⟨o, e, c, _⟩ := x; ⟨o, e, c⟩
theorem list_cls {h : Heap} {a : Addr} {ys : Array Value} (x : h.IsList a ys) : ∃ o, h.get? a = some o ∧ o.cls = .type "list" := let ⟨o, e, c, _⟩ := x; ⟨o, e, c⟩
theorem ne_cls {h : Heap} {a b : Addr} {S T : String} (x : ∃ o, h.get? a = some o ∧ o.cls = .type S) (y : ∃ o, h.get? b = some o ∧ o.cls = .type T) (n : S ≠ T) : a ≠ b := by
  rintro rfl
  obtain ⟨o, e, c⟩ := x
  obtain ⟨u, e2, c2⟩ := y
  rw [e] at e2
  cases e2
  rw [c] at c2
  exact n (Value.type.inj c2)
theorem Rdy.stay {h h' : Heap} {i : Nat} {d : Dr} {TO it0 : Addr} {kept : Array Value} (r : Rdy h i d) (hT : h.get? TO = some (tupO kept)) (h0 : ∃ o, h.get? it0 = some o ∧ o.cls = .type "list_iterator") (n : d.it ≠ it0)
    (k : ∀ c o, c ≠ TO → c ≠ it0 → h.get? c = some o → h'.get? c = some o) : Rdy h' i d := by
  obtain ⟨r1, ys, r2, r3⟩ := r
  have t : ∃ o, h.get? TO = some o ∧ o.cls = .type "tuple" := ⟨_, hT, rfl⟩
  exact ⟨r1.at fun o e => k _ o (ne_cls (iter_cls r1) t (by decide)) n e, ys, r2.at fun o e => k _ o (ne_cls (list_cls r2) t (by decide)) (ne_cls (list_cls r2) h0 (by decide)) e, r3⟩
section
variable {M : Model} {A : Around} {E : Value → Shared → Prop}
/-- the draws into the owned tuple -/
theorem loop1 {i n : Nat} {TO : Addr} {f : Value × Nat → Option PySem.Fin × Unit → Sem (ForInStep (Option PySem.Fin × Unit))} {Z : Heap → Prop}
    (hf : ∀ (d : Dr) (k : Nat) (kept : Array Value) (s : Shared) (Q : ForInStep (Option PySem.Fin × Unit) → Shared → Prop), Rdy s.heap i d → Z s.heap → s.heap.get? TO = some (tupO kept) → kept.size = n →
      (∀ h', Z h' → h'.get? TO = some (tupO (kept.setIfInBounds k d.x)) → h'.IsListIter d.it d.l (i + 1) → (∀ c o, c ≠ TO → c ≠ d.it → s.heap.get? c = some o → h'.get? c = some o) → h'.objs.size = s.heap.objs.size →
        Q (.yield (none, ())) { s with heap := h' }) → wpAny M A (f (.ref d.it, k) (none, ())) Q E s) :
    ∀ (ds : List Dr) (k : Nat) (kept : Array Value) (s : Shared) (Q : Option PySem.Fin × Unit → Shared → Prop), (∀ d ∈ ds, Rdy s.heap i d) → (ds.map Dr.it).Nodup → Z s.heap → s.heap.get? TO = some (tupO kept) → kept.size = n →
      k + ds.length ≤ n →
      (∀ h' kept', Z h' → h'.get? TO = some (tupO kept') → kept'.size = n → (∀ j, j < k → kept'[j]? = kept[j]?) → (∀ j d, ds[j]? = some d → kept'[k + j]? = some d.x) → (∀ d ∈ ds, h'.IsListIter d.it d.l (i + 1)) →
        (∀ c o, c ≠ TO → c ∉ ds.map Dr.it → s.heap.get? c = some o → h'.get? c = some o) → h'.objs.size = s.heap.objs.size → Q (none, ()) { s with heap := h' }) →
      wpAny M A (forIn ((ds.map fun d => Value.ref d.it).zipIdx k) (none, ()) f) Q E s := by
  intro ds
  induction ds with
  | nil =>
    intro k kept s Q _ _ z hT hn _ h
    rw [List.map_nil, List.zipIdx_nil, List.forIn_nil]
    exact wpAny_pure (h s.heap kept z hT hn (fun _ _ => rfl) (fun _ _ e => by simp at e) (fun _ m => by cases m) (fun _ _ _ _ e => e) rfl)
  | cons d r ih =>
    intro k kept s Q rd nd z hT hn hk h
    have nd2 := List.nodup_cons.mp (show (d.it :: r.map Dr.it).Nodup from nd)
    have hkn : k < n := by rw [List.length_cons] at hk; omega
    rw [List.map_cons, List.zipIdx_cons, List.forIn_cons]
    refine wpAny_bind (hf d k kept s _ (rd d List.mem_cons_self) z hT hn fun h1 z1 hT1 it1 kp1 sz1 => ?_)
    show wpAny M A (forIn ((r.map fun d => Value.ref d.it).zipIdx (k + 1)) (none, ()) f) Q E { s with heap := h1 }
    have n1 : (kept.setIfInBounds k d.x).size = n := by rw [Array.size_setIfInBounds]; exact hn
    refine ih (k + 1) _ { s with heap := h1 } Q (fun e he => (rd e (List.mem_cons_of_mem _ he)).stay hT (iter_cls (rd d List.mem_cons_self).1) (fun q => nd2.1 (q ▸ List.mem_map_of_mem he)) kp1) nd2.2 z1 hT1 n1
      (by rw [List.length_cons] at hk; omega) fun h2 kept2 z2 hT2 hn2 lo2 hi2 its2 kp2 sz2 => ?_
    refine h h2 kept2 z2 hT2 hn2 (fun j hj => ?_) (fun j e he => ?_) (fun e he => ?_) (fun c o c1 c2 ho => ?_) (sz2.trans sz1)
    · rw [lo2 j (by omega), Array.getElem?_setIfInBounds_ne (by omega)]
    · cases j with
      | zero =>
        obtain rfl : d = e := Option.some.inj he
        rw [Nat.add_zero, lo2 k (by omega), Array.getElem?_setIfInBounds_self]
        rw [if_pos (by omega)]
      | succ j =>
        rw [show k + (j + 1) = k + 1 + j by omega]
        exact hi2 j e he
    · rcases List.mem_cons.mp he with q | he
      · subst q
        have t : ∃ o, h1.get? TO = some o ∧ o.cls = .type "tuple" := ⟨_, hT1, rfl⟩
        exact it1.at fun o q => kp2 _ o (ne_cls (iter_cls it1) t (by decide)) nd2.1 q
      · exact its2 e he
    · have c3 : c ≠ d.it := fun q => c2 (by rw [q]; exact List.mem_cons_self)
      exact kp2 c o c1 (fun q => c2 (List.mem_cons_of_mem _ q)) (kp1 c o c1 c3 ho)
/-- the draws into a new array -/
theorem loop2 {i : Nat} {f : Value → Option PySem.Fin × Array Value → Sem (ForInStep (Option PySem.Fin × Array Value))}
    (hf : ∀ (d : Dr) (got : Array Value) (s : Shared) (Q : ForInStep (Option PySem.Fin × Array Value) → Shared → Prop), Rdy s.heap i d →
      (∀ h', h'.IsListIter d.it d.l (i + 1) → (∀ c o, c ≠ d.it → s.heap.get? c = some o → h'.get? c = some o) → h'.objs.size = s.heap.objs.size →
        Q (.yield (none, got.push d.x)) { s with heap := h' }) → wpAny M A (f (.ref d.it) (none, got)) Q E s) :
    ∀ (ds : List Dr) (got : Array Value) (s : Shared) (Q : Option PySem.Fin × Array Value → Shared → Prop), (∀ d ∈ ds, Rdy s.heap i d) → (ds.map Dr.it).Nodup →
      (∀ h', (∀ d ∈ ds, h'.IsListIter d.it d.l (i + 1)) → (∀ c o, c ∉ ds.map Dr.it → s.heap.get? c = some o → h'.get? c = some o) → h'.objs.size = s.heap.objs.size → Q (none, got ++ (ds.map Dr.x).toArray) { s with heap := h' }) →
      wpAny M A (forIn (ds.map fun d => Value.ref d.it) (none, got) f) Q E s := by
  intro ds
  induction ds with
  | nil =>
    intro got s Q _ _ h
    rw [List.map_nil, List.forIn_nil]
    have h1 := h s.heap (fun _ m => by cases m) (fun _ _ _ e => e) rfl
    rw [List.map_nil, Array.append_empty] at h1
    exact wpAny_pure h1
  | cons d r ih =>
    intro got s Q rd nd h
    have nd2 := List.nodup_cons.mp (show (d.it :: r.map Dr.it).Nodup from nd)
    rw [List.map_cons, List.forIn_cons]
    refine wpAny_bind (hf d got s _ (rd d List.mem_cons_self) fun h1 it1 kp1 sz1 => ?_)
    show wpAny M A (forIn (r.map fun d => Value.ref d.it) (none, got.push d.x) f) Q E { s with heap := h1 }
    refine ih (got.push d.x) { s with heap := h1 } Q (fun e he => ?_) nd2.2 fun h2 its2 kp2 sz2 => ?_
    · obtain ⟨r1, ys, r2, r3⟩ := rd e (List.mem_cons_of_mem _ he)
      exact ⟨r1.at fun o q => kp1 _ o (fun z => nd2.1 (z ▸ List.mem_map_of_mem he)) q, ys, r2.at fun o q => kp1 _ o (ne_cls (list_cls r2) (iter_cls (rd d List.mem_cons_self).1) (by decide)) q, r3⟩
    · have h3 := h h2 (fun e he => ?_) (fun c o c2 ho => ?_) (sz2.trans sz1)
      · rw [List.map_cons] at h3
        have e : got.push d.x ++ (r.map Dr.x).toArray = got ++ (d.x :: r.map Dr.x).toArray := by
          apply Array.toList_inj.mp
          simp
        rw [e]
        exact h3
      · rcases List.mem_cons.mp he with q | he
        · subst q
          exact it1.at fun o q => kp2 _ o nd2.1 q
        · exact its2 e he
      · exact kp2 c o (fun q => c2 (List.mem_cons_of_mem _ q)) (kp1 c o (fun q => c2 (by rw [q]; exact List.mem_cons_self)) ho)
end
end K44.Zs
set_option maxHeartbeats 4000000
namespace K44.Zs
open PySem PySem.Spec PyProof.Rows L2
/-- the iterator's state: its own record, its two tuples, the columns' iterators -/
structure ZAt (h : Heap) (i : Nat) (z TI TO : Addr) (its ls : List Addr) : Prop where
  hz : ∃ f0 f1, h.get? z = some (zipO f0 f1 TI TO) ∧ (f0 = .none ∨ ∃ T : Addr, f0 = rawInt T)
  hTI : h.get? TI = some (tupO (its.map Value.ref).toArray)
  hTO : ∃ kept, h.get? TO = some (tupO kept) ∧ kept.size = its.length
  ne : TI ≠ TO
  len : its.length = ls.length
  some_ : its ≠ []
  few : its.length ≤ 1000
  nd : its.Nodup
  ii : ∀ (k : Nat) (a l : Addr), its[k]? = some a → ls[k]? = some l → h.IsListIter a l i
theorem zip_cls {h : Heap} {z TI TO : Addr} {f0 : Value} {f1 : Bool} (x : h.get? z = some (zipO f0 f1 TI TO)) : ∃ o, h.get? z = some o ∧ o.cls = .type "zip" := ⟨_, x, rfl⟩
theorem tup_cls {h : Heap} {T : Addr} {vs : Array Value} (x : h.get? T = some (tupO vs)) : ∃ o, h.get? T = some o ∧ o.cls = .type "tuple" := ⟨_, x, rfl⟩
theorem upd_pair {M : Model} {A : Around} {E : Value → Shared → Prop} {s : Shared} {T : Addr} {vs : Array Value} {x : Value} {k : Nat} {Q : Unit → Shared → Prop} (hT : s.heap.get? T = some (tupO vs)) (hn : vs.size ≤ 1000)
    (h : ∀ h', h'.get? T = some (tupO (vs.setIfInBounds k x)) → Heap.SameBut T s.heap h' → Q () { s with heap := h' }) : wpAny M A (updateSeq T (·.setIfInBounds k x)) Q E s := by
  refine wpAny_updateSeq hT rfl (h _ ?_ (Heap.SameBut.update ..)) (Nat.le_trans hn (by decide)) (by rw [Array.size_setIfInBounds]; exact Nat.le_trans hn (by decide))
  rw [Heap.get?_update_self _ hT rfl]
  simp [Obj.mapSeq, tupO]
section
variable {prog : Program} {w : World} {A : Around} {E : Value → Shared → Prop} {s : Shared} {i : Nat} {z TI TO : Addr} {its ls : List Addr}
theorem isFree {f0 : Value} {f1 : Bool} {Q : Bool → Shared → Prop} (hz : s.heap.get? z = some (zipO f0 f1 TI TO)) (h0 : f0 = .none ∨ ∃ T : Addr, f0 = rawInt T)
    (h : ∀ b f1' h', h'.get? z = some (zipO f0 f1' TI TO) → Heap.SameBut z s.heap h' → Q b { s with heap := h' }) : wpAny (model prog w) A (Builtin.SmallTypes.ownedTupleIsFree (.ref z)) Q E s := by
  have same : Heap.SameBut z s.heap s.heap := ⟨rfl, fun _ _ => rfl⟩
  unfold Builtin.SmallTypes.ownedTupleIsFree
  refine wpAny_bind (wpAny_field hz rfl (x := f0) rfl ?_)
  rcases h0 with rfl | ⟨T, rfl⟩
  · exact wpAny_pure (h true f1 s.heap hz same)
  · show wpAny _ _ (loadIfAlive (T : Int).toNat >>= _) _ _ _
    refine wpAny_bind ?_
    have ld : ∀ {Q : Option Obj → Shared → Prop}, Q (s.heap.get? (T : Int).toNat) s → wpAny (model prog w) A (loadIfAlive (T : Int).toNat) Q E s := fun q Γ p hΓ => by
      unfold loadIfAlive
      rw [Sem.wp_loadIfAlive]
      exact wpAny_pure q Γ p hΓ
    refine ld ?_
    cases e : s.heap.get? (T : Int).toNat with
    | none => exact wpAny_pure (h true f1 s.heap hz same)
    | some o =>
      show wpAny _ _ (field (.ref z) 1 >>= _) _ _ _
      refine wpAny_bind (wpAny_field hz rfl (x := .bool f1) rfl ?_)
      cases f1 with
      | true => exact wpAny_pure (h false true s.heap hz same)
      | false =>
        show wpAny _ _ (setField (.ref z) 1 (.bool true) >>= _) _ _ _
        refine wpAny_bind (wpAny_setField_rec hz (by simp) fun h1 hz1 sb1 => ?_)
        exact wpAny_pure (h false true h1 hz1 sb1)
theorem next_item {xs : List Value} {Q : Value → Shared → Prop} (Z : ZAt s.heap i z TI TO its ls) (hx : xs.length = its.length)
    (hl : ∀ (k : Nat) (l : Addr) (x : Value), ls[k]? = some l → xs[k]? = some x → ∃ ys : Array Value, s.heap.IsList l ys ∧ ys[i]? = some x)
    (hQ : ∀ h', ZAt h' (i + 1) z TI TO its ls → h'.get? s.heap.objs.size = some (tupO xs.toArray) → h'.objs.size = s.heap.objs.size + 1 →
      (∀ c o, c ≠ z → c ≠ TO → c ∉ its → s.heap.get? c = some o → h'.get? c = some o) → Q (.ref s.heap.objs.size) { s with heap := h' }) :
    wpAny (model prog w) A (Builtin.«zip.__next__» ⟨[.ref z], []⟩) (fun fin s' => ∃ v, fin = .done (.ret v) ∧ Q v s') E s := by
  obtain ⟨⟨f0, f1, hz, h0⟩, hTI, ⟨kept, hTO, hk⟩, ne, hlen, hs, hfew, nd, ii⟩ := Z
  -- the columns
  obtain ⟨ds, d1, d2, dr⟩ : ∃ ds : List Dr, ds.map Dr.it = its ∧ ds.map Dr.x = xs ∧ ∀ d ∈ ds, Rdy s.heap i d ∧ ∃ k : Nat, its[k]? = some d.it ∧ ls[k]? = some d.l := by
    refine ⟨(List.range its.length).map fun k => ⟨its.getD k 0, ls.getD k 0, xs.getD k .none⟩, ?_, ?_, fun d hd => ?_⟩
    · apply List.ext_getElem
      · simp
      · intro k a b
        simp [List.getD_eq_getElem?_getD, b]
    · apply List.ext_getElem
      · simp [hx]
      · intro k a b
        simp [List.getD_eq_getElem?_getD, b]
    · obtain ⟨k, hk2, rfl⟩ := List.mem_map.mp hd
      have hk3 := List.mem_range.mp hk2
      have e1 : its[k]? = some (its.getD k 0) := by simp [List.getD_eq_getElem?_getD, hk3]
      have e2 : ls[k]? = some (ls.getD k 0) := by simp [List.getD_eq_getElem?_getD, show k < ls.length by omega]
      have e3 : xs[k]? = some (xs.getD k .none) := by simp [List.getD_eq_getElem?_getD, show k < xs.length by omega]
      exact ⟨⟨ii k _ _ e1 e2, hl k _ _ e2 e3⟩, k, e1, e2⟩
  have nd' : (ds.map Dr.it).Nodup := by rw [d1]; exact nd
  have emap : its.map Value.ref = ds.map fun d => Value.ref d.it := by rw [← d1, List.map_map]; rfl
  have zt : ∀ {h : Heap} {g0 : Value} {g1 : Bool}, h.get? z = some (zipO g0 g1 TI TO) → ∀ {T : Addr} {vs : Array Value}, h.get? T = some (tupO vs) → T ≠ z := fun {h g0 g1} a {T vs} b => ne_cls (tup_cls b) (zip_cls a) (by decide)
  have its_in : ∀ {a : Addr}, a ∈ its → ∃ o, s.heap.get? a = some o ∧ o.cls = .type "list_iterator" := fun {a} ha => by
    rw [← d1] at ha
    obtain ⟨d, hd, rfl⟩ := List.mem_map.mp ha
    exact iter_cls (dr d hd).1.1
  have zi : ∀ {a : Addr}, a ∈ its → a ≠ z := fun ha => ne_cls (its_in ha) (zip_cls hz) (by decide)
  have TIi : TI ∉ its := fun ha => ne_cls (tup_cls hTI) (its_in ha) (by decide) rfl
  have TOi : TO ∉ its := fun ha => ne_cls (tup_cls hTO) (its_in ha) (by decide) rfl
  have zni : z ∉ its := fun ha => zi ha rfl
  -- the end of both ways
  have fin : ∀ (h' : Heap) (g0 : Value) (g1 : Bool) (kept' : Array Value), h'.get? z = some (zipO g0 g1 TI TO) → (g0 = .none ∨ ∃ T : Addr, g0 = rawInt T) → h'.get? TO = some (tupO kept') → kept'.size = its.length → (∀ d ∈ ds, h'.IsListIter d.it d.l (i + 1)) →
      (∀ c o, c ≠ z → c ≠ TO → c ∉ its → s.heap.get? c = some o → h'.get? c = some o) → ZAt h' (i + 1) z TI TO its ls := fun h' g0 g1 kept' a1 a2 a3 a4 a5 a6 => by
    refine ⟨⟨g0, g1, a1, a2⟩, a6 _ _ (zt hz hTI) ne TIi hTI, ⟨kept', a3, a4⟩, ne, hlen, hs, hfew, nd, fun k a l e1 e2 => ?_⟩
    have hk2 : k < its.length := (List.getElem?_eq_some_iff.mp e1).1
    have e3 : (ds.map Dr.it)[k]? = some a := by rw [d1]; exact e1
    rw [List.getElem?_map] at e3
    obtain ⟨d, e4, rfl⟩ := Option.map_eq_some_iff.mp e3
    have hd := List.mem_of_getElem? e4
    obtain ⟨_, k2, q1, q2⟩ := dr d hd
    have : k2 = k := by
      obtain ⟨b1, b2⟩ := List.getElem?_eq_some_iff.mp q1
      obtain ⟨b3, b4⟩ := List.getElem?_eq_some_iff.mp e1
      exact (List.getElem_inj nd).mp (b2.trans b4.symm)
    subst this
    rw [q2] at e2
    cases e2
    exact a5 d hd
  show wpAny _ _ (field (.ref z) 2 >>= _) _ _ _
  refine wpAny_bind (wpAny_field hz rfl (x := .bool false) rfl ?_)
  show wpAny _ _ (field (.ref z) 3 >>= _) _ _ _
  refine wpAny_bind (wpAny_field hz rfl (x := .ref TI) rfl ?_)
  refine wpAny_bind (wpAny_seqItems hTI rfl ?_)
  have hemp : (its.map Value.ref).toArray.isEmpty = false := by
    cases its with
    | nil => exact absurd rfl hs
    | cons a r => rfl
  simp only [hemp, Bool.false_eq_true, if_false]
  refine wpAny_bind (isFree hz h0 fun b g1 h1 hz1 sb1 => ?_)
  have kp1 : ∀ c o, c ≠ z → s.heap.get? c = some o → h1.get? c = some o := fun c o c1 e => sb1.extBut _ _ c1 e
  have hTO1 := kp1 _ _ (zt hz hTO) hTO
  have hTI1 := kp1 _ _ (zt hz hTI) hTI
  have dr1 : ∀ d ∈ ds, Rdy h1 i d := fun d hd => by
    obtain ⟨⟨r1, ys, r2, r3⟩, _⟩ := dr d hd
    exact ⟨r1.at fun o e => kp1 _ o (ne_cls (iter_cls r1) (zip_cls hz) (by decide)) e, ys, r2.at fun o e => kp1 _ o (ne_cls (list_cls r2) (zip_cls hz) (by decide)) e, r3⟩
  cases b with
  | true =>
    simp only [if_true]
    refine wpAny_bind (wpAny_rule ?_)
    refine wpAny_bind (wpAny_field hz1 rfl (x := .ref TO) rfl ?_)
    refine wpAny_bind (wpAny_setField_rec hz1 (by simp) fun h2 hz2 sb2 => ?_)
    replace hz2 : h2.get? z = some (zipO .ellipsis g1 TI TO) := hz2
    have kp2 : ∀ c o, c ≠ z → s.heap.get? c = some o → h2.get? c = some o := fun c o c1 e => sb2.extBut _ _ c1 (kp1 c o c1 e)
    have dr2 : ∀ d ∈ ds, Rdy h2 i d := fun d hd => by
      obtain ⟨⟨r1, ys, r2, r3⟩, _⟩ := dr d hd
      exact ⟨r1.at fun o e => kp2 _ o (ne_cls (iter_cls r1) (zip_cls hz) (by decide)) e, ys, r2.at fun o e => kp2 _ o (ne_cls (list_cls r2) (zip_cls hz) (by decide)) e, r3⟩
    simp only [emap]
    refine wpAny_bind (loop1 (n := its.length) (Z := fun h => h.get? z = some (zipO .ellipsis g1 TI TO)) (i := i) (TO := TO) ?hf ds 0 kept { s with heap := h2 } _ dr2 nd' hz2 (kp2 _ _ (zt hz hTO) hTO) hk (by rw [Nat.zero_add, ← d1, List.length_map]; exact Nat.le_refl _) fun h3 kept3 hz3 hTO3 hk3 _ hi3 its3 kp3 sz3 => ?_)
    case hf =>
      intro d k kp s' Q' rd hz' hT' hn' hq
      refine wpAny_bind (wpAny_onRaise ?_)
      show wpAny _ _ (Builtin.SmallTypes.nextOf (.ref d.it) >>= _) _ _ _
      obtain ⟨r1, ys, r2, r3⟩ := id rd
      refine wpAny_bind (wpAny_nextOf_list_item r1 r2 r3 fun ha ia sa => wpAny_pure ?_)
      have hTa : ha.get? TO = some (tupO kp) := sa.extBut _ _ (ne_cls (tup_cls hT') (iter_cls r1) (by decide)) hT'
      refine wpAny_bind (wpAny_seqItems hTa rfl ?_)
      refine wpAny_bind (upd_pair hTa (by rw [hn']; exact hfew) fun hb hTb sb => ?_)
      refine wpAny_bind (wpAny_letGo (wpAny_pure ?_))
      have tOz : z ≠ TO := fun q => zt hz' hT' q.symm
      refine hq hb ?_ hTb (ia.at fun o e => sb.extBut _ _ (ne_cls (iter_cls ia) (tup_cls hTa) (by decide)) e) (fun c o c1 c2 e => sb.extBut _ _ c1 (sa.extBut _ _ c2 e)) (sb.1.trans sa.1)
      exact sb.extBut _ _ tOz (sa.extBut _ _ (ne_cls (zip_cls hz') (iter_cls r1) (by decide)) hz')
    rw [d1] at kp3
    refine wpAny_bind (wpAny_seqItems hTO3 rfl ?_)
    have ek : kept3.toList = xs := by
      apply List.ext_getElem?
      intro k
      rw [Array.getElem?_toList]
      by_cases hkl : k < ds.length
      · have e1 := hi3 k _ (List.getElem?_eq_getElem hkl)
        rw [Nat.zero_add] at e1
        rw [e1, ← d2, List.getElem?_map, List.getElem?_eq_getElem hkl]
        rfl
      · have l1 : ds.length = its.length := by rw [← d1, List.length_map]
        rw [Array.getElem?_eq_none (by omega), List.getElem?_eq_none (by omega)]
    show wpAny _ _ (newTuple kept3.toList >>= _) _ _ _
    rw [ek]
    refine wpAny_bind (wpAny_newTuple ?_ (by rw [hx]; exact Nat.le_trans hfew (by decide)))
    have hsz : h3.objs.size = s.heap.objs.size := by rw [sz3]; exact sb2.1.trans sb1.1
    have kp4 : ∀ c o, c ≠ z → c ≠ TO → c ∉ its → s.heap.get? c = some o → h3.get? c = some o := fun c o c1 c2 c3 e => kp3 c o c2 c3 (kp2 c o c1 e)
    have zlt : z < h3.objs.size := Heap.lt_size hz3
    show wpAny _ _ (Builtin.SmallTypes.ownedTupleHandOut (.ref z) (.ref h3.objs.size) >>= _) _ _ _
    refine wpAny_bind ?_
    unfold Builtin.SmallTypes.ownedTupleHandOut
    have hz6 : (h3.push (tupO xs.toArray)).get? z = some (zipO .ellipsis g1 TI TO) := Heap.get?_push_of_some _ hz3
    refine wpAny_bind (wpAny_setField_rec hz6 (by simp) fun h7 hz7 sb7 => ?_)
    replace hz7 : h7.get? z = some (zipO (rawInt h3.objs.size) g1 TI TO) := hz7
    refine wpAny_setField_rec hz7 (by simp) fun h8 hz8 sb8 => ?_
    replace hz8 : h8.get? z = some (zipO (rawInt h3.objs.size) false TI TO) := hz8
    have up : ∀ c o, c ≠ z → h3.get? c = some o → h8.get? c = some o := fun c o c1 e => sb8.extBut _ _ c1 (sb7.extBut _ _ c1 (Heap.get?_push_of_some _ e))
    have hT8 : h8.get? h3.objs.size = some (tupO xs.toArray) := sb8.extBut _ _ (Nat.ne_of_gt zlt) (sb7.extBut _ _ (Nat.ne_of_gt zlt) (Heap.get?_push_size _ rfl))
    have hs8 : h8.objs.size = h3.objs.size + 1 := by rw [sb8.1, sb7.1, Heap.size_push]
    refine wpAny_pure ⟨_, rfl, ?_⟩
    show Q (.ref h3.objs.size) _
    have Z8 : ZAt h8 (i + 1) z TI TO its ls := fin h8 _ _ kept3 hz8 (.inr ⟨_, rfl⟩) (up _ _ (zt hz3 hTO3) hTO3) hk3 (fun d hd => (its3 d hd).at fun o e => up _ o (ne_cls (iter_cls (its3 d hd)) (zip_cls hz3) (by decide)) e) fun c o c1 c2 c3 e => up c o c1 (kp4 c o c1 c2 c3 e)
    rw [hsz] at hT8 hs8 ⊢
    exact hQ h8 Z8 hT8 hs8 fun c o c1 c2 c3 e => up c o c1 (kp4 c o c1 c2 c3 e)
  | false =>
    simp only [Bool.false_eq_true, if_false]
    simp only [emap, List.forIn_toArray]
    refine wpAny_bind (loop2 (i := i) ?hf ds #[] { s with heap := h1 } _ dr1 nd' fun h3 its3 kp3 sz3 => ?_)
    case hf =>
      intro d got s' Q' rd hq
      refine wpAny_bind (wpAny_holding ?_)
      show wpAny _ _ (Builtin.SmallTypes.nextOf (.ref d.it) >>= _) _ _ _
      obtain ⟨r1, ys, r2, r3⟩ := id rd
      refine wpAny_bind (wpAny_nextOf_list_item r1 r2 r3 fun ha ia sa => wpAny_pure ?_)
      exact wpAny_pure (hq ha ia (fun c o c1 e => sa.extBut _ _ c1 e) sa.1)
    rw [d1] at kp3
    have ek : (#[] ++ (ds.map Dr.x).toArray : Array Value).toList = xs := by rw [Array.empty_append, d2]
    show wpAny _ _ (newTuple (#[] ++ (ds.map Dr.x).toArray : Array Value).toList >>= _) _ _ _
    rw [ek]
    refine wpAny_bind (wpAny_newTuple ?_ (by rw [hx]; exact Nat.le_trans hfew (by decide)))
    refine wpAny_pure ⟨_, rfl, ?_⟩
    have hsz : h3.objs.size = s.heap.objs.size := sz3.trans sb1.1
    show Q (.ref h3.objs.size) { s with heap := h3.push (tupO xs.toArray) }
    have up : ∀ c o, c ≠ z → c ≠ TO → c ∉ its → s.heap.get? c = some o → (h3.push (tupO xs.toArray)).get? c = some o := fun c o c1 c2 c3 e => Heap.get?_push_of_some _ (kp3 c o c3 (kp1 c o c1 e))
    have Z8 : ZAt (h3.push (tupO xs.toArray)) (i + 1) z TI TO its ls := fin _ f0 g1 kept (Heap.get?_push_of_some _ (kp3 _ _ zni hz1)) h0 (Heap.get?_push_of_some _ (kp3 _ _ TOi hTO1)) hk (fun d hd => (its3 d hd).at fun o e => Heap.get?_push_of_some _ e) up
    have hT8 : (h3.push (tupO xs.toArray)).get? h3.objs.size = some (tupO xs.toArray) := Heap.get?_push_size _ rfl
    rw [hsz] at hT8 ⊢
    exact hQ _ Z8 hT8 (by rw [Heap.size_push, hsz]) up
/-- the first column is through -/
theorem next_end {Q : PySem.Fin → Shared → Prop} (hh : A.handled = none) (Z : ZAt s.heap i z TI TO its ls) {l : Addr} {ys : Array Value} (e0 : ls[0]? = some l) (hl : s.heap.IsList l ys) (hn : ys[i]? = none)
    (hE : ∀ h' e, (∀ c o, c ≠ z → c ≠ TO → c ∉ its → s.heap.get? c = some o → h'.get? c = some o) → (∃ o, h'.get? e = some o ∧ o.cls = .type "StopIteration") → E (.ref e) { s with heap := h' }) :
    wpAny (model prog w) A (Builtin.«zip.__next__» ⟨[.ref z], []⟩) Q E s := by
  obtain ⟨⟨f0, f1, hz, h0⟩, hTI, ⟨kept, hTO, hk⟩, ne, hlen, hs, hfew, nd, ii⟩ := Z
  obtain ⟨a, r, rfl⟩ : ∃ a r, its = a :: r := by
    cases its with
    | nil => exact absurd rfl hs
    | cons a r => exact ⟨a, r, rfl⟩
  have ia := ii 0 a l rfl e0
  have zt : ∀ {T : Addr} {vs : Array Value}, s.heap.get? T = some (tupO vs) → T ≠ z := fun {T vs} b => ne_cls (tup_cls b) (zip_cls hz) (by decide)
  show wpAny _ _ (field (.ref z) 2 >>= _) _ _ _
  refine wpAny_bind (wpAny_field hz rfl (x := .bool false) rfl ?_)
  show wpAny _ _ (field (.ref z) 3 >>= _) _ _ _
  refine wpAny_bind (wpAny_field hz rfl (x := .ref TI) rfl ?_)
  refine wpAny_bind (wpAny_seqItems hTI rfl ?_)
  have hemp : ((a :: r).map Value.ref).toArray.isEmpty = false := rfl
  simp only [hemp, Bool.false_eq_true, if_false]
  refine wpAny_bind (isFree hz h0 fun b g1 h1 hz1 sb1 => ?_)
  have kp1 : ∀ c o, c ≠ z → s.heap.get? c = some o → h1.get? c = some o := fun c o c1 e => sb1.extBut _ _ c1 e
  cases b with
  | true =>
    simp only [if_true]
    refine wpAny_bind (wpAny_rule ?_)
    refine wpAny_bind (wpAny_field hz1 rfl (x := .ref TO) rfl ?_)
    refine wpAny_bind (wpAny_setField_rec hz1 (by simp) fun h2 hz2 sb2 => ?_)
    replace hz2 : h2.get? z = some (zipO .ellipsis g1 TI TO) := hz2
    have kp2 : ∀ c o, c ≠ z → s.heap.get? c = some o → h2.get? c = some o := fun c o c1 e => sb2.extBut _ _ c1 (kp1 c o c1 e)
    simp only [List.map_cons, List.zipIdx_cons, List.forIn_cons]
    refine wpAny_bind (wpAny_bind (wpAny_bind (wpAny_onRaise ?_)))
    show wpAny _ _ (Builtin.SmallTypes.nextOf (.ref a) >>= _) _ _ _
    have ia2 : h2.IsListIter a l i := ia.at fun o e => kp2 _ o (ne_cls (iter_cls ia) (zip_cls hz) (by decide)) e
    have hl2 : h2.IsList l ys := hl.at fun o e => kp2 _ o (ne_cls (list_cls hl) (zip_cls hz) (by decide)) e
    refine wpAny_bind (wpAny_nextOf_list_end hh ia2 hl2 hn fun h3 e sb3 he => ?_)
    obtain ⟨oe, hoe, hce⟩ := he
    have hz3 : h3.get? z = some (zipO .ellipsis g1 TI TO) := sb3 _ _ (ne_cls (zip_cls hz2) (iter_cls ia2) (by decide)) hz2
    have hez : e ≠ z := ne_cls ⟨oe, hoe, hce⟩ (zip_cls hz3) (by decide)
    refine wpAny_setField_rec hz3 (by simp) fun h4 _ sb4 => hE h4 e (fun c o c1 _ c3 x => sb4.extBut _ _ c1 (sb3 _ _ (fun q => c3 (by rw [q]; exact List.mem_cons_self)) (kp2 c o c1 x))) ⟨oe, sb4.extBut _ _ hez hoe, hce⟩
  | false =>
    simp only [Bool.false_eq_true, if_false]
    simp only [List.forIn_toArray, List.map_cons, List.forIn_cons]
    refine wpAny_bind (wpAny_bind (wpAny_bind (wpAny_holding ?_)))
    show wpAny _ _ (Builtin.SmallTypes.nextOf (.ref a) >>= _) _ _ _
    have ia2 : h1.IsListIter a l i := ia.at fun o e => kp1 _ o (ne_cls (iter_cls ia) (zip_cls hz) (by decide)) e
    have hl2 : h1.IsList l ys := hl.at fun o e => kp1 _ o (ne_cls (list_cls hl) (zip_cls hz) (by decide)) e
    refine wpAny_bind (wpAny_nextOf_list_end hh ia2 hl2 hn fun h3 e sb3 he => hE h3 e (fun c o c1 _ c3 x => sb3 _ _ (fun q => c3 (by rw [q]; exact List.mem_cons_self)) (kp1 c o c1 x)) he)
theorem zt_type (Z : ZAt s.heap i z TI TO its ls) : s.TypeIs (.ref z) "zip" := let ⟨_, _, hz, _⟩ := Z.hz; ⟨_, hz, rfl⟩
theorem pyNext_item {xs : List Value} {Q : Option Value → Shared → Prop} (Z : ZAt s.heap i z TI TO its ls) (hx : xs.length = its.length)
    (hl : ∀ (k : Nat) (l : Addr) (x : Value), ls[k]? = some l → xs[k]? = some x → ∃ ys : Array Value, s.heap.IsList l ys ∧ ys[i]? = some x)
    (hQ : ∀ h', ZAt h' (i + 1) z TI TO its ls → h'.get? s.heap.objs.size = some (tupO xs.toArray) → h'.objs.size = s.heap.objs.size + 1 →
      (∀ c o, c ≠ z → c ≠ TO → c ∉ its → s.heap.get? c = some o → h'.get? c = some o) → Q (some (.ref s.heap.objs.size)) { s with heap := h' }) :
    wpAny (model prog w) A (pyNext (.ref z)) Q E s := by
  unfold pyNext
  exact wpAny_bind (wpAny_attempt (wpAny_callSpecial?_slot (name := Str.ofString "__next__") (zt_type Z) F.slot_zip_next
    (wpAny_call_entry F.slot_zip_next (zt_type Z) F.entry_zip_next (next_item Z hx hl fun h' a b c d => wpAny_pure (hQ h' a b c d)) (F.args_zip_next_1 _))))
theorem pyNext_end {Q : Option Value → Shared → Prop} (hh : A.handled = none) (Z : ZAt s.heap i z TI TO its ls) {l : Addr} {ys : Array Value} (e0 : ls[0]? = some l) (hl : s.heap.IsList l ys) (hn : ys[i]? = none)
    (hQ : ∀ h', (∀ c o, c ≠ z → c ≠ TO → c ∉ its → s.heap.get? c = some o → h'.get? c = some o) → Q none { s with heap := h' }) : wpAny (model prog w) A (pyNext (.ref z)) Q E s := by
  unfold pyNext
  refine wpAny_bind (wpAny_attempt (wpAny_callSpecial?_slot (name := Str.ofString "__next__") (zt_type Z) F.slot_zip_next
    (wpAny_call_entry F.slot_zip_next (zt_type Z) F.entry_zip_next (next_end hh Z e0 hl hn fun h' e hk he => ?_) (F.args_zip_next_1 _))))
  obtain ⟨o, ho, hc⟩ := he
  refine wpAny_bind (wpAny_isInstance (T := "StopIteration") (b := true) ⟨o, ho, hc⟩ isSubtype_stop ?_)
  exact wpAny_pure (hQ _ hk)
theorem pyIter_zipN {Q : Value → Shared → Prop} (Z : ZAt s.heap i z TI TO its ls) (h : Q (.ref z) s) : wpAny (model prog w) A (pyIter (.ref z)) Q E s := by
  refine wpAny_pyIter_slot (zt_type Z) F.slot_zip_iter (wpAny_call_entry F.slot_zip_iter (zt_type Z) F.entry_zip_iter ?_ (F.args_zip_iter_1 _))
  show wpAny _ _ (ret (.ref z)) _ _ s
  exact wpAny_pure ⟨_, rfl, "zip", _, zt_type Z, F.slot_zip_next.lookup, h⟩
end
end K44.Zs
set_option maxHeartbeats 4000000
namespace K44.Zs
open PySem PySem.Spec PyProof.Rows L2
theorem typeCall_zipN (l : List Value) : checkTypeCall "zip" ⟨l, []⟩ = pure () := by kernel_rfl
theorem newCall_zipN (a : Value) (l : List Value) : checkBuiltinCall "zip.__new__" ⟨.type "zip" :: a :: l, []⟩ = pure () := by kernel_rfl
theorem args_object_initN (obj : Value) (l : List Value) : argsOk "object.__init__" ⟨obj :: l, []⟩ := by
  unfold argsOk; rw [signature?_of (id := "object.__init__") (n := ['_', '_', 't', 'i', 'n', 'i', '_', '_']) (o := ['t', 'c', 'e', 'j', 'b', 'o']) (by kernel_rfl) F.owner_object]; kernel_rfl
/-- an iterator for each list, new ones in a row -/
theorem iterLoop {prog : Program} {w : World} {A : Around} {E : Value → Shared → Prop} {f : Value → Array Value → Sem (ForInStep (Array Value))}
    (hf : ∀ (l : Addr) (ys : Array Value) (got : Array Value) (s : Shared) (Q : ForInStep (Array Value) → Shared → Prop), s.heap.IsList l ys →
      (∀ h', h'.IsListIter s.heap.objs.size l 0 → (∀ c o, s.heap.get? c = some o → h'.get? c = some o) → h'.objs.size = s.heap.objs.size + 1 → Q (.yield (got.push (.ref s.heap.objs.size))) { s with heap := h' }) →
      wpAny (model prog w) A (f (.ref l) got) Q E s) :
    ∀ (ls : List Addr) (got : Array Value) (s : Shared) (Q : Array Value → Shared → Prop), (∀ l ∈ ls, ∃ ys, s.heap.IsList l ys) →
      (∀ h', (∀ (k : Nat) (l : Addr), ls[k]? = some l → h'.IsListIter (s.heap.objs.size + k) l 0) → (∀ c o, s.heap.get? c = some o → h'.get? c = some o) → h'.objs.size = s.heap.objs.size + ls.length →
        Q (got ++ ((List.range ls.length).map fun k => Value.ref (s.heap.objs.size + k)).toArray) { s with heap := h' }) →
      wpAny (model prog w) A (forIn (ls.map Value.ref) got f) Q E s := by
  intro ls
  induction ls with
  | nil =>
    intro got s Q _ h
    rw [List.map_nil, List.forIn_nil]
    have h1 := h s.heap (fun _ _ e => by simp at e) (fun _ _ e => e) rfl
    simp only [List.length_nil, List.range_zero, List.map_nil, Array.append_empty] at h1
    exact wpAny_pure h1
  | cons l r ih =>
    intro got s Q hl h
    rw [List.map_cons, List.forIn_cons]
    obtain ⟨ys, hys⟩ := hl l List.mem_cons_self
    refine wpAny_bind (hf l ys got s _ hys fun h1 i1 k1 s1 => ?_)
    show wpAny (model prog w) A (forIn (r.map Value.ref) (got.push (.ref s.heap.objs.size)) f) Q E { s with heap := h1 }
    refine ih _ { s with heap := h1 } Q (fun q hq => ?_) fun h2 i2 k2 s2 => ?_
    · obtain ⟨zs, hz⟩ := hl q (List.mem_cons_of_mem _ hq)
      exact ⟨zs, hz.at fun o e => k1 _ o e⟩
    · have sz : h2.objs.size = s.heap.objs.size + (l :: r).length := by
        rw [s2]
        show h1.objs.size + r.length = _
        rw [s1, List.length_cons]
        omega
      have h3 := h h2 (fun k q e => ?_) (fun c o e => k2 c o (k1 c o e)) sz
      · have e : got.push (.ref s.heap.objs.size) ++ ((List.range r.length).map fun k => Value.ref (h1.objs.size + k)).toArray = got ++ ((List.range (l :: r).length).map fun k => Value.ref (s.heap.objs.size + k)).toArray := by
          apply Array.toList_inj.mp
          simp only [Array.toList_append, Array.toList_push, List.length_cons, List.range_succ_eq_map, List.map_cons, List.map_map, Nat.add_zero, List.append_assoc, List.singleton_append]
          congr 2
          apply List.map_congr_left
          intro k _
          show Value.ref (h1.objs.size + k) = Value.ref (s.heap.objs.size + (k + 1))
          rw [s1, Nat.add_assoc, Nat.add_comm 1 k]
        rw [← e] at h3
        exact h3
      · cases k with
        | zero =>
          obtain rfl : l = q := Option.some.inj e
          exact i1.at fun o x => k2 _ o x
        | succ k =>
          have := i2 k q e
          have e2 : h1.objs.size + k = s.heap.objs.size + (k + 1) := by rw [s1, Nat.add_assoc, Nat.add_comm 1 k]
          rw [← e2]
          exact this
section
variable {prog : Program} {w : World} {A : Around} {E : Value → Shared → Prop} {s : Shared}
theorem meets_zipN (ls : List Addr) (hne : ls ≠ []) (hfew : ls.length ≤ 1000) :
    Meets (Builtin.«zip.__new__» ⟨.type "zip" :: ls.map Value.ref, []⟩) (fun _ R s => (∀ l ∈ ls, ∃ ys, s.heap.IsList l ys) ∧
      ∀ h' z TI TO its, ZAt h' 0 z TI TO its ls → (∀ c o, s.heap.get? c = some o → h'.get? c = some o) → s.heap.objs.size ≤ z → s.heap.objs.size ≤ TI → s.heap.objs.size ≤ TO → (∀ a ∈ its, s.heap.objs.size ≤ a) →
        R (.ok (.ret (.ref z))) { s with heap := h' }) :=
  .of_wp fun prog w A R s h => by
    obtain ⟨hl, h⟩ := h
    show wpAny _ _ (Builtin.SmallTypes.newClass "zip" ⟨.type "zip" :: ls.map Value.ref, []⟩ >>= _) _ _ _
    refine wpAny_bind ?_
    have hsub := sub_zip
    unfold Builtin.SmallTypes.newClass
    refine wpAny_bind (wpAny_pure ?_)
    show wpAny _ _ (isSubtype (.type "zip") (.type "zip") >>= _) _ _ _
    rw [hsub]
    refine wpAny_bind (wpAny_pure (wpAny_pure ?_))
    show wpAny _ _ (Builtin.SmallTypes.iterAll (ls.map Value.ref) >>= _) _ _ _
    refine wpAny_bind ?_
    unfold Builtin.SmallTypes.iterAll
    refine wpAny_bind (iterLoop ?hf ls #[] s _ hl fun h1 i1 k1 s1 => wpAny_pure ?_)
    case hf =>
      intro l ys got s' Q' hy hq
      refine wpAny_bind (wpAny_holding (wpAny_pyIter_list hy (wpAny_pure ?_)))
      exact hq _ ⟨_, Heap.get?_push_size _ rfl, rfl, rfl⟩ (fun c o e => Heap.get?_push_of_some _ e) (Heap.size_push ..)
    generalize hits : (List.range ls.length).map (fun k => s.heap.objs.size + k) = its
    have eits : (#[] ++ ((List.range ls.length).map fun k => Value.ref (s.heap.objs.size + k)).toArray : Array Value).toList = its.map Value.ref := by
      rw [Array.empty_append, ← hits, List.map_map]
      rfl
    rw [eits]
    have hlen : its.length = ls.length := by rw [← hits, List.length_map, List.length_range]
    have hle : its.length ≤ sizeLine := by rw [hlen]; exact Nat.le_trans hfew (by decide)
    refine wpAny_bind (wpAny_newTuple ?_ (by rw [List.length_map]; exact hle))
    refine wpAny_bind (wpAny_newTuple ?_ (by rw [List.length_map, List.length_map]; exact hle))
    refine wpAny_bind ?_
    unfold Builtin.SmallTypes.newRecord
    refine wpAny_newObj_type ?_ (by show 5 ≤ sizeLine + 2; decide)
    refine wpAny_pure ⟨_, rfl, ?_⟩
    have z2 : (h1.push (tupO (its.map Value.ref).toArray)).objs.size = h1.objs.size + 1 := Heap.size_push ..
    have ge : ∀ a ∈ its, s.heap.objs.size ≤ a := fun a ha => by
      rw [← hits] at ha
      obtain ⟨k, _, rfl⟩ := List.mem_map.mp ha
      exact Nat.le_add_right _ _
    have b1 : s.heap.objs.size ≤ h1.objs.size := by rw [s1]; exact Nat.le_add_right _ _
    have b2 : s.heap.objs.size ≤ (h1.push (tupO (its.map Value.ref).toArray)).objs.size := by rw [z2]; exact Nat.le_succ_of_le b1
    have kept : ∀ c o, h1.get? c = some o → (((h1.push (tupO (its.map Value.ref).toArray)).push (tupO ((its.map Value.ref).map fun _ => Value.none).toArray)).push (zipO .none false h1.objs.size (h1.push (tupO (its.map Value.ref).toArray)).objs.size)).get? c = some o := fun c o e =>
      Heap.get?_push_of_some _ (Heap.get?_push_of_some _ (Heap.get?_push_of_some _ e))
    refine h _ _ h1.objs.size (h1.push (tupO (its.map Value.ref).toArray)).objs.size its ⟨⟨.none, false, Heap.get?_push_size _ rfl, .inl rfl⟩, ?_, ⟨((its.map Value.ref).map fun _ => Value.none).toArray, ?_, by simp⟩, ?_, hlen, ?_, by rw [hlen]; exact hfew, ?_, fun k a l e1 e2 => ?_⟩ (fun c o e => kept c o (k1 c o e)) ?_ b1 b2 ge
    · exact Heap.get?_push_of_some _ (Heap.get?_push_of_some _ (Heap.get?_push_size _ rfl))
    · exact Heap.get?_push_of_some _ (Heap.get?_push_size _ rfl)
    · rw [z2]; exact Nat.ne_of_lt (Nat.lt_succ_self _)
    · intro q
      rw [q] at hlen
      exact hne (List.length_eq_zero_iff.mp hlen.symm)
    · rw [← hits, List.nodup_iff_pairwise_ne, List.pairwise_map]
      exact List.Pairwise.imp (fun {a b} hab q => hab (Nat.add_left_cancel q)) (List.nodup_iff_pairwise_ne.mp List.nodup_range)
    · have e3 : a = s.heap.objs.size + k := by
        rw [← hits, List.getElem?_map] at e1
        obtain ⟨j, q1, q2⟩ := Option.map_eq_some_iff.mp e1
        have := List.getElem?_eq_some_iff.mp q1
        obtain ⟨q3, q4⟩ := this
        rw [List.getElem_range] at q4
        rw [← q2, ← q4]
      rw [e3]
      exact (i1 k l e2).at fun o e => kept _ o e
    · rw [Heap.size_push]
      exact Nat.le_succ_of_le b2
theorem call_zipN {ls : List Addr} {Q : Value → Shared → Prop} (hne : ls ≠ []) (hfew : ls.length ≤ 1000) (hl : ∀ l ∈ ls, ∃ ys, s.heap.IsList l ys)
    (h : ∀ h' z TI TO its, ZAt h' 0 z TI TO its ls → (∀ c o, s.heap.get? c = some o → h'.get? c = some o) → s.heap.objs.size ≤ z → s.heap.objs.size ≤ TI → s.heap.objs.size ≤ TO → (∀ a ∈ its, s.heap.objs.size ≤ a) → Q (.ref z) { s with heap := h' }) :
    wpAny (model prog w) A (call (.type "zip") (ls.map Value.ref)) Q E s := by
  obtain ⟨a, r, rfl⟩ : ∃ a r, ls = a :: r := by
    cases ls with
    | nil => exact absurd rfl hne
    | cons a r => exact ⟨a, r, rfl⟩
  refine callType_new F.called_zip (by decide) (typeCall_zipN _) (newCall_zipN _ _) (fun obj => args_object_initN obj _) F.entry_zip_new (meets_zipN (a :: r) hne hfew) ⟨hl, fun h' z TI TO its Z k b1 b2 b3 b4 => ?_⟩
  exact ⟨zt_type Z (s := { s with heap := h' }), h h' z TI TO its Z k b1 b2 b3 b4⟩
end
end K44.Zs
set_option maxHeartbeats 4000000
namespace K44.Zs
open PySem PySem.Spec PyProof.Rows L2
/-- the lists at ls as they stand at each turn, the items in new tuples -/
def Itzs (K : PySem.W.Frag) (ls : List Addr) : It :=
  ⟨fun i H => ∃ vs : List V, vs.length = ls.length ∧ ∀ (k : Nat) (l : Addr) (x : V), ls[k]? = some l → vs[k]? = some x → ∃ xs, SqL K H l xs ∧ xs[i]? = some x,
    fun i H v H' => ∃ (T : Addr) (vs : List V), v = .ref T ∧ H T = none ∧ H' = upd H T (.tup vs) ∧ vs.length = ls.length ∧ ∀ (k : Nat) (l : Addr) (x : V), ls[k]? = some l → vs[k]? = some x → ∀ xs, SqL K H l xs → xs[i]? = some x,
    fun i H => ∃ (l : Addr) (xs : List V), ls[0]? = some l ∧ SqL K H l xs ∧ xs.length ≤ i⟩
theorem go_name {M : Model} {A : Around} {E : Value → Shared → Prop} {s : Shared} {x : Str} {p : Pos} {it u : Value} {Q : Unit → Shared → Prop} (h : Q () s) : wpAny M A (letOwnedTupleGo (.Name x p) it u) Q E s := wpAny_pure h
theorem vals_at : ∀ {vs : List V} (f : ∀ (k : Nat) (x : V), vs[k]? = some x → ∃ u, RelV x u), ∃ us, Vals vs us
  | [], _ => ⟨[], .nil⟩
  | x :: r, f => by
    obtain ⟨u, ru⟩ := f 0 x rfl
    obtain ⟨us, rus⟩ := vals_at (vs := r) fun k y e => f (k + 1) y e
    exact ⟨u :: us, .cons ru rus⟩
theorem vals_pick {P : Nat → V → Value → Prop} : ∀ {vs : List V} (j : Nat) (f : ∀ (k : Nat) (x : V), vs[k]? = some x → ∃ u, RelV x u ∧ P (j + k) x u), ∃ us, Vals vs us ∧ ∀ (k : Nat) (x : V) (u : Value), vs[k]? = some x → us[k]? = some u → P (j + k) x u
  | [], _, _ => ⟨[], .nil, fun _ _ _ e => by simp at e⟩
  | x :: r, j, f => by
    obtain ⟨u, ru, pu⟩ := f 0 x rfl
    obtain ⟨us, rus, ps⟩ := vals_pick (P := P) (vs := r) (j + 1) fun k y e => by
      have q := f (k + 1) y e
      rw [show j + 1 + k = j + (k + 1) by omega]
      exact q
    refine ⟨u :: us, .cons ru rus, fun k y v e1 e2 => ?_⟩
    cases k with
    | zero =>
      obtain rfl : x = y := Option.some.inj e1
      obtain rfl : u = v := Option.some.inj e2
      exact pu
    | succ k =>
      have q := ps k y v e1 e2
      rw [show j + 1 + k = j + (k + 1) by omega] at q
      exact q
theorem turn_zipN {P : Program} {w : World} {K : PySem.W.Frag} {x : Str} {p : Pos} {z TI TO : Addr} {its ls : List Addr} :
    Turn P w K (.Name x p) (Itzs K ls) (z :: TI :: TO :: its) z (fun i h => ZAt h i z TI TO its ls) where
  mem := List.mem_cons_self
  obj := fun i h st c hc => by
    obtain ⟨⟨f0, f1, hz, _⟩, hTI, ⟨kept, hTO, _⟩, _, hlen, _, _, _, ii⟩ := st
    rcases List.mem_cons.mp hc with rfl | hc
    · exact ⟨_, hz, fun v q => nomatch q⟩
    · rcases List.mem_cons.mp hc with rfl | hc
      · exact ⟨_, hTI, fun v q => nomatch q⟩
      · rcases List.mem_cons.mp hc with rfl | hc
        · exact ⟨_, hTO, fun v q => nomatch q⟩
        · obtain ⟨k, hk, e⟩ := List.mem_iff_getElem.mp hc
          have e1 : its[k]? = some c := by rw [List.getElem?_eq_getElem hk, e]
          have e2 : ls[k]? = some ls[k] := List.getElem?_eq_getElem (by omega)
          obtain ⟨o, q1, _, q3⟩ := ii k c _ e1 e2
          exact ⟨o, q1, fun v q => by rw [q3] at q; cases q⟩
  keep := fun i h h' st k => by
    obtain ⟨⟨f0, f1, hz, h0⟩, hTI, ⟨kept, hTO, hk⟩, ne, hlen, hs, hf, nd, ii⟩ := st
    refine ⟨⟨f0, f1, k z (by simp) _ hz, h0⟩, k TI (by simp) _ hTI, ⟨kept, k TO (by simp) _ hTO, hk⟩, ne, hlen, hs, hf, nd, fun j a l e1 e2 => (ii j a l e1 e2).at fun o q => k a ?_ o q⟩
    exact List.mem_cons_of_mem _ (List.mem_cons_of_mem _ (List.mem_cons_of_mem _ (List.mem_of_getElem? e1)))
  item := by
    intro X hP hw hK hc i pins s σ H E I hf st hg
    subst hP hw hK
    obtain ⟨vs, hvl, hv⟩ := hg
    have hlen := st.len
    obtain ⟨us, rv, hu⟩ := vals_pick (P := fun k _ u => ∀ l, ls[k]? = some l → ∃ ys : Array Value, s.heap.IsList l ys ∧ ys[i]? = some u) (vs := vs) 0 fun k x e => by
      have hk : k < ls.length := by rw [← hvl]; exact (List.getElem?_eq_some_iff.mp e).1
      obtain ⟨xs, hq, hx⟩ := hv k _ x (List.getElem?_eq_getElem hk) e
      obtain ⟨its', r, pl, _⟩ := I.list hq
      obtain ⟨u, hu, ru⟩ := r.get hx
      refine ⟨u, ru, fun l el => ?_⟩
      rw [Nat.zero_add, List.getElem?_eq_getElem hk] at el
      cases el
      exact ⟨its'.toArray, pl.isList, by simpa using hu⟩
    have hul : us.length = its.length := by rw [← rv.length, hvl, hlen]
    have zlt : z < s.heap.objs.size := by obtain ⟨_, _, q, _⟩ := st.hz; exact Heap.lt_size q
    refine pyNext_item st hul (fun k l u e1 e2 => ?_) fun h' Z' hT hsz hk => ?_
    · have hk2 : k < vs.length := by rw [hvl]; exact (List.getElem?_eq_some_iff.mp e1).1
      have q := hu k _ u (List.getElem?_eq_getElem hk2) e2 l
      rw [Nat.zero_add] at q
      exact q e1
    · refine ⟨_, rfl, go_name ?_⟩
      have new : ObjOk X.prog X.w (upd H s.heap.objs.size (.tup vs)) h' s.heap.objs.size (.tup vs) :=
        ⟨by rw [hvl, ← hlen]; exact Nat.le_trans st.few (by decide), us, rv, ⟨_, hT, rfl, _, rfl⟩⟩
      have I1 : Inv X pins σ (upd H s.heap.objs.size (.tup vs)) { s with heap := h' } :=
        I.turnedNew (t' := s.toks) (ch := z :: TI :: TO :: its) (fun c o hb q => hk c o (fun e => hb (by simp [e])) (fun e => hb (by simp [e])) (fun e => hb (by simp [e])) q) hf (Nat.le_refl _) new
      refine ⟨.ref s.heap.objs.size, _, I1, rfl, ⟨_, vs, rfl, I.hok.fresh (Nat.le_refl _), rfl, hvl, fun k l y e1 e2 xs hq => ?_⟩, Z', fun c hcm => ?_⟩
      · obtain ⟨ys, q1, q2⟩ := hv k l y e1 e2
        rw [I.list_inj hq q1]
        exact q2
      · obtain ⟨o, q, _⟩ : ∃ o, s.heap.get? c = some o ∧ True := by
          obtain ⟨⟨f0, f1, hz, _⟩, hTI, ⟨kept, hTO, _⟩, _, hlen, _, _, _, ii⟩ := st
          rcases List.mem_cons.mp hcm with rfl | hcm
          · exact ⟨_, hz, trivial⟩
          · rcases List.mem_cons.mp hcm with rfl | hcm
            · exact ⟨_, hTI, trivial⟩
            · rcases List.mem_cons.mp hcm with rfl | hcm
              · exact ⟨_, hTO, trivial⟩
              · obtain ⟨k, hk, e⟩ := List.mem_iff_getElem.mp hcm
                obtain ⟨o, q1, _⟩ := ii k c _ (by rw [List.getElem?_eq_getElem hk, e]) (List.getElem?_eq_getElem (by omega))
                exact ⟨o, q1, trivial⟩
        rw [upd_ne (Nat.ne_of_lt (Heap.lt_size q))]
        exact (hf c hcm).1
  done := by
    intro X hP hw hK hc i pins s σ H E I hf st hg
    subst hP hw hK
    obtain ⟨l, xs, e0, hq, hx⟩ := hg
    obtain ⟨its', r, pl, _⟩ := I.list hq
    have hl := r.length
    exact pyNext_end (I.ok.hd hc) st e0 pl.isList (by simp; omega) fun h' hk => ⟨rfl, I.turnedL (t' := s.toks) (ch := z :: TI :: TO :: its) (fun c o hb q =>
      hk c o (fun e => hb (by simp [e])) (fun e => hb (by simp [e])) (fun e => hb (by simp [e])) q) hf⟩
  self := fun A i s Q E st h => pyIter_zipN st h
/-- zip(*xs), xs a list of lists -/
def iZipS (K : PySem.W.Frag) (te : TE) : TI := fun σ H R => te σ H fun x H1 => ∃ (a : Addr) (ls : List Addr), x = .ref a ∧ SqL K H1 a (ls.map V.ref) ∧ ls ≠ [] ∧ ls.length ≤ 1000 ∧ (∀ l ∈ ls, ∃ xs, SqL K H1 l xs) ∧ R (Itzs K ls) H1
theorem callWith_typeS {M : Model} {A : Around} {E : Value → Shared → Prop} {s : Shared} {pos : Pos} {T : String} {x : Sem Value} {Q : Value → Shared → Prop}
    (h : wpAny M A x (fun v s1 => PySem.W.StarOf M A E v (fun vs s2 => wpAny M A (call (.type T) vs) Q E s2) s1) E s) :
    wpAny M A (callWith pos (.type T) [] [(true, (do let v ← x; standAt pos; pure v))] []) Q E s := by
  unfold callWith
  refine wpAny_bind (wpAny_holding (wpAny_mono (PySem.W.ks_lone (Q := fun a s2 => a.kw = [] ∧ wpAny M A (call (.type T) a.pos) Q E s2) (wpAny_mono h (fun v s1 h1 => wpAny_mono (show wpAny M A (notIterableAtAll v) _ E s1 from h1) (fun b s2 h2 => ⟨h2.1, wpAny_mono h2.2 (fun vs s3 h3 => ⟨rfl, h3⟩) fun _ _ q => q⟩) fun _ _ q => q) fun _ _ q => q)) (fun a s1 h1 => wpAny_bind (wpAny_standAt ?_)) fun _ _ q => q))
  obtain ⟨kw, h1⟩ := h1
  simp only [List.any_cons, Bool.true_or]
  refine wpAny_bind (wpAny_pure ?_)
  rw [kw]
  exact wpAny_bind (wpAny_operateT (wpAny_mono h1 (fun r s2 hr => wpAny_bind (wpAny_holding (wpAny_point (wpAny_pure hr)))) fun _ _ q => q))
end K44.Zs
set_option maxHeartbeats 4000000
namespace K44
open PySem PySem.Spec PyProof.Rows L2
theorem vals_refs_inv : ∀ {ls : List Addr} {us : List Value}, Vals (ls.map V.ref) us → us = ls.map Value.ref
  | [], _, .nil => rfl
  | a :: r, _, .cons q t => by
    rw [vals_refs_inv t]
    have e : _ = Value.ref a := q
    rw [e]
    rfl
theorem pi_zipS {X : Cx} {e : Expr} {te : TE} {p p2 p3 pos : Pos} {x : Str} (hg : Gl X "zip") (hm : X.mg "zip" = none) (he : PE X e te)
    (hs : backTo pos (starEach [.Starred e p3] X.env) = [(true, (do let v ← eval e X.env; standAt pos; pure v))] := by rfl) :
    PI X (.Name x p) (.Call (.Name "zip" p2) [.Starred e p3] [] pos) (Zs.iZipS X.K te) := by
  refine ⟨fun pins s σ H R I h => ?_⟩
  refine Call_ (ld_blt I hg hm PyProof.Rows.boot_zip ?_)
  rw [hs]
  refine Zs.callWith_typeS (thn (he.run pins s σ H _ I h) fun v s1 ⟨x1, H1, I1, r1, q1⟩ => ?_)
  obtain ⟨a, ls, ex, hq, hne, hfew, hl, q⟩ := q1
  subst ex
  obtain rfl : v = Value.ref a := r1
  refine StX.star_any I1 (.inr hq) fun us s2 I2 rv => ?_
  obtain rfl := vals_refs_inv rv
  refine Zs.call_zipN hne hfew (fun l hl2 => ?_) fun h' z TI TO its Z k b1 b2 b3 b4 => ?_
  · obtain ⟨xs, hx⟩ := hl l hl2
    obtain ⟨ys, _, pl, _⟩ := I2.list hx
    exact ⟨_, pl.isList⟩
  · refine Zs.pyIter_zipN (s := { s2 with heap := h' }) Z ?_
    have I3 : Inv X pins σ H1 { s2 with heap := h' } := I2.kept (t' := s2.toks) k
    refine ⟨z, z :: TI :: TO :: its, _, _, H1, rfl, I3, Zs.turn_zipN, Z, fun c hc => ?_, q⟩
    have hle : s2.heap.objs.size ≤ c := by
      rcases List.mem_cons.mp hc with rfl | hc
      · exact b1
      · rcases List.mem_cons.mp hc with rfl | hc
        · exact b2
        · rcases List.mem_cons.mp hc with rfl | hc
          · exact b3
          · exact b4 c hc
    exact I2.fpOk hle (I2.hok.fresh hle)
/-! ### slices with a step -/
/-- the places that a slice takes -/
def stpIx (lo hi : Option Int) (st : Int) (n : Nat) : List Nat := let b := sliceBounds lo hi (some st) n; sliceRange b.1 b.2.1 b.2.2
def stpV (xs : List V) (lo hi : Option Int) (st : Int) : List V := (stpIx lo hi st xs.length).filterMap fun k => xs[k]?
def tStp (K : PySem.W.Frag) (te : TE) (tl th ts : TO) : TE := fun σ H Q => te σ H fun x H1 => tl σ H1 fun l H2 => th σ H2 fun u H3 => ts σ H3 fun c H4 =>
  ∃ (a : Addr) (xs : List V) (k : Int), x = .ref a ∧ c = some k ∧ k ≠ 0 ∧ SqL K H4 a xs ∧ (stpV xs l u k).length ≤ sizeLine ∧ ∀ p, H4 p = none → Q (.ref p) (upd H4 p (.lst (stpV xs l u k)))
theorem vals_stp {xs : List V} {its : List Value} (r : Vals xs its) : ∀ ks : List Nat, Vals (ks.filterMap fun k => xs[k]?) (ks.filterMap fun k => its[k]?)
  | [] => .nil
  | k :: ks => by
    cases e : xs[k]? with
    | none =>
      have e2 := Vals.none_of r e
      rw [List.filterMap_cons_none e, List.filterMap_cons_none e2]
      exact vals_stp r ks
    | some x =>
      obtain ⟨u, e2, ru⟩ := r.get e
      rw [List.filterMap_cons_some e, List.filterMap_cons_some e2]
      exact .cons ru (vals_stp r ks)
theorem pick_stp {its : List Value} {lo hi : Option Int} {k : Int} : slicePick its.toArray lo hi (some k) = ((stpIx lo hi k its.length).filterMap fun k => its[k]?).toArray := by
  unfold slicePick
  simp only [List.size_toArray, List.getElem?_toArray]
  rfl
theorem pe_stp {X : Cx} {e : Expr} {te : TE} {lo hi st : Option Expr} {tl th ts : TO} {pos p3 : Pos} (he : PE X e te) (hl : PO X lo tl) (hu : PO X hi th) (hst : PO X st ts)
    (hsub : ∀ ov sv, subscripted (.Slice lo hi st p3) false ov sv = operate [ov, sv] (getItem ov sv) := by intro _ _; with_unfolding_all rfl) : PE X (.Subscript e (.Slice lo hi st p3) pos) (tStp X.K te tl th ts) := by
  refine ⟨fun pins s σ H Q I h => ?_⟩
  refine Subscript_ (thn (he.run pins s σ H _ I h) fun v s1 ⟨x, H1, I1, r1, q1⟩ => ?_)
  refine wpAny_Slice (thn (hl.run pins s1 σ H1 _ I1 q1) fun vl s2 ⟨l, H2, I2, pl, q2⟩ => ?_)
  refine thn (hu.run pins s2 σ H2 _ I2 q2) fun vu s3 ⟨u, H3, I3, pu, q3⟩ => ?_
  refine thn (hst.run pins s3 σ H3 _ I3 q3) fun vs s4 ⟨c, H4, I4, ps, q4⟩ => ?_
  obtain ⟨a, xs, k, ex, ec, hk, hx, hn, q⟩ := q4
  subst ex ec
  cases r1
  have I5 : Inv X pins σ H4 { s4 with heap := s4.heap.push { cls := .type "slice", data := .fields #[vl, vu, vs] } } := I4.kept (t' := s4.toks) fun b ob q => Heap.get?_push_of_some _ q
  obtain ⟨its, r, ht, hz⟩ := I5.list hx
  have hlen := r.length
  show wpAny (model X.prog X.w) X.A (subscriptTail e (.Slice lo hi st p3) (.ref a) (.ref s4.heap.objs.size)) (EP X pins σ Q) X.xe { s4 with heap := s4.heap.push { cls := .type "slice", data := .fields #[vl, vu, vs] } }
  refine tail_any (ops := [.ref a, .ref s4.heap.objs.size]) ht.isList.typeIs (PySem.slot_list_getitem.lookup) ?_ (hsub _ _)
  refine wpAny_getItem_list_slice ht.isList (Heap.IsSliceOf.new _ vl vu vs) pl pu ps (by intro z; exact hk (Option.some.inj z)) ?_ (by rw [List.size_toArray]; omega)
  rw [pick_stp]
  refine ⟨.ref _, _, I5.laid (t' := s4.toks) (o := .lst (stpV xs l u k)) (fun b ob q => Heap.get?_push_of_some _ q) (Nat.le_refl _) ?_, rfl, q _ (I5.hok.fresh (Nat.le_refl _))⟩
  refine ⟨hn, _, 0, ?_, Heap.get?_push_size _ rfl⟩
  unfold stpV
  rw [hlen]
  exact vals_stp r _
end K44
set_option maxHeartbeats 4000000
namespace K44
open PySem PySem.Spec PyProof.Rows L2
/-! ### a range with a step, as a value -/
def rngO (a : Addr) (i j c : Int) : HO := .ext fun h => ∃ t u v : Tok, h.get? a = some { cls := .type "range", data := .fields #[.int i t, .int j u, .int c v] }
def tRng3 (ta : TA) : TE := fun σ H Q => ta σ H fun vs H1 => ∃ (i j c : Int) (n : Nat), vs = [.int i, .int j, .int c] ∧ RgC i j c n ∧ ∀ p, H1 p = none → Q (.ref p) (upd H1 p (rngO p i j c))
def iRngV (te : TE) : TI := fun σ H R => te σ H fun x H1 => ∃ (a : Addr) (i j c : Int) (n : Nat), x = .ref a ∧ H1 a = some (rngO a i j c) ∧ RgC i j c n ∧ R (Itc i c n) H1
section
variable {X : Cx}
theorem pe_rng {a b c : Expr} {ta : TA} {p pos : Pos} (hg : Gl X "range") (hm : X.mg "range" = none) (ha : PA X [a, b, c] ta)
    (hs : starEach [a, b, c] X.env = (false, eval a X.env) :: starEach [b, c] X.env := by rfl) (hpl : (backTo pos (starEach [b, c] X.env)).any (·.1) = false := by rfl) :
    PE X (.Call (.Name "range" p) [a, b, c] [] pos) (tRng3 ta) := by
  refine ⟨fun pins s σ H Q I h => ?_⟩
  refine Call_ (ld_blt I hg hm boot_range (PyProof.Rows.callWith_type1 (thn (ha.run pos pins s σ H _ I h) fun us s1 ⟨vs, H1, I1, r1, q1⟩ => ?_) hs hpl))
  obtain ⟨i, j, k, n, e, ⟨c0, c1, c2, c3⟩, q⟩ := q1
  subst e
  cases r1 with
  | cons r rr =>
    cases rr with
    | cons r' rr =>
      cases rr with
      | cons r'' rr =>
        cases rr
        obtain ⟨t, rfl⟩ := r
        obtain ⟨t', rfl⟩ := r'
        obtain ⟨t'', rfl⟩ := r''
        refine call_range_3 c0 ?_ (.inl (PyProof.noPylong_small c1))
        refine ⟨.ref s1.heap.objs.size, _, I1.laid (t' := s1.toks) (o := rngO s1.heap.objs.size i j k) (fun b o e => Heap.get?_push_of_some _ e) (Nat.le_refl _) ?_, rfl, q _ (I1.hok.fresh (Nat.le_refl _))⟩
        have g := Heap.get?_push_size s1.heap (o := { cls := .type "range", data := .fields #[.int i t, .int j t', .int k t''] }) rfl
        exact ⟨⟨t, t', t'', g⟩, ⟨_, g⟩, fun h1 h2 ⟨a1, a2, a3, e⟩ st => ⟨a1, a2, a3, st _ e⟩⟩
theorem pi_rngV {tg e : Expr} {te : TE} (he : PE X e te) : PI X tg e (iRngV te) := by
  refine ⟨fun pins s σ H R I h => ?_⟩
  refine thn (he.run pins s σ H _ I h) fun v s1 ⟨x, H1, I1, r1, q1⟩ => ?_
  obtain ⟨a, i, j, k, n, ex, ha, ⟨c0, c1, c2, c3⟩, q⟩ := q1
  subst ex
  obtain rfl : v = Value.ref a := r1
  obtain ⟨⟨t, t', t'', g⟩, _⟩ := I1.hok a _ ha
  refine wpAny_pyIter_range (s := s1) (a := i) (b := j) (c := k) (show IsRange s1.heap a i j k t t' t'' from g) c2 ?_
  refine pi_one (tk := s1.toks) I1 _ (turn_rangeC _ i k n) ?_ q
  have e1 : i + ((0 : Nat) : Int) * k = i := by simp
  have e2 : (n : Int) - ((0 : Nat) : Int) = Builtin.Range.rangeSize i j k := by rw [c3]; simp
  show IsRangeIter _ _ (i + ((0 : Nat) : Int) * k) ((n : Int) - ((0 : Nat) : Int)) k
  rw [e1, e2]
  exact Heap.get?_push_size _ rfl
end
/-! ### loops and comprehensions over whatever comes n times -/
theorem for_by {J : It} {n : Nat} {g : TG} {tb : TS} {D : Ends} {σ : L2.St} {H : Hp} (Pv : Nat → L2.St → Hp → Prop) (h0 : Pv 0 σ H) (go : ∀ i σ H, i < n → Pv i σ H → J.go i H) (stop : ∀ σ H, Pv n σ H → J.stop n H)
    (hs : ∀ i x σ H H', i < n → Pv i σ H → J.yld i H x H' → g x σ H' fun σ2 H2 => tb { D with nx := Pv (i + 1), ct := Pv (i + 1), bk := D.nx } σ2 H2) (hd : ∀ σ H, Pv n σ H → D.nx σ H) :
    ∃ W : Nat → Nat → L2.St → Hp → Prop, (∃ m, W 0 m σ H) ∧ ∀ i m σ H, W i m σ H →
      (J.stop i H ∧ D.nx σ H) ∨ (J.go i H ∧ ∃ N : L2.St → Hp → Prop, (∀ σ' H', N σ' H' → ∃ m', m' < m ∧ W (i + 1) m' σ' H') ∧ ∀ x H', J.yld i H x H' → g x σ H' fun σ2 H2 => tb { D with nx := N, ct := N, bk := D.nx } σ2 H2) := by
  refine ⟨fun i m σ H => m = n - i ∧ i ≤ n ∧ Pv i σ H, ⟨n, by simp, Nat.zero_le _, h0⟩, ?_⟩
  rintro i m σ H ⟨rfl, hi, p⟩
  by_cases hlt : i < n
  · exact .inr ⟨go i σ H hlt p, Pv (i + 1), fun σ' H' p' => ⟨n - (i + 1), by omega, rfl, hlt, p'⟩, fun x H' y => hs i x σ H H' hlt p y⟩
  · obtain rfl : i = n := by omega
    exact .inl ⟨stop σ H p, hd σ H p⟩
theorem lc_by {J : It} {n : Nat} {g : TG} {tt : TT} {te : TE} {vs : List Nat} {σ : L2.St} {H1 : Hp} {D : Addr} {Qd : Hp → Prop} (Pv : Nat → Hp → Prop) (h0 : Pv 0 (upd H1 D (.lst []))) (go : ∀ i H, i < n → Pv i H → J.go i H) (stop : ∀ H, Pv n H → J.stop n H)
    (hs : ∀ i x H H', i < n → Pv i H → J.yld i H x H' → g x (wipe σ vs) H' fun σ2 H2 => wipe σ2 vs = wipe σ vs ∧ tt σ2 H2 fun b H3 =>
      if b = true then te σ2 H3 fun y H4 => ∃ acc, H4 D = some (.lst acc) ∧ acc.length < sizeLine ∧ Pv (i + 1) (upd H4 D (.lst (acc ++ [y]))) else Pv (i + 1) H3) (hd : ∀ H, Pv n H → Qd H) :
    ∃ W : Nat → Nat → Hp → Prop, (∃ m, W 0 m (upd H1 D (.lst []))) ∧ ∀ i m H, W i m H →
      (J.stop i H ∧ Qd H) ∨ (J.go i H ∧ ∃ Nx : Hp → Prop, (∀ H', Nx H' → ∃ m', m' < m ∧ W (i + 1) m' H') ∧ ∀ x H', J.yld i H x H' → g x (wipe σ vs) H' fun σ2 H2 => wipe σ2 vs = wipe σ vs ∧ tt σ2 H2 fun b H3 =>
        if b = true then te σ2 H3 fun y H4 => ∃ acc, H4 D = some (.lst acc) ∧ acc.length < sizeLine ∧ Nx (upd H4 D (.lst (acc ++ [y]))) else Nx H3) := by
  refine ⟨fun i m H => m = n - i ∧ i ≤ n ∧ Pv i H, ⟨n, by simp, Nat.zero_le _, h0⟩, ?_⟩
  rintro i m H ⟨rfl, hi, p⟩
  by_cases hlt : i < n
  · exact .inr ⟨go i H hlt p, Pv (i + 1), fun H' p' => ⟨n - (i + 1), by omega, rfl, hlt, p'⟩, fun x H' y => hs i x H H' hlt p y⟩
  · obtain rfl : i = n := by omega
    exact .inl ⟨stop H p, hd H p⟩
/-- a module's table -/
theorem tabG {X : Cx} {x : Str} {a : Addr} {pos : Pos} (hm : X.mg x = some (.ref a)) (hg : Gl X x := by rfl) (hd : (x == ("__debug__" : Str)) = false := by decide) : PE X (.Name x pos) (tC (.ref a)) := pe_glob hg hm rfl hd
/-! ### the layer's rules with the written part by name: in a comprehension's block too -/
section
variable {X : Cx} (K : PySem.W.Frag)
theorem ixL (hK : X.K = K := by rfl) : IxR X (rIxL K) := by subst hK; exact ix_list
theorem ixT (hK : X.K = K := by rfl) : IxR X (rIxT K) := by subst hK; exact ix_tup
theorem slL (hK : X.K = K := by rfl) : SlR X (rSlL K) := by subst hK; exact sl_list
theorem slT (hK : X.K = K := by rfl) : SlR X (rSlT K) := by subst hK; exact sl_tup
theorem lenK (hK : X.K = K := by rfl) : CallR X (.builtin "len") (fun xs H Q => ∃ p ys, xs = [.ref p] ∧ (SqL K H p ys ∨ SqT K H p ys) ∧ Q (.int ys.length) H) := by subst hK; exact call_len_seq
theorem listK (hK : X.K = K := by rfl) : CallR X (.type "list") (fun xs H Q => ∃ p ys, xs = [.ref p] ∧ (SqL K H p ys ∨ SqT K H p ys) ∧ ∀ l, H l = none → Q (.ref l) (upd H l (.lst ys))) := by subst hK; exact call_list_of
theorem piL {tg l : Expr} {tl : TE} (hl : PE X l tl) (hK : X.K = K := by rfl) : PI X tg l (iList K tl) := by subst hK; exact pi_list hl
theorem piT {tg l : Expr} {tl : TE} (hl : PE X l tl) (hK : X.K = K := by rfl) : PI X tg l (iTup K tl) := by subst hK; exact pi_tup hl
theorem fldK {f : Str} {e : Expr} {pos : Pos} {ta : TE} (he : PE X e ta) (hb : attributeBase e f X.env (eval e X.env) = eval e X.env) (hK : X.K = K := by rfl) : PE X (.Attribute e f pos) (tFld K ta f) := by subst hK; exact pe_fld he hb
theorem stpK {e : Expr} {te : TE} {lo hi st : Option Expr} {tl th ts : TO} {pos p3 : Pos} (he : PE X e te) (hl : PO X lo tl) (hu : PO X hi th) (hst : PO X st ts)
    (hsub : ∀ ov sv, subscripted (.Slice lo hi st p3) false ov sv = operate [ov, sv] (getItem ov sv) := by intro _ _; with_unfolding_all rfl) (hK : X.K = K := by rfl) : PE X (.Subscript e (.Slice lo hi st p3) pos) (tStp K te tl th ts) := by subst hK; exact pe_stp he hl hu hst hsub
theorem piZ {e e2 : Expr} {ta : TA} {p pos tpos : Pos} {elts : List Expr} {kk : Nat} (hg : Gl X "zip") (hm : X.mg "zip" = none) (ha : PA X [e, e2] ta)
    (hs : starEach [e, e2] X.env = (false, eval e X.env) :: starEach [e2] X.env := by rfl) (hpl : (backTo pos (starEach [e2] X.env)).any (·.1) = false := by rfl) (hK : X.K = K := by rfl) :
    PI X (.Tuple elts kk tpos) (.Call (.Name "zip" p) [e, e2] [] pos) (iZip K ta) := by subst hK; exact pi_zip hg hm ha hs hpl
theorem piE {e : Expr} {ta : TA} {p pos tpos : Pos} {elts : List Expr} {kk : Nat} (hg : Gl X "enumerate") (hm : X.mg "enumerate" = none) (ha : PA X [e] ta) (hs : starEach [e] X.env = [(false, eval e X.env)] := by rfl) (hK : X.K = K := by rfl) :
    PI X (.Tuple elts kk tpos) (.Call (.Name "enumerate" p) [e] [] pos) (iEnum K ta) := by subst hK; exact pi_enum hg hm ha hs
theorem piS {e : Expr} {te : TE} {p p2 p3 pos : Pos} {x : Str} (hg : Gl X "zip") (hm : X.mg "zip" = none) (he : PE X e te)
    (hs : backTo pos (starEach [.Starred e p3] X.env) = [(true, (do let v ← eval e X.env; standAt pos; pure v))] := by rfl) (hK : X.K = K := by rfl) :
    PI X (.Name x p) (.Call (.Name "zip" p2) [.Starred e p3] [] pos) (Zs.iZipS K te) := by subst hK; exact pi_zipS hg hm he hs
/-- a, b = a pair -/
theorem pg_two {i j : Nat} {x y : Str} {k : Nat} {px py pos : Pos} (hc : X.calm = true) (hN : X.N.Nodup) (hi : X.N[i]? = some x) (hj : X.N[j]? = some y) (hx : Loc X.env.scope x) (hy : Loc X.env.scope y)
    (hf : X.fn x = true ∨ X.env.scope.names.lookup x = some .local := by first | exact .inl rfl | exact .inr rfl) (hg : X.fn y = true ∨ X.env.scope.names.lookup y = some .local := by first | exact .inl rfl | exact .inr rfl) (hK : X.K = K := by rfl) :
    PG X (.Tuple [.Name x px, .Name y py] k pos) (gTup K 2 (gCons (gName i) (gCons (gName j) gNil))) := by
  subst hK
  exact pg_tup hc (pgs_cons (pg_name hN hi hx hf) (pgs_cons (pg_name hN hj hy hg) pgs_nil))
end
/-! ### heaps -/
theorem same_upd {H : Hp} {p : Addr} {o : HO} (h : H p = none) : Same H (upd H p o) := fun b x e => by
  rw [upd_ne (ne_of_none e h)]
  exact e
/-- an object that H does not hold may change -/
theorem same_mut {H H' : Hp} {p : Addr} {o : HO} (s : Same H H') (h : H p = none) : Same H (upd H' p o) := fun b x e => by
  rw [upd_ne (ne_of_none e h)]
  exact s b x e
theorem same_seqT {K : PySem.W.Frag} {H H' : Hp} {a : Addr} {xs : List V} (e : Same H H') (h : SqT K H a xs) : SqT K H' a xs := by
  rcases h with (h | ⟨o, h⟩) | h
  · exact .inl (.inl (e _ _ h))
  · exact .inl (.inr ⟨o, e _ _ h⟩)
  · exact .inr h
theorem sz {n : Nat} (h : n ≤ 100000) : n ≤ sizeLine := Nat.le_trans h (by decide)
theorem szl {n : Nat} (h : n < 100000) : n < sizeLine := Nat.lt_of_lt_of_le h (by decide)
/-- f 0, .., f (m - 1) as ints -/
def rowV (f : Nat → Int) (m : Nat) : List V := (List.range m).map fun j => V.int (f j)
def refV (rs : Nat → Addr) (n : Nat) : List V := (List.range n).map fun i => V.ref (rs i)
theorem rowV_len {f : Nat → Int} {m : Nat} : (rowV f m).length = m := by unfold rowV; rw [List.length_map, List.length_range]
theorem refV_len {f : Nat → Addr} {m : Nat} : (refV f m).length = m := by unfold refV; rw [List.length_map, List.length_range]
theorem rowV_get {f : Nat → Int} {m j : Nat} (h : j < m) : (rowV f m)[j]? = some (.int (f j)) := by unfold rowV; simp [h]
theorem refV_get {f : Nat → Addr} {m j : Nat} (h : j < m) : (refV f m)[j]? = some (.ref (f j)) := by unfold refV; simp [h]
theorem rowV_succ {f : Nat → Int} {m : Nat} : rowV f (m + 1) = rowV f m ++ [.int (f m)] := by unfold rowV; rw [List.range_succ, List.map_append]; rfl
theorem refV_succ {f : Nat → Addr} {m : Nat} : refV f (m + 1) = refV f m ++ [.ref (f m)] := by unfold refV; rw [List.range_succ, List.map_append]; rfl
theorem rowV_ext {f g : Nat → Int} {m : Nat} (h : ∀ j, j < m → f j = g j) : rowV f m = rowV g m := by
  unfold rowV
  apply List.map_congr_left
  intro j hj
  rw [h j (List.mem_range.mp hj)]
theorem refV_ext {f g : Nat → Addr} {m : Nat} (h : ∀ j, j < m → f j = g j) : refV f m = refV g m := by
  unfold refV
  apply List.map_congr_left
  intro j hj
  rw [h j (List.mem_range.mp hj)]
theorem rowV_set {f : Nat → Int} {m j : Nat} {v : Int} : (rowV f m).set j (.int v) = rowV (fun k => if k = j then v else f k) m := by
  apply List.ext_getElem?
  intro k
  by_cases hk : k < m
  · rw [rowV_get hk, List.getElem?_set]
    by_cases e : j = k
    · subst e
      simp [rowV_len, hk]
    · rw [if_neg e, rowV_get hk, if_neg (Ne.symm e)]
  · rw [List.getElem?_eq_none (by rw [List.length_set, rowV_len]; omega), List.getElem?_eq_none (by rw [rowV_len]; omega)]
theorem rowV_map (f : Nat → Int) (m : Nat) : rowV f m = ((List.range m).map f).map V.int := by unfold rowV; rw [List.map_map]; rfl
theorem rowV_of (l : List Int) : l.map V.int = rowV (fun j => l.getD j 0) l.length := by
  apply List.ext_getElem?
  intro k
  by_cases hk : k < l.length
  · rw [rowV_get hk]; simp [hk]
  · rw [List.getElem?_eq_none (by rw [List.length_map]; omega), List.getElem?_eq_none (by rw [rowV_len]; omega)]
/-- rows of ints, n of them, each m long; the rows stand at rs -/
structure Grid (H : Hp) (a : Addr) (rs : Nat → Addr) (n m : Nat) (f : Nat → Nat → Int) : Prop where
  top : H a = some (.lst (refV rs n))
  row : ∀ i, i < n → H (rs i) = some (.lst (rowV (f i) m))
  inj : ∀ i j, i < n → j < n → rs i = rs j → i = j
section
variable {H H' : Hp} {a : Addr} {rs : Nat → Addr} {n m : Nat} {f g : Nat → Nat → Int}
theorem Grid.same (G : Grid H a rs n m f) (s : Same H H') : Grid H' a rs n m f := ⟨s _ _ G.top, fun i hi => s _ _ (G.row i hi), G.inj⟩
theorem Grid.ext (G : Grid H a rs n m f) (e : ∀ i j, i < n → j < m → f i j = g i j) : Grid H a rs n m g := ⟨G.top, fun i hi => by rw [G.row i hi, rowV_ext (e i · hi)], G.inj⟩
theorem Grid.ne (G : Grid H a rs n m f) (hm : 0 < m) {i : Nat} (hi : i < n) : rs i ≠ a := fun e => by
  have h1 := G.row i hi
  rw [e, G.top] at h1
  have h2 : refV rs n = rowV (f i) m := by injection h1 with h1; injection h1
  have h3 : (refV rs n)[0]? = (rowV (f i) m)[0]? := by rw [h2]
  rw [refV_get (by omega), rowV_get hm] at h3
  cases h3
/-- one cell is stored -/
theorem Grid.put (G : Grid H a rs n m f) {i j : Nat} {v : Int} (hi : i < n) (hj : j < m) : Grid (upd H (rs i) (.lst (rowV (fun k => if k = j then v else f i k) m))) a rs n m (fun p q => if p = i ∧ q = j then v else f p q) := by
  refine ⟨?_, fun p hp => ?_, G.inj⟩
  · rw [upd_ne (G.ne (by omega) hi).symm]
    exact G.top
  · by_cases e : p = i
    · subst e
      rw [upd_same, rowV_ext fun q _ => ?_]
      by_cases e2 : q = j
      · rw [if_pos e2, if_pos ⟨rfl, e2⟩]
      · rw [if_neg e2, if_neg fun z => e2 z.2]
    · rw [upd_ne fun z => e (G.inj _ _ hp hi z), G.row p hp, rowV_ext fun q _ => ?_]
      rw [if_neg fun z => e z.1]
end
/-- a grid that grows row by row at D, all new to H0 -/
structure Rows (H0 H : Hp) (D : Addr) (rs : Nat → Addr) (n m : Nat) (f : Nat → Nat → Int) : Prop where
  grid : Grid H D rs n m f
  new : ∀ i, i < n → H0 (rs i) = none
  newD : H0 D = none
  ne : ∀ i, i < n → rs i ≠ D
  same : Same H0 H
section
variable {H0 H H' : Hp} {D : Addr} {rs : Nat → Addr} {n m : Nat} {f g : Nat → Nat → Int}
theorem Rows.start (h : H D = none) (s : Same H0 H) : Rows H0 (upd H D (.lst [])) D rs 0 m f :=
  ⟨⟨upd_same, fun i hi => absurd hi (Nat.not_lt_zero _), fun i j hi => absurd hi (Nat.not_lt_zero _)⟩, fun i hi => absurd hi (Nat.not_lt_zero _), s.free h, fun i hi => absurd hi (Nat.not_lt_zero _), same_mut s (s.free h)⟩
theorem Rows.go (R : Rows H0 H D rs n m f) (s : Same H H') : Rows H0 H' D rs n m f := ⟨R.grid.same s, R.new, R.newD, R.ne, R.same.trans s⟩
theorem Rows.ext (R : Rows H0 H D rs n m f) (e : ∀ i j, i < n → j < m → f i j = g i j) : Rows H0 H D rs n m g := ⟨R.grid.ext e, R.new, R.newD, R.ne, R.same⟩
/-- the next row, new to H, stands at p -/
theorem Rows.push (R : Rows H0 H D rs n m f) {p : Addr} (s : Same H H') (hp : H p = none) (hr : H' p = some (.lst (rowV (f n) m))) :
    H' D = some (.lst (refV rs n)) ∧ Rows H0 (upd H' D (.lst (refV rs n ++ [.ref p]))) D (fun k => if k = n then p else rs k) (n + 1) m f := by
  have hD := s _ _ R.grid.top
  have nD : p ≠ D := fun e => by rw [e, R.grid.top] at hp; cases hp
  have old : ∀ i, i < n → rs i ≠ p := fun i hi e => by have := R.grid.row i hi; rw [e, hp] at this; cases this
  refine ⟨hD, ⟨?_, fun i hi => ?_, fun i j hi hj e => ?_⟩, fun i hi => ?_, R.newD, fun i hi => ?_, same_mut (R.same.trans s) R.newD⟩
  · rw [upd_same, refV_succ, if_pos rfl, refV_ext fun j hj => ?_]
    rw [if_neg (by omega)]
  · show (upd H' D _) (if i = n then p else rs i) = _
    by_cases e : i = n
    · subst e
      rw [if_pos rfl, upd_ne nD]
      exact hr
    · rw [if_neg e, upd_ne (R.ne i (by omega))]
      exact s _ _ (R.grid.row i (by omega))
  · have e : (if i = n then p else rs i) = if j = n then p else rs j := e
    by_cases e1 : i = n
    · by_cases e2 : j = n
      · omega
      · rw [if_pos e1, if_neg e2] at e
        exact absurd e.symm (old j (by omega))
    · by_cases e2 : j = n
      · rw [if_neg e1, if_pos e2] at e
        exact absurd e (old i (by omega))
      · rw [if_neg e1, if_neg e2] at e
        exact R.grid.inj i j (by omega) (by omega) e
  · show H0 (if i = n then p else rs i) = _
    by_cases e : i = n
    · rw [if_pos e]
      exact R.same.free hp
    · rw [if_neg e]
      exact R.new i (by omega)
  · show (if i = n then p else rs i) ≠ D
    by_cases e : i = n
    · rw [if_pos e]
      exact nD
    · rw [if_neg e]
      exact R.ne i (by omega)
end
/-- a pair of ints -/
def IsPr (H : Hp) (v : V) (p : Int × Int) : Prop := ∃ t, v = .ref t ∧ H t = some (.tup [.int p.1, .int p.2])
theorem prs_same {H H' : Hp} (s : Same H H') {vs : List V} {ps : List (Int × Int)} (h : Paired (IsPr H) vs ps) : Paired (IsPr H') vs ps := L2.Paired.mapP h fun _ _ ⟨t, e, q⟩ => ⟨t, e, s _ _ q⟩
theorem prs_app {F : V → Int × Int → Prop} : ∀ {vs ws : List V} {ps qs : List (Int × Int)}, Paired F vs ps → Paired F ws qs → Paired F (vs ++ ws) (ps ++ qs)
  | _, _, _, _, .nil, h => h
  | _, _, _, _, .cons a r, h => .cons a (prs_app r h)
theorem prs_get {F : V → Int × Int → Prop} : ∀ {vs : List V} {ps : List (Int × Int)} {i : Nat} {v : V}, Paired F vs ps → vs[i]? = some v → ∃ p, ps[i]? = some p ∧ F v p
  | _, _, _, _, .nil, e => by simp at e
  | _, _, 0, _, .cons a r, e => by cases e; exact ⟨_, rfl, a⟩
  | _, _, i + 1, _, .cons a r, e => prs_get (i := i) r e
end K44
set_option maxHeartbeats 4000000
namespace K44
open PySem PySem.Spec PyProof.Rows L2
section
variable {P : Program} {w : World} {K : PySem.W.Frag} {mg : Str → Option Value} {base : Heap}
/-! ### small defs on numbers -/
def markV (side row column : Int) : Int := if row = 1 ∨ (column = 1 ∧ row < side / 2) then 1 else 0
def sp_mark : Sp := fun vs H Q _ => ∃ a b c : Int, vs = [.int a, .int b, .int c] ∧ Q (.int (markV a b c)) H
theorem ok_mark_colour (T : Tx K mg) : Keeps P w K mg base 1 "mark_colour" p_mark_colour sp_mark := by
  refine T.d_mark_colour.keeps sc_mark_colour (fun _ _ _ _ _ _ us hl => match us, hl with | [_, _, _], _ => rfl) (fun vs H Q E h => by obtain ⟨a, b, c, rfl, _⟩ := h; rfl) (fun f cdv A outer s H vs Q E hr h => ?_)
  obtain ⟨a, b, c, rfl, q⟩ := h
  refine ⟨_, (pss_one (ps_ret (pe_ifExp (PW.pt (pw_or (pt_cmpR op_eq (pv 1) pe_int (nomark _)) (pw_or1 (PW.pt (pw_and (pt_cmpR op_eq (pv 2) pe_int (nomark _)) (pw_and1 (pt_cmpR op_lt (pv 1) (pe_op op_fdiv (pv 0) pe_int) (nomark _)))))))) (cst T.c_BLACK) (cst T.c_WHITE)))), ?_⟩
  refine ⟨_, rfl, rfl, _, rfl, ite2 (fun e => ?_) (fun e => ?_)⟩
  · have e1 : b = 1 := V.int.inj (of_decide_eq_true e)
    refine iteT ?_
    rw [markV, if_pos (.inl e1)] at q
    exact q
  · have e1 : ¬ b = 1 := fun z => e (decide_eq_true (congrArg V.int z))
    refine ⟨_, rfl, rfl, _, rfl, ite2 (fun e2 => ?_) (fun e2 => ?_)⟩
    · have e3 : c = 1 := V.int.inj (of_decide_eq_true e2)
      refine ⟨_, rfl, _, rfl, _, _, rfl, rfl, ⟨by decide, by decide⟩, _, _, rfl, rfl, _, rfl, ite2 (fun e4 => ?_) (fun e4 => ?_)⟩
      · rw [markV, if_pos (.inr ⟨e3, of_decide_eq_true e4⟩)] at q
        exact q
      · rw [markV, if_neg (fun z => z.elim e1 fun z => e4 (decide_eq_true z.2))] at q
        exact q
    · have e3 : ¬ c = 1 := fun z => e2 (decide_eq_true (congrArg V.int z))
      refine iteF ?_
      rw [markV, if_neg (fun z => z.elim e1 fun z => e3 z.1)] at q
      exact q
theorem ok_law_mark (T : Tx K mg) : Keeps P w K mg base 1 "_law_mark" p__law_mark sp_mark := by
  refine T.d__law_mark.keeps sc__law_mark (fun _ _ _ _ _ _ us hl => match us, hl with | [_, _, _], _ => rfl) (fun vs H Q E h => by obtain ⟨a, b, c, rfl, _⟩ := h; rfl) (fun f cdv A outer s H vs Q E hr h => ?_)
  obtain ⟨a, b, c, rfl, q⟩ := h
  refine ⟨_, (pss_one (ps_ret (pe_callTy call_int1 (by rfl) T.b_int (by decide +kernel) (pa_cons (pe_or (pe_cmpR op_eq (pv 1) pe_int (nomark _)) (pe_one (pe_and (pe_cmpR op_eq (pv 2) pe_int (nomark _)) (pe_one (pe_cmpR op_lt (pv 1) (pe_op op_fdiv (pv 0) pe_int) (nomark _)))))) pa_nil)))), ?_⟩
  refine ⟨_, rfl, rfl, _, rfl, ite2 (fun e => ?_) (fun e => ?_)⟩
  · have e1 : b = 1 := V.int.inj (of_decide_eq_true e)
    rw [markV, if_pos (.inl e1)] at q
    exact .inr ⟨true, rfl, q⟩
  · have e1 : ¬ b = 1 := fun z => e (decide_eq_true (congrArg V.int z))
    refine ⟨_, rfl, rfl, _, rfl, ite2 (fun e2 => ?_) (fun e2 => ?_)⟩
    · have e3 : c = 1 := V.int.inj (of_decide_eq_true e2)
      refine ⟨_, rfl, _, rfl, _, _, rfl, rfl, ⟨by decide, by decide⟩, _, _, rfl, rfl, .inr ⟨_, rfl, ?_⟩⟩
      by_cases e4 : b < a / 2
      · rw [markV, if_pos (.inr ⟨e3, e4⟩)] at q
        rw [if_pos (decide_eq_true e4)]
        exact q
      · rw [markV, if_neg (fun z => z.elim e1 fun z => e4 z.2)] at q
        rw [if_neg fun z => e4 (of_decide_eq_true z)]
        exact q
    · have e3 : ¬ c = 1 := fun z => e2 (decide_eq_true (congrArg V.int z))
      rw [markV, if_neg (fun z => z.elim e1 fun z => e3 z.1)] at q
      exact .inr ⟨false, rfl, q⟩
def sp_thr : Sp := fun vs H Q _ => ∃ s : Int, vs = [.int s] ∧ Q (.int (4 * s - 4 - (s - 1) / 2)) H
theorem ok_frame_threshold (T : Tx K mg) : Keeps P w K mg base 1 "frame_threshold" p_frame_threshold sp_thr := by
  refine T.d_frame_threshold.keeps sc_frame_threshold (fun _ _ _ _ _ _ us hl => match us, hl with | [_], _ => rfl) (fun vs H Q E h => by obtain ⟨a, rfl, _⟩ := h; rfl) (fun f cdv A outer s H vs Q E hr h => ?_)
  obtain ⟨a, rfl, q⟩ := h
  refine ⟨_, (pss_one (ps_ret (pe_op op_sub (pe_op op_sub (pe_op op_mul pe_int (pv 0)) pe_int) (pe_op op_fdiv (pe_op op_sub (pv 0) pe_int) pe_int)))), ?_⟩
  exact ⟨_, rfl, _, _, rfl, rfl, .inl ⟨by decide, by decide⟩, _, _, rfl, rfl, _, rfl, _, _, rfl, rfl, _, _, rfl, rfl, ⟨by decide, by decide⟩, _, _, rfl, rfl, q⟩
end
end K44
set_option maxHeartbeats 4000000
namespace K44
open PySem PySem.Spec PyProof.Rows L2
section
variable {P : Program} {w : World} {K : PySem.W.Frag} {mg : Str → Option Value} {base : Heap}
def gV (g : G) : V := .int (g.v.val : Int)
def sp_cell (K : PySem.W.Frag) : Sp := fun vs H Q _ => ∃ (a : Addr) (ns : List Int) (k : Nat), vs = [.ref a, .int k] ∧ SqL K H a (ns.map V.int) ∧ ∀ z, Q (.int z) H
theorem ok_law_cell (T : Tx K mg) : Keeps P w K mg base 1 "_law_cell" p__law_cell (sp_cell K) := by
  refine T.d__law_cell.keeps sc__law_cell (fun _ _ _ _ _ _ us hl => match us, hl with | [_, _], _ => rfl) (fun vs H Q E h => by obtain ⟨a, ns, k, rfl, _⟩ := h; rfl) (fun f cdv A outer s H vs Q E hr h => ?_)
  obtain ⟨a, ns, k, rfl, hS, q⟩ := h
  refine ⟨_, (pss_cons (ps_if (pt_cmpR op_lt (pv 1) (pe_callB (lenK K) (by rfl) T.b_len PySem.boot_len (pa_cons (pv 0) pa_nil)) (nomark _)) (pss_one (ps_ret (pe_callTy call_int1 (by rfl) T.b_int (by decide +kernel) (pa_cons (pe_ix (ixL K) (pv 0) (pv 1) (fun _ _ => rfl)) pa_nil)))) pss_nil)
      (pss_one (ps_ret pe_int))), ?_⟩
  refine ⟨_, rfl, _, rfl, a, _, rfl, .inl hS, _, _, rfl, rfl, _, rfl, ite2 (fun e => ?_) (fun e => q 0)⟩
  have hk : k < ns.length := by
    have := of_decide_eq_true e
    rw [List.length_map] at this
    omega
  refine ⟨_, rfl, _, rfl, a, _, k, .int (ns[k]), rfl, rfl, hS, atI_nat (by rw [List.getElem?_map, List.getElem?_eq_getElem hk]; rfl), .inl ⟨_, rfl, q _⟩⟩
def sp_mix : Sp := fun vs H Q _ => ∃ c k : Int, vs = [.int c, .int k] ∧ ∀ z, Q (.int z) H
theorem ok_law_mix (T : Tx K mg) : Keeps P w K mg base 1 "_law_mix" p__law_mix sp_mix := by
  refine T.d__law_mix.keeps sc__law_mix (fun _ _ _ _ _ _ us hl => match us, hl with | [_, _], _ => rfl) (fun vs H Q E h => by obtain ⟨a, b, rfl, _⟩ := h; rfl) (fun f cdv A outer s H vs Q E hr h => ?_)
  obtain ⟨a, b, rfl, q⟩ := h
  refine ⟨_, (pss_cons (ps_set (i := 2) sc__law_mix.nd rfl (Or.inl rfl) (pe_op op_mod (pe_callTy call_int1 (by rfl) T.b_int (by decide +kernel) (pa_cons (pe_op op_add (pe_op op_add (pe_op op_mul (pv 0) pe_int) (pe_op op_mul (pv 1) pe_int)) pe_int) pa_nil)) pe_int))
      (pss_cons (ps_set (i := 2) sc__law_mix.nd rfl (Or.inl rfl) (pe_op op_mod (pe_callTy call_int1 (by rfl) T.b_int (by decide +kernel) (pa_cons (pe_op op_add (pe_op op_add (pe_op op_mul (pv 2) pe_int) (pe_op op_mul (pv 1) pe_int)) pe_int) pa_nil)) pe_int))
      (pss_one (ps_ret (pe_op op_fdiv (pv 2) pe_int))))), ?_⟩
  refine ⟨_, rfl, _, _, rfl, rfl, .inr ⟨by decide, by decide⟩, _, rfl, _, _, rfl, rfl, .inr ⟨by decide, by decide⟩, _, _, rfl, rfl, _, _, rfl, rfl, .inl ⟨_, rfl, _, _, rfl, rfl, by show (0 : Int) < 2147483647; decide, ?_⟩⟩
  refine ⟨_, rfl, _, _, rfl, rfl, .inr ⟨by decide, by decide⟩, _, rfl, _, _, rfl, rfl, .inr ⟨by decide, by decide⟩, _, _, rfl, rfl, _, _, rfl, rfl, .inl ⟨_, rfl, _, _, rfl, rfl, by show (0 : Int) < 2147483629; decide, ?_⟩⟩
  exact ⟨_, rfl, _, _, rfl, rfl, ⟨by decide, by decide⟩, q _⟩
def FormOk (s c : Int) : Prop := 16 ≤ s ∧ s ≤ 22 ∧ (c = 2 ∨ c = 4 ∨ c = 6 ∨ c = 8) ∧ (s < 18 → c ≤ 4)
def sp_form : Sp := fun vs H Q _ => ∃ c : Int, vs = [.int c] ∧ 0 ≤ c ∧ c < 28 ∧ ∀ s k p, FormOk s k → H p = none → Q (.ref p) (upd H p (.tup [.int s, .int k]))
theorem ok_law_form (T : Tx K mg) : Keeps P w K mg base 1 "_law_form" p__law_form sp_form := by
  refine T.d__law_form.keeps sc__law_form (fun _ _ _ _ _ _ us hl => match us, hl with | [_], _ => rfl) (fun vs H Q E h => by obtain ⟨a, rfl, _⟩ := h; rfl) (fun f cdv A outer s H vs Q E hr h => ?_)
  obtain ⟨c, rfl, h0, h1, q⟩ := h
  refine ⟨_, (pss_cons (ps_set (i := 1) sc__law_form.nd rfl (Or.inl rfl) (pe_op op_add pe_int (pe_op op_mod (pv 0) pe_int)))
      (pss_cons (ps_set (i := 2) sc__law_form.nd rfl (Or.inl rfl) (pe_op op_add pe_int (pe_op op_mul pe_int (pe_op op_mod (pe_op op_fdiv (pv 0) pe_int) pe_int))))
      (pss_cons (ps_if (PW.pt (pw_and (pt_cmpR op_lt (pv 1) pe_int (nomark _)) (pw_and1 (pt_cmpR op_gt (pv 2) pe_int (nomark _))))) (pss_one (ps_set (i := 2) sc__law_form.nd rfl (Or.inl rfl) (pe_op op_sub (pv 2) pe_int))) pss_nil)
      (pss_cons (ps_if (pt_cmpR op_eq (pe_op op_mod (pe_op op_fdiv (pv 0) pe_int) pe_int) pe_int (nomark _)) (pss_one (ps_set (i := 1) sc__law_form.nd rfl (Or.inl rfl) (pe_op op_add pe_int (pe_op op_mod (pe_op op_fdiv (pv 0) pe_int) pe_int)))) pss_nil)
      (pss_one (ps_ret (pe_tup (pa_cons (pv 1) (pa_cons (pv 2) pa_nil))))))))), ?_⟩
  refine ⟨_, rfl, _, _, rfl, rfl, by show (0 : Int) < 7; decide, _, _, rfl, rfl, ?_⟩
  refine ⟨_, rfl, _, _, rfl, rfl, ⟨by decide, by decide⟩, _, _, rfl, rfl, by show (0 : Int) < 4; decide, _, _, rfl, rfl, .inl ⟨by decide, by decide⟩, _, _, rfl, rfl, ?_⟩
  have last : ∀ s k, FormOk s k → tSeq (tIfS (tTest (tOp rEq (tOp (rI (fun _ j => 0 < j) fun i j => .int (i % j)) (tOp (rI CDiv fun i j => .int (i / j)) (tVar 0) (tC (.int 28))) (tC (.int 40))) (tC (.int 7))))
      (tAsg (tOp (rI0 fun i j => .int (i + j)) (tC (.int 23)) (tOp (rI (fun _ j => 0 < j) fun i j => .int (i % j)) (tOp (rI CDiv fun i j => .int (i / j)) (tVar 0) (tC (.int 1120))) (tC (.int 18)))) (gName 1)) tNext)
      (tRet (tTup (tCons (tVar 1) (tCons (tVar 2) tNil)))) { nx := fun _ H' => Q .non H', rt := Q } [some (.int c), some (.int s), some (.int k)] H := fun s k F => by
    refine ⟨_, rfl, _, _, rfl, rfl, ⟨by decide, by decide⟩, _, _, rfl, rfl, by show (0 : Int) < 40; decide, rfl, _, rfl, ite2 (fun e => ?_) (fun e => ?_)⟩
    · exfalso
      have e1 : c / 28 % 40 = 7 := V.int.inj (of_decide_eq_true e)
      omega
    · refine ⟨_, rfl, _, rfl, by show 2 ≤ sizeLine; decide, fun p hp => q s k p F hp⟩
  refine ⟨_, rfl, _, _, rfl, rfl, _, rfl, ite2 (fun e => ?_) (fun e => ?_)⟩
  · refine ⟨_, rfl, _, _, rfl, rfl, _, rfl, ite2 (fun e2 => ?_) (fun e2 => ?_)⟩
    · refine ⟨_, rfl, _, _, rfl, rfl, last _ _ ?_⟩
      have := of_decide_eq_true e
      have := of_decide_eq_true e2
      refine ⟨by omega, by omega, ?_, by omega⟩
      omega
    · have := of_decide_eq_true e
      have : ¬ (4 < 2 + 2 * (c / 7 % 4)) := fun z => e2 (decide_eq_true z)
      exact last _ _ ⟨by omega, by omega, by omega, by omega⟩
  · refine iteF (last _ _ ?_)
    have : ¬ (16 + c % 7 < 18) := fun z => e (decide_eq_true z)
    exact ⟨by omega, by omega, by omega, by omega⟩
def sp_words : Sp := fun vs H Q _ => ∃ s : Int, vs = [.int s] ∧ 4 ≤ s ∧ s ≤ 100 ∧ Q (.int ((s - 4) * (s - 4) / 64)) H
theorem ok_law_words (T : Tx K mg) : Keeps P w K mg base 1 "_law_words" p__law_words sp_words := by
  refine T.d__law_words.keeps sc__law_words (fun _ _ _ _ _ _ us hl => match us, hl with | [_], _ => rfl) (fun vs H Q E h => by obtain ⟨a, rfl, _⟩ := h; rfl) (fun f cdv A outer s H vs Q E hr h => ?_)
  obtain ⟨a, rfl, h0, h1, q⟩ := h
  refine ⟨_, (pss_one (ps_ret (pe_op op_fdiv (pe_op op_mul (pe_op op_sub (pv 0) pe_int) (pe_op op_sub (pv 0) pe_int)) pe_int))), ?_⟩
  exact ⟨_, rfl, _, _, rfl, rfl, _, rfl, _, _, rfl, rfl, _, _, rfl, rfl, .inl ⟨by omega, by omega⟩, _, _, rfl, rfl, ⟨by decide, by decide⟩, q⟩
def sp_bsize : Sp := fun vs H Q _ => ∃ s c : Int, vs = [.int s, .int c] ∧ 4 ≤ s ∧ s ≤ 100 ∧ 0 ≤ c ∧ c ≤ 16 ∧ Q (.int (((s - 4) * (s - 4) / 64 - 1) * (16 - c))) H
theorem ok_law_body_size (T : Tx K mg) : Keeps P w K mg base 2 "_law_body_size" p__law_body_size sp_bsize := by
  refine T.d__law_body_size.keeps sc__law_body_size (fun _ _ _ _ _ _ us hl => match us, hl with | [_, _], _ => rfl) (fun vs H Q E h => by obtain ⟨a, b, rfl, _⟩ := h; rfl) (fun f cdv A outer s H vs Q E hr h => ?_)
  obtain ⟨a, c, rfl, h0, h1, h2, h3, q⟩ := h
  refine ⟨_, (pss_one (ps_ret (pe_op op_mul (pe_op op_sub (pcall (ok_law_words T) (hr.mono (by decide)) (pa_cons (pv 0) pa_nil)) pe_int) (pe_op op_sub pe_int (pv 1))))), ?_⟩
  exact ⟨_, rfl, a, rfl, h0, h1, _, _, rfl, rfl, _, rfl, _, _, rfl, rfl, _, _, rfl, rfl, .inr ⟨by omega, by omega⟩, q⟩
def sp_turnck : Sp := fun vs H Q _ => ∃ t : Int, vs = [.int t] ∧ 0 ≤ t ∧ t < 8 ∧ Q .non H
theorem ok_check_turn (T : Tx K mg) : Keeps P w K mg base 1 "_check_turn" p__check_turn sp_turnck := by
  refine T.d__check_turn.keeps sc__check_turn (fun _ _ _ _ _ _ us hl => match us, hl with | [_], _ => rfl) (fun vs H Q E h => by obtain ⟨a, rfl, _⟩ := h; rfl) (fun f cdv A outer s H vs Q E hr h => ?_)
  obtain ⟨t, rfl, h0, h1, q⟩ := h
  refine ⟨_, (pss_one (ps_if (PW.pt (pw_or (pt_cmpR op_lt (pv 0) pe_int (nomark _)) (pw_or1 (pt_cmpR op_ge (pv 0) (cst T.c_TURNS) (nomark _))))) (pss_one ps_never) pss_nil)), ?_⟩
  refine ⟨_, rfl, _, _, rfl, rfl, _, rfl, ite2 (fun e => absurd (of_decide_eq_true e) (by omega)) (fun e => ?_)⟩
  exact ⟨_, rfl, _, _, rfl, rfl, _, rfl, ite2 (fun e => absurd (of_decide_eq_true e) (by omega)) (fun e => q)⟩
def opp (t : Int) : Int := if 4 ≤ t then t else (4 - t) % 4
def sp_opp : Sp := fun vs H Q _ => ∃ t : Int, vs = [.int t] ∧ 0 ≤ t ∧ t < 8 ∧ Q (.int (opp t)) H
theorem ok_opposite (T : Tx K mg) : Keeps P w K mg base 2 "opposite" p_opposite sp_opp := by
  refine T.d_opposite.keeps sc_opposite (fun _ _ _ _ _ _ us hl => match us, hl with | [_], _ => rfl) (fun vs H Q E h => by obtain ⟨a, rfl, _⟩ := h; rfl) (fun f cdv A outer s H vs Q E hr h => ?_)
  obtain ⟨t, rfl, h0, h1, q⟩ := h
  refine ⟨_, (pss_cons (ps_expr (pcall (ok_check_turn T) (hr.mono (by decide)) (pa_cons (pv 0) pa_nil)))
      (pss_one (ps_ret (pe_ifExp (pt_cmpR op_ge (pv 0) (cst T.c_QUARTERS) (nomark _)) (pv 0) (pe_op op_mod (pe_op op_sub (cst T.c_QUARTERS) (pv 0)) (cst T.c_QUARTERS)))))), ?_⟩
  refine ⟨_, rfl, t, rfl, h0, h1, _, rfl, _, _, rfl, rfl, _, rfl, ite2 (fun e => ?_) (fun e => ?_)⟩
  · rw [opp, if_pos (of_decide_eq_true e)] at q
    exact ⟨_, rfl, q⟩
  · rw [opp, if_neg fun z => e (decide_eq_true z)] at q
    exact ⟨_, rfl, _, _, rfl, rfl, _, _, rfl, rfl, by show (0 : Int) < 4; decide, q⟩
def sp_gcount : Sp := fun vs H Q _ => ∃ d s : Int, vs = [.int d, .int s] ∧ 1 ≤ s ∧ s ≤ 1000 ∧ Q (.int ((d + s - 1) / s)) H
theorem ok_group_count (T : Tx K mg) : Keeps P w K mg base 1 "group_count" p_group_count sp_gcount := by
  refine T.d_group_count.keeps sc_group_count (fun _ _ _ _ _ _ us hl => match us, hl with | [_, _], _ => rfl) (fun vs H Q E h => by obtain ⟨a, b, rfl, _⟩ := h; rfl) (fun f cdv A outer s H vs Q E hr h => ?_)
  obtain ⟨d, n, rfl, h0, h1, q⟩ := h
  refine ⟨_, (pss_one (ps_ret (pe_op op_fdiv (pe_op op_sub (pe_op op_add (pv 0) (pv 1)) pe_int) (pv 1)))), ?_⟩
  exact ⟨_, rfl, _, rfl, _, _, rfl, rfl, _, _, rfl, rfl, _, rfl, _, _, rfl, rfl, ⟨by omega, by omega⟩, q⟩
end
end K44
set_option maxHeartbeats 4000000
namespace K44
open PySem PySem.Spec PyProof.Rows L2
section
variable {P : Program} {w : World} {K : PySem.W.Frag} {mg : Str → Option Value} {base : Heap}
/-! ### lists of pairs of ints -/
/-- a list at D, new to H0, of pairs of ints -/
structure PrL (H0 H : Hp) (D : Addr) (ps : List (Int × Int)) : Prop where
  newD : H0 D = none
  same : Same H0 H
  at_ : ∃ vs, H D = some (.lst vs) ∧ Paired (IsPr H) vs ps
theorem prs_len {F : V → Int × Int → Prop} : ∀ {vs : List V} {ps : List (Int × Int)}, Paired F vs ps → vs.length = ps.length
  | _, _, .nil => rfl
  | _, _, .cons _ r => by rw [List.length_cons, List.length_cons, prs_len r]
theorem prs_mut {H : Hp} {D : Addr} {xs ys : List V} (h : H D = some (.lst xs)) {vs : List V} {ps : List (Int × Int)} (r : Paired (IsPr H) vs ps) : Paired (IsPr (upd H D (.lst ys))) vs ps :=
  L2.Paired.mapP r fun _ _ ⟨t, e, q⟩ => ⟨t, e, by rw [upd_ne (ne_of q h (by intro z; cases z))]; exact q⟩
theorem PrL.start {H0 H : Hp} {D : Addr} (s : Same H0 H) (h : H D = none) : PrL H0 (upd H D (.lst [])) D [] := ⟨s.free h, same_mut s (s.free h), [], upd_same, .nil⟩
theorem PrL.push {H0 H : Hp} {D t : Addr} {ps : List (Int × Int)} {r c : Int} (R : PrL H0 H D ps) (ht : H t = none) (hl : ps.length < 10000) :
    ∃ acc, upd H t (.tup [.int r, .int c]) D = some (.lst acc) ∧ acc.length < sizeLine ∧ PrL H0 (upd (upd H t (.tup [.int r, .int c])) D (.lst (acc ++ [.ref t]))) D (ps ++ [(r, c)]) := by
  obtain ⟨n, s, vs, h, p⟩ := R
  have s2 : Same H (upd H t (.tup [.int r, .int c])) := same_upd ht
  refine ⟨vs, s2 _ _ h, szl (by rw [prs_len p]; omega), n, same_mut (s.trans s2) n, _, upd_same, ?_⟩
  exact prs_app (prs_mut (s2 _ _ h) (prs_same s2 p)) (.cons ⟨t, rfl, by rw [upd_ne (ne_of_none h ht).symm, upd_same]⟩ .nil)
theorem PrL.app {H0 H H' : Hp} {D D2 : Addr} {ps qs : List (Int × Int)} (R : PrL H0 H D ps) (S : PrL H H' D2 qs) (hl : ps.length + qs.length ≤ 10000) :
    ∃ xs zs, H' D = some (.lst xs) ∧ H' D2 = some (.lst zs) ∧ xs.length + zs.length ≤ sizeLine ∧ PrL H0 (upd H' D (.lst (xs ++ zs))) D (ps ++ qs) := by
  obtain ⟨n, s, vs, h, p⟩ := R
  obtain ⟨n2, s2, ws, h2, p2⟩ := S
  refine ⟨vs, ws, s2 _ _ h, h2, sz (by rw [prs_len p, prs_len p2]; omega), n, same_mut (s.trans s2) n, _, upd_same, ?_⟩
  exact prs_app (prs_mut (s2 _ _ h) (prs_same s2 p)) (prs_mut (s2 _ _ h) p2)
/-- one side of a ring: n cells -/
def sideP (n : Nat) (f : Nat → Int × Int) : List (Int × Int) := (List.range n).map f
theorem sideP_succ (n : Nat) (f : Nat → Int × Int) : sideP (n + 1) f = sideP n f ++ [f n] := by unfold sideP; rw [List.range_succ, List.map_append]; rfl
theorem sideP_len (n : Nat) (f : Nat → Int × Int) : (sideP n f).length = n := by unfold sideP; rw [List.length_map, List.length_range]
def ringP (s k : Int) : List (Int × Int) :=
  sideP (s - 1 - k - k).toNat (fun j => (k, k + j)) ++ sideP (s - 1 - k - k).toNat (fun j => (k + j, s - 1 - k)) ++ sideP (s - 1 - k - k).toNat (fun j => (s - 1 - k, s - 1 - k - j)) ++ sideP (s - 1 - k - k).toNat (fun j => (s - 1 - k - j, k))
def sp_ring : Sp := fun vs H Q _ => ∃ s k : Int, vs = [.int s, .int k] ∧ 0 ≤ k ∧ 2 * k + 1 ≤ s ∧ s ≤ 100 ∧ ∀ H' D, PrL H H' D (ringP s k) → Q (.ref D) H'
theorem ok_ring_cells (T : Tx K mg) : Keeps P w K mg base 1 "ring_cells" p_ring_cells sp_ring := by
  refine T.d_ring_cells.keeps sc_ring_cells (fun _ _ _ _ _ _ us hl => match us, hl with | [_, _], _ => rfl) (fun vs H Q E h => by obtain ⟨a, b, rfl, _⟩ := h; rfl) (fun f cdv A outer s H vs Q E hr h => ?_)
  obtain ⟨n, k, rfl, h0, h1, h2, q⟩ := h
  refine ⟨_, (pss_cons (ps_set (i := 2) sc_ring_cells.nd rfl (Or.inr rfl) (pe_op op_sub (pe_op op_sub (pv 0) pe_int) (pv 1)))
      (pss_cons (ps_setLc (i := 3) (own := [("column", 4)]) rfl sc_ring_cells.nd rfl rfl (sw_true rfl rfl rfl (by decide +kernel)) (pi_range2 (by rfl) T.b_range (pa_cons (pv 1) (pa_cons (pv 2) pa_nil))) (blkOk_by (by kernel_rfl)) (fun _ _ _ _ _ => (pg_name (i := 4) sc_ring_cells.nd rfl (Or.inl rfl))) (fun _ _ _ _ _ => pts_nil) (fun _ _ _ _ _ => (pe_tup (pa_cons (pv 1) (pa_cons (pv 4) pa_nil)))))
      (pss_cons (ps_aug (i := 3) sc_ring_cells.nd rfl (Or.inl rfl) (pe_lc (own := [("row", 5)]) rfl sc_ring_cells.nd (pi_range2 (by rfl) T.b_range (pa_cons (pv 1) (pa_cons (pv 2) pa_nil))) (blkOk_by (by kernel_rfl)) (fun _ _ _ _ _ => (pg_name (i := 5) sc_ring_cells.nd rfl (Or.inl rfl))) (fun _ _ _ _ _ => pts_nil) (fun _ _ _ _ _ => (pe_tup (pa_cons (pv 5) (pa_cons (pv 2) pa_nil))))) iop_ext)
      (pss_cons (ps_aug (i := 3) sc_ring_cells.nd rfl (Or.inl rfl) (pe_lc (own := [("column", 4)]) rfl sc_ring_cells.nd (pi_range3 (by rfl) T.b_range (pa_cons (pv 2) (pa_cons (pv 1) (pa_cons (pe_un un_neg pe_int) pa_nil)))) (blkOk_by (by kernel_rfl)) (fun _ _ _ _ _ => (pg_name (i := 4) sc_ring_cells.nd rfl (Or.inl rfl))) (fun _ _ _ _ _ => pts_nil) (fun _ _ _ _ _ => (pe_tup (pa_cons (pv 2) (pa_cons (pv 4) pa_nil))))) iop_ext)
      (pss_cons (ps_aug (i := 3) sc_ring_cells.nd rfl (Or.inl rfl) (pe_lc (own := [("row", 5)]) rfl sc_ring_cells.nd (pi_range3 (by rfl) T.b_range (pa_cons (pv 2) (pa_cons (pv 1) (pa_cons (pe_un un_neg pe_int) pa_nil)))) (blkOk_by (by kernel_rfl)) (fun _ _ _ _ _ => (pg_name (i := 5) sc_ring_cells.nd rfl (Or.inl rfl))) (fun _ _ _ _ _ => pts_nil) (fun _ _ _ _ _ => (pe_tup (pa_cons (pv 5) (pa_cons (pv 1) pa_nil))))) iop_ext)
      (pss_one (ps_ret (pv 3)))))))), ?_⟩
  refine ⟨_, rfl, _, _, rfl, rfl, _, rfl, _, _, rfl, rfl, ?_⟩
  -- the first row
  refine ⟨_, rfl, _, rfl, _, _, rfl, ⟨by omega, by omega, by omega, by omega⟩, fun D hD => ?_⟩
  refine lc_range (lo := k) (n := (n - 1 - k - k).toNat) (fun i H1 => PrL H H1 D (sideP i fun j => (k, k + j))) (PrL.start (Same.refl _) hD) (fun i H1 hi R => ?_) fun H1 R1 => ?_
  · refine ⟨rfl, _, rfl, _, rfl, by show 2 ≤ sizeLine; decide, fun t ht => ?_⟩
    rw [sideP_succ]
    exact R.push ht (by rw [sideP_len]; omega)
  -- the last column
  refine ⟨_, rfl, _, rfl, _, rfl, _, _, rfl, ⟨by omega, by omega, by omega, by omega⟩, fun D2 hD2 => ?_⟩
  refine lc_range (lo := k) (n := (n - 1 - k - k).toNat) (fun i H2 => PrL H1 H2 D2 (sideP i fun j => (k + j, n - 1 - k))) (PrL.start (Same.refl _) hD2) (fun i H2 hi R => ?_) fun H2 R2 => ?_
  · refine ⟨rfl, _, rfl, _, rfl, by show 2 ≤ sizeLine; decide, fun t ht => ?_⟩
    rw [sideP_succ]
    exact R.push ht (by rw [sideP_len]; omega)
  obtain ⟨xs, zs, e1, e2, e3, S2⟩ := R1.app R2 (by rw [sideP_len, sideP_len]; omega)
  refine ⟨D, D2, xs, zs, rfl, rfl, e1, e2, e3, ?_⟩
  -- the last row, from its end
  refine ⟨_, rfl, _, rfl, _, rfl, _, rfl, _, _, _, _, rfl, RgC.neg (by omega) (by omega) (by omega) (by omega), fun D3 hD3 => ?_⟩
  refine lc_by (J := Itc (n - 1 - k) (-1) (n - 1 - k - k).toNat) (n := (n - 1 - k - k).toNat) (fun i H3 => PrL _ H3 D3 (sideP i fun j => (n - 1 - k, n - 1 - k - j))) (PrL.start (Same.refl _) hD3) (fun i H3 hi _ => hi) (fun _ _ => Nat.le_refl _) (fun i x H3 H3' hi R y => ?_) fun H3 R3 => ?_
  · obtain ⟨rfl, rfl⟩ := y
    refine ⟨rfl, _, rfl, _, rfl, by show 2 ≤ sizeLine; decide, fun t ht => ?_⟩
    rw [sideP_succ, show n - 1 - k + (i : Int) * -1 = n - 1 - k - i by omega]
    exact R.push ht (by rw [sideP_len]; omega)
  obtain ⟨xs3, zs3, e4, e5, e6, S3⟩ := S2.app R3 (by rw [List.length_append, sideP_len, sideP_len, sideP_len]; omega)
  refine ⟨D, D3, xs3, zs3, rfl, rfl, e4, e5, e6, ?_⟩
  -- the first column, from its end
  refine ⟨_, rfl, _, rfl, _, rfl, _, rfl, _, _, _, _, rfl, RgC.neg (by omega) (by omega) (by omega) (by omega), fun D4 hD4 => ?_⟩
  refine lc_by (J := Itc (n - 1 - k) (-1) (n - 1 - k - k).toNat) (n := (n - 1 - k - k).toNat) (fun i H4 => PrL _ H4 D4 (sideP i fun j => (n - 1 - k - j, k))) (PrL.start (Same.refl _) hD4) (fun i H4 hi _ => hi) (fun _ _ => Nat.le_refl _) (fun i x H4 H4' hi R y => ?_) fun H4 R4 => ?_
  · obtain ⟨rfl, rfl⟩ := y
    refine ⟨rfl, _, rfl, _, rfl, by show 2 ≤ sizeLine; decide, fun t ht => ?_⟩
    rw [sideP_succ, show n - 1 - k + (i : Int) * -1 = n - 1 - k - i by omega]
    exact R.push ht (by rw [sideP_len]; omega)
  obtain ⟨xs4, zs4, e7, e8, e9, S4⟩ := S3.app R4 (by rw [List.length_append, List.length_append, sideP_len, sideP_len, sideP_len, sideP_len]; omega)
  exact ⟨D, D4, xs4, zs4, rfl, rfl, e7, e8, e9, _, rfl, q _ _ S4⟩
end
end K44
set_option maxHeartbeats 4000000
namespace K44
open PySem PySem.Spec PyProof.Rows L2
section
variable {P : Program} {w : World} {K : PySem.W.Frag} {mg : Str → Option Value} {base : Heap}
theorem same_two {H : Hp} {p t : Addr} {o u : HO} (hp : H p = none) (ht : upd H p o t = none) : Same H (upd (upd H p o) t u) := L2.Same.trans (same_upd hp) (same_upd ht)
/-! ### the law's ring -/
def lring (s k : Int) : Nat → List (Int × Int)
  | 0 => []
  | i + 1 => lring s k i ++ [(k, k + i), (k + i, s - 1 - k), (s - 1 - k, s - 1 - (k + i)), (s - 1 - (k + i), k)]
theorem lring_len (s k : Int) : ∀ i, (lring s k i).length = 4 * i
  | 0 => rfl
  | i + 1 => by
    show (lring s k i ++ _).length = _
    rw [List.length_append, lring_len s k i]
    show 4 * i + 4 = _
    omega
theorem PrL.cat4 {H0 H : Hp} {D : Addr} {ps : List (Int × Int)} {a b c d : Int × Int} {t1 t2 t3 t4 l : Addr} (R : PrL H0 H D ps) (h1 : H t1 = none) (h2 : upd H t1 (.tup [.int a.1, .int a.2]) t2 = none) (h3 : upd (upd H t1 (.tup [.int a.1, .int a.2])) t2 (.tup [.int b.1, .int b.2]) t3 = none)
    (h4 : upd (upd (upd H t1 (.tup [.int a.1, .int a.2])) t2 (.tup [.int b.1, .int b.2])) t3 (.tup [.int c.1, .int c.2]) t4 = none)
    (h5 : upd (upd (upd (upd H t1 (.tup [.int a.1, .int a.2])) t2 (.tup [.int b.1, .int b.2])) t3 (.tup [.int c.1, .int c.2])) t4 (.tup [.int d.1, .int d.2]) l = none) (hl : ps.length ≤ 10000) :
    ∃ xs zs, upd (upd (upd (upd (upd H t1 (.tup [.int a.1, .int a.2])) t2 (.tup [.int b.1, .int b.2])) t3 (.tup [.int c.1, .int c.2])) t4 (.tup [.int d.1, .int d.2])) l (.lst [.ref t1, .ref t2, .ref t3, .ref t4]) D = some (.lst xs) ∧
      zs = [.ref t1, .ref t2, .ref t3, .ref t4] ∧ xs.length + zs.length ≤ sizeLine ∧
      ∀ p, upd (upd (upd (upd (upd H t1 (.tup [.int a.1, .int a.2])) t2 (.tup [.int b.1, .int b.2])) t3 (.tup [.int c.1, .int c.2])) t4 (.tup [.int d.1, .int d.2])) l (.lst [.ref t1, .ref t2, .ref t3, .ref t4]) p = none →
        PrL H0 (upd (upd (upd (upd (upd (upd H t1 (.tup [.int a.1, .int a.2])) t2 (.tup [.int b.1, .int b.2])) t3 (.tup [.int c.1, .int c.2])) t4 (.tup [.int d.1, .int d.2])) l (.lst [.ref t1, .ref t2, .ref t3, .ref t4])) p (.lst (xs ++ zs))) p (ps ++ [a, b, c, d]) := by
  obtain ⟨n, s, vs, h, q⟩ := R
  have s1 := same_upd (o := .tup [.int a.1, .int a.2]) h1
  have s2 := same_upd (o := .tup [.int b.1, .int b.2]) h2
  have s3 := same_upd (o := .tup [.int c.1, .int c.2]) h3
  have s4 := same_upd (o := .tup [.int d.1, .int d.2]) h4
  have s5 := same_upd (o := .lst [.ref t1, .ref t2, .ref t3, .ref t4]) h5
  have s25 := L2.Same.trans s2 (L2.Same.trans s3 (L2.Same.trans s4 s5))
  have sA := L2.Same.trans s1 s25
  refine ⟨vs, _, sA _ _ h, rfl, sz (by rw [prs_len q]; show ps.length + 4 ≤ 100000; omega), fun p hp => ?_⟩
  have s6 := same_upd (o := .lst (vs ++ [.ref t1, .ref t2, .ref t3, .ref t4])) hp
  have sB := L2.Same.trans sA s6
  refine ⟨(L2.Same.trans s sA).free hp, L2.Same.trans s sB, _, upd_same, prs_app (prs_same sB q) (.cons ⟨t1, rfl, s6 _ _ (s25 _ _ upd_same)⟩ (.cons ⟨t2, rfl, s6 _ _ ((L2.Same.trans s3 (L2.Same.trans s4 s5)) _ _ upd_same)⟩ (.cons ⟨t3, rfl, s6 _ _ ((L2.Same.trans s4 s5) _ _ upd_same)⟩ (.cons ⟨t4, rfl, s6 _ _ (s5 _ _ upd_same)⟩ .nil))))⟩
def sp_lring : Sp := fun vs H Q _ => ∃ s k : Int, vs = [.int s, .int k] ∧ 0 ≤ k ∧ 2 * k + 1 ≤ s ∧ s ≤ 100 ∧ ∀ H' D, PrL H H' D (lring s k (s - 1 - k - k).toNat) → Q (.ref D) H'
theorem ok_law_ring (T : Tx K mg) : Keeps P w K mg base 1 "_law_ring" p__law_ring sp_lring := by
  refine T.d__law_ring.keeps sc__law_ring (fun _ _ _ _ _ _ us hl => match us, hl with | [_, _], _ => rfl) (fun vs H Q E h => by obtain ⟨a, b, rfl, _⟩ := h; rfl) (fun f cdv A outer s H vs Q E hr h => ?_)
  obtain ⟨n, k, rfl, h0, h1, h2, q⟩ := h
  refine ⟨_, (pss_cons (ps_set (i := 2) sc__law_ring.nd rfl (Or.inl rfl) (pe_op op_sub (pe_op op_sub (pv 0) pe_int) (pv 1)))
      (pss_cons (ps_set (i := 3) sc__law_ring.nd rfl (Or.inl rfl) (pe_lst pa_nil))
      (pss_cons (ps_for PassesOwn.never rfl (pi_range2 (by rfl) T.b_range (pa_cons (pv 1) (pa_cons (pv 2) pa_nil))) (pg_name (i := 4) sc__law_ring.nd rfl (Or.inl rfl))
      (pss_one (ps_set (i := 3) sc__law_ring.nd rfl (Or.inl rfl) (pe_op op_cat (pv 3) (pe_lst (pa_cons (pe_tup (pa_cons (pv 1) (pa_cons (pv 4) pa_nil))) (pa_cons (pe_tup (pa_cons (pv 4) (pa_cons (pv 2) pa_nil))) (pa_cons (pe_tup (pa_cons (pv 2) (pa_cons (pe_op op_sub (pe_op op_sub (pv 0) pe_int) (pv 4)) pa_nil))) (pa_cons (pe_tup (pa_cons (pe_op op_sub (pe_op op_sub (pv 0) pe_int) (pv 4)) (pa_cons (pv 1) pa_nil))) pa_nil)))))))))
      (pss_one (ps_ret (pv 3)))))), ?_⟩
  refine ⟨_, rfl, _, _, rfl, rfl, _, rfl, _, _, rfl, rfl, Nat.zero_le _, fun D hD => ?_⟩
  refine ⟨_, rfl, _, rfl, _, _, rfl, ⟨by omega, by omega, by omega, by omega⟩, ?_⟩
  refine for_range (lo := k) (n := (n - 1 - k - k).toNat) (fun i σ H1 => ∃ D v, σ = [some (.int n), some (.int k), some (.int (n - 1 - k)), some (.ref D), v] ∧ PrL H H1 D (lring n k i)) ⟨D, none, rfl, PrL.start (Same.refl _) hD⟩ ?_ ?_
  · rintro i σ H1 hi ⟨D1, v, rfl, R⟩
    refine ⟨_, rfl, _, rfl, _, rfl, by show 2 ≤ sizeLine; decide, fun t1 ht1 => ?_⟩
    refine ⟨_, rfl, _, rfl, by show 2 ≤ sizeLine; decide, fun t2 ht2 => ?_⟩
    refine ⟨_, rfl, _, rfl, _, _, rfl, rfl, _, rfl, _, _, rfl, rfl, by show 2 ≤ sizeLine; decide, fun t3 ht3 => ?_⟩
    refine ⟨_, rfl, _, _, rfl, rfl, _, rfl, _, _, rfl, rfl, _, rfl, by show 2 ≤ sizeLine; decide, fun t4 ht4 => ?_⟩
    refine ⟨by show 4 ≤ sizeLine; decide, fun l hl => ?_⟩
    obtain ⟨xs, zs, e1, e2, e3, e4⟩ := R.cat4 (a := (k, k + i)) (b := (k + i, n - 1 - k)) (c := (n - 1 - k, n - 1 - (k + i))) (d := (n - 1 - (k + i), k)) ht1 ht2 ht3 ht4 hl (by rw [lring_len]; omega)
    subst e2
    exact ⟨D1, l, xs, _, rfl, rfl, e1, upd_same, e3, fun p hp => ⟨p, _, rfl, e4 p hp⟩⟩
  · rintro σ H1 ⟨D1, v, rfl, R⟩
    exact ⟨_, rfl, q _ _ R⟩
def placeP (s p : Int) : List (Int × Int) := sideP 4 fun j => (2 + (4 * p + j) / (s - 4), 2 + (4 * p + j) % (s - 4))
def sp_place : Sp := fun vs H Q _ => ∃ s p : Int, vs = [.int s, .int p] ∧ 5 ≤ s ∧ s ≤ 100 ∧ 0 ≤ p ∧ p ≤ 100000 ∧ ∀ H' D, PrL H H' D (placeP s p) → Q (.ref D) H'
theorem ok_law_place (T : Tx K mg) : Keeps P w K mg base 1 "_law_place" p__law_place sp_place := by
  refine T.d__law_place.keeps sc__law_place (fun _ _ _ _ _ _ us hl => match us, hl with | [_, _], _ => rfl) (fun vs H Q E h => by obtain ⟨a, b, rfl, _⟩ := h; rfl) (fun f cdv A outer s H vs Q E hr h => ?_)
  obtain ⟨n, p, rfl, h0, h1, h2, h3, q⟩ := h
  refine ⟨_, (pss_cons (ps_set (i := 2) sc__law_place.nd rfl (Or.inr rfl) (pe_op op_sub (pv 0) pe_int))
      (pss_one (ps_ret (pe_lc (own := [("_law_at_here", 3)]) rfl sc__law_place.nd (pi_range2 (by rfl) T.b_range (pa_cons (pe_op op_mul pe_int (pv 1)) (pa_cons (pe_op op_add (pe_op op_mul pe_int (pv 1)) pe_int) pa_nil))) (blkOk_by (by kernel_rfl)) (fun _ _ _ _ _ => (pg_name (i := 3) sc__law_place.nd rfl (Or.inl rfl))) (fun _ _ _ _ _ => pts_nil) (fun _ _ _ _ _ => (pe_tup (pa_cons (pe_op op_add pe_int (pe_op op_fdiv (pv 3) (pv 2))) (pa_cons (pe_op op_add pe_int (pe_op op_mod (pv 3) (pv 2))) pa_nil)))))))), ?_⟩
  refine ⟨_, rfl, _, _, rfl, rfl, _, rfl, _, _, rfl, rfl, .inl ⟨by decide, by decide⟩, _, rfl, _, _, rfl, rfl, .inl ⟨by decide, by decide⟩, _, _, rfl, rfl, _, _, rfl, ⟨by omega, by omega, by omega, by omega⟩, fun D hD => ?_⟩
  rw [show (4 * p + 4 - 4 * p).toNat = 4 by omega]
  refine lc_range (lo := 4 * p) (n := 4) (fun i H1 => PrL H H1 D (sideP i fun j => (2 + (4 * p + j) / (n - 4), 2 + (4 * p + j) % (n - 4)))) (PrL.start (Same.refl _) hD) (fun i H1 hi R => ?_) fun H1 R1 => q _ _ R1
  refine ⟨rfl, _, rfl, _, rfl, _, _, rfl, rfl, ⟨by omega, by omega⟩, _, _, rfl, rfl, _, rfl, _, rfl, _, _, rfl, rfl, by omega, _, _, rfl, rfl, by show 2 ≤ sizeLine; decide, fun t ht => ?_⟩
  rw [sideP_succ]
  exact R.push ht (by rw [sideP_len]; omega)
/-! ### symbols -/
def gOf (z : Int) : G := ⟨⟨(z % 16).toNat, by omega⟩⟩
theorem gV_of (z : Int) : gV (gOf z) = .int (z % 16) := by
  show V.int (((z % 16).toNat : Nat) : Int) = _
  rw [Int.toNat_of_nonneg (by omega)]
theorem gV_of' {z : Int} (h0 : 0 ≤ z) (h1 : z < 16) : gV (gOf z) = .int z := by rw [gV_of, Int.emod_eq_of_lt h0 h1]
def gsV (l : List G) : List V := l.map gV
def sp_row : Sp := fun vs H Q _ => ∃ c n : Int, vs = [.int c, .int n, .int 16] ∧ 0 ≤ n ∧ n ≤ 1000 ∧ ∀ (l : List G) p H', (l.length : Int) = n → Same H H' → H p = none → H' p = some (.lst (gsV l)) → Q (.ref p) H'
theorem ok_law_row (T : Tx K mg) : Keeps P w K mg base 2 "_law_row" p__law_row sp_row := by
  refine T.d__law_row.keeps sc__law_row (fun _ _ _ _ _ _ us hl => match us, hl with | [_, _, _], _ => rfl) (fun vs H Q E h => by obtain ⟨a, b, rfl, _⟩ := h; rfl) (fun f cdv A outer s H vs Q E hr h => ?_)
  obtain ⟨c, n, rfl, h0, h1, q⟩ := h
  refine ⟨_, (pss_cons (ps_set (i := 3) sc__law_row.nd rfl (Or.inl rfl) (pe_lst pa_nil))
      (pss_cons (ps_set (i := 4) sc__law_row.nd rfl (Or.inl rfl) (pe_callB call_abs (by rfl) T.b_abs (by decide +kernel) (pa_cons (pv 0) pa_nil)))
      (pss_cons (ps_for PassesOwn.never rfl (pi_range1 (by rfl) T.b_range (pa_cons (pv 1) pa_nil)) (pg_name (i := 5) sc__law_row.nd rfl (Or.inl rfl))
      (pss_one (ps_if (pt_cmpR op_ge (pe_callB call_abs (by rfl) T.b_abs (by decide +kernel) (pa_cons (pv 0) pa_nil)) pe_int (nomark _)) (pss_cons (ps_expr (pe_bm PySem.F.plainAttrs_list PySem.F.slot_list_append PySem.F.type_list_append mt_append (pv 3) (pa_cons (pe_op op_mod (pe_callTy call_int1 (by rfl) T.b_int (by decide +kernel) (pa_cons (pv 4) pa_nil)) (pv 2)) pa_nil)))
      (pss_one (ps_set (i := 4) sc__law_row.nd rfl (Or.inl rfl) (pe_op op_fdiv (pv 4) (pv 2))))) (pss_one (ps_expr (pe_bm PySem.F.plainAttrs_list PySem.F.slot_list_append PySem.F.type_list_append mt_append (pv 3) (pa_cons (pe_op op_mod (pe_callTy call_int1 (by rfl) T.b_int (by decide +kernel) (pa_cons (pcall (ok_law_mix T) (hr.mono (by decide)) (pa_cons (pv 0) (pa_cons (pv 5) pa_nil))) pa_nil)) (pv 2)) pa_nil)))))))
      (pss_one (ps_ret (pv 3)))))), ?_⟩
  refine ⟨Nat.zero_le _, fun p hp => ⟨_, rfl, _, rfl, ?_⟩⟩
  refine ⟨_, rfl, _, rfl, by omega, by omega, ?_⟩
  refine for_range (lo := 0) (n := n.toNat) (fun i σ H1 => ∃ r v l, σ = [some (.int c), some (.int n), some (.int 16), some (.ref p), some (.int r), v] ∧ Same H H1 ∧ H1 p = some (.lst (gsV l)) ∧ l.length = i) ⟨_, none, [], rfl, same_upd hp, upd_same, rfl⟩ ?_ ?_
  · rintro i σ H1 hi ⟨r, v, l, rfl, s1, e1, e2⟩
    have step : ∀ z : Int, H1 p = some (.lst (gsV l)) ∧ (gsV l).length < sizeLine ∧ (Same H (upd H1 p (.lst (gsV l ++ [.int (z % 16)]))) ∧ upd H1 p (.lst (gsV l ++ [.int (z % 16)])) p = some (.lst (gsV (l ++ [gOf z]))) ∧ (l ++ [gOf z]).length = i + 1) := fun z => by
      refine ⟨e1, szl (by unfold gsV; rw [List.length_map]; omega), same_mut s1 hp, ?_, by rw [List.length_append, e2]; rfl⟩
      rw [upd_same]
      unfold gsV
      rw [List.map_append, List.map_singleton, gV_of]
    refine ⟨_, rfl, _, rfl, _, _, rfl, rfl, _, rfl, ite2 (fun e => ?_) (fun e => ?_)⟩
    · obtain ⟨a1, a2, a3, a4, a5⟩ := step r
      refine ⟨_, rfl, .inl ⟨rfl, _, SqL.of e1⟩, _, rfl, .inl ⟨_, rfl, _, rfl, _, _, rfl, rfl, by show (0 : Int) < 16; decide, p, _, _, rfl, rfl, a1, a2, ?_⟩⟩
      exact ⟨_, rfl, _, rfl, _, _, rfl, rfl, ⟨by decide, by decide⟩, _, _, _, rfl, a3, a4, a5⟩
    · refine ⟨_, rfl, .inl ⟨rfl, _, SqL.of e1⟩, _, rfl, _, rfl, c, 0 + (i : Int), rfl, fun z => .inl ⟨_, rfl, _, rfl, _, _, rfl, rfl, by show (0 : Int) < 16; decide, p, gsV l, .int (z % 16), rfl, rfl, ?_⟩⟩
      obtain ⟨a1, a2, a3, a4, a5⟩ := step z
      exact ⟨a1, a2, _, _, _, rfl, a3, a4, a5⟩
  · rintro σ H1 ⟨r, v, l, rfl, s1, e1, e2⟩
    exact ⟨_, rfl, q l p H1 (by omega) s1 hp e1⟩
end
end K44
set_option maxHeartbeats 4000000
namespace K44
open PySem PySem.Spec PyProof.Rows L2
section
variable {P : Program} {w : World} {K : PySem.W.Frag} {mg : Str → Option Value} {base : Heap}
/-! ### labels -/
structure Lab where
  ar : Int
  nu : Int
  da : Int
  si : Int
  ch : Int
structure Lab.Ok (L : Lab) : Prop where
  a0 : 0 ≤ L.ar
  a1 : L.ar ≤ 255
  d0 : 1 ≤ L.da
  d1 : L.da ≤ 255
  s0 : 1 ≤ L.si
  s1 : L.si ≤ 12
  c0 : 0 ≤ L.ch
  c1 : L.ch ≤ 16 - L.si
  p1 : L.da + (L.da + L.si - 1) / L.si * L.ch ≤ 255
  n0 : 0 ≤ L.nu
  n1 : L.nu < L.da + (L.da + L.si - 1) / L.si * L.ch
def Lab.vs (L : Lab) : List V := [.int L.ar, .int L.nu, .int L.da, .int L.si, .int L.ch]
def sp_label : Sp := fun vs H Q _ => ∃ c : Int, vs = [.int c] ∧ ∀ (L : Lab) p, L.Ok → H p = none → Q (.ref p) (upd H p (.tup L.vs))
theorem groups_le {d s : Int} (h0 : 1 ≤ d) (h1 : d ≤ 60) (h2 : 1 ≤ s) : 0 ≤ (d + s - 1) / s ∧ (d + s - 1) / s ≤ 60 := by
  refine ⟨Int.ediv_nonneg (by omega) (by omega), ?_⟩
  have : (d + s - 1) / s < 61 := Int.ediv_lt_of_lt_mul (by omega) (by have : 61 * s = 60 * s + s := by omega
                                                                      have : 60 ≤ 60 * s := by omega
                                                                      omega)
  omega
theorem ok_law_label (T : Tx K mg) : Keeps P w K mg base 1 "_law_label" p__law_label sp_label := by
  refine T.d__law_label.keeps sc__law_label (fun _ _ _ _ _ _ us hl => match us, hl with | [_], _ => rfl) (fun vs H Q E h => by obtain ⟨a, rfl, _⟩ := h; rfl) (fun f cdv A outer s H vs Q E hr h => ?_)
  obtain ⟨c, rfl, q⟩ := h
  refine ⟨_, (pss_cons (ps_set (i := 1) sc__law_label.nd rfl (Or.inl rfl) (pe_op op_add pe_int (pe_op op_mod (pv 0) pe_int)))
      (pss_cons (ps_set (i := 2) sc__law_label.nd rfl (Or.inl rfl) (pe_op op_mod (pe_op op_fdiv (pv 0) pe_int) (pe_op op_sub pe_int (pv 1))))
      (pss_cons (ps_if (pt_cmpR op_gt (pe_op op_mod (pe_op op_fdiv (pv 0) pe_int) pe_int) pe_int (nomark _)) (pss_one (ps_set (i := 2) sc__law_label.nd rfl (Or.inl rfl) (pe_op op_mod (pv 2) pe_int))) pss_nil)
      (pss_cons (ps_set (i := 3) sc__law_label.nd rfl (Or.inl rfl) (pe_op op_add pe_int (pe_op op_mod (pe_op op_fdiv (pv 0) pe_int) pe_int)))
      (pss_cons (ps_set (i := 4) sc__law_label.nd rfl (Or.inl rfl) (pe_op op_add (pv 3) (pe_op op_mul (pe_op op_fdiv (pe_op op_sub (pe_op op_add (pv 3) (pv 1)) pe_int) (pv 1)) (pv 2))))
      (pss_cons (ps_if (pt_cmpR op_gt (pv 4) pe_int (nomark _)) (pss_cons (ps_set (i := 3) sc__law_label.nd rfl (Or.inl rfl) pe_int)
      (pss_one (ps_set (i := 4) sc__law_label.nd rfl (Or.inl rfl) (pe_op op_add pe_int (pv 2))))) pss_nil)
      (pss_cons (ps_set (i := 5) sc__law_label.nd rfl (Or.inl rfl) (pe_op op_mod (pe_op op_fdiv (pv 0) pe_int) (pv 4)))
      (pss_one (ps_ret (pe_tup (pa_cons (pe_op op_mod (pe_op op_fdiv (pv 0) pe_int) pe_int) (pa_cons (pv 5) (pa_cons (pv 3) (pa_cons (pv 1) (pa_cons (pv 2) pa_nil))))))))))))))), ?_⟩
  generalize hsz : 1 + c % 12 = sz
  have z0 : 1 ≤ sz := by omega
  have z1 : sz ≤ 12 := by omega
  refine ⟨_, rfl, _, _, rfl, rfl, by show (0 : Int) < 12; decide, _, _, rfl, rfl, ?_⟩
  dsimp only
  rw [hsz]
  refine ⟨_, rfl, _, _, rfl, rfl, ⟨by decide, by decide⟩, _, rfl, _, _, rfl, rfl, _, _, rfl, rfl, by omega, ?_⟩
  dsimp only
  generalize hch : c / 12 % (17 - sz) = ch
  have c0 : 0 ≤ ch := by rw [← hch]; exact Int.emod_nonneg _ (by omega)
  have c1 : ch ≤ 16 - sz := by have := Int.emod_lt_of_pos (c / 12) (show 0 < 17 - sz by omega); omega
  generalize hda : 1 + c / 612 % 60 = da
  have d0 : 1 ≤ da := by omega
  have d1 : da ≤ 60 := by omega
  -- from the checks on
  have last : ∀ k, 0 ≤ k → k ≤ 16 - sz → tSeq (tAsg (tOp (rI0 fun i j => .int (i + j)) (tC (.int 1)) (tOp (rI (fun _ j => 0 < j) fun i j => .int (i % j)) (tOp (rI CDiv fun i j => .int (i / j)) (tVar 0) (tC (.int 612))) (tC (.int 60)))) (gName 3))
      (tSeq (tAsg (tOp (rI0 fun i j => .int (i + j)) (tVar 3) (tOp (rI CMul fun i j => .int (i * j)) (tOp (rI CDiv fun i j => .int (i / j)) (tOp (rI0 fun i j => .int (i - j)) (tOp (rI0 fun i j => .int (i + j)) (tVar 3) (tVar 1)) (tC (.int 1))) (tVar 1)) (tVar 2))) (gName 4))
      (tSeq (tIfS (tTest (tOp (rI0 fun i j => .bl (decide (j < i))) (tVar 4) (tC (.int 255)))) (tSeq (tAsg (tC (.int 1)) (gName 3)) (tAsg (tOp (rI0 fun i j => .int (i + j)) (tC (.int 1)) (tVar 2)) (gName 4))) tNext)
      (tSeq (tAsg (tOp (rI (fun _ j => 0 < j) fun i j => .int (i % j)) (tOp (rI CDiv fun i j => .int (i / j)) (tVar 0) (tC (.int 36720))) (tVar 4)) (gName 5))
      (tRet (tTup (tCons (tOp (rI (fun _ j => 0 < j) fun i j => .int (i % j)) (tOp (rI CDiv fun i j => .int (i / j)) (tVar 0) (tC (.int 9363600))) (tC (.int 256))) (tCons (tVar 5) (tCons (tVar 3) (tCons (tVar 1) (tCons (tVar 2) tNil))))))))))
      { nx := fun _ H' => Q .non H', rt := Q } [some (.int c), some (.int sz), some (.int k), none, none, none] H := fun k k0 k1 => by
    refine ⟨_, rfl, _, _, rfl, rfl, ⟨by decide, by decide⟩, _, _, rfl, rfl, by show (0 : Int) < 60; decide, _, _, rfl, rfl, ?_⟩
    dsimp only
    rw [hda]
    obtain ⟨g0, g1⟩ := groups_le d0 d1 z0
    refine ⟨_, rfl, _, rfl, _, rfl, _, _, rfl, rfl, _, _, rfl, rfl, _, rfl, _, _, rfl, rfl, ⟨by omega, by omega⟩, _, rfl, _, _, rfl, rfl, .inr ⟨by omega, by omega⟩, _, _, rfl, rfl, ?_⟩
    dsimp only
    generalize hg : (da + sz - 1) / sz = g
    rw [hg] at g0 g1
    have gk0 : 0 ≤ g * k := Int.mul_nonneg g0 k0
    have fin : ∀ d pg : Int, 1 ≤ d → d ≤ 60 → pg = d + (d + sz - 1) / sz * k → d ≤ pg → pg ≤ 255 →
        tSeq (tAsg (tOp (rI (fun _ j => 0 < j) fun i j => .int (i % j)) (tOp (rI CDiv fun i j => .int (i / j)) (tVar 0) (tC (.int 36720))) (tVar 4)) (gName 5))
        (tRet (tTup (tCons (tOp (rI (fun _ j => 0 < j) fun i j => .int (i % j)) (tOp (rI CDiv fun i j => .int (i / j)) (tVar 0) (tC (.int 9363600))) (tC (.int 256))) (tCons (tVar 5) (tCons (tVar 3) (tCons (tVar 1) (tCons (tVar 2) tNil)))))))
        { nx := fun _ H' => Q .non H', rt := Q } [some (.int c), some (.int sz), some (.int k), some (.int d), some (.int pg), none] H := fun d pg e0 e1 e2 e3 e4 => by
      refine ⟨_, rfl, _, _, rfl, rfl, ⟨by decide, by decide⟩, _, rfl, _, _, rfl, rfl, by omega, ?_⟩
      refine ⟨_, rfl, _, _, rfl, rfl, ⟨by decide, by decide⟩, _, _, rfl, rfl, by show (0 : Int) < 256; decide, _, rfl, _, rfl, _, rfl, _, rfl, by show 5 ≤ sizeLine; decide, fun p hp => ?_⟩
      have m0 := Int.emod_nonneg (c / 36720) (show pg ≠ 0 by omega)
      have m1 := Int.emod_lt_of_pos (c / 36720) (show 0 < pg by omega)
      refine q ⟨c / 9363600 % 256, c / 36720 % pg, d, sz, k⟩ p ⟨?_, ?_, e0, ?_, z0, z1, k0, k1, ?_, m0, ?_⟩ hp
      · exact Int.emod_nonneg _ (by decide)
      · have := Int.emod_lt_of_pos (c / 9363600) (show (0 : Int) < 256 by decide)
        show c / 9363600 % 256 ≤ 255
        omega
      · show d ≤ 255
        omega
      · show d + (d + sz - 1) / sz * k ≤ 255
        omega
      · show c / 36720 % pg < d + (d + sz - 1) / sz * k
        omega
    refine ⟨_, rfl, _, _, rfl, rfl, _, rfl, ite2 (fun e => ?_) (fun e => ?_)⟩
    · refine ⟨_, rfl, _, _, rfl, rfl, fin 1 (1 + k) (by decide) (by decide) ?_ (by omega) (by omega)⟩
      rw [show (1 + sz - 1 : Int) = sz by omega, Int.ediv_self (by omega)]
      omega
    · have e1 : ¬ (255 < da + g * k) := fun z => e (decide_eq_true z)
      exact fin da (da + g * k) d0 d1 (by rw [hg]) (by omega) (by omega)
  refine ⟨_, rfl, _, _, rfl, rfl, ⟨by decide, by decide⟩, _, _, rfl, rfl, by show (0 : Int) < 3; decide, _, _, rfl, rfl, _, rfl, ite2 (fun e => ?_) (fun e => ?_)⟩
  · refine ⟨_, rfl, _, _, rfl, rfl, by show (0 : Int) < 4; decide, last _ ?_ ?_⟩
    · omega
    · have : 0 ≤ ch % 4 := by omega
      have : ch % 4 ≤ ch := by omega
      omega
  · exact last ch c0 c1
/-- the label's symbols -/
def Lab.syms (L : Lab) : List G := [gOf (L.ar / 16), gOf L.ar, gOf (L.nu / 16), gOf L.nu, gOf (L.da / 16), gOf L.da, gOf L.si, gOf L.ch]
def Lab.symV (L : Lab) : List V := [.int (L.ar / 16), .int (L.ar % 16), .int (L.nu / 16), .int (L.nu % 16), .int (L.da / 16), .int (L.da % 16), .int L.si, .int L.ch]
theorem Lab.syms_eq {L : Lab} (h : L.Ok) : gsV L.syms = L.symV := by
  have := h.a0; have := h.a1; have := h.d0; have := h.d1; have := h.s0; have := h.s1; have := h.c0; have := h.c1; have := h.p1; have := h.n0; have := h.n1
  show [gV _, gV _, gV _, gV _, gV _, gV _, gV _, gV _] = _
  rw [gV_of' (by omega) (by omega), gV_of, gV_of' (by omega) (by omega), gV_of, gV_of' (by omega) (by omega), gV_of, gV_of' (by omega) (by omega), gV_of' (by omega) (by omega)]
  rfl
def sp_lsyms : Sp := fun vs H Q _ => ∃ (a : Addr) (L : Lab), vs = [.ref a] ∧ H a = some (.tup L.vs) ∧ ∀ H' p, Same H H' → H p = none → H' p = some (.lst L.symV) → Q (.ref p) H'
theorem ok_law_label_symbols (T : Tx K mg) : Keeps P w K mg base 1 "_law_label_symbols" p__law_label_symbols sp_lsyms := by
  refine T.d__law_label_symbols.keeps sc__law_label_symbols (fun _ _ _ _ _ _ us hl => match us, hl with | [_], _ => rfl) (fun vs H Q E h => by obtain ⟨a, L, rfl, _⟩ := h; rfl) (fun f cdv A outer s H vs Q E hr h => ?_)
  obtain ⟨a, L, rfl, hL, q⟩ := h
  refine ⟨_, (pss_cons (ps_set (i := 1) sc__law_label_symbols.nd rfl (Or.inl rfl) (pe_lst pa_nil))
      (pss_cons (ps_for PassesOwn.never rfl (piT K (pe_slice (slT K) (pv 0) po_none (po_some pe_int))) (pg_name (i := 2) sc__law_label_symbols.nd rfl (Or.inl rfl))
      (pss_one (ps_set (i := 1) sc__law_label_symbols.nd rfl (Or.inl rfl) (pe_op op_cat (pv 1) (pe_lst (pa_cons (pe_op op_fdiv (pv 2) pe_int) (pa_cons (pe_op op_mod (pe_callTy call_int1 (by rfl) T.b_int (by decide +kernel) (pa_cons (pv 2) pa_nil)) pe_int) pa_nil)))))))
      (pss_one (ps_ret (pe_op op_cat (pv 1) (pe_lst (pa_cons (pe_ix (ixT K) (pv 0) pe_int (fun _ _ => rfl)) (pa_cons (pe_ix (ixT K) (pv 0) pe_int (fun _ _ => rfl)) pa_nil)))))))), ?_⟩
  refine ⟨Nat.zero_le _, fun D hD => ?_⟩
  have s0 : Same H (upd H D (.lst [])) := same_upd hD
  have hcut : cutV L.vs none (some 3) = [.int L.ar, .int L.nu, .int L.da] := by
    unfold cutV
    rw [show HT.sIx L.vs.length 0 none = 0 from rfl, show HT.sIx L.vs.length L.vs.length (some 3) = 3 from rfl]
    rfl
  refine ⟨_, rfl, 3, rfl, a, L.vs, rfl, SqT.of (s0 _ _ hL), (by show ¬ (_ ∧ (3 : Nat) = 5); omega), fun t ht => ?_⟩
  rw [hcut]
  have s1 : Same H (upd (upd H D (.lst [])) t (.tup [.int L.ar, .int L.nu, .int L.da])) := same_two hD ht
  refine ⟨t, rfl, ⟨_, SqT.of upd_same⟩, ?_⟩
  have e0 : D ≠ t := ne_of_none upd_same ht
  refine for_tup (K := K) (a := t) (xs := [.int L.ar, .int L.nu, .int L.da]) (fun i σ H1 => ∃ D v, σ = [some (.ref a), some (.ref D), v] ∧ Same H H1 ∧ H1 t = some (.tup [.int L.ar, .int L.nu, .int L.da]) ∧ H D = none ∧ H1 D = some (.lst (L.symV.take (2 * i)))) ⟨D, none, rfl, s1, upd_same, hD, by rw [upd_ne e0, upd_same]; rfl⟩
    (fun i σ H1 _ ⟨_, _, _, _, e, _⟩ => SqT.of e) ?_ ?_
  · rintro i x σ H1 hi ⟨D1, v, rfl, s2, e1, e2, e3⟩
    have hx : ∃ z : Int, x = .int z ∧ L.symV.take (2 * i) ++ [.int (z / 16), .int (z % 16)] = L.symV.take (2 * (i + 1)) := by
      match i, hi with
      | 0, h => exact ⟨L.ar, (Option.some.inj h).symm, rfl⟩
      | 1, h => exact ⟨L.nu, (Option.some.inj h).symm, rfl⟩
      | 2, h => exact ⟨L.da, (Option.some.inj h).symm, rfl⟩
      | i + 3, h => simp at h
    obtain ⟨z, rfl, hz⟩ := hx
    refine ⟨_, rfl, _, rfl, _, _, rfl, rfl, ⟨by decide, by decide⟩, _, rfl, .inl ⟨_, rfl, _, _, rfl, rfl, by show (0 : Int) < 16; decide, by show 2 ≤ sizeLine; decide, fun l hl => ?_⟩⟩
    have s3 := same_upd (o := .lst [.int (z / 16), .int (z % 16)]) hl
    refine ⟨D1, l, _, _, rfl, rfl, s3 _ _ e3, upd_same, sz (by rw [List.length_take]; show min (2 * i) 8 + 2 ≤ 100000; omega), fun p hp => ?_⟩
    have s4 := same_upd (o := .lst (L.symV.take (2 * i) ++ [.int (z / 16), .int (z % 16)])) hp
    refine ⟨p, _, rfl, L2.Same.trans s2 (L2.Same.trans s3 s4), s4 _ _ (s3 _ _ e1), (L2.Same.trans s2 s3).free hp, ?_⟩
    rw [upd_same, hz]
  · rintro σ H1 ⟨D1, v, rfl, s2, e1, e2, e3⟩
    have hL1 := s2 _ _ hL
    refine ⟨_, rfl, _, rfl, a, L.vs, 3, _, rfl, rfl, SqT.of hL1, rfl, _, rfl, a, L.vs, 4, _, rfl, rfl, SqT.of hL1, rfl, by show 2 ≤ sizeLine; decide, fun l hl => ?_⟩
    have s3 := same_upd (o := .lst [.int L.si, .int L.ch]) hl
    refine ⟨D1, l, _, _, rfl, rfl, s3 _ _ e3, upd_same, by show 8 ≤ sizeLine; decide, fun p hp => ?_⟩
    have s4 := same_upd (o := .lst (L.symV.take (2 * 3) ++ [.int L.si, .int L.ch])) hp
    exact q _ p (L2.Same.trans s2 (L2.Same.trans s3 s4)) ((L2.Same.trans s2 s3).free hp) upd_same
end
end K44
set_option maxHeartbeats 4000000
namespace K44
open PySem PySem.Spec PyProof.Rows L2
section
variable {P : Program} {w : World} {K : PySem.W.Frag} {mg : Str → Option Value} {base : Heap}
def sp_cklabel (K : PySem.W.Frag) : Sp := fun vs H Q _ => ∃ (a : Addr) (L : Lab), vs = [.ref a] ∧ SqT K H a L.vs ∧ L.Ok ∧ ∀ z, Q (.int z) H
theorem ok_check_label (T : Tx K mg) : Keeps P w K mg base 2 "check_label" p_check_label (sp_cklabel K) := by
  refine T.d_check_label.keeps sc_check_label (fun _ _ _ _ _ _ us hl => match us, hl with | [_], _ => rfl) (fun vs H Q E h => by obtain ⟨a, L, rfl, _⟩ := h; rfl) (fun f cdv A outer s H vs Q E hr h => ?_)
  obtain ⟨a, ⟨ar, nu, da, si, ch⟩, rfl, hL, ⟨a0, a1, d0, d1, s0, s1, c0, c1, p1, n0, n1⟩, q⟩ := h
  dsimp only at a0 a1 d0 d1 s0 s1 c0 c1 p1 n0 n1
  replace hL : SqT K H a [.int ar, .int nu, .int da, .int si, .int ch] := hL
  refine ⟨_, (pss_cons (ps_asg (pv 0) (pg_tup rfl (pgs_cons (pg_name (i := 1) sc_check_label.nd rfl (Or.inl rfl)) (pgs_cons (pg_name (i := 2) sc_check_label.nd rfl (Or.inl rfl)) (pgs_cons (pg_name (i := 3) sc_check_label.nd rfl (Or.inl rfl)) (pgs_cons (pg_name (i := 4) sc_check_label.nd rfl (Or.inl rfl)) (pgs_cons (pg_name (i := 5) sc_check_label.nd rfl (Or.inl rfl)) pgs_nil)))))))
      (pss_cons (ps_if (PW.pt (pw_or (pt_cmpR op_lt (pv 1) pe_int (nomark _)) (pw_or (pt_cmpR op_gt (pv 1) (cst T.c_GREATEST_ARCHIVE) (nomark _)) (pw_or (pt_cmpR op_lt (pv 3) pe_int (nomark _)) (pw_or1 (pt_cmpR op_gt (pv 3) (cst T.c_MOST_PAGES) (nomark _))))))) (pss_one ps_never) pss_nil)
      (pss_cons (ps_if (PW.pt (pw_or (pt_cmpR op_lt (pv 4) pe_int (nomark _)) (pw_or (pt_cmpR op_gt (pv 4) (cst T.c_GREATEST_GROUP) (nomark _)) (pw_or (pt_cmpR op_lt (pv 5) pe_int (nomark _)) (pw_or1 (pt_cmpR op_gt (pv 5) (pe_op op_sub (cst T.c_MOST_MEMBERS) (pv 4)) (nomark _))))))) (pss_one ps_never) pss_nil)
      (pss_cons (ps_set (i := 6) sc_check_label.nd rfl (Or.inl rfl) (pe_op op_add (pv 3) (pe_op op_mul (pcall (ok_group_count T) (hr.mono (by decide)) (pa_cons (pv 3) (pa_cons (pv 4) pa_nil))) (pv 5))))
      (pss_cons (ps_if (PW.pt (pw_or (pt_cmpR op_gt (pv 6) (cst T.c_MOST_PAGES) (nomark _)) (pw_or (pt_cmpR op_lt (pv 2) pe_int (nomark _)) (pw_or1 (pt_cmpR op_ge (pv 2) (pv 6) (nomark _)))))) (pss_one ps_never) pss_nil)
      (pss_one (ps_ret (pv 6)))))))), ?_⟩
  refine ⟨_, rfl, a, _, rfl, hL, rfl, _, _, rfl, _, _, rfl, _, _, rfl, _, _, rfl, _, _, rfl, rfl, ?_⟩
  refine ⟨_, rfl, _, _, rfl, rfl, _, rfl, ite2 (fun e => absurd (of_decide_eq_true e) (by omega)) fun _ => ?_⟩
  refine ⟨_, rfl, _, _, rfl, rfl, _, rfl, ite2 (fun e => absurd (of_decide_eq_true e) (by omega)) fun _ => ?_⟩
  refine ⟨_, rfl, _, _, rfl, rfl, _, rfl, ite2 (fun e => absurd (of_decide_eq_true e) (by omega)) fun _ => ?_⟩
  refine ⟨_, rfl, _, _, rfl, rfl, _, rfl, ite2 (fun e => absurd (of_decide_eq_true e) (by omega)) fun _ => ?_⟩
  refine ⟨_, rfl, _, _, rfl, rfl, _, rfl, ite2 (fun e => absurd (of_decide_eq_true e) (by omega)) fun _ => ?_⟩
  refine ⟨_, rfl, _, _, rfl, rfl, _, rfl, ite2 (fun e => absurd (of_decide_eq_true e) (by omega)) fun _ => ?_⟩
  refine ⟨_, rfl, _, _, rfl, rfl, _, rfl, ite2 (fun e => absurd (of_decide_eq_true e) (by omega)) fun _ => ?_⟩
  refine ⟨_, rfl, _, rfl, _, _, rfl, rfl, _, _, rfl, rfl, _, rfl, ite2 (fun e => absurd (of_decide_eq_true e) (by omega)) fun _ => ?_⟩
  refine ⟨_, rfl, _, rfl, _, rfl, _, _, rfl, s0, by omega, _, rfl, _, _, rfl, rfl, .inr ⟨by omega, by omega⟩, _, _, rfl, rfl, ?_⟩
  refine ⟨_, rfl, _, _, rfl, rfl, _, rfl, ite2 (fun e => absurd (of_decide_eq_true e) (by omega)) fun _ => ?_⟩
  refine ⟨_, rfl, _, _, rfl, rfl, _, rfl, ite2 (fun e => absurd (of_decide_eq_true e) (by omega)) fun _ => ?_⟩
  refine ⟨_, rfl, _, rfl, _, _, rfl, rfl, _, rfl, ite2 (fun e => absurd (of_decide_eq_true e) (by omega)) fun _ => ?_⟩
  exact ⟨_, rfl, q _⟩
def sp_slabel : Sp := fun vs H Q _ => ∃ (a : Addr) (L : Lab), vs = [.ref a] ∧ H a = some (.lst L.symV) ∧ L.Ok ∧ ∀ p, H p = none → Q (.ref p) (upd H p (.tup L.vs))
theorem ok_symbols_label (T : Tx K mg) : Keeps P w K mg base 3 "symbols_label" p_symbols_label sp_slabel := by
  refine T.d_symbols_label.keeps sc_symbols_label (fun _ _ _ _ _ _ us hl => match us, hl with | [_], _ => rfl) (fun vs H Q E h => by obtain ⟨a, L, rfl, _⟩ := h; rfl) (fun f cdv A outer s H vs Q E hr h => ?_)
  obtain ⟨a, L, rfl, hL, ok, q⟩ := h
  have hS : SqL K H a L.symV := SqL.of hL
  refine ⟨_, (pss_cons (ps_set (i := 1) sc_symbols_label.nd rfl (Or.inl rfl) (pe_tup (pa_cons (pe_op op_add (pe_op op_mul pe_int (pe_ix (ixL K) (pv 0) pe_int (fun _ _ => rfl))) (pe_ix (ixL K) (pv 0) pe_int (fun _ _ => rfl))) (pa_cons (pe_op op_add (pe_op op_mul pe_int (pe_ix (ixL K) (pv 0) pe_int (fun _ _ => rfl))) (pe_ix (ixL K) (pv 0) pe_int (fun _ _ => rfl))) (pa_cons (pe_op op_add (pe_op op_mul pe_int (pe_ix (ixL K) (pv 0) pe_int (fun _ _ => rfl))) (pe_ix (ixL K) (pv 0) pe_int (fun _ _ => rfl))) (pa_cons (pe_ix (ixL K) (pv 0) pe_int (fun _ _ => rfl)) (pa_cons (pe_ix (ixL K) (pv 0) pe_int (fun _ _ => rfl)) pa_nil)))))))
      (pss_cons (ps_expr (pcall (ok_check_label T) (hr.mono (by decide)) (pa_cons (pv 1) pa_nil)))
      (pss_one (ps_ret (pv 1))))), ?_⟩
  refine ⟨_, rfl, a, _, 0, _, rfl, rfl, hS, rfl, _, _, rfl, rfl, .inl ⟨by decide, by decide⟩, _, rfl, a, _, 1, _, rfl, rfl, hS, rfl, _, _, rfl, rfl, ?_⟩
  refine ⟨_, rfl, a, _, 2, _, rfl, rfl, hS, rfl, _, _, rfl, rfl, .inl ⟨by decide, by decide⟩, _, rfl, a, _, 3, _, rfl, rfl, hS, rfl, _, _, rfl, rfl, ?_⟩
  refine ⟨_, rfl, a, _, 4, _, rfl, rfl, hS, rfl, _, _, rfl, rfl, .inl ⟨by decide, by decide⟩, _, rfl, a, _, 5, _, rfl, rfl, hS, rfl, _, _, rfl, rfl, ?_⟩
  refine ⟨_, rfl, a, _, 6, _, rfl, rfl, hS, rfl, _, rfl, a, _, 7, _, rfl, rfl, hS, rfl, by show 5 ≤ sizeLine; decide, fun p hp => ?_⟩
  have e : ([.int (16 * (L.ar / 16) + L.ar % 16), .int (16 * (L.nu / 16) + L.nu % 16), .int (16 * (L.da / 16) + L.da % 16), .int L.si, .int L.ch] : List V) = L.vs := by
    unfold Lab.vs
    rw [show 16 * (L.ar / 16) + L.ar % 16 = L.ar by omega, show 16 * (L.nu / 16) + L.nu % 16 = L.nu by omega, show 16 * (L.da / 16) + L.da % 16 = L.da by omega]
  dsimp only
  rw [e]
  exact ⟨_, rfl, p, L, rfl, SqT.of upd_same, ok, fun _ => ⟨_, rfl, q p hp⟩⟩
theorem cut_to (xs : List V) (k : Nat) : cutV xs none (some (k : Int)) = xs.take k := by
  unfold cutV
  rw [HT.sIx_none, HT.sIx_nat, List.drop_zero, Nat.sub_zero]
  by_cases h : k ≤ xs.length
  · rw [Nat.min_eq_left h]
  · rw [Nat.min_eq_right (by omega), List.take_of_length_le (Nat.le_refl _), List.take_of_length_le (by omega)]
theorem cut_from (xs : List V) (k : Nat) : cutV xs (some (k : Int)) none = xs.drop k := by
  unfold cutV
  rw [HT.sIx_none, HT.sIx_nat]
  by_cases h : k ≤ xs.length
  · rw [Nat.min_eq_left h, List.take_of_length_le (by rw [List.length_drop]; exact Nat.le_refl _)]
  · rw [Nat.min_eq_right (by omega), Nat.sub_self, List.take_zero, List.drop_eq_nil_of_le (by omega)]
theorem cut_mid (xs : List V) (a b : Nat) (hb : b ≤ xs.length) : cutV xs (some (a : Int)) (some (b : Int)) = (xs.drop a).take (b - a) := by
  unfold cutV
  rw [HT.sIx_nat, HT.sIx_nat]
  by_cases h : a ≤ xs.length
  · rw [Nat.min_eq_left h, Nat.min_eq_left hb]
  · rw [List.drop_eq_nil_of_le (show xs.length ≤ a by omega), List.drop_eq_nil_of_le (show xs.length ≤ min a xs.length by omega), List.take_nil, List.take_nil]
def sp_label_of : Sp := fun vs H Q _ => ∃ (a : Addr) (L : Lab) (n : Nat), vs = [.ref a] ∧ H a = some (.lst (L.symV ++ List.replicate n (.int 0))) ∧ L.Ok ∧ n ≤ 100 ∧ ∀ H' p, Same H H' → H p = none → H' p = some (.tup L.vs) → Q (.ref p) H'
theorem ok_label_of (T : Tx K mg) : Keeps P w K mg base 4 "label_of" p_label_of sp_label_of := by
  refine T.d_label_of.keeps sc_label_of (fun _ _ _ _ _ _ us hl => match us, hl with | [_], _ => rfl) (fun vs H Q E h => by obtain ⟨a, L, n, rfl, _⟩ := h; rfl) (fun f cdv A outer s H vs Q E hr h => ?_)
  obtain ⟨a, L, n, rfl, hL, ok, hn, q⟩ := h
  refine ⟨_, (pss_cons (ps_if (pt_val (pe_callB (cr_any rfl) (by rfl) T.b_any (by decide +kernel) (pa_cons (pe_lc (own := [("symbol", 1)]) rfl sc_label_of.nd (piL K (pe_slice (slL K) (pv 0) (po_some (cst T.c_SIZE)) po_none)) (blkOk_by (by kernel_rfl)) (fun _ _ _ _ _ => (pg_name (i := 1) sc_label_of.nd rfl (Or.inl rfl))) (fun _ _ _ _ _ => pts_nil) (fun _ _ _ _ _ => (pe_cmpR op_ne (pv 1) pe_int (nomark _)))) pa_nil))) (pss_one (ps_ret pe_non)) pss_nil)
      (pss_one (ps_try_thru0 (pss_one (ps_ret (pcall (ok_symbols_label T) (hr.mono (by decide)) (pa_cons (pe_slice (slL K) (pv 0) po_none (po_some (cst T.c_SIZE))) pa_nil))))))), ?_⟩
  refine ⟨_, rfl, 8, rfl, a, _, rfl, SqL.of hL, fun t ht => ?_⟩
  rw [show cutV (L.symV ++ List.replicate n (.int 0)) (some 8) none = List.replicate n (.int 0) from (cut_from _ 8).trans rfl]
  have s1 := same_upd (o := .lst (List.replicate n (V.int 0))) ht
  refine ⟨t, rfl, ⟨_, SqL.of upd_same⟩, fun D hD => ?_⟩
  have s2 := same_upd (o := .lst []) hD
  refine lc_list (K := K) (a := t) (xs := List.replicate n (.int 0)) (fun i H1 => Same (upd H t (.lst (List.replicate n (V.int 0)))) H1 ∧ H1 D = some (.lst (List.replicate i (.bl false)))) ⟨s2, upd_same⟩ (fun i H1 _ z => SqL.of (z.1 _ _ upd_same)) (fun i x H1 hi z => ?_) fun H1 z => ?_
  · obtain ⟨z1, z2⟩ := z
    have hx : x = .int 0 := (List.mem_replicate.mp (List.mem_of_getElem? hi)).2
    have hi2 : i < n := by have := (List.getElem?_eq_some_iff.mp hi).1; rwa [List.length_replicate] at this
    subst hx
    refine ⟨rfl, _, rfl, rfl, _, z2, szl (by rw [List.length_replicate]; omega), same_mut z1 hD, ?_⟩
    rw [upd_same, List.replicate_succ']
    rfl
  · obtain ⟨z1, z2⟩ := z
    rw [List.length_replicate] at z2
    refine ⟨D, List.replicate n false, rfl, SqL.of (by rw [z2, List.map_replicate]), _, rfl, ?_⟩
    rw [show (List.replicate n false).any id = false by simp]
    refine iteF ?_
    have s3 := L2.Same.trans s1 z1
    refine ⟨_, rfl, 8, rfl, a, _, rfl, SqL.of (s3 _ _ hL), fun u hu => ?_⟩
    rw [show cutV (L.symV ++ List.replicate n (.int 0)) none (some 8) = L.symV from (cut_to _ 8).trans rfl]
    have s4 := same_upd (o := .lst L.symV) hu
    refine ⟨u, L, rfl, upd_same, ok, fun p hp => ?_⟩
    have s5 := same_upd (o := .tup L.vs) hp
    exact q _ p (L2.Same.trans s3 (L2.Same.trans s4 s5)) ((L2.Same.trans s3 s4).free hp) upd_same
end
end K44
set_option maxHeartbeats 4000000
namespace K44
open PySem PySem.Spec PyProof.Rows L2
section
variable {P : Program} {w : World} {K : PySem.W.Frag} {mg : Str → Option Value} {base : Heap}
/-! ### the field -/
theorem gV_inj {a b : G} (h : gV a = gV b) : a = b := by
  obtain ⟨⟨a, ha⟩⟩ := a
  obtain ⟨⟨b, hb⟩⟩ := b
  have e : (a : Int) = b := V.int.inj h
  have : a = b := by omega
  subst this
  rfl
theorem gV_zero (a : G) : gV a = .int 0 ↔ a = 0 := ⟨fun h => gV_inj (h.trans rfl), fun h => by rw [h]; rfl⟩
theorem gV_xor (a b : G) : V.int (Builtin.bitXor (a.v.val : Int) (b.v.val : Int)) = gV (a + b) := by
  show V.int _ = V.int _
  rw [Bits.bitXor_pp (by omega) (by omega)]
  rfl
def logT : List Nat := [0, 0, 1, 4, 2, 8, 5, 10, 3, 14, 9, 7, 6, 13, 11, 12]
def expT : List Nat := [1, 2, 4, 8, 3, 6, 12, 11, 5, 10, 7, 14, 15, 13, 9]
theorem log_exp : ∀ a b : Fin 16, a ≠ 0 → b ≠ 0 → expT[(logT.getD a.val 0 + logT.getD b.val 0) % 15]? = some (fm a b).val := by decide +kernel
theorem log_at : ∀ a : Fin 16, logT[a.val]? = some (logT.getD a.val 0) := by decide +kernel
theorem nvs_get {l : List Nat} {i n : Nat} (h : l[i]? = some n) : (nvs l)[i]? = some (.int (n : Int)) := by unfold nvs; rw [List.getElem?_map, h]; rfl
def sp_times : Sp := fun vs H Q _ => ∃ a b : G, vs = [gV a, gV b] ∧ ∀ H', Same H H' → Q (gV (a * b)) H'
theorem ok_law_times (T : Tx K mg) : Keeps P w K mg base 1 "_law_times" p__law_times sp_times := by
  refine T.d__law_times.keeps sc__law_times (fun _ _ _ _ _ _ us hl => match us, hl with | [_, _], _ => rfl) (fun vs H Q E h => by obtain ⟨a, b, rfl, _⟩ := h; rfl) (fun f cdv A outer s H vs Q E hr h => ?_)
  obtain ⟨a, b, rfl, q⟩ := h
  refine ⟨_, (pss_cons (ps_if (PW.pt (pw_or (pt_cmpR op_eq (pv 0) pe_int (nomark _)) (pw_or1 (pt_cmpR op_eq (pv 1) pe_int (nomark _))))) (pss_one (ps_ret pe_int)) pss_nil)
      (pss_cons (ps_set (i := 2) sc__law_times.nd rfl (Or.inl rfl) (pe_tup (pa_cons pe_int (pa_cons pe_int (pa_cons pe_int (pa_cons pe_int (pa_cons pe_int (pa_cons pe_int (pa_cons pe_int (pa_cons pe_int (pa_cons pe_int (pa_cons pe_int (pa_cons pe_int (pa_cons pe_int (pa_cons pe_int (pa_cons pe_int (pa_cons pe_int (pa_cons pe_int pa_nil))))))))))))))))))
      (pss_one (ps_ret (pe_ix (ixT K) (pe_tup (pa_cons pe_int (pa_cons pe_int (pa_cons pe_int (pa_cons pe_int (pa_cons pe_int (pa_cons pe_int (pa_cons pe_int (pa_cons pe_int (pa_cons pe_int (pa_cons pe_int (pa_cons pe_int (pa_cons pe_int (pa_cons pe_int (pa_cons pe_int (pa_cons pe_int pa_nil)))))))))))))))) (pe_op op_mod (pe_op op_add (pe_ix (ixT K) (pv 2) (pv 0) (fun _ _ => rfl)) (pe_ix (ixT K) (pv 2) (pv 1) (fun _ _ => rfl))) pe_int) (fun _ _ => rfl)))))), ?_⟩
  refine ⟨_, rfl, rfl, _, rfl, ite2 (fun e => ?_) (fun e => ?_)⟩
  · have e1 : a = 0 := (gV_zero a).mp (of_decide_eq_true e)
    have q1 := q H (Same.refl H)
    rw [e1, g_zero_mul] at q1
    exact q1
  · have n1 : a ≠ 0 := fun z => e (decide_eq_true ((gV_zero a).mpr z))
    refine ⟨_, rfl, rfl, _, rfl, ite2 (fun e => ?_) (fun e => ?_)⟩
    · have e1 : b = 0 := (gV_zero b).mp (of_decide_eq_true e)
      have q1 := q H (Same.refl H)
      rw [e1, g_mul_zero] at q1
      exact q1
    · have n2 : b ≠ 0 := fun z => e (decide_eq_true ((gV_zero b).mpr z))
      refine ⟨by show 16 ≤ sizeLine; decide, fun t ht => ?_⟩
      refine ⟨by show 15 ≤ sizeLine; decide, fun u hu => ?_⟩
      have st : SqT K (upd (upd H t (.tup (nvs logT))) u (.tup (nvs expT))) t (nvs logT) := SqT.of (by rw [upd_ne (ne_of_none upd_same hu), upd_same])
      have su : SqT K (upd (upd H t (.tup (nvs logT))) u (.tup (nvs expT))) u (nvs expT) := SqT.of upd_same
      refine ⟨_, rfl, _, rfl, t, _, _, _, rfl, rfl, st, atI_nat (nvs_get (log_at a.v)), ?_⟩
      refine ⟨_, rfl, _, rfl, t, _, _, _, rfl, rfl, st, atI_nat (nvs_get (log_at b.v)), _, _, rfl, rfl, _, _, rfl, rfl, by show (0 : Int) < 15; decide, ?_⟩
      have n3 : a.v ≠ 0 := fun z => n1 (congrArg G.mk z)
      have n4 : b.v ≠ 0 := fun z => n2 (congrArg G.mk z)
      have e3 := nvs_get (log_exp a.v b.v n3 n4)
      have e4 : ((logT.getD a.v.val 0 : Nat) : Int) + ((logT.getD b.v.val 0 : Nat) : Int) = ((logT.getD a.v.val 0 + logT.getD b.v.val 0 : Nat) : Int) := by omega
      dsimp only
      rw [e4, show ((logT.getD a.v.val 0 + logT.getD b.v.val 0 : Nat) : Int) % 15 = (((logT.getD a.v.val 0 + logT.getD b.v.val 0) % 15 : Nat) : Int) by omega]
      exact ⟨u, _, _, _, rfl, rfl, su, atI_nat e3, q _ (same_two ht hu)⟩
theorem inv_at : ∀ a : Fin 16, invT[a.val]? = some (fi a).val := by decide +kernel
def sp_linv : Sp := fun vs H Q _ => ∃ a : G, vs = [gV a] ∧ ∀ H', Same H H' → Q (gV (gi a)) H'
theorem ok_law_inverse (T : Tx K mg) : Keeps P w K mg base 1 "_law_inverse" p__law_inverse sp_linv := by
  refine T.d__law_inverse.keeps sc__law_inverse (fun _ _ _ _ _ _ us hl => match us, hl with | [_], _ => rfl) (fun vs H Q E h => by obtain ⟨a, rfl, _⟩ := h; rfl) (fun f cdv A outer s H vs Q E hr h => ?_)
  obtain ⟨a, rfl, q⟩ := h
  refine ⟨_, (pss_one (ps_ret (pe_ix (ixT K) (pe_tup (pa_cons pe_int (pa_cons pe_int (pa_cons pe_int (pa_cons pe_int (pa_cons pe_int (pa_cons pe_int (pa_cons pe_int (pa_cons pe_int (pa_cons pe_int (pa_cons pe_int (pa_cons pe_int (pa_cons pe_int (pa_cons pe_int (pa_cons pe_int (pa_cons pe_int (pa_cons pe_int pa_nil))))))))))))))))) (pv 0) (fun _ _ => rfl)))), ?_⟩
  refine ⟨by show 16 ≤ sizeLine; decide, fun t ht => ?_⟩
  exact ⟨_, rfl, t, nvs invT, _, _, rfl, rfl, SqT.of upd_same, atI_nat (nvs_get (inv_at a.v)), q _ (same_upd ht)⟩
end
end K44
set_option maxHeartbeats 4000000
namespace K44
open PySem PySem.Spec PyProof.Rows L2
section
variable {P : Program} {w : World} {K : PySem.W.Frag} {mg : Str → Option Value} {base : Heap}
/-- n symbols, as ints -/
def gr (f : Nat → G) : Nat → Int := fun i => ((f i).v.val : Int)
theorem gr_int (f : Nat → G) (i : Nat) : V.int (gr f i) = gV (f i) := rfl
theorem gsV_row (l : List G) : gsV l = rowV (gr fun i => l.getD i 0) l.length := by
  apply List.ext_getElem?
  intro k
  by_cases hk : k < l.length
  · rw [rowV_get hk]; unfold gsV gr; simp [hk]; rfl
  · rw [List.getElem?_eq_none (by unfold gsV; rw [List.length_map]; omega), List.getElem?_eq_none (by rw [rowV_len]; omega)]
theorem gV_pt {t : Nat} (h : t < 16) : V.int (t : Int) = gV (pt t) := by
  show V.int _ = V.int _
  congr 1
  show (t : Int) = ((t % 16 : Nat) : Int)
  omega
theorem gV_pt' {t : Int} {k : Nat} (e : t = k) (h : k < 16) : V.int t = gV (pt k) := by rw [e, gV_pt h]
theorem xor_pt {t j : Nat} (ht : t < 16) (hj : j < 16) : V.int (Builtin.bitXor (t : Int) (j : Int)) = gV (pt t + pt j) := by
  rw [← gV_xor]
  have e1 : ((pt t).v.val : Int) = t := by show ((t % 16 : Nat) : Int) = t; omega
  have e2 : ((pt j).v.val : Int) = j := by show ((j % 16 : Nat) : Int) = j; omega
  rw [e1, e2]
theorem xor_gg {a b : G} : V.int (Builtin.bitXor (a.v.val : Int) (b.v.val : Int)) = gV (a + b) := gV_xor a b
/-- the symbols of a list by their places -/
abbrev gat (l : List G) : Nat → G := fun i => l.getD i 0
theorem gsV_get {l : List G} {i : Nat} (h : i < l.length) : (gsV l)[i]? = some (gV (gat l i)) := by rw [gsV_row, rowV_get h]; rfl
theorem rgV_get {n i : Nat} (h : i < n) : (rgV 0 (n : Int))[i]? = some (.int (i : Int)) := by
  unfold rgV
  simp [h]
def sp_lat (K : PySem.W.Frag) : Sp := fun vs H Q _ => ∃ (a b : Addr) (l : List G) (t : Nat), vs = [.ref a, .ref b, .int t] ∧ H a = some (.lst (rgV 0 (l.length : Int))) ∧ H b = some (.lst (gsV l)) ∧ l.length ≤ 16 ∧ t < 16 ∧
  ∀ H', Same H H' → Q (gV (lgS (gat l) l.length (pt t) l.length)) H'
theorem ok_law_at (T : Tx K mg) : Keeps P w K mg base 2 "_law_at" p__law_at (sp_lat K) := by
  refine T.d__law_at.keeps sc__law_at (fun _ _ _ _ _ _ us hl => match us, hl with | [_, _, _], _ => rfl) (fun vs H Q E h => by obtain ⟨a, b, l, t, rfl, _⟩ := h; rfl) (fun f cdv A outer s H vs Q E hr h => ?_)
  obtain ⟨a, b, l, t, rfl, ha, hb, hl, ht, q⟩ := h
  have rl : ∀ n : Nat, (rgV 0 (n : Int)).length = n := fun n => by rw [rgV_length]; omega
  refine ⟨_, (pss_cons (ps_set (i := 3) sc__law_at.nd rfl (Or.inl rfl) pe_int)
      (pss_cons (ps_for PassesOwn.never rfl (pi_range1 (by rfl) T.b_range (pa_cons (pe_callB (lenK K) (by rfl) T.b_len PySem.boot_len (pa_cons (pv 0) pa_nil)) pa_nil)) (pg_name (i := 4) sc__law_at.nd rfl (Or.inl rfl))
      (pss_cons (ps_set (i := 5) sc__law_at.nd rfl (Or.inl rfl) (pe_ix (ixL K) (pv 1) (pv 4) (fun _ _ => rfl)))
      (pss_cons (ps_for PassesOwn.never rfl (pi_range1 (by rfl) T.b_range (pa_cons (pe_callB (lenK K) (by rfl) T.b_len PySem.boot_len (pa_cons (pv 0) pa_nil)) pa_nil)) (pg_name (i := 6) sc__law_at.nd rfl (Or.inl rfl))
      (pss_one (ps_if (pt_cmpR op_ne (pv 6) (pv 4) (nomark _)) (pss_cons (ps_set (i := 5) sc__law_at.nd rfl (Or.inl rfl) (pcall (ok_law_times T) (hr.mono (by decide)) (pa_cons (pv 5) (pa_cons (pe_op op_xor (pv 2) (pe_ix (ixL K) (pv 0) (pv 6) (fun _ _ => rfl))) pa_nil))))
      (pss_one (ps_set (i := 5) sc__law_at.nd rfl (Or.inl rfl) (pcall (ok_law_times T) (hr.mono (by decide)) (pa_cons (pv 5) (pa_cons (pcall (ok_law_inverse T) (hr.mono (by decide)) (pa_cons (pe_op op_xor (pe_ix (ixL K) (pv 0) (pv 4) (fun _ _ => rfl)) (pe_ix (ixL K) (pv 0) (pv 6) (fun _ _ => rfl))) pa_nil)) pa_nil)))))) pss_nil)))
      (pss_one (ps_set (i := 3) sc__law_at.nd rfl (Or.inl rfl) (pe_op op_xor (pv 3) (pv 5)))))))
      (pss_one (ps_ret (pv 3))))), ?_⟩
  refine ⟨_, rfl, a, _, rfl, .inl (SqL.of ha), _, rfl, by rw [rl]; omega, by rw [rl]; omega, ?_⟩
  rw [rl, Int.toNat_natCast]
  refine for_range (lo := 0) (n := l.length) (fun i σ H1 => ∃ v4 v5 v6, σ = [some (.ref a), some (.ref b), some (.int t), some (gV (lgS (gat l) l.length (pt t) i)), v4, v5, v6] ∧ Same H H1) ⟨none, none, none, rfl, Same.refl _⟩ ?_ ?_
  · rintro i σ H1 hi ⟨v4, v5, v6, rfl, s1⟩
    rw [Int.zero_add]
    refine ⟨_, rfl, _, rfl, b, _, i, _, rfl, rfl, SqL.of (s1 _ _ hb), atI_nat (gsV_get hi), ?_⟩
    refine ⟨_, rfl, a, _, rfl, .inl (SqL.of (s1 _ _ ha)), _, rfl, by rw [rl]; omega, by rw [rl]; omega, ?_⟩
    rw [rl, Int.toNat_natCast]
    refine for_range (lo := 0) (n := l.length) (fun j σ H1 => ∃ v6, σ = [some (.ref a), some (.ref b), some (.int t), some (gV (lgS (gat l) l.length (pt t) i)), some (.int i), some (gV (lgF (gat l) (pt t) i j)), v6] ∧ Same H H1) ⟨_, rfl, s1⟩ ?_ ?_
    · rintro j σ H2 hj ⟨v6, rfl, s2⟩
      rw [Int.zero_add]
      refine ⟨_, rfl, _, rfl, rfl, _, rfl, ite2 (fun e => ?_) (fun e => ?_)⟩
      · have ne : j ≠ i := fun z => by
          subst z
          simp at e
        refine ⟨_, rfl, _, rfl, _, rfl, _, rfl, a, _, j, _, rfl, rfl, SqL.of (s2 _ _ ha), atI_nat (rgV_get hj), _, _, rfl, rfl, lgF (gat l) (pt t) i j, pt t + pt j, ?_, fun H3 s3 => ?_⟩
        · show [gV _, V.int (Builtin.bitXor (t : Int) (j : Int))] = _
          rw [xor_pt ht (by omega)]
        · have s3' := L2.Same.trans s2 s3
          refine ⟨_, rfl, _, rfl, _, rfl, a, _, i, _, rfl, rfl, SqL.of (s3' _ _ ha), atI_nat (rgV_get hi), _, rfl, _, rfl, a, _, j, _, rfl, rfl, SqL.of (s3' _ _ ha), atI_nat (rgV_get hj), _, _, rfl, rfl, pt i + pt j, ?_, fun H4 s4 => ?_⟩
          · show [V.int (Builtin.bitXor (i : Int) (j : Int))] = _
            rw [xor_pt (by omega) (by omega)]
          · refine ⟨_, _, rfl, fun H5 s5 => ?_⟩
            have eF : lgF (gat l) (pt t) i (j + 1) = lgF (gat l) (pt t) i j * (pt t + pt j) * gi (pt i + pt j) := by show (if j ≠ i then _ else _) = _; rw [if_pos ne]
            exact ⟨_, by rw [eF]; rfl, L2.Same.trans s3' (L2.Same.trans s4 s5)⟩
      · have e0 : j = i := by
          have : ¬ ((!decide (V.int (j : Int) = V.int (i : Int))) = true) := e
          simp at this
          omega
        have eF : lgF (gat l) (pt t) i (j + 1) = lgF (gat l) (pt t) i j := by show (if j ≠ i then _ else _) = _; rw [if_neg (by simpa using e0)]
        exact ⟨_, by rw [eF]; rfl, s2⟩
    · rintro σ H2 ⟨v6, rfl, s2⟩
      refine ⟨_, rfl, _, rfl, _, _, rfl, rfl, some (.int i), some (gV (lgF (gat l) (pt t) i l.length)), v6, ?_, s2⟩
      show [_, _, _, some (V.int (Builtin.bitXor _ _)), _, _, _] = _
      rw [gV_xor]
      rfl
  · rintro σ H1 ⟨v4, v5, v6, rfl, s1⟩
    exact ⟨_, rfl, q _ s1⟩
/-- the codeword of the symbols l -/
def cwL (l : List G) : List G := (List.range 16).map (cwf (gat l) l.length)
theorem cwL_eq (l : List G) (h : l.length ≤ 16) : cwL l = l ++ (List.range (16 - l.length)).map fun j => lgS (gat l) l.length (pt (l.length + j)) l.length := by
  unfold cwL
  apply List.ext_getElem?
  intro k
  by_cases hk : k < l.length
  · rw [List.getElem?_append_left hk]
    simp [show k < 16 by omega, cwf, hk, gat]
  · rw [List.getElem?_append_right (by omega)]
    by_cases hk2 : k < 16
    · simp [hk2, cwf, hk, show k - l.length < 16 - l.length by omega, show l.length + (k - l.length) = k by omega]
    · rw [List.getElem?_eq_none (by simp; omega), List.getElem?_eq_none (by simp; omega)]
def sp_lcw : Sp := fun vs H Q _ => ∃ (a : Addr) (l : List G), vs = [.ref a, .int 16] ∧ H a = some (.lst (gsV l)) ∧ l.length ≤ 16 ∧ ∀ H' p, Same H H' → H p = none → H' p = some (.lst (gsV (cwL l))) → Q (.ref p) H'
theorem gsV_len {l : List G} : (gsV l).length = l.length := by unfold gsV; rw [List.length_map]
theorem ok_law_codeword (T : Tx K mg) : Keeps P w K mg base 3 "_law_codeword" p__law_codeword sp_lcw := by
  refine T.d__law_codeword.keeps sc__law_codeword (fun _ _ _ _ _ _ us hl => match us, hl with | [_, _], _ => rfl) (fun vs H Q E h => by obtain ⟨a, l, rfl, _⟩ := h; rfl) (fun f cdv A outer s H vs Q E hr h => ?_)
  obtain ⟨a, l, rfl, ha, hl, q⟩ := h
  refine ⟨_, (pss_cons (ps_set (i := 2) sc__law_codeword.nd rfl (Or.inr rfl) (pe_listRg rfl rfl T.b_list (prg_1 rfl T.b_range (pe_callB (lenK K) (by rfl) T.b_len PySem.boot_len (pa_cons (pv 0) pa_nil)))))
      (pss_one (ps_ret (pe_op op_cat (pv 0) (pe_lc (own := [("_law_point", 3)]) rfl sc__law_codeword.nd (pi_range2 (by rfl) T.b_range (pa_cons (pe_callB (lenK K) (by rfl) T.b_len PySem.boot_len (pa_cons (pv 0) pa_nil)) (pa_cons (pv 1) pa_nil))) (blkOk_by (by kernel_rfl)) (fun _ _ _ _ _ => (pg_name (i := 3) sc__law_codeword.nd rfl (Or.inl rfl))) (fun _ _ _ _ _ => pts_nil) (fun _ _ _ _ _ => (pcall (ok_law_at T) (hr.mono (by decide)) (pa_cons (pv 2) (pa_cons (pv 0) (pa_cons (pv 3) pa_nil)))))))))), ?_⟩
  refine ⟨_, rfl, a, _, rfl, .inl (SqL.of ha), _, rfl, RgOk.of_le (by omega) (by rw [gsV_len]; omega) (by omega) (by omega), fun b hb => ?_⟩
  rw [gsV_len]
  have s1 := same_upd (o := .lst (rgV 0 (l.length : Int))) hb
  refine ⟨_, rfl, _, rfl, a, _, rfl, .inl (SqL.of (s1 _ _ ha)), _, rfl, _, _, rfl, by rw [gsV_len]; omega, fun D hD => ?_⟩
  rw [gsV_len]
  rw [show ((16 : Int) - (l.length : Int)).toNat = 16 - l.length by omega]
  have s2 := same_upd (o := .lst []) hD
  refine lc_range (lo := l.length) (n := 16 - l.length) (fun i H1 => Same (upd H b (.lst (rgV 0 (l.length : Int)))) H1 ∧ H1 D = some (.lst (gsV ((List.range i).map fun j => lgS (gat l) l.length (pt (l.length + j)) l.length)))) ⟨s2, upd_same⟩ (fun i H1 hi z => ?_) fun H1 z => ?_
  · obtain ⟨z1, z2⟩ := z
    refine ⟨rfl, _, rfl, _, rfl, _, rfl, b, a, l, l.length + i, ?_, z1 _ _ upd_same, z1 _ _ (s1 _ _ ha), hl, by omega, fun H2 s3 => ?_⟩
    · show [V.ref b, V.ref a, V.int ((l.length : Int) + (i : Int))] = _
      rw [show ((l.length : Int) + (i : Int)) = ((l.length + i : Nat) : Int) by omega]
    · refine ⟨_, s3 _ _ z2, szl (by rw [gsV_len]; simp; omega), same_mut (L2.Same.trans z1 s3) hD, ?_⟩
      rw [upd_same, List.range_succ, List.map_append]
      unfold gsV
      rw [List.map_append]
      rfl
  · obtain ⟨z1, z2⟩ := z
    have s3 := L2.Same.trans s1 z1
    refine ⟨a, D, _, _, rfl, rfl, s3 _ _ ha, z2, sz (by rw [gsV_len, gsV_len]; simp; omega), fun p hp => ?_⟩
    refine q _ p (L2.Same.trans s3 (same_upd hp)) (s3.free hp) ?_
    rw [upd_same, cwL_eq l hl]
    unfold gsV
    rw [List.map_append]
def sp_cksym (K : PySem.W.Frag) : Sp := fun vs H Q _ => ∃ (a : Addr) (l : List G), vs = [.ref a] ∧ SqL K H a (gsV l) ∧ Q .non H
theorem ok_check_symbols (T : Tx K mg) : Keeps P w K mg base 1 "check_symbols" p_check_symbols (sp_cksym K) := by
  refine T.d_check_symbols.keeps sc_check_symbols (fun _ _ _ _ _ _ us hl => match us, hl with | [_], _ => rfl) (fun vs H Q E h => by obtain ⟨a, l, rfl, _⟩ := h; rfl) (fun f cdv A outer s H vs Q E hr h => ?_)
  obtain ⟨a, l, rfl, ha, q⟩ := h
  refine ⟨_, (pss_one (ps_for PassesOwn.never rfl (piL K (pv 0)) (pg_name (i := 1) sc_check_symbols.nd rfl (Or.inl rfl))
      (pss_one (ps_if (PW.pt (pw_or (pt_cmpR op_lt (pv 1) pe_int (nomark _)) (pw_or1 (pt_cmpR op_ge (pv 1) (cst T.c_SYMBOLS) (nomark _))))) (pss_one ps_never) pss_nil)))), ?_⟩
  refine ⟨_, rfl, a, rfl, ⟨_, ha⟩, ?_⟩
  refine for_list (K := K) (a := a) (xs := gsV l) (fun i σ H1 => ∃ v, σ = [some (.ref a), v] ∧ H1 = H) ⟨none, rfl, rfl⟩ (fun i σ H1 _ z => by obtain ⟨_, _, rfl⟩ := z; exact ha) ?_ ?_
  · rintro i x σ H1 hi ⟨v, rfl, rfl⟩
    have hk : i < l.length := by have := (List.getElem?_eq_some_iff.mp hi).1; rwa [gsV_len] at this
    rw [gsV_get hk] at hi
    obtain rfl := Option.some.inj hi
    refine ⟨_, rfl, _, _, rfl, rfl, _, rfl, ite2 (fun e => absurd (of_decide_eq_true e) (by omega)) fun _ => ?_⟩
    have := (gat l i).v.isLt
    exact ⟨_, rfl, _, _, rfl, rfl, _, rfl, ite2 (fun e => absurd (of_decide_eq_true e) (by omega)) fun _ => ⟨_, rfl, rfl⟩⟩
  · rintro σ H1 ⟨v, rfl, rfl⟩
    exact q
end
end K44
set_option maxHeartbeats 4000000
namespace K44
open PySem PySem.Spec PyProof.Rows L2
section
variable {P : Program} {w : World} {K : PySem.W.Frag} {mg : Str → Option Value} {base : Heap}
/-! ### what is known of a received list: pairs of a point and a symbol -/
structure Kn (H : Hp) (a : Addr) (ts : Nat → Addr) (n : Nat) (q : Nat → Nat) (y : Nat → G) : Prop where
  top : H a = some (.lst (refV ts n))
  at_ : ∀ i, i < n → H (ts i) = some (.tup [.int (q i), gV (y i)])
theorem Kn.same {H H' : Hp} {a : Addr} {ts : Nat → Addr} {n : Nat} {q : Nat → Nat} {y : Nat → G} (k : Kn H a ts n q y) (s : Same H H') : Kn H' a ts n q y := ⟨s _ _ k.top, fun i hi => s _ _ (k.at_ i hi)⟩
theorem prod_at : ∀ a b : Fin 16, (prodT.getD a.val [])[b.val]? = some (fm a b).val := by decide +kernel
/-- the differences after i steps -/
def dfS (p y : Nat → G) (i at_ : Nat) : G := if at_ ≤ i then dd p y 0 at_ else dd p y (at_ - i) i
/-- .. and t turns of the next one, n of them -/
def dfT (p y : Nat → G) (n i t at_ : Nat) : G := if n - t ≤ at_ then dfS p y (i + 1) at_ else dfS p y i at_
def sp_diff (K : PySem.W.Frag) : Sp := fun vs H Q _ => ∃ (a : Addr) (ts : Nat → Addr) (n : Nat) (q : Nat → Nat) (y : Nat → G), vs = [.ref a] ∧ Kn H a ts n q y ∧ n ≤ 16 ∧ 1 ≤ n ∧ (∀ i, i < n → q i < 16) ∧
  ∀ H' p, Same H H' → H p = none → H' p = some (.lst (rowV (gr (dd (fun i => pt (q i)) y 0)) n)) → Q (.ref p) H'
theorem ok_differences (T : Tx K mg) : Keeps P w K mg base 1 "_differences" p__differences (sp_diff K) := by
  refine T.d__differences.keeps sc__differences (fun _ _ _ _ _ _ us hl => match us, hl with | [_], _ => rfl) (fun vs H Q E h => by obtain ⟨a, ts, n, q, y, rfl, _⟩ := h; rfl) (fun f cdv A outer s H vs Q E hr h => ?_)
  obtain ⟨a, ts, n, q, y, rfl, kn, hn, hn1, hq, k⟩ := h
  obtain ⟨aI, mI, sI⟩ := T.t_inv
  obtain ⟨aP, rP, mP, sP, sR⟩ := T.t_prod
  generalize hp : (fun i => pt (q i)) = p at k
  refine ⟨_, (pss_cons (ps_setLc (i := 1) (own := [("_", 2), ("symbol", 3)]) rfl sc__differences.nd rfl rfl (sw_true rfl rfl rfl (by decide +kernel)) (piL K (pv 0)) (blkOk_by (by kernel_rfl)) (fun _ _ _ _ _ => (pg_two K (i := 2) (j := 3) rfl sc__differences.nd rfl rfl (Or.inl rfl) (Or.inl rfl))) (fun _ _ _ _ _ => pts_nil) (fun _ _ _ _ _ => (pv 3)))
      (pss_cons (ps_for PassesOwn.never rfl (pi_range2 (by rfl) T.b_range (pa_cons pe_int (pa_cons (pe_callB (lenK K) (by rfl) T.b_len PySem.boot_len (pa_cons (pv 0) pa_nil)) pa_nil))) (pg_name (i := 4) sc__differences.nd rfl (Or.inl rfl))
      (pss_one (ps_for PassesOwn.never rfl (pi_range3 (by rfl) T.b_range (pa_cons (pe_op op_sub (pe_callB (lenK K) (by rfl) T.b_len PySem.boot_len (pa_cons (pv 0) pa_nil)) pe_int) (pa_cons (pe_op op_sub (pv 4) pe_int) (pa_cons (pe_un un_neg pe_int) pa_nil)))) (pg_name (i := 5) sc__differences.nd rfl (Or.inl rfl))
      (pss_cons (ps_set (i := 6) sc__differences.nd rfl (Or.inl rfl) (pe_ix (ixT K) (tabG mI) (pe_op op_xor (pe_ix (ixT K) (pe_ix (ixL K) (pv 0) (pv 5) (fun _ _ => rfl)) pe_int (fun _ _ => rfl)) (pe_ix (ixT K) (pe_ix (ixL K) (pv 0) (pe_op op_sub (pv 5) (pv 4)) (fun _ _ => rfl)) pe_int (fun _ _ => rfl))) (fun _ _ => rfl)))
      (pss_one (ps_asg (pe_ix (ixT K) (pe_ix (ixT K) (tabG mP) (pe_op op_xor (pe_ix (ixL K) (pv 1) (pv 5) (fun _ _ => rfl)) (pe_ix (ixL K) (pv 1) (pe_op op_sub (pv 5) pe_int) (fun _ _ => rfl))) (fun _ _ => rfl)) (pv 6) (fun _ _ => rfl)) (pg_sub (pv 1) (pv 5) set_list)))))))
      (pss_one (ps_ret (pv 1))))), ?_⟩
  refine ⟨_, rfl, a, rfl, ⟨_, SqL.of kn.top⟩, fun D hD => ?_⟩
  have s0 := same_upd (o := .lst []) hD
  refine lc_list (K := K) (a := a) (xs := refV ts n) (fun i H1 => Same H H1 ∧ H1 D = some (.lst (rowV (gr y) i))) ⟨s0, upd_same⟩ (fun i H1 _ z => SqL.of (z.1 _ _ kn.top)) (fun i x H1 hi z => ?_) fun H1 z => ?_
  · have hi2 : i < n := by have := (List.getElem?_eq_some_iff.mp hi).1; rwa [refV_len] at this
    obtain ⟨z1, z2⟩ := z
    rw [refV_get hi2] at hi
    obtain rfl := Option.some.inj hi
    refine ⟨ts i, _, rfl, SqT.of (z1 _ _ (kn.at_ i hi2)), rfl, _, _, rfl, _, _, rfl, rfl, rfl, _, rfl, _, z2, szl (by rw [rowV_len]; omega), same_mut z1 hD, ?_⟩
    rw [upd_same, rowV_succ]
    rfl
  rw [refV_len] at z
  obtain ⟨z1, z2⟩ := z
  have k1 := kn.same z1
  refine ⟨_, rfl, a, _, rfl, .inl (SqL.of k1.top), _, _, rfl, by rw [refV_len]; omega, ?_⟩
  rw [refV_len, show ((n : Int) - 1).toNat = n - 1 by omega]
  refine for_range (lo := 1) (n := n - 1) (fun i σ H2 => ∃ v4 v5 v6, σ = [some (.ref a), some (.ref D), none, none, v4, v5, v6] ∧ Same H H2 ∧ H2 D = some (.lst (rowV (gr (dfS p y i)) n))) ⟨none, none, none, rfl, z1, ?_⟩ ?_ ?_
  · rw [z2, rowV_ext fun j hj => ?_]
    show gr y j = gr (dfS p y 0) j
    unfold gr dfS
    by_cases e : j ≤ 0
    · obtain rfl : j = 0 := by omega
      rw [if_pos (Nat.le_refl _)]
      rfl
    · rw [if_neg e]
      rfl
  · rintro i σ H2 hi ⟨v4, v5, v6, rfl, s2, e2⟩
    have k2 := kn.same s2
    have hRg : RgC ((n : Int) - 1) ((1 + (i : Int)) - 1) (-1) (n - 1 - i) := by
      have := RgC.neg (i := (n : Int) - 1) (j := (1 + (i : Int)) - 1) (by omega) (by omega) (by omega) (by omega)
      rwa [show ((n : Int) - 1 - (1 + (i : Int) - 1)).toNat = n - 1 - i by omega] at this
    refine ⟨_, rfl, a, _, rfl, .inl (SqL.of k2.top), _, _, rfl, rfl, _, rfl, _, _, rfl, rfl, _, rfl, _, _, _, n - 1 - i, by rw [refV_len], hRg, ?_⟩
    refine for_rangeC (lo := (n : Int) - 1) (c := -1) (n := n - 1 - i) (fun t σ H3 => ∃ v5 v6, σ = [some (.ref a), some (.ref D), none, none, some (.int (1 + (i : Int))), v5, v6] ∧ Same H H3 ∧ H3 D = some (.lst (rowV (gr (dfT p y n i t)) n))) ⟨_, _, rfl, s2, ?_⟩ ?_ ?_
    · rw [e2, rowV_ext fun j hj => ?_]
      unfold gr dfT
      rw [if_neg (by omega)]
    · rintro t σ H3 ht ⟨v5, v6, rfl, s3, e3⟩
      have k3 := kn.same s3
      -- the place
      obtain ⟨m, hm⟩ : ∃ m, m = n - 1 - t := ⟨_, rfl⟩
      have eat : (n : Int) - 1 + (t : Int) * -1 = (m : Int) := by omega
      have m1 : m < n := by omega
      have m2 : i + 1 ≤ m := by omega
      rw [eat]
      have hS : SqL K H3 a (refV ts n) := SqL.of k3.top
      have hD3 : SqL K H3 D (rowV (gr (dfT p y n i t)) n) := SqL.of e3
      refine ⟨_, rfl, _, rfl, a, _, m, _, rfl, rfl, hS, atI_nat (refV_get m1), ts m, _, 0, .int (q m), rfl, rfl, SqT.of (k3.at_ m m1), rfl, ?_⟩
      refine ⟨_, rfl, _, rfl, _, rfl, _, _, rfl, rfl, a, _, (m : Int) - (1 + (i : Int)), .ref (ts (m - (i + 1))), rfl, rfl, hS, ?_, ts (m - (i + 1)), _, 0, .int (q (m - (i + 1))), rfl, rfl, SqT.of (k3.at_ _ (by omega)), rfl, ?_⟩
      · rw [show (m : Int) - (1 + (i : Int)) = ((m - (i + 1) : Nat) : Int) by omega]
        exact atI_nat (refV_get (by omega))
      refine ⟨_, _, rfl, rfl, ?_⟩
      dsimp only
      rw [xor_pt (hq m m1) (hq _ (by omega))]
      generalize hg : pt (q m) + pt (q (m - (i + 1))) = g
      refine ⟨aI, nvs invT, (g.v.val : Int), gV (gi g), rfl, rfl, sI H3, atI_nat (nvs_get (inv_at g.v)), ?_⟩
      -- the store
      refine ⟨_, rfl, _, rfl, D, _, m, _, rfl, rfl, hD3, atI_nat (rowV_get m1), ?_⟩
      refine ⟨_, rfl, _, rfl, _, _, rfl, rfl, D, _, (m : Int) - 1, .int (gr (dfT p y n i t) (m - 1)), rfl, rfl, hD3, ?_, ?_⟩
      · rw [show (m : Int) - 1 = ((m - 1 : Nat) : Int) by omega]
        exact atI_nat (rowV_get (by omega))
      refine ⟨_, _, rfl, rfl, ?_⟩
      dsimp only
      have ex : V.int (Builtin.bitXor (gr (dfT p y n i t) m) (gr (dfT p y n i t) (m - 1))) = gV (dfT p y n i t m + dfT p y n i t (m - 1)) := gV_xor _ _
      rw [ex]
      generalize hc : dfT p y n i t m + dfT p y n i t (m - 1) = c
      refine ⟨aP, _, (c.v.val : Int), .ref (rP c.v.val), rfl, rfl, sP H3, atI_nat (refV_get c.v.isLt), ?_⟩
      refine ⟨_, rfl, rP c.v.val, _, (gi g).v.val, gV (c * gi g), rfl, rfl, sR _ c.v.isLt H3, atI_nat (nvs_get (prod_at c.v (gi g).v)), ?_⟩
      refine ⟨_, rfl, _, rfl, D, _, m, m, rfl, rfl, e3, ?_, ?_⟩
      · unfold ixN
        rw [rowV_len, if_pos (by omega), if_pos (by omega), Int.toNat_natCast]
      refine ⟨_, _, rfl, same_mut s3 (by exact hD), ?_⟩
      rw [upd_same]
      have es := rowV_set (f := gr (dfT p y n i t)) (m := n) (j := m) (v := ((c * gi g).v.val : Int))
      rw [show (gV (c * gi g)) = V.int ((c * gi g).v.val : Int) from rfl, es, rowV_ext fun j hj => ?_]
      unfold gr
      by_cases ej : j = m
      · subst ej
        rw [if_pos rfl]
        have a1 : dfT p y n i (t + 1) j = dfS p y (i + 1) j := by unfold dfT; rw [if_pos (by omega)]
        have a2 : dfT p y n i t j = dfS p y i j := by unfold dfT; rw [if_neg (by omega)]
        have a3 : dfT p y n i t (j - 1) = dfS p y i (j - 1) := by unfold dfT; rw [if_neg (by omega)]
        have a4 : dfS p y i j = dd p y (j - i) i := by unfold dfS; rw [if_neg (by omega)]
        have a5 : dfS p y i (j - 1) = dd p y (j - 1 - i) i := by
          unfold dfS
          by_cases e : j - 1 ≤ i
          · rw [if_pos e, show j - 1 = i by omega, Nat.sub_self]
          · rw [if_neg e]
        have a6 : dfS p y (i + 1) j = dd p y (j - 1 - i) (i + 1) := by
          unfold dfS
          by_cases e : j ≤ i + 1
          · rw [if_pos e, show j = i + 1 by omega, show i + 1 - 1 - i = 0 by omega]
          · rw [if_neg e, show j - (i + 1) = j - 1 - i by omega]
        rw [a1, a6]
        show ((c * gi g).v.val : Int) = (((dd p y (j - 1 - i + 1) i + dd p y (j - 1 - i) i) * gi (p (j - 1 - i + i + 1) + p (j - 1 - i))).v.val : Int)
        rw [← hc, ← hg, a2, a3, a4, a5, ← hp]
        dsimp only
        rw [show j - 1 - i + 1 = j - i by omega, show j - 1 - i + i + 1 = j by omega, show j - (i + 1) = j - 1 - i by omega]
      · rw [if_neg ej]
        have : dfT p y n i (t + 1) j = dfT p y n i t j := by
          unfold dfT
          by_cases e : n - t ≤ j
          · rw [if_pos e, if_pos (by omega)]
          · rw [if_neg e, if_neg (by omega)]
        rw [this]
    · rintro σ H3 ⟨v5, v6, rfl, s3, e3⟩
      refine ⟨_, _, _, rfl, s3, ?_⟩
      rw [e3, rowV_ext fun j hj => ?_]
      unfold gr
      have : dfT p y n i (n - 1 - i) j = dfS p y (i + 1) j := by
        unfold dfT
        by_cases e : n - (n - 1 - i) ≤ j
        · rw [if_pos e]
        · rw [if_neg e]
          unfold dfS
          rw [if_pos (by omega), if_pos (by omega)]
      rw [this]
  · rintro σ H2 ⟨v4, v5, v6, rfl, s2, e2⟩
    refine ⟨_, rfl, k H2 D s2 hD ?_⟩
    rw [e2, rowV_ext fun j hj => ?_]
    unfold gr dfS
    rw [if_pos (by omega)]
end
end K44
set_option maxHeartbeats 4000000
namespace K44
open PySem PySem.Spec PyProof.Rows L2
section
variable {P : Program} {w : World} {K : PySem.W.Frag} {mg : Str → Option Value} {base : Heap}
/-! ### Horner over Newton's form -/
def hor (p y : Nat → G) (x : G) (n : Nat) : Nat → G
  | 0 => 0
  | t + 1 => hor p y x n t * (x + p (n - 1 - t)) + dd p y 0 (n - 1 - t)
theorem hor_inv (p y : Nat → G) (x : G) (n : Nat) : ∀ t, t ≤ n → hor p y x n t * wf p 0 (n - t) x + nw p y 0 (n - t) x = nw p y 0 n x
  | 0, _ => by show 0 * _ + nw p y 0 n x = _; rw [g_zero_mul, g_zero_add]
  | t + 1, h => by
    have ih := hor_inv p y x n t (by omega)
    obtain ⟨k, hk⟩ : ∃ k, n - (t + 1) = k := ⟨_, rfl⟩
    have e1 : n - t = k + 1 := by omega
    have e2 : n - 1 - t = k := by omega
    rw [hk]
    rw [e1] at ih
    show (hor p y x n t * (x + p (n - 1 - t)) + dd p y 0 (n - 1 - t)) * wf p 0 k x + nw p y 0 k x = _
    rw [e2]
    have e3 : wf p 0 (k + 1) x = wf p 0 k x * (x + p k) := by show _ * (x + p (0 + k)) = _; rw [Nat.zero_add]
    have e4 : nw p y 0 (k + 1) x = nw p y 0 k x + dd p y 0 k * wf p 0 k x := rfl
    rw [e3, e4] at ih
    rw [← ih]
    grind
theorem hor_end (p y : Nat → G) (x : G) (n : Nat) : hor p y x n n = nw p y 0 n x := by
  have h := hor_inv p y x n n (Nat.le_refl _)
  rw [Nat.sub_self] at h
  rw [← h]
  show _ = _ * 1 + 0
  rw [g_mul_one, g_add_zero]
def sp_cont (K : PySem.W.Frag) : Sp := fun vs H Q _ => ∃ (a b : Addr) (ts : Nat → Addr) (n : Nat) (q : Nat → Nat) (y : Nat → G), vs = [.ref a, .ref b] ∧ Kn H a ts n q y ∧ H b = some (.lst (rgV 0 16)) ∧ n ≤ 16 ∧ 1 ≤ n ∧ (∀ i, i < n → q i < 16) ∧
  ∀ H' p, Same H H' → H p = none → H' p = some (.lst (rowV (gr fun t => nw (fun i => pt (q i)) y 0 n (pt t)) 16)) → Q (.ref p) H'
theorem ok_continued (T : Tx K mg) : Keeps P w K mg base 2 "_continued" p__continued (sp_cont K) := by
  refine T.d__continued.keeps sc__continued (fun _ _ _ _ _ _ us hl => match us, hl with | [_, _], _ => rfl) (fun vs H Q E h => by obtain ⟨a, b, ts, n, q, y, rfl, _⟩ := h; rfl) (fun f cdv A outer s H vs Q E hr h => ?_)
  obtain ⟨a, b, ts, n, q, y, rfl, kn, hb, hn, hn1, hq, k⟩ := h
  obtain ⟨aP, rP, mP, sP, sR⟩ := T.t_prod
  generalize hp : (fun i => pt (q i)) = p at k
  refine ⟨_, (pss_cons (ps_set (i := 2) sc__continued.nd rfl (Or.inl rfl) (pcall (ok_differences T) (hr.mono (by decide)) (pa_cons (pv 0) pa_nil)))
      (pss_cons (ps_set (i := 3) sc__continued.nd rfl (Or.inl rfl) (pe_lst pa_nil))
      (pss_cons (ps_for PassesOwn.never rfl (piL K (pv 1)) (pg_name (i := 4) sc__continued.nd rfl (Or.inl rfl))
      (pss_cons (ps_set (i := 5) sc__continued.nd rfl (Or.inl rfl) pe_int)
      (pss_cons (ps_for PassesOwn.never rfl (pi_range3 (by rfl) T.b_range (pa_cons (pe_op op_sub (pe_callB (lenK K) (by rfl) T.b_len PySem.boot_len (pa_cons (pv 0) pa_nil)) pe_int) (pa_cons (pe_un un_neg pe_int) (pa_cons (pe_un un_neg pe_int) pa_nil)))) (pg_name (i := 6) sc__continued.nd rfl (Or.inl rfl))
      (pss_one (ps_set (i := 5) sc__continued.nd rfl (Or.inl rfl) (pe_op op_xor (pe_ix (ixT K) (pe_ix (ixT K) (tabG mP) (pv 5) (fun _ _ => rfl)) (pe_op op_xor (pv 4) (pe_ix (ixT K) (pe_ix (ixL K) (pv 0) (pv 6) (fun _ _ => rfl)) pe_int (fun _ _ => rfl))) (fun _ _ => rfl)) (pe_ix (ixL K) (pv 2) (pv 6) (fun _ _ => rfl))))))
      (pss_one (ps_expr (pe_bm PySem.F.plainAttrs_list PySem.F.slot_list_append PySem.F.type_list_append mt_append (pv 3) (pa_cons (pv 5) pa_nil)))))))
      (pss_one (ps_ret (pv 3)))))), ?_⟩
  refine ⟨_, rfl, a, ts, n, q, y, rfl, kn, hn, hn1, hq, fun H1 d s1 hd e1 => ?_⟩
  rw [hp] at e1
  refine ⟨Nat.zero_le _, fun v hv => ?_⟩
  have s2 := L2.Same.trans s1 (same_upd (o := .lst []) hv)
  have nv := s1.free hv
  have ed : upd H1 v (.lst []) d = some (.lst (rowV (gr (dd p y 0)) n)) := by rw [upd_ne (ne_of_none e1 hv)]; exact e1
  refine ⟨_, rfl, b, rfl, ⟨_, SqL.of (s2 _ _ hb)⟩, ?_⟩
  have rl : (rgV 0 16).length = 16 := by rw [rgV_length]; rfl
  refine for_list (K := K) (a := b) (xs := rgV 0 16) (fun i σ H2 => ∃ v4 v5 v6, σ = [some (.ref a), some (.ref b), some (.ref d), some (.ref v), v4, v5, v6] ∧ Same H H2 ∧ H2 d = some (.lst (rowV (gr (dd p y 0)) n)) ∧ H2 v = some (.lst (rowV (gr fun t => nw p y 0 n (pt t)) i))) ⟨none, none, none, rfl, s2, ed, upd_same⟩ (fun i σ H2 _ z => by obtain ⟨_, _, _, _, z1, _⟩ := z; exact SqL.of (z1 _ _ hb)) ?_ ?_
  · rintro i x σ H2 hi ⟨v4, v5, v6, rfl, s3, e2, e3⟩
    have hi2 : i < 16 := by have := (List.getElem?_eq_some_iff.mp hi).1; omega
    have hx : x = .int (i : Int) := Option.some.inj (hi.symm.trans (rgV_get (n := 16) hi2))
    subst hx
    have k2 := kn.same s3
    have hRg : RgC ((n : Int) - 1) (-1) (-1) n := by
      have := RgC.neg (i := (n : Int) - 1) (j := -1) (by omega) (by omega) (by omega) (by omega)
      rwa [show ((n : Int) - 1 - -1).toNat = n by omega] at this
    refine ⟨_, rfl, a, _, rfl, .inl (SqL.of k2.top), _, _, rfl, rfl, _, rfl, _, rfl, _, _, _, n, by rw [refV_len], hRg, ?_⟩
    refine for_rangeC (lo := (n : Int) - 1) (c := -1) (n := n) (fun t σ H3 => ∃ v6, σ = [some (.ref a), some (.ref b), some (.ref d), some (.ref v), some (.int i), some (gV (hor p y (pt i) n t)), v6] ∧ H3 = H2) ⟨_, rfl, rfl⟩ ?_ ?_
    · rintro t σ H3 ht ⟨v6, rfl, rfl⟩
      obtain ⟨m, hm⟩ : ∃ m, m = n - 1 - t := ⟨_, rfl⟩
      have eat : (n : Int) - 1 + (t : Int) * -1 = (m : Int) := by omega
      have m1 : m < n := by omega
      rw [eat]
      generalize hh : hor p y (pt i) n t = g
      refine ⟨_, rfl, aP, _, (g.v.val : Int), .ref (rP g.v.val), rfl, rfl, sP H3, atI_nat (refV_get g.v.isLt), ?_⟩
      refine ⟨_, rfl, _, rfl, _, rfl, a, _, m, _, rfl, rfl, SqL.of k2.top, atI_nat (refV_get m1), ts m, _, 0, .int (q m), rfl, rfl, SqT.of (k2.at_ m m1), rfl, _, _, rfl, rfl, ?_⟩
      dsimp only
      rw [xor_pt hi2 (hq m m1)]
      generalize hc : pt i + pt (q m) = c
      refine ⟨rP g.v.val, _, (c.v.val : Int), gV (g * c), rfl, rfl, sR _ g.v.isLt H3, atI_nat (nvs_get (prod_at g.v c.v)), ?_⟩
      refine ⟨_, rfl, _, rfl, d, _, m, _, rfl, rfl, SqL.of e2, atI_nat (rowV_get m1), _, _, rfl, rfl, some (.int m), ?_, rfl⟩
      show [_, _, _, _, _, some (V.int (Builtin.bitXor ((g * c).v.val : Int) ((dd p y 0 m).v.val : Int))), _] = _
      rw [gV_xor]
      have e : hor p y (pt i) n (t + 1) = g * c + dd p y 0 m := by
        show hor p y (pt i) n t * (pt i + p (n - 1 - t)) + dd p y 0 (n - 1 - t) = _
        rw [hh, ← hm, ← hc, ← hp]
      rw [e]
    · rintro σ H3 ⟨v6, rfl, rfl⟩
      rw [hor_end]
      refine ⟨_, rfl, .inl ⟨rfl, _, SqL.of e3⟩, _, rfl, v, _, _, rfl, rfl, e3, szl (by rw [rowV_len]; omega), ?_⟩
      refine ⟨_, _, _, rfl, same_mut s3 nv, ?_, ?_⟩
      · rw [upd_ne (fun z => by rw [z] at ed; rw [upd_same] at ed; have := Option.some.inj ed; injection this with this; have := congrArg List.length this; rw [rowV_len] at this; simp at this; omega)]
        exact e2
      · rw [upd_same, rowV_succ]
        rfl
  · rintro σ H2 ⟨v4, v5, v6, rfl, s3, e2, e3⟩
    rw [rl] at e3
    exact ⟨_, rfl, k H2 v s3 nv e3⟩
/-! ### a received list: what is hidden, what the codeword has -/
def recV (hid : Nat → Bool) (c : Nat → G) (n : Nat) : List V := (List.range n).map fun j => if hid j then .non else gV (c j)
theorem recV_len {hid : Nat → Bool} {c : Nat → G} {n : Nat} : (recV hid c n).length = n := by unfold recV; rw [List.length_map, List.length_range]
theorem recV_get {hid : Nat → Bool} {c : Nat → G} {n j : Nat} (h : j < n) : (recV hid c n)[j]? = some (if hid j then .non else gV (c j)) := by unfold recV; simp [h]
/-- the places that are not hidden -/
def vis (hid : Nat → Bool) (n : Nat) : List Nat := (List.range n).filter fun j => !hid j
theorem vis_succ (hid : Nat → Bool) (n : Nat) : vis hid (n + 1) = if hid n then vis hid n else vis hid n ++ [n] := by
  unfold vis
  rw [List.range_succ, List.filter_append]
  cases h : hid n <;> simp [h]
theorem vis_le (hid : Nat → Bool) (n : Nat) : (vis hid n).length ≤ n := by
  unfold vis
  exact Nat.le_trans (List.length_filter_le _ _) (by rw [List.length_range]; exact Nat.le_refl _)
theorem Kn.push {H : Hp} {a : Addr} {ts : Nat → Addr} {n : Nat} {q : Nat → Nat} {y : Nat → G} (k : Kn H a ts n q y) {t : Addr} (ht : H t = none) {q' : Nat → Nat} {y' : Nat → G} (e1 : ∀ i, i < n → q' i = q i) (e2 : ∀ i, i < n → y' i = y i) :
    upd H t (.tup [.int (q' n), gV (y' n)]) a = some (.lst (refV ts n)) ∧ Kn (upd (upd H t (.tup [.int (q' n), gV (y' n)])) a (.lst (refV ts n ++ [.ref t]))) a (fun i => if i = n then t else ts i) (n + 1) q' y' := by
  have ha : upd H t (.tup [.int (q' n), gV (y' n)]) a = some (.lst (refV ts n)) := (same_upd ht) _ _ k.top
  refine ⟨ha, ?_, fun i hi => ?_⟩
  · rw [upd_same, refV_succ, if_pos rfl, refV_ext fun j hj => ?_]
    rw [if_neg (by omega)]
  · show (upd (upd H t _) a _) (if i = n then t else ts i) = _
    by_cases e : i = n
    · subst e
      rw [if_pos rfl, upd_ne (ne_of_none k.top ht).symm, upd_same]
    · have hi2 : i < n := by omega
      have h1 := (same_upd (o := .tup [.int (q' n), gV (y' n)]) ht) _ _ (k.at_ i hi2)
      rw [if_neg e, upd_ne (ne_of h1 ha (by intro z; cases z)), h1, e1 i hi2, e2 i hi2]
end
end K44
set_option maxHeartbeats 4000000
namespace K44
open PySem PySem.Spec PyProof.Rows L2
section
variable {P : Program} {w : World} {K : PySem.W.Frag} {mg : Str → Option Value} {base : Heap}
/-- the places known, and what the codeword has there -/
abbrev qv (hid : Nat → Bool) (m : Nat) : Nat → Nat := fun i => (vis hid m).getD i 0
abbrev yv (hid : Nat → Bool) (c : Nat → G) (m : Nat) : Nat → G := fun i => c (qv hid m i)
def sp_known : Sp := fun vs H Q _ => ∃ (a : Addr) (hid : Nat → Bool) (c : Nat → G) (k : Int), vs = [.ref a, .int k] ∧ H a = some (.lst (recV hid c 16)) ∧ 1 ≤ k ∧ k ≤ 16 ∧
  ∀ H' b ts, Same H H' → H b = none → Kn H' b ts (vis hid 16).length (qv hid 16) (yv hid c 16) → Q (.ref b) H'
theorem ok_known (T : Tx K mg) : Keeps P w K mg base 2 "_known" p__known sp_known := by
  refine T.d__known.keeps sc__known (fun _ _ _ _ _ _ us hl => match us, hl with | [_, _], _ => rfl) (fun vs H Q E h => by obtain ⟨a, b, c, k, rfl, _⟩ := h; rfl) (fun f cdv A outer s H vs Q E hr h => ?_)
  obtain ⟨a, hid, c, k, rfl, ha, h0, h1, kk⟩ := h
  have hS : SqL K H a (recV hid c 16) := SqL.of ha
  refine ⟨_, (pss_cons (ps_if (PW.pt (pw_or (pt_cmpR op_lt (pv 1) pe_int (nomark _)) (pw_or (pt_cmpR op_gt (pv 1) (pe_callB (lenK K) (by rfl) T.b_len PySem.boot_len (pa_cons (pv 0) pa_nil)) (nomark _)) (pw_or1 (pt_cmpR op_gt (pe_callB (lenK K) (by rfl) T.b_len PySem.boot_len (pa_cons (pv 0) pa_nil)) (cst T.c_SYMBOLS) (nomark _)))))) (pss_one ps_never) pss_nil)
      (pss_cons (ps_setLc (i := 2) (own := [("point", 3), ("symbol", 4)]) rfl sc__known.nd rfl rfl (sw_true rfl rfl rfl (by decide +kernel)) (piE K (by rfl) T.b_enumerate (pa_cons (pv 0) pa_nil)) (blkOk_by (by kernel_rfl)) (fun _ _ _ _ _ => (pg_two K (i := 3) (j := 4) rfl sc__known.nd rfl rfl (Or.inl rfl) (Or.inl rfl))) (fun _ _ _ _ _ => (pts_one (pt_cmpR op_notN (pv 4) pe_non (nomark _)))) (fun _ _ _ _ _ => (pe_tup (pa_cons (pv 3) (pa_cons (pv 4) pa_nil)))))
      (pss_cons (ps_expr (pcall (ok_check_symbols T) (hr.mono (by decide)) (pa_cons (pe_lc (own := [("_", 5), ("symbol", 4)]) rfl sc__known.nd (piL K (pv 2)) (blkOk_by (by kernel_rfl)) (fun _ _ _ _ _ => (pg_two K (i := 5) (j := 4) rfl sc__known.nd rfl rfl (Or.inl rfl) (Or.inl rfl))) (fun _ _ _ _ _ => pts_nil) (fun _ _ _ _ _ => (pv 4))) pa_nil)))
      (pss_one (ps_ret (pv 2)))))), ?_⟩
  refine ⟨_, rfl, _, _, rfl, rfl, _, rfl, ite2 (fun e => absurd (of_decide_eq_true e) (by omega)) fun _ => ?_⟩
  refine ⟨_, rfl, _, rfl, a, _, rfl, .inl hS, _, _, rfl, rfl, _, rfl, ite2 (fun e => absurd (of_decide_eq_true e) (by rw [recV_len]; omega)) fun _ => ?_⟩
  refine ⟨_, rfl, a, _, rfl, .inl hS, _, _, rfl, rfl, _, rfl, ite2 (fun e => absurd (of_decide_eq_true e) (by rw [recV_len]; omega)) fun _ => ?_⟩
  refine ⟨_, rfl, a, _, rfl, hS, fun D hD => ?_⟩
  refine lc_by (J := Ite K a) (n := 16) (fun i H1 => Same H H1 ∧ ∃ ts, Kn H1 D ts (vis hid i).length (qv hid i) (yv hid c i)) ⟨same_upd hD, fun _ => 0, upd_same, fun i hi => absurd hi (Nat.not_lt_zero _)⟩
    (fun i H1 hi z => ⟨_, _, SqL.of (z.1 _ _ ha), recV_get hi⟩) (fun H1 z => ⟨_, SqL.of (z.1 _ _ ha), by rw [recV_len]; exact Nat.le_refl _⟩) ?_ ?_
  · rintro i v H1 H1' hi ⟨s1, ts, kn⟩ ⟨t, x, rfl, ht, rfl, hx⟩
    have ex : x = if hid i then .non else gV (c i) := Option.some.inj ((hx _ (SqL.of (s1 _ _ ha))).symm.trans (recV_get hi))
    have s2 := same_upd (o := .tup [.int (i : Nat), x]) ht
    refine ⟨t, _, rfl, SqT.of upd_same, rfl, _, _, rfl, _, _, rfl, rfl, rfl, _, rfl, rfl, _, rfl, ?_⟩
    cases hh : hid i with
    | true =>
      rw [hh] at ex
      subst ex
      refine iteF ⟨L2.Same.trans s1 s2, ts, ?_⟩
      have e : vis hid (i + 1) = vis hid i := by rw [vis_succ, if_pos hh]
      unfold qv yv qv
      rw [e]
      exact kn.same s2
    | false =>
      rw [hh] at ex
      subst ex
      refine iteT ?_
      refine ⟨_, rfl, _, rfl, by show 2 ≤ sizeLine; decide, fun u hu => ?_⟩
      have e : vis hid (i + 1) = vis hid i ++ [i] := by rw [vis_succ, if_neg (by rw [hh]; exact Bool.false_ne_true)]
      have el : (vis hid (i + 1)).length = (vis hid i).length + 1 := by rw [e, List.length_append]; rfl
      have q1 : ∀ j, j < (vis hid i).length → qv hid (i + 1) j = qv hid i j := fun j hj => by
        show (vis hid (i + 1)).getD j 0 = (vis hid i).getD j 0
        rw [e]
        simp [List.getD_eq_getElem?_getD, List.getElem?_append_left hj]
      have q2 : qv hid (i + 1) (vis hid i).length = i := by
        show (vis hid (i + 1)).getD _ 0 = i
        rw [e]
        simp [List.getD_eq_getElem?_getD]
      obtain ⟨p1, p2⟩ := (kn.same s2).push hu (q' := qv hid (i + 1)) (y' := yv hid c (i + 1)) q1 (fun j hj => congrArg c (q1 j hj))
      have e3 : yv hid c (i + 1) (vis hid i).length = c i := congrArg c q2
      rw [q2, e3] at p1 p2
      refine ⟨_, p1, szl (by rw [refV_len]; have := vis_le hid i; omega), same_mut (L2.Same.trans s1 (L2.Same.trans s2 (same_upd hu))) hD, _, by rw [el]; exact p2⟩
  · rintro H1 ⟨s1, ts, kn⟩
    refine ⟨_, rfl, D, rfl, ⟨_, SqL.of kn.top⟩, fun D2 hD2 => ?_⟩
    have hn := vis_le hid 16
    refine lc_list (K := K) (a := D) (xs := refV ts (vis hid 16).length) (fun i H2 => Same H1 H2 ∧ H2 D2 = some (.lst (gsV ((List.range i).map (yv hid c 16))))) ⟨same_upd hD2, upd_same⟩ (fun i H2 _ z => SqL.of (z.1 _ _ kn.top)) (fun i x H2 hi z => ?_) fun H2 z => ?_
    · obtain ⟨z1, z2⟩ := z
      have hi2 : i < (vis hid 16).length := by have := (List.getElem?_eq_some_iff.mp hi).1; rwa [refV_len] at this
      rw [refV_get hi2] at hi
      obtain rfl := Option.some.inj hi
      refine ⟨ts i, _, rfl, SqT.of (z1 _ _ (kn.at_ i hi2)), rfl, _, _, rfl, _, _, rfl, rfl, rfl, _, rfl, _, z2, szl (by rw [gsV_len]; simp; omega), same_mut z1 hD2, ?_⟩
      rw [upd_same, List.range_succ, List.map_append]
      unfold gsV
      rw [List.map_append]
      rfl
    · obtain ⟨z1, z2⟩ := z
      exact ⟨D2, _, rfl, SqL.of z2, _, rfl, kk H2 D ts (L2.Same.trans s1 z1) hD (kn.same z1)⟩
def sp_near : Sp := fun vs H Q _ => ∃ (a b : Addr) (hid : Nat → Bool) (c : Nat → G) (k : Int), vs = [.ref a, .ref b, .int k] ∧ H a = some (.lst (rowV (gr c) 16)) ∧ H b = some (.lst (recV hid c 16)) ∧ k ≤ ((vis hid 16).length : Int) ∧
  ∀ H', Same H H' → Q (.bl true) H'
theorem ok_is_near (T : Tx K mg) : Keeps P w K mg base 1 "is_near" p_is_near sp_near := by
  refine T.d_is_near.keeps sc_is_near (fun _ _ _ _ _ _ us hl => match us, hl with | [_, _, _], _ => rfl) (fun vs H Q E h => by obtain ⟨a, b, hid, c, k, rfl, _⟩ := h; rfl) (fun f cdv A outer s H vs Q E hr h => ?_)
  obtain ⟨a, b, hid, c, k, rfl, ha, hb, h0, kk⟩ := h
  refine ⟨_, (pss_cons (ps_set (i := 3) sc_is_near.nd rfl (Or.inl rfl) (pe_callB (lenK K) (by rfl) T.b_len PySem.boot_len (pa_cons (pe_lc (own := [("symbol", 4)]) rfl sc_is_near.nd (piL K (pv 1)) (blkOk_by (by kernel_rfl)) (fun _ _ _ _ _ => (pg_name (i := 4) sc_is_near.nd rfl (Or.inl rfl))) (fun _ _ _ _ _ => (pts_one (pt_cmpR op_isN (pv 4) pe_non (nomark _)))) (fun _ _ _ _ _ => (pv 4))) pa_nil)))
      (pss_cons (ps_set (i := 5) sc_is_near.nd rfl (Or.inl rfl) (pe_callB (lenK K) (by rfl) T.b_len PySem.boot_len (pa_cons (pe_lc (own := [("a", 6), ("b", 7)]) rfl sc_is_near.nd (piZ K (by rfl) T.b_zip (pa_cons (pv 1) (pa_cons (pv 0) pa_nil))) (blkOk_by (by kernel_rfl)) (fun _ _ _ _ _ => (pg_two K (i := 6) (j := 7) rfl sc_is_near.nd rfl rfl (Or.inl rfl) (Or.inl rfl))) (fun _ _ _ _ _ => (pts_one (PW.pt (pw_and (pt_cmpR op_notN (pv 6) pe_non (nomark _)) (pw_and1 (pt_cmpR op_ne (pv 6) (pv 7) (nomark _))))))) (fun _ _ _ _ _ => (pv 6))) pa_nil)))
      (pss_one (ps_ret (pe_cmpR op_le (pe_op op_add (pe_op op_mul pe_int (pv 5)) (pv 3)) (pe_op op_sub (pe_callB (lenK K) (by rfl) T.b_len PySem.boot_len (pa_cons (pv 1) pa_nil)) (pv 2)) (nomark _)))))), ?_⟩
  refine ⟨_, rfl, b, rfl, ⟨_, SqL.of hb⟩, fun D hD => ?_⟩
  refine lc_list (K := K) (a := b) (xs := recV hid c 16) (fun i H1 => Same H H1 ∧ H1 D = some (.lst (List.replicate (i - (vis hid i).length) .non))) ⟨same_upd hD, upd_same⟩ (fun i H1 _ z => SqL.of (z.1 _ _ hb)) (fun i x H1 hi z => ?_) fun H1 z => ?_
  · obtain ⟨z1, z2⟩ := z
    have hi2 : i < 16 := by have := (List.getElem?_eq_some_iff.mp hi).1; rwa [recV_len] at this
    rw [recV_get hi2] at hi
    have hle := vis_le hid i
    refine ⟨rfl, _, rfl, rfl, _, rfl, ?_⟩
    cases hh : hid i with
    | true =>
      rw [hh] at hi
      obtain rfl := Option.some.inj hi
      refine iteT ⟨_, rfl, _, z2, szl (by rw [List.length_replicate]; omega), same_mut z1 hD, ?_⟩
      rw [upd_same, vis_succ, if_pos hh, show i + 1 - (vis hid i).length = (i - (vis hid i).length) + 1 by omega, List.replicate_succ']
      rfl
    | false =>
      rw [hh] at hi
      obtain rfl := Option.some.inj hi
      refine iteF ⟨z1, ?_⟩
      rw [vis_succ, if_neg (by rw [hh]; exact Bool.false_ne_true), List.length_append, z2]
      show some (HO.lst (List.replicate (i - (vis hid i).length) .non)) = some (HO.lst (List.replicate (i + 1 - ((vis hid i).length + 1)) .non))
      rw [Nat.add_sub_add_right]
  rw [recV_len] at z
  obtain ⟨z1, z2⟩ := z
  refine ⟨D, _, rfl, .inl (SqL.of z2), ?_⟩
  rw [List.length_replicate]
  refine ⟨_, rfl, _, rfl, b, a, _, _, rfl, SqL.of (z1 _ _ hb), SqL.of (z1 _ _ ha), fun D2 hD2 => ?_⟩
  refine lc_by (J := Itz K b a) (n := 16) (fun i H2 => Same H1 H2 ∧ H2 D2 = some (.lst [])) ⟨same_upd hD2, upd_same⟩
    (fun i H2 hi z => ⟨_, _, _, _, SqL.of (z.1 _ _ (z1 _ _ hb)), SqL.of (z.1 _ _ (z1 _ _ ha)), recV_get hi, rowV_get hi⟩) (fun H2 z => ⟨_, _, SqL.of (z.1 _ _ (z1 _ _ hb)), SqL.of (z.1 _ _ (z1 _ _ ha)), .inl (by rw [recV_len]; exact Nat.le_refl _)⟩) ?_ ?_
  · rintro i v H2 H2' hi ⟨s2, e2⟩ ⟨t, x, y, rfl, ht, rfl, hx, hy⟩
    have ex : x = if hid i then .non else gV (c i) := Option.some.inj ((hx _ (SqL.of (s2 _ _ (z1 _ _ hb)))).symm.trans (recV_get hi))
    have ey : y = gV (c i) := Option.some.inj ((hy _ (SqL.of (s2 _ _ (z1 _ _ ha)))).symm.trans (rowV_get hi))
    have s3 := same_upd (o := .tup [x, y]) ht
    refine ⟨t, _, rfl, SqT.of upd_same, rfl, _, _, rfl, _, _, rfl, rfl, rfl, _, rfl, rfl, _, rfl, ?_⟩
    subst ey
    have keep := (⟨L2.Same.trans s2 s3, s3 _ _ e2⟩ : Same H1 (upd H2 t (.tup [x, gV (c i)])) ∧ _)
    cases hh : hid i with
    | true =>
      rw [hh] at ex
      subst ex
      exact iteF (iteF keep)
    | false =>
      rw [hh] at ex
      subst ex
      refine iteT ⟨_, rfl, _, rfl, rfl, _, rfl, ?_⟩
      refine iteNS rfl keep
  · rintro H2 ⟨s2, e2⟩
    have s3 := L2.Same.trans z1 s2
    refine ⟨D2, _, rfl, .inl (SqL.of e2), ?_⟩
    refine ⟨_, rfl, _, _, rfl, rfl, .inl ⟨by decide, by decide⟩, _, rfl, _, _, rfl, rfl, _, rfl, b, _, rfl, .inl (SqL.of (s3 _ _ hb)), _, rfl, _, _, rfl, rfl, _, _, rfl, rfl, ?_⟩
    have hle := vis_le hid 16
    have hd : decide (2 * (([] : List V).length : Int) + ((16 - (vis hid 16).length : Nat) : Int) ≤ ((recV hid c 16).length : Int) - k) = true := decide_eq_true (by rw [recV_len]; show 2 * ((0 : Nat) : Int) + _ ≤ _; omega)
    dsimp only
    rw [hd]
    exact kk _ s3
end
end K44
set_option maxHeartbeats 4000000
namespace K44
open PySem PySem.Spec PyProof.Rows L2
section
variable {P : Program} {w : World} {K : PySem.W.Frag} {mg : Str → Option Value} {base : Heap}
theorem vis_nd (hid : Nat → Bool) (m : Nat) : ∀ i j, i < (vis hid m).length → j < (vis hid m).length → qv hid m i = qv hid m j → i = j := fun i j hi hj e => by
  have nd : (vis hid m).Pairwise (· < ·) := by
    unfold vis
    exact List.Pairwise.filter _ List.pairwise_lt_range
  have e1 : (vis hid m)[i] = (vis hid m)[j] := by
    have e : (vis hid m).getD i 0 = (vis hid m).getD j 0 := e
    simpa [hi, hj] using e
  have h := List.pairwise_iff_getElem.mp nd
  rcases Nat.lt_trichotomy i j with l | l | l
  · have := h i j hi hj l; omega
  · exact l
  · have := h j i hj hi l; omega
theorem vis_lt (hid : Nat → Bool) (m : Nat) : ∀ i, i < (vis hid m).length → qv hid m i < m := fun i hi => by
  have : (vis hid m)[i] ∈ vis hid m := List.getElem_mem hi
  unfold vis at this
  have h2 := List.mem_range.mp (List.mem_filter.mp this).1
  have e : qv hid m i = (vis hid m)[i] := by
    show (vis hid m).getD i 0 = _
    simp [hi]
  rw [e]
  exact h2
theorem refV_take {rs : Nat → Addr} {n k : Nat} (h : k ≤ n) : (refV rs n).take k = refV rs k := by
  unfold refV
  rw [← List.map_take, List.take_range, Nat.min_eq_left h]
theorem rowV_take {f : Nat → Int} {n k : Nat} (h : k ≤ n) : (rowV f n).take k = rowV f k := by
  unfold rowV
  rw [← List.map_take, List.take_range, Nat.min_eq_left h]
def sp_corr : Sp := fun vs H Q _ => ∃ (a : Addr) (hid : Nat → Bool) (y : Nat → G) (k : Nat), vs = [.ref a, .int k] ∧ H a = some (.lst (recV hid (cwf y k) 16)) ∧ 1 ≤ k ∧ k ≤ 16 ∧
  ((vis hid 16).length < k → ∀ H', Same H H' → Q .non H') ∧
  (k ≤ (vis hid 16).length → ∀ H' p, Same H H' → H p = none → H' p = some (.lst (rowV (gr (cwf y k)) 16)) → Q (.ref p) H')
theorem ok_corrected (T : Tx K mg) : Keeps P w K mg base 3 "corrected" p_corrected sp_corr := by
  refine T.d_corrected.keeps sc_corrected (fun _ _ _ _ _ _ us hl => match us, hl with | [_, _], _ => rfl) (fun vs H Q E h => by obtain ⟨a, b, c, k, rfl, _⟩ := h; rfl) (fun f cdv A outer s H vs Q E hr h => ?_)
  obtain ⟨a, hid, y, k, rfl, ha, h0, h1, q1, q2⟩ := h
  refine ⟨_, (pss_cons (ps_set (i := 2) sc_corrected.nd rfl (Or.inl rfl) (pcall (ok_known T) (hr.mono (by decide)) (pa_cons (pv 0) (pa_cons (pv 1) pa_nil))))
      (pss_cons (ps_if (pt_cmpR op_lt (pe_callB (lenK K) (by rfl) T.b_len PySem.boot_len (pa_cons (pv 2) pa_nil)) (pv 1) (nomark _)) (pss_one (ps_ret pe_non)) pss_nil)
      (pss_cons (ps_set (i := 3) sc_corrected.nd rfl (Or.inl rfl) (pe_callB (lenK K) (by rfl) T.b_len PySem.boot_len (pa_cons (pv 0) pa_nil)))
      (pss_cons (ps_set (i := 4) sc_corrected.nd rfl (Or.inl rfl) (pcall (ok_continued T) (hr.mono (by decide)) (pa_cons (pe_slice (slL K) (pv 2) po_none (po_some (pv 1))) (pa_cons (pe_listRg rfl rfl T.b_list (prg_1 rfl T.b_range (pv 3))) pa_nil))))
      (pss_cons (ps_if (pt_val (pcall (ok_is_near T) (hr.mono (by decide)) (pa_cons (pv 4) (pa_cons (pv 0) (pa_cons (pv 1) pa_nil))))) (pss_one (ps_ret (pv 4))) pss_nil)
      pss_never))))), ?_⟩
  refine ⟨_, rfl, _, rfl, a, hid, cwf y k, (k : Int), rfl, ha, by omega, by omega, fun H1 b ts s1 hb kn => ?_⟩
  refine ⟨_, rfl, b, _, rfl, .inl (SqL.of kn.top), _, rfl, _, _, rfl, rfl, _, rfl, ite2 (fun e => ?_) (fun e => ?_)⟩
  · have := of_decide_eq_true e
    rw [refV_len] at this
    exact q1 (by omega) H1 s1
  · have hk : k ≤ (vis hid 16).length := by
      have : ¬ (((refV ts (vis hid 16).length).length : Int) < (k : Int)) := fun z => e (decide_eq_true z)
      rw [refV_len] at this
      omega
    refine ⟨_, rfl, a, _, rfl, .inl (SqL.of (s1 _ _ ha)), ?_⟩
    rw [recV_len]
    refine ⟨_, rfl, _, rfl, (k : Int), rfl, b, _, rfl, SqL.of kn.top, fun t ht => ?_⟩
    rw [cut_to, refV_take hk]
    have s2 := same_upd (o := .lst (refV ts k)) ht
    refine ⟨_, rfl, _, rfl, RgOk.of_le (by decide) (by decide) (by decide) (by decide), fun r hr2 => ?_⟩
    have s3 := same_upd (o := .lst (rgV 0 16)) hr2
    have kn1 := (kn.same s2).same s3
    have s123 := L2.Same.trans s1 (L2.Same.trans s2 s3)
    refine ⟨t, r, ts, k, qv hid 16, yv hid (cwf y k) 16, rfl, ⟨s3 _ _ upd_same, fun i hi => kn1.at_ i (by omega)⟩, upd_same, h1, h0, fun i hi => vis_lt hid 16 i (by omega), fun H2 p s4 hp e4 => ?_⟩
    have e5 : H2 p = some (.lst (rowV (gr (cwf y k)) 16)) := by
      rw [e4, rowV_ext fun j hj => ?_]
      unfold gr
      have := nw_cwf y h1 (qv hid 16) (fun i hi => vis_lt hid 16 i (by omega)) (fun i j hi hj e => vis_nd hid 16 i j (by omega) (by omega) e) j
      exact congrArg (fun g : G => (g.v.val : Int)) this
    have s5 := L2.Same.trans s123 s4
    refine ⟨_, rfl, _, rfl, _, rfl, p, a, hid, cwf y k, (k : Int), rfl, e5, s5 _ _ ha, by omega, fun H3 s6 => ⟨true, rfl, iteT ?_⟩⟩
    exact ⟨_, rfl, q2 hk H3 p (L2.Same.trans s5 s6) (s123.free hp) (s6 _ _ e5)⟩
end
end K44
set_option maxHeartbeats 4000000
namespace K44
open PySem PySem.Spec PyProof.Rows L2
section
variable {P : Program} {w : World} {K : PySem.W.Frag} {mg : Str → Option Value} {base : Heap}
/-! ### defs of a class -/
def KeepsA (P : Program) (w : World) (K : PySem.W.Frag) (mg : Str → Option Value) (base : Heap) (k : Nat) (R : Addr → Prop) (ps : List Str) (sp : Sp) : Prop :=
  ∃ f fd, R f ∧ Binds K fd ps [] ∧ FnOk P w K mg base CX0 k f fd ps sp
theorem KeepsA.of {x q : Str} {st : Stmt} {f : Addr} {fd : FuncData} {R : Addr → Prop} {N ps : List Str} {k : Nat} {sp : Sp} (F : Fun K x q st f fd) (r : R f) (S : FnScope N ps (defScope st))
    (hb : ∀ (kV doc pm : Value) (an : Option Addr) (cdv ct : Value) (us : List Value), us.length = ps.length → bindArgs (PySem.W.fnOf x q (defArgs st) (defBody st) (defScope st) .none kV doc pm an cdv ct) ⟨us, []⟩ = pure (ps.zip us))
    (len : ∀ vs H Q E, sp vs H Q E → vs.length = ps.length)
    (body : ∀ (f : Addr) (cdv : Value) (A : Around) (outer : List Env) (s : Shared) (H : Hp) (vs : List V) (Q : VK) (E : XK), Room k (A.deeper (envOfC q (defScope st) s.heap.objs.size f cdv)) → sp vs H Q E →
      ∃ t, PSs (cxOf CX0 P w K mg base N q (defScope st) f cdv A outer s H E).nox (defBody st) t ∧ t { nx := fun _ H' => Q .non H', rt := Q } (start N vs) H) : KeepsA P w K mg base (k + 1) R ps sp :=
  ⟨f, fd, r, F.binds hb, F.ok S len (body f)⟩
theorem pmake {X : Cx} {x : Str} {C : Addr} {ps : List Str} {sp : Sp} {k : Nat} {e : Expr} {es : List Expr} {t : TA} {p pos : Pos} (G : KeepsA X.prog X.w X.K X.mg X.base k (Mk X.K C) ps sp) (hm : X.mg x = some (.ref C)) (hr : Room (k + 1) X.A) (ha : PA X (e :: es) t)
    (hg : Gl X x := by rfl) (hdb : (x == ("__debug__" : Str)) = false := by decide) (he : starEach (e :: es) X.env = (false, eval e X.env) :: starEach es X.env := by rfl) (hpl : (backTo pos (starEach es X.env)).any (·.1) = false := by rfl) :
    PE X (.Call (.Name x p) (e :: es) [] pos) (tMake C sp [] E0 t) := by
  obtain ⟨f, fd, M, b, F⟩ := G
  exact pe_make M F hr hg hm b .nil pass0 ha hdb he hpl
theorem pmeth {X : Cx} {m : Str} {C : Addr} {ps : List Str} {sp : Sp} {k : Nat} {o e : Expr} {es : List Expr} {ta : TE} {t : TA} {apos pos : Pos} {pl : Sem Bool} (G : KeepsA X.prog X.w X.K X.mg X.base k (Meth X.K C m) ps sp) (c : Cls X.K C) (hr : Room k X.A) (he : PE X o ta) (ha : PA X (e :: es) t)
    (hst : starEach (e :: es) X.env = (false, eval e X.env) :: starEach es X.env := by rfl) (hpl : (backTo pos (starEach es X.env)).any (·.1) = false := by rfl)
    (ht : eval (.Call (.Attribute o m apos) (e :: es) [] pos) X.env = (do
      let ov ← eval o X.env
      standAt apos.atName
      let (f, first) ← holding [ov] (getMethod ov m pl)
      callWith pos f first (backTo pos (starEach (e :: es) X.env)) (backToKw pos (keywordEach [] X.env))) := by rfl) :
    PE X (.Call (.Attribute o m apos) (e :: es) [] pos) (tMeth C m sp [] E0 ta t) := by
  obtain ⟨f, fd, hm, b, F⟩ := G
  exact pe_meth (pl := pl) he c hm F hr b .nil pass0 ha hst hpl ht
theorem pprop {X : Cx} {f : Str} {C : Addr} {ps : List Str} {sp : Sp} {k : Nat} {e : Expr} {ta : TE} {pos : Pos} (G : KeepsA X.prog X.w X.K X.mg X.base k (fun g => ∃ p, PropOf X.K C f p g) ps sp) (c : Cls X.K C) (hr : Room (k + 1) X.A) (he : PE X e ta)
    (hab : attributeBase e f X.env (eval e X.env) = eval e X.env := by rfl) : PE X (.Attribute e f pos) (tProp C sp [] E0 ta) := by
  obtain ⟨g, fd, ⟨p, hp⟩, b, F⟩ := G
  exact pe_prop he c hp F hr b .nil pass0 hab
/-! ### Format -/
abbrev cF (K : PySem.W.Frag) : Addr := He.ga K "Format"
def FormAt (K : PySem.W.Frag) (H : Hp) (a : Addr) (s c : Int) : Prop := (4 ≤ s ∧ s ≤ 100 ∧ 0 ≤ c ∧ c ≤ 16) ∧ ∃ dx, H a = some (.ins (cF K) dx [("side", .int s), ("checks", .int c)])
theorem FormAt.same {H H' : Hp} {a : Addr} {s c : Int} (e : Same H H') : FormAt K H a s c → FormAt K H' a s c := fun ⟨b, dx, h⟩ => ⟨b, dx, e _ _ h⟩
def sp_get (K : PySem.W.Frag) (g : Int → Int → Int) : Sp := fun vs H Q _ => ∃ (a : Addr) (s c : Int), vs = [.ref a] ∧ FormAt K H a s c ∧ Q (.int (g s c)) H
theorem pr_data_symbols (T : Tx K mg) : KeepsA P w K mg base 1 (fun g => ∃ p, PropOf K (cF K) "data_symbols" p g) p_Format_data_symbols (sp_get K fun _ c => 16 - c) := by
  obtain ⟨p, g, fd, F, hp⟩ := T.p_data_symbols
  refine KeepsA.of F ⟨p, hp⟩ sc_Format_data_symbols (fun _ _ _ _ _ _ us hl => match us, hl with | [_], _ => rfl) (fun vs H Q E h => by obtain ⟨a, s, c, rfl, _⟩ := h; rfl) (fun f cdv A outer s H vs Q E hr h => ?_)
  obtain ⟨a, s, c, rfl, ⟨⟨s0, s1, c0, c1⟩, dx, ha⟩, q⟩ := h
  refine ⟨_, (pss_one (ps_ret (pe_op op_sub (cst T.c_CODEWORD) (fldK K (pv 0) rfl)))), ?_⟩
  exact ⟨_, rfl, a, _, _, _, _, rfl, ha, T.k_Format.cl, T.n_checks, rfl, _, _, rfl, rfl, q⟩
theorem pr_codewords (T : Tx K mg) : KeepsA P w K mg base 1 (fun g => ∃ p, PropOf K (cF K) "codewords" p g) p_Format_codewords (sp_get K fun s _ => (s - 4) * (s - 4) / 64) := by
  obtain ⟨p, g, fd, F, hp⟩ := T.p_codewords
  refine KeepsA.of F ⟨p, hp⟩ sc_Format_codewords (fun _ _ _ _ _ _ us hl => match us, hl with | [_], _ => rfl) (fun vs H Q E h => by obtain ⟨a, s, c, rfl, _⟩ := h; rfl) (fun f cdv A outer s H vs Q E hr h => ?_)
  obtain ⟨a, s, c, rfl, ⟨⟨s0, s1, c0, c1⟩, dx, ha⟩, q⟩ := h
  refine ⟨_, (pss_cons (ps_set (i := 1) sc_Format_codewords.nd rfl (Or.inl rfl) (pe_op op_sub (fldK K (pv 0) rfl) (pe_op op_mul pe_int (cst T.c_BORDER))))
      (pss_one (ps_ret (pe_op op_fdiv (pe_op op_mul (pv 1) (pv 1)) (pe_op op_mul (cst T.c_CODEWORD) (cst T.c_CELLS_OF_SYMBOL)))))), ?_⟩
  refine ⟨_, rfl, a, _, _, _, _, rfl, ha, T.k_Format.cl, T.n_side, rfl, _, _, rfl, rfl, .inl ⟨by decide, by decide⟩, _, _, rfl, rfl, ?_⟩
  exact ⟨_, rfl, _, rfl, _, _, rfl, rfl, .inr ⟨by omega, by omega⟩, _, _, rfl, rfl, .inl ⟨by decide, by decide⟩, _, _, rfl, rfl, ⟨by decide, by decide⟩, q⟩
theorem pr_body_size (T : Tx K mg) : KeepsA P w K mg base 3 (fun g => ∃ p, PropOf K (cF K) "body_size" p g) p_Format_body_size (sp_get K fun s c => ((s - 4) * (s - 4) / 64 - 1) * (16 - c)) := by
  obtain ⟨p, g, fd, F, hp⟩ := T.p_body_size
  refine KeepsA.of F ⟨p, hp⟩ sc_Format_body_size (fun _ _ _ _ _ _ us hl => match us, hl with | [_], _ => rfl) (fun vs H Q E h => by obtain ⟨a, s, c, rfl, _⟩ := h; rfl) (fun f cdv A outer s H vs Q E hr h => ?_)
  obtain ⟨a, s, c, rfl, hf, q⟩ := h
  have hf2 := hf
  obtain ⟨⟨s0, s1, c0, c1⟩, dx, ha⟩ := hf2
  refine ⟨_, (pss_one (ps_ret (pe_op op_mul (pe_op op_sub (pprop (pr_codewords T) T.k_Format.cl (hr.mono (by decide)) (pv 0)) pe_int) (pprop (pr_data_symbols T) T.k_Format.cl (hr.mono (by decide)) (pv 0))))), ?_⟩
  refine ⟨_, rfl, a, dx, _, rfl, ha, a, s, c, rfl, hf, _, _, rfl, rfl, _, rfl, a, dx, _, rfl, ha, a, s, c, rfl, hf, ?_⟩
  exact ⟨_, _, rfl, rfl, .inr ⟨by show _ < 16 - c; omega, by show 16 - c < _; omega⟩, q⟩
theorem pr_capacity (T : Tx K mg) : KeepsA P w K mg base 5 (fun g => ∃ p, PropOf K (cF K) "capacity" p g) p_Format_capacity (sp_get K fun s c => (((s - 4) * (s - 4) / 64 - 1) * (16 - c) - 10) / 2) := by
  obtain ⟨p, g, fd, F, hp⟩ := T.p_capacity
  refine KeepsA.of F ⟨p, hp⟩ sc_Format_capacity (fun _ _ _ _ _ _ us hl => match us, hl with | [_], _ => rfl) (fun vs H Q E h => by obtain ⟨a, s, c, rfl, _⟩ := h; rfl) (fun f cdv A outer s H vs Q E hr h => ?_)
  obtain ⟨a, s, c, rfl, hf, q⟩ := h
  have hf2 := hf
  obtain ⟨⟨s0, s1, c0, c1⟩, dx, ha⟩ := hf2
  refine ⟨_, (pss_one (ps_ret (pe_op op_fdiv (pe_op op_sub (pprop (pr_body_size T) T.k_Format.cl (hr.mono (by decide)) (pv 0)) (cst T.c_HEAD)) pe_int))), ?_⟩
  exact ⟨_, rfl, a, dx, _, rfl, ha, a, s, c, rfl, hf, _, _, rfl, rfl, _, _, rfl, rfl, ⟨by decide, by decide⟩, q⟩
def sp_format (K : PySem.W.Frag) : Sp := fun vs H Q _ => ∃ (x dx : Addr) (s c : Int), vs = [.ref x, .int s, .int c] ∧ H x = some (.ins (cF K) dx []) ∧ 16 ≤ s ∧ s ≤ 40 ∧ (c = 2 ∨ c = 4 ∨ c = 6 ∨ c = 8) ∧ 12 ≤ ((s - 4) * (s - 4) / 64 - 1) * (16 - c) ∧
  Q .non (upd (upd H x (.ins (cF K) dx [("side", .int s)])) x (.ins (cF K) dx [("side", .int s), ("checks", .int c)]))
theorem mk_Format (T : Tx K mg) : KeepsA P w K mg base 7 (Mk K (cF K)) p_Format___init__ (sp_format K) := by
  obtain ⟨f, fd, F, hp⟩ := T.m_Format
  obtain ⟨aN, mN, sN⟩ := T.t_checks
  refine KeepsA.of F hp sc_Format___init__ (fun _ _ _ _ _ _ us hl => match us, hl with | [_, _, _], _ => rfl) (fun vs H Q E h => by obtain ⟨a, dx, s, c, rfl, _⟩ := h; rfl) (fun f cdv A outer s H vs Q E hr h => ?_)
  obtain ⟨x, dx, s, c, rfl, hx, s0, s1, hc, hcap, q⟩ := h
  refine ⟨_, (pss_cons (ps_if (PW.pt (pw_or (pt_cmpR op_lt (pv 1) (cst T.c_LEAST_SIDE) (nomark _)) (pw_or (pt_cmpR op_gt (pv 1) (cst T.c_GREATEST_SIDE) (nomark _)) (pw_or1 (pt_cmpR op_notIn_seq (pv 2) (tabG mN) (by rfl)))))) (pss_one ps_never) pss_nil)
      (pss_cons (ps_fld (pv 0) (pv 1) rfl)
      (pss_cons (ps_fld (pv 0) (pv 2) rfl)
      (pss_one (ps_if (pt_cmpR op_lt (pprop (pr_capacity T) T.k_Format.cl (hr.mono (by decide)) (pv 0)) pe_int (nomark _)) (pss_one ps_never) pss_nil))))), ?_⟩
  refine ⟨_, rfl, _, _, rfl, rfl, _, rfl, ite2 (fun e => absurd (of_decide_eq_true e) (by omega)) fun _ => ?_⟩
  refine ⟨_, rfl, _, _, rfl, rfl, _, rfl, ite2 (fun e => absurd (of_decide_eq_true e) (by omega)) fun _ => ?_⟩
  refine ⟨_, rfl, aN, nvs [2, 4, 6, 8], rfl, .inr (sN H), rfl, rfl, ?_⟩
  have hin : inV (.int c) (nvs [2, 4, 6, 8]) = true := by rcases hc with rfl | rfl | rfl | rfl <;> rfl
  rw [hin]
  refine ⟨_, rfl, iteF ?_⟩
  refine ⟨_, rfl, _, rfl, x, _, _, _, rfl, hx, T.k_Format.cl, T.n_side, by decide, ?_⟩
  refine ⟨_, rfl, _, rfl, x, _, _, _, rfl, upd_same, T.k_Format.cl, T.n_checks, by show 1 < 1000; decide, ?_⟩
  have e2 : putF "checks" (.int c) (putF "side" (.int s) []) = ([("side", .int s), ("checks", .int c)] : List (Str × V)) := rfl
  have e1 : putF "side" (.int s) [] = ([("side", .int s)] : List (Str × V)) := rfl
  rw [e2, e1]
  have hf : FormAt K (upd (upd H x (.ins (cF K) dx [("side", .int s)])) x (.ins (cF K) dx [("side", .int s), ("checks", .int c)])) x s c := ⟨⟨by omega, by omega, by omega, by omega⟩, dx, upd_same⟩
  refine ⟨_, rfl, x, dx, _, rfl, upd_same, x, s, c, rfl, hf, ?_⟩
  exact ⟨_, _, rfl, rfl, _, rfl, ite2 (fun e => absurd (show (((s - 4) * (s - 4) / 64 - 1) * (16 - c) - 10) / 2 < 1 from of_decide_eq_true e) (by omega)) fun _ => q⟩
end
end K44
set_option maxHeartbeats 4000000
namespace K44
open PySem PySem.Spec PyProof.Rows L2
section
variable {P : Program} {w : World} {K : PySem.W.Frag} {mg : Str → Option Value} {base : Heap}
/-! ### a symbol of four cells -/
def symI (c : Nat → Int) : Nat → Int
  | 0 => 0
  | i + 1 => 2 * symI c i + c i
def symV (c : Nat → Int) : V := if c 0 = 2 ∨ c 1 = 2 ∨ c 2 = 2 ∨ c 3 = 2 then .non else .int (symI c 4)
theorem symV_non {c : Nat → Int} {j : Nat} (hj : j < 4) (e : c j = 2) : symV c = .non := by
  unfold symV
  match j, hj with
  | 0, _ => rw [if_pos (.inl e)]
  | 1, _ => rw [if_pos (.inr (.inl e))]
  | 2, _ => rw [if_pos (.inr (.inr (.inl e)))]
  | 3, _ => rw [if_pos (.inr (.inr (.inr e)))]
theorem symV_int {c : Nat → Int} (h : ∀ j, j < 4 → c j ≠ 2) : symV c = .int (symI c 4) := by
  unfold symV
  rw [if_neg]
  intro e
  rcases e with e | e | e | e
  · exact h 0 (by decide) e
  · exact h 1 (by decide) e
  · exact h 2 (by decide) e
  · exact h 3 (by decide) e
def sp_symbol : Sp := fun vs H Q _ => ∃ (a : Addr) (c : Nat → Int), vs = [.ref a] ∧ H a = some (.lst (rowV c 4)) ∧ Q (symV c) H
theorem ok_symbol (T : Tx K mg) : Keeps P w K mg base 1 "_symbol" p__symbol sp_symbol := by
  refine T.d__symbol.keeps sc__symbol (fun _ _ _ _ _ _ us hl => match us, hl with | [_], _ => rfl) (fun vs H Q E h => by obtain ⟨a, b, rfl, _⟩ := h; rfl) (fun f cdv A outer s H vs Q E hr h => ?_)
  obtain ⟨a, c, rfl, ha, q⟩ := h
  refine ⟨_, (pss_cons (ps_set (i := 1) sc__symbol.nd rfl (Or.inl rfl) pe_int)
      (pss_cons (ps_for PassesOwn.never rfl (piL K (pv 0)) (pg_name (i := 2) sc__symbol.nd rfl (Or.inl rfl))
      (pss_cons (ps_if (pt_cmpR op_eq (pv 2) (cst T.c_UNREADABLE) (nomark _)) (pss_one (ps_ret pe_non)) pss_nil)
      (pss_one (ps_set (i := 1) sc__symbol.nd rfl (Or.inl rfl) (pe_op op_add (pe_op op_mul pe_int (pv 1)) (pv 2))))))
      (pss_one (ps_ret (pv 1))))), ?_⟩
  refine ⟨_, rfl, a, rfl, ⟨_, SqL.of ha⟩, ?_⟩
  refine for_list (K := K) (a := a) (xs := rowV c 4) (fun i σ H1 => ∃ v, σ = [some (.ref a), some (.int (symI c i)), v] ∧ H1 = H ∧ ∀ j, j < i → c j ≠ 2) ⟨none, rfl, rfl, fun j hj => absurd hj (Nat.not_lt_zero _)⟩ (fun i σ H1 _ z => by obtain ⟨_, _, rfl, _⟩ := z; exact SqL.of ha) ?_ ?_
  · rintro i x σ H1 hi ⟨v, rfl, rfl, hn⟩
    have hk : i < 4 := by have := (List.getElem?_eq_some_iff.mp hi).1; rwa [rowV_len] at this
    rw [rowV_get hk] at hi
    obtain rfl := Option.some.inj hi
    refine ⟨_, rfl, rfl, _, rfl, ite2 (fun e => ?_) (fun e => ?_)⟩
    · have e2 : c i = 2 := by have := of_decide_eq_true e; injection this
      have : symV c = .non := symV_non hk e2
      rw [this] at q
      exact q
    · have e2 : c i ≠ 2 := fun z => e (decide_eq_true (by rw [z]))
      refine ⟨_, rfl, _, _, rfl, rfl, .inl ⟨by decide, by decide⟩, _, rfl, _, _, rfl, rfl, _, rfl, rfl, fun j hj => ?_⟩
      by_cases z : j = i
      · rw [z]; exact e2
      · exact hn j (by omega)
  · rintro σ H1 ⟨v, rfl, rfl, hn⟩
    have : symV c = .int (symI c 4) := symV_int fun j hj => hn j (by rw [rowV_len]; exact hj)
    rw [this] at q
    rw [rowV_len]
    exact ⟨_, rfl, q⟩
def sp_cksq : Sp := fun vs H Q _ => ∃ (a : Addr) (rs : Nat → Addr) (n : Nat) (f : Nat → Nat → Int), vs = [.ref a, .int n] ∧ Grid H a rs n n f ∧ n ≤ 100 ∧ (∀ i j, i < n → j < n → 0 ≤ f i j ∧ f i j ≤ 2) ∧ ∀ H', Same H H' → Q .non H'
theorem ok_check_square (T : Tx K mg) : Keeps P w K mg base 1 "check_square" p_check_square sp_cksq := by
  refine T.d_check_square.keeps sc_check_square (fun _ _ _ _ _ _ us hl => match us, hl with | [_, _], _ => rfl) (fun vs H Q E h => by obtain ⟨a, b, n, f, rfl, _⟩ := h; rfl) (fun f cdv A outer s H vs Q E hr h => ?_)
  obtain ⟨a, rs, n, g, rfl, G, hn, hb, q⟩ := h
  refine ⟨_, (pss_cons (ps_if (pt_cmpR op_ne (pe_callB (lenK K) (by rfl) T.b_len PySem.boot_len (pa_cons (pv 0) pa_nil)) (pv 1) (nomark _)) (pss_one ps_never) pss_nil)
      (pss_one (ps_for PassesOwn.never rfl (piL K (pv 0)) (pg_name (i := 2) sc_check_square.nd rfl (Or.inl rfl))
      (pss_one (ps_if (PW.pt (pw_or (pt_cmpR op_ne (pe_callB (lenK K) (by rfl) T.b_len PySem.boot_len (pa_cons (pv 2) pa_nil)) (pv 1) (nomark _)) (pw_or1 (pt_not (pt_val (pe_callB (cr_all rfl) (by rfl) T.b_all (by decide +kernel) (pa_cons (pe_lc (own := [("cell", 3)]) rfl sc_check_square.nd (piL K (pv 2)) (blkOk_by (by kernel_rfl)) (fun _ _ _ _ _ => (pg_name (i := 3) sc_check_square.nd rfl (Or.inl rfl))) (fun _ _ _ _ _ => pts_nil) (fun _ _ _ _ _ => (pe_chain op_le op_le (cst T.c_WHITE) (pv 3) (cst T.c_UNREADABLE)))) pa_nil))))))) (pss_one ps_never) pss_nil))))), ?_⟩
  refine ⟨_, rfl, a, _, rfl, .inl (SqL.of G.top), _, rfl, rfl, _, rfl, ite2 (fun e => absurd e (by rw [refV_len]; simp)) fun _ => ?_⟩
  refine ⟨_, rfl, a, rfl, ⟨_, SqL.of G.top⟩, ?_⟩
  refine for_list (K := K) (a := a) (xs := refV rs n) (fun i σ H1 => ∃ v v2, σ = [some (.ref a), some (.int n), v, v2] ∧ Same H H1) ⟨none, none, rfl, Same.refl _⟩ (fun i σ H1 _ z => by obtain ⟨_, _, _, s1⟩ := z; exact SqL.of (s1 _ _ G.top)) ?_ ?_
  · rintro i x σ H1 hi ⟨v, v2, rfl, s1⟩
    have hk : i < n := by have := (List.getElem?_eq_some_iff.mp hi).1; rwa [refV_len] at this
    rw [refV_get hk] at hi
    obtain rfl := Option.some.inj hi
    have hr1 := s1 _ _ (G.row i hk)
    refine ⟨_, rfl, rs i, _, rfl, .inl (SqL.of hr1), _, rfl, rfl, _, rfl, ite2 (fun e => absurd e (by rw [rowV_len]; simp)) fun _ => ?_⟩
    refine ⟨_, rfl, rs i, rfl, ⟨_, SqL.of hr1⟩, fun D hD => ?_⟩
    refine lc_list (K := K) (a := rs i) (xs := rowV (g i) n) (fun j H2 => Same H1 H2 ∧ H2 D = some (.lst (List.replicate j (.bl true)))) ⟨same_upd hD, upd_same⟩ (fun j H2 _ z => SqL.of (z.1 _ _ hr1)) (fun j x H2 hj z => ?_) fun H2 z => ?_
    · obtain ⟨z1, z2⟩ := z
      have hj2 : j < n := by have := (List.getElem?_eq_some_iff.mp hj).1; rwa [rowV_len] at this
      rw [rowV_get hj2] at hj
      obtain rfl := Option.some.inj hj
      obtain ⟨b0, b1⟩ := hb i j hk hj2
      have fin : ∃ acc, H2 D = some (.lst acc) ∧ acc.length < sizeLine ∧ (Same H1 (upd H2 D (.lst (acc ++ [.bl true]))) ∧ upd H2 D (.lst (acc ++ [.bl true])) D = some (.lst (List.replicate (j + 1) (.bl true)))) :=
        ⟨_, z2, szl (by rw [List.length_replicate]; omega), same_mut z1 hD, by rw [upd_same, List.replicate_succ']⟩
      refine ⟨rfl, _, rfl, _, _, rfl, rfl, _, rfl, ?_⟩
      rw [decide_eq_true b0]
      refine iteT ⟨_, _, rfl, rfl, ?_⟩
      dsimp only
      rw [show decide (g i j ≤ 2) = true from decide_eq_true b1]
      exact fin
    · obtain ⟨z1, z2⟩ := z
      rw [rowV_len] at z2
      refine ⟨D, List.replicate n true, rfl, SqL.of (by rw [z2, List.map_replicate]), _, rfl, ?_⟩
      rw [show (List.replicate n true).all id = true by simp]
      exact iteF ⟨_, _, rfl, L2.Same.trans s1 z1⟩
  · rintro σ H1 ⟨v, v2, rfl, s1⟩
    exact q _ s1
end
end K44
set_option maxHeartbeats 4000000
namespace K44
open PySem PySem.Spec PyProof.Rows L2
section
variable {P : Program} {w : World} {K : PySem.W.Frag} {mg : Str → Option Value} {base : Heap}
/-! ### any values by their places -/
def tabV (f : Nat → V) (n : Nat) : List V := (List.range n).map f
theorem tabV_len {f : Nat → V} {n : Nat} : (tabV f n).length = n := by unfold tabV; rw [List.length_map, List.length_range]
theorem tabV_get {f : Nat → V} {n j : Nat} (h : j < n) : (tabV f n)[j]? = some (f j) := by unfold tabV; simp [h]
theorem tabV_succ {f : Nat → V} {n : Nat} : tabV f (n + 1) = tabV f n ++ [f n] := by unfold tabV; rw [List.range_succ, List.map_append]; rfl
theorem tabV_ext {f g : Nat → V} {m : Nat} (h : ∀ j, j < m → f j = g j) : tabV f m = tabV g m := by
  unfold tabV
  apply List.map_congr_left
  intro j hj
  rw [h j (List.mem_range.mp hj)]
theorem rowV_tab {f : Nat → Int} {m : Nat} : rowV f m = tabV (fun j => .int (f j)) m := rfl
theorem refV_tab {f : Nat → Addr} {m : Nat} : refV f m = tabV (fun j => .ref (f j)) m := rfl
theorem tabV_mid {f : Nat → V} {n a k : Nat} (h : a + k ≤ n) : ((tabV f n).drop a).take k = tabV (fun j => f (a + j)) k := by
  apply List.ext_getElem?
  intro j
  by_cases hj : j < k
  · rw [tabV_get hj, List.getElem?_take_of_lt hj, List.getElem?_drop, tabV_get (by omega)]
  · rw [List.getElem?_eq_none (by rw [List.length_take]; omega), List.getElem?_eq_none (by rw [tabV_len]; omega)]
theorem tabV_app {f g : Nat → V} {a b : Nat} : tabV f a ++ tabV g b = tabV (fun x => if x < a then f x else g (x - a)) (a + b) := by
  apply List.ext_getElem?
  intro j
  by_cases hj : j < a
  · rw [List.getElem?_append_left (by rw [tabV_len]; exact hj), tabV_get hj, tabV_get (by omega), if_pos hj]
  · rw [List.getElem?_append_right (by rw [tabV_len]; omega), tabV_len]
    by_cases h2 : j < a + b
    · rw [tabV_get (by omega), tabV_get h2, if_neg hj]
    · rw [List.getElem?_eq_none (by rw [tabV_len]; omega), List.getElem?_eq_none (by rw [tabV_len]; omega)]
theorem cut_tab {f : Nat → V} {n a b : Nat} (h : a ≤ b) (hb : b ≤ n) : cutV (tabV f n) (some (a : Int)) (some (b : Int)) = tabV (fun j => f (a + j)) (b - a) := by
  rw [cut_mid _ _ _ (by rw [tabV_len]; exact hb), tabV_mid (by omega)]
theorem stp_words : ∀ n : Fin 6, ∀ wd : Fin 6, 1 ≤ n.val → wd.val < n.val → stpIx (some (wd.val : Int)) none (n.val : Int) (16 * n.val) = (List.range 16).map fun j => j * n.val + wd.val := by decide +kernel
theorem fm_map {p : Nat → Option V} {g : Nat → V} : ∀ {l : List Nat}, (∀ j ∈ l, p j = some (g j)) → l.filterMap p = l.map g
  | [], _ => rfl
  | j :: l, h => by
    rw [List.filterMap_cons_some (h j (List.mem_cons_self ..)), List.map_cons, fm_map fun i hi => h i (List.mem_cons_of_mem _ hi)]
theorem stp_tab {f : Nat → V} {n wd : Nat} (h1 : 1 ≤ n) (h5 : n ≤ 5) (hw : wd < n) : stpV (tabV f (16 * n)) (some (wd : Int)) none (n : Int) = tabV (fun j => f (j * n + wd)) 16 := by
  unfold stpV
  rw [tabV_len, stp_words ⟨n, by omega⟩ ⟨wd, by omega⟩ h1 hw, List.filterMap_map]
  refine fm_map fun j hj => ?_
  have hj2 := List.mem_range.mp hj
  have : j * n + wd < 16 * n := by
    have := Nat.mul_le_mul_right n (show j + 1 ≤ 16 by omega)
    rw [Nat.add_mul, Nat.one_mul] at this
    omega
  exact tabV_get (f := f) this
theorem rgc_places : ∀ n : Fin 6, 1 ≤ n.val → RgC 0 (16 * (n.val : Int) * 4) 4 (16 * n.val) := by
  unfold RgC
  decide +kernel
/-- the codewords of a page of s rows -/
def nW (s : Nat) : Nat := (s - 4) * (s - 4) / 64
theorem nW_ok : ∀ s : Fin 23, 16 ≤ s.val → 2 ≤ nW s.val ∧ nW s.val ≤ 5 ∧ 64 * nW s.val ≤ (s.val - 4) * (s.val - 4) ∧ ((s.val : Int) - 4) * ((s.val : Int) - 4) / 64 = (nW s.val : Int) := by decide +kernel
/-- the cells of the place p -/
def cellAt (s : Nat) (f : Nat → Nat → Int) (p k : Nat) : Int := f (2 + (4 * p + k) / (s - 4)) (2 + (4 * p + k) % (s - 4))
def listAt (s : Nat) (f : Nat → Nat → Int) (wd : Nat) : List V := tabV (fun j => symV (cellAt s f (j * nW s + wd))) 16
/-- lists at ls, n of them -/
structure Lists (H : Hp) (p : Addr) (ls : Nat → Addr) (n : Nat) (X : Nat → List V) : Prop where
  top : H p = some (.lst (refV ls n))
  at_ : ∀ i, i < n → H (ls i) = some (.lst (X i))
theorem Lists.same {H H' : Hp} {p : Addr} {ls : Nat → Addr} {n : Nat} {X : Nat → List V} (s : Same H H') (L : Lists H p ls n X) : Lists H' p ls n X := ⟨s _ _ L.top, fun i hi => s _ _ (L.at_ i hi)⟩
theorem Lists.push {H H' : Hp} {D : Addr} {ls : Nat → Addr} {n : Nat} {X : Nat → List V} {p : Addr} (L : Lists H D ls n X) (hne : ∀ i, i < n → ls i ≠ D) (s : Same H H') (hp : H p = none) (hr : H' p = some (.lst (X n))) :
    H' D = some (.lst (refV ls n)) ∧ Lists (upd H' D (.lst (refV ls n ++ [.ref p]))) D (fun k => if k = n then p else ls k) (n + 1) X ∧ (∀ i, i < n + 1 → (if i = n then p else ls i) ≠ D) := by
  have hD := s _ _ L.top
  have nD : p ≠ D := fun e => by rw [e, L.top] at hp; cases hp
  refine ⟨hD, ⟨?_, fun i hi => ?_⟩, fun i hi => ?_⟩
  · rw [upd_same, refV_succ, if_pos rfl, refV_ext fun j hj => ?_]
    rw [if_neg (by omega)]
  · show (upd H' D _) (if i = n then p else ls i) = _
    by_cases e : i = n
    · subst e
      rw [if_pos rfl, upd_ne nD]
      exact hr
    · rw [if_neg e, upd_ne (hne i (by omega))]
      exact s _ _ (L.at_ i (by omega))
  · by_cases e : i = n
    · rw [if_pos e]; exact nD
    · rw [if_neg e]; exact hne i (by omega)
def sp_taken (K : PySem.W.Frag) : Sp := fun vs H Q _ => ∃ (fa a : Addr) (s : Nat) (c : Int) (rs : Nat → Addr) (f : Nat → Nat → Int), vs = [.ref fa, .ref a] ∧ FormAt K H fa s c ∧ 16 ≤ s ∧ s ≤ 22 ∧ Grid H a rs s s f ∧ (∀ i j, i < s → j < s → 0 ≤ f i j ∧ f i j ≤ 2) ∧
  ∀ H' p ls, Same H H' → H p = none → Lists H' p ls (nW s) (listAt s f) → Q (.ref p) H'
theorem ok_taken (T : Tx K mg) : Keeps P w K mg base 3 "taken" p_taken (sp_taken K) := by
  refine T.d_taken.keeps sc_taken (fun _ _ _ _ _ _ us hl => match us, hl with | [_, _], _ => rfl) (fun vs H Q E h => by obtain ⟨a, b, n, f, _, _, rfl, _⟩ := h; rfl) (fun f cdv A outer s H vs Q E hr h => ?_)
  obtain ⟨fa, a, n, c, rs, g, rfl, hf, h16, h22, G, hb, q⟩ := h
  refine ⟨_, (pss_cons (ps_expr (pcall (ok_check_square T) (hr.mono (by decide)) (pa_cons (pv 1) (pa_cons (fldK K (pv 0) rfl) pa_nil))))
      (pss_cons (ps_set (i := 2) sc_taken.nd rfl (Or.inr rfl) (pe_lst pa_nil))
      (pss_cons (ps_for PassesOwn.never rfl (piL K (pe_slice (slL K) (pv 1) (po_some (cst T.c_BORDER)) (po_some (pe_op op_sub (fldK K (pv 0) rfl) (cst T.c_BORDER))))) (pg_name (i := 3) sc_taken.nd rfl (Or.inl rfl))
      (pss_one (ps_aug (i := 2) sc_taken.nd rfl (Or.inr rfl) (pe_slice (slL K) (pv 3) (po_some (cst T.c_BORDER)) (po_some (pe_op op_sub (fldK K (pv 0) rfl) (cst T.c_BORDER)))) iop_ext)))
      (pss_cons (ps_set (i := 4) sc_taken.nd rfl (Or.inr rfl) (pprop (pr_codewords T) T.k_Format.cl (hr.mono (by decide)) (pv 0)))
      (pss_cons (ps_set (i := 5) sc_taken.nd rfl (Or.inl rfl) (pe_rng (by rfl) T.b_range (pa_cons pe_int (pa_cons (pe_op op_mul (pe_op op_mul (cst T.c_CODEWORD) (pv 4)) (cst T.c_CELLS_OF_SYMBOL)) (pa_cons (cst T.c_CELLS_OF_SYMBOL) pa_nil)))))
      (pss_cons (ps_set (i := 6) sc_taken.nd rfl (Or.inr rfl) (pe_lc (own := [("at", 7)]) rfl sc_taken.nd (pi_rngV (pv 5)) (blkOk_by (by kernel_rfl)) (fun _ _ _ _ _ => (pg_name (i := 7) sc_taken.nd rfl (Or.inl rfl))) (fun _ _ _ _ _ => pts_nil) (fun _ _ _ _ _ => (pcall (ok_symbol T) (hr.mono (by decide)) (pa_cons (pe_slice (slL K) (pv 2) (po_some (pv 7)) (po_some (pe_op op_add (pv 7) (cst T.c_CELLS_OF_SYMBOL)))) pa_nil)))))
      (pss_one (ps_ret (pe_lc (own := [("number", 8)]) rfl sc_taken.nd (pi_range1 (by rfl) T.b_range (pa_cons (pv 4) pa_nil)) (blkOk_by (by kernel_rfl)) (fun _ _ _ _ _ => (pg_name (i := 8) sc_taken.nd rfl (Or.inl rfl))) (fun _ _ _ _ _ => pts_nil) (fun _ _ _ _ _ => (stpK K (pv 6) (po_some (pv 8)) po_none (po_some (pv 4))))))))))))), ?_⟩
  obtain ⟨m, hm⟩ : ∃ m, m = n - 4 := ⟨_, rfl⟩
  obtain ⟨n1, n2, n3, n4⟩ := nW_ok ⟨n, by omega⟩ h16
  dsimp only at n1 n2 n3 n4
  have hf0 := hf
  obtain ⟨_, dx, hx⟩ := hf0
  have isq : ((n : Int) - 2).toNat = n - 2 := by omega
  refine ⟨_, rfl, _, rfl, fa, _, _, _, _, rfl, hx, T.k_Format.cl, T.n_side, rfl, a, rs, n, g, rfl, G, by omega, hb, fun H1 s1 => ?_⟩
  refine ⟨Nat.zero_le _, fun D hD => ?_⟩
  have s2 := L2.Same.trans s1 (same_upd (o := .lst []) hD)
  have nD := s1.free hD
  refine ⟨_, rfl, 2, rfl, _, rfl, fa, _, _, _, _, rfl, s2 _ _ hx, T.k_Format.cl, T.n_side, rfl, _, _, rfl, rfl, (n : Int) - 2, rfl, a, refV rs n, rfl, SqL.of (s2 _ _ G.top), fun t ht => ?_⟩
  rw [show (n : Int) - 2 = ((n - 2 : Nat) : Int) by omega, refV_tab, show (2 : Int) = ((2 : Nat) : Int) from rfl, cut_tab (by omega) (by omega)]
  have s3 := L2.Same.trans s2 (same_upd (o := .lst (tabV (fun j => V.ref (rs (2 + j))) (n - 2 - 2))) ht)
  have tD : t ≠ D := fun e => by rw [e, upd_same] at ht; cases ht
  refine ⟨t, rfl, ⟨_, SqL.of upd_same⟩, ?_⟩
  have em : n - 2 - 2 = m := by omega
  rw [em] at s3 ⊢
  refine for_list (K := K) (a := t) (xs := tabV (fun j => V.ref (rs (2 + j))) m) (fun i σ H2 => ∃ v, σ = [some (.ref fa), some (.ref a), some (.ref D), v, none, none, none, none, none] ∧ Same H H2 ∧ H2 t = some (.lst (tabV (fun j => V.ref (rs (2 + j))) m)) ∧
    H2 D = some (.lst (tabV (fun x => .int (g (2 + x / m) (2 + x % m))) (i * m)))) ⟨none, rfl, s3, upd_same, by rw [upd_ne tD.symm, upd_same, Nat.zero_mul]; rfl⟩ (fun i σ H2 _ z => by obtain ⟨_, _, _, z, _⟩ := z; exact SqL.of z) ?_ ?_
  · rintro i x σ H2 hi ⟨v, rfl, s4, e1, e2⟩
    have hk : i < m := by have := (List.getElem?_eq_some_iff.mp hi).1; rwa [tabV_len] at this
    rw [tabV_get hk] at hi
    obtain rfl := Option.some.inj hi
    have hrow := s4 _ _ (G.row (2 + i) (by omega))
    refine ⟨_, rfl, _, rfl, 2, rfl, _, rfl, fa, _, _, _, _, rfl, s4 _ _ hx, T.k_Format.cl, T.n_side, rfl, _, _, rfl, rfl, (n : Int) - 2, rfl, rs (2 + i), rowV (g (2 + i)) n, rfl, SqL.of hrow, fun u hu => ?_⟩
    rw [show (n : Int) - 2 = ((n - 2 : Nat) : Int) by omega, rowV_tab, show (2 : Int) = ((2 : Nat) : Int) from rfl, cut_tab (by omega) (by omega), em]
    have s5 := same_upd (o := .lst (tabV (fun j => V.int (g (2 + i) (2 + j))) m)) hu
    have uD : u ≠ D := fun e => by rw [e, e2] at hu; cases hu
    have im : i * m ≤ 20 * 20 := Nat.mul_le_mul (by omega) (by omega)
    refine ⟨D, u, _, _, rfl, rfl, s5 _ _ e2, upd_same, sz (by rw [tabV_len, tabV_len]; omega), ?_⟩
    refine ⟨_, rfl, same_mut (L2.Same.trans s4 s5) nD, by rw [upd_ne tD]; exact s5 _ _ e1, ?_⟩
    rw [upd_same, tabV_app, Nat.add_mul, Nat.one_mul, tabV_ext fun x hx => ?_]
    by_cases h : x < i * m
    · rw [if_pos h]
    · rw [if_neg h]
      have e : x = i * m + (x - i * m) := by omega
      have cm : m * i = i * m := Nat.mul_comm ..
      have d : x / m = i := by
        rw [e, Nat.mul_comm, Nat.mul_add_div (by omega), Nat.div_eq_of_lt (by omega), Nat.add_zero]
      have r : x % m = x - i * m := by
        have := Nat.div_add_mod x m
        rw [d, Nat.mul_comm] at this
        omega
      rw [d, r]
  · rintro σ H2 ⟨v, rfl, s4, e1, e2⟩
    rw [tabV_len] at e2
    generalize hF : (fun x => V.int (g (2 + x / m) (2 + x % m))) = F at e2
    refine ⟨_, rfl, fa, dx, _, rfl, s4 _ _ hx, fa, n, c, rfl, hf.same s4, ?_⟩
    dsimp only
    rw [n4]
    refine ⟨_, rfl, _, _, rfl, rfl, .inl ⟨by decide, by decide⟩, _, _, rfl, rfl, .inr ⟨by decide, by decide⟩, _, _, _, _, rfl, rgc_places ⟨nW n, by omega⟩ (by show 1 ≤ nW n; omega), fun pl hpl => ?_⟩
    have s5 := same_upd (o := rngO pl 0 (16 * (nW n : Int) * 4) 4) hpl
    refine ⟨_, rfl, pl, _, _, _, _, rfl, upd_same, rgc_places ⟨nW n, by omega⟩ (by show 1 ≤ nW n; omega), fun D2 hD2 => ?_⟩
    have mm : 64 * nW n ≤ m * m := by rw [hm]; exact n3
    have mm2 : m * m ≤ 18 * 18 := Nat.mul_le_mul (by omega) (by omega)
    have s6 := L2.Same.trans s4 s5
    have e3 := s5 _ _ e2
    have hsy : ∀ p, symV (fun k => g (2 + (4 * p + k) / m) (2 + (4 * p + k) % m)) = symV (cellAt n g p) := fun p => by unfold cellAt; rw [← hm]
    refine lc_by (J := Itc 0 4 (16 * nW n)) (n := 16 * nW n) (fun i H3 => Same (upd H2 pl (rngO pl 0 (16 * (nW n : Int) * 4) 4)) H3 ∧ H3 D2 = some (.lst (tabV (fun p => symV (cellAt n g p)) i))) ⟨same_upd hD2, upd_same⟩ (fun i H3 hi _ => hi) (fun _ _ => Nat.le_refl _) (fun i x H3 H3' hi R y => ?_) fun H3 R3 => ?_
    · obtain ⟨rfl, rfl⟩ := y
      obtain ⟨r1, r2⟩ := R
      have eat : (0 : Int) + (i : Int) * 4 = ((4 * i : Nat) : Int) := by omega
      have eat2 : ((4 * i : Nat) : Int) + 4 = ((4 * i + 4 : Nat) : Int) := by omega
      rw [eat]
      refine ⟨rfl, _, rfl, _, rfl, ((4 * i : Nat) : Int), rfl, _, rfl, _, _, rfl, rfl, ((4 * i : Nat) : Int) + 4, rfl, D, _, rfl, SqL.of (r1 _ _ e3), fun u hu => ?_⟩
      rw [eat2, cut_tab (by omega) (by omega), show 4 * i + 4 - 4 * i = 4 by omega, ← hF]
      refine ⟨u, fun k => g (2 + (4 * i + k) / m) (2 + (4 * i + k) % m), rfl, upd_same, ?_⟩
      rw [hsy]
      have s7 := same_upd (o := .lst (tabV (fun j => V.int (g (2 + (4 * i + j) / m) (2 + (4 * i + j) % m))) 4)) hu
      refine ⟨_, s7 _ _ r2, szl (by rw [tabV_len]; omega), same_mut (L2.Same.trans r1 s7) hD2, ?_⟩
      rw [upd_same, tabV_succ]
    · obtain ⟨r1, r2⟩ := R3
      have s8 := L2.Same.trans s6 r1
      refine ⟨_, rfl, _, rfl, by omega, by omega, fun D3 hD3 => ?_⟩
      rw [Int.toNat_natCast]
      refine lc_range (lo := 0) (n := nW n) (fun i H4 => Same H3 H4 ∧ ∃ ls, Lists H4 D3 ls i (listAt n g) ∧ ∀ j, j < i → ls j ≠ D3) ⟨same_upd hD3, fun _ => 0, ⟨upd_same, fun i hi => absurd hi (Nat.not_lt_zero _)⟩, fun i hi => absurd hi (Nat.not_lt_zero _)⟩ (fun i H4 hi R => ?_) fun H4 R4 => ?_
      · obtain ⟨t1, ls, t2, t3⟩ := R
        rw [Int.zero_add]
        refine ⟨rfl, _, rfl, _, rfl, (i : Int), rfl, _, rfl, _, rfl, D2, _, (nW n : Int), rfl, rfl, by omega, SqL.of (t1 _ _ r2), ?_, fun u hu => ?_⟩
        · rw [stp_tab (by omega) (by omega) hi, tabV_len]
          decide
        · rw [stp_tab (by omega) (by omega) hi]
          have s9 := same_upd (o := .lst (tabV (fun j => symV (cellAt n g (j * nW n + i))) 16)) hu
          obtain ⟨p1, p2, p3⟩ := t2.push t3 s9 hu upd_same
          exact ⟨_, p1, szl (by rw [refV_len]; omega), same_mut (L2.Same.trans t1 s9) hD3, _, p2, p3⟩
      · obtain ⟨t1, ls, t2, t3⟩ := R4
        exact q _ _ ls (L2.Same.trans s8 t1) (s8.free hD3) t2
end
end K44
set_option maxHeartbeats 4000000
namespace K44
open PySem PySem.Spec PyProof.Rows L2
section
variable {P : Program} {w : World} {K : PySem.W.Frag} {mg : Str → Option Value} {base : Heap}
/-- the words of the symbols all, k each -/
def wordL (all : List G) (k wd : Nat) : List G := (all.drop (wd * k)).take k
theorem gsV_app {a b : List G} : gsV (a ++ b) = gsV a ++ gsV b := by unfold gsV; rw [List.map_append]
theorem gsV_rep {n : Nat} : gsV (List.replicate n 0) = List.replicate n (.int 0) := by unfold gsV; rw [List.map_replicate]; rfl
theorem take_word {all : List G} {k wd n : Nat} (h : all.length = n * k) (hw : wd < n) : gsV (all.take (wd * k)) ++ rowV (gr (cwf (gat (wordL all k wd)) k)) k = gsV (all.take ((wd + 1) * k)) := by
  have le : (wd + 1) * k ≤ n * k := Nat.mul_le_mul_right k hw
  rw [Nat.add_mul, Nat.one_mul] at le ⊢
  have e : rowV (gr (cwf (gat (wordL all k wd)) k)) k = gsV (wordL all k wd) := by
    rw [gsV_row]
    have l : (wordL all k wd).length = k := by unfold wordL; rw [List.length_take, List.length_drop]; omega
    rw [l, rowV_ext fun j hj => ?_]
    unfold gr cwf
    rw [if_pos hj]
  rw [e, ← gsV_app, List.take_add]
  rfl
def sp_lists (K : PySem.W.Frag) : Sp := fun vs H Q _ => ∃ (fa a : Addr) (s : Int) (k n : Nat) (ls : Nat → Addr) (hid : Nat → Nat → Bool) (all body : List G) (L : Lab), vs = [.ref fa, .ref a] ∧ FormAt K H fa s (16 - k) ∧
  Lists H a ls n (fun wd => recV (hid wd) (cwf (gat (wordL all k wd)) k) 16) ∧ 1 ≤ k ∧ k ≤ 16 ∧ 1 ≤ n ∧ n ≤ 5 ∧ all.length = n * k ∧ L.Ok ∧ 8 ≤ k ∧ all = L.syms ++ List.replicate (k - 8) 0 ++ body ∧
  ((∃ wd, wd < n ∧ (vis (hid wd) 16).length < k) → ∀ H', Same H H' → Q .non H') ∧
  ((∀ wd, wd < n → k ≤ (vis (hid wd) 16).length) → ∀ H' p lt bl, Same H H' → H' p = some (.tup [.ref lt, .ref bl]) → H' lt = some (.tup L.vs) → H' bl = some (.lst (gsV body)) → Q (.ref p) H')
theorem ok_read_lists (T : Tx K mg) : Keeps P w K mg base 5 "read_lists" p_read_lists (sp_lists K) := by
  refine T.d_read_lists.keeps sc_read_lists (fun _ _ _ _ _ _ us hl => match us, hl with | [_, _], _ => rfl) (fun vs H Q E h => by obtain ⟨a, b, n, f, _, _, _, _, _, _, rfl, _⟩ := h; rfl) (fun f cdv A outer s H vs Q E hr h => ?_)
  obtain ⟨fa, a, s, k, n, ls, hid, all, body, L, rfl, hf, LL, hk1, hk16, hn1, hn5, hal, hL, hk8, eall, q1, q2⟩ := h
  refine ⟨_, (pss_cons (ps_set (i := 2) sc_read_lists.nd rfl (Or.inl rfl) (pe_lst pa_nil))
      (pss_cons (ps_for PassesOwn.never rfl (piL K (pv 1)) (pg_name (i := 3) sc_read_lists.nd rfl (Or.inl rfl))
      (pss_cons (ps_set (i := 4) sc_read_lists.nd rfl (Or.inl rfl) (pcall (ok_corrected T) (hr.mono (by decide)) (pa_cons (pv 3) (pa_cons (pprop (pr_data_symbols T) T.k_Format.cl (hr.mono (by decide)) (pv 0)) pa_nil))))
      (pss_cons (ps_if (pt_cmpR op_isN (pv 4) pe_non (nomark _)) (pss_one (ps_ret pe_non)) pss_nil)
      (pss_one (ps_aug (i := 2) sc_read_lists.nd rfl (Or.inl rfl) (pe_slice (slL K) (pv 4) po_none (po_some (pprop (pr_data_symbols T) T.k_Format.cl (hr.mono (by decide)) (pv 0)))) iop_ext)))))
      (pss_cons (ps_set (i := 5) sc_read_lists.nd rfl (Or.inl rfl) (pcall (ok_label_of T) (hr.mono (by decide)) (pa_cons (pe_slice (slL K) (pv 2) po_none (po_some (pprop (pr_data_symbols T) T.k_Format.cl (hr.mono (by decide)) (pv 0)))) pa_nil)))
      (pss_cons (ps_if (pt_cmpR op_isN (pv 5) pe_non (nomark _)) (pss_one (ps_ret pe_non)) pss_nil)
      (pss_one (ps_ret (pe_tup (pa_cons (pv 5) (pa_cons (pe_slice (slL K) (pv 2) (po_some (pprop (pr_data_symbols T) T.k_Format.cl (hr.mono (by decide)) (pv 0))) po_none) pa_nil))))))))), ?_⟩
  have hf0 := hf
  obtain ⟨_, dx, hx⟩ := hf0
  have nk : n * k ≤ 5 * 16 := Nat.mul_le_mul hn5 hk16
  refine ⟨Nat.zero_le _, fun D hD => ?_⟩
  have s1 := same_upd (o := .lst []) hD
  refine ⟨_, rfl, a, rfl, ⟨_, SqL.of (s1 _ _ LL.top)⟩, ?_⟩
  have e16 : (16 : Int) - (16 - (k : Int)) = (k : Int) := by omega
  refine for_list (K := K) (a := a) (xs := refV ls n) (fun i σ H1 => ∃ v v2, σ = [some (.ref fa), some (.ref a), some (.ref D), v, v2, none] ∧ Same H H1 ∧ H1 D = some (.lst (gsV (all.take (i * k)))) ∧ ∀ j, j < i → k ≤ (vis (hid j) 16).length) ⟨none, none, rfl, s1, by rw [Nat.zero_mul]; exact upd_same, fun j hj => absurd hj (Nat.not_lt_zero _)⟩
    (fun i σ H1 _ z => by obtain ⟨_, _, _, z, _⟩ := z; exact SqL.of (z _ _ LL.top)) ?_ ?_
  · rintro i x σ H1 hi ⟨v, v2, rfl, s2, e1, hv⟩
    have hi2 : i < n := by have := (List.getElem?_eq_some_iff.mp hi).1; rwa [refV_len] at this
    rw [refV_get hi2] at hi
    obtain rfl := Option.some.inj hi
    have hrow := s2 _ _ (LL.at_ i hi2)
    refine ⟨_, rfl, _, rfl, fa, dx, _, rfl, s2 _ _ hx, fa, s, (16 - (k : Int)), rfl, hf.same s2, ?_⟩
    dsimp only
    rw [e16]
    refine ⟨ls i, hid i, gat (wordL all k i), k, rfl, hrow, hk1, hk16, fun h H2 s3 => ?_, fun h H2 p s3 hp e2 => ?_⟩
    · exact ⟨_, rfl, rfl, _, rfl, iteT (q1 ⟨i, hi2, h⟩ _ (L2.Same.trans s2 s3))⟩
    · have s4 := L2.Same.trans s2 s3
      refine ⟨_, rfl, rfl, _, rfl, iteF ?_⟩
      refine ⟨_, rfl, _, rfl, _, rfl, fa, dx, _, rfl, s4 _ _ hx, fa, s, (16 - (k : Int)), rfl, hf.same s4, (k : Int), by dsimp only; rw [e16], p, _, rfl, SqL.of e2, fun u hu => ?_⟩
      rw [cut_to, rowV_take hk16]
      have s5 := same_upd (o := .lst (rowV (gr (cwf (gat (wordL all k i)) k)) k)) hu
      have le : (i + 1) * k ≤ n * k := Nat.mul_le_mul_right k hi2
      rw [Nat.add_mul, Nat.one_mul] at le
      refine ⟨D, u, _, _, rfl, rfl, s5 _ _ (s3 _ _ e1), upd_same, sz (by rw [gsV_len, rowV_len, List.length_take]; omega), ?_⟩
      rw [take_word hal hi2]
      refine ⟨_, _, rfl, same_mut (L2.Same.trans s4 s5) hD, upd_same, fun j hj => ?_⟩
      by_cases z : j = i
      · rw [z]; exact h
      · exact hv j (by omega)
  · rintro σ H1 ⟨v, v2, rfl, s2, e1, hv⟩
    rw [refV_len] at e1 hv
    rw [← hal, List.take_length] at e1
    have eV : gsV all = L.symV ++ List.replicate (k - 8) (V.int 0) ++ gsV body := by rw [eall, gsV_app, gsV_app, gsV_rep, Lab.syms_eq hL]
    have lV : (L.symV ++ List.replicate (k - 8) (V.int 0)).length = k := by rw [List.length_append, List.length_replicate]; show 8 + _ = _; omega
    refine ⟨_, rfl, _, rfl, fa, dx, _, rfl, s2 _ _ hx, fa, s, (16 - (k : Int)), rfl, hf.same s2, (k : Int), by dsimp only; rw [e16], D, _, rfl, SqL.of e1, fun u hu => ?_⟩
    rw [cut_to, eV, List.take_append_of_le_length (by omega), List.take_of_length_le (by omega)]
    have s3 := same_upd (o := .lst (L.symV ++ List.replicate (k - 8) (.int 0))) hu
    refine ⟨u, L, k - 8, rfl, upd_same, hL, by omega, fun H2 lt s4 hlt elt => ?_⟩
    have s5 := L2.Same.trans s2 (L2.Same.trans s3 s4)
    refine ⟨_, rfl, rfl, _, rfl, iteF ?_⟩
    refine ⟨_, rfl, _, rfl, _, rfl, fa, dx, _, rfl, s5 _ _ hx, fa, s, (16 - (k : Int)), rfl, hf.same s5, (k : Int), by dsimp only; rw [e16], D, _, rfl, SqL.of (s4 _ _ (s3 _ _ e1)), fun z hz => ?_⟩
    rw [cut_from, eV, List.drop_append_of_le_length (by omega), List.drop_of_length_le (by omega), List.nil_append]
    have s6 := same_upd (o := .lst (gsV body)) hz
    refine ⟨by show 2 ≤ sizeLine; decide, fun p hp => ?_⟩
    have s7 := same_upd (o := .tup [.ref lt, .ref z]) hp
    exact q2 hv _ p lt z (L2.Same.trans s5 (L2.Same.trans s6 s7)) upd_same (s7 _ _ (s6 _ _ elt)) (s7 _ _ upd_same)
end
end K44
set_option maxHeartbeats 4000000
namespace K44
open PySem PySem.Spec PyProof.Rows L2
section
variable {P : Program} {w : World} {K : PySem.W.Frag} {mg : Str → Option Value} {base : Heap}
def sp_rpage (K : PySem.W.Frag) : Sp := fun vs H Q _ => ∃ (fa a : Addr) (s k : Nat) (rs : Nat → Addr) (f : Nat → Nat → Int) (hid : Nat → Nat → Bool) (all body : List G) (L : Lab), vs = [.ref fa, .ref a] ∧ FormAt K H fa s (16 - k) ∧ 16 ≤ s ∧ s ≤ 22 ∧
  Grid H a rs s s f ∧ (∀ i j, i < s → j < s → 0 ≤ f i j ∧ f i j ≤ 2) ∧
  (∀ wd j, wd < nW s → j < 16 → symV (cellAt s f (j * nW s + wd)) = if hid wd j then .non else gV (cwf (gat (wordL all k wd)) k j)) ∧ k ≤ 16 ∧ all.length = nW s * k ∧ L.Ok ∧ 8 ≤ k ∧ all = L.syms ++ List.replicate (k - 8) 0 ++ body ∧
  ((∃ wd, wd < nW s ∧ (vis (hid wd) 16).length < k) → ∀ H', Same H H' → Q .non H') ∧
  ((∀ wd, wd < nW s → k ≤ (vis (hid wd) 16).length) → ∀ H' p lt bl, Same H H' → H' p = some (.tup [.ref lt, .ref bl]) → H' lt = some (.tup L.vs) → H' bl = some (.lst (gsV body)) → Q (.ref p) H')
theorem ok_read_page (T : Tx K mg) : Keeps P w K mg base 6 "read_page" p_read_page (sp_rpage K) := by
  refine T.d_read_page.keeps sc_read_page (fun _ _ _ _ _ _ us hl => match us, hl with | [_, _], _ => rfl) (fun vs H Q E h => by obtain ⟨a, b, n, f, _, _, _, _, _, _, rfl, _⟩ := h; rfl) (fun f cdv A outer s H vs Q E hr h => ?_)
  obtain ⟨fa, a, n, k, rs, g, hid, all, body, L, rfl, hf, h16, h22, G, hb, hrec, hk16, hal, hL, hk8, eall, q1, q2⟩ := h
  refine ⟨_, (pss_one (ps_ret (pcall (ok_read_lists T) (hr.mono (by decide)) (pa_cons (pv 0) (pa_cons (pcall (ok_taken T) (hr.mono (by decide)) (pa_cons (pv 0) (pa_cons (pv 1) pa_nil))) pa_nil))))), ?_⟩
  obtain ⟨n1, n2, n3, n4⟩ := nW_ok ⟨n, by omega⟩ h16
  dsimp only at n1 n2 n3 n4
  refine ⟨_, rfl, _, rfl, _, rfl, fa, a, n, (16 - (k : Int)), rs, g, rfl, hf, h16, h22, G, hb, fun H1 p ls s1 hp LL => ?_⟩
  refine ⟨fa, p, n, k, nW n, ls, hid, all, body, L, rfl, hf.same s1, ⟨LL.top, fun i hi => ?_⟩, by omega, hk16, by omega, n2, hal, hL, hk8, eall, fun h H2 s2 => q1 h _ (L2.Same.trans s1 s2), fun h H2 t lt bl s2 e1 e2 e3 => q2 h _ t lt bl (L2.Same.trans s1 s2) e1 e2 e3⟩
  rw [LL.at_ i hi]
  have : listAt n g i = recV (hid i) (cwf (gat (wordL all k i)) k) 16 := tabV_ext fun j hj => hrec i j hi hj
  rw [this]
end
end K44
set_option maxHeartbeats 4000000
namespace K44
open PySem PySem.Spec PyProof.Rows L2
section
variable {P : Program} {w : World} {K : PySem.W.Frag} {mg : Str → Option Value} {base : Heap}
/-! ### turns -/
def quarts (n : Nat) (f : Nat → Nat → Int) : Nat → Nat → Nat → Int
  | 0 => f
  | i + 1 => fun x y => quarts n f i (n - 1 - y) x
def flipF (n : Nat) (f : Nat → Nat → Int) : Nat → Nat → Int := fun i j => f i (n - 1 - j)
def trn (n t : Nat) (f : Nat → Nat → Int) : Nat → Nat → Int := quarts n (if 4 ≤ t then flipF n f else f) (t % 4)
theorem stp_rev (n : Nat) : stpIx none none (-1) n = (List.range n).map fun j => n - 1 - j := by
  unfold stpIx sliceBounds
  simp only [Option.getD_some, show ¬ ((-1 : Int) > 0) by decide, if_false]
  unfold sliceRange
  simp only [show ¬ ((-1 : Int) > 0) by decide, if_false]
  by_cases h : (n : Int) - 1 > -1
  · rw [if_pos h, show ((n : Int) - 1 - -1 - -1 - 1) / - -1 = (n : Int) by rw [show (- -1 : Int) = 1 from rfl, Int.ediv_one]; omega, Int.toNat_natCast]
    apply List.map_congr_left
    intro j hj
    have := List.mem_range.mp hj
    omega
  · obtain rfl : n = 0 := by omega
    rfl
theorem rev_tab {f : Nat → V} {n : Nat} : stpV (tabV f n) none none (-1) = tabV (fun j => f (n - 1 - j)) n := by
  unfold stpV
  rw [tabV_len, stp_rev, List.filterMap_map]
  refine fm_map fun j hj => ?_
  have := List.mem_range.mp hj
  exact tabV_get (f := f) (show n - 1 - j < n by omega)
theorem Rows.to {H0 H : Hp} {D : Addr} {rs : Nat → Addr} {n m : Nat} {f : Nat → Nat → Int} (R : Rows H0 H D rs n m f) : Same H0 H ∧ H0 D = none ∧ Grid H D rs n m f := ⟨R.same, R.newD, R.grid⟩
def sp_turned : Sp := fun vs H Q _ => ∃ (a : Addr) (t n : Nat) (rs : Nat → Addr) (f : Nat → Nat → Int), vs = [.ref a, .int t] ∧ t < 8 ∧ 1 ≤ n ∧ n ≤ 100 ∧ Grid H a rs n n f ∧ ∀ H' p rs', Same H H' → H p = none → Grid H' p rs' n n (trn n t f) → Q (.ref p) H'
theorem ok_turned (T : Tx K mg) : Keeps P w K mg base 2 "turned" p_turned sp_turned := by
  refine T.d_turned.keeps sc_turned (fun _ _ _ _ _ _ us hl => match us, hl with | [_, _], _ => rfl) (fun vs H Q E h => by obtain ⟨a, b, n, f, _, rfl, _⟩ := h; rfl) (fun f cdv A outer s H vs Q E hr h => ?_)
  obtain ⟨a, t, n, rs, g, rfl, ht8, hn1, hn, G, q⟩ := h
  refine ⟨_, (pss_cons (ps_set (i := 2) sc_turned.nd rfl (Or.inr rfl) (pe_callB (lenK K) (by rfl) T.b_len PySem.boot_len (pa_cons (pv 0) pa_nil)))
      (pss_cons (ps_if (pt_not (pt_val (pe_callB (cr_all rfl) (by rfl) T.b_all (by decide +kernel) (pa_cons (pe_lc (own := [("row", 3)]) rfl sc_turned.nd (piL K (pv 0)) (blkOk_by (by kernel_rfl)) (fun _ _ _ _ _ => (pg_name (i := 3) sc_turned.nd rfl (Or.inl rfl))) (fun _ _ _ _ _ => pts_nil) (fun _ _ _ _ _ => (pe_cmpR op_eq (pe_callB (lenK K) (by rfl) T.b_len PySem.boot_len (pa_cons (pv 3) pa_nil)) (pv 2) (nomark _)))) pa_nil)))) (pss_one ps_never) pss_nil)
      (pss_cons (ps_expr (pcall (ok_check_turn T) (hr.mono (by decide)) (pa_cons (pv 1) pa_nil)))
      (pss_cons (ps_setLc (i := 4) (own := [("row", 3)]) rfl sc_turned.nd rfl rfl (sw_true rfl rfl rfl (by decide +kernel)) (piL K (pv 0)) (blkOk_by (by kernel_rfl)) (fun _ _ _ _ _ => (pg_name (i := 3) sc_turned.nd rfl (Or.inl rfl))) (fun _ _ _ _ _ => pts_nil) (fun _ _ _ _ _ => (pe_ifExp (pt_cmpR op_ge (pv 1) (cst T.c_QUARTERS) (nomark _)) (stpK K (pv 3) po_none po_none (po_some (pe_un un_neg pe_int))) (pe_callTy (listK K) (by rfl) T.b_list (by decide +kernel) (pa_cons (pv 3) pa_nil)))))
      (pss_cons (ps_for PassesOwn.never rfl (pi_range1 (by rfl) T.b_range (pa_cons (pe_op op_mod (pv 1) (cst T.c_QUARTERS)) pa_nil)) (pg_name (i := 5) sc_turned.nd rfl (Or.inl rfl))
      (pss_cons (ps_set (i := 6) sc_turned.nd rfl (Or.inl rfl) (stpK K (pv 4) po_none po_none (po_some (pe_un un_neg pe_int))))
      (pss_one (ps_setLc (i := 4) (own := [("column", 7)]) rfl sc_turned.nd rfl rfl (sw_true rfl rfl rfl (by decide +kernel)) (piS K (by rfl) T.b_zip (pv 6)) (blkOk_by (by kernel_rfl)) (fun _ _ _ _ _ => (pg_name (i := 7) sc_turned.nd rfl (Or.inl rfl))) (fun _ _ _ _ _ => pts_nil) (fun _ _ _ _ _ => (pe_callTy (listK K) (by rfl) T.b_list (by decide +kernel) (pa_cons (pv 7) pa_nil)))))))
      (pss_one (ps_ret (pv 4)))))))), ?_⟩
  refine ⟨_, rfl, a, _, rfl, .inl (SqL.of G.top), ?_⟩
  rw [refV_len]
  refine ⟨_, rfl, a, rfl, ⟨_, SqL.of G.top⟩, fun D hD => ?_⟩
  refine lc_list (K := K) (a := a) (xs := refV rs n) (fun i H1 => Same H H1 ∧ H1 D = some (.lst (List.replicate i (.bl true)))) ⟨same_upd hD, upd_same⟩ (fun i H1 _ z => SqL.of (z.1 _ _ G.top)) (fun i x H1 hi z => ?_) fun H1 z => ?_
  · obtain ⟨z1, z2⟩ := z
    have hk : i < n := by have := (List.getElem?_eq_some_iff.mp hi).1; rwa [refV_len] at this
    rw [refV_get hk] at hi
    obtain rfl := Option.some.inj hi
    refine ⟨rfl, _, rfl, rs i, _, rfl, .inl (SqL.of (z1 _ _ (G.row i hk))), _, rfl, rfl, ?_⟩
    rw [rowV_len]
    refine ⟨_, z2, szl (by rw [List.length_replicate]; omega), same_mut z1 hD, ?_⟩
    rw [upd_same, show decide (V.int (n : Int) = V.int (n : Int)) = true from decide_eq_true rfl, List.replicate_succ']
  obtain ⟨s1, e1⟩ := z
  rw [refV_len] at e1
  refine ⟨D, List.replicate n true, rfl, SqL.of (by rw [e1, List.map_replicate]), _, rfl, ?_⟩
  rw [show (List.replicate n true).all id = true by simp]
  refine iteF ?_
  refine ⟨_, rfl, (t : Int), rfl, by omega, by omega, ?_⟩
  -- the rows, turned over or not
  obtain ⟨g0, hg0⟩ : ∃ g0, g0 = if 4 ≤ t then flipF n g else g := ⟨_, rfl⟩
  refine ⟨_, rfl, a, rfl, ⟨_, SqL.of (s1 _ _ G.top)⟩, fun D2 hD2 => ?_⟩
  refine lc_list (K := K) (a := a) (xs := refV rs n) (fun i H2 => ∃ r2, Rows H1 H2 D2 r2 i n g0) ⟨fun _ => 0, Rows.start hD2 (Same.refl _)⟩ (fun i H2 _ z => by obtain ⟨r2, z⟩ := z; exact SqL.of (z.same _ _ (s1 _ _ G.top))) (fun i x H2 hi z => ?_) fun H2 z => ?_
  · obtain ⟨r2, R⟩ := z
    have hk : i < n := by have := (List.getElem?_eq_some_iff.mp hi).1; rwa [refV_len] at this
    rw [refV_get hk] at hi
    obtain rfl := Option.some.inj hi
    have hrow := R.same _ _ (s1 _ _ (G.row i hk))
    refine ⟨rfl, _, rfl, _, _, rfl, rfl, _, rfl, ite2 (fun e => ?_) (fun e => ?_)⟩
    · have h4 : 4 ≤ t := by have := of_decide_eq_true e; omega
      refine ⟨_, rfl, 1, rfl, -1, rfl, rs i, rowV (g i) n, -1, rfl, rfl, by decide, SqL.of hrow, ?_, fun u hu => ?_⟩
      · rw [rowV_tab, rev_tab]
        exact sz (by rw [tabV_len]; omega)
      · rw [rowV_tab, rev_tab]
        have s2 := same_upd (o := .lst (tabV (fun j => V.int (g i (n - 1 - j))) n)) hu
        obtain ⟨p1, p2⟩ := R.push s2 hu (by rw [upd_same, hg0, if_pos h4]; rfl)
        exact ⟨_, p1, szl (by rw [refV_len]; omega), _, p2⟩
    · have h4 : ¬ 4 ≤ t := fun z => e (decide_eq_true (by omega))
      refine ⟨_, rfl, rs i, _, rfl, .inl (SqL.of hrow), fun u hu => ?_⟩
      have s2 := same_upd (o := .lst (rowV (g i) n)) hu
      obtain ⟨p1, p2⟩ := R.push s2 hu (by rw [upd_same, hg0, if_neg h4])
      exact ⟨_, p1, szl (by rw [refV_len]; omega), _, p2⟩
  obtain ⟨r2, R2⟩ := z
  rw [refV_len] at R2
  obtain ⟨s2, nD2, G2⟩ := R2.to
  refine ⟨_, rfl, _, _, rfl, rfl, by show (0 : Int) < 4; decide, _, rfl, by omega, by omega, ?_⟩
  rw [show ((t : Int) % 4).toNat = t % 4 by omega]
  refine for_range (lo := 0) (n := t % 4) (fun i σ H3 => ∃ R r3 v5 v6, σ = [some (.ref a), some (.int t), some (.int n), none, some (.ref R), v5, v6, none] ∧ Same H H3 ∧ H R = none ∧ Grid H3 R r3 n n (quarts n g0 i)) ⟨D2, r2, none, none, rfl, L2.Same.trans s1 s2, s1.free nD2, G2⟩ ?_ ?_
  · rintro i σ H3 hi ⟨R, r3, v5, v6, rfl, s3, nR, G3⟩
    refine ⟨_, rfl, 1, rfl, -1, rfl, R, refV r3 n, -1, rfl, rfl, by decide, SqL.of G3.top, ?_, fun u hu => ?_⟩
    · rw [refV_tab, rev_tab]
      exact sz (by rw [tabV_len]; omega)
    rw [refV_tab, rev_tab]
    have s4 := same_upd (o := .lst (tabV (fun j => V.ref (r3 (n - 1 - j))) n)) hu
    have G4 := G3.same s4
    have ell : tabV (fun j => V.ref (r3 (n - 1 - j))) n = ((List.range n).map fun j => r3 (n - 1 - j)).map V.ref := by unfold tabV; rw [List.map_map]; rfl
    have gl : ∀ k, k < n → ((List.range n).map fun j => r3 (n - 1 - j))[k]? = some (r3 (n - 1 - k)) := fun k hk => by simp [hk]
    refine ⟨_, rfl, u, (List.range n).map fun j => r3 (n - 1 - j), rfl, SqL.of (by rw [upd_same, ell]), ?_, by simp; omega, ?_, fun D3 hD3 => ?_⟩
    · intro z
      have := congrArg List.length z
      simp at this
      omega
    · intro l hl
      obtain ⟨j, hj, rfl⟩ := List.mem_map.mp hl
      have := List.mem_range.mp hj
      exact ⟨_, SqL.of (G4.row (n - 1 - j) (by omega))⟩
    refine lc_by (J := Zs.Itzs K ((List.range n).map fun j => r3 (n - 1 - j))) (n := n) (fun x H5 => ∃ r5, Rows (upd H3 u (.lst (tabV (fun j => V.ref (r3 (n - 1 - j))) n))) H5 D3 r5 x n (quarts n g0 (i + 1))) ⟨fun _ => 0, Rows.start hD3 (Same.refl _)⟩
      (fun x H5 hx z => ?_) (fun H5 z => ?_) (fun x v H5 H5' hx z y => ?_) fun H5 z => ?_
    · obtain ⟨r5, R5⟩ := z
      have G5 := G4.same R5.same
      refine ⟨(List.range n).map fun j => V.int (quarts n g0 i (n - 1 - j) x), by simp, fun k l y hk hy => ?_⟩
      have hkn : k < n := by have := (List.getElem?_eq_some_iff.mp hk).1; simpa using this
      rw [gl k hkn] at hk
      obtain rfl := Option.some.inj hk
      refine ⟨_, SqL.of (G5.row (n - 1 - k) (by omega)), ?_⟩
      rw [rowV_get hx, ← hy]
      simp [hkn]
    · obtain ⟨r5, R5⟩ := z
      have G5 := G4.same R5.same
      exact ⟨_, _, gl 0 (by omega), SqL.of (G5.row (n - 1 - 0) (by omega)), by rw [rowV_len]; exact Nat.le_refl _⟩
    · obtain ⟨r5, R5⟩ := z
      have G5 := G4.same R5.same
      obtain ⟨tp, vs, rfl, htp, rfl, hl, hv⟩ := y
      have s6 := same_upd (o := .tup vs) htp
      have evs : vs = rowV (fun j => quarts n g0 (i + 1) x j) n := by
        apply List.ext_getElem?
        intro k
        have hl2 : vs.length = n := by rw [hl]; simp
        by_cases hkn : k < n
        · have hk2 : k < vs.length := by omega
          rw [rowV_get hkn]
          rw [List.getElem?_eq_getElem hk2]
          have := hv k _ _ (gl k hkn) (List.getElem?_eq_getElem hk2) _ (SqL.of (G5.row (n - 1 - k) (by omega)))
          rw [rowV_get hx] at this
          rw [← this]
          rfl
        · rw [List.getElem?_eq_none (by omega), List.getElem?_eq_none (by rw [rowV_len]; omega)]
      refine ⟨rfl, _, rfl, tp, vs, rfl, .inr (SqT.of upd_same), fun z hz => ?_⟩
      have s7 := same_upd (o := .lst vs) hz
      obtain ⟨p1, p2⟩ := R5.push (L2.Same.trans s6 s7) (s6.free hz) (by rw [upd_same, evs])
      exact ⟨_, p1, szl (by rw [refV_len]; omega), _, p2⟩
    · obtain ⟨r5, R5⟩ := z
      obtain ⟨s5, nD3, G5⟩ := R5.to
      exact ⟨D3, r5, _, _, rfl, L2.Same.trans (L2.Same.trans s3 s4) s5, (L2.Same.trans s3 s4).free nD3, G5⟩
  · rintro σ H3 ⟨R, r3, v5, v6, rfl, s3, nR, G3⟩
    refine ⟨_, rfl, q H3 R r3 s3 nR ?_⟩
    unfold trn
    rw [← hg0]
    exact G3
end
end K44
set_option maxHeartbeats 4000000
namespace K44
open PySem PySem.Spec PyProof.Rows L2
section
variable {P : Program} {w : World} {K : PySem.W.Frag} {mg : Str → Option Value} {base : Heap}
/-! ### the marks of a turned page -/
def markP (n : Nat) : Nat → Nat → Int := fun i j => markV n i j
def markC0 (n : Nat) : List V := (ringP n 1).map fun p => .int (markV n p.1 p.2)
def markC (n t : Nat) : List V := if 4 ≤ t then stpV (markC0 n) (some ((n : Int) - 3)) none (-1) ++ stpV (markC0 n) none (some ((n : Int) - 3)) (-1) else markC0 n
def markW (n t : Nat) : List V := (markC n t).drop (4 * (n - 3) - t % 4 * (n - 3)) ++ (markC n t).take (4 * (n - 3) - t % 4 * (n - 3))
/-- what the ring shows -/
def ringV (n : Nat) (f : Nat → Nat → Int) : List V := (ringP n 1).map fun p => .int (f p.1.toNat p.2.toNat)
theorem markW_eq : ∀ n : Fin 23, 16 ≤ n.val → ∀ t : Fin 8, markW n.val t.val = ringV n.val (trn n.val t.val (markP n.val)) := by decide +kernel
theorem markC_len : ∀ n : Fin 23, 16 ≤ n.val → ∀ t : Fin 8, (markC n.val t.val).length = 4 * (n.val - 3) ∧ (stpV (markC0 n.val) (some ((n.val : Int) - 3)) none (-1)).length ≤ 100 ∧ (stpV (markC0 n.val) none (some ((n.val : Int) - 3)) (-1)).length ≤ 100 := by decide +kernel
theorem ringP_len {s k : Int} : (ringP s k).length = 4 * (s - 1 - k - k).toNat := by
  unfold ringP
  rw [List.length_append, List.length_append, List.length_append, sideP_len, sideP_len, sideP_len, sideP_len]
  omega
def sp_marks : Sp := fun vs H Q _ => ∃ n t : Nat, vs = [.int n, .int t] ∧ 16 ≤ n ∧ n ≤ 22 ∧ t < 8 ∧ ∀ H' p, Same H H' → H p = none → H' p = some (.lst (ringV n (trn n t (markP n)))) → Q (.ref p) H'
theorem ok_turned_marks (T : Tx K mg) : Keeps P w K mg base 2 "turned_marks" p_turned_marks sp_marks := by
  refine T.d_turned_marks.keeps sc_turned_marks (fun _ _ _ _ _ _ us hl => match us, hl with | [_, _], _ => rfl) (fun vs H Q E h => by obtain ⟨a, b, rfl, _⟩ := h; rfl) (fun f cdv A outer s H vs Q E hr h => ?_)
  obtain ⟨n, t, rfl, h16, h22, ht8, q⟩ := h
  obtain ⟨l1, l2, l3⟩ := markC_len ⟨n, by omega⟩ h16 ⟨t, ht8⟩
  dsimp only at l1 l2 l3
  have l0 : (markC0 n).length = 4 * (n - 3) := by unfold markC0; rw [List.length_map, ringP_len]; omega
  refine ⟨_, (pss_cons (ps_setLc (i := 2) (own := [("row", 3), ("column", 4)]) rfl sc_turned_marks.nd rfl rfl (sw_true rfl rfl rfl (by decide +kernel)) (piL K (pcall (ok_ring_cells T) (hr.mono (by decide)) (pa_cons (pv 0) (pa_cons pe_int pa_nil)))) (blkOk_by (by kernel_rfl)) (fun _ _ _ _ _ => (pg_two K (i := 3) (j := 4) rfl sc_turned_marks.nd rfl rfl (Or.inl rfl) (Or.inl rfl))) (fun _ _ _ _ _ => pts_nil) (fun _ _ _ _ _ => (pcall (ok_mark_colour T) (hr.mono (by decide)) (pa_cons (pv 0) (pa_cons (pv 3) (pa_cons (pv 4) pa_nil))))))
      (pss_cons (ps_set (i := 5) sc_turned_marks.nd rfl (Or.inl rfl) (pe_op op_fdiv (pe_callB (lenK K) (by rfl) T.b_len PySem.boot_len (pa_cons (pv 2) pa_nil)) (cst T.c_QUARTERS)))
      (pss_cons (ps_if (pt_cmpR op_ge (pv 1) (cst T.c_QUARTERS) (nomark _)) (pss_one (ps_set (i := 2) sc_turned_marks.nd rfl (Or.inl rfl) (pe_op op_cat (stpK K (pv 2) (po_some (pv 5)) po_none (po_some (pe_un un_neg pe_int))) (stpK K (pv 2) po_none (po_some (pv 5)) (po_some (pe_un un_neg pe_int)))))) pss_nil)
      (pss_cons (ps_set (i := 6) sc_turned_marks.nd rfl (Or.inl rfl) (pe_op op_sub (pe_callB (lenK K) (by rfl) T.b_len PySem.boot_len (pa_cons (pv 2) pa_nil)) (pe_op op_mul (pe_op op_mod (pv 1) (cst T.c_QUARTERS)) (pv 5))))
      (pss_one (ps_ret (pe_op op_cat (pe_slice (slL K) (pv 2) (po_some (pv 6)) po_none) (pe_slice (slL K) (pv 2) po_none (po_some (pv 6)))))))))), ?_⟩
  refine ⟨_, rfl, (n : Int), 1, rfl, by decide, by omega, by omega, fun H1 R1 RP => ?_⟩
  obtain ⟨nR, sR, vs, eR, pR⟩ := RP
  have lv : vs.length = 4 * (n - 3) := by rw [prs_len pR, ringP_len]; omega
  refine ⟨R1, rfl, ⟨_, SqL.of eR⟩, fun D hD => ?_⟩
  have nD := sR.free hD
  refine lc_list (K := K) (a := R1) (xs := vs) (fun i H2 => Same H1 H2 ∧ H2 D = some (.lst ((markC0 n).take i))) ⟨same_upd hD, upd_same⟩ (fun i H2 _ z => SqL.of (z.1 _ _ eR)) (fun i x H2 hi z => ?_) fun H2 z => ?_
  · obtain ⟨z1, z2⟩ := z
    obtain ⟨p, hp, tp, rfl, etp⟩ := prs_get pR hi
    refine ⟨tp, _, rfl, SqT.of (z1 _ _ etp), rfl, _, _, rfl, _, _, rfl, rfl, rfl, _, rfl, _, rfl, _, rfl, (n : Int), p.1, p.2, rfl, ?_⟩
    have hi2 : i < (markC0 n).length := by have := (List.getElem?_eq_some_iff.mp hi).1; omega
    refine ⟨_, z2, szl (by rw [List.length_take]; omega), same_mut z1 hD, ?_⟩
    rw [upd_same, List.take_succ]
    have : (markC0 n)[i]? = some (.int (markV n p.1 p.2)) := by unfold markC0; rw [List.getElem?_map, hp]; rfl
    rw [this]
    rfl
  · obtain ⟨z1, z2⟩ := z
    rw [show vs.length = (markC0 n).length by omega, List.take_length] at z2
    have s1 := L2.Same.trans sR z1
    have hq : ((markC0 n).length : Int) / 4 = (n : Int) - 3 := by rw [l0]; omega
    have mle : t % 4 * (n - 3) ≤ 4 * (n - 3) := Nat.mul_le_mul_right _ (by omega)
    refine ⟨_, rfl, D, _, rfl, .inl (SqL.of z2), _, _, rfl, rfl, ⟨by decide, by decide⟩, ?_⟩
    dsimp only
    rw [hq]
    refine ⟨_, rfl, _, _, rfl, rfl, _, rfl, ite2 (fun e => ?_) (fun e => ?_)⟩
    · have h4 : 4 ≤ t := by have := of_decide_eq_true e; omega
      have ec : markC n t = stpV (markC0 n) (some ((n : Int) - 3)) none (-1) ++ stpV (markC0 n) none (some ((n : Int) - 3)) (-1) := by unfold markC; rw [if_pos h4]
      refine ⟨_, rfl, _, rfl, (n : Int) - 3, rfl, 1, rfl, -1, rfl, D, _, -1, rfl, rfl, by decide, SqL.of z2, sz (by omega), fun u1 hu1 => ?_⟩
      have s2 := same_upd (o := .lst (stpV (markC0 n) (some ((n : Int) - 3)) none (-1))) hu1
      refine ⟨_, rfl, _, rfl, (n : Int) - 3, rfl, 1, rfl, -1, rfl, D, _, -1, rfl, rfl, by decide, SqL.of (s2 _ _ z2), sz (by omega), fun u2 hu2 => ?_⟩
      have s3 := same_upd (o := .lst (stpV (markC0 n) none (some ((n : Int) - 3)) (-1))) hu2
      refine ⟨u1, u2, _, _, rfl, rfl, s3 _ _ upd_same, upd_same, sz (by omega), fun u3 hu3 => ?_⟩
      rw [← ec]
      have s4 := L2.Same.trans s1 (L2.Same.trans s2 (L2.Same.trans s3 (same_upd (o := .lst (markC n t)) hu3)))
      refine ⟨_, rfl, u3, _, rfl, .inl (SqL.of upd_same), _, rfl, _, _, rfl, rfl, by show (0 : Int) < 4; decide, _, rfl, _, _, rfl, rfl, .inl ⟨by omega, by omega⟩, _, _, rfl, rfl, ?_⟩
      dsimp only
      rw [l1, show (((4 * (n - 3) : Nat) : Int) - (t : Int) % 4 * ((n : Int) - 3)) = ((4 * (n - 3) - t % 4 * (n - 3) : Nat) : Int) by rw [Int.ofNat_sub mle]; congr 1; rw [Int.natCast_mul]; congr 1; omega]
      refine ⟨_, rfl, _, rfl, _, rfl, u3, _, rfl, SqL.of upd_same, fun u hu => ?_⟩
      rw [cut_from]
      have s5 := same_upd (o := .lst ((markC n t).drop (4 * (n - 3) - t % 4 * (n - 3)))) hu
      refine ⟨_, rfl, _, rfl, _, rfl, u3, _, rfl, SqL.of (s5 _ _ upd_same), fun u2 hu2 => ?_⟩
      rw [cut_to]
      have s6 := same_upd (o := .lst ((markC n t).take (4 * (n - 3) - t % 4 * (n - 3)))) hu2
      refine ⟨u, u2, _, _, rfl, rfl, s6 _ _ upd_same, upd_same, sz (by rw [List.length_drop, List.length_take]; omega), fun p hp => ?_⟩
      have s7 := L2.Same.trans s4 (L2.Same.trans s5 s6)
      refine q _ p (L2.Same.trans s7 (same_upd hp)) (s7.free hp) ?_
      rw [upd_same, ← markW_eq ⟨n, by omega⟩ h16 ⟨t, ht8⟩]
      unfold markW
      rfl
    · have h4 : ¬ 4 ≤ t := fun z => e (decide_eq_true (by omega))
      have ec : markC n t = markC0 n := by unfold markC; rw [if_neg h4]
      rw [← ec] at z2
      refine ⟨_, rfl, D, _, rfl, .inl (SqL.of z2), _, rfl, _, _, rfl, rfl, by show (0 : Int) < 4; decide, _, rfl, _, _, rfl, rfl, .inl ⟨by omega, by omega⟩, _, _, rfl, rfl, ?_⟩
      dsimp only
      rw [l1, show (((4 * (n - 3) : Nat) : Int) - (t : Int) % 4 * ((n : Int) - 3)) = ((4 * (n - 3) - t % 4 * (n - 3) : Nat) : Int) by rw [Int.ofNat_sub mle]; congr 1; rw [Int.natCast_mul]; congr 1; omega]
      refine ⟨_, rfl, _, rfl, _, rfl, D, _, rfl, SqL.of z2, fun u hu => ?_⟩
      rw [cut_from]
      have s5 := same_upd (o := .lst ((markC n t).drop (4 * (n - 3) - t % 4 * (n - 3)))) hu
      refine ⟨_, rfl, _, rfl, _, rfl, D, _, rfl, SqL.of (s5 _ _ z2), fun u2 hu2 => ?_⟩
      rw [cut_to]
      have s6 := same_upd (o := .lst ((markC n t).take (4 * (n - 3) - t % 4 * (n - 3)))) hu2
      refine ⟨u, u2, _, _, rfl, rfl, s6 _ _ upd_same, upd_same, sz (by rw [List.length_drop, List.length_take]; omega), fun p hp => ?_⟩
      have s7 := L2.Same.trans s1 (L2.Same.trans s5 s6)
      refine q _ p (L2.Same.trans s7 (same_upd hp)) (s7.free hp) ?_
      rw [upd_same, ← markW_eq ⟨n, by omega⟩ h16 ⟨t, ht8⟩]
      unfold markW
      rfl
end
end K44
set_option maxHeartbeats 4000000
namespace K44
open PySem PySem.Spec PyProof.Rows L2
section
variable {P : Program} {w : World} {K : PySem.W.Frag} {mg : Str → Option Value} {base : Heap}
/-! ### counting -/
theorem cnt_le {α : Type} {p q : α → Bool} : ∀ {l : List α}, (∀ x ∈ l, p x = true → q x = true) → l.countP p ≤ l.countP q := fun h => List.countP_mono_left h
theorem cnt_lt {α : Type} {p q : α → Bool} : ∀ {l : List α}, (∀ x ∈ l, p x = true → q x = true) → (∃ x ∈ l, q x = true ∧ p x = false) → l.countP p < l.countP q
  | [], _, ⟨x, h, _⟩ => absurd h (by simp)
  | y :: l, h, ⟨x, hx, h1, h2⟩ => by
    have ih1 := cnt_le (l := l) (p := p) (q := q) fun z hz => h z (List.mem_cons_of_mem _ hz)
    rw [List.countP_cons, List.countP_cons]
    rcases List.mem_cons.mp hx with rfl | hx
    · rw [h1, h2]
      simp
      omega
    · have ih2 := cnt_lt (l := l) (p := p) (q := q) (fun z hz => h z (List.mem_cons_of_mem _ hz)) ⟨x, hx, h1, h2⟩
      have := h y (List.mem_cons_self ..)
      cases hp : p y with
      | true => rw [this hp]; simp; omega
      | false =>
        cases hq : q y with
        | true => simp; omega
        | false => simp; omega
abbrev at2 (f : Nat → Nat → Int) (p : Int × Int) : Int := f p.1.toNat p.2.toNat
def hitB (n t : Nat) (f : Nat → Nat → Int) : Int × Int → Bool := fun p => decide (at2 f p = at2 (trn n t (markP n)) p)
def scoreT (n t : Nat) (f : Nat → Nat → Int) : Nat := (ringP n 1).countP (hitB n t f)
theorem mark01 (n i j : Nat) : markP n i j = 0 ∨ markP n i j = 1 := by
  unfold markP markV
  split
  · exact .inr rfl
  · exact .inl rfl
theorem quarts_mem {n : Nat} {f : Nat → Nat → Int} {R : Int → Prop} (h : ∀ i j, R (f i j)) : ∀ k i j, R (quarts n f k i j)
  | 0, i, j => h i j
  | k + 1, i, j => quarts_mem h k _ _
theorem trn_mem {n t : Nat} {f : Nat → Nat → Int} {R : Int → Prop} (h : ∀ i j, R (f i j)) (i j : Nat) : R (trn n t f i j) := by
  unfold trn
  refine quarts_mem (fun i j => ?_) _ _ _
  split
  · exact h _ _
  · exact h _ _
theorem trn01 (n t i j : Nat) : trn n t (markP n) i j = 0 ∨ trn n t (markP n) i j = 1 := trn_mem (R := fun z => z = 0 ∨ z = 1) (mark01 n) i j
section
variable {n t0 : Nat} {f : Nat → Nat → Int} (hc : ∀ p ∈ ringP n 1, at2 f p = 2 ∨ at2 f p = at2 (trn n t0 (markP n)) p)
include hc
theorem hit_imp (t : Nat) : ∀ p ∈ ringP n 1, hitB n t f p = true → hitB n t0 f p = true := fun p hp h => by
  have h := of_decide_eq_true h
  refine decide_eq_true ?_
  rcases hc p hp with e | e
  · have := trn01 n t p.1.toNat p.2.toNat
    have h : at2 f p = trn n t (markP n) p.1.toNat p.2.toNat := h
    omega
  · exact e
theorem score_le (t : Nat) : scoreT n t f ≤ scoreT n t0 f := cnt_le (hit_imp hc t)
theorem score_lt {t : Nat} (h : ∃ p ∈ ringP n 1, at2 f p ≠ 2 ∧ at2 (trn n t (markP n)) p ≠ at2 (trn n t0 (markP n)) p) : scoreT n t f < scoreT n t0 f := by
  obtain ⟨p, hp, h1, h2⟩ := h
  have e := (hc p hp).resolve_left h1
  exact cnt_lt (hit_imp hc t) ⟨p, hp, decide_eq_true e, decide_eq_false fun z => h2 (by rw [← z, e])⟩
theorem score_eq {t : Nat} (h : ∀ p ∈ ringP n 1, at2 f p = 2 ∨ at2 (trn n t (markP n)) p = at2 (trn n t0 (markP n)) p) : scoreT n t f = scoreT n t0 f := by
  refine Nat.le_antisymm (score_le hc t) (cnt_le fun p hp h1 => ?_)
  have h1 : at2 f p = at2 (trn n t0 (markP n)) p := of_decide_eq_true h1
  refine decide_eq_true ?_
  rcases h p hp with e | e
  · have := trn01 n t0 p.1.toNat p.2.toNat
    have h1 : at2 f p = trn n t0 (markP n) p.1.toNat p.2.toNat := h1
    omega
  · rw [e]; exact h1
end
theorem ringV_get {n i : Nat} {f : Nat → Nat → Int} {p : Int × Int} (h : (ringP n 1)[i]? = some p) : (ringV n f)[i]? = some (.int (at2 f p)) := by
  unfold ringV
  rw [List.getElem?_map, h]
  rfl
theorem ringV_len {n : Nat} {f : Nat → Nat → Int} (h : 16 ≤ n) : (ringV n f).length = 4 * (n - 3) := by
  unfold ringV
  rw [List.length_map, ringP_len]
  omega
/-- a ring's cells lie in the square -/
theorem side_mem {n : Nat} {f : Nat → Int × Int} {p : Int × Int} : p ∈ sideP n f ↔ ∃ j, j < n ∧ p = f j := by
  unfold sideP
  simp [List.mem_map, eq_comm]
theorem ringP_in {n : Nat} {k : Int} (h0 : 0 ≤ k) (h : 2 * k + 1 ≤ n) {p : Int × Int} (hp : p ∈ ringP n k) : 0 ≤ p.1 ∧ p.1 < n ∧ 0 ≤ p.2 ∧ p.2 < n := by
  unfold ringP at hp
  simp only [List.mem_append, side_mem] at hp
  rcases hp with ((⟨j, hj, rfl⟩ | ⟨j, hj, rfl⟩) | ⟨j, hj, rfl⟩) | ⟨j, hj, rfl⟩
  all_goals (dsimp only; omega)
end
end K44
set_option maxHeartbeats 4000000
namespace K44
open PySem PySem.Spec PyProof.Rows L2
section
variable {P : Program} {w : World} {K : PySem.W.Frag} {mg : Str → Option Value} {base : Heap}
def sp_fturn : Sp := fun vs H Q _ => ∃ (a : Addr) (n t0 : Nat) (rs : Nat → Addr) (f : Nat → Nat → Int), vs = [.ref a] ∧ 16 ≤ n ∧ n ≤ 22 ∧ t0 < 8 ∧ Grid H a rs n n f ∧ (∀ p ∈ ringP n 1, at2 f p = 2 ∨ at2 f p = at2 (trn n t0 (markP n)) p) ∧
  ((∃ t, t < 8 ∧ t ≠ t0 ∧ ∀ p ∈ ringP n 1, at2 f p = 2 ∨ at2 (trn n t (markP n)) p = at2 (trn n t0 (markP n)) p) → ∀ H', Same H H' → Q .non H') ∧
  ((∀ t, t < 8 → t ≠ t0 → ∃ p ∈ ringP n 1, at2 f p ≠ 2 ∧ at2 (trn n t (markP n)) p ≠ at2 (trn n t0 (markP n)) p) → ∀ H', Same H H' → Q (.int t0) H')
theorem count_two {l : List Int} {i j : Nat} {x : Int} (hij : i ≠ j) (hi : l[i]? = some x) (hj : l[j]? = some x) : 2 ≤ l.count x := by
  rcases Nat.lt_or_gt_of_ne hij with h | h
  · have e : l = l.take j ++ l.drop j := (List.take_append_drop j l).symm
    rw [e, List.count_append]
    have a1 : 1 ≤ (l.take j).count x := List.count_pos_iff.mpr (List.mem_of_getElem? (i := i) (by rw [List.getElem?_take_of_lt h]; exact hi))
    have a2 : 1 ≤ (l.drop j).count x := List.count_pos_iff.mpr (List.mem_of_getElem? (i := 0) (by rw [List.getElem?_drop]; exact hj))
    omega
  · have e : l = l.take i ++ l.drop i := (List.take_append_drop i l).symm
    rw [e, List.count_append]
    have a1 : 1 ≤ (l.take i).count x := List.count_pos_iff.mpr (List.mem_of_getElem? (i := j) (by rw [List.getElem?_take_of_lt h]; exact hj))
    have a2 : 1 ≤ (l.drop i).count x := List.count_pos_iff.mpr (List.mem_of_getElem? (i := 0) (by rw [List.getElem?_drop]; exact hi))
    omega
theorem count_one {l : List Int} {i : Nat} {x : Int} (hi : l[i]? = some x) (h : ∀ j, j ≠ i → l[j]? ≠ some x) : l.count x = 1 := by
  have hlt := (List.getElem?_eq_some_iff.mp hi).1
  have e : l = l.take i ++ (x :: l.drop (i + 1)) := by
    have : l.drop i = x :: l.drop (i + 1) := by rw [List.drop_eq_getElem_cons hlt, (List.getElem?_eq_some_iff.mp hi).2]
    rw [← this, List.take_append_drop]
  rw [e, List.count_append, List.count_cons_self]
  have a1 : (l.take i).count x = 0 := by
    rw [List.count_eq_zero]
    intro hm
    obtain ⟨j, hj⟩ := List.mem_iff_getElem?.mp hm
    have hj2 : j < i := by have := (List.getElem?_eq_some_iff.mp hj).1; rw [List.length_take] at this; omega
    rw [List.getElem?_take_of_lt hj2] at hj
    exact h j (by omega) hj
  have a2 : (l.drop (i + 1)).count x = 0 := by
    rw [List.count_eq_zero]
    intro hm
    obtain ⟨j, hj⟩ := List.mem_iff_getElem?.mp hm
    rw [List.getElem?_drop] at hj
    exact h _ (by omega) hj
  omega
theorem ok_find_turn (T : Tx K mg) : Keeps P w K mg base 3 "find_turn" p_find_turn sp_fturn := by
  refine T.d_find_turn.keeps sc_find_turn (fun _ _ _ _ _ _ us hl => match us, hl with | [_], _ => rfl) (fun vs H Q E h => by obtain ⟨a, b, _, _, _, rfl, _⟩ := h; rfl) (fun f cdv A outer s H vs Q E hr h => ?_)
  obtain ⟨a, n, t0, rs, g, rfl, h16, h22, ht0, G, hc, q1, q2⟩ := h
  refine ⟨_, (pss_cons (ps_set (i := 1) sc_find_turn.nd rfl (Or.inl rfl) (pe_callB (lenK K) (by rfl) T.b_len PySem.boot_len (pa_cons (pv 0) pa_nil)))
      (pss_cons (ps_setLc (i := 2) (own := [("row", 3), ("column", 4)]) rfl sc_find_turn.nd rfl rfl (sw_true rfl rfl rfl (by decide +kernel)) (piL K (pcall (ok_ring_cells T) (hr.mono (by decide)) (pa_cons (pv 1) (pa_cons pe_int pa_nil)))) (blkOk_by (by kernel_rfl)) (fun _ _ _ _ _ => (pg_two K (i := 3) (j := 4) rfl sc_find_turn.nd rfl rfl (Or.inl rfl) (Or.inl rfl))) (fun _ _ _ _ _ => pts_nil) (fun _ _ _ _ _ => (pe_ix (ixL K) (pe_ix (ixL K) (pv 0) (pv 3) (fun _ _ => rfl)) (pv 4) (fun _ _ => rfl))))
      (pss_cons (ps_set (i := 5) sc_find_turn.nd rfl (Or.inl rfl) (pe_lst pa_nil))
      (pss_cons (ps_for PassesOwn.never rfl (pi_range1 (by rfl) T.b_range (pa_cons (cst T.c_TURNS) pa_nil)) (pg_name (i := 6) sc_find_turn.nd rfl (Or.inl rfl))
      (pss_cons (ps_set (i := 7) sc_find_turn.nd rfl (Or.inl rfl) (pcall (ok_turned_marks T) (hr.mono (by decide)) (pa_cons (pv 1) (pa_cons (pv 6) pa_nil))))
      (pss_one (ps_expr (pe_bm PySem.F.plainAttrs_list PySem.F.slot_list_append PySem.F.type_list_append mt_append (pv 5) (pa_cons (pe_callB (lenK K) (by rfl) T.b_len PySem.boot_len (pa_cons (pe_lc (own := [("cell", 8), ("colour", 9)]) rfl sc_find_turn.nd (piZ K (by rfl) T.b_zip (pa_cons (pv 2) (pa_cons (pv 7) pa_nil))) (blkOk_by (by kernel_rfl)) (fun _ _ _ _ _ => (pg_two K (i := 8) (j := 9) rfl sc_find_turn.nd rfl rfl (Or.inl rfl) (Or.inl rfl))) (fun _ _ _ _ _ => (pts_one (pt_cmpR op_eq (pv 8) (pv 9) (nomark _)))) (fun _ _ _ _ _ => pe_int)) pa_nil)) pa_nil))))))
      (pss_cons (ps_set (i := 10) sc_find_turn.nd rfl (Or.inl rfl) (pe_callB (cr_max rfl) (by rfl) T.b_max (by decide +kernel) (pa_cons (pv 5) pa_nil)))
      (pss_one (ps_ret (pe_ifExp (pt_cmpR op_eq (pe_bm PySem.F.plainAttrs_list PySem.F.slot_list_count PySem.F.type_list_count mt_lcount (pv 5) (pa_cons (pv 10) pa_nil)) pe_int (nomark _)) (pe_bm PySem.F.plainAttrs_list PySem.F.slot_list_index PySem.F.type_list_index mt_index (pv 5) (pa_cons (pv 10) pa_nil)) pe_non)))))))), ?_⟩
  refine ⟨_, rfl, a, _, rfl, .inl (SqL.of G.top), ?_⟩
  rw [refV_len]
  refine ⟨_, rfl, (n : Int), 1, rfl, by decide, by omega, by omega, fun H1 R1 RP => ?_⟩
  obtain ⟨nR, sR, vs, eR, pR⟩ := RP
  have lp : (ringP n 1).length = 4 * (n - 3) := by rw [ringP_len]; omega
  have lv : vs.length = 4 * (n - 3) := by rw [prs_len pR, lp]
  have lr : ∀ F : Nat → Nat → Int, (ringV n F).length = 4 * (n - 3) := fun F => ringV_len h16
  refine ⟨R1, rfl, ⟨_, SqL.of eR⟩, fun D hD => ?_⟩
  refine lc_list (K := K) (a := R1) (xs := vs) (fun i H2 => Same H1 H2 ∧ H2 D = some (.lst ((ringV n g).take i))) ⟨same_upd hD, upd_same⟩ (fun i H2 _ z => SqL.of (z.1 _ _ eR)) (fun i x H2 hi z => ?_) fun H2 z => ?_
  · obtain ⟨z1, z2⟩ := z
    obtain ⟨p, hp, tp, rfl, etp⟩ := prs_get pR hi
    obtain ⟨p0, p1, p2, p3⟩ := ringP_in (by decide) (by omega) (List.mem_of_getElem? hp)
    have G2 := (G.same sR).same z1
    have ep : p = ((p.1.toNat : Int), (p.2.toNat : Int)) := by rw [Int.toNat_of_nonneg p0, Int.toNat_of_nonneg p2]
    refine ⟨tp, _, rfl, SqT.of (z1 _ _ etp), rfl, _, _, rfl, _, _, rfl, rfl, rfl, _, rfl, _, rfl, a, _, p.1, .ref (rs p.1.toNat), rfl, rfl, SqL.of G2.top, ?_, _, rfl, rs p.1.toNat, _, p.2, .int (at2 g p), rfl, rfl, SqL.of (G2.row _ (by omega)), ?_, ?_⟩
    · have := atI_nat (refV_get (f := rs) (m := n) (j := p.1.toNat) (by omega))
      rwa [Int.toNat_of_nonneg p0] at this
    · have := atI_nat (rowV_get (f := g p.1.toNat) (m := n) (j := p.2.toNat) (by omega))
      rwa [Int.toNat_of_nonneg p2] at this
    · refine ⟨_, z2, szl (by rw [List.length_take, lr]; omega), same_mut z1 hD, ?_⟩
      rw [upd_same, List.take_succ, ringV_get hp]
      rfl
  obtain ⟨z1, z2⟩ := z
  rw [show vs.length = (ringV n g).length by rw [lr]; exact lv, List.take_length] at z2
  have s2 := L2.Same.trans sR z1
  refine ⟨Nat.zero_le _, fun S hS => ?_⟩
  have s3 := L2.Same.trans s2 (same_upd (o := .lst []) hS)
  have nS := s2.free hS
  have hcells : upd H2 S (.lst []) D = some (.lst (ringV n g)) := same_upd hS _ _ z2
  have hSD : S ≠ D := fun e => by rw [e, z2] at hS; cases hS
  refine ⟨_, rfl, by decide, by decide, ?_⟩
  refine for_range (lo := 0) (n := 8) (fun t σ H3 => ∃ v6 v7, σ = [some (.ref a), some (.int n), some (.ref D), none, none, some (.ref S), v6, v7, none, none, none] ∧ Same H H3 ∧ H3 D = some (.lst (ringV n g)) ∧ H3 S = some (.lst (rowV (fun t => (scoreT n t g : Int)) t))) ⟨none, none, rfl, s3, hcells, upd_same⟩ ?_ ?_
  · rintro t σ H3 ht ⟨v6, v7, rfl, s4, e1, e2⟩
    rw [Int.zero_add]
    refine ⟨_, rfl, _, rfl, n, t, rfl, h16, h22, ht, fun H4 u s5 hu eu => ?_⟩
    have e3 := s5 _ _ e1
    refine ⟨_, rfl, .inl ⟨rfl, _, SqL.of (s5 _ _ e2)⟩, _, rfl, _, rfl, D, u, _, _, rfl, SqL.of e3, SqL.of eu, fun D3 hD3 => ?_⟩
    refine lc_by (J := Itz K D u) (n := 4 * (n - 3)) (fun i H5 => Same H4 H5 ∧ H5 D3 = some (.lst (List.replicate (((ringP n 1).take i).countP (hitB n t g)) (.int 1)))) ⟨same_upd hD3, upd_same⟩
      (fun i H5 hi z => ⟨_, _, _, _, SqL.of (z.1 _ _ e3), SqL.of (z.1 _ _ eu), ringV_get (List.getElem?_eq_getElem (by omega)), ringV_get (List.getElem?_eq_getElem (by omega))⟩) (fun H5 z => ⟨_, _, SqL.of (z.1 _ _ e3), SqL.of (z.1 _ _ eu), .inl (by rw [lr]; exact Nat.le_refl _)⟩) ?_ ?_
    · rintro i v H5 H5' hi ⟨s6, e4⟩ ⟨tp, x, y, rfl, htp, rfl, hx, hy⟩
      have hp : (ringP n 1)[i]? = some ((ringP n 1)[i]'(by omega)) := List.getElem?_eq_getElem (by omega)
      generalize (ringP n 1)[i]'(by omega) = p at hp
      have ex : x = .int (at2 g p) := Option.some.inj ((hx _ (SqL.of (s6 _ _ e3))).symm.trans (ringV_get hp))
      have ey : y = .int (at2 (trn n t (markP n)) p) := Option.some.inj ((hy _ (SqL.of (s6 _ _ eu))).symm.trans (ringV_get hp))
      subst ex ey
      have s7 := same_upd (o := .tup [.int (at2 g p), .int (at2 (trn n t (markP n)) p)]) htp
      refine ⟨tp, _, rfl, SqT.of upd_same, rfl, _, _, rfl, _, _, rfl, rfl, rfl, _, rfl, _, rfl, rfl, _, rfl, ?_⟩
      have ec : ((ringP n 1).take (i + 1)).countP (hitB n t g) = ((ringP n 1).take i).countP (hitB n t g) + (if hitB n t g p = true then 1 else 0) := by
        rw [List.take_succ, hp, List.countP_append]
        show _ + List.countP _ [p] = _
        rw [List.countP_singleton]
      have lec := List.countP_le_length (p := hitB n t g) (l := (ringP n 1).take i)
      rw [List.length_take] at lec
      refine ite2 (fun e => ?_) (fun e => ?_)
      · have hh : hitB n t g p = true := by
          have := of_decide_eq_true e
          injection this with this
          exact decide_eq_true this
        rw [ec, if_pos hh]
        refine ⟨_, s7 _ _ e4, szl (by rw [List.length_replicate]; omega), same_mut (L2.Same.trans s6 s7) hD3, ?_⟩
        rw [upd_same, List.replicate_succ']
      · have hh : ¬ hitB n t g p = true := fun z => e (decide_eq_true (by rw [of_decide_eq_true z]))
        rw [ec, if_neg hh]
        exact ⟨L2.Same.trans s6 s7, s7 _ _ e4⟩
    · rintro H5 ⟨s6, e4⟩
      have nS3 : H4 D3 = none := hD3
      refine ⟨D3, _, rfl, .inl (SqL.of e4), S, _, _, rfl, rfl, s6 _ _ (s5 _ _ e2), szl (by rw [rowV_len]; omega), ?_⟩
      refine ⟨_, _, rfl, same_mut (L2.Same.trans s4 (L2.Same.trans s5 s6)) nS, ?_, ?_⟩
      · rw [upd_ne hSD.symm]
        exact s6 _ _ e3
      · rw [upd_same, rowV_succ, List.length_replicate, ← lp, List.take_length]
        rfl
  · rintro σ H3 ⟨v6, v7, rfl, s4, e1, e2⟩
    obtain ⟨ns, hns⟩ : ∃ ns, ns = (List.range 8).map fun t => (scoreT n t g : Int) := ⟨_, rfl⟩
    have e3 : H3 S = some (.lst (ns.map V.int)) := by rw [e2, rowV_map, hns]
    have nl : ns.length = 8 := by rw [hns]; rfl
    have ng : ∀ t, t < 8 → ns[t]? = some (scoreT n t g : Int) := fun t ht => by rw [hns]; simp [ht]
    refine ⟨_, rfl, S, ns, rfl, SqL.of e3, by omega, fun m hm hmax => ?_⟩
    have em : m = (scoreT n t0 g : Int) := by
      refine Int.le_antisymm ?_ (hmax _ (List.mem_of_getElem? (ng t0 ht0)))
      obtain ⟨t, ht⟩ := List.mem_iff_getElem?.mp hm
      have ht8 : t < 8 := by have := (List.getElem?_eq_some_iff.mp ht).1; omega
      rw [ng t ht8] at ht
      have := score_le hc t
      have := Option.some.inj ht
      omega
    subst em
    refine ⟨_, rfl, .inl ⟨rfl, _, SqL.of e3⟩, _, rfl, S, ns, _, rfl, rfl, SqL.of e3, rfl, _, rfl, ?_⟩
    by_cases hu : ∃ t, t < 8 ∧ t ≠ t0 ∧ ∀ p ∈ ringP n 1, at2 g p = 2 ∨ at2 (trn n t (markP n)) p = at2 (trn n t0 (markP n)) p
    · have hq := q1 hu _ s4
      obtain ⟨t, ht, hne, hall⟩ := hu
      have h2 := count_two (x := (scoreT n t0 g : Int)) (Ne.symm hne) (ng t0 ht0) (by rw [ng t ht, score_eq hc hall])
      refine ite2 (fun e => ?_) fun _ => hq
      have := of_decide_eq_true e
      injection this with this
      omega
    · have hlt : ∀ t, t < 8 → t ≠ t0 → ∃ p ∈ ringP n 1, at2 g p ≠ 2 ∧ at2 (trn n t (markP n)) p ≠ at2 (trn n t0 (markP n)) p := fun t ht hne => by
        apply Classical.byContradiction
        intro hno
        refine hu ⟨t, ht, hne, fun p hp => ?_⟩
        apply Classical.byContradiction
        intro hno2
        exact hno ⟨p, hp, fun z => hno2 (.inl z), fun z => hno2 (.inr z)⟩
      have hq := q2 hlt _ s4
      have h1 : ns.count (scoreT n t0 g : Int) = 1 := count_one (ng t0 ht0) fun j hj z => by
        have hj8 : j < 8 := by have := (List.getElem?_eq_some_iff.mp z).1; omega
        rw [ng j hj8] at z
        have := score_lt hc (hlt j hj8 hj)
        have := Option.some.inj z
        omega
      refine ite2 (fun _ => ?_) (fun e => absurd (decide_eq_true (by rw [h1]; rfl)) e)
      refine ⟨_, rfl, .inl ⟨rfl, _, SqL.of e3⟩, _, rfl, S, ns.map V.int, .int (scoreT n t0 g : Int), t0, .int (scoreT n t0 g : Int), rfl, rfl, SqL.of e3, rfl, ?_, by rw [List.getElem?_map, ng t0 ht0]; rfl, ?_, fun j z' hj hz => ?_, hq⟩
      · rw [List.all_map]
        simp
        intro _ _
        rfl
      · show ((scoreT n t0 g : Int) == (scoreT n t0 g : Int)) = true
        simp
      · have hj8 : j < 8 := by omega
        rw [List.getElem?_map, ng j hj8] at hz
        have := Option.some.inj hz
        subst this
        have := score_lt hc (hlt j hj8 (by omega))
        show ((scoreT n j g : Int) == (scoreT n t0 g : Int)) = false
        simp
        omega
end
end K44
set_option maxHeartbeats 4000000
namespace K44
open PySem PySem.Spec PyProof.Rows L2
section
variable {P : Program} {w : World} {K : PySem.W.Frag} {mg : Str → Option Value} {base : Heap}
/-! ### the bed -/
def sp_ckbed : Sp := fun vs H Q _ => ∃ (a : Addr) (rs : Nat → Addr) (h w' : Nat) (f : Nat → Nat → Int), vs = [.ref a] ∧ Grid H a rs h w' f ∧ 1 ≤ h ∧ h ≤ 60 ∧ 1 ≤ w' ∧ w' ≤ 60 ∧ (∀ i j, i < h → j < w' → 0 ≤ f i j ∧ f i j ≤ 2) ∧
  ∀ H' p, Same H H' → H' p = some (.tup [.int h, .int w']) → Q (.ref p) H'
theorem ok_check_bed (T : Tx K mg) : Keeps P w K mg base 1 "check_bed" p_check_bed sp_ckbed := by
  refine T.d_check_bed.keeps sc_check_bed (fun _ _ _ _ _ _ us hl => match us, hl with | [_], _ => rfl) (fun vs H Q E h => by obtain ⟨a, b, n, m, f, rfl, _⟩ := h; rfl) (fun f cdv A outer s H vs Q E hr h => ?_)
  obtain ⟨a, rs, n, m, g, rfl, G, hn1, hn, hm1, hm, hb, q⟩ := h
  refine ⟨_, (pss_cons (ps_if (PW.pt (pw_or (pt_cmpR op_lt (pe_callB (lenK K) (by rfl) T.b_len PySem.boot_len (pa_cons (pv 0) pa_nil)) pe_int (nomark _)) (pw_or (pt_cmpR op_gt (pe_callB (lenK K) (by rfl) T.b_len PySem.boot_len (pa_cons (pv 0) pa_nil)) (cst T.c_GREATEST_SIZE) (nomark _)) (pw_or (pt_cmpR op_lt (pe_callB (lenK K) (by rfl) T.b_len PySem.boot_len (pa_cons (pe_ix (ixL K) (pv 0) pe_int (fun _ _ => rfl)) pa_nil)) pe_int (nomark _)) (pw_or1 (pt_cmpR op_gt (pe_callB (lenK K) (by rfl) T.b_len PySem.boot_len (pa_cons (pe_ix (ixL K) (pv 0) pe_int (fun _ _ => rfl)) pa_nil)) (cst T.c_GREATEST_SIZE) (nomark _))))))) (pss_one ps_never) pss_nil)
      (pss_cons (ps_for PassesOwn.never rfl (piL K (pv 0)) (pg_name (i := 1) sc_check_bed.nd rfl (Or.inl rfl))
      (pss_one (ps_if (PW.pt (pw_or (pt_cmpR op_ne (pe_callB (lenK K) (by rfl) T.b_len PySem.boot_len (pa_cons (pv 1) pa_nil)) (pe_callB (lenK K) (by rfl) T.b_len PySem.boot_len (pa_cons (pe_ix (ixL K) (pv 0) pe_int (fun _ _ => rfl)) pa_nil)) (nomark _)) (pw_or1 (pt_not (pt_val (pe_callB (cr_all rfl) (by rfl) T.b_all (by decide +kernel) (pa_cons (pe_lc (own := [("cell", 2)]) rfl sc_check_bed.nd (piL K (pv 1)) (blkOk_by (by kernel_rfl)) (fun _ _ _ _ _ => (pg_name (i := 2) sc_check_bed.nd rfl (Or.inl rfl))) (fun _ _ _ _ _ => pts_nil) (fun _ _ _ _ _ => (pe_chain op_le op_le (cst T.c_WHITE) (pv 2) (cst T.c_UNREADABLE)))) pa_nil))))))) (pss_one ps_never) pss_nil)))
      (pss_one (ps_ret (pe_tup (pa_cons (pe_callB (lenK K) (by rfl) T.b_len PySem.boot_len (pa_cons (pv 0) pa_nil)) (pa_cons (pe_callB (lenK K) (by rfl) T.b_len PySem.boot_len (pa_cons (pe_ix (ixL K) (pv 0) pe_int (fun _ _ => rfl)) pa_nil)) pa_nil))))))), ?_⟩
  have hS : SqL K H a (refV rs n) := SqL.of G.top
  have h0 : atI (refV rs n) 0 = some (.ref (rs 0)) := atI_nat (j := 0) (refV_get (j := 0) (by omega))
  have hR : SqL K H (rs 0) (rowV (g 0) m) := SqL.of (G.row 0 (by omega))
  refine ⟨_, rfl, a, _, rfl, .inl hS, _, _, rfl, rfl, _, rfl, ite2 (fun e => absurd (of_decide_eq_true e) (by rw [refV_len]; omega)) fun _ => ?_⟩
  refine ⟨_, rfl, a, _, rfl, .inl hS, _, _, rfl, rfl, _, rfl, ite2 (fun e => absurd (of_decide_eq_true e) (by rw [refV_len]; omega)) fun _ => ?_⟩
  refine ⟨_, rfl, a, _, 0, _, rfl, rfl, hS, h0, rs 0, _, rfl, .inl hR, _, _, rfl, rfl, _, rfl, ite2 (fun e => absurd (of_decide_eq_true e) (by rw [rowV_len]; omega)) fun _ => ?_⟩
  refine ⟨_, rfl, a, _, 0, _, rfl, rfl, hS, h0, rs 0, _, rfl, .inl hR, _, _, rfl, rfl, _, rfl, ite2 (fun e => absurd (of_decide_eq_true e) (by rw [rowV_len]; omega)) fun _ => ?_⟩
  refine ⟨_, rfl, a, rfl, ⟨_, hS⟩, ?_⟩
  refine for_list (K := K) (a := a) (xs := refV rs n) (fun i σ H1 => ∃ v v2, σ = [some (.ref a), v, v2] ∧ Same H H1) ⟨none, none, rfl, Same.refl _⟩ (fun i σ H1 _ z => by obtain ⟨_, _, _, s1⟩ := z; exact SqL.of (s1 _ _ G.top)) ?_ ?_
  · rintro i x σ H1 hi ⟨v, v2, rfl, s1⟩
    have hk : i < n := by have := (List.getElem?_eq_some_iff.mp hi).1; rwa [refV_len] at this
    rw [refV_get hk] at hi
    obtain rfl := Option.some.inj hi
    have hr1 := s1 _ _ (G.row i hk)
    refine ⟨_, rfl, rs i, _, rfl, .inl (SqL.of hr1), _, rfl, a, _, 0, _, rfl, rfl, SqL.of (s1 _ _ G.top), h0, rs 0, _, rfl, .inl (SqL.of (s1 _ _ (G.row 0 (by omega)))), rfl, _, rfl, ite2 (fun e => absurd e (by rw [rowV_len, rowV_len]; simp)) fun _ => ?_⟩
    refine ⟨_, rfl, rs i, rfl, ⟨_, SqL.of hr1⟩, fun D hD => ?_⟩
    refine lc_list (K := K) (a := rs i) (xs := rowV (g i) m) (fun j H2 => Same H1 H2 ∧ H2 D = some (.lst (List.replicate j (.bl true)))) ⟨same_upd hD, upd_same⟩ (fun j H2 _ z => SqL.of (z.1 _ _ hr1)) (fun j x H2 hj z => ?_) fun H2 z => ?_
    · obtain ⟨z1, z2⟩ := z
      have hj2 : j < m := by have := (List.getElem?_eq_some_iff.mp hj).1; rwa [rowV_len] at this
      rw [rowV_get hj2] at hj
      obtain rfl := Option.some.inj hj
      obtain ⟨b0, b1⟩ := hb i j hk hj2
      have fin : ∃ acc, H2 D = some (.lst acc) ∧ acc.length < sizeLine ∧ (Same H1 (upd H2 D (.lst (acc ++ [.bl true]))) ∧ upd H2 D (.lst (acc ++ [.bl true])) D = some (.lst (List.replicate (j + 1) (.bl true)))) :=
        ⟨_, z2, szl (by rw [List.length_replicate]; omega), same_mut z1 hD, by rw [upd_same, List.replicate_succ']⟩
      refine ⟨rfl, _, rfl, _, _, rfl, rfl, _, rfl, ?_⟩
      rw [decide_eq_true b0]
      refine iteT ⟨_, _, rfl, rfl, ?_⟩
      dsimp only
      rw [show decide (g i j ≤ 2) = true from decide_eq_true b1]
      exact fin
    · obtain ⟨z1, z2⟩ := z
      rw [rowV_len] at z2
      refine ⟨D, List.replicate m true, rfl, SqL.of (by rw [z2, List.map_replicate]), _, rfl, ?_⟩
      rw [show (List.replicate m true).all id = true by simp]
      exact iteF ⟨_, _, rfl, L2.Same.trans s1 z1⟩
  · rintro σ H1 ⟨v, v2, rfl, s1⟩
    refine ⟨_, rfl, a, _, rfl, .inl (SqL.of (s1 _ _ G.top)), _, rfl, a, _, 0, _, rfl, rfl, SqL.of (s1 _ _ G.top), h0, rs 0, _, rfl, .inl (SqL.of (s1 _ _ (G.row 0 (by omega)))), by show 2 ≤ sizeLine; decide, fun p hp => ?_⟩
    rw [refV_len, rowV_len]
    exact q _ p (L2.Same.trans s1 (same_upd hp)) upd_same
/-! ### sums of black cells -/
def cnt1 (f : Nat → Int) : Nat → Int
  | 0 => 0
  | j + 1 => cnt1 f j + (if f j = 1 then 1 else 0)
def sp_sums : Sp := fun vs H Q _ => ∃ (a : Addr) (rs : Nat → Addr) (h w' : Nat) (f : Nat → Nat → Int), vs = [.ref a] ∧ Grid H a rs h w' f ∧ h ≤ 60 ∧ w' ≤ 60 ∧ ∀ H' p rs', Same H H' → H p = none → Grid H' p rs' h (w' + 1) (fun i => cnt1 (f i)) → Q (.ref p) H'
theorem ok_sums (T : Tx K mg) : Keeps P w K mg base 1 "_sums" p__sums sp_sums := by
  refine T.d__sums.keeps sc__sums (fun _ _ _ _ _ _ us hl => match us, hl with | [_], _ => rfl) (fun vs H Q E h => by obtain ⟨a, b, n, m, f, rfl, _⟩ := h; rfl) (fun f cdv A outer s H vs Q E hr h => ?_)
  obtain ⟨a, rs, n, m, g, rfl, G, hn, hm, q⟩ := h
  refine ⟨_, (pss_cons (ps_set (i := 1) sc__sums.nd rfl (Or.inl rfl) (pe_lst pa_nil))
      (pss_cons (ps_for PassesOwn.never rfl (piL K (pv 0)) (pg_name (i := 2) sc__sums.nd rfl (Or.inl rfl))
      (pss_cons (ps_set (i := 3) sc__sums.nd rfl (Or.inl rfl) (pe_lst (pa_cons pe_int pa_nil)))
      (pss_cons (ps_for PassesOwn.never rfl (piL K (pv 2)) (pg_name (i := 4) sc__sums.nd rfl (Or.inl rfl))
      (pss_one (ps_expr (pe_bm PySem.F.plainAttrs_list PySem.F.slot_list_append PySem.F.type_list_append mt_append (pv 3) (pa_cons (pe_op op_add (pe_ix (ixL K) (pv 3) (pe_un un_neg pe_int) (fun _ _ => rfl)) (pe_ifExp (pt_cmpR op_eq (pv 4) (cst T.c_BLACK) (nomark _)) pe_int pe_int)) pa_nil)))))
      (pss_one (ps_expr (pe_bm PySem.F.plainAttrs_list PySem.F.slot_list_append PySem.F.type_list_append mt_append (pv 1) (pa_cons (pv 3) pa_nil)))))))
      (pss_one (ps_ret (pv 1))))), ?_⟩
  refine ⟨Nat.zero_le _, fun D hD => ?_⟩
  refine ⟨_, rfl, a, rfl, ⟨_, SqL.of (same_upd hD _ _ G.top)⟩, ?_⟩
  refine for_list (K := K) (a := a) (xs := refV rs n) (fun i σ H1 => ∃ v v2 v3 r, σ = [some (.ref a), some (.ref D), v, v2, v3] ∧ Rows H H1 D r i (m + 1) (fun i => cnt1 (g i))) ⟨none, none, none, fun _ => 0, rfl, Rows.start hD (Same.refl _)⟩ (fun i σ H1 _ z => by obtain ⟨_, _, _, _, _, R⟩ := z; exact SqL.of (R.same _ _ G.top)) ?_ ?_
  · rintro i x σ H1 hi ⟨v, v2, v3, r, rfl, R⟩
    have hk : i < n := by have := (List.getElem?_eq_some_iff.mp hi).1; rwa [refV_len] at this
    rw [refV_get hk] at hi
    obtain rfl := Option.some.inj hi
    have hrow := R.same _ _ (G.row i hk)
    refine ⟨by show 1 ≤ sizeLine; decide, fun p hp => ?_⟩
    have s1 := same_upd (o := .lst [.int 0]) hp
    refine ⟨_, rfl, rs i, rfl, ⟨_, SqL.of (s1 _ _ hrow)⟩, ?_⟩
    refine for_list (K := K) (a := rs i) (xs := rowV (g i) m) (fun j σ H2 => ∃ v3, σ = [some (.ref a), some (.ref D), some (.ref (rs i)), some (.ref p), v3] ∧ Same H1 H2 ∧ H2 p = some (.lst (rowV (cnt1 (g i)) (j + 1)))) ⟨_, rfl, s1, by rw [upd_same]; rfl⟩ (fun j σ H2 _ z => by obtain ⟨_, _, z, _⟩ := z; exact SqL.of (z _ _ hrow)) ?_ ?_
    · rintro j x σ H2 hj ⟨v3, rfl, s2, e2⟩
      have hj2 : j < m := by have := (List.getElem?_eq_some_iff.mp hj).1; rwa [rowV_len] at this
      rw [rowV_get hj2] at hj
      obtain rfl := Option.some.inj hj
      have fin : ∀ z : Int, cnt1 (g i) j + z = cnt1 (g i) (j + 1) → ∃ xs, H2 p = some (.lst xs) ∧ xs.length < sizeLine ∧ ∃ v3, (([some (.ref a), some (.ref D), some (.ref (rs i)), some (.ref p), some (.int (g i j))] : L2.St) = [some (.ref a), some (.ref D), some (.ref (rs i)), some (.ref p), v3]) ∧ Same H1 (upd H2 p (.lst (xs ++ [.int (cnt1 (g i) j + z)]))) ∧ upd H2 p (.lst (xs ++ [.int (cnt1 (g i) j + z)])) p = some (.lst (rowV (cnt1 (g i)) (j + 1 + 1))) := fun z hz =>
        ⟨_, e2, szl (by rw [rowV_len]; omega), _, rfl, same_mut s2 hp, by rw [upd_same, hz, ← rowV_succ]⟩
      refine ⟨_, rfl, .inl ⟨rfl, _, SqL.of e2⟩, _, rfl, 1, rfl, p, rowV (cnt1 (g i)) (j + 1), -1, .int (cnt1 (g i) j), rfl, rfl, SqL.of e2, by rw [rowV_succ]; exact atI_last _ _, _, rfl, rfl, _, rfl, ite2 (fun e => ?_) (fun e => ?_)⟩
      · have e1 : g i j = 1 := by have := of_decide_eq_true e; injection this
        obtain ⟨xs, f1, f2, v3, f3, f4, f5⟩ := fin 1 (by show _ = cnt1 (g i) j + (if g i j = 1 then 1 else 0); rw [if_pos e1])
        exact ⟨_, _, rfl, rfl, p, _, _, rfl, rfl, f1, f2, v3, f3, f4, f5⟩
      · have e1 : ¬ g i j = 1 := fun z => e (decide_eq_true (by rw [z]))
        obtain ⟨xs, f1, f2, v3, f3, f4, f5⟩ := fin 0 (by show _ = cnt1 (g i) j + (if g i j = 1 then 1 else 0); rw [if_neg e1])
        exact ⟨_, _, rfl, rfl, p, _, _, rfl, rfl, f1, f2, v3, f3, f4, f5⟩
    · rintro σ H2 ⟨v3, rfl, s2, e2⟩
      rw [rowV_len] at e2
      obtain ⟨p1, p2⟩ := R.push s2 hp e2
      exact ⟨_, rfl, .inl ⟨rfl, _, SqL.of p1⟩, _, rfl, D, _, _, rfl, rfl, p1, szl (by rw [refV_len]; omega), _, _, _, _, rfl, p2⟩
  · rintro σ H1 ⟨v, v2, v3, r, rfl, R⟩
    rw [refV_len] at R
    exact ⟨_, rfl, q H1 D r R.same R.newD R.grid⟩
end
end K44
set_option maxHeartbeats 4000000
namespace K44
open PySem PySem.Spec PyProof.Rows L2
section
variable {P : Program} {w : World} {K : PySem.W.Frag} {mg : Str → Option Value} {base : Heap}
/-! ### FrameFinder -/
abbrev cFF (K : PySem.W.Frag) : Addr := He.ga K "FrameFinder"
/-- nothing but x has changed -/
def SameX (x : Addr) (H H' : Hp) : Prop := ∀ b o, b ≠ x → H b = some o → H' b = some o
theorem SameX.to {x : Addr} {H0 H H' : Hp} (s : SameX x H H') (s0 : Same H0 H) (n : H0 x = none) : Same H0 H' := fun b o h => s b o (ne_of_none h n) (s0 b o h)
/-- the finder at x of a bed f, h rows of w' -/
def FFAt (K : PySem.W.Frag) (H : Hp) (x : Addr) (h w' : Nat) (f : Nat → Nat → Int) : Prop := ∃ dx a b r1 r2, H x = some (.ins (cFF K) dx [("_rows", .ref a), ("_columns", .ref b)]) ∧ Grid H a r1 h (w' + 1) (fun i => cnt1 (f i)) ∧ Grid H b r2 w' (h + 1) (fun j => cnt1 fun i => f i j)
theorem FFAt.same {H H' : Hp} {x : Addr} {h w' : Nat} {f : Nat → Nat → Int} (s : Same H H') : FFAt K H x h w' f → FFAt K H' x h w' f := fun ⟨dx, a, b, r1, r2, e, G1, G2⟩ => ⟨dx, a, b, r1, r2, s _ _ e, G1.same s, G2.same s⟩
def sp_finder (K : PySem.W.Frag) : Sp := fun vs H Q _ => ∃ (x dx a : Addr) (rs : Nat → Addr) (h w' : Nat) (f : Nat → Nat → Int), vs = [.ref x, .ref a] ∧ H x = some (.ins (cFF K) dx []) ∧ Grid H a rs h w' f ∧ 1 ≤ h ∧ h ≤ 60 ∧ 1 ≤ w' ∧ w' ≤ 60 ∧
  ∀ H', SameX x H H' → FFAt K H' x h w' f → Q .non H'
theorem mk_FrameFinder (T : Tx K mg) : KeepsA P w K mg base 2 (Mk K (cFF K)) p_FrameFinder___init__ (sp_finder K) := by
  obtain ⟨f, fd, F, hp⟩ := T.m_FrameFinder
  refine KeepsA.of F hp sc_FrameFinder___init__ (fun _ _ _ _ _ _ us hl => match us, hl with | [_, _], _ => rfl) (fun vs H Q E h => by obtain ⟨a, dx, s, _, _, _, _, rfl, _⟩ := h; rfl) (fun f cdv A outer s H vs Q E hr h => ?_)
  obtain ⟨x, dx, a, rs, n, m, g, rfl, hx, G, hn1, hn, hm1, hm, q⟩ := h
  refine ⟨_, (pss_cons (ps_fld (pv 0) (pcall (ok_sums T) (hr.mono (by decide)) (pa_cons (pv 1) pa_nil)) rfl)
      (pss_one (ps_fld (pv 0) (pcall (ok_sums T) (hr.mono (by decide)) (pa_cons (pe_lc (own := [("column", 3)]) rfl sc_FrameFinder___init__.nd (pi_range1 (by rfl) T.b_range (pa_cons (pe_callB (lenK K) (by rfl) T.b_len PySem.boot_len (pa_cons (pe_ix (ixL K) (pv 1) pe_int (fun _ _ => rfl)) pa_nil)) pa_nil)) (blkOk_by (by kernel_rfl)) (fun _ _ _ _ _ => (pg_name (i := 3) sc_FrameFinder___init__.nd rfl (Or.inr rfl))) (fun _ _ _ _ _ => pts_nil) (fun _ _ _ _ _ => (pe_lc (own := [("row", 2)]) rfl sc_FrameFinder___init__.nd (piL K (pv 1)) (blkOk_by (by kernel_rfl)) (fun _ _ _ _ _ => (pg_name (i := 2) sc_FrameFinder___init__.nd rfl (Or.inl rfl))) (fun _ _ _ _ _ => pts_nil) (fun _ _ _ _ _ => (pe_ix (ixL K) (pv 2) (pv 3) (fun _ _ => rfl)))))) pa_nil)) rfl))), ?_⟩
  have h0 : atI (refV rs n) 0 = some (.ref (rs 0)) := atI_nat (j := 0) (refV_get (j := 0) (by omega))
  refine ⟨_, rfl, a, rs, n, m, g, rfl, G, hn, hm, fun H1 p r1 s1 hp1 G1 => ?_⟩
  refine ⟨_, rfl, x, _, _, _, rfl, s1 _ _ hx, T.k_FrameFinder.cl, T.n_rows, by show 0 < 1000; decide, ?_⟩
  obtain ⟨H2, eH2⟩ : ∃ H2, H2 = upd H1 x (.ins (cFF K) dx ([("_rows", .ref p)] : List (Str × V))) := ⟨_, rfl⟩
  have eH : (upd H1 x (.ins (cFF K) dx (putF "_rows" (.ref p) [])) : Hp) = H2 := by rw [eH2]; rfl
  rw [eH]
  have ex2 : H2 x = some (.ins (cFF K) dx ([("_rows", .ref p)] : List (Str × V))) := by rw [eH2, upd_same]
  have sx : ∀ b o, b ≠ x → H1 b = some o → H2 b = some o := fun b o hb h => by rw [eH2, upd_ne hb]; exact h
  have nl : ∀ (b : Addr) (l : List V), H1 b = some (.lst l) → b ≠ x := fun b l h e => by rw [e, s1 _ _ hx] at h; cases h
  have GX : ∀ {b : Addr} {r : Nat → Addr} {k l : Nat} {F : Nat → Nat → Int}, Grid H1 b r k l F → Grid H2 b r k l F := fun G' => ⟨sx _ _ (nl _ _ G'.top) G'.top, fun i hi => sx _ _ (nl _ _ (G'.row i hi)) (G'.row i hi), G'.inj⟩
  have Gb := GX (G.same s1)
  have G12 := GX G1
  refine ⟨_, rfl, a, _, 0, _, rfl, rfl, SqL.of Gb.top, h0, rs 0, _, rfl, .inl (SqL.of (Gb.row 0 (by omega))), _, rfl, by rw [rowV_len]; omega, by rw [rowV_len]; omega, fun D hD => ?_⟩
  rw [rowV_len, Int.toNat_natCast]
  refine lc_range (lo := 0) (n := m) (fun j H3 => ∃ r, Rows H2 H3 D r j n (fun j i => g i j)) ⟨fun _ => 0, Rows.start hD (Same.refl _)⟩ (fun j H3 hj z => ?_) fun H3 z => ?_
  · obtain ⟨r, R⟩ := z
    rw [Int.zero_add]
    refine ⟨rfl, _, rfl, a, rfl, ⟨_, SqL.of (R.same _ _ Gb.top)⟩, fun D2 hD2 => ?_⟩
    refine lc_list (K := K) (a := a) (xs := refV rs n) (fun i H4 => Same H3 H4 ∧ H4 D2 = some (.lst (rowV (fun i => g i j) i))) ⟨same_upd hD2, upd_same⟩ (fun i H4 _ z => SqL.of (z.1 _ _ (R.same _ _ Gb.top))) (fun i y H4 hi z => ?_) fun H4 z => ?_
    · obtain ⟨z1, z2⟩ := z
      have hk : i < n := by have := (List.getElem?_eq_some_iff.mp hi).1; rwa [refV_len] at this
      rw [refV_get hk] at hi
      obtain rfl := Option.some.inj hi
      refine ⟨rfl, _, rfl, _, rfl, rs i, _, j, .int (g i j), rfl, rfl, SqL.of (z1 _ _ (R.same _ _ (Gb.row i hk))), atI_nat (rowV_get hj), ?_⟩
      refine ⟨_, z2, szl (by rw [rowV_len]; omega), same_mut z1 hD2, ?_⟩
      rw [upd_same, rowV_succ]
    · obtain ⟨z1, z2⟩ := z
      rw [refV_len] at z2
      obtain ⟨p1, p2⟩ := R.push z1 hD2 z2
      exact ⟨_, p1, szl (by rw [refV_len]; omega), _, p2⟩
  obtain ⟨r, R⟩ := z
  obtain ⟨s3, nD, G3⟩ := R.to
  refine ⟨D, r, m, n, _, rfl, G3, hm, hn, fun H5 p2 r2 s5 hp2 G5 => ?_⟩
  have s35 := L2.Same.trans s3 s5
  refine ⟨_, rfl, x, _, _, _, rfl, s35 _ _ ex2, T.k_FrameFinder.cl, T.n_columns, by show 1 < 1000; decide, ?_⟩
  have e6 : (putF "_columns" (.ref p2) ([("_rows", .ref p)] : List (Str × V))) = ([("_rows", .ref p), ("_columns", .ref p2)] : List (Str × V)) := rfl
  rw [e6]
  have nl5 : ∀ (b : Addr) (l : List V), H5 b = some (.lst l) → b ≠ x := fun b l h e => by rw [e, s35 _ _ ex2] at h; cases h
  have GX5 : ∀ {b : Addr} {r : Nat → Addr} {k l : Nat} {F : Nat → Nat → Int}, Grid H5 b r k l F → Grid (upd H5 x (.ins (cFF K) dx ([("_rows", .ref p), ("_columns", .ref p2)] : List (Str × V)))) b r k l F := fun G' =>
    ⟨by rw [upd_ne (nl5 _ _ G'.top)]; exact G'.top, fun i hi => by rw [upd_ne (nl5 _ _ (G'.row i hi))]; exact G'.row i hi, G'.inj⟩
  refine q _ (fun b o hb h => ?_) ⟨dx, p, p2, r1, r2, upd_same, GX5 (G12.same s35), GX5 G5⟩
  rw [upd_ne hb]
  exact s35 _ _ (sx _ _ hb (s1 _ _ h))
def blackC (f : Nat → Nat → Int) (n r c : Nat) : Int :=
  (cnt1 (f r) (c + n) - cnt1 (f r) c) + (cnt1 (f (r + n - 1)) (c + n) - cnt1 (f (r + n - 1)) c) + (cnt1 (fun i => f i c) (r + n - 1) - cnt1 (fun i => f i c) (r + 1)) + (cnt1 (fun i => f i (c + n - 1)) (r + n - 1) - cnt1 (fun i => f i (c + n - 1)) (r + 1))
def sp_black (K : PySem.W.Frag) : Sp := fun vs H Q _ => ∃ (x : Addr) (h w' n r c : Nat) (f : Nat → Nat → Int), vs = [.ref x, .int n, .int r, .int c] ∧ FFAt K H x h w' f ∧ 2 ≤ n ∧ r + n ≤ h ∧ c + n ≤ w' ∧ Q (.int (blackC f n r c)) H
theorem mt_black (T : Tx K mg) : KeepsA P w K mg base 1 (Meth K (cFF K) "black_cells") p_FrameFinder_black_cells (sp_black K) := by
  obtain ⟨f, fd, F, hp⟩ := T.m_black_cells
  refine KeepsA.of F hp sc_FrameFinder_black_cells (fun _ _ _ _ _ _ us hl => match us, hl with | [_, _, _, _], _ => rfl) (fun vs H Q E h => by obtain ⟨a, dx, s, _, _, _, _, rfl, _⟩ := h; rfl) (fun f cdv A outer s H vs Q E hr h => ?_)
  obtain ⟨x, h, w', n, r, c, g, rfl, ⟨dx, a, b, r1, r2, hx, G1, G2⟩, hn2, hrn, hcn, q⟩ := h
  refine ⟨_, (pss_cons (ps_set (i := 4) sc_FrameFinder_black_cells.nd rfl (Or.inl rfl) (pe_op op_add (pv 3) (pv 1)))
      (pss_cons (ps_set (i := 5) sc_FrameFinder_black_cells.nd rfl (Or.inl rfl) (pe_op op_add (pv 2) (pv 1)))
      (pss_cons (ps_set (i := 6) sc_FrameFinder_black_cells.nd rfl (Or.inl rfl) (pe_op op_sub (pe_ix (ixL K) (pe_ix (ixL K) (fldK K (pv 0) rfl) (pv 2) (fun _ _ => rfl)) (pv 4) (fun _ _ => rfl)) (pe_ix (ixL K) (pe_ix (ixL K) (fldK K (pv 0) rfl) (pv 2) (fun _ _ => rfl)) (pv 3) (fun _ _ => rfl))))
      (pss_cons (ps_set (i := 7) sc_FrameFinder_black_cells.nd rfl (Or.inl rfl) (pe_op op_sub (pe_ix (ixL K) (pe_ix (ixL K) (fldK K (pv 0) rfl) (pe_op op_sub (pv 5) pe_int) (fun _ _ => rfl)) (pv 4) (fun _ _ => rfl)) (pe_ix (ixL K) (pe_ix (ixL K) (fldK K (pv 0) rfl) (pe_op op_sub (pv 5) pe_int) (fun _ _ => rfl)) (pv 3) (fun _ _ => rfl))))
      (pss_cons (ps_set (i := 8) sc_FrameFinder_black_cells.nd rfl (Or.inl rfl) (pe_op op_sub (pe_ix (ixL K) (pe_ix (ixL K) (fldK K (pv 0) rfl) (pv 3) (fun _ _ => rfl)) (pe_op op_sub (pv 5) pe_int) (fun _ _ => rfl)) (pe_ix (ixL K) (pe_ix (ixL K) (fldK K (pv 0) rfl) (pv 3) (fun _ _ => rfl)) (pe_op op_add (pv 2) pe_int) (fun _ _ => rfl))))
      (pss_cons (ps_set (i := 9) sc_FrameFinder_black_cells.nd rfl (Or.inl rfl) (pe_op op_sub (pe_ix (ixL K) (pe_ix (ixL K) (fldK K (pv 0) rfl) (pe_op op_sub (pv 4) pe_int) (fun _ _ => rfl)) (pe_op op_sub (pv 5) pe_int) (fun _ _ => rfl)) (pe_ix (ixL K) (pe_ix (ixL K) (fldK K (pv 0) rfl) (pe_op op_sub (pv 4) pe_int) (fun _ _ => rfl)) (pe_op op_add (pv 2) pe_int) (fun _ _ => rfl))))
      (pss_one (ps_ret (pe_op op_add (pe_op op_add (pe_op op_add (pv 6) (pv 7)) (pv 8)) (pv 9)))))))))), ?_⟩
  have A1 : ∀ i : Nat, i < h → atI (refV r1 h) (i : Int) = some (.ref (r1 i)) := fun i hi => atI_nat (refV_get hi)
  have A2 : ∀ i : Nat, i < w' → atI (refV r2 w') (i : Int) = some (.ref (r2 i)) := fun i hi => atI_nat (refV_get hi)
  have B1 : ∀ i j : Nat, i < h → j ≤ w' → SqL K H (r1 i) (rowV (cnt1 (g i)) (w' + 1)) ∧ atI (rowV (cnt1 (g i)) (w' + 1)) (j : Int) = some (.int (cnt1 (g i) j)) := fun i j hi hj => ⟨SqL.of (G1.row i hi), atI_nat (rowV_get (by omega))⟩
  have B2 : ∀ i j : Nat, i < w' → j ≤ h → SqL K H (r2 i) (rowV (cnt1 fun k => g k i) (h + 1)) ∧ atI (rowV (cnt1 fun k => g k i) (h + 1)) (j : Int) = some (.int (cnt1 (fun k => g k i) j)) := fun i j hi hj => ⟨SqL.of (G2.row i hi), atI_nat (rowV_get (by omega))⟩
  have T1 : SqL K H a (refV r1 h) := SqL.of G1.top
  have T2 : SqL K H b (refV r2 w') := SqL.of G2.top
  have i1 : (c : Int) + (n : Int) = ((c + n : Nat) : Int) := by omega
  have i2 : (r : Int) + (n : Int) = ((r + n : Nat) : Int) := by omega
  have i3 : ((r + n : Nat) : Int) - 1 = ((r + n - 1 : Nat) : Int) := by omega
  have i4 : ((c + n : Nat) : Int) - 1 = ((c + n - 1 : Nat) : Int) := by omega
  have i5 : (r : Int) + 1 = ((r + 1 : Nat) : Int) := by omega
  refine ⟨_, rfl, _, rfl, _, _, rfl, rfl, ?_⟩
  dsimp only
  rw [i1]
  refine ⟨_, rfl, _, rfl, _, _, rfl, rfl, ?_⟩
  dsimp only
  rw [i2]
  refine ⟨_, rfl, x, _, _, _, _, rfl, hx, T.k_FrameFinder.cl, T.n_rows, rfl, _, rfl, a, _, _, _, rfl, rfl, T1, A1 (r) (by omega), ?_⟩
  refine ⟨_, rfl, r1 (r), _, _, _, rfl, rfl, (B1 (r) (c + n) (by omega) (by omega)).1, (B1 (r) (c + n) (by omega) (by omega)).2, ?_⟩
  refine ⟨_, rfl, x, _, _, _, _, rfl, hx, T.k_FrameFinder.cl, T.n_rows, rfl, _, rfl, a, _, _, _, rfl, rfl, T1, A1 (r) (by omega), ?_⟩
  refine ⟨_, rfl, r1 (r), _, _, _, rfl, rfl, (B1 (r) (c) (by omega) (by omega)).1, (B1 (r) (c) (by omega) (by omega)).2, ?_⟩
  refine ⟨_, _, rfl, rfl, ?_⟩
  refine ⟨_, rfl, x, _, _, _, _, rfl, hx, T.k_FrameFinder.cl, T.n_rows, rfl, _, rfl, _, _, rfl, rfl, a, _, _, _, rfl, congrArg V.int i3, T1, A1 (r + n - 1) (by omega), ?_⟩
  refine ⟨_, rfl, r1 (r + n - 1), _, _, _, rfl, rfl, (B1 (r + n - 1) (c + n) (by omega) (by omega)).1, (B1 (r + n - 1) (c + n) (by omega) (by omega)).2, ?_⟩
  refine ⟨_, rfl, x, _, _, _, _, rfl, hx, T.k_FrameFinder.cl, T.n_rows, rfl, _, rfl, _, _, rfl, rfl, a, _, _, _, rfl, congrArg V.int i3, T1, A1 (r + n - 1) (by omega), ?_⟩
  refine ⟨_, rfl, r1 (r + n - 1), _, _, _, rfl, rfl, (B1 (r + n - 1) (c) (by omega) (by omega)).1, (B1 (r + n - 1) (c) (by omega) (by omega)).2, ?_⟩
  refine ⟨_, _, rfl, rfl, ?_⟩
  refine ⟨_, rfl, x, _, _, _, _, rfl, hx, T.k_FrameFinder.cl, T.n_columns, rfl, _, rfl, b, _, _, _, rfl, rfl, T2, A2 (c) (by omega), ?_⟩
  refine ⟨_, rfl, _, _, rfl, rfl, r2 (c), _, _, _, rfl, congrArg V.int i3, (B2 (c) (r + n - 1) (by omega) (by omega)).1, (B2 (c) (r + n - 1) (by omega) (by omega)).2, ?_⟩
  refine ⟨_, rfl, x, _, _, _, _, rfl, hx, T.k_FrameFinder.cl, T.n_columns, rfl, _, rfl, b, _, _, _, rfl, rfl, T2, A2 (c) (by omega), ?_⟩
  refine ⟨_, rfl, _, _, rfl, rfl, r2 (c), _, _, _, rfl, congrArg V.int i5, (B2 (c) (r + 1) (by omega) (by omega)).1, (B2 (c) (r + 1) (by omega) (by omega)).2, ?_⟩
  refine ⟨_, _, rfl, rfl, ?_⟩
  refine ⟨_, rfl, x, _, _, _, _, rfl, hx, T.k_FrameFinder.cl, T.n_columns, rfl, _, rfl, _, _, rfl, rfl, b, _, _, _, rfl, congrArg V.int i4, T2, A2 (c + n - 1) (by omega), ?_⟩
  refine ⟨_, rfl, _, _, rfl, rfl, r2 (c + n - 1), _, _, _, rfl, congrArg V.int i3, (B2 (c + n - 1) (r + n - 1) (by omega) (by omega)).1, (B2 (c + n - 1) (r + n - 1) (by omega) (by omega)).2, ?_⟩
  refine ⟨_, rfl, x, _, _, _, _, rfl, hx, T.k_FrameFinder.cl, T.n_columns, rfl, _, rfl, _, _, rfl, rfl, b, _, _, _, rfl, congrArg V.int i4, T2, A2 (c + n - 1) (by omega), ?_⟩
  refine ⟨_, rfl, _, _, rfl, rfl, r2 (c + n - 1), _, _, _, rfl, congrArg V.int i5, (B2 (c + n - 1) (r + 1) (by omega) (by omega)).1, (B2 (c + n - 1) (r + 1) (by omega) (by omega)).2, ?_⟩
  refine ⟨_, _, rfl, rfl, ?_⟩
  exact ⟨_, rfl, _, rfl, _, _, rfl, rfl, _, rfl, _, _, rfl, rfl, _, rfl, _, _, rfl, rfl, q⟩
end
end K44
set_option maxHeartbeats 4000000
namespace K44
open PySem PySem.Spec PyProof.Rows L2
section
variable {P : Program} {w : World} {K : PySem.W.Frag} {mg : Str → Option Value} {base : Heap}
/-- what a full frame has at least -/
def thrI (n : Nat) : Int := 4 * (n : Int) - 4 - ((n : Int) - 1) / 2
def sp_fpage : Sp := fun vs H Q _ => ∃ (a : Addr) (rs : Nat → Addr) (n h w' r0 c0 : Nat) (f : Nat → Nat → Int), vs = [.int n, .ref a] ∧ Grid H a rs h w' f ∧ 2 ≤ n ∧ h ≤ 60 ∧ w' ≤ 60 ∧ (∀ i j, i < h → j < w' → 0 ≤ f i j ∧ f i j ≤ 2) ∧ r0 + n ≤ h ∧ c0 + n ≤ w' ∧
  (∀ r c, r + n ≤ h → c + n ≤ w' → ¬ (r = r0 ∧ c = c0) → blackC f n r c < thrI n) ∧
  (blackC f n r0 c0 < thrI n → ∀ H', Same H H' → Q .non H') ∧
  (thrI n ≤ blackC f n r0 c0 → ∀ H' p, Same H H' → H' p = some (.tup [.int r0, .int c0]) → Q (.ref p) H')
/-- the list of what was found: nothing, or the one place -/
def Fnd (H : Hp) (D : Addr) (b : Prop) (r0 c0 : Nat) : Prop := (b ∧ ∃ t, H D = some (.lst [.ref t]) ∧ H t = some (.tup [.int r0, .int c0])) ∨ (¬ b ∧ H D = some (.lst []))
theorem Fnd.iff {H : Hp} {D : Addr} {b b' : Prop} {r0 c0 : Nat} (F : Fnd H D b r0 c0) (e : b ↔ b') : Fnd H D b' r0 c0 := by
  rcases F with ⟨hb, x⟩ | ⟨hb, x⟩
  · exact .inl ⟨e.mp hb, x⟩
  · exact .inr ⟨fun z => hb (e.mpr z), x⟩
theorem ok_find_page (T : Tx K mg) : Keeps P w K mg base 4 "find_page" p_find_page sp_fpage := by
  refine T.d_find_page.keeps sc_find_page (fun _ _ _ _ _ _ us hl => match us, hl with | [_, _], _ => rfl) (fun vs H Q E h => by obtain ⟨a, b, _, _, _, _, _, _, rfl, _⟩ := h; rfl) (fun f cdv A outer s H vs Q E hr h => ?_)
  obtain ⟨a, rs, n, h, w', r0, c0, g, rfl, G, hn2, hh, hw, hb, hr0, hc0, hoth, q1, q2⟩ := h
  refine ⟨_, (pss_cons (ps_asg (pcall (ok_check_bed T) (hr.mono (by decide)) (pa_cons (pv 1) pa_nil)) (pg_two K (i := 2) (j := 3) rfl sc_find_page.nd rfl rfl (Or.inl rfl) (Or.inl rfl)))
      (pss_cons (ps_set (i := 4) sc_find_page.nd rfl (Or.inl rfl) (pmake (mk_FrameFinder T) T.k_FrameFinder.mgC (hr.mono (by decide)) (pa_cons (pv 1) pa_nil)))
      (pss_cons (ps_set (i := 5) sc_find_page.nd rfl (Or.inl rfl) (pe_lst pa_nil))
      (pss_cons (ps_for PassesOwn.never rfl (pi_range1 (by rfl) T.b_range (pa_cons (pe_op op_add (pe_op op_sub (pv 2) (pv 0)) pe_int) pa_nil)) (pg_name (i := 6) sc_find_page.nd rfl (Or.inl rfl))
      (pss_one (ps_for PassesOwn.never rfl (pi_range1 (by rfl) T.b_range (pa_cons (pe_op op_add (pe_op op_sub (pv 3) (pv 0)) pe_int) pa_nil)) (pg_name (i := 7) sc_find_page.nd rfl (Or.inl rfl))
      (pss_one (ps_if (pt_cmpR op_ge (pmeth (mt_black T) T.k_FrameFinder.cl (hr.mono (by decide)) (pv 4) (pa_cons (pv 0) (pa_cons (pv 6) (pa_cons (pv 7) pa_nil)))) (pcall (ok_frame_threshold T) (hr.mono (by decide)) (pa_cons (pv 0) pa_nil)) (nomark _)) (pss_one (ps_expr (pe_bm PySem.F.plainAttrs_list PySem.F.slot_list_append PySem.F.type_list_append mt_append (pv 5) (pa_cons (pe_tup (pa_cons (pv 6) (pa_cons (pv 7) pa_nil))) pa_nil)))) pss_nil)))))
      (pss_one (ps_ret (pe_ifExp (pt_cmpR op_eq (pe_callB (lenK K) (by rfl) T.b_len PySem.boot_len (pa_cons (pv 5) pa_nil)) pe_int (nomark _)) (pe_ix (ixL K) (pv 5) pe_int (fun _ _ => rfl)) pe_non))))))), ?_⟩
  refine ⟨_, rfl, a, rs, h, w', g, rfl, G, by omega, hh, by omega, hw, hb, fun H1 tp s1 etp => ?_⟩
  refine ⟨tp, _, rfl, SqT.of etp, rfl, _, _, rfl, _, _, rfl, rfl, ?_⟩
  refine ⟨_, rfl, fun x dx hx hdx hne => ?_⟩
  have sA : Same H1 (upd (upd H1 dx (.own x)) x (.ins (cFF K) dx [])) := L2.Same.trans (same_upd hdx) (same_upd (by rw [upd_ne (Ne.symm hne)]; exact hx))
  refine ⟨x, dx, a, rs, h, w', g, rfl, upd_same, (G.same s1).same sA, by omega, hh, by omega, hw, fun H2 sx ff => ⟨rfl, ?_⟩⟩
  have s2 : Same H1 H2 := sx.to sA hx
  have s12 := L2.Same.trans s1 s2
  refine ⟨Nat.zero_le _, fun D hD => ?_⟩
  have nD := s12.free hD
  have s3 := same_upd (o := .lst []) hD
  have s13 := L2.Same.trans s12 s3
  have ff3 := ff.same s3
  obtain ⟨hit, hhit⟩ : ∃ hit, hit = (thrI n ≤ blackC g n r0 c0) := ⟨_, rfl⟩
  refine ⟨_, rfl, _, rfl, _, _, rfl, rfl, _, _, rfl, rfl, _, rfl, by omega, by omega, ?_⟩
  rw [show ((h : Int) - (n : Int) + 1).toNat = h - n + 1 by omega]
  refine for_range (lo := 0) (n := h - n + 1) (fun i σ H4 => ∃ v6 v7, σ = [some (.int n), some (.ref a), some (.int h), some (.int w'), some (.ref x), some (.ref D), v6, v7] ∧ Same H2 H4 ∧ Fnd H4 D (hit ∧ r0 < i) r0 c0) ⟨none, none, rfl, s3, .inr ⟨fun z => Nat.not_lt_zero _ z.2, upd_same⟩⟩ ?_ ?_
  · rintro i σ H4 hi ⟨v6, v7, rfl, s4, F⟩
    rw [Int.zero_add]
    refine ⟨_, rfl, _, rfl, _, _, rfl, rfl, _, _, rfl, rfl, _, rfl, by omega, by omega, ?_⟩
    rw [show ((w' : Int) - (n : Int) + 1).toNat = w' - n + 1 by omega]
    refine for_range (lo := 0) (n := w' - n + 1) (fun j σ H4 => ∃ v7, σ = [some (.int n), some (.ref a), some (.int h), some (.int w'), some (.ref x), some (.ref D), some (.int i), v7] ∧ Same H2 H4 ∧ Fnd H4 D (hit ∧ (r0 < i ∨ (r0 = i ∧ c0 < j))) r0 c0) ⟨_, rfl, s4, F.iff ⟨fun z => ⟨z.1, .inl z.2⟩, fun z => ⟨z.1, by omega⟩⟩⟩ ?_ ?_
    · rintro j σ H5 hj ⟨v7, rfl, s5, F5⟩
      rw [Int.zero_add]
      have ff5 := ff.same s5
      have ff5b := ff5
      obtain ⟨dx5, a5, b5, _, _, e5, _, _⟩ := ff5b
      refine ⟨_, rfl, x, dx5, _, rfl, e5, rfl, _, rfl, _, rfl, _, rfl, x, h, w', n, i, j, g, rfl, ff5, hn2, by omega, by omega, ?_⟩
      refine ⟨_, rfl, (n : Int), rfl, _, _, rfl, rfl, _, rfl, ite2 (fun e => ?_) (fun e => ?_)⟩
      · have hge : thrI n ≤ blackC g n i j := of_decide_eq_true e
        have hij : i = r0 ∧ j = c0 := by
          apply Classical.byContradiction
          intro hne
          have := hoth i j (by omega) (by omega) hne
          omega
        obtain ⟨rfl, rfl⟩ := hij
        have hh : hit := by rw [hhit]; exact hge
        have hempty : H5 D = some (.lst []) := by
          rcases F5 with ⟨⟨_, z⟩, _⟩ | ⟨_, z⟩
          · omega
          · exact z
        refine ⟨_, rfl, .inl ⟨rfl, _, SqL.of hempty⟩, _, rfl, _, rfl, by show 2 ≤ sizeLine; decide, fun t ht => ?_⟩
        have s6 := same_upd (o := .tup [.int i, .int j]) ht
        have htD : t ≠ D := fun e => by rw [e, hempty] at ht; cases ht
        refine ⟨D, _, _, rfl, rfl, s6 _ _ hempty, szl (by decide), ?_⟩
        exact ⟨_, rfl, same_mut (L2.Same.trans s5 s6) hD, .inl ⟨⟨hh, .inr ⟨rfl, Nat.lt_succ_self _⟩⟩, t, by rw [upd_same]; rfl, by rw [upd_ne htD, upd_same]⟩⟩
      · have hlt : ¬ thrI n ≤ blackC g n i j := fun z => e (decide_eq_true z)
        refine ⟨_, rfl, s5, F5.iff ⟨fun z => ⟨z.1, by omega⟩, fun z => ⟨z.1, ?_⟩⟩⟩
        obtain ⟨z1, z2⟩ := z
        rcases z2 with z2 | ⟨z2, z3⟩
        · exact .inl z2
        · refine .inr ⟨z2, ?_⟩
          apply Classical.byContradiction
          intro z4
          have : c0 = j := by omega
          rw [hhit] at z1
          rw [← z2, ← this] at hlt
          exact hlt z1
    · rintro σ H5 ⟨v7, rfl, s5, F5⟩
      exact ⟨_, _, rfl, s5, F5.iff ⟨fun z => ⟨z.1, by omega⟩, fun z => ⟨z.1, by omega⟩⟩⟩
  · rintro σ H4 ⟨v6, v7, rfl, s4, F⟩
    have sE := L2.Same.trans s12 s4
    rcases F with ⟨⟨z1, z2⟩, t, e1, e2⟩ | ⟨z, e1⟩
    · refine ⟨_, rfl, D, _, rfl, .inl (SqL.of e1), rfl, _, rfl, ite2 (fun _ => ?_) (fun e => absurd (decide_eq_true rfl) e)⟩
      rw [hhit] at z1
      exact ⟨_, rfl, D, _, 0, _, rfl, rfl, SqL.of e1, rfl, q2 z1 H4 t sE e2⟩
    · refine ⟨_, rfl, D, _, rfl, .inl (SqL.of e1), rfl, _, rfl, ite2 (fun e => ?_) (fun e => ?_)⟩
      · have := of_decide_eq_true e
        injection this with this
        exact absurd this (by decide)
      · refine q1 ?_ H4 sE
        apply Classical.byContradiction
        intro hno
        exact z ⟨by rw [hhit]; omega, by omega⟩
end
end K44
set_option maxHeartbeats 4000000
namespace K44
open PySem PySem.Spec PyProof.Rows L2
section
variable {P : Program} {w : World} {K : PySem.W.Frag} {mg : Str → Option Value} {base : Heap}
def oppN (t : Nat) : Nat := if 4 ≤ t then t else (4 - t) % 4
theorem oppN_eq : ∀ t : Fin 8, opp (t.val : Int) = (oppN t.val : Int) ∧ oppN t.val < 8 := by decide
/-- the bed's square -/
def sqr (f : Nat → Nat → Int) (r c : Nat) : Nat → Nat → Int := fun i j => f (r + i) (c + j)
def Seen (n t0 r0 c0 : Nat) (f : Nat → Nat → Int) : Prop := thrI n ≤ blackC f n r0 c0 ∧ ∀ t, t < 8 → t ≠ t0 → ∃ p ∈ ringP n 1, at2 (sqr f r0 c0) p ≠ 2 ∧ at2 (trn n t (markP n)) p ≠ at2 (trn n t0 (markP n)) p
/-- what is known of a torn bed: the page of n rows lies at r0 c0, turned by t0 -/
structure Bed (n h w' r0 c0 t0 : Nat) (f : Nat → Nat → Int) : Prop where
  n16 : 16 ≤ n
  n22 : n ≤ 22
  h60 : h ≤ 60
  w60 : w' ≤ 60
  cell : ∀ i j, i < h → j < w' → 0 ≤ f i j ∧ f i j ≤ 2
  r : r0 + n ≤ h
  c : c0 + n ≤ w'
  t8 : t0 < 8
  oth : ∀ r c, r + n ≤ h → c + n ≤ w' → ¬ (r = r0 ∧ c = c0) → blackC f n r c < thrI n
  mark : ∀ p ∈ ringP n 1, at2 (sqr f r0 c0) p = 2 ∨ at2 (sqr f r0 c0) p = at2 (trn n t0 (markP n)) p
def sp_upright : Sp := fun vs H Q _ => ∃ (a : Addr) (rs : Nat → Addr) (n h w' r0 c0 t0 : Nat) (f : Nat → Nat → Int), vs = [.int n, .ref a] ∧ Grid H a rs h w' f ∧ Bed n h w' r0 c0 t0 f ∧
  (¬ Seen n t0 r0 c0 f → ∀ H', Same H H' → Q .non H') ∧
  (Seen n t0 r0 c0 f → ∀ H' p rs', Same H H' → Grid H' p rs' n n (trn n (oppN t0) (sqr f r0 c0)) → Q (.ref p) H')
theorem ok_upright (T : Tx K mg) : Keeps P w K mg base 5 "upright" p_upright sp_upright := by
  refine T.d_upright.keeps sc_upright (fun _ _ _ _ _ _ us hl => match us, hl with | [_, _], _ => rfl) (fun vs H Q E h => by obtain ⟨a, b, _, _, _, _, _, _, _, rfl, _⟩ := h; rfl) (fun f cdv A outer s H vs Q E hr h => ?_)
  obtain ⟨a, rs, n, h, w', r0, c0, t0, g, rfl, G, B, q1, q2⟩ := h
  have := B.n16; have := B.n22; have := B.h60; have := B.w60; have := B.r; have := B.c; have ht8 := B.t8
  refine ⟨_, (pss_cons (ps_set (i := 2) sc_upright.nd rfl (Or.inl rfl) (pcall (ok_find_page T) (hr.mono (by decide)) (pa_cons (pv 0) (pa_cons (pv 1) pa_nil))))
      (pss_cons (ps_if (pt_cmpR op_isN (pv 2) pe_non (nomark _)) (pss_one (ps_ret pe_non)) pss_nil)
      (pss_cons (ps_asg (pv 2) (pg_two K (i := 3) (j := 4) rfl sc_upright.nd rfl rfl (Or.inl rfl) (Or.inr rfl)))
      (pss_cons (ps_setLc (i := 5) (own := [("line", 6)]) rfl sc_upright.nd rfl rfl (sw_true rfl rfl rfl (by decide +kernel)) (piL K (pe_slice (slL K) (pv 1) (po_some (pv 3)) (po_some (pe_op op_add (pv 3) (pv 0))))) (blkOk_by (by kernel_rfl)) (fun _ _ _ _ _ => (pg_name (i := 6) sc_upright.nd rfl (Or.inl rfl))) (fun _ _ _ _ _ => pts_nil) (fun _ _ _ _ _ => (pe_callTy (listK K) (by rfl) T.b_list (by decide +kernel) (pa_cons (pe_slice (slL K) (pv 6) (po_some (pv 4)) (po_some (pe_op op_add (pv 4) (pv 0)))) pa_nil))))
      (pss_cons (ps_set (i := 7) sc_upright.nd rfl (Or.inl rfl) (pcall (ok_find_turn T) (hr.mono (by decide)) (pa_cons (pv 5) pa_nil)))
      (pss_one (ps_ret (pe_ifExp (pt_cmpR op_isN (pv 7) pe_non (nomark _)) pe_non (pcall (ok_turned T) (hr.mono (by decide)) (pa_cons (pv 5) (pa_cons (pcall (ok_opposite T) (hr.mono (by decide)) (pa_cons (pv 7) pa_nil)) pa_nil))))))))))), ?_⟩
  refine ⟨_, rfl, _, rfl, a, rs, n, h, w', r0, c0, g, rfl, G, by omega, by omega, by omega, B.cell, B.r, B.c, B.oth, fun hlt H1 s1 => ?_, fun hge H1 tp s1 etp => ?_⟩
  · refine ⟨_, rfl, rfl, _, rfl, iteT (q1 (fun z => ?_) _ s1)⟩
    have := z.1
    omega
  · refine ⟨_, rfl, rfl, _, rfl, iteF ?_⟩
    refine ⟨_, rfl, tp, _, rfl, SqT.of etp, rfl, _, _, rfl, _, _, rfl, rfl, ?_⟩
    have G1 := G.same s1
    have i1 : (r0 : Int) + (n : Int) = ((r0 + n : Nat) : Int) := by omega
    have i2 : (c0 : Int) + (n : Int) = ((c0 + n : Nat) : Int) := by omega
    refine ⟨_, rfl, _, rfl, (r0 : Int), rfl, _, rfl, _, rfl, _, _, rfl, rfl, (r0 : Int) + (n : Int), rfl, a, _, rfl, SqL.of G1.top, fun t ht => ?_⟩
    rw [i1, refV_tab, cut_tab (by omega) (by omega), show r0 + n - r0 = n by omega]
    have s2 := same_upd (o := .lst (tabV (fun j => V.ref (rs (r0 + j))) n)) ht
    have G2 := G1.same s2
    refine ⟨t, rfl, ⟨_, SqL.of upd_same⟩, fun D hD => ?_⟩
    refine lc_list (K := K) (a := t) (xs := tabV (fun j => V.ref (rs (r0 + j))) n) (fun i H3 => ∃ r3, Rows (upd H1 t (.lst (tabV (fun j => V.ref (rs (r0 + j))) n))) H3 D r3 i n (sqr g r0 c0)) ⟨fun _ => 0, Rows.start hD (Same.refl _)⟩ (fun i H3 _ z => by obtain ⟨r3, z⟩ := z; exact SqL.of (z.same _ _ upd_same)) (fun i x H3 hi z => ?_) fun H3 z => ?_
    · obtain ⟨r3, R⟩ := z
      have hk : i < n := by have := (List.getElem?_eq_some_iff.mp hi).1; rwa [tabV_len] at this
      rw [tabV_get hk] at hi
      obtain rfl := Option.some.inj hi
      have hrow := R.same _ _ (G2.row (r0 + i) (by omega))
      refine ⟨rfl, _, rfl, _, rfl, (c0 : Int), rfl, _, rfl, _, rfl, _, _, rfl, rfl, (c0 : Int) + (n : Int), rfl, rs (r0 + i), _, rfl, SqL.of hrow, fun u hu => ?_⟩
      rw [i2, rowV_tab, cut_tab (by omega) (by omega), show c0 + n - c0 = n by omega]
      have s3 := same_upd (o := .lst (tabV (fun j => V.int (g (r0 + i) (c0 + j))) n)) hu
      refine ⟨u, _, rfl, .inl (SqL.of upd_same), fun z hz => ?_⟩
      have s4 := same_upd (o := .lst (tabV (fun j => V.int (g (r0 + i) (c0 + j))) n)) hz
      obtain ⟨p1, p2⟩ := R.push (L2.Same.trans s3 s4) (s3.free hz) (by rw [upd_same]; rfl)
      exact ⟨_, p1, szl (by rw [refV_len]; omega), _, p2⟩
    · obtain ⟨r3, R⟩ := z
      rw [tabV_len] at R
      obtain ⟨s3, nD, G3⟩ := R.to
      have s13 := L2.Same.trans s1 (L2.Same.trans s2 s3)
      refine ⟨_, rfl, D, n, t0, r3, sqr g r0 c0, rfl, B.n16, B.n22, B.t8, G3, B.mark, fun hu H4 s4 => ?_, fun hu H4 s4 => ?_⟩
      · refine ⟨_, rfl, rfl, _, rfl, iteT (q1 (fun z => ?_) _ (L2.Same.trans s13 s4))⟩
        obtain ⟨t, h1, h2, h3⟩ := hu
        obtain ⟨p, p1, p2, p3⟩ := z.2 t h1 h2
        exact (h3 p p1).elim p2 p3
      · refine ⟨_, rfl, rfl, _, rfl, iteF ?_⟩
        obtain ⟨o1, o2⟩ := oppN_eq ⟨t0, ht8⟩
        dsimp only at o1 o2
        refine ⟨_, rfl, _, rfl, (t0 : Int), rfl, by omega, by omega, ?_⟩
        rw [o1]
        exact ⟨D, oppN t0, n, r3, sqr g r0 c0, rfl, o2, by omega, by omega, G3.same s4, fun H5 p rs' s5 hp G5 => q2 ⟨hge, hu⟩ _ p rs' (L2.Same.trans s13 (L2.Same.trans s4 s5)) G5⟩
def sp_scan (K : PySem.W.Frag) : Sp := fun vs H Q _ => ∃ (fa a : Addr) (rs : Nat → Addr) (n k h w' r0 c0 t0 : Nat) (f : Nat → Nat → Int) (hid : Nat → Nat → Bool) (all body : List G) (L : Lab), vs = [.ref fa, .ref a] ∧ FormAt K H fa n (16 - k) ∧ Grid H a rs h w' f ∧ Bed n h w' r0 c0 t0 f ∧
  (∀ wd j, wd < nW n → j < 16 → symV (cellAt n (trn n (oppN t0) (sqr f r0 c0)) (j * nW n + wd)) = if hid wd j then .non else gV (cwf (gat (wordL all k wd)) k j)) ∧
  k ≤ 16 ∧ all.length = nW n * k ∧ L.Ok ∧ 8 ≤ k ∧ all = L.syms ++ List.replicate (k - 8) 0 ++ body ∧
  (¬ (Seen n t0 r0 c0 f ∧ ∀ wd, wd < nW n → k ≤ (vis (hid wd) 16).length) → ∀ H', Same H H' → Q .non H') ∧
  (Seen n t0 r0 c0 f → (∀ wd, wd < nW n → k ≤ (vis (hid wd) 16).length) → ∀ H' p lt bl, Same H H' → H' p = some (.tup [.ref lt, .ref bl]) → H' lt = some (.tup L.vs) → H' bl = some (.lst (gsV body)) → Q (.ref p) H')
theorem trn_sq {n t : Nat} {f : Nat → Nat → Int} {R : Int → Prop} (h : ∀ i j, i < n → j < n → R (f i j)) : ∀ i j, i < n → j < n → R (trn n t f i j) := by
  unfold trn
  have h0 : ∀ i j, i < n → j < n → R ((if 4 ≤ t then flipF n f else f) i j) := fun i j hi hj => by
    split
    · exact h i (n - 1 - j) hi (by omega)
    · exact h i j hi hj
  generalize (if 4 ≤ t then flipF n f else f) = f0 at h0
  generalize t % 4 = k
  induction k with
  | zero => exact h0
  | succ k ih => exact fun i j hi hj => ih (n - 1 - j) i (by omega) hi
theorem ok_read_scan (T : Tx K mg) : Keeps P w K mg base 7 "read_scan" p_read_scan (sp_scan K) := by
  refine T.d_read_scan.keeps sc_read_scan (fun _ _ _ _ _ _ us hl => match us, hl with | [_, _], _ => rfl) (fun vs H Q E h => by obtain ⟨a, b, _, _, _, _, _, _, _, _, _, _, _, _, _, rfl, _⟩ := h; rfl) (fun f cdv A outer s H vs Q E hr h => ?_)
  obtain ⟨fa, a, rs, n, k, h, w', r0, c0, t0, g, hid, all, body, L, rfl, hf, G, B, hrec, hk16, hal, hL, hk8, eall, q1, q2⟩ := h
  have hf0 := hf
  obtain ⟨_, dx, hx⟩ := hf0
  have := B.r; have := B.c
  refine ⟨_, (pss_cons (ps_set (i := 2) sc_read_scan.nd rfl (Or.inl rfl) (pcall (ok_upright T) (hr.mono (by decide)) (pa_cons (fldK K (pv 0) rfl) (pa_cons (pv 1) pa_nil))))
      (pss_one (ps_ret (pe_ifExp (pt_cmpR op_isN (pv 2) pe_non (nomark _)) pe_non (pcall (ok_read_page T) (hr.mono (by decide)) (pa_cons (pv 0) (pa_cons (pv 2) pa_nil))))))), ?_⟩
  refine ⟨_, rfl, fa, _, _, _, _, rfl, hx, T.k_Format.cl, T.n_side, rfl, _, rfl, a, rs, n, h, w', r0, c0, t0, g, rfl, G, B, fun hns H1 s1 => ?_, fun hs H1 p r1 s1 G1 => ?_⟩
  · exact ⟨_, rfl, rfl, _, rfl, iteT (q1 (fun z => hns z.1) _ s1)⟩
  · refine ⟨_, rfl, rfl, _, rfl, iteF ?_⟩
    refine ⟨_, rfl, _, rfl, fa, p, n, k, r1, _, hid, all, body, L, rfl, hf.same s1, B.n16, B.n22, G1, ?_, hrec, hk16, hal, hL, hk8, eall, fun hno H2 s2 => ?_, fun hv H2 t lt bl s2 e1 e2 e3 => ?_⟩
    · exact trn_sq (R := fun z => 0 ≤ z ∧ z ≤ 2) fun i j hi hj => B.cell (r0 + i) (c0 + j) (by omega) (by omega)
    · obtain ⟨wd, h1, h2⟩ := hno
      exact q1 (fun z => by have := z.2 wd h1; omega) _ (L2.Same.trans s1 s2)
    · exact q2 hs hv _ t lt bl (L2.Same.trans s1 s2) e1 e2 e3
end
end K44
set_option maxHeartbeats 4000000
namespace K44
open PySem PySem.Spec PyProof.Rows L2
section
variable {P : Program} {w : World} {K : PySem.W.Frag} {mg : Str → Option Value} {base : Heap}
/-! ### rings, by their cells -/
def OnR (s k : Int) (p : Int × Int) : Prop := (p.1 = k ∨ p.2 = k ∨ p.1 = s - 1 - k ∨ p.2 = s - 1 - k) ∧ k ≤ p.1 ∧ p.1 ≤ s - 1 - k ∧ k ≤ p.2 ∧ p.2 ≤ s - 1 - k
theorem ringP_on {s k : Int} (h : 2 * k + 1 < s) {p : Int × Int} : p ∈ ringP s k ↔ OnR s k p := by
  unfold ringP OnR
  simp only [List.mem_append, side_mem]
  constructor
  · rintro (((⟨j, hj, rfl⟩ | ⟨j, hj, rfl⟩) | ⟨j, hj, rfl⟩) | ⟨j, hj, rfl⟩)
    all_goals (dsimp only; omega)
  · obtain ⟨a, b⟩ := p
    dsimp only
    rintro ⟨h0, h1, h2, h3, h4⟩
    by_cases e1 : a = k ∧ b < s - 1 - k
    · exact .inl (.inl (.inl ⟨(b - k).toNat, by omega, by rw [Prod.mk.injEq]; omega⟩))
    by_cases e2 : b = s - 1 - k ∧ a < s - 1 - k
    · exact .inl (.inl (.inr ⟨(a - k).toNat, by omega, by rw [Prod.mk.injEq]; omega⟩))
    by_cases e3 : a = s - 1 - k ∧ k < b
    · exact .inl (.inr ⟨(s - 1 - k - b).toNat, by omega, by rw [Prod.mk.injEq]; omega⟩)
    exact .inr ⟨(s - 1 - k - a).toNat, by omega, by rw [Prod.mk.injEq]; omega⟩
theorem lring_cnt (P : Int × Int → Bool) (s k : Int) : ∀ m, (lring s k m).countP P = (sideP m fun j => (k, k + j)).countP P + (sideP m fun j => (k + j, s - 1 - k)).countP P + (sideP m fun j => (s - 1 - k, s - 1 - k - j)).countP P + (sideP m fun j => (s - 1 - k - j, k)).countP P
  | 0 => rfl
  | m + 1 => by
    show (lring s k m ++ _).countP P = _
    rw [List.countP_append, lring_cnt P s k m, sideP_succ, sideP_succ, sideP_succ, sideP_succ, List.countP_append, List.countP_append, List.countP_append, List.countP_append,
      show ∀ a b c d : Int × Int, [a, b, c, d].countP P = [a].countP P + [b].countP P + [c].countP P + [d].countP P from fun a b c d => by simp only [List.countP_cons, List.countP_nil]; omega,
      show s - 1 - (k + (m : Int)) = s - 1 - k - m by omega]
    omega
theorem ring_cnt (P : Int × Int → Bool) (s k : Int) : (lring s k (s - 1 - k - k).toNat).countP P = (ringP s k).countP P := by
  rw [lring_cnt]
  unfold ringP
  rw [List.countP_append, List.countP_append, List.countP_append]
theorem lring_mem {s k : Int} {p : Int × Int} : p ∈ lring s k (s - 1 - k - k).toNat ↔ p ∈ ringP s k := by
  have h := ring_cnt (fun q => decide (q = p)) s k
  rw [← List.countP_pos_iff (p := fun q => decide (q = p)) |>.trans (show (∃ a ∈ lring s k (s - 1 - k - k).toNat, decide (a = p) = true) ↔ p ∈ _ from ⟨fun ⟨a, ha, e⟩ => by rw [← of_decide_eq_true e]; exact ha, fun h => ⟨p, h, decide_eq_true rfl⟩⟩),
    ← List.countP_pos_iff (p := fun q => decide (q = p)) |>.trans (show (∃ a ∈ ringP s k, decide (a = p) = true) ↔ p ∈ _ from ⟨fun ⟨a, ha, e⟩ => by rw [← of_decide_eq_true e]; exact ha, fun h => ⟨p, h, decide_eq_true rfl⟩⟩), h]
/-! ### pages -/
def bitI (c : G) (k : Nat) : Int := Builtin.bitAnd ((c.v.val : Int) / 2 ^ (3 - (k : Int)).toNat) 1
theorem bit01' : ∀ c : Fin 16, ∀ k : Fin 4, bitI ⟨c⟩ k.val = 0 ∨ bitI ⟨c⟩ k.val = 1 := by decide +kernel
theorem bit01 (c : G) {k : Nat} (h : k < 4) : bitI c k = 0 ∨ bitI c k = 1 := bit01' c.v ⟨k, h⟩
theorem bits_sym' : ∀ c : Fin 16, symI (bitI ⟨c⟩) 4 = (c.val : Int) := by decide +kernel
theorem bits_sym (c : G) : symI (bitI c) 4 = (c.v.val : Int) := bits_sym' c.v
/-- a drawn page -/
structure Page (n cnt : Nat) (cf : Nat → Nat → G) (f : Nat → Nat → Int) : Prop where
  b01 : ∀ i j, i < n → j < n → f i j = 0 ∨ f i j = 1
  r0 : ∀ p ∈ ringP n 0, at2 f p = 1
  r1 : ∀ p ∈ ringP n 1, at2 f p = at2 (markP n) p
  cell : ∀ wd j k, wd < cnt → j < 16 → k < 4 → cellAt n f (j * cnt + wd) k = bitI (cf wd j) k
theorem Rows.put {H0 H : Hp} {D : Addr} {rs : Nat → Addr} {n m : Nat} {f : Nat → Nat → Int} (R : Rows H0 H D rs n m f) {i j : Nat} {v : Int} (hi : i < n) (hj : j < m) : Rows H0 (upd H (rs i) (.lst ((rowV (f i) m).set j (.int v)))) D rs n m (fun p q => if p = i ∧ q = j then v else f p q) := by
  rw [rowV_set]
  exact ⟨R.grid.put hi hj, R.new, R.newD, R.ne, same_mut R.same (R.new i hi)⟩
theorem rep_zero (n : Nat) : (List.replicate n [V.int 0]).flatten = rowV (fun _ => 0) n := by
  unfold rowV
  rw [List.flatten_replicate_singleton]
  apply List.ext_getElem
  · simp
  · intro i h1 h2
    simp
/-- the stored cell of a row -/
theorem ixN_nat {n j : Nat} (h : j < n) : ixN n (j : Int) = some j := by
  unfold ixN
  rw [if_pos (by omega), if_pos (by omega), Int.toNat_natCast]
/-- a list of pairs, while rows change -/
structure PrAt (H : Hp) (R : Addr) (vs : List V) (ps : List (Int × Int)) : Prop where
  at_ : H R = some (.lst vs)
  prs : Paired (IsPr H) vs ps
theorem PrAt.put {H : Hp} {R a : Addr} {vs : List V} {ps : List (Int × Int)} {xs ys : List V} (P : PrAt H R vs ps) (h : H a = some (.lst xs)) (ne : R ≠ a) : PrAt (upd H a (.lst ys)) R vs ps := ⟨by rw [upd_ne ne]; exact P.at_, prs_mut h P.prs⟩
theorem PrAt.same {H H' : Hp} {R : Addr} {vs : List V} {ps : List (Int × Int)} (P : PrAt H R vs ps) (s : Same H H') : PrAt H' R vs ps := ⟨s _ _ P.at_, prs_same s P.prs⟩
end
end K44
set_option maxHeartbeats 4000000
namespace K44
open PySem PySem.Spec PyProof.Rows L2
section
variable {P : Program} {w : World} {K : PySem.W.Frag} {mg : Str → Option Value} {base : Heap}
theorem ringP_len2 {n : Nat} {k : Int} : (ringP n k).length = 4 * ((n : Int) - 1 - k - k).toNat := ringP_len
/-- the loops of a page's rings: what is stored at the cells of ps -/
def RingDone (ps : List (Int × Int)) (v : Int × Int → Int) (i : Nat) (f : Nat → Nat → Int) : Prop := ∀ q p, q < i → ps[q]? = some p → at2 f p = v p
def setF (f : Nat → Nat → Int) (a b : Nat) (v : Int) : Nat → Nat → Int := fun p q => if p = a ∧ q = b then v else f p q
theorem RingDone.step {ps : List (Int × Int)} {v : Int × Int → Int} {i : Nat} {f : Nat → Nat → Int} {a b : Nat} (R : RingDone ps v i f) (h : ps[i]? = some ((a : Int), (b : Int))) (nn : ∀ p ∈ ps, 0 ≤ p.1 ∧ 0 ≤ p.2) : RingDone ps v (i + 1) (setF f a b (v (a, b))) := fun q p hq hp => by
  obtain ⟨x, y⟩ := p
  obtain ⟨n1, n2⟩ := nn _ (List.mem_of_getElem? hp)
  dsimp only at n1 n2
  obtain ⟨x', rfl⟩ : ∃ x' : Nat, x = x' := ⟨x.toNat, by omega⟩
  obtain ⟨y', rfl⟩ : ∃ y' : Nat, y = y' := ⟨y.toNat, by omega⟩
  show (if x' = a ∧ y' = b then _ else f x' y') = _
  by_cases e : x' = a ∧ y' = b
  · rw [if_pos e, e.1, e.2]
  · rw [if_neg e]
    by_cases e2 : q = i
    · subst e2
      rw [h] at hp
      injection hp with hp
      injection hp with h1 h2
      exact absurd ⟨by omega, by omega⟩ e
    · exact R q _ (by omega) hp
theorem RingDone.all {ps : List (Int × Int)} {v : Int × Int → Int} {n : Nat} {f : Nat → Nat → Int} (R : RingDone ps v n f) (h : ps.length ≤ n) : ∀ p ∈ ps, at2 f p = v p := fun p hp => by
  obtain ⟨q, hq⟩ := List.mem_iff_getElem?.mp hp
  have := (List.getElem?_eq_some_iff.mp hq).1
  exact R q p (by omega) hq
theorem setF_off {f : Nat → Nat → Int} {a b : Nat} {v : Int} {p : Int × Int} (h0 : 0 ≤ p.1) (h1 : 0 ≤ p.2) (h : ¬ (p.1 = a ∧ p.2 = b)) : at2 (setF f a b v) p = at2 f p := by
  show (if p.1.toNat = a ∧ p.2.toNat = b then v else _) = _
  rw [if_neg]
  rintro ⟨e1, e2⟩
  exact h ⟨by omega, by omega⟩
theorem setF_01 {f : Nat → Nat → Int} {n a b : Nat} {v : Int} (h : ∀ i j, i < n → j < n → f i j = 0 ∨ f i j = 1) (hv : v = 0 ∨ v = 1) : ∀ i j, i < n → j < n → setF f a b v i j = 0 ∨ setF f a b v i j = 1 := fun i j hi hj => by
  unfold setF
  split
  · exact hv
  · exact h i j hi hj
/-- the cells that stand after t stores -/
def CellDone (n cnt : Nat) (cf : Nat → Nat → G) (t : Nat) (f : Nat → Nat → Int) : Prop := ∀ wd j k, wd < cnt → j < 16 → k < 4 → (wd * 16 + j) * 4 + k < t → cellAt n f (j * cnt + wd) k = bitI (cf wd j) k
theorem cell_in {n cnt wd j k : Nat} (h64 : 64 * cnt ≤ (n - 4) * (n - 4)) (hw : wd < cnt) (hj : j < 16) (hk : k < 4) : (4 * (j * cnt + wd) + k) / (n - 4) < n - 4 ∧ (4 * (j * cnt + wd) + k) % (n - 4) < n - 4 := by
  have h1 : j * cnt + wd < 16 * cnt := by
    have := Nat.mul_le_mul_right cnt (show j + 1 ≤ 16 by omega)
    rw [Nat.add_mul, Nat.one_mul] at this
    omega
  have h2 : 4 * (j * cnt + wd) + k < (n - 4) * (n - 4) := by omega
  have h3 : 0 < n - 4 := by
    rcases Nat.eq_zero_or_pos (n - 4) with e | e
    · rw [e] at h2; omega
    · exact e
  exact ⟨Nat.div_lt_of_lt_mul h2, Nat.mod_lt _ h3⟩
theorem CellDone.step {n cnt : Nat} {cf : Nat → Nat → G} {wd j k : Nat} {f : Nat → Nat → Int} (C : CellDone n cnt cf ((wd * 16 + j) * 4 + k) f) (hw : wd < cnt) (hj : j < 16) (hk : k < 4) (hn : 4 < n) :
    CellDone n cnt cf ((wd * 16 + j) * 4 + (k + 1)) (setF f (2 + (4 * (j * cnt + wd) + k) / (n - 4)) (2 + (4 * (j * cnt + wd) + k) % (n - 4)) (bitI (cf wd j) k)) := fun wd' j' k' hw' hj' hk' ht => by
  show (if 2 + (4 * (j' * cnt + wd') + k') / (n - 4) = _ ∧ 2 + (4 * (j' * cnt + wd') + k') % (n - 4) = _ then _ else cellAt n f (j' * cnt + wd') k') = _
  by_cases e : 2 + (4 * (j' * cnt + wd') + k') / (n - 4) = 2 + (4 * (j * cnt + wd) + k) / (n - 4) ∧ 2 + (4 * (j' * cnt + wd') + k') % (n - 4) = 2 + (4 * (j * cnt + wd) + k) % (n - 4)
  · rw [if_pos e]
    have e1 : (4 * (j' * cnt + wd') + k') / (n - 4) = (4 * (j * cnt + wd) + k) / (n - 4) := by omega
    have e2 : (4 * (j' * cnt + wd') + k') % (n - 4) = (4 * (j * cnt + wd) + k) % (n - 4) := by omega
    have e3 : 4 * (j' * cnt + wd') + k' = 4 * (j * cnt + wd) + k := by rw [← Nat.div_add_mod (4 * (j' * cnt + wd') + k') (n - 4), e1, e2, Nat.div_add_mod]
    have e4 : k' = k := by omega
    have e5 : j' * cnt + wd' = j * cnt + wd := by omega
    have e6 : wd' = wd := by
      have := congrArg (· % cnt) e5
      simpa [Nat.mod_eq_of_lt hw', Nat.mod_eq_of_lt hw] using this
    have e7 : j' = j := by
      have : j' * cnt = j * cnt := by omega
      exact Nat.eq_of_mul_eq_mul_right (by omega) this
    rw [e4, e6, e7]
  · rw [if_neg e]
    refine C wd' j' k' hw' hj' hk' ?_
    by_cases z : wd' = wd ∧ j' = j ∧ k' = k
    · obtain ⟨rfl, rfl, rfl⟩ := z
      exact absurd ⟨rfl, rfl⟩ e
    · omega
theorem placeP_get {n p k : Nat} (hn : 4 ≤ n) (hk : k < 4) : (placeP n p)[k]? = some (((2 + (4 * p + k) / (n - 4) : Nat) : Int), ((2 + (4 * p + k) % (n - 4) : Nat) : Int)) := by
  unfold placeP sideP
  rw [List.getElem?_map, List.getElem?_range hk]
  have e : (n : Int) - 4 = ((n - 4 : Nat) : Int) := by omega
  simp [e]
end
end K44
set_option maxHeartbeats 4000000
namespace K44
open PySem PySem.Spec PyProof.Rows L2
section
variable {P : Program} {w : World} {K : PySem.W.Frag} {mg : Str → Option Value} {base : Heap}
def sp_draw : Sp := fun vs H Q _ => ∃ (c : Addr) (ls : Nat → Addr) (n cnt : Nat) (cf : Nat → Nat → G), vs = [.int n, .ref c] ∧ 16 ≤ n ∧ n ≤ 22 ∧ Lists H c ls cnt (fun wd => rowV (gr (cf wd)) 16) ∧ 64 * cnt ≤ (n - 4) * (n - 4) ∧
  ∀ H' p rs f, Same H H' → H p = none → Grid H' p rs n n f → Page n cnt cf f → Q (.ref p) H'
theorem ok_law_draw (T : Tx K mg) : Keeps P w K mg base 2 "_law_draw" p__law_draw sp_draw := by
  refine T.d__law_draw.keeps sc__law_draw (fun _ _ _ _ _ _ us hl => match us, hl with | [_, _], _ => rfl) (fun vs H Q E h => by obtain ⟨a, b, _, _, _, rfl, _⟩ := h; rfl) (fun f cdv A outer s H vs Q E hr h => ?_)
  obtain ⟨c, ls, n, cnt, cf, rfl, h16, h22, LL, h64, q⟩ := h
  have hmm : (n - 4) * (n - 4) ≤ 18 * 18 := Nat.mul_le_mul (by omega) (by omega)
  refine ⟨_, (pss_cons (ps_setLc (i := 2) (own := [("_law_k", 3)]) rfl sc__law_draw.nd rfl rfl (sw_true rfl rfl rfl (by decide +kernel)) (pi_range1 (by rfl) T.b_range (pa_cons (pv 0) pa_nil)) (blkOk_by (by kernel_rfl)) (fun _ _ _ _ _ => (pg_name (i := 3) sc__law_draw.nd rfl (Or.inl rfl))) (fun _ _ _ _ _ => pts_nil) (fun _ _ _ _ _ => (pe_op op_rep (pe_lst (pa_cons pe_int pa_nil)) (pv 0))))
      (pss_cons (ps_for PassesOwn.never rfl (piL K (pcall (ok_law_ring T) (hr.mono (by decide)) (pa_cons (pv 0) (pa_cons pe_int pa_nil)))) (pg_two K (i := 4) (j := 5) rfl sc__law_draw.nd rfl rfl (Or.inl rfl) (Or.inl rfl))
      (pss_one (ps_asg pe_int (pg_sub (pe_ix (ixL K) (pv 2) (pv 4) (fun _ _ => rfl)) (pv 5) set_list))))
      (pss_cons (ps_for PassesOwn.never rfl (piL K (pcall (ok_law_ring T) (hr.mono (by decide)) (pa_cons (pv 0) (pa_cons pe_int pa_nil)))) (pg_two K (i := 4) (j := 5) rfl sc__law_draw.nd rfl rfl (Or.inl rfl) (Or.inl rfl))
      (pss_one (ps_asg (pcall (ok_law_mark T) (hr.mono (by decide)) (pa_cons (pv 0) (pa_cons (pv 4) (pa_cons (pv 5) pa_nil)))) (pg_sub (pe_ix (ixL K) (pv 2) (pv 4) (fun _ _ => rfl)) (pv 5) set_list))))
      (pss_cons (ps_set (i := 6) sc__law_draw.nd rfl (Or.inl rfl) (pe_callB (lenK K) (by rfl) T.b_len PySem.boot_len (pa_cons (pv 1) pa_nil)))
      (pss_cons (ps_for PassesOwn.never rfl (pi_range1 (by rfl) T.b_range (pa_cons (pv 6) pa_nil)) (pg_name (i := 7) sc__law_draw.nd rfl (Or.inl rfl))
      (pss_one (ps_for PassesOwn.never rfl (pi_range1 (by rfl) T.b_range (pa_cons pe_int pa_nil)) (pg_name (i := 8) sc__law_draw.nd rfl (Or.inl rfl))
      (pss_cons (ps_set (i := 9) sc__law_draw.nd rfl (Or.inl rfl) (pcall (ok_law_place T) (hr.mono (by decide)) (pa_cons (pv 0) (pa_cons (pe_op op_add (pe_op op_mul (pv 8) (pv 6)) (pv 7)) pa_nil))))
      (pss_one (ps_for PassesOwn.never rfl (pi_range1 (by rfl) T.b_range (pa_cons pe_int pa_nil)) (pg_name (i := 3) sc__law_draw.nd rfl (Or.inl rfl))
      (pss_one (ps_asg (pe_op op_and (pe_op op_shr (pe_ix (ixL K) (pe_ix (ixL K) (pv 1) (pv 7) (fun _ _ => rfl)) (pv 8) (fun _ _ => rfl)) (pe_op op_sub pe_int (pv 3))) pe_int) (pg_sub (pe_ix (ixL K) (pv 2) (pe_ix (ixT K) (pe_ix (ixL K) (pv 9) (pv 3) (fun _ _ => rfl)) pe_int (fun _ _ => rfl)) (fun _ _ => rfl)) (pe_ix (ixT K) (pe_ix (ixL K) (pv 9) (pv 3) (fun _ _ => rfl)) pe_int (fun _ _ => rfl)) set_list)))))))))
      (pss_one (ps_ret (pv 2)))))))), ?_⟩
  refine ⟨_, rfl, _, rfl, by omega, by omega, fun D hD => ?_⟩
  rw [Int.toNat_natCast]
  refine lc_range (lo := 0) (n := n) (fun i H1 => ∃ rs, Rows H H1 D rs i n (fun _ _ => 0)) ⟨fun _ => 0, Rows.start hD (Same.refl _)⟩ (fun i H1 hi z => ?_) fun H1 z => ?_
  · obtain ⟨rs, R⟩ := z
    refine ⟨rfl, by show 1 ≤ sizeLine; decide, fun l hl => ?_⟩
    have s1 := same_upd (o := .lst [.int 0]) hl
    refine ⟨_, rfl, l, (n : Int), _, rfl, rfl, upd_same, by omega, by omega, sz (by show 1 * _ ≤ _; omega), fun p hp => ?_⟩
    rw [Int.toNat_natCast, rep_zero]
    have s2 := same_upd (o := .lst (rowV (fun _ => 0) n)) hp
    obtain ⟨p1, p2⟩ := R.push (L2.Same.trans s1 s2) (s1.free hp) upd_same
    exact ⟨_, p1, szl (by rw [refV_len]; omega), _, p2⟩
  obtain ⟨rs, R⟩ := z
  -- the outer ring
  refine ⟨_, rfl, (n : Int), 0, rfl, by decide, by omega, by omega, fun H2 R1 RP => ?_⟩
  obtain ⟨nR1, sR1, vs1, eR1, pR1⟩ := RP
  have lv1 : vs1.length = (lring (n : Int) 0 ((n : Int) - 1 - 0 - 0).toNat).length := prs_len pR1
  have nr1 : ∀ i, i < n → R1 ≠ rs i := fun i hi e => by have := R.grid.row i hi; rw [← e, nR1] at this; cases this
  have m1 : ∀ p ∈ lring (n : Int) 0 ((n : Int) - 1 - 0 - 0).toNat, OnR n 0 p := fun p hp => (ringP_on (by omega)).mp (lring_mem.mp hp)
  generalize hps1 : lring (n : Int) 0 ((n : Int) - 1 - 0 - 0).toNat = ps1 at *
  refine ⟨R1, rfl, ⟨_, SqL.of eR1⟩, ?_⟩
  refine for_list (K := K) (a := R1) (xs := vs1) (fun i σ H3 => ∃ v4 v5 f, σ = [some (.int n), some (.ref c), some (.ref D), none, v4, v5, none, none, none, none] ∧ PrAt H3 R1 vs1 ps1 ∧ Rows H H3 D rs n n f ∧ (∀ i j, i < n → j < n → f i j = 0 ∨ f i j = 1) ∧ RingDone ps1 (fun _ => 1) i f)
    ⟨none, none, fun _ _ => 0, rfl, ⟨eR1, pR1⟩, R.go sR1, fun _ _ _ _ => .inl rfl, fun q p hq => absurd hq (Nat.not_lt_zero _)⟩ (fun i σ H3 _ z => by obtain ⟨_, _, _, _, z, _⟩ := z; exact SqL.of z.at_) ?_ ?_
  · rintro i x σ H3 hi ⟨v4, v5, f, rfl, PA, R3, b01, RD⟩
    obtain ⟨⟨pa, pb⟩, hp, tp, rfl, etp⟩ := prs_get PA.prs hi
    obtain ⟨_, o1, o2, o3, o4⟩ := m1 _ (List.mem_of_getElem? hp)
    dsimp only at o1 o2 o3 o4 etp
    obtain ⟨a, rfl⟩ : ∃ a : Nat, pa = a := ⟨pa.toNat, by omega⟩
    obtain ⟨b, rfl⟩ : ∃ b : Nat, pb = b := ⟨pb.toNat, by omega⟩
    have ha : a < n := by omega
    have hb : b < n := by omega
    refine ⟨tp, _, rfl, SqT.of etp, rfl, _, _, rfl, _, _, rfl, rfl, ?_⟩
    refine ⟨_, rfl, _, rfl, D, _, a, .ref (rs a), rfl, rfl, SqL.of R3.grid.top, atI_nat (refV_get ha), _, rfl, rs a, _, b, b, rfl, rfl, R3.grid.row a ha, ixN_nat (by rw [rowV_len]; exact hb), ?_⟩
    exact ⟨_, _, setF f a b 1, rfl, PA.put (R3.grid.row a ha) (nr1 a ha), R3.put ha hb, setF_01 b01 (.inr rfl), RD.step (v := fun _ => 1) hp (fun p hp => by obtain ⟨_, y1, y2, y3, y4⟩ := m1 p hp; exact ⟨y1, y3⟩)⟩
  rintro σ H3 ⟨v4, v5, f1, rfl, PA1, R3, b1, RD1⟩
  have A1 := RD1.all (by omega)
  -- the inner ring
  refine ⟨_, rfl, (n : Int), 1, rfl, by decide, by omega, by omega, fun H4 R2 RP => ?_⟩
  obtain ⟨nR2, sR2, vs2, eR2, pR2⟩ := RP
  have lv2 : vs2.length = (lring (n : Int) 1 ((n : Int) - 1 - 1 - 1).toNat).length := prs_len pR2
  have nr2 : ∀ i, i < n → R2 ≠ rs i := fun i hi e => by have := R3.grid.row i hi; rw [← e, nR2] at this; cases this
  have m2 : ∀ p ∈ lring (n : Int) 1 ((n : Int) - 1 - 1 - 1).toNat, OnR n 1 p := fun p hp => (ringP_on (by omega)).mp (lring_mem.mp hp)
  have m2' : ∀ p ∈ ringP n 1, p ∈ lring (n : Int) 1 ((n : Int) - 1 - 1 - 1).toNat := fun p hp => lring_mem.mpr hp
  generalize hps2 : lring (n : Int) 1 ((n : Int) - 1 - 1 - 1).toNat = ps2 at *
  refine ⟨R2, rfl, ⟨_, SqL.of eR2⟩, ?_⟩
  refine for_list (K := K) (a := R2) (xs := vs2) (fun i σ H3 => ∃ v4 v5 f, σ = [some (.int n), some (.ref c), some (.ref D), none, v4, v5, none, none, none, none] ∧ PrAt H3 R2 vs2 ps2 ∧ Rows H H3 D rs n n f ∧ (∀ i j, i < n → j < n → f i j = 0 ∨ f i j = 1) ∧ (∀ p ∈ ps1, at2 f p = 1) ∧ RingDone ps2 (at2 (markP n)) i f)
    ⟨_, _, f1, rfl, ⟨eR2, pR2⟩, R3.go sR2, b1, A1, fun q p hq => absurd hq (Nat.not_lt_zero _)⟩ (fun i σ H3 _ z => by obtain ⟨_, _, _, _, z, _⟩ := z; exact SqL.of z.at_) ?_ ?_
  · rintro i x σ H5 hi ⟨v4, v5, f, rfl, PA, R5, b01, r0, RD⟩
    obtain ⟨⟨pa, pb⟩, hp, tp, rfl, etp⟩ := prs_get PA.prs hi
    have on := m2 _ (List.mem_of_getElem? hp)
    obtain ⟨o0, o1, o2, o3, o4⟩ := on
    dsimp only at o0 o1 o2 o3 o4 etp
    obtain ⟨a, rfl⟩ : ∃ a : Nat, pa = a := ⟨pa.toNat, by omega⟩
    obtain ⟨b, rfl⟩ : ∃ b : Nat, pb = b := ⟨pb.toNat, by omega⟩
    have ha : a < n := by omega
    have hb : b < n := by omega
    refine ⟨tp, _, rfl, SqT.of etp, rfl, _, _, rfl, _, _, rfl, rfl, ?_⟩
    refine ⟨_, rfl, _, rfl, _, rfl, (n : Int), (a : Int), (b : Int), rfl, ?_⟩
    refine ⟨_, rfl, _, rfl, D, _, a, .ref (rs a), rfl, rfl, SqL.of R5.grid.top, atI_nat (refV_get ha), _, rfl, rs a, _, b, b, rfl, rfl, R5.grid.row a ha, ixN_nat (by rw [rowV_len]; exact hb), ?_⟩
    refine ⟨_, _, setF f a b (markP n a b), rfl, PA.put (R5.grid.row a ha) (nr2 a ha), R5.put ha hb, setF_01 b01 (mark01 n a b), fun p hp0 => ?_, RD.step (v := at2 (markP n)) hp (fun p hp => by obtain ⟨_, y1, y2, y3, y4⟩ := m2 p hp; omega)⟩
    obtain ⟨y0, y1, y2, y3, y4⟩ := m1 p hp0
    rw [setF_off y1 y3 (by omega)]
    exact r0 p hp0
  rintro σ H5 ⟨v4', v5', f2, rfl, PA2, R5, b2, r02, RD2⟩
  have A2 := RD2.all (by omega)
  -- the field
  have hcnt : cnt ≤ 5 := by omega
  refine ⟨_, rfl, c, _, rfl, .inl (SqL.of (R5.same _ _ LL.top)), ?_⟩
  rw [refV_len]
  refine ⟨_, rfl, _, rfl, by omega, by omega, ?_⟩
  rw [Int.toNat_natCast]
  refine for_range (lo := 0) (n := cnt) (fun wd σ H6 => ∃ v3 v7 v8 v9 f, σ = [some (.int n), some (.ref c), some (.ref D), v3, v4', v5', some (.int cnt), v7, v8, v9] ∧ Rows H H6 D rs n n f ∧ (∀ i j, i < n → j < n → f i j = 0 ∨ f i j = 1) ∧ (∀ p ∈ ps1, at2 f p = 1) ∧ (∀ p ∈ ps2, at2 f p = at2 (markP n) p) ∧ CellDone n cnt cf ((wd * 16) * 4) f)
    ⟨none, none, none, none, f2, rfl, R5, b2, r02, A2, fun wd j k _ _ _ ht => absurd ht (by omega)⟩ ?_ ?_
  · rintro wd σ H6 hwd ⟨v3, v7, v8, v9, f, rfl, R6, b01, r0, r1, CD⟩
    rw [Int.zero_add]
    refine ⟨_, rfl, by decide, by decide, ?_⟩
    refine for_range (lo := 0) (n := 16) (fun j σ H6 => ∃ v3 v8 v9 f, σ = [some (.int n), some (.ref c), some (.ref D), v3, v4', v5', some (.int cnt), some (.int wd), v8, v9] ∧ Rows H H6 D rs n n f ∧ (∀ i j, i < n → j < n → f i j = 0 ∨ f i j = 1) ∧ (∀ p ∈ ps1, at2 f p = 1) ∧ (∀ p ∈ ps2, at2 f p = at2 (markP n) p) ∧ CellDone n cnt cf ((wd * 16 + j) * 4) f)
      ⟨_, _, _, f, rfl, R6, b01, r0, r1, CD⟩ ?_ ?_
    · rintro j σ H7 hj ⟨v3, v8, v9, f, rfl, R7, b01, r0, r1, CD⟩
      rw [Int.zero_add]
      have jc : j * cnt ≤ 16 * 5 := Nat.mul_le_mul (by omega) hcnt
      refine ⟨_, rfl, _, rfl, _, rfl, _, _, rfl, rfl, .inl ⟨by omega, by omega⟩, _, rfl, _, _, rfl, rfl, ?_⟩
      have ep : (j : Int) * (cnt : Int) + (wd : Int) = ((j * cnt + wd : Nat) : Int) := by rw [Int.natCast_add, Int.natCast_mul]
      refine ⟨(n : Int), ((j * cnt + wd : Nat) : Int), by dsimp only; rw [ep]; rfl, by omega, by omega, by omega, by omega, fun H8 R3 RP => ?_⟩
      obtain ⟨nR3, sR3, vs3, eR3, pR3⟩ := RP
      have nr3 : ∀ i, i < n → R3 ≠ rs i := fun i hi e => by have := R7.grid.row i hi; rw [← e, nR3] at this; cases this
      refine ⟨_, rfl, by decide, by decide, ?_⟩
      refine for_range (lo := 0) (n := 4) (fun k σ H6 => ∃ v3 f, σ = [some (.int n), some (.ref c), some (.ref D), v3, v4', v5', some (.int cnt), some (.int wd), some (.int j), some (.ref R3)] ∧ PrAt H6 R3 vs3 (placeP n ((j * cnt + wd : Nat) : Int)) ∧ Rows H H6 D rs n n f ∧ (∀ i j, i < n → j < n → f i j = 0 ∨ f i j = 1) ∧ (∀ p ∈ ps1, at2 f p = 1) ∧ (∀ p ∈ ps2, at2 f p = at2 (markP n) p) ∧ CellDone n cnt cf ((wd * 16 + j) * 4 + k) f)
        ⟨_, f, rfl, ⟨eR3, pR3⟩, R7.go sR3, b01, r0, r1, CD⟩ ?_ ?_
      · rintro k σ H9 hk ⟨v3, f, rfl, PA, R9, b01, r0, r1, CD⟩
        rw [Int.zero_add]
        have hp := placeP_get (n := n) (p := j * cnt + wd) (by omega) hk
        obtain ⟨ci1, ci2⟩ := cell_in h64 hwd hj hk
        obtain ⟨a, ha⟩ : ∃ a, a = 2 + (4 * (j * cnt + wd) + k) / (n - 4) := ⟨_, rfl⟩
        obtain ⟨b, hb⟩ : ∃ b, b = 2 + (4 * (j * cnt + wd) + k) % (n - 4) := ⟨_, rfl⟩
        rw [← ha, ← hb] at hp
        have ha2 : a < n := by omega
        have hb2 : b < n := by omega
        have ha3 : 2 ≤ a ∧ a < n - 2 := ⟨by rw [ha]; exact Nat.le_add_right .., by omega⟩
        have hb3 : 2 ≤ b ∧ b < n - 2 := ⟨by rw [hb]; exact Nat.le_add_right .., by omega⟩
        obtain ⟨x, hx⟩ : ∃ x, vs3[k]? = some x := by
          have : k < vs3.length := by rw [prs_len PA.prs]; unfold placeP; rw [sideP_len]; exact hk
          exact ⟨_, List.getElem?_eq_getElem this⟩
        obtain ⟨p, hp2, tp, rfl, etp⟩ := prs_get PA.prs hx
        rw [hp] at hp2
        obtain rfl := Option.some.inj hp2
        dsimp only at etp
        have L9 := LL.same R9.same
        refine ⟨_, rfl, _, rfl, c, _, wd, .ref (ls wd), rfl, rfl, SqL.of L9.top, atI_nat (refV_get hwd), _, rfl, ls wd, _, j, .int (gr (cf wd) j), rfl, rfl, SqL.of (L9.at_ wd hwd), atI_nat (rowV_get hj), _, rfl, _, _, rfl, rfl, _, _, rfl, rfl, by omega, _, _, rfl, rfl, ?_⟩
        refine ⟨_, rfl, _, rfl, _, rfl, R3, _, k, .ref tp, rfl, rfl, SqL.of PA.at_, atI_nat hx, tp, _, 0, .int a, rfl, rfl, SqT.of etp, rfl, D, _, a, .ref (rs a), rfl, rfl, SqL.of R9.grid.top, atI_nat (refV_get ha2), ?_⟩
        refine ⟨_, rfl, _, rfl, R3, _, k, .ref tp, rfl, rfl, SqL.of PA.at_, atI_nat hx, tp, _, 1, .int b, rfl, rfl, SqT.of etp, rfl, rs a, _, b, b, rfl, rfl, R9.grid.row a ha2, ixN_nat (by rw [rowV_len]; exact hb2), ?_⟩
        refine ⟨_, setF f a b (bitI (cf wd j) k), rfl, PA.put (R9.grid.row a ha2) (nr3 a ha2), R9.put ha2 hb2, setF_01 b01 (bit01 _ hk), fun p hp0 => ?_, fun p hp0 => ?_, ?_⟩
        · obtain ⟨y0, y1, y2, y3, y4⟩ := m1 p hp0
          rw [setF_off y1 y3 (by omega)]
          exact r0 p hp0
        · obtain ⟨y0, y1, y2, y3, y4⟩ := m2 p hp0
          rw [setF_off (by omega) (by omega) (by omega)]
          exact r1 p hp0
        · rw [ha, hb]
          exact CD.step hwd hj hk (by omega)
      · rintro σ H9 ⟨v3, f, rfl, PA, R9, b01, r0, r1, CD⟩
        exact ⟨_, _, _, f, rfl, R9, b01, r0, r1, by rw [show (wd * 16 + (j + 1)) * 4 = (wd * 16 + j) * 4 + 4 by omega]; exact CD⟩
    · rintro σ H7 ⟨v3, v8, v9, f, rfl, R7, b01, r0, r1, CD⟩
      exact ⟨_, _, _, _, f, rfl, R7, b01, r0, r1, by rw [show ((wd + 1) * 16) * 4 = (wd * 16 + 16) * 4 by omega]; exact CD⟩
  · rintro σ H6 ⟨v3, v7, v8, v9, f, rfl, R6, b01, r0, r1, CD⟩
    refine ⟨_, rfl, q H6 D rs f R6.same R6.newD R6.grid ⟨b01, fun p hp => r0 p ?_, fun p hp => r1 p (m2' p hp), fun wd j k hw hj hk => CD wd j k hw hj hk (by omega)⟩⟩
    rw [← hps1]
    exact lring_mem.mpr hp
end
end K44
set_option maxHeartbeats 4000000
namespace K44
open PySem PySem.Spec PyProof.Rows L2
section
variable {P : Program} {w : World} {K : PySem.W.Frag} {mg : Str → Option Value} {base : Heap}
theorem ok_law_turned (T : Tx K mg) : Keeps P w K mg base 1 "_law_turned" p__law_turned sp_turned := by
  refine T.d__law_turned.keeps sc__law_turned (fun _ _ _ _ _ _ us hl => match us, hl with | [_, _], _ => rfl) (fun vs H Q E h => by obtain ⟨a, b, n, f, _, rfl, _⟩ := h; rfl) (fun f cdv A outer s H vs Q E hr h => ?_)
  obtain ⟨a, t, n, rs, g, rfl, ht8, hn1, hn, G, q⟩ := h
  refine ⟨_, (pss_cons (ps_set (i := 2) sc__law_turned.nd rfl (Or.inr rfl) (pe_callB (lenK K) (by rfl) T.b_len PySem.boot_len (pa_cons (pv 0) pa_nil)))
      (pss_cons (ps_set (i := 3) sc__law_turned.nd rfl (Or.inr rfl) (pe_lc (own := [("_law_row_here", 4)]) rfl sc__law_turned.nd (piL K (pv 0)) (blkOk_by (by kernel_rfl)) (fun _ _ _ _ _ => (pg_name (i := 4) sc__law_turned.nd rfl (Or.inl rfl))) (fun _ _ _ _ _ => pts_nil) (fun _ _ _ _ _ => (pe_callTy (listK K) (by rfl) T.b_list (by decide +kernel) (pa_cons (pv 4) pa_nil)))))
      (pss_cons (ps_if (pt_cmpR op_gt (pv 1) pe_int (nomark _)) (pss_one (ps_set (i := 3) sc__law_turned.nd rfl (Or.inr rfl) (pe_lc (own := [("_law_row_here", 4)]) rfl sc__law_turned.nd (piL K (pv 3)) (blkOk_by (by kernel_rfl)) (fun _ _ _ _ _ => (pg_name (i := 4) sc__law_turned.nd rfl (Or.inl rfl))) (fun _ _ _ _ _ => pts_nil) (fun _ _ _ _ _ => (stpK K (pv 4) po_none po_none (po_some (pe_un un_neg pe_int))))))) pss_nil)
      (pss_cons (ps_for PassesOwn.never rfl (pi_range1 (by rfl) T.b_range (pa_cons (pe_op op_mod (pv 1) pe_int) pa_nil)) (pg_name (i := 5) sc__law_turned.nd rfl (Or.inl rfl))
      (pss_one (ps_set (i := 3) sc__law_turned.nd rfl (Or.inr rfl) (pe_lc (own := [("_law_i", 7)]) rfl sc__law_turned.nd (pi_range1 (by rfl) T.b_range (pa_cons (pv 2) pa_nil)) (blkOk_by (by kernel_rfl)) (fun _ _ _ _ _ => (pg_name (i := 7) sc__law_turned.nd rfl (Or.inr rfl))) (fun _ _ _ _ _ => pts_nil) (fun _ _ _ _ _ => (pe_lc (own := [("_law_j", 6)]) rfl sc__law_turned.nd (pi_range1 (by rfl) T.b_range (pa_cons (pv 2) pa_nil)) (blkOk_by (by kernel_rfl)) (fun _ _ _ _ _ => (pg_name (i := 6) sc__law_turned.nd rfl (Or.inl rfl))) (fun _ _ _ _ _ => pts_nil) (fun _ _ _ _ _ => (pe_ix (ixL K) (pe_ix (ixL K) (pv 3) (pe_op op_sub (pe_op op_sub (pv 2) pe_int) (pv 6)) (fun _ _ => rfl)) (pv 7) (fun _ _ => rfl)))))))))
      (pss_one (ps_ret (pv 3))))))), ?_⟩
  refine ⟨_, rfl, a, _, rfl, .inl (SqL.of G.top), ?_⟩
  rw [refV_len]
  refine ⟨_, rfl, a, rfl, ⟨_, SqL.of G.top⟩, fun D2 hD2 => ?_⟩
  refine lc_list (K := K) (a := a) (xs := refV rs n) (fun i H2 => ∃ r2, Rows H H2 D2 r2 i n g) ⟨fun _ => 0, Rows.start hD2 (Same.refl _)⟩ (fun i H2 _ z => by obtain ⟨r2, z⟩ := z; exact SqL.of (z.same _ _ G.top)) (fun i x H2 hi z => ?_) fun H2 z => ?_
  · obtain ⟨r2, R⟩ := z
    have hk : i < n := by have := (List.getElem?_eq_some_iff.mp hi).1; rwa [refV_len] at this
    rw [refV_get hk] at hi
    obtain rfl := Option.some.inj hi
    have hrow := R.same _ _ (G.row i hk)
    refine ⟨rfl, _, rfl, rs i, _, rfl, .inl (SqL.of hrow), fun u hu => ?_⟩
    have s2 := same_upd (o := .lst (rowV (g i) n)) hu
    obtain ⟨p1, p2⟩ := R.push s2 hu upd_same
    exact ⟨_, p1, szl (by rw [refV_len]; omega), _, p2⟩
  obtain ⟨r2, R2⟩ := z
  rw [refV_len] at R2
  obtain ⟨s2, nD2, G2⟩ := R2.to
  obtain ⟨g0, hg0⟩ : ∃ g0, g0 = if 4 ≤ t then flipF n g else g := ⟨_, rfl⟩
  refine ⟨_, rfl, _, _, rfl, rfl, _, rfl, ite2 (fun e => ?_) (fun e => ?_)⟩
  · have h4 : 4 ≤ t := by have := of_decide_eq_true e; omega
    refine ⟨_, rfl, D2, rfl, ⟨_, SqL.of G2.top⟩, fun D5 hD5 => ?_⟩
    refine lc_list (K := K) (a := D2) (xs := refV r2 n) (fun i H4 => ∃ r4, Rows H2 H4 D5 r4 i n g0) ⟨fun _ => 0, Rows.start hD5 (Same.refl _)⟩ (fun i H4 _ z => by obtain ⟨r4, z⟩ := z; exact SqL.of (z.same _ _ G2.top)) (fun i x H4 hi z => ?_) fun H4 z => ?_
    · obtain ⟨r4, R4⟩ := z
      have hk : i < n := by have := (List.getElem?_eq_some_iff.mp hi).1; rwa [refV_len] at this
      rw [refV_get hk] at hi
      obtain rfl := Option.some.inj hi
      have hrow := R4.same _ _ (G2.row i hk)
      refine ⟨rfl, _, rfl, 1, rfl, -1, rfl, r2 i, rowV (g i) n, -1, rfl, rfl, by decide, SqL.of hrow, ?_, fun u hu => ?_⟩
      · rw [rowV_tab, rev_tab]
        exact sz (by rw [tabV_len]; omega)
      · rw [rowV_tab, rev_tab]
        have s2 := same_upd (o := .lst (tabV (fun j => V.int (g i (n - 1 - j))) n)) hu
        obtain ⟨p1, p2⟩ := R4.push s2 hu (by rw [upd_same, hg0, if_pos h4]; rfl)
        exact ⟨_, p1, szl (by rw [refV_len]; omega), _, p2⟩
    obtain ⟨r4, R4⟩ := z
    rw [refV_len] at R4
    obtain ⟨s4, nD5, G4⟩ := R4.to
    refine ⟨_, rfl, _, _, rfl, rfl, by show (0 : Int) < 4; decide, _, rfl, by omega, by omega, ?_⟩
    rw [show ((t : Int) % 4).toNat = t % 4 by omega]
    refine for_range (lo := 0) (n := t % 4) (fun i σ H3 => ∃ R r3 v5, σ = [some (.ref a), some (.int t), some (.int n), some (.ref R), none, v5, none, none] ∧ Same H H3 ∧ H R = none ∧ Grid H3 R r3 n n (quarts n g0 i)) ⟨D5, r4, none, rfl, L2.Same.trans s2 s4, s2.free nD5, G4⟩ ?_ ?_
    · rintro i σ H3 hi ⟨R, r3, v5, rfl, s3, nR, G3⟩
      refine ⟨_, rfl, _, rfl, by omega, by omega, fun D3 hD3 => ?_⟩
      rw [Int.toNat_natCast]
      refine lc_range (lo := 0) (n := n) (fun x H5 => ∃ r5, Rows H3 H5 D3 r5 x n (quarts n g0 (i + 1))) ⟨fun _ => 0, Rows.start hD3 (Same.refl _)⟩ (fun x H5 hx z => ?_) fun H5 z => ?_
      · obtain ⟨r5, R5⟩ := z
        rw [Int.zero_add]
        refine ⟨rfl, _, rfl, _, rfl, by omega, by omega, fun D4 hD4 => ?_⟩
        rw [Int.toNat_natCast]
        refine lc_range (lo := 0) (n := n) (fun y H6 => Same H5 H6 ∧ H6 D4 = some (.lst (rowV (quarts n g0 (i + 1) x) y))) ⟨same_upd hD4, upd_same⟩ (fun y H6 hy z => ?_) fun H6 z => ?_
        · obtain ⟨z1, z2⟩ := z
          rw [Int.zero_add]
          have G6 := (G3.same R5.same).same z1
          have e1 : (n : Int) - 1 - (y : Int) = ((n - 1 - y : Nat) : Int) := by omega
          refine ⟨rfl, _, rfl, _, rfl, _, _, rfl, rfl, _, rfl, _, _, rfl, rfl, R, _, ((n - 1 - y : Nat) : Int), .ref (r3 (n - 1 - y)), rfl, congrArg V.int e1, SqL.of G6.top, atI_nat (refV_get (by omega)), _, rfl, r3 (n - 1 - y), _, (x : Int), .int (quarts n g0 i (n - 1 - y) x), rfl, rfl, SqL.of (G6.row _ (by omega)), atI_nat (rowV_get hx), ?_⟩
          refine ⟨_, z2, szl (by rw [rowV_len]; omega), same_mut z1 hD4, ?_⟩
          rw [upd_same, rowV_succ]
          rfl
        · obtain ⟨z1, z2⟩ := z
          obtain ⟨p1, p2⟩ := R5.push z1 hD4 z2
          exact ⟨_, p1, szl (by rw [refV_len]; omega), _, p2⟩
      · obtain ⟨r5, R5⟩ := z
        obtain ⟨s5, nD3, G5⟩ := R5.to
        exact ⟨D3, r5, _, rfl, L2.Same.trans s3 s5, s3.free nD3, G5⟩
    · rintro σ H3 ⟨R, r3, v5, rfl, s3, nR, G3⟩
      refine ⟨_, rfl, q H3 R r3 s3 nR ?_⟩
      unfold trn
      rw [← hg0]
      exact G3
  · have h4 : ¬ 4 ≤ t := fun z => e (decide_eq_true (by omega))
    have eg : g0 = g := by rw [hg0, if_neg h4]
    refine ⟨_, rfl, _, _, rfl, rfl, by show (0 : Int) < 4; decide, _, rfl, by omega, by omega, ?_⟩
    rw [show ((t : Int) % 4).toNat = t % 4 by omega]
    refine for_range (lo := 0) (n := t % 4) (fun i σ H3 => ∃ R r3 v5, σ = [some (.ref a), some (.int t), some (.int n), some (.ref R), none, v5, none, none] ∧ Same H H3 ∧ H R = none ∧ Grid H3 R r3 n n (quarts n g0 i)) ⟨D2, r2, none, rfl, s2, nD2, by rw [eg]; exact G2⟩ ?_ ?_
    · rintro i σ H3 hi ⟨R, r3, v5, rfl, s3, nR, G3⟩
      refine ⟨_, rfl, _, rfl, by omega, by omega, fun D3 hD3 => ?_⟩
      rw [Int.toNat_natCast]
      refine lc_range (lo := 0) (n := n) (fun x H5 => ∃ r5, Rows H3 H5 D3 r5 x n (quarts n g0 (i + 1))) ⟨fun _ => 0, Rows.start hD3 (Same.refl _)⟩ (fun x H5 hx z => ?_) fun H5 z => ?_
      · obtain ⟨r5, R5⟩ := z
        rw [Int.zero_add]
        refine ⟨rfl, _, rfl, _, rfl, by omega, by omega, fun D4 hD4 => ?_⟩
        rw [Int.toNat_natCast]
        refine lc_range (lo := 0) (n := n) (fun y H6 => Same H5 H6 ∧ H6 D4 = some (.lst (rowV (quarts n g0 (i + 1) x) y))) ⟨same_upd hD4, upd_same⟩ (fun y H6 hy z => ?_) fun H6 z => ?_
        · obtain ⟨z1, z2⟩ := z
          rw [Int.zero_add]
          have G6 := (G3.same R5.same).same z1
          have e1 : (n : Int) - 1 - (y : Int) = ((n - 1 - y : Nat) : Int) := by omega
          refine ⟨rfl, _, rfl, _, rfl, _, _, rfl, rfl, _, rfl, _, _, rfl, rfl, R, _, ((n - 1 - y : Nat) : Int), .ref (r3 (n - 1 - y)), rfl, congrArg V.int e1, SqL.of G6.top, atI_nat (refV_get (by omega)), _, rfl, r3 (n - 1 - y), _, (x : Int), .int (quarts n g0 i (n - 1 - y) x), rfl, rfl, SqL.of (G6.row _ (by omega)), atI_nat (rowV_get hx), ?_⟩
          refine ⟨_, z2, szl (by rw [rowV_len]; omega), same_mut z1 hD4, ?_⟩
          rw [upd_same, rowV_succ]
          rfl
        · obtain ⟨z1, z2⟩ := z
          obtain ⟨p1, p2⟩ := R5.push z1 hD4 z2
          exact ⟨_, p1, szl (by rw [refV_len]; omega), _, p2⟩
      · obtain ⟨r5, R5⟩ := z
        obtain ⟨s5, nD3, G5⟩ := R5.to
        exact ⟨D3, r5, _, rfl, L2.Same.trans s3 s5, s3.free nD3, G5⟩
    · rintro σ H3 ⟨R, r3, v5, rfl, s3, nR, G3⟩
      refine ⟨_, rfl, q H3 R r3 s3 nR ?_⟩
      unfold trn
      rw [← hg0]
      exact G3
end
end K44
set_option maxHeartbeats 4000000
namespace K44
open PySem PySem.Spec PyProof.Rows L2
section
variable {P : Program} {w : World} {K : PySem.W.Frag} {mg : Str → Option Value} {base : Heap}
theorem rgc_words : ∀ n : Fin 6, ∀ k : Fin 17, 1 ≤ n.val → 8 ≤ k.val → RgC 0 ((n.val * k.val : Nat) : Int) (k.val : Int) n.val := by
  unfold RgC
  decide +kernel
theorem word_len {all : List G} {k wd n : Nat} (h : all.length = n * k) (hw : wd < n) : (wordL all k wd).length = k := by
  have le : (wd + 1) * k ≤ n * k := Nat.mul_le_mul_right k hw
  rw [Nat.add_mul, Nat.one_mul] at le
  unfold wordL
  rw [List.length_take, List.length_drop]
  omega
theorem cut_word {all : List G} {k wd n : Nat} (h : all.length = n * k) (hw : wd < n) : cutV (gsV all) (some ((wd * k : Nat) : Int)) (some ((wd * k + k : Nat) : Int)) = gsV (wordL all k wd) := by
  have le : (wd + 1) * k ≤ n * k := Nat.mul_le_mul_right k hw
  rw [Nat.add_mul, Nat.one_mul] at le
  rw [cut_mid _ _ _ (by rw [gsV_len]; omega)]
  unfold gsV wordL
  rw [← List.map_drop, ← List.map_take, show wd * k + k - wd * k = k by omega]
theorem cwL_row {l : List G} {k : Nat} (h : l.length = k) : gsV (cwL l) = rowV (gr (cwf (gat l) k)) 16 := by
  unfold cwL gsV rowV
  rw [List.map_map, h]
  rfl
/-- the symbols that the page's words carry -/
def cfW (all : List G) (k : Nat) : Nat → Nat → G := fun wd j => cwf (gat (wordL all k wd)) k j
def sp_page : Sp := fun vs H Q _ => ∃ (la ba : Addr) (n k : Nat) (L : Lab) (all body : List G), vs = [.int n, .int (16 - (k : Int)), .ref la, .ref ba] ∧ 16 ≤ n ∧ n ≤ 22 ∧ 8 ≤ k ∧ k ≤ 16 ∧ H la = some (.tup L.vs) ∧ L.Ok ∧ H ba = some (.lst (gsV body)) ∧
  all = L.syms ++ List.replicate (k - 8) 0 ++ body ∧ all.length = nW n * k ∧ ∀ H' p rs f, Same H H' → H p = none → Grid H' p rs n n f → Page n (nW n) (cfW all k) f → Q (.ref p) H'
theorem ok_law_page (T : Tx K mg) : Keeps P w K mg base 4 "_law_page" p__law_page sp_page := by
  refine T.d__law_page.keeps sc__law_page (fun _ _ _ _ _ _ us hl => match us, hl with | [_, _, _, _], _ => rfl) (fun vs H Q E h => by obtain ⟨a, b, _, _, _, _, _, rfl, _⟩ := h; rfl) (fun f cdv A outer s H vs Q E hr h => ?_)
  obtain ⟨la, ba, n, k, L, all, body, rfl, h16, h22, hk8, hk16, hla, hL, hba, eall, hal, q⟩ := h
  obtain ⟨n1, n2, n3, n4⟩ := nW_ok ⟨n, by omega⟩ h16
  dsimp only at n1 n2 n3 n4
  have nk : nW n * k ≤ 5 * 16 := Nat.mul_le_mul n2 hk16
  have blen : body.length ≤ 80 := by
    have := congrArg List.length eall
    rw [List.length_append] at this
    omega
  refine ⟨_, (pss_cons (ps_set (i := 4) sc__law_page.nd rfl (Or.inr rfl) (pe_op op_sub pe_int (pv 1)))
      (pss_cons (ps_set (i := 5) sc__law_page.nd rfl (Or.inr rfl) (pe_op op_cat (pe_op op_cat (pcall (ok_law_label_symbols T) (hr.mono (by decide)) (pa_cons (pv 2) pa_nil)) (pe_op op_rep (pe_lst (pa_cons pe_int pa_nil)) (pe_op op_sub (pv 4) pe_int))) (pv 3)))
      (pss_cons (ps_setLc (i := 6) (own := [("_law_k", 7)]) rfl sc__law_page.nd rfl rfl (sw_true rfl rfl rfl (by decide +kernel)) (pi_range3 (by rfl) T.b_range (pa_cons pe_int (pa_cons (pe_callB (lenK K) (by rfl) T.b_len PySem.boot_len (pa_cons (pv 5) pa_nil)) (pa_cons (pv 4) pa_nil)))) (blkOk_by (by kernel_rfl)) (fun _ _ _ _ _ => (pg_name (i := 7) sc__law_page.nd rfl (Or.inl rfl))) (fun _ _ _ _ _ => pts_nil) (fun _ _ _ _ _ => (pcall (ok_law_codeword T) (hr.mono (by decide)) (pa_cons (pe_slice (slL K) (pv 5) (po_some (pv 7)) (po_some (pe_op op_add (pv 7) (pv 4)))) (pa_cons pe_int pa_nil)))))
      (pss_one (ps_ret (pcall (ok_law_draw T) (hr.mono (by decide)) (pa_cons (pv 0) (pa_cons (pv 6) pa_nil)))))))), ?_⟩
  refine ⟨_, rfl, _, _, rfl, rfl, ?_⟩
  dsimp only
  rw [show (16 : Int) - (16 - (k : Int)) = (k : Int) by omega]
  refine ⟨_, rfl, la, L, rfl, hla, fun H1 p1 s1 hp1 e1 => ?_⟩
  refine ⟨by show 1 ≤ sizeLine; decide, fun l hl => ?_⟩
  have s2 := same_upd (o := .lst [.int 0]) hl
  refine ⟨_, rfl, _, _, rfl, rfl, l, _, _, rfl, rfl, upd_same, by omega, by omega, sz (by show 1 * _ ≤ _; omega), fun p2 hp2 => ?_⟩
  have er : (List.replicate ((k : Int) - 8).toNat [V.int 0]).flatten = gsV (List.replicate (k - 8) 0) := by
    rw [gsV_rep, List.flatten_replicate_singleton, show ((k : Int) - 8).toNat = k - 8 by omega]
  rw [er, ← Lab.syms_eq hL] at *
  have s3 := same_upd (o := .lst (gsV (List.replicate (k - 8) 0))) hp2
  refine ⟨p1, p2, _, _, rfl, rfl, s3 _ _ (s2 _ _ e1), upd_same, sz (by rw [gsV_len, gsV_len, List.length_replicate]; show 8 + _ ≤ _; omega), fun p3 hp3 => ?_⟩
  rw [← gsV_app]
  have s4 := same_upd (o := .lst (gsV (L.syms ++ List.replicate (k - 8) 0))) hp3
  have s14 := L2.Same.trans s1 (L2.Same.trans s2 (L2.Same.trans s3 s4))
  refine ⟨_, rfl, p3, ba, _, _, rfl, rfl, upd_same, s14 _ _ hba, sz (by rw [gsV_len, gsV_len, List.length_append, List.length_replicate]; show 8 + _ + _ ≤ _; omega), fun p4 hp4 => ?_⟩
  rw [← gsV_app, ← eall]
  have s5 := same_upd (o := .lst (gsV all)) hp4
  have s15 := L2.Same.trans s14 s5
  -- the words
  refine ⟨_, rfl, p4, _, rfl, .inl (SqL.of upd_same), ?_⟩
  rw [gsV_len, hal]
  refine ⟨_, rfl, _, _, _, nW n, rfl, rgc_words ⟨nW n, by omega⟩ ⟨k, by omega⟩ (by show 1 ≤ nW n; omega) hk8, fun D hD => ?_⟩
  refine lc_by (J := Itc 0 (k : Int) (nW n)) (n := nW n) (fun i H6 => Same (upd _ p4 (.lst (gsV all))) H6 ∧ ∃ ls, Lists H6 D ls i (fun wd => rowV (gr (cfW all k wd)) 16) ∧ ∀ j, j < i → ls j ≠ D) ⟨same_upd hD, fun _ => 0, ⟨upd_same, fun i hi => absurd hi (Nat.not_lt_zero _)⟩, fun i hi => absurd hi (Nat.not_lt_zero _)⟩ (fun i H6 hi _ => hi) (fun _ _ => Nat.le_refl _) (fun i x H6 H6' hi R y => ?_) fun H6 R6 => ?_
  · obtain ⟨rfl, rfl⟩ := y
    obtain ⟨z1, ls, z2, z3⟩ := R
    have e0 : (0 : Int) + (i : Int) * (k : Int) = ((i * k : Nat) : Int) := by rw [Int.zero_add, Int.natCast_mul]
    have e1' : ((i * k : Nat) : Int) + (k : Int) = ((i * k + k : Nat) : Int) := by rw [Int.natCast_add]
    rw [e0]
    refine ⟨rfl, _, rfl, _, rfl, ((i * k : Nat) : Int), rfl, _, rfl, _, rfl, _, _, rfl, rfl, ((i * k : Nat) : Int) + (k : Int), rfl, p4, _, rfl, SqL.of (z1 _ _ upd_same), fun u hu => ?_⟩
    rw [e1', cut_word hal hi]
    have s6 := same_upd (o := .lst (gsV (wordL all k i))) hu
    refine ⟨u, wordL all k i, rfl, upd_same, by rw [word_len hal hi]; exact hk16, fun H7 p s7 hp e7 => ?_⟩
    rw [cwL_row (word_len hal hi)] at e7
    obtain ⟨p1, p2, p3⟩ := z2.push z3 (L2.Same.trans s6 s7) (s6.free hp) e7
    exact ⟨_, p1, szl (by rw [refV_len]; omega), same_mut (L2.Same.trans z1 (L2.Same.trans s6 s7)) hD, _, p2, p3⟩
  · obtain ⟨z1, ls, z2, z3⟩ := R6
    have s16 := L2.Same.trans s15 z1
    exact ⟨_, rfl, _, rfl, D, ls, n, nW n, cfW all k, rfl, h16, h22, z2, n3, fun H7 p rs f s7 hp G7 PG => q H7 p rs f (L2.Same.trans s16 s7) (s16.free hp) G7 PG⟩
/-- the page laid into a bed -/
def bedF (n r c : Nat) (f : Nat → Nat → Int) : Nat → Nat → Int := fun i j => if r ≤ i ∧ i < r + n ∧ c ≤ j ∧ j < c + n then f (i - r) (j - c) else 0
def sp_lbed : Sp := fun vs H Q _ => ∃ (a : Addr) (rs : Nat → Addr) (n t h w' r c : Nat) (f : Nat → Nat → Int), vs = [.ref a, .int t, .int h, .int w', .int r, .int c] ∧ Grid H a rs n n f ∧ t < 8 ∧ 1 ≤ n ∧ n ≤ 22 ∧ h ≤ 60 ∧ w' ≤ 60 ∧ r + n ≤ h ∧ c + n ≤ w' ∧
  ∀ H' p rs', Rows H H' p rs' h w' (bedF n r c (trn n t f)) → Q (.ref p) H'
theorem ok_law_bed (T : Tx K mg) : Keeps P w K mg base 2 "_law_bed" p__law_bed sp_lbed := by
  refine T.d__law_bed.keeps sc__law_bed (fun _ _ _ _ _ _ us hl => match us, hl with | [_, _, _, _, _, _], _ => rfl) (fun vs H Q E h => by obtain ⟨a, b, _, _, _, _, _, _, _, rfl, _⟩ := h; rfl) (fun f cdv A outer s H vs Q E hr h => ?_)
  obtain ⟨a, rs, n, t, h, w', r, c, g, rfl, G, ht8, hn1, hn, hh, hw, hr0, hc0, q⟩ := h
  refine ⟨_, (pss_cons (ps_set (i := 6) sc__law_bed.nd rfl (Or.inl rfl) (pcall (ok_law_turned T) (hr.mono (by decide)) (pa_cons (pv 0) (pa_cons (pv 1) pa_nil))))
      (pss_cons (ps_setLc (i := 7) (own := [("_law_k", 8)]) rfl sc__law_bed.nd rfl rfl (sw_true rfl rfl rfl (by decide +kernel)) (pi_range1 (by rfl) T.b_range (pa_cons (pv 2) pa_nil)) (blkOk_by (by kernel_rfl)) (fun _ _ _ _ _ => (pg_name (i := 8) sc__law_bed.nd rfl (Or.inl rfl))) (fun _ _ _ _ _ => pts_nil) (fun _ _ _ _ _ => (pe_op op_rep (pe_lst (pa_cons pe_int pa_nil)) (pv 3))))
      (pss_cons (ps_for PassesOwn.never rfl (pi_range1 (by rfl) T.b_range (pa_cons (pe_callB (lenK K) (by rfl) T.b_len PySem.boot_len (pa_cons (pv 6) pa_nil)) pa_nil)) (pg_name (i := 9) sc__law_bed.nd rfl (Or.inl rfl))
      (pss_one (ps_for PassesOwn.never rfl (pi_range1 (by rfl) T.b_range (pa_cons (pe_callB (lenK K) (by rfl) T.b_len PySem.boot_len (pa_cons (pv 6) pa_nil)) pa_nil)) (pg_name (i := 10) sc__law_bed.nd rfl (Or.inl rfl))
      (pss_one (ps_asg (pe_ix (ixL K) (pe_ix (ixL K) (pv 6) (pv 9) (fun _ _ => rfl)) (pv 10) (fun _ _ => rfl)) (pg_sub (pe_ix (ixL K) (pv 7) (pe_op op_add (pv 4) (pv 9)) (fun _ _ => rfl)) (pe_op op_add (pv 5) (pv 10)) set_list))))))
      (pss_one (ps_ret (pv 7)))))), ?_⟩
  refine ⟨_, rfl, _, rfl, a, t, n, rs, g, rfl, ht8, hn1, by omega, G, fun H1 S r1 s1 hS G1 => ?_⟩
  refine ⟨_, rfl, _, rfl, by omega, by omega, fun D hD => ?_⟩
  rw [Int.toNat_natCast]
  refine lc_range (lo := 0) (n := h) (fun i H2 => ∃ r2, Rows H1 H2 D r2 i w' (fun _ _ => 0)) ⟨fun _ => 0, Rows.start hD (Same.refl _)⟩ (fun i H2 hi z => ?_) fun H2 z => ?_
  · obtain ⟨r2, R⟩ := z
    refine ⟨rfl, by show 1 ≤ sizeLine; decide, fun l hl => ?_⟩
    have s2 := same_upd (o := .lst [.int 0]) hl
    refine ⟨_, rfl, l, (w' : Int), _, rfl, rfl, upd_same, by omega, by omega, sz (by show 1 * _ ≤ _; omega), fun p hp => ?_⟩
    rw [Int.toNat_natCast, rep_zero]
    have s3 := same_upd (o := .lst (rowV (fun _ => 0) w')) hp
    obtain ⟨p1, p2⟩ := R.push (L2.Same.trans s2 s3) (s2.free hp) upd_same
    exact ⟨_, p1, szl (by rw [refV_len]; omega), _, p2⟩
  obtain ⟨r2, R⟩ := z
  obtain ⟨g1, hg1⟩ : ∃ g1, g1 = trn n t g := ⟨_, rfl⟩
  rw [← hg1] at G1 q
  refine ⟨_, rfl, S, _, rfl, .inl (SqL.of (G1.same R.same).top), _, rfl, by rw [refV_len]; omega, by rw [refV_len]; omega, ?_⟩
  rw [refV_len, Int.toNat_natCast]
  -- cells stored so far
  refine for_range (lo := 0) (n := n) (fun i σ H3 => ∃ v9 v10 f, σ = [some (.ref a), some (.int t), some (.int h), some (.int w'), some (.int r), some (.int c), some (.ref S), some (.ref D), none, v9, v10] ∧ Rows H1 H3 D r2 h w' f ∧ ∀ x y, f x y = if x < r + i then bedF n r c g1 x y else 0)
    ⟨none, none, fun _ _ => 0, rfl, R, fun x y => by unfold bedF; split; rw [if_neg (by omega)]; rfl⟩ ?_ ?_
  · rintro i σ H3 hi ⟨v9, v10, f, rfl, R3, hf⟩
    rw [Int.zero_add]
    refine ⟨_, rfl, S, _, rfl, .inl (SqL.of (G1.same R3.same).top), _, rfl, by rw [refV_len]; omega, by rw [refV_len]; omega, ?_⟩
    rw [refV_len, Int.toNat_natCast]
    refine for_range (lo := 0) (n := n) (fun j σ H3 => ∃ v10 f, σ = [some (.ref a), some (.int t), some (.int h), some (.int w'), some (.int r), some (.int c), some (.ref S), some (.ref D), none, some (.int i), v10] ∧ Rows H1 H3 D r2 h w' f ∧ ∀ x y, f x y = if x < r + i ∨ (x = r + i ∧ y < c + j) then bedF n r c g1 x y else 0)
      ⟨_, f, rfl, R3, fun x y => by
        rw [hf]
        by_cases e : x < r + i
        · rw [if_pos e, if_pos (.inl e)]
        · rw [if_neg e]
          by_cases e2 : x = r + i ∧ y < c + 0
          · rw [if_pos (.inr e2)]; unfold bedF; rw [if_neg (by omega)]
          · rw [if_neg (by omega)]⟩ ?_ ?_
    · rintro j σ H4 hj ⟨v10, f, rfl, R4, hf⟩
      rw [Int.zero_add]
      have G4 := G1.same R4.same
      have e1 : (r : Int) + (i : Int) = ((r + i : Nat) : Int) := by omega
      have e2 : (c : Int) + (j : Int) = ((c + j : Nat) : Int) := by omega
      refine ⟨_, rfl, _, rfl, S, _, i, .ref (r1 i), rfl, rfl, SqL.of G4.top, atI_nat (refV_get hi), _, rfl, r1 i, _, j, .int (g1 i j), rfl, rfl, SqL.of (G4.row i hi), atI_nat (rowV_get hj), ?_⟩
      refine ⟨_, rfl, _, rfl, _, rfl, _, _, rfl, rfl, D, _, ((r + i : Nat) : Int), .ref (r2 (r + i)), rfl, congrArg V.int e1, SqL.of R4.grid.top, atI_nat (refV_get (by omega)), ?_⟩
      refine ⟨_, rfl, _, rfl, _, _, rfl, rfl, r2 (r + i), _, ((c + j : Nat) : Int), c + j, rfl, congrArg V.int e2, R4.grid.row (r + i) (by omega), ixN_nat (by rw [rowV_len]; omega), ?_⟩
      refine ⟨_, _, rfl, R4.put (by omega) (by omega), fun x y => ?_⟩
      rw [hf]
      by_cases e : x = r + i ∧ y = c + j
      · obtain ⟨rfl, rfl⟩ := e
        rw [if_pos ⟨rfl, rfl⟩, if_pos (.inr ⟨rfl, by omega⟩)]
        unfold bedF
        rw [if_pos (by omega), Nat.add_sub_cancel_left, Nat.add_sub_cancel_left]
      · rw [if_neg e]
        by_cases e3 : x < r + i ∨ (x = r + i ∧ y < c + j)
        · rw [if_pos e3, if_pos (by omega)]
        · rw [if_neg e3, if_neg (by omega)]
    · rintro σ H4 ⟨v10, f, rfl, R4, hf⟩
      refine ⟨_, _, f, rfl, R4, fun x y => ?_⟩
      rw [hf]
      by_cases e : x < r + (i + 1)
      · rw [if_pos e]
        by_cases e2 : x < r + i ∨ (x = r + i ∧ y < c + n)
        · rw [if_pos e2]
        · rw [if_neg e2]; unfold bedF; rw [if_neg (by omega)]
      · rw [if_neg e, if_neg (by omega)]
  · rintro σ H3 ⟨v9, v10, f, rfl, R3, hf⟩
    refine ⟨_, rfl, q H3 D r2 ?_⟩
    have R4 : Rows H H3 D r2 h w' f := ⟨R3.grid, fun i hi => s1.free (R3.new i hi), s1.free R3.newD, R3.ne, L2.Same.trans s1 R3.same⟩
    refine R4.ext fun x y _ _ => ?_
    rw [hf]
    by_cases e : x < r + n
    · rw [if_pos e]
    · rw [if_neg e]; unfold bedF; rw [if_neg (by omega)]
end
end K44
set_option maxHeartbeats 4000000
namespace K44
open PySem PySem.Spec PyProof.Rows L2
section
variable {P : Program} {w : World} {K : PySem.W.Frag} {mg : Str → Option Value} {base : Heap}
/-- a torn bed: cells of the page may have become 2 -/
def Torn (n r c : Nat) (f f' : Nat → Nat → Int) : Prop := ∀ x y, f' x y = f x y ∨ (r ≤ x ∧ x < r + n ∧ c ≤ y ∧ y < c + n ∧ f' x y = 2)
theorem Torn.refl {n r c : Nat} {f : Nat → Nat → Int} : Torn n r c f f := fun _ _ => .inl rfl
theorem Torn.trans {n r c : Nat} {f g h : Nat → Nat → Int} (a : Torn n r c f g) (b : Torn n r c g h) : Torn n r c f h := fun x y => by
  rcases b x y with e | e
  · rcases a x y with e2 | ⟨e1, e2, e3, e4, e5⟩
    · exact .inl (e.trans e2)
    · exact .inr ⟨e1, e2, e3, e4, e.trans e5⟩
  · exact .inr e
/-- only the rows have changed -/
def SameR (rs : Nat → Addr) (h : Nat) (H H' : Hp) : Prop := ∀ x o, (∀ i, i < h → x ≠ rs i) → H x = some o → H' x = some o
structure TornAt (H0 H : Hp) (b : Addr) (rs : Nat → Addr) (h w' n r c : Nat) (f f' : Nat → Nat → Int) : Prop where
  grid : Grid H b rs h w' f'
  torn : Torn n r c f f'
  same : SameR rs h H0 H
theorem TornAt.put {H0 H : Hp} {b : Addr} {rs : Nat → Addr} {h w' n r c : Nat} {f f' : Nat → Nat → Int} (T : TornAt H0 H b rs h w' n r c f f') {x y : Nat} (hx : x < h) (hy : y < w') (i1 : r ≤ x) (i2 : x < r + n) (i3 : c ≤ y) (i4 : y < c + n) :
    TornAt H0 (upd H (rs x) (.lst ((rowV (f' x) w').set y (.int 2)))) b rs h w' n r c f (setF f' x y 2) := by
  rw [rowV_set]
  refine ⟨T.grid.put hx hy, fun p q => ?_, fun z o hz e => ?_⟩
  · by_cases e : p = x ∧ q = y
    · refine .inr ⟨by omega, by omega, by omega, by omega, ?_⟩
      show (if p = x ∧ q = y then (2 : Int) else _) = 2
      rw [if_pos e]
    · have : setF f' x y 2 p q = f' p q := by show (if p = x ∧ q = y then (2 : Int) else _) = _; rw [if_neg e]
      rw [this]
      exact T.torn p q
  · rw [upd_ne (hz x hx)]
    exact T.same z o hz e
def sp_tear : Sp := fun vs H Q _ => ∃ (b pl : Addr) (rs : Nat → Addr) (n h w' r c : Nat) (z : Int) (f : Nat → Nat → Int), vs = [.ref b, .ref pl, .int n, .int z] ∧ Grid H b rs h w' f ∧ H pl = some (.tup [.int r, .int c]) ∧ 1 ≤ n ∧ n ≤ 22 ∧ r + n ≤ h ∧ c + n ≤ w' ∧
  ∀ H' f', TornAt H H' b rs h w' n r c f f' → Q .non H'
theorem ok_law_tear (T : Tx K mg) : Keeps P w K mg base 2 "_law_tear" p__law_tear sp_tear := by
  refine T.d__law_tear.keeps sc__law_tear (fun _ _ _ _ _ _ us hl => match us, hl with | [_, _, _, _], _ => rfl) (fun vs H Q E h => by obtain ⟨a, b, _, _, _, _, _, _, _, _, rfl, _⟩ := h; rfl) (fun f cdv A outer s H vs Q E hr h => ?_)
  obtain ⟨b, pl, rs, n, h, w', r, c, z, g, rfl, G, hpl, hn1, hn, hr0, hc0, q⟩ := h
  have n0 : (0 : Int) < (n : Int) := by omega
  refine ⟨_, (pss_cons (ps_asg (pv 1) (pg_two K (i := 4) (j := 5) rfl sc__law_tear.nd rfl rfl (Or.inl rfl) (Or.inl rfl)))
      (pss_cons (ps_set (i := 6) sc__law_tear.nd rfl (Or.inl rfl) (pe_op op_mod (pv 3) pe_int))
      (pss_cons (ps_set (i := 7) sc__law_tear.nd rfl (Or.inl rfl) (pe_op op_add pe_int (pe_op op_mod (pe_op op_fdiv (pv 3) pe_int) (pv 2))))
      (pss_cons (ps_set (i := 8) sc__law_tear.nd rfl (Or.inl rfl) (pe_op op_mod (pcall (ok_law_mix T) (hr.mono (by decide)) (pa_cons (pv 3) (pa_cons pe_int pa_nil))) (pv 2)))
      (pss_cons (ps_set (i := 9) sc__law_tear.nd rfl (Or.inl rfl) (pe_op op_mod (pcall (ok_law_mix T) (hr.mono (by decide)) (pa_cons (pv 3) (pa_cons pe_int pa_nil))) (pv 2)))
      (pss_one (ps_for PassesOwn.never rfl (pi_range1 (by rfl) T.b_range (pa_cons (pv 2) pa_nil)) (pg_name (i := 10) sc__law_tear.nd rfl (Or.inl rfl))
      (pss_one (ps_for PassesOwn.never rfl (pi_range1 (by rfl) T.b_range (pa_cons (pv 2) pa_nil)) (pg_name (i := 11) sc__law_tear.nd rfl (Or.inl rfl))
      (pss_cons (ps_set (i := 12) sc__law_tear.nd rfl (Or.inl rfl) pe_bl)
      (pss_cons (ps_if (pt_cmpR op_eq (pv 6) pe_int (nomark _)) (pss_one (ps_set (i := 12) sc__law_tear.nd rfl (Or.inl rfl) (pe_cmpR op_lt (pe_op op_add (pv 10) (pv 11)) (pv 7) (nomark _)))) (pss_one (ps_if (pt_cmpR op_eq (pv 6) pe_int (nomark _)) (pss_one (ps_set (i := 12) sc__law_tear.nd rfl (Or.inl rfl) (pe_cmpR op_le (pe_op op_add (pe_callB call_abs (by rfl) T.b_abs (by decide +kernel) (pa_cons (pe_op op_sub (pv 10) (pv 8)) pa_nil)) (pe_callB call_abs (by rfl) T.b_abs (by decide +kernel) (pa_cons (pe_op op_sub (pv 11) (pv 9)) pa_nil))) (pe_op op_fdiv (pv 7) pe_int) (nomark _)))) (pss_one (ps_if (pt_cmpR op_eq (pv 6) pe_int (nomark _)) (pss_one (ps_set (i := 12) sc__law_tear.nd rfl (Or.inl rfl) (pe_cmpR op_ge (pv 11) (pe_op op_sub (pv 2) (pe_op op_fdiv (pv 7) pe_int)) (nomark _)))) (pss_one (ps_if (pt_cmpR op_eq (pv 6) pe_int (nomark _)) (pss_one (ps_set (i := 12) sc__law_tear.nd rfl (Or.inl rfl) (pe_cmpR op_lt (pe_op op_mod (pcall (ok_law_mix T) (hr.mono (by decide)) (pa_cons (pv 3) (pa_cons (pe_op op_add (pe_op op_add (pe_op op_mul pe_int (pv 10)) (pv 11)) pe_int) pa_nil))) pe_int) (pe_op op_fdiv (pv 7) pe_int) (nomark _)))) (pss_one (ps_set (i := 12) sc__law_tear.nd rfl (Or.inl rfl) (pe_and (pe_cmpR op_gt (pv 10) (pv 8) (nomark _)) (pe_one (pe_cmpR op_gt (pv 11) (pv 9) (nomark _)))))))))))))
      (pss_one (ps_if (pt_val (pv 12)) (pss_one (ps_asg pe_int (pg_sub (pe_ix (ixL K) (pv 0) (pe_op op_add (pv 4) (pv 10)) (fun _ _ => rfl)) (pe_op op_add (pv 5) (pv 11)) set_list))) pss_nil))))))))))))), ?_⟩
  refine ⟨_, rfl, pl, _, rfl, SqT.of hpl, rfl, _, _, rfl, _, _, rfl, rfl, ?_⟩
  refine ⟨_, rfl, _, _, rfl, rfl, by show (0 : Int) < 5; decide, ?_⟩
  refine ⟨_, rfl, _, _, rfl, rfl, ⟨by decide, by decide⟩, _, rfl, _, _, rfl, rfl, n0, _, _, rfl, rfl, ?_⟩
  refine ⟨_, rfl, z, 1, rfl, fun z1 => ⟨_, rfl, _, _, rfl, rfl, n0, ?_⟩⟩
  refine ⟨_, rfl, z, 2, rfl, fun z2 => ⟨_, rfl, _, _, rfl, rfl, n0, ?_⟩⟩
  dsimp only
  generalize z % 5 = kind
  generalize 1 + z / 5 % (n : Int) = size
  generalize z1 % (n : Int) = fi
  generalize z2 % (n : Int) = se
  refine ⟨_, rfl, _, rfl, by omega, by omega, ?_⟩
  rw [Int.toNat_natCast]
  refine for_range (lo := 0) (n := n) (fun i σ H1 => ∃ v10 v11 v12 g', σ = [some (.ref b), some (.ref pl), some (.int n), some (.int z), some (.int r), some (.int c), some (.int kind), some (.int size), some (.int fi), some (.int se), v10, v11, v12] ∧ TornAt H H1 b rs h w' n r c g g') ⟨none, none, none, g, rfl, G, Torn.refl, fun _ _ _ e => e⟩ ?_ ?_
  · rintro i σ H1 hi ⟨v10, v11, v12, g3, rfl, TA3⟩
    rw [Int.zero_add]
    refine ⟨_, rfl, _, rfl, by omega, by omega, ?_⟩
    rw [Int.toNat_natCast]
    refine for_range (lo := 0) (n := n) (fun j σ H1 => ∃ v11 v12 g', σ = [some (.ref b), some (.ref pl), some (.int n), some (.int z), some (.int r), some (.int c), some (.int kind), some (.int size), some (.int fi), some (.int se), some (.int i), v11, v12] ∧ TornAt H H1 b rs h w' n r c g g') ⟨_, _, g3, rfl, TA3⟩ ?_ ?_
    · rintro j σ H4 hj ⟨v11, v12, g4, rfl, TA⟩
      rw [Int.zero_add]
      have G4 := TA.grid
      have e1 : (r : Int) + (i : Int) = ((r + i : Nat) : Int) := by omega
      have e2 : (c : Int) + (j : Int) = ((c + j : Nat) : Int) := by omega
      have put := TA.put (x := r + i) (y := c + j) (by omega) (by omega) (by omega) (by omega) (by omega) (by omega)
      refine ⟨_, rfl, rfl, _, rfl, ite2 (fun _ => ?_) (fun _ => ?_)⟩
      · refine ⟨_, rfl, _, rfl, _, _, rfl, rfl, _, rfl, _, _, rfl, rfl, ?_⟩
        refine ⟨_, rfl, _, rfl, ite2 (fun _ => ?_) (fun _ => ?_)⟩
        · refine ⟨_, rfl, _, rfl, _, rfl, _, _, rfl, rfl, b, _, ((r + i : Nat) : Int), .ref (rs (r + i)), rfl, congrArg V.int e1, SqL.of G4.top, atI_nat (refV_get (by omega)), ?_⟩
          refine ⟨_, rfl, _, rfl, _, _, rfl, rfl, rs (r + i), _, ((c + j : Nat) : Int), c + j, rfl, congrArg V.int e2, G4.row (r + i) (by omega), ixN_nat (by rw [rowV_len]; omega), ?_⟩
          exact ⟨_, _, _, rfl, put⟩
        · exact ⟨_, _, g4, rfl, TA⟩
      refine ⟨_, rfl, rfl, _, rfl, ite2 (fun _ => ?_) (fun _ => ?_)⟩
      · refine ⟨_, rfl, _, rfl, _, _, rfl, rfl, _, rfl, _, rfl, _, rfl, _, _, rfl, rfl, _, rfl, _, _, rfl, rfl, _, rfl, _, _, rfl, rfl, ⟨by decide, by decide⟩, _, _, rfl, rfl, ?_⟩
        refine ⟨_, rfl, _, rfl, ite2 (fun _ => ?_) (fun _ => ?_)⟩
        · refine ⟨_, rfl, _, rfl, _, rfl, _, _, rfl, rfl, b, _, ((r + i : Nat) : Int), .ref (rs (r + i)), rfl, congrArg V.int e1, SqL.of G4.top, atI_nat (refV_get (by omega)), ?_⟩
          refine ⟨_, rfl, _, rfl, _, _, rfl, rfl, rs (r + i), _, ((c + j : Nat) : Int), c + j, rfl, congrArg V.int e2, G4.row (r + i) (by omega), ixN_nat (by rw [rowV_len]; omega), ?_⟩
          exact ⟨_, _, _, rfl, put⟩
        · exact ⟨_, _, g4, rfl, TA⟩
      refine ⟨_, rfl, rfl, _, rfl, ite2 (fun _ => ?_) (fun _ => ?_)⟩
      · refine ⟨_, rfl, _, rfl, _, rfl, _, _, rfl, rfl, ⟨by decide, by decide⟩, _, _, rfl, rfl, _, _, rfl, rfl, ?_⟩
        refine ⟨_, rfl, _, rfl, ite2 (fun _ => ?_) (fun _ => ?_)⟩
        · refine ⟨_, rfl, _, rfl, _, rfl, _, _, rfl, rfl, b, _, ((r + i : Nat) : Int), .ref (rs (r + i)), rfl, congrArg V.int e1, SqL.of G4.top, atI_nat (refV_get (by omega)), ?_⟩
          refine ⟨_, rfl, _, rfl, _, _, rfl, rfl, rs (r + i), _, ((c + j : Nat) : Int), c + j, rfl, congrArg V.int e2, G4.row (r + i) (by omega), ixN_nat (by rw [rowV_len]; omega), ?_⟩
          exact ⟨_, _, _, rfl, put⟩
        · exact ⟨_, _, g4, rfl, TA⟩
      refine ⟨_, rfl, rfl, _, rfl, ite2 (fun _ => ?_) (fun _ => ?_)⟩
      · refine ⟨_, rfl, _, rfl, _, _, rfl, rfl, .inl ⟨by decide, by decide⟩, _, rfl, _, _, rfl, rfl, _, _, rfl, rfl, z, _, rfl, fun z3 => ⟨_, _, rfl, rfl, by show (0 : Int) < 40; decide, _, rfl, _, _, rfl, rfl, ⟨by decide, by decide⟩, _, _, rfl, rfl, ?_⟩⟩
        refine ⟨_, rfl, _, rfl, ite2 (fun _ => ?_) (fun _ => ?_)⟩
        · refine ⟨_, rfl, _, rfl, _, rfl, _, _, rfl, rfl, b, _, ((r + i : Nat) : Int), .ref (rs (r + i)), rfl, congrArg V.int e1, SqL.of G4.top, atI_nat (refV_get (by omega)), ?_⟩
          refine ⟨_, rfl, _, rfl, _, _, rfl, rfl, rs (r + i), _, ((c + j : Nat) : Int), c + j, rfl, congrArg V.int e2, G4.row (r + i) (by omega), ixN_nat (by rw [rowV_len]; omega), ?_⟩
          exact ⟨_, _, _, rfl, put⟩
        · exact ⟨_, _, g4, rfl, TA⟩
      refine ⟨_, rfl, _, rfl, _, _, rfl, rfl, _, rfl, ite2 (fun _ => ?_) (fun _ => ?_)⟩
      · refine ⟨_, rfl, _, rfl, _, _, rfl, rfl, ?_⟩
        refine ⟨_, rfl, _, rfl, ite2 (fun _ => ?_) (fun _ => ?_)⟩
        · refine ⟨_, rfl, _, rfl, _, rfl, _, _, rfl, rfl, b, _, ((r + i : Nat) : Int), .ref (rs (r + i)), rfl, congrArg V.int e1, SqL.of G4.top, atI_nat (refV_get (by omega)), ?_⟩
          refine ⟨_, rfl, _, rfl, _, _, rfl, rfl, rs (r + i), _, ((c + j : Nat) : Int), c + j, rfl, congrArg V.int e2, G4.row (r + i) (by omega), ixN_nat (by rw [rowV_len]; omega), ?_⟩
          exact ⟨_, _, _, rfl, put⟩
        · exact ⟨_, _, g4, rfl, TA⟩
      · skip
        refine ⟨_, rfl, _, rfl, ite2 (fun _ => ?_) (fun _ => ?_)⟩
        · refine ⟨_, rfl, _, rfl, _, rfl, _, _, rfl, rfl, b, _, ((r + i : Nat) : Int), .ref (rs (r + i)), rfl, congrArg V.int e1, SqL.of G4.top, atI_nat (refV_get (by omega)), ?_⟩
          refine ⟨_, rfl, _, rfl, _, _, rfl, rfl, rs (r + i), _, ((c + j : Nat) : Int), c + j, rfl, congrArg V.int e2, G4.row (r + i) (by omega), ixN_nat (by rw [rowV_len]; omega), ?_⟩
          exact ⟨_, _, _, rfl, put⟩
        · exact ⟨_, _, g4, rfl, TA⟩
    · rintro σ H4 ⟨v11, v12, g4, rfl, TA⟩
      exact ⟨_, _, _, g4, rfl, TA⟩
  · rintro σ H1 ⟨v10, v11, v12, g3, rfl, TA3⟩
    exact q H1 g3 TA3
end
end K44
set_option maxHeartbeats 4000000
namespace K44
open PySem PySem.Spec PyProof.Rows L2
section
variable {P : Program} {w : World} {K : PySem.W.Frag} {mg : Str → Option Value} {base : Heap}
theorem veq {a b : Int} (e : decide (V.int a = V.int b) = true) : a = b := by
  have := of_decide_eq_true e
  injection this
theorem vne {a b : Int} (e : ¬ decide (V.int a = V.int b) = true) : a ≠ b := fun z => e (decide_eq_true (by rw [z]))
theorem nveq {a b : Int} (e : ¬ (!decide (V.int a = V.int b)) = true) : a = b := Classical.byContradiction fun z => e (by rw [decide_eq_false (fun y => z (by injection y))]; rfl)
theorem nvne {a b : Int} (e : (!decide (V.int a = V.int b)) = true) : a ≠ b := fun z => by
  rw [decide_eq_true (by rw [z])] at e
  exact absurd e (by decide)
/-! ### turned rings -/
theorem quarts_ring {n k : Nat} {f g : Nat → Nat → Int} (h : ∀ x y : Nat, OnR n k ((x : Int), (y : Int)) → f x y = g x y) : ∀ i (x y : Nat), OnR n k ((x : Int), (y : Int)) → quarts n f i x y = quarts n g i x y
  | 0, x, y, o => h x y o
  | i + 1, x, y, o => by
    refine quarts_ring h i (n - 1 - y) x ?_
    unfold OnR at o ⊢
    dsimp only at o ⊢
    omega
theorem trn_ring {n k t : Nat} {f g : Nat → Nat → Int} (h : ∀ x y : Nat, OnR n k ((x : Int), (y : Int)) → f x y = g x y) (x y : Nat) (o : OnR n k ((x : Int), (y : Int))) : trn n t f x y = trn n t g x y := by
  unfold trn
  refine quarts_ring (k := k) (fun x y o => ?_) _ x y o
  split
  · refine h x (n - 1 - y) ?_
    unfold OnR at o ⊢
    dsimp only at o ⊢
    omega
  · exact h x y o
theorem trn_blank {n cnt t : Nat} {cf : Nat → Nat → G} {f : Nat → Nat → Int} (P : Page n cnt cf f) (hn : 4 ≤ n) {p : Int × Int} (hp : p ∈ ringP n 1) : at2 (trn n t f) p = at2 (trn n t (markP n)) p := by
  have o := (ringP_on (by omega)).mp hp
  obtain ⟨a, b⟩ := p
  have o2 := o
  obtain ⟨_, o1, _, o3, _⟩ := o2
  dsimp only at o1 o3
  obtain ⟨a, rfl⟩ : ∃ a' : Nat, a = a' := ⟨a.toNat, by omega⟩
  obtain ⟨b, rfl⟩ : ∃ b' : Nat, b = b' := ⟨b.toNat, by omega⟩
  exact trn_ring (k := 1) (fun x y o => P.r1 ((x : Int), (y : Int)) ((ringP_on (by omega)).mpr o)) a b o
/-! ### what is hidden -/
def hidB (n : Nat) (f : Nat → Nat → Int) (wd j : Nat) : Bool := (List.range 4).any fun k => decide (cellAt n f (j * nW n + wd) k = 2)
def Rdb (n k r c t0 : Nat) (f : Nat → Nat → Int) : Prop := (thrI n ≤ (((ringP n 0).countP fun p => decide (at2 (sqr f r c) p = 1) : Nat) : Int)) ∧
  (∀ t, t < 8 → t ≠ t0 → ∃ p ∈ ringP n 1, at2 (sqr f r c) p ≠ 2 ∧ at2 (trn n t (markP n)) p ≠ at2 (trn n t0 (markP n)) p) ∧
  ∀ wd, wd < nW n → k ≤ (vis (hidB n (trn n (oppN t0) (sqr f r c)) wd) 16).length
theorem cnt_succ {α : Type} {P : α → Bool} {l : List α} {i : Nat} {p : α} (h : l[i]? = some p) : (l.take (i + 1)).countP P = (l.take i).countP P + (if P p = true then 1 else 0) := by
  rw [List.take_succ, h, List.countP_append]
  show _ + List.countP _ [p] = _
  rw [List.countP_singleton]
theorem cnt_yes {α : Type} {P : α → Bool} {l : List α} {i : Nat} {p : α} (h : l[i]? = some p) (y : P p = true) : (l.take (i + 1)).countP P = (l.take i).countP P + 1 := by rw [cnt_succ h, if_pos y]
theorem cnt_no {α : Type} {P : α → Bool} {l : List α} {i : Nat} {p : α} (h : l[i]? = some p) (y : P p = false) : (l.take (i + 1)).countP P = (l.take i).countP P := by rw [cnt_succ h, if_neg (by rw [y]; decide)]; rfl
theorem cnt_take {α : Type} {P : α → Bool} {l : List α} {i : Nat} : (l.take i).countP P ≤ l.length := Nat.le_trans List.countP_le_length (by rw [List.length_take]; omega)
/-- a list of ones gets one more -/
theorem ones_push {H0 H : Hp} {D : Addr} {m : Nat} (s : Same H0 H) (hD : H0 D = none) (e : H D = some (.lst (List.replicate m (.int 1)))) (hm : m ≤ 1000) :
    ∃ acc, H D = some (.lst acc) ∧ acc.length < sizeLine ∧ (Same H0 (upd H D (.lst (acc ++ [.int 1]))) ∧ upd H D (.lst (acc ++ [.int 1])) D = some (.lst (List.replicate (m + 1) (.int 1)))) :=
  ⟨_, e, szl (by rw [List.length_replicate]; omega), same_mut s hD, by rw [upd_same, List.replicate_succ']⟩
def sp_rdb : Sp := fun vs H Q _ => ∃ (b pl : Addr) (rs : Nat → Addr) (n k h w' r c t0 : Nat) (f : Nat → Nat → Int), vs = [.ref b, .int n, .int (16 - (k : Int)), .ref pl, .int t0] ∧ Grid H b rs h w' f ∧ H pl = some (.tup [.int r, .int c]) ∧ 16 ≤ n ∧ n ≤ 22 ∧ k ≤ 16 ∧ h ≤ 60 ∧ w' ≤ 60 ∧ r + n ≤ h ∧ c + n ≤ w' ∧ t0 < 8 ∧
  (Rdb n k r c t0 f → ∀ H', Same H H' → Q (.bl true) H') ∧ (¬ Rdb n k r c t0 f → ∀ H', Same H H' → Q (.bl false) H')
theorem ok_law_is_readable (T : Tx K mg) : Keeps P w K mg base 3 "_law_is_readable" p__law_is_readable sp_rdb := by
  refine T.d__law_is_readable.keeps sc__law_is_readable (fun _ _ _ _ _ _ us hl => match us, hl with | [_, _, _, _, _], _ => rfl) (fun vs H Q E h => by obtain ⟨a, b, _, _, _, _, _, _, _, _, _, rfl, _⟩ := h; rfl) (fun f cdv A outer s H vs Q E hr h => ?_)
  obtain ⟨b, pl, rs, n, k, h, w', r, c, t0, g, rfl, G, hpl, h16, h22, hk16, hh, hw, hr0, hc0, ht8, q1, q2⟩ := h
  obtain ⟨n1, n2, n3, n4⟩ := nW_ok ⟨n, by omega⟩ h16
  dsimp only at n1 n2 n3 n4
  refine ⟨_, (pss_cons (ps_asg (pv 3) (pg_two K (i := 5) (j := 6) rfl sc__law_is_readable.nd rfl rfl (Or.inl rfl) (Or.inr rfl)))
      (pss_cons (ps_set (i := 7) sc__law_is_readable.nd rfl (Or.inr rfl) (pe_lc (own := [("_law_line", 8)]) rfl sc__law_is_readable.nd (piL K (pe_slice (slL K) (pv 0) (po_some (pv 5)) (po_some (pe_op op_add (pv 5) (pv 1))))) (blkOk_by (by kernel_rfl)) (fun _ _ _ _ _ => (pg_name (i := 8) sc__law_is_readable.nd rfl (Or.inl rfl))) (fun _ _ _ _ _ => pts_nil) (fun _ _ _ _ _ => (pe_slice (slL K) (pv 8) (po_some (pv 6)) (po_some (pe_op op_add (pv 6) (pv 1)))))))
      (pss_cons (ps_setLc (i := 9) (own := [("_law_cell_here", 10)]) rfl sc__law_is_readable.nd rfl rfl (sw_true rfl rfl rfl (by decide +kernel)) (piL K (pcall (ok_law_ring T) (hr.mono (by decide)) (pa_cons (pv 1) (pa_cons pe_int pa_nil)))) (blkOk_by (by kernel_rfl)) (fun _ _ _ _ _ => (pg_name (i := 10) sc__law_is_readable.nd rfl (Or.inl rfl))) (fun _ _ _ _ _ => (pts_one (pt_cmpR op_eq (pe_ix (ixL K) (pe_ix (ixL K) (pv 7) (pe_ix (ixT K) (pv 10) pe_int (fun _ _ => rfl)) (fun _ _ => rfl)) (pe_ix (ixT K) (pv 10) pe_int (fun _ _ => rfl)) (fun _ _ => rfl)) pe_int (nomark _)))) (fun _ _ _ _ _ => pe_int))
      (pss_cons (ps_if (pt_cmpR op_lt (pe_callB (lenK K) (by rfl) T.b_len PySem.boot_len (pa_cons (pv 9) pa_nil)) (pe_op op_sub (pe_op op_sub (pe_op op_mul pe_int (pv 1)) pe_int) (pe_op op_fdiv (pe_op op_sub (pv 1) pe_int) pe_int)) (nomark _)) (pss_one (ps_ret pe_bl)) pss_nil)
      (pss_cons (ps_set (i := 11) sc__law_is_readable.nd rfl (Or.inl rfl) (pcall (ok_law_draw T) (hr.mono (by decide)) (pa_cons (pv 1) (pa_cons (pe_lst (pa_cons (pe_op op_rep (pe_lst (pa_cons pe_int pa_nil)) pe_int) pa_nil)) pa_nil))))
      (pss_cons (ps_for PassesOwn.never rfl (pi_range1 (by rfl) T.b_range (pa_cons pe_int pa_nil)) (pg_name (i := 12) sc__law_is_readable.nd rfl (Or.inl rfl))
      (pss_cons (ps_set (i := 13) sc__law_is_readable.nd rfl (Or.inr rfl) (pcall (ok_law_turned T) (hr.mono (by decide)) (pa_cons (pv 11) (pa_cons (pv 12) pa_nil))))
      (pss_cons (ps_set (i := 14) sc__law_is_readable.nd rfl (Or.inr rfl) (pcall (ok_law_turned T) (hr.mono (by decide)) (pa_cons (pv 11) (pa_cons (pv 4) pa_nil))))
      (pss_cons (ps_setLc (i := 15) (own := [("_law_r", 16), ("_law_c", 17)]) rfl sc__law_is_readable.nd rfl rfl (sw_true rfl rfl rfl (by decide +kernel)) (piL K (pcall (ok_law_ring T) (hr.mono (by decide)) (pa_cons (pv 1) (pa_cons pe_int pa_nil)))) (blkOk_by (by kernel_rfl)) (fun _ _ _ _ _ => (pg_two K (i := 16) (j := 17) rfl sc__law_is_readable.nd rfl rfl (Or.inl rfl) (Or.inl rfl))) (fun _ _ _ _ _ => (pts_one (PW.pt (pw_and (pt_cmpR op_ne (pe_ix (ixL K) (pe_ix (ixL K) (pv 7) (pv 16) (fun _ _ => rfl)) (pv 17) (fun _ _ => rfl)) pe_int (nomark _)) (pw_and1 (pt_cmpR op_ne (pe_ix (ixL K) (pe_ix (ixL K) (pv 13) (pv 16) (fun _ _ => rfl)) (pv 17) (fun _ _ => rfl)) (pe_ix (ixL K) (pe_ix (ixL K) (pv 14) (pv 16) (fun _ _ => rfl)) (pv 17) (fun _ _ => rfl)) (nomark _))))))) (fun _ _ _ _ _ => pe_int))
      (pss_one (ps_if (PW.pt (pw_and (pt_cmpR op_ne (pv 12) (pv 4) (nomark _)) (pw_and1 (pt_cmpR op_eq (pe_callB (lenK K) (by rfl) T.b_len PySem.boot_len (pa_cons (pv 15) pa_nil)) pe_int (nomark _))))) (pss_one (ps_ret pe_bl)) pss_nil))))))
      (pss_cons (ps_set (i := 7) sc__law_is_readable.nd rfl (Or.inr rfl) (pcall (ok_law_turned T) (hr.mono (by decide)) (pa_cons (pv 7) (pa_cons (pe_ifExp (pt_cmpR op_gt (pv 4) pe_int (nomark _)) (pv 4) (pe_op op_mod (pe_op op_sub pe_int (pv 4)) pe_int)) pa_nil))))
      (pss_cons (ps_for PassesOwn.never rfl (pi_range1 (by rfl) T.b_range (pa_cons (pcall (ok_law_words T) (hr.mono (by decide)) (pa_cons (pv 1) pa_nil)) pa_nil)) (pg_name (i := 18) sc__law_is_readable.nd rfl (Or.inl rfl))
      (pss_cons (ps_set (i := 19) sc__law_is_readable.nd rfl (Or.inl rfl) pe_int)
      (pss_cons (ps_for PassesOwn.never rfl (pi_range1 (by rfl) T.b_range (pa_cons pe_int pa_nil)) (pg_name (i := 20) sc__law_is_readable.nd rfl (Or.inl rfl))
      (pss_cons (ps_setLc (i := 21) (own := [("_law_r", 16), ("_law_c", 17)]) rfl sc__law_is_readable.nd rfl rfl (sw_true rfl rfl rfl (by decide +kernel)) (piL K (pcall (ok_law_place T) (hr.mono (by decide)) (pa_cons (pv 1) (pa_cons (pe_op op_add (pe_op op_mul (pv 20) (pcall (ok_law_words T) (hr.mono (by decide)) (pa_cons (pv 1) pa_nil))) (pv 18)) pa_nil)))) (blkOk_by (by kernel_rfl)) (fun _ _ _ _ _ => (pg_two K (i := 16) (j := 17) rfl sc__law_is_readable.nd rfl rfl (Or.inl rfl) (Or.inl rfl))) (fun _ _ _ _ _ => (pts_one (pt_cmpR op_eq (pe_ix (ixL K) (pe_ix (ixL K) (pv 7) (pv 16) (fun _ _ => rfl)) (pv 17) (fun _ _ => rfl)) pe_int (nomark _)))) (fun _ _ _ _ _ => pe_int))
      (pss_one (ps_set (i := 19) sc__law_is_readable.nd rfl (Or.inl rfl) (pe_op op_add (pv 19) (pe_callTy call_int1 (by rfl) T.b_int (by decide +kernel) (pa_cons (pe_cmpR op_gt (pe_callB (lenK K) (by rfl) T.b_len PySem.boot_len (pa_cons (pv 21) pa_nil)) pe_int (nomark _)) pa_nil)))))))
      (pss_one (ps_if (pt_cmpR op_gt (pv 19) (pv 2) (nomark _)) (pss_one (ps_ret pe_bl)) pss_nil)))))
      (pss_one (ps_ret pe_bl)))))))))), ?_⟩
  have i1 : (r : Int) + (n : Int) = ((r + n : Nat) : Int) := by omega
  have i2 : (c : Int) + (n : Int) = ((c + n : Nat) : Int) := by omega
  refine ⟨_, rfl, pl, _, rfl, SqT.of hpl, rfl, _, _, rfl, _, _, rfl, rfl, ?_⟩
  refine ⟨_, rfl, _, rfl, (r : Int), rfl, _, rfl, _, rfl, _, _, rfl, rfl, (r : Int) + (n : Int), rfl, b, _, rfl, SqL.of G.top, fun t ht => ?_⟩
  rw [i1, refV_tab, cut_tab (by omega) (by omega), show r + n - r = n by omega]
  have s2 := same_upd (o := .lst (tabV (fun j => V.ref (rs (r + j))) n)) ht
  have G2 := G.same s2
  refine ⟨t, rfl, ⟨_, SqL.of upd_same⟩, fun S hS => ?_⟩
  refine lc_list (K := K) (a := t) (xs := tabV (fun j => V.ref (rs (r + j))) n) (fun i H3 => ∃ r3, Rows (upd H t (.lst (tabV (fun j => V.ref (rs (r + j))) n))) H3 S r3 i n (sqr g r c)) ⟨fun _ => 0, Rows.start hS (Same.refl _)⟩ (fun i H3 _ z => by obtain ⟨r3, z⟩ := z; exact SqL.of (z.same _ _ upd_same)) (fun i x H3 hi z => ?_) fun H3 z => ?_
  · obtain ⟨r3, R⟩ := z
    have hk : i < n := by have := (List.getElem?_eq_some_iff.mp hi).1; rwa [tabV_len] at this
    rw [tabV_get hk] at hi
    obtain rfl := Option.some.inj hi
    have hrow := R.same _ _ (G2.row (r + i) (by omega))
    refine ⟨rfl, _, rfl, _, rfl, (c : Int), rfl, _, rfl, _, rfl, _, _, rfl, rfl, (c : Int) + (n : Int), rfl, rs (r + i), _, rfl, SqL.of hrow, fun u hu => ?_⟩
    rw [i2, rowV_tab, cut_tab (by omega) (by omega), show c + n - c = n by omega]
    have s3 := same_upd (o := .lst (tabV (fun j => V.int (g (r + i) (c + j))) n)) hu
    obtain ⟨p1, p2⟩ := R.push s3 hu (by rw [upd_same]; rfl)
    exact ⟨_, p1, szl (by rw [refV_len]; omega), _, p2⟩
  obtain ⟨rS, R⟩ := z
  rw [tabV_len] at R
  obtain ⟨s3, nS, GS⟩ := R.to
  have s13 := L2.Same.trans s2 s3
  obtain ⟨sq, hsq⟩ : ∃ sq, sq = sqr g r c := ⟨_, rfl⟩
  rw [← hsq] at GS
  -- the black ring
  refine ⟨_, rfl, (n : Int), 0, rfl, by decide, by omega, by omega, fun H4 R1 RP => ?_⟩
  obtain ⟨nR1, sR1, vs1, eR1, pR1⟩ := RP
  have c1 := ring_cnt (fun p => decide (at2 sq p = 1)) (n : Int) 0
  have m1 : ∀ p ∈ lring (n : Int) 0 ((n : Int) - 1 - 0 - 0).toNat, OnR n 0 p := fun p hp => (ringP_on (by omega)).mp (lring_mem.mp hp)
  have l1 : (lring (n : Int) 0 ((n : Int) - 1 - 0 - 0).toNat).length ≤ 100 := by rw [lring_len]; omega
  have lv1 : vs1.length = (lring (n : Int) 0 ((n : Int) - 1 - 0 - 0).toNat).length := prs_len pR1
  generalize hps1 : lring (n : Int) 0 ((n : Int) - 1 - 0 - 0).toNat = ps1 at *
  refine ⟨R1, rfl, ⟨_, SqL.of eR1⟩, fun D hD => ?_⟩
  refine lc_list (K := K) (a := R1) (xs := vs1) (fun i H5 => Same H4 H5 ∧ H5 D = some (.lst (List.replicate ((ps1.take i).countP fun p => decide (at2 sq p = 1)) (.int 1)))) ⟨same_upd hD, upd_same⟩ (fun i H5 _ z => SqL.of (z.1 _ _ eR1)) (fun i x H5 hi z => ?_) fun H5 z => ?_
  · obtain ⟨z1, z2⟩ := z
    obtain ⟨⟨pa, pb⟩, hp, tp, rfl, etp⟩ := prs_get pR1 hi
    obtain ⟨_, o1, o2, o3, o4⟩ := m1 _ (List.mem_of_getElem? hp)
    dsimp only at o1 o2 o3 o4 etp
    obtain ⟨a, rfl⟩ : ∃ a : Nat, pa = a := ⟨pa.toNat, by omega⟩
    obtain ⟨bb, rfl⟩ : ∃ bb : Nat, pb = bb := ⟨pb.toNat, by omega⟩
    have G5 := (GS.same sR1).same z1
    have e5 := z1 _ _ etp
    refine ⟨rfl, _, rfl, _, rfl, tp, _, 0, .int a, rfl, rfl, SqT.of e5, rfl, S, _, a, .ref (rS a), rfl, rfl, SqL.of G5.top, atI_nat (refV_get (by omega)), _, rfl, tp, _, 1, .int bb, rfl, rfl, SqT.of e5, rfl, rS a, _, bb, .int (sq a bb), rfl, rfl, SqL.of (G5.row a (by omega)), atI_nat (rowV_get (by omega)), rfl, _, rfl, ite2 (fun e => ?_) (fun e => ?_)⟩
    · rw [cnt_yes hp (decide_eq_true (show sq a bb = 1 from veq e))]
      exact ones_push z1 hD z2 (Nat.le_trans cnt_take (by omega))
    · rw [cnt_no hp (decide_eq_false (show ¬ sq a bb = 1 from vne e))]
      exact ⟨z1, z2⟩
  obtain ⟨z1, z2⟩ := z
  rw [lv1, List.take_length, c1] at z2
  have s15 := L2.Same.trans s13 (L2.Same.trans sR1 z1)
  refine ⟨_, rfl, D, _, rfl, .inl (SqL.of z2), _, rfl, _, _, rfl, rfl, .inl ⟨by decide, by decide⟩, _, _, rfl, rfl, _, rfl, _, _, rfl, rfl, _, _, rfl, rfl, ⟨by decide, by decide⟩, _, _, rfl, rfl, _, _, rfl, rfl, _, rfl, ite2 (fun e => ?_) (fun e => ?_)⟩
  · refine q2 (fun z => ?_) _ s15
    have z1 := z.1
    have e := of_decide_eq_true e
    rw [List.length_replicate] at e
    unfold thrI at z1
    rw [← hsq] at z1
    omega
  have blk : thrI n ≤ (((ringP n 0).countP fun p => decide (at2 sq p = 1) : Nat) : Int) := by
    have e : ¬ (_ < _) := fun z => e (decide_eq_true z)
    rw [List.length_replicate] at e
    unfold thrI
    omega
  -- the blank page
  refine ⟨_, rfl, by show 1 ≤ sizeLine; decide, fun l hl => ?_⟩
  have s6 := same_upd (o := .lst [.int 0]) hl
  refine ⟨l, 16, _, rfl, rfl, upd_same, by decide, by decide, by decide, fun p hp => ?_⟩
  have e16 : (List.replicate (16 : Int).toNat [V.int 0]).flatten = rowV (gr fun _ => 0) 16 := rfl
  rw [e16]
  have s7 := same_upd (o := .lst (rowV (gr fun _ => 0) 16)) hp
  refine ⟨by show 1 ≤ sizeLine; decide, fun z hz => ?_⟩
  have s8 := same_upd (o := .lst [.ref p]) hz
  have hne : p ≠ z := ne_of_none upd_same hz
  have m18 : 64 * 1 ≤ (n - 4) * (n - 4) := Nat.le_trans (by omega) n3
  refine ⟨z, fun _ => p, n, 1, fun _ _ => 0, rfl, h16, h22, ⟨upd_same, fun i hi => by rw [upd_ne hne, upd_same]⟩, m18, fun H6 B rB fB s9 hB GB PB => ?_⟩
  have s5B := L2.Same.trans s6 (L2.Same.trans s7 (L2.Same.trans s8 s9))
  have s1B := L2.Same.trans s15 s5B
  have GS6 := ((GS.same sR1).same z1).same s5B
  -- the turns
  refine ⟨_, rfl, by decide, by decide, ?_⟩
  refine for_range (lo := 0) (n := 8) (fun t σ H7 => ∃ v9 v12 v13 v14 v15, σ = [some (.ref b), some (.int n), some (.int (16 - (k : Int))), some (.ref pl), some (.int t0), some (.int r), some (.int c), some (.ref S), none, v9, none, some (.ref B), v12, v13, v14, v15, none, none, none, none, none, none] ∧ Same H6 H7 ∧
    ∀ x, x < t → x ≠ t0 → ∃ p ∈ ringP n 1, at2 sq p ≠ 2 ∧ at2 (trn n x (markP n)) p ≠ at2 (trn n t0 (markP n)) p) ⟨_, none, none, none, none, rfl, Same.refl _, fun x hx => absurd hx (Nat.not_lt_zero _)⟩ ?_ ?_
  · rintro t σ H7 ht ⟨v9, v12, v13, v14, v15, rfl, s10, hx⟩
    rw [Int.zero_add]
    refine ⟨_, rfl, _, rfl, B, t, n, rB, fB, rfl, ht, by omega, by omega, GB.same s10, fun H8 M rM s11 hM GM => ?_⟩
    refine ⟨_, rfl, _, rfl, B, t0, n, rB, fB, rfl, ht8, by omega, by omega, (GB.same s10).same s11, fun H9 N rN s12 hN GN => ?_⟩
    refine ⟨_, rfl, (n : Int), 1, rfl, by decide, by omega, by omega, fun HA R2 RP => ?_⟩
    obtain ⟨nR2, sR2, vs2, eR2, pR2⟩ := RP
    have c2 := ring_cnt (fun p => decide (at2 sq p ≠ 2 ∧ at2 (trn n t fB) p ≠ at2 (trn n t0 fB) p)) (n : Int) 1
    have m2 : ∀ p ∈ lring (n : Int) 1 ((n : Int) - 1 - 1 - 1).toNat, OnR n 1 p := fun p hp => (ringP_on (by omega)).mp (lring_mem.mp hp)
    have l2 : (lring (n : Int) 1 ((n : Int) - 1 - 1 - 1).toNat).length ≤ 100 := by rw [lring_len]; omega
    have lv2 : vs2.length = (lring (n : Int) 1 ((n : Int) - 1 - 1 - 1).toNat).length := prs_len pR2
    generalize hps2 : lring (n : Int) 1 ((n : Int) - 1 - 1 - 1).toNat = ps2 at *
    have GSA := (((GS6.same s10).same s11).same s12).same sR2
    have GMA := (GM.same s12).same sR2
    have GNA := GN.same sR2
    refine ⟨R2, rfl, ⟨_, SqL.of eR2⟩, fun D2 hD2 => ?_⟩
    refine lc_list (K := K) (a := R2) (xs := vs2) (fun i HB => Same HA HB ∧ HB D2 = some (.lst (List.replicate ((ps2.take i).countP fun p => decide (at2 sq p ≠ 2 ∧ at2 (trn n t fB) p ≠ at2 (trn n t0 fB) p)) (.int 1)))) ⟨same_upd hD2, upd_same⟩ (fun i HB _ z => SqL.of (z.1 _ _ eR2)) (fun i x HB hi z => ?_) fun HB z => ?_
    · obtain ⟨z1, z2⟩ := z
      obtain ⟨⟨pa, pb⟩, hp, tp, rfl, etp⟩ := prs_get pR2 hi
      obtain ⟨_, o1, o2, o3, o4⟩ := m2 _ (List.mem_of_getElem? hp)
      dsimp only at o1 o2 o3 o4 etp
      obtain ⟨a, rfl⟩ : ∃ a : Nat, pa = a := ⟨pa.toNat, by omega⟩
      obtain ⟨bb, rfl⟩ : ∃ bb : Nat, pb = bb := ⟨pb.toNat, by omega⟩
      have ha : a < n := by omega
      have hb : bb < n := by omega
      have G1 := GSA.same z1
      have G2 := GMA.same z1
      have G3 := GNA.same z1
      refine ⟨tp, _, rfl, SqT.of (z1 _ _ etp), rfl, _, _, rfl, _, _, rfl, rfl, rfl, ?_⟩
      refine ⟨_, rfl, _, rfl, S, _, a, .ref (rS a), rfl, rfl, SqL.of G1.top, atI_nat (refV_get ha), _, rfl, rS a, _, bb, .int (sq a bb), rfl, rfl, SqL.of (G1.row a ha), atI_nat (rowV_get hb), rfl, _, rfl, ite2 (fun e => ?_) (fun e => ?_)⟩
      · refine ⟨_, rfl, _, rfl, M, _, a, .ref (rM a), rfl, rfl, SqL.of G2.top, atI_nat (refV_get ha), _, rfl, rM a, _, bb, .int (trn n t fB a bb), rfl, rfl, SqL.of (G2.row a ha), atI_nat (rowV_get hb), ?_⟩
        refine ⟨_, rfl, _, rfl, N, _, a, .ref (rN a), rfl, rfl, SqL.of G3.top, atI_nat (refV_get ha), _, rfl, rN a, _, bb, .int (trn n t0 fB a bb), rfl, rfl, SqL.of (G3.row a ha), atI_nat (rowV_get hb), rfl, _, rfl, ite2 (fun e2 => ?_) (fun e2 => ?_)⟩
        · rw [cnt_yes hp (decide_eq_true (show sq a bb ≠ 2 ∧ trn n t fB a bb ≠ trn n t0 fB a bb from ⟨nvne e, nvne e2⟩))]
          exact ones_push z1 hD2 z2 (Nat.le_trans cnt_take (by omega))
        · rw [cnt_no hp (decide_eq_false (show ¬ (sq a bb ≠ 2 ∧ trn n t fB a bb ≠ trn n t0 fB a bb) from fun y => y.2 (nveq e2)))]
          exact ⟨z1, z2⟩
      · refine iteF ?_
        rw [cnt_no hp (decide_eq_false (show ¬ (sq a bb ≠ 2 ∧ trn n t fB a bb ≠ trn n t0 fB a bb) from fun y => y.1 (nveq e)))]
        exact ⟨z1, z2⟩
    obtain ⟨z1, z2⟩ := z
    rw [lv2, List.take_length, c2] at z2
    have s6B := L2.Same.trans s10 (L2.Same.trans s11 (L2.Same.trans s12 (L2.Same.trans sR2 z1)))
    have hcnt : ((ringP n 1).countP fun p => decide (at2 sq p ≠ 2 ∧ at2 (trn n t fB) p ≠ at2 (trn n t0 fB) p)) = 0 ↔ ¬ ∃ p ∈ ringP n 1, at2 sq p ≠ 2 ∧ at2 (trn n t (markP n)) p ≠ at2 (trn n t0 (markP n)) p := by
      rw [List.countP_eq_zero]
      constructor
      · rintro z ⟨p, hp, y1, y2⟩
        exact z p hp (decide_eq_true ⟨y1, by rw [trn_blank PB (by omega) hp, trn_blank PB (by omega) hp]; exact y2⟩)
      · intro z p hp y
        obtain ⟨y1, y2⟩ := of_decide_eq_true y
        rw [trn_blank PB (by omega) hp, trn_blank PB (by omega) hp] at y2
        exact z ⟨p, hp, y1, y2⟩
    have next : (t ≠ t0 → ∃ p ∈ ringP n 1, at2 sq p ≠ 2 ∧ at2 (trn n t (markP n)) p ≠ at2 (trn n t0 (markP n)) p) → ∀ x, x < t + 1 → x ≠ t0 → ∃ p ∈ ringP n 1, at2 sq p ≠ 2 ∧ at2 (trn n x (markP n)) p ≠ at2 (trn n t0 (markP n)) p := fun y x hx2 hne => by
      by_cases e : x = t
      · subst e; exact y hne
      · exact hx x (by omega) hne
    refine ⟨_, rfl, _, rfl, rfl, _, rfl, ite2 (fun e => ?_) (fun e => ?_)⟩
    · have hne : t ≠ t0 := fun y => nvne e (by rw [y])
      refine ⟨_, rfl, D2, _, rfl, .inl (SqL.of z2), rfl, _, rfl, ite2 (fun e2 => ?_) (fun e2 => ?_)⟩
      · refine q2 (fun z => ?_) _ (L2.Same.trans s1B s6B)
        have e2 := veq e2
        rw [List.length_replicate] at e2
        obtain ⟨p, y1, y2⟩ := z.2.1 t ht hne
        rw [← hsq] at y2
        exact hcnt.mp (by omega) ⟨p, y1, y2⟩
      · have e2 := vne e2
        rw [List.length_replicate] at e2
        exact ⟨_, _, _, _, _, rfl, s6B, next fun _ => Classical.byContradiction fun z => e2 (by rw [hcnt.mpr z]; rfl)⟩
    · have e := nveq e
      exact iteF ⟨_, _, _, _, _, rfl, s6B, next fun y => absurd (by omega) y⟩
  -- the words
  rintro σ H7 ⟨v9, v12, v13, v14, v15, rfl, s10, hx⟩
  have GS7 := GS6.same s10
  have s17 := L2.Same.trans s1B s10
  obtain ⟨oN1, oN2⟩ := oppN_eq ⟨t0, ht8⟩
  dsimp only at oN1 oN2
  obtain ⟨sq2, hsq2⟩ : ∃ sq2, sq2 = trn n (oppN t0) sq := ⟨_, rfl⟩
  refine ⟨_, rfl, _, rfl, _, _, rfl, rfl, _, rfl, ite2 (fun e => ?_) (fun e => ?_)⟩
  · have h4 : 4 ≤ t0 := by have := of_decide_eq_true e; omega
    have ov : (t0 : Int) = (oppN t0 : Int) := by unfold oppN; rw [if_pos h4]
    refine ⟨_, rfl, ?_⟩
    refine ⟨S, oppN t0, n, rS, sq, by (try dsimp only); rw [← ov]; rfl, oN2, by omega, by omega, GS7, fun H8 U2 rU s18 hU GU => ?_⟩
    rw [← hsq2] at GU
    have s18' := L2.Same.trans s17 s18
    refine ⟨_, rfl, (n : Int), rfl, by omega, by omega, ?_⟩
    rw [n4]
    refine ⟨_, rfl, by omega, by omega, ?_⟩
    rw [Int.toNat_natCast]
    refine for_range (lo := 0) (n := nW n) (fun wd σ H9 => ∃ v16 v17 v18 v19 v20 v21, σ = [some (.ref b), some (.int n), some (.int (16 - (k : Int))), some (.ref pl), some (.int t0), some (.int r), some (.int c), some (.ref U2), none, v9, none, some (.ref B), v12, v13, v14, v15, v16, v17, v18, v19, v20, v21] ∧ Same H8 H9 ∧ ∀ x, x < wd → k ≤ (vis (hidB n sq2 x) 16).length)
      ⟨none, none, none, none, none, none, rfl, Same.refl _, fun x hx => absurd hx (Nat.not_lt_zero _)⟩ ?_ ?_
    · rintro wd σ H9 hwd ⟨v16, v17, v18, v19, v20, v21, rfl, s19, hv⟩
      rw [Int.zero_add]
      refine ⟨_, rfl, by decide, by decide, ?_⟩
      refine for_range (lo := 0) (n := 16) (fun j σ H9 => ∃ v16 v17 v20 v21, σ = [some (.ref b), some (.int n), some (.int (16 - (k : Int))), some (.ref pl), some (.int t0), some (.int r), some (.int c), some (.ref U2), none, v9, none, some (.ref B), v12, v13, v14, v15, v16, v17, some (.int wd), some (.int ((j : Int) - ((vis (hidB n sq2 wd) j).length : Int))), v20, v21] ∧ Same H8 H9)
        ⟨_, _, _, _, rfl, s19⟩ ?_ ?_
      · rintro j σ HA hj ⟨v16, v17, v20, v21, rfl, s20⟩
        rw [Int.zero_add]
        have jc : j * nW n ≤ 16 * 5 := Nat.mul_le_mul (by omega) n2
        refine ⟨_, rfl, _, rfl, _, rfl, (n : Int), rfl, by omega, by omega, ?_⟩
        rw [n4]
        refine ⟨_, _, rfl, rfl, .inl ⟨by omega, by omega⟩, _, rfl, _, _, rfl, rfl, ?_⟩
        have ep : (j : Int) * (nW n : Int) + (wd : Int) = ((j * nW n + wd : Nat) : Int) := by rw [Int.natCast_add, Int.natCast_mul]
        refine ⟨(n : Int), ((j * nW n + wd : Nat) : Int), by dsimp only; rw [ep]; rfl, by omega, by omega, by omega, by omega, fun HB R3 RP => ?_⟩
        obtain ⟨nR3, sR3, vs3, eR3, pR3⟩ := RP
        have lv3 : vs3.length = 4 := by rw [prs_len pR3]; unfold placeP; rw [sideP_len]
        have GUB := (GU.same s20).same sR3
        refine ⟨R3, rfl, ⟨_, SqL.of eR3⟩, fun D3 hD3 => ?_⟩
        refine lc_list (K := K) (a := R3) (xs := vs3) (fun i HC => Same HB HC ∧ HC D3 = some (.lst (List.replicate ((List.range i).countP fun k => decide (cellAt n sq2 (j * nW n + wd) k = 2)) (.int 1)))) ⟨same_upd hD3, upd_same⟩ (fun i HC _ z => SqL.of (z.1 _ _ eR3)) (fun i x HC hi z => ?_) fun HC z => ?_
        · obtain ⟨z1, z2⟩ := z
          have hi4 : i < 4 := by have := (List.getElem?_eq_some_iff.mp hi).1; omega
          obtain ⟨p, hp, tp, rfl, etp⟩ := prs_get pR3 hi
          rw [placeP_get (by omega) hi4] at hp
          obtain rfl := Option.some.inj hp
          obtain ⟨ci1, ci2⟩ := cell_in n3 hwd hj hi4
          obtain ⟨a, ha⟩ : ∃ a, a = 2 + (4 * (j * nW n + wd) + i) / (n - 4) := ⟨_, rfl⟩
          obtain ⟨bb, hb⟩ : ∃ bb, bb = 2 + (4 * (j * nW n + wd) + i) % (n - 4) := ⟨_, rfl⟩
          have ec : cellAt n sq2 (j * nW n + wd) i = sq2 a bb := by unfold cellAt; rw [← ha, ← hb]
          dsimp only at etp
          rw [← ha, ← hb] at etp
          have ha2 : a < n := by omega
          have hb2 : bb < n := by omega
          have G1 := GUB.same z1
          have lec := List.countP_le_length (p := fun k => decide (cellAt n sq2 (j * nW n + wd) k = 2)) (l := List.range i)
          rw [List.length_range] at lec
          refine ⟨tp, _, rfl, SqT.of (z1 _ _ etp), rfl, _, _, rfl, _, _, rfl, rfl, rfl, ?_⟩
          refine ⟨_, rfl, _, rfl, U2, _, a, .ref (rU a), rfl, rfl, SqL.of G1.top, atI_nat (refV_get ha2), _, rfl, rU a, _, bb, .int (sq2 a bb), rfl, rfl, SqL.of (G1.row a ha2), atI_nat (rowV_get hb2), rfl, _, rfl, ite2 (fun e => ?_) (fun e => ?_)⟩
          · rw [List.range_succ, List.countP_append, List.countP_singleton, ec, if_pos (decide_eq_true (veq e))]
            exact ones_push z1 hD3 z2 (by omega)
          · rw [List.range_succ, List.countP_append, List.countP_singleton, ec, if_neg (fun y => vne e (of_decide_eq_true y))]
            exact ⟨z1, z2⟩
        obtain ⟨z1, z2⟩ := z
        rw [lv3] at z2
        obtain ⟨m, hm⟩ : ∃ m, m = (List.range 4).countP fun k => decide (cellAt n sq2 (j * nW n + wd) k = 2) := ⟨_, rfl⟩
        rw [← hm] at z2
        have hb : hidB n sq2 wd j = decide (m > 0) := by
          unfold hidB
          rw [hm]
          by_cases e : ∃ k ∈ List.range 4, decide (cellAt n sq2 (j * nW n + wd) k = 2) = true
          · rw [List.any_eq_true.mpr e, decide_eq_true (List.countP_pos_iff.mpr e)]
          · have e1 : (List.range 4).any (fun k => decide (cellAt n sq2 (j * nW n + wd) k = 2)) = false := Bool.eq_false_iff.mpr fun y => e (List.any_eq_true.mp y)
            rw [e1, decide_eq_false fun y => e (List.countP_pos_iff.mp y)]
        have s21 := L2.Same.trans s20 (L2.Same.trans sR3 z1)
        have vl := vis_le (hidB n sq2 wd) j
        refine ⟨_, rfl, _, rfl, D3, _, rfl, .inl (SqL.of z2), _, _, rfl, rfl, .inr ⟨_, rfl, _, _, rfl, rfl, v16, v17, some (.int j), some (.ref D3), ?_, s21⟩⟩
        rw [List.length_replicate]
        have ev : ((j + 1 : Nat) : Int) - ((vis (hidB n sq2 wd) (j + 1)).length : Int) = (j : Int) - ((vis (hidB n sq2 wd) j).length : Int) + (if decide ((m : Int) > 0) = true then 1 else 0) := by
          rw [vis_succ, hb]
          by_cases e : m > 0
          · rw [if_pos (decide_eq_true e), if_pos (decide_eq_true (by omega))]; omega
          · rw [if_neg (fun y => e (of_decide_eq_true y)), if_neg (fun y => e (by have := of_decide_eq_true y; omega)), List.length_append]
            show _ - ((_ + 1 : Nat) : Int) = _
            omega
        rw [ev]
        rfl
      · rintro σ HA ⟨v16, v17, v20, v21, rfl, s20⟩
        refine ⟨_, rfl, _, rfl, _, _, rfl, rfl, _, rfl, ite2 (fun e => ?_) (fun e => ?_)⟩
        · refine q2 (fun z => ?_) _ (L2.Same.trans s18' s20)
          have z3 := z.2.2 wd hwd
          rw [← hsq, ← hsq2] at z3
          have e := of_decide_eq_true e
          omega
        · have e : ¬ (16 - (k : Int) < (16 : Nat) - ((vis (hidB n sq2 wd) 16).length : Int)) := fun z => e (decide_eq_true z)
          refine ⟨_, _, _, _, _, _, rfl, s20, fun x hx => ?_⟩
          by_cases y : x = wd
          · subst y; omega
          · exact hv x (by omega)
    · rintro σ H9 ⟨v16, v17, v18, v19, v20, v21, rfl, s19, hv⟩
      refine q1 ⟨by rw [← hsq]; exact blk, fun x y1 y2 => by rw [← hsq]; exact hx x y1 y2, fun wd hwd => by rw [← hsq, ← hsq2]; exact hv wd hwd⟩ _ (L2.Same.trans s18' s19)
  · have h4 : ¬ 4 ≤ t0 := fun z => e (decide_eq_true (by omega))
    have ov : (4 - (t0 : Int)) % 4 = (oppN t0 : Int) := by unfold oppN; rw [if_neg h4]; omega
    refine ⟨_, rfl, _, _, rfl, rfl, _, _, rfl, rfl, by show (0 : Int) < 4; decide, ?_⟩
    refine ⟨S, oppN t0, n, rS, sq, by (try dsimp only); rw [← ov]; rfl, oN2, by omega, by omega, GS7, fun H8 U2 rU s18 hU GU => ?_⟩
    rw [← hsq2] at GU
    have s18' := L2.Same.trans s17 s18
    refine ⟨_, rfl, (n : Int), rfl, by omega, by omega, ?_⟩
    rw [n4]
    refine ⟨_, rfl, by omega, by omega, ?_⟩
    rw [Int.toNat_natCast]
    refine for_range (lo := 0) (n := nW n) (fun wd σ H9 => ∃ v16 v17 v18 v19 v20 v21, σ = [some (.ref b), some (.int n), some (.int (16 - (k : Int))), some (.ref pl), some (.int t0), some (.int r), some (.int c), some (.ref U2), none, v9, none, some (.ref B), v12, v13, v14, v15, v16, v17, v18, v19, v20, v21] ∧ Same H8 H9 ∧ ∀ x, x < wd → k ≤ (vis (hidB n sq2 x) 16).length)
      ⟨none, none, none, none, none, none, rfl, Same.refl _, fun x hx => absurd hx (Nat.not_lt_zero _)⟩ ?_ ?_
    · rintro wd σ H9 hwd ⟨v16, v17, v18, v19, v20, v21, rfl, s19, hv⟩
      rw [Int.zero_add]
      refine ⟨_, rfl, by decide, by decide, ?_⟩
      refine for_range (lo := 0) (n := 16) (fun j σ H9 => ∃ v16 v17 v20 v21, σ = [some (.ref b), some (.int n), some (.int (16 - (k : Int))), some (.ref pl), some (.int t0), some (.int r), some (.int c), some (.ref U2), none, v9, none, some (.ref B), v12, v13, v14, v15, v16, v17, some (.int wd), some (.int ((j : Int) - ((vis (hidB n sq2 wd) j).length : Int))), v20, v21] ∧ Same H8 H9)
        ⟨_, _, _, _, rfl, s19⟩ ?_ ?_
      · rintro j σ HA hj ⟨v16, v17, v20, v21, rfl, s20⟩
        rw [Int.zero_add]
        have jc : j * nW n ≤ 16 * 5 := Nat.mul_le_mul (by omega) n2
        refine ⟨_, rfl, _, rfl, _, rfl, (n : Int), rfl, by omega, by omega, ?_⟩
        rw [n4]
        refine ⟨_, _, rfl, rfl, .inl ⟨by omega, by omega⟩, _, rfl, _, _, rfl, rfl, ?_⟩
        have ep : (j : Int) * (nW n : Int) + (wd : Int) = ((j * nW n + wd : Nat) : Int) := by rw [Int.natCast_add, Int.natCast_mul]
        refine ⟨(n : Int), ((j * nW n + wd : Nat) : Int), by dsimp only; rw [ep]; rfl, by omega, by omega, by omega, by omega, fun HB R3 RP => ?_⟩
        obtain ⟨nR3, sR3, vs3, eR3, pR3⟩ := RP
        have lv3 : vs3.length = 4 := by rw [prs_len pR3]; unfold placeP; rw [sideP_len]
        have GUB := (GU.same s20).same sR3
        refine ⟨R3, rfl, ⟨_, SqL.of eR3⟩, fun D3 hD3 => ?_⟩
        refine lc_list (K := K) (a := R3) (xs := vs3) (fun i HC => Same HB HC ∧ HC D3 = some (.lst (List.replicate ((List.range i).countP fun k => decide (cellAt n sq2 (j * nW n + wd) k = 2)) (.int 1)))) ⟨same_upd hD3, upd_same⟩ (fun i HC _ z => SqL.of (z.1 _ _ eR3)) (fun i x HC hi z => ?_) fun HC z => ?_
        · obtain ⟨z1, z2⟩ := z
          have hi4 : i < 4 := by have := (List.getElem?_eq_some_iff.mp hi).1; omega
          obtain ⟨p, hp, tp, rfl, etp⟩ := prs_get pR3 hi
          rw [placeP_get (by omega) hi4] at hp
          obtain rfl := Option.some.inj hp
          obtain ⟨ci1, ci2⟩ := cell_in n3 hwd hj hi4
          obtain ⟨a, ha⟩ : ∃ a, a = 2 + (4 * (j * nW n + wd) + i) / (n - 4) := ⟨_, rfl⟩
          obtain ⟨bb, hb⟩ : ∃ bb, bb = 2 + (4 * (j * nW n + wd) + i) % (n - 4) := ⟨_, rfl⟩
          have ec : cellAt n sq2 (j * nW n + wd) i = sq2 a bb := by unfold cellAt; rw [← ha, ← hb]
          dsimp only at etp
          rw [← ha, ← hb] at etp
          have ha2 : a < n := by omega
          have hb2 : bb < n := by omega
          have G1 := GUB.same z1
          have lec := List.countP_le_length (p := fun k => decide (cellAt n sq2 (j * nW n + wd) k = 2)) (l := List.range i)
          rw [List.length_range] at lec
          refine ⟨tp, _, rfl, SqT.of (z1 _ _ etp), rfl, _, _, rfl, _, _, rfl, rfl, rfl, ?_⟩
          refine ⟨_, rfl, _, rfl, U2, _, a, .ref (rU a), rfl, rfl, SqL.of G1.top, atI_nat (refV_get ha2), _, rfl, rU a, _, bb, .int (sq2 a bb), rfl, rfl, SqL.of (G1.row a ha2), atI_nat (rowV_get hb2), rfl, _, rfl, ite2 (fun e => ?_) (fun e => ?_)⟩
          · rw [List.range_succ, List.countP_append, List.countP_singleton, ec, if_pos (decide_eq_true (veq e))]
            exact ones_push z1 hD3 z2 (by omega)
          · rw [List.range_succ, List.countP_append, List.countP_singleton, ec, if_neg (fun y => vne e (of_decide_eq_true y))]
            exact ⟨z1, z2⟩
        obtain ⟨z1, z2⟩ := z
        rw [lv3] at z2
        obtain ⟨m, hm⟩ : ∃ m, m = (List.range 4).countP fun k => decide (cellAt n sq2 (j * nW n + wd) k = 2) := ⟨_, rfl⟩
        rw [← hm] at z2
        have hb : hidB n sq2 wd j = decide (m > 0) := by
          unfold hidB
          rw [hm]
          by_cases e : ∃ k ∈ List.range 4, decide (cellAt n sq2 (j * nW n + wd) k = 2) = true
          · rw [List.any_eq_true.mpr e, decide_eq_true (List.countP_pos_iff.mpr e)]
          · have e1 : (List.range 4).any (fun k => decide (cellAt n sq2 (j * nW n + wd) k = 2)) = false := Bool.eq_false_iff.mpr fun y => e (List.any_eq_true.mp y)
            rw [e1, decide_eq_false fun y => e (List.countP_pos_iff.mp y)]
        have s21 := L2.Same.trans s20 (L2.Same.trans sR3 z1)
        have vl := vis_le (hidB n sq2 wd) j
        refine ⟨_, rfl, _, rfl, D3, _, rfl, .inl (SqL.of z2), _, _, rfl, rfl, .inr ⟨_, rfl, _, _, rfl, rfl, v16, v17, some (.int j), some (.ref D3), ?_, s21⟩⟩
        rw [List.length_replicate]
        have ev : ((j + 1 : Nat) : Int) - ((vis (hidB n sq2 wd) (j + 1)).length : Int) = (j : Int) - ((vis (hidB n sq2 wd) j).length : Int) + (if decide ((m : Int) > 0) = true then 1 else 0) := by
          rw [vis_succ, hb]
          by_cases e : m > 0
          · rw [if_pos (decide_eq_true e), if_pos (decide_eq_true (by omega))]; omega
          · rw [if_neg (fun y => e (of_decide_eq_true y)), if_neg (fun y => e (by have := of_decide_eq_true y; omega)), List.length_append]
            show _ - ((_ + 1 : Nat) : Int) = _
            omega
        rw [ev]
        rfl
      · rintro σ HA ⟨v16, v17, v20, v21, rfl, s20⟩
        refine ⟨_, rfl, _, rfl, _, _, rfl, rfl, _, rfl, ite2 (fun e => ?_) (fun e => ?_)⟩
        · refine q2 (fun z => ?_) _ (L2.Same.trans s18' s20)
          have z3 := z.2.2 wd hwd
          rw [← hsq, ← hsq2] at z3
          have e := of_decide_eq_true e
          omega
        · have e : ¬ (16 - (k : Int) < (16 : Nat) - ((vis (hidB n sq2 wd) 16).length : Int)) := fun z => e (decide_eq_true z)
          refine ⟨_, _, _, _, _, _, rfl, s20, fun x hx => ?_⟩
          by_cases y : x = wd
          · subst y; omega
          · exact hv x (by omega)
    · rintro σ H9 ⟨v16, v17, v18, v19, v20, v21, rfl, s19, hv⟩
      refine q1 ⟨by rw [← hsq]; exact blk, fun x y1 y2 => by rw [← hsq]; exact hx x y1 y2, fun wd hwd => by rw [← hsq, ← hsq2]; exact hv wd hwd⟩ _ (L2.Same.trans s18' s19)
end
end K44
set_option maxHeartbeats 4000000
namespace K44
open PySem PySem.Spec PyProof.Rows L2
section
variable {P : Program} {w : World} {K : PySem.W.Frag} {mg : Str → Option Value} {base : Heap}
/-! ### sums of black cells -/
theorem cnt_ext {g g' : Nat → Int} : ∀ {m : Nat}, (∀ j, j < m → g j = g' j) → cnt1 g m = cnt1 g' m
  | 0, _ => rfl
  | m + 1, h => by
    show cnt1 g m + (if g m = 1 then 1 else 0) = cnt1 g' m + (if g' m = 1 then 1 else 0)
    rw [cnt_ext fun j hj => h j (by omega), h m (by omega)]
theorem cnt_split (g : Nat → Int) (a : Nat) : ∀ m, cnt1 g (a + m) = cnt1 g a + cnt1 (fun j => g (a + j)) m
  | 0 => by show _ = _ + 0; rw [Int.add_zero]; rfl
  | m + 1 => by
    show cnt1 g (a + m) + (if g (a + m) = 1 then 1 else 0) = cnt1 g a + (cnt1 (fun j => g (a + j)) m + (if g (a + m) = 1 then 1 else 0))
    rw [cnt_split g a m]
    omega
theorem cnt_front (g : Nat → Int) (m : Nat) : cnt1 g (m + 1) = (if g 0 = 1 then 1 else 0) + cnt1 (fun j => g (j + 1)) m := by
  rw [show m + 1 = 1 + m by omega, cnt_split g 1 m, show (fun j => g (1 + j)) = fun j => g (j + 1) from funext fun j => by rw [Nat.add_comm]]
  show 0 + (if g 0 = 1 then 1 else 0) + _ = _
  rw [Int.zero_add]
theorem cnt_rev (g : Nat → Int) : ∀ m, cnt1 (fun j => g (m - 1 - j)) m = cnt1 g m
  | 0 => rfl
  | m + 1 => by
    rw [cnt_front]
    show (if g (m + 1 - 1 - 0) = 1 then 1 else 0) + cnt1 (fun j => g (m + 1 - 1 - (j + 1))) m = cnt1 g m + (if g m = 1 then 1 else 0)
    rw [← cnt_rev g m, cnt_ext (g := fun j => g (m + 1 - 1 - (j + 1))) (g' := fun j => g (m - 1 - j)) fun j hj => by congr 1; omega, show m + 1 - 1 - 0 = m by omega]
    omega
theorem cnt_ge (g : Nat → Int) : ∀ m, 0 ≤ cnt1 g m ∧ cnt1 g m ≤ m
  | 0 => ⟨Int.le_refl _, Int.le_refl _⟩
  | m + 1 => by
    obtain ⟨h1, h2⟩ := cnt_ge g m
    show 0 ≤ cnt1 g m + (if g m = 1 then 1 else 0) ∧ cnt1 g m + (if g m = 1 then 1 else 0) ≤ _
    split <;> omega
theorem cnt_zero {g : Nat → Int} : ∀ {m : Nat}, (∀ j, j < m → g j ≠ 1) → cnt1 g m = 0
  | 0, _ => rfl
  | m + 1, h => by
    show cnt1 g m + (if g m = 1 then 1 else 0) = 0
    rw [cnt_zero fun j hj => h j (by omega), if_neg (h m (by omega))]
    rfl
theorem side_cnt (f : Nat → Nat → Int) (F : Nat → Int × Int) : ∀ m, (((sideP m F).countP fun p => decide (at2 f p = 1) : Nat) : Int) = cnt1 (fun j => at2 f (F j)) m
  | 0 => rfl
  | m + 1 => by
    rw [sideP_succ, List.countP_append, List.countP_singleton]
    show _ = cnt1 (fun j => at2 f (F j)) m + (if at2 f (F m) = 1 then 1 else 0)
    rw [← side_cnt f F m, Int.natCast_add]
    congr 1
    by_cases e : at2 f (F m) = 1
    · rw [if_pos e, if_pos (decide_eq_true e)]; rfl
    · rw [if_neg e, if_neg fun y => e (of_decide_eq_true y)]; rfl
/-- the frame's black cells, side by side -/
theorem black_sides (f : Nat → Nat → Int) {n r c m : Nat} (hm : n = m + 1) (h1 : 1 ≤ m) : blackC f n r c = cnt1 (sqr f r c 0) n + cnt1 (sqr f r c m) n + cnt1 (fun i => sqr f r c (i + 1) 0) (m - 1) + cnt1 (fun i => sqr f r c (i + 1) m) (m - 1) := by
  subst hm
  unfold blackC
  have e1 : ∀ g : Nat → Int, cnt1 g (c + (m + 1)) - cnt1 g c = cnt1 (fun j => g (c + j)) (m + 1) := fun g => by rw [cnt_split]; omega
  have e2 : ∀ g : Nat → Int, cnt1 g (r + (m + 1) - 1) - cnt1 g (r + 1) = cnt1 (fun i => g (r + (i + 1))) (m - 1) := fun g => by
    rw [show r + (m + 1) - 1 = (r + 1) + (m - 1) by omega, cnt_split g (r + 1) (m - 1), show (fun j => g (r + 1 + j)) = fun i => g (r + (i + 1)) from funext fun j => by congr 1; omega]
    omega
  rw [e1, e1, e2, e2]
  rfl
theorem black_ring (f : Nat → Nat → Int) {n r c : Nat} (hn : 2 ≤ n) : blackC f n r c = (((ringP n 0).countP fun p => decide (at2 (sqr f r c) p = 1) : Nat) : Int) := by
  obtain ⟨m, rfl⟩ : ∃ m, n = m + 1 := ⟨n - 1, by omega⟩
  rw [black_sides f rfl (by omega)]
  generalize sqr f r c = g
  unfold ringP
  rw [show (((m + 1 : Nat) : Int) - 1 - 0 - 0).toNat = m by omega, List.countP_append, List.countP_append, List.countP_append, Int.natCast_add, Int.natCast_add, Int.natCast_add, side_cnt, side_cnt, side_cnt, side_cnt]
  obtain ⟨k, rfl⟩ : ∃ k, m = k + 1 := ⟨m - 1, by omega⟩
  have a1 : cnt1 (fun j => at2 g ((0 : Int), (0 : Int) + (j : Int))) (k + 1) = cnt1 (g 0) (k + 1) := cnt_ext fun j hj => by show g 0 ((0 : Int) + (j : Int)).toNat = _; congr 1; omega
  have a2 : cnt1 (fun j => at2 g ((0 : Int) + (j : Int), ((k + 1 + 1 : Nat) : Int) - 1 - 0)) (k + 1) = cnt1 (fun j => g j (k + 1)) (k + 1) := cnt_ext fun j hj => by show g ((0 : Int) + (j : Int)).toNat (((k + 1 + 1 : Nat) : Int) - 1 - 0).toNat = _; congr 1 <;> omega
  have a3 : cnt1 (fun j => at2 g (((k + 1 + 1 : Nat) : Int) - 1 - 0, ((k + 1 + 1 : Nat) : Int) - 1 - 0 - (j : Int))) (k + 1) = cnt1 (fun j => (fun i => g (k + 1) (i + 1)) (k + 1 - 1 - j)) (k + 1) := cnt_ext fun j hj => by show g (((k + 1 + 1 : Nat) : Int) - 1 - 0).toNat (((k + 1 + 1 : Nat) : Int) - 1 - 0 - (j : Int)).toNat = g (k + 1) (k + 1 - 1 - j + 1); congr 1 <;> omega
  have a4 : cnt1 (fun j => at2 g (((k + 1 + 1 : Nat) : Int) - 1 - 0 - (j : Int), (0 : Int))) (k + 1) = cnt1 (fun j => (fun i => g (i + 1) 0) (k + 1 - 1 - j)) (k + 1) := cnt_ext fun j hj => by show g (((k + 1 + 1 : Nat) : Int) - 1 - 0 - (j : Int)).toNat 0 = g (k + 1 - 1 - j + 1) 0; congr 1; omega
  rw [a1, a2, a3, a4, cnt_rev (fun i => g (k + 1) (i + 1)) (k + 1), cnt_rev (fun i => g (i + 1) 0) (k + 1), cnt_front (fun j => g j (k + 1)) k, cnt_front (g (k + 1)) (k + 1)]
  have b1 : cnt1 (g 0) (k + 1 + 1) = cnt1 (g 0) (k + 1) + (if g 0 (k + 1) = 1 then 1 else 0) := rfl
  have b2 : cnt1 (fun i => g (i + 1) 0) (k + 1) = cnt1 (fun i => g (i + 1) 0) k + (if g (k + 1) 0 = 1 then 1 else 0) := rfl
  rw [b1, b2, show k + 1 - 1 = k by omega]
  omega
/-- a frame whose one side is white is no page -/
theorem black_few (f : Nat → Nat → Int) {n r c : Nat} (hn : 2 ≤ n) (h : (∀ j, j < n → sqr f r c 0 j ≠ 1) ∨ (∀ j, j < n → sqr f r c (n - 1) j ≠ 1) ∨ (∀ i, i < n → sqr f r c i 0 ≠ 1) ∨ (∀ i, i < n → sqr f r c i (n - 1) ≠ 1)) : blackC f n r c < thrI n := by
  obtain ⟨m, rfl⟩ : ∃ m, n = m + 1 := ⟨n - 1, by omega⟩
  rw [black_sides f rfl (by omega)]
  generalize sqr f r c = g at *
  rw [Nat.add_sub_cancel] at h
  unfold thrI
  have t1 := cnt_ge (g 0) (m + 1)
  have t2 := cnt_ge (g m) (m + 1)
  have t3 := cnt_ge (fun i => g (i + 1) 0) (m - 1)
  have t4 := cnt_ge (fun i => g (i + 1) m) (m - 1)
  rcases h with h | h | h | h
  · rw [cnt_zero h]
    omega
  · rw [cnt_zero h]
    omega
  · have e1 : cnt1 (g 0) (m + 1) = (if g 0 0 = 1 then 1 else 0) + cnt1 (fun j => g 0 (j + 1)) m := cnt_front _ _
    have e2 : cnt1 (g m) (m + 1) = (if g m 0 = 1 then 1 else 0) + cnt1 (fun j => g m (j + 1)) m := cnt_front _ _
    rw [if_neg (h 0 (by omega))] at e1
    rw [if_neg (h m (by omega))] at e2
    have u1 := cnt_ge (fun j => g 0 (j + 1)) m
    have u2 := cnt_ge (fun j => g m (j + 1)) m
    have u3 : cnt1 (fun i => g (i + 1) 0) (m - 1) = 0 := cnt_zero fun j hj => h (j + 1) (by omega)
    omega
  · have e1 : cnt1 (g 0) (m + 1) = cnt1 (g 0) m + (if g 0 m = 1 then 1 else 0) := rfl
    have e2 : cnt1 (g m) (m + 1) = cnt1 (g m) m + (if g m m = 1 then 1 else 0) := rfl
    rw [if_neg (h 0 (by omega))] at e1
    rw [if_neg (h m (by omega))] at e2
    have u1 := cnt_ge (g 0) m
    have u2 := cnt_ge (g m) m
    have u3 : cnt1 (fun i => g (i + 1) m) (m - 1) = 0 := cnt_zero fun j hj => h (j + 1) (by omega)
    omega
/-! ### turned and turned back -/
theorem trn_rel {n t : Nat} {a b : Nat → Nat → Int} {R : Int → Int → Prop} (h : ∀ i j, i < n → j < n → R (a i j) (b i j)) : ∀ i j, i < n → j < n → R (trn n t a i j) (trn n t b i j) := by
  unfold trn
  have h0 : ∀ i j, i < n → j < n → R ((if 4 ≤ t then flipF n a else a) i j) ((if 4 ≤ t then flipF n b else b) i j) := fun i j hi hj => by
    split
    · exact h i (n - 1 - j) hi (by omega)
    · exact h i j hi hj
  generalize (if 4 ≤ t then flipF n a else a) = a0 at h0
  generalize (if 4 ≤ t then flipF n b else b) = b0 at h0
  generalize t % 4 = k
  induction k with
  | zero => exact h0
  | succ k ih => exact fun i j hi hj => ih (n - 1 - j) i (by omega) hi
theorem trn_opp (n : Nat) (f : Nat → Nat → Int) : ∀ t, t < 8 → ∀ i j, i < n → j < n → trn n (oppN t) (trn n t f) i j = f i j
  | 0, _, i, j, _, _ => rfl
  | 1, _, i, j, hi, hj => by show f _ _ = f i j; congr 1 <;> omega
  | 2, _, i, j, hi, hj => by show f _ _ = f i j; congr 1 <;> omega
  | 3, _, i, j, hi, hj => by show f _ _ = f i j; congr 1 <;> omega
  | 4, _, i, j, hi, hj => by show f _ _ = f i j; congr 1; omega
  | 5, _, i, j, hi, hj => by show f _ _ = f i j; congr 1 <;> omega
  | 6, _, i, j, hi, hj => by show f _ _ = f i j; congr 1 <;> omega
  | 7, _, i, j, hi, hj => by show f _ _ = f i j; congr 1 <;> omega
  | t + 8, h, _, _, _, _ => absurd h (by omega)
end
end K44
set_option maxHeartbeats 4000000
namespace K44
open PySem PySem.Spec PyProof.Rows L2
section
variable {P : Program} {w : World} {K : PySem.W.Frag} {mg : Str → Option Value} {base : Heap}
/-! ### the torn bed -/
section
variable {n r c t0 h w' : Nat} {f f' : Nat → Nat → Int} {cf : Nat → Nat → G}
theorem torn_in (T : Torn n r c (bedF n r c (trn n t0 f)) f') {i j : Nat} (hi : i < n) (hj : j < n) : sqr f' r c i j = 2 ∨ sqr f' r c i j = trn n t0 f i j := by
  rcases T (r + i) (c + j) with e | ⟨_, _, _, _, e⟩
  · refine .inr ?_
    show f' (r + i) (c + j) = _
    rw [e]
    unfold bedF
    rw [if_pos (by omega), Nat.add_sub_cancel_left, Nat.add_sub_cancel_left]
  · exact .inl e
theorem torn_out (T : Torn n r c (bedF n r c (trn n t0 f)) f') {x y : Nat} (h : ¬ (r ≤ x ∧ x < r + n ∧ c ≤ y ∧ y < c + n)) : f' x y = 0 := by
  rcases T x y with e | ⟨e1, e2, e3, e4, e⟩
  · rw [e]
    unfold bedF
    rw [if_neg h]
  · exact absurd ⟨e1, e2, e3, e4⟩ h
theorem bed_ok (P : Page n (nW n) cf f) (T : Torn n r c (bedF n r c (trn n t0 f)) f') (h16 : 16 ≤ n) (h22 : n ≤ 22) (hh : h ≤ 60) (hw : w' ≤ 60) (hr : r + n ≤ h) (hc : c + n ≤ w') (ht : t0 < 8) : Bed n h w' r c t0 f' := by
  refine ⟨h16, h22, hh, hw, fun x y hx hy => ?_, hr, hc, ht, fun r1 c1 _ _ hne => black_few f' (by omega) ?_, fun p hp => ?_⟩
  · by_cases e : r ≤ x ∧ x < r + n ∧ c ≤ y ∧ y < c + n
    · have h1 := torn_in T (i := x - r) (j := y - c) (by omega) (by omega)
      have h2 := trn_sq (t := t0) (R := fun z => z = 0 ∨ z = 1) P.b01 (x - r) (y - c) (by omega) (by omega)
      have e3 : sqr f' r c (x - r) (y - c) = f' x y := by show f' _ _ = _; congr 1 <;> omega
      rw [e3] at h1
      omega
    · rw [torn_out T e]
      omega
  · by_cases e1 : r1 < r
    · exact .inl fun j _ => by rw [show sqr f' r1 c1 0 j = 0 from torn_out T (by omega)]; decide
    by_cases e2 : r < r1
    · exact .inr (.inl fun j _ => by rw [show sqr f' r1 c1 (n - 1) j = 0 from torn_out T (by omega)]; decide)
    by_cases e3 : c1 < c
    · exact .inr (.inr (.inl fun i _ => by rw [show sqr f' r1 c1 i 0 = 0 from torn_out T (by omega)]; decide))
    exact .inr (.inr (.inr fun i _ => by rw [show sqr f' r1 c1 i (n - 1) = 0 from torn_out T (by omega)]; decide))
  · rw [← trn_blank P (by omega) hp]
    obtain ⟨p0, p1, p2, p3⟩ := ringP_in (by decide) (by omega) hp
    exact torn_in T (i := p.1.toNat) (j := p.2.toNat) (by omega) (by omega)
theorem back_in (T : Torn n r c (bedF n r c (trn n t0 f)) f') (ht : t0 < 8) {i j : Nat} (hi : i < n) (hj : j < n) : trn n (oppN t0) (sqr f' r c) i j = 2 ∨ trn n (oppN t0) (sqr f' r c) i j = f i j := by
  have h := trn_rel (t := oppN t0) (R := fun a b => a = 2 ∨ a = b) (fun i j hi hj => torn_in T hi hj) i j hi hj
  rw [trn_opp n f t0 ht i j hi hj] at h
  exact h
theorem hid_sym (P : Page n (nW n) cf f) (T : Torn n r c (bedF n r c (trn n t0 f)) f') (h16 : 16 ≤ n) (h22 : n ≤ 22) (ht : t0 < 8) {wd j : Nat} (hw : wd < nW n) (hj : j < 16) :
    symV (cellAt n (trn n (oppN t0) (sqr f' r c)) (j * nW n + wd)) = if hidB n (trn n (oppN t0) (sqr f' r c)) wd j then .non else gV (cf wd j) := by
  obtain ⟨n1, n2, n3, n4⟩ := nW_ok ⟨n, by omega⟩ h16
  dsimp only at n1 n2 n3 n4
  have hb : hidB n (trn n (oppN t0) (sqr f' r c)) wd j = true ↔ ∃ k, k < 4 ∧ cellAt n (trn n (oppN t0) (sqr f' r c)) (j * nW n + wd) k = 2 := by
    unfold hidB
    rw [List.any_eq_true]
    constructor
    · rintro ⟨k, hk, e⟩
      exact ⟨k, List.mem_range.mp hk, of_decide_eq_true e⟩
    · rintro ⟨k, hk, e⟩
      exact ⟨k, List.mem_range.mpr hk, decide_eq_true e⟩
  by_cases e : hidB n (trn n (oppN t0) (sqr f' r c)) wd j = true
  · rw [if_pos e]
    obtain ⟨k, hk, e2⟩ := hb.mp e
    exact symV_non hk e2
  · rw [if_neg e, symV_int fun k hk e2 => e (hb.mpr ⟨k, hk, e2⟩)]
    have cell : ∀ k, k < 4 → cellAt n (trn n (oppN t0) (sqr f' r c)) (j * nW n + wd) k = bitI (cf wd j) k := fun k hk => by
      obtain ⟨c1, c2⟩ := cell_in n3 hw hj hk
      have := back_in T ht (i := 2 + (4 * (j * nW n + wd) + k) / (n - 4)) (j := 2 + (4 * (j * nW n + wd) + k) % (n - 4)) (by omega) (by omega)
      rw [← P.cell wd j k hw hj hk]
      exact this.resolve_left fun e2 => e (hb.mpr ⟨k, hk, e2⟩)
    show V.int _ = V.int _
    rw [← bits_sym]
    show V.int (2 * (2 * (2 * (2 * 0 + _) + _) + _) + _) = V.int (2 * (2 * (2 * (2 * 0 + _) + _) + _) + _)
    rw [cell 0 (by decide), cell 1 (by decide), cell 2 (by decide), cell 3 (by decide)]
theorem rdb_iff {k : Nat} (hn : 2 ≤ n) : Rdb n k r c t0 f' ↔ Seen n t0 r c f' ∧ ∀ wd, wd < nW n → k ≤ (vis (hidB n (trn n (oppN t0) (sqr f' r c)) wd) 16).length := by
  unfold Rdb Seen
  rw [black_ring f' hn]
  exact ⟨fun ⟨a, b, c⟩ => ⟨⟨a, b⟩, c⟩, fun ⟨⟨a, b⟩, c⟩ => ⟨a, b, c⟩⟩
end
/-! ### data, to be compared -/
def intsD (l : List V) : List PyData := l.map fun | .int i => .int i | _ => .none
theorem dp_all {H : Hp} {F : Nat → V} {D : Nat → PyData} (h : ∀ i, Dp K H (F i) (D i)) : ∀ l : List Nat, DpAll K H (l.map F) (l.map D)
  | [] => .nil
  | i :: l => .cons (h i) (dp_all h l)
theorem dp_all' {H : Hp} {F : Nat → V} {D : Nat → PyData} : ∀ {l : List Nat}, (∀ i ∈ l, Dp K H (F i) (D i)) → DpAll K H (l.map F) (l.map D)
  | [], _ => .nil
  | i :: l, h => .cons (h i (List.mem_cons_self ..)) (dp_all' fun j hj => h j (List.mem_cons_of_mem _ hj))
def rowD (f : Nat → Int) (m : Nat) : PyData := .list ((List.range m).map fun j => .int (f j))
def gridD (f : Nat → Nat → Int) (h m : Nat) : PyData := .list ((List.range h).map fun i => rowD (f i) m)
theorem grid_dp {H : Hp} {a : Addr} {rs : Nat → Addr} {h m : Nat} {f : Nat → Nat → Int} (G : Grid H a rs h m f) : Dp K H (.ref a) (gridD f h m) :=
  .lst (SqL.of G.top) (dp_all' fun i hi => .lst (SqL.of (G.row i (List.mem_range.mp hi))) (dp_all (fun j => .int _) _))
theorem lay_all {D : Nat → PyData} (h : ∀ i, (D i).canLay0 = true) : ∀ l : List Nat, PyData.canLayAll0 (l.map D) = true
  | [] => by simp [PyData.canLayAll0]
  | i :: l => by simp [PyData.canLayAll0, h i, lay_all h l]
theorem dep_all {D : Nat → PyData} {m : Nat} (h : ∀ i, (D i).depth ≤ m) : ∀ l : List Nat, PyData.depthAll (l.map D) ≤ m
  | [] => by simp [PyData.depthAll]
  | i :: l => by
    have h1 := dep_all h l
    have h2 := h i
    simp only [List.map_cons, PyData.depthAll]
    omega
theorem rowD_lay (f : Nat → Int) (m : Nat) : (rowD f m).canLay0 = true := by
  unfold rowD
  simp only [PyData.canLay0]
  exact lay_all (fun i => by simp [PyData.canLay0]) _
theorem rowD_dep (f : Nat → Int) (m : Nat) : (rowD f m).depth ≤ 1 := by
  have := dep_all (D := fun j => PyData.int (f j)) (m := 0) (fun i => by simp [PyData.depth]) (List.range m)
  unfold rowD
  simp only [PyData.depth]
  omega
theorem gridD_shaped (f : Nat → Nat → Int) (h m : Nat) : SeqAt.shaped (gridD f h m) = true := by
  show ((gridD f h m).canLay0 && decide ((gridD f h m).depth ≤ 64)) = true
  rw [Bool.and_eq_true]
  refine ⟨?_, decide_eq_true ?_⟩
  · unfold gridD
    simp only [PyData.canLay0]
    exact lay_all (fun i => rowD_lay _ _) _
  · have := dep_all (D := fun i => rowD (f i) m) (m := 1) (fun i => rowD_dep _ _) (List.range h)
    unfold gridD
    simp only [PyData.depth]
    omega
theorem gridD_plain (f : Nat → Nat → Int) (h m : Nat) : PyData.eqv (gridD f h m) (gridD f h m) = true :=
  SeqAt.eqv_refl _ (SeqAt.canLay_of_shaped (gridD_shaped f h m))
/-- the answer's data -/
def ansD (L : Lab) (l : List G) : PyData := .tuple [.tuple [.int L.ar, .int L.nu, .int L.da, .int L.si, .int L.ch], rowD (gr (gat l)) l.length]
theorem ans_dp {H : Hp} {p lt bl : Addr} {L : Lab} {l : List G} (e : SqT K H p [.ref lt, .ref bl]) (e1 : SqT K H lt L.vs) (e2 : SqL K H bl (gsV l)) : Dp K H (.ref p) (ansD L l) := by
  refine .tup e (.cons (.tup e1 ?_) (.cons (.lst e2 ?_) .nil))
  · exact .cons (.int _) (.cons (.int _) (.cons (.int _) (.cons (.int _) (.cons (.int _) .nil))))
  · rw [gsV_row]
    exact dp_all (fun j => .int _) _
theorem ansD_shaped (L : Lab) (l : List G) : SeqAt.shaped (ansD L l) = true := by
  show ((ansD L l).canLay0 && decide ((ansD L l).depth ≤ 64)) = true
  rw [Bool.and_eq_true]
  have h1 := rowD_lay (gr (gat l)) l.length
  have h2 := rowD_dep (gr (gat l)) l.length
  refine ⟨?_, decide_eq_true ?_⟩
  · unfold ansD
    simp [PyData.canLay0, PyData.canLayAll0, h1]
  · unfold ansD
    simp only [PyData.depth, PyData.depthAll]
    omega
theorem ansD_eqv (L : Lab) (l : List G) : PyData.eqv (ansD L l) (ansD L l) = true :=
  SeqAt.eqv_refl _ (SeqAt.canLay_of_shaped (ansD_shaped L l))
end
end K44
set_option maxHeartbeats 4000000
namespace K44
open PySem PySem.Spec PyProof.Rows L2
section
variable {P : Program} {w : World} {K : PySem.W.Frag} {mg : Str → Option Value} {base : Heap}
theorem cap_ok : ∀ n : Fin 23, ∀ k : Fin 17, 16 ≤ n.val → 8 ≤ k.val → (n.val < 18 → 12 ≤ k.val) → (12 : Int) ≤ (((n.val : Int) - 4) * ((n.val : Int) - 4) / 64 - 1) * (16 - (16 - (k.val : Int))) := by decide +kernel
def sp_law (K : PySem.W.Frag) : Sp := fun vs H Q _ => ∃ (a : Addr) (ns : List Int), vs = [.ref a] ∧ SqL K H a (ns.map V.int) ∧ ∀ H', Q (.bl true) H'
theorem fn_law (T : Tx K mg) {f : Addr} {fd : FuncData} (F : Fun K "law" "law" s_law f fd) : FnOk P w K mg base CX0 9 f fd p_law (sp_law K) := by
  refine F.ok sc_law (fun vs H Q E h => by obtain ⟨a, ns, rfl, _⟩ := h; rfl) (fun cdv A outer s H vs Q E hr h => ?_)
  obtain ⟨a, ns, rfl, hS, q⟩ := h
  refine ⟨_, (pss_cons (ps_asg (pcall (ok_law_form T) (hr.mono (by decide)) (pa_cons (pe_op op_mod (pcall (ok_law_cell T) (hr.mono (by decide)) (pa_cons (pv 0) (pa_cons pe_int pa_nil))) pe_int) pa_nil)) (pg_two K (i := 1) (j := 2) rfl sc_law.nd rfl rfl (Or.inl rfl) (Or.inl rfl)))
      (pss_cons (ps_set (i := 3) sc_law.nd rfl (Or.inl rfl) (pmake (mk_Format (K := K) T) T.k_Format.mgC (hr.mono (by decide)) (pa_cons (pv 1) (pa_cons (pv 2) pa_nil))))
      (pss_cons (ps_set (i := 4) sc_law.nd rfl (Or.inl rfl) (pcall (ok_law_label T) (hr.mono (by decide)) (pa_cons (pcall (ok_law_cell T) (hr.mono (by decide)) (pa_cons (pv 0) (pa_cons pe_int pa_nil))) pa_nil)))
      (pss_cons (ps_set (i := 5) sc_law.nd rfl (Or.inl rfl) (pcall (ok_law_row T) (hr.mono (by decide)) (pa_cons (pcall (ok_law_cell T) (hr.mono (by decide)) (pa_cons (pv 0) (pa_cons pe_int pa_nil))) (pa_cons (pcall (ok_law_body_size T) (hr.mono (by decide)) (pa_cons (pv 1) (pa_cons (pv 2) pa_nil))) (pa_cons pe_int pa_nil)))))
      (pss_cons (ps_set (i := 6) sc_law.nd rfl (Or.inl rfl) (pe_op op_mod (pcall (ok_law_cell T) (hr.mono (by decide)) (pa_cons (pv 0) (pa_cons pe_int pa_nil))) pe_int))
      (pss_cons (ps_set (i := 7) sc_law.nd rfl (Or.inl rfl) (pe_op op_add (pv 1) (pe_op op_mod (pcall (ok_law_cell T) (hr.mono (by decide)) (pa_cons (pv 0) (pa_cons pe_int pa_nil))) pe_int)))
      (pss_cons (ps_set (i := 8) sc_law.nd rfl (Or.inl rfl) (pe_op op_add (pv 1) (pe_op op_mod (pe_op op_fdiv (pcall (ok_law_cell T) (hr.mono (by decide)) (pa_cons (pv 0) (pa_cons pe_int pa_nil))) pe_int) pe_int)))
      (pss_cons (ps_set (i := 9) sc_law.nd rfl (Or.inl rfl) (pe_tup (pa_cons (pe_op op_mod (pcall (ok_law_cell T) (hr.mono (by decide)) (pa_cons (pv 0) (pa_cons pe_int pa_nil))) (pe_op op_add (pe_op op_sub (pv 7) (pv 1)) pe_int)) (pa_cons (pe_op op_mod (pe_op op_fdiv (pcall (ok_law_cell T) (hr.mono (by decide)) (pa_cons (pv 0) (pa_cons pe_int pa_nil))) pe_int) (pe_op op_add (pe_op op_sub (pv 8) (pv 1)) pe_int)) pa_nil))))
      (pss_cons (ps_set (i := 10) sc_law.nd rfl (Or.inl rfl) (pcall (ok_law_bed T) (hr.mono (by decide)) (pa_cons (pcall (ok_law_page T) (hr.mono (by decide)) (pa_cons (pv 1) (pa_cons (pv 2) (pa_cons (pv 4) (pa_cons (pv 5) pa_nil))))) (pa_cons (pv 6) (pa_cons (pv 7) (pa_cons (pv 8) (pa_cons (pe_ix (ixT K) (pv 9) pe_int (fun _ _ => rfl)) (pa_cons (pe_ix (ixT K) (pv 9) pe_int (fun _ _ => rfl)) pa_nil))))))))
      (pss_cons (ps_for PassesOwn.never rfl (pi_range1 (by rfl) T.b_range (pa_cons (pe_op op_add pe_int (pe_op op_mod (pcall (ok_law_cell T) (hr.mono (by decide)) (pa_cons (pv 0) (pa_cons pe_int pa_nil))) pe_int)) pa_nil)) (pg_name (i := 11) sc_law.nd rfl (Or.inl rfl))
      (pss_one (ps_expr (pcall (ok_law_tear T) (hr.mono (by decide)) (pa_cons (pv 10) (pa_cons (pv 9) (pa_cons (pv 1) (pa_cons (pcall (ok_law_cell T) (hr.mono (by decide)) (pa_cons (pv 0) (pa_cons (pe_op op_add pe_int (pv 11)) pa_nil))) pa_nil))))))))
      (pss_cons (ps_setLc (i := 12) (own := [("_law_line", 13)]) rfl sc_law.nd rfl rfl (sw_true rfl rfl rfl (by decide +kernel)) (piL K (pv 10)) (blkOk_by (by kernel_rfl)) (fun _ _ _ _ _ => (pg_name (i := 13) sc_law.nd rfl (Or.inl rfl))) (fun _ _ _ _ _ => pts_nil) (fun _ _ _ _ _ => (pe_callTy (listK K) (by rfl) T.b_list (by decide +kernel) (pa_cons (pv 13) pa_nil))))
      (pss_cons (ps_set (i := 14) sc_law.nd rfl (Or.inl rfl) (pcall (ok_read_scan T) (hr.mono (by decide)) (pa_cons (pv 3) (pa_cons (pv 12) pa_nil))))
      (pss_cons (ps_if (pt_cmpR (op_neD hr.units) (pv 12) (pv 10) (nomark _)) (pss_one (ps_ret pe_bl)) pss_nil)
      (pss_cons (ps_if (pt_not (pt_val (pcall (ok_law_is_readable T) (hr.mono (by decide)) (pa_cons (pv 10) (pa_cons (pv 1) (pa_cons (pv 2) (pa_cons (pv 9) (pa_cons (pv 6) pa_nil)))))))) (pss_one (ps_ret (pe_cmpR op_isN (pv 14) pe_non (nomark _)))) pss_nil)
      (pss_one (ps_ret (pe_and (pe_callB call_isi (by rfl) T.b_isinstance (by decide +kernel) (pa_cons (pv 14) (pa_cons (pe_bltn (v := .ty "tuple") (u := .type "tuple") rfl T.b_tuple (by decide +kernel) rfl) pa_nil))) (pe_one (pe_cmpR (op_eqD hr.units) (pv 14) (pe_tup (pa_cons (pv 4) (pa_cons (pv 5) pa_nil))) (nomark _)))))))))))))))))))), ?_⟩
  -- the format
  refine ⟨_, rfl, a, ns, 0, rfl, hS, fun z0 => ⟨_, _, rfl, rfl, by show (0 : Int) < 28; decide, z0 % 28, rfl, by omega, by omega, fun sn sc p0 F hp0 => ?_⟩⟩
  obtain ⟨F1, F2, F3, F4⟩ := F
  obtain ⟨n, rfl⟩ : ∃ n : Nat, sn = n := ⟨sn.toNat, by omega⟩
  obtain ⟨k, rfl⟩ : ∃ k : Nat, sc = 16 - (k : Int) := ⟨(16 - sc).toNat, by omega⟩
  have h16 : 16 ≤ n := by omega
  have h22 : n ≤ 22 := by omega
  have hk8 : 8 ≤ k := by omega
  have hk16 : k ≤ 16 := by omega
  obtain ⟨n1, n2, n3, n4⟩ := nW_ok ⟨n, by omega⟩ h16
  dsimp only at n1 n2 n3 n4
  have s1 : Same H (upd H p0 (.tup [.int (n : Int), .int (16 - (k : Int))])) := same_upd hp0
  refine ⟨p0, _, rfl, SqT.of upd_same, rfl, _, _, rfl, _, _, rfl, rfl, ?_⟩
  generalize (upd H p0 (.tup [.int (n : Int), .int (16 - (k : Int))]) : Hp) = H1 at s1 ⊢
  refine ⟨_, rfl, _, rfl, fun fo dx hx hdx hne => ?_⟩
  have sA : Same H1 (upd (upd H1 dx (.own fo)) fo (.ins (cF K) dx [])) := L2.Same.trans (same_upd hdx) (same_upd (by rw [upd_ne (Ne.symm hne)]; exact hx))
  refine ⟨fo, dx, (n : Int), 16 - (k : Int), rfl, upd_same, by omega, by omega, by omega, cap_ok ⟨n, by omega⟩ ⟨k, by omega⟩ h16 hk8 (fun h => by have h : n < 18 := h; have := F4 (by omega); show 12 ≤ k; omega), rfl, ?_⟩
  obtain ⟨H2, eH2⟩ : ∃ H2, H2 = upd (upd (upd (upd H1 dx (.own fo)) fo (.ins (cF K) dx [])) fo (.ins (cF K) dx [("side", .int (n : Int))])) fo (.ins (cF K) dx [("side", .int (n : Int)), ("checks", .int (16 - (k : Int)))]) := ⟨_, rfl⟩
  rw [← eH2]
  have s2 : Same H1 H2 := by
    rw [eH2]
    exact same_mut (same_mut sA hx) hx
  have hf : FormAt K H2 fo n (16 - k) := ⟨⟨by omega, by omega, by omega, by omega⟩, dx, by rw [eH2, upd_same]⟩
  clear eH2
  have s12 := L2.Same.trans s1 s2
  -- the label, the body
  refine ⟨_, rfl, a, ns, 1, rfl, s12.seq hS, fun z1 => ⟨z1, rfl, fun L pL hL hpL => ?_⟩⟩
  have s3 := same_upd (o := .tup L.vs) hpL
  have eL : upd H2 pL (.tup L.vs) pL = some (.tup L.vs) := upd_same
  generalize (upd H2 pL (.tup L.vs) : Hp) = H3 at s3 eL ⊢
  have s13 := L2.Same.trans s12 s3
  refine ⟨_, rfl, a, ns, 2, rfl, s13.seq hS, fun z2 => ⟨_, rfl, _, rfl, (n : Int), 16 - (k : Int), rfl, by omega, by omega, by omega, by omega, ?_⟩⟩
  dsimp only
  rw [n4, show ((nW n : Int) - 1) * (16 - (16 - (k : Int))) = (((nW n - 1) * k : Nat) : Int) by rw [Int.natCast_mul, Int.ofNat_sub (by omega), show (16 : Int) - (16 - (k : Int)) = k by omega]; rfl]
  have nk : (nW n - 1) * k ≤ 4 * 16 := Nat.mul_le_mul (by omega) hk16
  refine ⟨z2, (((nW n - 1) * k : Nat) : Int), rfl, by omega, by omega, fun body pB H4 hlb s4 hpB eB => ?_⟩
  have hlb2 : body.length = (nW n - 1) * k := by omega
  have s14 := L2.Same.trans s13 s4
  obtain ⟨all, eall⟩ : ∃ all, all = L.syms ++ List.replicate (k - 8) 0 ++ body := ⟨_, rfl⟩
  have hal : all.length = nW n * k := by
    rw [eall, List.length_append, List.length_append, List.length_replicate, hlb2]
    obtain ⟨m, hm⟩ : ∃ m, nW n = m + 1 := ⟨nW n - 1, by omega⟩
    rw [hm, Nat.add_sub_cancel, Nat.add_mul, Nat.one_mul]
    show 8 + (k - 8) + _ = _
    omega
  -- the turn, the bed's size, the place
  refine ⟨_, rfl, a, ns, 3, rfl, s14.seq hS, fun z3 => ⟨_, _, rfl, rfl, by show (0 : Int) < 8; decide, ?_⟩⟩
  obtain ⟨t0, ht0, ht8⟩ : ∃ t0 : Nat, z3 % 8 = t0 ∧ t0 < 8 := ⟨(z3 % 8).toNat, by omega, by omega⟩
  dsimp only
  rw [ht0]
  refine ⟨_, rfl, _, rfl, a, ns, 4, rfl, s14.seq hS, fun z4 => ⟨_, _, rfl, rfl, by show (0 : Int) < 5; decide, _, _, rfl, rfl, ?_⟩⟩
  obtain ⟨h, hh, hh1, hh2⟩ : ∃ h : Nat, (n : Int) + z4 % 5 = h ∧ n ≤ h ∧ h ≤ 60 := ⟨((n : Int) + z4 % 5).toNat, by omega, by omega, by omega⟩
  dsimp only
  rw [hh]
  refine ⟨_, rfl, _, rfl, a, ns, 4, rfl, s14.seq hS, fun z4' => ⟨_, _, rfl, rfl, ⟨by decide, by decide⟩, _, _, rfl, rfl, by show (0 : Int) < 5; decide, _, _, rfl, rfl, ?_⟩⟩
  obtain ⟨w', hw, hw1, hw2⟩ : ∃ w' : Nat, (n : Int) + z4' / 5 % 5 = w' ∧ n ≤ w' ∧ w' ≤ 60 := ⟨((n : Int) + z4' / 5 % 5).toNat, by omega, by omega, by omega⟩
  dsimp only
  rw [hw]
  refine ⟨_, rfl, a, ns, 5, rfl, s14.seq hS, fun z5 => ⟨_, rfl, _, rfl, _, _, rfl, rfl, _, _, rfl, rfl, _, _, rfl, rfl, by show (0 : Int) < (h : Int) - (n : Int) + 1; omega, ?_⟩⟩
  refine ⟨_, rfl, a, ns, 5, rfl, s14.seq hS, fun z5' => ⟨_, _, rfl, rfl, ⟨by decide, by decide⟩, _, rfl, _, rfl, _, _, rfl, rfl, _, _, rfl, rfl, _, _, rfl, rfl, by show (0 : Int) < (w' : Int) - (n : Int) + 1; omega, by show 2 ≤ sizeLine; decide, fun pl hpl => ?_⟩⟩
  have d1 : (0 : Int) < (h : Int) - (n : Int) + 1 := by omega
  have d2 : (0 : Int) < (w' : Int) - (n : Int) + 1 := by omega
  have b1 := Int.emod_nonneg z5 (show (h : Int) - (n : Int) + 1 ≠ 0 by omega)
  have b2 := Int.emod_lt_of_pos z5 d1
  have b3 := Int.emod_nonneg (z5' / 9) (show (w' : Int) - (n : Int) + 1 ≠ 0 by omega)
  have b4 := Int.emod_lt_of_pos (z5' / 9) d2
  dsimp only
  obtain ⟨r, hr⟩ : ∃ r : Nat, z5 % ((h : Int) - (n : Int) + 1) = r := ⟨(z5 % ((h : Int) - (n : Int) + 1)).toNat, by omega⟩
  obtain ⟨c, hc⟩ : ∃ c : Nat, z5' / 9 % ((w' : Int) - (n : Int) + 1) = c := ⟨(z5' / 9 % ((w' : Int) - (n : Int) + 1)).toNat, by omega⟩
  rw [hr] at b1 b2 ⊢
  rw [hc] at b3 b4 ⊢
  have hr2 : r + n ≤ h := by omega
  have hc2 : c + n ≤ w' := by omega
  have s5 := same_upd (o := .tup [.int (r : Int), .int (c : Int)]) hpl
  have ePl : upd H4 pl (.tup [.int (r : Int), .int (c : Int)]) pl = some (.tup [.int (r : Int), .int (c : Int)]) := upd_same
  generalize (upd H4 pl (.tup [.int (r : Int), .int (c : Int)]) : Hp) = H5 at s5 ePl ⊢
  have s15 := L2.Same.trans s14 s5
  -- the page, the bed
  refine ⟨_, rfl, _, rfl, _, rfl, _, rfl, pL, pB, n, k, L, all, body, rfl, h16, h22, hk8, hk16, s5 _ _ (s4 _ _ eL), hL, s5 _ _ eB, eall, hal, fun H6 pg rsP fP s6 hpg GP PP => ?_⟩
  have s16 := L2.Same.trans s15 s6
  have ePl6 := s6 _ _ ePl
  refine ⟨_, rfl, _, rfl, _, rfl, _, rfl, pl, _, 0, .int (r : Int), rfl, rfl, SqT.of ePl6, rfl, _, rfl, pl, _, 1, .int (c : Int), rfl, rfl, SqT.of ePl6, rfl, ?_⟩
  refine ⟨pg, rsP, n, t0, h, w', r, c, fP, rfl, GP, ht8, by omega, h22, hh2, hw2, hr2, hc2, fun H7 Bd rsB RB => ?_⟩
  -- the tears
  refine ⟨_, rfl, a, ns, 6, rfl, (L2.Same.trans s16 RB.same).seq hS, fun z6 => ⟨_, _, rfl, rfl, by show (0 : Int) < 3; decide, _, _, rfl, rfl, _, rfl, by omega, by omega, ?_⟩⟩
  refine for_range (lo := 0) (n := (1 + z6 % 3).toNat) (fun i σ H8 => ∃ v11 f', σ = [some (.ref a), some (.int n), some (.int (16 - (k : Int))), some (.ref fo), some (.ref pL), some (.ref pB), some (.int t0), some (.int h), some (.int w'), some (.ref pl), some (.ref Bd), v11, none, none, none] ∧
    Same H6 H8 ∧ Grid H8 Bd rsB h w' f' ∧ Torn n r c (bedF n r c (trn n t0 fP)) f') ⟨none, _, rfl, RB.same, RB.grid, Torn.refl⟩ ?_ ?_
  · rintro i σ H8 hi ⟨v11, f', rfl, s8, G8, T8⟩
    rw [Int.zero_add]
    refine ⟨_, rfl, _, rfl, _, rfl, _, rfl, _, rfl, _, _, rfl, rfl, a, ns, 7 + i, by show [V.ref a, V.int ((7 : Int) + (i : Int))] = _; rw [show (7 : Int) + (i : Int) = ((7 + i : Nat) : Int) by omega], (L2.Same.trans s16 s8).seq hS, fun z7 => ?_⟩
    refine ⟨Bd, pl, rsB, n, h, w', r, c, z7, f', rfl, G8, s8 _ _ ePl6, by omega, h22, hr2, hc2, fun H9 f9 TA => ?_⟩
    refine ⟨_, f9, rfl, fun x o e => TA.same x o (fun i hi z => ?_) (s8 _ _ e), TA.grid, T8.trans TA.torn⟩
    rw [z, RB.new i hi] at e
    cases e
  rintro σ H8 ⟨v11, f', rfl, s8, G8, T8⟩
  have s18 := L2.Same.trans s16 s8
  have s28 := L2.Same.trans s3 (L2.Same.trans s4 (L2.Same.trans s5 (L2.Same.trans s6 s8)))
  have B := bed_ok PP T8 h16 h22 hh2 hw2 hr2 hc2 ht8
  -- the copy
  refine ⟨_, rfl, Bd, rfl, ⟨_, SqL.of G8.top⟩, fun C hC => ?_⟩
  refine lc_list (K := K) (a := Bd) (xs := refV rsB h) (fun i H9 => ∃ r9, Rows H8 H9 C r9 i w' f') ⟨fun _ => 0, Rows.start hC (Same.refl _)⟩ (fun i H9 _ z => by obtain ⟨r9, z⟩ := z; exact SqL.of (z.same _ _ G8.top)) (fun i x H9 hi z => ?_) fun H9 z => ?_
  · obtain ⟨r9, R9⟩ := z
    have hk : i < h := by have := (List.getElem?_eq_some_iff.mp hi).1; rwa [refV_len] at this
    rw [refV_get hk] at hi
    obtain rfl := Option.some.inj hi
    refine ⟨rfl, _, rfl, rsB i, _, rfl, .inl (SqL.of (R9.same _ _ (G8.row i hk))), fun u hu => ?_⟩
    have s9 := same_upd (o := .lst (rowV (f' i) w')) hu
    obtain ⟨p1, p2⟩ := R9.push s9 hu upd_same
    exact ⟨_, p1, szl (by rw [refV_len]; omega), _, p2⟩
  obtain ⟨r9, R9⟩ := z
  rw [refV_len] at R9
  obtain ⟨s9, nC, G9⟩ := R9.to
  have GB9 := G8.same s9
  have e9 : ∀ {x : Addr} {o : HO}, H6 x = some o → H9 x = some o := fun e => s9 _ _ (s8 _ _ e)
  -- the answer, twice
  have cmp : ∀ (HA : Hp), Same H9 HA → ∀ Q' : VK, Q' (.bl false) HA → (rNeD K) (.ref C) (.ref Bd) HA Q' := fun HA sA Q' q' =>
    ⟨gridD f' h w', gridD f' h w', grid_dp (G9.same sA), grid_dp (GB9.same sA), gridD_shaped _ _ _, gridD_shaped _ _ _, by rw [gridD_plain]; exact q'⟩
  have hscan : ∀ wd j, wd < nW n → j < 16 → symV (cellAt n (trn n (oppN t0) (sqr f' r c)) (j * nW n + wd)) = if hidB n (trn n (oppN t0) (sqr f' r c)) wd j then .non else gV (cwf (gat (wordL all k wd)) k j) := fun wd j hw hj => hid_sym PP T8 h16 h22 ht8 hw hj
  refine ⟨_, rfl, _, rfl, fo, C, r9, n, k, h, w', r, c, t0, f', hidB n (trn n (oppN t0) (sqr f' r c)), all, body, L, rfl, (hf.same s28).same s9, G9, B, hscan, hk16, hal, hL, hk8, eall, fun hno HA sA => ?_, fun hse hvi HA p lt bl sA e1 e2 e3 => ?_⟩
  · refine ⟨_, rfl, _, rfl, cmp HA sA _ ⟨_, rfl, iteF ?_⟩⟩
    refine ⟨_, rfl, _, rfl, _, rfl, _, rfl, _, rfl, Bd, pl, rsB, n, k, h, w', r, c, t0, f', rfl, GB9.same sA, sA _ _ (e9 ePl6), h16, h22, hk16, hh2, hw2, hr2, hc2, ht8, fun hR HB sB => ?_, fun hR HB sB => ?_⟩
    · exact absurd ((rdb_iff (by omega)).mp hR) hno
    · refine ⟨_, rfl, iteT ?_⟩
      exact ⟨_, rfl, rfl, q HB⟩
  · refine ⟨_, rfl, _, rfl, cmp HA sA _ ⟨_, rfl, iteF ?_⟩⟩
    refine ⟨_, rfl, _, rfl, _, rfl, _, rfl, _, rfl, Bd, pl, rsB, n, k, h, w', r, c, t0, f', rfl, GB9.same sA, sA _ _ (e9 ePl6), h16, h22, hk16, hh2, hw2, hr2, hc2, ht8, fun hR HB sB => ?_, fun hR HB sB => ?_⟩
    · refine ⟨_, rfl, iteF ?_⟩
      have eLB := sB _ _ (sA _ _ (e9 (s6 _ _ (s5 _ _ (s4 _ _ eL)))))
      have eBB := sB _ _ (sA _ _ (e9 (s6 _ _ (s5 _ _ eB))))
      refine ⟨_, rfl, .ref p, .ty "tuple", .type "tuple", .type "tuple", true, rfl, .ty _, .base (.tup (sB _ _ e1)), kit_ty (by decide +kernel), true, rfl, iteT ?_⟩
      refine ⟨_, rfl, _, rfl, _, rfl, by show 2 ≤ sizeLine; decide, fun y hy => ?_⟩
      have s10 := same_upd (o := .tup [.ref pL, .ref pB]) hy
      refine ⟨ansD L body, ansD L body, ans_dp (SqT.of (s10 _ _ (sB _ _ e1))) (SqT.of (s10 _ _ (sB _ _ e2))) (SqL.of (s10 _ _ (sB _ _ e3))), ans_dp (SqT.of upd_same) (SqT.of (s10 _ _ eLB)) (SqL.of (s10 _ _ eBB)), ansD_shaped _ _, ansD_shaped _ _, ?_⟩
      rw [ansD_eqv]
      exact q _
    · exact absurd ((rdb_iff (by omega)).mpr ⟨hse, hvi⟩) hR
end
end K44
set_option maxHeartbeats 0
namespace K44
open PySem PySem.Spec PyProof.Rows L2
/-! ### the head's facts -/
theorem facts {P : Program} {w : World} {K : PySem.W.Frag} {h : Heap} {mg : Str → Option Value} {f : Addr} (X : K.In h) (G : h.Ns mainGlobals mg) (hfa : mg ("law" : Str) = some (.ref f)) (c : obsM K = valM) :
    ∃ fd : FuncData, (∀ (s : Shared) (v : Value), BindsTo s fd ⟨[v], []⟩ [("_law_script", v)]) ∧ ∀ base : Heap, K.In base → base.Ns mainGlobals mg → FnOk P w K mg base CX0 9 f fd ["_law_script"] (sp_law K) := by
  have T := Tx.of X G c
  obtain ⟨g, fd, F, m⟩ := T.d_law
  have e := hfa.symm.trans m
  cases e
  refine ⟨fd, fun s v => ?_, fun base _ _ => fn_law T F⟩
  obtain ⟨oc, od, kV, doc, pm, an, cdv, ct, osl, rfl, lk, hcd⟩ := F.ex
  exact BindsTo.of_eq rfl
end K44
open PySem PySem.W PySem.Calls PyProof.Rows
theorem PySem.Challenge.cw_scanpages_k44_whole_torn_scans_holds : PySem.Challenge.rw_scanpages_k44_whole_torn_scans.Holds := by
  w_on; o_law
  refine HandSHeadRun.head_any (r := OpenLaw.row PySem.Challenge.rw_scanpages_k44_whole_torn_scans) (q := view (OpenLaw.row PySem.Challenge.rw_scanpages_k44_whole_torn_scans).prog [105]) (H := K44.hookM) (ob := K44.obT) (M := 6000) (loose := K44.loose) (d := HandSHeadRun.topDef (OpenLaw.row PySem.Challenge.rw_scanpages_k44_whole_torn_scans).prog 105) (kwd := []) K44.obT_eq
    (by kernel_rfl) (fun s => by kernel_rfl) K44.run (by kernel_rfl) (by kernel_rfl) (by kernel_rfl) (by rfl) (by first | assumption | decide +kernel) (by decide +kernel) ⟨rfl, rfl, rfl, rfl, rfl, by decide +kernel⟩ ?hw ?hc
  case hw => w_witness2
  case hc =>
    refine L2.walk_ofE (l := PySem.Challenge.rw_scanpages_k44_whole_torn_scans) (n := 63) (k := 9) (x := "_law_script") (CX := L2.CX0) rfl (by decide) (by kernel_rfl) ⟨rfl, by decide, by decide⟩ ?F (fun _ _ _ _ z => z)
    intro w mg fa h Y G hmg0
    obtain ⟨K, KX, c⟩ := Y
    have hmg : mg ("law" : PySem.Str) = some (.ref fa) := by
      have e : (HandSHeadRun.topDef (OpenLaw.row PySem.Challenge.rw_scanpages_k44_whole_torn_scans).prog 105).name = ("law" : PySem.Str) := by kernel_rfl
      rw [← e]
      exact hmg0
    obtain ⟨fd, hb, hF⟩ := K44.facts (P := (PySem.Challenge.rw_scanpages_k44_whole_torn_scans).prog) (w := w) KX G hmg c
    exact ⟨K, fd, K44.sp_law K, KX, hb, fun H a ns hl _ hS => ⟨a, ns, rfl, hS, fun _ => rfl⟩, hF⟩
