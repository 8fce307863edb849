import PyProof.Rows.All
import Wide.All
import OpenK.AllK
import Wide.FinOn
import HandS.ForMost
import HandS.Defaults
import HandS.HeadHook2
import HandS.Head0
import HandS.Head1
import HandS.Head2
import HandS.HeadEnd
import HandS.HeadHook1
import HandS.HeadHook3
import HandS.HeadHook4
import HandS.HeadWalk
import HandS.MakeKwOnly
import HandS.ExcInit
import HandS.ExcField
import HandS.IsInst
import HandS.Walk
import HandS.Flow
import HandS.SortRule
import HandS.Conv
import HandS.TupLen
import HandS.TupAny
import HandS.More
import HandS.Small
import HandS.Codes
import PyProof.NeKinds
import KE.KDictDisplayH
import HandS.DictComp
import HandS.Strs
import HandS.SetTxt0
import HandS.SetBool
import HandS.SetFor
import PyProof.Rows.SortShellAny
import KE.DatumOrd
import HandS.SortKw
import HandS.Star
import HandS.Style
import KE.KDictPairs
import PyProof.ListStr
import HandS.Deep
import HandS.HotCalls
import HandS.Lambda
import HandS.Zip
import KE.KTryMore
import PySem.Challenge.RW_deedranks_k12_whole_wrong_texts_of_plats
set_option Elab.async false
set_option linter.all false
set_option maxRecDepth 100000
-- text Top
namespace Dk
open PySem PySem.Spec PyProof.Rows L2
abbrev pgm : Program := PySem.Challenge.pw_deedranks_k12_whole_wrong_texts_of_plats
def top (i : Nat) : Stmt := pgm.main.body.getD i (.Pass ⟨0, 0, 0, 0⟩)
abbrev s_wall : Stmt := top 0
abbrev N_wall : List Str := ["k"]
abbrev p_wall : List Str := ["k"]
theorem sc_wall : FnScope N_wall p_wall (defScope s_wall) := ⟨rfl, rfl, rfl, by decide +kernel, rfl, by decide +kernel, by decide +kernel⟩
abbrev s_InvalidCell_init : Stmt := inClass (top 4) 0
abbrev N_InvalidCell_init : List Str := ["self", "at"]
abbrev p_InvalidCell_init : List Str := ["self", "at"]
theorem sc_InvalidCell_init : FnScope N_InvalidCell_init p_InvalidCell_init (defScope s_InvalidCell_init) := ⟨rfl, rfl, rfl, by decide +kernel, rfl, by decide +kernel, by decide +kernel⟩
abbrev s_InvalidRow_init : Stmt := inClass (top 5) 0
abbrev N_InvalidRow_init : List Str := ["self", "at"]
abbrev p_InvalidRow_init : List Str := ["self", "at"]
theorem sc_InvalidRow_init : FnScope N_InvalidRow_init p_InvalidRow_init (defScope s_InvalidRow_init) := ⟨rfl, rfl, rfl, by decide +kernel, rfl, by decide +kernel, by decide +kernel⟩
abbrev s_InvalidText_init : Stmt := inClass (top 6) 0
abbrev N_InvalidText_init : List Str := ["self", "line", "why"]
abbrev p_InvalidText_init : List Str := ["self", "line", "why"]
theorem sc_InvalidText_init : FnScope N_InvalidText_init p_InvalidText_init (defScope s_InvalidText_init) := ⟨rfl, rfl, rfl, by decide +kernel, rfl, by decide +kernel, by decide +kernel⟩
abbrev s_TooMany_init : Stmt := inClass (top 7) 0
abbrev N_TooMany_init : List Str := ["self", "most"]
abbrev p_TooMany_init : List Str := ["self", "most"]
theorem sc_TooMany_init : FnScope N_TooMany_init p_TooMany_init (defScope s_TooMany_init) := ⟨rfl, rfl, rfl, by decide +kernel, rfl, by decide +kernel, by decide +kernel⟩
abbrev s_Apart_init : Stmt := inClass (top 8) 0
abbrev N_Apart_init : List Str := ["self", "name"]
abbrev p_Apart_init : List Str := ["self", "name"]
theorem sc_Apart_init : FnScope N_Apart_init p_Apart_init (defScope s_Apart_init) := ⟨rfl, rfl, rfl, by decide +kernel, rfl, by decide +kernel, by decide +kernel⟩
abbrev s_UnknownParcel_init : Stmt := inClass (top 9) 0
abbrev N_UnknownParcel_init : List Str := ["self", "name"]
abbrev p_UnknownParcel_init : List Str := ["self", "name"]
theorem sc_UnknownParcel_init : FnScope N_UnknownParcel_init p_UnknownParcel_init (defScope s_UnknownParcel_init) := ⟨rfl, rfl, rfl, by decide +kernel, rfl, by decide +kernel, by decide +kernel⟩
abbrev s_is_whole : Stmt := top 13
abbrev N_is_whole : List Str := ["value"]
abbrev p_is_whole : List Str := ["value"]
theorem sc_is_whole : FnScope N_is_whole p_is_whole (defScope s_is_whole) := ⟨rfl, rfl, rfl, by decide +kernel, rfl, by decide +kernel, by decide +kernel⟩
abbrev s_is_number : Stmt := top 14
abbrev N_is_number : List Str := ["value", "least", "most"]
abbrev p_is_number : List Str := ["value", "least", "most"]
theorem sc_is_number : FnScope N_is_number p_is_number (defScope s_is_number) := ⟨rfl, rfl, rfl, by decide +kernel, rfl, by decide +kernel, by decide +kernel⟩
abbrev s_is_name : Stmt := top 15
abbrev N_is_name : List Str := ["value", "letter"]
abbrev p_is_name : List Str := ["value"]
theorem sc_is_name : FnScope N_is_name p_is_name (defScope s_is_name) := ⟨rfl, rfl, rfl, by decide +kernel, rfl, by decide +kernel, by decide +kernel⟩
abbrev s_is_cell : Stmt := top 18
abbrev N_is_cell : List Str := ["value"]
abbrev p_is_cell : List Str := ["value"]
theorem sc_is_cell : FnScope N_is_cell p_is_cell (defScope s_is_cell) := ⟨rfl, rfl, rfl, by decide +kernel, rfl, by decide +kernel, by decide +kernel⟩
abbrev s_beside : Stmt := top 19
abbrev N_beside : List Str := ["cell", "row", "column", "places", "place"]
abbrev p_beside : List Str := ["cell"]
theorem sc_beside : FnScope N_beside p_beside (defScope s_beside) := ⟨rfl, rfl, rfl, by decide +kernel, rfl, by decide +kernel, by decide +kernel⟩
abbrev s_around : Stmt := top 20
abbrev N_around : List Str := ["cell", "row", "column", "places", "down", "right", "place"]
abbrev p_around : List Str := ["cell"]
theorem sc_around : FnScope N_around p_around (defScope s_around) := ⟨rfl, rfl, rfl, by decide +kernel, rfl, by decide +kernel, by decide +kernel⟩
abbrev s_check_cells : Stmt := top 21
abbrev N_check_cells : List Str := ["cells", "seen", "at", "cell"]
abbrev p_check_cells : List Str := ["cells"]
theorem sc_check_cells : FnScope N_check_cells p_check_cells (defScope s_check_cells) := ⟨rfl, rfl, rfl, by decide +kernel, rfl, by decide +kernel, by decide +kernel⟩
abbrev s_group_of : Stmt := top 22
abbrev N_group_of : List Str := ["start", "known", "by_points", "seen", "left", "cell", "place"]
abbrev p_group_of : List Str := ["start", "known", "by_points"]
theorem sc_group_of : FnScope N_group_of p_group_of (defScope s_group_of) := ⟨rfl, rfl, rfl, by decide +kernel, rfl, by decide +kernel, by decide +kernel⟩
abbrev s_groups : Stmt := top 23
abbrev N_groups : List Str := ["cells", "by_points", "known", "seen", "found", "cell", "group", "place"]
abbrev p_groups : List Str := ["cells", "by_points"]
theorem sc_groups : FnScope N_groups p_groups (defScope s_groups) := ⟨rfl, rfl, rfl, by decide +kernel, rfl, by decide +kernel, by decide +kernel⟩
abbrev s_hangs_together : Stmt := top 24
abbrev N_hangs_together : List Str := ["cells"]
abbrev p_hangs_together : List Str := ["cells"]
theorem sc_hangs_together : FnScope N_hangs_together p_hangs_together (defScope s_hangs_together) := ⟨rfl, rfl, rfl, by decide +kernel, rfl, by decide +kernel, by decide +kernel⟩
abbrev s_pieces : Stmt := top 25
abbrev N_pieces : List Str := ["cells"]
abbrev p_pieces : List Str := ["cells"]
theorem sc_pieces : FnScope N_pieces p_pieces (defScope s_pieces) := ⟨rfl, rfl, rfl, by decide +kernel, rfl, by decide +kernel, by decide +kernel⟩
abbrev s_is_list : Stmt := top 29
abbrev N_is_list : List Str := ["value"]
abbrev p_is_list : List Str := ["value"]
theorem sc_is_list : FnScope N_is_list p_is_list (defScope s_is_list) := ⟨rfl, rfl, rfl, by decide +kernel, rfl, by decide +kernel, by decide +kernel⟩
abbrev s_check_rows : Stmt := top 30
abbrev N_check_rows : List Str := ["rows", "at", "row", "name"]
abbrev p_check_rows : List Str := ["rows"]
theorem sc_check_rows : FnScope N_check_rows p_check_rows (defScope s_check_rows) := ⟨rfl, rfl, rfl, by decide +kernel, rfl, by decide +kernel, by decide +kernel⟩
abbrev s_parcels_of : Stmt := top 31
abbrev N_parcels_of : List Str := ["rows", "names", "found", "down", "row", "right", "name"]
abbrev p_parcels_of : List Str := ["rows"]
theorem sc_parcels_of : FnScope N_parcels_of p_parcels_of (defScope s_parcels_of) := ⟨rfl, rfl, rfl, by decide +kernel, rfl, by decide +kernel, by decide +kernel⟩
abbrev s_is_edge : Stmt := top 32
abbrev N_is_edge : List Str := ["cell", "height", "width"]
abbrev p_is_edge : List Str := ["cell", "height", "width"]
theorem sc_is_edge : FnScope N_is_edge p_is_edge (defScope s_is_edge) := ⟨rfl, rfl, rfl, by decide +kernel, rfl, by decide +kernel, by decide +kernel⟩
abbrev s_check_road : Stmt := top 33
abbrev N_check_road : List Str := ["road", "height", "width", "seen", "at", "cell"]
abbrev p_check_road : List Str := ["road", "height", "width"]
theorem sc_check_road : FnScope N_check_road p_check_road (defScope s_check_road) := ⟨rfl, rfl, rfl, by decide +kernel, rfl, by decide +kernel, by decide +kernel⟩
abbrev s_borders_of : Stmt := top 34
abbrev N_borders_of : List Str := ["rows", "borders", "rims", "down", "row", "right", "name", "places", "place", "other", "cell"]
abbrev p_borders_of : List Str := ["rows"]
theorem sc_borders_of : FnScope N_borders_of p_borders_of (defScope s_borders_of) := ⟨rfl, rfl, rfl, by decide +kernel, rfl, by decide +kernel, by decide +kernel⟩
abbrev s_Plat_init : Stmt := inClass (top 35) 1
abbrev N_Plat_init : List Str := ["self", "rows", "road", "name", "row"]
abbrev p_Plat_init : List Str := ["self", "rows", "road"]
theorem sc_Plat_init : FnScope N_Plat_init p_Plat_init (defScope s_Plat_init) := ⟨rfl, rfl, rfl, by decide +kernel, rfl, by decide +kernel, by decide +kernel⟩
abbrev s_Plat_rows : Stmt := inClass (top 35) 2
abbrev N_Plat_rows : List Str := ["self", "row"]
abbrev p_Plat_rows : List Str := ["self"]
theorem sc_Plat_rows : FnScope N_Plat_rows p_Plat_rows (defScope s_Plat_rows) := ⟨rfl, rfl, rfl, by decide +kernel, rfl, by decide +kernel, by decide +kernel⟩
abbrev s_Plat_road : Stmt := inClass (top 35) 3
abbrev N_Plat_road : List Str := ["self"]
abbrev p_Plat_road : List Str := ["self"]
theorem sc_Plat_road : FnScope N_Plat_road p_Plat_road (defScope s_Plat_road) := ⟨rfl, rfl, rfl, by decide +kernel, rfl, by decide +kernel, by decide +kernel⟩
abbrev s_Plat_names : Stmt := inClass (top 35) 4
abbrev N_Plat_names : List Str := ["self"]
abbrev p_Plat_names : List Str := ["self"]
theorem sc_Plat_names : FnScope N_Plat_names p_Plat_names (defScope s_Plat_names) := ⟨rfl, rfl, rfl, by decide +kernel, rfl, by decide +kernel, by decide +kernel⟩
abbrev s_Plat_parcel_at : Stmt := inClass (top 35) 5
abbrev N_Plat_parcel_at : List Str := ["self", "cell"]
abbrev p_Plat_parcel_at : List Str := ["self", "cell"]
theorem sc_Plat_parcel_at : FnScope N_Plat_parcel_at p_Plat_parcel_at (defScope s_Plat_parcel_at) := ⟨rfl, rfl, rfl, by decide +kernel, rfl, by decide +kernel, by decide +kernel⟩
abbrev s_Plat_cells : Stmt := inClass (top 35) 6
abbrev N_Plat_cells : List Str := ["self", "name"]
abbrev p_Plat_cells : List Str := ["self", "name"]
theorem sc_Plat_cells : FnScope N_Plat_cells p_Plat_cells (defScope s_Plat_cells) := ⟨rfl, rfl, rfl, by decide +kernel, rfl, by decide +kernel, by decide +kernel⟩
abbrev s_Plat_area : Stmt := inClass (top 35) 7
abbrev N_Plat_area : List Str := ["self", "name"]
abbrev p_Plat_area : List Str := ["self", "name"]
theorem sc_Plat_area : FnScope N_Plat_area p_Plat_area (defScope s_Plat_area) := ⟨rfl, rfl, rfl, by decide +kernel, rfl, by decide +kernel, by decide +kernel⟩
abbrev s_Plat_rim : Stmt := inClass (top 35) 8
abbrev N_Plat_rim : List Str := ["self", "name"]
abbrev p_Plat_rim : List Str := ["self", "name"]
theorem sc_Plat_rim : FnScope N_Plat_rim p_Plat_rim (defScope s_Plat_rim) := ⟨rfl, rfl, rfl, by decide +kernel, rfl, by decide +kernel, by decide +kernel⟩
abbrev s_Plat_outline : Stmt := inClass (top 35) 9
abbrev N_Plat_outline : List Str := ["self", "name"]
abbrev p_Plat_outline : List Str := ["self", "name"]
theorem sc_Plat_outline : FnScope N_Plat_outline p_Plat_outline (defScope s_Plat_outline) := ⟨rfl, rfl, rfl, by decide +kernel, rfl, by decide +kernel, by decide +kernel⟩
abbrev s_Plat_corners : Stmt := inClass (top 35) 10
abbrev N_Plat_corners : List Str := ["self", "name"]
abbrev p_Plat_corners : List Str := ["self", "name"]
theorem sc_Plat_corners : FnScope N_Plat_corners p_Plat_corners (defScope s_Plat_corners) := ⟨rfl, rfl, rfl, by decide +kernel, rfl, by decide +kernel, by decide +kernel⟩
abbrev s_Plat_hole_count : Stmt := inClass (top 35) 11
abbrev N_Plat_hole_count : List Str := ["self", "name"]
abbrev p_Plat_hole_count : List Str := ["self", "name"]
theorem sc_Plat_hole_count : FnScope N_Plat_hole_count p_Plat_hole_count (defScope s_Plat_hole_count) := ⟨rfl, rfl, rfl, by decide +kernel, rfl, by decide +kernel, by decide +kernel⟩
abbrev s_Plat_neighbours : Stmt := inClass (top 35) 12
abbrev N_Plat_neighbours : List Str := ["self", "name", "other"]
abbrev p_Plat_neighbours : List Str := ["self", "name"]
theorem sc_Plat_neighbours : FnScope N_Plat_neighbours p_Plat_neighbours (defScope s_Plat_neighbours) := ⟨rfl, rfl, rfl, by decide +kernel, rfl, by decide +kernel, by decide +kernel⟩
abbrev s_Plat_fronts : Stmt := inClass (top 35) 13
abbrev N_Plat_fronts : List Str := ["self", "name"]
abbrev p_Plat_fronts : List Str := ["self", "name"]
theorem sc_Plat_fronts : FnScope N_Plat_fronts p_Plat_fronts (defScope s_Plat_fronts) := ⟨rfl, rfl, rfl, by decide +kernel, rfl, by decide +kernel, by decide +kernel⟩
abbrev s_Plat_border : Stmt := inClass (top 35) 14
abbrev N_Plat_border : List Str := ["self", "first", "second"]
abbrev p_Plat_border : List Str := ["self", "first", "second"]
theorem sc_Plat_border : FnScope N_Plat_border p_Plat_border (defScope s_Plat_border) := ⟨rfl, rfl, rfl, by decide +kernel, rfl, by decide +kernel, by decide +kernel⟩
abbrev s_Plat_divided : Stmt := inClass (top 35) 15
abbrev N_Plat_divided : List Str := ["self", "name", "cells", "new"]
abbrev p_Plat_divided : List Str := ["self", "name", "cells", "new"]
theorem sc_Plat_divided : FnScope N_Plat_divided p_Plat_divided (defScope s_Plat_divided) := ⟨rfl, rfl, rfl, by decide +kernel, rfl, by decide +kernel, by decide +kernel⟩
abbrev s_Plat_united : Stmt := inClass (top 35) 16
abbrev N_Plat_united : List Str := ["self", "first", "second"]
abbrev p_Plat_united : List Str := ["self", "first", "second"]
theorem sc_Plat_united : FnScope N_Plat_united p_Plat_united (defScope s_Plat_united) := ⟨rfl, rfl, rfl, by decide +kernel, rfl, by decide +kernel, by decide +kernel⟩
abbrev s_Plat_mirrored : Stmt := inClass (top 35) 17
abbrev N_Plat_mirrored : List Str := ["self"]
abbrev p_Plat_mirrored : List Str := ["self"]
theorem sc_Plat_mirrored : FnScope N_Plat_mirrored p_Plat_mirrored (defScope s_Plat_mirrored) := ⟨rfl, rfl, rfl, by decide +kernel, rfl, by decide +kernel, by decide +kernel⟩
abbrev s_Plat_need_parcel : Stmt := inClass (top 35) 19
abbrev N_Plat_need_parcel : List Str := ["self", "name"]
abbrev p_Plat_need_parcel : List Str := ["self", "name"]
theorem sc_Plat_need_parcel : FnScope N_Plat_need_parcel p_Plat_need_parcel (defScope s_Plat_need_parcel) := ⟨rfl, rfl, rfl, by decide +kernel, rfl, by decide +kernel, by decide +kernel⟩
abbrev s_Plat_contains : Stmt := inClass (top 35) 20
abbrev N_Plat_contains : List Str := ["self", "name"]
abbrev p_Plat_contains : List Str := ["self", "name"]
theorem sc_Plat_contains : FnScope N_Plat_contains p_Plat_contains (defScope s_Plat_contains) := ⟨rfl, rfl, rfl, by decide +kernel, rfl, by decide +kernel, by decide +kernel⟩
abbrev s_Plat_eq : Stmt := inClass (top 35) 21
abbrev N_Plat_eq : List Str := ["self", "other"]
abbrev p_Plat_eq : List Str := ["self", "other"]
theorem sc_Plat_eq : FnScope N_Plat_eq p_Plat_eq (defScope s_Plat_eq) := ⟨rfl, rfl, rfl, by decide +kernel, rfl, by decide +kernel, by decide +kernel⟩
abbrev s_Plat_len : Stmt := inClass (top 35) 22
abbrev N_Plat_len : List Str := ["self"]
abbrev p_Plat_len : List Str := ["self"]
theorem sc_Plat_len : FnScope N_Plat_len p_Plat_len (defScope s_Plat_len) := ⟨rfl, rfl, rfl, by decide +kernel, rfl, by decide +kernel, by decide +kernel⟩
abbrev s_Plat_repr : Stmt := inClass (top 35) 23
abbrev N_Plat_repr : List Str := ["self"]
abbrev p_Plat_repr : List Str := ["self"]
theorem sc_Plat_repr : FnScope N_Plat_repr p_Plat_repr (defScope s_Plat_repr) := ⟨rfl, rfl, rfl, by decide +kernel, rfl, by decide +kernel, by decide +kernel⟩
abbrev s_bare_word : Stmt := top 37
abbrev N_bare_word : List Str := ["word"]
abbrev p_bare_word : List Str := ["word"]
theorem sc_bare_word : FnScope N_bare_word p_bare_word (defScope s_bare_word) := ⟨rfl, rfl, rfl, by decide +kernel, rfl, by decide +kernel, by decide +kernel⟩
abbrev s_line_fault : Stmt := top 38
abbrev N_line_fault : List Str := ["words", "rows", "names", "word", "name"]
abbrev p_line_fault : List Str := ["words", "rows"]
theorem sc_line_fault : FnScope N_line_fault p_line_fault (defScope s_line_fault) := ⟨rfl, rfl, rfl, by decide +kernel, rfl, by decide +kernel, by decide +kernel⟩
abbrev s_apart_line : Stmt := top 39
abbrev N_apart_line : List Str := ["rows", "cells", "found", "name", "piece"]
abbrev p_apart_line : List Str := ["rows"]
theorem sc_apart_line : FnScope N_apart_line p_apart_line (defScope s_apart_line) := ⟨rfl, rfl, rfl, by decide +kernel, rfl, by decide +kernel, by decide +kernel⟩
abbrev s_read_plat : Stmt := top 40
abbrev N_read_plat : List Str := ["text", "lines", "rows", "road", "at", "line", "words", "why", "inner", "apart", "word", "right", "cell"]
abbrev p_read_plat : List Str := ["text"]
theorem sc_read_plat : FnScope N_read_plat p_read_plat (defScope s_read_plat) := ⟨rfl, rfl, rfl, by decide +kernel, rfl, by decide +kernel, by decide +kernel⟩
abbrev s_law_bag : Stmt := top 42
abbrev N_law_bag : List Str := ["_law_script", "_law_cells"]
abbrev p_law_bag : List Str := ["_law_script"]
theorem sc_law_bag : FnScope N_law_bag p_law_bag (defScope s_law_bag) := ⟨rfl, rfl, rfl, by decide +kernel, rfl, by decide +kernel, by decide +kernel⟩
abbrev s_law_draw : Stmt := top 43
abbrev N_law_draw : List Str := ["_law_bag_here", "_law_many", "_law_cell", "_law_digit", "_law_seed"]
abbrev p_law_draw : List Str := ["_law_bag_here", "_law_many"]
theorem sc_law_draw : FnScope N_law_draw p_law_draw (defScope s_law_draw) := ⟨rfl, rfl, rfl, by decide +kernel, rfl, by decide +kernel, by decide +kernel⟩
abbrev s_law_pick : Stmt := top 44
abbrev N_law_pick : List Str := ["_law_bag_here", "_law_some"]
abbrev p_law_pick : List Str := ["_law_bag_here", "_law_some"]
theorem sc_law_pick : FnScope N_law_pick p_law_pick (defScope s_law_pick) := ⟨rfl, rfl, rfl, by decide +kernel, rfl, by decide +kernel, by decide +kernel⟩
abbrev s_law_word : Stmt := top 45
abbrev N_law_word : List Str := ["_law_bag_here", "_law_most", "_law_letters", "_law_k"]
abbrev p_law_word : List Str := ["_law_bag_here", "_law_most"]
theorem sc_law_word : FnScope N_law_word p_law_word (defScope s_law_word) := ⟨rfl, rfl, rfl, by decide +kernel, rfl, by decide +kernel, by decide +kernel⟩
abbrev s_law_names : Stmt := top 46
abbrev N_law_names : List Str := ["_law_bag_here", "_law_many", "_law_found", "_law_k", "_law_word_here", "_law_old", "_law_at", "_law_one"]
abbrev p_law_names : List Str := ["_law_bag_here", "_law_many"]
theorem sc_law_names : FnScope N_law_names p_law_names (defScope s_law_names) := ⟨rfl, rfl, rfl, by decide +kernel, rfl, by decide +kernel, by decide +kernel⟩
abbrev s_law_same : Stmt := top 47
abbrev N_law_same : List Str := ["_law_found", "_law_due", "_law_one", "_law_two"]
abbrev p_law_same : List Str := ["_law_found", "_law_due"]
theorem sc_law_same : FnScope N_law_same p_law_same (defScope s_law_same) := ⟨rfl, rfl, rfl, by decide +kernel, rfl, by decide +kernel, by decide +kernel⟩
abbrev s_law_fields : Stmt := top 48
abbrev N_law_fields : List Str := ["_law_e"]
abbrev p_law_fields : List Str := ["_law_e"]
theorem sc_law_fields : FnScope N_law_fields p_law_fields (defScope s_law_fields) := ⟨rfl, rfl, rfl, by decide +kernel, rfl, by decide +kernel, by decide +kernel⟩
abbrev s_law_got : Stmt := top 49
abbrev N_law_got : List Str := ["_law_ask", "_law_e"]
abbrev p_law_got : List Str := ["_law_ask"]
theorem sc_law_got : FnScope N_law_got p_law_got (defScope s_law_got) := ⟨rfl, rfl, rfl, by decide +kernel, rfl, by decide +kernel, by decide +kernel⟩
abbrev s_law_why : Stmt := top 50
abbrev N_law_why : List Str := ["_law_ask", "_law_got_here"]
abbrev p_law_why : List Str := ["_law_ask"]
theorem sc_law_why : FnScope N_law_why p_law_why (defScope s_law_why) := ⟨rfl, rfl, rfl, by decide +kernel, rfl, by decide +kernel, by decide +kernel⟩
abbrev s_law_is_word : Stmt := top 51
abbrev N_law_is_word : List Str := ["_law_value", "_law_sign"]
abbrev p_law_is_word : List Str := ["_law_value"]
theorem sc_law_is_word : FnScope N_law_is_word p_law_is_word (defScope s_law_is_word) := ⟨rfl, rfl, rfl, by decide +kernel, rfl, by decide +kernel, by decide +kernel⟩
abbrev s_law_four : Stmt := top 52
abbrev N_law_four : List Str := []
abbrev p_law_four : List Str := []
theorem sc_law_four : FnScope N_law_four p_law_four (defScope s_law_four) := ⟨rfl, rfl, rfl, by decide +kernel, rfl, by decide +kernel, by decide +kernel⟩
abbrev s_law_reach : Stmt := top 53
abbrev N_law_reach : List Str := ["_law_pool", "_law_start", "_law_steps", "_law_seen", "_law_line", "_law_k", "_law_row", "_law_column", "_law_a", "_law_b", "_law_near"]
abbrev p_law_reach : List Str := ["_law_pool", "_law_start", "_law_steps"]
theorem sc_law_reach : FnScope N_law_reach p_law_reach (defScope s_law_reach) := ⟨rfl, rfl, rfl, by decide +kernel, rfl, by decide +kernel, by decide +kernel⟩
abbrev s_law_groups : Stmt := top 54
abbrev N_law_groups : List Str := ["_law_cells", "_law_steps", "_law_pool", "_law_done", "_law_found", "_law_cell", "_law_lot", "_law_one"]
abbrev p_law_groups : List Str := ["_law_cells", "_law_steps"]
theorem sc_law_groups : FnScope N_law_groups p_law_groups (defScope s_law_groups) := ⟨rfl, rfl, rfl, by decide +kernel, rfl, by decide +kernel, by decide +kernel⟩
abbrev s_law_all_cells : Stmt := top 55
abbrev N_law_all_cells : List Str := ["_law_height", "_law_width", "_law_found", "_law_row", "_law_column"]
abbrev p_law_all_cells : List Str := ["_law_height", "_law_width"]
theorem sc_law_all_cells : FnScope N_law_all_cells p_law_all_cells (defScope s_law_all_cells) := ⟨rfl, rfl, rfl, by decide +kernel, rfl, by decide +kernel, by decide +kernel⟩
abbrev s_law_sizes : Stmt := top 56
abbrev N_law_sizes : List Str := ["_law_bag_here"]
abbrev p_law_sizes : List Str := ["_law_bag_here"]
theorem sc_law_sizes : FnScope N_law_sizes p_law_sizes (defScope s_law_sizes) := ⟨rfl, rfl, rfl, by decide +kernel, rfl, by decide +kernel, by decide +kernel⟩
abbrev s_law_sides : Stmt := top 57
abbrev N_law_sides : List Str := ["_law_height", "_law_width", "_law_cell", "_law_near", "_law_a", "_law_b", "_law_one"]
abbrev p_law_sides : List Str := ["_law_height", "_law_width", "_law_cell"]
theorem sc_law_sides : FnScope N_law_sides p_law_sides (defScope s_law_sides) := ⟨rfl, rfl, rfl, by decide +kernel, rfl, by decide +kernel, by decide +kernel⟩
abbrev s_law_grown : Stmt := top 58
abbrev N_law_grown : List Str := ["_law_bag_here", "_law_height", "_law_width", "_law_names_here", "_law_cells", "_law_found", "_law_left", "_law_name", "_law_turn", "_law_cell", "_law_near", "_law_one"]
abbrev p_law_grown : List Str := ["_law_bag_here", "_law_height", "_law_width", "_law_names_here"]
theorem sc_law_grown : FnScope N_law_grown p_law_grown (defScope s_law_grown) := ⟨rfl, rfl, rfl, by decide +kernel, rfl, by decide +kernel, by decide +kernel⟩
abbrev s_law_edge : Stmt := top 59
abbrev N_law_edge : List Str := ["_law_height", "_law_width", "_law_cell"]
abbrev p_law_edge : List Str := ["_law_height", "_law_width", "_law_cell"]
theorem sc_law_edge : FnScope N_law_edge p_law_edge (defScope s_law_edge) := ⟨rfl, rfl, rfl, by decide +kernel, rfl, by decide +kernel, by decide +kernel⟩
abbrev s_law_map : Stmt := top 60
abbrev N_law_map : List Str := ["_law_bag_here", "_law_most", "_law_height", "_law_width", "_law_found", "_law_rows", "_law_edge_here", "_law_row", "_law_column", "_law_cell"]
abbrev p_law_map : List Str := ["_law_bag_here", "_law_most"]
theorem sc_law_map : FnScope N_law_map p_law_map (defScope s_law_map) := ⟨rfl, rfl, rfl, by decide +kernel, rfl, by decide +kernel, by decide +kernel⟩
abbrev s_law_cells_of : Stmt := top 61
abbrev N_law_cells_of : List Str := ["_law_rows", "_law_name", "_law_cell"]
abbrev p_law_cells_of : List Str := ["_law_rows", "_law_name"]
theorem sc_law_cells_of : FnScope N_law_cells_of p_law_cells_of (defScope s_law_cells_of) := ⟨rfl, rfl, rfl, by decide +kernel, rfl, by decide +kernel, by decide +kernel⟩
abbrev s_law_text : Stmt := top 62
abbrev N_law_text : List Str := ["_law_rows", "_law_road", "_law_lines", "_law_at", "_law_k"]
abbrev p_law_text : List Str := ["_law_rows", "_law_road"]
theorem sc_law_text : FnScope N_law_text p_law_text (defScope s_law_text) := ⟨rfl, rfl, rfl, by decide +kernel, rfl, by decide +kernel, by decide +kernel⟩
abbrev s_law_line_word : Stmt := top 63
abbrev N_law_line_word : List Str := ["_law_word_here", "_law_name"]
abbrev p_law_line_word : List Str := ["_law_word_here"]
theorem sc_law_line_word : FnScope N_law_line_word p_law_line_word (defScope s_law_line_word) := ⟨rfl, rfl, rfl, by decide +kernel, rfl, by decide +kernel, by decide +kernel⟩
abbrev s_law_read_plat : Stmt := top 64
abbrev N_law_read_plat : List Str := ["_law_text_here", "_law_parts", "_law_lines", "_law_names_here", "_law_at", "_law_words", "_law_rows", "_law_road", "_law_inner", "_law_lost", "_law_name", "_law_cells", "_law_piece", "_law_word_here", "_law_line", "_law_cell"]
abbrev p_law_read_plat : List Str := ["_law_text_here"]
theorem sc_law_read_plat : FnScope N_law_read_plat p_law_read_plat (defScope s_law_read_plat) := ⟨rfl, rfl, rfl, by decide +kernel, rfl, by decide +kernel, by decide +kernel⟩
abbrev s_law_bent_text : Stmt := top 65
abbrev N_law_bent_text : List Str := ["_law_bag_here", "_law_rows", "_law_road", "_law_lines", "_law_at", "_law_k", "_law_way", "_law_word_here", "_law_text_here", "_law_spot", "_law_line"]
abbrev p_law_bent_text : List Str := ["_law_bag_here", "_law_rows", "_law_road"]
theorem sc_law_bent_text : FnScope N_law_bent_text p_law_bent_text (defScope s_law_bent_text) := ⟨rfl, rfl, rfl, by decide +kernel, rfl, by decide +kernel, by decide +kernel⟩
abbrev s_law : Stmt := top 66
abbrev N_law : List Str := ["_law_script", "_law_bag_here", "_law_turn", "_law_rows", "_law_road", "_law_text_here", "_law_due", "_law_got_here", "_law_odd", "_law_written", "_law_wanted"]
abbrev p_law : List Str := ["_law_script"]
theorem sc_law : FnScope N_law p_law (defScope s_law) := ⟨rfl, rfl, rfl, by decide +kernel, rfl, by decide +kernel, by decide +kernel⟩
end Dk
-- text Hd
set_option maxHeartbeats 0
namespace Dk
open PySem PySem.Spec PyProof.Rows L2
/-- the keyword default of Plat's maker -/
def roadAt (K : PySem.W.Frag) : Addr := match K.lookup (He.fAd K ("Plat", some "__init__")) with
  | some ⟨_, _, .func fd, _⟩ => (match fd.kwdefaults with
    | .ref D => (match PySem.W.nsIn K D "road" with
      | some (some (.ref a)) => a
      | _ => 0)
    | _ => 0)
  | _ => 0
def d_is_whole : He.DefD := ⟨("is_whole", none), "is_whole", "is_whole", defArgs s_is_whole, defBody s_is_whole, defScope s_is_whole, [], []⟩
def d_is_number : He.DefD := ⟨("is_number", none), "is_number", "is_number", defArgs s_is_number, defBody s_is_number, defScope s_is_number, [], []⟩
def d_is_name : He.DefD := ⟨("is_name", none), "is_name", "is_name", defArgs s_is_name, defBody s_is_name, defScope s_is_name, [], []⟩
def d_is_cell : He.DefD := ⟨("is_cell", none), "is_cell", "is_cell", defArgs s_is_cell, defBody s_is_cell, defScope s_is_cell, [], []⟩
def d_beside : He.DefD := ⟨("beside", none), "beside", "beside", defArgs s_beside, defBody s_beside, defScope s_beside, [], []⟩
def d_check_cells : He.DefD := ⟨("check_cells", none), "check_cells", "check_cells", defArgs s_check_cells, defBody s_check_cells, defScope s_check_cells, [], []⟩
def d_group_of : He.DefD := ⟨("group_of", none), "group_of", "group_of", defArgs s_group_of, defBody s_group_of, defScope s_group_of, [], []⟩
def d_groups : He.DefD := ⟨("groups", none), "groups", "groups", defArgs s_groups, defBody s_groups, defScope s_groups, [], []⟩
def d_hangs_together : He.DefD := ⟨("hangs_together", none), "hangs_together", "hangs_together", defArgs s_hangs_together, defBody s_hangs_together, defScope s_hangs_together, [], []⟩
def d_pieces : He.DefD := ⟨("pieces", none), "pieces", "pieces", defArgs s_pieces, defBody s_pieces, defScope s_pieces, [], []⟩
def d_is_list : He.DefD := ⟨("is_list", none), "is_list", "is_list", defArgs s_is_list, defBody s_is_list, defScope s_is_list, [], []⟩
def d_check_rows : He.DefD := ⟨("check_rows", none), "check_rows", "check_rows", defArgs s_check_rows, defBody s_check_rows, defScope s_check_rows, [], []⟩
def d_parcels_of : He.DefD := ⟨("parcels_of", none), "parcels_of", "parcels_of", defArgs s_parcels_of, defBody s_parcels_of, defScope s_parcels_of, [], []⟩
def d_is_edge : He.DefD := ⟨("is_edge", none), "is_edge", "is_edge", defArgs s_is_edge, defBody s_is_edge, defScope s_is_edge, [], []⟩
def d_check_road : He.DefD := ⟨("check_road", none), "check_road", "check_road", defArgs s_check_road, defBody s_check_road, defScope s_check_road, [], []⟩
def d_borders_of : He.DefD := ⟨("borders_of", none), "borders_of", "borders_of", defArgs s_borders_of, defBody s_borders_of, defScope s_borders_of, [], []⟩
def d_bare_word : He.DefD := ⟨("bare_word", none), "bare_word", "bare_word", defArgs s_bare_word, defBody s_bare_word, defScope s_bare_word, [], []⟩
def d_line_fault : He.DefD := ⟨("line_fault", none), "line_fault", "line_fault", defArgs s_line_fault, defBody s_line_fault, defScope s_line_fault, [], []⟩
def d_apart_line : He.DefD := ⟨("apart_line", none), "apart_line", "apart_line", defArgs s_apart_line, defBody s_apart_line, defScope s_apart_line, [], []⟩
def d_read_plat : He.DefD := ⟨("read_plat", none), "read_plat", "read_plat", defArgs s_read_plat, defBody s_read_plat, defScope s_read_plat, [], []⟩
def d_law_bag : He.DefD := ⟨("_law_bag", none), "_law_bag", "_law_bag", defArgs s_law_bag, defBody s_law_bag, defScope s_law_bag, [], []⟩
def d_law_draw : He.DefD := ⟨("_law_draw", none), "_law_draw", "_law_draw", defArgs s_law_draw, defBody s_law_draw, defScope s_law_draw, [], []⟩
def d_law_pick : He.DefD := ⟨("_law_pick", none), "_law_pick", "_law_pick", defArgs s_law_pick, defBody s_law_pick, defScope s_law_pick, [], []⟩
def d_law_word : He.DefD := ⟨("_law_word", none), "_law_word", "_law_word", defArgs s_law_word, defBody s_law_word, defScope s_law_word, [], []⟩
def d_law_names : He.DefD := ⟨("_law_names", none), "_law_names", "_law_names", defArgs s_law_names, defBody s_law_names, defScope s_law_names, [], []⟩
def d_law_same : He.DefD := ⟨("_law_same", none), "_law_same", "_law_same", defArgs s_law_same, defBody s_law_same, defScope s_law_same, [], []⟩
def d_law_fields : He.DefD := ⟨("_law_fields", none), "_law_fields", "_law_fields", defArgs s_law_fields, defBody s_law_fields, defScope s_law_fields, [], []⟩
def d_law_got : He.DefD := ⟨("_law_got", none), "_law_got", "_law_got", defArgs s_law_got, defBody s_law_got, defScope s_law_got, [], []⟩
def d_law_why : He.DefD := ⟨("_law_why", none), "_law_why", "_law_why", defArgs s_law_why, defBody s_law_why, defScope s_law_why, [], []⟩
def d_law_is_word : He.DefD := ⟨("_law_is_word", none), "_law_is_word", "_law_is_word", defArgs s_law_is_word, defBody s_law_is_word, defScope s_law_is_word, [], []⟩
def d_law_four : He.DefD := ⟨("_law_four", none), "_law_four", "_law_four", defArgs s_law_four, defBody s_law_four, defScope s_law_four, [], []⟩
def d_law_reach : He.DefD := ⟨("_law_reach", none), "_law_reach", "_law_reach", defArgs s_law_reach, defBody s_law_reach, defScope s_law_reach, [], []⟩
def d_law_groups : He.DefD := ⟨("_law_groups", none), "_law_groups", "_law_groups", defArgs s_law_groups, defBody s_law_groups, defScope s_law_groups, [], []⟩
def d_law_all_cells : He.DefD := ⟨("_law_all_cells", none), "_law_all_cells", "_law_all_cells", defArgs s_law_all_cells, defBody s_law_all_cells, defScope s_law_all_cells, [], []⟩
def d_law_sizes : He.DefD := ⟨("_law_sizes", none), "_law_sizes", "_law_sizes", defArgs s_law_sizes, defBody s_law_sizes, defScope s_law_sizes, [], []⟩
def d_law_sides : He.DefD := ⟨("_law_sides", none), "_law_sides", "_law_sides", defArgs s_law_sides, defBody s_law_sides, defScope s_law_sides, [], []⟩
def d_law_grown : He.DefD := ⟨("_law_grown", none), "_law_grown", "_law_grown", defArgs s_law_grown, defBody s_law_grown, defScope s_law_grown, [], []⟩
def d_law_edge : He.DefD := ⟨("_law_edge", none), "_law_edge", "_law_edge", defArgs s_law_edge, defBody s_law_edge, defScope s_law_edge, [], []⟩
def d_law_map : He.DefD := ⟨("_law_map", none), "_law_map", "_law_map", defArgs s_law_map, defBody s_law_map, defScope s_law_map, [], []⟩
def d_law_cells_of : He.DefD := ⟨("_law_cells_of", none), "_law_cells_of", "_law_cells_of", defArgs s_law_cells_of, defBody s_law_cells_of, defScope s_law_cells_of, [], []⟩
def d_law_text : He.DefD := ⟨("_law_text", none), "_law_text", "_law_text", defArgs s_law_text, defBody s_law_text, defScope s_law_text, [], []⟩
def d_law_line_word : He.DefD := ⟨("_law_line_word", none), "_law_line_word", "_law_line_word", defArgs s_law_line_word, defBody s_law_line_word, defScope s_law_line_word, [], []⟩
def d_law_read_plat : He.DefD := ⟨("_law_read_plat", none), "_law_read_plat", "_law_read_plat", defArgs s_law_read_plat, defBody s_law_read_plat, defScope s_law_read_plat, [], []⟩
def d_law_bent_text : He.DefD := ⟨("_law_bent_text", none), "_law_bent_text", "_law_bent_text", defArgs s_law_bent_text, defBody s_law_bent_text, defScope s_law_bent_text, [], []⟩
def d_law : He.DefD := ⟨("law", none), "law", "law", defArgs s_law, defBody s_law, defScope s_law, [], []⟩
def d_Plat_init : He.DefD := ⟨("Plat", some "__init__"), "__init__", "Plat.__init__", defArgs s_Plat_init, defBody s_Plat_init, defScope s_Plat_init, [], [("road", .adr roadAt)]⟩
def d_Plat_rows : He.DefD := ⟨("Plat", some "rows"), "rows", "Plat.rows", defArgs s_Plat_rows, defBody s_Plat_rows, defScope s_Plat_rows, [], []⟩
def d_Plat_road : He.DefD := ⟨("Plat", some "road"), "road", "Plat.road", defArgs s_Plat_road, defBody s_Plat_road, defScope s_Plat_road, [], []⟩
def d_InvalidText_init : He.DefD := ⟨("InvalidText", some "__init__"), "__init__", "InvalidText.__init__", defArgs s_InvalidText_init, defBody s_InvalidText_init, defScope s_InvalidText_init, [], []⟩
def hdefs0 : List He.DefD := [d_is_whole, d_is_number, d_is_name, d_is_cell, d_beside, d_check_cells, d_group_of, d_groups, d_hangs_together, d_pieces, d_is_list, d_check_rows, d_parcels_of, d_is_edge, d_check_road, d_borders_of, d_bare_word, d_line_fault, d_apart_line, d_read_plat, d_law_bag, d_law_draw, d_law_pick, d_law_word, d_law_names, d_law_same, d_law_fields, d_law_got, d_law_why, d_law_is_word]
def hdefs1 : List He.DefD := [d_law_four, d_law_reach, d_law_groups, d_law_all_cells, d_law_sizes, d_law_sides, d_law_grown, d_law_edge, d_law_map, d_law_cells_of, d_law_text, d_law_line_word, d_law_read_plat, d_law_bent_text, d_law, d_Plat_init, d_Plat_rows, d_Plat_road, d_InvalidText_init]
def hdefs : List He.DefD := hdefs0 ++ hdefs1
def hfa0 : List He.Fa := [.free "isinstance", .free "int", .free "bool", .free "str", .free "tuple", .free "list", .free "dict", .free "len", .free "all", .free "sorted", .free "enumerate", .free "min", .free "set", .free "abs", .free "range", .free "zip"]
def hfa1 : List He.Fa := [.str "LETTERS" "abcdefghijklmnopqrstuvwxyz", .int "MOST_LETTERS" 6, .int "LAST" 11, .int "MOST_SIZE" 12, .int "MOST_PARCELS" 12, .glo "Plat", .glo "InvalidText", .glo "RollError", .glo "Missing", .cls "Plat", .mkr "Plat", .meth "Plat" "rows", .meth "Plat" "road"]
def hfa2 : List He.Fa := [.noat "Plat" "own_rows", .noat "Plat" "own_cells", .noat "Plat" "height", .noat "Plat" "width", .noat "Plat" "own_road", .noat "Plat" "own_borders", .noat "Plat" "own_rims"] ++ [.noat "InvalidText" "line", .noat "InvalidText" "why", .noat "InvalidText" "code"]
def hfa3 : List He.Fa := [.glo "is_whole", .glo "is_number", .glo "is_name", .glo "is_cell", .glo "beside", .glo "check_cells", .glo "group_of", .glo "groups", .glo "hangs_together", .glo "pieces", .glo "is_list", .glo "check_rows", .glo "parcels_of", .glo "is_edge", .glo "check_road", .glo "borders_of", .glo "bare_word", .glo "line_fault", .glo "apart_line", .glo "read_plat", .glo "_law_bag", .glo "_law_draw", .glo "_law_pick", .glo "_law_word", .glo "_law_names"]
def hfa4 : List He.Fa := [.glo "_law_same", .glo "_law_fields", .glo "_law_got", .glo "_law_why", .glo "_law_is_word", .glo "_law_four", .glo "_law_reach", .glo "_law_groups", .glo "_law_all_cells", .glo "_law_sizes", .glo "_law_sides", .glo "_law_grown", .glo "_law_edge", .glo "_law_map", .glo "_law_cells_of", .glo "_law_text", .glo "_law_line_word", .glo "_law_read_plat", .glo "_law_bent_text", .glo "law"]
def hfa : List He.Fa := hfa0 ++ hfa1 ++ hfa2 ++ hfa3 ++ hfa4
/-- the class of the errors that are raised -/
def oexB (K : PySem.W.Frag) (C : Addr) : Bool := match K.lookup C with
  | some ⟨.type "type", _, .cls cd, sl⟩ => (match cd.mro, sl.toList with
    | .ref C1 :: bm, [_, _, _, _, some (.builtin n), _] => C1 == C && (n == "ValueError.__new__" && (!cd.hasDel && (cd.hasDict && PySem.HandSPX.refsVE bm)))
    | _, _ => false)
  | _ => false
def invB (K : PySem.W.Frag) (C : Addr) : Bool := oexB K C && (decide (PySem.W.findIn K (.ref C) "__setattr__" = some (some (.builtin "object.__setattr__"))) && (decide (PySem.W.subIn K (.ref C) (.type "BaseException") = some true) && (decide (PySem.W.typeIn K (.ref C) = some (.type "type")) && (PySem.W.keepIn K (.ref C) &&
  (xfB K C && (decide (PySem.W.findIn K (.ref C) "__init__" = some (some (.ref (He.ma K C "__init__")))) && (decide (PySem.W.typeIn K (.ref (He.ma K C "__init__")) = some (.type "function")) && decide (PySem.W.exmAny K (.ref C) [.ref (He.ga K "RollError"), .ref (He.ga K "Missing")] = some true))))))))
def hex (K : PySem.W.Frag) : Bool := invB K (He.ga K "InvalidText")
abbrev hR : PySem.W.OpenRow := PySem.W.OpenLaw.row PySem.Challenge.rw_deedranks_k12_whole_wrong_texts_of_plats
abbrev hhk : PySem.W.Hook := He.hookX 4 hfa hdefs [] [("law", none)] hex
def hob (s : PySem.W.SharedT) : He.AlX := He.obsX 4 hfa hdefs [] [("law", none)] hex (HandSHeadRun.getT s)
theorem hob_eq (s : PySem.W.SharedT) : hob s = hhk.obs s.abs := He.obsX_eq (HandSHeadRun.getT_eq s)
def hn0 : List Str := ["_wall", "RollError", "Missing", "InvalidCell", "InvalidRow", "InvalidText", "TooMany", "Apart", "UnknownParcel", "LETTERS", "MOST_LETTERS", "is_whole", "is_number", "is_name", "LAST", "is_cell", "beside", "around", "check_cells", "group_of", "groups", "hangs_together", "pieces", "MOST_SIZE", "MOST_PARCELS", "is_list", "check_rows", "parcels_of", "is_edge", "check_road"]
def hn1 : List Str := ["borders_of", "Plat", "bare_word", "line_fault", "apart_line", "read_plat", "_law_bag", "_law_draw", "_law_pick", "_law_word", "_law_names", "_law_same", "_law_fields", "_law_got", "_law_why", "_law_is_word", "_law_four", "_law_reach", "_law_groups", "_law_all_cells", "_law_sizes", "_law_sides", "_law_grown", "_law_edge", "_law_map", "_law_cells_of", "_law_text", "_law_line_word", "_law_read_plat", "_law_bent_text"]
def hnames : List Str := hn0 ++ hn1
def lawAt : Nat := 66
theorem hrun (w : World) : HandSHeadRun.RunEq hR (PySem.W.view hR.prog [66]) hhk hob 20000 hnames w := by
  intro os
  kernel_rfl
end Dk
-- text Math
set_option maxHeartbeats 1000000
namespace Dk
open PySem L2
/-! ## cells, what hangs together -/
abbrev Cell := Int × Int
def nb (c : Cell) : List Cell := [(c.1 - 1, c.2), (c.1, c.2 - 1), (c.1, c.2 + 1), (c.1 + 1, c.2)]
theorem nb_symm {a b : Cell} (h : b ∈ nb a) : a ∈ nb b := by
  obtain ⟨a1, a2⟩ := a
  obtain ⟨b1, b2⟩ := b
  simp only [nb, List.mem_cons, Prod.mk.injEq, List.not_mem_nil, or_false] at h ⊢
  omega
/-- reached over cells of the pool -/
inductive Conn (pool : List Cell) (a : Cell) : Cell → Prop
  | refl : Conn pool a a
  | step {b c : Cell} : Conn pool a b → c ∈ nb b → c ∈ pool → Conn pool a c
theorem Conn.trans {pool : List Cell} {a b c : Cell} (h : Conn pool a b) (k : Conn pool b c) : Conn pool a c := by
  induction k with
  | refl => exact h
  | step _ h1 h2 ih => exact ih.step h1 h2
theorem Conn.mem {pool : List Cell} {a b : Cell} (h : Conn pool a b) (ha : a ∈ pool) : b ∈ pool := by
  cases h with
  | refl => exact ha
  | step _ _ h2 => exact h2
theorem Conn.symm {pool : List Cell} {a b : Cell} (h : Conn pool a b) (ha : a ∈ pool) : Conn pool b a := by
  induction h with
  | refl => exact .refl
  | @step b c h1 h2 h3 ih => exact (Conn.step .refl (nb_symm h2) (h1.mem ha)).trans ih
theorem Conn.inside {pool : List Cell} {a b : Cell} {S : Cell → Prop} (h : Conn pool a b) (ha : S a) (hS : ∀ x, S x → ∀ y ∈ nb x, y ∈ pool → S y) : S b := by
  induction h with
  | refl => exact ha
  | step _ h2 h3 ih => exact hS _ ih _ h2 h3
open Classical in
/-- the piece of a cell, in the pool's order -/
noncomputable def comp (pool : List Cell) (a : Cell) : List Cell := pool.filter fun b => decide (Conn pool a b)
theorem mem_comp {pool : List Cell} {a b : Cell} : b ∈ comp pool a ↔ b ∈ pool ∧ Conn pool a b := by
  unfold comp
  rw [List.mem_filter]
  simp
/-- the order of cells -/
def ltC (a b : Cell) : Prop := a.1 < b.1 ∨ (a.1 = b.1 ∧ a.2 < b.2)
instance (a b : Cell) : Decidable (ltC a b) := by unfold ltC; exact inferInstance
theorem ltC_irrefl (a : Cell) : ¬ ltC a a := by unfold ltC; omega
theorem ltC_trans {a b c : Cell} (h : ltC a b) (k : ltC b c) : ltC a c := by unfold ltC at *; omega
theorem strict_ext {α : Type} {lt : α → α → Prop} (irr : ∀ a, ¬ lt a a) (tr : ∀ {a b c}, lt a b → lt b c → lt a c) : ∀ {l m : List α}, l.Pairwise lt → m.Pairwise lt → (∀ x, x ∈ l ↔ x ∈ m) → l = m
  | [], [], _, _, _ => rfl
  | [], b :: m, _, _, h => by have := (h b).2 List.mem_cons_self; cases this
  | a :: l, [], _, _, h => by have := (h a).1 List.mem_cons_self; cases this
  | a :: l, b :: m, h1, h2, h => by
    obtain ⟨a1, a2⟩ := List.pairwise_cons.mp h1
    obtain ⟨b1, b2⟩ := List.pairwise_cons.mp h2
    have e : a = b := by
      rcases List.mem_cons.mp ((h a).1 List.mem_cons_self) with e | e
      · exact e
      rcases List.mem_cons.mp ((h b).2 List.mem_cons_self) with f | f
      · exact f.symm
      exact absurd (tr (b1 a e) (a1 b f)) (irr b)
    subst e
    rw [strict_ext irr tr a2 b2 fun x => ?_]
    constructor
    · intro hx
      rcases List.mem_cons.mp ((h x).1 (List.mem_cons_of_mem _ hx)) with e | e
      · subst e; exact absurd (a1 x hx) (irr x)
      · exact e
    · intro hx
      rcases List.mem_cons.mp ((h x).2 (List.mem_cons_of_mem _ hx)) with e | e
      · subst e; exact absurd (b1 x hx) (irr x)
      · exact e
theorem comp_sorted {pool : List Cell} (h : pool.Pairwise ltC) (a : Cell) : (comp pool a).Pairwise ltC := h.filter _
/-- a rising list of what is reached is the piece -/
theorem comp_eq {pool l : List Cell} {a : Cell} (hp : pool.Pairwise ltC) (hl : l.Pairwise ltC) (h : ∀ x, x ∈ l ↔ x ∈ pool ∧ Conn pool a x) : l = comp pool a :=
  strict_ext ltC_irrefl ltC_trans hl (comp_sorted hp a) fun x => (h x).trans mem_comp.symm
/-- the groups, in the order of their first cells -/
noncomputable def grp (pool : List Cell) : List Cell → List Cell → List (List Cell)
  | _, [] => []
  | seen, c :: cs => if c ∈ seen then grp pool seen cs else comp pool c :: grp pool (seen ++ comp pool c) cs
/-- what a list of pieces is worth -/
structure Pcs (pool : List Cell) (a : Cell) (t : List (List Cell)) : Prop where
  out : ∀ g ∈ t, g ≠ [] ∧ g.Pairwise ltC ∧ ∀ x ∈ g, x ∈ pool ∧ x ∉ comp pool a
  all : ∀ x ∈ pool, x ∉ comp pool a → ∃ g ∈ t, x ∈ g
theorem grp_out {pool : List Cell} (hp : pool.Pairwise ltC) (a : Cell) (ha : a ∈ pool) : ∀ (cs seen : List Cell), (∀ c ∈ cs, c ∈ pool) → (∀ x ∈ comp pool a, x ∈ seen) → (∀ x ∈ seen, x ∈ pool ∧ ∀ y, Conn pool x y → y ∈ seen) →
    (∀ g ∈ grp pool seen cs, g ≠ [] ∧ g.Pairwise ltC ∧ ∀ x ∈ g, x ∈ pool ∧ x ∉ comp pool a) ∧ ∀ x ∈ cs, x ∉ seen → ∃ g ∈ grp pool seen cs, x ∈ g
  | [], _, _, _, _ => ⟨fun g hg => absurd hg (by simp [grp]), fun x hx => absurd hx (by simp)⟩
  | c :: cs, seen, hc, h1, h2 => by
    unfold grp
    split
    · rename_i hs
      obtain ⟨i1, i2⟩ := grp_out hp a ha cs seen (fun x hx => hc x (List.mem_cons_of_mem _ hx)) h1 h2
      refine ⟨i1, fun x hx hn => ?_⟩
      rcases List.mem_cons.mp hx with e | e
      · subst e; exact absurd hs hn
      · exact i2 x e hn
    · rename_i hs
      have hcp := hc c List.mem_cons_self
      obtain ⟨i1, i2⟩ := grp_out hp a ha cs (seen ++ comp pool c) (fun x hx => hc x (List.mem_cons_of_mem _ hx)) (fun x hx => List.mem_append_left _ (h1 x hx)) (fun x hx => by
        rcases List.mem_append.mp hx with e | e
        · exact ⟨(h2 x e).1, fun y hy => List.mem_append_left _ ((h2 x e).2 y hy)⟩
        · obtain ⟨e1, e2⟩ := mem_comp.mp e
          exact ⟨e1, fun y hy => List.mem_append_right _ (mem_comp.mpr ⟨hy.mem e1, e2.trans hy⟩)⟩)
      refine ⟨fun g hg => ?_, fun x hx hn => ?_⟩
      · rcases List.mem_cons.mp hg with e | e
        · subst e
          refine ⟨fun z => ?_, comp_sorted hp c, fun x hx => ?_⟩
          · have q : c ∈ comp pool c := mem_comp.mpr ⟨hcp, .refl⟩
            rw [z] at q; cases q
          · obtain ⟨e1, e2⟩ := mem_comp.mp hx
            exact ⟨e1, fun q => hs ((h2 x (h1 x q)).2 c (e2.symm hcp))⟩
        · exact i1 g e
      · rcases List.mem_cons.mp hx with e | e
        · subst e
          exact ⟨_, List.mem_cons_self, mem_comp.mpr ⟨hcp, .refl⟩⟩
        · by_cases q : x ∈ comp pool c
          · exact ⟨_, List.mem_cons_self, q⟩
          · obtain ⟨g, g1, g2⟩ := i2 x e fun z => (List.mem_append.mp z).elim hn q
            exact ⟨g, List.mem_cons_of_mem _ g1, g2⟩
theorem grp_head {c : Cell} {cs : List Cell} (hp : (c :: cs).Pairwise ltC) : ∃ t, grp (c :: cs) [] (c :: cs) = comp (c :: cs) c :: t ∧ Pcs (c :: cs) c t := by
  have hc : c ∈ c :: cs := List.mem_cons_self
  refine ⟨grp (c :: cs) ([] ++ comp (c :: cs) c) cs, ?_, ?_⟩
  · conv => lhs; unfold grp
    rw [if_neg (by simp)]
  · obtain ⟨i1, i2⟩ := grp_out hp c hc cs ([] ++ comp (c :: cs) c) (fun x hx => List.mem_cons_of_mem _ hx) (fun x hx => by simpa using hx) (fun x hx => by
      have hx : x ∈ comp (c :: cs) c := by simpa using hx
      obtain ⟨e1, e2⟩ := mem_comp.mp hx
      exact ⟨e1, fun y hy => by
        have : y ∈ comp (c :: cs) c := mem_comp.mpr ⟨hy.mem e1, e2.trans hy⟩
        simpa using this⟩)
    refine ⟨i1, fun x hx hn => ?_⟩
    rcases List.mem_cons.mp hx with e | e
    · subst e; exact absurd (mem_comp.mpr ⟨hc, .refl⟩) hn
    · exact i2 x e (by simpa using hn)
/-! ## names, their rising list -/
def ltS (a b : Str) : Prop := a.cps.toList < b.cps.toList
instance (a b : Str) : Decidable (ltS a b) := by unfold ltS; exact inferInstance
theorem ltS_irrefl (a : Str) : ¬ ltS a a := List.lt_irrefl _
theorem ltS_trans {a b c : Str} (h : ltS a b) (k : ltS b c) : ltS a c := List.lt_trans h k
theorem str_ext {a b : Str} (h : a.cps.toList = b.cps.toList) : a = b := Str.ext' (Array.toList_inj.mp h)
theorem ltS_tri {a b : Str} (h : ¬ ltS a b) (k : a ≠ b) : ltS b a := by
  unfold ltS at *
  refine Classical.byContradiction fun q => k (str_ext ?_)
  exact List.le_antisymm (List.not_lt.mp q) (List.not_lt.mp h)
def insS (x : Str) : List Str → List Str
  | [] => [x]
  | y :: r => if x = y then y :: r else if ltS x y then x :: y :: r else y :: insS x r
def sset : List Str → List Str
  | [] => []
  | x :: r => insS x (sset r)
theorem mem_insS {x z : Str} : ∀ {l : List Str}, z ∈ insS x l ↔ z = x ∨ z ∈ l
  | [] => by simp [insS]
  | y :: r => by
    unfold insS
    split
    · rename_i e; subst e; simp
    · split
      · simp
      · rw [List.mem_cons, mem_insS, List.mem_cons]
        constructor
        · rintro (h | h | h) <;> simp [h]
        · rintro (h | h | h) <;> simp [h]
theorem mem_sset {z : Str} : ∀ {l : List Str}, z ∈ sset l ↔ z ∈ l
  | [] => Iff.rfl
  | x :: r => by
    show z ∈ insS x (sset r) ↔ _
    rw [mem_insS, mem_sset, List.mem_cons]
theorem insS_sorted {x : Str} : ∀ {l : List Str}, l.Pairwise ltS → (insS x l).Pairwise ltS
  | [], _ => by simp [insS]
  | y :: r, h => by
    obtain ⟨h1, h2⟩ := List.pairwise_cons.mp h
    unfold insS
    split
    · exact h
    · rename_i ne
      split
      · rename_i lt
        refine List.pairwise_cons.mpr ⟨fun z hz => ?_, h⟩
        rcases List.mem_cons.mp hz with e | e
        · subst e; exact lt
        · exact ltS_trans lt (h1 z e)
      · rename_i nl
        refine List.pairwise_cons.mpr ⟨fun z hz => ?_, insS_sorted h2⟩
        rcases mem_insS.mp hz with e | e
        · subst e; exact ltS_tri nl ne
        · exact h1 z e
theorem sset_sorted : ∀ l : List Str, (sset l).Pairwise ltS
  | [] => .nil
  | _ :: r => insS_sorted (sset_sorted r)
/-- a strictly rising list with these members is the one -/
theorem sset_eq {l m : List Str} (hm : m.Pairwise ltS) (h : ∀ x, x ∈ m ↔ x ∈ l) : m = sset l :=
  strict_ext ltS_irrefl ltS_trans hm (sset_sorted l) fun x => (h x).trans mem_sset.symm
theorem sset_nodup (l : List Str) : (sset l).Nodup := by
  have h := sset_sorted l
  exact h.imp fun q e => by subst e; exact ltS_irrefl _ q
theorem sset_app (a b : List Str) : sset (sset a ++ b) = sset (a ++ b) :=
  strict_ext ltS_irrefl ltS_trans (sset_sorted _) (sset_sorted _) fun x => by simp [mem_sset]
theorem sset_len (l : List Str) : (sset l).length ≤ l.length := by
  refine List.Nodup.length_le_of_subset (sset_nodup l) fun x hx => mem_sset.mp hx
/-! ## rows, cells of a name -/
def rowC (r c : Nat) : List Str → List (Cell × Str)
  | [] => []
  | y :: ys => (((r : Int), (c : Int)), y) :: rowC r (c + 1) ys
def gridC (r : Nat) : List (List Str) → List (Cell × Str)
  | [] => []
  | row :: rest => rowC r 0 row ++ gridC (r + 1) rest
theorem rowC_app (r : Nat) : ∀ (a b : List Str) (c : Nat), rowC r c (a ++ b) = rowC r c a ++ rowC r (c + a.length) b
  | [], b, c => by simp [rowC]
  | y :: ys, b, c => by
    show _ :: rowC r (c + 1) (ys ++ b) = _ :: (rowC r (c + 1) ys ++ _)
    rw [rowC_app r ys b (c + 1)]
    have : c + 1 + ys.length = c + (y :: ys).length := by simp; omega
    rw [this]
theorem gridC_app : ∀ (a b : List (List Str)) (r : Nat), gridC r (a ++ b) = gridC r a ++ gridC (r + a.length) b
  | [], b, r => by simp [gridC]
  | y :: ys, b, r => by
    show rowC r 0 y ++ gridC (r + 1) (ys ++ b) = rowC r 0 y ++ gridC (r + 1) ys ++ _
    rw [gridC_app ys b (r + 1), List.append_assoc]
    have : r + 1 + ys.length = r + (y :: ys).length := by simp; omega
    rw [this]
theorem take_get {α : Type} {l : List α} {i : Nat} {x : α} (h : l[i]? = some x) : l.take (i + 1) = l.take i ++ [x] := by
  rw [List.take_add_one, h]; rfl
theorem take_len {α : Type} {l : List α} {i : Nat} {x : α} (h : l[i]? = some x) : (l.take i).length = i := by
  have := (List.getElem?_eq_some_iff.mp h).1
  rw [List.length_take]; omega
theorem rowC_take {r i : Nat} {l : List Str} {x : Str} (h : l[i]? = some x) : rowC r 0 (l.take (i + 1)) = rowC r 0 (l.take i) ++ [(((r : Int), (i : Int)), x)] := by
  rw [take_get h, rowC_app, take_len h]
  simp [rowC]
theorem gridC_take {i : Nat} {l : List (List Str)} {x : List Str} (h : l[i]? = some x) : gridC 0 (l.take (i + 1)) = gridC 0 (l.take i) ++ rowC i 0 x := by
  rw [take_get h, gridC_app, take_len h]
  simp [gridC]
/-- the cells of those words that a test takes -/
def cellsBy (q : Str → Bool) (D : List (Cell × Str)) : List Cell := (D.filter fun p => q p.2).map (·.1)
theorem cellsBy_app (q : Str → Bool) (a b : List (Cell × Str)) : cellsBy q (a ++ b) = cellsBy q a ++ cellsBy q b := by simp [cellsBy]
abbrev isN (x : Str) : Str → Bool := fun y => decide (y = x)
def cellsOf (rows : List (List Str)) (x : Str) : List Cell := cellsBy (isN x) (gridC 0 rows)
theorem mem_rowC {r : Nat} {p : Cell × Str} : ∀ {l : List Str} {c : Nat}, p ∈ rowC r c l ↔ ∃ j, l[j]? = some p.2 ∧ p.1 = ((r : Int), ((c + j : Nat) : Int))
  | [], c => by simp [rowC]
  | y :: ys, c => by
    rw [show rowC r c (y :: ys) = (((r : Int), (c : Int)), y) :: rowC r (c + 1) ys from rfl, List.mem_cons, mem_rowC (c := c + 1)]
    constructor
    · rintro (rfl | ⟨j, h1, h2⟩)
      · exact ⟨0, by simp, by simp⟩
      · exact ⟨j + 1, by simpa using h1, by rw [h2]; congr 2; omega⟩
    · rintro ⟨j, h1, h2⟩
      cases j with
      | zero =>
        left
        obtain ⟨p1, p2⟩ := p
        simp at h1 h2
        rw [h1, h2]
      | succ j => exact .inr ⟨j, by simpa using h1, by rw [h2]; congr 2; omega⟩
theorem mem_gridC {p : Cell × Str} : ∀ {l : List (List Str)} {r : Nat}, p ∈ gridC r l ↔ ∃ (i j : Nat) (row : List Str), l[i]? = some row ∧ row[j]? = some p.2 ∧ p.1 = (((r + i : Nat) : Int), (j : Int))
  | [], r => by simp [gridC]
  | y :: ys, r => by
    rw [show gridC r (y :: ys) = rowC r 0 y ++ gridC (r + 1) ys from rfl, List.mem_append, mem_rowC, mem_gridC (r := r + 1)]
    constructor
    · rintro (⟨j, h1, h2⟩ | ⟨i, j, row, h1, h2, h3⟩)
      · exact ⟨0, j, y, by simp, h1, by rw [h2]; simp⟩
      · exact ⟨i + 1, j, row, by simpa using h1, h2, by rw [h3]; congr 2; omega⟩
    · rintro ⟨i, j, row, h1, h2, h3⟩
      cases i with
      | zero =>
        left
        simp at h1
        subst h1
        exact ⟨j, h2, by rw [h3]; simp⟩
      | succ i => exact .inr ⟨i, j, row, by simpa using h1, h2, by rw [h3]; congr 2; omega⟩
theorem rowC_sorted (r : Nat) : ∀ (l : List Str) (c : Nat), ((rowC r c l).map (·.1)).Pairwise ltC
  | [], _ => by simp [rowC]
  | y :: ys, c => by
    rw [show rowC r c (y :: ys) = (((r : Int), (c : Int)), y) :: rowC r (c + 1) ys from rfl, List.map_cons]
    refine List.pairwise_cons.mpr ⟨fun z hz => ?_, rowC_sorted r ys (c + 1)⟩
    obtain ⟨p, hp, rfl⟩ := List.mem_map.mp hz
    obtain ⟨j, _, e⟩ := mem_rowC.mp hp
    rw [e]
    exact .inr ⟨rfl, by simp; omega⟩
theorem gridC_sorted : ∀ (l : List (List Str)) (r : Nat), ((gridC r l).map (·.1)).Pairwise ltC
  | [], _ => by simp [gridC]
  | y :: ys, r => by
    rw [show gridC r (y :: ys) = rowC r 0 y ++ gridC (r + 1) ys from rfl, List.map_append]
    refine List.pairwise_append.mpr ⟨rowC_sorted r y 0, gridC_sorted ys (r + 1), fun a ha b hb => ?_⟩
    obtain ⟨p, hp, rfl⟩ := List.mem_map.mp ha
    obtain ⟨q, hq, rfl⟩ := List.mem_map.mp hb
    obtain ⟨j, _, e⟩ := mem_rowC.mp hp
    obtain ⟨i, j', _, _, _, e'⟩ := mem_gridC.mp hq
    rw [e, e']
    exact .inl (by simp; omega)
theorem cellsBy_sorted (q : Str → Bool) (l : List (List Str)) : (cellsBy q (gridC 0 l)).Pairwise ltC := by
  unfold cellsBy
  exact List.Pairwise.sublist ((List.filter_sublist).map _) (gridC_sorted l 0)
theorem mem_cellsBy {q : Str → Bool} {D : List (Cell × Str)} {c : Cell} : c ∈ cellsBy q D ↔ ∃ x, (c, x) ∈ D ∧ q x = true := by
  unfold cellsBy
  simp only [List.mem_map, List.mem_filter]
  constructor
  · rintro ⟨⟨a, b⟩, ⟨h1, h2⟩, rfl⟩
    exact ⟨b, h1, h2⟩
  · rintro ⟨x, h1, h2⟩
    exact ⟨(c, x), ⟨h1, h2⟩, rfl⟩
/-- the cells of a map, by rows -/
def rowAll (r c : Nat) : Nat → List Cell
  | 0 => []
  | n + 1 => ((r : Int), (c : Int)) :: rowAll r (c + 1) n
def gridAll (w r : Nat) : Nat → List Cell
  | 0 => []
  | n + 1 => rowAll r 0 w ++ gridAll w (r + 1) n
theorem rowAll_map (r : Nat) : ∀ (l : List Str) (c : Nat), (rowC r c l).map (·.1) = rowAll r c l.length
  | [], _ => rfl
  | y :: ys, c => by
    show _ :: (rowC r (c + 1) ys).map (·.1) = _ :: rowAll r (c + 1) ys.length
    rw [rowAll_map r ys (c + 1)]
theorem gridAll_map {w : Nat} : ∀ (l : List (List Str)) (r : Nat), (∀ x ∈ l, x.length = w) → (gridC r l).map (·.1) = gridAll w r l.length
  | [], _, _ => rfl
  | y :: ys, r, h => by
    show (rowC r 0 y ++ gridC (r + 1) ys).map (·.1) = rowAll r 0 w ++ gridAll w (r + 1) ys.length
    rw [List.map_append, rowAll_map, h y List.mem_cons_self, gridAll_map ys (r + 1) fun x hx => h x (List.mem_cons_of_mem _ hx)]
/-- what stands at a cell -/
def at_ (rows : List (List Str)) (c : Cell) : Str := ((rows.getD c.1.toNat []).getD c.2.toNat Str.empty)
theorem at_of {rows : List (List Str)} {p : Cell × Str} (h : p ∈ gridC 0 rows) : at_ rows p.1 = p.2 := by
  obtain ⟨i, j, row, h1, h2, h3⟩ := mem_gridC.mp h
  unfold at_
  rw [h3]
  simp [List.getD, h1, h2]
theorem filter_at {rows : List (List Str)} (q : Str → Bool) : ∀ (D : List (Cell × Str)), (∀ p ∈ D, p ∈ gridC 0 rows) → (D.map (·.1)).filter (fun c => q (at_ rows c)) = cellsBy q D
  | [], _ => rfl
  | p :: D, h => by
    have e := at_of (h p List.mem_cons_self)
    have ih := filter_at q D fun x hx => h x (List.mem_cons_of_mem _ hx)
    unfold cellsBy at ih ⊢
    rw [List.map_cons, List.filter_cons, List.filter_cons, e]
    split
    · rw [List.map_cons, ih]
    · exact ih
theorem gridAll_filter {rows : List (List Str)} {w : Nat} (h : ∀ x ∈ rows, x.length = w) (q : Str → Bool) : (gridAll w 0 rows.length).filter (fun c => q (at_ rows c)) = cellsBy q (gridC 0 rows) := by
  rw [← gridAll_map rows 0 h]
  exact filter_at q _ fun p hp => hp
theorem mem_rowAll {r : Nat} {p : Cell} : ∀ {n c : Nat}, p ∈ rowAll r c n ↔ ∃ j, j < n ∧ p = ((r : Int), ((c + j : Nat) : Int))
  | 0, c => by simp [rowAll]
  | n + 1, c => by
    rw [show rowAll r c (n + 1) = ((r : Int), (c : Int)) :: rowAll r (c + 1) n from rfl, List.mem_cons, mem_rowAll (c := c + 1)]
    constructor
    · rintro (rfl | ⟨j, h1, h2⟩)
      · exact ⟨0, by omega, by simp⟩
      · exact ⟨j + 1, by omega, by rw [h2]; congr 2; omega⟩
    · rintro ⟨j, h1, h2⟩
      cases j with
      | zero => left; rw [h2]; simp
      | succ j => exact .inr ⟨j, by omega, by rw [h2]; congr 2; omega⟩
theorem mem_gridAll {w : Nat} {p : Cell} : ∀ {n r : Nat}, p ∈ gridAll w r n ↔ ∃ i j, i < n ∧ j < w ∧ p = (((r + i : Nat) : Int), (j : Int))
  | 0, r => by simp [gridAll]
  | n + 1, r => by
    rw [show gridAll w r (n + 1) = rowAll r 0 w ++ gridAll w (r + 1) n from rfl, List.mem_append, mem_rowAll, mem_gridAll (r := r + 1)]
    constructor
    · rintro (⟨j, h1, h2⟩ | ⟨i, j, h1, h2, h3⟩)
      · exact ⟨0, j, by omega, h1, by rw [h2]; simp⟩
      · exact ⟨i + 1, j, by omega, h2, by rw [h3]; congr 2; omega⟩
    · rintro ⟨i, j, h1, h2, h3⟩
      cases i with
      | zero => left; exact ⟨j, h2, by rw [h3]; simp⟩
      | succ i => exact .inr ⟨i, j, by omega, h2, by rw [h3]; congr 2; omega⟩
theorem rowAll_len (r : Nat) : ∀ (n c : Nat), (rowAll r c n).length = n
  | 0, _ => rfl
  | n + 1, c => by simp [rowAll, rowAll_len r n (c + 1)]
theorem gridAll_len (w : Nat) : ∀ (n r : Nat), (gridAll w r n).length = n * w
  | 0, _ => by simp [gridAll]
  | n + 1, r => by
    rw [show gridAll w r (n + 1) = rowAll r 0 w ++ gridAll w (r + 1) n from rfl, List.length_append, rowAll_len, gridAll_len w n (r + 1), Nat.succ_mul]
    omega
theorem rowAll_snoc (r : Nat) : ∀ (n c : Nat), rowAll r c (n + 1) = rowAll r c n ++ [((r : Int), ((c + n : Nat) : Int))]
  | 0, c => by simp [rowAll]
  | n + 1, c => by
    rw [show rowAll r c (n + 1 + 1) = ((r : Int), (c : Int)) :: rowAll r (c + 1) (n + 1) from rfl, rowAll_snoc r n (c + 1)]
    rw [show rowAll r c (n + 1) = ((r : Int), (c : Int)) :: rowAll r (c + 1) n from rfl]
    simp only [List.cons_append, List.cons.injEq, true_and]
    congr 3
    omega
theorem gridAll_snoc (w : Nat) : ∀ (n r : Nat), gridAll w r (n + 1) = gridAll w r n ++ rowAll (r + n) 0 w
  | 0, r => by simp [gridAll]
  | n + 1, r => by
    rw [show gridAll w r (n + 1 + 1) = rowAll r 0 w ++ gridAll w (r + 1) (n + 1) from rfl, gridAll_snoc w n (r + 1)]
    rw [show gridAll w r (n + 1) = rowAll r 0 w ++ gridAll w (r + 1) n from rfl, List.append_assoc]
    congr 3
    omega
end Dk
-- text Math2
set_option maxHeartbeats 1000000
namespace Dk
open PySem L2
/-! ## texts -/
abbrev tl (x : Str) : List Nat := x.cps.toList
theorem len_tl (x : Str) : x.length = (tl x).length := by simp [tl, Str.length]
/-- cut at each s -/
def cut1 (s : Nat) : List Nat → List Nat → List (List Nat)
  | acc, [] => [acc]
  | acc, c :: r => if c = s then acc :: cut1 s [] r else cut1 s (acc ++ [c]) r
theorem spl_cut1 (s : Nat) : ∀ (l acc : List Nat), TL.spl [s] 0 acc l = cut1 s acc l
  | [], acc => by rw [TL.spl_nil]; rfl
  | c :: r, acc => by
    unfold cut1
    by_cases h : c = s
    · subst h
      rw [if_pos rfl, TL.spl_hit (by simp [TL.pre])]
      show acc :: TL.spl [c] 0 [] r = _
      rw [spl_cut1 c r []]
    · rw [if_neg h, TL.spl_miss (by simp [TL.pre, h])]
      exact spl_cut1 s r (acc ++ [c])
theorem cut1_ne (s : Nat) : ∀ (l acc : List Nat), cut1 s acc l ≠ []
  | [], acc => by simp [cut1]
  | c :: r, acc => by
    unfold cut1
    split
    · simp
    · exact cut1_ne s r _
theorem cut1_one (s : Nat) : ∀ (l acc z : List Nat), cut1 s acc l = [z] → z = acc ++ l
  | [], acc, z, h => by simp [cut1] at h; simp [h]
  | c :: r, acc, z, h => by
    unfold cut1 at h
    split at h
    · have := cut1_ne s r []
      simp at h
      exact absurd h.2 this
    · have := cut1_one s r _ z h
      simpa using this
theorem cut1_len (s : Nat) : ∀ (l acc : List Nat), (∀ p ∈ cut1 s acc l, p.length ≤ acc.length + l.length) ∧ (cut1 s acc l).length ≤ l.length + 1
  | [], acc => by simp [cut1]
  | c :: r, acc => by
    unfold cut1
    split
    · obtain ⟨h1, h2⟩ := cut1_len s r []
      refine ⟨fun p hp => ?_, by simp; omega⟩
      rcases List.mem_cons.mp hp with e | e
      · subst e; simp
      · have := h1 p e
        simp at this ⊢; omega
    · obtain ⟨h1, h2⟩ := cut1_len s r (acc ++ [c])
      refine ⟨fun p hp => ?_, by simp; omega⟩
      have := h1 p hp
      simp at this ⊢; omega
abbrev sg (c : Nat) : Str := ⟨#[c]⟩
theorem split_cut1 (x : Str) {s : Nat} (hs : s < 256) : (Txt.split x (sg s)).map tl = cut1 s [] (tl x) := by
  have h := TL.split_spl x (sg s) (by simp [TL.tl]) (TL.kind_ok (by simp [hs]))
  rw [show TL.tl (sg s) = [s] from rfl, spl_cut1] at h
  exact h
theorem split_ne (x : Str) {s : Nat} (hs : s < 256) : Txt.split x (sg s) ≠ [] := fun h => by
  have := split_cut1 x hs
  rw [h] at this
  exact cut1_ne s _ _ this.symm
theorem split_one {x z : Str} {s : Nat} (hs : s < 256) (h : Txt.split x (sg s) = [z]) : z = x := by
  have := split_cut1 x hs
  rw [h] at this
  exact str_ext (by simpa using cut1_one s _ _ _ this.symm)
theorem split_part {x z : Str} {s : Nat} (hs : s < 256) (h : z ∈ Txt.split x (sg s)) : z.length ≤ x.length := by
  have h1 := (cut1_len s (tl x) []).1 (tl z) (by rw [← split_cut1 x hs]; exact List.mem_map.mpr ⟨z, h, rfl⟩)
  rw [len_tl, len_tl]
  simpa using h1
theorem split_many (x : Str) {s : Nat} (hs : s < 256) : (Txt.split x (sg s)).length ≤ x.length + 1 := by
  have h1 := (cut1_len s (tl x) []).2
  rw [← split_cut1 x hs, List.length_map] at h1
  rw [len_tl]; exact h1
/-! ## words -/
def LET : Str := "abcdefghijklmnopqrstuvwxyz"
def nameB (z : Str) : Bool := decide (1 ≤ z.length) && (decide (z.length ≤ 6) && (tl z).all fun c => decide (c ∈ tl LET))
def star (z : Str) : Bool := decide ((tl z).getLast? = some 42)
def bare (z : Str) : Str := if star z = true then ⟨(tl z).dropLast.toArray⟩ else z
theorem bare_len (z : Str) : (bare z).length ≤ z.length := by
  unfold bare
  split
  · rw [len_tl, len_tl]; simp [tl]
  · exact Nat.le_refl _
/-! ## the reading of a plat -/
/-- what is wrong with a line of these words behind the rows R -/
def fault (ws : List Str) (R : List (List Str)) : Option Str :=
  if (ws.map bare).all nameB = false then some "form"
  else if 12 < ws.length ∨ (R ≠ [] ∧ ws.length ≠ (R.headD []).length) then some "width"
  else if R.length = 12 ∨ 12 < (sset (R ++ [ws.map bare]).flatten).length then some "many"
  else none
def scan : List (List Str) → List (List Str) → Option (Nat × Str) × List (List Str)
  | [], R => (none, R)
  | ws :: r, R => match fault ws R with
    | some why => (some (R.length, why), R)
    | none => scan r (R ++ [ws.map bare])
inductive Res where
  | bad (n : Int) (why : Str)
  | ok (rows : List (List Str)) (road : List Cell)
def edgeB (c : Cell) (h w : Int) : Bool := (decide (c.1 = 0) || decide (c.1 = h - 1)) || (decide (c.2 = 0) || decide (c.2 = w - 1))
def minI : List Int → Int
  | [] => 0
  | [x] => x
  | x :: y :: r => min x (minI (y :: r))
theorem minI_eq : ∀ {l : List Int} {m : Int}, m ∈ l → (∀ y ∈ l, m ≤ y) → minI l = m
  | [x], m, h, _ => by simp at h; exact h.symm
  | x :: y :: r, m, h, k => by
    show min x (minI (y :: r)) = m
    rcases List.mem_cons.mp h with e | e
    · subst e
      have : m ≤ minI (y :: r) := by
        have hm : minI (y :: r) ∈ y :: r := minI_mem
        exact k _ (List.mem_cons_of_mem _ hm)
      omega
    · rw [minI_eq e fun z hz => k z (List.mem_cons_of_mem _ hz)]
      have := k x List.mem_cons_self
      omega
where minI_mem : ∀ {r : List Int} {y : Int}, minI (y :: r) ∈ y :: r
  | [], y => by simp [minI]
  | x :: r, y => by
    show min y (minI (x :: r)) ∈ _
    by_cases h : y ≤ minI (x :: r)
    · rw [Int.min_eq_left h]; exact List.mem_cons_self
    · rw [Int.min_eq_right (by omega)]; exact List.mem_cons_of_mem _ minI_mem
open Classical in
noncomputable def lostOf (cs : List Cell) : List Int := (cs.filter fun c => decide (c ∉ comp cs (cs.headD (0, 0)))).map (·.1)
noncomputable def lostL (rows : List (List Str)) : List Int := (sset rows.flatten).flatMap fun x => lostOf (cellsOf rows x)
abbrev dimH (R : List (List Str)) : Int := (R.length : Int)
abbrev dimW (R : List (List Str)) : Int := ((R.headD []).length : Int)
def roadOf (Ws : List (List Str)) : List Cell := cellsBy star (gridC 0 Ws)
def innerOf (Ws R : List (List Str)) : List Cell := (roadOf Ws).filter fun c => !edgeB c (dimH R) (dimW R)
noncomputable def readW (Ws : List (List Str)) (last : Str) : Res :=
  match scan Ws [] with
  | (some (n, why), _) => .bad n why
  | (none, R) => if last ≠ Str.empty then .bad R.length "form" else match innerOf Ws R with
    | c :: _ => .bad c.1 "inner"
    | [] => if lostL R ≠ [] then .bad (minI (lostL R)) "apart" else .ok R (roadOf Ws)
abbrev wordsOf (ls : List Str) : List (List Str) := ls.map fun l => Txt.split l (sg 32)
noncomputable def readS (t : Str) : Res := if t = Str.empty then .bad 0 "form" else readW (wordsOf (Txt.split t (sg 10)).dropLast) ((Txt.split t (sg 10)).getLastD Str.empty)
/-! ### what holds behind a scan that found nothing -/
structure Good (Ws R : List (List Str)) : Prop where
  rows : R = Ws.map fun ws => ws.map bare
  nm : ∀ r ∈ R, ∀ z ∈ r, nameB z = true
  wd : ∀ r ∈ R, r.length = (R.headD []).length ∧ 1 ≤ r.length ∧ r.length ≤ 12
  hh : R.length ≤ 12
  mn : (sset R.flatten).length ≤ 12
theorem fault_none {ws : List Str} {R : List (List Str)} (h : fault ws R = none) : (∀ z ∈ ws.map bare, nameB z = true) ∧ ws.length ≤ 12 ∧ (R = [] ∨ ws.length = (R.headD []).length) ∧ R.length ≠ 12 ∧ (sset (R ++ [ws.map bare]).flatten).length ≤ 12 := by
  unfold fault at h
  split at h
  · cases h
  rename_i h1
  split at h
  · cases h
  rename_i h2
  split at h
  · cases h
  rename_i h3
  refine ⟨List.all_eq_true.mp (by simpa using h1), by omega, ?_, by omega, by omega⟩
  by_cases e : R = []
  · exact .inl e
  · right
    refine Classical.byContradiction fun q => h2 (.inr ⟨e, q⟩)
theorem scan_good : ∀ {rest done R R' : List (List Str)}, (∀ w ∈ rest, w ≠ []) → Good done R → scan rest R = (none, R') → Good (done ++ rest) R'
  | [], done, R, R', _, g, h => by
    simp [scan] at h
    subst h
    simpa using g
  | ws :: r, done, R, R', hne, g, h => by
    unfold scan at h
    split at h
    · cases h
    rename_i hf
    obtain ⟨f1, f2, f3, f4, f5⟩ := fault_none hf
    have hws := hne ws List.mem_cons_self
    have key : Good (done ++ [ws]) (R ++ [ws.map bare]) := by
      have hl : 1 ≤ ws.length := by
        cases ws with
        | nil => exact absurd rfl hws
        | cons => simp
      have hd : (R ++ [ws.map bare]).headD [] = if R = [] then ws.map bare else R.headD [] := by
        cases R <;> simp
      refine ⟨by rw [g.rows]; simp, fun x hx z hz => ?_, fun x hx => ?_, ?_, f5⟩
      · rcases List.mem_append.mp hx with e | e
        · exact g.nm x e z hz
        · rw [List.mem_singleton] at e; subst e; exact f1 z hz
      · rw [hd]
        rcases List.mem_append.mp hx with e | e
        · have ne : R ≠ [] := fun q => by rw [q] at e; cases e
          rw [if_neg ne]
          exact g.wd x e
        · rw [List.mem_singleton] at e
          subst e
          split
          · simp; omega
          · rename_i ne
            have := f3.resolve_left ne
            simp at this ⊢; omega
      · have := g.hh
        simp; omega
    have := scan_good (rest := r) (fun w hw => hne w (List.mem_cons_of_mem _ hw)) key h
    simpa using this
theorem good_nil : Good [] [] := ⟨rfl, by simp, by simp, by simp, by simp [sset]⟩
theorem good_of {Ws R : List (List Str)} (hne : ∀ w ∈ Ws, w ≠ []) (h : scan Ws [] = (none, R)) : Good Ws R := by
  have := scan_good hne good_nil h
  simpa using this
theorem good_take {Ws R : List (List Str)} (g : Good Ws R) : R.length = Ws.length := by rw [g.rows]; simp
/-- the scan, a line at a time: i lines taken, R their rows -/
structure Upto (Ws : List (List Str)) (i : Nat) (R : List (List Str)) : Prop where
  sc : scan Ws [] = scan (Ws.drop i) R
  len : R.length = i
  rows : R = (Ws.take i).map fun ws => ws.map bare
theorem upto_zero (Ws : List (List Str)) : Upto Ws 0 [] := ⟨by simp, rfl, by simp⟩
theorem upto_bad {Ws R : List (List Str)} {i : Nat} {ws : List Str} {why : Str} (u : Upto Ws i R) (h : Ws[i]? = some ws) (f : fault ws R = some why) : (scan Ws []).1 = some (i, why) := by
  have hd : Ws.drop i = ws :: Ws.drop (i + 1) := by
    obtain ⟨h1, h2⟩ := List.getElem?_eq_some_iff.mp h
    rw [List.drop_eq_getElem_cons h1, h2]
  rw [u.sc, hd]
  unfold scan
  rw [f, u.len]
theorem upto_next {Ws R : List (List Str)} {i : Nat} {ws : List Str} (u : Upto Ws i R) (h : Ws[i]? = some ws) (f : fault ws R = none) : Upto Ws (i + 1) (R ++ [ws.map bare]) := by
  have hd : Ws.drop i = ws :: Ws.drop (i + 1) := by
    obtain ⟨h1, h2⟩ := List.getElem?_eq_some_iff.mp h
    rw [List.drop_eq_getElem_cons h1, h2]
  refine ⟨?_, by simp [u.len], ?_⟩
  · rw [u.sc, hd]
    conv => lhs; unfold scan
    rw [f]
  · rw [take_get h, List.map_append, ← u.rows]
    rfl
theorem upto_end {Ws R : List (List Str)} (u : Upto Ws Ws.length R) : scan Ws [] = (none, R) := by
  rw [u.sc]
  simp [scan]
theorem readW_bad {Ws : List (List Str)} {last : Str} {n : Nat} {why : Str} (h : (scan Ws []).1 = some (n, why)) : readW Ws last = .bad n why := by
  unfold readW
  generalize scan Ws [] = p at h ⊢
  obtain ⟨a, b⟩ := p
  subst h
  rfl
/-! ## a map that grows -/
theorem line_change {P : Nat → Prop} {i j : Nat} (hi : P i) (hj : ¬ P j) : ∃ k, min i j ≤ k ∧ k < max i j ∧ ((P k ∧ ¬ P (k + 1)) ∨ (¬ P k ∧ P (k + 1))) := by
  rcases Nat.le_total i j with h | h
  · obtain ⟨d, rfl⟩ := Nat.exists_eq_add_of_le h
    clear h
    induction d with
    | zero => exact absurd hi hj
    | succ d ih =>
      by_cases q : P (i + d)
      · exact ⟨i + d, by omega, by omega, .inl ⟨q, hj⟩⟩
      · obtain ⟨k, h1, h2, h3⟩ := ih q
        exact ⟨k, by omega, by omega, h3⟩
  · obtain ⟨d, rfl⟩ := Nat.exists_eq_add_of_le h
    clear h
    induction d with
    | zero => exact absurd hi hj
    | succ d ih =>
      by_cases q : P (j + d)
      · obtain ⟨k, h1, h2, h3⟩ := ih q
        exact ⟨k, by omega, by omega, h3⟩
      · exact ⟨j + d, by omega, by omega, .inr ⟨q, hi⟩⟩
theorem grid_change {h w : Nat} {F : Cell → Prop} {x y : Cell} (hx : x ∈ gridAll w 0 h) (hy : y ∈ gridAll w 0 h) (fx : F x) (fy : ¬ F y) : ∃ a b, a ∈ gridAll w 0 h ∧ b ∈ gridAll w 0 h ∧ F a ∧ ¬ F b ∧ a ∈ nb b := by
  obtain ⟨r1, c1, a1, a2, rfl⟩ := mem_gridAll.mp hx
  obtain ⟨r2, c2, b1, b2, rfl⟩ := mem_gridAll.mp hy
  simp only [Nat.zero_add] at fx fy
  by_cases q : F (((r1 : Nat) : Int), ((c2 : Nat) : Int))
  · obtain ⟨k, k1, k2, k3⟩ := line_change (P := fun r : Nat => F ((r : Int), ((c2 : Nat) : Int))) q fy
    have g1 : (((k : Nat) : Int), ((c2 : Nat) : Int)) ∈ gridAll w 0 h := mem_gridAll.mpr ⟨k, c2, by omega, b2, by simp⟩
    have g2 : (((k + 1 : Nat) : Int), ((c2 : Nat) : Int)) ∈ gridAll w 0 h := mem_gridAll.mpr ⟨k + 1, c2, by omega, b2, by simp⟩
    rcases k3 with ⟨p1, p2⟩ | ⟨p1, p2⟩
    · exact ⟨_, _, g1, g2, p1, p2, by simp [nb]⟩
    · exact ⟨_, _, g2, g1, p2, p1, by simp [nb]⟩
  · obtain ⟨k, k1, k2, k3⟩ := line_change (P := fun c : Nat => F (((r1 : Nat) : Int), (c : Int))) fx q
    have g1 : (((r1 : Nat) : Int), ((k : Nat) : Int)) ∈ gridAll w 0 h := mem_gridAll.mpr ⟨r1, k, a1, by omega, by simp⟩
    have g2 : (((r1 : Nat) : Int), ((k + 1 : Nat) : Int)) ∈ gridAll w 0 h := mem_gridAll.mpr ⟨r1, k + 1, a1, by omega, by simp⟩
    rcases k3 with ⟨p1, p2⟩ | ⟨p1, p2⟩
    · exact ⟨_, _, g1, g2, p1, p2, by simp [nb]⟩
    · exact ⟨_, _, g2, g1, p2, p1, by simp [nb]⟩
end Dk
-- text Math3
set_option maxHeartbeats 1000000
namespace Dk
open PySem
theorem ltC_nodup {l : List Cell} (h : l.Pairwise ltC) : l.Nodup := by
  unfold List.Nodup
  refine List.Pairwise.imp (R := ltC) ?_ h
  intro a b r e
  subst e
  exact ltC_irrefl a r
theorem grp_skip {pool seen cs : List Cell} {c : Cell} (h : c ∈ seen) : grp pool seen (c :: cs) = grp pool seen cs := by
  rw [grp, if_pos h]
theorem grp_take {pool seen cs : List Cell} {c : Cell} (h : c ∉ seen) : grp pool seen (c :: cs) = comp pool c :: grp pool (seen ++ comp pool c) cs := by
  rw [grp, if_neg h]
theorem drop_get {α : Type} {l : List α} {i : Nat} {x : α} (h : l[i]? = some x) : l.drop i = x :: l.drop (i + 1) := by
  obtain ⟨hi, e⟩ := List.getElem?_eq_some_iff.mp h
  rw [List.drop_eq_getElem_cons hi, e]
/-! ## the search through a pool -/
structure GI (pool : List Cell) (c : Cell) (S L : List Cell) (x : Option Cell) : Prop where
  nd : S.Nodup
  st : c ∈ S
  inn : ∀ y ∈ S, y ∈ pool ∧ Conn pool c y
  sub : ∀ y ∈ L, y ∈ S
  cl : ∀ y ∈ S, y ∉ L → some y ≠ x → ∀ z ∈ nb y, z ∈ pool → z ∈ S
  le : L.length ≤ S.length
theorem GI.start {pool : List Cell} {c : Cell} (h : c ∈ pool) : GI pool c [c] [c] none :=
  ⟨by simp, by simp, fun y hy => by simp at hy; subst hy; exact ⟨h, .refl⟩, fun _ h => h, fun y hy n => absurd hy n, Nat.le_refl _⟩
theorem mem_dropLast_or {α : Type} {L : List α} {x y : α} (h : L[L.length - 1]? = some x) (hy : y ∈ L) : y ∈ L.dropLast ∨ y = x := by
  obtain ⟨i, hi, e⟩ := List.mem_iff_getElem.mp hy
  by_cases hl : i < L.length - 1
  · left
    exact List.mem_iff_getElem.mpr ⟨i, by rw [List.length_dropLast]; exact hl, by rw [List.getElem_dropLast]; exact e⟩
  · right
    have : i = L.length - 1 := by omega
    subst this
    rw [List.getElem?_eq_getElem hi, e] at h
    exact Option.some.inj h
theorem GI.pop {pool : List Cell} {c x : Cell} {S L : List Cell} (g : GI pool c S L none) (h : L[L.length - 1]? = some x) : GI pool c S L.dropLast (some x) ∧ x ∈ S := by
  refine ⟨⟨g.nd, g.st, g.inn, fun y hy => g.sub y (List.dropLast_subset _ hy), fun y hy n ne z hz hp => g.cl y hy (fun m => ?_) (by simp) z hz hp, ?_⟩, g.sub x (List.mem_of_getElem? h)⟩
  · cases mem_dropLast_or h m with
    | inl m => exact n m
    | inr e => exact ne (by rw [e])
  · have := g.le
    rw [List.length_dropLast]; omega
theorem GI.add {pool : List Cell} {c x y : Cell} {S L : List Cell} (g : GI pool c S L (some x)) (hx : x ∈ S) (hy : y ∈ nb x) (hp : y ∈ pool) (n : y ∉ S) : GI pool c (S ++ [y]) (L ++ [y]) (some x) := by
  refine ⟨?_, List.mem_append_left _ g.st, fun z hz => ?_, fun z hz => ?_, fun z hz m ne u hu hup => ?_, ?_⟩
  · rw [List.nodup_append]
    exact ⟨g.nd, by simp, fun a ha b hb e => by simp at hb; subst hb; subst e; exact n ha⟩
  · rcases List.mem_append.mp hz with h | h
    · exact g.inn z h
    · simp at h; subst h
      exact ⟨hp, ((g.inn x hx).2).step hy hp⟩
  · rcases List.mem_append.mp hz with h | h
    · exact List.mem_append_left _ (g.sub z h)
    · exact List.mem_append_right _ h
  · rcases List.mem_append.mp hz with h | h
    · exact List.mem_append_left _ (g.cl z h (fun q => m (List.mem_append_left _ q)) ne u hu hup)
    · exact absurd (List.mem_append_right _ h) m
  · have := g.le
    simp; omega
theorem GI.fin {pool : List Cell} {c x : Cell} {S L : List Cell} (g : GI pool c S L (some x)) (h : ∀ y ∈ nb x, y ∈ pool → y ∈ S) : GI pool c S L none :=
  ⟨g.nd, g.st, g.inn, g.sub, fun y hy n _ z hz hp => by
    by_cases e : y = x
    · subst e; exact h z hz hp
    · exact g.cl y hy n (fun q => e (Option.some.inj q)) z hz hp, g.le⟩
theorem GI.done {pool : List Cell} {c : Cell} {S : List Cell} (g : GI pool c S [] none) (z : Cell) : z ∈ S ↔ z ∈ pool ∧ Conn pool c z :=
  ⟨g.inn z, fun ⟨_, h⟩ => h.inside g.st fun x hx y hy hp => g.cl x hx (by simp) (by simp) y hy hp⟩
theorem GI.len {pool : List Cell} {c : Cell} {S L : List Cell} {x : Option Cell} (g : GI pool c S L x) : S.length ≤ pool.length := List.Nodup.length_le_of_subset g.nd fun y hy => (g.inn y hy).1
theorem GI.len1 {pool : List Cell} {c y : Cell} {S L : List Cell} {x : Option Cell} (g : GI pool c S L x) (hp : y ∈ pool) (n : y ∉ S) : S.length < pool.length := by
  have : (S ++ [y]).length ≤ pool.length := List.Nodup.length_le_of_subset (by
    rw [List.nodup_append]
    exact ⟨g.nd, by simp, fun a ha b hb e => by simp at hb; subst hb; subst e; exact n ha⟩) fun z hz => by
      rcases List.mem_append.mp hz with h | h
      · exact (g.inn z h).1
      · simp at h; subst h; exact hp
  simp at this; omega
end Dk
-- text Math4
set_option maxHeartbeats 1000000
namespace Dk
open PySem
/-! ## the first row of each piece but the first -/
def headRow (g : List Cell) : Int := (g.headD (0, 0)).1
noncomputable def restOf (R : List (List Str)) (x : Str) : List (List Cell) := (grp (cellsOf R x) [] (cellsOf R x)).tail
noncomputable def apartL (R : List (List Str)) : List Int := (sset R.flatten).flatMap fun x => (restOf R x).map headRow
theorem rest_in {R : List (List Str)} {x : Str} {g : List Cell} (h : g ∈ restOf R x) : g ≠ [] ∧ headRow g ∈ lostOf (cellsOf R x) := by
  unfold restOf at h
  unfold lostOf
  have so := cellsBy_sorted (isN x) R
  rw [show cellsBy (isN x) (gridC 0 R) = cellsOf R x from rfl] at so
  cases e : cellsOf R x with
  | nil => rw [e] at h; simp [grp] at h
  | cons c cs =>
    rw [e] at h so
    obtain ⟨t, h1, p⟩ := grp_head so
    rw [h1] at h
    obtain ⟨n1, n2, n3⟩ := p.out g h
    refine ⟨n1, ?_⟩
    cases g with
    | nil => exact absurd rfl n1
    | cons d g =>
      obtain ⟨m1, m2⟩ := n3 d List.mem_cons_self
      exact List.mem_map.mpr ⟨d, List.mem_filter.mpr ⟨m1, by simpa using m2⟩, rfl⟩
theorem lost_in {R : List (List Str)} {x : Str} {y : Int} (h : y ∈ lostOf (cellsOf R x)) : ∃ g ∈ restOf R x, headRow g ≤ y := by
  unfold restOf
  unfold lostOf at h
  have so := cellsBy_sorted (isN x) R
  rw [show cellsBy (isN x) (gridC 0 R) = cellsOf R x from rfl] at so
  cases e : cellsOf R x with
  | nil => rw [e] at h; simp at h
  | cons c cs =>
    rw [e] at h so
    obtain ⟨t, h1, p⟩ := grp_head so
    rw [h1]
    obtain ⟨d, hd, rfl⟩ := List.mem_map.mp h
    obtain ⟨d1, d2⟩ := List.mem_filter.mp hd
    obtain ⟨g, g1, g2⟩ := p.all d d1 (by simpa using d2)
    refine ⟨g, g1, ?_⟩
    have gs := (p.out g g1).2.1
    cases g with
    | nil => cases g2
    | cons f g =>
      show f.1 ≤ d.1
      rcases List.mem_cons.mp g2 with e | e
      · rw [e]; exact Int.le_refl _
      · have := (List.pairwise_cons.mp gs).1 d e
        unfold ltC at this
        omega
theorem apart_lost {R : List (List Str)} : (apartL R = [] ↔ lostL R = []) ∧ ∀ m, m ∈ apartL R → (∀ j ∈ apartL R, m ≤ j) → minI (lostL R) = m := by
  have up : ∀ y ∈ apartL R, y ∈ lostL R := fun y hy => by
    obtain ⟨x, hx, h⟩ := List.mem_flatMap.mp hy
    obtain ⟨g, hg, rfl⟩ := List.mem_map.mp h
    exact List.mem_flatMap.mpr ⟨x, hx, (rest_in hg).2⟩
  have dn : ∀ y ∈ lostL R, ∃ z ∈ apartL R, z ≤ y := fun y hy => by
    obtain ⟨x, hx, h⟩ := List.mem_flatMap.mp hy
    obtain ⟨g, hg, l⟩ := lost_in h
    exact ⟨_, List.mem_flatMap.mpr ⟨x, hx, List.mem_map.mpr ⟨g, hg, rfl⟩⟩, l⟩
  refine ⟨⟨fun h => ?_, fun h => ?_⟩, fun m hm hj => minI_eq (up m hm) fun y hy => ?_⟩
  · cases e : lostL R with
    | nil => rfl
    | cons y l =>
      obtain ⟨z, hz, _⟩ := dn y (by rw [e]; exact List.mem_cons_self)
      rw [h] at hz
      cases hz
  · cases e : apartL R with
    | nil => rfl
    | cons y l =>
      have := up y (by rw [e]; exact List.mem_cons_self)
      rw [h] at this
      cases this
  · obtain ⟨z, hz, l⟩ := dn y hy
    exact Int.le_trans (hj z hz) l
theorem cells_ne {R : List (List Str)} {x : Str} (hx : x ∈ R.flatten) : cellsOf R x ≠ [] := fun e => by
  obtain ⟨row, hr, hxr⟩ := List.mem_flatten.mp hx
  obtain ⟨i, hi, ei⟩ := List.mem_iff_getElem.mp hr
  obtain ⟨j, hj, ej⟩ := List.mem_iff_getElem.mp hxr
  have m : (((0 + i : Nat) : Int), (j : Int)) ∈ cellsOf R x := mem_cellsBy.mpr ⟨x, mem_gridC.mpr ⟨i, j, row, by rw [List.getElem?_eq_getElem hi, ei], by rw [List.getElem?_eq_getElem hj, ej], rfl⟩, by simp⟩
  rw [e] at m
  cases m
theorem one_piece {R : List (List Str)} (h : lostL R = []) {x : Str} (hx : x ∈ R.flatten) : (grp (cellsOf R x) [] (cellsOf R x)).length = 1 := by
  have a := apart_lost.1.mpr h
  have r : restOf R x = [] := by
    unfold apartL at a
    have := List.flatMap_eq_nil_iff.mp a x (mem_sset.mpr hx)
    simpa using this
  have so := cellsBy_sorted (isN x) R
  rw [show cellsBy (isN x) (gridC 0 R) = cellsOf R x from rfl] at so
  unfold restOf at r
  have ne := cells_ne hx
  cases e : cellsOf R x with
  | nil => exact absurd e ne
  | cons c cs =>
    rw [e] at so r
    obtain ⟨t, h1, _⟩ := grp_head so
    rw [h1] at r ⊢
    simp at r
    simp [r]
/-! ## the search line by line -/
structure LB (pool : List Cell) (c : Cell) (L : List Cell) (k : Nat) : Prop where
  nd : L.Nodup
  st : c ∈ L
  inn : ∀ y ∈ L, y ∈ pool ∧ Conn pool c y
  cl : ∀ i y, i < k → L[i]? = some y → ∀ z ∈ nb y, z ∈ pool → z ∈ L
theorem LB.start {pool : List Cell} {c : Cell} (h : c ∈ pool) : LB pool c [c] 0 := ⟨by simp, by simp, fun y hy => by simp at hy; subst hy; exact ⟨h, .refl⟩, fun i y hi => by omega⟩
theorem LB.len {pool : List Cell} {c : Cell} {L : List Cell} {k : Nat} (g : LB pool c L k) : L.length ≤ pool.length := List.Nodup.length_le_of_subset g.nd fun y hy => (g.inn y hy).1
theorem LB.add {pool : List Cell} {c x y : Cell} {L : List Cell} {k : Nat} (g : LB pool c L k) (hk : k ≤ L.length) (hx : x ∈ L) (hy : y ∈ nb x) (hp : y ∈ pool) (n : y ∉ L) : LB pool c (L ++ [y]) k := by
  refine ⟨?_, List.mem_append_left _ g.st, fun z hz => ?_, fun i z hi hz u hu hup => ?_⟩
  · rw [List.nodup_append]
    exact ⟨g.nd, by simp, fun a ha b hb e => by simp at hb; subst hb; subst e; exact n ha⟩
  · rcases List.mem_append.mp hz with h | h
    · exact g.inn z h
    · simp at h; subst h
      exact ⟨hp, ((g.inn x hx).2).step hy hp⟩
  · rw [List.getElem?_append_left (by omega)] at hz
    exact List.mem_append_left _ (g.cl i z hi hz u hu hup)
theorem LB.next {pool : List Cell} {c x : Cell} {L : List Cell} {k : Nat} (g : LB pool c L k) (hx : L[k]? = some x) (h : ∀ y ∈ nb x, y ∈ pool → y ∈ L) : LB pool c L (k + 1) := by
  refine ⟨g.nd, g.st, g.inn, fun i y hi hy => ?_⟩
  by_cases e : i = k
  · subst e
    rw [hx] at hy
    cases hy
    exact h
  · exact g.cl i y (by omega) hy
theorem LB.done {pool : List Cell} {c : Cell} {L : List Cell} {k : Nat} (g : LB pool c L k) (h : L.length ≤ k) (z : Cell) : z ∈ L ↔ z ∈ pool ∧ Conn pool c z := by
  refine ⟨g.inn z, fun ⟨_, q⟩ => q.inside g.st fun x hx y hy hp => ?_⟩
  obtain ⟨i, hi, e⟩ := List.mem_iff_getElem.mp hx
  exact g.cl i x (by omega) (by rw [List.getElem?_eq_getElem hi, e]) y hy hp
theorem LB.len1 {pool : List Cell} {c y : Cell} {L : List Cell} {k : Nat} (g : LB pool c L k) (hp : y ∈ pool) (n : y ∉ L) : L.length < pool.length := by
  have : (L ++ [y]).length ≤ pool.length := List.Nodup.length_le_of_subset (by
    rw [List.nodup_append]
    exact ⟨g.nd, by simp, fun a ha b hb e => by simp at hb; subst hb; subst e; exact n ha⟩) fun z hz => by
      rcases List.mem_append.mp hz with h | h
      · exact (g.inn z h).1
      · simp at h; subst h; exact hp
  simp at this; omega
end Dk
-- text Base
set_option maxHeartbeats 1000000
namespace Dk
open PySem PySem.Spec PyProof.Rows L2
/-! ## what the top tells -/
def frees : List Str := ["isinstance", "int", "bool", "str", "tuple", "list", "dict", "len", "all", "sorted", "enumerate", "min", "set", "abs", "range", "zip"]
structure Tx (K : PySem.W.Frag) (mg : Str → Option Value) : Prop where
  fr : ∀ x ∈ frees, mg x = none
  letters : ∃ t, mg "LETTERS" = some (.str LET t)
  ml : ∃ t, mg "MOST_LETTERS" = some (.int 6 t)
  la : ∃ t, mg "LAST" = some (.int 11 t)
  ms : ∃ t, mg "MOST_SIZE" = some (.int 12 t)
  mp : ∃ t, mg "MOST_PARCELS" = some (.int 12 t)
/-- the def of the text at st bears the name x -/
def Df (K : PySem.W.Frag) (mg : Str → Option Value) (x : Str) (st : Stmt) : Prop :=
  ∃ f fd, FunD K x x (defArgs st) (defBody st) (defScope st) [] [] f fd ∧ mg x = some (.ref f)
/-- what a caller leans on -/
def Cal (P : Program) (w : World) (K : PySem.W.Frag) (mg : Str → Option Value) (base : Heap) (CX : CXT) (k : Nat) (x : Str) (ps : List Str) (sp : Sp) : Prop :=
  ∃ f fd, mg x = some (.ref f) ∧ PySem.W.keepIn K (.ref f) = true ∧ Binds K fd ps [] ∧ FnOk P w K mg base CX k f fd ps sp
section
variable {P : Program} {w : World} {K : PySem.W.Frag} {mg : Str → Option Value} {base : Heap}
theorem cal_of {CX : CXT} {x : Str} {st : Stmt} {N ps : List Str} {k : Nat} {sp : Sp} (D : Df K mg x st) (S : FnScope N ps (defScope st))
    (bn : ∀ (kV doc pm : Value) (an : Option Addr) (cdv ct : Value) (us : List Value), us.length = ps.length → bindArgs (PySem.W.fnOf x x (defArgs st) (defBody st) (defScope st) .none kV doc pm an cdv ct) ⟨us, []⟩ = pure (ps.zip us))
    (len : ∀ vs H Q E, sp vs H Q E → vs.length = ps.length)
    (body : ∀ (f : Addr) (cdv : Value) (A : Around) (outer : List Env) (s : Shared) (H : Hp) (vs : List V) (Q : VK) (E : XK), Room k (A.deeper (envOfC x (defScope st) s.heap.objs.size f cdv)) → sp vs H Q E →
      ∃ t, PSs (cxOf CX P w K mg base N x (defScope st) f cdv A outer s H E) (defBody st) t ∧ t { nx := fun _ H' => Q .non H', rt := Q } (start N vs) H) : Cal P w K mg base CX (k + 1) x ps sp := by
  obtain ⟨f, fd, F, m⟩ := D
  exact ⟨f, fd, m, F.kp, F.bindsN bn, F.ok S len fun cdv A outer s H vs Q E hr h => body f cdv A outer s H vs Q E hr h⟩
/-- a def that lets nothing out -/
theorem cal0 {x : Str} {st : Stmt} {N ps : List Str} {k : Nat} {sp : Sp} (D : Df K mg x st) (S : FnScope N ps (defScope st))
    (bn : ∀ (kV doc pm : Value) (an : Option Addr) (cdv ct : Value) (us : List Value), us.length = ps.length → bindArgs (PySem.W.fnOf x x (defArgs st) (defBody st) (defScope st) .none kV doc pm an cdv ct) ⟨us, []⟩ = pure (ps.zip us))
    (len : ∀ vs H Q E, sp vs H Q E → vs.length = ps.length)
    (body : ∀ (f : Addr) (cdv : Value) (A : Around) (outer : List Env) (s : Shared) (H : Hp) (vs : List V) (Q : VK) (E : XK), Room k (A.deeper (envOfC x (defScope st) s.heap.objs.size f cdv)) → sp vs H Q E →
      ∃ t, PSs (cxOf CX0 P w K mg base N x (defScope st) f cdv A outer s H E).nox (defBody st) t ∧ t { nx := fun _ H' => Q .non H', rt := Q } (start N vs) H) : Cal P w K mg base CX0 (k + 1) x ps sp :=
  cal_of D S bn len fun f cdv A outer s H vs Q E hr h => by
    obtain ⟨t, h1, h2⟩ := body f cdv A outer s H vs Q E hr h
    exact ⟨t, h1.nox, h2⟩
theorem Cal.mono {CX : CXT} {j k : Nat} {x : Str} {ps : List Str} {sp : Sp} (C : Cal P w K mg base CX j x ps sp) (h : j ≤ k) : Cal P w K mg base CX k x ps sp := by
  obtain ⟨f, fd, a, b, c, d⟩ := C
  exact ⟨f, fd, a, b, c, d.mono h⟩
theorem Cal.imp {CX : CXT} {k : Nat} {x : Str} {ps : List Str} {sp sp' : Sp} (C : Cal P w K mg base CX k x ps sp) (h : ∀ vs H Q E, sp' vs H Q E → sp vs H Q E) : Cal P w K mg base CX k x ps sp' := by
  obtain ⟨f, fd, a, b, c, d⟩ := C
  exact ⟨f, fd, a, b, c, d.imp h⟩
end
section
variable {X : Cx} {k j : Nat} {x : Str} {ps : List Str} {sp : Sp} {p pos : Pos} {e : Expr} {es : List Expr} {t : TA}
/-- x(e, ..), a def that lets nothing out -/
theorem pe_fn (C : Cal X.prog X.w X.K X.mg X.base CX0 j x ps sp) (hr : Room k X.A) (ha : PA X (e :: es) t) (hj : j ≤ k := by decide) (hg : Gl X x := by rfl) (hdb : (x == ("__debug__" : Str)) = false := by decide)
    (he : starEach (e :: es) X.env = (false, eval e X.env) :: starEach es X.env := by rfl) (hpl : (backTo pos (starEach es X.env)).any (·.1) = false := by rfl) : PE X (.Call (.Name x p) (e :: es) [] pos) (tCall sp [] E0 t) := by
  obtain ⟨f, fd, a, b, c, d⟩ := C
  exact pe_call d (hr.mono hj) hg a b c .nil pass0 ha hdb he hpl
theorem pe_fn0 (C : Cal X.prog X.w X.K X.mg X.base CX0 j x ps sp) (hr : Room k X.A) (hj : j ≤ k := by decide) (hg : Gl X x := by rfl) (hdb : (x == ("__debug__" : Str)) = false := by decide) : PE X (.Call (.Name x p) [] [] pos) (tCall sp [] E0 tNil) := by
  obtain ⟨f, fd, a, b, c, d⟩ := C
  exact pe_call0 d (hr.mono hj) hg a b c .nil pass0 hdb
end
/-! ## isinstance -/
/-- the class of a value -/
inductive VT (H : Hp) : V → String → Prop
  | non : VT H .non "NoneType"
  | bl (b : Bool) : VT H (.bl b) "bool"
  | int (i : Int) : VT H (.int i) "int"
  | str (z : Str) : VT H (.str z) "str"
  | lst {a : Addr} {xs : List V} (h : H a = some (.lst xs)) : VT H (.ref a) "list"
  | tup {a : Addr} {xs : List V} (h : H a = some (.tup xs)) : VT H (.ref a) "tuple"
  | dK {a : Addr} {kvs : List (Key × V)} (h : H a = some (.dK kvs)) : VT H (.ref a) "dict"
theorem VT.tyx {K : PySem.W.Frag} {H : Hp} {x : V} {T : String} (h : VT H x T) : TyX K H x (.type T) := by
  cases h with
  | non => exact .base .non
  | bl b => exact .base (.bl b)
  | int i => exact .base (.int i)
  | str z => exact .base (.str z)
  | lst h => exact .base (.lst h)
  | tup h => exact .base (.tup h)
  | dK h => exact .base (.dK h)
def isT (T c : String) : Bool := (kitB T c).getD false
def kits : List String := ["NoneType", "bool", "int", "str", "list", "tuple", "dict"]
theorem kits_ok : (kits.all fun a => kits.all fun b => (kitB a b).isSome) = true := by decide +kernel
theorem kit_some {T c : String} (h1 : T ∈ kits) (h2 : c ∈ kits) : kitB T c = some (isT T c) := by
  have h := List.all_eq_true.mp (List.all_eq_true.mp kits_ok T h1) c h2
  unfold isT
  obtain ⟨b, e⟩ := Option.isSome_iff_exists.mp h
  rw [e]; rfl
theorem VT.in {H : Hp} {x : V} {T : String} (h : VT H x T) : T ∈ kits := by cases h <;> decide
def rIs : List V → Hp → VK → Prop := fun xs H Q => ∃ x T c, xs = [x, .ty c] ∧ VT H x T ∧ c ∈ kits ∧ Q (.bl (isT T c)) H
theorem call_is {X : Cx} : CallR X (.builtin "isinstance") rIs := by
  intro pins s σ H xs us Q I r h
  obtain ⟨x, T, c, rfl, hT, hc, q⟩ := h
  exact call_isi pins s σ H _ us Q I r ⟨x, .ty c, .type T, .type c, isT T c, rfl, .ty c, hT.tyx, kit_ty (kit_some hT.in hc), q⟩
/-- isinstance(x, (c, d)) -/
def rIs2 : List V → Hp → VK → Prop := fun xs H Q => ∃ x T tp c d, xs = [x, .ref tp] ∧ H tp = some (.tup [.ty c, .ty d]) ∧ VT H x T ∧ c ∈ kits ∧ d ∈ kits ∧ Q (.bl (isT T c || isT T d)) H
theorem call_is2 {X : Cx} : CallR X (.builtin "isinstance") rIs2 := by
  intro pins s σ H xs us Q I r h
  obtain ⟨x, T, tp, c, d, rfl, hp, hT, hc, hd, q⟩ := h
  refine call_isiT pins s σ H _ us Q I r ⟨x, tp, [.ty c, .ty d], .type T, [.type c, .type d], isT T c || isT T d, rfl, hp, .cons (.ty c) (.cons (.ty d) .nil), hT.tyx, ?_, q⟩
  refine kitAny_cons (kit_ty (kit_some hT.in hc)) (fun e => ?_) (fun e => by rw [e]; rfl)
  rw [e]
  refine kitAny_cons (kit_ty (kit_some hT.in hd)) (fun e => ?_) (fun e => by rw [e]; rfl)
  rw [e]
  exact kitAny_nil
end Dk
-- text Base2
set_option maxHeartbeats 1000000
namespace Dk
open PySem PySem.Spec PyProof.Rows L2
/-! ## heaps -/
theorem same_new {H : Hp} {p : Addr} {o : HO} (h : H p = none) : Same H (upd H p o) := fun b u e => by rw [upd_ne (ne_of_none e h)]; exact e
theorem same_upd {H0 H : Hp} {l : Addr} {o : HO} (s : Same H0 H) (h : H0 l = none) : Same H0 (upd H l o) := fun b u e => by rw [upd_ne (ne_of_none e h)]; exact s b u e
theorem none_of {H H' : Hp} {p : Addr} (s : Same H H') (h : H' p = none) : H p = none := by
  cases e : H p with
  | none => rfl
  | some o => have := s _ _ e; rw [h] at this; cases this
/-- a new object o at p -/
structure New (H : Hp) (p : Addr) (o : HO) (H' : Hp) : Prop where
  fresh : H p = none
  same : Same H H'
  at_ : H' p = some o
  ne : ∀ b, b ≠ p → H' b = H b
theorem new_of {H : Hp} {p : Addr} {o : HO} (h : H p = none) : New H p o (upd H p o) := ⟨h, same_new h, upd_same, fun _ n => upd_ne n⟩
/-! ## rules whose new heaps are told -/
section
variable {X : Cx} {es : List Expr} {e : Expr} {t : TA} {te : TE} {pos : Pos}
theorem pa_mono {t' : TA} (ha : PA X es t) (h : ∀ σ H Q, t' σ H Q → ∃ R, t σ H R ∧ ∀ xs H1, R xs H1 → Q xs H1) : PA X es t' :=
  ⟨fun pos pins s σ H Q I q => by
    obtain ⟨R, r1, r2⟩ := h σ H Q q
    exact thn (ha.run pos pins s σ H R I r1) fun us s1 ⟨vs, H1, I1, rv, a⟩ => ⟨vs, H1, I1, rv, r2 _ _ a⟩⟩
theorem pe_mono {t t' : TE} (ha : PE X e t) (h : ∀ σ H Q, t' σ H Q → ∃ R, t σ H R ∧ ∀ v H1, R v H1 → Q v H1) : PE X e t' :=
  ⟨fun pins s σ H Q I q => by
    obtain ⟨R, r1, r2⟩ := h σ H Q q
    exact thn (ha.run pins s σ H R I r1) fun u s1 ⟨v, H1, I1, rv, a⟩ => ⟨v, H1, I1, rv, r2 _ _ a⟩⟩
def monoA (t : TA) : TA := fun σ H Q => ∃ R, t σ H R ∧ ∀ xs H1, R xs H1 → Q xs H1
theorem pa_monoA (ha : PA X es t) : PA X es (monoA t) := pa_mono ha fun _ _ _ q => q
def tTup_ (t : TA) : TE := fun σ H Q => t σ H fun xs H1 => xs.length ≤ sizeLine ∧ ∀ p H', New H1 p (.tup xs) H' → Q (.ref p) H'
theorem pe_tup_ {k} (ha : PA X es t) : PE X (.Tuple es k pos) (tTup_ t) :=
  pe_mono (pe_tup (pa_monoA ha)) fun σ H Q q => ⟨Q, ⟨_, q, fun xs H1 ⟨a, b⟩ => ⟨a, fun p hp => b p _ (new_of hp)⟩⟩, fun _ _ z => z⟩
def tLst_ (t : TA) : TE := fun σ H Q => t σ H fun xs H1 => xs.length ≤ sizeLine ∧ ∀ p H', New H1 p (.lst xs) H' → Q (.ref p) H'
theorem pe_lst_ (ha : PA X es t) : PE X (.List es pos) (tLst_ t) :=
  pe_mono (pe_lst (pa_monoA ha)) fun σ H Q q => ⟨Q, ⟨_, q, fun xs H1 ⟨a, b⟩ => ⟨a, fun p hp => b p _ (new_of hp)⟩⟩, fun _ _ z => z⟩
def tDNewK_ : TE := fun _ H Q => ∀ p H', New H p (.dK []) H' → Q (.ref p) H'
theorem pe_dnewK_ : PE X (.Dict [] [] pos) tDNewK_ := pe_mono pe_dnewK fun σ H Q q => ⟨Q, fun p hp => q p _ (new_of hp), fun _ _ z => z⟩
def tDNewT_ : TE := fun _ H Q => ∀ p H', New H p (.dT []) H' → Q (.ref p) H'
theorem pe_dnewT_ : PE X (.Dict [] [] pos) tDNewT_ := pe_mono pe_dnewT fun σ H Q q => ⟨Q, fun p hp => q p _ (new_of hp), fun _ _ z => z⟩
def rSlL_ (K : PySem.W.Frag) : V → Option Int → Option Int → Hp → VK → Prop := fun x lo hi H Q => ∃ a xs, x = .ref a ∧ SqL K H a xs ∧ ∀ p H', New H p (.lst (cutV xs lo hi)) H' → Q (.ref p) H'
theorem sl_list_ : SlR X (rSlL_ X.K) := by
  intro pins s σ H x v vl vu lo hi sl Q I rx hs pl pu h
  obtain ⟨a, xs, h1, h2, h3⟩ := h
  exact sl_list pins s σ H x v vl vu lo hi sl Q I rx hs pl pu ⟨a, xs, h1, h2, fun p hp => h3 p _ (new_of hp)⟩
def rListOf_ (K : PySem.W.Frag) : List V → Hp → VK → Prop := fun xs H Q => ∃ p ys, xs = [.ref p] ∧ (SqL K H p ys ∨ SqT K H p ys) ∧ ∀ l H', New H l (.lst ys) H' → Q (.ref l) H'
theorem call_listOf_ : CallR X (.type "list") (rListOf_ X.K) := by
  intro pins s σ H xs us Q I r h
  obtain ⟨p, ys, h1, h2, h3⟩ := h
  exact call_list_of pins s σ H xs us Q I r ⟨p, ys, h1, h2, fun l hl => h3 l _ (new_of hl)⟩
def rCat_ (K : PySem.W.Frag) : R2 := fun x y H Q => ∃ a b xs ys, x = .ref a ∧ y = .ref b ∧ SqL K H a xs ∧ SqL K H b ys ∧ xs.length + ys.length ≤ sizeLine ∧ ∀ p H', New H p (.lst (xs ++ ys)) H' → Q (.ref p) H'
def rRep_ (K : PySem.W.Frag) : R2 := fun x y H Q => ∃ a xs k, x = .ref a ∧ y = .int k ∧ SqL K H a xs ∧ (-(2 ^ 63) ≤ k ∧ k < 2 ^ 63) ∧ xs.length * k.toNat ≤ sizeLine ∧ ∀ p H', New H p (.lst (List.replicate k.toNat xs).flatten) H' → Q (.ref p) H'
theorem pe_conI {x : Str} {i : Int} (h : ∃ t, X.mg x = some (.int i t)) (hg : Gl X x := by rfl) (hd : (x == ("__debug__" : Str)) = false := by decide) : PE X (.Name x pos) (tC (.int i)) := by
  obtain ⟨t, h⟩ := h
  exact pe_glob hg h ⟨t, rfl⟩ hd
theorem pe_conS {x z : Str} (h : ∃ t, X.mg x = some (.str z t)) (hg : Gl X x := by rfl) (hd : (x == ("__debug__" : Str)) = false := by decide) : PE X (.Name x pos) (tC (.str z)) := by
  obtain ⟨t, h⟩ := h
  exact pe_glob hg h ⟨t, rfl⟩ hd
/-- an expression that is never asked -/
def tNo : TE := fun _ _ _ => False
theorem pe_no : PE X e tNo := ⟨fun _ _ _ _ _ _ h => h.elim⟩
end
theorem cxK {CX : CXT} {P : Program} {w : World} {K : PySem.W.Frag} {mg : Str → Option Value} {base : Heap} {N : List Str} {q : Str} {sc : Scope} {f : Addr} {cd : Value} {A : Around} {outer : List Env} {s : Shared} {H : Hp} {E : XK} : (cxOf CX P w K mg base N q sc f cd A outer s H E).K = K := rfl
theorem cxP {CX : CXT} {P : Program} {w : World} {K : PySem.W.Frag} {mg : Str → Option Value} {base : Heap} {N : List Str} {q : Str} {sc : Scope} {f : Addr} {cd : Value} {A : Around} {outer : List Env} {s : Shared} {H : Hp} {E : XK} : (cxOf CX P w K mg base N q sc f cd A outer s H E).prog = P := rfl
theorem cxW {CX : CXT} {P : Program} {w : World} {K : PySem.W.Frag} {mg : Str → Option Value} {base : Heap} {N : List Str} {q : Str} {sc : Scope} {f : Addr} {cd : Value} {A : Around} {outer : List Env} {s : Shared} {H : Hp} {E : XK} : (cxOf CX P w K mg base N q sc f cd A outer s H E).w = w := rfl
/-! ## the classes of written values -/
theorem isT_Non_boo : isT "NoneType" "bool" = false := by decide +kernel
theorem isT_Non_int : isT "NoneType" "int" = false := by decide +kernel
theorem isT_Non_str : isT "NoneType" "str" = false := by decide +kernel
theorem isT_Non_lis : isT "NoneType" "list" = false := by decide +kernel
theorem isT_Non_tup : isT "NoneType" "tuple" = false := by decide +kernel
theorem isT_Non_dic : isT "NoneType" "dict" = false := by decide +kernel
theorem isT_boo_boo : isT "bool" "bool" = true := by decide +kernel
theorem isT_boo_int : isT "bool" "int" = true := by decide +kernel
theorem isT_boo_str : isT "bool" "str" = false := by decide +kernel
theorem isT_boo_lis : isT "bool" "list" = false := by decide +kernel
theorem isT_boo_tup : isT "bool" "tuple" = false := by decide +kernel
theorem isT_boo_dic : isT "bool" "dict" = false := by decide +kernel
theorem isT_int_boo : isT "int" "bool" = false := by decide +kernel
theorem isT_int_int : isT "int" "int" = true := by decide +kernel
theorem isT_int_str : isT "int" "str" = false := by decide +kernel
theorem isT_int_lis : isT "int" "list" = false := by decide +kernel
theorem isT_int_tup : isT "int" "tuple" = false := by decide +kernel
theorem isT_int_dic : isT "int" "dict" = false := by decide +kernel
theorem isT_str_boo : isT "str" "bool" = false := by decide +kernel
theorem isT_str_int : isT "str" "int" = false := by decide +kernel
theorem isT_str_str : isT "str" "str" = true := by decide +kernel
theorem isT_str_lis : isT "str" "list" = false := by decide +kernel
theorem isT_str_tup : isT "str" "tuple" = false := by decide +kernel
theorem isT_str_dic : isT "str" "dict" = false := by decide +kernel
theorem isT_lis_boo : isT "list" "bool" = false := by decide +kernel
theorem isT_lis_int : isT "list" "int" = false := by decide +kernel
theorem isT_lis_str : isT "list" "str" = false := by decide +kernel
theorem isT_lis_lis : isT "list" "list" = true := by decide +kernel
theorem isT_lis_tup : isT "list" "tuple" = false := by decide +kernel
theorem isT_lis_dic : isT "list" "dict" = false := by decide +kernel
theorem isT_tup_boo : isT "tuple" "bool" = false := by decide +kernel
theorem isT_tup_int : isT "tuple" "int" = false := by decide +kernel
theorem isT_tup_str : isT "tuple" "str" = false := by decide +kernel
theorem isT_tup_lis : isT "tuple" "list" = false := by decide +kernel
theorem isT_tup_tup : isT "tuple" "tuple" = true := by decide +kernel
theorem isT_tup_dic : isT "tuple" "dict" = false := by decide +kernel
theorem isT_dic_boo : isT "dict" "bool" = false := by decide +kernel
theorem isT_dic_int : isT "dict" "int" = false := by decide +kernel
theorem isT_dic_str : isT "dict" "str" = false := by decide +kernel
theorem isT_dic_lis : isT "dict" "list" = false := by decide +kernel
theorem isT_dic_tup : isT "dict" "tuple" = false := by decide +kernel
theorem isT_dic_dic : isT "dict" "dict" = true := by decide +kernel
theorem kit_Non : ("NoneType" ∈ kits) = True := by simp [kits]
theorem kit_boo : ("bool" ∈ kits) = True := by simp [kits]
theorem kit_int : ("int" ∈ kits) = True := by simp [kits]
theorem kit_str : ("str" ∈ kits) = True := by simp [kits]
theorem kit_lis : ("list" ∈ kits) = True := by simp [kits]
theorem kit_tup : ("tuple" ∈ kits) = True := by simp [kits]
theorem kit_dic : ("dict" ∈ kits) = True := by simp [kits]
theorem vt_non {H : Hp} {p : String → Prop} : (∃ T, VT H .non T ∧ p T) = p "NoneType" := propext ⟨fun ⟨_, h, q⟩ => by cases h; exact q, fun q => ⟨_, .non, q⟩⟩
theorem vt_bl {H : Hp} {b : Bool} {p : String → Prop} : (∃ T, VT H (.bl b) T ∧ p T) = p "bool" := propext ⟨fun ⟨_, h, q⟩ => by cases h; exact q, fun q => ⟨_, .bl b, q⟩⟩
theorem vt_int {H : Hp} {b : Int} {p : String → Prop} : (∃ T, VT H (.int b) T ∧ p T) = p "int" := propext ⟨fun ⟨_, h, q⟩ => by cases h; exact q, fun q => ⟨_, .int b, q⟩⟩
theorem vt_str {H : Hp} {b : Str} {p : String → Prop} : (∃ T, VT H (.str b) T ∧ p T) = p "str" := propext ⟨fun ⟨_, h, q⟩ => by cases h; exact q, fun q => ⟨_, .str b, q⟩⟩
theorem len_str {K : PySem.W.Frag} {H : Hp} {z : Str} {p : Nat → Prop} : (∃ n, LenV K (.str z) H n ∧ p n) = (z.length ≤ 16777216 ∧ p z.length) := propext ⟨fun ⟨n, ⟨h1, h2⟩, q⟩ => by subst h2; exact ⟨by rwa [sizeLine_eq] at h1, q⟩, fun ⟨h, q⟩ => ⟨_, ⟨by rwa [sizeLine_eq], rfl⟩, q⟩⟩
/-- the length of a tracked list, tuple -/
theorem len_of {K : PySem.W.Frag} {H : Hp} {a : Addr} {xs : List V} {p : Nat → Prop} (h : H a = some (.lst xs)) (q : p xs.length) : ∃ n, LenV K (.ref a) H n ∧ p n := ⟨_, .inl ⟨xs, SqL.of h, rfl⟩, q⟩
theorem len_ofT {K : PySem.W.Frag} {H : Hp} {a : Addr} {xs : List V} {p : Nat → Prop} (h : H a = some (.tup xs)) (q : p xs.length) : ∃ n, LenV K (.ref a) H n ∧ p n := ⟨_, .inr ⟨xs, SqT.of h, rfl⟩, q⟩
theorem sg_inj {c d : Nat} : ((⟨#[c]⟩ : Str) = ⟨#[d]⟩) = (c = d) := propext ⟨fun h => by injection h with h; simpa using h, fun h => by rw [h]⟩
theorem ite_prop {c : Prop} [Decidable c] {A B : Prop} (h1 : c → A) (h2 : ¬ c → B) : if c then A else B := ite2 h1 h2
/-! ## comprehensions: the new list at D, what stood before stays -/
def LcInv (H1 : Hp) (D : Addr) (R : List V → Nat → Hp → Prop) (i : Nat) (H : Hp) : Prop := ∃ acc, H D = some (.lst acc) ∧ acc.length ≤ i ∧ Same H1 H ∧ R acc i H
theorem lc0 {H1 : Hp} {D : Addr} {R : List V → Nat → Hp → Prop} (hD : H1 D = none) (h : R [] 0 (upd H1 D (.lst []))) : LcInv H1 D R 0 (upd H1 D (.lst [])) := ⟨[], upd_same, Nat.le_refl _, same_new hD, h⟩
theorem lcKeep {H1 H4 : Hp} {D : Addr} {R : List V → Nat → Hp → Prop} {i n : Nat} {acc : List V} {y : V} (hD : H1 D = none) (ha : H4 D = some (.lst acc)) (hl : acc.length ≤ i) (hi : i < n) (hn : n ≤ 16777216) (s : Same H1 H4) (r : R (acc ++ [y]) (i + 1) (upd H4 D (.lst (acc ++ [y])))) :
    ∃ acc, H4 D = some (.lst acc) ∧ acc.length < 16777216 ∧ LcInv H1 D R (i + 1) (upd H4 D (.lst (acc ++ [y]))) :=
  ⟨acc, ha, by omega, acc ++ [y], upd_same, by simp; omega, same_upd s hD, r⟩
theorem lcSkip {H1 H4 : Hp} {D : Addr} {R : List V → Nat → Hp → Prop} {i : Nat} {acc : List V} (ha : H4 D = some (.lst acc)) (hl : acc.length ≤ i) (s : Same H1 H4) (r : R acc (i + 1) H4) : LcInv H1 D R (i + 1) H4 := ⟨acc, ha, by omega, s, r⟩
end Dk
-- text Rules
set_option maxHeartbeats 1000000
namespace Dk
open PySem PySem.Spec PyProof.Rows L2
/-- the cell c, as a tuple at t -/
def CellV (H : Hp) (t : Addr) (c : Cell) : Prop := H t = some (.tup [.int c.1, .int c.2])
abbrev kc (c : Cell) : List Key := [Sum.inl c.1, Sum.inl c.2]
def Cells (H : Hp) : List Addr → List Cell → Prop := Paired (CellV H)
theorem Cells.same {H H' : Hp} {ts : List Addr} {cs : List Cell} (s : Same H H') (h : Cells H ts cs) : Cells H' ts cs := Paired.mapP h fun _ _ z => s _ _ z
theorem Cells.len {H : Hp} {ts : List Addr} {cs : List Cell} (h : Cells H ts cs) : ts.length = cs.length := Paired.length h
theorem Cells.get {H : Hp} : ∀ {ts : List Addr} {cs : List Cell} {i : Nat} {t : Addr}, Cells H ts cs → ts[i]? = some t → ∃ c, cs[i]? = some c ∧ CellV H t c
  | _, _, i, t, .nil, h => by simp at h
  | _, _, 0, t, .cons r _, h => by simp at h; subst h; exact ⟨_, rfl, r⟩
  | _, _, i + 1, t, .cons _ q, h => by simpa using Cells.get q (by simpa using h)
theorem Cells.get2 {H : Hp} : ∀ {ts : List Addr} {cs : List Cell} {i : Nat} {c : Cell}, Cells H ts cs → cs[i]? = some c → ∃ t, ts[i]? = some t ∧ CellV H t c
  | _, _, i, t, .nil, h => by simp at h
  | _, _, 0, t, .cons r _, h => by simp at h; subst h; exact ⟨_, rfl, r⟩
  | _, _, i + 1, t, .cons _ q, h => by simpa using Cells.get2 q (by simpa using h)
theorem Cells.mem {H : Hp} {ts : List Addr} {cs : List Cell} {t : Addr} (h : Cells H ts cs) (ht : t ∈ ts) : ∃ c ∈ cs, CellV H t c := by
  obtain ⟨i, hi, e⟩ := List.mem_iff_getElem.mp ht
  obtain ⟨c, h1, h2⟩ := h.get (i := i) (t := t) (by rw [List.getElem?_eq_getElem hi, e])
  exact ⟨c, List.mem_of_getElem? h1, h2⟩
theorem Cells.app {H : Hp} : ∀ {ts us : List Addr} {cs ds : List Cell}, Cells H ts cs → Cells H us ds → Cells H (ts ++ us) (cs ++ ds)
  | _, _, _, _, .nil, h => h
  | _, _, _, _, .cons r t, h => .cons r (Cells.app t h)
theorem CellV.inj {H : Hp} {t : Addr} {c d : Cell} (h : CellV H t c) (k : CellV H t d) : c = d := by
  unfold CellV at h k
  rw [h] at k
  simp at k
  exact Prod.ext k.1 k.2
theorem CellV.ne {H : Hp} {t p : Addr} {c : Cell} {o : HO} (h : CellV H t c) (k : H p = some o) (n : ∀ xs, o ≠ .tup xs) : t ≠ p := ne_of h k fun e => n _ e.symm
theorem CellV.upd {H : Hp} {D t : Addr} {o u : HO} {c : Cell} (h : H D = some o) (r : CellV H t c) (n : ∀ xs, o ≠ .tup xs) : CellV (upd H D u) t c := by
  have := r.ne h n
  unfold CellV at r ⊢
  rw [upd_ne this]
  exact r
theorem Cells.upd {H : Hp} {D : Addr} {o u : HO} {ts : List Addr} {cs : List Cell} (h : H D = some o) (r : Cells H ts cs) (n : ∀ xs, o ≠ .tup xs) : Cells (upd H D u) ts cs := Paired.mapP r fun _ _ z => CellV.upd h z n
theorem CellV.updL {H : Hp} {D t : Addr} {xs ys : List V} {c : Cell} (h : H D = some (.lst xs)) (r : CellV H t c) : CellV (L2.upd H D (.lst ys)) t c := r.upd h (fun _ e => by cases e)
theorem Cells.updL {H : Hp} {D : Addr} {xs ys : List V} {ts : List Addr} {cs : List Cell} (h : H D = some (.lst xs)) (r : Cells H ts cs) : Cells (L2.upd H D (.lst ys)) ts cs := Cells.upd h r (fun _ e => by cases e)
/-- a list of cells at a -/
def CellL (H : Hp) (a : Addr) (cs : List Cell) : Prop := ∃ ts, H a = some (.lst (ts.map V.ref)) ∧ Cells H ts cs
theorem CellL.same {H H' : Hp} {a : Addr} {cs : List Cell} (s : Same H H') (h : CellL H a cs) : CellL H' a cs := by
  obtain ⟨ts, h1, h2⟩ := h
  exact ⟨ts, s _ _ h1, h2.same s⟩
def cellB (c : Cell) : Bool := (decide (0 ≤ c.1) && decide (c.1 ≤ 11)) && (decide (0 ≤ c.2) && decide (c.2 ≤ 11))
theorem map_ref_get {ts : List Addr} {i : Nat} {x : V} (h : (ts.map V.ref)[i]? = some x) : ∃ t, ts[i]? = some t ∧ x = .ref t := by
  rw [List.getElem?_map] at h
  cases e : ts[i]? with
  | none => rw [e] at h; cases h
  | some t => rw [e] at h; exact ⟨t, rfl, (Option.some.inj h).symm⟩
/-- all but the objects of l is as it was -/
def Keep (l : List Addr) (H H' : Hp) : Prop := ∀ b o, b ∉ l → H b = some o → H' b = some o
theorem Keep.refl (l : List Addr) (H : Hp) : Keep l H H := fun _ _ _ h => h
theorem Keep.same {l : List Addr} {H H' : Hp} (s : Same H H') : Keep l H H' := fun b o _ h => s b o h
theorem Keep.trans {l : List Addr} {H H1 H2 : Hp} (a : Keep l H H1) (b : Keep l H1 H2) : Keep l H H2 := fun c o n h => b c o n (a c o n h)
theorem Keep.upd {l : List Addr} {H H' : Hp} {a : Addr} {o : HO} (k : Keep l H H') (ha : a ∈ l) : Keep l H (L2.upd H' a o) := fun b u n h => by
  rw [upd_ne (show b ≠ a from fun e => n (by rw [e]; exact ha))]
  exact k b u n h
theorem Keep.toSame {l : List Addr} {H0 H H' : Hp} (k : Keep l H H') (s : Same H0 H) (n : ∀ a ∈ l, H0 a = none) : Same H0 H' := fun b o h => k b o (fun m => by rw [n b m] at h; cases h) (s b o h)
theorem Keep.at_ {l : List Addr} {H H' : Hp} (k : Keep l H H') {b : Addr} {o : HO} (h : H b = some o) (n : b ∉ l) : H' b = some o := k b o n h
theorem Cells.keep {l : List Addr} {H H' : Hp} {ts : List Addr} {cs : List Cell} (k : Keep l H H') (h : Cells H ts cs) (n : ∀ a ∈ l, ∀ xs, H a ≠ some (.tup xs)) : Cells H' ts cs := Paired.mapP h fun _ _ z => k _ _ (fun m => n _ m _ z) z
theorem tyV_lst {K : PySem.W.Frag} {H : Hp} {a : Addr} {xs : List V} (h : H a = some (.lst xs)) : tyV K "list" (.ref a) H := .inl ⟨rfl, _, SqL.of h⟩
theorem paired_dropLast {α β : Type} {F : α → β → Prop} : ∀ {l : List α} {m : List β}, Paired F l m → Paired F l.dropLast m.dropLast
  | _, _, .nil => .nil
  | _, _, .cons r .nil => .nil
  | _, _, .cons r (.cons r2 q) => .cons r (paired_dropLast (.cons r2 q))
theorem paired_take {α β : Type} {F : α → β → Prop} : ∀ {l : List α} {m : List β} (n : Nat), Paired F l m → Paired F (l.take n) (m.take n)
  | _, _, 0, h => by simp; exact .nil
  | _, _, n + 1, .nil => .nil
  | _, _, n + 1, .cons r q => .cons r (paired_take n q)
theorem paired_drop {α β : Type} {F : α → β → Prop} : ∀ {l : List α} {m : List β} (n : Nat), Paired F l m → Paired F (l.drop n) (m.drop n)
  | _, _, 0, h => h
  | _, _, n + 1, .nil => .nil
  | _, _, n + 1, .cons r q => paired_drop n q
theorem paired_app {α β : Type} {F : α → β → Prop} : ∀ {l l' : List α} {m m' : List β}, Paired F l m → Paired F l' m' → Paired F (l ++ l') (m ++ m')
  | _, _, _, _, .nil, h => h
  | _, _, _, _, .cons r t, h => .cons r (paired_app t h)
theorem paired_at {α β : Type} {F : α → β → Prop} : ∀ {l : List α} {m : List β} {i : Nat} {a : α}, Paired F l m → l[i]? = some a → ∃ b, m[i]? = some b ∧ F a b
  | _, _, i, _, .nil, h => by simp at h
  | _, _, 0, _, .cons r _, h => by simp at h; subst h; exact ⟨_, rfl, r⟩
  | _, _, i + 1, _, .cons _ q, h => by simpa using paired_at q (by simpa using h)
theorem paired_at2 {α β : Type} {F : α → β → Prop} : ∀ {l : List α} {m : List β} {i : Nat} {b : β}, Paired F l m → m[i]? = some b → ∃ a, l[i]? = some a ∧ F a b
  | _, _, i, _, .nil, h => by simp at h
  | _, _, 0, _, .cons r _, h => by simp at h; subst h; exact ⟨_, rfl, r⟩
  | _, _, i + 1, _, .cons _ q, h => by simpa using paired_at2 q (by simpa using h)
theorem paired_allIn {α β : Type} {F : α → β → Prop} {p : α → Prop} : ∀ {l : List α} {m : List β}, Paired F l m → (∀ x ∈ l, p x) → Paired (fun x y => F x y ∧ p x) l m
  | _, _, .nil, _ => .nil
  | _, _, .cons r q, h => .cons ⟨r, h _ List.mem_cons_self⟩ (paired_allIn q fun x hx => h x (List.mem_cons_of_mem _ hx))
theorem paired_of_get {α β : Type} {F : α → β → Prop} : ∀ {l : List α} {m : List β}, l.length = m.length → (∀ (i : Nat) a b, l[i]? = some a → m[i]? = some b → F a b) → Paired F l m
  | [], [], _, _ => .nil
  | a :: l, b :: m, h, k => .cons (k 0 a b rfl rfl) (paired_of_get (by simpa using h) fun i x y h1 h2 => k (i + 1) x y (by simpa using h1) (by simpa using h2))
theorem nodup_get {α : Type} : ∀ {l : List α} {i j : Nat} {a : α}, l.Nodup → l[i]? = some a → l[j]? = some a → i = j
  | [], i, j, a, _, h, _ => by simp at h
  | x :: l, 0, 0, a, _, _, _ => rfl
  | x :: l, 0, j + 1, a, nd, h, k => by
    simp at h
    subst h
    exact absurd (List.mem_of_getElem? (by simpa using k)) (List.nodup_cons.mp nd).1
  | x :: l, i + 1, 0, a, nd, h, k => by
    simp at k
    subst k
    exact absurd (List.mem_of_getElem? (by simpa using h)) (List.nodup_cons.mp nd).1
  | x :: l, i + 1, j + 1, a, nd, h, k => by
    have := nodup_get (List.nodup_cons.mp nd).2 (by simpa using h) (by simpa using k)
    omega
def rLen (K : PySem.W.Frag) : List V → Hp → VK → Prop := fun xs H Q => ∃ x n, xs = [x] ∧ LenV K x H n ∧ Q (.int n) H
theorem call_len_ {X : Cx} {K : PySem.W.Frag} (h : X.K = K) : CallR X (.builtin "len") (rLen K) := by
  subst h
  exact call_len
/-- a for at its iterator -/
def ForB (J : It) (g : TG) (tb : TS) (D : Ends) (σ : L2.St) (H : Hp) : Prop := ∃ W : Nat → Nat → L2.St → Hp → Prop, (∃ m, W 0 m σ H) ∧ ∀ i m σ H, W i m σ H →
  (J.stop i H ∧ D.nx σ H) ∨ (J.go i H ∧ ∃ N : L2.St → Hp → Prop, (∀ σ' H', N σ' H' → ∃ m', m' < m ∧ W (i + 1) m' σ' H') ∧ ∀ x H', J.yld i H x H' → g x σ H' fun σ2 H2 => tb { D with nx := N, ct := N, bk := D.nx } σ2 H2)
theorem tFor_eq (wi : TI) (g : TG) (tb : TS) (D : Ends) (σ : L2.St) (H : Hp) : tFor wi g tb D σ H = wi σ H fun J H1 => ForB J g tb D σ H1 := rfl
theorem for_B {J : It} {n : Nat} {G : Hp → Prop} {Y : Nat → Hp → V → Hp → Prop} (w : Walk J n G Y) {g : TG} {tb : TS} {D : Ends} {σ : L2.St} {H : Hp} (Pv : Nat → L2.St → Hp → Prop) (h0 : Pv 0 σ H) (hG : ∀ i σ H, i ≤ n → Pv i σ H → G H)
    (hs : ∀ i x σ H H', i < n → Pv i σ H → Y i H x H' → g x σ H' fun σ2 H2 => tb { D with nx := Pv (i + 1), ct := Pv (i + 1), bk := D.nx } σ2 H2) (hd : ∀ σ H, Pv n σ H → D.nx σ H) : ForB J g tb D σ H := for_it w Pv h0 hG hs hd
def Hide (p : Prop) : Prop := p
/-! ## dicts of cells -/
def trueD (S : List Cell) : List (List Key × V) := S.map fun c => (kc c, V.bl true)
theorem kc_inj {c d : Cell} (h : kc c = kc d) : c = d := by
  simp only [List.cons.injEq, Sum.inl.injEq, and_true] at h
  exact Prod.ext h.1 h.2
theorem valV_trueD (c : Cell) : ∀ S : List Cell, valV (trueD S) (kc c) = if c ∈ S then some (.bl true) else none
  | [] => by simp [trueD, valV]
  | d :: S => by
    have ih := valV_trueD c S
    show valV ((kc d, V.bl true) :: trueD S) (kc c) = _
    by_cases e : d = c
    · subst e
      rw [valV_pos rfl]; simp
    · rw [valV_neg (fun h => e (kc_inj h)), ih]
      simp [Ne.symm e]
theorem some_trueD (c : Cell) (S : List Cell) : (valV (trueD S) (kc c)).isSome = decide (c ∈ S) := by
  rw [valV_trueD]
  by_cases h : c ∈ S <;> simp [h]
def insC (S : List Cell) (c : Cell) : List Cell := if c ∈ S then S else S ++ [c]
theorem mem_insC {S : List Cell} {c x : Cell} : x ∈ insC S c ↔ x ∈ S ∨ x = c := by
  unfold insC
  split
  · constructor
    · exact .inl
    · rintro (h | rfl)
      · exact h
      · assumption
  · simp
theorem insC_nodup {S : List Cell} {c : Cell} (h : S.Nodup) : (insC S c).Nodup := by
  unfold insC
  split
  · exact h
  · rename_i n
    rw [List.nodup_append]
    exact ⟨h, by simp, fun a ha b hb e => by simp at hb; subst hb; subst e; exact n ha⟩
theorem putK_trueD (c : Cell) (S : List Cell) : putK (trueD S) (kc c) (.bl true) = trueD (insC S c) := by
  unfold insC
  by_cases h : c ∈ S
  · rw [if_pos h]
    unfold putK
    rw [valV_any, some_trueD, decide_eq_true h, if_pos rfl]
    unfold trueD
    rw [List.map_map]
    refine List.map_congr_left fun d _ => ?_
    show (if kc d = kc c then (kc d, V.bl true) else (kc d, V.bl true)) = (kc d, V.bl true)
    split <;> rfl
  · rw [if_neg h, putK_new _ (by rw [valV_trueD, if_neg h])]
    simp [trueD]
theorem trueD_len (S : List Cell) : (trueD S).length = S.length := by simp [trueD]
/-- what the dict of cells at d says of the cell at b -/
theorem DGet.cell {H : Hp} {d b : Addr} {S : List Cell} {c : Cell} (h : H d = some (.dT (trueD S))) (hb : CellV H b c) : DGet H d (.ref b) (if c ∈ S then some (.bl true) else none) := by
  rw [← valV_trueD]
  exact DGet.t h hb
theorem DPut.cell {H : Hp} {d b : Addr} {S : List Cell} {c : Cell} (h : H d = some (.dT (trueD S))) (hb : CellV H b c) (hl : S.length < 16777216) : DPut H d (.ref b) (.bl true) (upd H d (.dT (trueD (insC S c)))) := by
  rw [← putK_trueD]
  exact DPut.t h hb (by rw [trueD_len, sizeLine_eq]; exact hl)
section
variable {X : Cx} {es : List Expr} {e : Expr} {t : TA} {te : TE} {pos : Pos}
/-- list(d), d a dict of cells -/
def rListC : List V → Hp → VK → Prop := fun xs H Q => ∃ d S, xs = [.ref d] ∧ H d = some (.dT (trueD S)) ∧ ∀ p ts H', New H p (.lst (ts.map V.ref)) H' → Cells H ts S → Q (.ref p) H'
theorem isKeys_cells {H : Hp} : ∀ {S : List Cell} {bs : List Addr}, IsKeys H (trueD S) bs → Cells H bs S
  | [], _, h => by cases h; exact .nil
  | c :: S, _, h => by
    cases h with
    | cons r t => exact .cons r (isKeys_cells t)
theorem call_listC (hc : X.calm = true := by rfl) : CallR X (.type "list") rListC := by
  intro pins s σ H xs us Q I r h
  obtain ⟨d, S, rfl, hd, q⟩ := h
  exact call_list_dT hc pins s σ H _ us Q I r ⟨d, trueD S, rfl, .inl hd, fun p bs hp hk => q p bs _ (new_of hp) (isKeys_cells hk)⟩
/-! ## sorted, of cells -/
def keyAt (H : Hp) : V → Int × Int
  | .ref t => match H t with
    | some (.tup [.int i, .int j]) => (i, j)
    | _ => (0, 0)
  | _ => (0, 0)
theorem keyAt_of {H : Hp} {t : Addr} {c : Cell} (h : CellV H t c) : keyAt H (.ref t) = c := by
  unfold CellV at h
  simp only [keyAt, h]
def rSortC (K : PySem.W.Frag) : List V → Hp → VK → Prop := fun vs H Q => ∃ a ts cs, vs = [.ref a] ∧ SqL K H a (ts.map V.ref) ∧ Cells H ts cs ∧
  ∀ p us ds H', New H p (.lst (us.map V.ref)) H' → Cells H us ds → ds.Perm cs → (cs.Nodup → ds.Pairwise ltC) → Q (.ref p) H'
theorem cr_sortC : CallR X (.builtin "sorted") (rSortC X.K) := by
  intro pins s σ H vs us Q I r h
  obtain ⟨a, ts, cs, rfl, hs, hc, q⟩ := h
  have key : ∀ x ∈ ts.map V.ref, ∃ t, x = V.ref t ∧ ∃ c, CellV H t c := fun x hx => by
    obtain ⟨t, ht, rfl⟩ := List.mem_map.mp hx
    obtain ⟨c, _, h2⟩ := hc.mem ht
    exact ⟨t, rfl, c, h2⟩
  refine cr_sortedPO pins s σ H _ us Q I r ⟨a, ts.map V.ref, keyAt H, rfl, hs, fun x hx => ?_, fun ys p so st hp => ?_⟩
  · obtain ⟨t, rfl, c, h2⟩ := key x hx
    exact ⟨t, rfl, by rw [keyAt_of h2]; exact h2⟩
  · have hy : ∀ y ∈ ys, ∃ t, y = V.ref t ∧ ∃ c, CellV H t c := fun y h => key y (st.perm.mem_iff.mp h)
    have ex : ∀ l : List V, (∀ y ∈ l, ∃ t, y = V.ref t ∧ ∃ c, CellV H t c) → ∃ us : List Addr, l = us.map V.ref ∧ Cells H us (l.map (keyAt H)) := by
      intro l
      induction l with
      | nil => intro _; exact ⟨[], rfl, .nil⟩
      | cons y l ih =>
        intro h
        obtain ⟨t, e, c, hc⟩ := h y List.mem_cons_self
        obtain ⟨us, e1, e2⟩ := ih fun z hz => h z (List.mem_cons_of_mem _ hz)
        subst e
        refine ⟨t :: us, by rw [e1]; rfl, ?_⟩
        rw [List.map_cons, keyAt_of hc]
        exact .cons hc e2
    obtain ⟨us, e1, e2⟩ := ex ys hy
    have mk : ∀ (us : List Addr) (ds : List Cell), Cells H us ds → (us.map V.ref).map (keyAt H) = ds := by
      intro us ds h
      induction h with
      | nil => rfl
      | cons r _ ih => rw [List.map_cons, List.map_cons, keyAt_of r, ih]
    have pm : (ys.map (keyAt H)).Perm cs := by
      have := st.perm.map (keyAt H)
      rwa [mk ts cs hc] at this
    have := q p us (ys.map (keyAt H)) (upd H p (.lst ys)) (by rw [e1]; exact new_of hp) e2 pm (fun nd => ?_)
    · exact this
    · have nd' : (ys.map (keyAt H)).Nodup := pm.nodup_iff.mpr nd
      have so2 : (ys.map (keyAt H)).Pairwise fun x y => SrtO.lexB y x = false := List.pairwise_map.mpr so
      have := List.Pairwise.and so2 nd'
      refine this.imp fun {x y} h => ?_
      have h1 := SrtO.lexB_no.mp h.1
      have h2 := h.2
      unfold ltC
      obtain ⟨x1, x2⟩ := x
      obtain ⟨y1, y2⟩ := y
      simp only [ne_eq, Prod.mk.injEq, not_and] at h1 h2 ⊢
      omega
/-! ## == [] -/
def rEmp (K : PySem.W.Frag) (f : Bool → Bool) : R2 := fun x y H Q => ∃ a b xs, x = .ref a ∧ y = .ref b ∧ SqL K H a xs ∧ SqL K H b [] ∧ Q (.bl (f xs.isEmpty)) H
theorem op_eqE {k : Nat} (hr : Room k X.A) : OpR X (compareOp .Eq) (rEmp X.K fun b => b) := by
  intro pins s σ H x y v u Q I rx ry h
  obtain ⟨a, b, xs, rfl, rfl, h1, h2, q⟩ := h
  cases rx
  cases ry
  obtain ⟨its, rv, p1, _⟩ := I.list h1
  obtain ⟨its2, rv2, p2, _⟩ := I.list h2
  cases rv2
  cases rv with
  | nil => exact SeqAt.eq_listAt (e := fun _ => true) p1.isList p2.isList rfl hr.units0 (fun j h1 _ => absurd h1 (by simp)) ⟨.bl _, H, I, rfl, q⟩
  | cons r t => exact SeqAt.eq_list_lengthsAt p1.isList p2.isList (by simp) hr.units0 ⟨.bl _, H, I, rfl, q⟩
theorem op_neE {k : Nat} (hr : Room k X.A) : OpR X (compareOp .NotEq) (rEmp X.K fun b => !b) := by
  intro pins s σ H x y v u Q I rx ry h
  obtain ⟨a, b, xs, rfl, rfl, h1, h2, q⟩ := h
  cases rx
  cases ry
  obtain ⟨its, rv, p1, _⟩ := I.list h1
  obtain ⟨its2, rv2, p2, _⟩ := I.list h2
  cases rv2
  cases rv with
  | nil => exact SeqAt.RcNeAt.lists (e := fun _ => true) p1.isList p2.isList rfl hr.units0 (fun j h1 _ => absurd h1 (by simp)) _ _ _ _ ⟨.bl _, H, I, rfl, q⟩
  | cons r t => exact SeqAt.RcNeAt.lists_lengths p1.isList p2.isList (by simp) hr.units0 _ _ _ _ ⟨.bl _, H, I, rfl, q⟩
/-! ## {c: True} -/
def tD1 (i : Nat) : TE := fun σ H Q => ∃ b c, σ[i]? = some (some (.ref b)) ∧ CellV H b c ∧ ∀ p H', New H p (.dT (trueD [c])) H' → Q (.ref p) H'
theorem dt_obj {P : Program} {w : World} {H : Hp} {h : Heap} {a : Addr} {kvs : List (List Key × V)} {xs : List (List Key × Addr × Value)} (hl : kvs.length ≤ sizeLine) (hd : (a == sysModules) = false) (r : KT H kvs xs) (d : h.DictOfH (tupleKind (mixKind P w)) a xs) : ObjOk P w H h a (.dT kvs) := by
  obtain ⟨o, es, ep, h1, h2, h3, h4, _, h6⟩ := d
  exact ⟨hl, hd, xs, r, o, es, ep, h1, h2, h3, h4, h6⟩
theorem pe_dT1 {i k : Nat} {j : Nat} {x : Str} {p1 p2 : Pos} (hr : Room k X.A) (hx : PE X (.Name x p1) (tVar i)) : PE X (.Dict [some (.Name x p1)] [.Constant (.bool true) j p2] pos) (tD1 i) := by
  refine ⟨fun pins s σ H Q I h => ?_⟩
  obtain ⟨b, c, hσ, hc, q⟩ := h
  have hn := I.hok.fresh (Nat.le_refl s.heap.objs.size)
  have I1 := I.laid (a := s.heap.objs.size) (o := .dT []) (h' := s.heap.push { cls := .type "dict", data := .dict #[] }) (t' := s.toks) (fun _ _ q => Heap.get?_push_of_some _ q) (Nat.le_refl _) (dt_empty s.heap I.big)
  rw [arm_eval_Dict, zip_pairTrees [some (.Name x p1)] [.Constant (.bool true) j p2] X.env pos rfl rfl, dictDisplay_pairs _ (by simp [pairTrees]) (by simp [pairTrees])]
  refine wpAny_bind (wpAny_standAt (wpAny_bind (wpAny_subDictH (knd := tupleKind (mixKind X.prog X.w)) hr.units0 (by simp [pairTrees]) ?_)))
  refine thn ((pps_cons hx pe_bl pps_nil).run pins _ σ _ (fun ps H2 => ps = [(.ref b, .bl true)] ∧ H2 = upd H s.heap.objs.size (.dT [])) I1 ⟨.ref b, hσ, rfl, rfl⟩) fun ws s2 ⟨ps, H2, I2, rel, e1, e2⟩ => ?_
  subst e1 e2
  cases rel with
  | @cons pa pb pas pbs ha ht =>
    cases ht
    obtain ⟨w1, w3⟩ := pb
    obtain ⟨a1, a2⟩ := ha
    cases (show w1 = Value.ref b from a1)
    cases (show w3 = Value.bool true from a2)
    have hc2 : CellV (upd H s.heap.objs.size (.dT [])) b c := same_new hn _ _ hc
    obtain ⟨z, hd, xs0, r0, dd⟩ := dt_of I2.hok upd_same
    cases r0
    refine ⟨[(kc c, b, .bool true)], ⟨rfl, rfl, key_of I2.hok hc2, trivial⟩, dd, fun h' tk dd' hs => wpAny_pure ?_⟩
    have J : Inv X pins σ (upd (upd H s.heap.objs.size (.dT [])) s.heap.objs.size (.dT (trueD [c]))) { s2 with heap := h', toks := tk } := by
      have he : ∃ q, h'.get? s.heap.objs.size = some q := let ⟨q, _, _, hq, _⟩ := dd'; ⟨q, hq⟩
      have kt : KT (upd (upd H s.heap.objs.size (.dT [])) s.heap.objs.size (.dT (trueD [c]))) (trueD [c]) [(kc c, b, Value.bool true)] :=
        .cons ⟨rfl, CellV.upd upd_same hc2 (fun _ e => by cases e), (rfl : Value.bool true = Value.bool true)⟩ .nil
      exact d_write I2 (by rw [upd_same]; exact True.intro) hs he (dt_obj (by simp [trueD, sizeLine_eq]) hd kt dd')
    rw [upd_upd] at J
    exact ⟨.ref s.heap.objs.size, _, J, rfl, q _ _ (new_of hn)⟩
end
end Dk
-- text Rules2
set_option maxHeartbeats 1000000
namespace Dk
open PySem PySem.Spec PyProof.Rows L2
def monoE (t : TE) : TE := fun σ H Q => ∃ R, t σ H R ∧ ∀ v H1, R v H1 → Q v H1
theorem pe_monoE {X : Cx} {e : Expr} {t : TE} (h : PE X e t) : PE X e (monoE t) := pe_mono h fun _ _ _ q => q
section
variable {X : Cx} {pins : List (Addr × Obj)} {σ : L2.St} {H : Hp} {s : Shared} {Q : VK}
/-- what a comprehension's loop finds: the new container (o0) at D in H1, the iterator it in its turn 0, the block's context Y -/
structure BlkAt (X : Cx) (σ : L2.St) (tg : Expr) (own : List (Str × Nat)) (o0 : HO) (J : It) (H1 : Hp) (D it : Addr) (fp : List Addr) (tn : Nat → Heap → Prop) (Y : Cx) (s4 : Shared) (Back : L2.St → Hp → Shared → Prop) : Prop where
  new : H1 D = none
  turn : Turn X.prog X.w X.K tg J fp it tn
  prog : Y.prog = X.prog
  wd : Y.w = X.w
  fr : Y.K = X.K
  inv : Inv Y [] (wipe σ (own.map (·.2))) (upd H1 D o0) s4
  beg : tn 0 s4.heap
  off : ∀ b ∈ fp, upd H1 D o0 b = none
  stat : ∀ {σ' : L2.St} {H' : Hp} {s' : Shared}, Inv Y [] σ' H' s' → (∀ b ∈ fp, H' b = none) → ∀ b ∈ fp, FpOk Y [] H' b
  back : ∀ {σ' : L2.St} {H' : Hp} {s' : Shared}, Inv Y [] σ' H' s' → Back σ' H' s'
/-- a comprehension as a value: all but its loop -/
theorem blk_core {ex tg iter : Expr} {ifs : List Expr} {gs : List Comprehension} {scope : Scope} {own : List (Str × Nat)} {pos' : Pos} {wi : TI} {newC : Sem Value} {ob0 : Obj} {o0 : Addr → HO} {R : It → Hp → Prop}
    (hcl : clausesOf ex = ⟨tg, iter, ifs, 0⟩ :: gs) (hc : X.calm = true) (hN : X.N.Nodup) (hi : PI X tg iter wi) (ok : BlkOk X.N X.env.scope scope own) (hs : ∀ x, foldedSetIterable iter X.env x = pure x)
    (hnew : ∀ (s : Shared) (Q : Value → Shared → Prop), Q (.ref s.heap.objs.size) { s with heap := s.heap.push ob0 } → wpAny (model X.prog X.w) X.A newC Q X.xe s)
    (hfz : ob0.isFreed = false)
    (hob : ∀ {pins : List (Addr × Obj)} {σ : L2.St} {H : Hp} {s : Shared}, Inv X pins σ H s → ObjOk X.prog X.w (upd H s.heap.objs.size (o0 s.heap.objs.size)) (s.heap.push ob0) s.heap.objs.size (o0 s.heap.objs.size))
    (I : Inv X pins σ H s) (h : wi σ H R)
    (loop : ∀ (J : It) (H1 : Hp) (D it : Addr) (fp : List Addr) (tn : Nat → Heap → Prop) (s3 s4 : Shared) (ce : Env) (Rq : Result → Shared → Prop), R J H1 → (∀ b o, H1 b = some o → b ≠ D) →
      BlkAt X σ tg own (o0 D) J H1 D it fp tn (X.blk s3 (upd H1 D (o0 D)) scope ce fp) s4 (fun _ H' s' => Q (.ref D) H' → Rq (.ok .next) s') →
      ce = compEnvC scope (cellsFrom (s3.heap.objs.size + 1) scope.names (cloFrom X.env.cells scope.names [])) s3.heap.objs.size X.env →
      codeAny (model X.prog X.w) X.A (.compStart ex 0 (.ref it) (.ref D) ce) Rq s4) :
    wpAny (model X.prog X.w) X.A (comprehension ex scope X.env pos' newC false (eval iter X.env) none) (EP X pins σ Q) X.xe s := by
  have hfree : ∀ y ∈ scope.names, y.2 = .free → ∃ c, X.env.cells.lookup y.1 = some c := fun y hy e => (ok.free y hy e).elim (fun k => I.ok.has _ (.inl k)) fun k => I.ok.has _ (.inr k)
  refine wpAny_comprehension_free (use := none) hcl hs (closure_ok hfree) ok.kind (fun y hy e => by rw [ok.uniq y hy, e])
    (thn (hi.run pins s σ H R I h) fun xv s1 hx => thn hx fun itv s2 ⟨it, fp, tn, J, H1, e, I1, T, st, fo, r⟩ => ?_)
  subst e
  refine hnew s2 _ (newEnv_comp ?_)
  have nD : H1 s2.heap.objs.size = none := I1.hok.fresh (Nat.le_refl _)
  have I2 : Inv X pins σ (upd H1 s2.heap.objs.size (o0 s2.heap.objs.size)) { s2 with heap := s2.heap.push ob0, toks := s2.toks } := I1.laid (fun b o e => Heap.get?_push_of_some _ e) (Nat.le_refl _) (hob I1)
  have low : ∀ b ∈ fp, b < s2.heap.objs.size := fun b hb => by
    obtain ⟨o, e, _⟩ := T.obj _ _ st b hb
    exact Heap.lt_size e
  have fo2 : ∀ b ∈ fp, FpOk X pins (upd H1 s2.heap.objs.size (o0 s2.heap.objs.size)) b ∧ b < (s2.heap.push ob0).objs.size := fun b hb =>
    ⟨⟨by rw [upd_ne (Nat.ne_of_lt (low b hb))]; exact (fo b hb).1, (fo b hb).2⟩, by rw [Heap.size_push]; exact Nat.lt_succ_of_lt (low b hb)⟩
  have I3 := block_start I2 ok hN fo2
  have st2 : tn 0 (s2.heap.push ob0) := T.keep _ _ _ st fun b _ o e => Heap.get?_push_of_some _ e
  have st3 : tn 0 (pushCells ((s2.heap.push ob0).push { cls := .type "dict", data := .dict #[] }) scope.names) := T.keep _ _ _ st2 fun b _ o e => pushCells_keeps _ _ _ _ (Heap.get?_push_of_some _ e)
  refine loop J H1 s2.heap.objs.size it fp tn { s2 with heap := s2.heap.push ob0, toks := s2.toks } _ _ _ r (fun b o e => ne_of_none e nD) ⟨nD, T, rfl, rfl, rfl, I3, st3, fun b hb => (fo2 b hb).1.1, fun {σ' H' s'} I' hn b hb => ?_, fun {σ' H' s'} I' q => ?_⟩ rfl
  · exact ⟨hn b hb, (I'.ok.exf b hb).1, I'.ok.exfs b hb, .inl hb, fun x c e => (I'.ok.exf b hb).2 x c e, fun p hp => absurd (show p ∈ ([] : List (Addr × Obj)) ++ [] from hp) (by simp)⟩
  · have I4 : Inv X pins σ H' s' := I2.call' (ch := fp) I'.os I'.base I'.hok I'.bare fun b hb => ⟨(fo2 b hb).1.2.2.2.1, (fo2 b hb).1.2.1, (fo2 b hb).1.2.2.2.2.1, (fo2 b hb).1.2.2.2.2.2⟩
    have nC : H' (s2.heap.push ob0).objs.size = none := I'.free
    obtain ⟨m, hn, _⟩ := I'.loc
    obtain ⟨f0, f1, f2, f3, f4, f5⟩ := I2.fpOk (Nat.le_refl _) nC
    exact ⟨m, hn, fun h' sb => ⟨.ref s2.heap.objs.size, H', I4.turned (t' := s'.toks) (fun b o hb e => (sb.2 b hb).trans e) f0 f1 f3 f4 f5, rfl, q⟩⟩
end
/-! ## {c: True for c in cells} -/
def tDcC (K : PySem.W.Frag) (te : TE) : TE := fun σ H Q => te σ H fun x H1 => ∃ a ts cs, x = .ref a ∧ SqL K H1 a (ts.map V.ref) ∧ Cells H1 ts cs ∧ cs.length < 16777216 ∧ ∀ D H', New H1 D (.dT (trueD (cs.foldl insC []))) H' → Q (.ref D) H'
theorem foldl_insC_len : ∀ (l S : List Cell), (l.foldl insC S).length ≤ S.length + l.length
  | [], S => by simp
  | c :: l, S => by
    have h := foldl_insC_len l (insC S c)
    have : (insC S c).length ≤ S.length + 1 := by unfold insC; split <;> simp
    rw [List.foldl_cons, List.length_cons]; omega
theorem foldl_insC_take {l : List Cell} {i : Nat} {c : Cell} (h : l[i]? = some c) : (l.take (i + 1)).foldl insC [] = insC ((l.take i).foldl insC []) c := by
  rw [take_get h, List.foldl_append]; rfl
theorem foldl_insC_app : ∀ (l S : List Cell), (S ++ l).Nodup → l.foldl insC S = S ++ l
  | [], S, _ => by simp
  | c :: l, S, h => by
    have : c ∉ S := fun m => by
      rw [List.nodup_append] at h
      exact h.2.2 c m c (by simp) rfl
    rw [List.foldl_cons, insC, if_neg this, foldl_insC_app l (S ++ [c]) (by simpa using h)]
    simp
theorem foldl_insC_nodup {l : List Cell} (h : l.Nodup) : l.foldl insC [] = l := foldl_insC_app l [] (by simpa using h)
/-- d[k] = True in a comprehension -/
theorem d_setC {X : Cx} {pins : List (Addr × Obj)} {σ : L2.St} {H : Hp} {s : Shared} {E : Value → Shared → Prop} {D b : Addr} {S : List Cell} {c : Cell} {k : Nat} {Q : Unit → Shared → Prop} (hr : Room k X.A) (I : Inv X pins σ H s) (hD : H D = some (.dT (trueD S))) (hz : S.length < 16777216)
    (hb : CellV H b c) (h : ∀ s', Inv X pins σ (upd H D (.dT (trueD (insC S c)))) s' → Q () s') : wpAny (model X.prog X.w) X.A (dictSet D (.ref b) (.bool true)) Q E s := by
  obtain ⟨z, hd, xs, rel, dd⟩ := dt_of I.hok hD
  have hxs : xs.length ≤ sizeLine := by rw [← Paired.length rel]; exact z
  refine wpAny_dictSet_heap (knd := tupleKind (mixKind X.prog X.w)) (k := kc c) (hsz := hxs) hr.units0 (key_of I.hok hb) dd fun h' dd' hs => h _ ?_
  have he : ∃ q, h'.get? D = some q := let ⟨q, _, _, hq, _⟩ := dd'; ⟨q, hq⟩
  have kt := (rel.put (kc c) (b := b) (y := .bl true) (u := .bool true) hb rfl)
  rw [putK_trueD] at kt
  have l2 : (trueD (insC S c)).length ≤ sizeLine := by
    rw [trueD_len, sizeLine_eq]
    unfold insC
    split
    · omega
    · simp; omega
  refine d_write I (by rw [hD]; exact True.intro) hs he (dt_obj l2 hd (kt.keeps fun q ys e => ?_) dd')
  rw [upd_ne (ne_of e hD (by intro e; cases e))]
  exact e
section
variable {X : Cx}
theorem pe_dcC {x : Str} {iter : Expr} {p1 p2 p3 pos : Pos} {j i k : Nat} {scope : Scope} {own : List (Str × Nat)} {te : TE} (hr : Room k X.A) (hc : X.calm = true) (hN : X.N.Nodup) (hit : PE X iter te) (ok : BlkOk X.N X.env.scope scope own)
    (hg : ∀ (s : Shared) (H : Hp) (C : Addr) (cl : List (Str × Addr)) (fp : List Addr), PG (X.blk s H scope (compEnvC scope cl C X.env) fp) (.Name x p2) (gName i))
    (hv : ∀ (s : Shared) (H : Hp) (C : Addr) (cl : List (Str × Addr)) (fp : List Addr), PE (X.blk s H scope (compEnvC scope cl C X.env) fp) (.Name x p1) (tVar i)) (hi : i < X.N.length) (hio : i ∈ own.map (·.2)) (hs : ∀ x, foldedSetIterable iter X.env x = pure x := by intro _; rfl) :
    PE X (.DictComp (.Name x p1) (.Constant (.bool true) j p3) [⟨.Name x p2, iter, [], 0⟩] scope pos) (tDcC X.K te) := by
  refine ⟨fun pins s σ H Q I h => ?_⟩
  rw [arm_eval_DictComp]
  refine blk_core (wi := iList X.K (monoE te)) (o0 := fun _ => .dT []) (ob0 := { cls := .type "dict", data := .dict #[] }) (own := own) (R := fun J H1 => ∃ a ts cs, J = Itl X.K a ∧ SqL X.K H1 a (ts.map V.ref) ∧ Cells H1 ts cs ∧ cs.length < 16777216 ∧ ∀ D H', New H1 D (.dT (trueD (cs.foldl insC []))) H' → Q (.ref D) H')
    rfl hc hN (pi_list (pe_monoE hit)) ok hs (fun s Q q => wpAny_newObj_type q) rfl (fun I => dt_empty _ I.big) I ?_ ?_
  · exact ⟨_, h, fun v H1 ⟨a, ts, cs, e, h1, h2, h3, h4⟩ => ⟨a, e, ⟨_, h1⟩, a, ts, cs, rfl, h1, h2, h3, h4⟩⟩
  · rintro J H1 D it fp tn s3 s4 ce Rq ⟨a, ts, cs, rfl, hS, hC, hl, hQ⟩ apart B hce
    have T := B.turn
    have nD := B.new
    have lt : ts.length = cs.length := hC.len
    have dle : ∀ n, ((cs.take n).foldl insC []).length < 16777216 := fun n => by
      have h1 := foldl_insC_len (cs.take n) []
      rw [List.length_take, List.length_nil] at h1
      omega
    have aD : ∀ {o}, SqL X.K (upd H1 D o) a (ts.map V.ref) := fun {o} => (same_new nD).seq hS
    have cD : ∀ {o}, Cells (upd H1 D o) ts cs := fun {o} => hC.same (same_new nD)
    have loop : codeAny (model X.prog X.w) X.A (.compLoop (.DictComp (.Name x p1) (.Constant (.bool true) j p3) [⟨.Name x p2, iter, [], 0⟩] scope pos) 0 (.ref it) (.ref D) ce) Rq s4 := by
      refine compLoop_anyD (fun n s' => ∃ m, n = ts.length - m ∧ m ≤ ts.length ∧ Inv (X.blk s3 (upd H1 D (.dT [])) scope ce fp) [] (wipe σ (own.map (·.2))) (upd H1 D (.dT (trueD ((cs.take m).foldl insC [])))) s' ∧ tn m s'.heap ∧ ∀ b ∈ fp, upd H1 D (.dT (trueD ((cs.take m).foldl insC []))) b = none) ?_ ts.length ⟨0, by simp, Nat.zero_le _, B.inv, B.beg, B.off⟩
      rintro n s5 ⟨m, rfl, hm, I5, st5, n5⟩
      by_cases hlt : m < ts.length
      · have ti := T.item (X.blk s3 (upd H1 D (.dT [])) scope ce fp) rfl rfl rfl hc m [] s5 _ _ (fun _ _ => False) I5 (B.stat I5 n5) st5 ⟨_, _, aD, by rw [List.getElem?_map, List.getElem?_eq_getElem hlt]; rfl⟩
        refine thnF ti fun r s6 ⟨u, hr', h6⟩ => ?_
        subst hr'
        refine thnF h6 fun _ s7 ⟨y, H7, I7, r7, y7, st7, n7⟩ => ?_
        obtain ⟨e7, y7⟩ := y7
        subst e7
        have hx := y7 _ aD
        obtain ⟨t, ht, e⟩ := map_ref_get hx
        subst e
        cases r7
        obtain ⟨c, hcs, hct⟩ := (cD (o := .dT (trueD ((cs.take m).foldl insC [])))).get ht
        have I7' := I7.pinned (B.stat I7 n7) (T.obj _ _ st7)
        subst hce
        refine thnF ((hg _ _ _ _ _).run _ s7 _ _ (.ref t) (.ref t) (fun σ' H' => σ' = (wipe σ (own.map (·.2))).set i (some (.ref t)) ∧ H' = upd H1 D (.dT (trueD ((cs.take m).foldl insC [])))) I7' rfl ⟨rfl, rfl⟩) fun _ s8 ⟨σ8, H8, I8, e8, e9⟩ => ?_
        subst e8 e9
        refine wpAny_pure ?_
        rw [if_pos rfl]
        have hlen : i < (wipe σ (own.map (·.2))).length := by rw [B.inv.len]; exact hi
        refine thnF ((hv _ _ _ _ _).run _ s8 _ _ (fun v H' => v = .ref t ∧ H' = upd H1 D (.dT (trueD ((cs.take m).foldl insC [])))) I8 ⟨.ref t, by rw [List.getElem?_set_self hlen], rfl, rfl⟩) fun u1 s9 ⟨v1, H9, I9, r9, e1, e2⟩ => ?_
        subst e1 e2
        cases r9
        refine thnF ((pe_bl (X := X.blk s3 (upd H1 D (.dT [])) scope _ fp)).run _ s9 _ _ (fun v H' => v = .bl true ∧ H' = upd H1 D (.dT (trueD ((cs.take m).foldl insC [])))) I9 ⟨rfl, rfl⟩) fun u2 s10 ⟨v2, H10, I10, r10, e1, e2⟩ => ?_
        subst e1 e2
        cases r10
        refine d_setC (X := X.blk s3 (upd H1 D (.dT [])) scope _ fp) hr I10 upd_same (dle m) hct fun s11 I11 => ?_
        rw [upd_upd, ← foldl_insC_take hcs] at I11
        have pin : ∀ b ∈ fp, ∀ o, s7.heap.get? b = some o → s11.heap.get? b = some o ∧ upd H1 D (.dT (trueD ((cs.take (m + 1)).foldl insC []))) b = none := fun b hb o e =>
          let z := I11.pin (b, o) (List.mem_append_right _ (List.mem_append_right _ (mem_pinsAt hb e)))
          ⟨z.1, z.2.1⟩
        refine ⟨ts.length - (m + 1), by omega, m + 1, rfl, hlt, (I11.unpinned (pins := [])).weak (by rw [List.length_set]) (fun q v e => ?_), T.keep _ _ _ st7 fun b hb o e => (pin b hb o e).1, fun b hb => ?_⟩
        · have ne : i ≠ q := fun z => (wipe_some e).2 (z ▸ hio)
          rw [List.getElem?_set_ne ne]
          exact e
        · obtain ⟨o, e, _⟩ := T.obj _ _ st7 b hb
          exact (pin b hb o e).2
      · have e : m = ts.length := by omega
        subst e
        have td := T.done (X.blk s3 (upd H1 D (.dT [])) scope ce fp) rfl rfl rfl hc _ [] s5 _ _ (fun _ _ => False) I5 (B.stat I5 n5) st5 ⟨_, aD, by simp⟩
        refine thnF td fun r s6 ⟨hr', I6⟩ => ?_
        subst hr'
        refine B.back I6 (hQ D _ ?_)
        rw [lt, List.take_length]
        exact new_of nD
    exact codeAny_compStart_dict loop (T.self X.A 0 _ _ _ B.beg loop)
end
end Dk
-- text Set
set_option maxHeartbeats 1000000
namespace Dk
open PySem PySem.Spec PyProof.Rows L2 PySem.Froz
/-! ## sets of texts -/
def Wlk (w : World) (t : SetTable) : Prop := Ris t.place.toList ∧ (w.params.followText "set-order" = true ∨ t.led = true)
theorem wlk_off {w : World} {t : SetTable} (h : Wlk w t) : Wlk w (if t.plain = true then { t with plain := false } else t) := by
  split <;> exact h
theorem wlk_lay {w : World} {t : SetTable} {es : Array (Int × Value)} {h : Int} {x : Value} (k : Wlk w t) : Wlk w (layNew t es h x).2.1 :=
  ⟨layNew_ris t es h x k.1, k.2.imp id fun z => (layNew_led t es h x).trans z⟩
theorem wlk_again {w : World} {t : SetTable} {es : Array (Int × Value)} {n : Nat} (k : Wlk w t) : Wlk w (relayAll t es n).2.1 :=
  ⟨relayAll_ris t es n, k.2.imp id fun z => (relayAll_led t es n).trans z⟩
theorem wlk_tail {w : World} {t : SetTable} {es : Array (Int × Value)} {ep : Nat} {d : Bool} (k : Wlk w t) : Wlk w (tailTx ep es t d).2.2 := by
  unfold tailTx
  split
  · exact wlk_again k
  · exact k
theorem wlk_add {w : World} {h : Int} {v : Value} {D : SD} (k : Wlk w D.2.2) : Wlk w (addTx h v D).2.2 := wlk_tail (wlk_off (wlk_lay k))
/-- the texts l, each once, in a set at a -/
def TxSet (P : Program) (w : World) (h : Heap) (a : Addr) (l : List Str) : Prop := ∃ D : SD, h.get? a = some (sObj "set" D) ∧ TxOk P w D l ∧ l.Nodup ∧ Wlk w D.2.2
def putTx (l : List Str) (k : Str) : List Str := if k ∈ l then l else k :: l
theorem mem_putTx {l : List Str} {k z : Str} : z ∈ putTx l k ↔ z ∈ l ∨ z = k := by
  unfold putTx
  split
  · rename_i m
    exact ⟨.inl, fun h => h.elim id fun e => e ▸ m⟩
  · simp [or_comm]
theorem putTx_len (l : List Str) (k : Str) : (putTx l k).length ≤ l.length + 1 := by
  unfold putTx
  split <;> simp
section
variable {P : Program} {w : World} {A : Around} {E : Value → Shared → Prop} {s : Shared} {a : Addr} {l : List Str} {k : Str} {u : Tok}
theorem TxSet.mov {h h' : Heap} (R : TxSet P w h a l) (q : ∀ o, h.get? a = some o → h'.get? a = some o) : TxSet P w h' a l := by
  obtain ⟨D, ho, r⟩ := R
  exact ⟨D, q _ ho, r⟩
theorem TxSet.is {s : Shared} (R : TxSet P w s.heap a l) : s.TypeIs (.ref a) "set" := by
  obtain ⟨D, ho, r⟩ := R
  exact ⟨_, ho, rfl⟩
theorem txFresh {h : Heap} (w : World) (ho : h.get? a = some { cls := .type "set", dict := none, data := .set #[] 0 (.fresh 0 0 (!w.params.followText "set-order")) }) : TxSet P w h a [] :=
  ⟨(#[], 0, .fresh 0 0 (!w.params.followText "set-order")), ho, .nil rfl, .nil, .nil, by
    show _ ∨ (!w.params.followText "set-order") = true
    cases w.params.followText "set-order"
    · exact .inr rfl
    · exact .inl rfl⟩
/-- one more text -/
theorem txLay {Q : Bool → Shared → Prop} (R : TxSet P w s.heap a l) (room : l.length + 1 < scanBound) (h : ∀ b h', Heap.SameBut a s.heap h' → TxSet P w h' a (putTx l k) → Q b { s with heap := h' }) :
    wpAny (model P w) A (setAddHashed a (.str k u) (hashStr w k)) Q E s := by
  obtain ⟨D, ho, F, nd, wk⟩ := R
  by_cases m : k ∈ l
  · have q := h false s.heap (Heap.SameBut.refl a s.heap) ⟨D, ho, by rw [putTx, if_pos m]; exact F, by rw [putTx, if_pos m]; exact nd, wk⟩
    obtain ⟨es, ep, t⟩ := D
    have hb : es.size < scanBound := by have := F.sz; simp only at this; omega
    have ky : (strKind P w).is k (.str k u) = true := is_str k u
    obtain ⟨e, he, hek⟩ := (F.mem k).mp m
    obtain ⟨j, hj⟩ : ∃ j, List.findIdx? (fun e => (strKind P w).is k e.2) es.toList = some j := by
      cases hr : List.findIdx? (fun e => (strKind P w).is k e.2) es.toList with
      | some j => exact ⟨j, rfl⟩
      | none =>
        have := List.findIdx?_eq_none_iff.mp hr e he
        rw [hek] at this
        cases this
    unfold setAddHashed setAddHashedIn
    refine wpAny_holding (wpAny_bind (wpAny_setState_of (es := es) (ep := ep) (t := t) ho rfl F.fit ?_))
    dsimp only
    rw [byScan_of rfl hb F.el]
    simp only [↓reduceIte]
    unfold setAddByScan
    refine wpAny_bind (wpAny_bind (wpAny_rule (wpAny_bind (wpAny_setScan_of (knd := strKind P w) (k := k) (es := es) (ep := ep) (t := t) ky ho rfl F.fit F.el ?_))))
    rw [hj]
    exact wpAny_pure (wpAny_pure q)
  · refine add_x ho F m room (h true _ ?_ ⟨_, get_upd _ ho rfl, by rw [putTx, if_neg m]; exact add_ok u F, by rw [putTx, if_neg m]; exact List.nodup_cons.mpr ⟨m, nd⟩, wlk_add wk⟩)
    exact Heap.SameBut.update s.heap a _
/-- set.add -/
theorem txAdd {Q : Value → Shared → Prop} (R : TxSet P w s.heap a l) (room : l.length + 1 < scanBound) (h : ∀ h', Heap.SameBut a s.heap h' → TxSet P w h' a (putTx l k) → Q .none { s with heap := h', toks := s.toks + 1 }) :
    wpAny (model P w) A (call (.builtin "set.add") [.ref a, .str k u]) Q E s := by
  refine wpAny_call_entry F.slot_set_add R.is F.entry_set_add ?_ (F.args_set_add_2 _ _)
  unfold Builtin.«set.add» Builtin.Frozenset.oneOther
  simp only [List.isEmpty_nil, bind_assoc]
  unfold Builtin.Frozenset.addrOf setAdd
  refine wpAny_bind (wpAny_pure (wpAny_bind (wpAny_pure (wpAny_bind (wpAny_holding (wpAny_bind ((strKind P w).pyHash (is_str k u) ?_)))))))
  refine txLay (s := { s with toks := s.toks + 1 }) R room fun b h' sb r => ?_
  show wpAny _ _ (ret Value.none) _ _ _
  exact wpAny_pure ⟨_, rfl, h h' sb r⟩
/-! ### sorted of a set of texts -/
theorem rising_pw : ∀ (l : List Str) (p : Str), risingS p l = true → (p :: l).Nodup → (p :: l).Pairwise ltS
  | [], p, _, _ => List.pairwise_singleton _ _
  | x :: r, p, h, nd => by
    have h1 : ltCps x.cps.toList p.cps.toList = false ∧ risingS x r = true := by
      simpa [risingS] using h
    have nd2 := List.nodup_cons.mp nd
    have ih := rising_pw r x h1.2 nd2.2
    have px : ltS p x := by
      have n1 : ¬ ltS x p := by
        have := h1.1
        rw [ltCps_eq] at this
        exact of_decide_eq_false this
      exact ltS_tri n1 fun e => nd2.1 (by rw [← e]; exact List.mem_cons_self)
    refine List.pairwise_cons.mpr ⟨fun y hy => ?_, ih⟩
    rcases List.mem_cons.mp hy with rfl | hy
    · exact px
    · exact ltS_trans px ((List.pairwise_cons.mp ih).1 y hy)
theorem sortedS_pw {l : List Str} (h : sortedS l = true) (nd : l.Nodup) : l.Pairwise ltS := by
  cases l with
  | nil => exact .nil
  | cons x r => exact rising_pw r x h nd
theorem nodup_cover {α : Type} [DecidableEq α] : ∀ (s l : List α), l.Nodup → (∀ x ∈ l, x ∈ s) → s.length ≤ l.length → s.Nodup
  | [], _, _, _, _ => .nil
  | x :: r, l, nd, sub, le => by
    by_cases m : x ∈ l
    · have sub2 : ∀ y ∈ l.erase x, y ∈ r := fun y hy => by
        have := (List.Nodup.mem_erase_iff nd).mp hy
        rcases List.mem_cons.mp (sub y this.2) with e | e
        · exact absurd e this.1
        · exact e
      have len := List.length_erase_of_mem m
      have lp : 0 < l.length := List.length_pos_of_mem m
      have ndr := nodup_cover r (l.erase x) (nd.erase x) sub2 (by rw [List.length_cons] at le; omega)
      refine List.nodup_cons.mpr ⟨fun mr => ?_, ndr⟩
      have : l.length ≤ r.length := List.Nodup.length_le_of_subset nd fun y hy => by
        rcases List.mem_cons.mp (sub y hy) with e | e
        · rw [e]; exact mr
        · exact e
      rw [List.length_cons] at le
      omega
    · have : l.length ≤ r.length := List.Nodup.length_le_of_subset nd fun y hy => by
        rcases List.mem_cons.mp (sub y hy) with e | e
        · rw [e] at hy; exact absurd hy m
        · exact e
      rw [List.length_cons] at le
      omega
theorem txOut {D : SD} (F : TxOk P w D l) (nd : l.Nodup) {out : List Value} (hp : out.Perm (D.1.toList.map (·.2))) : ∃ ss, StrsAre out ss ∧ ss.Nodup ∧ ∀ x, x ∈ ss ↔ x ∈ l := by
  have al : ∀ v ∈ out, ∃ x t, v = .str x t := fun v hv => by
    obtain ⟨e, he, q⟩ := List.mem_map.mp (hp.mem_iff.mp hv)
    obtain ⟨⟨k, hk, _⟩, _⟩ := F.el e he
    obtain ⟨t, ht⟩ := PySem.Value.isStrOf_shape hk
    exact ⟨k, t, by rw [← q]; exact ht⟩
  have S := strsAre_map out al
  have mem : ∀ x, x ∈ out.map strOf ↔ x ∈ l := fun x => by
    rw [F.mem x, List.mem_map]
    constructor
    · rintro ⟨v, hv, rfl⟩
      obtain ⟨e, he, q⟩ := List.mem_map.mp (hp.mem_iff.mp hv)
      obtain ⟨x, t, ev⟩ := al v hv
      refine ⟨e, he, ?_⟩
      rw [q, ev]
      exact is_str x t
    · rintro ⟨e, he, q⟩
      obtain ⟨t, ht⟩ := PySem.Value.isStrOf_shape q
      exact ⟨e.2, hp.mem_iff.mpr (List.mem_map.mpr ⟨e, he, rfl⟩), by rw [ht]; rfl⟩
  refine ⟨_, S, nodup_cover _ l nd (fun x hx => (mem x).mpr hx) ?_, mem⟩
  rw [List.length_map, hp.length_eq, List.length_map, Array.length_toList, F.sz]
  exact Nat.le_refl _
/-- sorted(set of texts) -/
theorem txSorted {Q : Value → Shared → Prop} (R : TxSet P w s.heap a l) (hh : A.handled = none) (room : l.length < scanBound)
    (hQ : ∀ s' p (out : Array Value) (c : Nat), (∀ b o, s.heap.get? b = some o → s'.heap.get? b = some o) → s'.gens = s.gens → s'.os = s.os → s.heap.objs.size ≤ p → s'.heap.get? p = some (seqObj "list" out c) → StrsAre out.toList (sset l) → Q (.ref p) s') :
    wpAny (model P w) A (call (.builtin "sorted") [.ref a]) Q E s := by
  obtain ⟨D, ho, F, nd, wk⟩ := R
  have fsz := F.sz
  refine Calls.call_function_entry kind_sorted plain_sorted entry_sorted (args_sorted1 _) ?_
  unfold Builtin.«sorted»
  refine wpAny_bind (m := checkCount "sorted" 1 1 _) (wpAny_pure ?_)
  refine wpAny_bind (collect_set (A := A.in1) (es := D.1) (ep := D.2.1) (t := D.2.2) hh ⟨_, ho, rfl, rfl⟩ F.fit (by rw [fsz]; exact room) wk.1 wk.2 fun s1 vs k1 hz g1 o1 pm => ?_)
  obtain ⟨ss, S, nds, mems⟩ := txOut F nd pm
  have hvl : vs.length ≤ sizeLine := by
    rw [pm.length_eq, List.length_map, Array.length_toList, fsz, sizeLine_eq]
    unfold scanBound at room
    omega
  refine wpAny_bind (wpAny_newList ?_ hvl)
  have hoL : (s1.heap.push (seqObj "list" vs.toArray 0)).get? s1.heap.objs.size = some (seqObj "list" vs.toArray 0) := Heap.get?_push_size _ rfl
  refine wpAny_bind (wpAny_holding (wpAny_call_entry slot_list_sort ⟨_, hoL, rfl⟩ entry_list_sort (list_sort_treeKAny strKind_oneLt hoL S.keysOf (fun v₁ v₂ rest e => keyKind_strs (by rw [← e]; exact S)) hvl fun st' a1 a2 => ⟨_, rfl, ?_⟩) (args_list_sort _)))
  obtain ⟨ss', b1, b2, b3⟩ := sorted_out_str S a1 a2
  have e : ss' = sset l := sset_eq (sortedS_pw b3 (b2.nodup_iff.mpr nds)) fun x => (b2.mem_iff).trans (mems x)
  subst e
  obtain ⟨c, hc⟩ := sortedHeap_at (vs := vs) (out := (arrOf st').map (·.2)) hoL
  refine wpAny_pure ⟨_, rfl, hQ _ s1.heap.objs.size _ c (fun b u e => ?_) g1 o1 hz hc b1⟩
  have q := k1 b u e
  have hlt := Heap.lt_size q
  show (sortedHeap (s1.heap.push (seqObj "list" vs.toArray 0)) s1.heap.objs.size vs _).get? b = some u
  rw [sortedHeap_old (Nat.ne_of_lt hlt) (by rw [size_push']; exact Nat.lt_succ_of_lt hlt)]
  exact Heap.get?_push_of_some _ q
end
/-! ### set(xs), xs a list of texts -/
section
variable {P : Program} {w : World} {A : Around} {E : Value → Shared → Prop} {s : Shared} {l : List Str}
theorem txLoop {I : Addr} {fp wr : List Addr} {G : Array GenState → Array GenState → Prop} {n : Nat} {Pv : Nat → Value → Prop} {St : Nat → Shared → Prop} {R : Result → Shared → Prop} (W : WalksS P w A.in1 I fp wr G n Pv St) (S : Addr) (hSf : S ∉ fp)
    (zs : List Str) (hn : n = zs.length) (hb : zs.length + 1 < scanBound) (hval : ∀ i v, Pv i v → ∃ z t, zs[i]? = some z ∧ v = .str z t) :
    ∀ (k i : Nat) (s : Shared) (l : List Str), n - i = k → i ≤ n → St i s → TxSet P w s.heap S l → l.length ≤ i → (∀ x, x ∈ l ↔ x ∈ zs.take i) →
      (∀ s' l, Moved (S :: wr) G s s' → TxSet P w s'.heap S l → l.length ≤ n → (∀ x, x ∈ l ↔ x ∈ zs) → R (.ok (.ret .none)) s') → codeAny (model P w) A (.builtin "set.update.loop" ⟨[.ref S, .ref I], []⟩) R s := by
  have out : S ∉ wr := fun h => hSf (W.sub _ h)
  have up : ∀ b ∈ wr, b ∈ S :: wr := fun b hb => List.mem_cons_of_mem _ hb
  intro k
  induction k with
  | zero =>
    intro i s l hk hi hst hS hl hm hR
    obtain rfl : i = n := by omega
    refine codeAny_builtin F.entry_set_update_loop ?_
    rw [Around.under_plainId F.plain_set_update_loop _]
    show wpAny _ A.in1 (pyNext (.ref I) >>= _) _ _ s
    refine wpAny_bind (W.done s _ _ hst fun s' mv => ?_)
    show wpAny _ A.in1 (ret Value.none) _ _ s'
    exact wpAny_pure (hR s' l (mv.mono up) (hS.mov fun o e => mv.heap S o out e) hl fun x => by rw [hm, hn, List.take_length])
  | succ k ih =>
    intro i s l hk hi hst hS hl hm hR
    have lt : i < n := by omega
    refine codeAny_builtin F.entry_set_update_loop ?_
    rw [Around.under_plainId F.plain_set_update_loop _]
    show wpAny _ A.in1 (pyNext (.ref I) >>= _) _ _ s
    refine wpAny_bind (W.item i s _ _ lt hst fun v s' hP hst' mv => ?_)
    obtain ⟨z, t, hz, rfl⟩ := hval i v hP
    show wpAny _ A.in1 (holding [Value.str z t] (setAdd S (.str z t)) >>= _) _ _ s'
    refine wpAny_bind (wpAny_holding ?_)
    unfold setAdd
    refine wpAny_holding (wpAny_bind ((strKind P w).pyHash (is_str z t) ?_))
    refine txLay (s := { s' with toks := s'.toks + 1 }) (hS.mov fun o e => mv.heap S o out e) (by omega) fun b h' sb hS2 => ?_
    refine wpAny_pure ⟨plainId_quiet F.plain_set_update_loop _, ih (i + 1) _ (putTx l z) (by omega) lt (W.frame _ s' _ _ hst' (Nat.le_succ _) fun b hb o e => ?_) hS2 ?_ (fun x => ?_) fun s'' l' mv2 hS3 hl3 hm3 => ?_⟩
    · rw [sb.2 b (fun e : b = S => hSf (by rw [← e]; exact hb))]; exact e
    · have := putTx_len l z; omega
    · rw [mem_putTx, take_get hz, List.mem_append, hm]; simp
    · refine hR s'' l' (Moved.trans W.gtrans ((mv.mono up).then_heap (Nat.le_succ _) fun b o hb e => ?_) mv2) hS3 hl3 hm3
      rw [sb.2 b (fun h : b = S => hb (by rw [h]; exact List.mem_cons_self))]; exact e
theorem str_gets : ∀ {us : List Value} {xs : List Str}, StrsAre us xs → ∀ {i : Nat} {v : Value}, us[i]? = some v → ∃ z t, xs[i]? = some z ∧ v = .str z t
  | _, _, .nil, i, v, h => by simp at h
  | _, _, .cons n t hr, 0, v, h => by simp at h; exact ⟨n, t, rfl, h.symm⟩
  | _, _, .cons n t hr, i + 1, v, h => by
    obtain ⟨z, u, a, b⟩ := str_gets hr (by simpa using h)
    exact ⟨z, u, by simpa using a, b⟩
abbrev freshSet (w : World) : Obj := { cls := .type "set", dict := none, data := .set #[] 0 (.fresh 0 0 (!w.params.followText "set-order")) }
set_option maxHeartbeats 4000000 in
theorem txOf {p : Addr} {items : Array Value} {zs : List Str} {Q : Value → Shared → Prop} (hh : A.handled = none) (hl : s.heap.IsList p items) (hi : StrsAre items.toList zs) (hb : zs.length + 1 < scanBound)
    (h : ∀ (h' : Heap) (tk : Nat) l, TxSet P w h' s.heap.objs.size l → l.length ≤ zs.length → (∀ x, x ∈ l ↔ x ∈ zs) → (∀ b o, s.heap.get? b = some o → h'.get? b = some o) → Q (.ref s.heap.objs.size) { s with heap := h', toks := tk }) :
    wpAny (model P w) A (call (.type "set") [.ref p]) Q E s := by
  have sz : items.size = zs.length := by rw [← StrsAre.len_eq hi, Array.length_toList]
  obtain ⟨c, tl, hmro⟩ := F.called_set.mro
  have hmade := F.called_set.made
  have hsub := F.called_set.sub
  refine wpAny_call (codeAny_of_tree ?_)
  show wpAny _ _ (callAny (.type "set") _) _ _ _
  refine wpAny_pure ⟨Code.quiet_builtin _ (by decide +kernel), codeAny_builtin F.entry_type_call ?_⟩
  rw [Around.under_plain (weight_type_call_type "set" [.ref p] []) rfl]
  have h1 := F.called_set.notType
  have h2 := F.called_set.canCreate
  have hct := F.typeCall_set_1 (.ref p)
  repeat (any_goals (first | assumption | wp_step))
  refine codeAny_mono (code_set_led1 (.ref p) (E := E) (Q₁ := fun obj s₁ => obj = .ref s.heap.objs.size ∧ s₁ = { s with heap := s.heap.push (freshSet w) }) ⟨rfl, rfl⟩) fun r s₁ hr => ?_
  cases r with
  | error e => exact hr
  | ok fl =>
    cases fl with
    | ret obj =>
      obtain ⟨rfl, rfl⟩ := hr
      have hS : (s.heap.push (freshSet w)).get? s.heap.objs.size = some (freshSet w) := Heap.get?_push_size _ rfl
      have hT : Shared.TypeIs { s with heap := s.heap.push (freshSet w) } (.ref s.heap.objs.size) "set" := ⟨_, hS, rfl⟩
      have hli := F.called_set.init.lookup
      have hbi := F.called_set.init.bind (.ref s.heap.objs.size)
      repeat (any_goals (first | assumption | wp_step))
      refine codeAny_mono (codeAny_call_builtin (R := wants (fun r s₂ => r = .none ∧ ∃ h' tk l, s₂ = { s with heap := h', toks := tk } ∧ TxSet P w h' s.heap.objs.size l ∧ l.length ≤ zs.length ∧ (∀ x, x ∈ l ↔ x ∈ zs) ∧
          (∀ b o, s.heap.get? b = some o → h'.get? b = some o)) E) F.called_set.init.plain F.entry_set_init (check_set_init_1 hT ?_)) fun r₂ s₂ hr₂ => ?_
      · obtain ⟨ol, hol, hcl, nl, hdl⟩ := hl
        obtain ⟨ocls, odict, odata, oslots⟩ := ol
        simp only at hcl hdl
        subst hcl; subst hdl
        have hol' : (s.heap.push (freshSet w)).get? p = some { cls := .type "list", dict := odict, data := .seq items nl, slots := oslots } := Heap.get?_push_of_some _ hol
        have hsls := F.sub_list_set
        have hslf := F.sub_list_frozenset
        have hne : (Value.type "list" == Value.type "dict") = false := by decide
        have hl1 : (s.heap.push (freshSet w)).IsList p items := ⟨_, hol', rfl, nl, rfl⟩
        unfold Builtin.«set.__init__» noKeywords Builtin.Frozenset.updateFrom
        generalize hPI : pyIter = PI
        wp_walk
        subst hPI
        refine wpAny_pyIter_list hl1 ?_
        refine wpAny_bind (wpAny_runValue ?_)
        have hlS : p < s.heap.objs.size := Heap.lt_size hol
        have hh3 : A.in1.in1.in1.handled = none := by simp [hh]
        have hneI : p ≠ (s.heap.push (freshSet w)).objs.size := by
          rw [Heap.size_push]; exact Nat.ne_of_lt (Nat.lt_succ_of_lt hlS)
        have hSf : s.heap.objs.size ∉ [(s.heap.push (freshSet w)).objs.size, p] := by
          rw [Heap.size_push]; simp only [List.mem_cons, List.mem_singleton, List.not_mem_nil, or_false, not_or]
          exact ⟨Nat.ne_of_lt (Nat.lt_succ_self _), Nat.ne_of_gt hlS⟩
        refine txLoop ((Walks.list hh3 _ p hneI items).toS) s.heap.objs.size hSf zs sz hb (fun i v hv => str_gets hi (by rw [Array.getElem?_toList]; exact hv)) (items.size - 0) 0 _ [] (by omega) (Nat.zero_le _)
          ⟨⟨_, Heap.get?_push_size _ rfl, rfl, rfl⟩, (hl1.push _)⟩ (txFresh w (Heap.get?_push_of_some _ hS)) (Nat.le_refl _) (by simp) ?_
        intro s' l mv hS' hl' hm'
        obtain ⟨h', g', d', tk', os'⟩ := s'
        have eg : g' = s.gens := mv.gens
        have ed : d' = s.drawn := mv.drawn
        have eo : os' = s.os := mv.os
        subst eg; subst ed; subst eo
        show wpAny _ _ _ _ _ _
        refine wpAny_pure ?_
        show wpAny _ _ (ret Value.none) _ _ _
        refine wpAny_pure ⟨rfl, h', tk', l, rfl, hS', by rw [sz] at hl'; exact hl', hm', fun b o e => ?_⟩
        have lb := Heap.lt_size e
        refine mv.heap b o ?_ (Heap.get?_push_of_some _ (Heap.get?_push_of_some _ e))
        simp only [List.mem_cons, List.mem_singleton, List.not_mem_nil, or_false, not_or]
        exact ⟨Nat.ne_of_lt lb, by rw [Heap.size_push]; exact Nat.ne_of_lt (Nat.lt_succ_of_lt lb)⟩
      · cases r₂ with
        | error e => exact hr₂
        | ok fl₂ =>
          cases fl₂ with
          | ret r =>
            obtain ⟨rfl, h', tk, l, rfl, a1, a2, a3, a4⟩ := hr₂
            repeat (any_goals (first | assumption | wp_step))
            exact h _ _ _ a1 a2 a3 a4
          | _ => exact hr₂.elim
    | _ => exact hr.elim
end
/-! ### as a thing of the layer -/
def TxO (P : Program) (w : World) (a : Addr) (l : List Str) : HO := .ext fun h => TxSet P w h a l
theorem txO_new {P : Program} {w : World} {H : Hp} {h : Heap} {a : Addr} {l : List Str} (R : TxSet P w h a l) : ObjOk P w H h a (TxO P w a l) := by
  have ⟨D, ho, _⟩ := R
  exact ⟨R, ⟨_, ho⟩, fun h1 h2 p k => TxSet.mov p k⟩
section
variable {X : Cx} {pins : List (Addr × Obj)} {σ : L2.St} {H : Hp} {s : Shared} {E : Value → Shared → Prop}
theorem txO_get {a : Addr} {l : List Str} (I : Inv X pins σ H s) (ha : H a = some (TxO X.prog X.w a l)) : TxSet X.prog X.w s.heap a l := (I.hok a _ ha).1
/-- d.add(k) of a comprehension, of a loop -/
theorem txO_add {a : Addr} {l : List Str} {k : Str} {u : Value} {Q : Value → Shared → Prop} (I : Inv X pins σ H s) (ha : H a = some (TxO X.prog X.w a l)) (ru : RelV (.str k) u) (room : l.length + 1 < scanBound)
    (h : ∀ s', Inv X pins σ (upd H a (TxO X.prog X.w a (putTx l k))) s' → Q .none s') : wpAny (model X.prog X.w) X.A (call (.builtin "set.add") [.ref a, u]) Q E s := by
  obtain ⟨t, rfl⟩ := ru
  refine txAdd (txO_get I ha) room fun h' sb new => ?_
  have he : ∃ u, h'.get? a = some u := by
    have ⟨D, ho, _⟩ := new
    exact ⟨_, ho⟩
  exact h _ (I.write (e := a) (t' := s.toks + 1) (by rw [ha]; trivial) (.inl rfl) (fun b u hb hu => (sb.2 b hb).trans hu) he (txO_new new))
/-- set(list of texts) -/
def rSetTx (P : Program) (w : World) (K : PySem.W.Frag) : List V → Hp → VK → Prop := fun vs H Q => ∃ (a : Addr) (zs : List Str), vs = [.ref a] ∧ SqL K H a (zs.map V.str) ∧ zs.length + 1 < scanBound ∧
  ∀ p l H', New H p (TxO P w p l) H' → l.length ≤ zs.length → (∀ x, x ∈ l ↔ x ∈ zs) → Q (.ref p) H'
theorem cr_setTx (hc : X.calm = true) : CallR X (.type "set") (rSetTx X.prog X.w X.K) := by
  intro pins s σ H vs us Q I r h
  obtain ⟨a, zs, rfl, ha, hb, q⟩ := h
  rw [Vals.ref1 r]
  obtain ⟨its, rv, pl, _⟩ := I.list ha
  have hn : H s.heap.objs.size = none := I.hok.fresh (Nat.le_refl _)
  refine txOf (I.ok.hd hc) pl.isList rv.strs hb fun h' tk l S le m k => ?_
  exact ⟨.ref _, upd H s.heap.objs.size (TxO X.prog X.w s.heap.objs.size l), I.laid (t' := tk) k (Nat.le_refl _) (txO_new S), rfl, q _ l _ (new_of hn) le m⟩
/-- sorted(set of texts) -/
def rSortTx (P : Program) (w : World) : List V → Hp → VK → Prop := fun vs H Q => ∃ a l, vs = [.ref a] ∧ H a = some (TxO P w a l) ∧ l.length < scanBound ∧ ∀ p H', New H p (.lst ((sset l).map V.str)) H' → Q (.ref p) H'
theorem cr_sortTx (hc : X.calm = true) : CallR X (.builtin "sorted") (rSortTx X.prog X.w) := by
  intro pins s σ H vs us Q I r h
  obtain ⟨a, l, rfl, ha, room, q⟩ := h
  rw [Vals.ref1 r]
  refine txSorted (txO_get I ha) (I.ok.hd hc) room fun s' p out c k g o hp hg hi => ?_
  have hlen : ((sset l).map V.str).length ≤ sizeLine := by
    have := sset_len l
    rw [List.length_map, sizeLine_eq]
    unfold scanBound at room
    omega
  have hn : H p = none := I.hok.fresh hp
  have J : Inv X pins σ (upd H p (.lst ((sset l).map V.str))) { s with heap := s'.heap, gens := s'.gens, drawn := s'.drawn, toks := s'.toks } :=
    I.call (ch := []) (Un.laid k hp hn) (I.hok.laid k hp ⟨hlen, out.toList, c, vals_of_strs hi, hg⟩) (by rw [g]; exact I.bare) (fun _ z => nomatch z)
  have e : s' = { s with heap := s'.heap, gens := s'.gens, drawn := s'.drawn, toks := s'.toks } := by
    cases s'
    cases s
    cases o
    rfl
  rw [e]
  exact ⟨.ref p, _, J, rfl, q p _ (new_of hn)⟩
end
end Dk
-- text Set2
set_option maxHeartbeats 1000000
namespace Dk
open PySem PySem.Spec PyProof.Rows L2
/-! ## {name for row in rows for name in row} -/
abbrev sc2 (elt t0 i0 t1 i1 : Expr) (scope : Scope) (pos : Pos) : Expr := .SetComp elt [⟨t0, i0, [], 0⟩, ⟨t1, i1, [], 0⟩] scope pos
theorem sc2_turn0 (elt t0 i0 t1 i1 : Expr) (scope : Scope) (pos : Pos) (it acc : Value) (env : Env) : compTurn (sc2 elt t0 i0 t1 i1 scope pos) 0 it acc env = (do
    standAt i0.pos
    match ← pyNext it with
    | none => pure (.done .next)
    | some v =>
      letOwnedTupleGo t0 it v
      assign t0 env v
      let x ← eval i1 env
      standAt i1.pos
      let x ← foldedSetIterable i1 env x
      let _ ← runOwn (.compStart (sc2 elt t0 i0 t1 i1 scope pos) 1 (← holding [x] (pyIter x)) acc env) env
      again (.compLoop (sc2 elt t0 i0 t1 i1 scope pos) 0 it acc env)) := by rfl
theorem sc2_turn1 (elt t0 i0 t1 i1 : Expr) (scope : Scope) (pos : Pos) (it acc : Value) (env : Env) : compTurn (sc2 elt t0 i0 t1 i1 scope pos) 1 it acc env = (do
    standAt i1.pos
    match ← pyNext it with
    | none => pure (.done .next)
    | some v =>
      letOwnedTupleGo t1 it v
      assign t1 env v
      (do let v ← eval elt env; standAt elt.pos; let _ ← call (.builtin "set.add") [acc, v])
      again (.compLoop (sc2 elt t0 i0 t1 i1 scope pos) 1 it acc env)) := by rfl
section
variable {prog : Program} {w : World} {A : Around} {R : Result → Shared → Prop} {s : Shared} {elt t0 i0 t1 i1 : Expr} {scope : Scope} {pos : Pos} {it acc : Value} {env : Env}
theorem sc2_loop0 (hs : ∀ x, foldedSetIterable i1 env x = pure x) (I : Nat → Shared → Prop)
    (turn : ∀ n s, I n s → wpAny (model prog w) A (pyNext it) (fun r s₁ => match r with
      | none => R (.ok .next) s₁
      | some v => wpAny (model prog w) A (letOwnedTupleGo t0 it v) (fun _ s₁' => wpAny (model prog w) A (assign t0 env v) (fun _ s₂ => wpAny (model prog w) A (eval i1 env) (fun x s₄ => wpAny (model prog w) A (pyIter x) (fun it1 s₅ =>
          codeAny (model prog w) A (.compStart (sc2 elt t0 i0 t1 i1 scope pos) 1 it1 acc env) (fun r s' => match r with
            | .ok _ => ∃ m, m < n ∧ I m s'
            | .error _ => False) s₅) (notedBy (model prog w) A env fun e s' => R (.error e) s') s₄) (notedBy (model prog w) A env fun e s' => R (.error e) s') s₂) (notedBy (model prog w) A env fun e s' => R (.error e) s') s₁') (notedBy (model prog w) A env fun e s' => R (.error e) s') s₁) (notedBy (model prog w) A env fun e s' => R (.error e) s') s)
    (n : Nat) (h : I n s) : codeAny (model prog w) A (.compLoop (sc2 elt t0 i0 t1 i1 scope pos) 0 it acc env) R s := by
  refine codeAny_loop rfl I (fun n s hI => ?_) n h
  show wpAny _ A ((compTurn (sc2 elt t0 i0 t1 i1 scope pos) 0 it acc env).onRaise (fun x => do noteFrame x env; theTreesLotGoes x)) _ _ s
  refine wpAny_noted ?_
  rw [sc2_turn0]
  refine wpAny_bind (wpAny_standAt (wpAny_bind (wpAny_mono (turn n s hI) (fun r s₁ h₁ => ?_) fun _ _ h' => h')))
  cases r with
  | none => exact wpAny_pure h₁
  | some v =>
    refine wpAny_bind (wpAny_mono h₁ (fun _ s₁' h₁' => wpAny_bind (wpAny_mono h₁' (fun _ s₂ h₂ => wpAny_bind (wpAny_mono h₂ (fun x s₄ h₄ => ?_) fun _ _ h' => h')) fun _ _ h' => h')) fun _ _ h' => h')
    refine wpAny_bind (wpAny_standAt (wpAny_bind (wpAny_of_eq (hs x) (wpAny_bind (wpAny_holding (wpAny_mono h₄ (fun it1 s₅ h₅ => ?_) fun _ _ h' => h'))))))
    refine wpAny_bind (wpAny_runOwn ?_)
    rw [Around.mark_none]
    refine codeAny_mono h₅ fun r s' hr => ?_
    cases r with
    | ok f =>
      first
        | exact wpAny_pure ⟨rfl, hr⟩
        | exact wpAny_bind (wpAny_pure (wpAny_pure ⟨rfl, hr⟩))
    | error e => exact hr.elim
theorem sc2_loop1 (I : Nat → Shared → Prop)
    (turn : ∀ n s, I n s → wpAny (model prog w) A (pyNext it) (fun r s₁ => match r with
      | none => R (.ok .next) s₁
      | some v => wpAny (model prog w) A (letOwnedTupleGo t1 it v) (fun _ s₁' => wpAny (model prog w) A (assign t1 env v) (fun _ s₂ => wpAny (model prog w) A (eval elt env) (fun x s₄ =>
          wpAny (model prog w) A (call (.builtin "set.add") [acc, x]) (fun _ s₅ => ∃ m, m < n ∧ I m s₅) (notedBy (model prog w) A env fun e s' => R (.error e) s') s₄) (notedBy (model prog w) A env fun e s' => R (.error e) s') s₂) (notedBy (model prog w) A env fun e s' => R (.error e) s') s₁') (notedBy (model prog w) A env fun e s' => R (.error e) s') s₁) (notedBy (model prog w) A env fun e s' => R (.error e) s') s)
    (n : Nat) (h : I n s) : codeAny (model prog w) A (.compLoop (sc2 elt t0 i0 t1 i1 scope pos) 1 it acc env) R s := by
  refine codeAny_loop rfl I (fun n s hI => ?_) n h
  show wpAny _ A ((compTurn (sc2 elt t0 i0 t1 i1 scope pos) 1 it acc env).onRaise (fun x => do noteFrame x env; theTreesLotGoes x)) _ _ s
  refine wpAny_noted ?_
  rw [sc2_turn1]
  refine wpAny_bind (wpAny_standAt (wpAny_bind (wpAny_mono (turn n s hI) (fun r s₁ h₁ => ?_) fun _ _ h' => h')))
  cases r with
  | none => exact wpAny_pure h₁
  | some v =>
    exact wpAny_bind (wpAny_mono h₁ (fun _ s₁' h₁' => wpAny_bind (wpAny_mono h₁' (fun _ s₂ h₂ => wpAny_bind (wpAny_bind (wpAny_mono h₂ (fun x s₄ h₄ => wpAny_bind (wpAny_standAt (wpAny_bind (wpAny_mono h₄ (fun _ s₅ h₅ => wpAny_pure (wpAny_pure ⟨rfl, h₅⟩)) fun _ _ h' => h'))))
      fun _ _ h' => h'))) fun _ _ h' => h')) fun _ _ h' => h')
theorem sc2_start {d : Nat} {g : Comprehension} (hg : (clausesOf (sc2 elt t0 i0 t1 i1 scope pos))[d]? = some g) (ha : g.is_async = 0) (h0 : codeAny (model prog w) A (.compLoop (sc2 elt t0 i0 t1 i1 scope pos) d it acc env) R s)
    (h : wpAny (model prog w) A (pyIter it) (fun it' s' => codeAny (model prog w) A (.compLoop (sc2 elt t0 i0 t1 i1 scope pos) d it' acc env) R s') (notedBy (model prog w) A env fun x s' => R (.error x) s') s) :
    codeAny (model prog w) A (.compStart (sc2 elt t0 i0 t1 i1 scope pos) d it acc env) R s := by
  refine codeAny_of_tree ?_
  show wpAny _ _ ((compStart (sc2 elt t0 i0 t1 i1 scope pos) d it acc env).onRaise (fun x => do noteFrame x env; standAt theWindowsPlace)) _ _ s
  refine wpAny_notedAt ?_
  unfold compStart
  rw [hg]
  simp only [Option.elim_some, ha, bne_self_eq_false, Bool.false_eq_true, if_false]
  refine wpAny_bind (wpAny_askSetting (wpAny_ite ?_))
  split
  · first
      | exact wpAny_bind (wpAny_pure (wpAny_pure (And.intro rfl h0)))
      | exact wpAny_pure (And.intro rfl h0)
  · refine wpAny_bind (wpAny_rule ?_)
    refine wpAny_bind (wpAny_standAt (wpAny_bind (wpAny_mono h (fun it' s' h' => wpAny_pure (And.intro rfl h')) fun _ _ x => x)))
end
section
variable {X : Cx}
def TxRows (K : PySem.W.Frag) (H : Hp) (a : Addr) (zss : List (List Str)) : Prop := ∃ as : List Addr, SqL K H a (as.map V.ref) ∧ Paired (fun b (zs : List Str) => SqL K H b (zs.map V.str)) as zss
theorem TxRows.same {K : PySem.W.Frag} {H H' : Hp} {a : Addr} {zss : List (List Str)} (s : Same H H') (h : TxRows K H a zss) : TxRows K H' a zss := by
  obtain ⟨as, h1, h2⟩ := h
  exact ⟨as, s.seq h1, Paired.mapP h2 fun _ _ z => s.seq z⟩
def tScN (P : Program) (w : World) (K : PySem.W.Frag) (te : TE) : TE := fun σ H Q => te σ H fun x H1 => ∃ a zss, x = .ref a ∧ TxRows K H1 a zss ∧ zss.flatten.length + 1 < scanBound ∧
  ∀ D l H', New H1 D (TxO P w D l) H' → l.length ≤ zss.flatten.length → (∀ x, x ∈ l ↔ x ∈ zss.flatten) → Q (.ref D) H'
theorem flat_take {α : Type} {l : List (List α)} {i : Nat} {x : List α} (h : l[i]? = some x) : (l.take (i + 1)).flatten = (l.take i).flatten ++ x := by
  rw [take_get h, List.flatten_append]; simp
theorem flat_take_len {α : Type} (l : List (List α)) (i : Nat) : (l.take i).flatten.length ≤ l.flatten.length := by
  have h := List.take_append_drop i l
  have : l.flatten.length = (l.take i).flatten.length + (l.drop i).flatten.length := by rw [← List.length_append, ← List.flatten_append, h]
  omega
theorem str_list_get {zs : List Str} {i : Nat} {x : V} (h : (zs.map V.str)[i]? = some x) : ∃ z, zs[i]? = some z ∧ x = .str z := by
  rw [List.getElem?_map] at h
  cases e : zs[i]? with
  | none => rw [e] at h; cases h
  | some t => rw [e] at h; exact ⟨t, rfl, (Option.some.inj h).symm⟩
theorem pe_scN {row nm : Str} {iter : Expr} {p1 p2 p3 p4 pos : Pos} {i j : Nat} {scope : Scope} {own : List (Str × Nat)} {te : TE} (hc : X.calm = true) (hN : X.N.Nodup) (hit : PE X iter te) (ok : BlkOk X.N X.env.scope scope own)
    (hg : ∀ (s : Shared) (H : Hp) (C : Addr) (cl : List (Str × Addr)) (fp : List Addr), PG (X.blk s H scope (compEnvC scope cl C X.env) fp) (.Name row p2) (gName i))
    (hv : ∀ (s : Shared) (H : Hp) (C : Addr) (cl : List (Str × Addr)) (fp : List Addr), PE (X.blk s H scope (compEnvC scope cl C X.env) fp) (.Name row p3) (tVar i))
    (hg1 : ∀ (s : Shared) (H : Hp) (C : Addr) (cl : List (Str × Addr)) (fp : List Addr), PG (X.blk s H scope (compEnvC scope cl C X.env) fp) (.Name nm p4) (gName j))
    (hv1 : ∀ (s : Shared) (H : Hp) (C : Addr) (cl : List (Str × Addr)) (fp : List Addr), PE (X.blk s H scope (compEnvC scope cl C X.env) fp) (.Name nm p1) (tVar j))
    (hij : i ≠ j) (hi : i < X.N.length) (hj : j < X.N.length) (hio : i ∈ own.map (·.2)) (hjo : j ∈ own.map (·.2)) (hs : ∀ x, foldedSetIterable iter X.env x = pure x := by intro _; rfl) (hs1 : ∀ env x, foldedSetIterable (.Name row p3) env x = pure x := by intro _ _; rfl) :
    PE X (sc2 (.Name nm p1) (.Name row p2) iter (.Name nm p4) (.Name row p3) scope pos) (tScN X.prog X.w X.K te) := by
  refine ⟨fun pins s σ H Q I h => ?_⟩
  rw [arm_eval_SetComp]
  refine blk_core (wi := iList X.K (monoE te)) (o0 := fun D => TxO X.prog X.w D []) (ob0 := freshSet X.w) (own := own) (R := fun J H1 => ∃ a zss, J = Itl X.K a ∧ TxRows X.K H1 a zss ∧ zss.flatten.length + 1 < scanBound ∧ ∀ D l H', New H1 D (TxO X.prog X.w D l) H' → l.length ≤ zss.flatten.length → (∀ x, x ∈ l ↔ x ∈ zss.flatten) → Q (.ref D) H')
    rfl hc hN (pi_list (pe_monoE hit)) ok hs (fun s Q q => PpSet.newSet_ok q) rfl (fun I => txO_new (txFresh X.w (Heap.get?_push_size _ rfl))) I ?_ ?_
  · exact ⟨_, h, fun v H1 ⟨a, zss, e, h1, h2, h3⟩ => ⟨a, e, h1.elim fun as z => ⟨_, z.1⟩, a, zss, rfl, h1, h2, h3⟩⟩
  · rintro J H1 D it fp tn s3 s4 ce Rq ⟨a, zss, rfl, ⟨as, hS, hP⟩, hl, hQ⟩ apart B hce
    have T := B.turn
    have nD := B.new
    have lt : as.length = zss.length := hP.length
    have aD : ∀ {o}, SqL X.K (upd H1 D o) a (as.map V.ref) := fun {o} => (same_new nD).seq hS
    have loop : codeAny (model X.prog X.w) X.A (.compLoop (sc2 (.Name nm p1) (.Name row p2) iter (.Name nm p4) (.Name row p3) scope pos) 0 (.ref it) (.ref D) ce) Rq s4 := by
      refine sc2_loop0 (hs1 ce) (fun n s' => ∃ m l, n = as.length - m ∧ m ≤ as.length ∧ Inv (X.blk s3 (upd H1 D (TxO X.prog X.w D [])) scope ce fp) [] (wipe σ (own.map (·.2))) (upd H1 D (TxO X.prog X.w D l)) s' ∧ tn m s'.heap ∧ (∀ b ∈ fp, upd H1 D (TxO X.prog X.w D l) b = none) ∧
        l.length ≤ (zss.take m).flatten.length ∧ ∀ x, x ∈ l ↔ x ∈ (zss.take m).flatten) ?_ as.length ⟨0, [], by simp, Nat.zero_le _, B.inv, B.beg, B.off, Nat.zero_le _, by simp⟩
      rintro n s5 ⟨m, l, rfl, hm, I5, st5, n5, ll, lm⟩
      by_cases hlt : m < as.length
      · have ti := T.item (X.blk s3 (upd H1 D (TxO X.prog X.w D [])) scope ce fp) rfl rfl rfl hc m [] s5 _ _ (fun _ _ => False) I5 (B.stat I5 n5) st5 ⟨_, _, aD, by rw [List.getElem?_map, List.getElem?_eq_getElem hlt]; rfl⟩
        refine thnF ti fun r s6 ⟨u, hr', h6⟩ => ?_
        subst hr'
        refine thnF h6 fun _ s7 ⟨y, H7, I7, r7, y7, st7, n7⟩ => ?_
        obtain ⟨e7, y7⟩ := y7
        subst e7
        have hx := y7 _ aD
        obtain ⟨t, ht, e⟩ := map_ref_get hx
        subst e
        cases r7
        obtain ⟨zs, hzs, hzt⟩ := paired_at hP ht
        have I7' := I7.pinned (B.stat I7 n7) (T.obj _ _ st7)
        subst hce
        refine thnF ((hg _ _ _ _ _).run _ s7 _ _ (.ref t) (.ref t) (fun σ' H' => σ' = (wipe σ (own.map (·.2))).set i (some (.ref t)) ∧ H' = upd H1 D (TxO X.prog X.w D l)) I7' rfl ⟨rfl, rfl⟩) fun _ s8 ⟨σ8, H8, I8, e8, e9⟩ => ?_
        subst e8 e9
        have hlen : i < (wipe σ (own.map (·.2))).length := by rw [B.inv.len]; exact hi
        have zD : ∀ {o}, SqL X.K (upd H1 D o) t (zs.map V.str) := fun {o} => (same_new nD).seq hzt
        refine thnF ((pi_list (hv _ _ _ _ _) (tg := .Name nm p4)).run _ s8 _ _ (fun J' H' => J' = Itl X.K t ∧ H' = upd H1 D (TxO X.prog X.w D l)) I8 ⟨.ref t, by rw [List.getElem?_set_self hlen], t, rfl, ⟨_, zD⟩, rfl, rfl⟩) fun xv s10 hx => thnF hx fun itv s11 ⟨it1, fp1, tn1, J1, H11, e1, I11, T1, st11, f11, e2, e3⟩ => ?_
        subst e1 e2 e3
        have stat1 : ∀ {H' : Hp}, (∀ b ∈ fp1, H' b = none) → ∀ b ∈ fp1, FpOk (X.blk s3 (upd H1 D (TxO X.prog X.w D [])) scope _ fp) ([] ++ pinsAt fp s7.heap) H' b := fun hn b hb => ⟨hn b hb, (f11 b hb).2⟩
        have hj0 : ((wipe σ (own.map (·.2))).set i (some (V.ref t))).length = X.N.length := by rw [List.length_set]; exact B.inv.len
        refine sc2_start (d := 1) rfl rfl ?_ (T1.self X.A 0 _ _ _ st11 ?_)
        all_goals
          refine sc2_loop1 (fun k s' => ∃ q l', k = zs.length - q ∧ q ≤ zs.length ∧ Inv (X.blk s3 (upd H1 D (TxO X.prog X.w D [])) scope _ fp) ([] ++ pinsAt fp s7.heap) ((wipe σ (own.map (·.2))).set i (some (V.ref t))) (upd H1 D (TxO X.prog X.w D l')) s' ∧ tn1 q s'.heap ∧ (∀ b ∈ fp1, upd H1 D (TxO X.prog X.w D l') b = none) ∧
            l'.length ≤ (zss.take m).flatten.length + q ∧ ∀ x, x ∈ l' ↔ x ∈ (zss.take m).flatten ∨ x ∈ zs.take q) ?_ zs.length ⟨0, l, by simp, Nat.zero_le _, I11, st11, fun b hb => (f11 b hb).1, ll, by simpa using lm⟩
          rintro k s12 ⟨q, l', rfl, hq, I12, st12, n12, ll2, lm2⟩
          by_cases hlq : q < zs.length
          · refine thnF (T1.item (X.blk s3 (upd H1 D (TxO X.prog X.w D [])) scope _ fp) rfl rfl rfl hc q _ s12 _ _ (fun _ _ => False) I12 (stat1 n12) st12 ⟨_, _, zD, by rw [List.getElem?_map, List.getElem?_eq_getElem hlq]; rfl⟩) fun r s13 ⟨u, hr', h13⟩ => ?_
            subst hr'
            refine thnF h13 fun _ s14 ⟨y, H14, I14, r14, y14, st14, n14⟩ => ?_
            obtain ⟨e14, y14⟩ := y14
            subst e14
            obtain ⟨z, hz, e⟩ := str_list_get (y14 _ zD)
            subst e
            have I14' := I14.pinned (stat1 n14) (T1.obj _ _ st14)
            refine thnF ((hg1 _ _ _ _ _).run _ s14 _ _ (.str z) u (fun σ' H' => σ' = ((wipe σ (own.map (·.2))).set i (some (V.ref t))).set j (some (.str z)) ∧ H' = upd H1 D (TxO X.prog X.w D l')) I14' r14 ⟨rfl, rfl⟩) fun _ s15 ⟨σ15, H15, I15, e8, e9⟩ => ?_
            subst e8 e9
            have hjl : j < ((wipe σ (own.map (·.2))).set i (some (V.ref t))).length := by rw [hj0]; exact hj
            refine thnF ((hv1 _ _ _ _ _).run _ s15 _ _ (fun v H' => v = .str z ∧ H' = upd H1 D (TxO X.prog X.w D l')) I15 ⟨.str z, by rw [List.getElem?_set_self hjl], rfl, rfl⟩) fun u1 s16 ⟨v1, H16, I16, r16, e1, e2⟩ => ?_
            subst e1 e2
            have room : l'.length + 1 < scanBound := by
              have h1 := flat_take_len zss (m + 1)
              rw [flat_take hzs, List.length_append] at h1
              omega
            refine txO_add (X := X.blk s3 (upd H1 D (TxO X.prog X.w D [])) scope _ fp) I16 upd_same r16 room fun s17 I17 => ?_
            rw [upd_upd] at I17
            have pin : ∀ b ∈ fp1, ∀ o, s14.heap.get? b = some o → s17.heap.get? b = some o ∧ upd H1 D (TxO X.prog X.w D (putTx l' z)) b = none := fun b hb o e =>
              let z := I17.pin (b, o) (List.mem_append_right _ (List.mem_append_right _ (mem_pinsAt hb e)))
              ⟨z.1, z.2.1⟩
            refine ⟨zs.length - (q + 1), by omega, q + 1, putTx l' z, rfl, hlq, I17.unpinned.weak (by simp only [List.length_set]) (fun q v e => ?_), T1.keep _ _ _ st14 fun b hb o e => (pin b hb o e).1, fun b hb => ?_, by have := putTx_len l' z; omega, fun x => ?_⟩
            · have ne : j ≠ q := fun z => by
                subst z
                rw [List.getElem?_set_ne hij] at e
                exact (wipe_some e).2 hjo
              rw [List.getElem?_set_ne ne]
              exact e
            · obtain ⟨o, e, _⟩ := T1.obj _ _ st14 b hb
              exact (pin b hb o e).2
            · rw [mem_putTx, lm2, take_get hz, List.mem_append, or_assoc]; simp
          · have e : q = zs.length := by omega
            subst e
            refine thnF (T1.done (X.blk s3 (upd H1 D (TxO X.prog X.w D [])) scope _ fp) rfl rfl rfl hc _ _ s12 _ _ (fun _ _ => False) I12 (stat1 n12) st12 ⟨_, zD, by simp⟩) fun r s13 ⟨hr', I13⟩ => ?_
            subst hr'
            have pin : ∀ b ∈ fp, ∀ o, s7.heap.get? b = some o → s13.heap.get? b = some o ∧ upd H1 D (TxO X.prog X.w D l') b = none := fun b hb o e =>
              let z := I13.pin (b, o) (List.mem_append_right _ (List.mem_append_right _ (mem_pinsAt hb e)))
              ⟨z.1, z.2.1⟩
            refine ⟨as.length - (m + 1), by omega, m + 1, l', rfl, hlt, (I13.unpinned (pins := [])).weak (by rw [List.length_set]) (fun q v e => ?_), T.keep _ _ _ st7 fun b hb o e => (pin b hb o e).1, fun b hb => ?_, by rw [flat_take hzs, List.length_append]; exact ll2, fun x => by rw [lm2, flat_take hzs, List.mem_append, List.take_length]⟩
            · have ne : i ≠ q := fun z => (wipe_some e).2 (z ▸ hio)
              rw [List.getElem?_set_ne ne]
              exact e
            · obtain ⟨o, e, _⟩ := T.obj _ _ st7 b hb
              exact (pin b hb o e).2
      · have e : m = as.length := by omega
        subst e
        have td := T.done (X.blk s3 (upd H1 D (TxO X.prog X.w D [])) scope ce fp) rfl rfl rfl hc _ [] s5 _ _ (fun _ _ => False) I5 (B.stat I5 n5) st5 ⟨_, aD, by simp⟩
        refine thnF td fun r s6 ⟨hr', I6⟩ => ?_
        subst hr'
        rw [lt, List.take_length] at ll lm
        exact B.back I6 (hQ D l _ (new_of nD) ll lm)
    exact sc2_start (d := 0) rfl rfl loop (T.self X.A 0 _ _ _ B.beg loop)
end
end Dk
-- text Rules3
set_option maxHeartbeats 1000000
namespace Dk
open PySem PySem.Spec PyProof.Rows L2
/-! ## min(xs, default=None) -/
theorem minOf_is : ∀ (xs : List Int) (x : Int), PySem.W.minOf x xs ∈ x :: xs ∧ ∀ y ∈ x :: xs, PySem.W.minOf x xs ≤ y
  | [], x => by simp [PySem.W.minOf]
  | z :: xs, x => by
    have step : PySem.W.minOf x (z :: xs) = PySem.W.minOf (if z < x then z else x) xs := by
      unfold PySem.W.minOf
      rw [List.foldl_cons]
      congr 1
      show (if decide (z < x) = true then z else x) = _
      by_cases h : z < x <;> simp [h]
    have hg : (if z < x then z else x) ≤ x ∧ (if z < x then z else x) ≤ z ∧ ((if z < x then z else x) = z ∨ (if z < x then z else x) = x) := by split <;> omega
    rw [step]
    generalize (if z < x then z else x) = g at hg
    have ih := minOf_is xs g
    constructor
    · rcases List.mem_cons.mp ih.1 with h | h
      · rw [h]
        rcases hg.2.2 with e | e <;> simp [e]
      · simp [h]
    · intro y hy
      have h0 := ih.2 g List.mem_cons_self
      rcases List.mem_cons.mp hy with rfl | hy
      · omega
      · rcases List.mem_cons.mp hy with rfl | hy
        · omega
        · exact ih.2 y (List.mem_cons_of_mem _ hy)
section
variable {X : Cx}
def rMinDef (K : PySem.W.Frag) : List V → List V → Hp → VK → Prop := fun vs zs H Q => ∃ (a : Addr) (ns : List Int), vs = [.ref a] ∧ zs = [.non] ∧ SqL K H a (ns.map V.int) ∧ (ns = [] → Q .non H) ∧ ∀ m, m ∈ ns → (∀ j ∈ ns, m ≤ j) → Q (.int m) H
theorem cr_minDef {K : PySem.W.Frag} {k : Nat} (hr : Room k X.A) (hk : X.K = K) (hc : X.calm = true) : CallRK X (.builtin "min") [Str.ofString "default"] (rMinDef K) := by
  subst hk
  intro pins s σ H vs zs us ws Q I r rz h
  obtain ⟨a, ns, rfl, rfl, hs, q0, q1⟩ := h
  obtain rfl := Vals.ref1 r
  obtain ⟨w1, rfl, e1⟩ := vals1 rz
  obtain rfl : w1 = Value.none := e1
  obtain ⟨its, rv, pl, _⟩ := I.list hs
  have hi := rv.ints
  refine PySem.W.min_list_datum_default (α := Int) (xs := ns) (I.ok.hd hc) pl.isList (PySem.W.HoldAll.of_ints (by simpa using hi)) ?_ (fun e h' tk kk => ⟨.non, H, I.kept (t' := tk) kk, rfl, q0 e⟩) fun y ys i v h' tk e hv hv2 kk => ?_
  · have := hr.units
    have e : PySem.W.Datum.depth Int = 0 := rfl
    omega
  · obtain ⟨t, rfl⟩ := PySem.W.int_of_holds hv2
    have := minOf_is ys y
    rw [← e] at this
    exact ⟨.int _, H, I.kept (t' := tk) kk, ⟨t, rfl⟩, q1 _ this.1 this.2⟩
end
theorem cutV_from (xs : List V) (k : Nat) : cutV xs (some (k : Int)) none = xs.drop k := by
  unfold cutV
  rw [HT.sIx_nat, HT.sIx_none, List.take_of_length_le (by rw [List.length_drop]; exact Nat.le_refl _)]
  by_cases h : k ≤ xs.length
  · rw [Nat.min_eq_left h]
  · rw [Nat.min_eq_right (by omega), List.drop_of_length_le (Nat.le_refl _), List.drop_of_length_le (by omega)]
theorem cutV_to (xs : List V) (k : Nat) : cutV xs none (some (k : Int)) = xs.take k := by
  unfold cutV
  rw [HT.sIx_nat, HT.sIx_none, List.drop_zero, Nat.sub_zero]
  by_cases h : k ≤ xs.length
  · rw [Nat.min_eq_left h]
  · rw [Nat.min_eq_right (by omega), List.take_of_length_le (Nat.le_refl _), List.take_of_length_le (by omega)]
theorem cutV_last (xs : List V) : cutV xs none (some (-1)) = xs.dropLast := by
  unfold cutV
  rw [HT.sIx_none, List.drop_zero, Nat.sub_zero, List.dropLast_eq_take]
  congr 1
  unfold HT.sIx
  simp
  omega
theorem pi_list_ {X : Cx} {tg e : Expr} {te : TE} {K : PySem.W.Frag} (hk : X.K = K) (h : PE X e te) : PI X tg e (iList K te) := by
  subst hk
  exact pi_list h
/-- e.f as a target -/
def gFld (K : PySem.W.Frag) (ta : TE) (f : Str) : TG := fun v σ H Q => ta σ H fun x H1 => ∃ a C dx fs, x = .ref a ∧ H1 a = some (.ins C dx fs) ∧ Cls K C ∧ NoAttr K C f ∧ fs.length < 1000 ∧ Q σ (L2.upd H1 a (.ins C dx (putF f v fs)))
theorem pg_fld {X : Cx} {o : Expr} {ta : TE} {f : Str} {pos : Pos} (ha : PE X o ta) : PG X (.Attribute o f pos) (gFld X.K ta f) := by
  refine ⟨fun pins s σ H v u Q I r h => ?_⟩
  rw [assign_Attribute]
  refine wpAny_bind (wpAny_holding (thn (ha.run pins s σ H _ I h) fun ov s1 ⟨x, H1, I1, r1, a, C, dx, fs, ex, ea, c, n, l, q⟩ => ?_))
  subst ex
  obtain rfl : ov = Value.ref a := r1
  refine wpAny_bind (wpAny_standAt (wpAny_bind (wpAny_holding (setattr_ok I1 ea c n l r fun s3 I3 => ?_))))
  exact wpAny_release ⟨σ, _, I3, q⟩
/-! ## a comprehension's loop, of any body -/
theorem walk_B {J : It} {n : Nat} {G : Hp → Prop} {Y : Nat → Hp → V → Hp → Prop} (w : Walk J n G Y) {B : (Hp → Prop) → V → Hp → Prop} {H0 : Hp} {Qd : Hp → Prop} (Pv : Nat → Hp → Prop) (h0 : Pv 0 H0) (hG : ∀ i H, i ≤ n → Pv i H → G H)
    (hs : ∀ i x H H', i < n → Pv i H → Y i H x H' → B (Pv (i + 1)) x H') (hd : ∀ H, Pv n H → Qd H) :
    ∃ W : Nat → Nat → Hp → Prop, (∃ m, W 0 m H0) ∧ ∀ i m H, W i m H → (J.stop i H ∧ Qd H) ∨ (J.go i H ∧ ∃ Nx : Hp → Prop, (∀ H', Nx H' → ∃ m', m' < m ∧ W (i + 1) m' H') ∧ ∀ x H', J.yld i H x H' → B Nx x H') := by
  refine ⟨fun i m H => m = n - i ∧ i ≤ n ∧ Pv i H, ⟨n, by simp, Nat.zero_le _, h0⟩, ?_⟩
  rintro i m H ⟨rfl, hi, p⟩
  have q := hG i H hi p
  by_cases hlt : i < n
  · exact .inr ⟨w.goes i H hlt q, Pv (i + 1), fun H' p' => ⟨n - (i + 1), by omega, rfl, hlt, p'⟩, fun x H' y => hs i x H H' hlt p (w.yields i H x H' hlt q y)⟩
  · obtain rfl : i = n := by omega
    exact .inl ⟨w.stops H q, hd H p⟩
/-! ## joins, raises, makers -/
def rJoin (K : PySem.W.Frag) : V → List V → Hp → VK → Prop := fun x xs H Q => ∃ a p, ∃ ys : List Str, x = .str a ∧ xs = [.ref p] ∧ (SqL K H p (ys.map V.str) ∨ SqT K H p (ys.map V.str)) ∧ (ys.map (·.length)).sum + ys.length * a.length ≤ 16777216 ∧ Q (.str (Txt.join a ys)) H
section
variable {X : Cx} {o e : Expr} {es : List Expr} {to te : TE} {ta : TA} {apos pos : Pos}
theorem pe_join_ {K : PySem.W.Frag} (hk : X.K = K) (ho : PE X o to) (he : PE X e te) (hs : starEach [e] X.env = [(false, eval e X.env)] := by rfl) (hbase : attributeBase o "join" X.env (eval o X.env) = eval o X.env := by rfl) (hline : (apos.endLine == pos.line) = true := by rfl) :
    PE X (.Call (.Attribute o "join" apos) [e] [] pos) (tM1 (rJoin K) to te) := by
  subst hk
  exact pe_join ho he hs hbase hline
theorem ps_mono {st : Stmt} {t t' : TS} (h : PS X st t) (m : ∀ D σ H, t' D σ H → t D σ H) : PS X st t' := ⟨fun pins s σ H D I q => h.run pins s σ H D I (m D σ H q)⟩
end
end Dk
-- text Rules4
set_option maxHeartbeats 1000000
namespace Dk
open PySem PySem.Spec PyProof.Rows L2
section
variable {X : Cx}
def rCatN : R2 := fun x y H Q => ∃ l b xs zs, x = .ref l ∧ y = .ref b ∧ H l = some (.lst xs) ∧ H b = some (.lst zs) ∧ xs.length + zs.length ≤ sizeLine ∧ ∀ p H', New H p (.lst (xs ++ zs)) H' → Q (.ref p) H'
theorem op_catN : OpR X (binaryOp .Add) rCatN := by
  intro pins s σ H x y v u Q I rx ry h
  obtain ⟨l, b, xs, zs, h1, h2, h3, h4, h5, q⟩ := h
  exact op_cat pins s σ H x y v u Q I rx ry ⟨l, b, xs, zs, h1, h2, h3, h4, h5, fun p hp => q p _ (new_of hp)⟩
def rRepN : R2 := fun x y H Q => ∃ l k xs, x = .ref l ∧ y = .int k ∧ H l = some (.lst xs) ∧ -(2 ^ 63) ≤ k ∧ k < 2 ^ 63 ∧ xs.length * k.toNat ≤ sizeLine ∧ ∀ p H', New H p (.lst (List.replicate k.toNat xs).flatten) H' → Q (.ref p) H'
theorem op_repN : OpR X (binaryOp .Mult) rRepN := by
  intro pins s σ H x y v u Q I rx ry h
  obtain ⟨l, k, xs, h1, h2, h3, h4, h5, h6, q⟩ := h
  exact op_rep pins s σ H x y v u Q I rx ry ⟨l, k, xs, h1, h2, h3, h4, h5, h6, fun p hp => q p _ (new_of hp)⟩
/-! ## list(text) -/
def sgs (z : Str) : List Str := (tl z).map sg
def rListStr : List V → Hp → VK → Prop := fun vs H Q => ∃ z : Str, vs = [.str z] ∧ z.length ≤ 16777216 ∧ ∀ p H', New H p (.lst ((sgs z).map V.str)) H' → Q (.ref p) H'
theorem signs_vals {z : Str} {acc : Array Value} (h : ItemsOf (SignAt z) acc z.cps.size) : Vals ((sgs z).map V.str) acc.toList := by
  refine paired_of_get (by simp [sgs, h.1]) fun i a b h1 h2 => ?_
  obtain ⟨c, u, hc, rfl⟩ := h.2 i b (by simpa using h2)
  rw [sgs, List.map_map, List.getElem?_map] at h1
  have e : (tl z)[i]? = some c := by simpa using hc
  rw [e] at h1
  cases h1
  exact ⟨u, rfl⟩
theorem call_listStr (hc : X.calm = true) : CallR X (.type "list") rListStr := by
  intro pins s σ H vs us Q I r h
  obtain ⟨z, rfl, hz, q⟩ := h
  obtain ⟨w1, rfl, t, e1⟩ := vals1 r
  subst e1
  refine call_list_str (I.ok.hd hc) z t (hn := by rw [sizeLine_eq]; exact hz) fun h' tk acc c k ho ia => ?_
  have hn : H s.heap.objs.size = none := I.hok.fresh (Nat.le_refl _)
  refine ⟨.ref _, upd H s.heap.objs.size (.lst ((sgs z).map V.str)), I.laid (t' := tk) k (Nat.le_refl _) ⟨by simp [sgs, sizeLine_eq]; exact hz, acc.toList, c, signs_vals ia, by simpa using ho⟩, rfl, q _ _ (new_of hn)⟩
/-! ## dict(pairs of a cell and True) -/
def PairC (H : Hp) (p : Addr) (tc : Addr × Cell) : Prop := H p = some (.tup [.ref tc.1, .bl true]) ∧ CellV H tc.1 tc.2
def rDictC (K : PySem.W.Frag) : List V → Hp → VK → Prop := fun vs H Q => ∃ (a : Addr) (ps : List Addr) (tcs : List (Addr × Cell)), vs = [.ref a] ∧ SqL K H a (ps.map V.ref) ∧ Paired (PairC H) ps tcs ∧ tcs.length < 16777216 ∧
  ∀ p H', New H p (.dT (trueD ((tcs.map (·.2)).foldl insC []))) H' → Q (.ref p) H'
def trip (tc : Addr × Cell) : List Key × Addr × Value := (kc tc.2, tc.1, .bool true)
theorem kt_trips {H : Hp} : ∀ (tcs : List (Addr × Cell)) (S : List Cell) (xs : List (List Key × Addr × Value)), (∀ tc ∈ tcs, CellV H tc.1 tc.2) → KT H (trueD S) xs → KT H (trueD ((tcs.map (·.2)).foldl insC S)) (storedAllH xs (tcs.map trip))
  | [], S, xs, _, h => h
  | tc :: tcs, S, xs, hc, h => by
    have h1 := h.put (kc tc.2) (b := tc.1) (y := .bl true) (u := .bool true) (hc tc List.mem_cons_self) rfl
    rw [putK_trueD] at h1
    exact kt_trips tcs _ _ (fun x hx => hc x (List.mem_cons_of_mem _ hx)) h1
theorem call_dictC {k : Nat} (hr : Room k X.A) (hc : X.calm = true) : CallR X (.type "dict") (rDictC X.K) := by
  intro pins s σ H vs us Q I r h
  obtain ⟨a, ps, tcs, rfl, ha, hp, hl, q⟩ := h
  rw [Vals.ref1 r]
  obtain ⟨its, rv, pl, _⟩ := I.list ha
  have ei := refs_at rv
  subst ei
  obtain ⟨o, n, ho, hcl, hd, hdat⟩ := pl
  have lp := hp.length
  have cells : ∀ tc ∈ tcs, CellV H tc.1 tc.2 := fun tc ht => by
    obtain ⟨i, hi, e⟩ := List.mem_iff_getElem.mp ht
    obtain ⟨b, hb1, hb2⟩ := paired_at2 hp (i := i) (b := tc) (by rw [List.getElem?_eq_getElem hi, e])
    exact hb2.2
  have pr : PairItems s.heap (ps.map Value.ref).toArray (fun j => ps.getD j 0) (tcs.map fun tc => (Value.ref tc.1, Value.bool true)) := by
    refine ⟨by simp [lp], fun j k v e => ?_⟩
    rw [List.getElem?_map] at e
    cases q : tcs[j]? with
    | none => rw [q] at e; cases e
    | some tc =>
      rw [q] at e
      simp at e
      obtain ⟨e1, e2⟩ := e
      subst e1 e2
      obtain ⟨b, hb1, hb2, hb3⟩ := paired_at2 hp q
      refine ⟨by simp [hb1, List.getD], .inl ?_⟩
      obtain ⟨its, r2, p2, _⟩ := I.tuple (SqT.of (K := X.K) hb2)
      obtain ⟨u1, u2, e, ru1, ru2⟩ := vals2 r2
      subst e
      obtain rfl : u1 = Value.ref tc.1 := ru1
      obtain rfl : u2 = Value.bool true := ru2
      have : ps.getD j 0 = b := by rw [List.getD, hb1]; rfl
      show s.heap.IsTuple (ps.getD j 0) _
      rw [this]
      obtain ⟨o, z1, z2, n, z3⟩ := p2
      exact ⟨o, z1, z2, n, by simpa using z3⟩
  have hn : H s.heap.objs.size = none := I.hok.fresh (Nat.le_refl _)
  refine call_dict_pairsH (knd := tupleKind (mixKind X.prog X.w)) (ps := tcs.map trip) (PairArg.list a (ps.map Value.ref).toArray (fun j => ps.getD j 0) (tcs.map fun tc => (Value.ref tc.1, Value.bool true))) (I.ok.hd hc) ?_ ⟨⟨o, n, ho, hcl, hd, hdat⟩, pr⟩ ⟨by simp, fun i key v e => ?_⟩ ?_ (by simp [sizeLine_eq]; omega) fun h' tk hd' hk => ?_
  · show X.A.in1.in1.units < cLine
    have := hr.units
    simp only [units_in1]
    omega
  · rw [PairRel, List.getElem?_map] at e
    cases q : tcs[i]? with
    | none => rw [q] at e; cases e
    | some tc =>
      rw [q] at e
      simp at e
      refine ⟨kc tc.2, tc.1, by rw [List.getElem?_map, q, ← e.2]; rfl, e.1.symm⟩
  · intro h' kk x hx
    obtain ⟨tc, htc, rfl⟩ := List.mem_map.mp hx
    obtain ⟨o, its, n, z1, z2, z3, z4⟩ := key_of (ks := kc tc.2) I.hok (cells tc htc)
    exact ⟨o, its, n, kk _ _ (Nat.ne_of_lt (Heap.lt_size z1)) (by simp) z1, z2, z3, z4⟩
  · have kt : KT H (trueD ((tcs.map (·.2)).foldl insC [])) (storedAllH [] (tcs.map trip)) := kt_trips tcs [] [] cells .nil
    have le : (trueD ((tcs.map (·.2)).foldl insC [])).length ≤ sizeLine := by
      have := foldl_insC_len (tcs.map (·.2)) []
      rw [trueD_len, sizeLine_eq]
      simp at this
      omega
    have hm : (s.heap.objs.size == sysModules) = false := beq_eq_false_iff_ne.mpr (Nat.ne_of_gt I.big)
    refine ⟨.ref _, upd H s.heap.objs.size (.dT _), I.laid (t' := tk) (fun b o e => hk b o (by simp) e) (Nat.le_refl _) (dt_obj le hm (kt.keeps fun b ys e => ?_) hd'), rfl, q _ _ (new_of hn)⟩
    exact same_new hn _ _ e
end
/-! ## a cell in a list of cells -/
def cdat (c : Cell) : PyData := .tuple [.int c.1, .int c.2]
theorem dp_cell {K : PySem.W.Frag} {H : Hp} {t : Addr} {c : Cell} (h : CellV H t c) : Dp K H (.ref t) (cdat c) := .tup (SqT.of h) (.cons (.int _) (.cons (.int _) .nil))
theorem dp_cells {K : PySem.W.Frag} {H : Hp} : ∀ {ts : List Addr} {cs : List Cell}, Cells H ts cs → DpAll K H (ts.map V.ref) (cs.map cdat)
  | _, _, .nil => .nil
  | _, _, .cons r q => .cons (dp_cell r) (dp_cells q)
theorem lay_cells : ∀ cs : List Cell, PyData.canLayAll0 (cs.map cdat) = true
  | [] => by simp [PyData.canLayAll0]
  | c :: cs => by simp [PyData.canLayAll0, lay_cells cs, cdat, PyData.canLay0]
theorem dep_cell (c : Cell) : (cdat c).depth ≤ 2 := by simp [cdat, PyData.depth, PyData.depthAll]
theorem dep_cells : ∀ cs : List Cell, PyData.depthAll (cs.map cdat) ≤ 2
  | [] => by simp [PyData.depthAll]
  | c :: cs => by
    have a := dep_cell c
    have b := dep_cells cs
    simp only [List.map_cons, PyData.depthAll]
    omega
theorem sh_cell (c : Cell) : SeqAt.shaped (cdat c) = true := by
  unfold SeqAt.shaped
  rw [show (cdat c).canLay0 = true by simp [cdat, PyData.canLay0, PyData.canLayAll0], decide_eq_true (by have := dep_cell c; omega)]
  rfl
theorem sh_cells (cs : List Cell) : SeqAt.shaped (.list (cs.map cdat)) = true := by
  unfold SeqAt.shaped
  have d := dep_cells cs
  rw [show (PyData.list (cs.map cdat)).canLay0 = true by simp only [PyData.canLay0]; exact lay_cells cs, decide_eq_true (by simp only [PyData.depth]; omega)]
  rfl
theorem eqv_cell (a b : Cell) : PyData.eqv (cdat a) (cdat b) = decide (a = b) := by
  simp only [cdat, PyData.eqv, PyData.eqvAll, Bool.and_true]
  rw [Bool.eq_iff_iff]
  simp [Prod.ext_iff]
theorem any_cell (c : Cell) : ∀ cs : List Cell, ((cs.map cdat).any fun z => PyData.eqv z (cdat c)) = decide (c ∈ cs)
  | [] => by simp
  | d :: cs => by
    rw [List.map_cons, List.any_cons, any_cell c cs, eqv_cell, ← Bool.decide_or]
    exact decide_eq_decide.mpr (by rw [List.mem_cons]; exact or_congr eq_comm Iff.rfl)
section
variable {X : Cx}
def rInC (K : PySem.W.Frag) (f : Bool → Bool) : R2 := fun x y H Q => ∃ t c a ts cs, x = .ref t ∧ CellV H t c ∧ y = .ref a ∧ SqL K H a (ts.map V.ref) ∧ Cells H ts cs ∧ Q (.bl (f (decide (c ∈ cs)))) H
theorem op_inC {k : Nat} (hr : Room k X.A) : OpR X (compareOp .In) (rInC X.K fun b => b) := by
  intro pins s σ H x y v u Q I rx ry h
  obtain ⟨t, c, a, ts, cs, rfl, hc, rfl, ha, hcs, q⟩ := h
  refine op_inD (by have := hr.un; omega) pins s σ H _ _ v u Q I rx ry ⟨cdat c, cs.map cdat, dp_cell hc, .lst ha (dp_cells hcs), sh_cell c, sh_cells cs, ?_⟩
  rw [any_cell]; exact q
theorem op_notInC {k : Nat} (hr : Room k X.A) : OpR X (compareOp .NotIn) (rInC X.K fun b => !b) := by
  intro pins s σ H x y v u Q I rx ry h
  obtain ⟨t, c, a, ts, cs, rfl, hc, rfl, ha, hcs, q⟩ := h
  refine op_notInD (by have := hr.un; omega) pins s σ H _ _ v u Q I rx ry ⟨cdat c, cs.map cdat, dp_cell hc, .lst ha (dp_cells hcs), sh_cell c, sh_cells cs, ?_⟩
  rw [any_cell]; exact q
end
end Dk
-- text A
set_option maxHeartbeats 1000000
namespace Dk
open PySem PySem.Spec PyProof.Rows L2
local macro_rules | `(tactic| walk_at "rd") => `(tactic| simp only [tRet, tRetN, tSeq, tAsg, tIfS, tB, tVar, tC, tCons, tNil, tCB, tCall, tOp, tUn, rI0, rI, rU, rEq, rNe, gName, tAnd, tOr, tNot, tAndV, tOrV, tNotV, tIf, tTest, tChain, tDrop, tNext, tBreak, tCont, tTup, tLst, tBM, tBM0, tM0, tM1, tSl, tPart, tNoPart, tPar,
  rIs, rIs2, rIxL, rIxT, rIxS, rAppend, rExtend, rPop, rPopAt, gTup, gCons, gNil, gSub, tYes, wipe, tD1, tDcC, rListC, rSortC, rEmp, rJoin, tM1, gFld, tFld, sFld, rMinDef, tCKw, StX.tStar, rLen, tDGet2, tNo, tScN, rSortTx, rSetTx, iKeys, tPar3, sDPut, tFor_eq, iList, iEnum, iStr, iZip, cxK, cxP, cxW, tTup_, tLst_, tDNewK_, tDNewT_, rSlL_, rListOf_, rCatN, rRepN, rListStr, iRng1, rLenT, rInC, rDictC, sizeLine_eq, Nat.reduceLeDiff, Bool.true_or, Bool.false_or, Bool.or_true, Bool.or_false, Bool.true_and, Bool.false_and, Bool.and_true, Bool.and_false, Bool.not_true, Bool.not_false, Bool.not_eq_true', decide_eq_true_eq, decide_eq_false_iff_not, scal, isT_Non_boo, isT_Non_int, isT_Non_str, isT_Non_lis, isT_Non_tup, isT_Non_dic, isT_boo_boo, isT_boo_int, isT_boo_str, isT_boo_lis, isT_boo_tup, isT_boo_dic, isT_int_boo, isT_int_int, isT_int_str, isT_int_lis, isT_int_tup, isT_int_dic, isT_str_boo, isT_str_int, isT_str_str, isT_str_lis, isT_str_tup, isT_str_dic, isT_lis_boo, isT_lis_int, isT_lis_str, isT_lis_lis, isT_lis_tup, isT_lis_dic, isT_tup_boo, isT_tup_int, isT_tup_str, isT_tup_lis, isT_tup_tup, isT_tup_dic, isT_dic_boo, isT_dic_int, isT_dic_str, isT_dic_lis, isT_dic_tup, isT_dic_dic, kit_Non, kit_boo, kit_int, kit_str, kit_lis, kit_tup, kit_dic, sg_inj, vt_non, vt_bl, vt_int, vt_str, len_str, tDGet, tDIn, tDNotIn,
  L2.start, List.map_cons, List.map_nil, List.length_cons, List.length_nil, List.cons_append, List.nil_append, List.append_nil, Nat.zero_add, Nat.reduceAdd, Nat.reduceSub, Nat.sub_zero, Nat.sub_self, List.replicate_succ, List.replicate_zero,
  List.getElem?_cons_zero, List.getElem?_cons_succ, List.getElem?_nil, List.set_cons_zero, List.set_cons_succ, List.cons.injEq, Option.some.injEq, V.int.injEq, V.str.injEq, V.bl.injEq, V.ref.injEq, V.ty.injEq, reduceCtorEq,
  and_assoc, and_true, true_and, false_and, and_false, exists_eq_left, exists_eq_left', exists_eq', exists_eq_right, exists_eq_right', exists_and_left, exists_and_right, exists_const, exists_false, exists_eq, if_true, if_false, Bool.false_eq_true, Bool.true_eq, decide_true, decide_false, ite_self])
section
variable {P : Program} {w : World} {K : PySem.W.Frag} {mg : Str → Option Value} {base : Heap}
/-! ## words.py -/
def sp_is_whole : Sp := fun vs H Q _ => ∃ i : Int, vs = [.int i] ∧ Q (.bl true) H
theorem c_is_whole (T : Tx K mg) (D : Df K mg "is_whole" s_is_whole) : Cal P w K mg base CX0 1 "is_whole" p_is_whole (sp_is_whole) := by
  have S := sc_is_whole
  refine cal0 D S (fun _ _ _ _ _ _ us hl => match us, hl with | [_], _ => rfl) (fun vs H Q E h => ?_) (fun f cdv A outer s H vs Q E hr h => ?_)
  · obtain ⟨_, rfl, _⟩ := h
    rfl
  refine ⟨_, (pss_one (ps_ret (pe_and (pe_callB (id := "isinstance") call_is (by rfl) (T.fr _ (by decide)) (by decide +kernel) (pa_cons (pv 0) (pa_cons (pe_bltn (v := .ty "int") (by rfl) (T.fr _ (by decide)) (by decide +kernel) rfl) pa_nil))) (pe_one (pe_not (pe_callB (id := "isinstance") call_is (by rfl) (T.fr _ (by decide)) (by decide +kernel) (pa_cons (pv 0) (pa_cons (pe_bltn (v := .ty "bool") (by rfl) (T.fr _ (by decide)) (by decide +kernel) rfl) pa_nil)))))))), ?_⟩
  obtain ⟨i, rfl, q⟩ := h
  walk_at "rd"
  exact q
def sp_is_number : Sp := fun vs H Q _ => ∃ i lo hi : Int, vs = [.int i, .int lo, .int hi] ∧ Q (.bl (decide (lo ≤ i) && decide (i ≤ hi))) H
theorem c_is_number (T : Tx K mg) (D : Df K mg "is_number" s_is_number) (c_is_whole : Cal P w K mg base CX0 1 "is_whole" p_is_whole (sp_is_whole)) : Cal P w K mg base CX0 2 "is_number" p_is_number (sp_is_number) := by
  have S := sc_is_number
  refine cal0 D S (fun _ _ _ _ _ _ us hl => match us, hl with | [_, _, _], _ => rfl) (fun vs H Q E h => ?_) (fun f cdv A outer s H vs Q E hr h => ?_)
  · obtain ⟨_, _, _, rfl, _⟩ := h
    rfl
  refine ⟨_, (pss_one (ps_ret (pe_and (pe_fn c_is_whole hr (pa_cons (pv 0) pa_nil)) (pe_one (pe_chain op_le op_le (pv 1) (pv 0) (pv 2)))))), ?_⟩
  obtain ⟨i, lo, hi, rfl, q⟩ := h
  walk_at "rd"
  refine ⟨i, rfl, true, rfl, ?_⟩
  walk_at "rd"
  split <;> simp_all
def sp_is_name : Sp := fun vs H Q _ => ∃ z : Str, vs = [.str z] ∧ z.length ≤ sizeLine ∧ ∀ H', Same H H' → Q (.bl (nameB z)) H'
theorem c_is_name (T : Tx K mg) (D : Df K mg "is_name" s_is_name) : Cal P w K mg base CX0 1 "is_name" p_is_name (sp_is_name) := by
  have S := sc_is_name
  refine cal0 D S (fun _ _ _ _ _ _ us hl => match us, hl with | [_], _ => rfl) (fun vs H Q E h => ?_) (fun f cdv A outer s H vs Q E hr h => ?_)
  · obtain ⟨_, rfl, _⟩ := h
    rfl
  refine ⟨_, (pss_cons (ps_if (PW.pt (pw_or (pt_not (pt_val (pe_callB (id := "isinstance") call_is (by rfl) (T.fr _ (by decide)) (by decide +kernel) (pa_cons (pv 0) (pa_cons (pe_bltn (v := .ty "str") (by rfl) (T.fr _ (by decide)) (by decide +kernel) rfl) pa_nil))))) (pw_or1 (pt_not (pt_chain op_le op_le pe_int (pe_callB (id := "len") (r := rLen K) (call_len_ rfl) (by rfl) (T.fr _ (by decide)) (by decide +kernel) (pa_cons (pv 0) pa_nil)) (pe_conI T.ml)))))) (pss_one (ps_ret pe_bl)) pss_nil)
      (pss_one (ps_ret (pe_callB (id := "all") (cr_all rfl) (by rfl) (T.fr _ (by decide)) (by decide +kernel) (pa_cons (pe_lc (own := [("letter", 1)]) (g := gName 1) rfl S.nd (pi_str (pv 0)) (blkOk_by (N := N_is_name) (sc := defScope s_is_name) (by decide +kernel)) (fun _ _ _ _ _ => (pg_name (i := 1) S.nd rfl (by first | exact Or.inl rfl | exact Or.inr rfl))) (fun _ _ _ _ _ => pts_nil) (fun _ _ _ _ _ => (pe_cmpR op_in_sign (pv 1) (pe_conS T.letters) (by rfl)))) pa_nil))))), ?_⟩
  obtain ⟨z, rfl, hz, q⟩ := h
  rw [sizeLine_eq] at hz
  walk_at "rd"
  refine ⟨hz, ite2 (fun a1 => ite2 (fun a2 => ?_) fun a2 => ?_) fun a1 => ?_⟩
  · have := q H (Same.refl H)
    rwa [show nameB z = false from by unfold nameB; rw [decide_eq_false (show ¬ z.length ≤ 6 by omega)]; simp] at this
  · refine ⟨_, rfl, z, rfl, fun D hD => lc_it (walk_str (z := z)) (LcInv H D fun acc i _ => acc = ((tl z).take i).map fun c => V.bl (decide (c ∈ tl LET))) (lc0 hD (by simp)) (fun _ _ _ _ => trivial) (fun i x H1 H2 hi ⟨acc, ha, hl, s1, r⟩ y => ?_) (fun H1 ⟨acc, ha, hl, s1, r⟩ => ?_)⟩
    · obtain ⟨rfl, c, hc, rfl⟩ := y
      walk_at "rd"
      refine lcKeep hD ha hl hi hz s1 ?_
      have this : (tl z)[i]? = some c := by simpa using hc
      show acc ++ _ = _
      rw [r, take_get this]
      simp
    · refine ⟨D, (tl z).map fun c => decide (c ∈ tl LET), rfl, SqL.of (by rw [ha, show acc = _ from r, List.take_of_length_le (by simp)]; simp [Function.comp_def]), ?_⟩
      have := q H1 s1
      rw [show nameB z = ((tl z).map fun c => decide (c ∈ tl LET)).all id from by unfold nameB; rw [decide_eq_true (show 1 ≤ z.length by omega), decide_eq_true (show z.length ≤ 6 by omega)]; simp [Function.comp_def]] at this
      exact this
  · have := q H (Same.refl H)
    rwa [show nameB z = false from by unfold nameB; rw [decide_eq_false (show ¬ 1 ≤ z.length by omega)]; simp] at this
def sp_is_cell : Sp := fun vs H Q _ => ∃ (t : Addr) (c : Cell), vs = [.ref t] ∧ CellV H t c ∧ Q (.bl (cellB c)) H
theorem c_is_cell (T : Tx K mg) (D : Df K mg "is_cell" s_is_cell) (c_is_number : Cal P w K mg base CX0 2 "is_number" p_is_number (sp_is_number)) : Cal P w K mg base CX0 3 "is_cell" p_is_cell (sp_is_cell) := by
  have S := sc_is_cell
  refine cal0 D S (fun _ _ _ _ _ _ us hl => match us, hl with | [_], _ => rfl) (fun vs H Q E h => ?_) (fun f cdv A outer s H vs Q E hr h => ?_)
  · obtain ⟨_, _, rfl, _⟩ := h
    rfl
  refine ⟨_, (pss_cons (ps_if (PW.pt (pw_or (pt_not (pt_val (pe_callB (id := "isinstance") call_is (by rfl) (T.fr _ (by decide)) (by decide +kernel) (pa_cons (pv 0) (pa_cons (pe_bltn (v := .ty "tuple") (by rfl) (T.fr _ (by decide)) (by decide +kernel) rfl) pa_nil))))) (pw_or1 (pt_cmpR op_ne (pe_callB (id := "len") (r := rLen K) (call_len_ rfl) (by rfl) (T.fr _ (by decide)) (by decide +kernel) (pa_cons (pv 0) pa_nil)) pe_int (nomark _))))) (pss_one (ps_ret pe_bl)) pss_nil)
      (pss_one (ps_ret (pe_and (pe_fn c_is_number hr (pa_cons (pe_ix (r := rIxT K) ix_tup (pv 0) pe_int (fun _ _ => rfl)) (pa_cons pe_int (pa_cons (pe_conI T.la) pa_nil)))) (pe_one (pe_fn c_is_number hr (pa_cons (pe_ix (r := rIxT K) ix_tup (pv 0) pe_int (fun _ _ => rfl)) (pa_cons pe_int (pa_cons (pe_conI T.la) pa_nil))))))))), ?_⟩
  obtain ⟨t, c, rfl, hc, q⟩ := h
  walk_at "rd"
  refine ⟨"tuple", .tup hc, ?_⟩
  walk_at "rd"
  refine len_ofT hc ?_
  walk_at "rd"
  refine ⟨_, SqT.of hc, _, rfl, c.1, 0, 11, rfl, _, rfl, ite2 (fun a1 => ?_) fun a1 => ?_⟩
  · refine ⟨_, SqT.of hc, _, rfl, c.2, 0, 11, rfl, ?_⟩
    unfold cellB at q
    rwa [a1] at q
  · unfold cellB at q
    rwa [show (decide (0 ≤ c.1) && decide (c.1 ≤ 11)) = false by simpa using a1] at q
def sp_beside : Sp := fun vs H Q _ => ∃ (t : Addr) (c : Cell), vs = [.ref t] ∧ CellV H t c ∧ ∀ H' p, Same H H' → H p = none → CellL H' p ((nb c).filter cellB) → Q (.ref p) H'
theorem c_beside (T : Tx K mg) (D : Df K mg "beside" s_beside) (c_is_cell : Cal P w K mg base CX0 3 "is_cell" p_is_cell (sp_is_cell)) : Cal P w K mg base CX0 4 "beside" p_beside (sp_beside) := by
  have S := sc_beside
  refine cal0 D S (fun _ _ _ _ _ _ us hl => match us, hl with | [_], _ => rfl) (fun vs H Q E h => ?_) (fun f cdv A outer s H vs Q E hr h => ?_)
  · obtain ⟨_, _, rfl, _⟩ := h
    rfl
  refine ⟨_, (pss_cons (ps_asg (pv 0) (pg_tup (n := 2) rfl (pgs_cons (pg_name (i := 1) S.nd rfl (by first | exact Or.inl rfl | exact Or.inr rfl)) (pgs_cons (pg_name (i := 2) S.nd rfl (by first | exact Or.inl rfl | exact Or.inr rfl)) pgs_nil))))
      (pss_cons (ps_set (i := 3) S.nd rfl (by first | exact Or.inl rfl | exact Or.inr rfl) (pe_lst_ (pa_cons (pe_tup_ (pa_cons (pe_op op_sub (pv 1) pe_int) (pa_cons (pv 2) pa_nil))) (pa_cons (pe_tup_ (pa_cons (pv 1) (pa_cons (pe_op op_sub (pv 2) pe_int) pa_nil))) (pa_cons (pe_tup_ (pa_cons (pv 1) (pa_cons (pe_op op_add (pv 2) pe_int) pa_nil))) (pa_cons (pe_tup_ (pa_cons (pe_op op_add (pv 1) pe_int) (pa_cons (pv 2) pa_nil))) pa_nil))))))
      (pss_one (ps_ret (pe_lc (own := [("place", 4)]) (g := gName 4) rfl S.nd (pi_list (pv 3)) (blkOk_by (N := N_beside) (sc := defScope s_beside) (by decide +kernel)) (fun _ _ _ _ _ => (pg_name (i := 4) S.nd rfl (by first | exact Or.inl rfl | exact Or.inr rfl))) (fun _ _ _ _ _ => (pts_one (pt_val (pe_fn c_is_cell hr (pa_cons (pv 4) pa_nil))))) (fun _ _ _ _ _ => (pv 4))))))), ?_⟩
  obtain ⟨t, c, rfl, hc, q⟩ := h
  walk_at "rd"
  refine ⟨_, SqT.of hc, rfl, _, _, rfl, _, _, rfl, rfl, _, rfl, fun p1 H1 n1 => ⟨_, rfl, fun p2 H2 n2 => ⟨_, rfl, fun p3 H3 n3 => ⟨_, rfl, fun p4 H4 n4 => fun p5 H5 n5 => ?_⟩⟩⟩⟩
  have s45 := n5.same
  have s35 := n4.same.trans s45
  have s25 := n3.same.trans s35
  have s15 := n2.same.trans s25
  have s05 := n1.same.trans s15
  have cc : Cells H5 [p1, p2, p3, p4] (nb c) := .cons (s15 _ _ n1.at_) (.cons (s25 _ _ n2.at_) (.cons (s35 _ _ n3.at_) (.cons (s45 _ _ n4.at_) .nil)))
  refine ⟨_, rfl, p5, rfl, ⟨_, SqL.of n5.at_⟩, fun D hD => lc_it (walk_list (xs := [p1, p2, p3, p4].map V.ref)) (LcInv H5 D fun acc i H' => ∃ ts, acc = ts.map V.ref ∧ Cells H' ts (((nb c).take i).filter cellB)) (lc0 hD ⟨[], rfl, .nil⟩) (fun _ _ _ ⟨_, _, _, s, _⟩ => SqL.of (s _ _ n5.at_)) (fun i x H6 H7 hi ⟨acc, ha, hl, s1, ts, e, r⟩ y => ?_) (fun H6 ⟨acc, ha, hl, s1, ts, e, r⟩ => ?_)⟩
  · obtain ⟨rfl, hx⟩ := y
    obtain ⟨u, hu, rfl⟩ := map_ref_get hx
    obtain ⟨d, hd, cd⟩ := cc.get hu
    walk_at "rd"
    refine ⟨u, d, rfl, s1 _ _ cd, _, rfl, ite2 (fun a => ?_) fun a => ?_⟩
    · refine lcKeep hD ha hl hi (by simp) s1 ⟨ts ++ [u], by rw [e]; simp, ?_⟩
      rw [take_get hd, List.filter_append]
      simp only [List.filter_cons, a, List.filter_nil, if_true]
      exact (r.updL ha).app (.cons (CellV.updL ha (s1 _ _ cd)) .nil)
    · refine lcSkip ha hl s1 ⟨ts, e, ?_⟩
      rw [take_get hd, List.filter_append]
      simpa [a] using r
  · exact q _ _ (s05.trans s1) (none_of s05 hD) ⟨ts, by rw [ha, e], r⟩
end
end Dk
-- text B
set_option maxHeartbeats 1000000
namespace Dk
open PySem PySem.Spec PyProof.Rows L2
local macro_rules | `(tactic| walk_at "rd") => `(tactic| simp only [tRet, tRetN, tSeq, tAsg, tIfS, tB, tVar, tC, tCons, tNil, tCB, tCall, tOp, tUn, rI0, rI, rU, rEq, rNe, gName, tAnd, tOr, tNot, tAndV, tOrV, tNotV, tIf, tTest, tChain, tDrop, tNext, tBreak, tCont, tTup, tLst, tBM, tBM0, tM0, tM1, tSl, tPart, tNoPart, tPar,
  rIs, rIs2, rIxL, rIxT, rIxS, rAppend, rExtend, rPop, rPopAt, gTup, gCons, gNil, gSub, tYes, wipe, tD1, tDcC, rListC, rSortC, rEmp, rJoin, tM1, gFld, tFld, sFld, rMinDef, tCKw, StX.tStar, rLen, tDGet2, tNo, tScN, rSortTx, rSetTx, iKeys, tPar3, sDPut, tFor_eq, iList, iEnum, iStr, iZip, cxK, cxP, cxW, tTup_, tLst_, tDNewK_, tDNewT_, rSlL_, rListOf_, rCatN, rRepN, rListStr, iRng1, rLenT, rInC, rDictC, sizeLine_eq, Nat.reduceLeDiff, Bool.true_or, Bool.false_or, Bool.or_true, Bool.or_false, Bool.true_and, Bool.false_and, Bool.and_true, Bool.and_false, Bool.not_true, Bool.not_false, Bool.not_eq_true', decide_eq_true_eq, decide_eq_false_iff_not, scal, isT_Non_boo, isT_Non_int, isT_Non_str, isT_Non_lis, isT_Non_tup, isT_Non_dic, isT_boo_boo, isT_boo_int, isT_boo_str, isT_boo_lis, isT_boo_tup, isT_boo_dic, isT_int_boo, isT_int_int, isT_int_str, isT_int_lis, isT_int_tup, isT_int_dic, isT_str_boo, isT_str_int, isT_str_str, isT_str_lis, isT_str_tup, isT_str_dic, isT_lis_boo, isT_lis_int, isT_lis_str, isT_lis_lis, isT_lis_tup, isT_lis_dic, isT_tup_boo, isT_tup_int, isT_tup_str, isT_tup_lis, isT_tup_tup, isT_tup_dic, isT_dic_boo, isT_dic_int, isT_dic_str, isT_dic_lis, isT_dic_tup, isT_dic_dic, kit_Non, kit_boo, kit_int, kit_str, kit_lis, kit_tup, kit_dic, sg_inj, vt_non, vt_bl, vt_int, vt_str, len_str, tDGet, tDIn, tDNotIn,
  L2.start, List.map_cons, List.map_nil, List.length_cons, List.length_nil, List.cons_append, List.nil_append, List.append_nil, Nat.zero_add, Nat.reduceAdd, Nat.reduceSub, Nat.sub_zero, Nat.sub_self, List.replicate_succ, List.replicate_zero,
  List.getElem?_cons_zero, List.getElem?_cons_succ, List.getElem?_nil, List.set_cons_zero, List.set_cons_succ, List.cons.injEq, Option.some.injEq, V.int.injEq, V.str.injEq, V.bl.injEq, V.ref.injEq, V.ty.injEq, reduceCtorEq,
  and_assoc, and_true, true_and, false_and, and_false, exists_eq_left, exists_eq_left', exists_eq', exists_eq_right, exists_eq_right', exists_and_left, exists_and_right, exists_const, exists_false, exists_eq, if_true, if_false, Bool.false_eq_true, Bool.true_eq, decide_true, decide_false, ite_self])
theorem CellL.upd {H : Hp} {a e : Addr} {cs : List Cell} {o u : HO} (h : CellL H a cs) (he : H e = some o) (n : ∀ xs, o ≠ .tup xs) (ne : a ≠ e) : CellL (L2.upd H e u) a cs := by
  obtain ⟨ts, h1, h2⟩ := h
  exact ⟨ts, by rw [upd_ne ne]; exact h1, Cells.upd he h2 n⟩
/-- a list of lists of cells at p -/
def GrpL (H : Hp) (p : Addr) (gs : List (List Cell)) : Prop := ∃ as, H p = some (.lst (as.map V.ref)) ∧ Paired (CellL H) as gs
theorem GrpL.same {H H' : Hp} {p : Addr} {gs : List (List Cell)} (s : Same H H') (h : GrpL H p gs) : GrpL H' p gs := by
  obtain ⟨as, h1, h2⟩ := h
  exact ⟨as, s _ _ h1, Paired.mapP h2 fun _ _ z => z.same s⟩
section
variable {P : Program} {w : World} {K : PySem.W.Frag} {mg : Str → Option Value} {base : Heap}
def sp_check_cells : Sp := fun vs H Q _ => ∃ (a : Addr) (cs : List Cell), vs = [.ref a] ∧ CellL H a cs ∧ cs.Nodup ∧ (∀ c ∈ cs, cellB c = true) ∧ cs.length ≤ 1000 ∧ ∀ H', Same H H' → Q .non H'
theorem c_check_cells (T : Tx K mg) (D : Df K mg "check_cells" s_check_cells) (c_is_cell : Cal P w K mg base CX0 3 "is_cell" p_is_cell (sp_is_cell)) : Cal P w K mg base CX0 4 "check_cells" p_check_cells (sp_check_cells) := by
  have S := sc_check_cells
  refine cal0 D S (fun _ _ _ _ _ _ us hl => match us, hl with | [_], _ => rfl) (fun vs H Q E h => ?_) (fun f cdv A outer s H vs Q E hr h => ?_)
  · obtain ⟨_, _, rfl, _⟩ := h
    rfl
  refine ⟨_, (pss_cons (ps_if (pt_not (pt_val (pe_callB (id := "isinstance") call_is2 (by rfl) (T.fr _ (by decide)) (by decide +kernel) (pa_cons (pv 0) (pa_cons (pe_tup_ (pa_cons (pe_bltn (v := .ty "list") (by rfl) (T.fr _ (by decide)) (by decide +kernel) rfl) (pa_cons (pe_bltn (v := .ty "tuple") (by rfl) (T.fr _ (by decide)) (by decide +kernel) rfl) pa_nil))) pa_nil))))) (pss_one ps_never) pss_nil)
      (pss_cons (ps_set (i := 1) S.nd rfl (by first | exact Or.inl rfl | exact Or.inr rfl) pe_dnewT_)
      (pss_one (ps_for PassesOwn.never rfl (pi_enum (by rfl) (T.fr _ (by decide)) (pa_cons (pv 0) pa_nil)) (pg_tup (n := 2) rfl (pgs_cons (pg_name (i := 2) S.nd rfl (by first | exact Or.inl rfl | exact Or.inr rfl)) (pgs_cons (pg_name (i := 3) S.nd rfl (by first | exact Or.inl rfl | exact Or.inr rfl)) pgs_nil))) (pss_cons (ps_if (PW.pt (pw_or (pt_not (pt_val (pe_fn c_is_cell hr (pa_cons (pv 3) pa_nil)))) (pw_or1 (pt_cmp (pc_din (hu_of hr) (pv 3) (pv 1)))))) (pss_one ps_never) pss_nil)
      (pss_one (ps_dput (hu_of hr) (pv 1) (pv 3) pe_bl rfl))))))), ?_⟩
  obtain ⟨a, cs, rfl, hc, nd, cb, hl, q⟩ := h
  obtain ⟨ts, ha, hc⟩ := hc
  have lt : ts.length = cs.length := hc.len
  walk_at "rd"
  refine fun p1 H1 n1 => ⟨"list", "list", "tuple", n1.at_, .lst (n1.same _ _ ha), ?_⟩
  walk_at "rd"
  refine fun p2 H2 n2 => ?_
  have s02 := n1.same.trans n2.same
  refine ⟨⟨_, SqL.of (s02 _ _ ha)⟩, for_B walk_enum (fun i σ H' => ∃ x2 x3, σ = [some (.ref a), some (.ref p2), x2, x3] ∧ Same H H' ∧ H' p2 = some (.dT (trueD (cs.take i)))) ⟨_, _, rfl, s02, n2.at_⟩ (fun i σ H' hi ⟨_, _, _, s, _⟩ => SqL.of (s _ _ ha)) (fun i x σ H3 H4 hi ⟨x2, x3, e, s, hd⟩ y => ?_) (fun σ H3 ⟨x2, x3, e, s, hd⟩ => q _ s)⟩
  obtain ⟨T1, y1, y2, rfl, hT, rfl, e1, e2⟩ := y
  cases e1
  obtain ⟨t, ht, rfl⟩ := map_ref_get e2
  obtain ⟨c, hcs, hct⟩ := hc.get ht
  have s4 : Same H (upd H3 T1 (.tup [.int (i : Nat), .ref t])) := s.trans (same_new hT)
  have ct4 := s4 _ _ hct
  have hd4 := same_new (o := .tup [.int (i : Nat), .ref t]) hT _ _ hd
  subst e
  walk_at "rd"
  refine ⟨_, SqT.of upd_same, rfl, _, _, rfl, _, _, rfl, rfl, t, c, rfl, ct4, _, rfl, ?_⟩
  have nin : c ∉ cs.take i := fun m => by
    have h2 := nd
    rw [← List.take_append_drop (i + 1) cs, take_get hcs, List.append_assoc, List.nodup_append] at h2
    exact h2.2.2 c m c (by simp) rfl
  have := cb c (List.mem_of_getElem? hcs)
  rw [if_neg (by rw [this]; simp)]
  refine ⟨_, DGet.cell hd4 ct4, ?_⟩
  rw [if_neg nin]
  refine ⟨_, DPut.cell hd4 ct4 (by rw [List.length_take]; omega), ?_, ?_⟩
  · exact same_upd s4 (none_of n1.same n2.fresh)
  · rw [upd_same, take_get hcs]; unfold insC; rw [if_neg nin]
def sp_group_of : Sp := fun vs H Q _ => ∃ (b d : Addr) (c : Cell) (pool : List Cell), vs = [.ref b, .ref d, .bl false] ∧ CellV H b c ∧ H d = some (.dT (trueD pool)) ∧ pool.Pairwise ltC ∧ c ∈ pool ∧ (∀ c ∈ pool, cellB c = true) ∧ pool.length ≤ 1000 ∧
  ∀ H' p, Same H H' → H p = none → CellL H' p (comp pool c) → Q (.ref p) H'
theorem c_group_of (T : Tx K mg) (D : Df K mg "group_of" s_group_of) (c_beside : Cal P w K mg base CX0 4 "beside" p_beside (sp_beside)) : Cal P w K mg base CX0 5 "group_of" p_group_of (sp_group_of) := by
  have S := sc_group_of
  refine cal0 D S (fun _ _ _ _ _ _ us hl => match us, hl with | [_, _, _], _ => rfl) (fun vs H Q E h => ?_) (fun f cdv A outer s H vs Q E hr h => ?_)
  · obtain ⟨_, _, _, _, rfl, _⟩ := h
    rfl
  refine ⟨_, (pss_cons (ps_par (i := 3) (j := 4) rfl S.nd rfl rfl (by decide) rfl rfl (pa_cons (pe_dT1 hr (pv 0)) (pa_cons (pe_lst_ (pa_cons (pv 0) pa_nil)) pa_nil)) (by rfl))
      (pss_cons (ps_while PassesOwn.never (pt_cmpR (op_neE hr) (pv 4) (pe_lst_ pa_nil) (nomark _)) (pss_cons (ps_set (i := 5) S.nd rfl (by first | exact Or.inl rfl | exact Or.inr rfl) (pe_bm0 PySem.F.plainAttrs_list PySem.F.slot_list_pop PySem.F.type_list_pop mt_pop (pv 4)))
      (pss_one (ps_for PassesOwn.never rfl (pi_list (pe_ifExp (pt_val (pv 2)) pe_no (pe_fn c_beside hr (pa_cons (pv 5) pa_nil)))) (pg_name (i := 6) S.nd rfl (by first | exact Or.inl rfl | exact Or.inr rfl)) (pss_one (ps_if (PW.pt (pw_and (pt_cmp (pc_din (hu_of hr) (pv 6) (pv 1))) (pw_and1 (pt_cmp (pc_dnotin (hu_of hr) (pv 6) (pv 3)))))) (pss_cons (ps_dput (hu_of hr) (pv 3) (pv 6) pe_bl rfl)
      (pss_one (ps_expr (pe_bm PySem.F.plainAttrs_list PySem.F.slot_list_append PySem.F.type_list_append mt_append (pv 4) (pa_cons (pv 6) pa_nil))))) pss_nil))))))
      (pss_one (ps_ret (pe_callB (id := "sorted") cr_sortC (by rfl) (T.fr _ (by decide)) (by decide +kernel) (pa_cons (pe_callTy (T := "list") call_listC (by rfl) (T.fr _ (by decide)) (by decide +kernel) (pa_cons (pv 3) pa_nil)) pa_nil)))))), ?_⟩
  obtain ⟨b, d, c, pool, rfl, hb, hd, hp, hcp, cb, hl, q⟩ := h
  walk_at "rd"
  refine ⟨c, hb, fun p H1 n1 l H2 n2 => ?_⟩
  have s02 := n1.same.trans n2.same
  have nl : H l = none := none_of n1.same n2.fresh
  obtain ⟨W, hW⟩ : ∃ W : Nat → L2.St → Hp → Prop, W = fun m σ H' => ∃ x5 x6 S L ts, m = 2 * (pool.length - S.length) + L.length ∧ σ = [some (.ref b), some (.ref d), some (.bl false), some (.ref p), some (.ref l), x5, x6] ∧ Same H H' ∧ H' p = some (.dT (trueD S)) ∧ H' l = some (.lst (ts.map V.ref)) ∧ Cells H' ts L ∧ GI pool c S L none := ⟨_, rfl⟩
  refine ⟨W, ⟨_, by rw [hW]; exact ⟨_, _, [c], [c], [b], rfl, rfl, s02, n2.same _ _ n1.at_, n2.at_, .cons (s02 _ _ hb) .nil, GI.start hcp⟩⟩, ?_⟩
  intro m σ H3 hw
  rw [hW] at hw
  obtain ⟨x5, x6, S, L, ts, hm, rfl, s3, h3p, h3l, hc3, g⟩ := hw
  walk_at "rd"
  refine fun e H4 n4 => ⟨_, SqL.of (n4.same _ _ h3l), SqL.of n4.at_, ite2 (fun ne => ?_) fun ne => ?_⟩
  · have nE : ts ≠ [] := fun z => by rw [z] at ne; simp at ne
    have h4l := n4.same _ _ h3l
    have h4p := n4.same _ _ h3p
    have s4 := s3.trans n4.same
    obtain ⟨t, ht⟩ : ∃ t, ts[ts.length - 1]? = some t := ⟨ts[ts.length - 1]'(by have := List.length_pos_iff.mpr nE; omega), by rw [List.getElem?_eq_getElem]⟩
    obtain ⟨x, hx, hxt⟩ := hc3.get ht
    have lt := hc3.len
    rw [lt] at hx
    obtain ⟨g1, xS⟩ := g.pop hx
    have lL : 0 < L.length := by rw [← lt]; exact List.length_pos_iff.mpr nE
    refine ⟨fun σ' H' => ∃ m', m' < m ∧ W m' σ' H', fun _ _ h => h, tyV_lst h4l, _, h4l, V.ref t, by rw [List.length_map, List.getElem?_map, ht]; rfl, ?_⟩
    have npl : p ≠ l := ne_of h4p h4l (by intro z; cases z)
    have s5 : Same H (upd H4 l (.lst (ts.map V.ref).dropLast)) := same_upd s4 nl
    have ct5 : CellV (upd H4 l (.lst (ts.map V.ref).dropLast)) t x := CellV.updL h4l (n4.same _ _ hxt)
    refine ⟨t, x, rfl, ct5, fun H6 gl s56 fg hg => ?_⟩
    obtain ⟨gs, hg, hgc⟩ := hg
    have h6p : H6 p = some (.dT (trueD S)) := s56 _ _ (by rw [upd_ne npl]; exact h4p)
    have h6l : H6 l = some (.lst (ts.dropLast.map V.ref)) := s56 _ _ (by rw [upd_same, List.map_dropLast])
    have h6c : Cells H6 ts.dropLast L.dropLast := Cells.same s56 (Cells.updL h4l (paired_dropLast (hc3.same n4.same)))
    have ngl : gl ≠ l := fun z => by rw [z, upd_same] at fg; cases fg
    have ngp : gl ≠ p := fun z => by rw [z, upd_ne npl, h4p] at fg; cases fg
    refine ⟨_, rfl, ⟨_, SqL.of hg⟩, ?_⟩
    refine for_B walk_list (fun i σ H' => ∃ x6 S1 L1 ts1, σ = [some (.ref b), some (.ref d), some (.bl false), some (.ref p), some (.ref l), some (.ref t), x6] ∧ 2 * (pool.length - S1.length) + L1.length < m ∧ Same H H' ∧ H' p = some (.dT (trueD S1)) ∧ H' l = some (.lst (ts1.map V.ref)) ∧ H' gl = some (.lst (gs.map V.ref)) ∧ Cells H' gs ((nb x).filter cellB) ∧ Cells H' ts1 L1 ∧ GI pool c S1 L1 (some x) ∧ x ∈ S1 ∧ ∀ y ∈ ((nb x).filter cellB).take i, y ∈ pool → y ∈ S1)
      ⟨_, S, L.dropLast, ts.dropLast, rfl, by rw [List.length_dropLast]; omega, s5.trans s56, h6p, h6l, hg, hgc, h6c, g1, xS, by simp⟩ (fun i σ H' hi ⟨_, _, _, _, _, _, _, _, _, h, _⟩ => SqL.of h) (fun i v σ H7 H8 hi ⟨y6, S1, L1, ts1, e1, hm1, s7, h7p, h7l, h7g, h7gc, h7c, g7, xS7, n7⟩ y => ?_) (fun σ H7 ⟨y6, S1, L1, ts1, e1, hm1, s7, h7p, h7l, h7g, h7gc, h7c, g7, xS7, n7⟩ => ?_)
    · obtain ⟨rfl, hv⟩ := y
      obtain ⟨u, hu, rfl⟩ := map_ref_get hv
      obtain ⟨y, hy, hyu⟩ := h7gc.get hu
      have ym : y ∈ nb x := (List.mem_filter.mp (List.mem_of_getElem? hy)).1
      subst e1
      walk_at "rd"
      refine ⟨_, DGet.cell (s7 _ _ hd) hyu, ?_⟩
      have skip : (y ∈ pool → y ∈ S1) → ∀ z, z ∈ ((nb x).filter cellB).take (i + 1) → z ∈ pool → z ∈ S1 := fun h z hz hp => by
        rw [take_get hy] at hz
        rcases List.mem_append.mp hz with h1 | h1
        · exact n7 z h1 hp
        · simp at h1; subst h1; exact h hp
      by_cases yp : y ∈ pool
      · rw [if_pos yp]
        refine ⟨_, DGet.cell h7p hyu, ?_⟩
        by_cases yS : y ∈ S1
        · rw [if_pos yS]
          exact ⟨S1, L1, hm1, s7, h7p, ts1, h7l, h7g, h7gc, h7c, g7, xS7, skip fun _ => yS⟩
        · rw [if_neg yS]
          have ln := g7.len1 yp yS
          have lt1 := h7c.len
          have le1 := g7.le
          have npH : H p = none := n1.fresh
          have h9l : (upd H8 p (.dT (trueD (insC S1 y)))) l = some (.lst (ts1.map V.ref)) := by rw [upd_ne npl.symm]; exact h7l
          refine ⟨_, DPut.cell h7p hyu (by omega), tyV_lst h9l, _, h9l, by rw [List.length_map]; omega, S1 ++ [y], L1 ++ [y], by simp; omega, same_upd (same_upd s7 npH) nl, ?_, ts1 ++ [u], by rw [upd_same]; simp, ?_, ?_, ?_, g7.add xS7 ym yp yS, List.mem_append_left _ xS7, fun z hz hp => ?_⟩
          · rw [upd_ne npl, upd_same]; unfold insC; rw [if_neg yS]
          · rw [upd_ne ngl, upd_ne ngp]; exact h7g
          · exact Cells.updL h9l (Cells.upd h7p h7gc (fun _ e => by cases e))
          · exact Cells.updL h9l (Cells.upd h7p (h7c.app (.cons hyu .nil)) (fun _ e => by cases e))
          · rw [take_get hy] at hz
            rcases List.mem_append.mp hz with h1 | h1
            · exact List.mem_append_left _ (n7 z h1 hp)
            · simp at h1; subst h1; exact List.mem_append_right _ (by simp)
      · rw [if_neg yp]
        exact ⟨S1, L1, hm1, s7, h7p, ts1, h7l, h7g, h7gc, h7c, g7, xS7, skip fun h => absurd h yp⟩
    · have full : ((nb x).filter cellB).take (gs.map V.ref).length = (nb x).filter cellB := List.take_of_length_le (by rw [List.length_map, h7gc.len]; exact Nat.le_refl _)
      rw [full] at n7
      refine ⟨_, hm1, ?_⟩
      rw [hW]
      exact ⟨_, _, S1, L1, ts1, rfl, e1, s7, h7p, h7l, h7c, g7.fin fun y hy hp => n7 y (List.mem_filter.mpr ⟨hy, cb y hp⟩) hp⟩
  · have eT : ts = [] := by simpa using ne
    subst eT
    cases hc3
    have h4p := n4.same _ _ h3p
    refine ⟨S, h4p, fun f us H5 n5 hus => ⟨us, SqL.of n5.at_, S, hus.same n5.same, fun r vs ds H6 n6 hvs pm so => q H6 r ((s3.trans n4.same).trans (n5.same.trans n6.same)) (none_of ((s3.trans n4.same).trans n5.same) n6.fresh) ⟨vs, n6.at_, ?_⟩⟩⟩
    have : ds = comp pool c := comp_eq hp (so g.nd) fun z => (pm.mem_iff).trans (g.done z)
    rw [← this]
    exact hvs.same n6.same
def sp_groups : Sp := fun vs H Q _ => ∃ (a : Addr) (cs : List Cell), vs = [.ref a, .bl false] ∧ CellL H a cs ∧ cs.Pairwise ltC ∧ (∀ c ∈ cs, cellB c = true) ∧ cs.length ≤ 1000 ∧
  ∀ H' p, Same H H' → H p = none → GrpL H' p (grp cs [] cs) → Q (.ref p) H'
theorem c_groups (T : Tx K mg) (D : Df K mg "groups" s_groups) (c_group_of : Cal P w K mg base CX0 5 "group_of" p_group_of (sp_group_of)) : Cal P w K mg base CX0 6 "groups" p_groups (sp_groups) := by
  have S := sc_groups
  refine cal0 D S (fun _ _ _ _ _ _ us hl => match us, hl with | [_, _], _ => rfl) (fun vs H Q E h => ?_) (fun f cdv A outer s H vs Q E hr h => ?_)
  · obtain ⟨_, _, rfl, _⟩ := h
    rfl
  refine ⟨_, (pss_cons (ps_par3 (i := 2) (j := 3) (l := 4) rfl S.nd rfl rfl rfl (by decide) (by decide) (by decide) rfl rfl rfl (pa_cons (pe_dcC (i := 5) (own := [("cell", 5)]) hr rfl S.nd (pv 0) (blkOk_by (N := N_groups) (sc := defScope s_groups) (by decide +kernel)) (fun _ _ _ _ _ => (pg_name (i := 5) S.nd rfl (by first | exact Or.inl rfl | exact Or.inr rfl))) (fun _ _ _ _ _ => (pv 5)) (show 5 < N_groups.length from by decide) (by decide)) (pa_cons pe_dnewT_ (pa_cons (pe_lst_ pa_nil) pa_nil))) (by rfl))
      (pss_cons (ps_for PassesOwn.never rfl (pi_list (pe_callB (id := "sorted") cr_sortC (by rfl) (T.fr _ (by decide)) (by decide +kernel) (pa_cons (pe_callTy (T := "list") (r := rListOf_ K) call_listOf_ (by rfl) (T.fr _ (by decide)) (by decide +kernel) (pa_cons (pv 0) pa_nil)) pa_nil))) (pg_name (i := 5) S.nd rfl (by first | exact Or.inl rfl | exact Or.inr rfl)) (pss_one (ps_if (pt_cmp (pc_dnotin (hu_of hr) (pv 5) (pv 3))) (pss_cons (ps_set (i := 6) S.nd rfl (by first | exact Or.inl rfl | exact Or.inr rfl) (pe_fn c_group_of hr (pa_cons (pv 5) (pa_cons (pv 2) (pa_cons (pv 1) pa_nil)))))
      (pss_cons (ps_expr (pe_bm PySem.F.plainAttrs_list PySem.F.slot_list_append PySem.F.type_list_append mt_append (pv 4) (pa_cons (pv 6) pa_nil)))
      (pss_one (ps_for PassesOwn.never rfl (pi_list (pv 6)) (pg_name (i := 7) S.nd rfl (by first | exact Or.inl rfl | exact Or.inr rfl)) (pss_one (ps_dput (hu_of hr) (pv 3) (pv 7) pe_bl rfl)))))) pss_nil)))
      (pss_one (ps_ret (pv 4))))), ?_⟩
  obtain ⟨a, cs, rfl, hc, so, cb, hl, q⟩ := h
  obtain ⟨ts, ha, hc⟩ := hc
  have lt : ts.length = cs.length := hc.len
  have nd := ltC_nodup so
  walk_at "rd"
  refine ⟨ts, SqL.of ha, cs, hc, by omega, fun d H1 n1 e H2 n2 f H3 n3 => ?_⟩
  rw [foldl_insC_nodup nd] at n1
  have s03 := n1.same.trans (n2.same.trans n3.same)
  refine ⟨_, .inl (SqL.of (s03 _ _ ha)), fun g H4 n4 => ⟨ts, SqL.of n4.at_, cs, hc.same (s03.trans n4.same), fun r us ds H5 n5 hus pm sd => ?_⟩⟩
  have e1 : ds = cs := strict_ext (fun a => ltC_irrefl a) (fun h k => ltC_trans h k) (sd nd) so fun x => pm.mem_iff
  subst e1
  have s45 := n4.same.trans n5.same
  have s05 := s03.trans s45
  have h5d := (n2.same.trans (n3.same.trans s45)) _ _ n1.at_
  have h5e := (n3.same.trans s45) _ _ n2.at_
  have h5f := s45 _ _ n3.at_
  have ne : H e = none := none_of n1.same n2.fresh
  have nf : H f = none := none_of (n1.same.trans n2.same) n3.fresh
  have nef : e ≠ f := ne_of h5e h5f (by intro z; cases z)
  have nrf : r ≠ f := fun z => by have := n5.fresh; rw [z, n4.same _ _ n3.at_] at this; cases this
  have nre : r ≠ e := fun z => by have := n5.fresh; rw [z, (n3.same.trans n4.same) _ _ n2.at_] at this; cases this
  have nde : d ≠ e := fun z => by have := n2.fresh; rw [← z, n1.at_] at this; cases this
  have ndf : d ≠ f := fun z => by have := n3.fresh; rw [← z, n2.same _ _ n1.at_] at this; cases this
  refine ⟨⟨_, SqL.of n5.at_⟩, ?_⟩
  obtain ⟨Pv, hP⟩ : ∃ Pv : Nat → L2.St → Hp → Prop, Pv = fun i σ H' => ∃ x5 x6 x7 S seen as gs, σ = [some (.ref a), some (.bl false), some (.ref d), some (.ref e), some (.ref f), x5, x6, x7] ∧ Same H H' ∧ H' d = some (.dT (trueD ds)) ∧ H' e = some (.dT (trueD S)) ∧ H' f = some (.lst (as.map V.ref)) ∧ (∀ x ∈ as, x ≠ f) ∧
    H' r = some (.lst (us.map V.ref)) ∧ Cells H' us ds ∧ Paired (CellL H') as gs ∧ gs.length ≤ i ∧ S.Nodup ∧ (∀ x, x ∈ S ↔ x ∈ seen) ∧ (∀ x ∈ S, x ∈ ds) ∧ grp ds [] ds = gs ++ grp ds seen (ds.drop i) := ⟨_, rfl⟩
  refine for_B (walk_list (xs := us.map V.ref)) Pv ?_ (fun i σ H' _ h => ?_) (fun i v σ H6 H7 hi h y => ?_) (fun σ H6 h => ?_)
  · rw [hP]
    exact ⟨_, _, _, [], [], [], [], rfl, s05, h5d, h5e, h5f, by simp, n5.at_, hus.same n5.same, .nil, Nat.le_refl _, .nil, by simp, by simp, by simp⟩
  · rw [hP] at h
    obtain ⟨_, _, _, _, _, _, _, _, _, _, _, _, _, h, _⟩ := h
    exact SqL.of h
  · rw [hP] at h
    obtain ⟨x5, x6, x7, S, seen, as, gs, rfl, s6, h6d, h6e, h6f, nas, h6r, h6c, h6g, lg, Snd, Sm, Ssub, G⟩ := h
    obtain ⟨rfl, hv⟩ := y
    obtain ⟨u, hu, rfl⟩ := map_ref_get hv
    obtain ⟨c, hcs, hcu⟩ := h6c.get hu
    have cm : c ∈ ds := List.mem_of_getElem? hcs
    have hi' : i < ds.length := by have := List.getElem?_eq_some_iff.mp hcs; exact this.1
    have Sl : S.length ≤ ds.length := List.Nodup.length_le_of_subset Snd Ssub
    walk_at "rd"
    refine ⟨_, DGet.cell h6e hcu, ?_⟩
    by_cases cS : c ∈ S
    · rw [if_pos cS]
      simp only [Option.isSome_some, Bool.true_eq_false, if_false]
      rw [hP]
      exact ⟨_, _, _, S, seen, as, gs, rfl, s6, h6d, h6e, h6f, nas, h6r, h6c, h6g, by omega, Snd, Sm, Ssub, by rw [G, drop_get hcs, grp_skip ((Sm c).mp cS)]⟩
    · rw [if_neg cS]
      simp only [Option.isSome_none, if_true]
      refine ⟨u, d, c, ds, rfl, hcu, h6d, so, cm, cb, hl, fun H8 b s68 fb hb => ?_⟩
      have nbf : b ≠ f := fun z => by rw [z, h6f] at fb; cases fb
      have nbe : b ≠ e := fun z => by rw [z, h6e] at fb; cases fb
      have h8f := s68 _ _ h6f
      have h8e := s68 _ _ h6e
      refine ⟨tyV_lst h8f, _, h8f, by rw [List.length_map, h6g.length]; omega, ?_⟩
      obtain ⟨bs, hbs, hbc⟩ := hb
      have h9b : (L2.upd H8 f (.lst (as.map V.ref ++ [V.ref b]))) b = some (.lst (bs.map V.ref)) := by rw [upd_ne nbf]; exact hbs
      walk_at "rd"
      refine ⟨⟨_, SqL.of h9b⟩, ?_⟩
      have gcs := h6g.length
      have cd' : ∀ x, x ∈ comp ds c → x ∈ ds := fun x hx => (mem_comp.mp hx).1
      have p9 : Paired (CellL (L2.upd H8 f (.lst (as.map V.ref ++ [V.ref b])))) (as ++ [b]) (gs ++ [comp ds c]) := by
        have h1 := paired_allIn (Paired.mapP h6g fun x y z => z.same s68) nas
        exact paired_app (Paired.mapP h1 fun x y z => CellL.upd z.1 h8f (fun _ z => by cases z) z.2) (.cons (CellL.upd ⟨bs, hbs, hbc⟩ h8f (fun _ z => by cases z) nbf) .nil)
      have nas9 : ∀ x ∈ as ++ [b], x ≠ f := fun x hx => by
        rcases List.mem_append.mp hx with h | h
        · exact nas x h
        · simp at h; rw [h]; exact nbf
      refine for_B (walk_list (xs := bs.map V.ref)) (fun j σ H' => ∃ y7 S', σ = [some (.ref a), some (.bl false), some (.ref d), some (.ref e), some (.ref f), some (.ref u), some (.ref b), y7] ∧ Same H H' ∧ H' d = some (.dT (trueD ds)) ∧ H' e = some (.dT (trueD S')) ∧ H' f = some (.lst (as.map V.ref ++ [V.ref b])) ∧
        H' r = some (.lst (us.map V.ref)) ∧ Cells H' us ds ∧ Paired (CellL H') (as ++ [b]) (gs ++ [comp ds c]) ∧ H' b = some (.lst (bs.map V.ref)) ∧ Cells H' bs (comp ds c) ∧ S'.Nodup ∧ (∀ x ∈ S', x ∈ ds) ∧ ∀ x, x ∈ S' ↔ x ∈ S ∨ x ∈ (comp ds c).take j)
        ⟨_, S, rfl, same_upd (s6.trans s68) nf, by rw [upd_ne ndf]; exact s68 _ _ h6d, by rw [upd_ne nef]; exact h8e, upd_same, by rw [upd_ne nrf]; exact s68 _ _ h6r, Cells.updL h8f (h6c.same s68), p9, h9b, Cells.updL h8f hbc, Snd, Ssub, by simp⟩ (fun j σ H' _ ⟨_, _, _, _, _, _, _, _, _, _, h, _⟩ => SqL.of h) (fun j v σ H9 H10 hj ⟨y7, S', e1, s9, h9d, h9e, h9f, h9r, h9c, h9p, h9b, h9bc, Snd', Ssub', Sm'⟩ y => ?_) (fun σ H9 ⟨y7, S', e1, s9, h9d, h9e, h9f, h9r, h9c, h9p, h9b, h9bc, Snd', Ssub', Sm'⟩ => ?_)
      · obtain ⟨rfl, hv⟩ := y
        obtain ⟨u, hu, rfl⟩ := map_ref_get hv
        obtain ⟨x, hx, hxu⟩ := h9bc.get hu
        subst e1
        have Sl' : S'.length ≤ ds.length := List.Nodup.length_le_of_subset Snd' Ssub'
        have nb2 : ∀ x ∈ as ++ [b], x ≠ e := fun x hx => by
          obtain ⟨i, hi, ei⟩ := List.mem_iff_getElem.mp hx
          obtain ⟨y, _, hy⟩ := paired_at h9p (i := i) (a := x) (by rw [List.getElem?_eq_getElem hi, ei])
          obtain ⟨_, h1, _⟩ := hy
          exact ne_of h1 h9e (by intro z; cases z)
        walk_at "rd"
        refine ⟨_, DPut.cell h9e hxu (by omega), same_upd s9 ne, by rw [upd_ne nde]; exact h9d, _, upd_same, by rw [upd_ne nef.symm]; exact h9f, by rw [upd_ne nre]; exact h9r, Cells.upd h9e h9c (fun _ z => by cases z),
          Paired.mapP (paired_allIn h9p nb2) fun x y z => CellL.upd z.1 h9e (fun _ z => by cases z) z.2, by rw [upd_ne nbe]; exact h9b, Cells.upd h9e h9bc (fun _ z => by cases z), insC_nodup Snd', fun z hz => ?_, fun z => ?_⟩
        · rcases mem_insC.mp hz with h | h
          · exact Ssub' z h
          · rw [h]; exact cd' x (List.mem_of_getElem? hx)
        · rw [mem_insC, Sm', take_get hx, List.mem_append, or_assoc]; simp
      · rw [hP]
        have full : (comp ds c).take (bs.map V.ref).length = comp ds c := List.take_of_length_le (by rw [List.length_map, h9bc.len]; exact Nat.le_refl _)
        rw [full] at Sm'
        refine ⟨_, _, _, S', seen ++ comp ds c, as ++ [b], gs ++ [comp ds c], e1, s9, h9d, h9e, by rw [h9f]; simp, nas9, h9r, h9c, h9p, by simp; omega, Snd', fun x => by rw [Sm', List.mem_append, Sm], Ssub', ?_⟩
        rw [G, drop_get hcs, grp_take (fun m => cS ((Sm c).mpr m))]
        simp
  · rw [hP] at h
    obtain ⟨x5, x6, x7, S, seen, as, gs, rfl, s6, h6d, h6e, h6f, nas, h6r, h6c, h6g, lg, Snd, Sm, Ssub, G⟩ := h
    walk_at "rd"
    refine q _ _ s6 nf ⟨as, h6f, ?_⟩
    rw [G, List.drop_of_length_le (by rw [List.length_map, h6c.len]; exact Nat.le_refl _)]
    simpa [grp] using h6g
def sp_pieces : Sp := fun vs H Q _ => ∃ (a : Addr) (cs : List Cell), vs = [.ref a] ∧ CellL H a cs ∧ cs.Pairwise ltC ∧ (∀ c ∈ cs, cellB c = true) ∧ cs.length ≤ 1000 ∧
  ∀ H' p, Same H H' → H p = none → GrpL H' p (grp cs [] cs) → Q (.ref p) H'
theorem c_pieces (T : Tx K mg) (D : Df K mg "pieces" s_pieces) (c_check_cells : Cal P w K mg base CX0 4 "check_cells" p_check_cells (sp_check_cells)) (c_groups : Cal P w K mg base CX0 6 "groups" p_groups (sp_groups)) : Cal P w K mg base CX0 7 "pieces" p_pieces (sp_pieces) := by
  have S := sc_pieces
  refine cal0 D S (fun _ _ _ _ _ _ us hl => match us, hl with | [_], _ => rfl) (fun vs H Q E h => ?_) (fun f cdv A outer s H vs Q E hr h => ?_)
  · obtain ⟨_, _, rfl, _⟩ := h
    rfl
  refine ⟨_, (pss_cons (ps_expr (pe_fn c_check_cells hr (pa_cons (pv 0) pa_nil)))
      (pss_one (ps_ret (pe_fn c_groups hr (pa_cons (pv 0) (pa_cons pe_bl pa_nil)))))), ?_⟩
  obtain ⟨a, cs, rfl, hc, so, cb, hl, q⟩ := h
  have nd := ltC_nodup so
  walk_at "rd"
  exact ⟨a, cs, rfl, hc, nd, cb, hl, fun H1 s1 => ⟨a, cs, rfl, hc.same s1, so, cb, hl, fun H2 p s2 n2 g => q H2 p (s1.trans s2) (none_of s1 n2) g⟩⟩
def sp_hangs_together : Sp := fun vs H Q _ => ∃ (a : Addr) (cs : List Cell), vs = [.ref a] ∧ CellL H a cs ∧ cs.Pairwise ltC ∧ (∀ c ∈ cs, cellB c = true) ∧ cs.length ≤ 1000 ∧
  ∀ H', Same H H' → Q (.bl (decide ((grp cs [] cs).length = 1))) H'
theorem c_hangs_together (T : Tx K mg) (D : Df K mg "hangs_together" s_hangs_together) (c_pieces : Cal P w K mg base CX0 7 "pieces" p_pieces (sp_pieces)) : Cal P w K mg base CX0 8 "hangs_together" p_hangs_together (sp_hangs_together) := by
  have S := sc_hangs_together
  refine cal0 D S (fun _ _ _ _ _ _ us hl => match us, hl with | [_], _ => rfl) (fun vs H Q E h => ?_) (fun f cdv A outer s H vs Q E hr h => ?_)
  · obtain ⟨_, _, rfl, _⟩ := h
    rfl
  refine ⟨_, (pss_one (ps_ret (pe_cmpR op_eq (pe_callB (id := "len") (r := rLen K) (call_len_ rfl) (by rfl) (T.fr _ (by decide)) (by decide +kernel) (pa_cons (pe_fn c_pieces hr (pa_cons (pv 0) pa_nil)) pa_nil)) pe_int (nomark _)))), ?_⟩
  obtain ⟨a, cs, rfl, hc, so, cb, hl, q⟩ := h
  walk_at "rd"
  refine ⟨a, cs, rfl, hc, so, cb, hl, fun H2 p s2 n2 g => ?_⟩
  obtain ⟨as, g1, g2⟩ := g
  refine len_of g1 ?_
  have := q H2 s2
  rw [List.length_map, g2.length]
  rwa [show decide (((grp cs [] cs).length : Int) = 1) = decide ((grp cs [] cs).length = 1) from decide_eq_decide.mpr (by omega)]
end
end Dk
-- text C
set_option maxHeartbeats 1000000
namespace Dk
open PySem PySem.Spec PyProof.Rows L2
local macro_rules | `(tactic| walk_at "rd") => `(tactic| simp only [tRet, tRetN, tSeq, tAsg, tIfS, tB, tVar, tC, tCons, tNil, tCB, tCall, tOp, tUn, rI0, rI, rU, rEq, rNe, gName, tAnd, tOr, tNot, tAndV, tOrV, tNotV, tIf, tTest, tChain, tDrop, tNext, tBreak, tCont, tTup, tLst, tBM, tBM0, tM0, tM1, tSl, tPart, tNoPart, tPar,
  rIs, rIs2, rIxL, rIxT, rIxS, rAppend, rExtend, rPop, rPopAt, gTup, gCons, gNil, gSub, tYes, wipe, tD1, tDcC, rListC, rSortC, rEmp, rJoin, tM1, gFld, tFld, sFld, rMinDef, tCKw, StX.tStar, rLen, tDGet2, tNo, tScN, rSortTx, rSetTx, iKeys, tPar3, sDPut, tFor_eq, iList, iEnum, iStr, iZip, cxK, cxP, cxW, tTup_, tLst_, tDNewK_, tDNewT_, rSlL_, rListOf_, rCatN, rRepN, rListStr, iRng1, rLenT, rInC, rDictC, sizeLine_eq, Nat.reduceLeDiff, Bool.true_or, Bool.false_or, Bool.or_true, Bool.or_false, Bool.true_and, Bool.false_and, Bool.and_true, Bool.and_false, Bool.not_true, Bool.not_false, Bool.not_eq_true', decide_eq_true_eq, decide_eq_false_iff_not, scal, isT_Non_boo, isT_Non_int, isT_Non_str, isT_Non_lis, isT_Non_tup, isT_Non_dic, isT_boo_boo, isT_boo_int, isT_boo_str, isT_boo_lis, isT_boo_tup, isT_boo_dic, isT_int_boo, isT_int_int, isT_int_str, isT_int_lis, isT_int_tup, isT_int_dic, isT_str_boo, isT_str_int, isT_str_str, isT_str_lis, isT_str_tup, isT_str_dic, isT_lis_boo, isT_lis_int, isT_lis_str, isT_lis_lis, isT_lis_tup, isT_lis_dic, isT_tup_boo, isT_tup_int, isT_tup_str, isT_tup_lis, isT_tup_tup, isT_tup_dic, isT_dic_boo, isT_dic_int, isT_dic_str, isT_dic_lis, isT_dic_tup, isT_dic_dic, kit_Non, kit_boo, kit_int, kit_str, kit_lis, kit_tup, kit_dic, sg_inj, vt_non, vt_bl, vt_int, vt_str, len_str, tDGet, tDIn, tDNotIn,
  L2.start, List.map_cons, List.map_nil, List.length_cons, List.length_nil, List.cons_append, List.nil_append, List.append_nil, Nat.zero_add, Nat.reduceAdd, Nat.reduceSub, Nat.sub_zero, Nat.sub_self, List.replicate_succ, List.replicate_zero,
  List.getElem?_cons_zero, List.getElem?_cons_succ, List.getElem?_nil, List.set_cons_zero, List.set_cons_succ, List.cons.injEq, Option.some.injEq, V.int.injEq, V.str.injEq, V.bl.injEq, V.ref.injEq, V.ty.injEq, reduceCtorEq,
  and_assoc, and_true, true_and, false_and, and_false, exists_eq_left, exists_eq_left', exists_eq', exists_eq_right, exists_eq_right', exists_and_left, exists_and_right, exists_const, exists_false, exists_eq, if_true, if_false, Bool.false_eq_true, Bool.true_eq, decide_true, decide_false, ite_self])
section
variable {P : Program} {w : World} {K : PySem.W.Frag} {mg : Str → Option Value} {base : Heap}
def StrL (H : Hp) (a : Addr) (zs : List Str) : Prop := H a = some (.lst (zs.map V.str))
def RowsL (H : Hp) (a : Addr) (R : List (List Str)) : Prop := ∃ as, H a = some (.lst (as.map V.ref)) ∧ Paired (StrL H) as R
theorem StrL.same {H H' : Hp} {a : Addr} {zs : List Str} (s : Same H H') (h : StrL H a zs) : StrL H' a zs := s _ _ h
theorem RowsL.same {H H' : Hp} {a : Addr} {R : List (List Str)} (s : Same H H') (h : RowsL H a R) : RowsL H' a R := by
  obtain ⟨as, h1, h2⟩ := h
  exact ⟨as, s _ _ h1, Paired.mapP h2 fun _ _ z => z.same s⟩
theorem RowsL.tx {H : Hp} {a : Addr} {R : List (List Str)} (h : RowsL H a R) : TxRows K H a R := by
  obtain ⟨as, h1, h2⟩ := h
  exact ⟨as, SqL.of h1, Paired.mapP h2 fun _ _ z => SqL.of z⟩
theorem DGet_k {H : Hp} {a : Addr} {kvs : List (Key × V)} {z : Str} {v : V} (e : H a = some (.dK kvs)) (h : valV kvs (Sum.inr z : Key) = some v) : DGet H a (.str z) (some v) := by
  rw [← h]
  exact DGet.k (k := Sum.inr z) e
theorem name_len {z : Str} (h : nameB z = true) : z.length ≤ sizeLine := by
  unfold nameB at h
  simp only [Bool.and_eq_true, decide_eq_true_eq] at h
  rw [sizeLine_eq]; omega
theorem atI_zero {α : Type} {xs : List α} {v : α} (h : xs[0]? = some v) : atI xs 0 = some v := atI_nat h
def sp_is_list : Sp := fun vs H Q _ => ∃ (a : Addr) (xs : List V), vs = [.ref a] ∧ H a = some (.lst xs) ∧ ∀ H', Same H H' → Q (.bl true) H'
theorem c_is_list (T : Tx K mg) (D : Df K mg "is_list" s_is_list) : Cal P w K mg base CX0 1 "is_list" p_is_list (sp_is_list) := by
  have S := sc_is_list
  refine cal0 D S (fun _ _ _ _ _ _ us hl => match us, hl with | [_], _ => rfl) (fun vs H Q E h => ?_) (fun f cdv A outer s H vs Q E hr h => ?_)
  · obtain ⟨_, _, rfl, _⟩ := h
    rfl
  refine ⟨_, (pss_one (ps_ret (pe_callB (id := "isinstance") call_is2 (by rfl) (T.fr _ (by decide)) (by decide +kernel) (pa_cons (pv 0) (pa_cons (pe_tup_ (pa_cons (pe_bltn (v := .ty "list") (by rfl) (T.fr _ (by decide)) (by decide +kernel) rfl) (pa_cons (pe_bltn (v := .ty "tuple") (by rfl) (T.fr _ (by decide)) (by decide +kernel) rfl) pa_nil))) pa_nil))))), ?_⟩
  obtain ⟨a, xs, rfl, ha, q⟩ := h
  walk_at "rd"
  refine fun p1 H1 n1 => ⟨"list", "list", "tuple", n1.at_, .lst (n1.same _ _ ha), ?_⟩
  walk_at "rd"
  exact q _ n1.same
def sp_check_rows : Sp := fun vs H Q _ => ∃ (a : Addr) (R : List (List Str)), vs = [.ref a] ∧ RowsL H a R ∧ 1 ≤ R.length ∧ R.length ≤ 12 ∧ (∀ r ∈ R, 1 ≤ r.length ∧ r.length ≤ 12 ∧ r.length = (R.headD []).length ∧ ∀ z ∈ r, nameB z = true) ∧ ∀ H', Same H H' → Q .non H'
theorem c_check_rows (T : Tx K mg) (D : Df K mg "check_rows" s_check_rows) (c_is_list : Cal P w K mg base CX0 1 "is_list" p_is_list (sp_is_list)) (c_is_name : Cal P w K mg base CX0 1 "is_name" p_is_name (sp_is_name)) : Cal P w K mg base CX0 2 "check_rows" p_check_rows (sp_check_rows) := by
  have S := sc_check_rows
  refine cal0 D S (fun _ _ _ _ _ _ us hl => match us, hl with | [_], _ => rfl) (fun vs H Q E h => ?_) (fun f cdv A outer s H vs Q E hr h => ?_)
  · obtain ⟨_, _, rfl, _⟩ := h
    rfl
  refine ⟨_, (pss_cons (ps_if (PW.pt (pw_or (pt_not (pt_val (pe_fn c_is_list hr (pa_cons (pv 0) pa_nil)))) (pw_or1 (pt_not (pt_chain op_le op_le pe_int (pe_callB (id := "len") (r := rLen K) (call_len_ rfl) (by rfl) (T.fr _ (by decide)) (by decide +kernel) (pa_cons (pv 0) pa_nil)) (pe_conI T.ms)))))) (pss_one ps_never) pss_nil)
      (pss_one (ps_for PassesOwn.never rfl (pi_enum (by rfl) (T.fr _ (by decide)) (pa_cons (pv 0) pa_nil)) (pg_tup (n := 2) rfl (pgs_cons (pg_name (i := 1) S.nd rfl (by first | exact Or.inl rfl | exact Or.inr rfl)) (pgs_cons (pg_name (i := 2) S.nd rfl (by first | exact Or.inl rfl | exact Or.inr rfl)) pgs_nil))) (pss_cons (ps_if (PW.pt (pw_or (pt_not (pt_val (pe_fn c_is_list hr (pa_cons (pv 2) pa_nil)))) (pw_or (pt_not (pt_chain op_le op_le pe_int (pe_callB (id := "len") (r := rLen K) (call_len_ rfl) (by rfl) (T.fr _ (by decide)) (by decide +kernel) (pa_cons (pv 2) pa_nil)) (pe_conI T.ms))) (pw_or1 (pt_cmpR op_ne (pe_callB (id := "len") (r := rLen K) (call_len_ rfl) (by rfl) (T.fr _ (by decide)) (by decide +kernel) (pa_cons (pv 2) pa_nil)) (pe_callB (id := "len") (r := rLen K) (call_len_ rfl) (by rfl) (T.fr _ (by decide)) (by decide +kernel) (pa_cons (pe_ix (r := rIxL K) ix_list (pv 0) pe_int (fun _ _ => rfl)) pa_nil)) (nomark _)))))) (pss_one ps_never) pss_nil)
      (pss_one (ps_if (pt_not (pt_val (pe_callB (id := "all") (cr_all rfl) (by rfl) (T.fr _ (by decide)) (by decide +kernel) (pa_cons (pe_lc (own := [("name", 3)]) (g := gName 3) rfl S.nd (pi_list (pv 2)) (blkOk_by (N := N_check_rows) (sc := defScope s_check_rows) (by decide +kernel)) (fun _ _ _ _ _ => (pg_name (i := 3) S.nd rfl (by first | exact Or.inl rfl | exact Or.inr rfl))) (fun _ _ _ _ _ => pts_nil) (fun _ _ _ _ _ => (pe_fn c_is_name hr (pa_cons (pv 3) pa_nil)))) pa_nil)))) (pss_one ps_never) pss_nil)))))), ?_⟩
  obtain ⟨a, R, rfl, ⟨as, ha, hR⟩, l1, l2, hr', q⟩ := h
  have lt : as.length = R.length := hR.length
  walk_at "rd"
  refine ⟨a, _, rfl, ha, fun H1 s1 => ⟨_, rfl, ?_⟩⟩
  rw [if_neg (by simp)]
  refine len_of (s1 _ _ ha) ?_
  rw [List.length_map, lt, if_pos (by omega), if_neg (by omega)]
  refine ⟨⟨_, SqL.of (s1 _ _ ha)⟩, for_B (walk_enum (xs := as.map V.ref)) (fun i σ H' => ∃ x1 x2, σ = [some (.ref a), x1, x2, none] ∧ Same H H') ⟨_, _, rfl, s1⟩ (fun i σ H' hi ⟨_, _, _, s⟩ => SqL.of (s _ _ ha)) (fun i x σ H3 H4 hi ⟨x1, x2, e, s⟩ y => ?_) (fun σ H3 ⟨x1, x2, e, s⟩ => q _ s)⟩
  obtain ⟨T1, y1, y2, rfl, hT, rfl, e1, e2⟩ := y
  cases e1
  obtain ⟨t, ht, rfl⟩ := map_ref_get e2
  obtain ⟨zs, hzs, hzt⟩ := paired_at hR ht
  obtain ⟨z0, hz0, hzt0⟩ := paired_at2 (i := 0) hR (show R[0]? = some (R.headD []) by cases R with | nil => simp at l1 | cons r R => rfl)
  have s4 : Same H (L2.upd H3 T1 (.tup [.int (i : Nat), .ref t])) := s.trans (same_new hT)
  obtain ⟨r1, r2, r3, r4⟩ := hr' zs (List.mem_of_getElem? hzs)
  subst e
  walk_at "rd"
  refine ⟨_, SqT.of upd_same, rfl, _, _, rfl, _, _, rfl, rfl, t, _, rfl, s4 _ _ hzt, fun H5 s5 => ⟨_, rfl, ?_⟩⟩
  have s05 := s4.trans s5
  rw [if_neg (by simp)]
  refine len_of (s05 _ _ hzt) ?_
  have lz : zs.length = (R.headD []).length := r3
  rw [List.length_map, if_pos (by omega), if_neg (by omega)]
  refine len_of (s05 _ _ hzt) ⟨_, SqL.of (s05 _ _ ha), V.ref z0, atI_zero (by rw [List.getElem?_map, hz0]; rfl), len_of (s05 _ _ hzt0) ?_⟩
  rw [List.length_map, List.length_map, if_neg (by omega)]
  refine ⟨_, rfl, t, rfl, ⟨_, SqL.of (s05 _ _ hzt)⟩, fun D hD => lc_it (walk_list (xs := zs.map V.str)) (LcInv H5 D fun acc i _ => acc = (zs.take i).map fun z => V.bl (nameB z)) (lc0 hD (by simp)) (fun _ _ _ ⟨_, _, _, s, _⟩ => SqL.of (s _ _ (s05 _ _ hzt))) (fun i x H6 H7 hi ⟨acc, ha, hl, s1, r⟩ y => ?_) (fun H6 ⟨acc, ha, hl, s1, r⟩ => ?_)⟩
  · obtain ⟨rfl, hx⟩ := y
    obtain ⟨z, hz, rfl⟩ := str_list_get hx
    walk_at "rd"
    refine ⟨z, rfl, name_len (r4 z (List.mem_of_getElem? hz)), fun H8 s8 => lcKeep hD (s8 _ _ ha) hl hi (by simp; omega) (s1.trans s8) ?_⟩
    show acc ++ _ = _
    rw [r, take_get hz]
    simp
  · refine ⟨D, zs.map fun z => nameB z, rfl, SqL.of (by rw [ha, show acc = _ from r, List.take_of_length_le (by simp)]; simp [Function.comp_def]), _, rfl, ?_⟩
    rw [if_neg (by rw [List.all_map]; simp [Function.comp_def, List.all_eq_true]; exact fun z hz => r4 z hz)]
    exact s05.trans s1
theorem dc_it {J : It} {n : Nat} {G : Hp → Prop} {Y : Nat → Hp → V → Hp → Prop} (w : Walk J n G Y) {g : TG} {tt : TT} {tk tv : TE} {vs : List Nat} {σ : L2.St} {H1 : Hp} {D : Addr} {Qd : Hp → Prop} (Pv : Nat → Hp → Prop) (h0 : Pv 0 (L2.upd H1 D (.dK []))) (hG : ∀ i H, i ≤ n → Pv i H → G H)
    (hs : ∀ i x H H', i < n → Pv i H → Y i H x H' → g x (wipe σ vs) H' fun σ2 H2 => wipe σ2 vs = wipe σ vs ∧ tt σ2 H2 fun b H3 =>
      if b = true then tk σ2 H3 fun y H4 => tv σ2 H4 fun z H5 => ∃ kvs k, y = kV k ∧ H5 D = some (.dK kvs) ∧ kvs.length < sizeLine ∧ Pv (i + 1) (L2.upd H5 D (.dK (putK kvs k z))) else Pv (i + 1) H3) (hd : ∀ H, Pv n H → Qd H) :
    ∃ W : Nat → Nat → Hp → Prop, (∃ m, W 0 m (L2.upd H1 D (.dK []))) ∧ ∀ i m H, W i m H →
      (J.stop i H ∧ Qd H) ∨ (J.go i H ∧ ∃ Nx : Hp → Prop, (∀ H', Nx H' → ∃ m', m' < m ∧ W (i + 1) m' H') ∧ ∀ x H', J.yld i H x H' → g x (wipe σ vs) H' fun σ2 H2 => wipe σ2 vs = wipe σ vs ∧ tt σ2 H2 fun b H3 =>
        if b = true then tk σ2 H3 fun y H4 => tv σ2 H4 fun z H5 => ∃ kvs k, y = kV k ∧ H5 D = some (.dK kvs) ∧ kvs.length < sizeLine ∧ Nx (L2.upd H5 D (.dK (putK kvs k z))) else Nx H3) := by
  refine ⟨fun i m H => m = n - i ∧ i ≤ n ∧ Pv i H, ⟨n, by simp, Nat.zero_le _, h0⟩, ?_⟩
  rintro i m H ⟨rfl, hi, p⟩
  have q := hG i H hi p
  by_cases hlt : i < n
  · exact .inr ⟨w.goes i H hlt q, Pv (i + 1), fun H' p' => ⟨n - (i + 1), by omega, rfl, hlt, p'⟩, fun x H' y => hs i x H H' hlt p (w.yields i H x H' hlt q y)⟩
  · obtain rfl : i = n := by omega
    exact .inl ⟨w.stops H q, hd H p⟩
theorem sw_dict {kx vx : Expr} {gs : List Comprehension} {scope : Scope} {pos py : Pos} {y : Str} {l : Nat} {env : Env} (h1 : env.scope.kind = .function) (h2 : env.scope.names.lookup y = some .local) (h3 : (py.line == pos.line) = true)
    (h4 : (scope.names.any fun (n, k) => n == y && (k == .local || k == .cell)) = false) : swapsWith (.DictComp kx vx gs scope pos) (some (.Name y py)) l env = pure true := by
  have e1 : env.kindOf y = some .local := h2
  have e2 : env.blockKind = .function := by unfold Env.blockKind; rw [h1]; rfl
  unfold swapsWith
  simp only [e2, e1, h4, Expr.pos, h3]
  rfl
theorem ps_setDc {X : Cx} {i : Nat} {y : Str} {py : Pos} {kx vx tg iter : Expr} {ifs : List Expr} {scope : Scope} {own : List (Str × Nat)} {pos spos : Pos} {wi : TI} {g : TG} {tt : TT} {tk tv : TE} (hc : X.calm = true) (hN : X.N.Nodup) (hy : X.N[i]? = some y) (hyl : X.env.scope.names.lookup y = some .local)
    (hsw : swapsWith (.DictComp kx vx [⟨tg, iter, ifs, 0⟩] scope pos) (some (.Name y py)) spos.line X.env = pure true) (hi : PI X tg iter wi) (ok : BlkOk X.N X.env.scope scope own)
    (hg : ∀ (s : Shared) (H : Hp) (C : Addr) (cl : List (Str × Addr)) (fp : List Addr), PG (X.blk s H scope (compEnvC scope cl C X.env) fp) tg g) (ht : ∀ (s : Shared) (H : Hp) (C : Addr) (cl : List (Str × Addr)) (fp : List Addr), PTs (X.blk s H scope (compEnvC scope cl C X.env) fp) ifs tt)
    (hk : ∀ (s : Shared) (H : Hp) (C : Addr) (cl : List (Str × Addr)) (fp : List Addr), PE (X.blk s H scope (compEnvC scope cl C X.env) fp) kx tk)
    (he : ∀ (s : Shared) (H : Hp) (C : Addr) (cl : List (Str × Addr)) (fp : List Addr), PE (X.blk s H scope (compEnvC scope cl C X.env) fp) vx tv) (hs : ∀ x, foldedSetIterable iter X.env x = pure x := by intro _; rfl) :
    PS X (.Assign [.Name y py] (.DictComp kx vx [⟨tg, iter, ifs, 0⟩] scope pos) spos) (tAsg (tDc wi g tt tk tv (own.map (·.2))) (gName i)) := by
  refine ⟨fun pins s σ H D I h => ?_⟩
  have h : tDc wi g tt tk tv (own.map (·.2)) σ H (fun x H1 => gName i x σ H1 D.nx) := h
  rw [exec_Assign_Name_used _ _ _ _ hsw]
  refine wpAny_bind (wpAny_standAt (wpAny_bind ?_))
  show wpAny _ X.A (do let _ ← comprehension (.DictComp kx vx [⟨tg, iter, ifs, 0⟩] scope pos) scope X.env (firstIterPos [⟨tg, iter, ifs, 0⟩] pos) newDict false (eval iter X.env) (some (assign (.Name y py) X.env))) _ _ s
  refine wpAny_bind (thn (dc_core (Qf := fun _ s' => SP X pins D .next s') hc hN I hi ok hg ht hk he hs h fun L C s' m H' I' q hn f => ?_) fun _ s' hq => wpAny_pure (wpAny_pure hq))
  show wpAny _ _ (assign (.Name y py) X.env (.ref L)) _ _ _
  refine wpAny_assign_Name (store_ok2 (v := V.ref L) I' hN hy (.inl hyl) rfl (fun s2 I2 ⟨a, sb, ha⟩ => ?_) (.inr hyl))
  obtain ⟨f0, f1, f2, f3, f4, f5⟩ := f
  have haC : C ≠ a := ha.elim (fun z => by rw [z]; exact f1) fun z e => f4 y a z e.symm
  exact ⟨m, hn.sameBut sb haC, fun h3 sb3 => ⟨_, H', I2.turned (t' := s2.toks) (fun b o hb e => (sb3.2 b hb).trans e) f0 f1 f3 f4 f5, q⟩⟩
/-- names, and what stands at each -/
def zipK : List Str → List Addr → List (Key × V)
  | n :: ns, a :: as => (Sum.inr n, V.ref a) :: zipK ns as
  | _, _ => []
theorem zipK_len : ∀ {ns : List Str} {as : List Addr}, ns.length = as.length → (zipK ns as).length = ns.length
  | [], [], _ => rfl
  | n :: ns, a :: as, h => by simp only [List.length_cons] at h; simp [zipK, zipK_len (by omega : ns.length = as.length)]
theorem zipK_app : ∀ {ns : List Str} {as : List Addr} (n : Str) (a : Addr), ns.length = as.length → zipK (ns ++ [n]) (as ++ [a]) = zipK ns as ++ [(Sum.inr n, V.ref a)]
  | [], [], n, a, _ => rfl
  | m :: ns, b :: as, n, a, h => by simp only [List.length_cons] at h; simp [zipK, zipK_app n a (by omega : ns.length = as.length)]
theorem zipK_get : ∀ {ns : List Str} {as : List Addr} {q : Nat} {n : Str} {a : Addr}, ns.Nodup → ns[q]? = some n → as[q]? = some a → valV (zipK ns as) (Sum.inr n : Key) = some (V.ref a)
  | [], _, _, _, _, _, h, _ => by simp at h
  | _ :: _, [], _, _, _, _, _, h => by simp at h
  | m :: ns, b :: as, 0, n, a, nd, h, k => by
    simp at h k
    subst h k
    exact valV_pos rfl
  | m :: ns, b :: as, q + 1, n, a, nd, h, k => by
    have nd2 := List.nodup_cons.mp nd
    have hm : n ∈ ns := List.mem_of_getElem? (by simpa using h)
    rw [zipK, valV_neg (fun e => nd2.1 (by cases e; exact hm))]
    exact zipK_get nd2.2 (by simpa using h) (by simpa using k)
theorem zipK_none : ∀ {ns : List Str} {as : List Addr} {n : Str}, n ∉ ns → valV (zipK ns as) (Sum.inr n : Key) = none
  | [], _, _, _ => rfl
  | _ :: _, [], _, _ => rfl
  | m :: ns, b :: as, n, h => by
    rw [zipK, valV_neg (fun e => h (by cases e; exact List.mem_cons_self))]
    exact zipK_none fun m => h (List.mem_cons_of_mem _ m)
/-- the cells of each name, as a dict at p -/
def ParD (H : Hp) (p : Addr) (R : List (List Str)) : Prop := ∃ as, H p = some (.dK (zipK (sset R.flatten) as)) ∧ Paired (CellL H) as ((sset R.flatten).map (cellsOf R))
theorem ParD.same {H H' : Hp} {p : Addr} {R : List (List Str)} (s : Same H H') (h : ParD H p R) : ParD H' p R := by
  obtain ⟨as, h1, h2⟩ := h
  exact ⟨as, s _ _ h1, Paired.mapP h2 fun _ _ z => z.same s⟩
theorem rowC_len (r : Nat) : ∀ (l : List Str) (c : Nat), (rowC r c l).length = l.length
  | [], _ => rfl
  | y :: ys, c => by simp [rowC, rowC_len r ys (c + 1)]
theorem gridC_len : ∀ (l : List (List Str)) (r : Nat), (gridC r l).length = l.flatten.length
  | [], _ => rfl
  | y :: ys, r => by simp [gridC, rowC_len, gridC_len ys (r + 1)]
theorem cellsBy_len (q : Str → Bool) (D : List (Cell × Str)) : (cellsBy q D).length ≤ D.length := by
  unfold cellsBy
  rw [List.length_map]
  exact List.length_filter_le _ _
theorem par_step {H : Hp} {as : List Addr} {ns : List Str} {pre : List (Cell × Str)} {q : Nat} {al t : Addr} {ts : List Addr} {c : Cell} {x : Str} (h : Paired (CellL H) as (ns.map fun y => cellsBy (isN y) pre)) (nda : as.Nodup) (ndn : ns.Nodup) (hq : ns[q]? = some x) (ha : as[q]? = some al)
    (hl : H al = some (.lst (ts.map V.ref))) (hts : Cells H ts (cellsBy (isN x) pre)) (ht : CellV H t c) : Paired (CellL (L2.upd H al (.lst (ts.map V.ref ++ [V.ref t])))) as (ns.map fun y => cellsBy (isN y) (pre ++ [(c, x)])) := by
  refine paired_of_get (by rw [h.length]; simp) fun i a b h1 h2 => ?_
  rw [List.getElem?_map] at h2
  cases e : ns[i]? with
  | none => rw [e] at h2; cases h2
  | some y =>
    rw [e] at h2
    cases h2
    obtain ⟨b, hb1, hb2⟩ := paired_at h h1
    rw [List.getElem?_map, e] at hb1
    cases hb1
    show CellL _ a (cellsBy (isN y) (pre ++ [(c, x)]))
    rw [cellsBy_app]
    by_cases iq : i = q
    · subst iq
      rw [ha] at h1
      cases h1
      rw [hq] at e
      cases e
      refine ⟨ts ++ [t], by rw [upd_same]; simp, Cells.app (Cells.updL hl hts) ?_⟩
      have : cellsBy (isN x) [(c, x)] = [c] := by simp [cellsBy]
      rw [this]
      exact .cons (CellV.updL hl ht) .nil
    · have ny : y ≠ x := fun z => iq (nodup_get ndn e (by rw [z]; exact hq))
      have : cellsBy (isN y) [(c, x)] = [] := by simp [cellsBy, Ne.symm ny]
      rw [this, List.append_nil]
      exact CellL.upd hb2 hl (fun _ z => by cases z) fun z => iq (nodup_get nda h1 (by rw [z]; exact ha))
def sp_parcels_of : Sp := fun vs H Q _ => ∃ (a : Addr) (R : List (List Str)), vs = [.ref a] ∧ RowsL H a R ∧ R.flatten.length ≤ 1000 ∧ ∀ H' p, Same H H' → H p = none → ParD H' p R → Q (.ref p) H'
theorem c_parcels_of (T : Tx K mg) (D : Df K mg "parcels_of" s_parcels_of) : Cal P w K mg base CX0 1 "parcels_of" p_parcels_of (sp_parcels_of) := by
  have S := sc_parcels_of
  refine cal0 D S (fun _ _ _ _ _ _ us hl => match us, hl with | [_], _ => rfl) (fun vs H Q E h => ?_) (fun f cdv A outer s H vs Q E hr h => ?_)
  · obtain ⟨_, _, rfl, _⟩ := h
    rfl
  refine ⟨_, (pss_cons (ps_set (i := 1) S.nd rfl (by first | exact Or.inl rfl | exact Or.inr rfl) (pe_callB (id := "sorted") (cr_sortTx rfl) (by rfl) (T.fr _ (by decide)) (by decide +kernel) (pa_cons (pe_scN (i := 4) (j := 6) (own := [("row", 4), ("name", 6)]) rfl S.nd (pv 0) (blkOk_by (N := N_parcels_of) (sc := defScope s_parcels_of) (by decide +kernel)) (fun _ _ _ _ _ => (pg_name (i := 4) S.nd rfl (by first | exact Or.inl rfl | exact Or.inr rfl))) (fun _ _ _ _ _ => (pv 4)) (fun _ _ _ _ _ => (pg_name (i := 6) S.nd rfl (by first | exact Or.inl rfl | exact Or.inr rfl))) (fun _ _ _ _ _ => (pv 6)) (by decide) (show 4 < N_parcels_of.length from by decide) (show 6 < N_parcels_of.length from by decide) (by decide) (by decide)) pa_nil)))
      (pss_cons (ps_setDc (i := 2) (own := [("name", 6)]) (g := gName 6) rfl S.nd rfl rfl (sw_dict rfl rfl rfl (by decide +kernel)) (pi_list (pv 1)) (blkOk_by (N := N_parcels_of) (sc := defScope s_parcels_of) (by decide +kernel)) (fun _ _ _ _ _ => (pg_name (i := 6) S.nd rfl (by first | exact Or.inl rfl | exact Or.inr rfl))) (fun _ _ _ _ _ => pts_nil) (fun _ _ _ _ _ => (pv 6)) (fun _ _ _ _ _ => (pe_lst_ pa_nil)))
      (pss_cons (ps_for PassesOwn.never rfl (pi_enum (by rfl) (T.fr _ (by decide)) (pa_cons (pv 0) pa_nil)) (pg_tup (n := 2) rfl (pgs_cons (pg_name (i := 3) S.nd rfl (by first | exact Or.inl rfl | exact Or.inr rfl)) (pgs_cons (pg_name (i := 4) S.nd rfl (by first | exact Or.inl rfl | exact Or.inr rfl)) pgs_nil))) (pss_one (ps_for PassesOwn.never rfl (pi_enum (by rfl) (T.fr _ (by decide)) (pa_cons (pv 4) pa_nil)) (pg_tup (n := 2) rfl (pgs_cons (pg_name (i := 5) S.nd rfl (by first | exact Or.inl rfl | exact Or.inr rfl)) (pgs_cons (pg_name (i := 6) S.nd rfl (by first | exact Or.inl rfl | exact Or.inr rfl)) pgs_nil))) (pss_one (ps_expr (pe_bm PySem.F.plainAttrs_list PySem.F.slot_list_append PySem.F.type_list_append mt_append (pe_dget (hu_of hr) (pv 2) (pv 6) (fun _ _ => rfl)) (pa_cons (pe_tup_ (pa_cons (pv 3) (pa_cons (pv 5) pa_nil))) pa_nil)))))))
      (pss_one (ps_ret (pv 2)))))), ?_⟩
  obtain ⟨a, R, rfl, hR, lR, q⟩ := h
  have hsb : R.flatten.length + 1 < scanBound := by unfold scanBound; omega
  walk_at "rd"
  refine ⟨R, hR.tx, hsb, fun D l H1 n1 l1 m1 => ⟨l, n1.at_, by unfold scanBound at hsb ⊢; omega, fun p H2 n2 => ?_⟩⟩
  have s02 := n1.same.trans n2.same
  have ndn : (sset R.flatten).Nodup := sset_nodup _
  have eL : sset l = sset R.flatten := sset_eq (sset_sorted l) fun x => mem_sset.trans (m1 x)
  rw [eL] at n2
  obtain ⟨ns, hns⟩ : ∃ ns, ns = sset R.flatten := ⟨_, rfl⟩
  have lns : ns.length ≤ 1000 := by rw [hns]; exact Nat.le_trans (sset_len _) lR
  rw [← hns] at n2 ndn
  refine ⟨_, rfl, p, rfl, ⟨_, SqL.of n2.at_⟩, fun f hf => dc_it (walk_list (xs := ns.map V.str)) (fun i H' => ∃ as, H' f = some (.dK (zipK (ns.take i) as)) ∧ as.length = (ns.take i).length ∧ as.Nodup ∧ (∀ a ∈ as, H2 a = none ∧ H' a = some (.lst [])) ∧ Same H2 H')
    ⟨[], upd_same, by simp, .nil, by simp, same_new hf⟩ (fun i H' _ ⟨_, _, _, _, _, s⟩ => SqL.of (s _ _ n2.at_)) (fun i x H3 H4 hi ⟨as, h3, la, nda, hna, s3⟩ y => ?_) (fun H3 ⟨as, h3, la, nda, hna, s3⟩ => ?_)⟩
  · obtain ⟨rfl, hx⟩ := y
    obtain ⟨z, hz, rfl⟩ := str_list_get hx
    walk_at "rd"
    refine fun g H5 n5 => ⟨_, Sum.inr z, rfl, n5.same _ _ h3, by rw [zipK_len la.symm, List.length_take]; omega, ?_⟩
    have nin : z ∉ ns.take i := fun m => by
      have h2 := ndn
      rw [← List.take_append_drop (i + 1) ns, take_get hz, List.append_assoc, List.nodup_append] at h2
      exact h2.2.2 z m z (by simp) rfl
    have ga : ∀ a ∈ as, a ≠ g := fun a ha e => by
      have := (hna a ha).2
      rw [e, n5.fresh] at this
      cases this
    have fg : f ≠ g := ne_of_none h3 n5.fresh
    have ng : H2 g = none := none_of s3 n5.fresh
    refine ⟨as ++ [g], ?_, by rw [take_get hz]; simp [la], ?_, fun a ha => ?_, same_upd (s3.trans n5.same) hf⟩
    · rw [upd_same, putK_new _ (zipK_none nin), take_get hz, zipK_app z g la.symm]
    · rw [List.nodup_append]
      exact ⟨nda, by simp, fun a ha b hb e => by simp at hb; subst hb; exact ga a ha e⟩
    · rcases List.mem_append.mp ha with h | h
      · have := hna a h
        exact ⟨this.1, by rw [upd_ne (ne_of this.2 h3 (by intro z; cases z))]; exact n5.same _ _ this.2⟩
      · simp at h
        subst h
        exact ⟨ng, by rw [upd_ne fg.symm]; exact n5.at_⟩
  · rw [List.take_of_length_le (by simp)] at h3 la
    have s03 := s02.trans s3
    have nf : H f = none := none_of s02 hf
    have hna0 : ∀ a ∈ as, H a = none := fun a ha => none_of s02 (hna a ha).1
    obtain ⟨as0, ha, hR2⟩ := hR
    refine ⟨⟨_, SqL.of (s03 _ _ ha)⟩, ?_⟩
    obtain ⟨PI, hPI⟩ : ∃ PI : List (Cell × Str) → Hp → Prop, PI = fun pre H' => Same H H' ∧ H' f = some (.dK (zipK ns as)) ∧ Paired (CellL H') as (ns.map fun y => cellsBy (isN y) pre) := ⟨_, rfl⟩
    have pS : ∀ {pre H'}, PI pre H' → Same H H' := fun {pre H'} h => by rw [hPI] at h; exact h.1
    refine for_B (walk_enum (xs := as0.map V.ref)) (fun i σ H' => ∃ x3 x4 x5 x6, σ = [some (.ref a), some (.ref p), some (.ref f), x3, x4, x5, x6] ∧ PI (gridC 0 (R.take i)) H') ⟨_, _, _, _, rfl, ?_⟩ (fun i σ H' hi ⟨_, _, _, _, _, h⟩ => SqL.of (pS h _ _ ha)) (fun i v σ H4 H5 hi ⟨x3, x4, x5, x6, e, h⟩ y => ?_) (fun σ H4 ⟨x3, x4, x5, x6, e, h⟩ => ?_)
    · rw [hPI]
      refine ⟨s03, h3, paired_of_get (by simp [la]) fun i a b h1 h2 => ?_⟩
      rw [List.getElem?_map] at h2
      cases e : ns[i]? with
      | none => rw [e] at h2; cases h2
      | some y =>
        rw [e] at h2
        cases h2
        exact ⟨[], (hna a (List.mem_of_getElem? h1)).2, .nil⟩
    · obtain ⟨T1, y1, y2, rfl, hT, rfl, e1, e2⟩ := y
      cases e1
      obtain ⟨t, ht, rfl⟩ := map_ref_get e2
      obtain ⟨zs, hzs, hzt⟩ := paired_at hR2 ht
      have pN : ∀ {pre H' T o}, H' T = none → PI pre H' → PI pre (L2.upd H' T o) := fun {pre H' T o} hT h => by
        rw [hPI] at h ⊢
        exact ⟨h.1.trans (same_new hT), same_new hT _ _ h.2.1, Paired.mapP h.2.2 fun _ _ z => z.same (same_new hT)⟩
      have h5 := pN (o := .tup [.int (i : Nat), .ref t]) hT h
      subst e
      walk_at "rd"
      refine ⟨_, SqT.of upd_same, rfl, _, _, rfl, _, _, rfl, rfl, t, rfl, ⟨_, SqL.of (pS h5 _ _ hzt)⟩, ?_⟩
      refine for_B (walk_enum (xs := zs.map V.str)) (fun j σ H' => ∃ x5 x6, σ = [some (.ref a), some (.ref p), some (.ref f), some (.int (i : Nat)), some (.ref t), x5, x6] ∧ PI (gridC 0 (R.take i) ++ rowC i 0 (zs.take j)) H') ⟨_, _, rfl, by simpa [rowC] using h5⟩ (fun j σ H' hj ⟨_, _, _, h⟩ => SqL.of (pS h _ _ hzt)) (fun j v σ H6 H7 hj ⟨x5, x6, e, h6⟩ y => ?_) (fun σ H6 ⟨x5, x6, e, h6⟩ => ?_)
      · obtain ⟨T2, y1, y2, rfl, hT2, rfl, e1, e2⟩ := y
        cases e1
        obtain ⟨z, hz, rfl⟩ := str_list_get e2
        subst e
        have h7 := pN (o := .tup [.int (j : Nat), .str z]) hT2 h6
        obtain ⟨H7, hH7⟩ : ∃ H7, H7 = L2.upd H6 T2 (.tup [.int (j : Nat), .str z]) := ⟨_, rfl⟩
        have hT7 : H7 T2 = some (.tup [.int (j : Nat), .str z]) := by rw [hH7]; exact upd_same
        rw [← hH7] at h7 ⊢
        walk_at "rd"
        refine ⟨_, SqT.of hT7, rfl, _, _, rfl, _, _, rfl, rfl, ?_⟩
        have zm : z ∈ ns := by
          rw [hns, mem_sset]
          exact List.mem_flatten.mpr ⟨zs, List.mem_of_getElem? hzs, List.mem_of_getElem? hz⟩
        obtain ⟨q', hq', eq'⟩ := List.mem_iff_getElem.mp zm
        have hq : ns[q']? = some z := by rw [List.getElem?_eq_getElem hq', eq']
        have haq : as[q']? = some (as[q']'(by omega)) := List.getElem?_eq_getElem _
        obtain ⟨al, hal⟩ : ∃ al, as[q']? = some al := ⟨_, haq⟩
        have h7' := h7
        rw [hPI] at h7'
        obtain ⟨s7, d7, P7⟩ := h7'
        obtain ⟨b, hb1, ⟨ts, hb2, hb3⟩⟩ := paired_at P7 hal
        rw [List.getElem?_map, hq] at hb1
        cases hb1
        refine ⟨V.ref al, DGet_k d7 (zipK_get ndn hq hal), tyV_lst hb2, fun T H8 n8 => ?_⟩
        refine ⟨al, rfl, _, n8.same _ _ hb2, ?_, ?_⟩
        · have l1 : ts.length = (cellsBy (isN z) (gridC 0 (R.take i) ++ rowC i 0 (zs.take j))).length := hb3.len
          have l2 := cellsBy_len (isN z) (gridC 0 (R.take i) ++ rowC i 0 (zs.take j))
          have l3 := flat_take_len R (i + 1)
          rw [flat_take hzs, List.length_append] at l3
          rw [List.length_append, gridC_len, rowC_len, List.length_take] at l2
          rw [List.length_map]
          omega
        · have h8 := pN (o := .tup [.int (i : Nat), .int (j : Nat)]) n8.fresh (by rw [hPI]; exact ⟨s7, d7, P7⟩)
          rw [rowC_take hz, ← List.append_assoc]
          rw [hPI]
          have nal : H al = none := hna0 al (List.mem_of_getElem? hal)
          exact ⟨same_upd (s7.trans n8.same) nal, by rw [upd_ne (ne_of d7 hb2 (by intro z; cases z))]; exact n8.same _ _ d7,
            par_step (Paired.mapP P7 fun _ _ z => z.same n8.same) nda ndn hq hal (n8.same _ _ hb2) (hb3.same n8.same) n8.at_⟩
      · have full : zs.take (zs.map V.str).length = zs := List.take_of_length_le (by rw [List.length_map]; exact Nat.le_refl _)
        rw [full] at h6
        subst e
        show _ ∧ _
        rw [gridC_take hzs]
        exact ⟨⟨_, _, _, _, rfl⟩, h6⟩
    · subst e
      walk_at "rd"
      rw [hPI] at h
      rw [List.take_of_length_le (by rw [List.length_map, hR2.length]; exact Nat.le_refl _)] at h
      exact q _ _ h.1 nf ⟨as, by rw [← hns]; exact h.2.1, by rw [← hns]; exact h.2.2⟩
end
end Dk
-- text D
set_option maxHeartbeats 1000000
namespace Dk
open PySem PySem.Spec PyProof.Rows L2
local macro_rules | `(tactic| walk_at "rd") => `(tactic| simp only [tRet, tRetN, tSeq, tAsg, tIfS, tB, tVar, tC, tCons, tNil, tCB, tCall, tOp, tUn, rI0, rI, rU, rEq, rNe, gName, tAnd, tOr, tNot, tAndV, tOrV, tNotV, tIf, tTest, tChain, tDrop, tNext, tBreak, tCont, tTup, tLst, tBM, tBM0, tM0, tM1, tSl, tPart, tNoPart, tPar,
  rIs, rIs2, rIxL, rIxT, rIxS, rAppend, rExtend, rPop, rPopAt, gTup, gCons, gNil, gSub, tYes, wipe, tD1, tDcC, rListC, rSortC, rEmp, rJoin, tM1, gFld, tFld, sFld, rMinDef, tCKw, StX.tStar, rLen, tDGet2, tNo, tScN, rSortTx, rSetTx, iKeys, tPar3, sDPut, tFor_eq, iList, iEnum, iStr, iZip, cxK, cxP, cxW, tTup_, tLst_, tDNewK_, tDNewT_, rSlL_, rListOf_, rCatN, rRepN, rListStr, iRng1, rLenT, rInC, rDictC, sizeLine_eq, Nat.reduceLeDiff, Bool.true_or, Bool.false_or, Bool.or_true, Bool.or_false, Bool.true_and, Bool.false_and, Bool.and_true, Bool.and_false, Bool.not_true, Bool.not_false, Bool.not_eq_true', decide_eq_true_eq, decide_eq_false_iff_not, scal, isT_Non_boo, isT_Non_int, isT_Non_str, isT_Non_lis, isT_Non_tup, isT_Non_dic, isT_boo_boo, isT_boo_int, isT_boo_str, isT_boo_lis, isT_boo_tup, isT_boo_dic, isT_int_boo, isT_int_int, isT_int_str, isT_int_lis, isT_int_tup, isT_int_dic, isT_str_boo, isT_str_int, isT_str_str, isT_str_lis, isT_str_tup, isT_str_dic, isT_lis_boo, isT_lis_int, isT_lis_str, isT_lis_lis, isT_lis_tup, isT_lis_dic, isT_tup_boo, isT_tup_int, isT_tup_str, isT_tup_lis, isT_tup_tup, isT_tup_dic, isT_dic_boo, isT_dic_int, isT_dic_str, isT_dic_lis, isT_dic_tup, isT_dic_dic, kit_Non, kit_boo, kit_int, kit_str, kit_lis, kit_tup, kit_dic, sg_inj, vt_non, vt_bl, vt_int, vt_str, len_str, tDGet, tDIn, tDNotIn,
  L2.start, List.map_cons, List.map_nil, List.length_cons, List.length_nil, List.cons_append, List.nil_append, List.append_nil, Nat.zero_add, Nat.reduceAdd, Nat.reduceSub, Nat.sub_zero, Nat.sub_self, List.replicate_succ, List.replicate_zero,
  List.getElem?_cons_zero, List.getElem?_cons_succ, List.getElem?_nil, List.set_cons_zero, List.set_cons_succ, List.cons.injEq, Option.some.injEq, V.int.injEq, V.str.injEq, V.bl.injEq, V.ref.injEq, V.ty.injEq, reduceCtorEq,
  and_assoc, and_true, true_and, false_and, and_false, exists_eq_left, exists_eq_left', exists_eq', exists_eq_right, exists_eq_right', exists_and_left, exists_and_right, exists_const, exists_false, exists_eq, if_true, if_false, Bool.false_eq_true, Bool.true_eq, decide_true, decide_false, ite_self])
section
variable {P : Program} {w : World} {K : PySem.W.Frag} {mg : Str → Option Value} {base : Heap}
theorem beqI (a b : Int) : (a == b) = decide (b = a) := by
  by_cases h : a = b
  · subst h; simp
  · rw [beq_eq_false_iff_ne.mpr h, decide_eq_false (Ne.symm h)]
def sp_is_edge : Sp := fun vs H Q _ => ∃ (t : Addr) (c : Cell) (h w : Int), vs = [.ref t, .int h, .int w] ∧ CellV H t c ∧ cellB c = true ∧ c.1 < h ∧ c.2 < w ∧ ∀ H', Same H H' → Q (.bl (edgeB c h w)) H'
theorem c_is_edge (T : Tx K mg) (D : Df K mg "is_edge" s_is_edge) (c_is_cell : Cal P w K mg base CX0 3 "is_cell" p_is_cell (sp_is_cell)) : Cal P w K mg base CX0 4 "is_edge" p_is_edge (sp_is_edge) := by
  have S := sc_is_edge
  refine cal0 D S (fun _ _ _ _ _ _ us hl => match us, hl with | [_, _, _], _ => rfl) (fun vs H Q E h => ?_) (fun f cdv A outer s H vs Q E hr h => ?_)
  · obtain ⟨_, _, _, _, rfl, _⟩ := h
    rfl
  refine ⟨_, (pss_cons (ps_if (PW.pt (pw_or (pt_not (pt_val (pe_fn c_is_cell hr (pa_cons (pv 0) pa_nil)))) (pw_or (pt_cmpR op_ge (pe_ix (r := rIxT K) ix_tup (pv 0) pe_int (fun _ _ => rfl)) (pv 1) (nomark _)) (pw_or1 (pt_cmpR op_ge (pe_ix (r := rIxT K) ix_tup (pv 0) pe_int (fun _ _ => rfl)) (pv 2) (nomark _)))))) (pss_one (ps_ret pe_bl)) pss_nil)
      (pss_one (ps_ret (pe_or (pe_cmpR (r := rIn K false) op_in_seq (pe_ix (r := rIxT K) ix_tup (pv 0) pe_int (fun _ _ => rfl)) (pe_tup_ (pa_cons pe_int (pa_cons (pe_op op_sub (pv 1) pe_int) pa_nil))) (by rfl)) (pe_one (pe_cmpR (r := rIn K false) op_in_seq (pe_ix (r := rIxT K) ix_tup (pv 0) pe_int (fun _ _ => rfl)) (pe_tup_ (pa_cons pe_int (pa_cons (pe_op op_sub (pv 2) pe_int) pa_nil))) (by rfl))))))), ?_⟩
  obtain ⟨t, c, h, w, rfl, hc, cb, h1, h2, q⟩ := h
  walk_at "rd"
  refine ⟨t, c, rfl, hc, _, rfl, ?_⟩
  rw [if_neg (by rw [cb]; simp)]
  refine ⟨_, SqT.of hc, _, atI_nat (j := 0) rfl, _, rfl, ?_⟩
  rw [if_neg (by omega)]
  refine ⟨_, SqT.of hc, _, atI_nat (j := 1) rfl, _, rfl, ?_⟩
  rw [if_neg (by omega)]
  refine ⟨_, SqT.of hc, _, atI_nat (j := 0) rfl, fun p1 H1 n1 => ⟨p1, _, rfl, .inr (SqT.of n1.at_), rfl, rfl, _, rfl, ?_⟩⟩
  have e1 : inV (V.int c.1) [V.int 0, V.int (h - 1)] = (decide (c.1 = 0) || decide (c.1 = h - 1)) := by simp [inV, eqV, beqI]
  have e2 : inV (V.int c.2) [V.int 0, V.int (w - 1)] = (decide (c.2 = 0) || decide (c.2 = w - 1)) := by simp [inV, eqV, beqI]
  refine ite2 (fun a => ?_) fun a => ?_
  · have := q H1 n1.same
    rwa [show edgeB c h w = true from by unfold edgeB; rw [← e1]; simp [show inV (V.int c.1) [V.int 0, V.int (h - 1)] = true from a]] at this
  · refine ⟨_, SqT.of (n1.same _ _ hc), _, atI_nat (j := 1) rfl, fun p2 H2 n2 => ⟨p2, _, rfl, .inr (SqT.of n2.at_), rfl, rfl, ?_⟩⟩
    have := q H2 (n1.same.trans n2.same)
    unfold edgeB at this
    rw [← e1, ← e2, show inV (V.int c.1) [V.int 0, V.int (h - 1)] = false from by simpa using a, Bool.false_or] at this
    exact this
def sp_check_road : Sp := fun vs H Q _ => ∃ (a : Addr) (cs : List Cell) (h w : Int), vs = [.ref a, .int h, .int w] ∧ CellL H a cs ∧ cs.Nodup ∧ (∀ c ∈ cs, cellB c = true ∧ c.1 < h ∧ c.2 < w ∧ edgeB c h w = true) ∧ cs.length ≤ 1000 ∧ ∀ H', Same H H' → Q .non H'
theorem c_check_road (T : Tx K mg) (D : Df K mg "check_road" s_check_road) (c_is_edge : Cal P w K mg base CX0 4 "is_edge" p_is_edge (sp_is_edge)) (c_is_list : Cal P w K mg base CX0 1 "is_list" p_is_list (sp_is_list)) : Cal P w K mg base CX0 5 "check_road" p_check_road (sp_check_road) := by
  have S := sc_check_road
  refine cal0 D S (fun _ _ _ _ _ _ us hl => match us, hl with | [_, _, _], _ => rfl) (fun vs H Q E h => ?_) (fun f cdv A outer s H vs Q E hr h => ?_)
  · obtain ⟨_, _, _, _, rfl, _⟩ := h
    rfl
  refine ⟨_, (pss_cons (ps_if (pt_not (pt_val (pe_fn c_is_list hr (pa_cons (pv 0) pa_nil)))) (pss_one ps_never) pss_nil)
      (pss_cons (ps_set (i := 3) S.nd rfl (by first | exact Or.inl rfl | exact Or.inr rfl) pe_dnewT_)
      (pss_one (ps_for PassesOwn.never rfl (pi_enum (by rfl) (T.fr _ (by decide)) (pa_cons (pv 0) pa_nil)) (pg_tup (n := 2) rfl (pgs_cons (pg_name (i := 4) S.nd rfl (by first | exact Or.inl rfl | exact Or.inr rfl)) (pgs_cons (pg_name (i := 5) S.nd rfl (by first | exact Or.inl rfl | exact Or.inr rfl)) pgs_nil))) (pss_cons (ps_if (PW.pt (pw_or (pt_not (pt_val (pe_fn c_is_edge hr (pa_cons (pv 5) (pa_cons (pv 1) (pa_cons (pv 2) pa_nil)))))) (pw_or1 (pt_cmp (pc_din (hu_of hr) (pv 5) (pv 3)))))) (pss_one ps_never) pss_nil)
      (pss_one (ps_dput (hu_of hr) (pv 3) (pv 5) pe_bl rfl))))))), ?_⟩
  obtain ⟨a, cs, h, w, rfl, hc, nd, cb, hl, q⟩ := h
  obtain ⟨ts, ha, hc⟩ := hc
  have lt : ts.length = cs.length := hc.len
  walk_at "rd"
  refine ⟨a, _, rfl, ha, fun H1 s1 => ⟨_, rfl, ?_⟩⟩
  rw [if_neg (by simp)]
  refine fun p2 H2 n2 => ?_
  have s02 := s1.trans n2.same
  refine ⟨⟨_, SqL.of (s02 _ _ ha)⟩, for_B walk_enum (fun i σ H' => ∃ x2 x3, σ = [some (.ref a), some (.int h), some (.int w), some (.ref p2), x2, x3] ∧ Same H H' ∧ H' p2 = some (.dT (trueD (cs.take i)))) ⟨_, _, rfl, s02, n2.at_⟩ (fun i σ H' hi ⟨_, _, _, s, _⟩ => SqL.of (s _ _ ha)) (fun i x σ H3 H4 hi ⟨x2, x3, e, s, hd⟩ y => ?_) (fun σ H3 ⟨x2, x3, e, s, hd⟩ => q _ s)⟩
  obtain ⟨T1, y1, y2, rfl, hT, rfl, e1, e2⟩ := y
  cases e1
  obtain ⟨t, ht, rfl⟩ := map_ref_get e2
  obtain ⟨c, hcs, hct⟩ := hc.get ht
  have s4 : Same H (L2.upd H3 T1 (.tup [.int (i : Nat), .ref t])) := s.trans (same_new hT)
  have ct4 := s4 _ _ hct
  have hd4 := same_new (o := .tup [.int (i : Nat), .ref t]) hT _ _ hd
  subst e
  walk_at "rd"
  obtain ⟨b1, b2, b3, b4⟩ := cb c (List.mem_of_getElem? hcs)
  refine ⟨_, SqT.of upd_same, rfl, _, _, rfl, _, _, rfl, rfl, t, c, h, w, rfl, ct4, b1, b2, b3, fun H5 s5 => ⟨_, rfl, ?_⟩⟩
  have nin : c ∉ cs.take i := fun m => by
    have h2 := nd
    rw [← List.take_append_drop (i + 1) cs, take_get hcs, List.append_assoc, List.nodup_append] at h2
    exact h2.2.2 c m c (by simp) rfl
  rw [if_neg (by rw [b4]; simp)]
  refine ⟨_, DGet.cell (s5 _ _ hd4) (s5 _ _ ct4), ?_⟩
  rw [if_neg nin]
  refine ⟨_, DPut.cell (s5 _ _ hd4) (s5 _ _ ct4) (by rw [List.length_take]; omega), ?_, ?_⟩
  · exact same_upd (s4.trans s5) (none_of s1 n2.fresh)
  · rw [upd_same, take_get hcs]; unfold insC; rw [if_neg nin]
def IntD {κ : Type} [DecidableEq κ] (kvs : List (κ × V)) (n : Nat) : Prop := kvs.length ≤ n ∧ ∀ k v, valV kvs k = some v → ∃ i : Int, v = .int i
theorem IntD.nil {κ : Type} [DecidableEq κ] {n : Nat} : IntD ([] : List (κ × V)) n := ⟨Nat.zero_le _, fun k v h => by cases h⟩
theorem putK_len {κ : Type} [DecidableEq κ] (kvs : List (κ × V)) (k : κ) (v : V) : (putK kvs k v).length ≤ kvs.length + 1 := by
  unfold putK
  split <;> simp
theorem IntD.put {κ : Type} [DecidableEq κ] {kvs : List (κ × V)} {n : Nat} (h : IntD kvs n) (k : κ) (i : Int) : IntD (putK kvs k (.int i)) (n + 1) := by
  refine ⟨by have := putK_len kvs k (.int i); have := h.1; omega, fun j v e => ?_⟩
  rw [valV_put] at e
  split at e
  · exact ⟨i, (Option.some.inj e).symm⟩
  · exact h.2 j v e
theorem IntD.mono {κ : Type} [DecidableEq κ] {kvs : List (κ × V)} {n m : Nat} (h : IntD kvs n) (l : n ≤ m) : IntD kvs m := ⟨Nat.le_trans h.1 l, h.2⟩
theorem IntD.get {κ : Type} [DecidableEq κ] {kvs : List (κ × V)} {n : Nat} (h : IntD kvs n) (k : κ) (i : Int) : ∃ j : Int, (valV kvs k).getD (.int i) = .int j := by
  cases e : valV kvs k with
  | none => exact ⟨i, rfl⟩
  | some v => exact h.2 k v e
def sp_borders_of : Sp := fun vs H Q _ => ∃ (a : Addr) (R : List (List Str)), vs = [.ref a] ∧ RowsL H a R ∧ R.length ≤ 12 ∧ (∀ r ∈ R, r.length ≤ 12 ∧ r.length = (R.headD []).length) ∧
  ∀ H' p b1 b2, Same H H' → H p = none → H' p = some (.tup [.ref b1, .ref b2]) → Q (.ref p) H'
theorem c_borders_of (T : Tx K mg) (D : Df K mg "borders_of" s_borders_of) (c_beside : Cal P w K mg base CX0 4 "beside" p_beside (sp_beside)) : Cal P w K mg base CX0 5 "borders_of" p_borders_of (sp_borders_of) := by
  have S := sc_borders_of
  refine cal0 D S (fun _ _ _ _ _ _ us hl => match us, hl with | [_], _ => rfl) (fun vs H Q E h => ?_) (fun f cdv A outer s H vs Q E hr h => ?_)
  · obtain ⟨_, _, rfl, _⟩ := h
    rfl
  refine ⟨_, (pss_cons (ps_par (i := 1) (j := 2) rfl S.nd rfl rfl (by decide) rfl rfl (pa_cons pe_dnewT_ (pa_cons pe_dnewK_ pa_nil)) (by rfl))
      (pss_cons (ps_for PassesOwn.never rfl (pi_enum (by rfl) (T.fr _ (by decide)) (pa_cons (pv 0) pa_nil)) (pg_tup (n := 2) rfl (pgs_cons (pg_name (i := 3) S.nd rfl (by first | exact Or.inl rfl | exact Or.inr rfl)) (pgs_cons (pg_name (i := 4) S.nd rfl (by first | exact Or.inl rfl | exact Or.inr rfl)) pgs_nil))) (pss_one (ps_for PassesOwn.never rfl (pi_enum (by rfl) (T.fr _ (by decide)) (pa_cons (pv 4) pa_nil)) (pg_tup (n := 2) rfl (pgs_cons (pg_name (i := 5) S.nd rfl (by first | exact Or.inl rfl | exact Or.inr rfl)) (pgs_cons (pg_name (i := 6) S.nd rfl (by first | exact Or.inl rfl | exact Or.inr rfl)) pgs_nil))) (pss_cons (ps_setLc (i := 7) (own := [("cell", 10)]) (g := gName 10) rfl S.nd rfl rfl (sw_true rfl rfl rfl (by decide +kernel)) (pi_list (pe_fn c_beside hr (pa_cons (pe_tup_ (pa_cons (pv 3) (pa_cons (pv 5) pa_nil))) pa_nil))) (blkOk_by (N := N_borders_of) (sc := defScope s_borders_of) (by decide +kernel)) (fun _ _ _ _ _ => (pg_name (i := 10) S.nd rfl (by first | exact Or.inl rfl | exact Or.inr rfl))) (fun _ _ _ _ _ => (pts_one (PW.pt (pw_and (pt_cmpR op_lt (pe_ix (r := rIxT K) ix_tup (pv 10) pe_int (fun _ _ => rfl)) (pe_callB (id := "len") (r := rLen K) (call_len_ rfl) (by rfl) (T.fr _ (by decide)) (by decide +kernel) (pa_cons (pv 0) pa_nil)) (nomark _)) (pw_and1 (pt_cmpR op_lt (pe_ix (r := rIxT K) ix_tup (pv 10) pe_int (fun _ _ => rfl)) (pe_callB (id := "len") (r := rLen K) (call_len_ rfl) (by rfl) (T.fr _ (by decide)) (by decide +kernel) (pa_cons (pv 4) pa_nil)) (nomark _))))))) (fun _ _ _ _ _ => (pv 10)))
      (pss_cons (ps_dput (hu_of hr) (pv 2) (pv 6) (pe_op op_sub (pe_op op_add (pe_dget2 (hu_of hr) (pv 2) (pv 6) pe_int ⟨rfl, rfl, rfl, rfl⟩) pe_int) (pe_callB (id := "len") (r := rLen K) (call_len_ rfl) (by rfl) (T.fr _ (by decide)) (by decide +kernel) (pa_cons (pv 7) pa_nil))) rfl)
      (pss_one (ps_for PassesOwn.never rfl (pi_list (pv 7)) (pg_name (i := 8) S.nd rfl (by first | exact Or.inl rfl | exact Or.inr rfl)) (pss_cons (ps_set (i := 9) S.nd rfl (by first | exact Or.inl rfl | exact Or.inr rfl) (pe_ix (r := rIxL K) ix_list (pe_ix (r := rIxL K) ix_list (pv 0) (pe_ix (r := rIxT K) ix_tup (pv 8) pe_int (fun _ _ => rfl)) (fun _ _ => rfl)) (pe_ix (r := rIxT K) ix_tup (pv 8) pe_int (fun _ _ => rfl)) (fun _ _ => rfl)))
      (pss_one (ps_if (pt_cmpR op_ne (pv 9) (pv 6) (nomark _)) (pss_one (ps_dput (hu_of hr) (pv 1) (pe_tup_ (pa_cons (pv 6) (pa_cons (pv 9) pa_nil))) (pe_op op_add (pe_dget2 (hu_of hr) (pv 1) (pe_tup_ (pa_cons (pv 6) (pa_cons (pv 9) pa_nil))) pe_int ⟨rfl, rfl, rfl, rfl⟩) pe_int) rfl)) pss_nil))))))))))
      (pss_one (ps_ret (pe_tup_ (pa_cons (pv 1) (pa_cons (pv 2) pa_nil))))))), ?_⟩
  obtain ⟨a, R, rfl, ⟨as, ha, hR⟩, l1, l2, q⟩ := h
  have lt : as.length = R.length := hR.length
  walk_at "rd"
  refine fun b1 H1 n1 b2 H2 n2 => ?_
  have s02 := n1.same.trans n2.same
  refine ⟨⟨_, SqL.of (s02 _ _ ha)⟩, ?_⟩
  obtain ⟨PI, hPI⟩ : ∃ PI : Nat → Nat → Hp → Prop, PI = fun u v H' => Same H H' ∧ (∃ kT, H' b1 = some (.dT kT) ∧ IntD kT u) ∧ ∃ kK, H' b2 = some (.dK kK) ∧ IntD kK v := ⟨_, rfl⟩
  have pS : ∀ {u v H'}, PI u v H' → Same H H' := fun {u v H'} h => by rw [hPI] at h; exact h.1
  have pN : ∀ {u v H' H''}, Same H' H'' → PI u v H' → PI u v H'' := fun {u v H' H''} s h => by
    rw [hPI] at h ⊢
    obtain ⟨h1, ⟨kT, h2, h3⟩, kK, h4, h5⟩ := h
    exact ⟨h1.trans s, ⟨kT, s _ _ h2, h3⟩, kK, s _ _ h4, h5⟩
  have nb1 : H b1 = none := n1.fresh
  have nb2 : H b2 = none := none_of n1.same n2.fresh
  refine for_B (walk_enum (xs := as.map V.ref)) (fun i σ H' => ∃ x3 x4 x5 x6 x7 x8 x9, σ = [some (.ref a), some (.ref b1), some (.ref b2), x3, x4, x5, x6, x7, x8, x9, none] ∧ PI (48 * i) (12 * i) H') ⟨_, _, _, _, _, _, _, rfl, ?_⟩ (fun i σ H' hi ⟨_, _, _, _, _, _, _, _, h⟩ => SqL.of (pS h _ _ ha)) (fun i v σ H4 H5 hi ⟨x3, x4, x5, x6, x7, x8, x9, e, h⟩ y => ?_) (fun σ H4 ⟨x3, x4, x5, x6, x7, x8, x9, e, h⟩ => ?_)
  · rw [hPI]
    exact ⟨s02, ⟨[], n2.same _ _ n1.at_, .nil⟩, [], n2.at_, .nil⟩
  · obtain ⟨T1, y1, y2, rfl, hT, rfl, e1, e2⟩ := y
    cases e1
    obtain ⟨t, ht, rfl⟩ := map_ref_get e2
    obtain ⟨zs, hzs, hzt⟩ := paired_at hR ht
    have h5 := pN (same_new (o := .tup [.int (i : Nat), .ref t]) hT) h
    have il : i < R.length := by rw [← lt]; simpa using hi
    obtain ⟨z1, z2⟩ := l2 zs (List.mem_of_getElem? hzs)
    subst e
    walk_at "rd"
    refine ⟨_, SqT.of upd_same, rfl, _, _, rfl, _, _, rfl, rfl, t, rfl, ⟨_, SqL.of (pS h5 _ _ hzt)⟩, ?_⟩
    refine for_B (walk_enum (xs := zs.map V.str)) (fun j σ H' => ∃ x5 x6 x7 x8 x9, σ = [some (.ref a), some (.ref b1), some (.ref b2), some (.int (i : Nat)), some (.ref t), x5, x6, x7, x8, x9, none] ∧ PI (4 * (12 * i + j)) (12 * i + j) H') ⟨_, _, _, _, _, rfl, by simpa [Nat.mul_add, ← Nat.mul_assoc] using h5⟩ (fun j σ H' hj ⟨_, _, _, _, _, _, h⟩ => SqL.of (pS h _ _ hzt)) (fun j v σ H6 H7 hj ⟨x5, x6, x7, x8, x9, e, h6⟩ y => ?_) (fun σ H6 ⟨x5, x6, x7, x8, x9, e, h6⟩ => ?_)
    · obtain ⟨T2, y1, y2, rfl, hT2, rfl, e1, e2⟩ := y
      cases e1
      obtain ⟨z, hz, rfl⟩ := str_list_get e2
      subst e
      have h7 := pN (same_new (o := .tup [.int (j : Nat), .str z]) hT2) h6
      obtain ⟨H7, hH7⟩ : ∃ H7, H7 = L2.upd H6 T2 (.tup [.int (j : Nat), .str z]) := ⟨_, rfl⟩
      have hT7 : H7 T2 = some (.tup [.int (j : Nat), .str z]) := by rw [hH7]; exact upd_same
      rw [← hH7] at h7 ⊢
      walk_at "rd"
      refine ⟨_, SqT.of hT7, rfl, _, _, rfl, _, _, rfl, rfl, ?_⟩
      obtain ⟨c, hc⟩ : ∃ c : Cell, c = ((i : Int), (j : Int)) := ⟨_, rfl⟩
      refine ⟨_, rfl, _, rfl, by rw [sizeLine_eq]; simp, fun T H8 n8 => ⟨T, c, rfl, by rw [hc]; exact n8.at_, fun H9 pl s9 f9 hpl => ?_⟩⟩
      obtain ⟨gs, hg, hgc⟩ := hpl
      have h9 := pN (n8.same.trans s9) h7
      have s09 := pS h9
      have lgs : gs.length ≤ 4 := by
        rw [hgc.len]
        exact Nat.le_trans (List.length_filter_le _ _) (by simp [nb])
      obtain ⟨RR, hRR⟩ : ∃ RR : List V → Nat → Hp → Prop, RR = fun acc k H' => ∃ ts cs, acc = ts.map V.ref ∧ Cells H' ts cs ∧ cs.length ≤ k ∧ ∀ d ∈ cs, cellB d = true ∧ d.1 < R.length ∧ d.2 < zs.length := ⟨_, rfl⟩
      refine ⟨pl, rfl, ⟨_, SqL.of hg⟩, fun D hD => lc_it (walk_list (xs := gs.map V.ref)) (LcInv H9 D RR) (lc0 hD (by rw [hRR]; exact ⟨[], [], rfl, .nil, Nat.le_refl _, by simp⟩)) (fun _ _ _ ⟨_, _, _, s, _⟩ => SqL.of (s _ _ hg)) (fun k x H10 H11 hk ⟨acc, ha', hl, s1, r⟩ y => ?_) (fun H10 ⟨acc, ha', hl, s1, r⟩ => ?_)⟩
      · obtain ⟨rfl, hx⟩ := y
        obtain ⟨u, hu, rfl⟩ := map_ref_get hx
        obtain ⟨d, hd, cd⟩ := hgc.get hu
        have cu := s1 _ _ cd
        have s010 := s09.trans s1
        have db : cellB d = true := (List.mem_filter.mp (List.mem_of_getElem? hd)).2
        have skip : LcInv H9 D RR (k + 1) H11 := lcSkip ha' hl s1 (by
          rw [hRR] at r ⊢
          obtain ⟨ts, cs, e, r, lc, pc⟩ := r
          exact ⟨ts, cs, e, r, by omega, pc⟩)
        walk_at "rd"
        refine ⟨_, SqT.of cu, _, atI_nat (j := 0) rfl, len_of (s010 _ _ ha) ⟨_, rfl, ?_⟩⟩
        rw [List.length_map, lt]
        refine ite2 (fun a1 => ⟨_, SqT.of cu, _, atI_nat (j := 1) rfl, len_of (s010 _ _ hzt) ⟨_, rfl, ?_⟩⟩) fun _ => skip
        rw [List.length_map]
        refine ite2 (fun a2 => lcKeep hD ha' hl hk (by rw [List.length_map]; omega) s1 ?_) fun _ => skip
        rw [hRR] at r ⊢
        obtain ⟨ts, cs, e, r, lc, pc⟩ := r
        refine ⟨ts ++ [u], cs ++ [d], by rw [e]; simp, (Cells.updL ha' r).app (.cons (CellV.updL ha' cu) .nil), by simp; omega, fun d' hd' => ?_⟩
        rcases List.mem_append.mp hd' with h | h
        · exact pc d' h
        · simp at h; subst h; exact ⟨db, a1, a2⟩
      · rw [hRR] at r
        obtain ⟨ts, cs, e, r, lc, pc⟩ := r
        subst e
        have h10 := pN s1 h9
        have s10 := pS h10
        rw [hPI] at h10
        obtain ⟨_, ⟨kT, hkT, iT⟩, kK, hkK, iK⟩ := h10
        obtain ⟨g1, hg1⟩ := iK.get (Sum.inr z) 0
        have nDb : D ≠ b2 := ne_of ha' hkK (by intro z; cases z)
        have n12 : b1 ≠ b2 := ne_of hkT hkK (by intro z; cases z)
        have ku : kK.length < 16777216 := by
          have := iK.1
          have : i < 12 := by omega
          have : j < zs.length := by simpa using hj
          omega
        refine ⟨.inl ⟨_, .inl hkK⟩, _, DGet.k (k := Sum.inr z) hkK, g1, hg1, len_of ha' ⟨_, DPut.k (k := Sum.inr z) hkK (by rw [sizeLine_eq]; exact ku), D, rfl, ?_⟩⟩
        obtain ⟨m, hm⟩ : ∃ m : Int, m = g1 + 4 - (ts.map V.ref).length := ⟨_, rfl⟩
        rw [← hm]
        obtain ⟨H11, hH11⟩ : ∃ H11, H11 = L2.upd H10 b2 (.dK (putK kK (Sum.inr z) (.int m))) := ⟨_, rfl⟩
        have h11 : PI (4 * (12 * i + j)) (12 * i + j + 1) H11 := by
          rw [hPI, hH11]
          exact ⟨same_upd s10 nb2, ⟨kT, by rw [upd_ne n12]; exact hkT, iT⟩, _, upd_same, iK.put _ _⟩
        have D11 : H11 D = some (.lst (ts.map V.ref)) := by rw [hH11, upd_ne nDb]; exact ha'
        have r11 : Cells H11 ts cs := by rw [hH11]; exact Cells.upd hkK r (fun _ e => by cases e)
        rw [← hH11]
        refine ⟨⟨_, SqL.of D11⟩, ?_⟩
        have lts : ts.length ≤ 4 := by rw [r.len]; simp at lc; omega
        refine for_B (walk_list (xs := ts.map V.ref)) (fun q σ H' => ∃ x8 x9, σ = [some (.ref a), some (.ref b1), some (.ref b2), some (.int (i : Nat)), some (.ref t), some (.int (j : Nat)), some (.str z), some (.ref D), x8, x9, none] ∧ PI (4 * (12 * i + j) + q) (12 * i + j + 1) H' ∧ H' D = some (.lst (ts.map V.ref)) ∧ Cells H' ts cs) ⟨_, _, rfl, h11, D11, r11⟩ (fun q σ H' _ ⟨_, _, _, _, h, _⟩ => SqL.of h) (fun q v σ H12 H13 hq ⟨y8, y9, e, h12, D12, r12⟩ y => ?_) (fun σ H12 ⟨y8, y9, e, h12, D12, r12⟩ => ?_)
        · obtain ⟨rfl, hx⟩ := y
          obtain ⟨u, hu, rfl⟩ := map_ref_get hx
          obtain ⟨d, hd, cd⟩ := r12.get hu
          obtain ⟨d1, d2, d3⟩ := pc d (List.mem_of_getElem? hd)
          have s12 := pS h12
          have d0 : 0 ≤ d.1 ∧ 0 ≤ d.2 := by
            unfold cellB at d1
            simp only [Bool.and_eq_true, decide_eq_true_eq] at d1
            exact ⟨d1.1.1, d1.2.1⟩
          obtain ⟨m1, em1⟩ : ∃ m : Nat, d.1 = (m : Int) := ⟨d.1.toNat, by omega⟩
          obtain ⟨m2, em2⟩ : ∃ m : Nat, d.2 = (m : Int) := ⟨d.2.toNat, by omega⟩
          obtain ⟨zs', hzs'⟩ : ∃ zs', R[m1]? = some zs' := ⟨R[m1]'(by omega), List.getElem?_eq_getElem _⟩
          obtain ⟨t', ht', hzt'⟩ := paired_at2 hR hzs'
          have lz' := (l2 zs' (List.mem_of_getElem? hzs')).2
          obtain ⟨o, ho⟩ : ∃ o, zs'[m2]? = some o := ⟨zs'[m2]'(by omega), List.getElem?_eq_getElem _⟩
          subst e
          walk_at "rd"
          refine ⟨_, SqT.of cd, _, atI_nat (j := 0) rfl, _, _, rfl, SqL.of (s12 _ _ ha), _, by rw [em1]; exact atI_nat (by rw [List.getElem?_map, ht']; rfl), _, SqT.of cd, _, atI_nat (j := 1) rfl, _, rfl, _, _, rfl, SqL.of (s12 _ _ hzt'), _, by rw [em2]; exact atI_nat (by rw [List.getElem?_map, ho]; rfl), rfl, ?_⟩
          have stay : PI (4 * (12 * i + j) + (q + 1)) (12 * i + j + 1) H13 := by
            rw [hPI] at h12 ⊢
            obtain ⟨a1, ⟨kT, a2, a3⟩, a4⟩ := h12
            exact ⟨a1, ⟨kT, a2, a3.mono (by omega)⟩, a4⟩
          refine ite2 (fun _ => ?_) fun _ => ⟨stay, D12, r12⟩
          rw [hPI] at h12
          obtain ⟨a1, ⟨kT, a2, a3⟩, kK2, a4, a5⟩ := h12
          obtain ⟨g2, hg2⟩ := a3.get [Sum.inr z, Sum.inr o] 0
          refine ⟨.inr ⟨_, .inl a2⟩, fun p1 H14 n14 => ⟨_, DGet.t (k := [Sum.inr z, Sum.inr o]) (n14.same _ _ a2) n14.at_, g2, hg2, fun p2 H15 n15 => ?_⟩⟩
          have s15 := n14.same.trans n15.same
          have k15 := s15 _ _ a2
          have nDb1 : D ≠ b1 := ne_of D12 a2 (by intro z; cases z)
          refine ⟨_, DPut.t (k := [Sum.inr z, Sum.inr o]) k15 n15.at_ (by
            have := a3.1
            have : i < 12 := by omega
            have : j < zs.length := by simpa using hj
            have : q < ts.length := by simpa using hq
            rw [sizeLine_eq]; omega), ?_, by rw [upd_ne nDb1]; exact s15 _ _ D12, Cells.upd k15 (r12.same s15) (fun _ e => by cases e)⟩
          rw [hPI]
          exact ⟨same_upd (a1.trans s15) nb1, ⟨_, upd_same, by have := a3.put [Sum.inr z, Sum.inr o] (g2 + 1); exact this⟩, kK2, by rw [upd_ne n12.symm]; exact s15 _ _ a4, a5⟩
        · subst e
          show _ ∧ _
          refine ⟨⟨_, _, _, _, _, rfl⟩, ?_⟩
          rw [hPI] at h12 ⊢
          obtain ⟨a1, ⟨kT, a2, a3⟩, kK2, a4, a5⟩ := h12
          rw [List.length_map] at a3
          exact ⟨a1, ⟨kT, a2, a3.mono (by omega)⟩, kK2, a4, a5.mono (by omega)⟩
    · subst e
      show _ ∧ _
      refine ⟨⟨_, _, _, _, _, _, _, rfl⟩, ?_⟩
      rw [hPI] at h6 ⊢
      obtain ⟨a1, ⟨kT, a2, a3⟩, kK2, a4, a5⟩ := h6
      rw [List.length_map] at a3 a5
      exact ⟨a1, ⟨kT, a2, a3.mono (by omega)⟩, kK2, a4, a5.mono (by omega)⟩
  · subst e
    walk_at "rd"
    refine fun p H5 n5 => q _ p b1 b2 ((pS h).trans n5.same) (none_of (pS h) n5.fresh) n5.at_
end
end Dk
-- text E
set_option maxHeartbeats 1000000
namespace Dk
open PySem PySem.Spec PyProof.Rows L2
local macro_rules | `(tactic| walk_at "rd") => `(tactic| simp only [tRet, tRetN, tSeq, tAsg, tIfS, tB, tVar, tC, tCons, tNil, tCB, tCall, tOp, tUn, rI0, rI, rU, rEq, rNe, gName, tAnd, tOr, tNot, tAndV, tOrV, tNotV, tIf, tTest, tChain, tDrop, tNext, tBreak, tCont, tTup, tLst, tBM, tBM0, tM0, tM1, tSl, tPart, tNoPart, tPar,
  rIs, rIs2, rIxL, rIxT, rIxS, rAppend, rExtend, rPop, rPopAt, gTup, gCons, gNil, gSub, tYes, wipe, tD1, tDcC, rListC, rSortC, rEmp, rJoin, tM1, gFld, tFld, sFld, rMinDef, tCKw, StX.tStar, rLen, tDGet2, tNo, tScN, rSortTx, rSetTx, iKeys, tPar3, sDPut, tFor_eq, iList, iEnum, iStr, iZip, cxK, cxP, cxW, tTup_, tLst_, tDNewK_, tDNewT_, rSlL_, rListOf_, rCatN, rRepN, rListStr, iRng1, rLenT, rInC, rDictC, sizeLine_eq, Nat.reduceLeDiff, Bool.true_or, Bool.false_or, Bool.or_true, Bool.or_false, Bool.true_and, Bool.false_and, Bool.and_true, Bool.and_false, Bool.not_true, Bool.not_false, Bool.not_eq_true', decide_eq_true_eq, decide_eq_false_iff_not, scal, isT_Non_boo, isT_Non_int, isT_Non_str, isT_Non_lis, isT_Non_tup, isT_Non_dic, isT_boo_boo, isT_boo_int, isT_boo_str, isT_boo_lis, isT_boo_tup, isT_boo_dic, isT_int_boo, isT_int_int, isT_int_str, isT_int_lis, isT_int_tup, isT_int_dic, isT_str_boo, isT_str_int, isT_str_str, isT_str_lis, isT_str_tup, isT_str_dic, isT_lis_boo, isT_lis_int, isT_lis_str, isT_lis_lis, isT_lis_tup, isT_lis_dic, isT_tup_boo, isT_tup_int, isT_tup_str, isT_tup_lis, isT_tup_tup, isT_tup_dic, isT_dic_boo, isT_dic_int, isT_dic_str, isT_dic_lis, isT_dic_tup, isT_dic_dic, kit_Non, kit_boo, kit_int, kit_str, kit_lis, kit_tup, kit_dic, sg_inj, vt_non, vt_bl, vt_int, vt_str, len_str, tDGet, tDIn, tDNotIn,
  L2.start, List.map_cons, List.map_nil, List.length_cons, List.length_nil, List.cons_append, List.nil_append, List.append_nil, Nat.zero_add, Nat.reduceAdd, Nat.reduceSub, Nat.sub_zero, Nat.sub_self, List.replicate_succ, List.replicate_zero,
  List.getElem?_cons_zero, List.getElem?_cons_succ, List.getElem?_nil, List.set_cons_zero, List.set_cons_succ, List.cons.injEq, Option.some.injEq, V.int.injEq, V.str.injEq, V.bl.injEq, V.ref.injEq, V.ty.injEq, reduceCtorEq,
  and_assoc, and_true, true_and, false_and, and_false, exists_eq_left, exists_eq_left', exists_eq', exists_eq_right, exists_eq_right', exists_and_left, exists_and_right, exists_const, exists_false, exists_eq, if_true, if_false, Bool.false_eq_true, Bool.true_eq, decide_true, decide_false, ite_self])
theorem star_lit : (Str.ofString "*") = sg 42 := by decide +kernel
theorem ends_star (z : Str) : Txt.endswith z (Str.ofString "*") = star z := by
  rw [star_lit]
  unfold Txt.endswith star
  rw [Bool.eq_iff_iff, Bool.and_eq_true, decide_eq_true_eq, decide_eq_true_eq, List.getLast?_eq_getElem?]
  have h := PySem.StrLaws.subAt_one z 42 (z.length - 1)
  have e : (sg 42).length = 1 := rfl
  have l := len_tl z
  rw [e] at h ⊢
  constructor
  · rintro ⟨h1, h2⟩
    have := h.mp ⟨by omega, h2⟩
    rw [← l]; exact this
  · intro h1
    rw [← l] at h1
    have := h.mpr h1
    exact ⟨by omega, this.2⟩
theorem cut_butlast (z : Str) : cutS z none (some (-1)) = ⟨(tl z).dropLast.toArray⟩ := by
  unfold cutS
  congr 2
  have : HT.sIx z.length 0 none = 0 := rfl
  rw [this, List.drop_zero, List.dropLast_eq_take]
  congr 1
  rw [← len_tl]
  unfold HT.sIx
  simp
  omega
section
variable {P : Program} {w : World} {K : PySem.W.Frag} {mg : Str → Option Value} {base : Heap}
def sp_bare_word : Sp := fun vs H Q _ => ∃ z : Str, vs = [.str z] ∧ z.length ≤ 16777216 ∧ Q (.str (bare z)) H
theorem c_bare_word (T : Tx K mg) (D : Df K mg "bare_word" s_bare_word) : Cal P w K mg base CX0 1 "bare_word" p_bare_word (sp_bare_word) := by
  have S := sc_bare_word
  refine cal0 D S (fun _ _ _ _ _ _ us hl => match us, hl with | [_], _ => rfl) (fun vs H Q E h => ?_) (fun f cdv A outer s H vs Q E hr h => ?_)
  · obtain ⟨_, rfl, _⟩ := h
    rfl
  refine ⟨_, (pss_one (ps_ret (pe_ifExp (pt_val (pe_m1 PySem.F.slot_str_endswith PySem.F.type_str_endswith mt_endswith (pv 0) pe_str)) (pe_slice sl_str (pv 0) po_none (po_some (pe_un un_neg pe_int))) (pv 0)))), ?_⟩
  obtain ⟨z, rfl, hz, q⟩ := h
  walk_at "rd"
  rw [ends_star]
  refine ite2 (fun a => ⟨z, rfl, by rw [sizeLine_eq]; exact hz, ?_⟩) fun a => ?_
  · rw [cut_butlast]
    rwa [show bare z = ⟨(tl z).dropLast.toArray⟩ from by unfold bare; rw [if_pos a]] at q
  · rwa [show bare z = z from by unfold bare; rw [if_neg a]] at q
theorem small_rows {R : List (List Str)} (h1 : R.length ≤ 12) (h2 : ∀ r ∈ R, r.length ≤ 12) : R.flatten.length ≤ 144 := by
  have : ∀ (R : List (List Str)) (n : Nat), R.length ≤ n → (∀ r ∈ R, r.length ≤ 12) → R.flatten.length ≤ 12 * n := by
    intro R
    induction R with
    | nil => intro n _ _; simp
    | cons r R ih =>
      intro n h1 h2
      cases n with
      | zero => simp at h1
      | succ n =>
        have a := ih n (by simpa using h1) fun x hx => h2 x (List.mem_cons_of_mem _ hx)
        have b := h2 r List.mem_cons_self
        rw [List.flatten_cons, List.length_append]
        omega
  exact this R 12 h1 h2
def sp_line_fault : Sp := fun vs H Q _ => ∃ (a r : Addr) (ws : List Str) (R : List (List Str)), vs = [.ref a, .ref r] ∧ StrL H a ws ∧ RowsL H r R ∧ (∀ z ∈ ws, z.length ≤ 3000) ∧ ws.length ≤ 4000 ∧ R.length ≤ 12 ∧ (∀ x ∈ R, x.length ≤ 12) ∧
  ∀ H', Same H H' → Q (.str ((fault ws R).getD Str.empty)) H'
theorem c_line_fault (T : Tx K mg) (D : Df K mg "line_fault" s_line_fault) (c_bare_word : Cal P w K mg base CX0 1 "bare_word" p_bare_word (sp_bare_word)) (c_is_name : Cal P w K mg base CX0 1 "is_name" p_is_name (sp_is_name)) (c_parcels_of : Cal P w K mg base CX0 1 "parcels_of" p_parcels_of (sp_parcels_of)) : Cal P w K mg base CX0 2 "line_fault" p_line_fault (sp_line_fault) := by
  have S := sc_line_fault
  refine cal0 D S (fun _ _ _ _ _ _ us hl => match us, hl with | [_, _], _ => rfl) (fun vs H Q E h => ?_) (fun f cdv A outer s H vs Q E hr h => ?_)
  · obtain ⟨_, _, _, _, rfl, _⟩ := h
    rfl
  refine ⟨_, (pss_cons (ps_setLc (i := 2) (own := [("word", 3)]) (g := gName 3) rfl S.nd rfl rfl (sw_true rfl rfl rfl (by decide +kernel)) (pi_list (pv 0)) (blkOk_by (N := N_line_fault) (sc := defScope s_line_fault) (by decide +kernel)) (fun _ _ _ _ _ => (pg_name (i := 3) S.nd rfl (by first | exact Or.inl rfl | exact Or.inr rfl))) (fun _ _ _ _ _ => pts_nil) (fun _ _ _ _ _ => (pe_fn c_bare_word hr (pa_cons (pv 3) pa_nil))))
      (pss_cons (ps_if (pt_not (pt_val (pe_callB (id := "all") (cr_all rfl) (by rfl) (T.fr _ (by decide)) (by decide +kernel) (pa_cons (pe_lc (own := [("name", 4)]) (g := gName 4) rfl S.nd (pi_list (pv 2)) (blkOk_by (N := N_line_fault) (sc := defScope s_line_fault) (by decide +kernel)) (fun _ _ _ _ _ => (pg_name (i := 4) S.nd rfl (by first | exact Or.inl rfl | exact Or.inr rfl))) (fun _ _ _ _ _ => pts_nil) (fun _ _ _ _ _ => (pe_fn c_is_name hr (pa_cons (pv 4) pa_nil)))) pa_nil)))) (pss_one (ps_ret pe_str)) pss_nil)
      (pss_cons (ps_if (PW.pt (pw_or (pt_cmpR op_gt (pe_callB (id := "len") (r := rLen K) (call_len_ rfl) (by rfl) (T.fr _ (by decide)) (by decide +kernel) (pa_cons (pv 0) pa_nil)) (pe_conI T.ms) (nomark _)) (pw_or1 (PW.pt (pw_and (pt_cmpR (op_neE hr) (pv 1) (pe_lst_ pa_nil) (nomark _)) (pw_and1 (pt_cmpR op_ne (pe_callB (id := "len") (r := rLen K) (call_len_ rfl) (by rfl) (T.fr _ (by decide)) (by decide +kernel) (pa_cons (pv 0) pa_nil)) (pe_callB (id := "len") (r := rLen K) (call_len_ rfl) (by rfl) (T.fr _ (by decide)) (by decide +kernel) (pa_cons (pe_ix (r := rIxL K) ix_list (pv 1) pe_int (fun _ _ => rfl)) pa_nil)) (nomark _)))))))) (pss_one (ps_ret pe_str)) pss_nil)
      (pss_cons (ps_if (PW.pt (pw_or (pt_cmpR op_eq (pe_callB (id := "len") (r := rLen K) (call_len_ rfl) (by rfl) (T.fr _ (by decide)) (by decide +kernel) (pa_cons (pv 1) pa_nil)) (pe_conI T.ms) (nomark _)) (pw_or1 (pt_cmpR op_gt (pe_callB (id := "len") call_lenD (by rfl) (T.fr _ (by decide)) (by decide +kernel) (pa_cons (pe_fn c_parcels_of hr (pa_cons (pe_lst_ (StX.pa_star (pv 1) (pa_cons (pv 2) pa_nil))) pa_nil)) pa_nil)) (pe_conI T.mp) (nomark _))))) (pss_one (ps_ret pe_str)) pss_nil)
      (pss_one (ps_ret pe_str)))))), ?_⟩
  obtain ⟨a, rr, ws, R, rfl, ha, hR, hw, lw, lR, lr, q⟩ := h
  obtain ⟨as, hr0, hP⟩ := hR
  have lt : as.length = R.length := hP.length
  have ha' : H a = some (.lst (ws.map V.str)) := ha
  walk_at "rd"
  refine ⟨_, rfl, a, rfl, ⟨_, SqL.of ha'⟩, fun D hD => lc_it (walk_list (xs := ws.map V.str)) (LcInv H D fun acc i _ => acc = (ws.take i).map fun z => V.str (bare z)) (lc0 hD (by simp)) (fun _ _ _ ⟨_, _, _, s, _⟩ => SqL.of (s _ _ ha')) (fun i x H6 H7 hi ⟨acc, ha, hl, s1, r⟩ y => ?_) (fun H6 ⟨acc, ha, hl, s1, r⟩ => ?_)⟩
  · obtain ⟨rfl, hx⟩ := y
    obtain ⟨z, hz, rfl⟩ := str_list_get hx
    have := hw z (List.mem_of_getElem? hz)
    walk_at "rd"
    refine ⟨z, rfl, by omega, lcKeep hD ha hl hi (by simp; omega) s1 ?_⟩
    show acc ++ _ = _
    rw [r, take_get hz]
    simp
  · have eacc : acc = (ws.map bare).map V.str := by
      rw [show acc = _ from r, List.take_of_length_le (by simp)]; simp [Function.comp_def]
    subst eacc
    have hD6 : StrL H6 D (ws.map bare) := ha
    walk_at "rd"
    have qq : ∀ why, (fault ws R).getD Str.empty = why → ∀ H', Same H H' → Q (.str why) H' := fun why e H' s => by rw [← e]; exact q H' s
    refine ⟨_, rfl, D, rfl, ⟨_, SqL.of hD6⟩, fun G hG => lc_it (walk_list (xs := (ws.map bare).map V.str)) (LcInv H6 G fun acc i _ => acc = ((ws.map bare).take i).map fun z => V.bl (nameB z)) (lc0 hG (by simp)) (fun _ _ _ ⟨_, _, _, s, _⟩ => SqL.of (s _ _ hD6)) (fun i x H8 H9 hi ⟨acc, ha, hl, s2, r⟩ y => ?_) (fun H8 ⟨acc, ha, hl, s2, r⟩ => ?_)⟩
    · obtain ⟨rfl, hx⟩ := y
      obtain ⟨z, hz, rfl⟩ := str_list_get hx
      have zl : z.length ≤ sizeLine := by
        obtain ⟨u, hu, rfl⟩ := List.mem_map.mp (List.mem_of_getElem? hz)
        have := hw u hu
        have := bare_len u
        rw [sizeLine_eq]; omega
      walk_at "rd"
      refine ⟨z, rfl, zl, fun H10 s10 => lcKeep hG (s10 _ _ ha) hl hi (by simp; omega) (s2.trans s10) ?_⟩
      show acc ++ _ = _
      rw [r, take_get hz]
      simp
    · refine ⟨G, (ws.map bare).map fun z => nameB z, rfl, SqL.of (by rw [ha, show acc = _ from r, List.take_of_length_le (by simp)]; simp [Function.comp_def]), _, rfl, ?_⟩
      have s08 := s1.trans s2
      have eall : (((ws.map bare).map fun z => nameB z).all id) = (ws.map bare).all nameB := by rw [List.all_map]; rfl
      rw [eall]
      refine ite2 (fun a1 => qq _ (by unfold fault; rw [if_pos a1]; rfl) _ s08) fun a1 => ?_
      refine len_of (s08 _ _ ha') ?_
      rw [List.length_map]
      refine ite2 (fun a2 => qq _ (by unfold fault; rw [if_neg a1, if_pos (.inl (by omega))]; rfl) _ s08) fun a2 => ?_
      have tail : (R = [] ∨ ws.length = (R.headD []).length) → ∀ H9, Same H8 H9 → ∃ x, LenV K (V.ref rr) H9 x ∧ if (x : Int) = 12 then Q (V.str (Str.ofString "many")) H9 else
          ∃ x, (SqT K H9 rr x ∨ SqL K H9 rr x) ∧ (x ++ [V.ref D]).length ≤ 16777216 ∧ ∀ (p : Addr) (H'_1 : Hp), New H9 p (HO.lst (x ++ [V.ref D])) H'_1 →
            sp_parcels_of [V.ref p] H'_1 (fun x H1 => ∃ a, x = V.ref a ∧ ∃ x, H1 a = some (HO.dK x) ∧ if 12 < (x.length : Int) then Q (V.str (Str.ofString "many")) H1 else Q (V.str (Str.ofString "")) H1) E0 := by
        intro wd H9 s89
        have s09 := s08.trans s89
        have nw : ¬ (12 < ws.length ∨ (R ≠ [] ∧ ws.length ≠ (R.headD []).length)) := by
          rintro (h | ⟨h1, h2⟩)
          · omega
          · rcases wd with h | h
            · exact h1 h
            · exact h2 h
        refine len_of (s09 _ _ hr0) ?_
        rw [List.length_map, lt]
        refine ite2 (fun a3 => qq _ (by unfold fault; rw [if_neg a1, if_neg nw, if_pos (.inl (by omega))]; rfl) _ s09) fun a3 => ?_
        refine ⟨_, .inr (SqL.of (s09 _ _ hr0)), by simp; omega, fun p H10 n10 => ?_⟩
        have s010 := s09.trans n10.same
        have rows : RowsL H10 p (R ++ [ws.map bare]) := ⟨as ++ [D], by rw [n10.at_]; simp, paired_app (Paired.mapP hP fun _ _ z => StrL.same s010 z) (.cons (StrL.same (s2.trans (s89.trans n10.same)) hD6) .nil)⟩
        have small : (R ++ [ws.map bare]).flatten.length ≤ 1000 := by
          have := small_rows lR lr
          rw [List.flatten_append, List.length_append, List.flatten_cons, List.flatten_nil, List.append_nil, List.length_map]
          omega
        refine ⟨p, _, rfl, rows, small, fun H11 g s11 f11 pd => ?_⟩
        obtain ⟨gs, hg, hgp⟩ := pd
        have lz : (zipK (sset (R ++ [ws.map bare]).flatten) gs).length = (sset (R ++ [ws.map bare]).flatten).length := zipK_len (by rw [hgp.length]; simp)
        refine ⟨g, rfl, _, hg, ?_⟩
        rw [lz]
        refine ite2 (fun a4 => qq _ (by unfold fault; rw [if_neg a1, if_neg nw, if_pos (.inr (by omega))]; rfl) _ (s010.trans s11)) fun a4 => qq _ (by unfold fault; rw [if_neg a1, if_neg nw, if_neg (by rintro (h | h) <;> omega)]; rfl) _ (s010.trans s11)
      intro p H9 n9
      have s09 := s08.trans n9.same
      refine ⟨_, SqL.of (s09 _ _ hr0), SqL.of n9.at_, ite2 (fun e => ?_) fun e => ?_⟩
      · have ne : R ≠ [] := fun z => by
          rw [z] at lt
          have : as = [] := List.length_eq_zero_iff.mp lt
          rw [this] at e
          simp at e
        obtain ⟨z0, hz0, hzt0⟩ := paired_at2 (i := 0) hP (show R[0]? = some (R.headD []) by cases R with | nil => exact absurd rfl ne | cons r R => rfl)
        refine len_of (s09 _ _ ha') ⟨_, SqL.of (s09 _ _ hr0), V.ref z0, atI_zero (by rw [List.getElem?_map, hz0]; rfl), len_of (s09 _ _ hzt0) ?_⟩
        rw [List.length_map, List.length_map]
        exact ite2 (fun a3 => qq _ (by unfold fault; rw [if_neg a1, if_pos (.inr ⟨ne, by omega⟩)]; rfl) _ s09) fun a3 => tail (.inr (by omega)) _ n9.same
      · have eR : R = [] := by
          have : as = [] := by simpa using e
          rw [this] at lt
          exact List.length_eq_zero_iff.mp lt.symm
        exact tail (.inl eR) _ n9.same
theorem zipK_at : ∀ {ns : List Str} {as : List Addr} {i : Nat} {k : Key} {v : V}, (zipK ns as)[i]? = some (k, v) → ∃ n a, ns[i]? = some n ∧ as[i]? = some a ∧ k = Sum.inr n ∧ v = V.ref a
  | [], _, _, _, _, h => by simp [zipK] at h
  | _ :: _, [], _, _, _, h => by simp [zipK] at h
  | n :: ns, a :: as, 0, k, v, h => by
    simp [zipK] at h
    exact ⟨n, a, rfl, rfl, h.1.symm, h.2.symm⟩
  | n :: ns, a :: as, i + 1, k, v, h => by simpa using zipK_at (by simpa [zipK] using h)
theorem DGet_f {H : Hp} {a : Addr} {od : Obj} {kvs : List (Key × V)} {z : Str} {v : V} (e : H a = some (.frz od (.dK kvs))) (h : valV kvs (Sum.inr z : Key) = some v) : DGet H a (.str z) (some v) := by
  rw [← h]
  exact .inl ⟨kvs, Sum.inr z, .inr ⟨od, e⟩, rfl, rfl⟩
theorem unlock_same {H H' : Hp} {d : Addr} {od : Obj} {u : HO} (h : H d = some u) (s : Same (L2.upd H d (.frz od u)) H') : Same H (L2.upd H' d u) := fun b o e => by
  by_cases q : b = d
  · rw [q, upd_same, ← h, ← q]; exact e
  · rw [upd_ne q]; exact s b o (by rw [upd_ne q]; exact e)
theorem grp_len (pool : List Cell) : ∀ (cs seen : List Cell), (grp pool seen cs).length ≤ cs.length
  | [], _ => by simp [grp]
  | c :: cs, seen => by
    have a := grp_len pool cs seen
    have b := grp_len pool cs (seen ++ comp pool c)
    unfold grp
    split
    · rw [List.length_cons]; omega
    · rw [List.length_cons, List.length_cons]; omega
theorem tYes_eq (σ : L2.St) (H : Hp) (Q : Bool → Hp → Prop) : tYes σ H Q = Q true H := rfl
theorem flat_bound {f : Str → List Int} (h : ∀ x, (f x).length ≤ 144) : ∀ (i : Nat) (ns : List Str), (List.flatMap f (ns.take i)).length ≤ 144 * i
  | 0, _ => by simp
  | i + 1, [] => by simp
  | i + 1, n :: ns => by
    rw [List.take_succ_cons, List.flatMap_cons, List.length_append]
    have a := flat_bound h i ns
    have b := h n
    omega
def Dims (R : List (List Str)) : Prop := R.length ≤ 12 ∧ ∀ r ∈ R, r.length ≤ 12
theorem cell_in {R : List (List Str)} (h : Dims R) {q : Str → Bool} {c : Cell} (hc : c ∈ cellsBy q (gridC 0 R)) : cellB c = true ∧ c.1 < R.length ∧ ∃ r ∈ R, c.2 < r.length := by
  obtain ⟨x, hx, _⟩ := mem_cellsBy.mp hc
  obtain ⟨i, j, row, h1, h2, h3⟩ := mem_gridC.mp hx
  have hi := (List.getElem?_eq_some_iff.mp h1).1
  have hj := (List.getElem?_eq_some_iff.mp h2).1
  have := h.1
  have := h.2 row (List.mem_of_getElem? h1)
  simp only at h3
  subst h3
  refine ⟨?_, by show ((0 + i : Nat) : Int) < _; omega, row, List.mem_of_getElem? h1, by show (j : Int) < _; omega⟩
  unfold cellB
  simp only [Bool.and_eq_true, decide_eq_true_eq]
  omega
theorem cells_few {R : List (List Str)} (h : Dims R) (q : Str → Bool) : (cellsBy q (gridC 0 R)).length ≤ 144 := by
  have := cellsBy_len q (gridC 0 R)
  rw [gridC_len] at this
  have := small_rows h.1 h.2
  omega
def sp_apart_line : Sp := fun vs H Q _ => ∃ (a : Addr) (R : List (List Str)), vs = [.ref a] ∧ RowsL H a R ∧ Dims R ∧ ∀ H', Same H H' → (lostL R = [] → Q .non H') ∧ (lostL R ≠ [] → Q (.int (minI (lostL R))) H')
theorem c_apart_line (T : Tx K mg) (D : Df K mg "apart_line" s_apart_line) (c_pieces : Cal P w K mg base CX0 7 "pieces" p_pieces (sp_pieces)) (c_parcels_of : Cal P w K mg base CX0 1 "parcels_of" p_parcels_of (sp_parcels_of)) : Cal P w K mg base CX0 8 "apart_line" p_apart_line (sp_apart_line) := by
  have S := sc_apart_line
  refine cal0 D S (fun _ _ _ _ _ _ us hl => match us, hl with | [_], _ => rfl) (fun vs H Q E h => ?_) (fun f cdv A outer s H vs Q E hr h => ?_)
  · obtain ⟨_, _, rfl, _⟩ := h
    rfl
  refine ⟨_, (pss_cons (ps_set (i := 1) S.nd rfl (by first | exact Or.inl rfl | exact Or.inr rfl) (pe_fn c_parcels_of hr (pa_cons (pv 0) pa_nil)))
      (pss_cons (ps_lock (ps_setLc2 (i := 2) (own := [("name", 3), ("piece", 4)]) (vs1 := [4]) (g := gName 3) (g1 := gName 4) rfl S.nd rfl rfl (sw_true rfl rfl rfl (by decide +kernel)) (pi_keys (pv 1)) (blkOk_by (N := N_apart_line) (sc := defScope s_apart_line) (by decide +kernel)) (by decide) (fun _ _ _ _ _ => (pg_name (i := 3) S.nd rfl (by first | exact Or.inl rfl | exact Or.inr rfl))) (fun _ _ _ _ _ => pts_nil) (fun _ _ _ _ _ => (pi_list_ (K := K) rfl (pe_slice (r := rSlL_ K) sl_list_ (pe_fn c_pieces hr (pa_cons (pe_dget (hu_of hr) (pv 1) (pv 3) (fun _ _ => rfl)) pa_nil)) (po_some pe_int) po_none))) (fun _ _ _ _ _ => (pg_name (i := 4) S.nd rfl (by first | exact Or.inl rfl | exact Or.inr rfl))) (fun _ _ _ _ _ => pts_nil) (fun _ _ _ _ _ => (pe_ix (r := rIxT K) ix_tup (pe_ix (r := rIxL K) ix_list (pv 4) pe_int (fun _ _ => rfl)) pe_int (fun _ _ => rfl)))))
      (pss_one (ps_ret (pe_callBK (id := "min") (r := rMinDef K) (cr_minDef hr rfl rfl) (by rfl) (T.fr _ (by decide)) (by decide +kernel) (pa_cons (pv 2) pa_nil) (pk_cons pe_non pk_nil)))))), ?_⟩
  obtain ⟨a, R, rfl, hR, dR, q⟩ := h
  walk_at "rd"
  refine ⟨a, R, rfl, hR, by have := small_rows dR.1 dR.2; omega, fun H1 d s1 f1 pd => ?_⟩
  obtain ⟨as, hd, hp⟩ := pd
  obtain ⟨ns, hns⟩ : ∃ ns, ns = sset R.flatten := ⟨_, rfl⟩
  obtain ⟨f, hf⟩ : ∃ f : Str → List Int, f = fun x => (restOf R x).map headRow := ⟨_, rfl⟩
  rw [← hns] at hd hp
  have ndn : ns.Nodup := by rw [hns]; exact sset_nodup _
  have lns : ns.length ≤ 144 := by
    have := small_rows dR.1 dR.2
    have := sset_len R.flatten
    rw [hns]; omega
  have la : as.length = ns.length := by rw [hp.length]; simp
  have fl : ∀ x, (f x).length ≤ 144 := fun x => by
    rw [hf, List.length_map]
    unfold restOf
    rw [List.length_tail]
    have := grp_len (cellsOf R x) (cellsOf R x) []
    have : (cellsOf R x).length ≤ 144 := cells_few dR (isN x)
    omega
  refine ⟨d, _, hd, trivial, fun od => ?_⟩
  obtain ⟨H2, hH2⟩ : ∃ H2, H2 = L2.upd H1 d (.frz od (.dK (zipK ns as))) := ⟨_, rfl⟩
  rw [← hH2]
  have d2 : H2 d = some (.frz od (.dK (zipK ns as))) := by rw [hH2]; exact upd_same
  have p2 : Paired (CellL H2) as (ns.map (cellsOf R)) := by
    rw [hH2]
    refine paired_of_get hp.length fun i x b h1 h2 => ?_
    obtain ⟨b', e1, ts, e2, e3⟩ := paired_at hp h1
    rw [h2] at e1
    cases e1
    exact ⟨ts, by rw [upd_ne (ne_of e2 hd (by intro z; cases z))]; exact e2, Cells.upd hd e3 (fun _ z => by cases z)⟩
  refine ⟨_, rfl, d, od, rfl, .inl ⟨_, d2, fun D hD => ?_⟩⟩
  obtain ⟨Pv, hPv⟩ : ∃ Pv : List Int → Hp → Prop, Pv = fun l H' => H' D = some (.lst (l.map V.int)) ∧ Same H2 H' := ⟨_, rfl⟩
  refine walk_B (walk_keys (kvs := zipK ns as) (o := od)) (fun i H' => Pv ((ns.take i).flatMap f) H') (by rw [hPv]; exact ⟨upd_same, same_new hD⟩) (fun i H' _ h => by rw [hPv] at h; exact h.2 _ _ d2) (fun i v H3 H4 hi h y => ?_) (fun H3 h => ?_)
  · obtain ⟨rfl, k, v, hk, rfl⟩ := y
    obtain ⟨x, al, hx, hal, rfl, rfl⟩ := zipK_at hk
    rw [hPv] at h
    obtain ⟨hD4, s24⟩ := h
    show _ ∧ _
    refine ⟨by simp [wipe], ?_⟩
    rw [tYes_eq, if_pos rfl]
    have dg : DGet H4 d (.str x) (some (.ref al)) := DGet_f (s24 _ _ d2) (zipK_get ndn hx hal)
    obtain ⟨cs, hcs⟩ : ∃ cs, cs = cellsOf R x := ⟨_, rfl⟩
    have c4 : CellL H4 al cs := by
      obtain ⟨b, e1, e2⟩ := paired_at p2 hal
      rw [List.getElem?_map, hx] at e1
      cases e1
      rw [hcs]; exact e2.same s24
    have so : cs.Pairwise ltC := by rw [hcs]; exact cellsBy_sorted (isN x) R
    have inn : ∀ c ∈ cs, cellB c = true := fun c hc => (cell_in dR (q := isN x) (by rw [hcs] at hc; exact hc)).1
    have few : cs.length ≤ 144 := by rw [hcs]; exact cells_few dR (isN x)
    refine ⟨V.ref d, rfl, V.str x, rfl, d, V.ref al, rfl, dg, al, cs, rfl, c4, so, inn, by omega, fun H5 g s45 fg hg => ?_⟩
    obtain ⟨gs, hg1, hg2⟩ := hg
    have s25 := s24.trans s45
    refine ⟨1, rfl, g, _, rfl, SqL.of hg1, fun t H6 n6 => ?_⟩
    have ect : cutV (gs.map V.ref) (some 1) none = (gs.drop 1).map V.ref := by rw [show (some (1 : Int)) = some ((1 : Nat) : Int) from rfl, cutV_from, List.map_drop]
    rw [ect] at n6
    have s46 := s45.trans n6.same
    have s26 := s24.trans s46
    have nD6 : H6 D = some (.lst ((List.flatMap f (ns.take i)).map V.int)) := s46 _ _ hD4
    have gp : Paired (CellL H6) (gs.drop 1) (restOf R x) := by
      have := paired_drop 1 (Paired.mapP hg2 fun _ _ z => CellL.same n6.same z)
      rw [hcs] at this
      unfold restOf
      rwa [← List.drop_one]
    have tD : t ≠ D := fun z => by have := n6.fresh; rw [z, s45 _ _ hD4] at this; cases this
    refine ⟨t, rfl, ⟨_, SqL.of n6.at_⟩, ?_⟩
    refine walk_B (walk_list (xs := (gs.drop 1).map V.ref)) (fun j H' => Pv (List.flatMap f (ns.take i) ++ (f x).take j) H' ∧ Keep [D] H6 H') (by rw [hPv]; exact ⟨⟨by simpa using nD6, s26⟩, Keep.refl _ _⟩) (fun j H' _ h => SqL.of (h.2 _ _ (by simpa using tD) n6.at_)) (fun j v H7 H8 hj h y => ?_) (fun H7 h => ?_)
    · obtain ⟨rfl, hv⟩ := y
      obtain ⟨u, hu, rfl⟩ := map_ref_get hv
      obtain ⟨g', hg', hgu⟩ := paired_at gp hu
      obtain ⟨h, kp⟩ := h
      rw [hPv] at h
      obtain ⟨hD8, s28⟩ := h
      obtain ⟨gne, _⟩ := rest_in (List.mem_of_getElem? hg')
      obtain ⟨us, hu6, hus⟩ := hgu
      obtain ⟨c0, g0, rfl⟩ : ∃ c0 g0, g' = c0 :: g0 := by cases g' with | nil => exact absurd rfl gne | cons c g => exact ⟨c, g, rfl⟩
      obtain ⟨t0, ht0, hct0⟩ := hus.get2 (i := 0) rfl
      have uD : u ≠ D := fun z => by
        rw [z, nD6] at hu6
        have e := Option.some.inj hu6
        have e2 := HO.lst.inj e
        have : (us.map V.ref)[0]? = some (V.ref t0) := by rw [List.getElem?_map, ht0]; rfl
        rw [← e2, List.getElem?_map] at this
        cases q : (List.flatMap f (ns.take i))[0]? with
        | none => rw [q] at this; cases this
        | some n => rw [q] at this; cases this
      have hu8 := kp _ _ (by simpa using uD) hu6
      have hc8 : CellV H8 t0 c0 := kp _ _ (by simpa using (ne_of hct0 nD6 (by intro z; cases z))) hct0
      show _ ∧ _
      refine ⟨by simp [wipe], ?_⟩
      rw [tYes_eq, if_pos rfl]
      have fx : (f x)[j]? = some c0.1 := by rw [hf, List.getElem?_map, hg']; rfl
      have l1 : (List.flatMap f (ns.take i)).length ≤ 144 * i := flat_bound fl i ns
      have li : i < 144 := by have := (List.getElem?_eq_some_iff.mp hx).1; omega
      refine ⟨V.ref u, rfl, u, _, 0, _, rfl, rfl, SqL.of hu8, atI_zero (by rw [List.getElem?_map, ht0]; rfl), t0, _, 0, _, rfl, rfl, SqT.of hc8, atI_zero rfl, _, hD8, ?_, ?_, ?_⟩
      · have := fl x
        rw [List.length_map, List.length_append, List.length_take, sizeLine_eq]
        omega
      · rw [hPv]
        refine ⟨?_, same_upd s28 hD⟩
        rw [upd_same, take_get fx]
        simp
      · exact kp.upd (by simp)
    · have full : (f x).take ((gs.drop 1).map V.ref).length = f x := List.take_of_length_le (by rw [hf, List.length_map, List.length_map, gp.length]; exact Nat.le_refl _)
      rw [full] at h
      rw [take_get hx, List.flatMap_append]
      simpa using h.1
  · rw [hPv] at h
    obtain ⟨hD3, s23⟩ := h
    have full : ns.take (zipK ns as).length = ns := List.take_of_length_le (by rw [zipK_len la.symm]; exact Nat.le_refl _)
    rw [full] at hD3
    have eA : ns.flatMap f = apartL R := by rw [hf, hns]; rfl
    rw [eA] at hD3
    have dD : D ≠ d := ne_of hD3 (s23 _ _ d2) (by intro z; cases z)
    have sF : Same H (L2.upd H3 d (.dK (zipK ns as))) := s1.trans (unlock_same (od := od) hd (by rw [← hH2]; exact s23))
    obtain ⟨q1, q2⟩ := q _ sF
    obtain ⟨b1, b2⟩ := apart_lost (R := R)
    refine ⟨s23 _ _ d2, V.ref D, rfl, D, apartL R, rfl, rfl, SqL.of (by rw [upd_ne dD]; exact hD3), fun e => q1 (b1.mp e), fun m hm hj => ?_⟩
    rw [← b2 m hm hj]
    refine q2 fun z => ?_
    rw [b1.mpr z] at hm
    cases hm
end
end Dk
-- text F
set_option maxHeartbeats 1000000
namespace Dk
open PySem PySem.Spec PyProof.Rows L2
local macro_rules | `(tactic| walk_at "rd") => `(tactic| simp only [tRet, tRetN, tSeq, tAsg, tIfS, tB, tVar, tC, tCons, tNil, tCB, tCall, tOp, tUn, rI0, rI, rU, rEq, rNe, gName, tAnd, tOr, tNot, tAndV, tOrV, tNotV, tIf, tTest, tChain, tDrop, tNext, tBreak, tCont, tTup, tLst, tBM, tBM0, tM0, tM1, tSl, tPart, tNoPart, tPar,
  rIs, rIs2, rIxL, rIxT, rIxS, rAppend, rExtend, rPop, rPopAt, gTup, gCons, gNil, gSub, tYes, wipe, tD1, tDcC, rListC, rSortC, rEmp, rJoin, tM1, gFld, tFld, sFld, rMinDef, tCKw, StX.tStar, rLen, tDGet2, tNo, tScN, rSortTx, rSetTx, iKeys, tPar3, sDPut, tFor_eq, iList, iEnum, iStr, iZip, cxK, cxP, cxW, tTup_, tLst_, tDNewK_, tDNewT_, rSlL_, rListOf_, rCatN, rRepN, rListStr, iRng1, rLenT, rInC, rDictC, sizeLine_eq, Nat.reduceLeDiff, Bool.true_or, Bool.false_or, Bool.or_true, Bool.or_false, Bool.true_and, Bool.false_and, Bool.and_true, Bool.and_false, Bool.not_true, Bool.not_false, Bool.not_eq_true', decide_eq_true_eq, decide_eq_false_iff_not, scal, isT_Non_boo, isT_Non_int, isT_Non_str, isT_Non_lis, isT_Non_tup, isT_Non_dic, isT_boo_boo, isT_boo_int, isT_boo_str, isT_boo_lis, isT_boo_tup, isT_boo_dic, isT_int_boo, isT_int_int, isT_int_str, isT_int_lis, isT_int_tup, isT_int_dic, isT_str_boo, isT_str_int, isT_str_str, isT_str_lis, isT_str_tup, isT_str_dic, isT_lis_boo, isT_lis_int, isT_lis_str, isT_lis_lis, isT_lis_tup, isT_lis_dic, isT_tup_boo, isT_tup_int, isT_tup_str, isT_tup_lis, isT_tup_tup, isT_tup_dic, isT_dic_boo, isT_dic_int, isT_dic_str, isT_dic_lis, isT_dic_tup, isT_dic_dic, kit_Non, kit_boo, kit_int, kit_str, kit_lis, kit_tup, kit_dic, sg_inj, vt_non, vt_bl, vt_int, vt_str, len_str, tDGet, tDIn, tDNotIn,
  L2.start, List.map_cons, List.map_nil, List.length_cons, List.length_nil, List.cons_append, List.nil_append, List.append_nil, Nat.zero_add, Nat.reduceAdd, Nat.reduceSub, Nat.sub_zero, Nat.sub_self, List.replicate_succ, List.replicate_zero,
  List.getElem?_cons_zero, List.getElem?_cons_succ, List.getElem?_nil, List.set_cons_zero, List.set_cons_succ, List.cons.injEq, Option.some.injEq, V.int.injEq, V.str.injEq, V.bl.injEq, V.ref.injEq, V.ty.injEq, reduceCtorEq,
  and_assoc, and_true, true_and, false_and, and_false, exists_eq_left, exists_eq_left', exists_eq', exists_eq_right, exists_eq_right', exists_and_left, exists_and_right, exists_const, exists_false, exists_eq, if_true, if_false, Bool.false_eq_true, Bool.true_eq, decide_true, decide_false, ite_self])
section
variable {P : Program} {w : World} {K : PySem.W.Frag} {mg : Str → Option Value} {base : Heap}
theorem RowsL.keepI {H H' : Hp} {x a C dx : Addr} {fs : List (Str × V)} {R : List (List Str)} (hx : H x = some (.ins C dx fs)) (k : Keep [x] H H') (h : RowsL H a R) : RowsL H' a R := by
  obtain ⟨as, h1, h2⟩ := h
  have f : ∀ {b : Addr} {ys : List V}, H b = some (.lst ys) → H' b = some (.lst ys) := fun {b ys} e => k _ _ (by simpa using ne_of e hx (by intro z; cases z)) e
  exact ⟨as, f h1, Paired.mapP h2 fun _ _ z => f z⟩
theorem CellL.keepI {H H' : Hp} {x a C dx : Addr} {fs : List (Str × V)} {cs : List Cell} (hx : H x = some (.ins C dx fs)) (k : Keep [x] H H') (h : CellL H a cs) : CellL H' a cs := by
  obtain ⟨ts, h1, h2⟩ := h
  exact ⟨ts, k _ _ (by simpa using ne_of h1 hx (by intro z; cases z)) h1, Paired.mapP h2 fun _ _ z => k _ _ (by simpa using ne_of z hx (by intro z; cases z)) z⟩
theorem ParD.keepI {H H' : Hp} {x a C dx : Addr} {fs : List (Str × V)} {R : List (List Str)} (hx : H x = some (.ins C dx fs)) (k : Keep [x] H H') (h : ParD H a R) : ParD H' a R := by
  obtain ⟨as, h1, h2⟩ := h
  exact ⟨as, k _ _ (by simpa using ne_of h1 hx (by intro z; cases z)) h1, Paired.mapP h2 fun _ _ z => z.keepI hx k⟩
theorem putF_len (f : Str) (v : V) : ∀ fs : List (Str × V), (putF f v fs).length ≤ fs.length + 1
  | [] => by simp [putF]
  | (g, x) :: r => by
    have := putF_len f v r
    unfold putF
    split <;> simp
    exact this
theorem copy_rows {te : TE} {σ : L2.St} {H : Hp} {a : Addr} {R : List (List Str)} {i : Nat} {Q : VK} (hi : i < σ.length) (hte : ∀ Q, Q (.ref a) H → te σ H Q) (hR : RowsL H a R) (lR : R.length ≤ 1000) (q : ∀ D H', Same H H' → H D = none → RowsL H' D R → Q (.ref D) H') :
    tLc (iList K te) (gName i) tYes (tCB (rListOf_ K) (tCons (tVar i) tNil)) [i] σ H Q := by
  obtain ⟨as, ha, hP⟩ := hR
  refine hte _ ⟨a, rfl, ⟨_, SqL.of ha⟩, fun D hD => lc_it (walk_list (xs := as.map V.ref)) (LcInv H D fun acc i H' => ∃ bs, acc = bs.map V.ref ∧ Paired (StrL H') bs (R.take i) ∧ ∀ b ∈ bs, b ≠ D) (lc0 hD ⟨[], rfl, .nil, by simp⟩) (fun _ _ _ ⟨_, _, _, s, _⟩ => SqL.of (s _ _ ha)) (fun j x H6 H7 hj ⟨acc, hA, hl, s1, bs, eb, hb, nb⟩ y => ?_) (fun H6 ⟨acc, hA, hl, s1, bs, eb, hb, nb⟩ => ?_)⟩
  · obtain ⟨rfl, hx⟩ := y
    obtain ⟨u, hu, rfl⟩ := map_ref_get hx
    obtain ⟨zs, hzs, hzu⟩ := paired_at hP hu
    show _ ∧ _
    refine ⟨by simp [wipe], ?_⟩
    rw [tYes_eq, if_pos rfl]
    have hz7 : StrL H7 u zs := StrL.same s1 hzu
    have jl : j < as.length := by simpa using hj
    have la := hP.length
    refine ⟨V.ref u, by rw [List.getElem?_set_self (by rw [wipe_length]; exact hi)], u, zs.map V.str, rfl, .inl (SqL.of hz7), fun l H8 n8 => ?_⟩
    have lD : l ≠ D := fun z => by have := n8.fresh; rw [z, hA] at this; cases this
    refine lcKeep hD (n8.same _ _ hA) hl hj (by rw [List.length_map]; omega) (s1.trans n8.same) ⟨bs ++ [l], by rw [eb]; simp, ?_, fun b hb => ?_⟩
    · rw [take_get hzs]
      refine paired_app (Paired.mapP (paired_allIn hb nb) fun b z k => ?_) (.cons ?_ .nil)
      · show L2.upd H8 D _ b = _
        rw [upd_ne k.2]; exact n8.same _ _ k.1
      · show L2.upd H8 D _ l = _
        rw [upd_ne lD]; exact n8.at_
    · rcases List.mem_append.mp hb with h | h
      · exact nb b h
      · simp at h; rw [h]; exact lD
  · rw [List.take_of_length_le (by rw [List.length_map, hP.length]; exact Nat.le_refl _)] at hb
    exact q D H6 s1 hD ⟨bs, by rw [hA, eb], hb⟩
/-- the class Plat -/
structure Px (K : PySem.W.Frag) (CP : Addr) : Prop where
  cls : Cls K CP
  nR : NoAttr K CP "own_rows"
  nC : NoAttr K CP "own_cells"
  nH : NoAttr K CP "height"
  nW : NoAttr K CP "width"
  nD : NoAttr K CP "own_road"
  nB : NoAttr K CP "own_borders"
  nM : NoAttr K CP "own_rims"
structure PlatOk (R : List (List Str)) (cs : List Cell) : Prop where
  h1 : 1 ≤ R.length
  h2 : R.length ≤ 12
  wd : ∀ r ∈ R, 1 ≤ r.length ∧ r.length ≤ 12 ∧ r.length = (R.headD []).length ∧ ∀ z ∈ r, nameB z = true
  mn : (sset R.flatten).length ≤ 12
  one : lostL R = []
  so : cs.Pairwise ltC
  edge : ∀ c ∈ cs, cellB c = true ∧ c.1 < dimH R ∧ c.2 < dimW R ∧ edgeB c (dimH R) (dimW R) = true
  few : cs.length ≤ 1000
def sp_Plat_init (CP : Addr) : Sp := fun vs H Q _ => ∃ (x a r dx : Addr) (R : List (List Str)) (cs : List Cell), vs = [.ref x, .ref a, .ref r] ∧ H x = some (.ins CP dx []) ∧ RowsL H a R ∧ CellL H r cs ∧ PlatOk R cs ∧
  ∀ H' fs a' r', Keep [x] H H' → H' x = some (.ins CP dx fs) → fs.lookup ("own_rows" : Str) = some (.ref a') → RowsL H' a' R → fs.lookup ("own_road" : Str) = some (.ref r') → CellL H' r' cs → fs.lookup ("rows" : Str) = none → fs.lookup ("road" : Str) = none → Q .non H'
theorem m_Plat_init (T : Tx K mg) {CP : Addr} (PX : Px K CP) {kws : List (Str × V)} {f : Addr} {fd : FuncData} (F : FunD K "__init__" "Plat.__init__" (defArgs s_Plat_init) (defBody s_Plat_init) (defScope s_Plat_init) [] kws f fd) (c_check_rows : Cal P w K mg base CX0 2 "check_rows" p_check_rows (sp_check_rows)) (c_parcels_of : Cal P w K mg base CX0 1 "parcels_of" p_parcels_of (sp_parcels_of)) (c_hangs_together : Cal P w K mg base CX0 8 "hangs_together" p_hangs_together (sp_hangs_together)) (c_check_road : Cal P w K mg base CX0 5 "check_road" p_check_road (sp_check_road)) (c_borders_of : Cal P w K mg base CX0 5 "borders_of" p_borders_of (sp_borders_of)) : FnOk P w K mg base CX0 9 f fd p_Plat_init (sp_Plat_init CP) := by
  have S := sc_Plat_init
  refine F.ok S (fun vs H Q E h => ?_) fun cdv A outer s H vs Q E hr h => ?_
  · obtain ⟨_, _, _, _, _, _, rfl, _⟩ := h
    rfl
  suffices g : ∃ t, PSs (cxOf CX0 P w K mg base N_Plat_init "Plat.__init__" (defScope s_Plat_init) f cdv A outer s H E).nox (defBody s_Plat_init) t ∧ t { nx := fun _ H' => Q .non H', rt := Q } (L2.start N_Plat_init vs) H from g.elim fun t z => ⟨t, z.1.nox, z.2⟩
  refine ⟨_, (pss_cons (ps_expr (pe_fn c_check_rows hr (pa_cons (pv 1) pa_nil)))
      (pss_cons (ps_fld (pv 0) (pe_lc (own := [("row", 4)]) (g := gName 4) rfl S.nd (pi_list (pv 1)) (blkOk_by (N := N_Plat_init) (sc := defScope s_Plat_init) (by decide +kernel)) (fun _ _ _ _ _ => (pg_name (i := 4) S.nd rfl (by first | exact Or.inl rfl | exact Or.inr rfl))) (fun _ _ _ _ _ => pts_nil) (fun _ _ _ _ _ => (pe_callTy (T := "list") (r := rListOf_ K) call_listOf_ (by rfl) (T.fr _ (by decide)) (by decide +kernel) (pa_cons (pv 4) pa_nil)))) rfl)
      (pss_cons (ps_fld (pv 0) (pe_fn c_parcels_of hr (pa_cons (pe_fld (pv 0) rfl) pa_nil)) rfl)
      (pss_cons (ps_if (pt_cmpR op_gt (pe_callB (id := "len") call_lenD (by rfl) (T.fr _ (by decide)) (by decide +kernel) (pa_cons (pe_fld (pv 0) rfl) pa_nil)) (pe_conI T.mp) (nomark _)) (pss_one ps_never) pss_nil)
      (pss_cons (ps_lock (ps_for PassesOwn.never rfl (pi_keys (pe_fld (pv 0) rfl)) (pg_name (i := 3) S.nd rfl (by first | exact Or.inl rfl | exact Or.inr rfl)) (pss_one (ps_if (pt_not (pt_val (pe_fn c_hangs_together hr (pa_cons (pe_dget (hu_of hr) (pe_fld (pv 0) rfl) (pv 3) (fun _ _ => rfl)) pa_nil)))) (pss_one ps_never) pss_nil))))
      (pss_cons (ps_fld (pv 0) (pe_callB (id := "len") (r := rLen K) (call_len_ rfl) (by rfl) (T.fr _ (by decide)) (by decide +kernel) (pa_cons (pe_fld (pv 0) rfl) pa_nil)) rfl)
      (pss_cons (ps_fld (pv 0) (pe_callB (id := "len") (r := rLen K) (call_len_ rfl) (by rfl) (T.fr _ (by decide)) (by decide +kernel) (pa_cons (pe_ix (r := rIxL K) ix_list (pe_fld (pv 0) rfl) pe_int (fun _ _ => rfl)) pa_nil)) rfl)
      (pss_cons (ps_expr (pe_fn c_check_road hr (pa_cons (pv 2) (pa_cons (pe_fld (pv 0) rfl) (pa_cons (pe_fld (pv 0) rfl) pa_nil)))))
      (pss_cons (ps_fld (pv 0) (pe_callB (id := "sorted") cr_sortC (by rfl) (T.fr _ (by decide)) (by decide +kernel) (pa_cons (pe_callTy (T := "list") (r := rListOf_ K) call_listOf_ (by rfl) (T.fr _ (by decide)) (by decide +kernel) (pa_cons (pv 2) pa_nil)) pa_nil)) rfl)
      (pss_one (ps_asg (pe_fn c_borders_of hr (pa_cons (pe_fld (pv 0) rfl) pa_nil)) (pg_tup (n := 2) rfl (pgs_cons (pg_fld (pv 0)) (pgs_cons (pg_fld (pv 0)) pgs_nil)))))))))))))), ?_⟩
  obtain ⟨x, a, r, dx, R, cs, rfl, hx, hR, hC, ok, q⟩ := h
  have h1 := ok.h1
  have h2 := ok.h2
  have fl : R.flatten.length ≤ 144 := small_rows h2 fun r hr => (ok.wd r hr).2.1
  walk_at "rd"
  refine ⟨a, R, rfl, hR, h1, h2, ok.wd, fun H1 s1 => copy_rows (by simp) (fun Q z => ⟨_, rfl, z⟩) (hR.same s1) (by omega) fun a' H2 s2 f2 hR2 => ?_⟩
  have s02 := s1.trans s2
  have x2 := s02 _ _ hx
  obtain ⟨fs1, e1⟩ : ∃ fs1, fs1 = putF ("own_rows" : Str) (V.ref a') [] := ⟨_, rfl⟩
  have l1 : fs1.length ≤ 1 := by rw [e1]; exact length_putF _ _ _
  have lk1 : fs1.lookup ("own_rows" : Str) = some (.ref a') := by rw [e1, lookup_putF, if_pos rfl]
  obtain ⟨H3, e3⟩ : ∃ H3, H3 = L2.upd H2 x (.ins CP dx fs1) := ⟨_, rfl⟩
  have x3 : H3 x = some (.ins CP dx fs1) := by rw [e3]; exact upd_same
  have k23 : Keep [x] H2 H3 := by rw [e3]; exact (Keep.refl _ _).upd (by simp)
  have hR3 := hR2.keepI x2 k23
  refine ⟨CP, dx, [], x2, PX.cls, PX.nR, by simp, CP, dx, fs1, ?_⟩
  rw [← e1, ← e3]
  refine ⟨x3, PX.cls, PX.nR, V.ref a', lk1, a', R, rfl, hR3, by omega, fun H4 d s34 f4 hP4 => ?_⟩
  have x4 := s34 _ _ x3
  obtain ⟨fs2, e5⟩ : ∃ fs2, fs2 = putF ("own_cells" : Str) (V.ref d) fs1 := ⟨_, rfl⟩
  have l2 : fs2.length ≤ 2 := by rw [e5]; have := length_putF ("own_cells" : Str) (V.ref d) fs1; omega
  have lk2 : fs2.lookup ("own_rows" : Str) = some (.ref a') := by rw [e5, lookup_putF, if_neg (by decide)]; exact lk1
  have lc2 : fs2.lookup ("own_cells" : Str) = some (.ref d) := by rw [e5, lookup_putF, if_pos rfl]
  obtain ⟨H5, e6⟩ : ∃ H5, H5 = L2.upd H4 x (.ins CP dx fs2) := ⟨_, rfl⟩
  have x5 : H5 x = some (.ins CP dx fs2) := by rw [e6]; exact upd_same
  have k45 : Keep [x] H4 H5 := by rw [e6]; exact (Keep.refl _ _).upd (by simp)
  have k05 : Keep [x] H H5 := (Keep.same s02).trans (k23.trans ((Keep.same s34).trans k45))
  have hR5 := (hR3.same s34).keepI x4 k45
  have hP5 := hP4.keepI x4 k45
  refine ⟨CP, dx, fs1, x4, PX.cls, PX.nC, by omega, CP, dx, fs2, ?_⟩
  rw [← e5, ← e6]
  refine ⟨x5, PX.cls, PX.nC, V.ref d, lc2, ?_⟩
  obtain ⟨as, hd5, hp5⟩ := hP5
  obtain ⟨ns, hns⟩ : ∃ ns, ns = sset R.flatten := ⟨_, rfl⟩
  rw [← hns] at hd5 hp5
  have ndn : ns.Nodup := by rw [hns]; exact sset_nodup _
  have la : as.length = ns.length := by rw [hp5.length]; simp
  have ndx : d ≠ x := ne_of hd5 x5 (by intro z; cases z)
  have mn := ok.mn
  rw [← hns] at mn
  refine ⟨d, rfl, _, hd5, ?_⟩
  rw [zipK_len la.symm, if_neg (by omega)]
  refine ⟨d, _, hd5, trivial, fun od => ?_⟩
  obtain ⟨H6, e7⟩ : ∃ H6, H6 = L2.upd H5 d (.frz od (.dK (zipK ns as))) := ⟨_, rfl⟩
  rw [← e7]
  have d6 : H6 d = some (.frz od (.dK (zipK ns as))) := by rw [e7]; exact upd_same
  have x6 : H6 x = some (.ins CP dx fs2) := by rw [e7, upd_ne ndx.symm]; exact x5
  have p6 : Paired (CellL H6) as (ns.map (cellsOf R)) := by
    rw [e7]
    refine paired_of_get hp5.length fun i x b h1 h2 => ?_
    obtain ⟨b', e1, ts, e2, e3⟩ := paired_at hp5 h1
    rw [h2] at e1
    cases e1
    exact ⟨ts, by rw [upd_ne (ne_of e2 hd5 (by intro z; cases z))]; exact e2, Cells.upd hd5 e3 (fun _ z => by cases z)⟩
  walk_at "rd"
  refine ⟨_, _, _, x6, PX.cls, PX.nC, V.ref d, lc2, d, rfl, od, .inl ⟨_, d6, ?_⟩⟩
  refine for_B (walk_keys (kvs := zipK ns as) (o := od)) (fun i σ H' => ∃ y3, σ = [some (.ref x), some (.ref a), some (.ref r), y3, none] ∧ Same H6 H') ⟨_, rfl, fun _ _ z => z⟩ (fun i σ H' _ ⟨_, _, s⟩ => s _ _ d6) (fun i v σ H7 H8 hi ⟨y3, e, s67⟩ y => ?_) (fun σ H7 ⟨y3, e, s67⟩ => ?_)
  · obtain ⟨rfl, k, v, hk, rfl⟩ := y
    obtain ⟨z, al, hz, hal, rfl, rfl⟩ := zipK_at hk
    subst e
    walk_at "rd"
    have zin : z ∈ R.flatten := by
      have := List.mem_of_getElem? hz
      rw [hns] at this
      exact mem_sset.mp this
    have c8 : CellL H8 al (cellsOf R z) := by
      obtain ⟨b, e1, e2⟩ := paired_at p6 hal
      rw [List.getElem?_map, hz] at e1
      cases e1
      exact e2.same s67
    have dm : Dims R := ⟨h2, fun r hr => (ok.wd r hr).2.1⟩
    refine ⟨_, _, _, s67 _ _ x6, PX.cls, PX.nC, V.ref d, lc2, d, rfl, V.ref al, DGet_f (s67 _ _ d6) (zipK_get ndn hz hal), al, cellsOf R z, rfl, c8, cellsBy_sorted (isN z) R, fun c hc => (cell_in dm (q := isN z) hc).1, by have := cells_few dm (isN z); unfold cellsOf; omega, fun H9 s89 => ⟨_, rfl, ?_⟩⟩
    rw [if_neg (by rw [one_piece ok.one zin]; simp)]
    exact s67.trans s89
  · subst e
    walk_at "rd"
    refine ⟨s67 _ _ d6, ?_⟩
    obtain ⟨H9, e9⟩ : ∃ H9, H9 = L2.upd H7 d (.dK (zipK ns as)) := ⟨_, rfl⟩
    have s59 : Same H5 H9 := by rw [e9]; exact unlock_same (od := od) hd5 (by rw [← e7]; exact s67)
    rw [← e9]
    have x9 := s59 _ _ x5
    have hR9 := hR5.same s59
    have k09 := k05.trans (Keep.same s59)
    obtain ⟨ra, hra, hrp⟩ := id hR9
    have lra : ra.length = R.length := hrp.length
    obtain ⟨r0, hr0, hrt0⟩ := paired_at2 (i := 0) hrp (show R[0]? = some (R.headD []) by cases R with | nil => simp at h1 | cons r R => rfl)
    refine ⟨CP, dx, fs2, x9, PX.cls, PX.nR, V.ref a', lk2, len_of hra ?_⟩
    rw [List.length_map, lra]
    obtain ⟨fs3, e10⟩ : ∃ fs3, fs3 = putF ("height" : Str) (V.int R.length) fs2 := ⟨_, rfl⟩
    have l3 : fs3.length ≤ 3 := by rw [e10]; have := length_putF ("height" : Str) (V.int R.length) fs2; omega
    have lk3 : fs3.lookup ("own_rows" : Str) = some (.ref a') := by rw [e10, lookup_putF, if_neg (by decide)]; exact lk2
    have lh3 : fs3.lookup ("height" : Str) = some (.int R.length) := by rw [e10, lookup_putF, if_pos rfl]
    obtain ⟨H10, e11⟩ : ∃ H10, H10 = L2.upd H9 x (.ins CP dx fs3) := ⟨_, rfl⟩
    have x10 : H10 x = some (.ins CP dx fs3) := by rw [e11]; exact upd_same
    have k910 : Keep [x] H9 H10 := by rw [e11]; exact (Keep.refl _ _).upd (by simp)
    have hra10 : H10 a' = some (.lst (ra.map V.ref)) := k910 _ _ (by simpa using ne_of hra x9 (by intro z; cases z)) hra
    have hr010 : H10 r0 = some (.lst ((R.headD []).map V.str)) := k910 _ _ (by simpa using ne_of hrt0 x9 (by intro z; cases z)) hrt0
    refine ⟨CP, dx, fs2, x9, PX.cls, PX.nH, by omega, CP, dx, fs3, ?_⟩
    rw [← e10, ← e11]
    refine ⟨x10, PX.cls, PX.nR, V.ref a', lk3, a', rfl, _, SqL.of hra10, V.ref r0, atI_zero (by rw [List.getElem?_map, hr0]; rfl), len_of hr010 ?_⟩
    rw [List.length_map]
    obtain ⟨fs4, e12⟩ : ∃ fs4, fs4 = putF ("width" : Str) (V.int (R.headD []).length) fs3 := ⟨_, rfl⟩
    have l4 : fs4.length ≤ 4 := by rw [e12]; have := length_putF ("width" : Str) (V.int (R.headD []).length) fs3; omega
    have lk4 : fs4.lookup ("own_rows" : Str) = some (.ref a') := by rw [e12, lookup_putF, if_neg (by decide)]; exact lk3
    have lh4 : fs4.lookup ("height" : Str) = some (.int R.length) := by rw [e12, lookup_putF, if_neg (by decide)]; exact lh3
    have lw4 : fs4.lookup ("width" : Str) = some (.int (R.headD []).length) := by rw [e12, lookup_putF, if_pos rfl]
    obtain ⟨H11, e13⟩ : ∃ H11, H11 = L2.upd H10 x (.ins CP dx fs4) := ⟨_, rfl⟩
    have x11 : H11 x = some (.ins CP dx fs4) := by rw [e13]; exact upd_same
    have k1011 : Keep [x] H10 H11 := by rw [e13]; exact (Keep.refl _ _).upd (by simp)
    have hR11 : RowsL H11 a' R := (hR9.keepI x9 k910).keepI x10 k1011
    have k011 : Keep [x] H H11 := k09.trans (k910.trans k1011)
    have hC11 : CellL H11 r cs := hC.keepI hx k011
    refine ⟨CP, dx, fs3, x10, PX.cls, PX.nW, by omega, CP, dx, fs4, ?_⟩
    rw [← e12, ← e13]
    refine ⟨x11, PX.cls, PX.nH, V.int R.length, lh4, CP, dx, fs4, x11, PX.cls, PX.nW, V.int (R.headD []).length, lw4, ?_⟩
    refine ⟨r, cs, R.length, (R.headD []).length, rfl, hC11, ltC_nodup ok.so, ok.edge, ok.few, fun H12 s12 => ?_⟩
    obtain ⟨ts, hts, htc⟩ := hC11.same s12
    refine ⟨_, .inl (SqL.of hts), fun l H13 n13 => ⟨ts, SqL.of n13.at_, cs, htc.same n13.same, fun p us ds H14 n14 hus pm so => ?_⟩⟩
    have eds : ds = cs := strict_ext (fun a => ltC_irrefl a) (fun h k => ltC_trans h k) (so (ltC_nodup ok.so)) ok.so fun x => pm.mem_iff
    subst eds
    have s1114 := s12.trans (n13.same.trans n14.same)
    have x14 := s1114 _ _ x11
    have hR14 := hR11.same s1114
    have hC14 : CellL H14 p ds := ⟨us, n14.at_, hus.same n14.same⟩
    have k014 : Keep [x] H H14 := k011.trans (Keep.same s1114)
    obtain ⟨fs5, e15⟩ : ∃ fs5, fs5 = putF ("own_road" : Str) (V.ref p) fs4 := ⟨_, rfl⟩
    have l5 : fs5.length ≤ 5 := by rw [e15]; have := length_putF ("own_road" : Str) (V.ref p) fs4; omega
    have lk5 : fs5.lookup ("own_rows" : Str) = some (.ref a') := by rw [e15, lookup_putF, if_neg (by decide)]; exact lk4
    have ld5 : fs5.lookup ("own_road" : Str) = some (.ref p) := by rw [e15, lookup_putF, if_pos rfl]
    obtain ⟨H15, e16⟩ : ∃ H15, H15 = L2.upd H14 x (.ins CP dx fs5) := ⟨_, rfl⟩
    have x15 : H15 x = some (.ins CP dx fs5) := by rw [e16]; exact upd_same
    have k1415 : Keep [x] H14 H15 := by rw [e16]; exact (Keep.refl _ _).upd (by simp)
    have hR15 := hR14.keepI x14 k1415
    have hC15 := hC14.keepI x14 k1415
    refine ⟨CP, dx, fs4, x14, PX.cls, PX.nD, by omega, CP, dx, fs5, ?_⟩
    rw [← e15, ← e16]
    refine ⟨x15, PX.cls, PX.nR, V.ref a', lk5, a', R, rfl, hR15, h2, fun r hr => ⟨(ok.wd r hr).2.1, (ok.wd r hr).2.2.1⟩, fun H16 g b1 b2 s16 f16 g16 => ?_⟩
    have x16 := s16 _ _ x15
    have hR16 := hR15.same s16
    have hC16 := hC15.same s16
    have k016 : Keep [x] H H16 := k014.trans (k1415.trans (Keep.same s16))
    obtain ⟨fs6, e17⟩ : ∃ fs6, fs6 = putF ("own_borders" : Str) (V.ref b1) fs5 := ⟨_, rfl⟩
    have l6 : fs6.length ≤ 6 := by rw [e17]; have := length_putF ("own_borders" : Str) (V.ref b1) fs5; omega
    obtain ⟨fs7, e18⟩ : ∃ fs7, fs7 = putF ("own_rims" : Str) (V.ref b2) fs6 := ⟨_, rfl⟩
    have lk7 : fs7.lookup ("own_rows" : Str) = some (.ref a') := by rw [e18, lookup_putF, if_neg (by decide), e17, lookup_putF, if_neg (by decide)]; exact lk5
    have ld7 : fs7.lookup ("own_road" : Str) = some (.ref p) := by rw [e18, lookup_putF, if_neg (by decide), e17, lookup_putF, if_neg (by decide)]; exact ld5
    refine ⟨g, rfl, _, SqT.of g16, rfl, _, _, rfl, CP, dx, fs5, x16, PX.cls, PX.nB, by omega, _, _, rfl, CP, dx, fs6, by rw [upd_same, e17], PX.cls, PX.nM, by omega, rfl, ?_⟩
    rw [upd_upd, ← e18]
    have kF : Keep [x] H16 (L2.upd H16 x (.ins CP dx fs7)) := (Keep.refl _ _).upd (by simp)
    have nrows : fs7.lookup ("rows" : Str) = none := by
      rw [e18, lookup_putF, if_neg (by decide), e17, lookup_putF, if_neg (by decide), e15, lookup_putF, if_neg (by decide), e12, lookup_putF, if_neg (by decide), e10, lookup_putF, if_neg (by decide), e5, lookup_putF, if_neg (by decide), e1, lookup_putF, if_neg (by decide)]
      rfl
    have nroad : fs7.lookup ("road" : Str) = none := by
      rw [e18, lookup_putF, if_neg (by decide), e17, lookup_putF, if_neg (by decide), e15, lookup_putF, if_neg (by decide), e12, lookup_putF, if_neg (by decide), e10, lookup_putF, if_neg (by decide), e5, lookup_putF, if_neg (by decide), e1, lookup_putF, if_neg (by decide)]
      rfl
    exact q _ fs7 a' p (k016.trans kF) upd_same lk7 (hR16.keepI x16 kF) ld7 (hC16.keepI x16 kF) nrows nroad
def sp_Plat_rows (CP : Addr) : Sp := fun vs H Q _ => ∃ (x a dx : Addr) (fs : List (Str × V)) (R : List (List Str)), vs = [.ref x] ∧ H x = some (.ins CP dx fs) ∧ fs.lookup ("own_rows" : Str) = some (.ref a) ∧ RowsL H a R ∧ R.length ≤ 12 ∧
  ∀ H' p, Same H H' → H p = none → RowsL H' p R → Q (.ref p) H'
theorem m_Plat_rows (T : Tx K mg) {CP : Addr} (PX : Px K CP) {kws : List (Str × V)} {f : Addr} {fd : FuncData} (F : FunD K "rows" "Plat.rows" (defArgs s_Plat_rows) (defBody s_Plat_rows) (defScope s_Plat_rows) [] kws f fd) : FnOk P w K mg base CX0 1 f fd p_Plat_rows (sp_Plat_rows CP) := by
  have S := sc_Plat_rows
  refine F.ok S (fun vs H Q E h => ?_) fun cdv A outer s H vs Q E hr h => ?_
  · obtain ⟨_, _, _, _, _, rfl, _⟩ := h
    rfl
  suffices g : ∃ t, PSs (cxOf CX0 P w K mg base N_Plat_rows "Plat.rows" (defScope s_Plat_rows) f cdv A outer s H E).nox (defBody s_Plat_rows) t ∧ t { nx := fun _ H' => Q .non H', rt := Q } (L2.start N_Plat_rows vs) H from g.elim fun t z => ⟨t, z.1.nox, z.2⟩
  refine ⟨_, (pss_one (ps_ret (pe_lc (own := [("row", 1)]) (g := gName 1) rfl S.nd (pi_list (pe_fld (pv 0) rfl)) (blkOk_by (N := N_Plat_rows) (sc := defScope s_Plat_rows) (by decide +kernel)) (fun _ _ _ _ _ => (pg_name (i := 1) S.nd rfl (by first | exact Or.inl rfl | exact Or.inr rfl))) (fun _ _ _ _ _ => pts_nil) (fun _ _ _ _ _ => (pe_callTy (T := "list") (r := rListOf_ K) call_listOf_ (by rfl) (T.fr _ (by decide)) (by decide +kernel) (pa_cons (pv 1) pa_nil)))))), ?_⟩
  obtain ⟨x, a, dx, fs, R, rfl, hx, lk, hR, l, q⟩ := h
  exact copy_rows (Nat.lt_succ_self 1) (fun Q z => ⟨_, rfl, x, CP, dx, fs, _, rfl, hx, PX.cls, PX.nR, lk, z⟩) hR (by omega) fun D H' s f z => q H' D s f z
def sp_Plat_road (CP : Addr) : Sp := fun vs H Q _ => ∃ (x a dx : Addr) (fs : List (Str × V)) (cs : List Cell), vs = [.ref x] ∧ H x = some (.ins CP dx fs) ∧ fs.lookup ("own_road" : Str) = some (.ref a) ∧ CellL H a cs ∧
  ∀ H' p, Same H H' → H p = none → CellL H' p cs → Q (.ref p) H'
theorem m_Plat_road (T : Tx K mg) {CP : Addr} (PX : Px K CP) {kws : List (Str × V)} {f : Addr} {fd : FuncData} (F : FunD K "road" "Plat.road" (defArgs s_Plat_road) (defBody s_Plat_road) (defScope s_Plat_road) [] kws f fd) : FnOk P w K mg base CX0 1 f fd p_Plat_road (sp_Plat_road CP) := by
  have S := sc_Plat_road
  refine F.ok S (fun vs H Q E h => ?_) fun cdv A outer s H vs Q E hr h => ?_
  · obtain ⟨_, _, _, _, _, rfl, _⟩ := h
    rfl
  suffices g : ∃ t, PSs (cxOf CX0 P w K mg base N_Plat_road "Plat.road" (defScope s_Plat_road) f cdv A outer s H E).nox (defBody s_Plat_road) t ∧ t { nx := fun _ H' => Q .non H', rt := Q } (L2.start N_Plat_road vs) H from g.elim fun t z => ⟨t, z.1.nox, z.2⟩
  refine ⟨_, (pss_one (ps_ret (pe_callTy (T := "list") (r := rListOf_ K) call_listOf_ (by rfl) (T.fr _ (by decide)) (by decide +kernel) (pa_cons (pe_fld (pv 0) rfl) pa_nil)))), ?_⟩
  obtain ⟨x, a, dx, fs, cs, rfl, hx, lk, ⟨ts, h1, h2⟩, q⟩ := h
  walk_at "rd"
  exact ⟨CP, dx, fs, hx, PX.cls, PX.nD, V.ref a, lk, a, rfl, _, .inl (SqL.of h1), fun l H1 n1 => q _ _ n1.same n1.fresh ⟨ts, n1.at_, h2.same n1.same⟩⟩
end
end Dk
-- text G
set_option maxHeartbeats 1000000
namespace Dk
open PySem PySem.Spec PyProof.Rows L2
local macro_rules | `(tactic| walk_at "rd") => `(tactic| simp only [tRet, tRetN, tSeq, tAsg, tIfS, tB, tVar, tC, tCons, tNil, tCB, tCall, tOp, tUn, rI0, rI, rU, rEq, rNe, gName, tAnd, tOr, tNot, tAndV, tOrV, tNotV, tIf, tTest, tChain, tDrop, tNext, tBreak, tCont, tTup, tLst, tBM, tBM0, tM0, tM1, tSl, tPart, tNoPart, tPar,
  rIs, rIs2, rIxL, rIxT, rIxS, rAppend, rExtend, rPop, rPopAt, gTup, gCons, gNil, gSub, tYes, wipe, tD1, tDcC, rListC, rSortC, rEmp, rJoin, tM1, gFld, tFld, sFld, rMinDef, tCKw, StX.tStar, rLen, tDGet2, tNo, tScN, rSortTx, rSetTx, iKeys, tPar3, sDPut, tFor_eq, iList, iEnum, iStr, iZip, cxK, cxP, cxW, tTup_, tLst_, tDNewK_, tDNewT_, rSlL_, rListOf_, rCatN, rRepN, rListStr, iRng1, rLenT, rInC, rDictC, sizeLine_eq, Nat.reduceLeDiff, Bool.true_or, Bool.false_or, Bool.or_true, Bool.or_false, Bool.true_and, Bool.false_and, Bool.and_true, Bool.and_false, Bool.not_true, Bool.not_false, Bool.not_eq_true', decide_eq_true_eq, decide_eq_false_iff_not, scal, isT_Non_boo, isT_Non_int, isT_Non_str, isT_Non_lis, isT_Non_tup, isT_Non_dic, isT_boo_boo, isT_boo_int, isT_boo_str, isT_boo_lis, isT_boo_tup, isT_boo_dic, isT_int_boo, isT_int_int, isT_int_str, isT_int_lis, isT_int_tup, isT_int_dic, isT_str_boo, isT_str_int, isT_str_str, isT_str_lis, isT_str_tup, isT_str_dic, isT_lis_boo, isT_lis_int, isT_lis_str, isT_lis_lis, isT_lis_tup, isT_lis_dic, isT_tup_boo, isT_tup_int, isT_tup_str, isT_tup_lis, isT_tup_tup, isT_tup_dic, isT_dic_boo, isT_dic_int, isT_dic_str, isT_dic_lis, isT_dic_tup, isT_dic_dic, kit_Non, kit_boo, kit_int, kit_str, kit_lis, kit_tup, kit_dic, sg_inj, vt_non, vt_bl, vt_int, vt_str, len_str, tDGet, tDIn, tDNotIn,
  L2.start, List.map_cons, List.map_nil, List.length_cons, List.length_nil, List.cons_append, List.nil_append, List.append_nil, Nat.zero_add, Nat.reduceAdd, Nat.reduceSub, Nat.sub_zero, Nat.sub_self, List.replicate_succ, List.replicate_zero,
  List.getElem?_cons_zero, List.getElem?_cons_succ, List.getElem?_nil, List.set_cons_zero, List.set_cons_succ, List.cons.injEq, Option.some.injEq, V.int.injEq, V.str.injEq, V.bl.injEq, V.ref.injEq, V.ty.injEq, reduceCtorEq,
  and_assoc, and_true, true_and, false_and, and_false, exists_eq_left, exists_eq_left', exists_eq', exists_eq_right, exists_eq_right', exists_and_left, exists_and_right, exists_const, exists_false, exists_eq, if_true, if_false, Bool.false_eq_true, Bool.true_eq, decide_true, decide_false, ite_self])
section
variable {P : Program} {w : World} {K : PySem.W.Frag} {mg : Str → Option Value} {base : Heap}
/-! ## InvalidText -/
def XdI (H : Hp) (d : Addr) (y1 y2 : V) : Prop := ∃ fs, H d = some (.xd fs) ∧ fs.lookup ("line" : Str) = some y1 ∧ fs.lookup ("why" : Str) = some y2 ∧ fs.lookup ("code" : Str) = some (.str "InvalidText")
structure Ix (K : PySem.W.Frag) (CI : Addr) : Prop where
  oex : OexC K CI
  nl : PySem.W.findIn K (.ref CI) "line" = some none
  nw : PySem.W.findIn K (.ref CI) "why" = some none
  nc : PySem.W.findIn K (.ref CI) "code" = some none
def sp_InvalidText_init (CI : Addr) : Sp := fun vs H Q _ => ∃ (a : Addr) (y1 y2 : V), vs = [.ref a, y1, y2] ∧ H a = some (exo a CI none) ∧
  ∀ d H', H d = none → d ≠ a → H' a = some (exo a CI (some d)) → H' d = some (exd d [("code", .str "InvalidText"), ("why", y2), ("line", y1)]) → (∀ b, b ≠ a → b ≠ d → H' b = H b) → Q .non H'
theorem m_InvalidText_init {CI : Addr} (PX : Ix K CI) {f : Addr} {fd : FuncData} (F : FunD K "__init__" "InvalidText.__init__" (defArgs s_InvalidText_init) (defBody s_InvalidText_init) (defScope s_InvalidText_init) [] [] f fd) : FnOk P w K mg base CX0 1 f fd p_InvalidText_init (sp_InvalidText_init CI) := by
  have S := sc_InvalidText_init
  refine F.ok S (fun vs H Q E h => ?_) fun cdv A outer s H vs Q E hr h => ?_
  · obtain ⟨_, _, _, rfl, _⟩ := h
    rfl
  suffices g : ∃ t, PSs (cxOf CX0 P w K mg base N_InvalidText_init "InvalidText.__init__" (defScope s_InvalidText_init) f cdv A outer s H E).nox (defBody s_InvalidText_init) t ∧ t { nx := fun _ H' => Q .non H', rt := Q } (L2.start N_InvalidText_init vs) H from g.elim fun t z => ⟨t, z.1.nox, z.2⟩
  refine ⟨_, pss_cons (ps_ost (pv 0) (pv 1)) (pss_cons (ps_ost (pv 0) (pv 2)) (pss_one (ps_ost (pv 0) pe_str))), ?_⟩
  obtain ⟨a, y1, y2, rfl, ha, q⟩ := h
  refine ⟨y1, rfl, V.ref a, rfl, a, CI, rfl, PX.oex, PX.nl, .inl ⟨ha, fun d hd nd => ⟨y2, rfl, V.ref a, rfl, a, CI, rfl, PX.oex, PX.nw, .inr ⟨d, _, upd_same, by rw [upd_ne nd, upd_same], by simp, V.ref a, rfl, a, CI, rfl, PX.oex, PX.nc, .inr ⟨d, _, by rw [upd_ne nd.symm, upd_same], upd_same, by simp, ?_⟩⟩⟩⟩⟩
  refine q d _ hd nd (by rw [upd_ne nd.symm, upd_ne nd.symm, upd_same]) upd_same fun b hb hd' => ?_
  rw [upd_ne hd', upd_ne hd', upd_ne hb, upd_ne hd']
/-- InvalidText, as a raise wants it -/
def InvT (P : Program) (w : World) (K : PySem.W.Frag) (mg : Str → Option Value) (base : Heap) (CI : Addr) : Prop :=
  ∃ f fd, Ix K CI ∧ PySem.W.findIn K (.ref CI) "__init__" = some (some (.ref f)) ∧ PySem.W.typeIn K (.ref f) = some (.type "function") ∧ FnOk P w K mg base CX0 1 f fd p_InvalidText_init (sp_InvalidText_init CI) ∧ Binds K fd p_InvalidText_init [] ∧ mg "InvalidText" = some (.ref CI)
def tRInv (CI : Addr) (W : WX) (ta : TA) : TS := fun _ σ H => ta σ H fun vs H1 => ∃ y1 y2, vs = [y1, y2] ∧ ∀ d H', Same H1 H' → H1 d = none → XdI H' d y1 y2 → W (.ref CI) (some d) σ H'
theorem ps_rInv {X : Cx} {CI : Addr} {W : WX} {ta : TA} {e1 e2 : Expr} {p pos pos2 : Pos} {k : Nat} (TI : InvT X.prog X.w X.K X.mg X.base CI) (hr : Room k X.A) (hc : X.calm = true) (tk : Takes X W) (hg : Gl X "InvalidText") (ha : PA X [e1, e2] ta) (hk : 2 ≤ k := by decide)
    (he : starEach [e1, e2] X.env = (false, eval e1 X.env) :: starEach [e2] X.env := by rfl) (hpl : (backTo pos (starEach [e2] X.env)).any (·.1) = false := by rfl) :
    PS X (.Raise (some (.Call (.Name "InvalidText" p) [e1, e2] [] pos)) none pos2) (tRInv CI W ta) := by
  obtain ⟨f, fd, IX, iC, tI, F1, hb, hm⟩ := TI
  refine ps_mono (ps_raise hc tk (pmk_oex IX.oex iC tI F1 (hr.mono hk) hb .nil pass0 hg hm (pa_monoA ha) (by decide) he hpl)) fun D σ H q => ?_
  refine ⟨_, q, fun vs H1 ⟨y1, y2, e, r⟩ => ?_⟩
  subst e
  refine ⟨by simp, fun a na => ⟨a, y1, y2, rfl, upd_same, fun d H' nd dn ea ed oth => ⟨rfl, d, _, ea, ed, ?_, ?_⟩⟩⟩
  · rwa [upd_ne dn] at nd
  · have nd1 : H1 d = none := by rwa [upd_ne dn] at nd
    refine r d _ (fun b o hb => ?_) nd1 ⟨_, upd_same, by rfl, by rfl, by rfl⟩
    have b1 : b ≠ a := ne_of_none hb na
    have b2 : b ≠ d := ne_of_none hb nd1
    rw [upd_ne b2, del_ne b1, oth b b1 b2, upd_ne b1]
    exact hb
/-- Plat, as a call wants it -/
def PlT (P : Program) (w : World) (K : PySem.W.Frag) (mg : Str → Option Value) (base : Heap) (CP : Addr) : Prop :=
  ∃ f fd g, Px K CP ∧ Mk K CP f ∧ KBn K fd p_Plat_init 2 [("road" : Str)] g (fun vs zs => vs ++ zs) ∧ FnOk P w K mg base CX0 9 f fd p_Plat_init (sp_Plat_init CP) ∧ mg "Plat" = some (.ref CP)
theorem pe_plat {X : Cx} {CP : Addr} {e e2 : Expr} {t : TA} {te : TE} {p kp pos : Pos} {k : Nat} (TP : PlT X.prog X.w X.K X.mg X.base CP) (hr : Room k X.A) (hg : Gl X "Plat") (ha : PA X [e] t) (he2 : PE X e2 te) (hk : 10 ≤ k := by decide)
    (hall : (backToKw pos (keywordEach [⟨some "road", e2, kp⟩] X.env)).all (·.1.isSome) = true := by rfl) (hks : (backToKw pos (keywordEach [⟨some "road", e2, kp⟩] X.env)).filterMap (·.1) = [("road" : Str)] := by rfl)
    (he : starEach [e] X.env = (false, eval e X.env) :: starEach [] X.env := by rfl) (hpl : ((backTo pos (starEach [e] X.env)).any (·.1) || (backToKw pos (keywordEach [⟨some "road", e2, kp⟩] X.env)).any (·.1.isNone)) = false := by rfl) :
    PE X (.Call (.Name "Plat" p) [e] [⟨some "road", e2, kp⟩] pos) (tMakeK CP 1 1 (sp_Plat_init CP) (fun vs zs => vs ++ zs) E0 t (tCons te tNil)) := by
  obtain ⟨f, fd, g, PX, M, hb, F, hm⟩ := TP
  exact pe_makeK M F (hr.mono hk) hg hm hb pass0 ha (pk_cons he2 pk_nil) hall hks (by decide) he hpl
theorem fault_ne {ws : List Str} {R : List (List Str)} {why : Str} (h : why = Str.empty) : fault ws R ≠ some why := by
  subst h
  unfold fault
  split
  · intro e; exact absurd (Option.some.inj e) (by decide +kernel)
  · split
    · intro e; exact absurd (Option.some.inj e) (by decide +kernel)
    · split
      · intro e; exact absurd (Option.some.inj e) (by decide +kernel)
      · intro e; cases e
theorem if_no {c A B : Prop} [Decidable c] (h : ¬ c) (q : B) : if c then A else B := by rw [if_neg h]; exact q
theorem if_yes {c A B : Prop} [Decidable c] (h : c) (q : A) : if c then A else B := by rw [if_pos h]; exact q
theorem dropLast_snoc {α : Type} {l : List α} (h : l ≠ []) (a : α) : l.dropLast ++ [l.getLastD a] = l := by
  have := List.dropLast_concat_getLast h
  rw [List.getLastD_eq_getLast?, List.getLast?_eq_some_getLast h]
  exact this
theorem readW_form {Ws R : List (List Str)} {last : Str} (h : scan Ws [] = (none, R)) (l : last ≠ Str.empty) : readW Ws last = .bad R.length "form" := by
  unfold readW
  rw [h]
  simp only
  rw [if_pos l]
theorem readW_inner {Ws R : List (List Str)} {last : Str} {c : Cell} {t : List Cell} (h : scan Ws [] = (none, R)) (l : last = Str.empty) (e : innerOf Ws R = c :: t) : readW Ws last = .bad c.1 "inner" := by
  unfold readW
  rw [h]
  simp only
  rw [if_neg (by simpa using l), e]
theorem readW_apart {Ws R : List (List Str)} {last : Str} (h : scan Ws [] = (none, R)) (l : last = Str.empty) (e : innerOf Ws R = []) (a : lostL R ≠ []) : readW Ws last = .bad (minI (lostL R)) "apart" := by
  unfold readW
  rw [h]
  simp only
  rw [if_neg (by simpa using l), e]
  simp only
  rw [if_pos a]
theorem readW_ok {Ws R : List (List Str)} {last : Str} (h : scan Ws [] = (none, R)) (l : last = Str.empty) (e : innerOf Ws R = []) (a : lostL R = []) : readW Ws last = .ok R (roadOf Ws) := by
  unfold readW
  rw [h]
  simp only
  rw [if_neg (by simpa using l), e]
  simp only
  rw [if_neg (by simpa using a)]
def WBad (CI : Addr) (E : XK) (H : Hp) (n : Int) (why : Str) : Prop := ∀ d H', Same H H' → H d = none → XdI H' d (.int n) (.str why) → E (.ref CI) (some d) H'
def WOk (CP : Addr) (Q : VK) (H : Hp) (R : List (List Str)) (cs : List Cell) : Prop := ∀ H' x dx fs a r, Same H H' → H' x = some (.ins CP dx fs) → fs.lookup ("own_rows" : Str) = some (.ref a) → RowsL H' a R → R.length ≤ 12 → fs.lookup ("own_road" : Str) = some (.ref r) → CellL H' r cs → fs.lookup ("rows" : Str) = none → fs.lookup ("road" : Str) = none → Q (.ref x) H'
def sp_read_plat (CP CI : Addr) : Sp := fun vs H Q E => ∃ v, vs = [v] ∧ ((∃ t, v = .str t ∧ t.length ≤ 3000 ∧ (∀ n why, readS t = .bad n why → WBad CI E H n why) ∧ ∀ R cs, readS t = .ok R cs → WOk CP Q H R cs) ∨ ∃ T, VT H v T ∧ isT T "str" = false ∧ WBad CI E H 0 "form")
theorem c_read_plat {CP CI : Addr} (T : Tx K mg) (D : Df K mg "read_plat" s_read_plat) (TI : InvT P w K mg base CI) (TP : PlT P w K mg base CP) (c_bare_word : Cal P w K mg base CX0 1 "bare_word" p_bare_word sp_bare_word) (c_line_fault : Cal P w K mg base CX0 2 "line_fault" p_line_fault sp_line_fault)
    (c_is_edge : Cal P w K mg base CX0 4 "is_edge" p_is_edge sp_is_edge) (c_apart_line : Cal P w K mg base CX0 8 "apart_line" p_apart_line sp_apart_line) : Cal P w K mg base (L2.CX P w) 11 "read_plat" p_read_plat (sp_read_plat CP CI) := by
  have S := sc_read_plat
  refine cal_of D S (fun _ _ _ _ _ _ us hl => match us, hl with | [_], _ => rfl) (fun vs H Q E h => ?_) (fun f cdv A outer s H vs Q E hr h => ?_)
  · obtain ⟨_, rfl, _⟩ := h
    rfl
  refine ⟨_, (pss_cons (ps_if (PW.pt (pw_or (pt_not (pt_val (pe_callB (id := "isinstance") call_is (by rfl) (T.fr _ (by decide)) (by decide +kernel) (pa_cons (pv 0) (pa_cons (pe_bltn (v := .ty "str") (by rfl) (T.fr _ (by decide)) (by decide +kernel) rfl) pa_nil))))) (pw_or1 (pt_cmpR op_eq (pv 0) pe_str (nomark _))))) (pss_one (ps_rInv TI hr rfl (takes_of rfl rfl rfl rfl) rfl (pa_cons pe_int (pa_cons pe_str pa_nil)))) pss_nil)
      (pss_cons (ps_asg (pe_tup_ (pa_cons (pe_split (pv 0) pe_str) (pa_cons (pe_lst_ pa_nil) (pa_cons (pe_lst_ pa_nil) pa_nil)))) (pg_tup (n := 3) rfl (pgs_cons (pg_name (i := 1) S.nd rfl (by first | exact Or.inl rfl | exact Or.inr rfl)) (pgs_cons (pg_name (i := 2) S.nd rfl (by first | exact Or.inl rfl | exact Or.inr rfl)) (pgs_cons (pg_name (i := 3) S.nd rfl (by first | exact Or.inl rfl | exact Or.inr rfl)) pgs_nil)))))
      (pss_cons (ps_for (passes_of rfl) rfl (pi_enum (by rfl) (T.fr _ (by decide)) (pa_cons (pe_slice (r := rSlL_ K) sl_list_ (pv 1) po_none (po_some (pe_un un_neg pe_int))) pa_nil)) (pg_tup (n := 2) rfl (pgs_cons (pg_name (i := 4) S.nd rfl (by first | exact Or.inl rfl | exact Or.inr rfl)) (pgs_cons (pg_name (i := 5) S.nd rfl (by first | exact Or.inl rfl | exact Or.inr rfl)) pgs_nil))) (pss_cons (ps_set (i := 6) S.nd rfl (by first | exact Or.inl rfl | exact Or.inr rfl) (pe_split (pv 5) pe_str))
      (pss_cons (ps_set (i := 7) S.nd rfl (by first | exact Or.inl rfl | exact Or.inr rfl) (pe_fn c_line_fault hr (pa_cons (pv 6) (pa_cons (pv 2) pa_nil))))
      (pss_cons (ps_if (pt_cmpR op_ne (pv 7) pe_str (nomark _)) (pss_one (ps_rInv TI hr rfl (takes_of rfl rfl rfl rfl) rfl (pa_cons (pv 4) (pa_cons (pv 7) pa_nil)))) pss_nil)
      (pss_cons (ps_expr (pe_bm PySem.F.plainAttrs_list PySem.F.slot_list_append PySem.F.type_list_append mt_append (pv 2) (pa_cons (pe_lc (own := [("word", 10)]) (g := gName 10) rfl S.nd (pi_list (pv 6)) (blkOk_by (N := N_read_plat) (sc := defScope s_read_plat) (by decide +kernel)) (fun _ _ _ _ _ => (pg_name (i := 10) S.nd rfl (by first | exact Or.inl rfl | exact Or.inr rfl))) (fun _ _ _ _ _ => pts_nil) (fun _ _ _ _ _ => (pe_fn c_bare_word hr (pa_cons (pv 10) pa_nil)))) pa_nil)))
      (pss_one (ps_expr (pe_bm PySem.F.plainAttrs_list PySem.F.slot_list_extend PySem.F.type_list_extend mt_extend (pv 3) (pa_cons (pe_lc (own := [("right", 11), ("word", 10)]) (g := gTup K 2 (gCons (gName 11) (gCons (gName 10) gNil))) rfl S.nd (pi_enum (by rfl) (T.fr _ (by decide)) (pa_cons (pv 6) pa_nil)) (blkOk_by (N := N_read_plat) (sc := defScope s_read_plat) (by decide +kernel)) (fun _ _ _ _ _ => (pg_tup (n := 2) rfl (pgs_cons (pg_name (i := 11) S.nd rfl (by first | exact Or.inl rfl | exact Or.inr rfl)) (pgs_cons (pg_name (i := 10) S.nd rfl (by first | exact Or.inl rfl | exact Or.inr rfl)) pgs_nil)))) (fun _ _ _ _ _ => (pts_one (pt_val (pe_m1 PySem.F.slot_str_endswith PySem.F.type_str_endswith mt_endswith (pv 10) pe_str)))) (fun _ _ _ _ _ => (pe_tup_ (pa_cons (pv 4) (pa_cons (pv 11) pa_nil))))) pa_nil)))))))))
      (pss_cons (ps_if (pt_cmpR op_ne (pe_ix (r := rIxL K) ix_list (pv 1) (pe_un un_neg pe_int) (fun _ _ => rfl)) pe_str (nomark _)) (pss_one (ps_rInv TI hr rfl (takes_of rfl rfl rfl rfl) rfl (pa_cons (pe_op op_sub (pe_callB (id := "len") (r := rLen K) (call_len_ rfl) (by rfl) (T.fr _ (by decide)) (by decide +kernel) (pa_cons (pv 1) pa_nil)) pe_int) (pa_cons pe_str pa_nil)))) pss_nil)
      (pss_cons (ps_setLc (i := 8) (own := [("cell", 12)]) (g := gName 12) rfl S.nd rfl rfl (sw_true rfl rfl rfl (by decide +kernel)) (pi_list (pv 3)) (blkOk_by (N := N_read_plat) (sc := defScope s_read_plat) (by decide +kernel)) (fun _ _ _ _ _ => (pg_name (i := 12) S.nd rfl (by first | exact Or.inl rfl | exact Or.inr rfl))) (fun _ _ _ _ _ => (pts_one (pt_not (pt_val (pe_fn c_is_edge hr (pa_cons (pv 12) (pa_cons (pe_callB (id := "len") (r := rLen K) (call_len_ rfl) (by rfl) (T.fr _ (by decide)) (by decide +kernel) (pa_cons (pv 2) pa_nil)) (pa_cons (pe_callB (id := "len") (r := rLen K) (call_len_ rfl) (by rfl) (T.fr _ (by decide)) (by decide +kernel) (pa_cons (pe_ix (r := rIxL K) ix_list (pv 2) pe_int (fun _ _ => rfl)) pa_nil)) pa_nil)))))))) (fun _ _ _ _ _ => (pe_ix (r := rIxT K) ix_tup (pv 12) pe_int (fun _ _ => rfl))))
      (pss_cons (ps_if (pt_cmpR (op_neE hr) (pv 8) (pe_lst_ pa_nil) (nomark _)) (pss_one (ps_rInv TI hr rfl (takes_of rfl rfl rfl rfl) rfl (pa_cons (pe_ix (r := rIxL K) ix_list (pv 8) pe_int (fun _ _ => rfl)) (pa_cons pe_str pa_nil)))) pss_nil)
      (pss_cons (ps_set (i := 9) S.nd rfl (by first | exact Or.inl rfl | exact Or.inr rfl) (pe_fn c_apart_line hr (pa_cons (pv 2) pa_nil)))
      (pss_cons (ps_if (pt_cmpR op_notN (pv 9) pe_non (nomark _)) (pss_one (ps_rInv TI hr rfl (takes_of rfl rfl rfl rfl) rfl (pa_cons (pv 9) (pa_cons pe_str pa_nil)))) pss_nil)
      (pss_one (ps_ret (pe_plat TP hr rfl (pa_cons (pv 2) pa_nil) (pv 3)))))))))))), ?_⟩
  obtain ⟨v, rfl, h⟩ := h
  walk_at "rd"
  rcases h with ⟨t, rfl, lt, hb, hg⟩ | ⟨T0, hv, hT, hb⟩
  · refine ⟨"str", .str t, ?_⟩
    walk_at "rd"
    rw [show Str.ofString "" = Str.empty from by decide +kernel]
    refine ite2 (fun e => ?_) fun e => ?_
    · exact ⟨V.int 0, V.str "form", rfl, hb 0 "form" (by unfold readS; rw [if_pos e])⟩
    · have et : readS t = readW (wordsOf (Txt.split t (sg 10)).dropLast) ((Txt.split t (sg 10)).getLastD Str.empty) := by unfold readS; rw [if_neg e]
      rw [show Str.ofString "\n" = sg 10 from by decide +kernel, show Str.ofString " " = sg 32 from by decide +kernel]
      obtain ⟨Ls, hLs⟩ : ∃ Ls, Ls = Txt.split t (sg 10) := ⟨_, rfl⟩
      rw [← hLs] at et
      have lLs : Ls.length ≤ 3001 := by rw [hLs]; have := split_many t (s := 10) (by decide); omega
      have pLs : ∀ l ∈ Ls, l.length ≤ 3000 := fun l hl => by rw [hLs] at hl; have := split_part (s := 10) (by decide) hl; omega
      have nLs : Ls ≠ [] := by rw [hLs]; exact split_ne t (by decide)
      obtain ⟨Ws, hWs⟩ : ∃ Ws, Ws = wordsOf Ls.dropLast := ⟨_, rfl⟩
      rw [← hWs] at et
      refine ⟨by decide +kernel, by omega, fun p hp => ?_⟩
      rw [← hLs]
      have np := new_of (o := .lst (Ls.map V.str)) hp
      obtain ⟨H1, hH1⟩ : ∃ H1, H1 = L2.upd H p (.lst (Ls.map V.str)) := ⟨_, rfl⟩
      rw [← hH1] at np ⊢
      refine fun r H2 n2 d H3 n3 tp H4 n4 => ?_
      have p4 : H4 p = some (.lst (Ls.map V.str)) := (n2.same.trans (n3.same.trans n4.same)) _ _ np.at_
      refine ⟨_, SqT.of n4.at_, rfl, _, _, rfl, _, _, rfl, _, _, rfl, rfl, p, rfl, _, SqL.of p4, fun q H5 n5 => ⟨⟨_, SqL.of n5.at_⟩, ?_⟩⟩
      rw [cutV_last, ← List.map_dropLast] at n5
      have s15 := n2.same.trans (n3.same.trans (n4.same.trans n5.same))
      have s05 : Same H H5 := np.same.trans s15
      have p5 := s15 _ _ np.at_
      have r5 : H5 r = some (.lst []) := (n3.same.trans (n4.same.trans n5.same)) _ _ n2.at_
      have d5 : H5 d = some (.lst []) := (n4.same.trans n5.same) _ _ n3.at_
      have nr : H r = none := none_of np.same n2.fresh
      have nd : H d = none := none_of (np.same.trans n2.same) n3.fresh
      have nrd : r ≠ d := ne_of_none n2.at_ n3.fresh
      have npr : p ≠ r := ne_of_none np.at_ n2.fresh
      have npd : p ≠ d := ne_of_none (n2.same _ _ np.at_) n3.fresh
      have nqr : q ≠ r := (ne_of_none ((n3.same.trans n4.same) _ _ n2.at_) n5.fresh).symm
      have nqd : q ≠ d := (ne_of_none (n4.same _ _ n3.at_) n5.fresh).symm
      have lWs : Ws.length = Ls.dropLast.length := by rw [hWs]; simp
      obtain ⟨LI, hLI⟩ : ∃ LI : Nat → Hp → Prop, LI = fun i H' => ∃ R as ts, Same H H' ∧ H' p = some (.lst (Ls.map V.str)) ∧ H' q = some (.lst (Ls.dropLast.map V.str)) ∧ H' r = some (.lst (as.map V.ref)) ∧ Paired (StrL H') as R ∧ (∀ a ∈ as, a ≠ r ∧ a ≠ d) ∧ H' d = some (.lst (ts.map V.ref)) ∧ Cells H' ts (roadOf (Ws.take i)) ∧ Upto Ws i R ∧ Good (Ws.take i) R := ⟨_, rfl⟩
      refine for_B (walk_enum (xs := Ls.dropLast.map V.str)) (fun i σ H' => ∃ x4 x5 x6 x7, σ = [some (.str t), some (.ref p), some (.ref r), some (.ref d), x4, x5, x6, x7, none, none, none, none, none] ∧ LI i H') ⟨_, _, _, _, rfl, ?_⟩ (fun i σ H' hi ⟨_, _, _, _, _, h⟩ => ?_) (fun i v σ H6 H7 hi ⟨x4, x5, x6, x7, e, h⟩ y => ?_) (fun σ H6 ⟨x4, x5, x6, x7, e, h⟩ => ?_)
      · rw [hLI]
        exact ⟨[], [], [], s05, p5, n5.at_, r5, .nil, by simp, d5, .nil, upto_zero Ws, by simpa using good_nil⟩
      · rw [hLI] at h
        obtain ⟨_, _, _, _, _, h, _⟩ := h
        exact SqL.of h
      · obtain ⟨T1, y1, y2, rfl, hT, rfl, e1, e2⟩ := y
        cases e1
        obtain ⟨ln, hln, rfl⟩ := str_list_get e2
        rw [hLI] at h
        obtain ⟨R, as, ts, s6, p6, q6, r6, P6, na6, d6, C6, U6, G6⟩ := h
        subst e
        have sT : Same H6 (L2.upd H6 T1 (.tup [.int (i : Nat), .str ln])) := same_new hT
        have lln : ln.length ≤ 3000 := pLs ln (List.dropLast_subset _ (List.mem_of_getElem? hln))
        obtain ⟨ws, hws⟩ : ∃ ws, ws = Txt.split ln (sg 32) := ⟨_, rfl⟩
        have hW : Ws[i]? = some ws := by rw [hWs, List.getElem?_map, hln, hws]; rfl
        walk_at "rd"
        refine ⟨_, SqT.of upd_same, rfl, _, _, rfl, _, _, rfl, rfl, ⟨ln, rfl⟩, ln, rfl, by decide +kernel, by omega, fun a6 ha6 => ?_⟩
        rw [← hws]
        obtain ⟨H8, hH8⟩ : ∃ H8, H8 = L2.upd (L2.upd H6 T1 (.tup [.int (i : Nat), .str ln])) a6 (.lst (ws.map V.str)) := ⟨_, rfl⟩
        have n8 : New (L2.upd H6 T1 (.tup [.int (i : Nat), .str ln])) a6 (.lst (ws.map V.str)) H8 := by rw [hH8]; exact new_of ha6
        rw [← hH8]
        have s68 := sT.trans n8.same
        have lws : ws.length ≤ 3001 := by rw [hws]; have := split_many ln (s := 32) (by decide); omega
        have pws : ∀ z ∈ ws, z.length ≤ 3000 := fun z hz => by rw [hws] at hz; have := split_part (s := 32) (by decide) hz; omega
        have hR8 : RowsL H8 r R := ⟨as, s68 _ _ r6, Paired.mapP P6 fun _ _ z => StrL.same s68 z⟩
        refine ⟨a6, r, ws, R, rfl, n8.at_, hR8, pws, by omega, G6.hh, fun x hx => (G6.wd x hx).2.2, fun H9 s89 => ?_⟩
        refine ⟨rfl, ite2 (fun ne => ?_) fun ne => ?_⟩
        · cases e : fault ws R with
          | none => exact absurd (by rw [e]; rfl) ne
          | some why =>
            exact ⟨_, rfl, _, rfl, V.int (i : Nat), V.str why, rfl, fun d' H' s n x => hb i why (et.trans (readW_bad (upto_bad U6 hW e))) d' H' ((s6.trans (s68.trans s89)).trans s) (none_of (s6.trans (s68.trans s89)) n) x⟩
        · have e : fault ws R = none := by
            cases e : fault ws R with
            | none => rfl
            | some why => exact absurd e (fault_ne (by simpa [e] using ne))
          have s69 := s68.trans s89
          have wn : ws ≠ [] := by rw [hws]; exact split_ne ln (by decide)
          obtain ⟨f1, f2, f3, f4, f5⟩ := fault_none e
          have w9 : H9 a6 = some (.lst (ws.map V.str)) := s89 _ _ n8.at_
          refine ⟨tyV_lst (s69 _ _ r6), _, rfl, a6, rfl, ⟨_, SqL.of w9⟩, fun D hD => lc_it (walk_list (xs := ws.map V.str)) (LcInv H9 D fun acc j _ => acc = (ws.take j).map fun z => V.str (bare z)) (lc0 hD (by simp)) (fun _ _ _ ⟨_, _, _, s, _⟩ => SqL.of (s _ _ w9)) (fun j x H10 H11 hj ⟨acc, ha, hl, s1, rq⟩ y => ?_) (fun H10 ⟨acc, ha, hl, s1, rq⟩ => ?_)⟩
          · obtain ⟨rfl, hx⟩ := y
            obtain ⟨z, hz, rfl⟩ := str_list_get hx
            have := pws z (List.mem_of_getElem? hz)
            walk_at "rd"
            refine ⟨z, rfl, by omega, lcKeep hD ha hl hj (by simp; omega) s1 ?_⟩
            show acc ++ _ = _
            rw [rq, take_get hz]
            simp
          · have eacc : acc = (ws.map bare).map V.str := by
              rw [show acc = _ from rq, List.take_of_length_le (by simp)]; simp [Function.comp_def]
            subst eacc
            have ha0 : H10 D = some (.lst ((ws.map bare).map V.str)) := ha
            have s610 := s69.trans s1
            have rD : r ≠ D := ne_of_none (s69 _ _ r6) hD
            have dD : d ≠ D := ne_of_none (s69 _ _ d6) hD
            have la := P6.length
            refine ⟨_, s610 _ _ r6, by rw [List.length_map, la]; have := G6.hh; omega, ?_⟩
            obtain ⟨H11, hH11⟩ : ∃ H11, H11 = L2.upd H10 r (.lst (as.map V.ref ++ [V.ref D])) := ⟨_, rfl⟩
            rw [← hH11]
            have r11 : H11 r = some (.lst ((as ++ [D]).map V.ref)) := by rw [hH11, upd_same]; simp
            have o11 : ∀ {b o}, b ≠ r → H10 b = some o → H11 b = some o := fun {b o} nb e => by rw [hH11, upd_ne nb]; exact e
            have d11 : H11 d = some (.lst (ts.map V.ref)) := o11 nrd.symm (s610 _ _ d6)
            have C11 : Cells H11 ts (roadOf (Ws.take i)) := by rw [hH11]; exact Cells.updL (s610 _ _ r6) (C6.same s610)
            have w11 : H11 a6 = some (.lst (ws.map V.str)) := o11 (fun z => by have := n8.fresh; rw [z, sT _ _ r6] at this; cases this) (s1 _ _ w9)
            have S11 : Same H H11 := by rw [hH11]; exact same_upd (s6.trans s610) nr
            refine ⟨tyV_lst d11, _, rfl, a6, _, rfl, SqL.of w11, fun D2 hD2 => ?_⟩
            refine lc_it (walk_enum (xs := ws.map V.str)) (LcInv H11 D2 fun acc j H' => ∃ us, acc = us.map V.ref ∧ Cells H' us (cellsBy star (rowC i 0 (ws.take j)))) (lc0 hD2 ⟨[], rfl, by simp [rowC, cellsBy]; exact .nil⟩) (fun _ _ _ ⟨_, _, _, s, _⟩ => SqL.of (s _ _ w11)) (fun j x H12 H13 hj ⟨acc, ha, hl, s1, us, ea, rq⟩ y => ?_) (fun H12 ⟨acc, ha, hl, s1, us, ea, rq⟩ => ?_)
            · obtain ⟨T2, y1, y2, rfl, hT2, rfl, e1, e2⟩ := y
              cases e1
              obtain ⟨z, hz, rfl⟩ := str_list_get e2
              obtain ⟨H13, hH13⟩ : ∃ H13, H13 = L2.upd H12 T2 (.tup [.int (j : Nat), .str z]) := ⟨_, rfl⟩
              have n13 : New H12 T2 (.tup [.int (j : Nat), .str z]) H13 := by rw [hH13]; exact new_of hT2
              rw [← hH13]
              have a13 := n13.same _ _ ha
              have c13 := rq.same n13.same
              have s13 := s1.trans n13.same
              have nx : cellsBy star (rowC i 0 (ws.take (j + 1))) = cellsBy star (rowC i 0 (ws.take j)) ++ (if star z = true then [((i : Int), (j : Int))] else []) := by
                rw [rowC_take hz, cellsBy_app]
                congr 1
                unfold cellsBy
                split <;> simp_all
              walk_at "rd"
              refine ⟨_, SqT.of n13.at_, rfl, _, _, rfl, _, _, rfl, rfl, ⟨z, rfl⟩, z, rfl, ?_⟩
              rw [ends_star]
              refine ite2 (fun a => fun T3 H14 n14 => ?_) fun a => ?_
              · refine lcKeep hD2 (n14.same _ _ a13) hl hj (by rw [List.length_map]; omega) (s13.trans n14.same) ⟨us ++ [T3], by rw [ea]; simp, ?_⟩
                rw [nx, if_pos a]
                exact (Cells.updL (n14.same _ _ a13) (c13.same n14.same)).app (.cons (CellV.updL (c := ((i : Int), (j : Int))) (n14.same _ _ a13) n14.at_) .nil)
              · refine lcSkip a13 hl s13 ⟨us, ea, ?_⟩
                rw [nx, if_neg a, List.append_nil]
                exact c13
            · have full : ws.take (ws.map V.str).length = ws := List.take_of_length_le (by rw [List.length_map]; exact Nat.le_refl _)
              rw [full] at rq
              have s012 := S11.trans s1
              have d12 := s1 _ _ d11
              have l1 : ts.length ≤ 144 := by
                rw [C6.len]
                have dm : Dims (Ws.take i) := ⟨by have := G6.hh; rw [good_take G6] at this; exact this, fun x hx => by
                  have : x.map bare ∈ R := by rw [G6.rows]; exact List.mem_map.mpr ⟨x, hx, rfl⟩
                  have := (G6.wd _ this).2.2
                  rwa [List.length_map] at this⟩
                exact cells_few dm star
              have l2 : us.length ≤ 12 := by
                rw [rq.len]
                have := cellsBy_len star (rowC i 0 ws)
                rw [rowC_len] at this
                omega
              refine ⟨D2, rfl, _, d12, _, ha, by rw [ea, List.length_map, List.length_map]; omega, ?_⟩
              rw [hLI]
              have nD2 : d ≠ D2 := ne_of_none d11 hD2
              refine ⟨R ++ [ws.map bare], as ++ [D], ts ++ us, same_upd s012 nd, ?_, ?_, ?_, ?_, ?_, ?_, ?_, upto_next U6 hW e, ?_⟩
              · rw [upd_ne npd]; exact s1 _ _ (o11 npr (s610 _ _ p6))
              · rw [upd_ne nqd]; exact s1 _ _ (o11 nqr (s610 _ _ q6))
              · rw [upd_ne nrd]; exact s1 _ _ r11
              · refine paired_app (Paired.mapP (paired_allIn P6 na6) fun b z k => ?_) (.cons ?_ .nil)
                · show L2.upd H12 d _ b = _
                  rw [upd_ne k.2.2]; exact s1 _ _ (o11 k.2.1 (s610 _ _ k.1))
                · show L2.upd H12 d _ D = _
                  rw [upd_ne dD.symm]; exact s1 _ _ (o11 rD.symm ha0)
              · intro b hb'
                rcases List.mem_append.mp hb' with h | h
                · exact na6 b h
                · simp at h; rw [h]; exact ⟨rD.symm, dD.symm⟩
              · rw [upd_same, ea]; simp
              · have er : roadOf (Ws.take (i + 1)) = roadOf (Ws.take i) ++ cellsBy star (rowC i 0 ws) := by
                  unfold roadOf
                  rw [gridC_take hW, cellsBy_app]
                rw [er]
                exact (Cells.updL d12 (C11.same s1)).app (Cells.updL d12 rq)
              · have := scan_good (rest := [ws]) (R' := R ++ [ws.map bare]) (by simpa using wn) G6 (by simp only [scan, e])
                rw [take_get hW]
                exact this
      · rw [hLI] at h
        obtain ⟨R, as, ts, s6, p6, q6, r6, P6, na6, d6, C6, U6, G6⟩ := h
        have full : Ws.take (Ls.dropLast.map V.str).length = Ws := List.take_of_length_le (by rw [List.length_map, lWs]; exact Nat.le_refl _)
        rw [full] at C6 G6
        rw [List.length_map, ← lWs] at U6
        have U7 := upto_end U6
        have lR : R.length = Ws.length := good_take G6
        subst e
        walk_at "rd"
        obtain ⟨last, hlast⟩ : ∃ last, last = Ls.getLastD Str.empty := ⟨_, rfl⟩
        rw [← hlast] at et
        have eLs : Ls = Ls.dropLast ++ [last] := by
          rw [hlast]
          exact (dropLast_snoc nLs Str.empty).symm
        have e6 : atI (Ls.map V.str) (-1) = some (V.str last) := by
          rw [eLs, List.map_append]
          exact atI_last _ _
        have lL : Ls.length = R.length + 1 := by
          have := congrArg List.length eLs
          rw [List.length_append, List.length_singleton, ← lWs, ← lR] at this
          exact this
        refine ⟨_, SqL.of p6, _, e6, rfl, ite2 (fun ne => ?_) fun ne => ?_⟩
        · have ne' : last ≠ Str.empty := fun z => ne (by rw [z])
          refine ⟨_, rfl, _, _, rfl, .inl ⟨_, SqL.of p6, rfl⟩, _, _, rfl, rfl, _, _, rfl, fun d' H' s n x => hb R.length "form" (et.trans (readW_form U7 ne')) d' H' (s6.trans s) (none_of s6 n) ?_⟩
          rw [List.length_map, lL] at x
          have eI : (((R.length + 1 : Nat) : Int) - 1) = (R.length : Int) := by omega
          have x' : XdI H' d' (.int (((R.length + 1 : Nat) : Int) - 1)) (.str "form") := x
          rwa [eI] at x'
        · have le : last = Str.empty := by
            by_cases z : last = Str.empty
            · exact z
            · exact absurd (fun q => z (V.str.inj q)) ne
          have nW : Ws ≠ [] := fun z => by
            have : Ls.dropLast.length = 0 := by rw [← lWs, z]; rfl
            rw [List.length_eq_zero_iff.mp this, List.nil_append] at eLs
            rw [hLs] at eLs
            exact e (by rw [← split_one (by decide) eLs]; exact le)
          have nR : R ≠ [] := fun z => nW (List.length_eq_zero_iff.mp (by rw [← lR, z]; rfl))
          obtain ⟨R0, Rt, eR⟩ : ∃ R0 Rt, R = R0 :: Rt := by cases R with | nil => exact absurd rfl nR | cons a b => exact ⟨a, b, rfl⟩
          have dW : Dims Ws := ⟨by have := G6.hh; omega, fun x hx => by
            have : x.map bare ∈ R := by rw [G6.rows]; exact List.mem_map.mpr ⟨x, hx, rfl⟩
            have := (G6.wd _ this).2.2
            rwa [List.length_map] at this⟩
          have road_in : ∀ c ∈ roadOf Ws, cellB c = true ∧ c.1 < dimH R ∧ c.2 < dimW R := fun c hc => by
            obtain ⟨c1, c2, x, hx, c3⟩ := cell_in dW hc
            have : x.map bare ∈ R := by rw [G6.rows]; exact List.mem_map.mpr ⟨x, hx, rfl⟩
            have w := (G6.wd _ this).1
            rw [List.length_map] at w
            refine ⟨c1, ?_, ?_⟩
            · show c.1 < (R.length : Int)
              rw [lR]; exact c2
            · show c.2 < ((R.headD []).length : Int)
              rw [← w]; exact c3
          have few : (roadOf Ws).length ≤ 144 := cells_few dW star
          obtain ⟨a0, ha0, hza0⟩ := paired_at2 (i := 0) P6 (show R[0]? = some (R.headD []) by rw [eR]; rfl)
          have lts := C6.len
          have las := P6.length
          refine ⟨_, rfl, d, rfl, ⟨_, SqL.of d6⟩, fun D hD => lc_it (walk_list (xs := ts.map V.ref)) (LcInv H6 D fun acc j _ => acc = (((roadOf Ws).take j).filter fun c => !edgeB c (dimH R) (dimW R)).map fun c => V.int c.1) (lc0 hD (by simp)) (fun _ _ _ ⟨_, _, _, s, _⟩ => SqL.of (s _ _ d6)) (fun j x H8 H9 hj ⟨acc, ha, hl, s1, rq⟩ y => ?_) (fun H8 ⟨acc, ha, hl, s1, rq⟩ => ?_)⟩
          · obtain ⟨rfl, hx⟩ := y
            obtain ⟨u, hu, rfl⟩ := map_ref_get hx
            obtain ⟨c, hc, hcu⟩ := C6.get hu
            obtain ⟨c1, c2, c3⟩ := road_in c (List.mem_of_getElem? hc)
            have jt : j < ts.length := by simpa using hj
            walk_at "rd"
            refine len_of (s1 _ _ r6) ⟨_, SqL.of (s1 _ _ r6), V.ref a0, atI_zero (by rw [List.getElem?_map, ha0]; rfl), len_of (s1 _ _ hza0) ?_⟩
            rw [List.length_map, List.length_map, las]
            refine ⟨u, c, R.length, (R.headD []).length, rfl, s1 _ _ hcu, c1, c2, c3, fun H10 s10 => ⟨_, rfl, ?_⟩⟩
            have nx : ∀ b, edgeB c (dimH R) (dimW R) = b → (((roadOf Ws).take (j + 1)).filter fun c => !edgeB c (dimH R) (dimW R)) = (((roadOf Ws).take j).filter fun c => !edgeB c (dimH R) (dimW R)) ++ (if b = true then [] else [c]) := fun b eb => by
              rw [take_get hc, List.filter_append]
              subst eb
              cases q : edgeB c (dimH R) (dimW R) <;> simp [q]
            refine ite2 (fun b => ?_) fun b => ?_
            · refine ⟨_, SqT.of (s10 _ _ (s1 _ _ hcu)), _, atI_zero rfl, lcKeep hD (s10 _ _ ha) hl hj (by rw [List.length_map, lts]; omega) (s1.trans s10) ?_⟩
              show acc ++ _ = _
              rw [rq, nx _ b]
              simp
            · refine lcSkip (s10 _ _ ha) hl (s1.trans s10) ?_
              show acc = _
              rw [rq, nx true (by cases q : edgeB c (dimH R) (dimW R) with | true => rfl | false => exact absurd q b)]
              simp
          · have full : (roadOf Ws).take (ts.map V.ref).length = roadOf Ws := List.take_of_length_le (by rw [List.length_map, lts]; exact Nat.le_refl _)
            have s08 := s6.trans s1
            have rq' : acc = (innerOf Ws R).map fun c => V.int c.1 := by
              have rq2 : acc = (((roadOf Ws).take (ts.map V.ref).length).filter fun c => !edgeB c (dimH R) (dimW R)).map fun c => V.int c.1 := rq
              rw [full] at rq2
              exact rq2
            refine fun g H9 n9 => ⟨D, rfl, _, SqL.of (n9.same _ _ ha), SqL.of n9.at_, ite2 (fun b => ?_) fun b => ?_⟩
            · cases e : innerOf Ws R with
              | nil => rw [rq', e] at b; simp at b
              | cons c cs =>
                refine ⟨V.ref D, rfl, D, acc, 0, V.int c.1, rfl, rfl, SqL.of (n9.same _ _ ha), atI_zero (by rw [rq', e]; rfl), _, _, rfl, fun d' H' s n x => hb c.1 "inner" (et.trans (readW_inner U7 le e)) d' H' ((s08.trans n9.same).trans s) (none_of (s08.trans n9.same) n) x⟩
            · have e : innerOf Ws R = [] := by
                cases e : innerOf Ws R with
                | nil => rfl
                | cons c cs => rw [rq', e] at b; simp at b
              have s69 := s1.trans n9.same
              have s09 := s6.trans s69
              have hR9 : RowsL H9 r R := ⟨as, s69 _ _ r6, Paired.mapP P6 fun _ _ z => StrL.same s69 z⟩
              have dR : Dims R := ⟨G6.hh, fun x hx => (G6.wd x hx).2.2⟩
              refine ⟨r, R, rfl, hR9, dR, fun H10 s10 => ⟨fun lz => ?_, fun lz => ?_⟩⟩
              · refine if_no (by simp) ?_
                refine ⟨_, rfl, _, rfl, rfl, rfl, fun x dx hx hdx hxd => ?_⟩
                have k10 : Same H10 (L2.upd (L2.upd H10 dx (.own x)) x (.ins CP dx [])) := fun b o eb => by
                  rw [upd_ne (ne_of_none eb hx), upd_ne (ne_of_none eb hdx)]; exact eb
                have edges : ∀ c ∈ roadOf Ws, cellB c = true ∧ c.1 < dimH R ∧ c.2 < dimW R ∧ edgeB c (dimH R) (dimW R) = true := fun c hc => by
                  obtain ⟨c1, c2, c3⟩ := road_in c hc
                  refine ⟨c1, c2, c3, ?_⟩
                  cases q : edgeB c (dimH R) (dimW R) with
                  | true => rfl
                  | false =>
                    have : c ∈ innerOf Ws R := List.mem_filter.mpr ⟨hc, by simp [q]⟩
                    rw [e] at this
                    cases this
                have ok : PlatOk R (roadOf Ws) := ⟨by rw [eR]; simp, G6.hh, fun x hx => ⟨(G6.wd x hx).2.1, (G6.wd x hx).2.2, (G6.wd x hx).1, G6.nm x hx⟩, G6.mn, lz, cellsBy_sorted star Ws, edges, by omega⟩
                refine ⟨x, r, d, dx, R, roadOf Ws, rfl, upd_same, (hR9.same s10).same k10, (CellL.same (s69.trans s10) ⟨ts, d6, C6⟩).same k10, ok, fun H' fs a' r' kp hx' lk hR' lr hC' ln1 ln2 => ⟨rfl, ?_⟩⟩
                refine hg R (roadOf Ws) (et.trans (readW_ok U7 le e lz)) H' x dx fs a' r' (fun b o eb => ?_) hx' lk hR' G6.hh lr hC' ln1 ln2
                have eb10 := s10 _ _ (s09 _ _ eb)
                exact kp b o (by simpa using ne_of_none eb10 hx) (k10 _ _ eb10)
              · refine if_yes (by simp) ?_
                exact ⟨_, rfl, _, _, rfl, fun d' H' s n x => hb _ "apart" (et.trans (readW_apart U7 le e lz)) d' H' ((s09.trans s10).trans s) (none_of (s09.trans s10) n) x⟩
  · refine ⟨T0, hv, ?_⟩
    rw [hT, if_pos rfl]
    exact ⟨V.int 0, V.str "form", rfl, hb⟩
end
end Dk
-- text L1
set_option maxHeartbeats 1000000
namespace Dk
open PySem PySem.Spec PyProof.Rows L2
local macro_rules | `(tactic| walk_at "rd") => `(tactic| simp only [tRet, tRetN, tSeq, tAsg, tIfS, tB, tVar, tC, tCons, tNil, tCB, tCall, tOp, tUn, rI0, rI, rU, rEq, rNe, gName, tAnd, tOr, tNot, tAndV, tOrV, tNotV, tIf, tTest, tChain, tDrop, tNext, tBreak, tCont, tTup, tLst, tBM, tBM0, tM0, tM1, tSl, tPart, tNoPart, tPar,
  rIs, rIs2, rIxL, rIxT, rIxS, rAppend, rExtend, rPop, rPopAt, gTup, gCons, gNil, gSub, tYes, wipe, tD1, tDcC, rListC, rSortC, rEmp, rJoin, tM1, gFld, tFld, sFld, rMinDef, tCKw, StX.tStar, rLen, tDGet2, tNo, tScN, rSortTx, rSetTx, iKeys, tPar3, sDPut, tFor_eq, iList, iEnum, iStr, iZip, cxK, cxP, cxW, tTup_, tLst_, tDNewK_, tDNewT_, rSlL_, rListOf_, rCatN, rRepN, rListStr, iRng1, rLenT, rInC, rDictC, sizeLine_eq, Nat.reduceLeDiff, Bool.true_or, Bool.false_or, Bool.or_true, Bool.or_false, Bool.true_and, Bool.false_and, Bool.and_true, Bool.and_false, Bool.not_true, Bool.not_false, Bool.not_eq_true', decide_eq_true_eq, decide_eq_false_iff_not, scal, isT_Non_boo, isT_Non_int, isT_Non_str, isT_Non_lis, isT_Non_tup, isT_Non_dic, isT_boo_boo, isT_boo_int, isT_boo_str, isT_boo_lis, isT_boo_tup, isT_boo_dic, isT_int_boo, isT_int_int, isT_int_str, isT_int_lis, isT_int_tup, isT_int_dic, isT_str_boo, isT_str_int, isT_str_str, isT_str_lis, isT_str_tup, isT_str_dic, isT_lis_boo, isT_lis_int, isT_lis_str, isT_lis_lis, isT_lis_tup, isT_lis_dic, isT_tup_boo, isT_tup_int, isT_tup_str, isT_tup_lis, isT_tup_tup, isT_tup_dic, isT_dic_boo, isT_dic_int, isT_dic_str, isT_dic_lis, isT_dic_tup, isT_dic_dic, kit_Non, kit_boo, kit_int, kit_str, kit_lis, kit_tup, kit_dic, sg_inj, vt_non, vt_bl, vt_int, vt_str, len_str, tDGet, tDIn, tDNotIn,
  L2.start, List.map_cons, List.map_nil, List.length_cons, List.length_nil, List.cons_append, List.nil_append, List.append_nil, Nat.zero_add, Nat.reduceAdd, Nat.reduceSub, Nat.sub_zero, Nat.sub_self, List.replicate_succ, List.replicate_zero,
  List.getElem?_cons_zero, List.getElem?_cons_succ, List.getElem?_nil, List.set_cons_zero, List.set_cons_succ, List.cons.injEq, Option.some.injEq, V.int.injEq, V.str.injEq, V.bl.injEq, V.ref.injEq, V.ty.injEq, reduceCtorEq,
  and_assoc, and_true, true_and, false_and, and_false, exists_eq_left, exists_eq_left', exists_eq', exists_eq_right, exists_eq_right', exists_and_left, exists_and_right, exists_const, exists_false, exists_eq, if_true, if_false, Bool.false_eq_true, Bool.true_eq, decide_true, decide_false, ite_self])
section
variable {P : Program} {w : World} {K : PySem.W.Frag} {mg : Str → Option Value} {base : Heap}
def sp_law_is_word : Sp := fun vs H Q _ => ∃ z : Str, vs = [.str z] ∧ z.length ≤ 16777216 ∧ ∀ H', Same H H' → Q (.bl (nameB z)) H'
theorem c_law_is_word (T : Tx K mg) (D : Df K mg "_law_is_word" s_law_is_word) : Cal P w K mg base CX0 1 "_law_is_word" p_law_is_word (sp_law_is_word) := by
  have S := sc_law_is_word
  refine cal0 D S (fun _ _ _ _ _ _ us hl => match us, hl with | [_], _ => rfl) (fun vs H Q E h => ?_) (fun f cdv A outer s H vs Q E hr h => ?_)
  · obtain ⟨_, rfl, _⟩ := h
    rfl
  refine ⟨_, (pss_one (ps_ret (pe_and (pe_callB (id := "isinstance") call_is (by rfl) (T.fr _ (by decide)) (by decide +kernel) (pa_cons (pv 0) (pa_cons (pe_bltn (v := .ty "str") (by rfl) (T.fr _ (by decide)) (by decide +kernel) rfl) pa_nil))) (pe_and (pe_chain op_le op_le pe_int (pe_callB (id := "len") (r := rLen K) (call_len_ rfl) (by rfl) (T.fr _ (by decide)) (by decide +kernel) (pa_cons (pv 0) pa_nil)) pe_int) (pe_one (pe_callB (id := "all") (cr_all rfl) (by rfl) (T.fr _ (by decide)) (by decide +kernel) (pa_cons (pe_lc (own := [("_law_sign", 1)]) (g := gName 1) rfl S.nd (pi_str (pv 0)) (blkOk_by (N := N_law_is_word) (sc := defScope s_law_is_word) (by decide +kernel)) (fun _ _ _ _ _ => (pg_name (i := 1) S.nd rfl (by first | exact Or.inl rfl | exact Or.inr rfl))) (fun _ _ _ _ _ => pts_nil) (fun _ _ _ _ _ => (pe_cmpR op_in_sign (pv 1) pe_str (by rfl)))) pa_nil))))))), ?_⟩
  obtain ⟨z, rfl, hz, q⟩ := h
  walk_at "rd"
  refine ⟨hz, ite2 (fun a1 => ite2 (fun a2 => ?_) fun a2 => ?_) fun a1 => ?_⟩
  · refine ⟨_, rfl, z, rfl, fun D hD => lc_it (walk_str (z := z)) (LcInv H D fun acc i _ => acc = ((tl z).take i).map fun c => V.bl (decide (c ∈ tl LET))) (lc0 hD (by simp)) (fun _ _ _ _ => trivial) (fun i x H1 H2 hi ⟨acc, ha, hl, s1, r⟩ y => ?_) (fun H1 ⟨acc, ha, hl, s1, r⟩ => ?_)⟩
    · obtain ⟨rfl, c, hc, rfl⟩ := y
      walk_at "rd"
      refine lcKeep hD ha hl hi hz s1 ?_
      have this : (tl z)[i]? = some c := by simpa using hc
      show acc ++ _ = _
      rw [r, take_get this]
      simp
      rfl
    · refine ⟨D, (tl z).map fun c => decide (c ∈ tl LET), rfl, SqL.of (by rw [ha, show acc = _ from r, List.take_of_length_le (by simp)]; simp [Function.comp_def]), ?_⟩
      have := q H1 s1
      rw [show nameB z = ((tl z).map fun c => decide (c ∈ tl LET)).all id from by unfold nameB; rw [decide_eq_true (show 1 ≤ z.length by omega), decide_eq_true (show z.length ≤ 6 by omega)]; simp [Function.comp_def]] at this
      exact this
  · have := q H (Same.refl H)
    rwa [show nameB z = false from by unfold nameB; rw [decide_eq_false (show ¬ z.length ≤ 6 by omega)]; simp] at this
  · have := q H (Same.refl H)
    rwa [show nameB z = false from by unfold nameB; rw [decide_eq_false (show ¬ 1 ≤ z.length by omega)]; simp] at this
def four : List Cell := [(-1, 0), (0, -1), (0, 1), (1, 0)]
def sp_law_four : Sp := fun vs H Q _ => vs = [] ∧ ∀ H' p, Same H H' → H p = none → CellL H' p four → Q (.ref p) H'
theorem c_law_four (T : Tx K mg) (D : Df K mg "_law_four" s_law_four) : Cal P w K mg base CX0 1 "_law_four" p_law_four (sp_law_four) := by
  have S := sc_law_four
  refine cal0 D S (fun _ _ _ _ _ _ us hl => match us, hl with | [], _ => rfl) (fun vs H Q E h => ?_) (fun f cdv A outer s H vs Q E hr h => ?_)
  · obtain ⟨rfl, _⟩ := h
    rfl
  refine ⟨_, (pss_one (ps_ret (pe_lst_ (pa_cons (pe_tup_ (pa_cons (pe_un un_neg pe_int) (pa_cons pe_int pa_nil))) (pa_cons (pe_tup_ (pa_cons pe_int (pa_cons (pe_un un_neg pe_int) pa_nil))) (pa_cons (pe_tup_ (pa_cons pe_int (pa_cons pe_int pa_nil))) (pa_cons (pe_tup_ (pa_cons pe_int (pa_cons pe_int pa_nil))) pa_nil))))))), ?_⟩
  obtain ⟨rfl, q⟩ := h
  walk_at "rd"
  intro p1 H1 n1 p2 H2 n2 p3 H3 n3 p4 H4 n4 p5 H5 n5
  have s45 := n5.same
  have s35 := n4.same.trans s45
  have s25 := n3.same.trans s35
  have s15 := n2.same.trans s25
  have s05 := n1.same.trans s15
  exact q H5 p5 s05 (none_of (n1.same.trans (n2.same.trans (n3.same.trans n4.same))) n5.fresh) ⟨[p1, p2, p3, p4], n5.at_, .cons (s15 _ _ n1.at_) (.cons (s25 _ _ n2.at_) (.cons (s35 _ _ n3.at_) (.cons (s45 _ _ n4.at_) .nil)))⟩
theorem nb_four (x : Cell) : four.map (fun s => (x.1 + s.1, x.2 + s.2)) = nb x := by
  simp [four, nb, Int.sub_eq_add_neg]
def sp_law_reach : Sp := fun vs H Q _ => ∃ (d b s : Addr) (c : Cell) (pool : List Cell), vs = [.ref d, .ref b, .ref s] ∧ H d = some (.dT (trueD pool)) ∧ CellV H b c ∧ CellL H s four ∧ pool.Pairwise ltC ∧ c ∈ pool ∧ pool.length ≤ 1000 ∧
  ∀ H' p, Same H H' → H p = none → CellL H' p (comp pool c) → Q (.ref p) H'
theorem c_law_reach (T : Tx K mg) (D : Df K mg "_law_reach" s_law_reach) : Cal P w K mg base CX0 1 "_law_reach" p_law_reach (sp_law_reach) := by
  have S := sc_law_reach
  refine cal0 D S (fun _ _ _ _ _ _ us hl => match us, hl with | [_, _, _], _ => rfl) (fun vs H Q E h => ?_) (fun f cdv A outer s H vs Q E hr h => ?_)
  · obtain ⟨_, _, _, _, _, rfl, _⟩ := h
    rfl
  refine ⟨_, (pss_cons (ps_par (i := 3) (j := 4) rfl S.nd rfl rfl (by decide) rfl rfl (pa_cons (pe_dT1 hr (pv 1)) (pa_cons (pe_lst_ (pa_cons (pv 1) pa_nil)) pa_nil)) (by rfl))
      (pss_cons (ps_for PassesOwn.never rfl (pi_range1 (by rfl) (T.fr _ (by decide)) (pa_cons (pe_callB (id := "len") call_len_dT (by rfl) (T.fr _ (by decide)) (by decide +kernel) (pa_cons (pv 0) pa_nil)) pa_nil)) (pg_name (i := 5) S.nd rfl (by first | exact Or.inl rfl | exact Or.inr rfl)) (pss_cons (ps_if (pt_cmpR op_eq (pv 5) (pe_callB (id := "len") (r := rLen K) (call_len_ rfl) (by rfl) (T.fr _ (by decide)) (by decide +kernel) (pa_cons (pv 4) pa_nil)) (nomark _)) (pss_one ps_break) pss_nil)
      (pss_cons (ps_asg (pe_ix (r := rIxL K) ix_list (pv 4) (pv 5) (fun _ _ => rfl)) (pg_tup (n := 2) rfl (pgs_cons (pg_name (i := 6) S.nd rfl (by first | exact Or.inl rfl | exact Or.inr rfl)) (pgs_cons (pg_name (i := 7) S.nd rfl (by first | exact Or.inl rfl | exact Or.inr rfl)) pgs_nil))))
      (pss_one (ps_for PassesOwn.never rfl (pi_list (pv 2)) (pg_tup (n := 2) rfl (pgs_cons (pg_name (i := 8) S.nd rfl (by first | exact Or.inl rfl | exact Or.inr rfl)) (pgs_cons (pg_name (i := 9) S.nd rfl (by first | exact Or.inl rfl | exact Or.inr rfl)) pgs_nil))) (pss_cons (ps_set (i := 10) S.nd rfl (by first | exact Or.inl rfl | exact Or.inr rfl) (pe_tup_ (pa_cons (pe_op op_add (pv 6) (pv 8)) (pa_cons (pe_op op_add (pv 7) (pv 9)) pa_nil))))
      (pss_one (ps_if (PW.pt (pw_and (pt_cmp (pc_din (hu_of hr) (pv 10) (pv 0))) (pw_and1 (pt_cmp (pc_dnotin (hu_of hr) (pv 10) (pv 3)))))) (pss_cons (ps_dput (hu_of hr) (pv 3) (pv 10) pe_bl rfl)
      (pss_one (ps_expr (pe_bm PySem.F.plainAttrs_list PySem.F.slot_list_append PySem.F.type_list_append mt_append (pv 4) (pa_cons (pv 10) pa_nil))))) pss_nil))))))))
      (pss_one (ps_ret (pe_callB (id := "sorted") cr_sortC (by rfl) (T.fr _ (by decide)) (by decide +kernel) (pa_cons (pv 4) pa_nil)))))), ?_⟩
  obtain ⟨d, b, s, c, pool, rfl, hd, hb, hs, so, hcp, lp, q⟩ := h
  obtain ⟨ss, hs, hss⟩ := hs
  walk_at "rd"
  refine ⟨c, hb, fun p H1 n1 l H2 n2 => ?_⟩
  have s02 := n1.same.trans n2.same
  have np : H p = none := n1.fresh
  have nl : H l = none := none_of n1.same n2.fresh
  have d2 := s02 _ _ hd
  have npl : p ≠ l := ne_of_none n1.at_ n2.fresh
  have e62 : (2 : Int) ^ 62 = 4611686018427387904 := by decide
  obtain ⟨LI, hLI⟩ : ∃ LI : Nat → Hp → Prop, LI = fun i H' => ∃ L ts, Same H H' ∧ H' p = some (.dT (trueD L)) ∧ H' l = some (.lst (ts.map V.ref)) ∧ Cells H' ts L ∧ LB pool c L i ∧ i ≤ L.length := ⟨_, rfl⟩
  have fin : ∀ (i : Nat) (H' : Hp) L ts, Same H H' → H' l = some (.lst (ts.map V.ref)) → Cells H' ts L → LB pool c L i → L.length ≤ i → ∃ a, H' l = some (.lst (List.map V.ref a)) ∧ ∃ x, Cells H' a x ∧ ∀ (p : Addr) (us : List Addr) (ds : List Cell) (H'_1 : Hp), New H' p (.lst (List.map V.ref us)) H'_1 → Cells H' us ds → ds.Perm x → (x.Nodup → List.Pairwise ltC ds) → Q (.ref p) H'_1 := by
    intro i H' L ts s h1 h2 h3 h4
    refine ⟨ts, h1, L, h2, fun r us ds H6 n6 hus pm so2 => ?_⟩
    have eds : ds = comp pool c := comp_eq so (so2 h3.nd) fun z => (pm.mem_iff).trans (h3.done h4 z)
    refine q H6 r (s.trans n6.same) (none_of s n6.fresh) ⟨us, n6.at_, ?_⟩
    rw [← eds]; exact hus.same n6.same
  refine ⟨_, d2, by omega, by rw [trueD_len]; omega, ?_⟩
  rw [show (((trueD pool).length : Int)).toNat = pool.length from by rw [trueD_len]; omega]
  refine for_B (walk_range (lo := 0) (n := pool.length)) (fun i σ H' => ∃ x5 x6 x7 x8 x9 x10, σ = [some (.ref d), some (.ref b), some (.ref s), some (.ref p), some (.ref l), x5, x6, x7, x8, x9, x10] ∧ LI i H') ⟨_, _, _, _, _, _, rfl, ?_⟩ (fun _ _ _ _ _ => trivial) (fun i v σ H3 H4 hi ⟨x5, x6, x7, x8, x9, x10, e, h⟩ y => ?_) (fun σ H3 ⟨x5, x6, x7, x8, x9, x10, e, h⟩ => ?_)
  · rw [hLI]
    exact ⟨[c], [b], s02, n2.same _ _ n1.at_, n2.at_, .cons (s02 _ _ hb) .nil, LB.start hcp, Nat.zero_le _⟩
  · obtain ⟨rfl, rfl⟩ := y
    rw [hLI] at h
    obtain ⟨L, ts, s3, p3, l3, C3, B3, iL⟩ := h
    have lts := C3.len
    have s3' : Same H H4 := s3
    subst e
    walk_at "rd"
    refine len_of l3 ?_
    rw [List.length_map, lts]
    refine ite2 (fun b1 => ?_) fun b1 => ?_
    · obtain ⟨a, h1, x, h2, h3⟩ := fin _ _ L ts s3 l3 C3 B3 (by omega)
      exact ⟨a, SqL.of h1, x, h2, h3⟩
    · have iL' : i < L.length := by omega
      obtain ⟨x, hx⟩ : ∃ x, L[i]? = some x := ⟨L[i], List.getElem?_eq_getElem iL'⟩
      obtain ⟨t, ht, hxt⟩ := C3.get2 hx
      have s4 : H4 s = some (.lst (ss.map V.ref)) := s3 _ _ hs
      refine ⟨_, SqL.of l3, V.ref t, by rw [Int.zero_add]; exact atI_nat (by rw [List.getElem?_map, ht]; rfl), t, rfl, _, SqT.of hxt, rfl, _, _, rfl, _, _, rfl, rfl, ⟨_, SqL.of s4⟩, ?_⟩
      obtain ⟨LJ, hLJ⟩ : ∃ LJ : Nat → Hp → Prop, LJ = fun j H' => ∃ L ts, Same H H' ∧ H' p = some (.dT (trueD L)) ∧ H' l = some (.lst (ts.map V.ref)) ∧ Cells H' ts L ∧ LB pool c L i ∧ i < L.length ∧ L[i]? = some x ∧ ∀ y ∈ (nb x).take j, y ∈ pool → y ∈ L := ⟨_, rfl⟩
      refine for_B (walk_list (xs := ss.map V.ref)) (fun j σ H' => ∃ x8 x9 x10, σ = [some (.ref d), some (.ref b), some (.ref s), some (.ref p), some (.ref l), some (.int (0 + (i : Nat))), some (.int x.1), some (.int x.2), x8, x9, x10] ∧ LJ j H') ⟨_, _, _, rfl, by rw [hLJ]; exact ⟨L, ts, s3, p3, l3, C3, B3, iL', hx, by simp⟩⟩ (fun j σ H' _ ⟨_, _, _, _, h⟩ => by rw [hLJ] at h; obtain ⟨_, _, h, _⟩ := h; exact SqL.of (h _ _ hs)) (fun j v σ H5 H6 hj ⟨x8, x9, x10, e, h⟩ y => ?_) (fun σ H5 ⟨x8, x9, x10, e, h⟩ => ?_)
      · obtain ⟨rfl, hv⟩ := y
        obtain ⟨u, hu, rfl⟩ := map_ref_get hv
        obtain ⟨f, hf, hfu⟩ := hss.get hu
        rw [hLJ] at h
        obtain ⟨L5, ts5, s5, p5, l5, C5, B5, iL5, hx5, n5⟩ := h
        subst e
        have uf := s5 _ _ hfu
        have nx : (nb x)[j]? = some (x.1 + f.1, x.2 + f.2) := by rw [← nb_four, List.getElem?_map, hf]; rfl
        have ym : (x.1 + f.1, x.2 + f.2) ∈ nb x := List.mem_of_getElem? nx
        walk_at "rd"
        refine ⟨_, SqT.of uf, rfl, _, _, rfl, _, _, rfl, rfl, _, rfl, _, rfl, fun T7 H7 n7 => ?_⟩
        have s57 := s5.trans n7.same
        have p7 := n7.same _ _ p5
        have l7 := n7.same _ _ l5
        have C7 := C5.same n7.same
        have T7c : CellV H7 T7 (x.1 + f.1, x.2 + f.2) := n7.at_
        have skip : ((x.1 + f.1, x.2 + f.2) ∈ pool → (x.1 + f.1, x.2 + f.2) ∈ L5) → LJ (j + 1) H7 := fun h => by
          rw [hLJ]
          refine ⟨L5, ts5, s57, p7, l7, C7, B5, iL5, hx5, fun z hz hp => ?_⟩
          rw [take_get nx] at hz
          rcases List.mem_append.mp hz with h1 | h1
          · exact n5 z h1 hp
          · simp at h1; rw [h1] at hp ⊢; exact h hp
        refine ⟨_, DGet.cell (s57 _ _ hd) T7c, ?_⟩
        by_cases yp : (x.1 + f.1, x.2 + f.2) ∈ pool
        · rw [if_pos yp]
          refine ⟨_, DGet.cell p7 T7c, ?_⟩
          by_cases yS : (x.1 + f.1, x.2 + f.2) ∈ L5
          · rw [if_pos yS]
            exact skip fun _ => yS
          · rw [if_neg yS]
            have ln := B5.len1 yp yS
            have ltt := C5.len
            have l9 : (L2.upd H7 p (.dT (trueD (insC L5 (x.1 + f.1, x.2 + f.2))))) l = some (.lst (ts5.map V.ref)) := by rw [upd_ne npl.symm]; exact l7
            refine ⟨_, DPut.cell p7 T7c (by omega), tyV_lst l9, _, l9, by rw [List.length_map]; omega, ?_⟩
            rw [hLJ]
            refine ⟨L5 ++ [(x.1 + f.1, x.2 + f.2)], ts5 ++ [T7], same_upd (same_upd s57 np) nl, ?_, by rw [upd_same]; simp, ?_, B5.add (by omega) (List.mem_of_getElem? hx5) ym yp yS, by simp; omega, by rw [List.getElem?_append_left iL5]; exact hx5, fun z hz hp => ?_⟩
            · rw [upd_ne npl, upd_same]; unfold insC; rw [if_neg yS]
            · exact Cells.updL l9 (Cells.upd p7 (C7.app (.cons T7c .nil)) (fun _ e => by cases e))
            · rw [take_get nx] at hz
              rcases List.mem_append.mp hz with h1 | h1
              · exact List.mem_append_left _ (n5 z h1 hp)
              · exact List.mem_append_right _ h1
        · rw [if_neg yp]
          exact skip fun h => absurd h yp
      · rw [hLJ] at h
        obtain ⟨L5, ts5, s5, p5, l5, C5, B5, iL5, hx5, n5⟩ := h
        have lss := hss.len
        have full : (nb x).take (ss.map V.ref).length = nb x := List.take_of_length_le (by rw [List.length_map, lss]; simp [nb, four])
        rw [full] at n5
        subst e
        show _ ∧ _
        refine ⟨⟨_, _, _, _, _, _, rfl⟩, ?_⟩
        rw [hLI]
        exact ⟨L5, ts5, s5, p5, l5, C5, B5.next hx5 n5, iL5⟩
  · rw [hLI] at h
    obtain ⟨L, ts, s3, p3, l3, C3, B3, iL⟩ := h
    subst e
    walk_at "rd"
    obtain ⟨a, h1, x, h2, h3⟩ := fin _ _ L ts s3 l3 C3 B3 B3.len
    exact ⟨a, SqL.of h1, x, h2, h3⟩
theorem PairC.same {H H' : Hp} {p : Addr} {tc : Addr × Cell} (s : Same H H') (h : PairC H p tc) : PairC H' p tc := ⟨s _ _ h.1, s _ _ h.2⟩
theorem PairC.updL {H : Hp} {D p : Addr} {tc : Addr × Cell} {xs ys : List V} (hD : H D = some (.lst xs)) (h : PairC H p tc) : PairC (L2.upd H D (.lst ys)) p tc := ⟨by rw [upd_ne (ne_of h.1 hD (by intro z; cases z))]; exact h.1, CellV.updL hD h.2⟩
def sp_law_groups : Sp := fun vs H Q _ => ∃ (a s : Addr) (cs : List Cell), vs = [.ref a, .ref s] ∧ CellL H a cs ∧ CellL H s four ∧ cs.Pairwise ltC ∧ cs.length ≤ 1000 ∧ ∀ H' p, Same H H' → H p = none → GrpL H' p (grp cs [] cs) → Q (.ref p) H'
theorem c_law_groups (T : Tx K mg) (D : Df K mg "_law_groups" s_law_groups) (c_law_reach : Cal P w K mg base CX0 1 "_law_reach" p_law_reach (sp_law_reach)) : Cal P w K mg base CX0 2 "_law_groups" p_law_groups (sp_law_groups) := by
  have S := sc_law_groups
  refine cal0 D S (fun _ _ _ _ _ _ us hl => match us, hl with | [_, _], _ => rfl) (fun vs H Q E h => ?_) (fun f cdv A outer s H vs Q E hr h => ?_)
  · obtain ⟨_, _, _, rfl, _⟩ := h
    rfl
  refine ⟨_, (pss_cons (ps_par3 (i := 2) (j := 3) (l := 4) rfl S.nd rfl rfl rfl (by decide) (by decide) (by decide) rfl rfl rfl (pa_cons (pe_callTy (T := "dict") (call_dictC hr rfl) (by rfl) (T.fr _ (by decide)) (by decide +kernel) (pa_cons (pe_lc (own := [("_law_cell", 5)]) (g := gName 5) rfl S.nd (pi_list (pv 0)) (blkOk_by (N := N_law_groups) (sc := defScope s_law_groups) (by decide +kernel)) (fun _ _ _ _ _ => (pg_name (i := 5) S.nd rfl (by first | exact Or.inl rfl | exact Or.inr rfl))) (fun _ _ _ _ _ => pts_nil) (fun _ _ _ _ _ => (pe_tup_ (pa_cons (pv 5) (pa_cons pe_bl pa_nil))))) pa_nil)) (pa_cons pe_dnewT_ (pa_cons (pe_lst_ pa_nil) pa_nil))) (by rfl))
      (pss_cons (ps_for PassesOwn.never rfl (pi_list (pe_callB (id := "sorted") cr_sortC (by rfl) (T.fr _ (by decide)) (by decide +kernel) (pa_cons (pv 0) pa_nil))) (pg_name (i := 5) S.nd rfl (by first | exact Or.inl rfl | exact Or.inr rfl)) (pss_one (ps_if (pt_cmp (pc_dnotin (hu_of hr) (pv 5) (pv 3))) (pss_cons (ps_set (i := 6) S.nd rfl (by first | exact Or.inl rfl | exact Or.inr rfl) (pe_fn c_law_reach hr (pa_cons (pv 2) (pa_cons (pv 5) (pa_cons (pv 1) pa_nil)))))
      (pss_cons (ps_for PassesOwn.never rfl (pi_list (pv 6)) (pg_name (i := 7) S.nd rfl (by first | exact Or.inl rfl | exact Or.inr rfl)) (pss_one (ps_dput (hu_of hr) (pv 3) (pv 7) pe_bl rfl)))
      (pss_one (ps_expr (pe_bm PySem.F.plainAttrs_list PySem.F.slot_list_append PySem.F.type_list_append mt_append (pv 4) (pa_cons (pv 6) pa_nil)))))) pss_nil)))
      (pss_one (ps_ret (pv 4))))), ?_⟩
  obtain ⟨a, s, cs, rfl, hc, hs, so, hl, q⟩ := h
  obtain ⟨ts, ha, hc⟩ := hc
  have lt : ts.length = cs.length := hc.len
  have nd := ltC_nodup so
  have lz : (ts.zip cs).length = cs.length := by rw [List.length_zip, lt, Nat.min_self]
  walk_at "rd"
  refine ⟨_, rfl, a, rfl, ⟨_, SqL.of ha⟩, fun D hD => lc_it (walk_list (xs := ts.map V.ref)) (LcInv H D fun acc i H' => ∃ ps, acc = ps.map V.ref ∧ Paired (PairC H') ps ((ts.zip cs).take i)) (lc0 hD ⟨[], rfl, by simp; exact .nil⟩) (fun _ _ _ ⟨_, _, _, s, _⟩ => SqL.of (s _ _ ha)) (fun i x H1 H2 hi ⟨acc, ha', hl', s1, ps, e, r⟩ y => ?_) (fun H1 ⟨acc, ha', hl', s1, ps, e0, r0⟩ => ?_)⟩
  · obtain ⟨rfl, hx⟩ := y
    obtain ⟨u, hu, rfl⟩ := map_ref_get hx
    obtain ⟨c, hcs, hcu⟩ := hc.get hu
    have iz : (ts.zip cs)[i]? = some (u, c) := List.getElem?_zip_eq_some.mpr ⟨hu, hcs⟩
    walk_at "rd"
    refine fun T3 H3 n3 => lcKeep hD (n3.same _ _ ha') hl' hi (by rw [List.length_map]; omega) (s1.trans n3.same) ⟨ps ++ [T3], by rw [e]; simp, ?_⟩
    rw [take_get iz]
    exact paired_app (Paired.mapP r fun _ _ z => PairC.updL (n3.same _ _ ha') (z.same n3.same)) (.cons (PairC.updL (n3.same _ _ ha') ⟨n3.at_, n3.same _ _ (s1 _ _ hcu)⟩) .nil)
  · have full : (ts.zip cs).take (ts.map V.ref).length = ts.zip cs := List.take_of_length_le (by rw [List.length_map, lz, lt]; exact Nat.le_refl _)
    rw [full] at r0
    have e2 : (ts.zip cs).map (·.2) = cs := by rw [List.map_snd_zip (by omega)]
    refine ⟨D, rfl, ps, SqL.of (by rw [ha', e0]), ts.zip cs, r0, by omega, fun d H2 n2 e H3 n3 f H4 n4 => ?_⟩
    rw [e2, foldl_insC_nodup nd] at n2
    have s04 := s1.trans (n2.same.trans (n3.same.trans n4.same))
    refine ⟨ts, SqL.of (s04 _ _ ha), cs, hc.same s04, fun r us ds H5 n5 hus pm sd => ?_⟩
    have e1 : ds = cs := strict_ext (fun a => ltC_irrefl a) (fun h k => ltC_trans h k) (sd nd) so fun x => pm.mem_iff
    subst e1
    have s05 := s04.trans n5.same
    have h5d := (n3.same.trans (n4.same.trans n5.same)) _ _ n2.at_
    have h5e := (n4.same.trans n5.same) _ _ n3.at_
    have h5f := n5.same _ _ n4.at_
    have ne : H e = none := none_of (s1.trans n2.same) n3.fresh
    have nf : H f = none := none_of (s1.trans (n2.same.trans n3.same)) n4.fresh
    have nef : e ≠ f := ne_of h5e h5f (by intro z; cases z)
    have nrf : r ≠ f := fun z => by have := n5.fresh; rw [z, n4.at_] at this; cases this
    have nre : r ≠ e := fun z => by have := n5.fresh; rw [z, n4.same _ _ n3.at_] at this; cases this
    have nde : d ≠ e := fun z => by have := n3.fresh; rw [← z, n2.at_] at this; cases this
    have ndf : d ≠ f := fun z => by have := n4.fresh; rw [← z, n3.same _ _ n2.at_] at this; cases this
    refine ⟨⟨_, SqL.of n5.at_⟩, ?_⟩
    obtain ⟨Pv, hP⟩ : ∃ Pv : Nat → L2.St → Hp → Prop, Pv = fun i σ H' => ∃ x5 x6 x7 S seen as gs, σ = [some (.ref a), some (.ref s), some (.ref d), some (.ref e), some (.ref f), x5, x6, x7] ∧ Same H H' ∧ H' d = some (.dT (trueD ds)) ∧ H' e = some (.dT (trueD S)) ∧ H' f = some (.lst (as.map V.ref)) ∧ (∀ x ∈ as, x ≠ f) ∧
      H' r = some (.lst (us.map V.ref)) ∧ Cells H' us ds ∧ Paired (CellL H') as gs ∧ gs.length ≤ i ∧ S.Nodup ∧ (∀ x, x ∈ S ↔ x ∈ seen) ∧ (∀ x ∈ S, x ∈ ds) ∧ grp ds [] ds = gs ++ grp ds seen (ds.drop i) := ⟨_, rfl⟩
    refine for_B (walk_list (xs := us.map V.ref)) Pv ?_ (fun i σ H' _ h => ?_) (fun i v σ H6 H7 hi h y => ?_) (fun σ H6 h => ?_)
    · rw [hP]
      exact ⟨_, _, _, [], [], [], [], rfl, s05, h5d, h5e, h5f, by simp, n5.at_, hus.same n5.same, .nil, Nat.le_refl _, .nil, by simp, by simp, by simp⟩
    · rw [hP] at h
      obtain ⟨_, _, _, _, _, _, _, _, _, _, _, _, _, h, _⟩ := h
      exact SqL.of h
    · rw [hP] at h
      obtain ⟨x5, x6, x7, S, seen, as, gs, rfl, s6, h6d, h6e, h6f, nas, h6r, h6c, h6g, lg, Snd, Sm, Ssub, G⟩ := h
      obtain ⟨rfl, hv⟩ := y
      obtain ⟨u, hu, rfl⟩ := map_ref_get hv
      obtain ⟨c, hcs, hcu⟩ := h6c.get hu
      have cm : c ∈ ds := List.mem_of_getElem? hcs
      have hi' : i < ds.length := (List.getElem?_eq_some_iff.mp hcs).1
      have Sl : S.length ≤ ds.length := List.Nodup.length_le_of_subset Snd Ssub
      walk_at "rd"
      refine ⟨_, DGet.cell h6e hcu, ?_⟩
      by_cases cS : c ∈ S
      · rw [if_pos cS]
        simp only [Option.isSome_some, Bool.true_eq_false, if_false]
        rw [hP]
        exact ⟨_, _, _, S, seen, as, gs, rfl, s6, h6d, h6e, h6f, nas, h6r, h6c, h6g, by omega, Snd, Sm, Ssub, by rw [G, drop_get hcs, grp_skip ((Sm c).mp cS)]⟩
      · rw [if_neg cS]
        simp only [Option.isSome_none, if_true]
        refine ⟨d, u, s, c, ds, rfl, h6d, hcu, hs.same s6, so, cm, hl, fun H8 b s68 fb hb => ?_⟩
        have nbf : b ≠ f := fun z => by rw [z, h6f] at fb; cases fb
        have nbe : b ≠ e := fun z => by rw [z, h6e] at fb; cases fb
        have h8f := s68 _ _ h6f
        have h8e := s68 _ _ h6e
        obtain ⟨bs, hbs, hbc⟩ := hb
        have gcs := h6g.length
        have cd' : ∀ x, x ∈ comp ds c → x ∈ ds := fun x hx => (mem_comp.mp hx).1
        walk_at "rd"
        refine ⟨⟨_, SqL.of hbs⟩, ?_⟩
        have p8 : Paired (CellL H8) as gs := Paired.mapP h6g fun x y z => z.same s68
        refine for_B (walk_list (xs := bs.map V.ref)) (fun j σ H' => ∃ y7 S', σ = [some (.ref a), some (.ref s), some (.ref d), some (.ref e), some (.ref f), some (.ref u), some (.ref b), y7] ∧ Same H H' ∧ H' d = some (.dT (trueD ds)) ∧ H' e = some (.dT (trueD S')) ∧ H' f = some (.lst (as.map V.ref)) ∧
          H' r = some (.lst (us.map V.ref)) ∧ Cells H' us ds ∧ Paired (CellL H') as gs ∧ H' b = some (.lst (bs.map V.ref)) ∧ Cells H' bs (comp ds c) ∧ S'.Nodup ∧ (∀ x ∈ S', x ∈ ds) ∧ ∀ x, x ∈ S' ↔ x ∈ S ∨ x ∈ (comp ds c).take j)
          ⟨_, S, rfl, s6.trans s68, s68 _ _ h6d, h8e, h8f, s68 _ _ h6r, h6c.same s68, p8, hbs, hbc, Snd, Ssub, by simp⟩ (fun j σ H' _ ⟨_, _, _, _, _, _, _, _, _, _, h, _⟩ => SqL.of h) (fun j v σ H9 H10 hj ⟨y7, S', e1, s9, h9d, h9e, h9f, h9r, h9c, h9p, h9b, h9bc, Snd', Ssub', Sm'⟩ y => ?_) (fun σ H9 ⟨y7, S', e1, s9, h9d, h9e, h9f, h9r, h9c, h9p, h9b, h9bc, Snd', Ssub', Sm'⟩ => ?_)
        · obtain ⟨rfl, hv⟩ := y
          obtain ⟨u, hu, rfl⟩ := map_ref_get hv
          obtain ⟨x, hx, hxu⟩ := h9bc.get hu
          subst e1
          have Sl' : S'.length ≤ ds.length := List.Nodup.length_le_of_subset Snd' Ssub'
          have nb2 : ∀ x ∈ as, x ≠ e := fun x hx => by
            obtain ⟨i, hi, ei⟩ := List.mem_iff_getElem.mp hx
            obtain ⟨y, _, hy⟩ := paired_at h9p (i := i) (a := x) (by rw [List.getElem?_eq_getElem hi, ei])
            obtain ⟨_, h1, _⟩ := hy
            exact ne_of h1 h9e (by intro z; cases z)
          walk_at "rd"
          refine ⟨_, DPut.cell h9e hxu (by omega), same_upd s9 ne, by rw [upd_ne nde]; exact h9d, _, upd_same, by rw [upd_ne nef.symm]; exact h9f, by rw [upd_ne nre]; exact h9r, Cells.upd h9e h9c (fun _ z => by cases z),
            Paired.mapP (paired_allIn h9p nb2) fun x y z => CellL.upd z.1 h9e (fun _ z => by cases z) z.2, by rw [upd_ne nbe]; exact h9b, Cells.upd h9e h9bc (fun _ z => by cases z), insC_nodup Snd', fun z hz => ?_, fun z => ?_⟩
          · rcases mem_insC.mp hz with h | h
            · exact Ssub' z h
            · rw [h]; exact cd' x (List.mem_of_getElem? hx)
          · rw [mem_insC, Sm', take_get hx, List.mem_append, or_assoc]; simp
        · have full : (comp ds c).take (bs.map V.ref).length = comp ds c := List.take_of_length_le (by rw [List.length_map, h9bc.len]; exact Nat.le_refl _)
          rw [full] at Sm'
          subst e1
          walk_at "rd"
          refine ⟨tyV_lst h9f, _, h9f, by rw [List.length_map]; omega, ?_⟩
          rw [hP]
          refine ⟨_, _, _, S', seen ++ comp ds c, as ++ [b], gs ++ [comp ds c], rfl, same_upd s9 nf, by rw [upd_ne ndf]; exact h9d, by rw [upd_ne nef]; exact h9e, by rw [upd_same]; simp, fun x hx => ?_, by rw [upd_ne nrf]; exact h9r, Cells.updL h9f h9c, ?_, by simp; omega, Snd', fun x => by rw [Sm', List.mem_append, Sm], Ssub', ?_⟩
          · rcases List.mem_append.mp hx with h | h
            · exact nas x h
            · simp at h; rw [h]; exact nbf
          · exact paired_app (Paired.mapP (paired_allIn h9p nas) fun x y z => CellL.upd z.1 h9f (fun _ z => by cases z) z.2) (.cons (CellL.upd ⟨bs, h9b, h9bc⟩ h9f (fun _ z => by cases z) nbf) .nil)
          · rw [G, drop_get hcs, grp_take (fun m => cS ((Sm c).mpr m))]
            simp
    · rw [hP] at h
      obtain ⟨x5, x6, x7, S, seen, as, gs, rfl, s6, h6d, h6e, h6f, nas, h6r, h6c, h6g, lg, Snd, Sm, Ssub, G⟩ := h
      walk_at "rd"
      refine q _ _ s6 nf ⟨as, h6f, ?_⟩
      rw [G, List.drop_of_length_le (by rw [List.length_map, h6c.len]; exact Nat.le_refl _)]
      simpa [grp] using h6g
end
end Dk
-- text L2
set_option maxHeartbeats 1000000
namespace Dk
open PySem PySem.Spec PyProof.Rows L2
local macro_rules | `(tactic| walk_at "rd") => `(tactic| simp only [tRet, tRetN, tSeq, tAsg, tIfS, tB, tVar, tC, tCons, tNil, tCB, tCall, tOp, tUn, rI0, rI, rU, rEq, rNe, gName, tAnd, tOr, tNot, tAndV, tOrV, tNotV, tIf, tTest, tChain, tDrop, tNext, tBreak, tCont, tTup, tLst, tBM, tBM0, tM0, tM1, tSl, tPart, tNoPart, tPar,
  rIs, rIs2, rIxL, rIxT, rIxS, rAppend, rExtend, rPop, rPopAt, gTup, gCons, gNil, gSub, tYes, wipe, tD1, tDcC, rListC, rSortC, rEmp, rJoin, tM1, gFld, tFld, sFld, rMinDef, tCKw, StX.tStar, rLen, tDGet2, tNo, tScN, rSortTx, rSetTx, iKeys, tPar3, sDPut, tFor_eq, iList, iEnum, iStr, iZip, cxK, cxP, cxW, tTup_, tLst_, tDNewK_, tDNewT_, rSlL_, rListOf_, rCatN, rRepN, rListStr, iRng1, rLenT, rInC, rDictC, sizeLine_eq, Nat.reduceLeDiff, Bool.true_or, Bool.false_or, Bool.or_true, Bool.or_false, Bool.true_and, Bool.false_and, Bool.and_true, Bool.and_false, Bool.not_true, Bool.not_false, Bool.not_eq_true', decide_eq_true_eq, decide_eq_false_iff_not, scal, isT_Non_boo, isT_Non_int, isT_Non_str, isT_Non_lis, isT_Non_tup, isT_Non_dic, isT_boo_boo, isT_boo_int, isT_boo_str, isT_boo_lis, isT_boo_tup, isT_boo_dic, isT_int_boo, isT_int_int, isT_int_str, isT_int_lis, isT_int_tup, isT_int_dic, isT_str_boo, isT_str_int, isT_str_str, isT_str_lis, isT_str_tup, isT_str_dic, isT_lis_boo, isT_lis_int, isT_lis_str, isT_lis_lis, isT_lis_tup, isT_lis_dic, isT_tup_boo, isT_tup_int, isT_tup_str, isT_tup_lis, isT_tup_tup, isT_tup_dic, isT_dic_boo, isT_dic_int, isT_dic_str, isT_dic_lis, isT_dic_tup, isT_dic_dic, kit_Non, kit_boo, kit_int, kit_str, kit_lis, kit_tup, kit_dic, sg_inj, vt_non, vt_bl, vt_int, vt_str, len_str, tDGet, tDIn, tDNotIn,
  L2.start, List.map_cons, List.map_nil, List.length_cons, List.length_nil, List.cons_append, List.nil_append, List.append_nil, Nat.zero_add, Nat.reduceAdd, Nat.reduceSub, Nat.sub_zero, Nat.sub_self, List.replicate_succ, List.replicate_zero,
  List.getElem?_cons_zero, List.getElem?_cons_succ, List.getElem?_nil, List.set_cons_zero, List.set_cons_succ, List.cons.injEq, Option.some.injEq, V.int.injEq, V.str.injEq, V.bl.injEq, V.ref.injEq, V.ty.injEq, reduceCtorEq,
  and_assoc, and_true, true_and, false_and, and_false, exists_eq_left, exists_eq_left', exists_eq', exists_eq_right, exists_eq_right', exists_and_left, exists_and_right, exists_const, exists_false, exists_eq, if_true, if_false, Bool.false_eq_true, Bool.true_eq, decide_true, decide_false, ite_self])
section
variable {P : Program} {w : World} {K : PySem.W.Frag} {mg : Str → Option Value} {base : Heap}
def sp_law_all_cells : Sp := fun vs H Q _ => ∃ (n m : Nat), vs = [.int n, .int m] ∧ n * m ≤ 1000 ∧ n ≤ 1000 ∧ m ≤ 1000 ∧ ∀ H' p, Same H H' → H p = none → CellL H' p (gridAll m 0 n) → Q (.ref p) H'
theorem c_law_all_cells (T : Tx K mg) (D : Df K mg "_law_all_cells" s_law_all_cells) : Cal P w K mg base CX0 1 "_law_all_cells" p_law_all_cells (sp_law_all_cells) := by
  have S := sc_law_all_cells
  refine cal0 D S (fun _ _ _ _ _ _ us hl => match us, hl with | [_, _], _ => rfl) (fun vs H Q E h => ?_) (fun f cdv A outer s H vs Q E hr h => ?_)
  · obtain ⟨_, _, rfl, _⟩ := h
    rfl
  refine ⟨_, (pss_cons (ps_set (i := 2) S.nd rfl (by first | exact Or.inl rfl | exact Or.inr rfl) (pe_lst_ pa_nil))
      (pss_cons (ps_for PassesOwn.never rfl (pi_range1 (by rfl) (T.fr _ (by decide)) (pa_cons (pv 0) pa_nil)) (pg_name (i := 3) S.nd rfl (by first | exact Or.inl rfl | exact Or.inr rfl)) (pss_one (ps_set (i := 2) S.nd rfl (by first | exact Or.inl rfl | exact Or.inr rfl) (pe_op op_catN (pv 2) (pe_lc (own := [("_law_column", 4)]) (g := gName 4) rfl S.nd (pi_range1 (by rfl) (T.fr _ (by decide)) (pa_cons (pv 1) pa_nil)) (blkOk_by (N := N_law_all_cells) (sc := defScope s_law_all_cells) (by decide +kernel)) (fun _ _ _ _ _ => (pg_name (i := 4) S.nd rfl (by first | exact Or.inl rfl | exact Or.inr rfl))) (fun _ _ _ _ _ => pts_nil) (fun _ _ _ _ _ => (pe_tup_ (pa_cons (pv 3) (pa_cons (pv 4) pa_nil)))))))))
      (pss_one (ps_ret (pv 2))))), ?_⟩
  obtain ⟨n, m, rfl, nm, ln, lm, q⟩ := h
  have e62 : (2 : Int) ^ 62 = 4611686018427387904 := by decide
  walk_at "rd"
  refine fun p H1 n1 => ⟨by omega, by omega, ?_⟩
  rw [Int.toNat_natCast]
  refine for_B (walk_range (lo := 0) (n := n)) (fun i σ H' => ∃ p x3, σ = [some (.int n), some (.int m), some (.ref p), x3, none] ∧ Same H H' ∧ H p = none ∧ CellL H' p (gridAll m 0 i)) ⟨_, _, rfl, n1.same, n1.fresh, [], n1.at_, .nil⟩ (fun _ _ _ _ _ => trivial) (fun i v σ H3 H4 hi ⟨p, x3, e, s3, fp, ts, h3, c3⟩ y => ?_) (fun σ H3 ⟨p, x3, e, s3, fp, h3⟩ => ?_)
  · obtain ⟨rfl, rfl⟩ := y
    subst e
    have lts := c3.len
    have lg := gridAll_len m i 0
    have bm : i * m ≤ n * m := Nat.mul_le_mul_right m (Nat.le_of_lt hi)
    have bm2 : (i + 1) * m ≤ n * m := Nat.mul_le_mul_right m hi
    walk_at "rd"
    refine ⟨_, rfl, (m : Int), rfl, by omega, by omega, fun D hD => ?_⟩
    rw [Int.toNat_natCast]
    refine lc_it (walk_range (lo := 0) (n := m)) (LcInv H4 D fun acc j H' => ∃ us, acc = us.map V.ref ∧ Cells H' us (rowAll i 0 j)) (lc0 hD ⟨[], rfl, .nil⟩) (fun _ _ _ _ => trivial) (fun j x H5 H6 hj ⟨acc, ha, hl, s1, us, e, r⟩ y => ?_) (fun H5 ⟨acc, ha, hl, s1, us, e, r⟩ => ?_)
    · obtain ⟨rfl, rfl⟩ := y
      walk_at "rd"
      refine fun T7 H7 n7 => lcKeep hD (n7.same _ _ ha) hl hj (by omega) (s1.trans n7.same) ⟨us ++ [T7], by rw [e]; simp, ?_⟩
      rw [rowAll_snoc]
      refine (Cells.updL (n7.same _ _ ha) (r.same n7.same)).app (.cons (CellV.updL (n7.same _ _ ha) ?_) .nil)
      have := n7.at_
      rw [Int.zero_add, Int.zero_add] at this
      rw [Nat.zero_add]
      exact this
    · have lus := r.len
      have lr := rowAll_len i m 0
      have p5 := s1 _ _ h3
      refine ⟨D, rfl, _, p5, _, ha, by rw [List.length_map, e, List.length_map]; omega, fun p2 H6 n6 => ?_⟩
      have s06 := s3.trans (s1.trans n6.same)
      refine ⟨s06, none_of (s3.trans s1) n6.fresh, ts ++ us, by rw [n6.at_, e]; simp, ?_⟩
      rw [gridAll_snoc, Nat.zero_add]
      exact (c3.same (s1.trans n6.same)).app (r.same n6.same)
  · subst e
    walk_at "rd"
    exact q _ _ s3 fp h3
def sp_law_edge : Sp := fun vs H Q _ => ∃ (t : Addr) (c : Cell) (h w : Int), vs = [.int h, .int w, .ref t] ∧ CellV H t c ∧ ∀ H', Same H H' → Q (.bl (edgeB c h w)) H'
theorem c_law_edge (T : Tx K mg) (D : Df K mg "_law_edge" s_law_edge) : Cal P w K mg base CX0 1 "_law_edge" p_law_edge (sp_law_edge) := by
  have S := sc_law_edge
  refine cal0 D S (fun _ _ _ _ _ _ us hl => match us, hl with | [_, _, _], _ => rfl) (fun vs H Q E h => ?_) (fun f cdv A outer s H vs Q E hr h => ?_)
  · obtain ⟨_, _, _, _, rfl, _⟩ := h
    rfl
  refine ⟨_, (pss_one (ps_ret (pe_or (pe_cmpR (r := rIn K false) op_in_seq (pe_ix (r := rIxT K) ix_tup (pv 2) pe_int (fun _ _ => rfl)) (pe_tup_ (pa_cons pe_int (pa_cons (pe_op op_sub (pv 0) pe_int) pa_nil))) (by rfl)) (pe_one (pe_cmpR (r := rIn K false) op_in_seq (pe_ix (r := rIxT K) ix_tup (pv 2) pe_int (fun _ _ => rfl)) (pe_tup_ (pa_cons pe_int (pa_cons (pe_op op_sub (pv 1) pe_int) pa_nil))) (by rfl)))))), ?_⟩
  obtain ⟨t, c, h, w, rfl, hc, q⟩ := h
  walk_at "rd"
  refine ⟨_, SqT.of hc, _, atI_nat (j := 0) rfl, fun p1 H1 n1 => ⟨p1, _, rfl, .inr (SqT.of n1.at_), rfl, rfl, _, rfl, ?_⟩⟩
  have e1 : inV (V.int c.1) [V.int 0, V.int (h - 1)] = (decide (c.1 = 0) || decide (c.1 = h - 1)) := by simp [inV, eqV, beqI]
  have e2 : inV (V.int c.2) [V.int 0, V.int (w - 1)] = (decide (c.2 = 0) || decide (c.2 = w - 1)) := by simp [inV, eqV, beqI]
  refine ite2 (fun a => ?_) fun a => ?_
  · have := q H1 n1.same
    rwa [show edgeB c h w = true from by unfold edgeB; rw [← e1]; simp [show inV (V.int c.1) [V.int 0, V.int (h - 1)] = true from a]] at this
  · refine ⟨_, SqT.of (n1.same _ _ hc), _, atI_nat (j := 1) rfl, fun p2 H2 n2 => ⟨p2, _, rfl, .inr (SqT.of n2.at_), rfl, rfl, ?_⟩⟩
    have := q H2 (n1.same.trans n2.same)
    unfold edgeB at this
    rw [← e1, ← e2, show inV (V.int c.1) [V.int 0, V.int (h - 1)] = false from by simpa using a, Bool.false_or] at this
    exact this
def sp_law_cells_of : Sp := fun vs H Q _ => ∃ (a : Addr) (R : List (List Str)) (x : Str), vs = [.ref a, .str x] ∧ RowsL H a R ∧ 1 ≤ R.length ∧ R.length ≤ 12 ∧ (∀ r ∈ R, r.length ≤ 12 ∧ r.length = (R.headD []).length) ∧
  ∀ H' p, Same H H' → H p = none → CellL H' p (cellsOf R x) → Q (.ref p) H'
theorem c_law_cells_of (T : Tx K mg) (D : Df K mg "_law_cells_of" s_law_cells_of) (c_law_all_cells : Cal P w K mg base CX0 1 "_law_all_cells" p_law_all_cells (sp_law_all_cells)) : Cal P w K mg base CX0 2 "_law_cells_of" p_law_cells_of (sp_law_cells_of) := by
  have S := sc_law_cells_of
  refine cal0 D S (fun _ _ _ _ _ _ us hl => match us, hl with | [_, _], _ => rfl) (fun vs H Q E h => ?_) (fun f cdv A outer s H vs Q E hr h => ?_)
  · obtain ⟨_, _, _, rfl, _⟩ := h
    rfl
  refine ⟨_, (pss_one (ps_ret (pe_lc (own := [("_law_cell", 2)]) (g := gName 2) rfl S.nd (pi_list (pe_fn c_law_all_cells hr (pa_cons (pe_callB (id := "len") (r := rLen K) (call_len_ rfl) (by rfl) (T.fr _ (by decide)) (by decide +kernel) (pa_cons (pv 0) pa_nil)) (pa_cons (pe_callB (id := "len") (r := rLen K) (call_len_ rfl) (by rfl) (T.fr _ (by decide)) (by decide +kernel) (pa_cons (pe_ix (r := rIxL K) ix_list (pv 0) pe_int (fun _ _ => rfl)) pa_nil)) pa_nil)))) (blkOk_by (N := N_law_cells_of) (sc := defScope s_law_cells_of) (by decide +kernel)) (fun _ _ _ _ _ => (pg_name (i := 2) S.nd rfl (by first | exact Or.inl rfl | exact Or.inr rfl))) (fun _ _ _ _ _ => (pts_one (pt_cmpR op_eq (pe_ix (r := rIxL K) ix_list (pe_ix (r := rIxL K) ix_list (pv 0) (pe_ix (r := rIxT K) ix_tup (pv 2) pe_int (fun _ _ => rfl)) (fun _ _ => rfl)) (pe_ix (r := rIxT K) ix_tup (pv 2) pe_int (fun _ _ => rfl)) (fun _ _ => rfl)) (pv 1) (nomark _)))) (fun _ _ _ _ _ => (pv 2))))), ?_⟩
  obtain ⟨a, R, x, rfl, ⟨as, ha, hP⟩, l1, l2, l3, q⟩ := h
  have la := hP.length
  obtain ⟨r0, hr0, hrt0⟩ := paired_at2 (i := 0) hP (show R[0]? = some (R.headD []) by cases R with | nil => simp at l1 | cons r R => rfl)
  have w0 : (R.headD []).length ≤ 12 := by
    cases R with
    | nil => simp at l1
    | cons r R => exact (l3 r List.mem_cons_self).1
  have nm : R.length * (R.headD []).length ≤ 144 := Nat.mul_le_mul l2 w0
  refine ⟨_, rfl, _, _, rfl, .inl ⟨_, SqL.of ha, rfl⟩, _, rfl, a, _, 0, V.ref r0, rfl, rfl, SqL.of ha, atI_zero (by rw [List.getElem?_map, hr0]; rfl), _, _, rfl, .inl ⟨_, SqL.of hrt0, rfl⟩, ?_⟩
  rw [List.length_map, List.length_map, la]
  refine ⟨R.length, (R.headD []).length, rfl, by omega, by omega, by omega, fun H1 g s1 f1 hg => ?_⟩
  obtain ⟨gs, hg1, hg2⟩ := hg
  have lg := gridAll_len (R.headD []).length R.length 0
  have lgs := hg2.len
  refine ⟨g, rfl, ⟨_, SqL.of hg1⟩, fun D hD => lc_it (walk_list (xs := gs.map V.ref)) (LcInv H1 D fun acc j H' => ∃ us, acc = us.map V.ref ∧ Cells H' us (((gridAll (R.headD []).length 0 R.length).take j).filter fun c => isN x (at_ R c))) (lc0 hD ⟨[], rfl, by simp; exact .nil⟩) (fun _ _ _ ⟨_, _, _, s, _⟩ => SqL.of (s _ _ hg1)) (fun j v H5 H6 hj ⟨acc, hA, hl, s2, us, e, r⟩ y => ?_) (fun H5 ⟨acc, hA, hl, s2, us, e, r⟩ => ?_)⟩
  · obtain ⟨rfl, hv⟩ := y
    obtain ⟨u, hu, rfl⟩ := map_ref_get hv
    obtain ⟨c, hc, hcu⟩ := hg2.get hu
    have cu := s2 _ _ hcu
    have s05 := s1.trans s2
    obtain ⟨i1, j1, hi1, hj1, ec⟩ := mem_gridAll.mp (List.mem_of_getElem? hc)
    rw [Nat.zero_add] at ec
    obtain ⟨row, hrow⟩ : ∃ row, R[i1]? = some row := ⟨R[i1], List.getElem?_eq_getElem hi1⟩
    obtain ⟨ra, hra, hrr⟩ := paired_at2 hP hrow
    have lr := (l3 row (List.mem_of_getElem? hrow)).2
    obtain ⟨z, hz⟩ : ∃ z, row[j1]? = some z := ⟨row[j1]'(by omega), List.getElem?_eq_getElem _⟩
    have eat : at_ R c = z := by
      have : ((((0 + i1 : Nat) : Int), (j1 : Int)), z) ∈ gridC 0 R := mem_gridC.mpr ⟨i1, j1, row, hrow, hz, rfl⟩
      have := at_of this
      rw [Nat.zero_add] at this
      rw [ec]; exact this
    subst ec
    walk_at "rd"
    refine ⟨_, SqT.of cu, _, atI_nat (j := 0) rfl, _, _, rfl, SqL.of (s05 _ _ ha), _, atI_nat (by rw [List.getElem?_map, hra]; rfl), _, SqT.of cu, _, atI_nat (j := 1) rfl, _, rfl, _, _, rfl, SqL.of (s05 _ _ hrr), _, atI_nat (by rw [List.getElem?_map, hz]; rfl), rfl, ?_⟩
    have nx : (((gridAll (R.headD []).length 0 R.length).take (j + 1)).filter fun c => isN x (at_ R c)) = (((gridAll (R.headD []).length 0 R.length).take j).filter fun c => isN x (at_ R c)) ++ (if z = x then [((i1 : Int), (j1 : Int))] else []) := by
      rw [take_get hc, List.filter_append]
      congr 1
      by_cases q : z = x
      · rw [if_pos q]; simp [eat, q]
      · rw [if_neg q]; simp [eat, q]
    refine ite2 (fun b => ?_) fun b => ?_
    · refine lcKeep hD hA hl hj (by rw [List.length_map, lgs, lg]; omega) s2 ⟨us ++ [u], by rw [e]; simp, ?_⟩
      rw [nx, if_pos (V.str.inj b)]
      exact (Cells.updL hA r).app (.cons (CellV.updL hA cu) .nil)
    · refine lcSkip hA hl s2 ⟨us, e, ?_⟩
      rw [nx, if_neg (fun z => b (by rw [z])), List.append_nil]
      exact r
  · have full : (gridAll (R.headD []).length 0 R.length).take (gs.map V.ref).length = gridAll (R.headD []).length 0 R.length := List.take_of_length_le (by rw [List.length_map, lgs]; exact Nat.le_refl _)
    rw [full, gridAll_filter (fun r hr => (l3 r hr).2) (isN x)] at r
    exact q H5 D (s1.trans s2) (none_of s1 hD) ⟨us, by rw [hA, e], r⟩
end
end Dk
-- text L3
set_option maxHeartbeats 1000000
namespace Dk
open PySem PySem.Spec PyProof.Rows L2
local macro_rules | `(tactic| walk_at "rd") => `(tactic| simp only [tRet, tRetN, tSeq, tAsg, tIfS, tB, tVar, tC, tCons, tNil, tCB, tCall, tOp, tUn, rI0, rI, rU, rEq, rNe, gName, tAnd, tOr, tNot, tAndV, tOrV, tNotV, tIf, tTest, tChain, tDrop, tNext, tBreak, tCont, tTup, tLst, tBM, tBM0, tM0, tM1, tSl, tPart, tNoPart, tPar,
  rIs, rIs2, rIxL, rIxT, rIxS, rAppend, rExtend, rPop, rPopAt, gTup, gCons, gNil, gSub, tYes, wipe, tD1, tDcC, rListC, rSortC, rEmp, rJoin, tM1, gFld, tFld, sFld, rMinDef, tCKw, StX.tStar, rLen, tDGet2, tNo, tScN, rSortTx, rSetTx, iKeys, tPar3, sDPut, tFor_eq, iList, iEnum, iStr, iZip, cxK, cxP, cxW, tTup_, tLst_, tDNewK_, tDNewT_, rSlL_, rListOf_, rCatN, rRepN, rListStr, iRng1, rLenT, rInC, rDictC, sizeLine_eq, Nat.reduceLeDiff, Bool.true_or, Bool.false_or, Bool.or_true, Bool.or_false, Bool.true_and, Bool.false_and, Bool.and_true, Bool.and_false, Bool.not_true, Bool.not_false, Bool.not_eq_true', decide_eq_true_eq, decide_eq_false_iff_not, scal, isT_Non_boo, isT_Non_int, isT_Non_str, isT_Non_lis, isT_Non_tup, isT_Non_dic, isT_boo_boo, isT_boo_int, isT_boo_str, isT_boo_lis, isT_boo_tup, isT_boo_dic, isT_int_boo, isT_int_int, isT_int_str, isT_int_lis, isT_int_tup, isT_int_dic, isT_str_boo, isT_str_int, isT_str_str, isT_str_lis, isT_str_tup, isT_str_dic, isT_lis_boo, isT_lis_int, isT_lis_str, isT_lis_lis, isT_lis_tup, isT_lis_dic, isT_tup_boo, isT_tup_int, isT_tup_str, isT_tup_lis, isT_tup_tup, isT_tup_dic, isT_dic_boo, isT_dic_int, isT_dic_str, isT_dic_lis, isT_dic_tup, isT_dic_dic, kit_Non, kit_boo, kit_int, kit_str, kit_lis, kit_tup, kit_dic, sg_inj, vt_non, vt_bl, vt_int, vt_str, len_str, tDGet, tDIn, tDNotIn,
  L2.start, List.map_cons, List.map_nil, List.length_cons, List.length_nil, List.cons_append, List.nil_append, List.append_nil, Nat.zero_add, Nat.reduceAdd, Nat.reduceSub, Nat.sub_zero, Nat.sub_self, List.replicate_succ, List.replicate_zero,
  List.getElem?_cons_zero, List.getElem?_cons_succ, List.getElem?_nil, List.set_cons_zero, List.set_cons_succ, List.cons.injEq, Option.some.injEq, V.int.injEq, V.str.injEq, V.bl.injEq, V.ref.injEq, V.ty.injEq, reduceCtorEq,
  and_assoc, and_true, true_and, false_and, and_false, exists_eq_left, exists_eq_left', exists_eq', exists_eq_right, exists_eq_right', exists_and_left, exists_and_right, exists_const, exists_false, exists_eq, if_true, if_false, Bool.false_eq_true, Bool.true_eq, decide_true, decide_false, ite_self])
theorem cut_last (z : Str) : cutS z (some (-1)) none = ⟨((tl z).drop ((tl z).length - 1)).toArray⟩ := by
  unfold cutS
  have e : HT.sIx z.length 0 (some (-1)) = (tl z).length - 1 := by
    rw [len_tl]
    unfold HT.sIx
    simp
    omega
  rw [e, HT.sIx_none, List.take_of_length_le (by rw [List.length_drop, len_tl]; exact Nat.le_refl _)]
theorem last_star (z : Str) : (cutS z (some (-1)) none = Str.ofString "*") = (star z = true) := by
  rw [cut_last, star_lit]
  unfold star
  rw [decide_eq_true_eq]
  apply propext
  have h : ∀ l : List Nat, (l.drop (l.length - 1) = [42]) ↔ l.getLast? = some 42 := by
    intro l
    cases e : l.reverse with
    | nil =>
      have : l = [] := List.reverse_eq_nil_iff.mp e
      subst this; simp
    | cons x r =>
      have : l = r.reverse ++ [x] := by rw [← List.reverse_reverse l, e]; simp
      subst this
      simp
  rw [← h]
  constructor
  · intro e
    have := congrArg (fun s : Str => s.cps.toList) e
    simpa using this
  · intro e
    rw [e]
def lw (z : Str) : V := if nameB (bare z) = true then .str (bare z) else .non
section
variable {P : Program} {w : World} {K : PySem.W.Frag} {mg : Str → Option Value} {base : Heap}
def sp_law_line_word : Sp := fun vs H Q _ => ∃ z : Str, vs = [.str z] ∧ z.length ≤ 16777216 ∧ ∀ H', Same H H' → Q (lw z) H'
theorem c_law_line_word (T : Tx K mg) (D : Df K mg "_law_line_word" s_law_line_word) (c_law_is_word : Cal P w K mg base CX0 1 "_law_is_word" p_law_is_word (sp_law_is_word)) : Cal P w K mg base CX0 2 "_law_line_word" p_law_line_word (sp_law_line_word) := by
  have S := sc_law_line_word
  refine cal0 D S (fun _ _ _ _ _ _ us hl => match us, hl with | [_], _ => rfl) (fun vs H Q E h => ?_) (fun f cdv A outer s H vs Q E hr h => ?_)
  · obtain ⟨_, rfl, _⟩ := h
    rfl
  refine ⟨_, (pss_cons (ps_set (i := 1) S.nd rfl (by first | exact Or.inl rfl | exact Or.inr rfl) (pe_ifExp (pt_cmpR op_eq (pe_slice sl_str (pv 0) (po_some (pe_un un_neg pe_int)) po_none) pe_str (nomark _)) (pe_slice sl_str (pv 0) po_none (po_some (pe_un un_neg pe_int))) (pv 0)))
      (pss_one (ps_ret (pe_ifExp (pt_val (pe_fn c_law_is_word hr (pa_cons (pv 1) pa_nil))) (pv 1) pe_non)))), ?_⟩
  obtain ⟨z, rfl, hz, q⟩ := h
  walk_at "rd"
  refine ⟨z, rfl, by rw [sizeLine_eq]; exact hz, rfl, ?_⟩
  have e1 : (V.str (cutS z (some (-1)) none) = V.str (Str.ofString "*")) = (star z = true) := by rw [V.str.injEq, last_star]
  have fin : ∀ H' (b : Bool), nameB (bare z) = b → Same H H' → ∃ c, V.bl b = V.bl c ∧ if c = true then Q (.str (bare z)) H' else Q .non H' := fun H' b hb s => by
    have := q H' s
    unfold lw at this
    refine ⟨b, rfl, ?_⟩
    rw [hb] at this
    cases b with
    | true => exact this
    | false => exact this
  have bl := bare_len z
  refine ite2 (fun a => ?_) fun a => ?_
  · have a := e1 ▸ a
    refine ⟨z, rfl, by rw [sizeLine_eq]; exact hz, ?_⟩
    rw [cut_butlast]
    have eb : bare z = ⟨(tl z).dropLast.toArray⟩ := by unfold bare; rw [if_pos a]
    rw [← eb]
    exact ⟨bare z, rfl, by omega, fun H' s => fin H' _ rfl s⟩
  · have a := e1 ▸ a
    have eb : bare z = z := by unfold bare; rw [if_neg a]
    refine ⟨z, rfl, hz, fun H' s => ?_⟩
    have := fin H' _ rfl s
    rw [eb] at this
    exact this
theorem lw_in (ws : List Str) : inV .non (ws.map lw) = !((ws.map bare).all nameB) := by
  unfold inV
  rw [List.any_map, List.all_map]
  induction ws with
  | nil => rfl
  | cons z r ih =>
    rw [List.any_cons, List.all_cons, ih, Bool.not_and]
    congr 1
    show eqV (lw z) .non = !nameB (bare z)
    unfold lw
    cases nameB (bare z) <;> rfl
theorem lw_map {ws : List Str} (h : (ws.map bare).all nameB = true) : ws.map lw = (ws.map bare).map V.str := by
  rw [List.map_map]
  refine List.map_congr_left fun z hz => ?_
  have := List.all_eq_true.mp h (bare z) (List.mem_map.mpr ⟨z, hz, rfl⟩)
  show lw z = _
  unfold lw
  rw [if_pos this]; rfl
theorem flatMap_len {α β : Type} {f : α → List β} {k : Nat} : ∀ {l : List α}, (∀ x ∈ l, (f x).length ≤ k) → (l.flatMap f).length ≤ l.length * k
  | [], _ => by simp
  | x :: r, h => by
    have h1 := h x List.mem_cons_self
    have h2 := flatMap_len (l := r) fun y hy => h y (List.mem_cons_of_mem _ hy)
    rw [List.flatMap_cons, List.length_append, List.length_cons, Nat.add_mul, Nat.one_mul]
    omega
theorem lostOf_len (cs : List Cell) : (lostOf cs).length ≤ cs.length := by
  unfold lostOf
  rw [List.length_map]
  exact List.length_filter_le _ _
theorem ite_share {c : Prop} [Decidable c] {A B : Prop} {G : Addr → Hp → Prop} (Pre : Addr → Hp → Prop) (ha : (∀ l H, Pre l H → G l H) → c → A) (hb : (∀ l H, Pre l H → G l H) → ¬ c → B) (k : ∀ l H, Pre l H → G l H) : if c then A else B := by
  split
  · exact ha k ‹_›
  · exact hb k ‹_›
def sp_law_read_plat : Sp := fun vs H Q _ => ∃ t : Str, vs = [.str t] ∧ t.length ≤ 3000 ∧ (∀ n why, readS t = .bad n why → ∀ H' p, Same H H' → H p = none → H' p = some (.tup [.int n, .str why]) → Q (.ref p) H') ∧
  ∀ R cs, readS t = .ok R cs → ∀ H' p a r, Same H H' → H p = none → H' p = some (.tup [.str Str.empty, .ref a, .ref r]) → RowsL H' a R → CellL H' r cs → R.length ≤ 12 → (∀ x ∈ R, x.length ≤ 12 ∧ ∀ z ∈ x, z.length ≤ 6) → cs.length ≤ 144 → Q (.ref p) H'
theorem c_law_read_plat (T : Tx K mg) (D : Df K mg "_law_read_plat" s_law_read_plat) (c_law_line_word : Cal P w K mg base CX0 2 "_law_line_word" p_law_line_word (sp_law_line_word)) (c_law_all_cells : Cal P w K mg base CX0 1 "_law_all_cells" p_law_all_cells (sp_law_all_cells)) (c_law_edge : Cal P w K mg base CX0 1 "_law_edge" p_law_edge (sp_law_edge)) (c_law_cells_of : Cal P w K mg base CX0 2 "_law_cells_of" p_law_cells_of (sp_law_cells_of)) (c_law_groups : Cal P w K mg base CX0 2 "_law_groups" p_law_groups (sp_law_groups)) (c_law_four : Cal P w K mg base CX0 1 "_law_four" p_law_four (sp_law_four)) : Cal P w K mg base CX0 3 "_law_read_plat" p_law_read_plat (sp_law_read_plat) := by
  have S := sc_law_read_plat
  refine cal0 D S (fun _ _ _ _ _ _ us hl => match us, hl with | [_], _ => rfl) (fun vs H Q E h => ?_) (fun f cdv A outer s H vs Q E hr h => ?_)
  · obtain ⟨_, rfl, _⟩ := h
    rfl
  refine ⟨_, (pss_cons (ps_if (PW.pt (pw_or (pt_not (pt_val (pe_callB (id := "isinstance") call_is (by rfl) (T.fr _ (by decide)) (by decide +kernel) (pa_cons (pv 0) (pa_cons (pe_bltn (v := .ty "str") (by rfl) (T.fr _ (by decide)) (by decide +kernel) rfl) pa_nil))))) (pw_or1 (pt_cmpR op_eq (pv 0) pe_str (nomark _))))) (pss_one (ps_ret (pe_tup_ (pa_cons pe_int (pa_cons pe_str pa_nil))))) pss_nil)
      (pss_cons (ps_set (i := 1) S.nd rfl (by first | exact Or.inl rfl | exact Or.inr rfl) (pe_split (pv 0) pe_str))
      (pss_cons (ps_asg (pe_tup_ (pa_cons (pe_op op_catN (pe_slice (r := rSlL_ K) sl_list_ (pv 1) po_none (po_some (pe_un un_neg pe_int))) (pe_ifExp (pt_cmpR op_ne (pe_ix (r := rIxL K) ix_list (pv 1) (pe_un un_neg pe_int) (fun _ _ => rfl)) pe_str (nomark _)) (pe_lst_ (pa_cons (pe_ix (r := rIxL K) ix_list (pv 1) (pe_un un_neg pe_int) (fun _ _ => rfl)) pa_nil)) (pe_lst_ pa_nil))) (pa_cons (pe_lst_ pa_nil) pa_nil))) (pg_tup (n := 2) rfl (pgs_cons (pg_name (i := 2) S.nd rfl (by first | exact Or.inl rfl | exact Or.inr rfl)) (pgs_cons (pg_name (i := 3) S.nd rfl (by first | exact Or.inl rfl | exact Or.inr rfl)) pgs_nil))))
      (pss_cons (ps_for PassesOwn.never rfl (pi_range1 (by rfl) (T.fr _ (by decide)) (pa_cons (pe_callB (id := "len") (r := rLen K) (call_len_ rfl) (by rfl) (T.fr _ (by decide)) (by decide +kernel) (pa_cons (pv 2) pa_nil)) pa_nil)) (pg_name (i := 4) S.nd rfl (by first | exact Or.inl rfl | exact Or.inr rfl)) (pss_cons (ps_setLc (i := 5) (own := [("_law_word_here", 13)]) (g := gName 13) rfl S.nd rfl rfl (sw_true rfl rfl rfl (by decide +kernel)) (pi_list (pe_split (pe_ix (r := rIxL K) ix_list (pv 2) (pv 4) (fun _ _ => rfl)) pe_str)) (blkOk_by (N := N_law_read_plat) (sc := defScope s_law_read_plat) (by decide +kernel)) (fun _ _ _ _ _ => (pg_name (i := 13) S.nd rfl (by first | exact Or.inl rfl | exact Or.inr rfl))) (fun _ _ _ _ _ => pts_nil) (fun _ _ _ _ _ => (pe_fn c_law_line_word hr (pa_cons (pv 13) pa_nil))))
      (pss_cons (ps_if (PW.pt (pw_or (pt_cmpR (r := rIn K false) op_in_seq pe_non (pv 5) (by rfl)) (pw_or1 (pt_cmpR op_eq (pv 4) (pe_op op_sub (pe_callB (id := "len") (r := rLen K) (call_len_ rfl) (by rfl) (T.fr _ (by decide)) (by decide +kernel) (pa_cons (pv 1) pa_nil)) pe_int) (nomark _))))) (pss_one (ps_ret (pe_tup_ (pa_cons (pv 4) (pa_cons pe_str pa_nil))))) pss_nil)
      (pss_cons (ps_if (PW.pt (pw_or (pt_cmpR op_gt (pe_callB (id := "len") (r := rLen K) (call_len_ rfl) (by rfl) (T.fr _ (by decide)) (by decide +kernel) (pa_cons (pv 5) pa_nil)) pe_int (nomark _)) (pw_or1 (pt_cmpR op_ne (pe_callB (id := "len") (r := rLen K) (call_len_ rfl) (by rfl) (T.fr _ (by decide)) (by decide +kernel) (pa_cons (pv 5) pa_nil)) (pe_callB (id := "len") (r := rLen K) (call_len_ rfl) (by rfl) (T.fr _ (by decide)) (by decide +kernel) (pa_cons (pe_split (pe_ix (r := rIxL K) ix_list (pv 2) pe_int (fun _ _ => rfl)) pe_str) pa_nil)) (nomark _))))) (pss_one (ps_ret (pe_tup_ (pa_cons (pv 4) (pa_cons pe_str pa_nil))))) pss_nil)
      (pss_cons (ps_set (i := 3) S.nd rfl (by first | exact Or.inl rfl | exact Or.inr rfl) (pe_callB (id := "sorted") (cr_sortTx rfl) (by rfl) (T.fr _ (by decide)) (by decide +kernel) (pa_cons (pe_callTy (T := "set") (cr_setTx rfl) (by rfl) (T.fr _ (by decide)) (by decide +kernel) (pa_cons (pe_op op_catN (pv 3) (pv 5)) pa_nil)) pa_nil)))
      (pss_one (ps_if (PW.pt (pw_or (pt_cmpR op_eq (pv 4) pe_int (nomark _)) (pw_or1 (pt_cmpR op_gt (pe_callB (id := "len") (r := rLen K) (call_len_ rfl) (by rfl) (T.fr _ (by decide)) (by decide +kernel) (pa_cons (pv 3) pa_nil)) pe_int (nomark _))))) (pss_one (ps_ret (pe_tup_ (pa_cons (pv 4) (pa_cons pe_str pa_nil))))) pss_nil)))))))
      (pss_cons (ps_set (i := 6) S.nd rfl (by first | exact Or.inl rfl | exact Or.inr rfl) (pe_lc (own := [("_law_line", 14)]) (g := gName 14) rfl S.nd (pi_list (pv 2)) (blkOk_by (N := N_law_read_plat) (sc := defScope s_law_read_plat) (by decide +kernel)) (fun _ _ _ _ _ => (pg_name (i := 14) S.nd rfl (by first | exact Or.inl rfl | exact Or.inr rfl))) (fun _ _ _ _ _ => pts_nil) (fun _ _ _ _ _ => (pe_lc (own := [("_law_word_here", 13)]) (g := gName 13) rfl S.nd (pi_list_ (K := K) rfl (pe_split (pv 14) pe_str)) (blkOk_by (N := N_law_read_plat) (by kernel_rfl)) (fun _ _ _ _ _ => (pg_name (i := 13) S.nd rfl (by first | exact Or.inl rfl | exact Or.inr rfl))) (fun _ _ _ _ _ => pts_nil) (fun _ _ _ _ _ => (pe_fn c_law_line_word hr (pa_cons (pv 13) pa_nil)))))))
      (pss_cons (ps_setLc (i := 7) (own := [("_law_cell", 15)]) (g := gName 15) rfl S.nd rfl rfl (sw_true rfl rfl rfl (by decide +kernel)) (pi_list (pe_fn c_law_all_cells hr (pa_cons (pe_callB (id := "len") (r := rLen K) (call_len_ rfl) (by rfl) (T.fr _ (by decide)) (by decide +kernel) (pa_cons (pv 6) pa_nil)) (pa_cons (pe_callB (id := "len") (r := rLen K) (call_len_ rfl) (by rfl) (T.fr _ (by decide)) (by decide +kernel) (pa_cons (pe_ix (r := rIxL K) ix_list (pv 6) pe_int (fun _ _ => rfl)) pa_nil)) pa_nil)))) (blkOk_by (N := N_law_read_plat) (sc := defScope s_law_read_plat) (by decide +kernel)) (fun _ _ _ _ _ => (pg_name (i := 15) S.nd rfl (by first | exact Or.inl rfl | exact Or.inr rfl))) (fun _ _ _ _ _ => (pts_one (pt_cmpR op_eq (pe_slice sl_str (pe_ix (r := rIxL K) ix_list (pe_split (pe_ix (r := rIxL K) ix_list (pv 2) (pe_ix (r := rIxT K) ix_tup (pv 15) pe_int (fun _ _ => rfl)) (fun _ _ => rfl)) pe_str) (pe_ix (r := rIxT K) ix_tup (pv 15) pe_int (fun _ _ => rfl)) (fun _ _ => rfl)) (po_some (pe_un un_neg pe_int)) po_none) pe_str (nomark _)))) (fun _ _ _ _ _ => (pv 15)))
      (pss_cons (ps_setLc (i := 8) (own := [("_law_cell", 15)]) (g := gName 15) rfl S.nd rfl rfl (sw_true rfl rfl rfl (by decide +kernel)) (pi_list (pv 7)) (blkOk_by (N := N_law_read_plat) (sc := defScope s_law_read_plat) (by decide +kernel)) (fun _ _ _ _ _ => (pg_name (i := 15) S.nd rfl (by first | exact Or.inl rfl | exact Or.inr rfl))) (fun _ _ _ _ _ => (pts_one (pt_not (pt_val (pe_fn c_law_edge hr (pa_cons (pe_callB (id := "len") (r := rLen K) (call_len_ rfl) (by rfl) (T.fr _ (by decide)) (by decide +kernel) (pa_cons (pv 6) pa_nil)) (pa_cons (pe_callB (id := "len") (r := rLen K) (call_len_ rfl) (by rfl) (T.fr _ (by decide)) (by decide +kernel) (pa_cons (pe_ix (r := rIxL K) ix_list (pv 6) pe_int (fun _ _ => rfl)) pa_nil)) (pa_cons (pv 15) pa_nil)))))))) (fun _ _ _ _ _ => (pv 15)))
      (pss_cons (ps_if (pt_cmpR (op_neE hr) (pv 8) (pe_lst_ pa_nil) (nomark _)) (pss_one (ps_ret (pe_tup_ (pa_cons (pe_ix (r := rIxT K) ix_tup (pe_ix (r := rIxL K) ix_list (pv 8) pe_int (fun _ _ => rfl)) pe_int (fun _ _ => rfl)) (pa_cons pe_str pa_nil))))) pss_nil)
      (pss_cons (ps_set (i := 9) S.nd rfl (by first | exact Or.inl rfl | exact Or.inr rfl) (pe_lst_ pa_nil))
      (pss_cons (ps_for PassesOwn.never rfl (pi_list (pv 3)) (pg_name (i := 10) S.nd rfl (by first | exact Or.inl rfl | exact Or.inr rfl)) (pss_cons (ps_set (i := 11) S.nd rfl (by first | exact Or.inl rfl | exact Or.inr rfl) (pe_fn c_law_cells_of hr (pa_cons (pv 6) (pa_cons (pv 10) pa_nil))))
      (pss_cons (ps_set (i := 12) S.nd rfl (by first | exact Or.inl rfl | exact Or.inr rfl) (pe_ix (r := rIx K) ix_seq (pe_fn c_law_groups hr (pa_cons (pv 11) (pa_cons (pe_fn0 c_law_four hr) pa_nil))) pe_int (fun _ _ => rfl)))
      (pss_one (ps_set (i := 9) S.nd rfl (by first | exact Or.inl rfl | exact Or.inr rfl) (pe_op op_catN (pv 9) (pe_lc (own := [("_law_cell", 15)]) (g := gName 15) rfl S.nd (pi_list (pv 11)) (blkOk_by (N := N_law_read_plat) (sc := defScope s_law_read_plat) (by decide +kernel)) (fun _ _ _ _ _ => (pg_name (i := 15) S.nd rfl (by first | exact Or.inl rfl | exact Or.inr rfl))) (fun _ _ _ _ _ => (pts_one (pt_cmpR (r := rInC K fun b => !b) (op_notInC hr) (pv 15) (pv 12) (by rfl)))) (fun _ _ _ _ _ => (pe_ix (r := rIxT K) ix_tup (pv 15) pe_int (fun _ _ => rfl))))))))))
      (pss_one (ps_ret (pe_ifExp (pt_cmpR (op_neE hr) (pv 9) (pe_lst_ pa_nil) (nomark _)) (pe_tup_ (pa_cons (pe_callB (id := "min") (cr_min rfl) (by rfl) (T.fr _ (by decide)) (by decide +kernel) (pa_cons (pv 9) pa_nil)) (pa_cons pe_str pa_nil))) (pe_tup_ (pa_cons pe_str (pa_cons (pv 6) (pa_cons (pv 7) pa_nil))))))))))))))))), ?_⟩
  obtain ⟨t, rfl, lt, hb, hg⟩ := h
  walk_at "rd"
  rw [show Str.ofString "" = Str.empty from by decide +kernel]
  refine ite2 (fun e => ?_) fun e => ?_
  · exact fun p H' n => hb 0 "form" (by unfold readS; rw [if_pos e]) H' p n.same n.fresh n.at_
  · have et : readS t = readW (wordsOf (Txt.split t (sg 10)).dropLast) ((Txt.split t (sg 10)).getLastD Str.empty) := by unfold readS; rw [if_neg e]
    rw [show Str.ofString "\n" = sg 10 from by decide +kernel, show Str.ofString " " = sg 32 from by decide +kernel]
    obtain ⟨Ls, hLs⟩ : ∃ Ls, Ls = Txt.split t (sg 10) := ⟨_, rfl⟩
    rw [← hLs] at et
    have lLs : Ls.length ≤ 3001 := by rw [hLs]; have := split_many t (s := 10) (by decide); omega
    have pLs : ∀ l ∈ Ls, l.length ≤ 3000 := fun l hl => by rw [hLs] at hl; have := split_part (s := 10) (by decide) hl; omega
    have nLs : Ls ≠ [] := by rw [hLs]; exact split_ne t (by decide)
    obtain ⟨Ws, hWs⟩ : ∃ Ws, Ws = wordsOf Ls.dropLast := ⟨_, rfl⟩
    rw [← hWs] at et
    refine ⟨by decide +kernel, by omega, fun p hp => ?_⟩
    rw [← hLs]
    have np := new_of (o := .lst (Ls.map V.str)) hp
    obtain ⟨H1, hH1⟩ : ∃ H1, H1 = L2.upd H p (.lst (Ls.map V.str)) := ⟨_, rfl⟩
    rw [← hH1] at np ⊢
    obtain ⟨last, hlast⟩ : ∃ last, last = Ls.getLastD Str.empty := ⟨_, rfl⟩
    rw [← hlast] at et
    have eLs : Ls = Ls.dropLast ++ [last] := by
      rw [hlast]
      exact (dropLast_snoc nLs Str.empty).symm
    have e6 : atI (Ls.map V.str) (-1) = some (V.str last) := by
      rw [eLs, List.map_append]
      exact atI_last _ _
    refine ⟨p, rfl, _, SqL.of np.at_, fun q H2 n2 => ⟨p, rfl, _, SqL.of (n2.same _ _ np.at_), _, e6, rfl, ?_⟩⟩
    rw [cutV_last, ← List.map_dropLast] at n2
    have p2 := n2.same _ _ np.at_
    -- what follows, for the lines
    obtain ⟨Lx, hLx⟩ : ∃ Lx, Lx = Ls.dropLast ++ (if last = Str.empty then [] else [last]) := ⟨_, rfl⟩
    have lWs : Ws.length = Ls.dropLast.length := by rw [hWs]; simp
    have lL : Ls.length = Ws.length + 1 := by
      have := congrArg List.length eLs
      rw [List.length_append, List.length_singleton, ← lWs] at this
      exact this
    have pWs : ∀ ws ∈ Ws, ∀ z ∈ ws, z.length ≤ 3000 := fun ws hw z hz => by
      rw [hWs] at hw
      obtain ⟨l, hl, rfl⟩ := List.mem_map.mp hw
      have := split_part (s := 32) (by decide) hz
      have := pLs l (List.dropLast_subset _ hl)
      omega
    have wne : ∀ ws ∈ Ws, ws ≠ [] := fun ws hw => by
      rw [hWs] at hw
      obtain ⟨l, hl, rfl⟩ := List.mem_map.mp hw
      exact split_ne l (by decide)
    apply ite_share (fun l H' => Same H H' ∧ H' p = some (.lst (Ls.map V.str)) ∧ H' l = some (.lst (Lx.map V.str)))
    · intro key ne
      refine ⟨p, rfl, _, SqL.of p2, _, e6, fun q2 H3 n3 => ⟨_, n3.same _ _ n2.at_, _, n3.at_, by simp; omega, fun l H4 n4 => ?_⟩⟩
      refine key l H4 ⟨np.same.trans (n2.same.trans (n3.same.trans n4.same)), (n3.same.trans n4.same) _ _ p2, ?_⟩
      rw [n4.at_, hLx, if_neg (fun z => ne (by rw [z]))]
      simp
    · intro key ne
      refine fun q2 H3 n3 => ⟨_, n3.same _ _ n2.at_, _, n3.at_, by simp; omega, fun l H4 n4 => ?_⟩
      refine key l H4 ⟨np.same.trans (n2.same.trans (n3.same.trans n4.same)), (n3.same.trans n4.same) _ _ p2, ?_⟩
      have le : last = Str.empty := by
        by_cases z : last = Str.empty
        · exact z
        · exact absurd (fun q => z (V.str.inj q)) ne
      rw [n4.at_, hLx, if_pos le]
      simp
    intro l H4 ⟨s4, p4, l4⟩ d H5 n5 u H6 n6
    have p6 := (n5.same.trans n6.same) _ _ p4
    have l6 := (n5.same.trans n6.same) _ _ l4
    have s6 := s4.trans (n5.same.trans n6.same)
    have lLx : Lx.length ≤ 3001 := by
      have : Ls.dropLast.length + 1 = Ls.length := by rw [← lWs, lL]
      rw [hLx, List.length_append]
      split <;> simp <;> omega
    have pLx : ∀ x ∈ Lx, x.length ≤ 3000 := fun x hx => by
      refine pLs x ?_
      rw [hLx] at hx
      rw [eLs]
      rcases List.mem_append.mp hx with h | h
      · exact List.mem_append_left _ h
      · split at h
        · cases h
        · exact List.mem_append_right _ h
    have e62 : (2 : Int) ^ 62 = 4611686018427387904 := by decide
    refine ⟨_, SqT.of n6.at_, rfl, _, _, rfl, _, _, rfl, rfl, _, .inl ⟨_, SqL.of l6, rfl⟩, by rw [List.length_map]; omega, by rw [List.length_map]; omega, ?_⟩
    rw [Int.toNat_natCast, List.length_map]
    obtain ⟨Pv, hP⟩ : ∃ Pv : Nat → L2.St → Hp → Prop, Pv = fun i σ H' => ∃ e x4 x5 R, σ = [some (.str t), some (.ref p), some (.ref l), some (.ref e), x4, x5, none, none, none, none, none, none, none, none, none, none] ∧ Same H H' ∧ H' p = some (.lst (Ls.map V.str)) ∧ H' l = some (.lst (Lx.map V.str)) ∧ H' e = some (.lst ((sset R.flatten).map V.str)) ∧ i ≤ Ws.length ∧ Upto Ws i R ∧ Good (Ws.take i) R := ⟨_, rfl⟩
    refine for_B (walk_range (lo := 0) (n := Lx.length)) Pv ?_ (fun _ _ _ _ _ => trivial) (fun i v σ H7 H8 hi h y => ?_) (fun σ H7 h => ?_)
    · rw [hP]
      exact ⟨d, _, _, [], rfl, s6, p6, l6, by rw [n6.same _ _ n5.at_]; rfl, Nat.zero_le _, upto_zero _, by simpa using good_nil⟩
    · rw [hP] at h
      obtain ⟨e, x4, x5, R, rfl, s7, p7, l7, e7, iW, U7, G7⟩ := h
      obtain ⟨rfl, rfl⟩ := y
      obtain ⟨ln, hln⟩ : ∃ ln, Lx[i]? = some ln := ⟨Lx[i], List.getElem?_eq_getElem hi⟩
      obtain ⟨ws, hws⟩ : ∃ ws, ws = Txt.split ln (sg 32) := ⟨_, rfl⟩
      have lln := pLx ln (List.mem_of_getElem? hln)
      have lws : ws.length ≤ 3001 := by rw [hws]; have := split_many ln (s := 32) (by decide); omega
      have pws : ∀ z ∈ ws, z.length ≤ 3000 := fun z hz => by rw [hws] at hz; have := split_part (s := 32) (by decide) hz; omega
      walk_at "rd"
      refine ⟨_, rfl, _, rfl, l, _, _, V.str ln, rfl, rfl, SqL.of l7, by rw [Int.zero_add]; exact atI_nat (by rw [List.getElem?_map, hln]; rfl), ⟨ln, rfl⟩, ln, rfl, _, rfl, by decide +kernel, by omega, fun a hna => ?_⟩
      rw [← hws]
      have n9 := new_of (o := .lst (ws.map V.str)) hna
      obtain ⟨H9, hH9⟩ : ∃ H9, H9 = L2.upd H8 a (.lst (ws.map V.str)) := ⟨_, rfl⟩
      rw [← hH9] at n9 ⊢
      refine ⟨a, rfl, ⟨_, SqL.of n9.at_⟩, fun D hD => lc_it (walk_list (xs := ws.map V.str)) (LcInv H9 D fun acc j _ => acc = (ws.take j).map lw) (lc0 hD (by simp)) (fun _ _ _ ⟨_, _, _, s, _⟩ => SqL.of (s _ _ n9.at_)) (fun j x H10 H11 hj ⟨acc, ha, hl, s1, rq⟩ y => ?_) (fun H10 ⟨acc, ha, hl, s1, rq⟩ => ?_)⟩
      · obtain ⟨rfl, hx⟩ := y
        obtain ⟨z, hz, rfl⟩ := str_list_get hx
        have lz := pws z (List.mem_of_getElem? hz)
        walk_at "rd"
        refine ⟨z, rfl, by omega, fun H12 s12 => lcKeep hD (s12 _ _ ha) hl hj (by simp; omega) (s1.trans s12) ?_⟩
        show acc ++ _ = _
        rw [rq, take_get hz]
        simp
      · have eacc : acc = ws.map lw := by
          rw [show acc = _ from rq, List.take_of_length_le (by simp)]
        subst eacc
        have ha0 : H10 D = some (.lst (ws.map lw)) := ha
        have s910 := n9.same.trans s1
        have s710 := s7.trans s910
        refine ⟨D, _, rfl, .inl (SqL.of ha0), rfl, ?_, _, rfl, ?_⟩
        · rw [List.all_map, List.all_eq_true]
          intro z _
          show flatV (lw z) = true
          unfold lw; split <;> rfl
        have cs : (i < Ws.length ∧ Ws[i]? = some ws) ∨ (i = Ws.length ∧ last ≠ Str.empty) := by
          by_cases h : i < Ws.length
          · left
            refine ⟨h, ?_⟩
            rw [hLx, List.getElem?_append_left (by omega)] at hln
            rw [hWs, List.getElem?_map, hln, hws]; rfl
          · right
            refine ⟨by omega, fun z => ?_⟩
            rw [hLx, if_pos z, List.append_nil] at hi
            omega
        have bad : ∀ why, readS t = .bad i why → ∀ (H0 : Hp), Same H10 H0 → ∀ (b : Addr) (H' : Hp), New H0 b (.tup [V.int (0 + (i : Nat)), .str why]) H' → Q (.ref b) H' := fun why hw H0 s0 b H' n => hb _ why hw H' b ((s710.trans s0).trans n.same) (none_of (s710.trans s0) n.fresh) (by have := n.at_; rwa [Int.zero_add] at this)
        have atend : i = Ws.length → last ≠ Str.empty → readS t = .bad i "form" := fun h1 h2 => by
          rw [et, readW_form (upto_end (h1 ▸ U7)) h2, U7.len]
        rw [lw_in]
        simp only [Bool.false_eq_true, if_false]
        refine ite2 (fun b1 => ?_) fun b1 => ⟨_, .inl ⟨_, SqL.of (s910 _ _ p7), rfl⟩, ite2 (fun b2 => ?_) fun b2 => ?_⟩
        · rcases cs with ⟨c1, c2⟩ | ⟨c1, c2⟩
          · refine bad _ ?_ _ (Same.refl _)
            rw [et]
            exact readW_bad (upto_bad U7 c2 (by unfold fault; rw [if_pos (by simpa using b1)]))
          · exact bad _ (atend c1 c2) _ (Same.refl _)
        · rcases cs with ⟨c1, c2⟩ | ⟨c1, c2⟩
          · rw [List.length_map, lL] at b2; omega
          · exact bad _ (atend c1 c2) _ (Same.refl _)
        · rcases cs with ⟨c1, c2⟩ | ⟨c1, c2⟩
          case inr => rw [List.length_map, lL] at b2; omega
          have al : (ws.map bare).all nameB = true := by simpa using b1
          rw [lw_map al] at ha0
          have lW0 : 0 < Ws.length := by omega
          obtain ⟨w0, hw0⟩ : ∃ w0, Ws[0]? = some w0 := ⟨Ws[0], List.getElem?_eq_getElem lW0⟩
          obtain ⟨l0, hl0⟩ : ∃ l0, Lx[0]? = some l0 := ⟨Lx[0], List.getElem?_eq_getElem (by omega)⟩
          have ew0 : w0 = Txt.split l0 (sg 32) := by
            rw [hLx, List.getElem?_append_left (by omega)] at hl0
            rw [hWs, List.getElem?_map, hl0] at hw0
            simpa using hw0.symm
          have ll0 := pLx l0 (List.mem_of_getElem? hl0)
          have wdth : (ws.length ≠ w0.length) = (R ≠ [] ∧ ws.length ≠ (R.headD []).length) := by
            apply propext
            have rw' := U7.rows
            by_cases iz : i = 0
            · subst iz
              rw [hw0] at c2
              cases c2
              have : R = [] := List.length_eq_zero_iff.mp U7.len
              simp [this]
            · have : R.headD [] = w0.map bare := by
                rw [rw']
                cases hh : Ws with
                | nil => rw [hh] at lW0; cases lW0
                | cons x r =>
                  rw [hh] at hw0
                  cases i with
                  | zero => exact absurd rfl iz
                  | succ i => simp at hw0; subst hw0; simp
              have ne : R ≠ [] := fun z => iz (by rw [← U7.len, z]; rfl)
              rw [this, List.length_map]
              exact ⟨fun h => ⟨ne, h⟩, fun h => h.2⟩
          have widt : (12 < ws.length ∨ ws.length ≠ w0.length) → readS t = .bad i "width" := fun h => by
            rw [et]
            refine readW_bad (upto_bad U7 c2 ?_)
            unfold fault
            rw [if_neg (by rw [al]; decide), if_pos (by rw [← wdth]; exact h)]
          refine ⟨_, .inl ⟨_, SqL.of ha0, rfl⟩, ite2 (fun b3 => bad _ (widt (.inl ?_)) _ (Same.refl _)) fun b3 => ⟨_, .inl ⟨_, SqL.of ha0, rfl⟩, _, SqL.of (s910 _ _ l7), V.str l0, atI_zero (by rw [List.getElem?_map, hl0]; rfl), ⟨l0, rfl⟩, l0, rfl, by decide +kernel, by omega, fun a2 hna2 => ?_⟩⟩
          · rw [List.length_map, List.length_map] at b3; omega
          rw [← ew0]
          have n12 := new_of (o := .lst (w0.map V.str)) hna2
          obtain ⟨H12, hH12⟩ : ∃ H12, H12 = L2.upd H10 a2 (.lst (w0.map V.str)) := ⟨_, rfl⟩
          rw [← hH12] at n12 ⊢
          refine ⟨_, .inl ⟨_, SqL.of n12.at_, rfl⟩, ite2 (fun b4 => bad _ (widt (.inr ?_)) _ n12.same) fun b4 => ?_⟩
          · rw [List.length_map, List.length_map, List.length_map] at b4; omega
          have s1012 := s910.trans n12.same
          have e12 := s1012 _ _ e7
          have nR := G7.mn
          have lw12 : ws.length ≤ 12 := by rw [List.length_map, List.length_map] at b3; omega
          have s712 := s7.trans s1012
          refine ⟨D, rfl, _, e12, _, n12.same _ _ ha0, by simp only [List.length_map]; omega, fun p3 H13 n13 => ⟨sset R.flatten ++ ws.map bare, SqL.of (by rw [n13.at_, List.map_append]), by rw [List.length_append, List.length_map]; unfold scanBound; omega, fun p4 L4 H14 n14 l4 m4 => ⟨L4, n14.at_, by rw [List.length_append, List.length_map] at l4; unfold scanBound; omega, fun p5 H15 n15 => ?_⟩⟩⟩
          have eL4 : sset L4 = sset (R ++ [ws.map bare]).flatten := by
            rw [List.flatten_append, List.flatten_singleton, ← sset_app]
            exact sset_eq (sset_sorted _) fun x => by rw [mem_sset, m4]
          rw [eL4] at n15
          have s1215 := n13.same.trans (n14.same.trans n15.same)
          have s1015 := n12.same.trans s1215
          have many : (R.length = 12 ∨ 12 < (sset (R ++ [ws.map bare]).flatten).length) → readS t = .bad i "many" := fun h => by
            rw [et]
            refine readW_bad (upto_bad U7 c2 ?_)
            unfold fault
            rw [if_neg (by rw [al]; decide), if_neg (by rw [← wdth]; simp only [List.length_map] at b3 b4; omega), if_pos h]
          refine ite2 (fun b5 => bad _ (many (.inl ?_)) _ s1015) fun b5 => ⟨_, .inl ⟨_, SqL.of n15.at_, rfl⟩, ite2 (fun b6 => bad _ (many (.inr ?_)) _ s1015) fun b6 => ?_⟩
          · rw [U7.len]; omega
          · rw [List.length_map] at b6; omega
          have fn : fault ws R = none := by
            unfold fault
            rw [if_neg (by rw [al]; decide), if_neg (by rw [← wdth]; simp only [List.length_map] at b3 b4; omega), if_neg (by rw [U7.len]; rw [List.length_map] at b6; omega)]
          have s815 := s910.trans s1015
          rw [hP]
          refine ⟨p5, _, _, R ++ [ws.map bare], rfl, s7.trans s815, s815 _ _ p7, s815 _ _ l7, n15.at_, c1, upto_next U7 c2 fn, ?_⟩
          have := scan_good (rest := [ws]) (R' := R ++ [ws.map bare]) (by simpa using wne ws (List.mem_of_getElem? c2)) G7 (by simp only [scan, fn])
          rw [take_get c2]
          exact this
    · rw [hP] at h
      obtain ⟨e, x4, x5, R, rfl, s7, p7, l7, e7, iW, U7, G7⟩ := h
      have le : last = Str.empty := by
        by_cases z : last = Str.empty
        · exact z
        · rw [hLx, if_neg z, List.length_append, ← lWs, List.length_singleton] at iW
          omega
      have eLx : Lx = Ls.dropLast := by rw [hLx, if_pos le, List.append_nil]
      rw [eLx, ← lWs] at U7 G7
      rw [List.take_length] at G7
      have U8 := upto_end U7
      have lR : R.length = Ws.length := good_take G7
      have rW : ∀ {j ln}, Lx[j]? = some ln → Ws[j]? = some (Txt.split ln (sg 32)) := fun h => by
        rw [eLx] at h
        rw [hWs, List.getElem?_map, h]; rfl
      have nWs : Ws ≠ [] := fun z => by
        have : Ls.dropLast.length = 0 := by rw [← lWs, z]; rfl
        rw [List.length_eq_zero_iff.mp this, List.nil_append] at eLs
        rw [hLs] at eLs
        exact ‹¬ t = Str.empty› (by rw [← split_one (by decide) eLs]; exact le)
      have hh := G7.hh
      have wdW : ∀ ws ∈ Ws, ws.length = (R.headD []).length ∧ ws.length ≤ 12 ∧ ∀ z ∈ ws, nameB (bare z) = true := fun ws hw => by
        have : ws.map bare ∈ R := by rw [G7.rows]; exact List.mem_map.mpr ⟨ws, hw, rfl⟩
        have w1 := G7.wd _ this
        rw [List.length_map] at w1
        exact ⟨w1.1, w1.2.2, fun z hz => G7.nm _ this _ (List.mem_map.mpr ⟨z, hz, rfl⟩)⟩
      walk_at "rd"
      refine ⟨_, rfl, l, rfl, ⟨_, SqL.of l7⟩, fun D hD => lc_it (walk_list (xs := Lx.map V.str)) (LcInv H7 D fun acc j H' => ∃ bs, acc = bs.map V.ref ∧ Paired (StrL H') bs (R.take j) ∧ ∀ b ∈ bs, b ≠ D) (lc0 hD ⟨[], rfl, .nil, by simp⟩) (fun _ _ _ ⟨_, _, _, s, _⟩ => SqL.of (s _ _ l7)) (fun j x H80 H8 hj ⟨acc, ha, hl, s1, bs, eb, hb', nb⟩ y => ?_) (fun H8 ⟨acc, ha, hl, s1, bs, eb, hb', nb⟩ => ?_)⟩
      · obtain ⟨rfl, hx⟩ := y
        obtain ⟨ln, hln, rfl⟩ := str_list_get hx
        have hw := rW hln
        obtain ⟨ws, hws⟩ : ∃ ws, ws = Txt.split ln (sg 32) := ⟨_, rfl⟩
        rw [← hws] at hw
        obtain ⟨w1, w2, w3⟩ := wdW ws (List.mem_of_getElem? hw)
        have wl := pWs ws (List.mem_of_getElem? hw)
        have lln := pLx ln (List.mem_of_getElem? hln)
        have hR : R[j]? = some (ws.map bare) := by rw [G7.rows, List.getElem?_map, hw]; rfl
        have jl : j < Lx.length := by simpa using hj
        walk_at "rd"
        refine ⟨V.str ln, rfl, ⟨ln, rfl⟩, ln, rfl, _, rfl, by decide +kernel, by omega, fun a hna => ?_⟩
        rw [← hws]
        have n9 := new_of (o := .lst (ws.map V.str)) hna
        obtain ⟨H9, hH9⟩ : ∃ H9, H9 = L2.upd H8 a (.lst (ws.map V.str)) := ⟨_, rfl⟩
        rw [← hH9] at n9 ⊢
        refine ⟨a, rfl, ⟨_, SqL.of n9.at_⟩, fun D2 hD2 => lc_it (walk_list (xs := ws.map V.str)) (LcInv H9 D2 fun acc j _ => acc = (ws.take j).map lw) (lc0 hD2 (by simp)) (fun _ _ _ ⟨_, _, _, s, _⟩ => SqL.of (s _ _ n9.at_)) (fun j2 x H10 H11 hj2 ⟨acc2, ha2, hl2, s2, rq2⟩ y => ?_) (fun H10 ⟨acc2, ha2, hl2, s2, rq2⟩ => ?_)⟩
        · obtain ⟨rfl, hx2⟩ := y
          obtain ⟨z, hz, rfl⟩ := str_list_get hx2
          have lz := wl z (List.mem_of_getElem? hz)
          walk_at "rd"
          refine ⟨z, rfl, by omega, fun H12 s12 => lcKeep hD2 (s12 _ _ ha2) hl2 hj2 (by simp; omega) (s2.trans s12) ?_⟩
          show acc2 ++ _ = _
          rw [rq2, take_get hz]
          simp
        · have eacc : acc2 = (ws.map bare).map V.str := by
            rw [show acc2 = _ from rq2, List.take_of_length_le (by simp), lw_map]
            exact List.all_eq_true.mpr fun x hx => by
              obtain ⟨z, hz, rfl⟩ := List.mem_map.mp hx
              exact w3 z hz
          subst eacc
          have s810 := n9.same.trans s2
          have dD : D2 ≠ D := fun z => by have := s810 _ _ ha; rw [z] at hD2; rw [n9.same _ _ ha] at hD2; cases hD2
          refine lcKeep hD (s810 _ _ ha) hl hj (by simp; omega) (s1.trans s810) ⟨bs ++ [D2], by rw [eb]; simp, ?_, fun b hb2 => ?_⟩
          · rw [take_get hR]
            refine paired_app (Paired.mapP (paired_allIn hb' nb) fun b z k => ?_) (.cons ?_ .nil)
            · show L2.upd H10 D _ b = _
              rw [upd_ne k.2]; exact s810 _ _ k.1
            · show L2.upd H10 D _ D2 = _
              rw [upd_ne dD]; exact ha2
          · rcases List.mem_append.mp hb2 with h | h
            · exact nb b h
            · simp at h; rw [h]; exact dD
      rw [List.take_of_length_le (by rw [List.length_map, eLx, ← lWs, lR]; exact Nat.le_refl _)] at hb'
      have R8 : RowsL H8 D R := ⟨bs, by rw [ha, eb], hb'⟩
      have s78 := s7.trans s1
      have p8 := s1 _ _ p7
      have l8 := s1 _ _ l7
      have e8 := s1 _ _ e7
      have fD : H D = none := none_of s7 hD
      clear l7 e7 ha hl hb' nb eb
      have nR : R ≠ [] := fun z => nWs (List.length_eq_zero_iff.mp (by rw [← lR, z]; rfl))
      obtain ⟨R0, Rt, eR⟩ : ∃ R0 Rt, R = R0 :: Rt := by cases R with | nil => exact absurd rfl nR | cons a b => exact ⟨a, b, rfl⟩
      obtain ⟨m, hm⟩ : ∃ m, m = (R.headD []).length := ⟨_, rfl⟩
      have m12 : m ≤ 12 := by rw [hm, eR]; exact (G7.wd R0 (by rw [eR]; simp)).2.2
      have nm : R.length * m ≤ 144 := Nat.mul_le_mul hh m12
      have lenR : ∀ {H' : Hp}, RowsL H' D R → LenV K (.ref D) H' R.length := fun ⟨as, h1, h2⟩ => .inl ⟨_, SqL.of h1, by rw [List.length_map, h2.length]⟩
      have R0L : ∀ {H' : Hp}, RowsL H' D R → ∃ xs a0, SqL K H' D xs ∧ atI xs 0 = some (.ref a0) ∧ LenV K (.ref a0) H' m := fun ⟨as, h1, h2⟩ => by
        obtain ⟨a0, ha0, hza0⟩ := paired_at2 (i := 0) h2 (show R[0]? = some (R.headD []) by rw [eR]; rfl)
        exact ⟨_, a0, SqL.of h1, atI_zero (by rw [List.getElem?_map, ha0]; rfl), .inl ⟨_, SqL.of hza0, by rw [List.length_map, hm]⟩⟩
      obtain ⟨xs0, a0, q1, q2, q3⟩ := R0L R8
      have lenW : ∀ ws ∈ Ws, ws.length = m := fun ws hw => by rw [hm]; exact (wdW ws hw).1
      have gridW : (gridAll m 0 R.length).filter (fun c => star (at_ Ws c)) = roadOf Ws := by rw [lR]; exact gridAll_filter lenW star
      refine ⟨_, rfl, _, R.length, rfl, lenR R8, _, rfl, D, _, 0, _, rfl, rfl, q1, q2, _, m, rfl, q3, R.length, m, rfl, by omega, by omega, by omega, fun H9 c s9 fc hc => ⟨c, rfl, ?_⟩⟩
      obtain ⟨ts, hcs, tC⟩ := hc
      have lts := tC.len
      have lgr := gridAll_len m R.length 0
      refine ⟨⟨_, SqL.of hcs⟩, fun D3 hD3 => lc_it (walk_list (xs := ts.map V.ref)) (LcInv H9 D3 fun acc j H' => ∃ us, acc = us.map V.ref ∧ Cells H' us (((gridAll m 0 R.length).take j).filter fun c => star (at_ Ws c))) (lc0 hD3 ⟨[], rfl, by simp; exact .nil⟩) (fun _ _ _ ⟨_, _, _, s, _⟩ => SqL.of (s _ _ hcs)) (fun j x H100 H10 hj ⟨acc, ha, hl, s1, us, e1, rq⟩ y => ?_) (fun H10 ⟨acc, ha, hl, s1, us, e1, rq⟩ => ?_)⟩
      · obtain ⟨rfl, hx⟩ := y
        obtain ⟨u, hu, rfl⟩ := map_ref_get hx
        obtain ⟨cc, hcc, hcu⟩ := tC.get hu
        have jt : j < ts.length := by simpa using hj
        obtain ⟨r, k, hr, hk, rfl⟩ := mem_gridAll.mp (List.mem_of_getElem? hcc)
        rw [Nat.zero_add] at hcc hcu
        obtain ⟨ln, hln⟩ : ∃ ln, Lx[r]? = some ln := ⟨Lx[r]'(by rw [eLx, ← lWs]; omega), List.getElem?_eq_getElem _⟩
        have hw := rW hln
        obtain ⟨ws, hws⟩ : ∃ ws, ws = Txt.split ln (sg 32) := ⟨_, rfl⟩
        rw [← hws] at hw
        have lw0 := lenW ws (List.mem_of_getElem? hw)
        have lln := pLx ln (List.mem_of_getElem? hln)
        obtain ⟨z, hz⟩ : ∃ z, ws[k]? = some z := ⟨ws[k]'(by omega), List.getElem?_eq_getElem _⟩
        have lz := pWs ws (List.mem_of_getElem? hw) z (List.mem_of_getElem? hz)
        have ez : at_ Ws ((r : Int), (k : Int)) = z := by
          unfold at_
          simp [List.getD_eq_getElem?_getD, hw, hz]
        have l10 := s1 _ _ (s9 _ _ l8)
        have u10 := s1 _ _ hcu
        have e1' : (V.str (cutS z (some (-1)) none) = V.str (Str.ofString "*")) = (star z = true) := by rw [V.str.injEq, last_star]
        walk_at "rd"
        refine ⟨_, SqT.of u10, _, atI_zero rfl, _, _, rfl, SqL.of l10, V.str ln, atI_nat (by rw [List.getElem?_map, hln]; rfl), ⟨ln, rfl⟩, ln, rfl, by decide +kernel, by omega, fun a2 hna => ?_⟩
        rw [← hws]
        have n11 := new_of (o := .lst (ws.map V.str)) hna
        obtain ⟨H11, hH11⟩ : ∃ H11, H11 = L2.upd H10 a2 (.lst (ws.map V.str)) := ⟨_, rfl⟩
        rw [← hH11] at n11 ⊢
        refine ⟨_, SqT.of (n11.same _ _ u10), V.int (k : Nat), rfl, a2, rfl, _, _, rfl, SqL.of n11.at_, V.str z, atI_nat (by rw [List.getElem?_map, hz]; rfl), z, rfl, by rw [sizeLine_eq]; omega, rfl, ?_⟩
        have nx : (((gridAll m 0 R.length).take (j + 1)).filter fun c => star (at_ Ws c)) = (((gridAll m 0 R.length).take j).filter fun c => star (at_ Ws c)) ++ (if star z = true then [((r : Int), (k : Int))] else []) := by
          rw [take_get hcc, List.filter_append]
          congr 1
          rw [List.filter_cons, ez]
          split <;> rfl
        refine ite2 (fun b => ?_) fun b => ?_
        · have b := e1' ▸ b
          refine lcKeep hD3 (n11.same _ _ ha) hl hj (by rw [List.length_map]; omega) (s1.trans n11.same) ⟨us ++ [u], by rw [e1]; simp, ?_⟩
          rw [nx, if_pos b]
          exact (Cells.updL (n11.same _ _ ha) (rq.same n11.same)).app (.cons (CellV.updL (n11.same _ _ ha) (n11.same _ _ u10)) .nil)
        · have b := e1' ▸ b
          refine lcSkip (n11.same _ _ ha) hl (s1.trans n11.same) ⟨us, e1, ?_⟩
          rw [nx, if_neg b, List.append_nil]
          exact rq.same n11.same
      rw [List.take_of_length_le (by rw [List.length_map, lts]; exact Nat.le_refl _), gridW] at rq
      have f3 : H D3 = none := none_of (s78.trans s9) hD3
      have d3 : H10 D3 = some (.lst (us.map V.ref)) := by rw [ha, e1]
      have s810 := s9.trans s1
      have R10 := R8.same s810
      have l10 := s810 _ _ l8
      have p10 := s810 _ _ p8
      have e10 := s810 _ _ e8
      have s710 := s78.trans s810
      have lus := rq.len
      have dW : Dims Ws := ⟨by omega, fun x hx => (wdW x hx).2.1⟩
      have few : (roadOf Ws).length ≤ 144 := cells_few dW star
      clear ha hl e1
      refine ⟨_, rfl, D3, rfl, ⟨_, SqL.of d3⟩, fun D4 hD4 => lc_it (walk_list (xs := us.map V.ref)) (LcInv H10 D4 fun acc j H' => ∃ vs, acc = vs.map V.ref ∧ Cells H' vs (((roadOf Ws).take j).filter fun c => !edgeB c (dimH R) (dimW R))) (lc0 hD4 ⟨[], rfl, by simp; exact .nil⟩) (fun _ _ _ ⟨_, _, _, s, _⟩ => SqL.of (s _ _ d3)) (fun j x H110 H11 hj ⟨acc, ha, hl, s1, vs, e1, rq1⟩ y => ?_) (fun H11 ⟨acc, ha, hl, s1, vs, e1, rq1⟩ => ?_)⟩
      · obtain ⟨rfl, hx⟩ := y
        obtain ⟨u, hu, rfl⟩ := map_ref_get hx
        obtain ⟨cc, hcc, hcu⟩ := rq.get hu
        have jt : j < us.length := by simpa using hj
        have R11 := R10.same s1
        obtain ⟨xs0, a0, q1, q2, q3⟩ := R0L R11
        walk_at "rd"
        refine ⟨_, lenR R11, _, q1, _, q2, m, q3, u, cc, _, _, rfl, s1 _ _ hcu, fun H12 s12 => ⟨_, rfl, ?_⟩⟩
        have nx : ∀ b, edgeB cc (dimH R) (dimW R) = b → (((roadOf Ws).take (j + 1)).filter fun c => !edgeB c (dimH R) (dimW R)) = (((roadOf Ws).take j).filter fun c => !edgeB c (dimH R) (dimW R)) ++ (if b = true then [] else [cc]) := fun b eb => by
          rw [take_get hcc, List.filter_append]
          subst eb
          cases q : edgeB cc (dimH R) (dimW R) <;> simp [q]
        rw [hm]
        refine ite2 (fun b => ?_) fun b => ?_
        · refine lcKeep hD4 (s12 _ _ ha) hl hj (by rw [List.length_map]; omega) (s1.trans s12) ⟨vs ++ [u], by rw [e1]; simp, ?_⟩
          rw [nx _ b]
          exact (Cells.updL (s12 _ _ ha) (rq1.same s12)).app (.cons (CellV.updL (s12 _ _ ha) (s12 _ _ (s1 _ _ hcu))) .nil)
        · refine lcSkip (s12 _ _ ha) hl (s1.trans s12) ⟨vs, e1, ?_⟩
          rw [nx true (by cases q : edgeB cc (dimH R) (dimW R) with | true => rfl | false => exact absurd q b)]
          simp
          exact rq1.same s12
      rw [List.take_of_length_le (by rw [List.length_map, lus]; exact Nat.le_refl _)] at rq1
      have rq1 : Cells H11 vs (innerOf Ws R) := rq1
      have lvs := rq1.len
      have d4 : H11 D4 = some (.lst (vs.map V.ref)) := by rw [ha, e1]
      refine fun p12 H12 n12 => ⟨D4, rfl, _, SqL.of (n12.same _ _ d4), SqL.of n12.at_, ite2 (fun b => ?_) fun b => ?_⟩
      · cases e : innerOf Ws R with
        | nil => rw [e] at lvs; rw [List.length_eq_zero_iff.mp lvs] at b; simp at b
        | cons c cs =>
          obtain ⟨v0, hv0, hcv⟩ := rq1.get2 (i := 0) (c := c) (by rw [e]; rfl)
          refine ⟨D4, rfl, _, SqL.of (n12.same _ _ d4), V.ref v0, atI_zero (by rw [List.getElem?_map, hv0]; rfl), v0, rfl, _, SqT.of (n12.same _ _ hcv), V.int c.1, atI_zero rfl, fun p13 H13 n13 => ?_⟩
          exact hb c.1 "inner" (et.trans (readW_inner U8 le e)) H13 p13 (s710.trans (s1.trans (n12.same.trans n13.same))) (none_of (s710.trans (s1.trans n12.same)) n13.fresh) n13.at_
      have inn : innerOf Ws R = [] := by
        cases e : innerOf Ws R with
        | nil => rfl
        | cons c cs => rw [e] at lvs; cases vs with | nil => cases lvs | cons => simp at b
      have s1012 := s1.trans n12.same
      have R12 := R10.same s1012
      have d12 := s1012 _ _ d3
      have C12 := rq.same s1012
      have e12 := s1012 _ _ e10
      have s712 := s710.trans s1012
      clear ha hl e1 b
      refine fun g H13 n13 => ⟨⟨_, SqL.of (n13.same _ _ e12)⟩, ?_⟩
      obtain ⟨ns, hns⟩ : ∃ ns, ns = sset R.flatten := ⟨_, rfl⟩
      rw [← hns] at e12
      have ns12 : ns.length ≤ 12 := by rw [hns]; exact G7.mn
      have dR : Dims R := ⟨hh, fun x hx => (G7.wd x hx).2.2⟩
      obtain ⟨Pv, hP2⟩ : ∃ Pv : Nat → L2.St → Hp → Prop, Pv = fun i σ H' => ∃ g x10 x11 x12, σ = [some (.str t), some (.ref p), some (.ref l), some (.ref e), x4, x5, some (.ref D), some (.ref D3), some (.ref D4), some (.ref g), x10, x11, x12, none, none, none] ∧ Same H H' ∧ H' e = some (.lst (ns.map V.str)) ∧ RowsL H' D R ∧ CellL H' D3 (roadOf Ws) ∧ H' g = some (.lst (((ns.take i).flatMap fun x => lostOf (cellsOf R x)).map V.int)) := ⟨_, rfl⟩
      refine for_B (walk_list (xs := ns.map V.str)) Pv ?_ (fun i σ H' _ h => ?_) (fun i v σ H14 H15 hi h y => ?_) (fun σ H14 h => ?_)
      · rw [hP2]
        exact ⟨g, _, _, _, rfl, s712.trans n13.same, n13.same _ _ e12, R12.same n13.same, ⟨_, n13.same _ _ d12, C12.same n13.same⟩, n13.at_⟩
      · rw [hP2] at h
        obtain ⟨_, _, _, _, _, _, h, _⟩ := h
        exact SqL.of h
      · rw [hP2] at h
        obtain ⟨g, x10, x11, x12, rfl, s14, e14, R14, C14, g14⟩ := h
        obtain ⟨rfl, hx⟩ := y
        obtain ⟨x, hx', rfl⟩ := str_list_get hx
        have xin : x ∈ R.flatten := mem_sset.mp (by rw [← hns]; exact List.mem_of_getElem? hx')
        obtain ⟨cs, hcs⟩ : ∃ cs, cs = cellsOf R x := ⟨_, rfl⟩
        have lcs : cs.length ≤ 144 := by rw [hcs]; exact cells_few dR (isN x)
        have so : cs.Pairwise ltC := by rw [hcs]; exact cellsBy_sorted (isN x) R
        have ncs : cs ≠ [] := by rw [hcs]; exact cells_ne xin
        obtain ⟨c0, cr, ec⟩ : ∃ c0 cr, cs = c0 :: cr := by cases cs with | nil => exact absurd rfl ncs | cons a b => exact ⟨a, b, rfl⟩
        walk_at "rd"
        refine ⟨D, R, x, rfl, R14, by rw [eR]; simp, hh, fun r hr => ⟨(G7.wd r hr).2.2, (G7.wd r hr).1⟩, fun H16 p16 s16 f16 c16 => ⟨rfl, fun H17 p17 s17 f17 c17 => ?_⟩⟩
        rw [← hcs] at c16
        refine ⟨p16, p17, cs, rfl, c16.same s17, c17, so, by omega, fun H18 p18 s18 f18 g18 => ?_⟩
        obtain ⟨gs, hg18, gP⟩ := g18
        obtain ⟨t0, hg0, _⟩ := grp_head (by rw [← ec]; exact so)
        rw [ec, hg0] at gP
        obtain ⟨b0, hb0, hcb⟩ := paired_at2 (i := 0) gP (show _ = some (comp (c0 :: cr) c0) from rfl)
        rw [← ec] at hcb
        refine .inl ⟨p18, _, 0, V.ref b0, rfl, rfl, SqL.of hg18, atI_zero (by rw [List.getElem?_map, hb0]; rfl), ?_⟩
        obtain ⟨ts, h16, tC⟩ := c16
        have s1618 := s17.trans s18
        have h18 := s1618 _ _ h16
        have tC18 := tC.same s1618
        obtain ⟨ys, hys, yC⟩ := hcb
        have lts := tC.len
        refine ⟨_, rfl, p16, rfl, ⟨_, SqL.of h18⟩, fun D5 hD5 => lc_it (walk_list (xs := ts.map V.ref)) (LcInv H18 D5 fun acc j _ => acc = (((cs.take j).filter fun c => decide (c ∉ comp cs c0)).map (·.1)).map V.int) (lc0 hD5 (by simp)) (fun _ _ _ ⟨_, _, _, s, _⟩ => SqL.of (s _ _ h18)) (fun j x H190 H19 hj ⟨acc, ha, hl, s1, rq2⟩ y => ?_) (fun H19 ⟨acc, ha, hl, s1, rq2⟩ => ?_)⟩
        · obtain ⟨rfl, hx⟩ := y
          obtain ⟨u, hu, rfl⟩ := map_ref_get hx
          obtain ⟨cc, hcc, hcu⟩ := tC18.get hu
          have jt : j < ts.length := by simpa using hj
          walk_at "rd"
          have nx : (((cs.take (j + 1)).filter fun c => decide (c ∉ comp cs c0)).map (·.1)).map V.int = (((cs.take j).filter fun c => decide (c ∉ comp cs c0)).map (·.1)).map V.int ++ (if ¬ cc ∈ comp cs c0 then [V.int cc.1] else []) := by
            rw [take_get hcc, List.filter_append, List.map_append, List.map_append]
            congr 1
            by_cases q : cc ∈ comp cs c0 <;> simp [q]
          refine ⟨cc, s1 _ _ hcu, ys, SqL.of (s1 _ _ hys), comp cs c0, by rw [ec] at yC ⊢; exact yC.same s1, ite2 (fun b => ?_) fun b => ?_⟩
          · refine ⟨_, SqT.of (s1 _ _ hcu), _, atI_zero rfl, lcKeep hD5 ha hl hj (by rw [List.length_map]; omega) s1 ?_⟩
            show acc ++ _ = _
            rw [nx, if_pos b, rq2]
          · refine lcSkip ha hl s1 ?_
            show acc = _
            rw [nx, if_neg b, List.append_nil]
            exact rq2
        · have el : ((cs.filter fun c => decide (c ∉ comp cs c0)).map (·.1)) = lostOf cs := by
            unfold lostOf
            rw [ec]
            simp only [List.headD_cons]
            congr 1
          have eacc : acc = (lostOf cs).map V.int := by
            rw [show acc = _ from rq2, List.take_of_length_le (by rw [List.length_map]; omega), el]
          subst eacc
          have ha5 : H19 D5 = some (.lst ((lostOf cs).map V.int)) := ha
          have s1519 := s16.trans (s1618.trans s1)
          have b1 : ((ns.take i).flatMap fun x => lostOf (cellsOf R x)).length ≤ (ns.take i).length * 144 := flatMap_len fun x _ => Nat.le_trans (lostOf_len _) (cells_few dR (isN x))
          have b2 := lostOf_len cs
          have b3 : (ns.take i).length ≤ 12 := by rw [List.length_take]; omega
          refine ⟨D5, rfl, _, s1519 _ _ g14, _, ha5, by rw [List.length_map, List.length_map]; omega, fun p20 H20 n20 => ?_⟩
          have s1520 := s1519.trans n20.same
          rw [hP2]
          refine ⟨p20, _, _, _, rfl, s14.trans s1520, s1520 _ _ e14, R14.same s1520, C14.same s1520, ?_⟩
          rw [n20.at_, take_get hx', List.flatMap_append, List.map_append, hcs]
          simp
      · rw [hP2] at h
        obtain ⟨g, x10, x11, x12, rfl, s14, e14, R14, C14, g14⟩ := h
        rw [List.take_of_length_le (by rw [List.length_map]; exact Nat.le_refl _), hns] at g14
        have g14 : H14 g = some (.lst ((lostL R).map V.int)) := g14
        walk_at "rd"
        refine fun p15 H15 n15 => ⟨_, SqL.of (n15.same _ _ g14), SqL.of n15.at_, ite2 (fun b => ?_) fun b => ?_⟩
        · have lz : lostL R ≠ [] := fun z => by rw [z] at b; simp at b
          refine ⟨g, lostL R, rfl, SqL.of (n15.same _ _ g14), List.length_pos_iff.mpr lz, fun mi hmi hle p16 H16 n16 => ?_⟩
          have em := minI_eq hmi hle
          have s16 := s14.trans n15.same
          refine hb _ "apart" (et.trans (readW_apart U8 le inn lz)) H16 p16 (s16.trans n16.same) (none_of s16 n16.fresh) ?_
          rw [em]; exact n16.at_
        · have lz : lostL R = [] := by
            cases q : lostL R with
            | nil => rfl
            | cons a b' => rw [q] at b; simp at b
          refine fun p16 H16 n16 => ?_
          have s16 := s14.trans n15.same
          have s1416 := n15.same.trans n16.same
          refine hg R (roadOf Ws) (et.trans (readW_ok U8 le inn lz)) H16 p16 D D3 (s16.trans n16.same) (none_of s16 n16.fresh) n16.at_ (R14.same s1416) (C14.same s1416) hh (fun x hx => ⟨(G7.wd x hx).2.2, fun z hz => ?_⟩) few
          have := G7.nm x hx z hz
          unfold nameB at this
          simp at this
          exact this.2.1
end
end Dk
-- text N1
set_option maxHeartbeats 1000000
namespace Dk
open PySem PySem.Spec PyProof.Rows L2
local macro_rules | `(tactic| walk_at "rd") => `(tactic| simp only [tRet, tRetN, tSeq, tAsg, tIfS, tB, tVar, tC, tCons, tNil, tCB, tCall, tOp, tUn, rI0, rI, rU, rEq, rNe, gName, tAnd, tOr, tNot, tAndV, tOrV, tNotV, tIf, tTest, tChain, tDrop, tNext, tBreak, tCont, tTup, tLst, tBM, tBM0, tM0, tM1, tSl, tPart, tNoPart, tPar,
  rIs, rIs2, rIxL, rIxT, rIxS, rAppend, rExtend, rPop, rPopAt, gTup, gCons, gNil, gSub, tYes, wipe, tD1, tDcC, rListC, rSortC, rEmp, rJoin, tM1, gFld, tFld, sFld, rMinDef, tCKw, StX.tStar, rLen, tDGet2, tNo, tScN, rSortTx, rSetTx, iKeys, tPar3, sDPut, tFor_eq, iList, iEnum, iStr, iZip, cxK, cxP, cxW, tTup_, tLst_, tDNewK_, tDNewT_, rSlL_, rListOf_, rCatN, rRepN, rListStr, iRng1, rLenT, rInC, rDictC, sizeLine_eq, Nat.reduceLeDiff, Bool.true_or, Bool.false_or, Bool.or_true, Bool.or_false, Bool.true_and, Bool.false_and, Bool.and_true, Bool.and_false, Bool.not_true, Bool.not_false, Bool.not_eq_true', decide_eq_true_eq, decide_eq_false_iff_not, scal, isT_Non_boo, isT_Non_int, isT_Non_str, isT_Non_lis, isT_Non_tup, isT_Non_dic, isT_boo_boo, isT_boo_int, isT_boo_str, isT_boo_lis, isT_boo_tup, isT_boo_dic, isT_int_boo, isT_int_int, isT_int_str, isT_int_lis, isT_int_tup, isT_int_dic, isT_str_boo, isT_str_int, isT_str_str, isT_str_lis, isT_str_tup, isT_str_dic, isT_lis_boo, isT_lis_int, isT_lis_str, isT_lis_lis, isT_lis_tup, isT_lis_dic, isT_tup_boo, isT_tup_int, isT_tup_str, isT_tup_lis, isT_tup_tup, isT_tup_dic, isT_dic_boo, isT_dic_int, isT_dic_str, isT_dic_lis, isT_dic_tup, isT_dic_dic, kit_Non, kit_boo, kit_int, kit_str, kit_lis, kit_tup, kit_dic, sg_inj, vt_non, vt_bl, vt_int, vt_str, len_str, tDGet, tDIn, tDNotIn,
  L2.start, List.map_cons, List.map_nil, List.length_cons, List.length_nil, List.cons_append, List.nil_append, List.append_nil, Nat.zero_add, Nat.reduceAdd, Nat.reduceSub, Nat.sub_zero, Nat.sub_self, List.replicate_succ, List.replicate_zero,
  List.getElem?_cons_zero, List.getElem?_cons_succ, List.getElem?_nil, List.set_cons_zero, List.set_cons_succ, List.cons.injEq, Option.some.injEq, V.int.injEq, V.str.injEq, V.bl.injEq, V.ref.injEq, V.ty.injEq, reduceCtorEq,
  and_assoc, and_true, true_and, false_and, and_false, exists_eq_left, exists_eq_left', exists_eq', exists_eq_right, exists_eq_right', exists_and_left, exists_and_right, exists_const, exists_false, exists_eq, if_true, if_false, Bool.false_eq_true, Bool.true_eq, decide_true, decide_false, ite_self])
def bagL (c : Addr) (i r s n : Int) : List V := [.ref c, .int i, .int r, .int s, .int n]
def BagAt (H : Hp) (b c : Addr) : Prop := ∃ (xs : List Int) (i r s n : Int), H b = some (.lst (bagL c i r s n)) ∧ H c = some (.lst (xs.map V.int)) ∧ 0 ≤ i ∧ 0 ≤ r ∧ 0 ≤ s ∧ s < 4294967296
theorem share {A : Prop} {G : Hp → Prop} (Pre : Hp → Prop) (h : (∀ H, Pre H → G H) → A) (k : ∀ H, Pre H → G H) : A := h k
section
variable {P : Program} {w : World} {K : PySem.W.Frag} {mg : Str → Option Value} {base : Heap}
def sp_law_bag (K : PySem.W.Frag) : Sp := fun vs H Q _ => ∃ (l : Addr) (ns : List Int), vs = [.ref l] ∧ SqL K H l (ns.map V.int) ∧ ns.length ≤ 1000 ∧ ∀ H' b c, Same H H' → H b = none → BagAt H' b c → Q (.ref b) H'
theorem c_law_bag (T : Tx K mg) (D : Df K mg "_law_bag" s_law_bag) : Cal P w K mg base CX0 1 "_law_bag" p_law_bag (sp_law_bag K) := by
  have S := sc_law_bag
  refine cal0 D S (fun _ _ _ _ _ _ us hl => match us, hl with | [_], _ => rfl) (fun vs H Q E h => ?_) (fun f cdv A outer s H vs Q E hr h => ?_)
  · obtain ⟨_, _, rfl, _⟩ := h
    rfl
  refine ⟨_, (pss_cons (ps_set (i := 1) S.nd rfl (by first | exact Or.inl rfl | exact Or.inr rfl) (pe_callTy (T := "list") (r := rListOf_ K) call_listOf_ (by rfl) (T.fr _ (by decide)) (by decide +kernel) (pa_cons (pe_slice (r := rSlL_ K) sl_list_ (pv 0) po_none (po_some pe_int)) pa_nil)))
      (pss_one (ps_ret (pe_lst_ (pa_cons (pv 1) (pa_cons pe_int (pa_cons pe_int (pa_cons (pe_op op_add pe_int (pe_op op_mul pe_int (pe_callB (id := "len") (r := rLen K) (call_len_ rfl) (by rfl) (T.fr _ (by decide)) (by decide +kernel) (pa_cons (pv 1) pa_nil)))) (pa_cons pe_int pa_nil))))))))), ?_⟩
  obtain ⟨l, ns, rfl, hl, ln, q⟩ := h
  walk_at "rd"
  refine ⟨_, hl, fun p1 H1 n1 => ⟨_, .inl (SqL.of n1.at_), fun p2 H2 n2 => ?_⟩⟩
  have ec : cutV (ns.map V.int) none (some 63) = (ns.take 63).map V.int := by
    rw [show (some 63 : Option Int) = some ((63 : Nat) : Int) from rfl, cutV_to, List.map_take]
  refine ⟨_, .inl ⟨_, SqL.of n2.at_, rfl⟩, by unfold CMul; omega, fun p3 H3 n3 => ?_⟩
  have s3 := n1.same.trans (n2.same.trans n3.same)
  rw [ec] at n2 n3
  refine q _ _ p2 s3 (none_of (n1.same.trans n2.same) n3.fresh) ⟨_, _, _, _, _, n3.at_, n3.same _ _ n2.at_, by omega, by omega, by omega, ?_⟩
  rw [List.length_map, List.length_take]
  omega
def sp_law_draw : Sp := fun vs H Q _ => ∃ (b c : Addr) (m : Nat), vs = [.ref b, .int m] ∧ 0 < m ∧ m ≤ 1000000 ∧ BagAt H b c ∧ ∀ (H' : Hp) (d : Nat), Keep [b] H H' → BagAt H' b c → d < m → Q (.int d) H'
theorem c_law_draw (T : Tx K mg) (D : Df K mg "_law_draw" s_law_draw) : Cal P w K mg base CX0 1 "_law_draw" p_law_draw (sp_law_draw) := by
  have S := sc_law_draw
  refine cal0 D S (fun _ _ _ _ _ _ us hl => match us, hl with | [_, _], _ => rfl) (fun vs H Q E h => ?_) (fun f cdv A outer s H vs Q E hr h => ?_)
  · obtain ⟨_, _, _, rfl, _⟩ := h
    rfl
  refine ⟨_, (pss_cons (ps_asg (pe_op op_add (pe_ix (r := rIxL K) ix_list (pv 0) pe_int (fun _ _ => rfl)) pe_int) (pg_sub (pv 0) pe_int set_list))
      (pss_cons (ps_if (PW.pt (pw_and (pt_cmpR op_eq (pe_ix (r := rIxL K) ix_list (pv 0) pe_int (fun _ _ => rfl)) pe_int (nomark _)) (pw_and1 (pt_cmpR op_lt (pe_ix (r := rIxL K) ix_list (pv 0) pe_int (fun _ _ => rfl)) (pe_callB (id := "len") (r := rLen K) (call_len_ rfl) (by rfl) (T.fr _ (by decide)) (by decide +kernel) (pa_cons (pe_ix (r := rIxL K) ix_list (pv 0) pe_int (fun _ _ => rfl)) pa_nil)) (nomark _))))) (pss_cons (ps_set (i := 2) S.nd rfl (by first | exact Or.inl rfl | exact Or.inr rfl) (pe_callB (id := "abs") call_abs (by rfl) (T.fr _ (by decide)) (by decide +kernel) (pa_cons (pe_ix (r := rIxL K) ix_list (pe_ix (r := rIxL K) ix_list (pv 0) pe_int (fun _ _ => rfl)) (pe_ix (r := rIxL K) ix_list (pv 0) pe_int (fun _ _ => rfl)) (fun _ _ => rfl)) pa_nil)))
      (pss_cons (ps_asg (pe_op op_add (pe_ix (r := rIxL K) ix_list (pv 0) pe_int (fun _ _ => rfl)) pe_int) (pg_sub (pv 0) pe_int set_list))
      (pss_one (ps_if (pt_cmpR op_ge (pv 2) (pe_op op_pow pe_int pe_int) (nomark _)) (pss_one (ps_asg (pv 2) (pg_sub (pv 0) pe_int set_list))) (pss_one (ps_asg (pe_op op_mod (pe_callTy (T := "int") call_int1 (by rfl) (T.fr _ (by decide)) (by decide +kernel) (pa_cons (pe_op op_add (pe_op op_add (pe_op op_mul (pe_ix (r := rIxL K) ix_list (pv 0) pe_int (fun _ _ => rfl)) pe_int) (pe_op op_mul (pe_op op_mod (pe_callTy (T := "int") call_int1 (by rfl) (T.fr _ (by decide)) (by decide +kernel) (pa_cons (pv 2) pa_nil)) pe_int) pe_int)) pe_int) pa_nil)) pe_int) (pg_sub (pv 0) pe_int set_list))))))) pss_nil)
      (pss_cons (ps_if (pt_cmpR op_gt (pe_ix (r := rIxL K) ix_list (pv 0) pe_int (fun _ _ => rfl)) pe_int (nomark _)) (pss_cons (ps_set (i := 3) S.nd rfl (by first | exact Or.inl rfl | exact Or.inr rfl) (pe_op op_mod (pe_callTy (T := "int") call_int1 (by rfl) (T.fr _ (by decide)) (by decide +kernel) (pa_cons (pe_ix (r := rIxL K) ix_list (pv 0) pe_int (fun _ _ => rfl)) pa_nil)) (pv 1)))
      (pss_cons (ps_asg (pe_op op_fdiv (pe_ix (r := rIxL K) ix_list (pv 0) pe_int (fun _ _ => rfl)) (pv 1)) (pg_sub (pv 0) pe_int set_list))
      (pss_one (ps_ret (pv 3))))) pss_nil)
      (pss_cons (ps_set (i := 4) S.nd rfl (by first | exact Or.inl rfl | exact Or.inr rfl) (pe_ix (r := rIxL K) ix_list (pv 0) pe_int (fun _ _ => rfl)))
      (pss_cons (ps_asg (pe_op op_mod (pe_callTy (T := "int") call_int1 (by rfl) (T.fr _ (by decide)) (by decide +kernel) (pa_cons (pe_op op_add (pe_op op_add (pe_op op_add (pe_op op_pow (pv 4) pe_int) (pe_op op_mul (pv 4) pe_int)) (pe_op op_mul (pe_ix (r := rIxL K) ix_list (pv 0) pe_int (fun _ _ => rfl)) pe_int)) pe_int) pa_nil)) pe_int) (pg_sub (pv 0) pe_int set_list))
      (pss_one (ps_ret (pe_op op_mod (pe_callTy (T := "int") call_int1 (by rfl) (T.fr _ (by decide)) (by decide +kernel) (pa_cons (pe_op op_add (pe_op op_fdiv (pe_ix (r := rIxL K) ix_list (pv 0) pe_int (fun _ _ => rfl)) pe_int) (pe_op op_mul (pe_op op_mod (pe_callTy (T := "int") call_int1 (by rfl) (T.fr _ (by decide)) (by decide +kernel) (pa_cons (pe_ix (r := rIxL K) ix_list (pv 0) pe_int (fun _ _ => rfl)) pa_nil)) pe_int) pe_int)) pa_nil)) (pv 1))))))))), ?_⟩
  obtain ⟨b, c, m, rfl, m0, m1, ⟨xs, i, r, s, n, hb, hc, i0, r0, s0, s1⟩, q⟩ := h
  have hcb : c ≠ b := fun z => by
    rw [z, hb] at hc
    have := (HO.lst.inj (Option.some.inj hc)).symm
    cases xs with
    | nil => cases this
    | cons x r => cases this
  obtain ⟨j0, rfl⟩ : ∃ j : Nat, i = j := ⟨i.toNat, by omega⟩
  have up : ∀ {H1 : Hp} {l l' : List V}, Keep [b] H H1 → H1 c = some (.lst (xs.map V.int)) → l' = l → Keep [b] H (L2.upd H1 b (.lst l')) ∧ L2.upd H1 b (.lst l') b = some (.lst l) ∧ L2.upd H1 b (.lst l') c = some (.lst (xs.map V.int)) := fun k h e => ⟨k.upd (by simp), by rw [e]; exact upd_same, by rw [upd_ne hcb]; exact h⟩
  walk_at "rd"
  apply share (fun H3 => Keep [b] H H3 ∧ ∃ i r s n : Int, H3 b = some (.lst (bagL c i r s n)) ∧ H3 c = some (.lst (xs.map V.int)) ∧ 0 ≤ i ∧ 0 ≤ r ∧ 0 ≤ s ∧ s < 4294967296)
  · intro key
    refine ⟨_, SqL.of hb, _, rfl, n, rfl, ?_⟩
    refine ⟨b, _, 4, 4, rfl, rfl, hb, rfl, ?_⟩
    obtain ⟨k1, b1, c1⟩ := up (Keep.refl _ _) hc (show (bagL c j0 r s n).set 4 (V.int (n + 1)) = bagL c j0 r s (n + 1) from rfl)
    generalize L2.upd H b (.lst ((bagL c j0 r s n).set 4 (V.int (n + 1)))) = H1 at k1 b1 c1 ⊢
    refine ⟨_, SqL.of b1, _, rfl, rfl, ite2 (fun x1 => ?_) fun x1 => ?_⟩
    · refine ⟨_, SqL.of b1, _, rfl, _, SqL.of b1, _, rfl, _, .inl ⟨_, SqL.of c1, rfl⟩, (j0 : Nat), rfl, ite2 (fun x2 => ?_) fun x2 => ?_⟩
      · rw [List.length_map] at x2
        obtain ⟨cell, hcell⟩ : ∃ cell, xs[j0]? = some cell := ⟨xs[j0]'(by omega), List.getElem?_eq_getElem _⟩
        refine ⟨_, SqL.of b1, _, rfl, _, SqL.of b1, _, rfl, ?_⟩
        refine ⟨c, rfl, _, (j0 : Nat), rfl, SqL.of c1, V.int cell, atI_nat (by rw [List.getElem?_map, hcell]; rfl), cell, rfl, _, SqL.of b1, _, rfl, (j0 : Nat), rfl, ?_⟩
        generalize hab : (if cell < 0 then -cell else cell) = ab
        have ab0 : 0 ≤ ab := by rw [← hab]; split <;> omega
        refine ⟨b, _, 1, 1, rfl, rfl, b1, rfl, ?_⟩
        obtain ⟨k2, b2, c2⟩ := up k1 c1 (show (bagL c j0 r s (n + 1)).set 1 (V.int ((j0 : Int) + 1)) = bagL c (j0 + 1) r s (n + 1) from rfl)
        generalize L2.upd H1 b (.lst ((bagL c j0 r s (n + 1)).set 1 (V.int ((j0 : Int) + 1)))) = H2 at k2 b2 c2 ⊢
        refine ⟨by unfold CPow; decide, ite2 (fun x3 => ?_) fun x3 => ?_⟩
        · refine ⟨b, _, 2, 2, rfl, rfl, b2, rfl, ?_⟩
          obtain ⟨k3, b3, c3⟩ := up k2 c2 (show (bagL c (j0 + 1) r s (n + 1)).set 2 (V.int ab) = bagL c (j0 + 1) ab s (n + 1) from rfl)
          generalize L2.upd H2 b (.lst ((bagL c (j0 + 1) r s (n + 1)).set 2 (V.int ab))) = H3 at k3 b3 c3 ⊢
          exact key H3 ⟨k3, _, _, _, _, b3, c3, by omega, ab0, s0, s1⟩
        · refine ⟨_, SqL.of b2, _, rfl, s, rfl, by unfold CMul; omega, .inl ⟨by omega, by unfold CMul; omega, .inl ⟨by omega, b, _, 3, 3, rfl, rfl, b2, rfl, ?_⟩⟩⟩
          generalize hns : (s * 40993 + ab % 2147483111 * 769 + 41) % 2147483323 = ns
          obtain ⟨k3, b3, c3⟩ := up k2 c2 (show (bagL c (j0 + 1) r s (n + 1)).set 3 (V.int ns) = bagL c (j0 + 1) r ns (n + 1) from rfl)
          generalize L2.upd H2 b (.lst ((bagL c (j0 + 1) r s (n + 1)).set 3 (V.int ns))) = H3 at k3 b3 c3 ⊢
          exact key H3 ⟨k3, _, _, _, _, b3, c3, by omega, r0, by omega, by omega⟩
      · exact key H1 ⟨k1, j0, r, s, n + 1, b1, c1, i0, r0, s0, s1⟩
    · exact key H1 ⟨k1, j0, r, s, n + 1, b1, c1, i0, r0, s0, s1⟩
  intro H3 ⟨k3, i, r, s, n, b3, c3, i0, r0, s0, s1⟩
  have fin : ∀ (H' : Hp) (d : Int) (i r s n : Int), Keep [b] H H' → H' b = some (.lst (bagL c i r s n)) → H' c = some (.lst (xs.map V.int)) → 0 ≤ i → 0 ≤ r → 0 ≤ s → s < 4294967296 → Q (.int (d % (m : Int))) H' := fun H' d i r s n k b c' h1 h2 h3 h4 => by
    have e1 := Int.emod_nonneg d (show (m : Int) ≠ 0 by omega)
    have e2 := Int.emod_lt_of_pos d (show (0 : Int) < m by omega)
    have := q H' (d % (m : Int)).toNat k ⟨xs, i, r, s, n, b, c', h1, h2, h3, h4⟩ (by omega)
    rwa [Int.toNat_of_nonneg e1] at this
  refine ⟨_, SqL.of b3, _, rfl, r, rfl, ite2 (fun x1 => ?_) fun x1 => ?_⟩
  · refine ⟨_, SqL.of b3, _, rfl, .inl ⟨r, rfl, by omega, _, SqL.of b3, _, rfl, r, rfl, by unfold CDiv; omega, b, _, 2, 2, rfl, rfl, b3, rfl, ?_⟩⟩
    have rm : 0 ≤ r / (m : Int) := Int.ediv_nonneg r0 (by omega)
    obtain ⟨k4, b4, c4⟩ := up k3 c3 (show (bagL c i r s n).set 2 (V.int (r / (m : Int))) = bagL c i (r / (m : Int)) s n from rfl)
    exact fin _ _ _ _ _ _ k4 b4 c4 i0 rm s0 s1
  · refine ⟨_, SqL.of b3, _, rfl, s, rfl, ⟨by decide, by decide, by omega⟩, s, rfl, by unfold CMul; omega, _, SqL.of b3, _, rfl, n, rfl, by unfold CMul; omega, .inl ⟨by omega, b, _, 3, 3, rfl, rfl, b3, rfl, ?_⟩⟩
    generalize hns : (s ^ Int.toNat 3 + s * 27611 + n * 1299709 + 52361) % 2147483323 = ns
    obtain ⟨k4, b4, c4⟩ := up k3 c3 (show (bagL c i r s n).set 3 (V.int ns) = bagL c i r ns n from rfl)
    generalize L2.upd H3 b (.lst ((bagL c i r s n).set 3 (V.int ns))) = H4 at k4 b4 c4 ⊢
    refine ⟨_, SqL.of b4, _, rfl, ns, rfl, ?_⟩
    exact ⟨by unfold CDiv; omega, _, SqL.of b4, _, rfl, .inl ⟨ns, rfl, by omega, by unfold CMul; omega, .inl ⟨by omega, fin _ _ _ _ _ _ k4 b4 c4 i0 r0 (by omega) (by omega)⟩⟩⟩
theorem BagAt.same {H H' : Hp} {b c : Addr} (s : Same H H') (h : BagAt H b c) : BagAt H' b c := by
  obtain ⟨xs, i, r, q, n, h1, h2, h3⟩ := h
  exact ⟨xs, i, r, q, n, s _ _ h1, s _ _ h2, h3⟩
theorem BagAt.upd {H : Hp} {b c D : Addr} {o : HO} (h : BagAt H b c) (h1 : D ≠ b) (h2 : D ≠ c) : BagAt (L2.upd H D o) b c := by
  obtain ⟨xs, i, r, q, n, e1, e2, h3⟩ := h
  exact ⟨xs, i, r, q, n, by rw [upd_ne h1.symm]; exact e1, by rw [upd_ne h2.symm]; exact e2, h3⟩
theorem BagAt.ne {H : Hp} {b c D : Addr} (h : BagAt H b c) (hD : H D = none) : D ≠ b ∧ D ≠ c := by
  obtain ⟨xs, i, r, q, n, e1, e2, h3⟩ := h
  exact ⟨fun z => (by rw [z, e1] at hD; cases hD), fun z => (by rw [z, e2] at hD; cases hD)⟩
/-- comprehensions with draws -/
def LcK (l : List Addr) (H1 : Hp) (D : Addr) (R : List V → Nat → Hp → Prop) (i : Nat) (H : Hp) : Prop := ∃ acc, H D = some (.lst acc) ∧ acc.length ≤ i ∧ Keep l H1 H ∧ R acc i H
theorem lk0 {l : List Addr} {H1 : Hp} {D : Addr} {R : List V → Nat → Hp → Prop} (hD : H1 D = none) (h : R [] 0 (L2.upd H1 D (.lst []))) : LcK l H1 D R 0 (L2.upd H1 D (.lst [])) := ⟨[], upd_same, Nat.le_refl _, Keep.same (same_new hD), h⟩
theorem keep_new {l : List Addr} {H1 H4 : Hp} {D : Addr} {o : HO} (hD : H1 D = none) (k : Keep l H1 H4) : Keep l H1 (L2.upd H4 D o) := fun b u n h => by
  rw [upd_ne (fun z => by rw [z, hD] at h; cases h)]
  exact k b u n h
theorem lkKeep {l : List Addr} {H1 H4 : Hp} {D : Addr} {R : List V → Nat → Hp → Prop} {i n : Nat} {acc : List V} {y : V} (hD : H1 D = none) (ha : H4 D = some (.lst acc)) (hl : acc.length ≤ i) (hi : i < n) (hn : n ≤ 16777216) (k : Keep l H1 H4) (r : R (acc ++ [y]) (i + 1) (L2.upd H4 D (.lst (acc ++ [y])))) :
    ∃ acc, H4 D = some (.lst acc) ∧ acc.length < 16777216 ∧ LcK l H1 D R (i + 1) (L2.upd H4 D (.lst (acc ++ [y]))) :=
  ⟨acc, ha, by omega, acc ++ [y], upd_same, by simp; omega, keep_new hD k, r⟩
theorem lkSkip {l : List Addr} {H1 H4 : Hp} {D : Addr} {R : List V → Nat → Hp → Prop} {i : Nat} {acc : List V} (ha : H4 D = some (.lst acc)) (hl : acc.length ≤ i) (k : Keep l H1 H4) (r : R acc (i + 1) H4) : LcK l H1 D R (i + 1) H4 := ⟨acc, ha, by omega, k, r⟩
def sp_law_pick : Sp := fun vs H Q _ => ∃ (b c : Addr) (x : V), vs = [.ref b, x] ∧ BagAt H b c ∧ ((∃ a xs, x = .ref a ∧ H a = some (.lst xs) ∧ xs ≠ [] ∧ xs.length ≤ 1000000 ∧ a ≠ b ∧ ∀ H' y, Keep [b] H H' → BagAt H' b c → y ∈ xs → Q y H') ∨
  ∃ z, x = .str z ∧ 1 ≤ z.length ∧ z.length ≤ 1000000 ∧ ∀ H' o, Keep [b] H H' → BagAt H' b c → o ∈ tl z → Q (.str ⟨#[o]⟩) H')
theorem c_law_pick (T : Tx K mg) (D : Df K mg "_law_pick" s_law_pick) (c_law_draw : Cal P w K mg base CX0 1 "_law_draw" p_law_draw (sp_law_draw)) : Cal P w K mg base CX0 2 "_law_pick" p_law_pick (sp_law_pick) := by
  have S := sc_law_pick
  refine cal0 D S (fun _ _ _ _ _ _ us hl => match us, hl with | [_, _], _ => rfl) (fun vs H Q E h => ?_) (fun f cdv A outer s H vs Q E hr h => ?_)
  · obtain ⟨_, _, _, rfl, _⟩ := h
    rfl
  refine ⟨_, (pss_one (ps_ret (pe_ix (r := rIx K) ix_seq (pv 1) (pe_fn c_law_draw hr (pa_cons (pv 0) (pa_cons (pe_callB (id := "len") (r := rLen K) (call_len_ rfl) (by rfl) (T.fr _ (by decide)) (by decide +kernel) (pa_cons (pv 1) pa_nil)) pa_nil))) (fun _ _ => rfl)))), ?_⟩
  obtain ⟨b, c, x, rfl, hb, h⟩ := h
  walk_at "rd"
  rcases h with ⟨a, xs, rfl, ha, ne, le, nab, q⟩ | ⟨z, rfl, z1, z2, q⟩
  · have l0 := List.length_pos_iff.mpr ne
    refine ⟨_, .inl ⟨_, SqL.of ha, rfl⟩, b, c, xs.length, rfl, l0, le, hb, fun H1 d k1 b1 hd => .inl ⟨a, xs, (d : Nat), xs[d], rfl, rfl, SqL.of (k1 _ _ (by simpa using nab) ha), atI_nat (List.getElem?_eq_getElem hd), q _ _ k1 b1 (List.getElem_mem hd)⟩⟩
  · refine ⟨z.length, ⟨by rw [sizeLine_eq]; omega, rfl⟩, b, c, z.length, rfl, z1, z2, hb, fun H1 d k1 b1 hd => .inr (.inr ⟨z, (d : Nat), (tl z)[d]'(by rw [← len_tl]; exact hd), rfl, rfl, by rw [sizeLine_eq]; omega, atI_nat (List.getElem?_eq_getElem _), q _ _ k1 b1 (List.getElem_mem _)⟩)⟩
theorem tl_joinT (y : Str) (ps : List Str) : tl (Txt.join y ps) = TL.joinL (tl y) (ps.map tl) := (congrArg TL.tl (TL.join_eq y ps)).trans (TL.tl_join y ps)
theorem joinL_nil : ∀ ps : List (List Nat), TL.joinL [] ps = ps.flatten
  | [] => rfl
  | [p] => by simp [TL.joinL]
  | p :: q :: r => by
    show p ++ ([] ++ TL.joinL [] (q :: r)) = _
    rw [joinL_nil (q :: r)]
    simp
theorem tl_ofE : tl (Str.ofString "") = [] := by decide +kernel
theorem join_empty (zs : List Nat) : tl (Txt.join (Str.ofString "") (zs.map fun c => (⟨#[c]⟩ : Str))) = zs := by
  rw [tl_joinT, tl_ofE, joinL_nil]
  induction zs with
  | nil => rfl
  | cons z r ih =>
    show [z] ++ _ = _
    rw [ih]; rfl
theorem sum_ones (zs : List Nat) : ((zs.map fun c => (⟨#[c]⟩ : Str)).map (·.length)).sum = zs.length := by
  induction zs with
  | nil => rfl
  | cons z r ih =>
    rw [List.map_cons, List.map_cons, List.sum_cons, ih, List.length_cons]
    show 1 + _ = _
    omega
def sp_law_word : Sp := fun vs H Q _ => ∃ (b c : Addr) (m : Nat), vs = [.ref b, .int m] ∧ 0 < m ∧ m ≤ 6 ∧ BagAt H b c ∧ ∀ H' z, Keep [b] H H' → BagAt H' b c → nameB z = true → Q (.str z) H'
theorem c_law_word (T : Tx K mg) (D : Df K mg "_law_word" s_law_word) (c_law_draw : Cal P w K mg base CX0 1 "_law_draw" p_law_draw (sp_law_draw)) (c_law_pick : Cal P w K mg base CX0 2 "_law_pick" p_law_pick (sp_law_pick)) : Cal P w K mg base CX0 3 "_law_word" p_law_word (sp_law_word) := by
  have S := sc_law_word
  refine cal0 D S (fun _ _ _ _ _ _ us hl => match us, hl with | [_, _], _ => rfl) (fun vs H Q E h => ?_) (fun f cdv A outer s H vs Q E hr h => ?_)
  · obtain ⟨_, _, _, rfl, _⟩ := h
    rfl
  refine ⟨_, (pss_cons (ps_set (i := 2) S.nd rfl (by first | exact Or.inl rfl | exact Or.inr rfl) pe_str)
      (pss_one (ps_ret (pe_join_ (K := K) rfl pe_str (pe_lc (own := [("_law_k", 3)]) (g := gName 3) rfl S.nd (pi_range1 (by rfl) (T.fr _ (by decide)) (pa_cons (pe_op op_add pe_int (pe_fn c_law_draw hr (pa_cons (pv 0) (pa_cons (pv 1) pa_nil)))) pa_nil)) (blkOk_by (N := N_law_word) (sc := defScope s_law_word) (by decide +kernel)) (fun _ _ _ _ _ => (pg_name (i := 3) S.nd rfl (by first | exact Or.inl rfl | exact Or.inr rfl))) (fun _ _ _ _ _ => pts_nil) (fun _ _ _ _ _ => (pe_fn c_law_pick hr (pa_cons (pv 0) (pa_cons (pv 2) pa_nil))))))))), ?_⟩
  obtain ⟨b, c, m, rfl, m0, m1, hb, q⟩ := h
  have e62 : (2 : Int) ^ 62 = 4611686018427387904 := by decide
  walk_at "rd"
  refine ⟨_, rfl, _, rfl, b, c, m, rfl, m0, by omega, hb, fun H1 d k1 b1 hd => ⟨1, d, rfl, rfl, ((1 + d : Nat) : Int), ?_, by omega, by omega, fun D hD => ?_⟩⟩
  · simp
  rw [Int.toNat_natCast]
  obtain ⟨nDb, nDc⟩ := b1.ne hD
  refine lc_it (walk_range (lo := 0) (n := 1 + d)) (LcK [b] H1 D fun acc i H' => ∃ zs : List Nat, acc = zs.map (fun o => V.str ⟨#[o]⟩) ∧ zs.length = i ∧ (∀ o ∈ zs, o ∈ tl LET) ∧ BagAt H' b c) (lk0 hD ⟨[], rfl, rfl, by simp, b1.upd nDb nDc⟩) (fun _ _ _ _ => trivial) (fun i x H2 H3 hi ⟨acc, ha, hl, k2, zs, e, lz, az, b3⟩ y => ?_) (fun H3 ⟨acc, ha, hl, k2, zs, e, lz, az, b3⟩ => ?_)
  · obtain ⟨rfl, rfl⟩ := y
    walk_at "rd"
    refine ⟨b, c, _, rfl, b3, .inr ⟨LET, rfl, by decide +kernel, by decide +kernel, fun H4 o k4 b4 ho => ?_⟩⟩
    refine lkKeep hD (k4 _ _ (by simpa using nDb) ha) hl hi (by omega) (k2.trans k4) ⟨zs ++ [o], by rw [e]; simp, by simp [lz], fun p hp => ?_, b4.upd nDb nDc⟩
    rcases List.mem_append.mp hp with h | h
    · exact az p h
    · simp at h; rw [h]; exact ho
  · have k03 := k1.trans k2
    refine ⟨D, rfl, zs.map (fun o => (⟨#[o]⟩ : Str)), .inl (SqL.of (by rw [ha, e]; simp [Function.comp_def])), ?_, q H3 _ k03 b3 ?_⟩
    · rw [sum_ones, show (Str.ofString "").length = 0 from by decide +kernel]
      omega
    · unfold nameB
      rw [len_tl, join_empty, decide_eq_true (show 1 ≤ zs.length by omega), decide_eq_true (show zs.length ≤ 6 by omega)]
      simpa using az
end
end Dk
-- text N2
set_option maxHeartbeats 1000000
namespace Dk
open PySem PySem.Spec PyProof.Rows L2
local macro_rules | `(tactic| walk_at "rd") => `(tactic| simp only [tRet, tRetN, tSeq, tAsg, tIfS, tB, tVar, tC, tCons, tNil, tCB, tCall, tOp, tUn, rI0, rI, rU, rEq, rNe, gName, tAnd, tOr, tNot, tAndV, tOrV, tNotV, tIf, tTest, tChain, tDrop, tNext, tBreak, tCont, tTup, tLst, tBM, tBM0, tM0, tM1, tSl, tPart, tNoPart, tPar,
  rIs, rIs2, rIxL, rIxT, rIxS, rAppend, rExtend, rPop, rPopAt, gTup, gCons, gNil, gSub, tYes, wipe, tD1, tDcC, rListC, rSortC, rEmp, rJoin, tM1, gFld, tFld, sFld, rMinDef, tCKw, StX.tStar, rLen, tDGet2, tNo, tScN, rSortTx, rSetTx, iKeys, tPar3, sDPut, tFor_eq, iList, iEnum, iStr, iZip, cxK, cxP, cxW, tTup_, tLst_, tDNewK_, tDNewT_, rSlL_, rListOf_, rCatN, rRepN, rListStr, iRng1, rLenT, rInC, rDictC, sizeLine_eq, Nat.reduceLeDiff, Bool.true_or, Bool.false_or, Bool.or_true, Bool.or_false, Bool.true_and, Bool.false_and, Bool.and_true, Bool.and_false, Bool.not_true, Bool.not_false, Bool.not_eq_true', decide_eq_true_eq, decide_eq_false_iff_not, scal, isT_Non_boo, isT_Non_int, isT_Non_str, isT_Non_lis, isT_Non_tup, isT_Non_dic, isT_boo_boo, isT_boo_int, isT_boo_str, isT_boo_lis, isT_boo_tup, isT_boo_dic, isT_int_boo, isT_int_int, isT_int_str, isT_int_lis, isT_int_tup, isT_int_dic, isT_str_boo, isT_str_int, isT_str_str, isT_str_lis, isT_str_tup, isT_str_dic, isT_lis_boo, isT_lis_int, isT_lis_str, isT_lis_lis, isT_lis_tup, isT_lis_dic, isT_tup_boo, isT_tup_int, isT_tup_str, isT_tup_lis, isT_tup_tup, isT_tup_dic, isT_dic_boo, isT_dic_int, isT_dic_str, isT_dic_lis, isT_dic_tup, isT_dic_dic, kit_Non, kit_boo, kit_int, kit_str, kit_lis, kit_tup, kit_dic, sg_inj, vt_non, vt_bl, vt_int, vt_str, len_str, tDGet, tDIn, tDNotIn,
  L2.start, List.map_cons, List.map_nil, List.length_cons, List.length_nil, List.cons_append, List.nil_append, List.append_nil, Nat.zero_add, Nat.reduceAdd, Nat.reduceSub, Nat.sub_zero, Nat.sub_self, List.replicate_succ, List.replicate_zero,
  List.getElem?_cons_zero, List.getElem?_cons_succ, List.getElem?_nil, List.set_cons_zero, List.set_cons_succ, List.cons.injEq, Option.some.injEq, V.int.injEq, V.str.injEq, V.bl.injEq, V.ref.injEq, V.ty.injEq, reduceCtorEq,
  and_assoc, and_true, true_and, false_and, and_false, exists_eq_left, exists_eq_left', exists_eq', exists_eq_right, exists_eq_right', exists_and_left, exists_and_right, exists_const, exists_false, exists_eq, if_true, if_false, Bool.false_eq_true, Bool.true_eq, decide_true, decide_false, ite_self])
def nm (z : Str) : Prop := 1 ≤ z.length ∧ z.length ≤ 6
theorem nm_of {z : Str} (h : nameB z = true) : nm z := by
  unfold nameB at h
  simp at h
  exact ⟨h.1, h.2.1⟩
theorem cutTo_len (z : Str) (k : Nat) : (cutS z none (some (k : Int))).length = min k z.length := by
  unfold cutS
  rw [HT.sIx_nat, HT.sIx_none, List.drop_zero, Nat.sub_zero, len_tl]
  simp [tl]
  show min k (min z.length z.length) = _
  omega
theorem app_len (a b : Str) : (a ++ b).length = a.length + b.length := by
  show (a.cps ++ b.cps).size = _
  rw [Array.size_append]
  rfl
theorem sgs_len (z : Str) : (sgs z).length = z.length := by rw [len_tl]; simp [sgs]
theorem inV_str (zs : List Str) (z : Str) : inV (.str z) (zs.map V.str) = decide (z ∈ zs) := by
  unfold inV
  rw [List.any_map]
  induction zs with
  | nil => rfl
  | cons a r ih =>
    rw [List.any_cons, ih]
    show (a == z || _) = _
    by_cases e : a = z
    · subst e; simp
    · have : (a == z) = false := by simpa using e
      rw [this]
      have h2 : ¬ z = a := fun h => e h.symm
      simp [h2]
section
variable {P : Program} {w : World} {K : PySem.W.Frag} {mg : Str → Option Value} {base : Heap}
def sp_law_names : Sp := fun vs H Q _ => ∃ (b c : Addr) (m : Nat), vs = [.ref b, .int m] ∧ m ≤ 4 ∧ BagAt H b c ∧ ∀ H' p (zs : List Str), Keep [b] H H' → BagAt H' b c → H p = none → H' p = some (.lst (zs.map V.str)) → zs.length = m → (∀ z ∈ zs, nm z) → Q (.ref p) H'
theorem c_law_names (T : Tx K mg) (D : Df K mg "_law_names" s_law_names) (c_law_word : Cal P w K mg base CX0 3 "_law_word" p_law_word (sp_law_word)) (c_law_draw : Cal P w K mg base CX0 1 "_law_draw" p_law_draw (sp_law_draw)) (c_law_pick : Cal P w K mg base CX0 2 "_law_pick" p_law_pick (sp_law_pick)) : Cal P w K mg base CX0 4 "_law_names" p_law_names (sp_law_names) := by
  have S := sc_law_names
  refine cal0 D S (fun _ _ _ _ _ _ us hl => match us, hl with | [_, _], _ => rfl) (fun vs H Q E h => ?_) (fun f cdv A outer s H vs Q E hr h => ?_)
  · obtain ⟨_, _, _, rfl, _⟩ := h
    rfl
  refine ⟨_, (pss_cons (ps_set (i := 2) S.nd rfl (by first | exact Or.inl rfl | exact Or.inr rfl) (pe_lst_ pa_nil))
      (pss_cons (ps_for PassesOwn.never rfl (pi_range1 (by rfl) (T.fr _ (by decide)) (pa_cons (pv 1) pa_nil)) (pg_name (i := 3) S.nd rfl (by first | exact Or.inl rfl | exact Or.inr rfl)) (pss_cons (ps_set (i := 4) S.nd rfl (by first | exact Or.inl rfl | exact Or.inr rfl) (pe_fn c_law_word hr (pa_cons (pv 0) (pa_cons pe_int pa_nil))))
      (pss_cons (ps_if (PW.pt (pw_and (pt_cmpR (op_neE hr) (pv 2) (pe_lst_ pa_nil) (nomark _)) (pw_and1 (pt_cmpR op_eq (pe_fn c_law_draw hr (pa_cons (pv 0) (pa_cons pe_int pa_nil))) pe_int (nomark _))))) (pss_cons (ps_set (i := 5) S.nd rfl (by first | exact Or.inl rfl | exact Or.inr rfl) (pe_fn c_law_pick hr (pa_cons (pv 0) (pa_cons (pv 2) pa_nil))))
      (pss_cons (ps_set (i := 6) S.nd rfl (by first | exact Or.inl rfl | exact Or.inr rfl) (pe_fn c_law_draw hr (pa_cons (pv 0) (pa_cons (pe_callB (id := "len") (r := rLen K) (call_len_ rfl) (by rfl) (T.fr _ (by decide)) (by decide +kernel) (pa_cons (pv 5) pa_nil)) pa_nil))))
      (pss_one (ps_set (i := 4) S.nd rfl (by first | exact Or.inl rfl | exact Or.inr rfl) (pe_slice sl_str (pe_op op_add_str (pe_op op_add_str (pe_slice sl_str (pv 5) po_none (po_some (pv 6))) (pe_slice sl_str (pv 4) po_none (po_some pe_int))) (pe_slice sl_str (pv 5) (po_some (pe_op op_add (pv 6) (pe_fn c_law_draw hr (pa_cons (pv 0) (pa_cons pe_int pa_nil))))) po_none)) po_none (po_some pe_int)))))) pss_nil)
      (pss_one (ps_expr (pe_bm PySem.F.plainAttrs_list PySem.F.slot_list_append PySem.F.type_list_append mt_append (pv 2) (pa_cons (pe_ix (r := rIxL K) ix_list (pe_lc (own := [("_law_one", 7)]) (g := gName 7) rfl S.nd (pi_list (pe_op op_catN (pe_lst_ (pa_cons (pv 4) pa_nil)) (pe_callTy (T := "list") (call_listStr rfl) (by rfl) (T.fr _ (by decide)) (by decide +kernel) (pa_cons pe_str pa_nil)))) (blkOk_by (N := N_law_names) (sc := defScope s_law_names) (by decide +kernel)) (fun _ _ _ _ _ => (pg_name (i := 7) S.nd rfl (by first | exact Or.inl rfl | exact Or.inr rfl))) (fun _ _ _ _ _ => (pts_one (pt_cmpR (r := rIn K true) op_notIn_seq (pv 7) (pv 2) (by rfl)))) (fun _ _ _ _ _ => (pv 7))) pe_int (fun _ _ => rfl)) pa_nil)))))))
      (pss_one (ps_ret (pv 2))))), ?_⟩
  obtain ⟨b, c, m, rfl, m4, hb, q⟩ := h
  have e62 : (2 : Int) ^ 62 = 4611686018427387904 := by decide
  walk_at "rd"
  refine fun f H1 n1 => ⟨by omega, by omega, ?_⟩
  rw [Int.toNat_natCast]
  obtain ⟨nfb, nfc⟩ := hb.ne n1.fresh
  obtain ⟨Pv, hP⟩ : ∃ Pv : Nat → L2.St → Hp → Prop, Pv = fun i σ H' => ∃ x3 x4 x5 x6, ∃ zs : List Str, σ = [some (.ref b), some (.int m), some (.ref f), x3, x4, x5, x6, none] ∧ Keep [b] H H' ∧ BagAt H' b c ∧ H' f = some (.lst (zs.map V.str)) ∧ zs.length = i ∧ ∀ z ∈ zs, nm z := ⟨_, rfl⟩
  refine for_B (walk_range (lo := 0) (n := m)) Pv ?_ (fun _ _ _ _ _ => trivial) (fun i v σ H2 H3 hi h y => ?_) (fun σ H2 h => ?_)
  · rw [hP]
    exact ⟨_, _, _, _, [], rfl, Keep.same n1.same, hb.same n1.same, n1.at_, rfl, by simp⟩
  · rw [hP] at h
    obtain ⟨x3, x4, x5, x6, zs, rfl, k2, b2, f2, lz, az⟩ := h
    obtain ⟨rfl, rfl⟩ := y
    have key : ∀ (H4 : Hp) (z : Str) (x5 x6 : Option V), Keep [b] H H4 → BagAt H4 b c → H4 f = some (.lst (zs.map V.str)) → nm z → tyV K "list" (.ref f) H4 ∧ tLc (iList K (tOp rCatN (tLst_ (tCons (tVar 4) tNil)) (tCB rListStr (tCons (tC (V.str (Str.ofString "abcdefghijklmnop"))) tNil)))) (gName 7) (tTest (tOp (rIn K true) (tVar 7) (tVar 2))) (tVar 7) [7] [some (V.ref b), some (V.int m), some (V.ref f), some (V.int (0 + (i : Nat))), some (.str z), x5, x6, none] H4 fun x_3 H1 => ∃ p, x_3 = V.ref p ∧ ∃ x_4, SqL K H1 p x_4 ∧ ∃ y5, atI x_4 0 = some y5 ∧ ∃ y6, H1 f = some (HO.lst y6) ∧ y6.length < 16777216 ∧ Pv (i + 1) [some (V.ref b), some (V.int m), some (V.ref f), some (V.int (0 + (i : Nat))), some (.str z), x5, x6, none] (L2.upd H1 f (HO.lst (y6 ++ [y5]))) := by
      intro H4 z x5 x6 k4 b4 f4 nz
      refine ⟨tyV_lst f4, _, rfl, by simp [sizeLine_eq], fun p5 H5 n5 => ⟨_, rfl, by decide +kernel, fun p6 H6 n6 => ⟨p5, p6, [V.str z], _, rfl, rfl, n6.same _ _ n5.at_, n6.at_, ?_, fun p7 H7 n7 => ⟨p7, rfl, ⟨_, SqL.of n7.at_⟩, fun D hD => ?_⟩⟩⟩⟩
      · rw [List.length_map, sgs_len, List.length_singleton, sizeLine_eq]; decide +kernel
      obtain ⟨cs, hcs⟩ : ∃ cs, cs = z :: sgs "abcdefghijklmnop" := ⟨_, rfl⟩
      have e7 : H7 p7 = some (.lst (cs.map V.str)) := by rw [n7.at_, hcs]; rfl
      have l17 : cs.length = 17 := by rw [hcs, List.length_cons, sgs_len]; decide +kernel
      have acs : ∀ o ∈ cs, nm o := fun o ho => by
        rw [hcs] at ho
        rcases List.mem_cons.mp ho with h | h
        · rw [h]; exact nz
        · obtain ⟨k, _, rfl⟩ := List.mem_map.mp h
          exact ⟨Nat.le_refl 1, (show 1 ≤ 6 by decide)⟩
      have s47 := n5.same.trans (n6.same.trans n7.same)
      rw [show ([V.str z] ++ (sgs (Str.ofString "abcdefghijklmnop")).map V.str) = cs.map V.str from by rw [hcs]; rfl] at n7
      refine lc_it (walk_list (xs := cs.map V.str)) (LcInv H7 D fun acc j _ => acc = ((cs.take j).filter fun o => decide (o ∉ zs)).map V.str) (lc0 hD (by simp)) (fun _ _ _ ⟨_, _, _, s, _⟩ => SqL.of (s _ _ e7)) (fun j x H8 H9 hj ⟨acc, ha, hl, s1, rq⟩ y => ?_) (fun H8 ⟨acc, ha, hl, s1, rq⟩ => ?_)
      · obtain ⟨rfl, hx⟩ := y
        obtain ⟨o, ho, rfl⟩ := str_list_get hx
        have f9 : H9 f = some (.lst (zs.map V.str)) := s1 _ _ (s47 _ _ f4)
        have nx : ((cs.take (j + 1)).filter fun o => decide (o ∉ zs)).map V.str = ((cs.take j).filter fun o => decide (o ∉ zs)).map V.str ++ (if o ∉ zs then [V.str o] else []) := by
          rw [take_get ho, List.filter_append, List.map_append]
          congr 1
          by_cases q : o ∈ zs <;> simp [q]
        walk_at "rd"
        refine ⟨f, _, rfl, .inl (SqL.of f9), rfl, by rw [List.all_map, List.all_eq_true]; intro z _; rfl, _, rfl, ?_⟩
        rw [inV_str]
        refine ite2 (fun q => ?_) fun q => ?_
        · have q : o ∉ zs := by simpa using q
          refine lcKeep hD ha hl hj (by rw [List.length_map]; omega) s1 ?_
          show acc ++ _ = _
          rw [nx, if_pos q, rq]
        · have q : ¬ o ∉ zs := by simpa using q
          refine lcSkip ha hl s1 ?_
          show acc = _
          rw [nx, if_neg q, List.append_nil]
          exact rq
      · obtain ⟨ok, hok⟩ : ∃ ok, ok = cs.filter fun o => decide (o ∉ zs) := ⟨_, rfl⟩
        have eacc : acc = ok.map V.str := by
          rw [show acc = _ from rq, List.take_of_length_le (by rw [List.length_map]; exact Nat.le_refl _), hok]
        obtain ⟨o, r, eo⟩ : ∃ o r, ok = o :: r := by
          cases e : ok with
          | cons o r => exact ⟨o, r, rfl⟩
          | nil =>
            exfalso
            rw [hok] at e
            have all : ∀ o ∈ sgs "abcdefghijklmnop", o ∈ zs := fun o ho => by
              have := List.filter_eq_nil_iff.mp e o (by rw [hcs]; exact List.mem_cons_of_mem _ ho)
              simpa using this
            have nd : (sgs "abcdefghijklmnop").Nodup := by decide +kernel
            have := List.Nodup.length_le_of_subset nd all
            rw [sgs_len, show ("abcdefghijklmnop" : Str).length = 16 from by decide +kernel] at this
            omega
        have no : nm o := acs o (by
          have : o ∈ ok := by rw [eo]; exact List.mem_cons_self
          rw [hok] at this
          exact (List.mem_filter.mp this).1)
        have s48 := s47.trans s1
        refine ⟨D, rfl, _, SqL.of ha, V.str o, atI_zero (by rw [eacc, eo]; rfl), _, s48 _ _ f4, by rw [List.length_map]; omega, ?_⟩
        rw [hP]
        have k08 := k4.trans (Keep.same s48)
        refine ⟨_, _, _, _, zs ++ [o], rfl, keep_new n1.fresh k08, (b4.same s48).upd nfb nfc, by rw [upd_same]; simp, by simp [lz], fun p hp => ?_⟩
        rcases List.mem_append.mp hp with h | h
        · exact az p h
        · simp at h; rw [h]; exact no
    walk_at "rd"
    refine ⟨b, c, 6, rfl, by decide, by decide, b2, fun H4 z k4 b4 nz4 p5 H5 n5 => ?_⟩
    have nz := nm_of nz4
    have k5 := (k2.trans k4).trans (Keep.same n5.same)
    have b5 := b4.same n5.same
    have f5 : H5 f = some (.lst (zs.map V.str)) := n5.same _ _ (k4 _ _ (by simpa using nfb) f2)
    refine ⟨_, SqL.of f5, SqL.of n5.at_, ite2 (fun a1 => ?_) fun a1 => key H5 z _ _ k5 b5 f5 nz⟩
    refine ⟨b, c, 2, rfl, by decide, by decide, b5, fun H6 d k6 b6 hd => ⟨rfl, ?_⟩⟩
    have f6 := k6 _ _ (by simpa using nfb) f5
    have k06 := k5.trans k6
    refine ite2 (fun a2 => ?_) fun a2 => key H6 z _ _ k06 b6 f6 nz
    refine ⟨b, c, _, rfl, b6, .inl ⟨f, _, rfl, f6, by intro z; rw [z] at a1; simp at a1, by rw [List.length_map]; omega, nfb, fun H7 y k7 b7 hy => ?_⟩⟩
    obtain ⟨o, ho, rfl⟩ := List.mem_map.mp hy
    obtain ⟨o1, o2⟩ := az o ho
    refine ⟨_, ⟨by rw [sizeLine_eq]; omega, rfl⟩, b, c, _, rfl, o1, by omega, b7, fun H8 d8 k8 b8 hd8 => ?_⟩
    have k08 := (k06.trans k7).trans k8
    have z1 := nz.1
    have z2 := nz.2
    have c1 := cutTo_len o d8
    have c2 : (cutS z none (some 1)).length = 1 := by
      have := cutTo_len z 1
      rw [show ((1 : Nat) : Int) = 1 from rfl] at this
      omega
    refine ⟨_, rfl, o, rfl, by rw [sizeLine_eq]; omega, z, rfl, by rw [sizeLine_eq]; omega, _, rfl, _, rfl, by omega, b, c, 2, rfl, by decide, by decide, b8, fun H9 d9 k9 b9 hd9 => ?_⟩
    refine ⟨_, rfl, _, rfl, o, rfl, by rw [sizeLine_eq]; omega, _, rfl, ?_⟩
    have c3 := cutS_length o (some ((d8 : Int) + (d9 : Int))) none
    obtain ⟨big, hbig⟩ : ∃ big, big = cutS o none (some (d8 : Int)) ++ cutS z none (some 1) ++ cutS o (some ((d8 : Int) + (d9 : Int))) none := ⟨_, rfl⟩
    have lbig : 1 ≤ big.length ∧ big.length ≤ 13 := by rw [hbig, app_len, app_len]; omega
    refine ⟨by rw [app_len]; omega, ?_⟩
    rw [← hbig]
    refine ⟨big, rfl, by rw [sizeLine_eq]; omega, ?_⟩
    have c4 := cutTo_len big 6
    rw [show ((6 : Nat) : Int) = 6 from rfl] at c4
    exact key H9 _ _ _ (k08.trans k9) b9 (k9 _ _ (by simpa using nfb) (k8 _ _ (by simpa using nfb) (k7 _ _ (by simpa using nfb) f6))) ⟨by omega, by omega⟩
  · rw [hP] at h
    obtain ⟨x3, x4, x5, x6, zs, rfl, k2, b2, f2, lz, az⟩ := h
    walk_at "rd"
    exact q H2 f zs k2 b2 n1.fresh f2 lz az
end
end Dk
-- text N3
set_option maxHeartbeats 1000000
namespace Dk
open PySem PySem.Spec PyProof.Rows L2
local macro_rules | `(tactic| walk_at "rd") => `(tactic| simp only [tRet, tRetN, tSeq, tAsg, tIfS, tB, tVar, tC, tCons, tNil, tCB, tCall, tOp, tUn, rI0, rI, rU, rEq, rNe, gName, tAnd, tOr, tNot, tAndV, tOrV, tNotV, tIf, tTest, tChain, tDrop, tNext, tBreak, tCont, tTup, tLst, tBM, tBM0, tM0, tM1, tSl, tPart, tNoPart, tPar,
  rIs, rIs2, rIxL, rIxT, rIxS, rAppend, rExtend, rPop, rPopAt, gTup, gCons, gNil, gSub, tYes, wipe, tD1, tDcC, rListC, rSortC, rEmp, rJoin, tM1, gFld, tFld, sFld, rMinDef, tCKw, StX.tStar, rLen, tDGet2, tNo, tScN, rSortTx, rSetTx, iKeys, tPar3, sDPut, tFor_eq, iList, iEnum, iStr, iZip, cxK, cxP, cxW, tTup_, tLst_, tDNewK_, tDNewT_, rSlL_, rListOf_, rCatN, rRepN, rListStr, iRng1, rLenT, rInC, rDictC, sizeLine_eq, Nat.reduceLeDiff, Bool.true_or, Bool.false_or, Bool.or_true, Bool.or_false, Bool.true_and, Bool.false_and, Bool.and_true, Bool.and_false, Bool.not_true, Bool.not_false, Bool.not_eq_true', decide_eq_true_eq, decide_eq_false_iff_not, scal, isT_Non_boo, isT_Non_int, isT_Non_str, isT_Non_lis, isT_Non_tup, isT_Non_dic, isT_boo_boo, isT_boo_int, isT_boo_str, isT_boo_lis, isT_boo_tup, isT_boo_dic, isT_int_boo, isT_int_int, isT_int_str, isT_int_lis, isT_int_tup, isT_int_dic, isT_str_boo, isT_str_int, isT_str_str, isT_str_lis, isT_str_tup, isT_str_dic, isT_lis_boo, isT_lis_int, isT_lis_str, isT_lis_lis, isT_lis_tup, isT_lis_dic, isT_tup_boo, isT_tup_int, isT_tup_str, isT_tup_lis, isT_tup_tup, isT_tup_dic, isT_dic_boo, isT_dic_int, isT_dic_str, isT_dic_lis, isT_dic_tup, isT_dic_dic, kit_Non, kit_boo, kit_int, kit_str, kit_lis, kit_tup, kit_dic, sg_inj, vt_non, vt_bl, vt_int, vt_str, len_str, tDGet, tDIn, tDNotIn,
  L2.start, List.map_cons, List.map_nil, List.length_cons, List.length_nil, List.cons_append, List.nil_append, List.append_nil, Nat.zero_add, Nat.reduceAdd, Nat.reduceSub, Nat.sub_zero, Nat.sub_self, List.replicate_succ, List.replicate_zero,
  List.getElem?_cons_zero, List.getElem?_cons_succ, List.getElem?_nil, List.set_cons_zero, List.set_cons_succ, List.cons.injEq, Option.some.injEq, V.int.injEq, V.str.injEq, V.bl.injEq, V.ref.injEq, V.ty.injEq, reduceCtorEq,
  and_assoc, and_true, true_and, false_and, and_false, exists_eq_left, exists_eq_left', exists_eq', exists_eq_right, exists_eq_right', exists_and_left, exists_and_right, exists_const, exists_false, exists_eq, if_true, if_false, Bool.false_eq_true, Bool.true_eq, decide_true, decide_false, ite_self])
section
variable {P : Program} {w : World} {K : PySem.W.Frag} {mg : Str → Option Value} {base : Heap}
def sp_law_sizes : Sp := fun vs H Q _ => ∃ (b c : Addr), vs = [.ref b] ∧ BagAt H b c ∧ ∀ H' p (h w : Nat), Keep [b] H H' → BagAt H' b c → H' p = some (.tup [.int h, .int w]) → 1 ≤ h → h ≤ 12 → 1 ≤ w → w ≤ 12 → Q (.ref p) H'
theorem c_law_sizes (T : Tx K mg) (D : Df K mg "_law_sizes" s_law_sizes) (c_law_draw : Cal P w K mg base CX0 1 "_law_draw" p_law_draw (sp_law_draw)) (c_law_pick : Cal P w K mg base CX0 2 "_law_pick" p_law_pick (sp_law_pick)) : Cal P w K mg base CX0 3 "_law_sizes" p_law_sizes (sp_law_sizes) := by
  have S := sc_law_sizes
  refine cal0 D S (fun _ _ _ _ _ _ us hl => match us, hl with | [_], _ => rfl) (fun vs H Q E h => ?_) (fun f cdv A outer s H vs Q E hr h => ?_)
  · obtain ⟨_, _, rfl, _⟩ := h
    rfl
  refine ⟨_, (pss_cons (ps_if (pt_cmpR op_eq (pe_fn c_law_draw hr (pa_cons (pv 0) (pa_cons pe_int pa_nil))) pe_int (nomark _)) (pss_one (ps_ret (pe_fn c_law_pick hr (pa_cons (pv 0) (pa_cons (pe_lst_ (pa_cons (pe_tup_ (pa_cons pe_int (pa_cons pe_int pa_nil))) (pa_cons (pe_tup_ (pa_cons pe_int (pa_cons pe_int pa_nil))) (pa_cons (pe_tup_ (pa_cons pe_int (pa_cons pe_int pa_nil))) (pa_cons (pe_tup_ (pa_cons pe_int (pa_cons pe_int pa_nil))) pa_nil))))) pa_nil))))) pss_nil)
      (pss_one (ps_ret (pe_tup_ (pa_cons (pe_op op_add pe_int (pe_fn c_law_draw hr (pa_cons (pv 0) (pa_cons pe_int pa_nil)))) (pa_cons (pe_op op_add pe_int (pe_fn c_law_draw hr (pa_cons (pv 0) (pa_cons pe_int pa_nil)))) pa_nil)))))), ?_⟩
  obtain ⟨b, c, rfl, hb, q⟩ := h
  walk_at "rd"
  refine ⟨b, c, 24, rfl, by decide, by decide, hb, fun H1 d k1 b1 hd => ⟨rfl, ite2 (fun a => ?_) fun a => ?_⟩⟩
  · intro p1 H2 n2 p2 H3 n3 p3 H4 n4 p4 H5 n5 p5 H6 n6
    have s16 := n2.same.trans (n3.same.trans (n4.same.trans (n5.same.trans n6.same)))
    have b5 := b1.same (n2.same.trans (n3.same.trans (n4.same.trans n5.same)))
    have t1 := (n3.same.trans (n4.same.trans (n5.same.trans n6.same))) _ _ n2.at_
    have t2 := (n4.same.trans (n5.same.trans n6.same)) _ _ n3.at_
    have t3 := (n5.same.trans n6.same) _ _ n4.at_
    have t4 := n6.same _ _ n5.at_
    refine ⟨b, c, _, rfl, b1.same s16, .inl ⟨p5, _, rfl, n6.at_, by simp, by simp, (b5.ne n6.fresh).1, fun H7 y k7 b7 hy => ?_⟩⟩
    have k := (k1.trans (Keep.same s16)).trans k7
    have nb : ∀ {p : Addr} {x y : Int}, H6 p = some (.tup [.int x, .int y]) → H7 p = some (.tup [.int x, .int y]) := fun {p x y} h => k7 _ _ (by
      obtain ⟨xs, i, r, s, n, e1, _⟩ := b1.same s16
      simpa using ne_of h e1 (by intro z; cases z)) h
    simp only [List.mem_cons, List.not_mem_nil, or_false] at hy
    rcases hy with rfl | rfl | rfl | rfl
    · exact q H7 _ 12 12 k b7 (nb t1) (by decide) (by decide) (by decide) (by decide)
    · exact q H7 _ 1 12 k b7 (nb t2) (by decide) (by decide) (by decide) (by decide)
    · exact q H7 _ 12 1 k b7 (nb t3) (by decide) (by decide) (by decide) (by decide)
    · exact q H7 _ 7 5 k b7 (nb t4) (by decide) (by decide) (by decide) (by decide)
  · refine ⟨b, c, 4, rfl, by decide, by decide, b1, fun H2 d2 k2 b2 hd2 => ⟨_, rfl, b, c, 4, rfl, by decide, by decide, b2, fun H3 d3 k3 b3 hd3 => ⟨_, rfl, fun p H4 n4 => ?_⟩⟩⟩
    refine q H4 p (1 + d2) (1 + d3) ((k1.trans (k2.trans k3)).trans (Keep.same n4.same)) (b3.same n4.same) ?_ (by omega) (by omega) (by omega) (by omega)
    rw [n4.at_]
    simp
def inG (h w : Nat) (c : Cell) : Bool := decide (0 ≤ c.1) && decide (c.1 < h) && (decide (0 ≤ c.2) && decide (c.2 < w))
def sp_law_sides : Sp := fun vs H Q _ => ∃ (h w : Nat) (t : Addr) (c : Cell), vs = [.int h, .int w, .ref t] ∧ CellV H t c ∧ ∀ H' p, Same H H' → H p = none → CellL H' p ((nb c).filter (inG h w)) → Q (.ref p) H'
theorem c_law_sides (T : Tx K mg) (D : Df K mg "_law_sides" s_law_sides) (c_law_four : Cal P w K mg base CX0 1 "_law_four" p_law_four (sp_law_four)) : Cal P w K mg base CX0 2 "_law_sides" p_law_sides (sp_law_sides) := by
  have S := sc_law_sides
  refine cal0 D S (fun _ _ _ _ _ _ us hl => match us, hl with | [_, _, _], _ => rfl) (fun vs H Q E h => ?_) (fun f cdv A outer s H vs Q E hr h => ?_)
  · obtain ⟨_, _, _, _, rfl, _⟩ := h
    rfl
  refine ⟨_, (pss_cons (ps_setLc (i := 3) (own := [("_law_a", 4), ("_law_b", 5)]) (g := gTup K 2 (gCons (gName 4) (gCons (gName 5) gNil))) rfl S.nd rfl rfl (sw_true rfl rfl rfl (by decide +kernel)) (pi_list (pe_fn0 c_law_four hr)) (blkOk_by (N := N_law_sides) (sc := defScope s_law_sides) (by decide +kernel)) (fun _ _ _ _ _ => (pg_tup (n := 2) rfl (pgs_cons (pg_name (i := 4) S.nd rfl (by first | exact Or.inl rfl | exact Or.inr rfl)) (pgs_cons (pg_name (i := 5) S.nd rfl (by first | exact Or.inl rfl | exact Or.inr rfl)) pgs_nil)))) (fun _ _ _ _ _ => pts_nil) (fun _ _ _ _ _ => (pe_tup_ (pa_cons (pe_op op_add (pe_ix (r := rIxT K) ix_tup (pv 2) pe_int (fun _ _ => rfl)) (pv 4)) (pa_cons (pe_op op_add (pe_ix (r := rIxT K) ix_tup (pv 2) pe_int (fun _ _ => rfl)) (pv 5)) pa_nil)))))
      (pss_one (ps_ret (pe_lc (own := [("_law_one", 6)]) (g := gName 6) rfl S.nd (pi_list (pv 3)) (blkOk_by (N := N_law_sides) (sc := defScope s_law_sides) (by decide +kernel)) (fun _ _ _ _ _ => (pg_name (i := 6) S.nd rfl (by first | exact Or.inl rfl | exact Or.inr rfl))) (fun _ _ _ _ _ => (pts_one (PW.pt (pw_and (pt_chain op_le op_lt pe_int (pe_ix (r := rIxT K) ix_tup (pv 6) pe_int (fun _ _ => rfl)) (pv 0)) (pw_and1 (pt_chain op_le op_lt pe_int (pe_ix (r := rIxT K) ix_tup (pv 6) pe_int (fun _ _ => rfl)) (pv 1))))))) (fun _ _ _ _ _ => (pv 6)))))), ?_⟩
  obtain ⟨h, w, t, c, rfl, hc, q⟩ := h
  walk_at "rd"
  refine ⟨rfl, fun H1 p1 s1 f1 c1 => ⟨p1, rfl, ?_⟩⟩
  obtain ⟨ss, hss, sC⟩ := c1
  have lss : ss.length = 4 := sC.len
  have t1 := s1 _ _ hc
  refine ⟨⟨_, SqL.of hss⟩, fun D hD => lc_it (walk_list (xs := ss.map V.ref)) (LcInv H1 D fun acc j H' => ∃ us, acc = us.map V.ref ∧ Cells H' us ((nb c).take j)) (lc0 hD ⟨[], rfl, by simp; exact .nil⟩) (fun _ _ _ ⟨_, _, _, s, _⟩ => SqL.of (s _ _ hss)) (fun j x H2 H3 hj ⟨acc, ha, hl, s2, us, e1, rq⟩ y => ?_) (fun H2 ⟨acc, ha, hl, s2, us, e1, rq⟩ => ?_)⟩
  · obtain ⟨rfl, hx⟩ := y
    obtain ⟨u, hu, rfl⟩ := map_ref_get hx
    obtain ⟨f, hf, hfu⟩ := sC.get hu
    have nx : (nb c)[j]? = some (c.1 + f.1, c.2 + f.2) := by rw [← nb_four, List.getElem?_map, hf]; rfl
    have t2 := s2 _ _ t1
    walk_at "rd"
    refine ⟨_, SqT.of (s2 _ _ hfu), rfl, _, _, rfl, _, _, rfl, rfl, _, SqT.of t2, _, atI_zero rfl, c.1, rfl, f.1, rfl, _, SqT.of t2, V.int c.2, rfl, c.2, rfl, f.2, rfl, fun T4 H4 n4 => ?_⟩
    refine lcKeep hD (n4.same _ _ ha) hl hj (by rw [List.length_map]; omega) (s2.trans n4.same) ⟨us ++ [T4], by rw [e1]; simp, ?_⟩
    rw [take_get nx]
    exact (Cells.updL (n4.same _ _ ha) (rq.same n4.same)).app (.cons (CellV.updL (n4.same _ _ ha) n4.at_) .nil)
  · rw [List.take_of_length_le (by rw [List.length_map, lss]; simp [nb])] at rq
    have d2 : H2 D = some (.lst (us.map V.ref)) := by rw [ha, e1]
    have lus : us.length = 4 := rq.len
    have s02 := s1.trans s2
    have fD : H D = none := none_of s1 hD
    clear ha hl
    refine ⟨_, rfl, D, rfl, ⟨_, SqL.of d2⟩, fun D3 hD3 => lc_it (walk_list (xs := us.map V.ref)) (LcInv H2 D3 fun acc j H' => ∃ vs, acc = vs.map V.ref ∧ Cells H' vs (((nb c).take j).filter (inG h w))) (lc0 hD3 ⟨[], rfl, by simp; exact .nil⟩) (fun _ _ _ ⟨_, _, _, s, _⟩ => SqL.of (s _ _ d2)) (fun j x H3 H4 hj ⟨acc, ha, hl, s3, vs, e3, rq3⟩ y => ?_) (fun H3 ⟨acc, ha, hl, s3, vs, e3, rq3⟩ => ?_)⟩
    · obtain ⟨rfl, hx⟩ := y
      obtain ⟨u, hu, rfl⟩ := map_ref_get hx
      obtain ⟨f, hf, hfu⟩ := rq.get hu
      have u3 := s3 _ _ hfu
      have nx : (((nb c).take (j + 1)).filter (inG h w)) = (((nb c).take j).filter (inG h w)) ++ (if inG h w f = true then [f] else []) := by
        rw [take_get hf, List.filter_append]
        congr 1
        cases q : inG h w f <;> simp [q]
      have skip : inG h w f ≠ true → LcInv H2 D3 (fun acc j H' => ∃ vs, acc = vs.map V.ref ∧ Cells H' vs (((nb c).take j).filter (inG h w))) (j + 1) H4 := fun q => by
        refine lcSkip ha hl s3 ⟨vs, e3, ?_⟩
        rw [nx, if_neg q, List.append_nil]
        exact rq3
      walk_at "rd"
      refine ⟨_, SqT.of u3, _, atI_zero rfl, f.1, rfl, ite2 (fun a1 => ⟨f.1, rfl, ite2 (fun a2 => ⟨_, SqT.of u3, V.int f.2, rfl, f.2, rfl, ite2 (fun a3 => ⟨f.2, rfl, ite2 (fun a4 => ?_) fun a4 => skip (by unfold inG; simp; omega)⟩) fun a3 => skip (by unfold inG; simp; omega)⟩) fun a2 => skip (by unfold inG; simp; omega)⟩) fun a1 => skip (by unfold inG; simp; omega)⟩
      refine lcKeep hD3 ha hl hj (by rw [List.length_map]; omega) s3 ⟨vs ++ [u], by rw [e3]; simp, ?_⟩
      rw [nx, if_pos (by unfold inG; simp; omega)]
      exact (Cells.updL ha rq3).app (.cons (CellV.updL ha u3) .nil)
    · rw [List.take_of_length_le (by rw [List.length_map, lus]; simp [nb])] at rq3
      exact q H3 D3 (s02.trans s3) (none_of s02 hD3) ⟨vs, by rw [ha, e3], rq3⟩
end
end Dk
-- text N4
set_option maxHeartbeats 1000000
namespace Dk
open PySem PySem.Spec PyProof.Rows L2
local macro_rules | `(tactic| walk_at "rd") => `(tactic| simp only [tRet, tRetN, tSeq, tAsg, tIfS, tB, tVar, tC, tCons, tNil, tCB, tCall, tOp, tUn, rI0, rI, rU, rEq, rNe, gName, tAnd, tOr, tNot, tAndV, tOrV, tNotV, tIf, tTest, tChain, tDrop, tNext, tBreak, tCont, tTup, tLst, tBM, tBM0, tM0, tM1, tSl, tPart, tNoPart, tPar,
  rIs, rIs2, rIxL, rIxT, rIxS, rAppend, rExtend, rPop, rPopAt, gTup, gCons, gNil, gSub, tYes, wipe, tD1, tDcC, rListC, rSortC, rEmp, rJoin, tM1, gFld, tFld, sFld, rMinDef, tCKw, StX.tStar, rLen, tDGet2, tNo, tScN, rSortTx, rSetTx, iKeys, tPar3, sDPut, tFor_eq, iList, iEnum, iStr, iZip, cxK, cxP, cxW, tTup_, tLst_, tDNewK_, tDNewT_, rSlL_, rListOf_, rCatN, rRepN, rListStr, iRng1, rLenT, rInC, rDictC, sizeLine_eq, Nat.reduceLeDiff, Bool.true_or, Bool.false_or, Bool.or_true, Bool.or_false, Bool.true_and, Bool.false_and, Bool.and_true, Bool.and_false, Bool.not_true, Bool.not_false, Bool.not_eq_true', decide_eq_true_eq, decide_eq_false_iff_not, scal, isT_Non_boo, isT_Non_int, isT_Non_str, isT_Non_lis, isT_Non_tup, isT_Non_dic, isT_boo_boo, isT_boo_int, isT_boo_str, isT_boo_lis, isT_boo_tup, isT_boo_dic, isT_int_boo, isT_int_int, isT_int_str, isT_int_lis, isT_int_tup, isT_int_dic, isT_str_boo, isT_str_int, isT_str_str, isT_str_lis, isT_str_tup, isT_str_dic, isT_lis_boo, isT_lis_int, isT_lis_str, isT_lis_lis, isT_lis_tup, isT_lis_dic, isT_tup_boo, isT_tup_int, isT_tup_str, isT_tup_lis, isT_tup_tup, isT_tup_dic, isT_dic_boo, isT_dic_int, isT_dic_str, isT_dic_lis, isT_dic_tup, isT_dic_dic, kit_Non, kit_boo, kit_int, kit_str, kit_lis, kit_tup, kit_dic, sg_inj, vt_non, vt_bl, vt_int, vt_str, len_str, tDGet, tDIn, tDNotIn,
  L2.start, List.map_cons, List.map_nil, List.length_cons, List.length_nil, List.cons_append, List.nil_append, List.append_nil, Nat.zero_add, Nat.reduceAdd, Nat.reduceSub, Nat.sub_zero, Nat.sub_self, List.replicate_succ, List.replicate_zero,
  List.getElem?_cons_zero, List.getElem?_cons_succ, List.getElem?_nil, List.set_cons_zero, List.set_cons_succ, List.cons.injEq, Option.some.injEq, V.int.injEq, V.str.injEq, V.bl.injEq, V.ref.injEq, V.ty.injEq, reduceCtorEq,
  and_assoc, and_true, true_and, false_and, and_false, exists_eq_left, exists_eq_left', exists_eq', exists_eq_right, exists_eq_right', exists_and_left, exists_and_right, exists_const, exists_false, exists_eq, if_true, if_false, Bool.false_eq_true, Bool.true_eq, decide_true, decide_false, ite_self])
/-- a dict from the cells S to names -/
structure DD (L : List (List Key × V)) (S : List Cell) : Prop where
  keys : L.map (·.1) = S.map fun c => kc c
  nd : S.Nodup
  vals : ∀ p ∈ L, ∃ z, p.2 = .str z ∧ nm z
theorem DD.len {L : List (List Key × V)} {S : List Cell} (h : DD L S) : L.length = S.length := by
  have := congrArg List.length h.keys
  simpa using this
theorem DD.nil : DD [] [] := ⟨rfl, by simp, by simp⟩
theorem DD.val {L : List (List Key × V)} {S : List Cell} (h : DD L S) (c : Cell) : (c ∈ S → ∃ z, valV L (kc c) = some (.str z) ∧ nm z) ∧ (c ∉ S → valV L (kc c) = none) := by
  obtain ⟨h1, hnd, h3⟩ := h
  clear hnd
  induction L generalizing S with
  | nil =>
    cases S with
    | nil => exact ⟨by simp, fun _ => rfl⟩
    | cons a r => cases h1
  | cons p r ih =>
    obtain ⟨k, v⟩ := p
    cases S with
    | nil => cases h1
    | cons a s =>
      rw [List.map_cons, List.map_cons, List.cons.injEq] at h1
      obtain ⟨e, h1⟩ := h1
      have e : k = kc a := e
      subst e
      have ih := ih (S := s) h1 (fun p hp => h3 p (List.mem_cons_of_mem _ hp))
      by_cases q : a = c
      · subst q
        obtain ⟨z, hz, n⟩ := h3 _ List.mem_cons_self
        have hz : v = .str z := hz
        subst hz
        exact ⟨fun _ => ⟨z, valV_pos rfl, n⟩, fun q => absurd List.mem_cons_self q⟩
      · have e : valV ((kc a, v) :: r) (kc c) = valV r (kc c) := valV_neg (fun h => q (kc_inj h))
        rw [e]
        exact ⟨fun m => ih.1 ((List.mem_cons.mp m).resolve_left fun z => q z.symm), fun m => ih.2 fun z => m (List.mem_cons_of_mem _ z)⟩
theorem DD.some {L : List (List Key × V)} {S : List Cell} (h : DD L S) (c : Cell) : (valV L (kc c)).isSome = decide (c ∈ S) := by
  by_cases m : c ∈ S
  · obtain ⟨z, e, _⟩ := (h.val c).1 m
    rw [e, decide_eq_true m]; rfl
  · rw [(h.val c).2 m, decide_eq_false m]; rfl
theorem DD.put {L : List (List Key × V)} {S : List Cell} (h : DD L S) (c : Cell) {z : Str} (n : nm z) : DD (putK L (kc c) (.str z)) (insC S c) := by
  by_cases m : c ∈ S
  · have e : insC S c = S := by unfold insC; rw [if_pos m]
    rw [e]
    have e2 : putK L (kc c) (.str z) = L.map fun p => if p.1 = kc c then (p.1, V.str z) else p := by
      unfold putK
      rw [valV_any, h.some, decide_eq_true m, if_pos rfl]
    rw [e2]
    refine ⟨?_, h.nd, fun p hp => ?_⟩
    · rw [List.map_map, ← h.keys]
      refine List.map_congr_left fun p _ => ?_
      show (if p.1 = kc c then (p.1, V.str z) else p).1 = p.1
      split <;> rfl
    · obtain ⟨p0, hp0, rfl⟩ := List.mem_map.mp hp
      split
      · exact ⟨z, rfl, n⟩
      · exact h.vals p0 hp0
  · have e : insC S c = S ++ [c] := by unfold insC; rw [if_neg m]
    rw [e, putK_new _ ((h.val c).2 m)]
    refine ⟨by rw [List.map_append, h.keys, List.map_append]; rfl, ?_, fun p hp => ?_⟩
    · have := insC_nodup (c := c) h.nd
      rwa [e] at this
    · rcases List.mem_append.mp hp with q | q
      · exact h.vals p q
      · simp at q; rw [q]; exact ⟨z, rfl, n⟩
theorem BagAt.cells {H H' : Hp} {b c : Addr} {ts : List Addr} {cs : List Cell} (h : BagAt H b c) (k : Keep [b] H H') (r : Cells H ts cs) : Cells H' ts cs := by
  obtain ⟨xs, i, q, s, n, e1, _⟩ := h
  exact r.keep k fun a ha xs z => by
    simp at ha
    rw [ha, e1] at z
    cases z
theorem BagAt.cellL {H H' : Hp} {b c a : Addr} {cs : List Cell} (h : BagAt H b c) (k : Keep [b] H H') (n : a ≠ b) (r : CellL H a cs) : CellL H' a cs := by
  obtain ⟨ts, h1, h2⟩ := r
  exact ⟨ts, k _ _ (by simpa using n) h1, h.cells k h2⟩
theorem paired_erase {α β : Type} {F : α → β → Prop} : ∀ {l : List α} {m : List β} (k : Nat), Paired F l m → Paired F (l.eraseIdx k) (m.eraseIdx k)
  | _, _, k, .nil => by simp; exact .nil
  | _, _, 0, .cons r t => by simpa using t
  | _, _, k + 1, .cons r t => by
    rw [List.eraseIdx_cons_succ, List.eraseIdx_cons_succ]
    exact .cons r (paired_erase k t)
theorem map_erase {α β : Type} (f : α → β) : ∀ (l : List α) (k : Nat), (l.map f).eraseIdx k = (l.eraseIdx k).map f
  | [], k => by simp
  | a :: r, 0 => by simp
  | a :: r, k + 1 => by
    rw [List.map_cons, List.eraseIdx_cons_succ, List.eraseIdx_cons_succ, List.map_cons, map_erase f r k]
theorem mem_erase_or {α : Type} : ∀ {l : List α} {k : Nat} {x y : α}, l[k]? = some y → x ∈ l → x ∈ l.eraseIdx k ∨ x = y
  | [], _, _, _, _, h => by cases h
  | a :: r, 0, x, y, e, h => by
    simp at e; subst e
    rcases List.mem_cons.mp h with q | q
    · exact .inr q
    · exact .inl (by simpa using q)
  | a :: r, k + 1, x, y, e, h => by
    rw [List.eraseIdx_cons_succ]
    rcases List.mem_cons.mp h with q | q
    · exact .inl (by rw [q]; exact List.mem_cons_self)
    · rcases mem_erase_or (k := k) (by simpa using e) q with q | q
      · exact .inl (List.mem_cons_of_mem _ q)
      · exact .inr q
theorem mem_of_erase {α : Type} {l : List α} {k : Nat} {x : α} (h : x ∈ l.eraseIdx k) : x ∈ l := (List.eraseIdx_sublist l k).subset h
section
variable {P : Program} {w : World} {K : PySem.W.Frag} {mg : Str → Option Value} {base : Heap}
def sp_law_grown : Sp := fun vs H Q _ => ∃ (b c : Addr) (h w : Nat) (n : Addr) (zs : List Str), vs = [.ref b, .int h, .int w, .ref n] ∧ BagAt H b c ∧ 1 ≤ h ∧ h ≤ 12 ∧ 1 ≤ w ∧ w ≤ 12 ∧ H n = some (.lst (zs.map V.str)) ∧ zs ≠ [] ∧ (∀ z ∈ zs, nm z) ∧ n ≠ b ∧
  ∀ H' p L S, Keep [b] H H' → BagAt H' b c → H' p = some (.dT L) → DD L S → (∀ x ∈ gridAll w 0 h, x ∈ S) → Q (.ref p) H'
theorem c_law_grown (T : Tx K mg) (D : Df K mg "_law_grown" s_law_grown) (c_law_all_cells : Cal P w K mg base CX0 1 "_law_all_cells" p_law_all_cells (sp_law_all_cells)) (c_law_draw : Cal P w K mg base CX0 1 "_law_draw" p_law_draw (sp_law_draw)) (c_law_sides : Cal P w K mg base CX0 2 "_law_sides" p_law_sides (sp_law_sides)) (c_law_pick : Cal P w K mg base CX0 2 "_law_pick" p_law_pick (sp_law_pick)) : Cal P w K mg base CX0 3 "_law_grown" p_law_grown (sp_law_grown) := by
  have S := sc_law_grown
  refine cal0 D S (fun _ _ _ _ _ _ us hl => match us, hl with | [_, _, _, _], _ => rfl) (fun vs H Q E h => ?_) (fun f cdv A outer s H vs Q E hr h => ?_)
  · obtain ⟨_, _, _, _, _, _, rfl, _⟩ := h
    rfl
  refine ⟨_, (pss_cons (ps_asg (pe_tup_ (pa_cons (pe_fn c_law_all_cells hr (pa_cons (pv 1) (pa_cons (pv 2) pa_nil))) (pa_cons pe_dnewT_ pa_nil))) (pg_tup (n := 2) rfl (pgs_cons (pg_name (i := 4) S.nd rfl (by first | exact Or.inl rfl | exact Or.inr rfl)) (pgs_cons (pg_name (i := 5) S.nd rfl (by first | exact Or.inl rfl | exact Or.inr rfl)) pgs_nil))))
      (pss_cons (ps_set (i := 6) S.nd rfl (by first | exact Or.inl rfl | exact Or.inr rfl) (pe_callTy (T := "list") (r := rListOf_ K) call_listOf_ (by rfl) (T.fr _ (by decide)) (by decide +kernel) (pa_cons (pv 4) pa_nil)))
      (pss_cons (ps_for PassesOwn.never rfl (pi_list (pv 3)) (pg_name (i := 7) S.nd rfl (by first | exact Or.inl rfl | exact Or.inr rfl)) (pss_one (ps_if (pt_cmpR (op_neE hr) (pv 6) (pe_lst_ pa_nil) (nomark _)) (pss_one (ps_dput (hu_of hr) (pv 5) (pe_bm PySem.F.plainAttrs_list PySem.F.slot_list_pop PySem.F.type_list_pop mt_popAt (pv 6) (pa_cons (pe_fn c_law_draw hr (pa_cons (pv 0) (pa_cons (pe_callB (id := "len") (r := rLen K) (call_len_ rfl) (by rfl) (T.fr _ (by decide)) (by decide +kernel) (pa_cons (pv 6) pa_nil)) pa_nil))) pa_nil)) (pv 7) rfl)) pss_nil)))
      (pss_cons (ps_for PassesOwn.never rfl (pi_range1 (by rfl) (T.fr _ (by decide)) (pa_cons (pe_callB (id := "len") (r := rLen K) (call_len_ rfl) (by rfl) (T.fr _ (by decide)) (by decide +kernel) (pa_cons (pv 4) pa_nil)) pa_nil)) (pg_name (i := 8) S.nd rfl (by first | exact Or.inl rfl | exact Or.inr rfl)) (pss_cons (ps_for PassesOwn.never rfl (pi_list (pv 6)) (pg_name (i := 9) S.nd rfl (by first | exact Or.inl rfl | exact Or.inr rfl)) (pss_cons (ps_setLc (i := 10) (own := [("_law_one", 11)]) (g := gName 11) rfl S.nd rfl rfl (sw_true rfl rfl rfl (by decide +kernel)) (pi_list (pe_fn c_law_sides hr (pa_cons (pv 1) (pa_cons (pv 2) (pa_cons (pv 9) pa_nil))))) (blkOk_by (N := N_law_grown) (sc := defScope s_law_grown) (by decide +kernel)) (fun _ _ _ _ _ => (pg_name (i := 11) S.nd rfl (by first | exact Or.inl rfl | exact Or.inr rfl))) (fun _ _ _ _ _ => (pts_one (pt_cmp (pc_din (hu_of hr) (pv 11) (pv 5))))) (fun _ _ _ _ _ => (pe_dget (hu_of hr) (pv 5) (pv 11) (fun _ _ => rfl))))
      (pss_one (ps_if (pt_cmpR (op_neE hr) (pv 10) (pe_lst_ pa_nil) (nomark _)) (pss_one (ps_dput (hu_of hr) (pv 5) (pv 9) (pe_fn c_law_pick hr (pa_cons (pv 0) (pa_cons (pv 10) pa_nil))) rfl)) pss_nil))))
      (pss_cons (ps_setLc (i := 6) (own := [("_law_cell", 9)]) (g := gName 9) rfl S.nd rfl rfl (sw_true rfl rfl rfl (by decide +kernel)) (pi_list (pv 4)) (blkOk_by (N := N_law_grown) (sc := defScope s_law_grown) (by decide +kernel)) (fun _ _ _ _ _ => (pg_name (i := 9) S.nd rfl (by first | exact Or.inl rfl | exact Or.inr rfl))) (fun _ _ _ _ _ => (pts_one (pt_cmp (pc_dnotin (hu_of hr) (pv 9) (pv 5))))) (fun _ _ _ _ _ => (pv 9)))
      (pss_one (ps_if (pt_cmpR (op_eqE hr) (pv 6) (pe_lst_ pa_nil) (nomark _)) (pss_one ps_break) pss_nil)))))
      (pss_one (ps_ret (pv 5))))))), ?_⟩
  obtain ⟨b, c, h, w, n, zs, rfl, hb, h1, h2, w1, w2, hn, nz, az, nnb, q⟩ := h
  have e62 : (2 : Int) ^ 62 = 4611686018427387904 := by decide
  obtain ⟨G, hG⟩ : ∃ G, G = gridAll w 0 h := ⟨_, rfl⟩
  have nm' : h * w ≤ 144 := Nat.mul_le_mul h2 w2
  have lG : G.length ≤ 144 := by rw [hG, gridAll_len]; exact nm'
  walk_at "rd"
  refine ⟨h, w, rfl, by omega, by omega, by omega, fun H1 cl s1 f1 g1 d H2 n2 u H3 n3 => ?_⟩
  obtain ⟨ts, hts, tC⟩ := g1
  rw [← hG] at tC
  have lts := tC.len
  have s13 := n2.same.trans n3.same
  refine ⟨_, SqT.of n3.at_, rfl, _, _, rfl, _, _, rfl, rfl, cl, rfl, _, .inl (SqL.of (s13 _ _ hts)), fun lf H4 n4 => ?_⟩
  have s14 := s13.trans n4.same
  have s04 := s1.trans s14
  have n4' := s04 _ _ hn
  have fd : H d = none := none_of s1 n2.fresh
  have fl : H lf = none := none_of (s1.trans s13) n4.fresh
  have hd4 := (n3.same.trans n4.same) _ _ n2.at_
  have ncl : cl ≠ b := (hb.ne f1).1
  have ndb := hb.ne fd
  have nlb := hb.ne fl
  have ncd : cl ≠ d := ne_of_none hts n2.fresh
  have ncl2 : cl ≠ lf := ne_of_none (s13 _ _ hts) n4.fresh
  have nnd : n ≠ d := ne_of_none (s1 _ _ hn) n2.fresh
  have nnl : n ≠ lf := ne_of_none ((s1.trans s13) _ _ hn) n4.fresh
  have ndl : d ≠ lf := ne_of_none (n3.same _ _ n2.at_) n4.fresh
  refine ⟨⟨_, SqL.of n4'⟩, ?_⟩
  obtain ⟨Pv, hP⟩ : ∃ Pv : Nat → L2.St → Hp → Prop, Pv = fun i σ H' => ∃ x7 L S ls LS, σ = [some (.ref b), some (.int h), some (.int w), some (.ref n), some (.ref cl), some (.ref d), some (.ref lf), x7, none, none, none, none] ∧ Keep [b] H H' ∧ BagAt H' b c ∧ CellL H' cl G ∧ H' d = some (.dT L) ∧ DD L S ∧ H' lf = some (.lst (ls.map V.ref)) ∧ Cells H' ls LS ∧ H' n = some (.lst (zs.map V.str)) ∧ (∀ x ∈ S, x ∈ G) ∧ (∀ x ∈ LS, x ∈ G) ∧ (∀ x ∈ G, x ∈ S ∨ x ∈ LS) ∧ LS.length ≤ 144 ∧ (i ≠ 0 → S ≠ []) := ⟨_, rfl⟩
  refine for_B (walk_list (xs := zs.map V.str)) Pv ?_ (fun i σ H' _ h => ?_) (fun i v σ H5 H6 hi h y => ?_) (fun σ H5 h => ?_)
  · rw [hP]
    exact ⟨_, _, [], ts, G, rfl, Keep.same s04, hb.same s04, ⟨ts, s14 _ _ hts, tC.same s14⟩, hd4, DD.nil, n4.at_, tC.same s14, n4', by simp, fun x hx => hx, fun x hx => .inr hx, lG, fun z => absurd rfl z⟩
  · rw [hP] at h
    obtain ⟨_, _, _, _, _, _, _, _, _, _, _, _, _, h, _⟩ := h
    exact SqL.of h
  · rw [hP] at h
    obtain ⟨x7, L, S, ls, LS, rfl, k5, b5, c5, d5, dd, l5, lC, hn5, sS, sL, cov, l144, ne⟩ := h
    obtain ⟨rfl, hx⟩ := y
    obtain ⟨z, hz, rfl⟩ := str_list_get hx
    have nG : G ≠ [] := fun z => by
      have : G.length = 0 := by rw [z]; rfl
      rw [hG, gridAll_len] at this
      have := Nat.mul_le_mul h1 w1
      omega
    have lls := lC.len
    walk_at "rd"
    intro p7 H7 n7
    have l7 := n7.same _ _ l5
    refine ⟨_, SqL.of l7, SqL.of n7.at_, ite2 (fun a => ?_) fun a => ?_⟩
    · have lpos : 0 < ls.length := by
        cases ls with
        | nil => simp at a
        | cons => simp
      refine ⟨tyV_lst l7, _, .inl ⟨_, SqL.of l7, rfl⟩, b, c, _, rfl, by rw [List.length_map]; exact lpos, ?_, b5.same n7.same, fun H8 k k8 b8 hk => ?_⟩
      · rw [List.length_map]; omega
      rw [List.length_map] at hk
      have nl : lf ∉ [b] := by simpa using nlb.1
      have nd : d ∉ [b] := by simpa using ndb.1
      have l8 := k8 _ _ nl l7
      have d8 := k8 _ _ nd (n7.same _ _ d5)
      obtain ⟨cc, hcc⟩ : ∃ cc, LS[k]? = some cc := ⟨LS[k]'(by omega), List.getElem?_eq_getElem _⟩
      obtain ⟨u, hu⟩ : ∃ u, ls[k]? = some u := ⟨ls[k], List.getElem?_eq_getElem _⟩
      have lC8 := (b5.same n7.same).cells k8 (lC.same n7.same)
      obtain ⟨cc', hcc', ucc⟩ := lC8.get hu
      rw [hcc] at hcc'
      cases hcc'
      have dL : L.length ≤ 144 := by
        rw [dd.len]
        exact Nat.le_trans (List.Nodup.length_le_of_subset dd.nd sS) lG
      refine ⟨_, (k : Nat), rfl, l8, by omega, by omega, k, ?_, V.ref u, by rw [List.getElem?_map, hu]; rfl, _, DPut.t (k := kc cc) (by rw [upd_ne ndl]; exact d8) (CellV.updL (c := cc) l8 ucc) (by rw [sizeLine_eq]; omega), ?_⟩
      · rw [seqIndex_of (by omega) (by rw [List.length_map]; omega)]
        simp
      obtain ⟨H9, hH9⟩ : ∃ H9, H9 = L2.upd H8 lf (.lst ((ls.map V.ref).eraseIdx k)) := ⟨_, rfl⟩
      have d9 : H9 d = some (.dT L) := by rw [hH9, upd_ne ndl]; exact d8
      have k09 : Keep [b] H H9 := by rw [hH9]; exact keep_new fl ((k5.trans (Keep.same n7.same)).trans k8)
      have lC9 : Cells H9 (ls.eraseIdx k) (LS.eraseIdx k) := by rw [hH9]; exact Cells.updL l8 (paired_erase k lC8)
      have c8 := (b5.same n7.same).cellL k8 ncl (CellL.same n7.same c5)
      have c9 : CellL H9 cl G := by
        obtain ⟨us, e1, e2⟩ := c8
        exact ⟨us, by rw [hH9, upd_ne ncl2]; exact e1, by rw [hH9]; exact Cells.updL l8 e2⟩
      have n9 : H9 n = some (.lst (zs.map V.str)) := by rw [hH9, upd_ne nnl]; exact k8 _ _ (by simpa using nnb) (n7.same _ _ hn5)
      have l9 : H9 lf = some (.lst ((ls.eraseIdx k).map V.ref)) := by rw [hH9, upd_same, map_erase]
      have b9 : BagAt H9 b c := by rw [hH9]; exact b8.upd nlb.1 nlb.2
      rw [← hH9, hP]
      refine ⟨_, _, insC S cc, _, LS.eraseIdx k, rfl, keep_new fd k09, b9.upd ndb.1 ndb.2, ?_, upd_same, dd.put cc (az z (List.mem_of_getElem? hz)), by rw [upd_ne ndl.symm]; exact l9, Cells.upd d9 lC9 (fun _ z => by cases z), by rw [upd_ne nnd]; exact n9, fun x hx => ?_, fun x hx => sL x (mem_of_erase hx), fun x hx => ?_, ?_, fun _ e => ?_⟩
      · obtain ⟨us, e1, e2⟩ := c9
        exact ⟨us, by rw [upd_ne ncd]; exact e1, Cells.upd d9 e2 (fun _ z => by cases z)⟩
      · rcases mem_insC.mp hx with q | q
        · exact sS x q
        · rw [q]; exact sL cc (List.mem_of_getElem? hcc)
      · rcases cov x hx with q | q
        · exact .inl (mem_insC.mpr (.inl q))
        · rcases mem_erase_or hcc q with q | q
          · exact .inr q
          · exact .inl (mem_insC.mpr (.inr q))
      · have := (List.eraseIdx_sublist LS k).length_le
        omega
      · have : cc ∈ insC S cc := mem_insC.mpr (.inr rfl)
        rw [e] at this
        cases this
    · have eL : LS = [] := by
        cases ls with
        | nil => exact List.length_eq_zero_iff.mp (by rw [← lls]; rfl)
        | cons => simp at a
      rw [hP]
      refine ⟨_, _, S, _, LS, rfl, k5.trans (Keep.same n7.same), b5.same n7.same, CellL.same n7.same c5, n7.same _ _ d5, dd, l7, lC.same n7.same, n7.same _ _ hn5, sS, sL, cov, l144, fun _ e => ?_⟩
      cases g : G with
      | nil => exact nG g
      | cons x r =>
        rcases cov x (by rw [g]; exact List.mem_cons_self) with q | q
        · rw [e] at q; cases q
        · rw [eL] at q; cases q
  · rw [hP] at h
    obtain ⟨x7, L, S, ls, LS, rfl, k5, b5, c5, d5, dd, l5, lC, hn5, sS, sL, cov, l144, ne⟩ := h
    have neS : S ≠ [] := ne (by rw [List.length_map]; exact fun z => nz (List.length_eq_zero_iff.mp z))
    have lGn : G.length = h * w := by rw [hG, gridAll_len]
    obtain ⟨us, cl5, uC5⟩ := c5
    have lus := uC5.len
    walk_at "rd"
    refine ⟨_, .inl ⟨_, SqL.of cl5, rfl⟩, by rw [List.length_map]; omega, by rw [List.length_map]; omega, ?_⟩
    rw [Int.toNat_natCast, List.length_map]
    obtain ⟨Pv, hP⟩ : ∃ Pv : Nat → L2.St → Hp → Prop, Pv = fun i σ H' => ∃ x7 x8 x9 x10 L S ls LS lf, σ = [some (.ref b), some (.int h), some (.int w), some (.ref n), some (.ref cl), some (.ref d), some (.ref lf), x7, x8, x9, x10, none] ∧ Keep [b] H H' ∧ BagAt H' b c ∧ H' cl = some (.lst (us.map V.ref)) ∧ Cells H' us G ∧ H' d = some (.dT L) ∧ DD L S ∧ lf ≠ b ∧ H' lf = some (.lst (ls.map V.ref)) ∧ Cells H' ls LS ∧ (∀ x ∈ S, x ∈ G) ∧ (∀ x ∈ LS, x ∈ G) ∧ (∀ x ∈ G, x ∈ S ∨ x ∈ LS) ∧ LS.length ≤ 144 ∧ S ≠ [] ∧ (i + 1 ≤ S.length ∨ ∀ x ∈ G, x ∈ S) := ⟨_, rfl⟩
    refine for_B (walk_range (lo := 0) (n := us.length)) Pv ?_ (fun _ _ _ _ _ => trivial) (fun i v σ H6 H7 hi h y => ?_) (fun σ H6 h => ?_)
    · rw [hP]
      refine ⟨_, _, _, _, L, S, ls, LS, lf, rfl, k5, b5, cl5, uC5, d5, dd, nlb.1, l5, lC, sS, sL, cov, l144, neS, .inl ?_⟩
      have := List.length_pos_iff.mpr neS
      omega
    · rw [hP] at h
      obtain ⟨x7, x8, x9, x10, L, S, ls, LS, lf, rfl, k6, b6, cl6, uC6, d6, dd, nlf, l6, lC, sS, sL, cov, l144, neS, big⟩ := h
      obtain ⟨rfl, rfl⟩ := y
      have lls := lC.len
      have nlfd : lf ≠ d := ne_of l6 d6 (by intro z; cases z)
      have nclb : cl ∉ [b] := by simpa using ncl
      have ndb' : d ∉ [b] := by simpa using ndb.1
      have nlfb : lf ∉ [b] := by simpa using nlf
      walk_at "rd"
      refine ⟨⟨_, SqL.of l6⟩, ?_⟩
      obtain ⟨Pw, hPw⟩ : ∃ Pw : Nat → L2.St → Hp → Prop, Pw = fun j σ H' => ∃ x9 x10 L S', σ = [some (.ref b), some (.int h), some (.int w), some (.ref n), some (.ref cl), some (.ref d), some (.ref lf), x7, some (.int (0 + (i : Nat))), x9, x10, none] ∧ Keep [b] H H' ∧ BagAt H' b c ∧ H' cl = some (.lst (us.map V.ref)) ∧ Cells H' us G ∧ H' d = some (.dT L) ∧ DD L S' ∧ H' lf = some (.lst (ls.map V.ref)) ∧ Cells H' ls LS ∧ (∀ x ∈ S, x ∈ S') ∧ (∀ x ∈ S', x ∈ G) ∧ (∀ y ∈ LS.take j, ∀ a ∈ nb y, a ∈ S → y ∈ S') := ⟨_, rfl⟩
      refine for_B (walk_list (xs := ls.map V.ref)) Pw ?_ (fun j σ H' _ h => ?_) (fun j v σ H8 H9 hj h y => ?_) (fun σ H8 h => ?_)
      · rw [hPw]
        exact ⟨_, _, L, S, rfl, k6, b6, cl6, uC6, d6, dd, l6, lC, fun x hx => hx, sS, by simp⟩
      · rw [hPw] at h
        obtain ⟨_, _, _, _, _, _, _, _, _, _, _, h, _⟩ := h
        exact SqL.of h
      · rw [hPw] at h
        obtain ⟨x9, x10, L, S', rfl, k8, b8, cl8, uC8, d8, dd, l8, lC8, sub, sG, reach⟩ := h
        obtain ⟨rfl, hx⟩ := y
        obtain ⟨u, hu, rfl⟩ := map_ref_get hx
        obtain ⟨cc, hcc, ucc⟩ := lC8.get hu
        have ccG := sL cc (List.mem_of_getElem? hcc)
        walk_at "rd"
        refine ⟨_, rfl, _, rfl, _, rfl, h, w, u, cc, rfl, ucc, fun H10 p10 s10 f10 c10 => ⟨p10, rfl, ?_⟩⟩
        obtain ⟨ps, hps, pC⟩ := c10
        obtain ⟨sd, hsd⟩ : ∃ sd, sd = (nb cc).filter (inG h w) := ⟨_, rfl⟩
        rw [← hsd] at pC
        have lps := pC.len
        have lsd : sd.length ≤ 4 := by rw [hsd]; exact List.length_filter_le _ _
        refine ⟨⟨_, SqL.of hps⟩, fun D hD => lc_it (walk_list (xs := ps.map V.ref)) (LcInv H10 D fun acc j _ => ∃ ns : List Str, acc = ns.map V.str ∧ (∀ z ∈ ns, nm z) ∧ ∀ a ∈ sd.take j, a ∈ S' → ns ≠ []) (lc0 hD ⟨[], rfl, by simp, by simp⟩) (fun _ _ _ ⟨_, _, _, s, _⟩ => SqL.of (s _ _ hps)) (fun j2 x H11 H12 hj2 ⟨acc, ha, hl, s11, ns, e1, nn, rq⟩ y => ?_) (fun H11 ⟨acc, ha, hl, s11, ns, e1, nn, rq⟩ => ?_)⟩
        · obtain ⟨rfl, hx⟩ := y
          obtain ⟨v, hv, rfl⟩ := map_ref_get hx
          obtain ⟨f, hf, hfv⟩ := pC.get hv
          have d12 := s11 _ _ (s10 _ _ d8)
          have v12 := s11 _ _ hfv
          have hD12 := ha
          walk_at "rd"
          refine ⟨_, DGet.t (k := kc f) d12 v12, ?_⟩
          by_cases m : f ∈ S'
          · obtain ⟨z, ez, nz'⟩ := (dd.val f).1 m
            rw [ez]
            refine if_yes rfl ⟨_, ez ▸ DGet.t (k := kc f) d12 v12, lcKeep hD ha hl hj2 (by rw [List.length_map]; omega) s11 ⟨ns ++ [z], by rw [e1]; simp, fun p hp => ?_, fun _ _ _ => by simp⟩⟩
            rcases List.mem_append.mp hp with q | q
            · exact nn p q
            · simp at q; rw [q]; exact nz'
          · rw [(dd.val f).2 m]
            refine if_no (by simp) (lcSkip ha hl s11 ⟨ns, e1, nn, fun a ha' haS => ?_⟩)
            rw [take_get hf] at ha'
            rcases List.mem_append.mp ha' with q | q
            · exact rq a q haS
            · simp at q; rw [q] at haS; exact absurd haS m
        · rw [List.take_of_length_le (by rw [List.length_map, lps]; exact Nat.le_refl _)] at rq
          have s8 := s10.trans s11
          have cov2 : ns = [] → ∀ a ∈ nb cc, a ∉ S' := fun e a ha' m => by
            refine rq a ?_ m e
            rw [hsd]
            refine List.mem_filter.mpr ⟨ha', ?_⟩
            have := sG a m
            rw [hG] at this
            obtain ⟨r, k, hr, hk, rfl⟩ := mem_gridAll.mp this
            unfold inG
            simp
            omega
          refine fun p12 H12 n12 => ⟨D, rfl, _, SqL.of (n12.same _ _ ha), SqL.of n12.at_, ?_⟩
          have s12 := s8.trans n12.same
          have b12 := b8.same s12
          refine ite2 (fun a => ?_) fun a => ?_
          · have nDb : D ≠ b := (b8.ne (none_of s10 hD)).1
            refine ⟨b, c, _, rfl, b12, .inl ⟨D, _, rfl, n12.same _ _ ha, fun z => by rw [z] at a; simp at a, ?_, nDb, fun H13 y k13 b13 hy => ?_⟩⟩
            · rw [List.length_map] at hl; omega
            rw [e1] at hy
            obtain ⟨z, hz, rfl⟩ := List.mem_map.mp hy
            have d13 := k13 _ _ ndb' (s12 _ _ d8)
            have u13 : CellV H13 u cc := by
              have := b12.cells k13 (.cons (s12 _ _ ucc) .nil : Cells H12 [u] [cc])
              cases this with
              | cons r _ => exact r
            have dL : L.length ≤ 144 := by
              rw [dd.len]
              exact Nat.le_trans (List.Nodup.length_le_of_subset dd.nd sG) lG
            refine ⟨_, DPut.t (k := kc cc) d13 u13 (by rw [sizeLine_eq]; omega), ?_⟩
            have k813 : Keep [b] H H13 := (k8.trans (Keep.same s12)).trans k13
            rw [hPw]
            refine ⟨_, _, _, insC S' cc, rfl, keep_new fd k813, b13.upd ndb.1 ndb.2, by rw [upd_ne ncd]; exact k13 _ _ nclb (s12 _ _ cl8), Cells.upd d13 (b12.cells k13 (uC8.same s12)) (fun _ z => by cases z), upd_same, dd.put cc (nn z hz), by rw [upd_ne nlfd]; exact k13 _ _ nlfb (s12 _ _ l8), Cells.upd d13 (b12.cells k13 (lC8.same s12)) (fun _ z => by cases z), fun x hx => mem_insC.mpr (.inl (sub x hx)), fun x hx => ?_, fun y hy a ha' haS => ?_⟩
            · rcases mem_insC.mp hx with q | q
              · exact sG x q
              · rw [q]; exact ccG
            · rw [take_get hcc] at hy
              rcases List.mem_append.mp hy with q | q
              · exact mem_insC.mpr (.inl (reach y q a ha' haS))
              · simp at q; rw [q]; exact mem_insC.mpr (.inr rfl)
          · have en : ns = [] := by
              rw [e1] at a
              cases ns with
              | nil => rfl
              | cons => simp at a
            rw [hPw]
            refine ⟨_, _, L, S', rfl, k8.trans (Keep.same s12), b12, s12 _ _ cl8, uC8.same s12, s12 _ _ d8, dd, s12 _ _ l8, lC8.same s12, sub, sG, fun y hy a ha' haS => ?_⟩
            rw [take_get hcc] at hy
            rcases List.mem_append.mp hy with q | q
            · exact reach y q a ha' haS
            · simp at q; rw [q] at ha'
              exact absurd (sub a haS) (cov2 en a ha')
      · rw [hPw] at h
        obtain ⟨x9, x10, L, S', rfl, k8, b8, cl8, uC8, d8, dd', l8, lC8, sub, sG, reach⟩ := h
        rw [List.take_of_length_le (by rw [List.length_map, lls]; exact Nat.le_refl _)] at reach
        have grow : i + 1 + 1 ≤ S'.length ∨ ∀ x ∈ G, x ∈ S' := by
          rcases big with q | q
          · by_cases full : ∀ x ∈ G, x ∈ S
            · exact .inr fun x hx => sub x (full x hx)
            · left
              obtain ⟨y, hy⟩ := Classical.not_forall.mp full
              obtain ⟨yG, yS⟩ := Classical.not_imp.mp hy
              obtain ⟨x, hx⟩ : ∃ x, x ∈ S := by
                cases S with
                | nil => exact absurd rfl neS
                | cons a r => exact ⟨a, List.mem_cons_self⟩
              obtain ⟨a, y', aG, yG', aS, yS', nbr⟩ := grid_change (F := fun z => z ∈ S) (by rw [← hG]; exact sS x hx) (by rw [← hG]; exact yG) hx yS
              have yL : y' ∈ LS := (cov y' (by rw [hG]; exact yG')).resolve_left yS'
              have yS2 := reach y' yL a nbr aS
              have nd2 : (y' :: S).Nodup := List.nodup_cons.mpr ⟨yS', dd.nd⟩
              have := List.Nodup.length_le_of_subset nd2 (fun z hz => by
                rcases List.mem_cons.mp hz with q | q
                · rw [q]; exact yS2
                · exact sub z q : ∀ z ∈ y' :: S, z ∈ S')
              rw [List.length_cons] at this
              omega
          · exact .inr fun x hx => sub x (q x hx)
        have neS' : S' ≠ [] := fun z => by
          cases S with
          | nil => exact neS rfl
          | cons a r => have := sub a List.mem_cons_self; rw [z] at this; cases this
        walk_at "rd"
        refine ⟨_, rfl, cl, rfl, ⟨_, SqL.of cl8⟩, fun D hD => lc_it (walk_list (xs := us.map V.ref)) (LcInv H8 D fun acc j H' => ∃ vs, acc = vs.map V.ref ∧ Cells H' vs ((G.take j).filter fun x => decide (x ∉ S'))) (lc0 hD ⟨[], rfl, by simp; exact .nil⟩) (fun _ _ _ ⟨_, _, _, s, _⟩ => SqL.of (s _ _ cl8)) (fun j2 x H11 H12 hj2 ⟨acc, ha, hl, s11, vs, e1, rq⟩ y => ?_) (fun H11 ⟨acc, ha, hl, s11, vs, e1, rq⟩ => ?_)⟩
        · obtain ⟨rfl, hx⟩ := y
          obtain ⟨v, hv, rfl⟩ := map_ref_get hx
          obtain ⟨f, hf, hfv⟩ := uC8.get hv
          have nx : (G.take (j2 + 1)).filter (fun x => decide (x ∉ S')) = (G.take j2).filter (fun x => decide (x ∉ S')) ++ (if f ∉ S' then [f] else []) := by
            rw [take_get hf, List.filter_append]
            congr 1
            by_cases q : f ∈ S' <;> simp [q]
          walk_at "rd"
          refine ⟨_, DGet.t (k := kc f) (s11 _ _ d8) (s11 _ _ hfv), ?_⟩
          by_cases m : f ∈ S'
          · obtain ⟨z, ez, _⟩ := (dd'.val f).1 m
            rw [ez]
            refine if_no (by simp) (lcSkip ha hl s11 ⟨vs, e1, ?_⟩)
            rw [nx, if_neg (by simpa using m), List.append_nil]
            exact rq
          · rw [(dd'.val f).2 m]
            refine if_yes rfl (lcKeep hD ha hl hj2 (by rw [List.length_map]; omega) s11 ⟨vs ++ [v], by rw [e1]; simp, ?_⟩)
            rw [nx, if_pos m]
            exact (Cells.updL ha rq).app (.cons (CellV.updL ha (s11 _ _ hfv)) .nil)
        · rw [List.take_of_length_le (by rw [List.length_map, lus]; exact Nat.le_refl _)] at rq
          have lvs := rq.len
          have hla : H11 D = some (.lst (vs.map V.ref)) := by rw [ha, e1]
          refine fun p12 H12 n12 => ⟨D, rfl, _, SqL.of (n12.same _ _ hla), SqL.of n12.at_, ?_⟩
          have s12 := s11.trans n12.same
          have k12 := k8.trans (Keep.same s12)
          refine ite2 (fun a => ?_) fun a => ?_
          · refine q H12 d L S' k12 (b8.same s12) (s12 _ _ d8) dd' ?_
            rw [← hG]
            intro x hx
            by_cases m : x ∈ S'
            · exact m
            · have : x ∈ G.filter fun x => decide (x ∉ S') := List.mem_filter.mpr ⟨hx, by simpa using m⟩
              cases vs with
              | nil =>
                have e0 : (G.filter fun x => decide (x ∉ S')).length = 0 := by rw [← lvs]; rfl
                rw [List.length_eq_zero_iff.mp e0] at this; cases this
              | cons => simp at a
          · rw [hP]
            refine ⟨_, _, _, _, L, S', vs, _, D, rfl, k12, b8.same s12, s12 _ _ cl8, uC8.same s12, s12 _ _ d8, dd', (b8.ne hD).1, n12.same _ _ hla, rq.same n12.same, sG, fun x hx => (List.mem_filter.mp hx).1, fun x hx => ?_, Nat.le_trans (List.length_filter_le _ _) lG, neS', grow⟩
            by_cases m : x ∈ S'
            · exact .inl m
            · exact .inr (List.mem_filter.mpr ⟨hx, by simpa using m⟩)
    · rw [hP] at h
      obtain ⟨x7, x8, x9, x10, L, S, ls, LS, lf, rfl, k6, b6, cl6, uC6, d6, dd, nlf, l6, lC, sS, sL, cov, l144, neS, big⟩ := h
      walk_at "rd"
      refine q H6 d L S k6 b6 d6 dd ?_
      rw [← hG]
      rcases big with q | q
      · have := List.Nodup.length_le_of_subset dd.nd sS
        omega
      · exact q
end
end Dk
-- text N5
set_option maxHeartbeats 1000000
namespace Dk
open PySem PySem.Spec PyProof.Rows L2
local macro_rules | `(tactic| walk_at "rd") => `(tactic| simp only [tRet, tRetN, tSeq, tAsg, tIfS, tB, tVar, tC, tCons, tNil, tCB, tCall, tOp, tUn, rI0, rI, rU, rEq, rNe, gName, tAnd, tOr, tNot, tAndV, tOrV, tNotV, tIf, tTest, tChain, tDrop, tNext, tBreak, tCont, tTup, tLst, tBM, tBM0, tM0, tM1, tSl, tPart, tNoPart, tPar,
  rIs, rIs2, rIxL, rIxT, rIxS, rAppend, rExtend, rPop, rPopAt, gTup, gCons, gNil, gSub, tYes, wipe, tD1, tDcC, rListC, rSortC, rEmp, rJoin, tM1, gFld, tFld, sFld, rMinDef, tCKw, StX.tStar, rLen, tDGet2, tNo, tScN, rSortTx, rSetTx, iKeys, tPar3, sDPut, tFor_eq, iList, iEnum, iStr, iZip, cxK, cxP, cxW, tTup_, tLst_, tDNewK_, tDNewT_, rSlL_, rListOf_, rCatN, rRepN, rListStr, iRng1, rLenT, rInC, rDictC, sizeLine_eq, Nat.reduceLeDiff, Bool.true_or, Bool.false_or, Bool.or_true, Bool.or_false, Bool.true_and, Bool.false_and, Bool.and_true, Bool.and_false, Bool.not_true, Bool.not_false, Bool.not_eq_true', decide_eq_true_eq, decide_eq_false_iff_not, scal, isT_Non_boo, isT_Non_int, isT_Non_str, isT_Non_lis, isT_Non_tup, isT_Non_dic, isT_boo_boo, isT_boo_int, isT_boo_str, isT_boo_lis, isT_boo_tup, isT_boo_dic, isT_int_boo, isT_int_int, isT_int_str, isT_int_lis, isT_int_tup, isT_int_dic, isT_str_boo, isT_str_int, isT_str_str, isT_str_lis, isT_str_tup, isT_str_dic, isT_lis_boo, isT_lis_int, isT_lis_str, isT_lis_lis, isT_lis_tup, isT_lis_dic, isT_tup_boo, isT_tup_int, isT_tup_str, isT_tup_lis, isT_tup_tup, isT_tup_dic, isT_dic_boo, isT_dic_int, isT_dic_str, isT_dic_lis, isT_dic_tup, isT_dic_dic, kit_Non, kit_boo, kit_int, kit_str, kit_lis, kit_tup, kit_dic, sg_inj, vt_non, vt_bl, vt_int, vt_str, len_str, tDGet, tDIn, tDNotIn,
  L2.start, List.map_cons, List.map_nil, List.length_cons, List.length_nil, List.cons_append, List.nil_append, List.append_nil, Nat.zero_add, Nat.reduceAdd, Nat.reduceSub, Nat.sub_zero, Nat.sub_self, List.replicate_succ, List.replicate_zero,
  List.getElem?_cons_zero, List.getElem?_cons_succ, List.getElem?_nil, List.set_cons_zero, List.set_cons_succ, List.cons.injEq, Option.some.injEq, V.int.injEq, V.str.injEq, V.bl.injEq, V.ref.injEq, V.ty.injEq, reduceCtorEq,
  and_assoc, and_true, true_and, false_and, and_false, exists_eq_left, exists_eq_left', exists_eq', exists_eq_right, exists_eq_right', exists_and_left, exists_and_right, exists_const, exists_false, exists_eq, if_true, if_false, Bool.false_eq_true, Bool.true_eq, decide_true, decide_false, ite_self])
/-- a drawn map: rows of names, some cells -/
structure MapOk (R : List (List Str)) (cs : List Cell) : Prop where
  h1 : 1 ≤ R.length
  h2 : R.length ≤ 12
  wd : ∀ r ∈ R, r.length = (R.headD []).length ∧ 1 ≤ r.length ∧ r.length ≤ 12 ∧ ∀ z ∈ r, nm z
  cs : cs.length ≤ 144
theorem BagAt.ne_of {H : Hp} {b c x : Addr} {l : List V} (h : BagAt H b c) (e : H x = some (.lst l)) (n : ∀ c i r s n, l ≠ bagL c i r s n) : x ≠ b := fun z => by
  obtain ⟨xs, i, q, s, k, e1, _⟩ := h
  rw [z, e1] at e
  exact n _ _ _ _ _ (HO.lst.inj (Option.some.inj e)).symm
theorem BagAt.strL {H H' : Hp} {b c x : Addr} {zs : List Str} (h : BagAt H b c) (k : Keep [b] H H') (r : StrL H x zs) : StrL H' x zs := by
  have := h.ne_of r (fun c i r s n z => by cases zs with | nil => cases z | cons => cases z)
  exact k _ _ (by simpa using this) r
theorem BagAt.refs {H : Hp} {b c x : Addr} {l : List Addr} (h : BagAt H b c) (e : H x = some (.lst (l.map V.ref))) : x ≠ b := h.ne_of e fun c i r s n z => by
  cases l with
  | nil => cases z
  | cons a l => cases l with
    | nil => cases z
    | cons => cases z
theorem BagAt.rows {H H' : Hp} {b c a : Addr} {R : List (List Str)} (h : BagAt H b c) (k : Keep [b] H H') (r : RowsL H a R) : RowsL H' a R := by
  obtain ⟨as, h1, h2⟩ := r
  exact ⟨as, k _ _ (by simpa using h.refs h1) h1, Paired.mapP h2 fun _ _ z => h.strL k z⟩
section
variable {P : Program} {w : World} {K : PySem.W.Frag} {mg : Str → Option Value} {base : Heap}
def sp_law_map : Sp := fun vs H Q _ => ∃ (b c : Addr) (m : Nat), vs = [.ref b, .int m] ∧ 1 ≤ m ∧ m ≤ 4 ∧ BagAt H b c ∧
  ∀ H' p a r R cs, Keep [b] H H' → BagAt H' b c → H' p = some (.lst [.ref a, .ref r]) → RowsL H' a R → CellL H' r cs → MapOk R cs → Q (.ref p) H'
theorem c_law_map (T : Tx K mg) (D : Df K mg "_law_map" s_law_map) (c_law_sizes : Cal P w K mg base CX0 3 "_law_sizes" p_law_sizes (sp_law_sizes)) (c_law_draw : Cal P w K mg base CX0 1 "_law_draw" p_law_draw (sp_law_draw)) (c_law_names : Cal P w K mg base CX0 4 "_law_names" p_law_names (sp_law_names)) (c_law_grown : Cal P w K mg base CX0 3 "_law_grown" p_law_grown (sp_law_grown)) (c_law_all_cells : Cal P w K mg base CX0 1 "_law_all_cells" p_law_all_cells (sp_law_all_cells)) (c_law_edge : Cal P w K mg base CX0 1 "_law_edge" p_law_edge (sp_law_edge)) : Cal P w K mg base CX0 5 "_law_map" p_law_map (sp_law_map) := by
  have S := sc_law_map
  refine cal0 D S (fun _ _ _ _ _ _ us hl => match us, hl with | [_, _], _ => rfl) (fun vs H Q E h => ?_) (fun f cdv A outer s H vs Q E hr h => ?_)
  · obtain ⟨_, _, _, rfl, _⟩ := h
    rfl
  refine ⟨_, (pss_cons (ps_asg (pe_fn c_law_sizes hr (pa_cons (pv 0) pa_nil)) (pg_tup (n := 2) rfl (pgs_cons (pg_name (i := 2) S.nd rfl (by first | exact Or.inl rfl | exact Or.inr rfl)) (pgs_cons (pg_name (i := 3) S.nd rfl (by first | exact Or.inl rfl | exact Or.inr rfl)) pgs_nil))))
      (pss_cons (ps_set (i := 4) S.nd rfl (by first | exact Or.inl rfl | exact Or.inr rfl) (pe_fn c_law_grown hr (pa_cons (pv 0) (pa_cons (pv 2) (pa_cons (pv 3) (pa_cons (pe_fn c_law_names hr (pa_cons (pv 0) (pa_cons (pe_op op_add pe_int (pe_fn c_law_draw hr (pa_cons (pv 0) (pa_cons (pv 1) pa_nil)))) pa_nil))) pa_nil))))))
      (pss_cons (ps_setLc (i := 5) (own := [("_law_row", 7)]) (g := gName 7) rfl S.nd rfl rfl (sw_true rfl rfl rfl (by decide +kernel)) (pi_range1 (by rfl) (T.fr _ (by decide)) (pa_cons (pv 2) pa_nil)) (blkOk_by (N := N_law_map) (sc := defScope s_law_map) (by decide +kernel)) (fun _ _ _ _ _ => (pg_name (i := 7) S.nd rfl (by first | exact Or.inl rfl | exact Or.inr rfl))) (fun _ _ _ _ _ => pts_nil) (fun _ _ _ _ _ => (pe_lc (own := [("_law_column", 8)]) (g := gName 8) rfl S.nd (pi_range1 (by rfl) (T.fr _ (by decide)) (pa_cons (pv 3) pa_nil)) (blkOk_by (N := N_law_map) (by kernel_rfl)) (fun _ _ _ _ _ => (pg_name (i := 8) S.nd rfl (by first | exact Or.inl rfl | exact Or.inr rfl))) (fun _ _ _ _ _ => pts_nil) (fun _ _ _ _ _ => (pe_dget (hu_of hr) (pv 4) (pe_tup_ (pa_cons (pv 7) (pa_cons (pv 8) pa_nil))) (fun _ _ => rfl))))))
      (pss_cons (ps_setLc (i := 6) (own := [("_law_cell", 9)]) (g := gName 9) rfl S.nd rfl rfl (sw_true rfl rfl rfl (by decide +kernel)) (pi_list (pe_fn c_law_all_cells hr (pa_cons (pv 2) (pa_cons (pv 3) pa_nil)))) (blkOk_by (N := N_law_map) (sc := defScope s_law_map) (by decide +kernel)) (fun _ _ _ _ _ => (pg_name (i := 9) S.nd rfl (by first | exact Or.inl rfl | exact Or.inr rfl))) (fun _ _ _ _ _ => (pts_one (pt_val (pe_fn c_law_edge hr (pa_cons (pv 2) (pa_cons (pv 3) (pa_cons (pv 9) pa_nil))))))) (fun _ _ _ _ _ => (pv 9)))
      (pss_one (ps_ret (pe_lst_ (pa_cons (pv 5) (pa_cons (pe_lc (own := [("_law_cell", 9)]) (g := gName 9) rfl S.nd (pi_list (pv 6)) (blkOk_by (N := N_law_map) (sc := defScope s_law_map) (by decide +kernel)) (fun _ _ _ _ _ => (pg_name (i := 9) S.nd rfl (by first | exact Or.inl rfl | exact Or.inr rfl))) (fun _ _ _ _ _ => (pts_one (pt_cmpR op_eq (pe_fn c_law_draw hr (pa_cons (pv 0) (pa_cons pe_int pa_nil))) pe_int (nomark _)))) (fun _ _ _ _ _ => (pv 9))) pa_nil))))))))), ?_⟩
  obtain ⟨b, c, m, rfl, m1, m2, hb, q⟩ := h
  walk_at "rd"
  refine ⟨b, c, rfl, hb, fun H1 p1 h w k1 b1 t1 h1 h2 w1 w2 => ?_⟩
  have e62 : (2 : Int) ^ 62 = 4611686018427387904 := by decide
  refine ⟨p1, rfl, _, SqT.of t1, rfl, _, _, rfl, _, _, rfl, rfl, b, c, m, rfl, by omega, by omega, b1, fun H2 d2 k2 b2 hd2 => ⟨(d2 : Int), rfl, b, c, 1 + d2, ?_, by omega, b2, fun H3 p3 zs k3 b3 f3 z3 lz az => ?_⟩⟩
  · simp
  refine ⟨b, c, h, w, p3, zs, rfl, b3, h1, h2, w1, w2, z3, fun z => (by rw [z] at lz; simp at lz; omega), az, (b2.ne f3).1, fun H4 d L S k4 b4 d4 dd full => ?_⟩
  have k04 := k1.trans (k2.trans (k3.trans k4))
  refine ⟨_, rfl, (h : Nat), rfl, by omega, by omega, fun D hD => ?_⟩
  rw [Int.toNat_natCast]
  refine lc_it (walk_range (lo := 0) (n := h)) (LcInv H4 D fun acc j H' => ∃ bs R, acc = bs.map V.ref ∧ Paired (StrL H') bs R ∧ (∀ x ∈ bs, x ≠ D) ∧ R.length = j ∧ ∀ r ∈ R, r.length = w ∧ ∀ z ∈ r, nm z) (lc0 hD ⟨[], [], rfl, .nil, by simp, rfl, by simp⟩) (fun _ _ _ _ => trivial) (fun j x H5 H6 hj ⟨acc, ha, hl, s5, bs, R, e, hb5, nb, lR, aR⟩ y => ?_) (fun H5 ⟨acc, ha, hl, s5, bs, R, e, hb5, nb, lR, aR⟩ => ?_)
  · obtain ⟨rfl, rfl⟩ := y
    walk_at "rd"
    refine ⟨_, rfl, (w : Nat), rfl, by omega, by omega, fun D2 hD2 => ?_⟩
    rw [Int.toNat_natCast]
    refine lc_it (walk_range (lo := 0) (n := w)) (LcInv H6 D2 fun acc j _ => ∃ zs : List Str, acc = zs.map V.str ∧ zs.length = j ∧ ∀ z ∈ zs, nm z) (lc0 hD2 ⟨[], rfl, rfl, by simp⟩) (fun _ _ _ _ => trivial) (fun k x H7 H8 hk ⟨acc2, ha2, hl2, s7, zs2, e2, lz2, az2⟩ y => ?_) (fun H7 ⟨acc2, ha2, hl2, s7, zs2, e2, lz2, az2⟩ => ?_)
    · obtain ⟨rfl, rfl⟩ := y
      walk_at "rd"
      intro p9 H9 n9
      have d9 := n9.same _ _ (s7 _ _ (s5 _ _ d4))
      obtain ⟨z, ez, nz⟩ := (dd.val ((j : Int), (k : Int))).1 (full _ (mem_gridAll.mpr ⟨j, k, hj, hk, by simp⟩))
      have cv : CellV H9 p9 ((j : Int), (k : Int)) := by
        have := n9.at_
        rw [Int.zero_add, Int.zero_add] at this
        exact this
      refine ⟨_, ez ▸ DGet.t (k := kc ((j : Int), (k : Int))) d9 cv, lcKeep hD2 (n9.same _ _ ha2) hl2 hk (by omega) (s7.trans n9.same) ⟨zs2 ++ [z], by rw [e2]; simp, by simp [lz2], fun p hp => ?_⟩⟩
      rcases List.mem_append.mp hp with q | q
      · exact az2 p q
      · simp at q; rw [q]; exact nz
    · have dD : D2 ≠ D := fun z => by rw [z, ha] at hD2; cases hD2
      refine lcKeep hD (s7 _ _ ha) hl hj (by omega) (s5.trans s7) ⟨bs ++ [D2], by rw [e]; simp, R ++ [zs2], ?_, fun x hx => ?_, by simp [lR], fun r hr => ?_⟩
      · refine paired_app (Paired.mapP (paired_allIn hb5 nb) fun x z k => ?_) (.cons ?_ .nil)
        · show L2.upd H7 D _ x = _
          rw [upd_ne k.2]; exact s7 _ _ k.1
        · show L2.upd H7 D _ D2 = _
          rw [upd_ne dD, ha2, e2]
      · rcases List.mem_append.mp hx with q | q
        · exact nb x q
        · simp at q; rw [q]; exact dD
      · rcases List.mem_append.mp hr with q | q
        · exact aR r q
        · simp at q; rw [q]; exact ⟨lz2, az2⟩
  · have rows5 : RowsL H5 D R := ⟨bs, by rw [ha, e], hb5⟩
    have k05 := k04.trans (Keep.same s5)
    have b5 := b4.same s5
    clear ha hl hb5 nb e
    have nm2 : h * w ≤ 144 := Nat.mul_le_mul h2 w2
    refine ⟨_, rfl, _, rfl, h, w, rfl, by omega, by omega, by omega, fun H6 p6 s6 f6 g6 => ⟨p6, rfl, ?_⟩⟩
    obtain ⟨ts, hts, tC⟩ := g6
    have lts : ts.length ≤ 144 := by rw [tC.len, gridAll_len]; exact nm2
    have rows6 := rows5.same s6
    refine ⟨⟨_, SqL.of hts⟩, fun D3 hD3 => lc_it (walk_list (xs := ts.map V.ref)) (LcInv H6 D3 fun acc j H' => ∃ us cs, acc = us.map V.ref ∧ Cells H' us cs) (lc0 hD3 ⟨[], [], rfl, .nil⟩) (fun _ _ _ ⟨_, _, _, s, _⟩ => SqL.of (s _ _ hts)) (fun j x H7 H8 hj ⟨acc, ha, hl, s7, us, cs, e, uC⟩ y => ?_) (fun H7 ⟨acc, ha, hl, s7, us, cs, e, uC⟩ => ?_)⟩
    · obtain ⟨rfl, hx⟩ := y
      obtain ⟨u, hu, rfl⟩ := map_ref_get hx
      obtain ⟨f, hf, hfu⟩ := tC.get hu
      walk_at "rd"
      refine ⟨u, f, _, _, rfl, s7 _ _ hfu, fun H9 s9 => ⟨_, rfl, ite2 (fun a => ?_) fun a => ?_⟩⟩
      · exact lcKeep hD3 (s9 _ _ ha) hl hj (by rw [List.length_map]; omega) (s7.trans s9) ⟨us ++ [u], by rw [e]; simp, cs ++ [f], (Cells.updL (s9 _ _ ha) (uC.same s9)).app (.cons (CellV.updL (s9 _ _ ha) (s9 _ _ (s7 _ _ hfu))) .nil)⟩
      · exact lcSkip (s9 _ _ ha) hl (s7.trans s9) ⟨us, e, cs, uC.same s9⟩
    · rw [List.length_map] at hl
      have us7 : H7 D3 = some (.lst (us.map V.ref)) := by rw [ha, e]
      have rows7 := rows6.same s7
      have b7 := (b5.same s6).same s7
      have k07 := k05.trans (Keep.same (s6.trans s7))
      have lus : us.length ≤ 144 := by rw [e, List.length_map] at hl; omega
      refine ⟨_, rfl, D3, rfl, ⟨_, SqL.of us7⟩, fun D4 hD4 => lc_it (walk_list (xs := us.map V.ref)) (LcK [b] H7 D4 fun acc j H' => ∃ vs cs, acc = vs.map V.ref ∧ Cells H' vs cs ∧ BagAt H' b c) (lk0 hD4 ⟨[], [], rfl, .nil, b7.upd (b7.ne hD4).1 (b7.ne hD4).2⟩) (fun _ _ _ ⟨_, _, _, k, _⟩ => SqL.of (k _ _ (by simpa using b7.refs us7) us7)) (fun j x H8 H9 hj ⟨acc, ha, hl, k8, vs, cs, e, vC, b8⟩ y => ?_) (fun H8 ⟨acc, ha, hl, k8, vs, cs, e, vC, b8⟩ => ?_)⟩
      · obtain ⟨rfl, hx⟩ := y
        obtain ⟨u, hu, rfl⟩ := map_ref_get hx
        obtain ⟨f, hf, hfu⟩ := uC.get hu
        have f8 : CellV H9 u f := by
          have := b7.cells k8 (.cons hfu .nil : Cells H7 [u] [f])
          cases this with
          | cons r _ => exact r
        have nDb := b7.ne hD4
        walk_at "rd"
        refine ⟨b, c, 4, rfl, by decide, by decide, b8, fun H10 d10 k10 b10 hd10 => ⟨rfl, ite2 (fun a => ?_) fun a => ?_⟩⟩
        · have a10 := k10 _ _ (by simpa using nDb.1) ha
          exact lkKeep hD4 a10 hl hj (by rw [List.length_map]; omega) (k8.trans k10) ⟨vs ++ [u], by rw [e]; simp, ⟨cs ++ [f], (Cells.updL a10 (b8.cells k10 vC)).app (b8.cells k10 (.cons f8 .nil) |> Cells.updL a10)⟩, b10.upd nDb.1 nDb.2⟩
        · exact lkSkip (k10 _ _ (by simpa using nDb.1) ha) hl (k8.trans k10) ⟨vs, e, ⟨cs, b8.cells k10 vC⟩, b10⟩
      · rw [List.length_map] at hl
        refine fun p9 H9 n9 => q H9 p9 D D4 R cs ((k07.trans k8).trans (Keep.same n9.same)) (b8.same n9.same) n9.at_ ((b7.rows k8 rows7).same n9.same) ⟨vs, by rw [n9.same _ _ ha, e], vC.same n9.same⟩ ?_
        have lv := vC.len
        have nR : R ≠ [] := fun z => by rw [z] at lR; simp at lR; omega
        obtain ⟨r0, rt, eR⟩ : ∃ r0 rt, R = r0 :: rt := by cases R with | nil => exact absurd rfl nR | cons a b => exact ⟨a, b, rfl⟩
        have hd0 : (R.headD []).length = w := by rw [eR]; exact (aR r0 (by rw [eR]; simp)).1
        refine ⟨by omega, by omega, fun r hr => ?_, by rw [e, List.length_map] at hl; omega⟩
        obtain ⟨q1, q2⟩ := aR r hr
        exact ⟨by rw [q1, hd0], by omega, by omega, q2⟩
end
end Dk
-- text N6
set_option maxHeartbeats 1000000
namespace Dk
open PySem PySem.Spec PyProof.Rows L2
local macro_rules | `(tactic| walk_at "rd") => `(tactic| simp only [tRet, tRetN, tSeq, tAsg, tIfS, tB, tVar, tC, tCons, tNil, tCB, tCall, tOp, tUn, rI0, rI, rU, rEq, rNe, gName, tAnd, tOr, tNot, tAndV, tOrV, tNotV, tIf, tTest, tChain, tDrop, tNext, tBreak, tCont, tTup, tLst, tBM, tBM0, tM0, tM1, tSl, tPart, tNoPart, tPar,
  rIs, rIs2, rIxL, rIxT, rIxS, rAppend, rExtend, rPop, rPopAt, gTup, gCons, gNil, gSub, tYes, wipe, tD1, tDcC, rListC, rSortC, rEmp, rJoin, tM1, gFld, tFld, sFld, rMinDef, tCKw, StX.tStar, rLen, tDGet2, tNo, tScN, rSortTx, rSetTx, iKeys, tPar3, sDPut, tFor_eq, iList, iEnum, iStr, iZip, cxK, cxP, cxW, tTup_, tLst_, tDNewK_, tDNewT_, rSlL_, rListOf_, rCatN, rRepN, rListStr, iRng1, rLenT, rInC, rDictC, sizeLine_eq, Nat.reduceLeDiff, Bool.true_or, Bool.false_or, Bool.or_true, Bool.or_false, Bool.true_and, Bool.false_and, Bool.and_true, Bool.and_false, Bool.not_true, Bool.not_false, Bool.not_eq_true', decide_eq_true_eq, decide_eq_false_iff_not, scal, isT_Non_boo, isT_Non_int, isT_Non_str, isT_Non_lis, isT_Non_tup, isT_Non_dic, isT_boo_boo, isT_boo_int, isT_boo_str, isT_boo_lis, isT_boo_tup, isT_boo_dic, isT_int_boo, isT_int_int, isT_int_str, isT_int_lis, isT_int_tup, isT_int_dic, isT_str_boo, isT_str_int, isT_str_str, isT_str_lis, isT_str_tup, isT_str_dic, isT_lis_boo, isT_lis_int, isT_lis_str, isT_lis_lis, isT_lis_tup, isT_lis_dic, isT_tup_boo, isT_tup_int, isT_tup_str, isT_tup_lis, isT_tup_tup, isT_tup_dic, isT_dic_boo, isT_dic_int, isT_dic_str, isT_dic_lis, isT_dic_tup, isT_dic_dic, kit_Non, kit_boo, kit_int, kit_str, kit_lis, kit_tup, kit_dic, sg_inj, vt_non, vt_bl, vt_int, vt_str, len_str, tDGet, tDIn, tDNotIn,
  L2.start, List.map_cons, List.map_nil, List.length_cons, List.length_nil, List.cons_append, List.nil_append, List.append_nil, Nat.zero_add, Nat.reduceAdd, Nat.reduceSub, Nat.sub_zero, Nat.sub_self, List.replicate_succ, List.replicate_zero,
  List.getElem?_cons_zero, List.getElem?_cons_succ, List.getElem?_nil, List.set_cons_zero, List.set_cons_succ, List.cons.injEq, Option.some.injEq, V.int.injEq, V.str.injEq, V.bl.injEq, V.ref.injEq, V.ty.injEq, reduceCtorEq,
  and_assoc, and_true, true_and, false_and, and_false, exists_eq_left, exists_eq_left', exists_eq', exists_eq_right, exists_eq_right', exists_and_left, exists_and_right, exists_const, exists_false, exists_eq, if_true, if_false, Bool.false_eq_true, Bool.true_eq, decide_true, decide_false, ite_self])
theorem joinL_len (S : List Nat) : ∀ ps : List (List Nat), (TL.joinL S ps).length ≤ (ps.map (·.length)).sum + ps.length * S.length
  | [] => by simp [TL.joinL]
  | [p] => by simp [TL.joinL]
  | p :: q :: r => by
    have ih := joinL_len S (q :: r)
    show (p ++ (S ++ TL.joinL S (q :: r))).length ≤ _
    rw [List.length_append, List.length_append]
    simp only [List.map_cons, List.sum_cons, List.length_cons, Nat.add_mul, Nat.one_mul] at ih ⊢
    omega
theorem join_len (y : Str) (ps : List Str) : (Txt.join y ps).length ≤ (ps.map (·.length)).sum + ps.length * y.length := by
  rw [len_tl, tl_joinT]
  have := joinL_len (tl y) (ps.map tl)
  rw [List.map_map, List.length_map, ← len_tl] at this
  have e : ps.map ((fun x => x.length) ∘ tl) = ps.map (·.length) := List.map_congr_left fun z _ => (len_tl z).symm
  rw [e] at this
  exact this
theorem sum_le {ps : List Str} {k : Nat} (h : ∀ z ∈ ps, z.length ≤ k) : (ps.map (·.length)).sum ≤ ps.length * k := by
  induction ps with
  | nil => simp
  | cons z r ih =>
    have h1 := h z List.mem_cons_self
    have h2 := ih fun x hx => h x (List.mem_cons_of_mem _ hx)
    rw [List.map_cons, List.sum_cons, List.length_cons, Nat.add_mul, Nat.one_mul]
    omega
section
variable {P : Program} {w : World} {K : PySem.W.Frag} {mg : Str → Option Value} {base : Heap}
def sp_law_text : Sp := fun vs H Q _ => ∃ (a r : Addr) (R : List (List Str)) (cs : List Cell), vs = [.ref a, .ref r] ∧ RowsL H a R ∧ CellL H r cs ∧ MapOk R cs ∧
  ∀ H' z, Same H H' → z.length ≤ 2000 → 10 ∈ tl z → Q (.str z) H'
theorem c_law_text (T : Tx K mg) (D : Df K mg "_law_text" s_law_text) : Cal P w K mg base CX0 1 "_law_text" p_law_text (sp_law_text) := by
  have S := sc_law_text
  refine cal0 D S (fun _ _ _ _ _ _ us hl => match us, hl with | [_, _], _ => rfl) (fun vs H Q E h => ?_) (fun f cdv A outer s H vs Q E hr h => ?_)
  · obtain ⟨_, _, _, _, rfl, _⟩ := h
    rfl
  refine ⟨_, (pss_cons (ps_set (i := 2) S.nd rfl (by first | exact Or.inl rfl | exact Or.inr rfl) (pe_lst_ pa_nil))
      (pss_cons (ps_for PassesOwn.never rfl (pi_range1 (by rfl) (T.fr _ (by decide)) (pa_cons (pe_callB (id := "len") (r := rLen K) (call_len_ rfl) (by rfl) (T.fr _ (by decide)) (by decide +kernel) (pa_cons (pv 0) pa_nil)) pa_nil)) (pg_name (i := 3) S.nd rfl (by first | exact Or.inl rfl | exact Or.inr rfl)) (pss_one (ps_expr (pe_bm PySem.F.plainAttrs_list PySem.F.slot_list_append PySem.F.type_list_append mt_append (pv 2) (pa_cons (pe_op op_add_str (pe_join_ (K := K) rfl pe_str (pe_lc (own := [("_law_k", 4)]) (g := gName 4) rfl S.nd (pi_range1 (by rfl) (T.fr _ (by decide)) (pa_cons (pe_callB (id := "len") (r := rLen K) (call_len_ rfl) (by rfl) (T.fr _ (by decide)) (by decide +kernel) (pa_cons (pe_ix (r := rIxL K) ix_list (pv 0) pe_int (fun _ _ => rfl)) pa_nil)) pa_nil)) (blkOk_by (N := N_law_text) (sc := defScope s_law_text) (by decide +kernel)) (fun _ _ _ _ _ => (pg_name (i := 4) S.nd rfl (by first | exact Or.inl rfl | exact Or.inr rfl))) (fun _ _ _ _ _ => pts_nil) (fun _ _ _ _ _ => (pe_op op_add_str (pe_ix (r := rIxL K) ix_list (pe_ix (r := rIxL K) ix_list (pv 0) (pv 3) (fun _ _ => rfl)) (pv 4) (fun _ _ => rfl)) (pe_ifExp (pt_cmpR (r := rInC K fun b => b) (op_inC hr) (pe_tup_ (pa_cons (pv 3) (pa_cons (pv 4) pa_nil))) (pv 1) (by rfl)) pe_str pe_str))))) pe_str) pa_nil)))))
      (pss_one (ps_ret (pe_join_ (K := K) rfl pe_str (pv 2)))))), ?_⟩
  obtain ⟨a, r, R, cs, rfl, hR, hC, ok, q⟩ := h
  have e62 : (2 : Int) ^ 62 = 4611686018427387904 := by decide
  obtain ⟨as, ha, hP⟩ := hR
  have la := hP.length
  have h1 := ok.h1
  have h2 := ok.h2
  obtain ⟨m, hm⟩ : ∃ m, m = (R.headD []).length := ⟨_, rfl⟩
  have nR : R ≠ [] := fun z => by rw [z] at h1; simp at h1
  have e0 : R[0]? = some (R.headD []) := by cases R with | nil => exact absurd rfl nR | cons => rfl
  have wd0 := ok.wd (R.headD []) (List.mem_of_getElem? e0)
  obtain ⟨a0, ha0, hza0⟩ := paired_at2 (i := 0) hP e0
  obtain ⟨cv, hcv, cC⟩ := hC
  walk_at "rd"
  refine fun p H1 n1 => ⟨_, .inl ⟨_, SqL.of (n1.same _ _ ha), rfl⟩, by rw [List.length_map]; omega, by rw [List.length_map]; omega, ?_⟩
  rw [Int.toNat_natCast, List.length_map]
  obtain ⟨Pv, hPv⟩ : ∃ Pv : Nat → L2.St → Hp → Prop, Pv = fun i σ H' => ∃ x3 x4, ∃ ls : List Str, σ = [some (.ref a), some (.ref r), some (.ref p), x3, x4] ∧ Same H H' ∧ H' p = some (.lst (ls.map V.str)) ∧ ls.length = i ∧ ∀ z ∈ ls, z.length ≤ 100 ∧ 10 ∈ tl z := ⟨_, rfl⟩
  refine for_B (walk_range (lo := 0) (n := as.length)) Pv ?_ (fun _ _ _ _ _ => trivial) (fun i v σ H2 H3 hi h y => ?_) (fun σ H2 h => ?_)
  · rw [hPv]
    exact ⟨_, _, [], rfl, n1.same, n1.at_, rfl, by simp⟩
  · rw [hPv] at h
    obtain ⟨x3, x4, ls, rfl, s2, p2, ll, al⟩ := h
    obtain ⟨rfl, rfl⟩ := y
    have np : H p = none := n1.fresh
    walk_at "rd"
    have hi' : i < R.length := by omega
    obtain ⟨row, hrow⟩ : ∃ row, R[i]? = some row := ⟨R[i], List.getElem?_eq_getElem hi'⟩
    obtain ⟨ai, hai, hzai⟩ := paired_at2 hP hrow
    have wdr := ok.wd row (List.mem_of_getElem? hrow)
    have a3 := s2 _ _ ha
    have m12 : m ≤ 12 := by rw [hm]; omega
    refine ⟨tyV_lst p2, _, rfl, a, _, 0, V.ref a0, rfl, rfl, SqL.of a3, atI_zero (by rw [List.getElem?_map, ha0]; rfl), _, m, rfl, .inl ⟨_, SqL.of (s2 _ _ hza0), by rw [List.length_map, hm]⟩, (m : Nat), rfl, by omega, by omega, fun D hD => ?_⟩
    rw [Int.toNat_natCast]
    refine lc_it (walk_range (lo := 0) (n := m)) (LcInv H3 D fun acc j _ => ∃ zs : List Str, acc = zs.map V.str ∧ zs.length = j ∧ ∀ z ∈ zs, z.length ≤ 7) (lc0 hD ⟨[], rfl, rfl, by simp⟩) (fun _ _ _ _ => trivial) (fun k x H7 H8 hk ⟨acc2, ha2, hl2, s7, zs2, e2, lz2, az2⟩ y => ?_) (fun H7 ⟨acc2, ha2, hl2, s7, zs2, e2, lz2, az2⟩ => ?_)
    · obtain ⟨rfl, rfl⟩ := y
      obtain ⟨z, hz⟩ : ∃ z, row[k]? = some z := ⟨row[k]'(by omega), List.getElem?_eq_getElem _⟩
      have nz := wdr.2.2.2 z (List.mem_of_getElem? hz)
      have n2 := nz.2
      walk_at "rd"
      have s8 := s2.trans s7
      refine ⟨_, SqL.of (s8 _ _ ha), V.ref ai, by rw [Int.zero_add]; exact atI_nat (by rw [List.getElem?_map, hai]; rfl), ai, rfl, _, SqL.of (s8 _ _ hzai), V.str z, by rw [Int.zero_add]; exact atI_nat (by rw [List.getElem?_map, hz]; rfl), fun p9 H9 n9 => ?_⟩
      have s9 := s8.trans n9.same
      have a9 := n9.same _ _ ha2
      have fin : ∀ e : Str, e.length ≤ 1 → ∃ i : Str, V.str z = V.str i ∧ i.length + e.length ≤ 16777216 ∧ ∃ acc, H9 D = some (HO.lst acc) ∧ acc.length < 16777216 ∧ LcInv H3 D (fun acc j _ => ∃ zs : List Str, acc = zs.map V.str ∧ zs.length = j ∧ ∀ z ∈ zs, z.length ≤ 7) (k + 1) (L2.upd H9 D (HO.lst (acc ++ [V.str (i ++ e)]))) := fun e le => ⟨z, rfl, by omega, lcKeep hD a9 hl2 hk (by omega) (s7.trans n9.same) ⟨zs2 ++ [z ++ e], by rw [e2]; simp, by simp [lz2], fun p hp => by
        rcases List.mem_append.mp hp with q | q
        · exact az2 p q
        · simp at q; rw [q, app_len]; omega⟩⟩
      exact ⟨((0 + (i : Nat) : Int), (0 + (k : Nat) : Int)), n9.at_, cv, SqL.of (s9 _ _ hcv), cs, cC.same s9, ite2 (fun _ => fin _ (by decide +kernel)) fun _ => fin _ (by decide +kernel)⟩
    · have sl := sum_le az2
      have jl := join_len (Str.ofString " ") zs2
      rw [show (Str.ofString " ").length = 1 from by decide +kernel] at jl
      have l1 : (Str.ofString "\n").length = 1 := by decide +kernel
      refine ⟨D, rfl, zs2, .inl (SqL.of (by rw [ha2, e2])), by rw [show (Str.ofString " ").length = 1 from by decide +kernel]; omega, by rw [l1]; omega, _, s7 _ _ p2, by rw [List.length_map]; omega, ?_⟩
      rw [hPv]
      refine ⟨_, _, ls ++ [Txt.join (Str.ofString " ") zs2 ++ Str.ofString "\n"], rfl, same_upd (s2.trans s7) np, by rw [upd_same]; simp, by simp [ll], fun z hz => ?_⟩
      rcases List.mem_append.mp hz with q | q
      · exact al z q
      · simp at q
        rw [q]
        refine ⟨by rw [app_len, l1]; omega, ?_⟩
        show 10 ∈ ((Txt.join (Str.ofString " ") zs2).cps ++ (Str.ofString "\n").cps).toList
        rw [Array.toList_append]
        exact List.mem_append_right _ (by decide +kernel)
  · rw [hPv] at h
    obtain ⟨x3, x4, ls, rfl, s2, p2, ll, al⟩ := h
    have sl := sum_le fun z hz => (al z hz).1
    walk_at "rd"
    refine ⟨ls, .inl (SqL.of p2), by rw [show (Str.ofString "").length = 0 from by decide +kernel]; omega, q H2 _ s2 ?_ ?_⟩
    · have := join_len (Str.ofString "") ls
      rw [show (Str.ofString "").length = 0 from by decide +kernel] at this
      omega
    · rw [tl_joinT, tl_ofE, joinL_nil, List.mem_flatten]
      cases ls with
      | nil => simp at ll; omega
      | cons z t => exact ⟨tl z, by simp, (al z List.mem_cons_self).2⟩
end
end Dk
-- text Math5
set_option maxHeartbeats 1000000
namespace Dk
open PySem PySem.Spec PyProof.Rows L2
/-! ## sizes of lines -/
def szW : List Str → Nat
  | [] => 0
  | z :: r => z.length + 1 + szW r
def TSz : List (List Str) → Nat
  | [] => 0
  | l :: r => szW l + TSz r
theorem szW_app : ∀ (a b : List Str), szW (a ++ b) = szW a + szW b
  | [], b => by simp [szW]
  | z :: r, b => by
    show z.length + 1 + szW (r ++ b) = z.length + 1 + szW r + szW b
    rw [szW_app r b]; omega
theorem TSz_app : ∀ (a b : List (List Str)), TSz (a ++ b) = TSz a + TSz b
  | [], b => by simp [TSz]
  | z :: r, b => by
    show szW z + TSz (r ++ b) = szW z + TSz r + TSz b
    rw [TSz_app r b]; omega
theorem szW_take (n : Nat) (a : List Str) : szW (a.take n) ≤ szW a := by
  have := szW_app (a.take n) (a.drop n)
  rw [List.take_append_drop] at this; omega
theorem szW_drop (n : Nat) (a : List Str) : szW (a.drop n) ≤ szW a := by
  have := szW_app (a.take n) (a.drop n)
  rw [List.take_append_drop] at this; omega
theorem szW_td (n : Nat) (a : List Str) : szW (a.take n) + szW (a.drop n) = szW a := by
  have := szW_app (a.take n) (a.drop n)
  rw [List.take_append_drop] at this; omega
theorem TSz_td (n : Nat) (a : List (List Str)) : TSz (a.take n) + TSz (a.drop n) = TSz a := by
  have := TSz_app (a.take n) (a.drop n)
  rw [List.take_append_drop] at this; omega
theorem szW_len : ∀ a : List Str, a.length ≤ szW a
  | [] => Nat.le_refl _
  | z :: r => by
    have := szW_len r
    show r.length + 1 ≤ z.length + 1 + szW r
    omega
theorem szW_mem : ∀ {a : List Str} {z : Str}, z ∈ a → z.length + 1 ≤ szW a
  | y :: r, z, h => by
    show _ ≤ y.length + 1 + szW r
    rcases List.mem_cons.mp h with e | e
    · subst e; omega
    · have := szW_mem e; omega
theorem TSz_mem : ∀ {a : List (List Str)} {l : List Str}, l ∈ a → szW l ≤ TSz a
  | y :: r, l, h => by
    show _ ≤ szW y + TSz r
    rcases List.mem_cons.mp h with e | e
    · subst e; omega
    · have := TSz_mem e; omega
theorem TSz_le {k : Nat} : ∀ {a : List (List Str)}, (∀ l ∈ a, szW l ≤ k) → TSz a ≤ a.length * k
  | [], _ => Nat.zero_le _
  | y :: r, h => by
    have h1 := h y List.mem_cons_self
    have h2 := TSz_le (a := r) fun l hl => h l (List.mem_cons_of_mem _ hl)
    show szW y + TSz r ≤ (r.length + 1) * k
    rw [Nat.add_mul, Nat.one_mul]; omega
theorem TSz_pos {a : List (List Str)} (h : ∀ l ∈ a, l ≠ []) : a.length ≤ TSz a := by
  induction a with
  | nil => exact Nat.le_refl _
  | cons y r ih =>
    have h1 := h y List.mem_cons_self
    have h2 := ih fun l hl => h l (List.mem_cons_of_mem _ hl)
    have h3 := szW_len y
    have h4 := List.length_pos_iff.mpr h1
    show r.length + 1 ≤ szW y + TSz r
    omega
theorem cut1_sum (s : Nat) : ∀ (l acc : List Nat), ((cut1 s acc l).map fun p => p.length + 1).sum = acc.length + l.length + 1
  | [], acc => by simp [cut1]
  | c :: r, acc => by
    unfold cut1
    split
    · have := cut1_sum s r []
      rw [List.map_cons, List.sum_cons, this]
      simp; omega
    · rw [cut1_sum s r (acc ++ [c])]
      simp; omega
theorem szW_sum (a : List Str) : szW a = ((a.map tl).map fun p => p.length + 1).sum := by
  induction a with
  | nil => rfl
  | cons z r ih =>
    rw [List.map_cons, List.map_cons, List.sum_cons, ← ih, ← len_tl]; rfl
theorem split_sz (x : Str) {s : Nat} (hs : s < 256) : szW (Txt.split x (sg s)) = x.length + 1 := by
  rw [szW_sum, split_cut1 x hs, cut1_sum, len_tl]
  simp
theorem words_sz : ∀ ls : List Str, TSz (wordsOf ls) = szW ls
  | [] => rfl
  | l :: r => by
    show szW (Txt.split l (sg 32)) + TSz (wordsOf r) = l.length + 1 + szW r
    rw [words_sz r, split_sz l (by decide)]
theorem cut1_many (s : Nat) : ∀ (l acc : List Nat), s ∈ l → 2 ≤ (cut1 s acc l).length
  | c :: r, acc, h => by
    unfold cut1
    split
    · have := List.length_pos_iff.mpr (cut1_ne s r [])
      rw [List.length_cons]; omega
    · rename_i q
      rcases List.mem_cons.mp h with e | e
      · exact absurd e.symm q
      · exact cut1_many s r _ e
theorem split_two {x : Str} {s : Nat} (hs : s < 256) (h : s ∈ tl x) : 2 ≤ (Txt.split x (sg s)).length := by
  have := cut1_many s (tl x) [] h
  rw [← split_cut1 x hs, List.length_map] at this
  exact this
theorem szW_flat : ∀ ls : List (List Str), szW ls.flatten = TSz ls
  | [] => rfl
  | l :: r => by
    rw [List.flatten_cons, szW_app, szW_flat r]; rfl
theorem szW_rep (n : Nat) (a : List Str) : szW (List.replicate n a).flatten = n * szW a := by
  induction n with
  | zero => simp [szW]
  | succ n ih => rw [List.replicate_succ, List.flatten_cons, szW_app, ih, Nat.add_mul, Nat.one_mul]; omega
theorem TSz_rep (n : Nat) (a : List (List Str)) : TSz (List.replicate n a).flatten = n * TSz a := by
  induction n with
  | zero => simp [TSz]
  | succ n ih => rw [List.replicate_succ, List.flatten_cons, TSz_app, ih, Nat.add_mul, Nat.one_mul]; omega
end Dk
-- text N7
set_option maxHeartbeats 1000000
namespace Dk
open PySem PySem.Spec PyProof.Rows L2
local macro_rules | `(tactic| walk_at "rd") => `(tactic| simp only [tRet, tRetN, tSeq, tAsg, tIfS, tB, tVar, tC, tCons, tNil, tCB, tCall, tOp, tUn, rI0, rI, rU, rEq, rNe, gName, tAnd, tOr, tNot, tAndV, tOrV, tNotV, tIf, tTest, tChain, tDrop, tNext, tBreak, tCont, tTup, tLst, tBM, tBM0, tM0, tM1, tSl, tPart, tNoPart, tPar,
  rIs, rIs2, rIxL, rIxT, rIxS, rAppend, rExtend, rPop, rPopAt, gTup, gCons, gNil, gSub, tYes, wipe, tD1, tDcC, rListC, rSortC, rEmp, rJoin, tM1, gFld, tFld, sFld, rMinDef, tCKw, StX.tStar, rLen, tDGet2, tNo, tScN, rSortTx, rSetTx, iKeys, tPar3, sDPut, tFor_eq, iList, iEnum, iStr, iZip, cxK, cxP, cxW, tTup_, tLst_, tDNewK_, tDNewT_, rSlL_, rListOf_, rCatN, rRepN, rListStr, iRng1, rLenT, rInC, rDictC, sizeLine_eq, Nat.reduceLeDiff, Bool.true_or, Bool.false_or, Bool.or_true, Bool.or_false, Bool.true_and, Bool.false_and, Bool.and_true, Bool.and_false, Bool.not_true, Bool.not_false, Bool.not_eq_true', decide_eq_true_eq, decide_eq_false_iff_not, scal, isT_Non_boo, isT_Non_int, isT_Non_str, isT_Non_lis, isT_Non_tup, isT_Non_dic, isT_boo_boo, isT_boo_int, isT_boo_str, isT_boo_lis, isT_boo_tup, isT_boo_dic, isT_int_boo, isT_int_int, isT_int_str, isT_int_lis, isT_int_tup, isT_int_dic, isT_str_boo, isT_str_int, isT_str_str, isT_str_lis, isT_str_tup, isT_str_dic, isT_lis_boo, isT_lis_int, isT_lis_str, isT_lis_lis, isT_lis_tup, isT_lis_dic, isT_tup_boo, isT_tup_int, isT_tup_str, isT_tup_lis, isT_tup_tup, isT_tup_dic, isT_dic_boo, isT_dic_int, isT_dic_str, isT_dic_lis, isT_dic_tup, isT_dic_dic, kit_Non, kit_boo, kit_int, kit_str, kit_lis, kit_tup, kit_dic, sg_inj, vt_non, vt_bl, vt_int, vt_str, len_str, tDGet, tDIn, tDNotIn,
  L2.start, List.map_cons, List.map_nil, List.length_cons, List.length_nil, List.cons_append, List.nil_append, List.append_nil, Nat.zero_add, Nat.reduceAdd, Nat.reduceSub, Nat.sub_zero, Nat.sub_self, List.replicate_succ, List.replicate_zero,
  List.getElem?_cons_zero, List.getElem?_cons_succ, List.getElem?_nil, List.set_cons_zero, List.set_cons_succ, List.cons.injEq, Option.some.injEq, V.int.injEq, V.str.injEq, V.bl.injEq, V.ref.injEq, V.ty.injEq, reduceCtorEq,
  and_assoc, and_true, true_and, false_and, and_false, exists_eq_left, exists_eq_left', exists_eq', exists_eq_right, exists_eq_right', exists_and_left, exists_and_right, exists_const, exists_false, exists_eq, if_true, if_false, Bool.false_eq_true, Bool.true_eq, decide_true, decide_false, ite_self])
def tCut (t u : TS) : TS := fun D σ H => ∃ J : L2.St → Hp → Prop, t { D with nx := J } σ H ∧ ∀ σ' H', J σ' H' → u D σ' H'
theorem pss_cut {X : Cx} {st : Stmt} {rest : List Stmt} {t u : TS} (h1 : PS X st t) (h2 : PSs X rest u) : PSs X (st :: rest) (tCut t u) := by
  refine ⟨fun pins s σ H D I h => ?_⟩
  obtain ⟨J, h, hJ⟩ := h
  refine wpAny_execs_cons (thn (h1.run pins s σ H { D with nx := J } I h) fun f s1 q => ?_)
  cases f with
  | next =>
    obtain ⟨σ', H', I', q⟩ := q
    exact h2.run pins s1 σ' H' D I' (hJ σ' H' q)
  | ret v => exact q
  | brk => exact q
  | cont => exact q
/-- lines of words at D, as made in a call -/
structure Bn (b c : Addr) (H0 H' : Hp) (D : Addr) (as : List Addr) (W : List (List Str)) : Prop where
  k : Keep [b] H0 H'
  bag : BagAt H' b c
  f : H0 D = none
  at_ : H' D = some (.lst (as.map V.ref))
  rows : Paired (StrL H') as W
  fr : ∀ x ∈ as, H0 x = none
  nd : as.Nodup
theorem Bn.step {b c D : Addr} {H0 H H' : Hp} {as : List Addr} {W : List (List Str)} (n : Bn b c H0 H D as W) (k : Keep [b] H H') (g : BagAt H' b c) : Bn b c H0 H' D as W :=
  ⟨n.k.trans k, g, n.f, k _ _ (by simpa using n.bag.refs n.at_) n.at_, Paired.mapP n.rows fun _ _ z => n.bag.strL k z, n.fr, n.nd⟩
theorem Bn.same {b c D : Addr} {H0 H H' : Hp} {as : List Addr} {W : List (List Str)} (n : Bn b c H0 H D as W) (s : Same H H') : Bn b c H0 H' D as W := n.step (Keep.same s) (n.bag.same s)
theorem Bn.len {b c D : Addr} {H0 H : Hp} {as : List Addr} {W : List (List Str)} (n : Bn b c H0 H D as W) : as.length = W.length := n.rows.length
/-- behind a change -/
def Dn (b c a r : Addr) (at_ k way : Nat) (x : Str) (H0 : Hp) (σ : L2.St) (H' : Hp) : Prop := ∃ lf W, σ = [some (.ref b), some (.ref a), some (.ref r), some (.ref lf), some (.int at_), some (.int k), some (.int way), some (.str x), none, none, none] ∧ Keep [b] H0 H' ∧ BagAt H' b c ∧ RowsL H' lf W ∧ TSz W ≤ 30000 ∧ W.length ≤ 3000
theorem atI_lastOf {α : Type} {xs : List α} (h : xs ≠ []) : atI xs (-1) = some (xs.getLast h) := by
  have := atI_last xs.dropLast (xs.getLast h)
  rwa [List.dropLast_concat_getLast h] at this
theorem if_way {body : L2.TS} {D : Ends} {σ : L2.St} {H : Hp} {w j : Int} {i : Nat} (hσ : σ[i]? = some (some (.int w))) (h1 : w = j → body D σ H) (h2 : w ≠ j → D.nx σ H) :
    tIfS (tTest (tOp rEq (tVar i) (tC (.int j)))) body tNext D σ H := by
  simp only [tIfS, tTest, tOp, tVar, tC, rEq, tNext]
  refine ⟨_, hσ, ?_⟩
  simp only [scal, V.int.injEq, V.bl.injEq, exists_eq_left', decide_eq_true_eq, true_and]
  exact ite2 h1 h2
theorem paired_set {α β : Type} {F : α → β → Prop} {a : α} {b : β} (f : F a b) : ∀ {l : List α} {m : List β} (i : Nat), Paired F l m → Paired F (l.set i a) (m.set i b)
  | _, _, i, .nil => by simp; exact .nil
  | _, _, 0, .cons r t => .cons f t
  | _, _, i + 1, .cons r t => .cons r (paired_set f i t)
theorem TSz_set {x : List Str} : ∀ (W : List (List Str)) (i : Nat), TSz (W.set i x) ≤ TSz W + szW x
  | [], i => by simp [TSz]
  | y :: r, 0 => by show szW x + TSz r ≤ szW y + TSz r + szW x; omega
  | y :: r, i + 1 => by
    have := TSz_set (x := x) r i
    show szW y + TSz (r.set i x) ≤ szW y + TSz r + szW x
    omega
theorem Bn.strNe {b c D : Addr} {H0 H : Hp} {as : List Addr} {W : List (List Str)} (n : Bn b c H0 H D as W) (ne : as ≠ []) {y : Addr} {zs : List Str} (h : StrL H y zs) : y ≠ D := fun z => by
  rw [z] at h
  unfold StrL at h
  rw [n.at_] at h
  have := HO.lst.inj (Option.some.inj h)
  cases as with
  | nil => exact ne rfl
  | cons u r =>
    cases zs with
    | nil => cases this
    | cons v q => cases this
theorem Bn.row {b c D p : Addr} {H0 H H' : Hp} {as : List Addr} {W : List (List Str)} {i : Nat} {row : List Str} (n : Bn b c H0 H D as W) (hb : BagAt H0 b c) (hi : i < W.length) (s : Same H H') (fp : H p = none) (hp : H' p = some (.lst (row.map V.str))) (k : Keep [b] H H') (g : BagAt H' b c) :
    Keep [b] H0 (L2.upd H' D (.lst ((as.map V.ref).set i (.ref p)))) ∧ BagAt (L2.upd H' D (.lst ((as.map V.ref).set i (.ref p)))) b c ∧ RowsL (L2.upd H' D (.lst ((as.map V.ref).set i (.ref p)))) D (W.set i row) := by
  have ne := hb.ne n.f
  have las := n.len
  have na : as ≠ [] := fun z => by rw [z] at las; simp at las; omega
  refine ⟨keep_new n.f (n.k.trans k), g.upd ne.1 ne.2, as.set i p, by rw [upd_same, List.map_set], paired_set ?_ i (Paired.mapP n.rows fun y z h => ?_)⟩
  · show L2.upd H' D _ p = _
    rw [upd_ne (fun z => by rw [z, n.at_] at fp; cases fp)]; exact hp
  · show L2.upd H' D _ y = _
    rw [upd_ne (n.strNe na h)]; exact s _ _ h
theorem paired_rep {α β : Type} {F : α → β → Prop} {l : List α} {m : List β} (h : Paired F l m) : ∀ n : Nat, Paired F (List.replicate n l).flatten (List.replicate n m).flatten
  | 0 => by simp; exact .nil
  | n + 1 => by
    rw [List.replicate_succ, List.replicate_succ, List.flatten_cons, List.flatten_cons]
    exact paired_app h (paired_rep h n)
theorem map_rep {α β : Type} (f : α → β) (l : List α) : ∀ n : Nat, (List.replicate n (l.map f)).flatten = ((List.replicate n l).flatten).map f
  | 0 => by simp
  | n + 1 => by rw [List.replicate_succ, List.replicate_succ, List.flatten_cons, List.flatten_cons, List.map_append, map_rep f l n]
theorem len_rep {α : Type} (l : List α) : ∀ n : Nat, ((List.replicate n l).flatten).length = n * l.length
  | 0 => by simp
  | n + 1 => by rw [List.replicate_succ, List.flatten_cons, List.length_append, len_rep l n, Nat.add_mul, Nat.one_mul, Nat.add_comm]
theorem szW_set {x : Str} : ∀ (W : List Str) (i : Nat), szW (W.set i x) ≤ szW W + (x.length + 1)
  | [], i => by simp [szW]
  | y :: r, 0 => by show x.length + 1 + szW r ≤ y.length + 1 + szW r + (x.length + 1); omega
  | y :: r, i + 1 => by
    have := szW_set (x := x) r i
    show y.length + 1 + szW (r.set i x) ≤ y.length + 1 + szW r + (x.length + 1)
    omega
theorem join_szW (y : Str) (h : y.length ≤ 1) (ps : List Str) : (Txt.join y ps).length ≤ szW ps ∧ (ps.map (·.length)).sum + ps.length * y.length ≤ szW ps := by
  have e : (ps.map (·.length)).sum + ps.length = szW ps := by
    induction ps with
    | nil => rfl
    | cons z r ih =>
      rw [List.map_cons, List.sum_cons, List.length_cons]
      show _ = z.length + 1 + szW r
      omega
  have h1 := join_len y ps
  have h2 : ps.length * y.length ≤ ps.length * 1 := Nat.mul_le_mul_left _ h
  omega
theorem ixN_at {n j : Nat} (h : j < n) : ixN n (j : Int) = some j := by
  unfold ixN
  simp only [Int.natCast_nonneg, if_true, Int.toNat_natCast]
  exact if_pos (by omega)
section
variable {P : Program} {w : World} {K : PySem.W.Frag} {mg : Str → Option Value} {base : Heap}
def sp_law_bent_text : Sp := fun vs H Q _ => ∃ (b c a r : Addr) (R : List (List Str)) (cs : List Cell), vs = [.ref b, .ref a, .ref r] ∧ BagAt H b c ∧ RowsL H a R ∧ CellL H r cs ∧ MapOk R cs ∧
  ∀ H' z, Keep [b] H H' → BagAt H' b c → z.length ≤ 100000 → Q (.str z) H'
theorem c_law_bent_text (T : Tx K mg) (D : Df K mg "_law_bent_text" s_law_bent_text) (c_law_text : Cal P w K mg base CX0 1 "_law_text" p_law_text (sp_law_text)) (c_law_draw : Cal P w K mg base CX0 1 "_law_draw" p_law_draw (sp_law_draw)) (c_law_pick : Cal P w K mg base CX0 2 "_law_pick" p_law_pick (sp_law_pick)) (c_law_word : Cal P w K mg base CX0 3 "_law_word" p_law_word (sp_law_word)) : Cal P w K mg base CX0 6 "_law_bent_text" p_law_bent_text (sp_law_bent_text) := by
  have S := sc_law_bent_text
  refine cal0 D S (fun _ _ _ _ _ _ us hl => match us, hl with | [_, _, _], _ => rfl) (fun vs H Q E h => ?_) (fun f cdv A outer s H vs Q E hr h => ?_)
  · obtain ⟨_, _, _, _, _, _, rfl, _⟩ := h
    rfl
  refine ⟨_, (pss_cut (ps_setLc (i := 3) (own := [("_law_line", 10)]) (g := gName 10) rfl S.nd rfl rfl (sw_true rfl rfl rfl (by decide +kernel)) (pi_list (pe_slice (r := rSlL_ K) sl_list_ (pe_split (pe_fn c_law_text hr (pa_cons (pv 1) (pa_cons (pv 2) pa_nil))) pe_str) po_none (po_some (pe_un un_neg pe_int)))) (blkOk_by (N := N_law_bent_text) (sc := defScope s_law_bent_text) (by decide +kernel)) (fun _ _ _ _ _ => (pg_name (i := 10) S.nd rfl (by first | exact Or.inl rfl | exact Or.inr rfl))) (fun _ _ _ _ _ => pts_nil) (fun _ _ _ _ _ => (pe_split (pv 10) pe_str)))
      (pss_cut (ps_set (i := 4) S.nd rfl (by first | exact Or.inl rfl | exact Or.inr rfl) (pe_fn c_law_draw hr (pa_cons (pv 0) (pa_cons (pe_callB (id := "len") (r := rLen K) (call_len_ rfl) (by rfl) (T.fr _ (by decide)) (by decide +kernel) (pa_cons (pv 3) pa_nil)) pa_nil))))
      (pss_cut (ps_par (i := 5) (j := 6) rfl S.nd rfl rfl (by decide) rfl rfl (pa_cons (pe_fn c_law_draw hr (pa_cons (pv 0) (pa_cons (pe_callB (id := "len") (r := rLen K) (call_len_ rfl) (by rfl) (T.fr _ (by decide)) (by decide +kernel) (pa_cons (pe_ix (r := rIxL K) ix_list (pv 3) (pv 4) (fun _ _ => rfl)) pa_nil)) pa_nil))) (pa_cons (pe_fn c_law_draw hr (pa_cons (pv 0) (pa_cons pe_int pa_nil))) pa_nil)) (by rfl))
      (pss_cut (ps_set (i := 7) S.nd rfl (by first | exact Or.inl rfl | exact Or.inr rfl) (pe_fn c_law_pick hr (pa_cons (pv 0) (pa_cons (pe_lst_ (pa_cons (pe_fn c_law_word hr (pa_cons (pv 0) (pa_cons pe_int pa_nil))) (pa_cons pe_str (pa_cons pe_str (pa_cons pe_str (pa_cons pe_str (pa_cons pe_str (pa_cons pe_str (pa_cons pe_str (pa_cons pe_str (pa_cons (pe_ix (r := rIxL K) ix_list (pe_ix (r := rIxL K) ix_list (pv 3) pe_int (fun _ _ => rfl)) pe_int (fun _ _ => rfl)) (pa_cons (pe_ix (r := rIxL K) ix_list (pe_ix (r := rIxL K) ix_list (pv 3) (pe_un un_neg pe_int) (fun _ _ => rfl)) (pe_un un_neg pe_int) (fun _ _ => rfl)) pa_nil)))))))))))) pa_nil))))
      (pss_cut (ps_if (pt_cmpR op_eq (pv 6) pe_int (nomark _)) (pss_one (ps_asg (pe_op op_catN (pe_op op_catN (pe_slice (r := rSlL_ K) sl_list_ (pe_ix (r := rIxL K) ix_list (pv 3) (pv 4) (fun _ _ => rfl)) po_none (po_some (pv 5))) (pe_lst_ (pa_cons (pv 7) pa_nil))) (pe_slice (r := rSlL_ K) sl_list_ (pe_ix (r := rIxL K) ix_list (pv 3) (pv 4) (fun _ _ => rfl)) (po_some (pv 5)) po_none)) (pg_sub (pv 3) (pv 4) set_list))) pss_nil)
      (pss_cut (ps_if (pt_cmpR op_eq (pv 6) pe_int (nomark _)) (pss_one (ps_asg (pe_op op_catN (pe_slice (r := rSlL_ K) sl_list_ (pe_ix (r := rIxL K) ix_list (pv 3) (pv 4) (fun _ _ => rfl)) po_none (po_some (pv 5))) (pe_slice (r := rSlL_ K) sl_list_ (pe_ix (r := rIxL K) ix_list (pv 3) (pv 4) (fun _ _ => rfl)) (po_some (pe_op op_add (pv 5) pe_int)) po_none)) (pg_sub (pv 3) (pv 4) set_list))) pss_nil)
      (pss_cut (ps_if (pt_cmpR op_eq (pv 6) pe_int (nomark _)) (pss_one (ps_asg (pe_op op_catN (pe_op op_catN (pe_slice (r := rSlL_ K) sl_list_ (pe_ix (r := rIxL K) ix_list (pv 3) (pv 4) (fun _ _ => rfl)) po_none (po_some (pv 5))) (pe_lst_ (pa_cons (pv 7) pa_nil))) (pe_slice (r := rSlL_ K) sl_list_ (pe_ix (r := rIxL K) ix_list (pv 3) (pv 4) (fun _ _ => rfl)) (po_some (pe_op op_add (pv 5) pe_int)) po_none)) (pg_sub (pv 3) (pv 4) set_list))) pss_nil)
      (pss_cut (ps_if (pt_cmpR op_eq (pv 6) pe_int (nomark _)) (pss_one (ps_set (i := 3) S.nd rfl (by first | exact Or.inl rfl | exact Or.inr rfl) (pe_op op_catN (pe_op op_catN (pe_slice (r := rSlL_ K) sl_list_ (pv 3) po_none (po_some (pv 4))) (pe_lst_ (pa_cons (pe_callTy (T := "list") (r := rListOf_ K) call_listOf_ (by rfl) (T.fr _ (by decide)) (by decide +kernel) (pa_cons (pe_ix (r := rIxL K) ix_list (pv 3) (pv 4) (fun _ _ => rfl)) pa_nil)) pa_nil))) (pe_slice (r := rSlL_ K) sl_list_ (pv 3) (po_some (pv 4)) po_none)))) pss_nil)
      (pss_cut (ps_if (pt_cmpR op_eq (pv 6) pe_int (nomark _)) (pss_one (ps_set (i := 3) S.nd rfl (by first | exact Or.inl rfl | exact Or.inr rfl) (pe_op op_catN (pe_slice (r := rSlL_ K) sl_list_ (pv 3) po_none (po_some (pv 4))) (pe_slice (r := rSlL_ K) sl_list_ (pv 3) (po_some (pe_op op_add (pv 4) pe_int)) po_none)))) pss_nil)
      (pss_cut (ps_if (pt_cmpR op_eq (pv 6) pe_int (nomark _)) (pss_one (ps_set (i := 3) S.nd rfl (by first | exact Or.inl rfl | exact Or.inr rfl) (pe_slice (r := rSlL_ K) sl_list_ (pe_op op_repN (pv 3) pe_int) po_none (po_some (pe_fn c_law_pick hr (pa_cons (pv 0) (pa_cons (pe_lst_ (pa_cons pe_int (pa_cons pe_int (pa_cons pe_int pa_nil)))) pa_nil))))))) pss_nil)
      (pss_cut (ps_if (pt_cmpR op_eq (pv 6) pe_int (nomark _)) (pss_one (ps_setLc (i := 3) (own := [("_law_line", 10)]) (g := gName 10) rfl S.nd rfl rfl (sw_true rfl rfl rfl (by decide +kernel)) (pi_list (pv 3)) (blkOk_by (N := N_law_bent_text) (sc := defScope s_law_bent_text) (by decide +kernel)) (fun _ _ _ _ _ => (pg_name (i := 10) S.nd rfl (by first | exact Or.inl rfl | exact Or.inr rfl))) (fun _ _ _ _ _ => pts_nil) (fun _ _ _ _ _ => (pe_slice (r := rSlL_ K) sl_list_ (pe_op op_repN (pv 10) pe_int) po_none (po_some (pe_fn c_law_pick hr (pa_cons (pv 0) (pa_cons (pe_lst_ (pa_cons pe_int (pa_cons pe_int pa_nil))) pa_nil)))))))) pss_nil)
      (pss_cut (ps_if (pt_cmpR op_eq (pv 6) pe_int (nomark _)) (pss_one (ps_asg (pe_op op_add_str (pe_ix (r := rIxL K) ix_list (pe_ix (r := rIxL K) ix_list (pv 3) (pv 4) (fun _ _ => rfl)) (pv 5) (fun _ _ => rfl)) pe_str) (pg_sub (pe_ix (r := rIxL K) ix_list (pv 3) (pv 4) (fun _ _ => rfl)) (pv 5) set_list))) pss_nil)
      (pss_cut (ps_if (pt_cmpR op_eq (pv 6) pe_int (nomark _)) (pss_one (ps_set (i := 3) S.nd rfl (by first | exact Or.inl rfl | exact Or.inr rfl) (pe_op op_catN (pe_op op_catN (pe_lst_ (pa_cons (pe_callTy (T := "list") (call_listStr rfl) (by rfl) (T.fr _ (by decide)) (by decide +kernel) (pa_cons pe_str pa_nil)) (pa_cons (pe_callTy (T := "list") (call_listStr rfl) (by rfl) (T.fr _ (by decide)) (by decide +kernel) (pa_cons pe_str pa_nil)) pa_nil))) (pe_lst_ (pa_cons (pe_op op_catN (pe_lst_ (pa_cons (pe_fn c_law_pick hr (pa_cons (pv 0) (pa_cons (pe_lst_ (pa_cons pe_str (pa_cons pe_str pa_nil))) pa_nil))) pa_nil)) (pe_callTy (T := "list") (call_listStr rfl) (by rfl) (T.fr _ (by decide)) (by decide +kernel) (pa_cons pe_str pa_nil))) pa_nil))) (pe_fn c_law_pick hr (pa_cons (pv 0) (pa_cons (pe_lst_ (pa_cons (pe_lst_ pa_nil) (pa_cons (pe_lst_ (pa_cons (pe_lst_ (pa_cons pe_str pa_nil)) pa_nil)) pa_nil))) pa_nil)))))) pss_nil)
      (pss_cut (ps_set (i := 8) S.nd rfl (by first | exact Or.inl rfl | exact Or.inr rfl) (pe_join_ (K := K) rfl pe_str (pe_lc (own := [("_law_line", 10)]) (g := gName 10) rfl S.nd (pi_list (pv 3)) (blkOk_by (N := N_law_bent_text) (sc := defScope s_law_bent_text) (by decide +kernel)) (fun _ _ _ _ _ => (pg_name (i := 10) S.nd rfl (by first | exact Or.inl rfl | exact Or.inr rfl))) (fun _ _ _ _ _ => pts_nil) (fun _ _ _ _ _ => (pe_op op_add_str (pe_join_ (K := K) rfl pe_str (pv 10)) pe_str)))))
      (pss_cut (ps_set (i := 9) S.nd rfl (by first | exact Or.inl rfl | exact Or.inr rfl) (pe_fn c_law_draw hr (pa_cons (pv 0) (pa_cons (pe_op op_add (pe_callB (id := "len") (r := rLen K) (call_len_ rfl) (by rfl) (T.fr _ (by decide)) (by decide +kernel) (pa_cons (pv 8) pa_nil)) pe_int) pa_nil))))
      (pss_cut (ps_if (pt_cmpR op_eq (pv 6) pe_int (nomark _)) (pss_one (ps_set (i := 8) S.nd rfl (by first | exact Or.inl rfl | exact Or.inr rfl) (pe_op op_add_str (pe_op op_add_str (pe_slice sl_str (pv 8) po_none (po_some (pv 9))) (pe_fn c_law_pick hr (pa_cons (pv 0) (pa_cons (pe_lst_ (pa_cons pe_str (pa_cons pe_str (pa_cons pe_str (pa_cons pe_str (pa_cons pe_str (pa_cons pe_str (pa_cons pe_str pa_nil)))))))) pa_nil)))) (pe_slice sl_str (pv 8) (po_some (pe_op op_add (pv 9) (pe_fn c_law_draw hr (pa_cons (pv 0) (pa_cons pe_int pa_nil))))) po_none)))) pss_nil)
      (pss_one (ps_ret (pe_ifExp (pt_cmpR op_eq (pv 6) pe_int (nomark _)) (pe_slice sl_str (pv 8) po_none (po_some (pe_un un_neg pe_int))) (pe_ifExp (pt_cmpR op_eq (pv 6) pe_int (nomark _)) (pe_op op_add_str (pv 8) (pe_fn c_law_pick hr (pa_cons (pv 0) (pa_cons (pe_lst_ (pa_cons pe_str (pa_cons pe_str (pa_cons pe_str pa_nil)))) pa_nil)))) (pv 8))))))))))))))))))))), ?_⟩
  obtain ⟨b, c, a, r, R, cs, rfl, hb, hR, hC, ok, q⟩ := h
  obtain ⟨J, hJ⟩ : ∃ J : L2.St → Hp → Prop, J = fun σ H' => ∃ D as W, σ = [some (.ref b), some (.ref a), some (.ref r), some (.ref D), none, none, none, none, none, none, none] ∧ Bn b c H H' D as W ∧ TSz W ≤ 2001 ∧ (∀ l ∈ W, l ≠ []) ∧ W ≠ [] := ⟨_, rfl⟩
  refine ⟨J, ?_, fun σ5 H5 h5 => ?_⟩
  · refine ⟨_, rfl, _, rfl, a, r, R, cs, rfl, hR, hC, ok, fun H1 z s1 lz z10 => ⟨⟨z, rfl⟩, z, _, rfl, rfl, by decide +kernel, by rw [sizeLine_eq]; omega, fun p1 hp1 => ?_⟩⟩
    obtain ⟨Ls, hLs⟩ : ∃ Ls, Ls = Txt.split z (sg 10) := ⟨_, rfl⟩
    rw [show Str.ofString "\n" = sg 10 from by decide +kernel]
    have n1 := new_of (o := .lst (Ls.map V.str)) hp1
    rw [← hLs]
    obtain ⟨H2, hH2⟩ : ∃ H2, H2 = L2.upd H1 p1 (.lst (Ls.map V.str)) := ⟨_, rfl⟩
    rw [← hH2] at n1 ⊢
    refine ⟨_, rfl, _, rfl, p1, _, rfl, SqL.of n1.at_, fun p2 H3 n3 => ⟨p2, rfl, ⟨_, SqL.of n3.at_⟩, fun D hD => ?_⟩⟩
    rw [show (-1 : Int) = -(1 : Int) from rfl] at n3
    have e3 : cutV (Ls.map V.str) none (some (-1)) = Ls.dropLast.map V.str := by rw [cutV_last, ← List.map_dropLast]
    have n3' : New H2 p2 (.lst (Ls.dropLast.map V.str)) H3 := by rw [← e3]; exact n3
    obtain ⟨W, hW⟩ : ∃ W, W = wordsOf Ls.dropLast := ⟨_, rfl⟩
    have lLs : 2 ≤ Ls.length := by rw [hLs]; exact split_two (by decide) z10
    have szLs : szW Ls ≤ 2001 := by rw [hLs, split_sz z (by decide)]; omega
    have tsW : TSz W ≤ 2001 := by
      rw [hW, words_sz]
      have := szW_take (Ls.length - 1) Ls
      rw [← List.dropLast_eq_take] at this
      omega
    have neW : ∀ l ∈ W, l ≠ [] := fun l hl => by
      rw [hW] at hl
      obtain ⟨x, _, rfl⟩ := List.mem_map.mp hl
      exact split_ne x (by decide)
    have lW : W.length = Ls.length - 1 := by rw [hW]; simp
    have s13 := n1.same.trans n3.same
    have s03 := s1.trans s13
    have lL : Ls.length ≤ 2001 := Nat.le_trans (szW_len Ls) szLs
    refine lc_it (walk_list (xs := Ls.dropLast.map V.str)) (LcInv H3 D fun acc j H' => ∃ bs, acc = bs.map V.ref ∧ Paired (StrL H') bs (W.take j) ∧ (∀ x ∈ bs, x ≠ D ∧ H x = none) ∧ bs.Nodup) (lc0 hD ⟨[], rfl, .nil, by simp, by simp⟩) (fun _ _ _ ⟨_, _, _, s, _⟩ => SqL.of (s _ _ n3'.at_)) (fun j x H5 H6 hj ⟨acc, ha, hl, s5, bs, e, hb5, nb, nd⟩ y => ?_) (fun H5 ⟨acc, ha, hl, s5, bs, e, hb5, nb, nd⟩ => ?_)
    · obtain ⟨rfl, hx⟩ := y
      obtain ⟨l, hl', rfl⟩ := str_list_get hx
      have hWj : W[j]? = some (Txt.split l (sg 32)) := by rw [hW, List.getElem?_map, hl']; rfl
      have ll : l.length ≤ 2000 := by
        have := szW_mem (List.dropLast_subset _ (List.mem_of_getElem? hl'))
        omega
      walk_at "rd"
      rw [show Str.ofString " " = sg 32 from by decide +kernel]
      refine ⟨by decide +kernel, by omega, fun p7 hp7 => ?_⟩
      have n7 := new_of (o := .lst ((Txt.split l (sg 32)).map V.str)) hp7
      obtain ⟨H7, hH7⟩ : ∃ H7, H7 = L2.upd H6 p7 (.lst ((Txt.split l (sg 32)).map V.str)) := ⟨_, rfl⟩
      rw [← hH7] at n7 ⊢
      have lD : p7 ≠ D := fun z => by have := n7.fresh; rw [z, ha] at this; cases this
      have fH : H p7 = none := none_of (s03.trans s5) n7.fresh
      refine lcKeep hD (n7.same _ _ ha) hl hj (by rw [List.length_map, List.length_dropLast]; omega) (s5.trans n7.same) ⟨bs ++ [p7], by rw [e]; simp, ?_, fun x hx => ?_, ?_⟩
      · rw [take_get hWj]
        refine paired_app (Paired.mapP (paired_allIn hb5 nb) fun x z k => ?_) (.cons ?_ .nil)
        · show L2.upd H7 D _ x = _
          rw [upd_ne k.2.1]; exact n7.same _ _ k.1
        · show L2.upd H7 D _ p7 = _
          rw [upd_ne lD]; exact n7.at_
      · rcases List.mem_append.mp hx with q | q
        · exact nb x q
        · simp at q; rw [q]; exact ⟨lD, fH⟩
      · rw [List.nodup_append]
        refine ⟨nd, by simp, fun x hx y hy z => ?_⟩
        simp at hy
        rw [hy] at z
        obtain ⟨i, hi, ei⟩ := List.mem_iff_getElem.mp hx
        obtain ⟨m, _, hm⟩ := paired_at hb5 (show bs[i]? = some x by rw [List.getElem?_eq_getElem hi, ei])
        have := n7.fresh
        rw [← z, show H6 x = _ from hm] at this
        cases this
    · rw [List.take_of_length_le (by rw [List.length_map, hW]; simp)] at hb5
      have s05 := s03.trans s5
      have jj : J [some (.ref b), some (.ref a), some (.ref r), some (.ref D), none, none, none, none, none, none, none] H5 := by
        rw [hJ]
        exact ⟨D, bs, W, rfl, ⟨Keep.same s05, hb.same s05, none_of s03 hD, by rw [ha, e], hb5, fun x hx => (nb x hx).2, nd⟩, tsW, neW, fun z => by rw [z] at lW; simp at lW; omega⟩
      exact jj
  · rw [hJ] at h5
    clear hJ J
    obtain ⟨D, as, W, rfl, n5, tsW, neW, nW⟩ := h5
    have las := n5.len
    have lW : W.length ≤ 2001 := Nat.le_trans (TSz_pos neW) tsW
    have pW : 0 < W.length := List.length_pos_iff.mpr nW
    obtain ⟨J, hJ⟩ : ∃ J : L2.St → Hp → Prop, J = fun σ H' => ∃ at_ : Nat, σ = [some (.ref b), some (.ref a), some (.ref r), some (.ref D), some (.int at_), none, none, none, none, none, none] ∧ Bn b c H H' D as W ∧ at_ < W.length := ⟨_, rfl⟩
    refine ⟨J, ?_, fun σ6 H6 h6 => ?_⟩
    · walk_at "rd"
      refine len_of n5.at_ ?_
      rw [List.length_map, las]
      refine ⟨b, c, W.length, rfl, pW, by omega, n5.bag, fun H6 d k6 b6 hd => ?_⟩
      rw [hJ]
      exact ⟨d, rfl, n5.step k6 b6, hd⟩
    · rw [hJ] at h6
      clear hJ J n5 H5
      obtain ⟨at_, rfl, n6, hat⟩ := h6
      obtain ⟨row, hrow⟩ : ∃ row, W[at_]? = some row := ⟨W[at_], List.getElem?_eq_getElem hat⟩
      obtain ⟨ar, har, hrr⟩ := paired_at2 n6.rows hrow
      have nrow := neW row (List.mem_of_getElem? hrow)
      have prow : 0 < row.length := List.length_pos_iff.mpr nrow
      have srow : szW row ≤ 2001 := Nat.le_trans (TSz_mem (List.mem_of_getElem? hrow)) tsW
      have lrow : row.length ≤ 2001 := Nat.le_trans (szW_len row) srow
      obtain ⟨J, hJ⟩ : ∃ J : L2.St → Hp → Prop, J = fun σ H' => ∃ k way : Nat, σ = [some (.ref b), some (.ref a), some (.ref r), some (.ref D), some (.int at_), some (.int k), some (.int way), none, none, none, none] ∧ Bn b c H H' D as W ∧ k < row.length := ⟨_, rfl⟩
      refine ⟨J, ?_, fun σ7 H7 h7 => ?_⟩
      · walk_at "rd"
        refine ⟨_, SqL.of n6.at_, _, atI_nat (by rw [List.getElem?_map, har]; rfl), len_of hrr ?_⟩
        rw [List.length_map]
        refine ⟨b, c, row.length, rfl, prow, by omega, n6.bag, fun H7 k k7 b7 hk => ⟨b, c, 12, rfl, by decide, by decide, b7, fun H8 way k8 b8 hw => ?_⟩⟩
        rw [hJ]
        exact ⟨k, way, rfl, n6.step (k7.trans k8) b8, hk⟩
      · rw [hJ] at h7
        clear hJ J n6 hrr H6
        obtain ⟨k, way, rfl, n7, hk⟩ := h7
        obtain ⟨J, hJ⟩ : ∃ J : L2.St → Hp → Prop, J = fun σ H' => ∃ x : Str, σ = [some (.ref b), some (.ref a), some (.ref r), some (.ref D), some (.int at_), some (.int k), some (.int way), some (.str x), none, none, none] ∧ Bn b c H H' D as W ∧ x.length ≤ 2001 := ⟨_, rfl⟩
        refine ⟨J, ?_, fun σ8 H8 h8 => ?_⟩
        · obtain ⟨r0, hr0⟩ : ∃ r0, W[0]? = some r0 := ⟨W[0], List.getElem?_eq_getElem _⟩
          obtain ⟨rl, hrl⟩ : ∃ rl, W[W.length - 1]? = some rl := ⟨W[W.length - 1]'(by omega), List.getElem?_eq_getElem _⟩
          have m0 := List.mem_of_getElem? hr0
          have ml := List.mem_of_getElem? hrl
          have ne0 := neW _ m0
          have nel := neW _ ml
          have z0 := TSz_mem m0
          have zl := TSz_mem ml
          obtain ⟨a0, ha0, hra0⟩ := paired_at2 n7.rows hr0
          obtain ⟨al, hal, hral⟩ := paired_at2 n7.rows hrl
          walk_at "rd"
          refine ⟨b, c, 6, rfl, by decide, by decide, n7.bag, fun H8 z k8 b8 hz => ?_⟩
          have n8 := n7.step k8 b8
          have r8 := n7.bag.strL k8 hra0
          have q8 := n7.bag.strL k8 hral
          have nas : as.map V.ref ≠ [] := fun z => by have := congrArg List.length z; simp at this; rw [this] at las; simp at las; omega
          refine ⟨_, SqL.of n8.at_, V.ref a0, atI_zero (by rw [List.getElem?_map, ha0]; rfl), a0, rfl, _, SqL.of r8, V.str (r0.head ne0), atI_zero (by cases r0 with | nil => exact absurd rfl ne0 | cons => rfl), _, SqL.of n8.at_, V.ref al, ?_, al, rfl, _, SqL.of q8, V.str (rl.getLast nel), ?_, fun p9 H9 n9 => ?_⟩
          · rw [atI_lastOf nas, List.getLast_eq_getElem]
            simp only [List.length_map, List.getElem_map]
            congr 2
            have : as[W.length - 1]? = some al := hal
            rw [← las] at this
            obtain ⟨_, e⟩ := List.getElem?_eq_some_iff.mp this
            exact e
          · rw [atI_lastOf (by simpa using nel), List.getLast_map]
          · refine ⟨b, c, _, rfl, b8.same n9.same, .inl ⟨p9, _, rfl, n9.at_, by simp, by simp, (b8.ne n9.fresh).1, fun H10 y k10 b10 hy => ?_⟩⟩
            have nz := (nm_of hz).2
            have h0 := szW_mem (List.head_mem ne0)
            have h1 := szW_mem (List.getLast_mem nel)
            have n10 := (n8.same n9.same).step k10 b10
            have fin : ∀ x : Str, y = .str x → x.length ≤ 2001 → J [some (.ref b), some (.ref a), some (.ref r), some (.ref D), some (.int at_), some (.int k), some (.int way), some y, none, none, none] H10 := fun x e l => by
              rw [hJ, e]
              exact ⟨x, rfl, n10, l⟩
            simp only [List.mem_cons, List.not_mem_nil, or_false] at hy
            rcases hy with e | e | e | e | e | e | e | e | e | e | e
            · exact fin _ e (by omega)
            · exact fin _ e (by decide +kernel)
            · exact fin _ e (by decide +kernel)
            · exact fin _ e (by decide +kernel)
            · exact fin _ e (by decide +kernel)
            · exact fin _ e (by decide +kernel)
            · exact fin _ e (by decide +kernel)
            · exact fin _ e (by decide +kernel)
            · exact fin _ e (by decide +kernel)
            · exact fin _ e (by omega)
            · exact fin _ e (by omega)
        · rw [hJ] at h8
          clear hJ J n7 H7
          obtain ⟨x, rfl, n8, lx⟩ := h8
          obtain ⟨J, hJ⟩ : ∃ J : Nat → L2.St → Hp → Prop, J = fun i σ H' => (i ≤ way ∧ σ = [some (.ref b), some (.ref a), some (.ref r), some (.ref D), some (.int at_), some (.int k), some (.int way), some (.str x), none, none, none] ∧ H' = H8) ∨ (way < i ∧ Dn b c a r at_ k way x H σ H') := ⟨_, rfl⟩
          have step : ∀ {i : Nat} {body : L2.TS} {D' : Ends} {σ H'}, J i σ H' → D'.nx = J (i + 1) → (way = i → body D' [some (.ref b), some (.ref a), some (.ref r), some (.ref D), some (.int at_), some (.int k), some (.int way), some (.str x), none, none, none] H8) →
              tIfS (tTest (tOp rEq (tVar 6) (tC (.int (i : Nat))))) body tNext D' σ H' := fun {i body D' σ H'} h e q => by
            rw [hJ] at h
            rcases h with ⟨w0, rfl, rfl⟩ | ⟨w0, lf, W', rfl, r9⟩
            · refine if_way rfl (fun a1 => q (by omega)) fun a1 => ?_
              rw [e, hJ]
              exact .inl ⟨by omega, rfl, rfl⟩
            · refine if_way rfl (fun a1 => absurd a1 (by omega)) fun a1 => ?_
              rw [e, hJ]
              exact .inr ⟨by omega, lf, W', rfl, r9⟩
          have start : J 0 [some (.ref b), some (.ref a), some (.ref r), some (.ref D), some (.int at_), some (.int k), some (.int way), some (.str x), none, none, none] H8 := by
            rw [hJ]
            exact .inl ⟨by omega, rfl, rfl⟩
          have done : ∀ {i lf W' H'}, way = i → Keep [b] H H' → BagAt H' b c → RowsL H' lf W' → TSz W' ≤ 30000 → W'.length ≤ 3000 → J (i + 1) [some (.ref b), some (.ref a), some (.ref r), some (.ref lf), some (.int at_), some (.int k), some (.int way), some (.str x), none, none, none] H' := fun {i lf W' H'} e h1 h2 h3 h4 h5 => by
            rw [hJ]
            exact .inr ⟨by omega, lf, W', rfl, h1, h2, h3, h4, h5⟩
          have har8 : (as.map V.ref)[at_]? = some (.ref ar) := by rw [List.getElem?_map, har]; rfl
          have hr8 : StrL H8 ar row := by
            obtain ⟨y, e1, e2⟩ := paired_at n8.rows har
            rw [hrow] at e1
            cases e1
            exact e2
          have c1 : cutV (row.map V.str) none (some (k : Int)) = (row.take k).map V.str := by rw [cutV_to, List.map_take]
          have c2 : cutV (row.map V.str) (some (k : Int)) none = (row.drop k).map V.str := by rw [cutV_from, List.map_drop]
          have c3 : cutV (row.map V.str) (some ((k : Int) + 1)) none = (row.drop (k + 1)).map V.str := by rw [show (k : Int) + 1 = ((k + 1 : Nat) : Int) from rfl, cutV_from, List.map_drop]
          have d1 : cutV (as.map V.ref) none (some (at_ : Int)) = (as.take at_).map V.ref := by rw [cutV_to, List.map_take]
          have d2 : cutV (as.map V.ref) (some (at_ : Int)) none = (as.drop at_).map V.ref := by rw [cutV_from, List.map_drop]
          have d3 : cutV (as.map V.ref) (some ((at_ : Int) + 1)) none = (as.drop (at_ + 1)).map V.ref := by rw [show (at_ : Int) + 1 = ((at_ + 1 : Nat) : Int) from rfl, cutV_from, List.map_drop]
          have zt := szW_take k row
          have zd := szW_drop k row
          have ze := szW_drop (k + 1) row
          have lt := List.length_take_le k row
          have ld : (row.drop k).length ≤ row.length := by rw [List.length_drop]; omega
          have le : (row.drop (k + 1)).length ≤ row.length := by rw [List.length_drop]; omega
          have sx : ∀ a b : List Str, szW (a ++ [x] ++ b) = szW a + (x.length + 1) + szW b := fun a b => by rw [szW_app, szW_app]; rfl
          have rowfin : ∀ {i : Nat} {H' p row'}, way = i → Same H8 H' → H8 p = none → H' p = some (.lst (row'.map V.str)) → szW row' ≤ 9000 → J (i + 1) [some (.ref b), some (.ref a), some (.ref r), some (.ref D), some (.int at_), some (.int k), some (.int way), some (.str x), none, none, none] (L2.upd H' D (.lst ((as.map V.ref).set at_ (.ref p)))) := fun {i H' p row'} e s f h z => by
            obtain ⟨q1, q2, q3⟩ := n8.row hb hat s f h (Keep.same s) (n8.bag.same s)
            have := TSz_set (x := row') W at_
            exact done e q1 q2 q3 (by omega) (by rw [List.length_set]; omega)
          have ixat : ixN (as.map V.ref).length (at_ : Int) = some at_ := ixN_at (by rw [List.length_map]; omega)
          refine ⟨J 1, step (i := 0) start rfl fun w0 => ?_, fun σ9 H9 h9 => ?_⟩
          case refine_2.refine_2.refine_2.refine_2.refine_2.refine_1 =>
            walk_at "rd"
            refine ⟨_, SqL.of n8.at_, _, atI_nat har8, ar, rfl, _, SqL.of hr8, fun p1 H1 n1 p2 H2 n2 => ⟨_, n2.same _ _ n1.at_, _, n2.at_, ?_, fun p3 H3 n3 => ?_⟩⟩
            · rw [c1]; simp; omega
            have s3 := n1.same.trans (n2.same.trans n3.same)
            refine ⟨_, SqL.of (s3 _ _ n8.at_), _, atI_nat har8, ar, rfl, _, SqL.of (s3 _ _ hr8), fun p4 H4 n4 => ⟨_, n4.same _ _ n3.at_, _, n4.at_, ?_, fun p5 H5 n5 => ?_⟩⟩
            · rw [c1, c2]; simp; omega
            have s5 := s3.trans (n4.same.trans n5.same)
            refine ⟨D, _, at_, at_, rfl, rfl, s5 _ _ n8.at_, ixat, rowfin (row' := row.take k ++ [x] ++ row.drop k) w0 s5 (none_of (s3.trans n4.same) n5.fresh) ?_ ?_⟩
            · rw [n5.at_, c1, c2]; simp
            · rw [sx]; omega
          refine ⟨J 2, step (i := 1) h9 rfl fun w1 => ?_, fun σ10 H10 h10 => ?_⟩
          case refine_2.refine_2.refine_2.refine_2.refine_2.refine_1 =>
            walk_at "rd"
            refine ⟨_, SqL.of n8.at_, _, atI_nat har8, ar, rfl, _, SqL.of hr8, fun p1 H1 n1 => ?_⟩
            refine ⟨_, SqL.of (n1.same _ _ n8.at_), _, atI_nat har8, ar, rfl, _, SqL.of (n1.same _ _ hr8), fun p4 H4 n4 => ⟨_, n4.same _ _ n1.at_, _, n4.at_, ?_, fun p5 H5 n5 => ?_⟩⟩
            · rw [c1, c3]; simp; omega
            have s5 := n1.same.trans (n4.same.trans n5.same)
            refine ⟨D, _, at_, at_, rfl, rfl, s5 _ _ n8.at_, ixat, rowfin (row' := row.take k ++ row.drop (k + 1)) w1 s5 (none_of (n1.same.trans n4.same) n5.fresh) ?_ ?_⟩
            · rw [n5.at_, c1, c3]; simp
            · rw [szW_app]; omega
          refine ⟨J 3, step (i := 2) h10 rfl fun w2 => ?_, fun σ11 H11 h11 => ?_⟩
          case refine_2.refine_2.refine_2.refine_2.refine_2.refine_1 =>
            walk_at "rd"
            refine ⟨_, SqL.of n8.at_, _, atI_nat har8, ar, rfl, _, SqL.of hr8, fun p1 H1 n1 p2 H2 n2 => ⟨_, n2.same _ _ n1.at_, _, n2.at_, ?_, fun p3 H3 n3 => ?_⟩⟩
            · rw [c1]; simp; omega
            have s3 := n1.same.trans (n2.same.trans n3.same)
            refine ⟨_, SqL.of (s3 _ _ n8.at_), _, atI_nat har8, ar, rfl, _, SqL.of (s3 _ _ hr8), fun p4 H4 n4 => ⟨_, n4.same _ _ n3.at_, _, n4.at_, ?_, fun p5 H5 n5 => ?_⟩⟩
            · rw [c1, c3]; simp; omega
            have s5 := s3.trans (n4.same.trans n5.same)
            refine ⟨D, _, at_, at_, rfl, rfl, s5 _ _ n8.at_, ixat, rowfin (row' := row.take k ++ [x] ++ row.drop (k + 1)) w2 s5 (none_of (s3.trans n4.same) n5.fresh) ?_ ?_⟩
            · rw [n5.at_, c1, c3]; simp
            · rw [sx]; omega
          have tW := TSz_td at_ W
          have tV := TSz_td (at_ + 1) W
          have l1 := List.length_take_le at_ as
          have l2 : (as.drop at_).length ≤ as.length := by rw [List.length_drop]; omega
          have l3 : (as.drop (at_ + 1)).length ≤ as.length := by rw [List.length_drop]; omega
          refine ⟨J 4, step (i := 3) h11 rfl fun w3 => ?_, fun σ12 H12 h12 => ?_⟩
          case refine_2.refine_2.refine_2.refine_2.refine_2.refine_1 =>
            walk_at "rd"
            refine ⟨_, SqL.of n8.at_, fun p1 H1 n1 => ⟨_, SqL.of (n1.same _ _ n8.at_), _, atI_nat har8, ar, rfl, _, .inl (SqL.of (n1.same _ _ hr8)), fun p2 H2 n2 p3 H3 n3 => ⟨_, n3.same _ _ (n2.same _ _ n1.at_), _, n3.at_, ?_, fun p4 H4 n4 => ?_⟩⟩⟩
            · rw [d1]; simp; omega
            have s4 := n1.same.trans (n2.same.trans (n3.same.trans n4.same))
            refine ⟨_, SqL.of (s4 _ _ n8.at_), fun p5 H5 n5 => ⟨_, n5.same _ _ n4.at_, _, n5.at_, ?_, fun p6 H6 n6 => ?_⟩⟩
            · rw [d1, d2]; simp; omega
            have s6 := s4.trans (n5.same.trans n6.same)
            have P6 := Paired.mapP n8.rows fun _ _ z => StrL.same s6 z
            have e2 : StrL H6 p2 row := (n3.same.trans (n4.same.trans (n5.same.trans n6.same))) _ _ n2.at_
            refine done (W' := W.take at_ ++ [row] ++ W.drop at_) w3 (n8.k.trans (Keep.same s6)) (n8.bag.same s6) ⟨as.take at_ ++ [p2] ++ as.drop at_, ?_, paired_app (paired_app (paired_take at_ P6) (.cons e2 .nil)) (paired_drop at_ P6)⟩ ?_ ?_
            · rw [n6.at_, d1, d2]; simp
            · rw [TSz_app, TSz_app]
              have : TSz [row] = szW row := by simp [TSz]
              omega
            · simp; omega
          refine ⟨J 5, step (i := 4) h12 rfl fun w4 => ?_, fun σ13 H13 h13 => ?_⟩
          case refine_2.refine_2.refine_2.refine_2.refine_2.refine_1 =>
            walk_at "rd"
            refine ⟨_, SqL.of n8.at_, fun p1 H1 n1 => ⟨_, SqL.of (n1.same _ _ n8.at_), fun p5 H5 n5 => ⟨_, n5.same _ _ n1.at_, _, n5.at_, ?_, fun p6 H6 n6 => ?_⟩⟩⟩
            · rw [d1, d3]; simp; omega
            have s6 := n1.same.trans (n5.same.trans n6.same)
            have P6 := Paired.mapP n8.rows fun _ _ z => StrL.same s6 z
            refine done (W' := W.take at_ ++ W.drop (at_ + 1)) w4 (n8.k.trans (Keep.same s6)) (n8.bag.same s6) ⟨as.take at_ ++ as.drop (at_ + 1), ?_, paired_app (paired_take at_ P6) (paired_drop (at_ + 1) P6)⟩ ?_ ?_
            · rw [n6.at_, d1, d3]; simp
            · rw [TSz_app]; omega
            · simp; omega
          refine ⟨J 6, step (i := 5) h13 rfl fun w5 => ?_, fun σ14 H14 h14 => ?_⟩
          case refine_2.refine_2.refine_2.refine_2.refine_2.refine_1 =>
            walk_at "rd"
            refine ⟨_, n8.at_, by decide, by decide, by rw [List.length_map]; show as.length * 13 ≤ _; omega, fun p1 H1 n1 p2 H2 n2 => ⟨b, c, _, rfl, (n8.bag.same n1.same).same n2.same, .inl ⟨p2, _, rfl, n2.at_, by simp, by simp, ((n8.bag.same n1.same).ne n2.fresh).1, fun H3 y k3 b3 hy => ?_⟩⟩⟩
            obtain ⟨m, rfl, hm⟩ : ∃ m : Nat, y = .int m ∧ m ≤ 14 := by
              simp only [List.mem_cons, List.not_mem_nil, or_false] at hy
              rcases hy with e | e | e
              · exact ⟨12, e, by decide⟩
              · exact ⟨13, e, by decide⟩
              · exact ⟨14, e, by decide⟩
            have k13 : Keep [b] H1 H3 := (Keep.same n2.same).trans k3
            have p13 := k13 _ _ (by simpa using (n8.bag.ne n1.fresh).1) n1.at_
            refine ⟨m, rfl, _, SqL.of p13, fun p4 H4 n4 => ?_⟩
            have k84 : Keep [b] H8 H4 := (Keep.same n1.same).trans (k13.trans (Keep.same n4.same))
            have P4 : Paired (StrL H4) as W := Paired.mapP n8.rows fun _ _ z => n8.bag.strL k84 z
            have e13 : Int.toNat 13 = 13 := rfl
            rw [e13, cutV_to, map_rep, ← List.map_take] at n4
            have t1 := TSz_td m (List.replicate 13 W).flatten
            have t2 := TSz_rep 13 W
            refine done (W' := ((List.replicate 13 W).flatten).take m) w5 (n8.k.trans k84) (b3.same n4.same) ⟨_, n4.at_, paired_take m (paired_rep P4 13)⟩ ?_ ?_
            · omega
            · have := List.length_take_le m (List.replicate 13 W).flatten
              omega
          refine ⟨J 7, step (i := 6) h14 rfl fun w6 => ?_, fun σ15 H15 h15 => ?_⟩
          case refine_2.refine_2.refine_2.refine_2.refine_2.refine_1 =>
            walk_at "rd"
            have nDb : D ≠ b := (hb.ne n8.f).1
            refine ⟨_, rfl, D, rfl, ⟨_, SqL.of n8.at_⟩, fun D2 hD2 => lc_it (walk_list (xs := as.map V.ref)) (LcK [b] H8 D2 fun acc j H' => ∃ bs V', acc = bs.map V.ref ∧ Paired (StrL H') bs V' ∧ (∀ y ∈ bs, y ≠ D2) ∧ V'.length = j ∧ TSz V' ≤ 13 * TSz (W.take j) ∧ BagAt H' b c) (lk0 hD2 ⟨[], [], rfl, .nil, by simp, rfl, by simp [TSz], n8.bag.upd (n8.bag.ne hD2).1 (n8.bag.ne hD2).2⟩) (fun _ _ _ ⟨_, _, _, k, _⟩ => SqL.of (k _ _ (by simpa using nDb) n8.at_)) (fun j y H9 H10 hj ⟨acc, ha, hl, k9, bs, V', e, P9, nb, lV, tV, b9⟩ z => ?_) (fun H9 ⟨acc, ha, hl, k9, bs, V', e, P9, nb, lV, tV, b9⟩ => ?_)⟩
            · obtain ⟨rfl, hx⟩ := z
              obtain ⟨u, hu, rfl⟩ := map_ref_get hx
              obtain ⟨l, hl', hlu⟩ := paired_at n8.rows hu
              have l9 := n8.bag.strL k9 hlu
              have sl := TSz_mem (List.mem_of_getElem? hl')
              have ll := szW_len l
              have nD2 := n8.bag.ne hD2
              walk_at "rd"
              refine ⟨_, l9, by decide, by decide, by rw [List.length_map]; show l.length * 13 ≤ _; omega, fun p1 H1 n1 p2 H2 n2 => ⟨b, c, _, rfl, (b9.same n1.same).same n2.same, .inl ⟨p2, _, rfl, n2.at_, by simp, by simp, ((b9.same n1.same).ne n2.fresh).1, fun H3 y k3 b3 hy => ?_⟩⟩⟩
              obtain ⟨m, rfl, hm⟩ : ∃ m : Nat, y = .int m ∧ m ≤ 14 := by
                simp only [List.mem_cons, List.not_mem_nil, or_false] at hy
                rcases hy with e | e
                · exact ⟨12, e, by decide⟩
                · exact ⟨13, e, by decide⟩
              have k13 : Keep [b] H1 H3 := (Keep.same n2.same).trans k3
              have p13 := k13 _ _ (by simpa using (b9.ne n1.fresh).1) n1.at_
              refine ⟨m, rfl, _, SqL.of p13, fun p4 H4 n4 => ?_⟩
              have k94 : Keep [b] _ H4 := (Keep.same n1.same).trans (k13.trans (Keep.same n4.same))
              have a4 := k94 _ _ (by simpa using nD2.1) ha
              have e13 : Int.toNat 13 = 13 := rfl
              rw [e13, cutV_to, map_rep, ← List.map_take] at n4
              have t1 := szW_td m (List.replicate 13 l).flatten
              have t2 := szW_rep 13 l
              have n4D : p4 ≠ D2 := fun z => by
                have h1 := n4.fresh
                rw [z, ((Keep.same n1.same).trans k13) _ _ (by simpa using nD2.1) ha] at h1
                cases h1
              refine lkKeep hD2 a4 hl hj (by rw [List.length_map]; omega) (k9.trans k94) ⟨bs ++ [p4], by rw [e]; simp, V' ++ [((List.replicate 13 l).flatten).take m], ?_, fun y hy => ?_, by simp [lV], ?_, (b3.same n4.same).upd nD2.1 nD2.2⟩
              · refine paired_app (Paired.mapP (paired_allIn P9 nb) fun y z k => ?_) (.cons ?_ .nil)
                · show L2.upd H4 D2 _ y = _
                  rw [upd_ne k.2]; exact b9.strL k94 k.1
                · show L2.upd H4 D2 _ p4 = _
                  rw [upd_ne n4D]; exact n4.at_
              · rcases List.mem_append.mp hy with q | q
                · exact nb y q
                · simp at q; rw [q]; exact n4D
              · rw [take_get hl', TSz_app, TSz_app]
                have e1 : ∀ q : List Str, TSz [q] = szW q := fun q => by simp [TSz]
                rw [e1, e1]
                omega
            · have ll : V'.length = W.length := by rw [lV, List.length_map, las]
              rw [List.take_of_length_le (by rw [List.length_map, las]; exact Nat.le_refl _)] at tV
              exact done (lf := D2) w6 (n8.k.trans k9) b9 ⟨bs, by rw [ha, e], P9⟩ (by omega) (by omega)
          refine ⟨J 8, step (i := 7) h15 rfl fun w7 => ?_, fun σ16 H16 h16 => ?_⟩
          case refine_2.refine_2.refine_2.refine_2.refine_2.refine_1 =>
            walk_at "rd"
            obtain ⟨z, hz⟩ : ∃ z, row[k]? = some z := ⟨row[k], List.getElem?_eq_getElem hk⟩
            have sz := szW_mem (List.mem_of_getElem? hz)
            have l1 : (Str.ofString "*").length = 1 := by decide +kernel
            have hz8 : (row.map V.str)[k]? = some (.str z) := by rw [List.getElem?_map, hz]; rfl
            have far := n8.fr ar (List.mem_of_getElem? har)
            have nab := hb.ne far
            have nas : as ≠ [] := fun z => by rw [z] at las; simp at las; omega
            have narD := n8.strNe nas hr8
            refine ⟨_, SqL.of n8.at_, _, atI_nat har8, ar, rfl, _, SqL.of hr8, _, atI_nat hz8, z, rfl, by omega, _, SqL.of n8.at_, _, atI_nat har8, ar, _, k, k, rfl, rfl, hr8, ixN_at (by rw [List.length_map]; exact hk), ?_⟩
            have ts := TSz_set (x := row.set k (z ++ Str.ofString "*")) W at_
            have ss := szW_set (x := z ++ Str.ofString "*") row k
            rw [app_len, l1] at ss
            refine done (W' := W.set at_ (row.set k (z ++ Str.ofString "*"))) w7 (keep_new far n8.k) (n8.bag.upd nab.1 nab.2) ⟨as, by rw [upd_ne narD.symm]; exact n8.at_, paired_of_get (by rw [List.length_set]; exact las) fun i u q e1 e2 => ?_⟩ (by omega) (by rw [List.length_set]; omega)
            by_cases hi : i = at_
            · subst hi
              rw [har] at e1
              cases e1
              rw [List.getElem?_set_self hat] at e2
              cases e2
              show L2.upd H8 ar _ ar = _
              rw [upd_same, List.map_set]
            · rw [List.getElem?_set_ne (Ne.symm hi)] at e2
              have nu : u ≠ ar := fun z => by
                rw [z] at e1
                exact hi (nodup_get n8.nd e1 har)
              obtain ⟨q', e3, e4⟩ := paired_at n8.rows e1
              rw [e2] at e3
              cases e3
              show L2.upd H8 ar _ u = _
              rw [upd_ne nu]; exact e4
          refine ⟨J 9, step (i := 8) h16 rfl fun w8 => ?_, fun σ17 H17 h17 => ?_⟩
          case refine_2.refine_2.refine_2.refine_2.refine_2.refine_1 =>
            walk_at "rd"
            have tbl : ∀ {q : Str}, TSz [sgs "abcdef", sgs "ghijkl", q :: sgs "hijkl"] = 34 + (q.length + 1) - 0 := fun {q} => by
              have e1 : szW (sgs "abcdef") = 12 := by decide +kernel
              have e2 : szW (sgs "ghijkl") = 12 := by decide +kernel
              have e3 : szW (sgs "hijkl") = 10 := by decide +kernel
              show szW (sgs "abcdef") + (szW (sgs "ghijkl") + (q.length + 1 + szW (sgs "hijkl") + 0)) = _
              omega
            have nb := n8.bag
            refine ⟨by decide +kernel, fun p1 H1 n1 => ⟨by decide +kernel, fun p2 H2 n2 p3 H3 n3 p4 H4 n4 => ?_⟩⟩
            have s14 := n2.same.trans (n3.same.trans n4.same)
            have b4 := (nb.same n1.same).same s14
            refine ⟨b, c, _, rfl, b4, .inl ⟨p4, _, rfl, n4.at_, by simp, by simp, (((nb.same n1.same).same (n2.same.trans n3.same)).ne n4.fresh).1, fun H5 y k5 b5 hy p6 H6 n6 => ⟨by decide +kernel, fun p7 H7 n7 => ⟨_, n7.same _ _ n6.at_, _, n7.at_, by rw [List.length_map, sgs_len]; show 1 + (Str.ofString "hijkl").length ≤ _; decide +kernel, fun p8 H8' n8' p9 H9 n9 => ?_⟩⟩⟩⟩
            obtain ⟨m, rfl, hm⟩ : ∃ m : Str, y = .str m ∧ m.length ≤ 1 := by
              simp only [List.mem_cons, List.not_mem_nil, or_false] at hy
              rcases hy with e | e
              · exact ⟨_, e, by decide +kernel⟩
              · exact ⟨_, e, by decide +kernel⟩
            have s59 := n6.same.trans (n7.same.trans (n8'.same.trans n9.same))
            have b9 := b5.same s59
            have np1 : p1 ≠ b := (nb.ne n1.fresh).1
            have np2 : p2 ≠ b := ((nb.same n1.same).ne n2.fresh).1
            have np3 : p3 ≠ b := ((nb.same (n1.same.trans n2.same)).ne n3.fresh).1
            have k19 : Keep [b] H1 H9 := (Keep.same s14).trans (k5.trans (Keep.same s59))
            have k29 : Keep [b] H2 H9 := (Keep.same (n3.same.trans n4.same)).trans (k5.trans (Keep.same s59))
            have k39 : Keep [b] H3 H9 := (Keep.same n4.same).trans (k5.trans (Keep.same s59))
            have e1 := k19 _ _ (by simpa using np1) n1.at_
            have e2 := k29 _ _ (by simpa using np2) n2.at_
            have e3 := k39 _ _ (by simpa using np3) n3.at_
            have e8 := n9.same _ _ n8'.at_
            refine ⟨_, e3, _, n9.at_, by simp, fun p10 H10 n10 p11 H11 n11 p12 H12 n12 p13 H13 n13 p14 H14 n14 => ?_⟩
            have s914 := n10.same.trans (n11.same.trans (n12.same.trans (n13.same.trans n14.same)))
            have b14 := b9.same s914
            refine ⟨b, c, _, rfl, b14, .inl ⟨p14, _, rfl, n14.at_, by simp, by simp, ((b9.same (n10.same.trans (n11.same.trans (n12.same.trans n13.same)))).ne n14.fresh).1, fun H15 y k15 b15 hy2 => ?_⟩⟩
            have np8 : p8 ≠ b := ((b5.same (n6.same.trans n7.same)).ne n8'.fresh).1
            have k915 : Keep [b] H9 H15 := (Keep.same s914).trans k15
            have f1 := k915 _ _ (by simpa using np1) e1
            have f2 := k915 _ _ (by simpa using np2) e2
            have f8 := k915 _ _ (by simpa using np8) e8
            have np10 : p10 ≠ b := (b9.ne n10.fresh).1
            have f10 := k15 _ _ (by simpa using np10) ((n11.same.trans (n12.same.trans (n13.same.trans n14.same))) _ _ n10.at_)
            have kall : Keep [b] H8 H15 := (Keep.same n1.same).trans (k19.trans k915)
            simp only [List.mem_cons, List.not_mem_nil, or_false] at hy2
            rcases hy2 with e | e
            · have np11 : p11 ≠ b := ((b9.same n10.same).ne n11.fresh).1
              have f11 := k15 _ _ (by simpa using np11) ((n12.same.trans (n13.same.trans n14.same)) _ _ n11.at_)
              refine ⟨p11, e, _, f10, _, f11, by simp, fun p16 H16 n16 => ?_⟩
              refine done (W' := [sgs "abcdef", sgs "ghijkl", m :: sgs "hijkl"]) w8 (n8.k.trans (kall.trans (Keep.same n16.same))) (b15.same n16.same) ⟨[p1, p2, p8], n16.at_, .cons (n16.same _ _ f1) (.cons (n16.same _ _ f2) (.cons (n16.same _ _ f8) .nil))⟩ ?_ (by simp)
              rw [tbl]; omega
            · have np12 : p12 ≠ b := ((b9.same (n10.same.trans n11.same)).ne n12.fresh).1
              have np13 : p13 ≠ b := ((b9.same (n10.same.trans (n11.same.trans n12.same))).ne n13.fresh).1
              have f12 := k15 _ _ (by simpa using np12) ((n13.same.trans n14.same) _ _ n12.at_)
              have f13 := k15 _ _ (by simpa using np13) (n14.same _ _ n13.at_)
              refine ⟨p13, e, _, f10, _, f13, by simp, fun p16 H16 n16 => ?_⟩
              refine done (W' := [sgs "abcdef", sgs "ghijkl", m :: sgs "hijkl"] ++ [[Str.ofString "A"]]) w8 (n8.k.trans (kall.trans (Keep.same n16.same))) (b15.same n16.same) ⟨[p1, p2, p8] ++ [p12], n16.at_, paired_app (.cons (n16.same _ _ f1) (.cons (n16.same _ _ f2) (.cons (n16.same _ _ f8) .nil))) (.cons (n16.same _ _ f12) .nil)⟩ ?_ (by simp)
              rw [TSz_app, tbl]
              have : TSz [[Str.ofString "A"]] = 2 := by decide +kernel
              omega
          have dn : Dn b c a r at_ k way x H σ17 H17 := by
            rw [hJ] at h17
            rcases h17 with ⟨w0, rfl, rfl⟩ | ⟨_, d⟩
            · exact ⟨D, W, rfl, n8.k, n8.bag, ⟨as, n8.at_, n8.rows⟩, by omega, by omega⟩
            · exact d
          clear h9 h10 h11 h12 h13 h14 h15 h16 h17
          clear step start rowfin done hJ J n8
          obtain ⟨lf, W', rfl, k17, b17, ⟨bs, hlf, hrows⟩, sz, lw⟩ := dn
          obtain ⟨J, hJ⟩ : ∃ J : L2.St → Hp → Prop, J = fun σ H' => ∃ z : Str, σ = [some (.ref b), some (.ref a), some (.ref r), some (.ref lf), some (.int at_), some (.int k), some (.int way), some (.str x), some (.str z), none, none] ∧ Keep [b] H H' ∧ BagAt H' b c ∧ z.length ≤ 33000 := ⟨_, rfl⟩
          refine ⟨J, ?_, fun σ18 H18 h18 => ?_⟩
          · walk_at "rd"
            have lbs := hrows.length
            have l1 : (Str.ofString "\n").length = 1 := by decide +kernel
            have l0 : (Str.ofString "").length = 0 := by decide +kernel
            have ls : (Str.ofString " ").length = 1 := by decide +kernel
            refine ⟨_, rfl, lf, rfl, ⟨_, SqL.of hlf⟩, fun D2 hD2 => lc_it (walk_list (xs := bs.map V.ref)) (LcInv H17 D2 fun acc j _ => ∃ zs : List Str, acc = zs.map V.str ∧ zs.length = j ∧ (zs.map (·.length)).sum ≤ TSz (W'.take j) + j) (lc0 hD2 ⟨[], rfl, rfl, by simp⟩) (fun _ _ _ ⟨_, _, _, s, _⟩ => SqL.of (s _ _ hlf)) (fun j y H9 H10 hj ⟨acc, ha, hl, s9, zs, e, lz, tz⟩ v => ?_) (fun H9 ⟨acc, ha, hl, s9, zs, e, lz, tz⟩ => ?_)⟩
            · obtain ⟨rfl, hx⟩ := v
              obtain ⟨u, hu, rfl⟩ := map_ref_get hx
              obtain ⟨l, hl', hlu⟩ := paired_at hrows hu
              have l9 := StrL.same s9 hlu
              have sl := TSz_mem (List.mem_of_getElem? hl')
              obtain ⟨j1, j2⟩ := join_szW (Str.ofString " ") (by omega) l
              walk_at "rd"
              refine ⟨l, .inl (SqL.of l9), by omega, by omega, lcKeep hD2 ha hl hj (by rw [List.length_map]; omega) s9 ⟨zs ++ [Txt.join (Str.ofString " ") l ++ Str.ofString "\n"], by rw [e]; simp, by simp [lz], ?_⟩⟩
              rw [take_get hl', TSz_app, List.map_append, List.sum_append]
              have e1 : TSz [l] = szW l := by simp [TSz]
              have e2 : ([Txt.join (Str.ofString " ") l ++ Str.ofString "\n"].map (·.length)).sum = (Txt.join (Str.ofString " ") l).length + 1 := by
                show (Txt.join (Str.ofString " ") l ++ Str.ofString "\n").length + 0 = _
                rw [app_len, l1]
              rw [e1, e2]
              omega
            · have lz' : zs.length = W'.length := by rw [lz, List.length_map, lbs]
              rw [List.take_of_length_le (by rw [List.length_map, lbs]; exact Nat.le_refl _)] at tz
              rw [List.length_map] at tz
              have jl := join_len (Str.ofString "") zs
              rw [l0] at jl ⊢
              refine ⟨D2, rfl, zs, .inl (SqL.of (by rw [ha, e])), by omega, ?_⟩
              rw [hJ]
              exact ⟨_, rfl, k17.trans (Keep.same s9), b17.same s9, by omega⟩
          · rw [hJ] at h18
            clear hJ J k17 b17 hlf hrows
            obtain ⟨z, rfl, k18, b18, lz⟩ := h18
            obtain ⟨J, hJ⟩ : ∃ J : L2.St → Hp → Prop, J = fun σ H' => ∃ sp : Nat, σ = [some (.ref b), some (.ref a), some (.ref r), some (.ref lf), some (.int at_), some (.int k), some (.int way), some (.str x), some (.str z), some (.int sp), none] ∧ Keep [b] H H' ∧ BagAt H' b c := ⟨_, rfl⟩
            refine ⟨J, ?_, fun σ19 H19 h19 => ?_⟩
            · walk_at "rd"
              refine ⟨by omega, b, c, z.length + 1, by simp, by omega, by omega, b18, fun H19 d k19 b19 _ => ?_⟩
              rw [hJ]
              exact ⟨d, rfl, k18.trans k19, b19⟩
            · rw [hJ] at h19
              clear hJ J k18 b18
              obtain ⟨sp, rfl, k19, b19⟩ := h19
              obtain ⟨J, hJ⟩ : ∃ J : L2.St → Hp → Prop, J = fun σ H' => ∃ z : Str, σ = [some (.ref b), some (.ref a), some (.ref r), some (.ref lf), some (.int at_), some (.int k), some (.int way), some (.str x), some (.str z), some (.int sp), none] ∧ Keep [b] H H' ∧ BagAt H' b c ∧ z.length ≤ 80000 := ⟨_, rfl⟩
              refine ⟨J, ?_, fun σ20 H20 h20 => ?_⟩
              · walk_at "rd"
                refine ite2 (fun _ => ?_) fun _ => ?_
                · refine ⟨z, rfl, by rw [sizeLine_eq]; omega, fun p1 H1 n1 => ⟨b, c, _, rfl, b19.same n1.same, .inl ⟨p1, _, rfl, n1.at_, by simp, by simp, (b19.ne n1.fresh).1, fun H2 y k2 b2 hy => ?_⟩⟩⟩
                  obtain ⟨m, rfl, hm⟩ : ∃ m : Str, y = .str m ∧ m.length ≤ 2 := by
                    simp only [List.mem_cons, List.not_mem_nil, or_false] at hy
                    rcases hy with e | e | e | e | e | e | e
                    · exact ⟨_, e, by decide +kernel⟩
                    · exact ⟨_, e, by decide +kernel⟩
                    · exact ⟨_, e, by decide +kernel⟩
                    · exact ⟨_, e, by decide +kernel⟩
                    · exact ⟨_, e, by decide +kernel⟩
                    · exact ⟨_, e, by decide +kernel⟩
                    · exact ⟨_, e, by decide +kernel⟩
                  have q1 := cutS_length z none (some (sp : Int))
                  refine ⟨_, rfl, m, rfl, by omega, b, c, 2, rfl, by decide, by decide, b2, fun H3 d k3 b3 _ => ⟨_, rfl, z, rfl, by rw [sizeLine_eq]; omega, ?_⟩⟩
                  have q2 := cutS_length z (some ((sp : Int) + (d : Int))) none
                  refine ⟨_, rfl, by rw [app_len]; omega, ?_⟩
                  rw [hJ]
                  exact ⟨_, rfl, (k19.trans (Keep.same n1.same)).trans (k2.trans k3), b3, by rw [app_len, app_len]; omega⟩
                · rw [hJ]
                  exact ⟨z, rfl, k19, b19, by omega⟩
              · rw [hJ] at h20
                clear hJ J k19 b19
                obtain ⟨z2, rfl, k20, b20, lz2⟩ := h20
                walk_at "rd"
                refine ite2 (fun _ => ?_) fun _ => ite2 (fun _ => ?_) fun _ => ?_
                · have q1 := cutS_length z2 none (some (-1))
                  exact ⟨z2, rfl, by rw [sizeLine_eq]; omega, q _ _ k20 b20 (by omega)⟩
                · refine fun p1 H1 n1 => ⟨b, c, _, rfl, b20.same n1.same, .inl ⟨p1, _, rfl, n1.at_, by simp, by simp, (b20.ne n1.fresh).1, fun H2 y k2 b2 hy => ?_⟩⟩
                  obtain ⟨m, rfl, hm⟩ : ∃ m : Str, y = .str m ∧ m.length ≤ 2 := by
                    simp only [List.mem_cons, List.not_mem_nil, or_false] at hy
                    rcases hy with e | e | e
                    · exact ⟨_, e, by decide +kernel⟩
                    · exact ⟨_, e, by decide +kernel⟩
                    · exact ⟨_, e, by decide +kernel⟩
                  exact ⟨m, rfl, by omega, q _ _ ((k20.trans (Keep.same n1.same)).trans k2) b2 (by rw [app_len]; omega)⟩
                · exact q _ _ k20 b20 (by omega)
end
end Dk
-- text T1
set_option maxHeartbeats 1000000
namespace Dk
open PySem PySem.Spec PyProof.Rows L2
/-! ## a def called in an except suite -/
theorem run_pin {CX : CXT} {P : Program} {w : World} {K : PySem.W.Frag} {mg : Str → Option Value} {base : Heap} {k : Nat} {f : Addr} {x qual : Str} {params : Arguments} {body : List Stmt} {scope : Scope} {fd : FuncData} {N ps : List Str}
    (F : FunD K x qual params body scope [] [] f fd) (S : FnScope N ps scope) {A : Around} {outer : List Env} {s : Shared} {H : Hp} {args : Args} {us : List Value} {vs : List V} {Q : VK} {E : XK} {p : Addr × Obj}
    (hr : L2H.RoomH (k + 1) A) (hp : L2H.PinOk outer H s p) (e0 : Env0 P w K mg base A outer s H) (hb : BindsTo s fd args (ps.zip us)) (r : Vals vs us) (hl : vs.length = ps.length)
    (hbody : ∀ cdv, L2H.RoomH k (A.deeper (envOfC qual scope s.heap.objs.size f cdv)) → ∃ t, PSs (L2H.cxH CX P w K mg base N qual scope f cdv A outer s H E p) body t ∧ t { nx := fun _ H' => Q .non H', rt := Q } (L2.start N vs) H) :
    codeAny (model P w) A (.call (.ref f) args) (CR CX outer P w H s Q E) s := by
  obtain ⟨oc, od, dV, kV, doc, pm, an, cdv, ct, osl, rfl, lk, hcd, _, _⟩ := F.ex
  have kin : K.In s.heap := e0.mod.kin.keeps fun b o e => (e0.bs b o e).1
  have nl : s.heap.NoLimit := e0.mod.nolimit.keeps fun b o e => (e0.bs b o e).1
  have kinds : ∀ y ∈ ps.zip us, scope.names.lookup y.1 = some .local ∨ (scope.names.lookup y.1 = some .cell ∧ ((cellsFrom (s.heap.objs.size + 1) scope.names []).lookup y.1).isSome = true) := by
    intro y hy
    obtain ⟨n, v⟩ := y
    cases S.par n (List.of_mem_zip hy).1 with
    | inl q => exact .inl q
    | inr q => exact .inr ⟨q, PySem.W.cellsFrom_some _ _ _ (.inl q)⟩
  refine codeAny_call_function hr.depth (kin _ _ lk) rfl S.co S.gen rfl (PySem.W.codeRec_of kin hcd) (hb _ _ _ _ ?_)
  refine wpAny_newFunctionEnv_cells S.kind kinds fun env he s1 y => ?_
  subst he
  refine ⟨nl.keeps y.toInCall.keep, codeAny_func ?_⟩
  obtain ⟨t, ht, hq⟩ := hbody cdv (hr.deeper _)
  have I : Inv (L2H.cxH CX P w K mg base N qual scope f cdv A outer s H E p) [] (L2.start N vs) H s1 := L2H.inv_startH S hp e0 hl r y
  refine wpAny_mono (ht.run [] s1 (L2.start N vs) H _ I hq) (fun fl s' z => ?_) fun e s' z => z
  match fl, z with
  | .ret u, ⟨v, _, H', J, rv, q⟩ => exact ⟨v, H', J.os, J.bare, J.base, J.hok, rv, q⟩
  | .next, ⟨_, H', J, q⟩ => exact ⟨.non, H', J.os, J.bare, J.base, J.hok, rfl, q⟩
  | .brk, ⟨_, _, _, q⟩ => exact q.elim
  | .cont, ⟨_, _, _, q⟩ => exact q.elim
/-- e.n, e the pinned exception -/
theorem pe_xfp {X : Cx} {a C : Addr} {oe : Obj} {cls : Value} {d : Option Addr} {e : Expr} {te : TE} {pos : Pos} {n : Str} (T : XfC X.K C) (hno : PySem.W.findIn X.K (.ref C) n = some none) (hp : (a, oe) ∈ X.pn)
    (hz : Zc cls d oe) (hf : ∃ vs, oe.data = .fields vs) (he : PE X e te) (hb : attributeBase e n X.env (eval e X.env) = eval e X.env := by rfl) : PE X (.Attribute e n pos) (tXf a cls d C n te) := by
  constructor
  intro pins s σ H Q I h
  refine attr_of hb (thn (he.run pins s σ H _ I h) fun u s1 hh => ?_)
  obtain ⟨x, H1, I1, rx, ex, ec, dd, fs, v, ed, ea, l, q⟩ := hh
  subst ex ec ed
  cases rx
  have ha := (I1.pin (a, oe) (List.mem_append_left _ hp)).1
  obtain ⟨vs, hd⟩ := hf
  obtain ⟨mA, hns, hr⟩ := (show ObjOk X.prog X.w H1 s1.heap dd (.xd fs) from I1.hok dd _ ea)
  obtain ⟨od, ho, hl⟩ := lookIn_ns hns
  have hr' := hr n
  rw [l] at hr'
  obtain ⟨u, hu, ru⟩ := RelO.some_of hr'
  exact HandSPX.exc_get I1.kIn (⟨ha, hz.1, by unfold PySem.W.notCls; rw [hd] <;> rfl, by rw [hz.2]; exact ho⟩ : PySem.W.InstAt s1.heap a oe C (some od)) T.ga T.gg T.exC (PySem.W.findObj_own T.hdC hno rfl (by rw [hl, hu])) (handed_of ru) ⟨v, H1, I1.tok _, ru, q⟩
/-! ## try, except (A, B) as n -/
theorem fly_keeps {B h h' : Heap} {l : List Env} {a : Addr} {Z : Obj → Prop} (f : HandSPX.FlyingZ B l a Z h) (k : ∀ b o, h.get? b = some o → h'.get? b = some o) : HandSPX.FlyingZ B l a Z h' := by
  obtain ⟨f1, f2, f3, oe, vs, T, oT, ts, g1, g2, g3, g4, g5, g6, g7, g8, g9⟩ := f
  exact ⟨fun b o e => k b o (f1 b o e), f2, Heap.FunFrames.of_keeps (fun b o e _ => ⟨o, k b o e, rfl⟩) f3, oe, vs, T, oT, ts, k _ _ g1, g2, g3, g4, g5, g6, k _ _ g7, g8, g9⟩
/-- what the clause wishes: only what it catches -/
def wAs2 (K : PySem.W.Frag) (c1 c2 : Value) (i : Nat) (ts : Addr → Value → Option Addr → TS) (D : Ends) : WX := fun cls d σ H =>
  PySem.W.exmAny K cls [c1, c2] = some true ∧ ∀ a, H a = none → ts a cls d { nx := fun σ' H' => D.nx (σ'.set i none) H', rt := D.rt, bk := fun σ' H' => D.bk (σ'.set i none) H', ct := fun σ' H' => D.ct (σ'.set i none) H' } (σ.set i (some (.ref a))) H
theorem ps_try2 {X : Cx} {x1 x2 n : Str} {C1 C2 : Addr} {i kk : Nat} {body suite : List Stmt} {b0 : Stmt} {q1 q2 tpos pos pos' : Pos} {tb : WX → TS} {ts : Addr → Value → Option Addr → TS}
    (hs : X.stack = X.env :: X.outer) (hf : X.env.frame = some X.env.locals) (hN : X.N.Nodup) (hi : X.N[i]? = some n) (hln : X.env.kindOf n = some .local)
    (g1 : Gl X x1) (m1 : X.mg x1 = some (.ref C1)) (g2 : Gl X x2) (m2 : X.mg x2 = some (.ref C2)) (d1 : (x1 == ("__debug__" : Str)) = false) (d2 : (x2 == ("__debug__" : Str)) = false)
    (hb : ∀ (W : WX) (pn : List (Addr × Obj)) (xe : Value → Shared → Prop), Takes (X.tr pn xe) W → PSs (X.tr pn xe) body (tb W))
    (hsu : ∀ (a : Addr) (oe : Obj) (cls : Value) (d : Option Addr) (pn : List (Addr × Obj)), Zc cls d oe → (∃ vs, oe.data = .fields vs) → PSs (X.suite a ((a, oe) :: pn)) (b0 :: suite) (ts a cls d)) :
    PS X (.Try body [.ExceptHandler (some (.Tuple [.Name x1 q1, .Name x2 q2] kk tpos)) (some n) (b0 :: suite) pos'] [] [] pos) (fun D σ H => tb (wAs2 X.K (.ref C1) (.ref C2) i ts D) D σ H) := by
  constructor
  intro pins s σ H D I h
  have ok := I.ok
  have fr : X.A.frames = some (X.env :: X.outer) := by rw [ok.frames, hs]
  have lc : Loc X.env.scope n := .inl hln
  refine wpAny_Try_except ?_
  refine wpAny_mono ((hb (wAs2 X.K (.ref C1) (.ref C2) i ts D) (X.pn ++ pins) (fun e t1 => wpAny (model X.prog X.w) X.A (noteFrame e X.env) (fun _ t2 => wpAny (model X.prog X.w) X.A (setFlight e none) (fun _ t3 =>
    wpAny (model X.prog X.w) X.A (handleBy e X.env [.ExceptHandler (some (.Tuple [.Name x1 q1, .Name x2 q2] kk tpos)) (some n) (b0 :: suite) pos']) (SP X pins D) X.xe t3) X.xe t2) X.xe t1) (fun u s' xx => ?_)).run [] s σ H D (I.toTry _) h) (fun f s1 z => ?_) (fun e s1 he => he)
  · obtain ⟨a, B, sI, pins', σ', H', cls, d, rfl, J', nb, up, sky, na, os, ag, hm, yes⟩ := xx
    have J : Inv X pins σ' H' sI := J'.ofTry ok
    rw [show (X.tr (X.pn ++ pins) _).stack = X.env :: X.outer from hs] at sky
    show wpAny (model X.prog X.w) X.A (noteFrame (.ref a) X.env) _ _ _
    refine Sky.land Zc.steady fr hf sky fun h3 f3 up3 => ?_
    have J3 : Inv X pins σ' H' { s' with heap := h3 } := J.landed nb f3.1 (up.trans up3) os ag
    obtain ⟨oe3, vs3, he3, hz3, hd3⟩ := f3.there
    have nfr : a ∉ frs (X.env :: X.outer) := fun z => by
      obtain ⟨_, o', e', nf⟩ := f3.2.2.1.mem z
      rw [he3] at e'
      cases e'
      exact nf _ hd3
    have nL : a ≠ X.env.locals := fun z => nfr (List.mem_filterMap.mpr ⟨X.env, List.mem_cons_self, by rw [hf, z]⟩)
    have nF : a ∉ X.fs := fun z => by
      obtain ⟨e, he, q⟩ := List.mem_filterMap.mp z
      exact nfr (List.mem_filterMap.mpr ⟨e, List.mem_cons_of_mem _ he, q⟩)
    have S3 := J3.suite he3 hd3 na nL nF
    refine wpAny_handleBy_cons (codeAny_handlers_test ?_) (by intro q; cases q)
    have LT : PySem.W.Looks (model X.prog X.w) h3 (typeOf (.ref a)) cls := fun A Q E s k q => wpAny_typeOf_ref (k _ _ he3) (by rw [hz3.1]; exact q)
    refine wpAny_Tuple (wpAny_items_cons (ld_glob (X := X.suite a ((a, oe3) :: (X.pn ++ pins))) S3 g1 m1 ?_ d1))
    refine wpAny_items_cons (ld_glob (X := X.suite a ((a, oe3) :: (X.pn ++ pins))) S3 g2 m2 ?_ d2)
    refine wpAny_items_nil ⟨by show 2 ≤ sizeLine; decide, ?_⟩
    obtain ⟨h4, e4⟩ : ∃ h4, h4 = h3.push { cls := .type "tuple", data := .seq [Value.ref C1, Value.ref C2].toArray } := ⟨_, rfl⟩
    have kp : ∀ b o, h3.get? b = some o → h4.get? b = some o := fun b o e => by rw [e4]; exact Heap.get?_push_of_some _ e
    have gT : h4.get? h3.objs.size = some { cls := .type "tuple", data := .seq [Value.ref C1, Value.ref C2].toArray } := by rw [e4]; exact Heap.get?_push_size h3 rfl
    subst e4
    refine (PySem.W.exm_tup2 (M := model X.prog X.w) (h := h3.push { cls := .type "tuple", data := .seq [Value.ref C1, Value.ref C2].toArray }) (J3.kIn.keeps kp) (LT.keeps kp) gT hm).here ?_
    have f4 := fly_keeps f3 kp
    refine codeAny_handlers_suite_as ?_
    refine HandSPX.lands_againZ f4 fun h5 f5 up5 => ?_
    have J5 : Inv X pins σ' H' { s' with heap := h5 } := J.landed nb f5.1 (((up.trans up3).trans (Heap.UpToSlots.of_keeps kp)).trans up5) os ag
    obtain ⟨oe5, vs5, he5, hz5, hd5⟩ := f5.there
    have S5 := J5.suite he5 hd5 na nL nF
    refine store_ok (X := X.suite a ((a, oe5) :: (X.pn ++ pins))) (v := .ref a) S5 hN hi lc rfl (fun s6 S6 => ?_) (.inr hln)
    refine wpAny_mono ((hsu a oe5 cls d (X.pn ++ pins) hz5 ⟨_, hd5⟩).run [] s6 _ H' _ S6 (yes a na)) (fun f s7 z => ?_) (fun _ _ z => False.elim z)
    match f, z with
    | .next, ⟨σ7, H7, S7, q⟩ => exact gone_ok (S7.unsuite ok) hN hi hln fun s8 J8 => ⟨_, _, J8, q⟩
    | .brk, ⟨σ7, H7, S7, q⟩ => exact gone_ok (S7.unsuite ok) hN hi hln fun s8 J8 => ⟨_, _, J8, q⟩
    | .cont, ⟨σ7, H7, S7, q⟩ => exact gone_ok (S7.unsuite ok) hN hi hln fun s8 J8 => ⟨_, _, J8, q⟩
    | .ret u, ⟨v7, σ7, H7, S7, r, q⟩ => exact gone_ok (S7.unsuite ok) hN hi hln fun s8 J8 => ⟨_, _, _, J8, r, q⟩
  · match f, z with
    | .next, ⟨σ', H', J', q⟩ => exact wpAny_execs_nil ⟨σ', H', J'.ofTry ok, q⟩
    | .brk, ⟨σ', H', J', q⟩ => exact ⟨σ', H', J'.ofTry ok, q⟩
    | .cont, ⟨σ', H', J', q⟩ => exact ⟨σ', H', J'.ofTry ok, q⟩
    | .ret u, ⟨v, σ', H', J', r, q⟩ => exact ⟨v, σ', H', J'.ofTry ok, r, q⟩
end Dk
-- text S1
set_option maxHeartbeats 1000000
namespace Dk
open PySem PySem.Spec PyProof.Rows L2
local macro_rules | `(tactic| walk_at "rd") => `(tactic| simp only [tRet, tRetN, tSeq, tAsg, tIfS, tB, tVar, tC, tCons, tNil, tCB, tCall, tOp, tUn, rI0, rI, rU, rEq, rNe, gName, tAnd, tOr, tNot, tAndV, tOrV, tNotV, tIf, tTest, tChain, tDrop, tNext, tBreak, tCont, tTup, tLst, tBM, tBM0, tM0, tM1, tSl, tPart, tNoPart, tPar,
  rIs, rIs2, rIxL, rIxT, rIxS, rAppend, rExtend, rPop, rPopAt, gTup, gCons, gNil, gSub, tYes, wipe, tD1, tDcC, rListC, rSortC, rEmp, rJoin, tM1, gFld, tFld, sFld, rMinDef, tCKw, StX.tStar, rLen, tDGet2, tNo, tScN, rSortTx, rSetTx, iKeys, tPar3, sDPut, tFor_eq, iList, iEnum, iStr, iZip, cxK, cxP, cxW, tTup_, tLst_, tDNewK_, tDNewT_, rSlL_, rListOf_, rCatN, rRepN, rListStr, iRng1, rLenT, rInC, rDictC, sizeLine_eq, Nat.reduceLeDiff, Bool.true_or, Bool.false_or, Bool.or_true, Bool.or_false, Bool.true_and, Bool.false_and, Bool.and_true, Bool.and_false, Bool.not_true, Bool.not_false, Bool.not_eq_true', decide_eq_true_eq, decide_eq_false_iff_not, scal, isT_Non_boo, isT_Non_int, isT_Non_str, isT_Non_lis, isT_Non_tup, isT_Non_dic, isT_boo_boo, isT_boo_int, isT_boo_str, isT_boo_lis, isT_boo_tup, isT_boo_dic, isT_int_boo, isT_int_int, isT_int_str, isT_int_lis, isT_int_tup, isT_int_dic, isT_str_boo, isT_str_int, isT_str_str, isT_str_lis, isT_str_tup, isT_str_dic, isT_lis_boo, isT_lis_int, isT_lis_str, isT_lis_lis, isT_lis_tup, isT_lis_dic, isT_tup_boo, isT_tup_int, isT_tup_str, isT_tup_lis, isT_tup_tup, isT_tup_dic, isT_dic_boo, isT_dic_int, isT_dic_str, isT_dic_lis, isT_dic_tup, isT_dic_dic, kit_Non, kit_boo, kit_int, kit_str, kit_lis, kit_tup, kit_dic, sg_inj, vt_non, vt_bl, vt_int, vt_str, len_str, tDGet, tDIn, tDNotIn,
  L2.start, List.map_cons, List.map_nil, List.length_cons, List.length_nil, List.cons_append, List.nil_append, List.append_nil, Nat.zero_add, Nat.reduceAdd, Nat.reduceSub, Nat.sub_zero, Nat.sub_self, List.replicate_succ, List.replicate_zero,
  List.getElem?_cons_zero, List.getElem?_cons_succ, List.getElem?_nil, List.set_cons_zero, List.set_cons_succ, List.cons.injEq, Option.some.injEq, V.int.injEq, V.str.injEq, V.bl.injEq, V.ref.injEq, V.ty.injEq, reduceCtorEq,
  and_assoc, and_true, true_and, false_and, and_false, exists_eq_left, exists_eq_left', exists_eq', exists_eq_right, exists_eq_right', exists_and_left, exists_and_right, exists_const, exists_false, exists_eq, if_true, if_false, Bool.false_eq_true, Bool.true_eq, decide_true, decide_false, ite_self])
/-! ## equal data -/
def scalEq (x y : V) : Prop := x = y ∧ (x = .non ∨ (∃ i, x = .int i) ∨ ∃ z, x = .str z)
def Nx (R : Hp → V → V → Prop) (H : Hp) (x y : V) : Prop := scalEq x y ∨ ∃ a b xs ys, x = .ref a ∧ y = .ref b ∧ ((H a = some (.lst xs) ∧ H b = some (.lst ys)) ∨ (H a = some (.tup xs) ∧ H b = some (.tup ys))) ∧ xs.length ≤ 1000 ∧ Paired (R H) xs ys
def SmR : Nat → Hp → V → V → Prop
  | 0 => fun _ _ _ => False
  | n + 1 => Nx (SmR n)
theorem SmR.same {H H' : Hp} (s : Same H H') : ∀ {n : Nat} {x y : V}, SmR n H x y → SmR n H' x y
  | 0, _, _, h => h
  | n + 1, x, y, h => by
    rcases h with h | ⟨a, b, xs, ys, e1, e2, h, l, p⟩
    · exact .inl h
    · refine .inr ⟨a, b, xs, ys, e1, e2, ?_, l, Paired.mapP p fun _ _ z => SmR.same s z⟩
      rcases h with ⟨h1, h2⟩ | ⟨h1, h2⟩
      · exact .inl ⟨s _ _ h1, s _ _ h2⟩
      · exact .inr ⟨s _ _ h1, s _ _ h2⟩
theorem walk_zipT {K : PySem.W.Frag} {a b : Addr} {xs ys : List V} {n : Nat} (hn : n = min xs.length ys.length) : Walk (RZ.ItzT K a b) n (fun H => SqT K H a xs ∧ SqT K H b ys) (YPair (fun i => xs[i]?) (fun i => ys[i]?)) := by
  subst hn
  constructor
  · intro i _ hi q
    exact ⟨xs, ys, xs[i]'(by omega), ys[i]'(by omega), q.1, q.2, List.getElem?_eq_getElem _, List.getElem?_eq_getElem _⟩
  · intro _ q
    exact ⟨xs, ys, q.1, q.2, by omega⟩
  · intro i H v H' _ q y
    obtain ⟨T, x, z, h1, h2, h3, h4, h5⟩ := y
    exact ⟨T, x, z, h1, h2, h3, h4 xs q.1, h5 ys q.2⟩
section
variable {P : Program} {w : World} {K : PySem.W.Frag} {mg : Str → Option Value} {base : Heap}
def sp_law_same (R : Hp → V → V → Prop) : Sp := fun vs H Q _ => ∃ x y, vs = [x, y] ∧ R H x y ∧ ∀ H', Same H H' → Q (.bl true) H'
theorem cal_none {x : Str} {st : Stmt} {ps : List Str} (D : Df K mg x st)
    (bn : ∀ (kV doc pm : Value) (an : Option Addr) (cdv ct : Value) (us : List Value), us.length = ps.length → bindArgs (PySem.W.fnOf x x (defArgs st) (defBody st) (defScope st) .none kV doc pm an cdv ct) ⟨us, []⟩ = pure (ps.zip us)) : Cal P w K mg base CX0 0 x ps (fun _ _ _ _ => False) := by
  obtain ⟨f, fd, F, m⟩ := D
  exact ⟨f, fd, m, F.kp, F.bindsN bn, ⟨fun _ _ _ _ h => h.elim, fun _ _ _ _ _ _ _ _ _ _ _ _ _ h => h.elim⟩⟩
theorem c_law_same_step {k : Nat} {R : Hp → V → V → Prop} (mono : ∀ {H H' : Hp} {x y : V}, Same H H' → R H x y → R H' x y) (T : Tx K mg) (D : Df K mg "_law_same" s_law_same) (c_law_same : Cal P w K mg base CX0 k "_law_same" p_law_same (sp_law_same R)) :
    Cal P w K mg base CX0 (k + 1) "_law_same" p_law_same (sp_law_same (Nx R)) := by
  have S := sc_law_same
  refine cal0 D S (fun _ _ _ _ _ _ us hl => match us, hl with | [_, _], _ => rfl) (fun vs H Q E h => ?_) (fun f cdv A outer s H vs Q E hr h => ?_)
  · obtain ⟨_, _, rfl, _⟩ := h
    rfl
  refine ⟨_, (pss_cons (ps_if (pt_val (pe_callB (id := "isinstance") call_is2 (by rfl) (T.fr _ (by decide)) (by decide +kernel) (pa_cons (pv 1) (pa_cons (pe_tup_ (pa_cons (pe_bltn (v := .ty "list") (by rfl) (T.fr _ (by decide)) (by decide +kernel) rfl) (pa_cons (pe_bltn (v := .ty "tuple") (by rfl) (T.fr _ (by decide)) (by decide +kernel) rfl) pa_nil))) pa_nil)))) (pss_cons (ps_if (PW.pt (pw_or (pt_cmpR op_ne (pe_callB (id := "isinstance") call_is (by rfl) (T.fr _ (by decide)) (by decide +kernel) (pa_cons (pv 0) (pa_cons (pe_bltn (v := .ty "list") (by rfl) (T.fr _ (by decide)) (by decide +kernel) rfl) pa_nil))) (pe_callB (id := "isinstance") call_is (by rfl) (T.fr _ (by decide)) (by decide +kernel) (pa_cons (pv 1) (pa_cons (pe_bltn (v := .ty "list") (by rfl) (T.fr _ (by decide)) (by decide +kernel) rfl) pa_nil))) (nomark _)) (pw_or1 (pt_cmpR op_ne (pe_callB (id := "isinstance") call_is (by rfl) (T.fr _ (by decide)) (by decide +kernel) (pa_cons (pv 0) (pa_cons (pe_bltn (v := .ty "tuple") (by rfl) (T.fr _ (by decide)) (by decide +kernel) rfl) pa_nil))) (pe_callB (id := "isinstance") call_is (by rfl) (T.fr _ (by decide)) (by decide +kernel) (pa_cons (pv 1) (pa_cons (pe_bltn (v := .ty "tuple") (by rfl) (T.fr _ (by decide)) (by decide +kernel) rfl) pa_nil))) (nomark _))))) (pss_one (ps_ret pe_bl)) pss_nil)
      (pss_one (ps_ret (pe_and (pe_cmpR op_eq (pe_callB (id := "len") (r := rLen K) (call_len_ rfl) (by rfl) (T.fr _ (by decide)) (by decide +kernel) (pa_cons (pv 0) pa_nil)) (pe_callB (id := "len") (r := rLen K) (call_len_ rfl) (by rfl) (T.fr _ (by decide)) (by decide +kernel) (pa_cons (pv 1) pa_nil)) (nomark _)) (pe_one (pe_callB (id := "all") (cr_all rfl) (by rfl) (T.fr _ (by decide)) (by decide +kernel) (pa_cons (pe_lc (own := [("_law_one", 2), ("_law_two", 3)]) (g := gTup K 2 (gCons (gName 2) (gCons (gName 3) gNil))) rfl S.nd (RZ.pi_zipA (by rfl) (T.fr _ (by decide)) (pa_cons (pv 0) (pa_cons (pv 1) pa_nil))) (blkOk_by (N := N_law_same) (sc := defScope s_law_same) (by decide +kernel)) (fun _ _ _ _ _ => (pg_tup (n := 2) rfl (pgs_cons (pg_name (i := 2) S.nd rfl (by first | exact Or.inl rfl | exact Or.inr rfl)) (pgs_cons (pg_name (i := 3) S.nd rfl (by first | exact Or.inl rfl | exact Or.inr rfl)) pgs_nil)))) (fun _ _ _ _ _ => pts_nil) (fun _ _ _ _ _ => (pe_fn c_law_same hr (pa_cons (pv 2) (pa_cons (pv 3) pa_nil)) (Nat.le_refl _)))) pa_nil))))))) pss_nil)
      (pss_cons (ps_if (PW.pt (pw_or (pt_cmpR op_isN (pv 1) pe_non (nomark _)) (pw_or1 (pt_cmpR op_isN (pv 0) pe_non (nomark _))))) (pss_one (ps_ret (pe_and (pe_cmpR op_isN (pv 1) pe_non (nomark _)) (pe_one (pe_cmpR op_isN (pv 0) pe_non (nomark _)))))) pss_nil)
      (pss_cons (ps_if (PW.pt (pw_or (pt_val (pe_callB (id := "isinstance") call_is (by rfl) (T.fr _ (by decide)) (by decide +kernel) (pa_cons (pv 1) (pa_cons (pe_bltn (v := .ty "dict") (by rfl) (T.fr _ (by decide)) (by decide +kernel) rfl) pa_nil)))) (pw_or1 (pt_val (pe_callB (id := "isinstance") call_is (by rfl) (T.fr _ (by decide)) (by decide +kernel) (pa_cons (pv 0) (pa_cons (pe_bltn (v := .ty "dict") (by rfl) (T.fr _ (by decide)) (by decide +kernel) rfl) pa_nil))))))) (pss_one (ps_ret (pe_and (pe_callB (id := "isinstance") call_is (by rfl) (T.fr _ (by decide)) (by decide +kernel) (pa_cons (pv 1) (pa_cons (pe_bltn (v := .ty "dict") (by rfl) (T.fr _ (by decide)) (by decide +kernel) rfl) pa_nil))) (pe_and (pe_callB (id := "isinstance") call_is (by rfl) (T.fr _ (by decide)) (by decide +kernel) (pa_cons (pv 0) (pa_cons (pe_bltn (v := .ty "dict") (by rfl) (T.fr _ (by decide)) (by decide +kernel) rfl) pa_nil))) (pe_one (pe_cmpR op_eq (pv 0) (pv 1) (nomark _))))))) pss_nil)
      (pss_cons (ps_if (PW.pt (pw_or (pt_val (pe_callB (id := "isinstance") call_is (by rfl) (T.fr _ (by decide)) (by decide +kernel) (pa_cons (pv 1) (pa_cons (pe_bltn (v := .ty "bool") (by rfl) (T.fr _ (by decide)) (by decide +kernel) rfl) pa_nil)))) (pw_or1 (pt_val (pe_callB (id := "isinstance") call_is (by rfl) (T.fr _ (by decide)) (by decide +kernel) (pa_cons (pv 0) (pa_cons (pe_bltn (v := .ty "bool") (by rfl) (T.fr _ (by decide)) (by decide +kernel) rfl) pa_nil))))))) (pss_one (ps_ret (pe_and (pe_callB (id := "isinstance") call_is (by rfl) (T.fr _ (by decide)) (by decide +kernel) (pa_cons (pv 1) (pa_cons (pe_bltn (v := .ty "bool") (by rfl) (T.fr _ (by decide)) (by decide +kernel) rfl) pa_nil))) (pe_and (pe_callB (id := "isinstance") call_is (by rfl) (T.fr _ (by decide)) (by decide +kernel) (pa_cons (pv 0) (pa_cons (pe_bltn (v := .ty "bool") (by rfl) (T.fr _ (by decide)) (by decide +kernel) rfl) pa_nil))) (pe_one (pe_cmpR op_eq (pv 0) (pv 1) (nomark _))))))) pss_nil)
      (pss_cons (ps_if (pt_val (pe_callB (id := "isinstance") call_is (by rfl) (T.fr _ (by decide)) (by decide +kernel) (pa_cons (pv 1) (pa_cons (pe_bltn (v := .ty "int") (by rfl) (T.fr _ (by decide)) (by decide +kernel) rfl) pa_nil)))) (pss_one (ps_ret (pe_and (pe_callB (id := "isinstance") call_is (by rfl) (T.fr _ (by decide)) (by decide +kernel) (pa_cons (pv 0) (pa_cons (pe_bltn (v := .ty "int") (by rfl) (T.fr _ (by decide)) (by decide +kernel) rfl) pa_nil))) (pe_one (pe_cmpR op_eq (pv 0) (pv 1) (nomark _)))))) pss_nil)
      (pss_one (ps_ret (pe_and (pe_callB (id := "isinstance") call_is (by rfl) (T.fr _ (by decide)) (by decide +kernel) (pa_cons (pv 1) (pa_cons (pe_bltn (v := .ty "str") (by rfl) (T.fr _ (by decide)) (by decide +kernel) rfl) pa_nil))) (pe_and (pe_callB (id := "isinstance") call_is (by rfl) (T.fr _ (by decide)) (by decide +kernel) (pa_cons (pv 0) (pa_cons (pe_bltn (v := .ty "str") (by rfl) (T.fr _ (by decide)) (by decide +kernel) rfl) pa_nil))) (pe_one (pe_cmpR op_eq (pv 0) (pv 1) (nomark _)))))))))))), ?_⟩
  obtain ⟨x, y, rfl, h, q⟩ := h
  rcases h with ⟨rfl, h⟩ | ⟨a, b, xs, ys, rfl, rfl, h, ln, p⟩
  · rcases h with rfl | ⟨i, rfl⟩ | ⟨z, rfl⟩
    · walk_at "rd"
      refine fun p H1 n1 => ⟨"NoneType", "list", "tuple", n1.at_, .non, ?_⟩
      walk_at "rd"
      exact q _ n1.same
    · walk_at "rd"
      refine fun p H1 n1 => ⟨"int", "list", "tuple", n1.at_, .int i, ?_⟩
      walk_at "rd"
      exact q _ n1.same
    · walk_at "rd"
      refine fun p H1 n1 => ⟨"str", "list", "tuple", n1.at_, .str z, ?_⟩
      walk_at "rd"
      exact q _ n1.same
  · have lp := p.length
    rcases h with ⟨h1, h2⟩ | ⟨h1, h2⟩
    · walk_at "rd"
      refine fun p1 H1 n1 => ⟨"list", "list", "tuple", n1.at_, .lst (n1.same _ _ h2), ?_⟩
      walk_at "rd"
      refine ⟨"list", .lst (n1.same _ _ h1), "list", .lst (n1.same _ _ h2), ?_⟩
      walk_at "rd"
      refine ⟨"list", .lst (n1.same _ _ h1), "list", .lst (n1.same _ _ h2), ?_⟩
      walk_at "rd"
      refine len_of (n1.same _ _ h1) (len_of (n1.same _ _ h2) ?_)
      rw [if_pos (by rw [lp])]
      refine ⟨_, rfl, _, rfl, a, b, xs, ys, rfl, .inl ⟨SqL.of (n1.same _ _ h1), SqL.of (n1.same _ _ h2), fun D hD => lc_it (walk_zip (xs := xs) (ys := ys) (n := xs.length) (by rw [lp]; simp)) (LcInv H1 D fun acc j _ => acc = (List.replicate j true).map V.bl) (lc0 hD (by simp)) (fun _ _ _ ⟨_, _, _, s, _⟩ => ⟨SqL.of (s _ _ (n1.same _ _ h1)), SqL.of (s _ _ (n1.same _ _ h2))⟩) (fun j v H2 H3 hj ⟨acc, ha, hl, s2, e⟩ y => ?_) (fun H2 ⟨acc, ha, hl, s2, e⟩ => ?_)⟩⟩
      · obtain ⟨T4, x, y, rfl, hT, rfl, e1, e2⟩ := y
        obtain ⟨y', e3, hR⟩ := paired_at p e1
        rw [show ys[j]? = _ from e2] at e3
        cases e3
        have s3 : Same H2 (L2.upd H2 T4 (.tup [x, y])) := same_new hT
        walk_at "rd"
        refine ⟨_, SqT.of upd_same, rfl, _, _, rfl, _, _, rfl, rfl, x, y, rfl, mono (n1.same.trans (s2.trans s3)) hR, fun H4 s4 => lcKeep hD (s4 _ _ (s3 _ _ ha)) hl hj (by omega) (s2.trans (s3.trans s4)) ?_⟩
        show acc ++ _ = _
        rw [e, List.replicate_succ', List.map_append]; rfl
      · refine ⟨D, List.replicate xs.length true, rfl, SqL.of (by rw [ha, e]), ?_⟩
        rw [show (List.replicate xs.length true).all id = true from by simp]
        exact q _ (n1.same.trans s2)
    · walk_at "rd"
      refine fun p1 H1 n1 => ⟨"tuple", "list", "tuple", n1.at_, .tup (n1.same _ _ h2), ?_⟩
      walk_at "rd"
      refine ⟨"tuple", .tup (n1.same _ _ h1), "tuple", .tup (n1.same _ _ h2), ?_⟩
      walk_at "rd"
      refine ⟨"tuple", .tup (n1.same _ _ h1), "tuple", .tup (n1.same _ _ h2), ?_⟩
      walk_at "rd"
      refine len_ofT (n1.same _ _ h1) (len_ofT (n1.same _ _ h2) ?_)
      rw [if_pos (by rw [lp])]
      refine ⟨_, rfl, _, rfl, a, b, xs, ys, rfl, .inr ⟨SqT.of (n1.same _ _ h1), SqT.of (n1.same _ _ h2), fun D hD => lc_it (walk_zipT (xs := xs) (ys := ys) (n := xs.length) (by rw [lp]; simp)) (LcInv H1 D fun acc j _ => acc = (List.replicate j true).map V.bl) (lc0 hD (by simp)) (fun _ _ _ ⟨_, _, _, s, _⟩ => ⟨SqT.of (s _ _ (n1.same _ _ h1)), SqT.of (s _ _ (n1.same _ _ h2))⟩) (fun j v H2 H3 hj ⟨acc, ha, hl, s2, e⟩ y => ?_) (fun H2 ⟨acc, ha, hl, s2, e⟩ => ?_)⟩⟩
      · obtain ⟨T4, x, y, rfl, hT, rfl, e1, e2⟩ := y
        obtain ⟨y', e3, hR⟩ := paired_at p e1
        rw [show ys[j]? = _ from e2] at e3
        cases e3
        have s3 : Same H2 (L2.upd H2 T4 (.tup [x, y])) := same_new hT
        walk_at "rd"
        refine ⟨_, SqT.of upd_same, rfl, _, _, rfl, _, _, rfl, rfl, x, y, rfl, mono (n1.same.trans (s2.trans s3)) hR, fun H4 s4 => lcKeep hD (s4 _ _ (s3 _ _ ha)) hl hj (by omega) (s2.trans (s3.trans s4)) ?_⟩
        show acc ++ _ = _
        rw [e, List.replicate_succ', List.map_append]; rfl
      · refine ⟨D, List.replicate xs.length true, rfl, SqL.of (by rw [ha, e]), ?_⟩
        rw [show (List.replicate xs.length true).all id = true from by simp]
        exact q _ (n1.same.trans s2)
theorem c_law_same (T : Tx K mg) (D : Df K mg "_law_same" s_law_same) : ∀ n, Cal P w K mg base CX0 n "_law_same" p_law_same (sp_law_same (SmR n))
  | 0 => (cal_none D (fun _ _ _ _ _ _ us hl => match us, hl with | [_, _], _ => rfl)).imp fun _ _ _ _ h => by
    obtain ⟨_, _, _, h, _⟩ := h
    exact h
  | n + 1 => c_law_same_step (fun s h => SmR.same s h) T D (c_law_same T D n)
end
end Dk
-- text T2
set_option maxHeartbeats 1000000
namespace Dk
open PySem PySem.Spec PyProof.Rows L2
local macro_rules | `(tactic| walk_at "rd") => `(tactic| simp only [tRet, tRetN, tSeq, tAsg, tIfS, tB, tVar, tC, tCons, tNil, tCB, tCall, tOp, tUn, rI0, rI, rU, rEq, rNe, gName, tAnd, tOr, tNot, tAndV, tOrV, tNotV, tIf, tTest, tChain, tDrop, tNext, tBreak, tCont, tTup, tLst, tBM, tBM0, tM0, tM1, tSl, tPart, tNoPart, tPar,
  rIs, rIs2, rIxL, rIxT, rIxS, rAppend, rExtend, rPop, rPopAt, gTup, gCons, gNil, gSub, tYes, wipe, tD1, tDcC, rListC, rSortC, rEmp, rJoin, tM1, gFld, tFld, sFld, rMinDef, tCKw, StX.tStar, rLen, tDGet2, tNo, tScN, rSortTx, rSetTx, iKeys, tPar3, sDPut, tFor_eq, iList, iEnum, iStr, iZip, cxK, cxP, cxW, tTup_, tLst_, tDNewK_, tDNewT_, rSlL_, rListOf_, rCatN, rRepN, rListStr, iRng1, rLenT, rInC, rDictC, sizeLine_eq, Nat.reduceLeDiff, Bool.true_or, Bool.false_or, Bool.or_true, Bool.or_false, Bool.true_and, Bool.false_and, Bool.and_true, Bool.and_false, Bool.not_true, Bool.not_false, Bool.not_eq_true', decide_eq_true_eq, decide_eq_false_iff_not, scal, isT_Non_boo, isT_Non_int, isT_Non_str, isT_Non_lis, isT_Non_tup, isT_Non_dic, isT_boo_boo, isT_boo_int, isT_boo_str, isT_boo_lis, isT_boo_tup, isT_boo_dic, isT_int_boo, isT_int_int, isT_int_str, isT_int_lis, isT_int_tup, isT_int_dic, isT_str_boo, isT_str_int, isT_str_str, isT_str_lis, isT_str_tup, isT_str_dic, isT_lis_boo, isT_lis_int, isT_lis_str, isT_lis_lis, isT_lis_tup, isT_lis_dic, isT_tup_boo, isT_tup_int, isT_tup_str, isT_tup_lis, isT_tup_tup, isT_tup_dic, isT_dic_boo, isT_dic_int, isT_dic_str, isT_dic_lis, isT_dic_tup, isT_dic_dic, kit_Non, kit_boo, kit_int, kit_str, kit_lis, kit_tup, kit_dic, sg_inj, vt_non, vt_bl, vt_int, vt_str, len_str, tDGet, tDIn, tDNotIn,
  L2.start, tNever, tXf, List.map_cons, List.map_nil, List.length_cons, List.length_nil, List.cons_append, List.nil_append, List.append_nil, Nat.zero_add, Nat.reduceAdd, Nat.reduceSub, Nat.sub_zero, Nat.sub_self, List.replicate_succ, List.replicate_zero,
  List.getElem?_cons_zero, List.getElem?_cons_succ, List.getElem?_nil, List.set_cons_zero, List.set_cons_succ, List.cons.injEq, Option.some.injEq, V.int.injEq, V.str.injEq, V.bl.injEq, V.ref.injEq, V.ty.injEq, reduceCtorEq,
  and_assoc, and_true, true_and, false_and, and_false, exists_eq_left, exists_eq_left', exists_eq', exists_eq_right, exists_eq_right', exists_and_left, exists_and_right, exists_const, exists_false, exists_eq, if_true, if_false, Bool.false_eq_true, Bool.true_eq, decide_true, decide_false, ite_self])
/-! ## law_fields -/
def FldT (P : Program) (w : World) (K : PySem.W.Frag) (mg : Str → Option Value) (base : Heap) (CI : Addr) (k : Nat) : Prop :=
  ∃ g fd, mg "_law_fields" = some (.ref g) ∧ PySem.W.keepIn K (.ref g) = true ∧ Binds K fd p_law_fields [] ∧
    ∀ (A : Around) (outer : List Env) (s : Shared) (H : Hp) (a : Addr) (oe : Obj) (dd : Addr) (y1 y2 : V) (Q : VK) (E : XK), L2H.RoomH k A → L2H.PinOk outer H s (a, oe) → Env0 P w K mg base A outer s H → Zc (.ref CI) (some dd) oe → (∃ vs, oe.data = .fields vs) → XdI H dd y1 y2 →
      (∀ p H', Same H H' → H p = none → H' p = some (.tup [y1, y2]) → Q (.ref p) H') → BindsTo s fd ⟨[.ref a], []⟩ (p_law_fields.zip [.ref a]) → codeAny (model P w) A (.call (.ref g) ⟨[.ref a], []⟩) (CR CX0 outer P w H s Q E) s
section
variable {P : Program} {w : World} {K : PySem.W.Frag} {mg : Str → Option Value} {base : Heap}
theorem c_law_fields {CI : Addr} (XF : XfC K CI) (IX : Ix K CI) (D : Df K mg "_law_fields" s_law_fields) : FldT P w K mg base CI 1 := by
  obtain ⟨g, fd, F, m⟩ := D
  have S := sc_law_fields
  refine ⟨g, fd, m, F.kp, F.bindsN (fun _ _ _ _ _ _ us hl => match us, hl with | [_], _ => rfl), fun A outer s H a oe dd y1 y2 Q E hr hp e0 hz hf hx q hb => ?_⟩
  refine run_pin F S hr hp e0 hb (vs := [.ref a]) (.cons rfl .nil) rfl fun cdv hr' => ?_
  have hin : (a, oe) ∈ (L2H.cxH CX0 P w K mg base N_law_fields "_law_fields" (defScope s_law_fields) g cdv A outer s H E (a, oe)).pn := List.mem_singleton.mpr rfl
  refine ⟨_, pss_cons (ps_if (pt_cmpR (r := rIn K false) op_in_seq (pe_xfp XF IX.nc hin hz hf (pv 0)) (pe_lst_ (pa_cons pe_str (pa_cons pe_str (pa_cons pe_str pa_nil)))) (by rfl)) (pss_one ps_never) pss_nil)
    (pss_cons (ps_if (pt_cmpR (r := rIn K false) op_in_seq (pe_xfp XF IX.nc hin hz hf (pv 0)) (pe_lst_ (pa_cons pe_str (pa_cons pe_str (pa_cons pe_str pa_nil)))) (by rfl)) (pss_one ps_never) pss_nil)
    (pss_cons (ps_if (pt_cmpR (r := rIn K false) op_in_seq (pe_xfp XF IX.nc hin hz hf (pv 0)) (pe_lst_ (pa_cons pe_str (pa_cons pe_str (pa_cons pe_str pa_nil)))) (by rfl)) (pss_one ps_never) pss_nil)
    (pss_cons (ps_if (pt_cmpR op_eq (pe_xfp XF IX.nc hin hz hf (pv 0)) pe_str (nomark _)) (pss_one (ps_ret (pe_tup_ (pa_cons (pe_xfp XF IX.nl hin hz hf (pv 0)) (pa_cons (pe_xfp XF IX.nw hin hz hf (pv 0)) pa_nil))))) pss_nil)
    (pss_cons ps_never (pss_one ps_never))))), ?_⟩
  obtain ⟨fs, hfs, l1, l2, l3⟩ := hx
  walk_at "rd"
  refine ⟨fs, hfs, _, l3, fun p1 H1 n1 => ⟨p1, _, rfl, .inl (SqL.of n1.at_), rfl, rfl, _, rfl, if_no (by decide +kernel) ?_⟩⟩
  refine ⟨fs, n1.same _ _ hfs, _, l3, fun p2 H2 n2 => ⟨p2, _, rfl, .inl (SqL.of n2.at_), rfl, rfl, _, rfl, if_no (by decide +kernel) ?_⟩⟩
  have s2 := n1.same.trans n2.same
  refine ⟨fs, s2 _ _ hfs, _, l3, fun p3 H3 n3 => ⟨p3, _, rfl, .inl (SqL.of n3.at_), rfl, rfl, _, rfl, if_no (by decide +kernel) ?_⟩⟩
  have s3 := s2.trans n3.same
  refine ⟨fs, s3 _ _ hfs, _, l3, rfl, if_yes rfl ⟨fs, s3 _ _ hfs, y1, l1, fs, s3 _ _ hfs, y2, l2, fun p4 H4 n4 => ?_⟩⟩
  exact q p4 H4 (s3.trans n4.same) (none_of s3 n4.fresh) n4.at_
end
/-! ## the call in the suite -/
def tFl (a : Addr) (cls : Value) (d : Option Addr) (CI : Addr) (te : TE) : TE := fun σ H Q => te σ H fun x H1 => x = .ref a ∧ cls = .ref CI ∧ ∃ dd y1 y2, d = some dd ∧ XdI H1 dd y1 y2 ∧ ∀ p H', Same H1 H' → H1 p = none → H' p = some (.tup [y1, y2]) → Q (.ref p) H'
theorem pe_fields {X : Cx} {CI a : Addr} {oe : Obj} {cls : Value} {d : Option Addr} {e : Expr} {te : TE} {p pos : Pos} {k : Nat} (FT : FldT X.prog X.w X.K X.mg X.base CI k) (hr : L2H.RoomH k X.A) (hp : (a, oe) ∈ X.pn) (hz : Zc cls d oe) (hf : ∃ vs, oe.data = .fields vs) (he : PE X e te)
    (hg : Gl X "_law_fields" := by rfl) (hs : starEach [e] X.env = (false, eval e X.env) :: starEach [] X.env := by rfl) (hpl : (backTo pos (starEach [] X.env)).any (·.1) = false := by rfl) :
    PE X (.Call (.Name "_law_fields" p) [e] [] pos) (tFl a cls d CI te) := by
  obtain ⟨g, fd, hm, kp, hb, run⟩ := FT
  constructor
  intro pins s σ H Q I h
  have ha : PA X [e] (tCons te tNil) := pa_cons he pa_nil hs
  have h' : (tCons te tNil) σ H fun vs H1 => ∃ x, vs = [x] ∧ x = .ref a ∧ cls = .ref CI ∧ ∃ dd y1 y2, d = some dd ∧ XdI H1 dd y1 y2 ∧ ∀ p H', Same H1 H' → H1 p = none → H' p = some (.tup [y1, y2]) → Q (.ref p) H' := by
    show te σ H _
    have e0 : (fun x H1 => x = V.ref a ∧ cls = .ref CI ∧ ∃ dd y1 y2, d = some dd ∧ XdI H1 dd y1 y2 ∧ ∀ p H', Same H1 H' → H1 p = none → H' p = some (.tup [y1, y2]) → Q (.ref p) H') = fun x H1 => ∃ x', [x] = [x'] ∧ x' = V.ref a ∧ cls = .ref CI ∧ ∃ dd y1 y2, d = some dd ∧ XdI H1 dd y1 y2 ∧ ∀ p H', Same H1 H' → H1 p = none → H' p = some (.tup [y1, y2]) → Q (.ref p) H' := by
      funext x H1
      exact propext ⟨fun z => ⟨x, rfl, z⟩, fun ⟨x', z1, z2⟩ => by cases z1; exact z2⟩
    show te σ H fun x H1 => ∃ x', [x] = [x'] ∧ _
    rw [← e0]
    exact h
  refine wpAny_Call_Name_kw (ld_glob I hg hm ?_ (by decide))
  refine PySem.W.callWith_K (h₀ := X.base) I.ok.mod.kin kp (thn (ha.run pos pins s σ H _ I h') fun us s1 ⟨vs, H1, I1, r, z⟩ => ⟨I1.kIn, ?_⟩) hs hpl
  obtain ⟨x, rfl, rfl, rfl, dd, y1, y2, rfl, hx, q⟩ := z
  obtain rfl := Vals.ref1 r
  have pin := I1.pin (a, oe) (List.mem_append_left _ hp)
  have ok : L2H.PinOk X.stack H1 s1 (a, oe) := ⟨pin.1, pin.2.1, fun z => (List.mem_cons.mp (I1.stkSub a z)).elim pin.2.2.1 pin.2.2.2.1, pin.2.2.2.2⟩
  have bd := hb s1 [.ref a] I1.kIn rfl
  rw [List.append_nil] at bd
  refine wpAny_call (codeAny_mono (run X.A X.stack s1 H1 a oe dd y1 y2 Q E0 hr ok I1.env0 hz hf hx q bd) fun r' s' z => ?_)
  match r', z with
  | .error _, z => exact False.elim z
  | .ok (.ret u), z => exact I1.after z
  | .ok .next, z => exact False.elim z
  | .ok .brk, z => exact False.elim z
  | .ok .cont, z => exact False.elim z
/-! ## a live lambda -/
abbrev TL := XK → Hp → VK → Prop
/-- the lambda at f, made at the state s0 under the frames stk: called in any state that comes of it, it keeps the reading tl -/
def Lv (P : Program) (w : World) (K : PySem.W.Frag) (mg : Str → Option Value) (base : Heap) (k : Nat) (f : Addr) (tl : TL) (s0 : Shared) (H0 : Hp) (stk : List Env) : Prop :=
  ∀ (A : Around) (outer : List Env) (s1 : Shared) (HZ : Hp), Env0 P w K mg base A outer s1 HZ → Un (frs stk) [] H0 HZ s0.heap s1.heap →
    PySem.W.FnAt f s1.heap ∧ ∀ (Q : VK) (E : XK), Room k A → tl E HZ Q → codeAny (model P w) A (.call (.ref f) ⟨[], []⟩) (CR (L2.CX P w) outer P w HZ s1 Q E) s1
theorem un_into {L : Addr} {fs : List Addr} {H H1 H2 : Hp} {h h1 h2 : Heap} (a : Un fs [] H H1 h h1) (b : Un (L :: fs) [] H1 H2 h1 h2) (hL : h.objs.size ≤ L) : Un fs [] H H2 h h2 := by
  have ne : ∀ c o, h.get? c = some o → c ≠ L := fun c o e z => by
    have := Heap.lt_size e
    rw [z] at this
    exact Nat.lt_irrefl _ (Nat.lt_of_lt_of_le this hL)
  refine ⟨fun c o q n hc hx => ?_, fun c o q n hc hx => ?_, fun c o q n hx => ?_, fun c o q hx => ?_, fun c xs q => b.tups c xs (a.tups c xs q), fun c o xs q => b.frzs c o xs (a.frzs c o xs q), fun c ps q => ?_⟩
  · refine b.keep c o (a.keep c o q n hc hx) (a.free c o q n hx) (fun z => ?_) hx
    rcases List.mem_cons.mp z with z | z
    · exact ne c o q z
    · exact hc z
  · obtain ⟨sl, e1⟩ := a.slot c o q n hc hx
    obtain ⟨sl2, e2⟩ := b.slot c _ e1 (a.free c o q n hx) (List.mem_cons_of_mem _ hc) hx
    exact ⟨sl2, e2⟩
  · obtain ⟨o', e1⟩ := a.there c o q hx
    exact b.free c o' e1 (a.free c o q n hx) hx
  · obtain ⟨o', e1⟩ := a.there c o q hx
    exact b.there c o' e1 hx
  · obtain ⟨m1, e1⟩ := a.tbls c ps q
    obtain ⟨m2, e2⟩ := b.tbls c _ e1
    exact ⟨m1 ++ m2, by rw [e2, Array.append_assoc]⟩
/-- from a def's entry to a state of its body -/
theorem Lv.into {X : Cx} {k : Nat} {f : Addr} {tl : TL} {pins : List (Addr × Obj)} {σ : L2.St} {H : Hp} {s : Shared} (l : Lv X.prog X.w X.K X.mg X.base k f tl X.s_0 X.H_0 X.outer) (hex : X.ex = []) (I : Inv X pins σ H s) : Lv X.prog X.w X.K X.mg X.base k f tl s H X.stack := by
  intro A outer s1 HZ e0 un
  refine l A outer s1 HZ e0 ?_
  have ub : Un (frs X.outer) [] X.H_0 H X.s_0.heap s.heap := by
    have := I.base
    rwa [hex] at this
  rcases I.ok.stk with e | ⟨e, hf⟩
  · rw [e] at un
    exact ub.trans un
  · have ef : frs X.stack = X.env.locals :: frs X.outer := by rw [e, frs, List.filterMap_cons, hf]; rfl
    rw [ef] at un
    exact un_into ub un I.ok.above
section
variable {X : Cx}
def tAsk (i : Nat) (f : Addr) (W : WX) (tl : TL) : TE := fun σ H Q => σ[i]? = some (some (.ref f)) ∧ ∃ (E : XK) (Q' : VK), (∀ cls d H', E cls d H' → W cls d σ H') ∧ (∀ v H', Q' v H' → Q v H') ∧ tl E H Q'
/-- a(), a the live lambda -/
theorem pe_ask {k i : Nat} {f : Addr} {tl : TL} {W : WX} {a : Str} {p1 p2 : Pos} (l : Lv X.prog X.w X.K X.mg X.base k f tl X.s_0 X.H_0 X.outer) (hex : X.ex = []) (hr : Room k X.A) (tk : Takes X W) (hN : X.N[i]? = some a) (hv : Vis X.env.scope a)
    (hd : (a == ("__debug__" : Str)) = false := by decide) (hcd : (a == ("__classdict__" : Str)) = false := by decide) : PE X (.Call (.Name a p1) [] [] p2) (tAsk i f W tl) := by
  constructor
  intro pins s σ H Q I ⟨hs, E, Q', hE, hQ, ht⟩
  refine wpAny_Call_Name_kw (thn ((pe_var (pos := p1) (i := i) hN hv hd hcd).run pins s σ H (fun v H1 => v = .ref f ∧ H1 = H) I ⟨.ref f, hs, rfl, rfl⟩) fun u s1 ⟨v, H1, I1, r1, ev, eH⟩ => ?_)
  subst ev eH
  obtain rfl : u = Value.ref f := r1
  obtain ⟨fn, run⟩ := l.into hex I1 X.A X.stack s1 _ I1.env0 Un.refl
  refine PySem.W.callWith_F0 fn (wpAny_call (codeAny_mono (run Q' E hr ht) fun r s' z => ?_))
  match r, z with
  | .error e, z => exact tk e s' (XE.of_call I1 hE z)
  | .ok (.ret u), z =>
    obtain ⟨v, H', I', r, q⟩ := I1.after z
    exact ⟨v, H', I', r, hQ _ _ q⟩
  | .ok .next, z => exact False.elim z
  | .ok .brk, z => exact False.elim z
  | .ok .cont, z => exact False.elim z
end
/-- a def that takes a live lambda (level j); TT: what it makes of its reading -/
def GetT (P : Program) (w : World) (K : PySem.W.Frag) (mg : Str → Option Value) (base : Heap) (x : Str) (k j : Nat) (TT : TL → Hp → VK → Prop) : Prop :=
  ∃ g, mg x = some (.ref g) ∧ PySem.W.keepIn K (.ref g) = true ∧ ∀ (A : Around) (outer : List Env) (s : Shared) (H : Hp) (f : Addr) (tl : TL) (Q : VK), Room k A → Env0 P w K mg base A outer s H → Lv P w K mg base j f tl s H outer → TT tl H Q →
    codeAny (model P w) A (.call (.ref g) ⟨[.ref f], []⟩) (CR CX0 outer P w H s Q E0) s
section
variable {X : Cx}
/-- x(a), a the live lambda -/
theorem pe_hand {k j i : Nat} {f : Addr} {tl : TL} {TT : TL → Hp → VK → Prop} {x a : Str} {p q pos : Pos} (G : GetT X.prog X.w X.K X.mg X.base x k j TT) (l : Lv X.prog X.w X.K X.mg X.base j f tl X.s_0 X.H_0 X.outer) (hex : X.ex = []) (hr : Room k X.A) (hg : Gl X x) (hN : X.N[i]? = some a) (hv : Vis X.env.scope a)
    (hdb : (x == ("__debug__" : Str)) = false := by decide) (hd : (a == ("__debug__" : Str)) = false := by decide) (hcd : (a == ("__classdict__" : Str)) = false := by decide)
    (hs : starEach [.Name a q] X.env = (false, eval (.Name a q) X.env) :: starEach [] X.env := by rfl) (hpl : (backTo pos (starEach [] X.env)).any (·.1) = false := by rfl) :
    PE X (.Call (.Name x p) [.Name a q] [] pos) (fun σ H Q => σ[i]? = some (some (.ref f)) ∧ TT tl H Q) := by
  obtain ⟨g, hm, kp, run⟩ := G
  constructor
  intro pins s σ H Q I ⟨hi, ht⟩
  have ha : PA X [.Name a q] (tCons (tVar i) tNil) := pa_cons (pe_var hN hv hd hcd) pa_nil hs
  refine wpAny_Call_Name_kw (ld_glob I hg hm ?_ hdb)
  refine PySem.W.callWith_K (h₀ := X.base) I.ok.mod.kin kp (thn (ha.run pos pins s σ H (fun vs H1 => vs = [.ref f] ∧ H1 = H) I ⟨.ref f, hi, rfl, rfl⟩) fun us s1 ⟨vs, H1, I1, r, ev, eH⟩ => ⟨I1.kIn, ?_⟩) hs hpl
  subst ev eH
  obtain rfl := Vals.ref1 r
  refine wpAny_call (codeAny_mono (run X.A X.stack s1 _ f tl Q hr I1.env0 (l.into hex I1) ht) fun r' s' z => ?_)
  match r', z with
  | .error _, z => exact False.elim z
  | .ok (.ret u), z => exact I1.after z
  | .ok .next, z => exact False.elim z
  | .ok .brk, z => exact False.elim z
  | .ok .cont, z => exact False.elim z
end
/-! ## law_got, law_why -/
def TTgot (CI : Addr) : TL → Hp → VK → Prop := fun tl H Q => ∃ (E : XK) (Q' : VK),
  (∀ cls d H1, E cls d H1 → cls = .ref CI ∧ ∃ dd y1 y2, d = some dd ∧ XdI H1 dd y1 y2 ∧ ∀ p H2, Same H1 H2 → H1 p = none → H2 p = some (.tup [.str "InvalidText", y1, y2]) → Q (.ref p) H2) ∧
  (∀ v H1, Q' v H1 → ∀ p H2, Same H1 H2 → H1 p = none → H2 p = some (.tup [.str "", v]) → Q (.ref p) H2) ∧ tl E H Q'
theorem TTgot.mono {CI : Addr} {tl : TL} {H : Hp} {Q Q' : VK} (h : TTgot CI tl H Q) (m : ∀ v H, Q v H → Q' v H) : TTgot CI tl H Q' := by
  obtain ⟨E, R, h1, h2, h3⟩ := h
  refine ⟨E, R, fun cls d H1 e => ?_, fun v H1 r p H2 a b c => m _ _ (h2 v H1 r p H2 a b c), h3⟩
  obtain ⟨e1, dd, y1, y2, e2, x, q⟩ := h1 cls d H1 e
  exact ⟨e1, dd, y1, y2, e2, x, fun p H2 a b c => m _ _ (q p H2 a b c)⟩
structure ExT (K : PySem.W.Frag) (mg : Str → Option Value) (CI : Addr) : Prop where
  xf : XfC K CI
  ix : Ix K CI
  two : ∃ C1 C2 : Addr, mg "RollError" = some (.ref C1) ∧ mg "Missing" = some (.ref C2) ∧ PySem.W.exmAny K (.ref CI) [.ref C1, .ref C2] = some true
section
variable {P : Program} {w : World} {K : PySem.W.Frag} {mg : Str → Option Value} {base : Heap}
theorem c_law_got {CI : Addr} {j : Nat} (ET : ExT K mg CI) (D : Df K mg "_law_got" s_law_got) (FT : FldT P w K mg base CI 1) : GetT P w K mg base "_law_got" (j + 2) (j + 1) (TTgot CI) := by
  obtain ⟨g, fd, F, m⟩ := D
  have S := sc_law_got
  obtain ⟨C1, C2, m1, m2, hx⟩ := ET.two
  have bn := F.bindsN (ps := p_law_got) (fun _ _ _ _ _ _ us hl => match us, hl with | [_], _ => rfl)
  refine ⟨g, m, F.kp, fun A outer s H f tl Q hr e0 l ht => ?_⟩
  obtain ⟨oc, od, dV, kV, doc, pm, an, cdv, ct, osl, rfl, lk, hcd, _, _⟩ := F.ex
  have bd := bn s [.ref f] (e0.mod.kin.keeps fun b o e => (e0.bs b o e).1) rfl
  rw [List.append_nil] at bd
  refine LamX.run_ofS (N := N_law_got) (ps := p_law_got) (us := [.ref f]) (vs := [.ref f]) lk hcd S hr e0 bd (.cons rfl .nil) rfl fun hr' => ?_
  refine ⟨_, pss_one (ps_try2 (C1 := C1) (C2 := C2) (i := 1) (tb := fun W => tRet (tTup_ (tCons (tC (.str "")) (tCons (tAsk 0 f W tl) tNil)))) (ts := fun a cls d => tRet (tOp (rCatT K) (tTup_ (tCons (tXf a cls d CI "code" (tVar 1)) tNil)) (tFl a cls d CI (tVar 1))))
    rfl rfl S.nd rfl rfl rfl m1 rfl m2 (by decide) (by decide) (fun W pn xe tk => ?_) (fun a oe cls d pn hz hf => ?_)), ?_⟩
  · exact pss_one (ps_ret (pe_tup_ (pa_cons pe_str (pa_cons (pe_ask l rfl hr' tk rfl (by first | exact Or.inl rfl | exact Or.inr (Or.inl rfl))) pa_nil))))
  · have hH : L2H.RoomH (j + 1) ((A.deeper (envOfC "_law_got" (defScope s_law_got) s.heap.objs.size g cdv)).mark (some (.ref a))) := ⟨hr'.dp, hr'.un⟩
    exact pss_one (ps_ret (pe_op (r := rCatT K) op_catT (pe_tup_ (pa_cons (pe_xfp ET.xf ET.ix.nc List.mem_cons_self hz hf (pv 1)) pa_nil)) (pe_fields FT (hH.mono (Nat.le_add_left 1 j)) List.mem_cons_self hz hf (pv 1))))
  · obtain ⟨E, R, h1, h2, ht⟩ := ht
    refine ⟨rfl, E, R, ?_, ?_, ht⟩
    · intro cls d H1 e
      obtain ⟨rfl, dd, y1, y2, rfl, hxd, q⟩ := h1 cls d H1 e
      refine ⟨hx, fun a ha => ?_⟩
      obtain ⟨fs, e0, l1, l2, l3⟩ := id hxd
      refine ⟨_, rfl, rfl, rfl, dd, fs, _, rfl, e0, l3, by simp [sizeLine_eq], fun p H2 n2 => ⟨_, rfl, rfl, rfl, dd, y1, y2, rfl, ?_, fun p3 H3 s3 f3 e3 => ?_⟩⟩
      · exact ⟨fs, n2.same _ _ e0, l1, l2, l3⟩
      · have e4 : H3 p = some (.tup [.str "InvalidText"]) := s3 _ _ n2.at_
        refine ⟨p, p3, _, _, rfl, rfl, SqT.of e4, SqT.of e3, by simp, by simp [sizeLine_eq], fun z => by simp at z, fun _ p5 hp5 => ?_⟩
        have n5 := new_of (o := .tup ([V.str "InvalidText"] ++ [y1, y2])) hp5
        exact q p5 _ (n2.same.trans (s3.trans n5.same)) (none_of (n2.same.trans s3) n5.fresh) n5.at_
    · intro v H1 r
      exact ⟨by simp [sizeLine_eq], fun p H2 n2 => h2 v H1 r p H2 n2.same n2.fresh n2.at_⟩
def TTwhy (CI : Addr) : TL → Hp → VK → Prop := fun tl H Q => TTgot CI tl H fun v H1 => ∃ p z rest, v = .ref p ∧ H1 p = some (.tup (.str z :: rest)) ∧
  (z = Str.ofString "" → ∀ p2 H2, Same H1 H2 → H1 p2 = none → H2 p2 = some (.tup [.str "", .non]) → Q (.ref p2) H2) ∧ (z ≠ Str.ofString "" → Q v H1)
theorem c_law_why {CI : Addr} {j k : Nat} (D : Df K mg "_law_why" s_law_why) (G : GetT P w K mg base "_law_got" k j (TTgot CI)) : GetT P w K mg base "_law_why" (k + 1) j (TTwhy CI) := by
  obtain ⟨g, fd, F, m⟩ := D
  have S := sc_law_why
  have bn := F.bindsN (ps := p_law_why) (fun _ _ _ _ _ _ us hl => match us, hl with | [_], _ => rfl)
  refine ⟨g, m, F.kp, fun A outer s H f tl Q hr e0 l ht => ?_⟩
  obtain ⟨oc, od, dV, kV, doc, pm, an, cdv, ct, osl, rfl, lk, hcd, _, _⟩ := F.ex
  have bd := bn s [.ref f] (e0.mod.kin.keeps fun b o e => (e0.bs b o e).1) rfl
  rw [List.append_nil] at bd
  refine LamX.run_ofS (N := N_law_why) (ps := p_law_why) (us := [.ref f]) (vs := [.ref f]) lk hcd S hr e0 bd (.cons rfl .nil) rfl fun hr' => ?_
  refine ⟨_, pss_cons (ps_set (i := 1) S.nd rfl (by first | exact Or.inl rfl | exact Or.inr rfl) (pe_hand (i := 0) G l rfl hr' rfl rfl (by first | exact Or.inl rfl | exact Or.inr (Or.inl rfl))))
      (pss_one (ps_ret (pe_ifExp (pt_cmpR op_eq (pe_ix (r := rIxT K) ix_tup (pv 1) pe_int (fun _ _ => rfl)) pe_str (nomark _)) (pe_tup_ (pa_cons pe_str (pa_cons pe_non pa_nil))) (pv 1)))), ?_⟩
  refine ⟨rfl, TTgot.mono ht ?_⟩
  rintro v H1 ⟨p, z, rest, rfl, e1, q1, q2⟩
  walk_at "rd"
  refine ⟨_, SqT.of e1, _, atI_zero rfl, ?_⟩
  exact ⟨rfl, ite2 (fun a p2 H2 n2 => q1 (V.str.inj a) p2 H2 n2.same n2.fresh n2.at_) fun a => q2 fun e => a (by rw [e])⟩
end
end Dk
-- text V
set_option maxHeartbeats 1000000
namespace Dk
open PySem
/-! ## the written texts -/
def splitC (s : Nat) (x : Str) : List Str := (cut1 s [] (tl x)).map fun l => (⟨l.toArray⟩ : Str)
theorem split_eq (x : Str) {s : Nat} (hs : s < 256) : Txt.split x (sg s) = splitC s x := by
  unfold splitC
  rw [← split_cut1 x hs, List.map_map]
  conv => lhs; rw [← List.map_id (Txt.split x (sg s))]
  exact List.map_congr_left fun z _ => str_ext (by simp)
def linesC (t : Str) : List (List Str) := ((splitC 10 t).dropLast).map (splitC 32)
def lastC (t : Str) : Str := (splitC 10 t).getLastD Str.empty
theorem readS_eq {t : Str} (h : t ≠ Str.empty) : readS t = readW (linesC t) (lastC t) := by
  unfold readS lastC
  rw [if_neg h, split_eq t (by decide)]
  unfold linesC
  congr 1
  exact List.map_congr_left fun z _ => split_eq z (by decide)
theorem lost_one {c : Cell} {cs : List Cell} (h : ∀ y ∈ nb c, y ∉ c :: cs) : lostOf (c :: cs) = ((c :: cs).filter fun x => decide (x ≠ c)).map (·.1) := by
  unfold lostOf
  congr 1
  refine List.filter_congr fun x hx => ?_
  refine decide_eq_decide.mpr (not_congr ?_)
  rw [mem_comp]
  constructor
  · intro q
    refine q.2.inside (S := fun z => z = c) rfl fun y e z hz hp => ?_
    rw [e] at hz
    exact absurd hp (h z hz)
  · intro e
    rw [e]
    exact ⟨List.mem_cons_self, .refl⟩
theorem lost_nil {c : Cell} {cs : List Cell} (h : ∀ x ∈ c :: cs, Conn (c :: cs) c x) : lostOf (c :: cs) = [] := by
  unfold lostOf
  rw [List.map_eq_nil_iff, List.filter_eq_nil_iff]
  intro x hx
  have : x ∈ comp (c :: cs) ((c :: cs).headD (0, 0)) := mem_comp.mpr ⟨hx, h x hx⟩
  simpa using this
theorem bad_scan {t : Str} {n : Nat} {why : Str} (h : t ≠ Str.empty) (e : (scan (linesC t) []).1 = some (n, why)) : readS t = .bad n why := by
  rw [readS_eq h]; exact readW_bad e
theorem bad_form {t : Str} {R : List (List Str)} (h : t ≠ Str.empty) (e : scan (linesC t) [] = (none, R)) (l : lastC t ≠ Str.empty) : readS t = .bad R.length "form" := by
  rw [readS_eq h]; exact readW_form e l
theorem bad_inner {t : Str} {R : List (List Str)} {c : Cell} {cs : List Cell} (h : t ≠ Str.empty) (e : scan (linesC t) [] = (none, R)) (l : lastC t = Str.empty) (i : innerOf (linesC t) R = c :: cs) : readS t = .bad c.1 "inner" := by
  rw [readS_eq h]; exact readW_inner e l i
theorem bad_apart {t : Str} {R : List (List Str)} {n : Int} {ls : List Int} (h : t ≠ Str.empty) (e : scan (linesC t) [] = (none, R)) (l : lastC t = Str.empty) (i : innerOf (linesC t) R = []) (a : lostL R = ls) (ne : ls ≠ []) (m : minI ls = n) : readS t = .bad n "apart" := by
  rw [readS_eq h, readW_apart e l i (by rw [a]; exact ne), a, m]
theorem w0 : readS (Str.ofString "a") = .bad 0 (Str.ofString "form") := bad_form (R := []) (by decide +kernel) (by decide +kernel) (by decide +kernel)
theorem w1 : readS (Str.ofString "a\nb") = .bad 1 (Str.ofString "form") := bad_form (R := [["a"]]) (by decide +kernel) (by decide +kernel) (by decide +kernel)
theorem w2 : readS (Str.ofString "a b\na\n") = .bad 1 (Str.ofString "width") := bad_scan (n := 1) (by decide +kernel) (by decide +kernel)
theorem w3 : readS (Str.ofString "a  b\n") = .bad 0 (Str.ofString "form") := bad_scan (n := 0) (by decide +kernel) (by decide +kernel)
theorem w4 : readS (Str.ofString " a\n") = .bad 0 (Str.ofString "form") := bad_scan (n := 0) (by decide +kernel) (by decide +kernel)
theorem w5 : readS (Str.ofString "a \n") = .bad 0 (Str.ofString "form") := bad_scan (n := 0) (by decide +kernel) (by decide +kernel)
theorem w6 : readS (Str.ofString "\n") = .bad 0 (Str.ofString "form") := bad_scan (n := 0) (by decide +kernel) (by decide +kernel)
theorem w7 : readS (Str.ofString "a\n\n") = .bad 1 (Str.ofString "form") := bad_scan (n := 1) (by decide +kernel) (by decide +kernel)
theorem w8 : ∃ R cs, readS (Str.ofString "a*\na*\na*\n") = .ok R cs := by
  refine ⟨[["a"], ["a"], ["a"]], roadOf (linesC (Str.ofString "a*\na*\na*\n")), ?_⟩
  rw [readS_eq (by decide +kernel)]
  refine readW_ok (by decide +kernel) (by decide +kernel) (by decide +kernel) ?_
  unfold lostL
  rw [show sset ([["a"], ["a"], ["a"]] : List (List Str)).flatten = (["a"] : List Str) from by decide +kernel, List.flatMap_cons, List.flatMap_nil, List.append_nil, show cellsOf [["a"], ["a"], ["a"]] "a" = [(0, 0), (1, 0), (2, 0)] from by decide +kernel]
  have c1 : Conn [(0, 0), (1, 0), (2, 0)] (0, 0) (1, 0) := Conn.refl.step (by decide +kernel) (by decide +kernel)
  refine lost_nil fun x hx => ?_
  simp only [List.mem_cons, List.not_mem_nil, or_false] at hx
  rcases hx with rfl | rfl | rfl
  · exact .refl
  · exact c1
  · exact c1.step (by decide +kernel) (by decide +kernel)
theorem w9 : readS (Str.ofString "a a a\na b* a\na a a\n") = .bad 1 (Str.ofString "inner") := bad_inner (R := [["a", "a", "a"], ["a", "b", "a"], ["a", "a", "a"]]) (c := (1, 1)) (cs := []) (by decide +kernel) (by decide +kernel) (by decide +kernel) (by decide +kernel)
theorem w10 : readS (Str.ofString "a b a\n") = .bad 0 (Str.ofString "apart") := by
  refine bad_apart (R := [["a", "b", "a"]]) (ls := [0]) (by decide +kernel) (by decide +kernel) (by decide +kernel) (by decide +kernel) ?_ (by decide) (by decide)
  unfold lostL
  rw [show sset ([["a", "b", "a"]] : List (List Str)).flatten = (["a", "b"] : List Str) from by decide +kernel, List.flatMap_cons, List.flatMap_cons, List.flatMap_nil, show cellsOf [["a", "b", "a"]] "a" = [(0, 0), (0, 2)] from by decide +kernel, show cellsOf [["a", "b", "a"]] "b" = [(0, 1)] from by decide +kernel, lost_one (by decide +kernel), lost_one (by decide +kernel)]
  decide +kernel
theorem w11 : readS (Str.ofString "a b\nb a\n") = .bad 1 (Str.ofString "apart") := by
  refine bad_apart (R := [["a", "b"], ["b", "a"]]) (ls := [1, 1]) (by decide +kernel) (by decide +kernel) (by decide +kernel) (by decide +kernel) ?_ (by decide) (by decide)
  unfold lostL
  rw [show sset ([["a", "b"], ["b", "a"]] : List (List Str)).flatten = (["a", "b"] : List Str) from by decide +kernel, List.flatMap_cons, List.flatMap_cons, List.flatMap_nil, show cellsOf [["a", "b"], ["b", "a"]] "a" = [(0, 0), (1, 1)] from by decide +kernel, show cellsOf [["a", "b"], ["b", "a"]] "b" = [(0, 1), (1, 0)] from by decide +kernel, lost_one (by decide +kernel), lost_one (by decide +kernel)]
  decide +kernel
theorem w12 : readS (Str.ofString "a b\nb a\nc d* e\n") = .bad 2 (Str.ofString "width") := bad_scan (n := 2) (by decide +kernel) (by decide +kernel)
theorem w13 : readS (Str.ofString "a b a\nc c* c\nd d d\n") = .bad 1 (Str.ofString "inner") := bad_inner (R := [["a", "b", "a"], ["c", "c", "c"], ["d", "d", "d"]]) (c := (1, 1)) (cs := []) (by decide +kernel) (by decide +kernel) (by decide +kernel) (by decide +kernel)
end Dk
-- text T3
set_option maxHeartbeats 1000000
namespace Dk
open PySem PySem.Spec PyProof.Rows L2
/-! ## a lambda handed to such a def -/
def tGL (T : List (Addr × Str)) (q : Str) (TT : TL → Hp → VK → Prop) (t : XK → TE) : TE := fun σ H Q =>
  LamX.Tabs T H ∧ ∀ (H1 : Hp) (c' : Addr), LamX.ExtN H H1 → LamX.Tabs T H1 → H1 c' = some (LamX.CodeO c' q) → TT (fun E H' Q' => H' c' = some (LamX.CodeO c' q) ∧ t E σ H' Q') H1 Q
theorem pe_getlam {X : Cx} {T : List (Addr × Str)} {TT : TL → Hp → VK → Prop} {x : Str} {c P : Addr} {k j : Nat} {params : Arguments} {body : Expr} {scope : Scope} {t : XK → TE} {p lpos pos : Pos} (G : GetT X.prog X.w X.K X.mg X.base x k (j + 1) TT) (hr : Room k X.A) (hg : Gl X x)
    (TB : LamX.TabB X.base X.mg c P) (hcode : X.env.code = .ref c) (hmT : (P, X.env.qual ++ "<lambda>") ∈ T) (hu : ∀ p ∈ T, p.1 = P → p.2 = X.env.qual ++ "<lambda>") (L : LamX.LamS X.env.scope scope) (hdef : defaultsOf params X.env = ([], []))
    (hbind : ∀ (q : Str) (cl : List (Str × Addr)) (pm cv ctv : Value), bindArgs (PySem.W.kla_fn "<lambda>" q params body scope cl pm cv ctv) ⟨[], []⟩ = pure [])
    (hbody : ∀ (A : Around) (outer : List Env) (s : Shared) (H : Hp) (E : XK) (f c' : Addr), Room j (A.deeper (LamX.lamEnv X scope s.heap.objs.size f c')) → PE (LamX.lamCx X A outer s H E scope f c') body (t E))
    (hdb : (x == ("__debug__" : Str)) = false := by decide) : PE X (.Call (.Name x p) [.Lambda params body scope lpos] [] pos) (tGL T (X.env.qual ++ "<lambda>") TT t) := by
  obtain ⟨g, hm, kp, run⟩ := G
  constructor
  intro pins s σ H Q I ⟨hT, h⟩
  refine wpAny_Call_Name_kw (ld_glob I hg hm ?_ hdb)
  refine PySem.W.callWith_K (h₀ := X.base) I.ok.mod.kin kp ?_ (by rfl) (by rfl)
  show wpAny _ _ (spliced ((false, eval (.Lambda params body scope lpos) X.env) :: backTo pos (starEach [] X.env))) _ _ s
  refine Calls.spliced_cons (LamX.lam_make2 I TB hcode hmT hu hT hdef (L.has I.ok) fun f c' pm ctv H1 s1 I1 eN T1 hf hfn hfr hco => ?_)
  refine Calls.spliced_nil ⟨I1.kIn, ?_⟩
  have lv : Lv X.prog X.w X.K X.mg X.base (j + 1) f (fun E H' Q' => H' c' = some (LamX.CodeO c' (X.env.qual ++ "<lambda>")) ∧ t E σ H' Q') s1 H1 X.stack := by
    intro A outer s2 HZ e0 un
    have of2 := un.keep f _ hf hfn hfr (by simp)
    refine ⟨⟨_, _, _, _, of2⟩, fun Q' E hr2 ⟨hc, ht⟩ => ?_⟩
    obtain ⟨⟨oc, vs, t0, hoc, hdc, hvc⟩, _, _⟩ := e0.hok c' _ hc
    refine PySem.W.kla_callFunE hr2.depth of2 rfl L.co L.gen rfl ⟨c', oc, vs, t0, rfl, hoc, hdc, hvc⟩ ?_
    rw [hbind]
    have nl : s2.heap.NoLimit := e0.mod.nolimit.keeps fun b o e => (e0.bs b o e).1
    refine wpAny_pure (wpAny_newFunctionEnv (fun y hy => (L.own y hy).2) (fun y hy => absurd hy (by simp)) (fun h3 hns hsb => ⟨nl.fresh _ hsb, ?_⟩) L.kind)
    show codeAny _ _ (.expr body (LamX.lamEnv X scope s2.heap.objs.size f c')) _ _
    have keep : ∀ b o, s2.heap.get? b = some o → h3.get? b = some o := fun b o e => hsb.extBut b o (Nat.ne_of_lt (Heap.lt_size e)) (Heap.get?_push_of_some _ e)
    have J : Inv (LamX.lamCx X A outer s2 HZ E scope f c') [] σ HZ { s2 with heap := h3, toks := s2.toks + ([] : List (Str × Value)).length } := LamX.lam_start2 I1 L e0 hr2.hd un hns keep
    refine PySem.W.kla_codeExpr (wpAny_mono ((hbody A outer s2 HZ E f c' (hr2.deeper _)).run [] _ _ HZ Q' J ht) (fun v s' hq => ?_) fun e s' hq => hq)
    obtain ⟨w', H', J', rv, q⟩ := hq
    exact ⟨w', H', J'.os, J'.bare, J'.base, J'.hok, rv, q⟩
  refine wpAny_call (codeAny_mono (run X.A X.stack s1 H1 f _ Q hr I1.env0 lv (h H1 c' eN T1 hco)) fun r' s' z => ?_)
  match r', z with
  | .error _, z => exact False.elim z
  | .ok (.ret u), z => exact I1.after z
  | .ok .next, z => exact False.elim z
  | .ok .brk, z => exact False.elim z
  | .ok .cont, z => exact False.elim z
/-! ## tables, bags -/
theorem tabs_keep {T : List (Addr × Str)} {b : Addr} {l : List V} {H H' : Hp} (t : LamX.Tabs T H) (hb : H b = some (.lst l)) (k : Keep [b] H H') : LamX.Tabs T H' := fun p hp => by
  obtain ⟨ps, h1, h2, h3⟩ := t p hp
  have ne : ∀ {d : Addr} {o : HO}, H d = some o → (∀ l, o ≠ .lst l) → H' d = some o := fun {d o} e n => k _ _ (by
    simp only [List.mem_singleton]
    exact ne_of e hb fun z => n l z) e
  refine ⟨ps, ne h1 (fun l z => by cases z), h2, fun pos cv hc => ?_⟩
  obtain ⟨c, e1, e2⟩ := h3 pos cv hc
  exact ⟨c, e1, ne e2 fun l z => by unfold LamX.CodeO at z; cases z⟩
theorem BagAt.tabs {T : List (Addr × Str)} {b c : Addr} {H H' : Hp} (h : BagAt H b c) (t : LamX.Tabs T H) (k : Keep [b] H H') : LamX.Tabs T H' := by
  obtain ⟨xs, i, r, s, n, e, _⟩ := h
  exact tabs_keep t e k
theorem tabs_same {T : List (Addr × Str)} {H H' : Hp} (t : LamX.Tabs T H) (s : Same H H') : LamX.Tabs T H' := t.ext fun b o e => s b o e
theorem BagAt.extN {b c : Addr} {H H' : Hp} (h : BagAt H b c) (x : LamX.ExtN H H') : BagAt H' b c := by
  obtain ⟨xs, i, r, s, n, e1, e2, z⟩ := h
  exact ⟨xs, i, r, s, n, x _ _ e1 (fun _ z => by cases z), x _ _ e2 (fun _ z => by cases z), z⟩
theorem extN_lst {a : Addr} {l : List V} {H H' : Hp} (x : LamX.ExtN H H') (h : H a = some (.lst l)) : H' a = some (.lst l) := x _ _ h fun _ z => by cases z
theorem extN_tup {a : Addr} {l : List V} {H H' : Hp} (x : LamX.ExtN H H') (h : H a = some (.tup l)) : H' a = some (.tup l) := x _ _ h fun _ z => by cases z
theorem RowsL.extN {a : Addr} {R : List (List Str)} {H H' : Hp} (x : LamX.ExtN H H') (h : RowsL H a R) : RowsL H' a R := by
  obtain ⟨as, h1, h2⟩ := h
  exact ⟨as, extN_lst x h1, Paired.mapP h2 fun _ _ z => extN_lst x z⟩
theorem CellL.extN {a : Addr} {cs : List Cell} {H H' : Hp} (x : LamX.ExtN H H') (h : CellL H a cs) : CellL H' a cs := by
  obtain ⟨ts, h1, h2⟩ := h
  exact ⟨ts, extN_lst x h1, Paired.mapP h2 fun _ _ z => extN_tup x z⟩
end Dk
-- text W
set_option maxHeartbeats 2000000
namespace Dk
open PySem PySem.Spec PyProof.Rows L2
local macro_rules | `(tactic| walk_at "rd") => `(tactic| simp only [tRet, tRetN, tSeq, tAsg, tIfS, tB, tVar, tC, tCons, tNil, tCB, tCall, tOp, tUn, rI0, rI, rU, rEq, rNe, gName, tAnd, tOr, tNot, tAndV, tOrV, tNotV, tIf, tTest, tChain, tDrop, tNext, tBreak, tCont, tTup, tLst, tBM, tBM0, tM0, tM1, tSl, tPart, tNoPart, tPar,
  rIs, rIs2, rIxL, rIxT, rIxS, rAppend, rExtend, rPop, rPopAt, gTup, gCons, gNil, gSub, tYes, wipe, tD1, tDcC, rListC, rSortC, rEmp, rJoin, tM1, gFld, tFld, sFld, rMinDef, tCKw, StX.tStar, rLen, tDGet2, tNo, tScN, rSortTx, rSetTx, iKeys, tPar3, sDPut, tFor_eq, iList, iEnum, iStr, iZip, cxK, cxP, cxW, tTup_, tLst_, tDNewK_, tDNewT_, rSlL_, rListOf_, rCatN, rRepN, rListStr, iRng1, rLenT, rInC, rDictC, sizeLine_eq, Nat.reduceLeDiff, Bool.true_or, Bool.false_or, Bool.or_true, Bool.or_false, Bool.true_and, Bool.false_and, Bool.and_true, Bool.and_false, Bool.not_true, Bool.not_false, Bool.not_eq_true', decide_eq_true_eq, decide_eq_false_iff_not, scal, isT_Non_boo, isT_Non_int, isT_Non_str, isT_Non_lis, isT_Non_tup, isT_Non_dic, isT_boo_boo, isT_boo_int, isT_boo_str, isT_boo_lis, isT_boo_tup, isT_boo_dic, isT_int_boo, isT_int_int, isT_int_str, isT_int_lis, isT_int_tup, isT_int_dic, isT_str_boo, isT_str_int, isT_str_str, isT_str_lis, isT_str_tup, isT_str_dic, isT_lis_boo, isT_lis_int, isT_lis_str, isT_lis_lis, isT_lis_tup, isT_lis_dic, isT_tup_boo, isT_tup_int, isT_tup_str, isT_tup_lis, isT_tup_tup, isT_tup_dic, isT_dic_boo, isT_dic_int, isT_dic_str, isT_dic_lis, isT_dic_tup, isT_dic_dic, kit_Non, kit_boo, kit_int, kit_str, kit_lis, kit_tup, kit_dic, sg_inj, vt_non, vt_bl, vt_int, vt_str, len_str, tDGet, tDIn, tDNotIn,
  L2.start, tMeth, tNever, List.map_cons, List.map_nil, List.length_cons, List.length_nil, List.cons_append, List.nil_append, List.append_nil, Nat.zero_add, Nat.reduceAdd, Nat.reduceSub, Nat.sub_zero, Nat.sub_self, List.replicate_succ, List.replicate_zero,
  List.getElem?_cons_zero, List.getElem?_cons_succ, List.getElem?_nil, List.set_cons_zero, List.set_cons_succ, List.cons.injEq, Option.some.injEq, V.int.injEq, V.str.injEq, V.bl.injEq, V.ref.injEq, V.ty.injEq, reduceCtorEq,
  and_assoc, and_true, true_and, false_and, and_false, exists_eq_left, exists_eq_left', exists_eq', exists_eq_right, exists_eq_right', exists_and_left, exists_and_right, exists_const, exists_false, exists_eq, if_true, if_false, Bool.false_eq_true, Bool.true_eq, decide_true, decide_false, ite_self])
theorem pe_fnE {X : Cx} {E : XK} {k j : Nat} {x : Str} {ps : List Str} {sp : Sp} {p pos : Pos} {e : Expr} {es : List Expr} {t : TA} (C : Cal X.prog X.w X.K X.mg X.base (L2.CX X.prog X.w) j x ps sp) (hr : Room k X.A) (hx : Passes (L2.CX X.prog X.w) X E) (ha : PA X (e :: es) t) (hj : j ≤ k := by decide) (hg : Gl X x := by rfl) (hdb : (x == ("__debug__" : Str)) = false := by decide)
    (he : starEach (e :: es) X.env = (false, eval e X.env) :: starEach es X.env := by rfl) (hpl : (backTo pos (starEach es X.env)).any (·.1) = false := by rfl) : PE X (.Call (.Name x p) (e :: es) [] pos) (tCall sp [] E t) := by
  obtain ⟨f, fd, a, b, c, d⟩ := C
  exact pe_call d (hr.mono hj) hg a b c .nil hx ha hdb he hpl
abbrev lamQ : Str := (envOfC "law" (defScope s_law) 0 0 .none).qual ++ "<lambda>"
abbrev LT (Pt : Addr) : List (Addr × Str) := [(Pt, lamQ)]
theorem LT_mem {Pt : Addr} : (Pt, lamQ) ∈ LT Pt := List.mem_singleton.mpr rfl
theorem LT_all {Pt : Addr} : ∀ p ∈ LT Pt, p.1 = Pt → p.2 = lamQ := fun p hp _ => by
  rw [List.mem_singleton.mp hp]
theorem sm_str {n : Nat} {H : Hp} {z : Str} : SmR (n + 1) H (.str z) (.str z) := .inl ⟨rfl, .inr (.inr ⟨_, rfl⟩)⟩
theorem sm_int {n : Nat} {H : Hp} {z : Int} : SmR (n + 1) H (.int z) (.int z) := .inl ⟨rfl, .inr (.inl ⟨_, rfl⟩)⟩
theorem sm_strs {H : Hp} {x y : Addr} {r : List Str} (h1 : StrL H x r) (h2 : StrL H y r) (l : r.length ≤ 12) : SmR 2 H (.ref x) (.ref y) := by
  refine .inr ⟨x, y, _, _, rfl, rfl, .inl ⟨h1, h2⟩, by rw [List.length_map]; omega, paired_of_get rfl fun i a b e1 e2 => ?_⟩
  rw [e1] at e2
  cases e2
  obtain ⟨z, _, rfl⟩ := str_list_get e1
  exact sm_str
theorem sm_rows {H : Hp} {a b : Addr} {R : List (List Str)} (h1 : RowsL H a R) (h2 : RowsL H b R) (l : R.length ≤ 12) (w : ∀ r ∈ R, r.length ≤ 12) : SmR 3 H (.ref a) (.ref b) := by
  obtain ⟨as, e1, p1⟩ := h1
  obtain ⟨bs, e2, p2⟩ := h2
  have l1 := p1.length
  have l2 := p2.length
  refine .inr ⟨a, b, _, _, rfl, rfl, .inl ⟨e1, e2⟩, by rw [List.length_map]; omega, paired_of_get (by rw [List.length_map, List.length_map]; omega) fun i x y q1 q2 => ?_⟩
  obtain ⟨u, hu, rfl⟩ := map_ref_get q1
  obtain ⟨v, hv, rfl⟩ := map_ref_get q2
  obtain ⟨r, hr, ur⟩ := paired_at p1 hu
  obtain ⟨r', hr', vr⟩ := paired_at p2 hv
  rw [hr] at hr'
  cases hr'
  exact sm_strs ur vr (w r (List.mem_of_getElem? hr))
theorem sm_cells {H : Hp} {a b : Addr} {cs : List Cell} (h1 : CellL H a cs) (h2 : CellL H b cs) (l : cs.length ≤ 144) : SmR 3 H (.ref a) (.ref b) := by
  obtain ⟨as, e1, p1⟩ := h1
  obtain ⟨bs, e2, p2⟩ := h2
  have l1 := p1.len
  have l2 := p2.len
  refine .inr ⟨a, b, _, _, rfl, rfl, .inl ⟨e1, e2⟩, by rw [List.length_map]; omega, paired_of_get (by rw [List.length_map, List.length_map]; omega) fun i x y q1 q2 => ?_⟩
  obtain ⟨u, hu, rfl⟩ := map_ref_get q1
  obtain ⟨v, hv, rfl⟩ := map_ref_get q2
  obtain ⟨c, hc, uc⟩ := p1.get hu
  obtain ⟨c', hc', vc⟩ := p2.get hv
  rw [hc] at hc'
  cases hc'
  exact .inr ⟨u, v, _, _, rfl, rfl, .inr ⟨uc, vc⟩, by simp, .cons sm_int (.cons sm_int .nil)⟩
/-- a value that is no text, or the empty one -/
def OddOk (H : Hp) (y : V) : Prop := (∃ T, VT H y T ∧ isT T "str" = false) ∨ y = .str Str.empty
theorem OddOk.map {H H' : Hp} {y : V} (h : OddOk H y) (m : ∀ a o, H a = some o → (∀ ps, o ≠ .tbl ps) → H' a = some o) : OddOk H' y := by
  rcases h with ⟨T, v, e⟩ | h
  · refine .inl ⟨T, ?_, e⟩
    cases v with
    | non => exact .non
    | bl b => exact .bl b
    | int i => exact .int i
    | str z => exact .str z
    | lst h => exact .lst (m _ _ h fun _ z => by cases z)
    | tup h => exact .tup (m _ _ h fun _ z => by cases z)
    | dK h => exact .dK (m _ _ h fun _ z => by cases z)
  · exact .inr h
theorem OddOk.same {H H' : Hp} {y : V} (h : OddOk H y) (s : Same H H') : OddOk H' y := h.map fun a o e _ => s a o e
/-- the written texts, what is due -/
def WL : List (Str × V × V) := [((Str.ofString "a"), .int 0, .str (Str.ofString "form")),
  ((Str.ofString "a\nb"), .int 1, .str (Str.ofString "form")),
  ((Str.ofString "a b\na\n"), .int 1, .str (Str.ofString "width")),
  ((Str.ofString "a  b\n"), .int 0, .str (Str.ofString "form")),
  ((Str.ofString " a\n"), .int 0, .str (Str.ofString "form")),
  ((Str.ofString "a \n"), .int 0, .str (Str.ofString "form")),
  ((Str.ofString "\n"), .int 0, .str (Str.ofString "form")),
  ((Str.ofString "a\n\n"), .int 1, .str (Str.ofString "form")),
  ((Str.ofString "a*\na*\na*\n"), .str (Str.ofString ""), .int 0),
  ((Str.ofString "a a a\na b* a\na a a\n"), .int 1, .str (Str.ofString "inner")),
  ((Str.ofString "a b a\n"), .int 0, .str (Str.ofString "apart")),
  ((Str.ofString "a b\nb a\n"), .int 1, .str (Str.ofString "apart")),
  ((Str.ofString "a b\nb a\nc d* e\n"), .int 2, .str (Str.ofString "width")),
  ((Str.ofString "a b a\nc c* c\nd d d\n"), .int 1, .str (Str.ofString "inner"))]
def WSp (x : Str × V × V) : Prop := x.1.length ≤ 3000 ∧ ((∃ n why, x.2.1 = .int n ∧ x.2.2 = .str why ∧ readS x.1 = .bad n why) ∨ (x.2.1 = .str Str.empty ∧ ∃ R cs, readS x.1 = .ok R cs))
theorem wl_ok : ∀ x ∈ WL, WSp x := by
  unfold WL
  intro x hx
  simp only [List.mem_cons, List.not_mem_nil, or_false] at hx
  rcases hx with rfl | rfl | rfl | rfl | rfl | rfl | rfl | rfl | rfl | rfl | rfl | rfl | rfl | rfl
  · exact ⟨by decide +kernel, .inl ⟨_, _, rfl, rfl, w0⟩⟩
  · exact ⟨by decide +kernel, .inl ⟨_, _, rfl, rfl, w1⟩⟩
  · exact ⟨by decide +kernel, .inl ⟨_, _, rfl, rfl, w2⟩⟩
  · exact ⟨by decide +kernel, .inl ⟨_, _, rfl, rfl, w3⟩⟩
  · exact ⟨by decide +kernel, .inl ⟨_, _, rfl, rfl, w4⟩⟩
  · exact ⟨by decide +kernel, .inl ⟨_, _, rfl, rfl, w5⟩⟩
  · exact ⟨by decide +kernel, .inl ⟨_, _, rfl, rfl, w6⟩⟩
  · exact ⟨by decide +kernel, .inl ⟨_, _, rfl, rfl, w7⟩⟩
  · exact ⟨by decide +kernel, .inr ⟨by decide +kernel, w8⟩⟩
  · exact ⟨by decide +kernel, .inl ⟨_, _, rfl, rfl, w9⟩⟩
  · exact ⟨by decide +kernel, .inl ⟨_, _, rfl, rfl, w10⟩⟩
  · exact ⟨by decide +kernel, .inl ⟨_, _, rfl, rfl, w11⟩⟩
  · exact ⟨by decide +kernel, .inl ⟨_, _, rfl, rfl, w12⟩⟩
  · exact ⟨by decide +kernel, .inl ⟨_, _, rfl, rfl, w13⟩⟩
def TupV (H : Hp) (t : Addr) (u : V × V) : Prop := H t = some (.tup [u.1, u.2])
section
variable {P : Program} {w : World} {K : PySem.W.Frag} {mg : Str → Option Value} {base : Heap}
def sp_law (K : PySem.W.Frag) (Pt : Addr) : Sp := fun vs H Q _ => ∃ (l : Addr) (ns : List Int), vs = [.ref l] ∧ SqL K H l (ns.map V.int) ∧ ns.length ≤ 1000 ∧ H Pt = some (.tbl #[]) ∧ ∀ H', Q (.bl true) H'
theorem c_law {CP CI fl c Pt frows froad : Addr} {fdl fdrows fdroad : FuncData} (T : Tx K mg) (F : FunD K "law" "law" (defArgs s_law) (defBody s_law) (defScope s_law) [] [] fl fdl) (hcode : fdl.code = .ref c) (TB : LamX.TabB base mg c Pt) (PX : Px K CP)
    (Mrows : Meth K CP "rows" frows) (Mroad : Meth K CP "road" froad) (Frows : FnOk P w K mg base CX0 1 frows fdrows p_Plat_rows (sp_Plat_rows CP)) (Froad : FnOk P w K mg base CX0 1 froad fdroad p_Plat_road (sp_Plat_road CP)) (Brows : Binds K fdrows p_Plat_rows []) (Broad : Binds K fdroad p_Plat_road [])
    (c_law_bag : Cal P w K mg base CX0 1 "_law_bag" p_law_bag (sp_law_bag K)) (c_law_pick : Cal P w K mg base CX0 2 "_law_pick" p_law_pick sp_law_pick) (c_law_map : Cal P w K mg base CX0 5 "_law_map" p_law_map sp_law_map) (c_law_bent_text : Cal P w K mg base CX0 6 "_law_bent_text" p_law_bent_text sp_law_bent_text)
    (c_law_read_plat : Cal P w K mg base CX0 3 "_law_read_plat" p_law_read_plat sp_law_read_plat) (c_law_same : Cal P w K mg base CX0 4 "_law_same" p_law_same (sp_law_same (SmR 4))) (c_read_plat : Cal P w K mg base (L2.CX P w) 11 "read_plat" p_read_plat (sp_read_plat CP CI))
    (c_law_got : GetT P w K mg base "_law_got" 13 12 (TTgot CI)) (c_law_why : GetT P w K mg base "_law_why" 14 12 (TTwhy CI)) : FnOk P w K mg base CX0 15 fl fdl p_law (sp_law K Pt) := by
  have S := sc_law
  obtain ⟨oc, od, dV, kV, doc, pm, an, cdv, ct, osl, rfl, lk, hcd, _, _⟩ := F.ex
  obtain rfl : cdv = .ref c := hcode
  refine fn_of lk hcd S (fun vs H Q E h => ?_) fun A outer s H vs Q E hr h => ?_
  · obtain ⟨_, _, rfl, _⟩ := h
    rfl
  suffices g : ∃ t, PSs (cxOf CX0 P w K mg base N_law "law" (defScope s_law) fl (.ref c) A outer s H E).nox (defBody s_law) t ∧ t { nx := fun _ H' => Q .non H', rt := Q } (L2.start N_law vs) H from g.elim fun t z => ⟨t, z.1.nox, z.2⟩
  refine ⟨_, (pss_cut (ps_set (i := 1) S.nd rfl (by first | exact Or.inl rfl | exact Or.inr rfl) (pe_fn c_law_bag hr (pa_cons (pv 0) pa_nil)))
      (pss_cut (ps_for PassesOwn.never rfl (pi_range1 (by rfl) (T.fr _ (by decide)) (pa_cons pe_int pa_nil)) (pg_name (i := 2) S.nd rfl (by first | exact Or.inl rfl | exact Or.inr rfl)) (pss_cut (ps_asg (pe_fn c_law_map hr (pa_cons (pv 1) (pa_cons pe_int pa_nil))) (pg_lst (n := 2) rfl (pgs_cons (pg_name (i := 3) S.nd rfl (by first | exact Or.inl rfl | exact Or.inr rfl)) (pgs_cons (pg_name (i := 4) S.nd rfl (by first | exact Or.inl rfl | exact Or.inr rfl)) pgs_nil))))
      (pss_cut (ps_set (i := 5) S.nd rfl (by first | exact Or.inl rfl | exact Or.inr rfl) (pe_fn c_law_bent_text hr (pa_cons (pv 1) (pa_cons (pv 3) (pa_cons (pv 4) pa_nil)))))
      (pss_cut (ps_if (pt_cmpR op_gt (pe_callB (id := "len") (r := rLen K) (call_len_ rfl) (by rfl) (T.fr _ (by decide)) (by decide +kernel) (pa_cons (pv 5) pa_nil)) pe_int (nomark _)) (pss_one ps_continue) pss_nil)
      (pss_cut (ps_par (i := 6) (j := 7) rfl S.nd rfl rfl (by decide) rfl rfl (pa_cons (pe_fn c_law_read_plat hr (pa_cons (pv 5) pa_nil)) (pa_cons (pe_getlam (T := LT Pt) c_law_got (hr.mono (by decide)) rfl TB rfl LT_mem LT_all (LamX.lamS_by (sc := defScope s_law) (by decide +kernel)) rfl (fun _ _ _ _ _ => rfl) (fun A outer s H E f c' hr => pe_fnE c_read_plat hr (passes_call (takes_of rfl rfl rfl rfl) (fun _ _ _ _ h => h)) (pa_cons (pv 5) pa_nil))) pa_nil)) (by rfl))
      (pss_one (ps_if (pt_cmpR op_ne (pe_ix (r := rIxT K) ix_tup (pv 6) pe_int (fun _ _ => rfl)) pe_str (nomark _)) (pss_one (ps_if (pt_not (pt_val (pe_fn c_law_same hr (pa_cons (pv 7) (pa_cons (pe_op (r := rCatT K) op_catT (pe_tup_ (pa_cons pe_str pa_nil)) (pv 6)) pa_nil))))) (pss_one ps_never) pss_nil)) (pss_one (ps_if (PW.pt (pw_or (pt_cmpR op_ne (pe_ix (r := rIxT K) ix_tup (pv 7) pe_int (fun _ _ => rfl)) pe_str (nomark _)) (pw_or1 (pt_not (pt_val (pe_fn c_law_same hr (pa_cons (pe_lst_ (pa_cons (pe_meth0 (pe_ix (r := rIxT K) ix_tup (pv 7) pe_int (fun _ _ => rfl)) PX.cls Mrows Frows (hr.mono (by decide)) Brows .nil pass0) (pa_cons (pe_meth0 (pe_ix (r := rIxT K) ix_tup (pv 7) pe_int (fun _ _ => rfl)) PX.cls Mroad Froad (hr.mono (by decide)) Broad .nil pass0) pa_nil))) (pa_cons (pe_callTy (T := "list") (r := rListOf_ K) call_listOf_ (by rfl) (T.fr _ (by decide)) (by decide +kernel) (pa_cons (pe_slice (r := rSlT K) sl_tup (pv 6) (po_some pe_int) po_none) pa_nil)) pa_nil)))))))) (pss_one ps_never) pss_nil)))))))))
      (pss_cut (ps_set (i := 8) S.nd rfl (by first | exact Or.inl rfl | exact Or.inr rfl) (pe_fn c_law_pick hr (pa_cons (pv 1) (pa_cons (pe_lst_ (pa_cons pe_non (pa_cons pe_int (pa_cons pe_bl (pa_cons (pe_tup_ (pa_cons pe_str pa_nil)) (pa_cons (pe_lst_ (pa_cons pe_str pa_nil)) (pa_cons pe_dnewK_ (pa_cons pe_str pa_nil)))))))) pa_nil))))
      (pss_cut (ps_set (i := 9) S.nd rfl (by first | exact Or.inl rfl | exact Or.inr rfl) (pe_lst_ (pa_cons pe_str (pa_cons pe_str (pa_cons pe_str (pa_cons pe_str (pa_cons pe_str (pa_cons pe_str (pa_cons pe_str (pa_cons pe_str (pa_cons pe_str (pa_cons pe_str (pa_cons pe_str (pa_cons pe_str (pa_cons pe_str (pa_cons pe_str pa_nil))))))))))))))))
      (pss_cut (ps_set (i := 6) S.nd rfl (by first | exact Or.inl rfl | exact Or.inr rfl) (pe_lst_ (pa_cons (pe_tup_ (pa_cons pe_int (pa_cons pe_str pa_nil))) (pa_cons (pe_tup_ (pa_cons pe_int (pa_cons pe_str pa_nil))) (pa_cons (pe_tup_ (pa_cons pe_int (pa_cons pe_str pa_nil))) (pa_cons (pe_tup_ (pa_cons pe_int (pa_cons pe_str pa_nil))) (pa_cons (pe_tup_ (pa_cons pe_int (pa_cons pe_str pa_nil))) (pa_cons (pe_tup_ (pa_cons pe_int (pa_cons pe_str pa_nil))) (pa_cons (pe_tup_ (pa_cons pe_int (pa_cons pe_str pa_nil))) (pa_cons (pe_tup_ (pa_cons pe_int (pa_cons pe_str pa_nil))) (pa_cons (pe_tup_ (pa_cons pe_str (pa_cons pe_int pa_nil))) (pa_cons (pe_tup_ (pa_cons pe_int (pa_cons pe_str pa_nil))) (pa_cons (pe_tup_ (pa_cons pe_int (pa_cons pe_str pa_nil))) (pa_cons (pe_tup_ (pa_cons pe_int (pa_cons pe_str pa_nil))) (pa_cons (pe_tup_ (pa_cons pe_int (pa_cons pe_str pa_nil))) (pa_cons (pe_tup_ (pa_cons pe_int (pa_cons pe_str pa_nil))) pa_nil))))))))))))))))
      (pss_cut (ps_for PassesOwn.never rfl (pi_zip (by rfl) (T.fr _ (by decide)) (pa_cons (pv 9) (pa_cons (pv 6) pa_nil))) (pg_tup (n := 2) rfl (pgs_cons (pg_name (i := 5) S.nd rfl (by first | exact Or.inl rfl | exact Or.inr rfl)) (pgs_cons (pg_name (i := 10) S.nd rfl (by first | exact Or.inl rfl | exact Or.inr rfl)) pgs_nil))) (pss_cut (ps_set (i := 7) S.nd rfl (by first | exact Or.inl rfl | exact Or.inr rfl) (pe_getlam (T := LT Pt) c_law_why (hr.mono (by decide)) rfl TB rfl LT_mem LT_all (LamX.lamS_by (sc := defScope s_law) (by decide +kernel)) rfl (fun _ _ _ _ _ => rfl) (fun A outer s H E f c' hr => pe_fnE c_read_plat hr (passes_call (takes_of rfl rfl rfl rfl) (fun _ _ _ _ h => h)) (pa_cons (pv 5) pa_nil))))
      (pss_one (ps_if (pt_not (pt_val (pe_fn c_law_same hr (pa_cons (pv 7) (pa_cons (pe_ifExp (pt_cmpR op_eq (pe_ix (r := rIxT K) ix_tup (pv 10) pe_int (fun _ _ => rfl)) pe_str (nomark _)) (pe_tup_ (pa_cons pe_str (pa_cons pe_non pa_nil))) (pe_op (r := rCatT K) op_catT (pe_tup_ (pa_cons pe_str pa_nil)) (pv 10))) pa_nil))))) (pss_one ps_never) pss_nil))))
      (pss_one (ps_ret (pe_fn c_law_same hr (pa_cons (pe_getlam (T := LT Pt) c_law_why (hr.mono (by decide)) rfl TB rfl LT_mem LT_all (LamX.lamS_by (sc := defScope s_law) (by decide +kernel)) rfl (fun _ _ _ _ _ => rfl) (fun A outer s H E f c' hr => pe_fnE c_read_plat hr (passes_call (takes_of rfl rfl rfl rfl) (fun _ _ _ _ h => h)) (pa_cons (pv 8) pa_nil))) (pa_cons (pe_tup_ (pa_cons pe_str (pa_cons pe_int (pa_cons pe_str pa_nil)))) pa_nil))))))))))), ?_⟩
  obtain ⟨l, ns, rfl, hl, ln, hP, q⟩ := h
  have tb0 : LamX.Tabs (LT Pt) H := fun p hp => by
    rw [List.mem_singleton.mp hp]
    exact LamX.TabS.nil hP
  obtain ⟨J, hJ⟩ : ∃ J : L2.St → Hp → Prop, J = fun σ H' => ∃ b cb, σ = [some (.ref l), some (.ref b), none, none, none, none, none, none, none, none, none] ∧ BagAt H' b cb ∧ LamX.Tabs (LT Pt) H' := ⟨_, rfl⟩
  refine ⟨J, ?_, fun σ1 H1 h1 => ?_⟩
  · refine ⟨_, rfl, l, ns, rfl, hl, ln, fun H1 b cb s1 f1 b1 => ?_⟩
    show J _ _
    rw [hJ]
    exact ⟨b, cb, rfl, b1, tabs_same tb0 s1⟩
  rw [hJ] at h1
  clear hJ J
  obtain ⟨b, cb, rfl, b1, t1⟩ := h1
  obtain ⟨J, hJ⟩ : ∃ J : L2.St → Hp → Prop, J = fun σ H' => ∃ x2 x3 x4 x5 x6 x7, σ = [some (.ref l), some (.ref b), x2, x3, x4, x5, x6, x7, none, none, none] ∧ BagAt H' b cb ∧ LamX.Tabs (LT Pt) H' := ⟨_, rfl⟩
  refine ⟨J, ?_, fun σ2 H2 h2 => ?_⟩
  · refine ⟨5, rfl, by decide, by decide, for_it (walk_range (lo := 0) (n := 5)) (fun _ => J) ?_ (fun _ _ _ _ _ => trivial) (fun i v σ H2 H3 hi h y => ?_) fun σ H h => h⟩
    · rw [hJ]
      exact ⟨_, _, _, _, _, _, rfl, b1, t1⟩
    rw [hJ] at h
    obtain ⟨x2, x3, x4, x5, x6, x7, rfl, b2, t2⟩ := h
    obtain ⟨rfl, rfl⟩ := y
    clear b1 t1
    obtain ⟨I, hI⟩ : ∃ I : L2.St → Hp → Prop, I = fun σ H' => ∃ a r R cs, σ = [some (.ref l), some (.ref b), some (.int (0 + (i : Nat))), some (.ref a), some (.ref r), x5, x6, x7, none, none, none] ∧ BagAt H' b cb ∧ LamX.Tabs (LT Pt) H' ∧ RowsL H' a R ∧ CellL H' r cs ∧ MapOk R cs := ⟨_, rfl⟩
    refine ⟨I, ?_, fun σ4 H4 h4 => ?_⟩
    · walk_at "rd"
      refine ⟨b, cb, 4, rfl, by decide, by decide, b2, fun H4 p a r R cs k4 b4 e4 r4 c4 ok => ⟨p, _, rfl, SqL.of e4, rfl, _, _, rfl, _, _, rfl, rfl, ?_⟩⟩
      show I _ _
      rw [hI]
      exact ⟨a, r, R, cs, rfl, b4, b2.tabs t2 k4, r4, c4, ok⟩
    rw [hI] at h4
    clear hI I b2 t2
    obtain ⟨a, r, R, cs, rfl, b4, t4, r4, c4, ok⟩ := h4
    obtain ⟨I, hI⟩ : ∃ I : L2.St → Hp → Prop, I = fun σ H' => ∃ z : Str, σ = [some (.ref l), some (.ref b), some (.int (0 + (i : Nat))), some (.ref a), some (.ref r), some (.str z), x6, x7, none, none, none] ∧ BagAt H' b cb ∧ LamX.Tabs (LT Pt) H' ∧ z.length ≤ 100000 := ⟨_, rfl⟩
    refine ⟨I, ?_, fun σ5 H5 h5 => ?_⟩
    · refine ⟨_, rfl, _, rfl, _, rfl, b, cb, a, r, R, cs, rfl, b4, r4, c4, ok, fun H5 z k5 b5 lz => ?_⟩
      show I _ _
      rw [hI]
      exact ⟨z, rfl, b5, b4.tabs t4 k5, lz⟩
    rw [hI] at h5
    clear hI I b4 t4 r4 c4 ok H4
    obtain ⟨z, rfl, b5, t5, lz⟩ := h5
    obtain ⟨I, hI⟩ : ∃ I : L2.St → Hp → Prop, I = fun σ H' => σ = [some (.ref l), some (.ref b), some (.int (0 + (i : Nat))), some (.ref a), some (.ref r), some (.str z), x6, x7, none, none, none] ∧ H' = H5 ∧ z.length ≤ 3000 := ⟨_, rfl⟩
    refine ⟨I, ?_, fun σ6 H6 h6 => ?_⟩
    · walk_at "rd"
      refine ⟨by omega, ite2 (fun a => ?_) fun a => ?_⟩
      · rw [hJ]
        exact ⟨_, _, _, _, _, _, rfl, b5, t5⟩
      · rw [hI]
        exact ⟨rfl, rfl, by omega⟩
    rw [hI] at h6
    clear hI I
    obtain ⟨rfl, rfl, lz3⟩ := h6
    clear lz
    obtain ⟨I, hI⟩ : ∃ I : L2.St → Hp → Prop, I = fun σ H' => ∃ d g, σ = [some (.ref l), some (.ref b), some (.int (0 + (i : Nat))), some (.ref a), some (.ref r), some (.str z), some (.ref d), some (.ref g), none, none, none] ∧ BagAt H' b cb ∧ LamX.Tabs (LT Pt) H' ∧
        ((∃ n why, H' d = some (.tup [.int n, .str why]) ∧ H' g = some (.tup [.str "InvalidText", .int n, .str why])) ∨
          ∃ R cs a1 r1 x dx fs a2 r2, H' d = some (.tup [.str Str.empty, .ref a1, .ref r1]) ∧ RowsL H' a1 R ∧ CellL H' r1 cs ∧ R.length ≤ 12 ∧ (∀ x ∈ R, x.length ≤ 12) ∧ cs.length ≤ 144 ∧ H' g = some (.tup [.str "", .ref x]) ∧ H' x = some (.ins CP dx fs) ∧ fs.lookup ("own_rows" : Str) = some (.ref a2) ∧ RowsL H' a2 R ∧ fs.lookup ("own_road" : Str) = some (.ref r2) ∧ CellL H' r2 cs ∧ fs.lookup ("rows" : Str) = none ∧ fs.lookup ("road" : Str) = none) := ⟨_, rfl⟩
    refine ⟨I, ?_, fun σ7 H7 h7 => ?_⟩
    · walk_at "rd"
      refine ⟨z, rfl, lz3, fun n why e H7 d s7 f7 e7 => ⟨tabs_same t5 s7, fun H8 c' x8 t8 hc => ?_⟩, fun R cs e H7 d a1 r1 s7 f7 e7 q1 q2 q3 q4 q5 => ⟨tabs_same t5 s7, fun H8 c' x8 t8 hc => ?_⟩⟩
      · refine ⟨fun cls dd H9 => cls = .ref CI ∧ ∃ dd', dd = some dd' ∧ Same H8 H9 ∧ XdI H9 dd' (.int n) (.str why), fun _ _ => False, ?_, fun _ _ h => h.elim, hc, _, rfl, _, rfl, .inl ⟨z, rfl, lz3, fun n' why' e' => ?_, fun R cs e' => ?_⟩⟩
        · rintro cls dd H9 ⟨rfl, dd', rfl, s9, xd⟩
          refine ⟨rfl, dd', _, _, rfl, xd, fun p H10 s10 f10 e10 => ?_⟩
          rw [hI]
          exact ⟨d, p, rfl, (((b5.same s7).extN x8).same s9).same s10, tabs_same (tabs_same t8 s9) s10, .inl ⟨n, why, s10 _ _ (s9 _ _ (extN_tup x8 e7)), e10⟩⟩
        · rw [e] at e'
          cases e'
          exact fun d' H' s f x => ⟨rfl, d', rfl, s, x⟩
        · rw [e] at e'
          cases e'
      · refine ⟨fun _ _ _ => False, fun v H9 => ∃ x dx fs a2 r2, v = .ref x ∧ Same H8 H9 ∧ H9 x = some (.ins CP dx fs) ∧ fs.lookup ("own_rows" : Str) = some (.ref a2) ∧ RowsL H9 a2 R ∧ fs.lookup ("own_road" : Str) = some (.ref r2) ∧ CellL H9 r2 cs ∧ fs.lookup ("rows" : Str) = none ∧ fs.lookup ("road" : Str) = none, fun _ _ _ h => h.elim, ?_, hc, _, rfl, _, rfl, .inl ⟨z, rfl, lz3, fun n' why' e' => ?_, fun R cs e' => ?_⟩⟩
        · rintro v H9 ⟨x, dx, fs, a2, r2, rfl, s9, hx, lk, hR, lr, hC, ln1, ln2⟩ p H10 s10 f10 e10
          rw [hI]
          have s90 := s9.trans s10
          exact ⟨d, p, rfl, ((b5.same s7).extN x8).same s90, tabs_same t8 s90, .inr ⟨R, cs, a1, r1, x, dx, fs, a2, r2, s90 _ _ (extN_tup x8 e7), (q1.extN x8).same s90, (q2.extN x8).same s90, q3, fun x hx => (q4 x hx).1, q5, e10, s10 _ _ hx, lk, hR.same s10, lr, hC.same s10, ln1, ln2⟩⟩
        · rw [e] at e'
          cases e'
        · rw [e] at e'
          cases e'
          exact fun H' x dx fs a r s hx lk hR _ lr hC ln1 ln2 => ⟨x, dx, fs, a, r, rfl, s, hx, lk, hR, lr, hC, ln1, ln2⟩
    rw [hI] at h7
    clear hI I b5 t5
    obtain ⟨d, g, rfl, b7, t7, h7⟩ := h7
    have back : ∀ {H' : Hp}, BagAt H' b cb → LamX.Tabs (LT Pt) H' → J [some (.ref l), some (.ref b), some (.int (0 + (i : Nat))), some (.ref a), some (.ref r), some (.str z), some (.ref d), some (.ref g), none, none, none] H' := fun h1 h2 => by
      rw [hJ]
      exact ⟨_, _, _, _, _, _, rfl, h1, h2⟩
    have ss : ∀ {n : Nat} {H : Hp} {z : Str}, SmR (n + 1) H (.str z) (.str z) := .inl ⟨rfl, .inr (.inr ⟨_, rfl⟩)⟩
    have si : ∀ {n : Nat} {H : Hp} {z : Int}, SmR (n + 1) H (.int z) (.int z) := .inl ⟨rfl, .inr (.inl ⟨_, rfl⟩)⟩
    walk_at "rd"
    rcases h7 with ⟨n, why, hd, hg⟩ | ⟨R, cs, a1, r1, x, dx, fs, a2, r2, hd, hR1, hC1, l12, w12, lc, hg, hx, lk, hR2, lr, hC2, ln1, ln2⟩
    · refine ⟨_, SqT.of hd, _, atI_zero rfl, rfl, if_yes (by simp) fun p H8 n8 => ⟨p, d, _, _, rfl, rfl, SqT.of n8.at_, SqT.of (n8.same _ _ hd), by simp, by simp [sizeLine_eq], fun z => by simp at z, fun _ p9 hp9 => ?_⟩⟩
      have n9 := new_of (o := .tup ([V.str "InvalidText"] ++ [V.int n, V.str why])) hp9
      have s9 := n8.same.trans n9.same
      refine ⟨.ref g, .ref p9, rfl, .inr ⟨g, p9, _, _, rfl, rfl, .inr ⟨s9 _ _ hg, n9.at_⟩, by simp, .cons ss (.cons si (.cons ss .nil))⟩, fun H10 s10 => ⟨_, rfl, if_no (by simp) (back (b7.same (s9.trans s10)) (tabs_same t7 (s9.trans s10)))⟩⟩
    · refine ⟨_, SqT.of hd, _, atI_zero rfl, rfl, if_no (fun h => h (by rw [show Str.ofString "" = Str.empty from by decide +kernel])) ⟨_, SqT.of hg, _, atI_zero rfl, rfl, if_no (by simp) ?_⟩⟩
      refine ⟨_, SqT.of hg, V.ref x, atI_nat (j := 1) rfl, x, rfl, dx, fs, hx, ln1, x, a2, dx, fs, R, rfl, hx, lk, hR2, l12, fun H8 p1 s8 f8 g8 => ?_⟩
      refine ⟨_, SqT.of (s8 _ _ hg), V.ref x, atI_nat (j := 1) rfl, x, rfl, dx, fs, s8 _ _ hx, ln2, x, r2, dx, fs, cs, rfl, s8 _ _ hx, lr, hC2.same s8, fun H9 p2 s9 f9 g9 p3 H10 n10 => ?_⟩
      have s710 := s8.trans (s9.trans n10.same)
      have s910 := s9.trans n10.same
      have e1 : cutV [V.str Str.empty, .ref a1, .ref r1] (some 1) none = [.ref a1, .ref r1] := by
        rw [show (some 1 : Option Int) = some ((1 : Nat) : Int) from rfl, cutV_from]; rfl
      refine ⟨d, _, rfl, SqT.of (s710 _ _ hd), by show ¬ (HT.sIx 3 0 (some 1) = 0 ∧ HT.sIx 3 3 none = 3); decide +kernel, fun p4 hp4 => ⟨p4, rfl, _, .inr (SqT.of upd_same), fun p5 H12 n12 => ?_⟩⟩
      rw [e1] at n12
      have s1012 := (same_new hp4).trans n12.same
      have s712 := s710.trans s1012
      refine ⟨.ref p3, .ref p5, rfl, .inr ⟨p3, p5, _, _, rfl, rfl, .inl ⟨s1012 _ _ n10.at_, n12.at_⟩, by simp, .cons (sm_rows ((g8.same s910).same s1012) (hR1.same s712) l12 w12) (.cons (sm_cells ((g9.same n10.same).same s1012) (hC1.same s712) lc) .nil)⟩, fun H13 s13 => ⟨_, rfl, if_no (by simp) (back (b7.same (s712.trans s13)) (tabs_same t7 (s712.trans s13)))⟩⟩
  rw [hJ] at h2
  clear hJ J b1 t1
  obtain ⟨x2, x3, x4, x5, x6, x7, rfl, b2, t2⟩ := h2
  obtain ⟨J, hJ⟩ : ∃ J : L2.St → Hp → Prop, J = fun σ H' => ∃ y, σ = [some (.ref l), some (.ref b), x2, x3, x4, x5, x6, x7, some y, none, none] ∧ OddOk H' y ∧ LamX.Tabs (LT Pt) H' := ⟨_, rfl⟩
  refine ⟨J, ?_, fun σ3 H3 h3 => ?_⟩
  · walk_at "rd"
    intro p1 H11 n1 p2 H12 n2 p3 H13 n3 p4 H14 n4
    have s12 := n2.same.trans (n3.same.trans n4.same)
    have b14 := ((b2.same n1.same).same n2.same).same (n3.same.trans n4.same)
    refine ⟨b, cb, _, rfl, b14, .inl ⟨p4, _, rfl, n4.at_, by simp, by simp, (((b2.same n1.same).same n2.same).same n3.same |>.ne n4.fresh).1, fun H5 y k5 b5 hy => ?_⟩⟩
    have np1 : p1 ≠ b := (b2.ne n1.fresh).1
    have np2 : p2 ≠ b := ((b2.same n1.same).ne n2.fresh).1
    have np3 : p3 ≠ b := (((b2.same n1.same).same n2.same).ne n3.fresh).1
    have e1 := k5 _ _ (by simpa using np1) (s12 _ _ n1.at_)
    have e2 := k5 _ _ (by simpa using np2) ((n3.same.trans n4.same) _ _ n2.at_)
    have e3 := k5 _ _ (by simpa using np3) (n4.same _ _ n3.at_)
    rw [hJ]
    refine ⟨y, rfl, ?_, b2.tabs t2 ((Keep.same (n1.same.trans s12)).trans k5)⟩
    simp only [List.mem_cons, List.not_mem_nil, or_false] at hy
    rcases hy with rfl | rfl | rfl | rfl | rfl | rfl | rfl
    · exact .inl ⟨_, .non, by decide +kernel⟩
    · exact .inl ⟨_, .int 3, by decide +kernel⟩
    · exact .inl ⟨_, .bl true, by decide +kernel⟩
    · exact .inl ⟨_, .tup e1, by decide +kernel⟩
    · exact .inl ⟨_, .lst e2, by decide +kernel⟩
    · exact .inl ⟨_, .dK e3, by decide +kernel⟩
    · exact .inr (by rw [show Str.ofString "" = Str.empty from by decide +kernel])
  rw [hJ] at h3
  clear hJ J b2 t2
  obtain ⟨y, rfl, o3, t3⟩ := h3
  obtain ⟨J, hJ⟩ : ∃ J : L2.St → Hp → Prop, J = fun σ H' => ∃ wr, σ = [some (.ref l), some (.ref b), x2, x3, x4, x5, x6, x7, some y, some (.ref wr), none] ∧ OddOk H' y ∧ LamX.Tabs (LT Pt) H' ∧ H' wr = some (.lst ((WL.map (·.1)).map V.str)) := ⟨_, rfl⟩
  refine ⟨J, ?_, fun σ4 H4 h4 => ?_⟩
  · walk_at "rd"
    intro wr H11 n1
    rw [hJ]
    exact ⟨wr, rfl, o3.same n1.same, tabs_same t3 n1.same, n1.at_⟩
  rw [hJ] at h4
  clear hJ J o3 t3
  obtain ⟨wr, rfl, o4, t4, w4⟩ := h4
  obtain ⟨J, hJ⟩ : ∃ J : L2.St → Hp → Prop, J = fun σ H' => ∃ du ts, σ = [some (.ref l), some (.ref b), x2, x3, x4, x5, some (.ref du), x7, some y, some (.ref wr), none] ∧ OddOk H' y ∧ LamX.Tabs (LT Pt) H' ∧ H' wr = some (.lst ((WL.map (·.1)).map V.str)) ∧ H' du = some (.lst (ts.map V.ref)) ∧ Paired (TupV H') ts (WL.map (·.2)) := ⟨_, rfl⟩
  refine ⟨J, ?_, fun σ5 H5 h5 => ?_⟩
  · walk_at "rd"
    intro p1 H11 n1 p2 H12 n2 p3 H13 n3 p4 H14 n4 p5 H15 n5 p6 H16 n6 p7 H17 n7 p8 H18 n8 p9 H19 n9 p10 H20 n10 p11 H21 n11 p12 H22 n12 p13 H23 n13 p14 H24 n14 du H30 n30
    have q14 := n30.same
    have q13 := n14.same.trans q14
    have q12 := n13.same.trans q13
    have q11 := n12.same.trans q12
    have q10 := n11.same.trans q11
    have q9 := n10.same.trans q10
    have q8 := n9.same.trans q9
    have q7 := n8.same.trans q8
    have q6 := n7.same.trans q7
    have q5 := n6.same.trans q6
    have q4 := n5.same.trans q5
    have q3 := n4.same.trans q4
    have q2 := n3.same.trans q3
    have q1 := n2.same.trans q2
    have sall := n1.same.trans q1
    rw [hJ]
    exact ⟨du, [p1, p2, p3, p4, p5, p6, p7, p8, p9, p10, p11, p12, p13, p14], rfl, o4.same sall, tabs_same t4 sall, sall _ _ w4, n30.at_, .cons (q1 _ _ n1.at_) ( .cons (q2 _ _ n2.at_) ( .cons (q3 _ _ n3.at_) ( .cons (q4 _ _ n4.at_) ( .cons (q5 _ _ n5.at_) ( .cons (q6 _ _ n6.at_) ( .cons (q7 _ _ n7.at_) ( .cons (q8 _ _ n8.at_) ( .cons (q9 _ _ n9.at_) ( .cons (q10 _ _ n10.at_) ( .cons (q11 _ _ n11.at_) ( .cons (q12 _ _ n12.at_) ( .cons (q13 _ _ n13.at_) ( .cons (q14 _ _ n14.at_) ( .nil))))))))))))))⟩
  rw [hJ] at h5
  clear hJ J o4 t4 w4
  obtain ⟨du, ts, rfl, o5, t5, w5, d5, P5⟩ := h5
  have lts : ts.length = 14 := P5.length
  obtain ⟨J, hJ⟩ : ∃ J : L2.St → Hp → Prop, J = fun σ H' => ∃ x5 x7 x10, σ = [some (.ref l), some (.ref b), x2, x3, x4, x5, some (.ref du), x7, some y, some (.ref wr), x10] ∧ OddOk H' y ∧ LamX.Tabs (LT Pt) H' := ⟨_, rfl⟩
  refine ⟨J, ?_, fun σ6 H6 h6 => ?_⟩
  · obtain ⟨Pv, hP⟩ : ∃ Pv : Nat → L2.St → Hp → Prop, Pv = fun _ σ H' => ∃ x5 x7 x10, σ = [some (.ref l), some (.ref b), x2, x3, x4, x5, some (.ref du), x7, some y, some (.ref wr), x10] ∧ OddOk H' y ∧ LamX.Tabs (LT Pt) H' ∧ H' wr = some (.lst ((WL.map (·.1)).map V.str)) ∧ H' du = some (.lst (ts.map V.ref)) ∧ Paired (TupV H') ts (WL.map (·.2)) := ⟨_, rfl⟩
    refine ⟨_, rfl, _, rfl, wr, du, _, _, rfl, SqL.of w5, SqL.of d5, for_it (walk_zip (xs := (WL.map (·.1)).map V.str) (ys := ts.map V.ref) (n := 14) (by simp only [List.length_map]; rw [lts]; rfl)) Pv ?_ (fun i σ H' _ h => ?_) (fun j v σ6 H6 H7 hj h y7 => ?_) fun σ H' h => ?_⟩
    · rw [hP]
      exact ⟨_, _, _, rfl, o5, t5, w5, d5, P5⟩
    · rw [hP] at h
      obtain ⟨_, _, _, _, _, _, h1, h2, _⟩ := h
      exact ⟨SqL.of h1, SqL.of h2⟩
    · rw [hP] at h
      obtain ⟨x5, x7, x10, rfl, o6, t6, w6, d6, P6⟩ := h
      obtain ⟨T0, v1, v2, rfl, hT0, rfl, e1, e2⟩ := y7
      obtain ⟨tx, htx, rfl⟩ := str_list_get (show ((WL.map (·.1)).map V.str)[j]? = some v1 from e1)
      obtain ⟨ta, hta, rfl⟩ := map_ref_get (show (ts.map V.ref)[j]? = some v2 from e2)
      obtain ⟨uv, huv, htu⟩ := paired_at P6 hta
      rw [List.getElem?_map] at htx huv
      obtain ⟨e, he⟩ : ∃ e, WL[j]? = some e := ⟨WL[j]'(show j < 14 from hj), List.getElem?_eq_getElem _⟩
      rw [he] at htx huv
      cases htx
      cases huv
      have wsp := wl_ok e (List.mem_of_getElem? he)
      have s67 : Same H6 (L2.upd H6 T0 (.tup [.str e.1, .ref ta])) := same_new hT0
      obtain ⟨H7, hH7⟩ : ∃ H7, H7 = L2.upd H6 T0 (.tup [.str e.1, .ref ta]) := ⟨_, rfl⟩
      have hT7 : H7 T0 = some (.tup [.str e.1, .ref ta]) := by rw [hH7]; exact upd_same
      rw [← hH7] at s67 ⊢
      obtain ⟨I, hI⟩ : ∃ I : L2.St → Hp → Prop, I = fun σ H' => ∃ g, σ = [some (.ref l), some (.ref b), x2, x3, x4, some (.str e.1), some (.ref du), some (.ref g), some y, some (.ref wr), some (.ref ta)] ∧ OddOk H' y ∧ LamX.Tabs (LT Pt) H' ∧ H' wr = some (.lst ((WL.map (·.1)).map V.str)) ∧ H' du = some (.lst (ts.map V.ref)) ∧ Paired (TupV H') ts (WL.map (·.2)) ∧ H' ta = some (.tup [e.2.1, e.2.2]) ∧
          ((e.2.1 = .str Str.empty ∧ H' g = some (.tup [.str "", .non])) ∨ ∃ n why, e.2.1 = .int n ∧ e.2.2 = .str why ∧ H' g = some (.tup [.str "InvalidText", .int n, .str why])) := ⟨_, rfl⟩
      refine ⟨T0, _, rfl, SqT.of hT7, rfl, _, _, rfl, _, _, rfl, rfl, I, ?_, fun σ8 H8 h8 => ?_⟩
      · refine ⟨tabs_same t6 s67, fun H8 c' x8 t8 hc => ?_⟩
        have fin : ∀ {H' : Hp} {g : Addr}, Same H8 H' → ((e.2.1 = .str Str.empty ∧ H' g = some (.tup [.str "", .non])) ∨ ∃ n why, e.2.1 = .int n ∧ e.2.2 = .str why ∧ H' g = some (.tup [.str "InvalidText", .int n, .str why])) → I [some (.ref l), some (.ref b), x2, x3, x4, some (.str e.1), some (.ref du), some (.ref g), some y, some (.ref wr), some (.ref ta)] H' := fun {H' g} s h => by
          rw [hI]
          refine ⟨g, rfl, ((o6.same s67).map fun a o e n => x8 a o e n).same s, tabs_same t8 s, s _ _ (extN_lst x8 (s67 _ _ w6)), s _ _ (extN_lst x8 (s67 _ _ d6)), Paired.mapP P6 fun _ _ z => s _ _ (extN_tup x8 (s67 _ _ z)), s _ _ (extN_tup x8 (s67 _ _ htu)), h⟩
        rcases wsp with ⟨lx, ⟨n, why, q1, q2, er⟩ | ⟨q1, R, cs, er⟩⟩
        · refine ⟨fun cls dd H9 => cls = .ref CI ∧ ∃ dd', dd = some dd' ∧ Same H8 H9 ∧ XdI H9 dd' (.int n) (.str why), fun _ _ => False, ?_, fun _ _ h => h.elim, hc, _, rfl, _, rfl, .inl ⟨e.1, rfl, lx, fun n' why' e' => ?_, fun R cs e' => ?_⟩⟩
          · rintro cls dd H9 ⟨rfl, dd', rfl, s9, xd⟩
            refine ⟨rfl, dd', _, _, rfl, xd, fun p H10 s10 f10 e10 => ⟨p, _, _, rfl, e10, fun h => absurd h (by decide +kernel), fun _ => ?_⟩⟩
            exact fin (s9.trans s10) (.inr ⟨n, why, q1, q2, e10⟩)
          · rw [er] at e'
            cases e'
            exact fun d' H' s f x => ⟨rfl, d', rfl, s, x⟩
          · rw [er] at e'
            cases e'
        · refine ⟨fun _ _ _ => False, fun v H9 => Same H8 H9, fun _ _ _ h => h.elim, ?_, hc, _, rfl, _, rfl, .inl ⟨e.1, rfl, lx, fun n' why' e' => ?_, fun R cs e' => ?_⟩⟩
          · intro v H9 s9 p H10 s10 f10 e10
            exact ⟨p, _, _, rfl, e10, fun _ p2 H11 s11 f11 e11 => fin ((s9.trans s10).trans s11) (.inl ⟨q1, e11⟩), fun h => absurd rfl h⟩
          · rw [er] at e'
            cases e'
          · exact fun H' x dx fs a r s hx lk hR _ lr hC ln1 ln2 => s
      rw [hI] at h8
      clear hI I
      obtain ⟨g, rfl, o8, t8, w8, d8, P8, e8, h8⟩ := h8
      have next : ∀ {H' : Hp}, Same H8 H' → Pv (j + 1) [some (.ref l), some (.ref b), x2, x3, x4, some (.str e.1), some (.ref du), some (.ref g), some y, some (.ref wr), some (.ref ta)] H' := fun {H'} s => by
        rw [hP]
        exact ⟨_, _, _, rfl, o8.same s, tabs_same t8 s, s _ _ w8, s _ _ d8, Paired.mapP P8 fun _ _ z => s _ _ z⟩
      walk_at "rd"
      refine ⟨_, SqT.of e8, e.2.1, atI_zero rfl, ?_⟩
      rcases h8 with ⟨q1, hg⟩ | ⟨n, why, q1, q2, hg⟩
      · rw [q1]
        refine ⟨rfl, if_yes (by rw [show Str.ofString "" = Str.empty from by decide +kernel]) fun p H9 n9 => ⟨.ref g, .ref p, rfl, .inr ⟨g, p, _, _, rfl, rfl, .inr ⟨n9.same _ _ hg, n9.at_⟩, by simp, .cons sm_str (.cons (.inl ⟨rfl, .inl rfl⟩) .nil)⟩, fun H10 s10 => ⟨_, rfl, if_no (by simp) (next (n9.same.trans s10))⟩⟩⟩
      · rw [q1, q2] at e8
        rw [q1]
        refine ⟨rfl, if_no (by simp) fun p H9 n9 => ⟨p, ta, _, _, rfl, rfl, SqT.of n9.at_, SqT.of (n9.same _ _ e8), by simp, by simp [sizeLine_eq], fun z => by simp at z, fun _ p9 hp9 => ?_⟩⟩
        have m9 := new_of (o := .tup ([V.str "InvalidText"] ++ [V.int n, V.str why])) hp9
        have s9 := n9.same.trans m9.same
        exact ⟨.ref g, .ref p9, rfl, .inr ⟨g, p9, _, _, rfl, rfl, .inr ⟨s9 _ _ hg, m9.at_⟩, by simp, .cons sm_str (.cons sm_int (.cons sm_str .nil))⟩, fun H10 s10 => ⟨_, rfl, if_no (by simp) (next (s9.trans s10))⟩⟩
    · rw [hP] at h
      obtain ⟨x5, x7, x10, rfl, o6, t6, _⟩ := h
      show J _ _
      rw [hJ]
      exact ⟨x5, x7, x10, rfl, o6, t6⟩
  rw [hJ] at h6
  clear hJ J o5 t5 w5 d5 P5
  obtain ⟨x5, x7, x10, rfl, o6, t6⟩ := h6
  refine ⟨t6, fun H8 c' x8 t8 hc => ?_⟩
  have o8 : OddOk H8 y := o6.map fun a o e n => x8 a o e n
  refine ⟨fun cls dd H9 => cls = .ref CI ∧ ∃ dd', dd = some dd' ∧ Same H8 H9 ∧ XdI H9 dd' (.int 0) (.str "form"), fun _ _ => False, ?_, fun _ _ h => h.elim, hc, y, rfl, y, rfl, ?_⟩
  · rintro cls dd H9 ⟨rfl, dd', rfl, s9, xd⟩
    refine ⟨rfl, dd', _, _, rfl, xd, fun p H10 s10 f10 e10 => ⟨p, _, _, rfl, e10, fun h => absurd h (by decide +kernel), fun _ => ⟨by simp [sizeLine_eq], fun p2 H11 n11 => ?_⟩⟩⟩
    exact ⟨.ref p, .ref p2, rfl, .inr ⟨p, p2, _, _, rfl, rfl, .inr ⟨n11.same _ _ e10, n11.at_⟩, by simp, .cons sm_str (.cons sm_int (.cons sm_str .nil))⟩, fun H12 _ => q H12⟩
  · have wb : WBad CI (fun cls dd H9 => cls = .ref CI ∧ ∃ dd', dd = some dd' ∧ Same H8 H9 ∧ XdI H9 dd' (.int 0) (.str "form")) H8 0 "form" := fun d' H' s f x => ⟨rfl, d', rfl, s, x⟩
    rcases o8 with ⟨T0, vt, e⟩ | rfl
    · exact .inr ⟨T0, vt, e, wb⟩
    · have er : readS Str.empty = .bad 0 "form" := by unfold readS; rw [if_pos rfl]
      refine .inl ⟨Str.empty, rfl, by decide +kernel, fun n' why' e' => ?_, fun R cs e' => ?_⟩
      · rw [er] at e'
        cases e'
        exact wb
      · rw [er] at e'
        cases e'
end
end Dk
-- text End
set_option maxHeartbeats 4000000
namespace Dk
open PySem PySem.Spec PyProof.Rows L2
theorem oexB_ok {K : PySem.W.Frag} {C : Addr} (h : oexB K C = true) : ∃ nm q N bs bm sn sub ab col dd k0 k1 k2 k3 k5, K.lookup C = some (excClassObj nm q C N bs bm true sn sub ab col dd k0 k1 k2 k3 k5 "ValueError.__new__") ∧ PySem.HandSPX.refsVE bm = true := by
  unfold oexB at h
  split at h
  · rename_i dd cd sl ho
    split at h
    · rename_i C1 bm k0 k1 k2 k3 n k5 hm hs
      simp only [Bool.and_eq_true, beq_iff_eq, Bool.not_eq_true'] at h
      obtain ⟨e1, e2, e3, e4, e5⟩ := h
      subst e1 e2
      obtain ⟨nm, bs, mro, ns, qn, hd, sn, sub, ab, col, dl⟩ := cd
      dsimp only at hm e3 e4
      subst hm e3 e4
      obtain ⟨s⟩ := sl
      have hs2 : s = [k0, k1, k2, k3, some (.builtin "ValueError.__new__"), k5] := hs
      subst hs2
      exact ⟨nm, qn, ns, bs, bm, sn, sub, ab, col, dd, k0, k1, k2, k3, k5, ho, e5⟩
    · cases h
  · cases h
section
variable {w : World} {K : PySem.W.Frag} {h : Heap} {mg : Str → Option Value} {f : Addr}
theorem tx_of (X : K.In h) (G : h.Ns mainGlobals mg) (cd : He.SaysD hfa hdefs K) : Tx K mg := by
  refine ⟨fun x hx => ?_, He.str_ok X G (cd.fact 16 (f := .str "LETTERS" "abcdefghijklmnopqrstuvwxyz") rfl), He.int_ok X G (cd.fact 17 (f := .int "MOST_LETTERS" 6) rfl), He.int_ok X G (cd.fact 18 (f := .int "LAST" 11) rfl), He.int_ok X G (cd.fact 19 (f := .int "MOST_SIZE" 12) rfl), He.int_ok X G (cd.fact 20 (f := .int "MOST_PARCELS" 12) rfl)⟩
  simp only [frees, List.mem_cons, List.not_mem_nil, or_false] at hx
  rcases hx with rfl | rfl | rfl | rfl | rfl | rfl | rfl | rfl | rfl | rfl | rfl | rfl | rfl | rfl | rfl | rfl
  · exact He.free_ok X G (cd.fact 0 (f := .free "isinstance") rfl)
  · exact He.free_ok X G (cd.fact 1 (f := .free "int") rfl)
  · exact He.free_ok X G (cd.fact 2 (f := .free "bool") rfl)
  · exact He.free_ok X G (cd.fact 3 (f := .free "str") rfl)
  · exact He.free_ok X G (cd.fact 4 (f := .free "tuple") rfl)
  · exact He.free_ok X G (cd.fact 5 (f := .free "list") rfl)
  · exact He.free_ok X G (cd.fact 6 (f := .free "dict") rfl)
  · exact He.free_ok X G (cd.fact 7 (f := .free "len") rfl)
  · exact He.free_ok X G (cd.fact 8 (f := .free "all") rfl)
  · exact He.free_ok X G (cd.fact 9 (f := .free "sorted") rfl)
  · exact He.free_ok X G (cd.fact 10 (f := .free "enumerate") rfl)
  · exact He.free_ok X G (cd.fact 11 (f := .free "min") rfl)
  · exact He.free_ok X G (cd.fact 12 (f := .free "set") rfl)
  · exact He.free_ok X G (cd.fact 13 (f := .free "abs") rfl)
  · exact He.free_ok X G (cd.fact 14 (f := .free "range") rfl)
  · exact He.free_ok X G (cd.fact 15 (f := .free "zip") rfl)
theorem px_of (cd : He.SaysD hfa hdefs K) : Px K (He.ga K "Plat") :=
  ⟨He.cls_ok (cd.fact 25 (f := .cls "Plat") rfl), He.noat_ok (cd.fact 29 (f := .noat "Plat" "own_rows") rfl), He.noat_ok (cd.fact 30 (f := .noat "Plat" "own_cells") rfl), He.noat_ok (cd.fact 31 (f := .noat "Plat" "height") rfl), He.noat_ok (cd.fact 32 (f := .noat "Plat" "width") rfl), He.noat_ok (cd.fact 33 (f := .noat "Plat" "own_road") rfl), He.noat_ok (cd.fact 34 (f := .noat "Plat" "own_borders") rfl), He.noat_ok (cd.fact 35 (f := .noat "Plat" "own_rims") rfl)⟩
theorem et_of (X : K.In h) (G : h.Ns mainGlobals mg) (cd : He.SaysD hfa hdefs K) (hx : hex K = true) : ExT K mg (He.ga K "InvalidText") ∧ PySem.W.findIn K (.ref (He.ga K "InvalidText")) "__init__" = some (some (.ref (He.ma K (He.ga K "InvalidText") "__init__"))) ∧ PySem.W.typeIn K (.ref (He.ma K (He.ga K "InvalidText") "__init__")) = some (.type "function") := by
  obtain ⟨c1, q⟩ := He.ba (show invB K (He.ga K "InvalidText") = true from hx)
  obtain ⟨c2, q⟩ := He.ba q
  obtain ⟨c3, q⟩ := He.ba q
  obtain ⟨c4, q⟩ := He.ba q
  obtain ⟨c5, q⟩ := He.ba q
  obtain ⟨c6, q⟩ := He.ba q
  obtain ⟨c7, q⟩ := He.ba q
  obtain ⟨c8, c9⟩ := He.ba q
  exact ⟨⟨xfB_ok c6, ⟨⟨oexB_ok c1, of_decide_eq_true c2, of_decide_eq_true c3, of_decide_eq_true c4, c5⟩, He.noat_ok (cd.fact 36 (f := .noat "InvalidText" "line") rfl), He.noat_ok (cd.fact 37 (f := .noat "InvalidText" "why") rfl), He.noat_ok (cd.fact 38 (f := .noat "InvalidText" "code") rfl)⟩, ⟨_, _, He.glo_ok X G (cd.fact 23 (f := .glo "RollError") rfl), He.glo_ok X G (cd.fact 24 (f := .glo "Missing") rfl), of_decide_eq_true c9⟩⟩, of_decide_eq_true c7, of_decide_eq_true c8⟩
theorem hfacts (X : K.In h) (G : h.Ns mainGlobals mg) (hl : mg ("law" : Str) = some (.ref f)) (c : He.SaysX hfa hdefs [] [("law", none)] hex w h K) : LamX.LawAtS PySem.Challenge.rw_deedranks_k12_whole_wrong_texts_of_plats w K CX0 15 63 "_law_script" mg f h := by
  have cd : He.SaysD hfa hdefs K := congrArg (fun z : He.AlT => z.1) c.t
  have T := tx_of X G cd
  have PX := px_of cd
  obtain ⟨ET, iC, tI⟩ := et_of X G cd c.more
  obtain ⟨fl, F⟩ := cd.def_ 44 (d := d_law) rfl
  have el := hl.symm.trans (He.glo_ok X G (cd.fact 83 (f := .glo "law") rfl))
  cases el
  obtain ⟨oc, od, dV, kV, doc, pm, an, cdv, ct, osl, efl, lk, hcd, _, _⟩ := F.ex
  obtain ⟨cl, ecl⟩ := He.codeIn_ref hcd
  have hcode : fl.code = .ref cl := by rw [efl]; exact ecl
  have eco : He.codeOf K ("law", none) = cl := He.codeOf_eq lk hcode
  have mem : (("law", none) : He.Defn) ∈ ([("law", none)] : List He.Defn) := List.mem_singleton.mpr rfl
  refine ⟨fl, [He.cT K ("law", none)], sp_law K (He.cT K ("law", none)).2, fun p hp => ?_, fun p hp => ?_, fun p hp => ?_, fun s u => ?_, fun H a ns hn _ hT hS => ?_, fun base hK hG hT => ?_⟩
  · rw [List.mem_singleton.mp hp]; exact c.empty _ mem
  · rw [List.mem_singleton.mp hp]; exact c.out _ mem
  · rw [List.mem_singleton.mp hp]; exact PySem.W.codeHd_of_K X (c.hd _ mem)
  · exact FunD.bindsA (ps := p_law) F (fun _ _ _ _ _ _ us hl => match us, hl with | [_], _ => rfl) s [u] rfl
  · exact ⟨a, ns, rfl, hS, by omega, hT _ (List.mem_singleton.mpr rfl), fun _ => rfl⟩
  have TB := hT _ (List.mem_singleton.mpr rfl)
  rw [show (He.cT K ("law", none)).1 = cl from eco] at TB
  have D_is_whole : Df K mg "is_whole" s_is_whole := by
    obtain ⟨fd, F0⟩ := cd.def_ 0 (d := d_is_whole) rfl
    exact ⟨_, fd, F0, He.glo_ok X G (cd.fact 39 (f := .glo "is_whole") rfl)⟩
  have D_is_number : Df K mg "is_number" s_is_number := by
    obtain ⟨fd, F0⟩ := cd.def_ 1 (d := d_is_number) rfl
    exact ⟨_, fd, F0, He.glo_ok X G (cd.fact 40 (f := .glo "is_number") rfl)⟩
  have D_is_name : Df K mg "is_name" s_is_name := by
    obtain ⟨fd, F0⟩ := cd.def_ 2 (d := d_is_name) rfl
    exact ⟨_, fd, F0, He.glo_ok X G (cd.fact 41 (f := .glo "is_name") rfl)⟩
  have D_is_cell : Df K mg "is_cell" s_is_cell := by
    obtain ⟨fd, F0⟩ := cd.def_ 3 (d := d_is_cell) rfl
    exact ⟨_, fd, F0, He.glo_ok X G (cd.fact 42 (f := .glo "is_cell") rfl)⟩
  have D_beside : Df K mg "beside" s_beside := by
    obtain ⟨fd, F0⟩ := cd.def_ 4 (d := d_beside) rfl
    exact ⟨_, fd, F0, He.glo_ok X G (cd.fact 43 (f := .glo "beside") rfl)⟩
  have D_check_cells : Df K mg "check_cells" s_check_cells := by
    obtain ⟨fd, F0⟩ := cd.def_ 5 (d := d_check_cells) rfl
    exact ⟨_, fd, F0, He.glo_ok X G (cd.fact 44 (f := .glo "check_cells") rfl)⟩
  have D_group_of : Df K mg "group_of" s_group_of := by
    obtain ⟨fd, F0⟩ := cd.def_ 6 (d := d_group_of) rfl
    exact ⟨_, fd, F0, He.glo_ok X G (cd.fact 45 (f := .glo "group_of") rfl)⟩
  have D_groups : Df K mg "groups" s_groups := by
    obtain ⟨fd, F0⟩ := cd.def_ 7 (d := d_groups) rfl
    exact ⟨_, fd, F0, He.glo_ok X G (cd.fact 46 (f := .glo "groups") rfl)⟩
  have D_pieces : Df K mg "pieces" s_pieces := by
    obtain ⟨fd, F0⟩ := cd.def_ 9 (d := d_pieces) rfl
    exact ⟨_, fd, F0, He.glo_ok X G (cd.fact 48 (f := .glo "pieces") rfl)⟩
  have D_hangs_together : Df K mg "hangs_together" s_hangs_together := by
    obtain ⟨fd, F0⟩ := cd.def_ 8 (d := d_hangs_together) rfl
    exact ⟨_, fd, F0, He.glo_ok X G (cd.fact 47 (f := .glo "hangs_together") rfl)⟩
  have D_is_list : Df K mg "is_list" s_is_list := by
    obtain ⟨fd, F0⟩ := cd.def_ 10 (d := d_is_list) rfl
    exact ⟨_, fd, F0, He.glo_ok X G (cd.fact 49 (f := .glo "is_list") rfl)⟩
  have D_check_rows : Df K mg "check_rows" s_check_rows := by
    obtain ⟨fd, F0⟩ := cd.def_ 11 (d := d_check_rows) rfl
    exact ⟨_, fd, F0, He.glo_ok X G (cd.fact 50 (f := .glo "check_rows") rfl)⟩
  have D_parcels_of : Df K mg "parcels_of" s_parcels_of := by
    obtain ⟨fd, F0⟩ := cd.def_ 12 (d := d_parcels_of) rfl
    exact ⟨_, fd, F0, He.glo_ok X G (cd.fact 51 (f := .glo "parcels_of") rfl)⟩
  have D_is_edge : Df K mg "is_edge" s_is_edge := by
    obtain ⟨fd, F0⟩ := cd.def_ 13 (d := d_is_edge) rfl
    exact ⟨_, fd, F0, He.glo_ok X G (cd.fact 52 (f := .glo "is_edge") rfl)⟩
  have D_check_road : Df K mg "check_road" s_check_road := by
    obtain ⟨fd, F0⟩ := cd.def_ 14 (d := d_check_road) rfl
    exact ⟨_, fd, F0, He.glo_ok X G (cd.fact 53 (f := .glo "check_road") rfl)⟩
  have D_borders_of : Df K mg "borders_of" s_borders_of := by
    obtain ⟨fd, F0⟩ := cd.def_ 15 (d := d_borders_of) rfl
    exact ⟨_, fd, F0, He.glo_ok X G (cd.fact 54 (f := .glo "borders_of") rfl)⟩
  have D_bare_word : Df K mg "bare_word" s_bare_word := by
    obtain ⟨fd, F0⟩ := cd.def_ 16 (d := d_bare_word) rfl
    exact ⟨_, fd, F0, He.glo_ok X G (cd.fact 55 (f := .glo "bare_word") rfl)⟩
  have D_line_fault : Df K mg "line_fault" s_line_fault := by
    obtain ⟨fd, F0⟩ := cd.def_ 17 (d := d_line_fault) rfl
    exact ⟨_, fd, F0, He.glo_ok X G (cd.fact 56 (f := .glo "line_fault") rfl)⟩
  have D_apart_line : Df K mg "apart_line" s_apart_line := by
    obtain ⟨fd, F0⟩ := cd.def_ 18 (d := d_apart_line) rfl
    exact ⟨_, fd, F0, He.glo_ok X G (cd.fact 57 (f := .glo "apart_line") rfl)⟩
  have D_law_is_word : Df K mg "_law_is_word" s_law_is_word := by
    obtain ⟨fd, F0⟩ := cd.def_ 29 (d := d_law_is_word) rfl
    exact ⟨_, fd, F0, He.glo_ok X G (cd.fact 68 (f := .glo "_law_is_word") rfl)⟩
  have D_law_reach : Df K mg "_law_reach" s_law_reach := by
    obtain ⟨fd, F0⟩ := cd.def_ 31 (d := d_law_reach) rfl
    exact ⟨_, fd, F0, He.glo_ok X G (cd.fact 70 (f := .glo "_law_reach") rfl)⟩
  have D_law_groups : Df K mg "_law_groups" s_law_groups := by
    obtain ⟨fd, F0⟩ := cd.def_ 32 (d := d_law_groups) rfl
    exact ⟨_, fd, F0, He.glo_ok X G (cd.fact 71 (f := .glo "_law_groups") rfl)⟩
  have D_law_all_cells : Df K mg "_law_all_cells" s_law_all_cells := by
    obtain ⟨fd, F0⟩ := cd.def_ 33 (d := d_law_all_cells) rfl
    exact ⟨_, fd, F0, He.glo_ok X G (cd.fact 72 (f := .glo "_law_all_cells") rfl)⟩
  have D_law_edge : Df K mg "_law_edge" s_law_edge := by
    obtain ⟨fd, F0⟩ := cd.def_ 37 (d := d_law_edge) rfl
    exact ⟨_, fd, F0, He.glo_ok X G (cd.fact 76 (f := .glo "_law_edge") rfl)⟩
  have D_law_cells_of : Df K mg "_law_cells_of" s_law_cells_of := by
    obtain ⟨fd, F0⟩ := cd.def_ 39 (d := d_law_cells_of) rfl
    exact ⟨_, fd, F0, He.glo_ok X G (cd.fact 78 (f := .glo "_law_cells_of") rfl)⟩
  have D_law_line_word : Df K mg "_law_line_word" s_law_line_word := by
    obtain ⟨fd, F0⟩ := cd.def_ 41 (d := d_law_line_word) rfl
    exact ⟨_, fd, F0, He.glo_ok X G (cd.fact 80 (f := .glo "_law_line_word") rfl)⟩
  have D_law_four : Df K mg "_law_four" s_law_four := by
    obtain ⟨fd, F0⟩ := cd.def_ 30 (d := d_law_four) rfl
    exact ⟨_, fd, F0, He.glo_ok X G (cd.fact 69 (f := .glo "_law_four") rfl)⟩
  have D_law_read_plat : Df K mg "_law_read_plat" s_law_read_plat := by
    obtain ⟨fd, F0⟩ := cd.def_ 42 (d := d_law_read_plat) rfl
    exact ⟨_, fd, F0, He.glo_ok X G (cd.fact 81 (f := .glo "_law_read_plat") rfl)⟩
  have D_law_bag : Df K mg "_law_bag" s_law_bag := by
    obtain ⟨fd, F0⟩ := cd.def_ 20 (d := d_law_bag) rfl
    exact ⟨_, fd, F0, He.glo_ok X G (cd.fact 59 (f := .glo "_law_bag") rfl)⟩
  have D_law_draw : Df K mg "_law_draw" s_law_draw := by
    obtain ⟨fd, F0⟩ := cd.def_ 21 (d := d_law_draw) rfl
    exact ⟨_, fd, F0, He.glo_ok X G (cd.fact 60 (f := .glo "_law_draw") rfl)⟩
  have D_law_pick : Df K mg "_law_pick" s_law_pick := by
    obtain ⟨fd, F0⟩ := cd.def_ 22 (d := d_law_pick) rfl
    exact ⟨_, fd, F0, He.glo_ok X G (cd.fact 61 (f := .glo "_law_pick") rfl)⟩
  have D_law_word : Df K mg "_law_word" s_law_word := by
    obtain ⟨fd, F0⟩ := cd.def_ 23 (d := d_law_word) rfl
    exact ⟨_, fd, F0, He.glo_ok X G (cd.fact 62 (f := .glo "_law_word") rfl)⟩
  have D_law_names : Df K mg "_law_names" s_law_names := by
    obtain ⟨fd, F0⟩ := cd.def_ 24 (d := d_law_names) rfl
    exact ⟨_, fd, F0, He.glo_ok X G (cd.fact 63 (f := .glo "_law_names") rfl)⟩
  have D_law_sizes : Df K mg "_law_sizes" s_law_sizes := by
    obtain ⟨fd, F0⟩ := cd.def_ 34 (d := d_law_sizes) rfl
    exact ⟨_, fd, F0, He.glo_ok X G (cd.fact 73 (f := .glo "_law_sizes") rfl)⟩
  have D_law_sides : Df K mg "_law_sides" s_law_sides := by
    obtain ⟨fd, F0⟩ := cd.def_ 35 (d := d_law_sides) rfl
    exact ⟨_, fd, F0, He.glo_ok X G (cd.fact 74 (f := .glo "_law_sides") rfl)⟩
  have D_law_grown : Df K mg "_law_grown" s_law_grown := by
    obtain ⟨fd, F0⟩ := cd.def_ 36 (d := d_law_grown) rfl
    exact ⟨_, fd, F0, He.glo_ok X G (cd.fact 75 (f := .glo "_law_grown") rfl)⟩
  have D_law_map : Df K mg "_law_map" s_law_map := by
    obtain ⟨fd, F0⟩ := cd.def_ 38 (d := d_law_map) rfl
    exact ⟨_, fd, F0, He.glo_ok X G (cd.fact 77 (f := .glo "_law_map") rfl)⟩
  have D_law_text : Df K mg "_law_text" s_law_text := by
    obtain ⟨fd, F0⟩ := cd.def_ 40 (d := d_law_text) rfl
    exact ⟨_, fd, F0, He.glo_ok X G (cd.fact 79 (f := .glo "_law_text") rfl)⟩
  have D_law_bent_text : Df K mg "_law_bent_text" s_law_bent_text := by
    obtain ⟨fd, F0⟩ := cd.def_ 43 (d := d_law_bent_text) rfl
    exact ⟨_, fd, F0, He.glo_ok X G (cd.fact 82 (f := .glo "_law_bent_text") rfl)⟩
  have D_law_same : Df K mg "_law_same" s_law_same := by
    obtain ⟨fd, F0⟩ := cd.def_ 25 (d := d_law_same) rfl
    exact ⟨_, fd, F0, He.glo_ok X G (cd.fact 64 (f := .glo "_law_same") rfl)⟩
  have D_law_fields : Df K mg "_law_fields" s_law_fields := by
    obtain ⟨fd, F0⟩ := cd.def_ 26 (d := d_law_fields) rfl
    exact ⟨_, fd, F0, He.glo_ok X G (cd.fact 65 (f := .glo "_law_fields") rfl)⟩
  have D_law_got : Df K mg "_law_got" s_law_got := by
    obtain ⟨fd, F0⟩ := cd.def_ 27 (d := d_law_got) rfl
    exact ⟨_, fd, F0, He.glo_ok X G (cd.fact 66 (f := .glo "_law_got") rfl)⟩
  have D_law_why : Df K mg "_law_why" s_law_why := by
    obtain ⟨fd, F0⟩ := cd.def_ 28 (d := d_law_why) rfl
    exact ⟨_, fd, F0, He.glo_ok X G (cd.fact 67 (f := .glo "_law_why") rfl)⟩
  have D_read_plat : Df K mg "read_plat" s_read_plat := by
    obtain ⟨fd, F0⟩ := cd.def_ 19 (d := d_read_plat) rfl
    exact ⟨_, fd, F0, He.glo_ok X G (cd.fact 58 (f := .glo "read_plat") rfl)⟩
  have c_is_whole := c_is_whole (P := (PySem.Challenge.rw_deedranks_k12_whole_wrong_texts_of_plats).prog) (w := w) (base := base) T D_is_whole
  have c_is_number := c_is_number (P := (PySem.Challenge.rw_deedranks_k12_whole_wrong_texts_of_plats).prog) (w := w) (base := base) T D_is_number c_is_whole
  have c_is_name := c_is_name (P := (PySem.Challenge.rw_deedranks_k12_whole_wrong_texts_of_plats).prog) (w := w) (base := base) T D_is_name
  have c_is_cell := c_is_cell (P := (PySem.Challenge.rw_deedranks_k12_whole_wrong_texts_of_plats).prog) (w := w) (base := base) T D_is_cell c_is_number
  have c_beside := c_beside (P := (PySem.Challenge.rw_deedranks_k12_whole_wrong_texts_of_plats).prog) (w := w) (base := base) T D_beside c_is_cell
  have c_check_cells := c_check_cells (P := (PySem.Challenge.rw_deedranks_k12_whole_wrong_texts_of_plats).prog) (w := w) (base := base) T D_check_cells c_is_cell
  have c_group_of := c_group_of (P := (PySem.Challenge.rw_deedranks_k12_whole_wrong_texts_of_plats).prog) (w := w) (base := base) T D_group_of c_beside
  have c_groups := c_groups (P := (PySem.Challenge.rw_deedranks_k12_whole_wrong_texts_of_plats).prog) (w := w) (base := base) T D_groups c_group_of
  have c_pieces := c_pieces (P := (PySem.Challenge.rw_deedranks_k12_whole_wrong_texts_of_plats).prog) (w := w) (base := base) T D_pieces c_check_cells c_groups
  have c_hangs_together := c_hangs_together (P := (PySem.Challenge.rw_deedranks_k12_whole_wrong_texts_of_plats).prog) (w := w) (base := base) T D_hangs_together c_pieces
  have c_is_list := c_is_list (P := (PySem.Challenge.rw_deedranks_k12_whole_wrong_texts_of_plats).prog) (w := w) (base := base) T D_is_list
  have c_check_rows := c_check_rows (P := (PySem.Challenge.rw_deedranks_k12_whole_wrong_texts_of_plats).prog) (w := w) (base := base) T D_check_rows c_is_list c_is_name
  have c_parcels_of := c_parcels_of (P := (PySem.Challenge.rw_deedranks_k12_whole_wrong_texts_of_plats).prog) (w := w) (base := base) T D_parcels_of
  have c_is_edge := c_is_edge (P := (PySem.Challenge.rw_deedranks_k12_whole_wrong_texts_of_plats).prog) (w := w) (base := base) T D_is_edge c_is_cell
  have c_check_road := c_check_road (P := (PySem.Challenge.rw_deedranks_k12_whole_wrong_texts_of_plats).prog) (w := w) (base := base) T D_check_road c_is_edge c_is_list
  have c_borders_of := c_borders_of (P := (PySem.Challenge.rw_deedranks_k12_whole_wrong_texts_of_plats).prog) (w := w) (base := base) T D_borders_of c_beside
  have c_bare_word := c_bare_word (P := (PySem.Challenge.rw_deedranks_k12_whole_wrong_texts_of_plats).prog) (w := w) (base := base) T D_bare_word
  have c_line_fault := c_line_fault (P := (PySem.Challenge.rw_deedranks_k12_whole_wrong_texts_of_plats).prog) (w := w) (base := base) T D_line_fault c_bare_word c_is_name c_parcels_of
  have c_apart_line := c_apart_line (P := (PySem.Challenge.rw_deedranks_k12_whole_wrong_texts_of_plats).prog) (w := w) (base := base) T D_apart_line c_pieces c_parcels_of
  have c_law_is_word := c_law_is_word (P := (PySem.Challenge.rw_deedranks_k12_whole_wrong_texts_of_plats).prog) (w := w) (base := base) T D_law_is_word
  have c_law_reach := c_law_reach (P := (PySem.Challenge.rw_deedranks_k12_whole_wrong_texts_of_plats).prog) (w := w) (base := base) T D_law_reach
  have c_law_groups := c_law_groups (P := (PySem.Challenge.rw_deedranks_k12_whole_wrong_texts_of_plats).prog) (w := w) (base := base) T D_law_groups c_law_reach
  have c_law_all_cells := c_law_all_cells (P := (PySem.Challenge.rw_deedranks_k12_whole_wrong_texts_of_plats).prog) (w := w) (base := base) T D_law_all_cells
  have c_law_edge := c_law_edge (P := (PySem.Challenge.rw_deedranks_k12_whole_wrong_texts_of_plats).prog) (w := w) (base := base) T D_law_edge
  have c_law_cells_of := c_law_cells_of (P := (PySem.Challenge.rw_deedranks_k12_whole_wrong_texts_of_plats).prog) (w := w) (base := base) T D_law_cells_of c_law_all_cells
  have c_law_line_word := c_law_line_word (P := (PySem.Challenge.rw_deedranks_k12_whole_wrong_texts_of_plats).prog) (w := w) (base := base) T D_law_line_word c_law_is_word
  have c_law_four := c_law_four (P := (PySem.Challenge.rw_deedranks_k12_whole_wrong_texts_of_plats).prog) (w := w) (base := base) T D_law_four
  have c_law_read_plat := c_law_read_plat (P := (PySem.Challenge.rw_deedranks_k12_whole_wrong_texts_of_plats).prog) (w := w) (base := base) T D_law_read_plat c_law_line_word c_law_all_cells c_law_edge c_law_cells_of c_law_groups c_law_four
  have c_law_bag := c_law_bag (P := (PySem.Challenge.rw_deedranks_k12_whole_wrong_texts_of_plats).prog) (w := w) (base := base) T D_law_bag
  have c_law_draw := c_law_draw (P := (PySem.Challenge.rw_deedranks_k12_whole_wrong_texts_of_plats).prog) (w := w) (base := base) T D_law_draw
  have c_law_pick := c_law_pick (P := (PySem.Challenge.rw_deedranks_k12_whole_wrong_texts_of_plats).prog) (w := w) (base := base) T D_law_pick c_law_draw
  have c_law_word := c_law_word (P := (PySem.Challenge.rw_deedranks_k12_whole_wrong_texts_of_plats).prog) (w := w) (base := base) T D_law_word c_law_draw c_law_pick
  have c_law_names := c_law_names (P := (PySem.Challenge.rw_deedranks_k12_whole_wrong_texts_of_plats).prog) (w := w) (base := base) T D_law_names c_law_word c_law_draw c_law_pick
  have c_law_sizes := c_law_sizes (P := (PySem.Challenge.rw_deedranks_k12_whole_wrong_texts_of_plats).prog) (w := w) (base := base) T D_law_sizes c_law_draw c_law_pick
  have c_law_sides := c_law_sides (P := (PySem.Challenge.rw_deedranks_k12_whole_wrong_texts_of_plats).prog) (w := w) (base := base) T D_law_sides c_law_four
  have c_law_grown := c_law_grown (P := (PySem.Challenge.rw_deedranks_k12_whole_wrong_texts_of_plats).prog) (w := w) (base := base) T D_law_grown c_law_all_cells c_law_draw c_law_sides c_law_pick
  have c_law_map := c_law_map (P := (PySem.Challenge.rw_deedranks_k12_whole_wrong_texts_of_plats).prog) (w := w) (base := base) T D_law_map c_law_sizes c_law_draw c_law_names c_law_grown c_law_all_cells c_law_edge
  have c_law_text := c_law_text (P := (PySem.Challenge.rw_deedranks_k12_whole_wrong_texts_of_plats).prog) (w := w) (base := base) T D_law_text
  have c_law_bent_text := c_law_bent_text (P := (PySem.Challenge.rw_deedranks_k12_whole_wrong_texts_of_plats).prog) (w := w) (base := base) T D_law_bent_text c_law_text c_law_draw c_law_pick c_law_word
  obtain ⟨fi, FI⟩ := cd.def_ 48 (d := d_InvalidText_init) rfl
  have TI : InvT (PySem.Challenge.rw_deedranks_k12_whole_wrong_texts_of_plats).prog w K mg base (He.ga K "InvalidText") := ⟨_, fi, ET.ix, iC, tI, m_InvalidText_init ET.ix FI, FI.bindsN (fun _ _ _ _ _ _ us hl => match us, hl with | [_, _, _], _ => rfl), He.glo_ok X G (cd.fact 22 (f := .glo "InvalidText") rfl)⟩
  obtain ⟨fp, FP⟩ := cd.def_ 45 (d := d_Plat_init) rfl
  obtain ⟨mv, KB⟩ := FunD.kbinds0 (ps := p_Plat_init) FP 2 ["road"] [] (fun us _ ws => us ++ ws) (by simp [He.DefD.kws, d_Plat_init]) (by simp) (fun h1 _ h3 => h1.append h3) (fun D doc pm an cdv ct us mv ws h1 h2 h3 => match us, ws, mv, h1, h3, h2 with | [_, _], [_], [], _, _, _ => rfl)
  have TP : PlT (PySem.Challenge.rw_deedranks_k12_whole_wrong_texts_of_plats).prog w K mg base (He.ga K "Plat") := ⟨_, fp, _, PX, He.mkr_ok (cd.fact 26 (f := .mkr "Plat") rfl), KB, m_Plat_init T PX FP c_check_rows c_parcels_of c_hangs_together c_check_road c_borders_of, He.glo_ok X G (cd.fact 21 (f := .glo "Plat") rfl)⟩
  have c_read_plat := c_read_plat (P := (PySem.Challenge.rw_deedranks_k12_whole_wrong_texts_of_plats).prog) (w := w) (base := base) T D_read_plat TI TP c_bare_word c_line_fault c_is_edge c_apart_line
  have c_law_same := c_law_same (P := (PySem.Challenge.rw_deedranks_k12_whole_wrong_texts_of_plats).prog) (w := w) (base := base) T D_law_same 4
  have c_law_fields := c_law_fields (P := (PySem.Challenge.rw_deedranks_k12_whole_wrong_texts_of_plats).prog) (w := w) (base := base) ET.xf ET.ix D_law_fields
  have c_law_got := c_law_got (j := 11) ET D_law_got c_law_fields
  have c_law_why := c_law_why D_law_why c_law_got
  obtain ⟨fr, FR⟩ := cd.def_ 46 (d := d_Plat_rows) rfl
  obtain ⟨fo, FO⟩ := cd.def_ 47 (d := d_Plat_road) rfl
  have bR := FR.bindsN (ps := p_Plat_rows) (fun _ _ _ _ _ _ us hl => match us, hl with | [_], _ => rfl)
  have bO := FO.bindsN (ps := p_Plat_road) (fun _ _ _ _ _ _ us hl => match us, hl with | [_], _ => rfl)
  exact c_law T F hcode TB PX (He.meth_ok (cd.fact 27 (f := .meth "Plat" "rows") rfl)) (He.meth_ok (cd.fact 28 (f := .meth "Plat" "road") rfl)) (m_Plat_rows T PX FR) (m_Plat_road T PX FO) bR bO c_law_bag c_law_pick c_law_map c_law_bent_text c_law_read_plat c_law_same c_read_plat c_law_got c_law_why
end
end Dk
open PySem PySem.W PySem.Calls PyProof.Rows
theorem PySem.Challenge.cw_deedranks_k12_whole_wrong_texts_of_plats_holds : PySem.Challenge.rw_deedranks_k12_whole_wrong_texts_of_plats.Holds := by
  w_on; o_law
  refine HandSHeadRun.head_any (r := OpenLaw.row PySem.Challenge.rw_deedranks_k12_whole_wrong_texts_of_plats) (q := view (OpenLaw.row PySem.Challenge.rw_deedranks_k12_whole_wrong_texts_of_plats).prog [66]) (H := Dk.hhk) (ob := Dk.hob) (M := 20000) (loose := Dk.hnames) (d := HandSHeadRun.topDef (OpenLaw.row PySem.Challenge.rw_deedranks_k12_whole_wrong_texts_of_plats).prog 66) (kwd := []) Dk.hob_eq
    (by kernel_rfl) (fun s => by kernel_rfl) Dk.hrun (by kernel_rfl) (by kernel_rfl) (by kernel_rfl) (by rfl) (by first | assumption | decide +kernel) (by decide +kernel) ⟨rfl, rfl, rfl, rfl, rfl, by decide +kernel⟩ ?hw ?hc
  case hw => w_witness2
  case hc =>
    refine LamX.walk_ofTsE (l := PySem.Challenge.rw_deedranks_k12_whole_wrong_texts_of_plats) (n := 63) (k := 15) (x := "_law_script") (CX := fun _ => L2.CX0) rfl (by decide) (by kernel_rfl) ⟨rfl, by decide, by decide⟩ ?F (fun _ _ _ _ _ z => z)
    intro w mg fa h Y G hmg0
    obtain ⟨K, KX, c⟩ := Y
    have hmg : mg ("law" : PySem.Str) = some (.ref fa) := by
      have e : (HandSHeadRun.topDef (OpenLaw.row PySem.Challenge.rw_deedranks_k12_whole_wrong_texts_of_plats).prog 66).name = ("law" : PySem.Str) := by kernel_rfl
      rw [← e]
      exact hmg0
    exact ⟨K, KX, Dk.hfacts KX G hmg c⟩
