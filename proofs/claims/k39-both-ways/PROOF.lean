import PyProof.Rows.All
import Wide.All
import OpenK.AllK
import Wide.FinOn
import KE.KStateDown
import Lean
import HandS.ForMost
import HandS.Defaults
import HandS.Wide
import HandS.Zip
import HandS.Rev
import HandS.Flow
import HandS.Style
import HandS.TupAny
import HandS.TupMul
import HandS.NoneIn
import HandS.Conv
import HandS.SetKeys
import HandS.IsInst
import HandS.SortKw
import KE.DataMinMax
import KE.GoesEnum
import KE.GoesZip
import PyProof.InstEq
import HandS.MakeKw
import HandS.Walk
import HandS.Head0
import HandS.Head1
import HandS.Head2
import HandS.HeadEnd
import HandS.HeadHook1
import HandS.HeadHook2
import PySem.Challenge.RW_viewgrid_k39_whole_meets_both_ways
import KE.GoesEnumKw
import KE.SortData
set_option Elab.async false
set_option linter.all false
set_option maxRecDepth 100000
set_option maxHeartbeats 4000000
namespace Vg
open PySem PySem.Spec PyProof.Rows L2
/-! ### the text by places -/
def topS (i : Nat) : Stmt := PySem.Challenge.pw_viewgrid_k39_whole_meets_both_ways.main.body.getD i (.Pass ⟨0, 0, 0, 0⟩)
abbrev s_is_whole : Stmt := topS 12
def d_is_whole : He.DefD := ⟨("is_whole", none), "is_whole", "is_whole", defArgs s_is_whole, defBody s_is_whole, defScope s_is_whole, [], []⟩
abbrev s_size_of : Stmt := topS 13
def d_size_of : He.DefD := ⟨("size_of", none), "size_of", "size_of", defArgs s_size_of, defBody s_size_of, defScope s_size_of, [], []⟩
abbrev s_vet_size : Stmt := topS 14
def d_vet_size : He.DefD := ⟨("vet_size", none), "vet_size", "vet_size", defArgs s_vet_size, defBody s_vet_size, defScope s_vet_size, [], []⟩
abbrev s_vet_sides : Stmt := topS 15
def d_vet_sides : He.DefD := ⟨("vet_sides", none), "vet_sides", "vet_sides", defArgs s_vet_sides, defBody s_vet_sides, defScope s_vet_sides, [], []⟩
abbrev s_places_of : Stmt := topS 16
def d_places_of : He.DefD := ⟨("places_of", none), "places_of", "places_of", defArgs s_places_of, defBody s_places_of, defScope s_places_of, [], []⟩
abbrev s_whole_place : Stmt := topS 17
def d_whole_place : He.DefD := ⟨("whole_place", none), "whole_place", "whole_place", defArgs s_whole_place, defBody s_whole_place, defScope s_whole_place, [], []⟩
abbrev s_dense_strides : Stmt := topS 18
def d_dense_strides : He.DefD := ⟨("dense_strides", none), "dense_strides", "dense_strides", defArgs s_dense_strides, defBody s_dense_strides, defScope s_dense_strides, [], []⟩
abbrev s_Page_init : Stmt := inClass (topS 21) 0
def d_Page_init : He.DefD := ⟨("Page", some "__init__"), "__init__", "Page.__init__", defArgs s_Page_init, defBody s_Page_init, defScope s_Page_init, [], []⟩
abbrev s_Room_init : Stmt := inClass (topS 22) 0
def d_Room_init : He.DefD := ⟨("Room", some "__init__"), "__init__", "Room.__init__", defArgs s_Room_init, defBody s_Room_init, defScope s_Room_init, [.adr (He.dflAt ("Room", some "__init__") 0)], [("page", .int 8)]⟩
abbrev s_Room_len : Stmt := inClass (topS 22) 1
def d_Room_len : He.DefD := ⟨("Room", some "__len__"), "__len__", "Room.__len__", defArgs s_Room_len, defBody s_Room_len, defScope s_Room_len, [], []⟩
abbrev s_Room_need : Stmt := inClass (topS 22) 2
def d_Room_need : He.DefD := ⟨("Room", some "need"), "need", "Room.need", defArgs s_Room_need, defBody s_Room_need, defScope s_Room_need, [], []⟩
abbrev s_Room_read : Stmt := inClass (topS 22) 3
def d_Room_read : He.DefD := ⟨("Room", some "read"), "read", "Room.read", defArgs s_Room_read, defBody s_Room_read, defScope s_Room_read, [], []⟩
abbrev s_Room_own_page : Stmt := inClass (topS 22) 4
def d_Room_own_page : He.DefD := ⟨("Room", some "own_page"), "own_page", "Room.own_page", defArgs s_Room_own_page, defBody s_Room_own_page, defScope s_Room_own_page, [], []⟩
abbrev s_Room_write : Stmt := inClass (topS 22) 5
def d_Room_write : He.DefD := ⟨("Room", some "write"), "write", "Room.write", defArgs s_Room_write, defBody s_Room_write, defScope s_Room_write, [], []⟩
abbrev s_Room_twin : Stmt := inClass (topS 22) 7
def d_Room_twin : He.DefD := ⟨("Room", some "twin"), "twin", "Room.twin", defArgs s_Room_twin, defBody s_Room_twin, defScope s_Room_twin, [], []⟩
abbrev s_vet_strides : Stmt := topS 25
def d_vet_strides : He.DefD := ⟨("vet_strides", none), "vet_strides", "vet_strides", defArgs s_vet_strides, defBody s_vet_strides, defScope s_vet_strides, [], []⟩
abbrev s_cells_by : Stmt := topS 26
def d_cells_by : He.DefD := ⟨("cells_by", none), "cells_by", "cells_by", defArgs s_cells_by, defBody s_cells_by, defScope s_cells_by, [], []⟩
abbrev s_vet_cells : Stmt := topS 27
def d_vet_cells : He.DefD := ⟨("vet_cells", none), "vet_cells", "vet_cells", defArgs s_vet_cells, defBody s_vet_cells, defScope s_vet_cells, [], []⟩
abbrev s_View_init : Stmt := inClass (topS 28) 0
def d_View_init : He.DefD := ⟨("View", some "__init__"), "__init__", "View.__init__", defArgs s_View_init, defBody s_View_init, defScope s_View_init, [.non], [("first", .int 0), ("strides", .non)]⟩
abbrev s_View_tell : Stmt := inClass (topS 28) 1
def d_View_tell : He.DefD := ⟨("View", some "tell"), "tell", "View.tell", defArgs s_View_tell, defBody s_View_tell, defScope s_View_tell, [], []⟩
abbrev s_View_room : Stmt := inClass (topS 28) 2
def d_View_room : He.DefD := ⟨("View", some "room"), "room", "View.room", defArgs s_View_room, defBody s_View_room, defScope s_View_room, [], []⟩
abbrev s_View_sides : Stmt := inClass (topS 28) 3
def d_View_sides : He.DefD := ⟨("View", some "sides"), "sides", "View.sides", defArgs s_View_sides, defBody s_View_sides, defScope s_View_sides, [], []⟩
abbrev s_View_first : Stmt := inClass (topS 28) 4
def d_View_first : He.DefD := ⟨("View", some "first"), "first", "View.first", defArgs s_View_first, defBody s_View_first, defScope s_View_first, [], []⟩
abbrev s_View_strides : Stmt := inClass (topS 28) 5
def d_View_strides : He.DefD := ⟨("View", some "strides"), "strides", "View.strides", defArgs s_View_strides, defBody s_View_strides, defScope s_View_strides, [], []⟩
abbrev s_View_cells : Stmt := inClass (topS 28) 6
def d_View_cells : He.DefD := ⟨("View", some "cells"), "cells", "View.cells", defArgs s_View_cells, defBody s_View_cells, defScope s_View_cells, [], []⟩
abbrev s_View_cell : Stmt := inClass (topS 28) 7
def d_View_cell : He.DefD := ⟨("View", some "cell"), "cell", "View.cell", defArgs s_View_cell, defBody s_View_cell, defScope s_View_cell, [], []⟩
abbrev s_View_at : Stmt := inClass (topS 28) 8
def d_View_at : He.DefD := ⟨("View", some "at"), "at", "View.at", defArgs s_View_at, defBody s_View_at, defScope s_View_at, [], []⟩
abbrev s_View_put : Stmt := inClass (topS 28) 9
def d_View_put : He.DefD := ⟨("View", some "put"), "put", "View.put", defArgs s_View_put, defBody s_View_put, defScope s_View_put, [], []⟩
abbrev s_View_numbers : Stmt := inClass (topS 28) 10
def d_View_numbers : He.DefD := ⟨("View", some "numbers"), "numbers", "View.numbers", defArgs s_View_numbers, defBody s_View_numbers, defScope s_View_numbers, [], []⟩
abbrev s_View_twin : Stmt := inClass (topS 28) 16
def d_View_twin : He.DefD := ⟨("View", some "twin"), "twin", "View.twin", defArgs s_View_twin, defBody s_View_twin, defScope s_View_twin, [], []⟩
abbrev s_plain_view : Stmt := topS 29
def d_plain_view : He.DefD := ⟨("plain_view", none), "plain_view", "plain_view", defArgs s_plain_view, defBody s_plain_view, defScope s_plain_view, [], []⟩
abbrev s_whole_box : Stmt := topS 31
def d_whole_box : He.DefD := ⟨("whole_box", none), "whole_box", "whole_box", defArgs s_whole_box, defBody s_whole_box, defScope s_whole_box, [], []⟩
abbrev s_is_bare : Stmt := topS 32
def d_is_bare : He.DefD := ⟨("is_bare", none), "is_bare", "is_bare", defArgs s_is_bare, defBody s_is_bare, defScope s_is_bare, [], []⟩
abbrev s_first_cell : Stmt := topS 33
def d_first_cell : He.DefD := ⟨("first_cell", none), "first_cell", "first_cell", defArgs s_first_cell, defBody s_first_cell, defScope s_first_cell, [], []⟩
abbrev s_span_of : Stmt := topS 34
def d_span_of : He.DefD := ⟨("span_of", none), "span_of", "span_of", defArgs s_span_of, defBody s_span_of, defScope s_span_of, [], []⟩
abbrev s_strides_within : Stmt := topS 35
def d_strides_within : He.DefD := ⟨("strides_within", none), "strides_within", "strides_within", defArgs s_strides_within, defBody s_strides_within, defScope s_strides_within, [], []⟩
abbrev s_common_divisor : Stmt := topS 36
def d_common_divisor : He.DefD := ⟨("common_divisor", none), "common_divisor", "common_divisor", defArgs s_common_divisor, defBody s_common_divisor, defScope s_common_divisor, [], []⟩
abbrev s_halves_of : Stmt := topS 37
def d_halves_of : He.DefD := ⟨("halves_of", none), "halves_of", "halves_of", defArgs s_halves_of, defBody s_halves_of, defScope s_halves_of, [], []⟩
abbrev s_halved : Stmt := topS 38
def d_halved : He.DefD := ⟨("halved", none), "halved", "halved", defArgs s_halved, defBody s_halved, defScope s_halved, [], []⟩
abbrev s_widest_side : Stmt := topS 39
def d_widest_side : He.DefD := ⟨("widest_side", none), "widest_side", "widest_side", defArgs s_widest_side, defBody s_widest_side, defScope s_widest_side, [], []⟩
abbrev s_leaf_of : Stmt := topS 40
def d_leaf_of : He.DefD := ⟨("leaf_of", none), "leaf_of", "leaf_of", defArgs s_leaf_of, defBody s_leaf_of, defScope s_leaf_of, [], []⟩
abbrev s_cuts_between : Stmt := topS 41
def d_cuts_between : He.DefD := ⟨("cuts_between", none), "cuts_between", "cuts_between", defArgs s_cuts_between, defBody s_cuts_between, defScope s_cuts_between, [], []⟩
abbrev s_meeting : Stmt := topS 42
def d_meeting : He.DefD := ⟨("meeting", none), "meeting", "meeting", defArgs s_meeting, defBody s_meeting, defScope s_meeting, [], []⟩
abbrev s_twice_in : Stmt := topS 43
def d_twice_in : He.DefD := ⟨("twice_in", none), "twice_in", "twice_in", defArgs s_twice_in, defBody s_twice_in, defScope s_twice_in, [], []⟩
abbrev s_unlike_rows : Stmt := topS 44
def d_unlike_rows : He.DefD := ⟨("unlike_rows", none), "unlike_rows", "unlike_rows", defArgs s_unlike_rows, defBody s_unlike_rows, defScope s_unlike_rows, [], []⟩
abbrev s_unlike_cells : Stmt := topS 45
def d_unlike_cells : He.DefD := ⟨("unlike_cells", none), "unlike_cells", "unlike_cells", defArgs s_unlike_cells, defBody s_unlike_cells, defScope s_unlike_cells, [], []⟩
abbrev s_is_so : Stmt := topS 47
def d_is_so : He.DefD := ⟨("is_so", none), "is_so", "is_so", defArgs s_is_so, defBody s_is_so, defScope s_is_so, [], []⟩
abbrev s_are_whole : Stmt := topS 48
def d_are_whole : He.DefD := ⟨("are_whole", none), "are_whole", "are_whole", defArgs s_are_whole, defBody s_are_whole, defScope s_are_whole, [], []⟩
abbrev s_is_told_place : Stmt := topS 49
def d_is_told_place : He.DefD := ⟨("is_told_place", none), "is_told_place", "is_told_place", defArgs s_is_told_place, defBody s_is_told_place, defScope s_is_told_place, [], []⟩
abbrev s_is_number_below : Stmt := topS 50
def d_is_number_below : He.DefD := ⟨("is_number_below", none), "is_number_below", "is_number_below", defArgs s_is_number_below, defBody s_is_number_below, defScope s_is_number_below, [], []⟩
abbrev s_leaf_right : Stmt := topS 51
def d_leaf_right : He.DefD := ⟨("leaf_right", none), "leaf_right", "leaf_right", defArgs s_leaf_right, defBody s_leaf_right, defScope s_leaf_right, [], []⟩
abbrev s_cut_of : Stmt := topS 52
def d_cut_of : He.DefD := ⟨("cut_of", none), "cut_of", "cut_of", defArgs s_cut_of, defBody s_cut_of, defScope s_cut_of, [], []⟩
abbrev s_are_later : Stmt := topS 53
def d_are_later : He.DefD := ⟨("are_later", none), "are_later", "are_later", defArgs s_are_later, defBody s_are_later, defScope s_are_later, [], []⟩
abbrev s_split_boxes : Stmt := topS 54
def d_split_boxes : He.DefD := ⟨("split_boxes", none), "split_boxes", "split_boxes", defArgs s_split_boxes, defBody s_split_boxes, defScope s_split_boxes, [], []⟩
abbrev s_cuts_right : Stmt := topS 55
def d_cuts_right : He.DefD := ⟨("cuts_right", none), "cuts_right", "cuts_right", defArgs s_cuts_right, defBody s_cuts_right, defScope s_cuts_right, [], []⟩
abbrev s_cuts_hold : Stmt := topS 56
def d_cuts_hold : He.DefD := ⟨("cuts_hold", none), "cuts_hold", "cuts_hold", defArgs s_cuts_hold, defBody s_cuts_hold, defScope s_cuts_hold, [], []⟩
abbrev s_is_single : Stmt := topS 57
def d_is_single : He.DefD := ⟨("is_single", none), "is_single", "is_single", defArgs s_is_single, defBody s_is_single, defScope s_is_single, [], []⟩
abbrev s_unlike_right : Stmt := topS 58
def d_unlike_right : He.DefD := ⟨("unlike_right", none), "unlike_right", "unlike_right", defArgs s_unlike_right, defBody s_unlike_right, defScope s_unlike_right, [], []⟩
abbrev s_unlike_holds : Stmt := topS 59
def d_unlike_holds : He.DefD := ⟨("unlike_holds", none), "unlike_holds", "unlike_holds", defArgs s_unlike_holds, defBody s_unlike_holds, defScope s_unlike_holds, [], []⟩
abbrev s__law_purse : Stmt := topS 61
def d__law_purse : He.DefD := ⟨("_law_purse", none), "_law_purse", "_law_purse", defArgs s__law_purse, defBody s__law_purse, defScope s__law_purse, [], []⟩
abbrev s__law_take : Stmt := topS 62
def d__law_take : He.DefD := ⟨("_law_take", none), "_law_take", "_law_take", defArgs s__law_take, defBody s__law_take, defScope s__law_take, [], []⟩
abbrev s__law_places : Stmt := topS 63
def d__law_places : He.DefD := ⟨("_law_places", none), "_law_places", "_law_places", defArgs s__law_places, defBody s__law_places, defScope s__law_places, [], []⟩
abbrev s__law_cells : Stmt := topS 64
def d__law_cells : He.DefD := ⟨("_law_cells", none), "_law_cells", "_law_cells", defArgs s__law_cells, defBody s__law_cells, defScope s__law_cells, [], []⟩
abbrev s__law_lengths : Stmt := topS 65
def d__law_lengths : He.DefD := ⟨("_law_lengths", none), "_law_lengths", "_law_lengths", defArgs s__law_lengths, defBody s__law_lengths, defScope s__law_lengths, [], []⟩
abbrev s__law_number : Stmt := topS 66
def d__law_number : He.DefD := ⟨("_law_number", none), "_law_number", "_law_number", defArgs s__law_number, defBody s__law_number, defScope s__law_number, [], []⟩
abbrev s__law_steps : Stmt := topS 67
def d__law_steps : He.DefD := ⟨("_law_steps", none), "_law_steps", "_law_steps", defArgs s__law_steps, defBody s__law_steps, defScope s__law_steps, [], []⟩
abbrev s__law_reach : Stmt := topS 68
def d__law_reach : He.DefD := ⟨("_law_reach", none), "_law_reach", "_law_reach", defArgs s__law_reach, defBody s__law_reach, defScope s__law_reach, [], []⟩
abbrev s__law_room : Stmt := topS 69
def d__law_room : He.DefD := ⟨("_law_room", none), "_law_room", "_law_room", defArgs s__law_room, defBody s__law_room, defScope s__law_room, [], []⟩
abbrev s__law_look : Stmt := topS 70
def d__law_look : He.DefD := ⟨("_law_look", none), "_law_look", "_law_look", defArgs s__law_look, defBody s__law_look, defScope s__law_look, [], []⟩
abbrev s__law_pair : Stmt := topS 71
def d__law_pair : He.DefD := ⟨("_law_pair", none), "_law_pair", "_law_pair", defArgs s__law_pair, defBody s__law_pair, defScope s__law_pair, [], []⟩
abbrev s__law_some : Stmt := topS 72
def d__law_some : He.DefD := ⟨("_law_some", none), "_law_some", "_law_some", defArgs s__law_some, defBody s__law_some, defScope s__law_some, [], []⟩
abbrev s__law_table : Stmt := topS 73
def d__law_table : He.DefD := ⟨("_law_table", none), "_law_table", "_law_table", defArgs s__law_table, defBody s__law_table, defScope s__law_table, [], []⟩
abbrev s__law_meets : Stmt := topS 74
def d__law_meets : He.DefD := ⟨("_law_meets", none), "_law_meets", "_law_meets", defArgs s__law_meets, defBody s__law_meets, defScope s__law_meets, [], []⟩
abbrev s__law_seen : Stmt := topS 75
def d__law_seen : He.DefD := ⟨("_law_seen", none), "_law_seen", "_law_seen", defArgs s__law_seen, defBody s__law_seen, defScope s__law_seen, [], []⟩
abbrev s__law_unseen : Stmt := topS 76
def d__law_unseen : He.DefD := ⟨("_law_unseen", none), "_law_unseen", "_law_unseen", defArgs s__law_unseen, defBody s__law_unseen, defScope s__law_unseen, [], []⟩
abbrev s__law_right : Stmt := topS 77
def d__law_right : He.DefD := ⟨("_law_right", none), "_law_right", "_law_right", defArgs s__law_right, defBody s__law_right, defScope s__law_right, [], []⟩
abbrev s__law_strange : Stmt := topS 78
def d__law_strange : He.DefD := ⟨("_law_strange", none), "_law_strange", "_law_strange", defArgs s__law_strange, defBody s__law_strange, defScope s__law_strange, [], []⟩
abbrev s_law : Stmt := topS 79
def d_law : He.DefD := ⟨("law", none), "law", "law", defArgs s_law, defBody s_law, defScope s_law, [], []⟩
def FN : List He.DefD := [d_is_whole, d_size_of, d_vet_size, d_vet_sides, d_places_of, d_whole_place, d_dense_strides, d_Page_init, d_Room_init, d_Room_len, d_Room_need, d_Room_read, d_Room_own_page, d_Room_write, d_Room_twin, d_vet_strides, d_cells_by, d_vet_cells, d_View_init, d_View_tell, d_View_room, d_View_sides, d_View_first, d_View_strides, d_View_cells, d_View_cell, d_View_at, d_View_put, d_View_numbers, d_View_twin, d_plain_view, d_whole_box, d_is_bare, d_first_cell, d_span_of, d_strides_within, d_common_divisor, d_halves_of, d_halved, d_widest_side, d_leaf_of, d_cuts_between, d_meeting, d_twice_in, d_unlike_rows, d_unlike_cells, d_is_so, d_are_whole, d_is_told_place, d_is_number_below, d_leaf_right, d_cut_of, d_are_later, d_split_boxes, d_cuts_right, d_cuts_hold, d_is_single, d_unlike_right, d_unlike_holds, d__law_purse, d__law_take, d__law_places, d__law_cells, d__law_lengths, d__law_number, d__law_steps, d__law_reach, d__law_room, d__law_look, d__law_pair, d__law_some, d__law_table, d__law_meets, d__law_seen, d__law_unseen, d__law_right, d__law_strange, d_law]
def GLO : List PySem.Str := (["is_whole", "size_of", "vet_size", "vet_sides", "places_of", "whole_place", "dense_strides", "vet_strides", "cells_by", "vet_cells", "plain_view", "whole_box", "is_bare", "first_cell", "span_of", "strides_within", "common_divisor", "halves_of", "halved", "widest_side", "leaf_of", "cuts_between", "meeting", "twice_in", "unlike_rows", "unlike_cells", "is_so", "are_whole", "is_told_place", "is_number_below"] : List PySem.Str) ++ ((["leaf_right", "cut_of", "are_later", "split_boxes", "cuts_right", "cuts_hold", "is_single", "unlike_right", "unlike_holds", "_law_purse", "_law_take", "_law_places", "_law_cells", "_law_lengths", "_law_number", "_law_steps", "_law_reach", "_law_room", "_law_look", "_law_pair", "_law_some", "_law_table", "_law_meets", "_law_seen", "_law_unseen", "_law_right", "_law_strange", "law", "Page", "Room"] : List PySem.Str) ++ (["View"] : List PySem.Str))
def FREE : List PySem.Str := ["len", "range", "isinstance", "max", "min", "zip", "tuple", "list", "sum", "any", "all", "enumerate", "reversed", "abs", "int", "bool", "str", "set"]
def NOAT : List (PySem.Str × PySem.Str) := [("Page", "kept"), ("Page", "holders"), ("Room", "many"), ("Room", "width"), ("Room", "pages"), ("Room", "copies"), ("Room", "shuts"), ("View", "held"), ("View", "lengths"), ("View", "begin"), ("View", "steps")]
def METH : List (PySem.Str × PySem.Str) := [("Page", "__init__"), ("Room", "__init__"), ("Room", "__len__"), ("Room", "need"), ("Room", "read"), ("Room", "own_page"), ("Room", "write"), ("Room", "twin"), ("View", "__init__"), ("View", "tell"), ("View", "room"), ("View", "sides"), ("View", "first"), ("View", "strides"), ("View", "cells"), ("View", "cell"), ("View", "at"), ("View", "put"), ("View", "numbers"), ("View", "twin")]
abbrev CRoom (K : PySem.W.Frag) : Addr := He.ga K "Room"
abbrev CView (K : PySem.W.Frag) : Addr := He.ga K "View"
abbrev CPage (K : PySem.W.Frag) : Addr := He.ga K "Page"
/-- what the top leaves -/
structure Txt (K : PySem.W.Frag) (mg : Str → Option Value) : Prop where
  fn : ∀ d ∈ FN, ∃ fd, FunD K d.name d.qual d.params d.body d.scope (d.dvs K) (d.kws K) (He.fAd K d.at_) fd
  glo : ∀ x ∈ GLO, mg x = some (.ref (He.ga K x))
  fre : ∀ x ∈ FREE, mg x = none
  i_MOST_SIDES : ∃ t, mg "MOST_SIDES" = some (.int 5 t)
  i_MOST_PLACES : ∃ t, mg "MOST_PLACES" = some (.int 600 t)
  i_PAGE : ∃ t, mg "PAGE" = some (.int 8 t)
  i_MOST_STRIDE : ∃ t, mg "MOST_STRIDE" = some (.int 600 t)
  clR : Cls K (CRoom K)
  clV : Cls K (CView K)
  clP : Cls K (CPage K)
  mkR : Mk K (CRoom K) (He.ma K (CRoom K) "__init__")
  mkV : Mk K (CView K) (He.ma K (CView K) "__init__")
  mkP : Mk K (CPage K) (He.ma K (CPage K) "__init__")
  nRV : CRoom K ≠ CView K
  nRP : CRoom K ≠ CPage K
  nVP : CView K ≠ CPage K
  noat : ∀ p ∈ NOAT, NoAttr K (He.ga K p.1) p.2
  meth : ∀ p ∈ METH, Meth K (He.ga K p.1) p.2 (He.ma K (He.ga K p.1) p.2)
  cmpR : ∀ h : Heap, K.In h → ∃ (nm q : Str) (N : Addr) (bs : List Value) (hdct : Bool) (sn : List Str) (sub : List Value) (ab : Bool) (col : Option Bool) (dd : Option Addr) (k0 k1 k2 k3 k5 : Option Value) (newId : String) (mN : Str → Option Value),
    h.get? (CRoom K) = some (excClassObj nm q (CRoom K) N bs [.type "object"] hdct sn sub ab col dd k0 k1 k2 k3 k5 newId) ∧ h.Ns N mN ∧ mN "__eq__" = none ∧ mN "__ne__" = none
theorem Txt.free {K : PySem.W.Frag} {mg : Str → Option Value} (T : Txt K mg) (x : Str) (h : x ∈ FREE := by decide +kernel) : mg x = none := T.fre x h
theorem Txt.na {K : PySem.W.Frag} {mg : Str → Option Value} (T : Txt K mg) (c x : Str) (h : (c, x) ∈ NOAT := by decide +kernel) : NoAttr K (He.ga K c) x := T.noat (c, x) h
theorem Txt.mt {K : PySem.W.Frag} {mg : Str → Option Value} (T : Txt K mg) (c x : Str) (h : (c, x) ∈ METH := by decide +kernel) : Meth K (He.ga K c) x (He.ma K (He.ga K c) x) := T.meth (c, x) h
section
variable {P : Program} {w : World} {K : PySem.W.Frag} {mg : Str → Option Value} {base : Heap}
/-- a def of the module keeps a promise -/
def GF (P : Program) (w : World) (K : PySem.W.Frag) (mg : Str → Option Value) (base : Heap) (k : Nat) (x : Str) (ps : List Str) (sp : Sp) : Prop :=
  ∃ f fd, FnOk P w K mg base CX0 k f fd ps sp ∧ mg x = some (.ref f) ∧ PySem.W.keepIn K (.ref f) = true ∧ Binds K fd ps []
/-- a method of a class keeps one -/
def GM (P : Program) (w : World) (K : PySem.W.Frag) (mg : Str → Option Value) (base : Heap) (k : Nat) (C : Addr) (m : Str) (ps : List Str) (sp : Sp) : Prop :=
  ∃ f fd, FnOk P w K mg base CX0 k f fd ps sp ∧ Cls K C ∧ Meth K C m f ∧ Binds K fd ps []
theorem gf_of (T : Txt K mg) {d : He.DefD} {x : Str} {N ps : List Str} {k : Nat} {sp : Sp} (ha : d.at_ = (x, none)) (hdf : d.dfl = []) (hkw : d.kwd = []) {i : Nat} (hd : FN[i]? = some d) (hx : x ∈ GLO) (S : FnScope N ps d.scope)
    (hb : ∀ (kV doc pm : Value) (an : Option Addr) (cdv ct : Value) (us : List Value), us.length = ps.length → bindArgs (PySem.W.fnOf d.name d.qual d.params d.body d.scope .none kV doc pm an cdv ct) ⟨us, []⟩ = pure (ps.zip us))
    (len : ∀ vs H Q E, sp vs H Q E → vs.length = ps.length)
    (hbody : ∀ (cdv : Value) (A : Around) (outer : List Env) (s : Shared) (H : Hp) (vs : List V) (Q : VK) (E : XK), Room k (A.deeper (envOfC d.qual d.scope s.heap.objs.size (He.fAd K d.at_) cdv)) → sp vs H Q E →
      ∃ t, PSs (cxOf CX0 P w K mg base N d.qual d.scope (He.fAd K d.at_) cdv A outer s H E).nox d.body t ∧ t { nx := fun _ H' => Q .non H', rt := Q } (start N vs) H) : GF P w K mg base (k + 1) x ps sp := by
  obtain ⟨fd, F⟩ := T.fn d (List.mem_of_getElem? hd)
  have e1 : d.dvs K = [] := by unfold He.DefD.dvs; rw [hdf]; rfl
  rw [e1] at F
  have e2 : d.kws K = [] := by unfold He.DefD.kws; rw [hkw]; rfl
  rw [e2] at F
  have e3 : He.fAd K d.at_ = He.ga K x := by rw [ha]; rfl
  refine ⟨He.fAd K d.at_, fd, F.ok S len (fun cdv A outer s H vs Q E hr h => ?_), (T.glo x hx).trans (by rw [e3]), F.kp, F.bindsN hb⟩
  obtain ⟨t, q1, q2⟩ := hbody cdv A outer s H vs Q E hr h
  exact ⟨t, q1.nox, q2⟩
theorem gm_of (T : Txt K mg) {d : He.DefD} {x m : Str} {N ps : List Str} {k : Nat} {sp : Sp} (ha : d.at_ = (x, some m)) (hdf : d.dfl = []) (hkw : d.kwd = []) (hcl : Cls K (He.ga K x)) {i : Nat} (hd : FN[i]? = some d) (hx : (x, m) ∈ METH) (S : FnScope N ps d.scope)
    (hb : ∀ (kV doc pm : Value) (an : Option Addr) (cdv ct : Value) (us : List Value), us.length = ps.length → bindArgs (PySem.W.fnOf d.name d.qual d.params d.body d.scope .none kV doc pm an cdv ct) ⟨us, []⟩ = pure (ps.zip us))
    (len : ∀ vs H Q E, sp vs H Q E → vs.length = ps.length)
    (hbody : ∀ (cdv : Value) (A : Around) (outer : List Env) (s : Shared) (H : Hp) (vs : List V) (Q : VK) (E : XK), Room k (A.deeper (envOfC d.qual d.scope s.heap.objs.size (He.fAd K d.at_) cdv)) → sp vs H Q E →
      ∃ t, PSs (cxOf CX0 P w K mg base N d.qual d.scope (He.fAd K d.at_) cdv A outer s H E).nox d.body t ∧ t { nx := fun _ H' => Q .non H', rt := Q } (start N vs) H) : GM P w K mg base (k + 1) (He.ga K x) m ps sp := by
  obtain ⟨fd, F⟩ := T.fn d (List.mem_of_getElem? hd)
  have e1 : d.dvs K = [] := by unfold He.DefD.dvs; rw [hdf]; rfl
  rw [e1] at F
  have e2 : d.kws K = [] := by unfold He.DefD.kws; rw [hkw]; rfl
  rw [e2] at F
  have e3 : He.fAd K d.at_ = He.ma K (He.ga K x) m := by rw [ha]; rfl
  refine ⟨He.fAd K d.at_, fd, F.ok S len (fun cdv A outer s H vs Q E hr h => ?_), hcl, (by rw [e3]; exact T.meth (x, m) hx), F.bindsN hb⟩
  obtain ⟨t, q1, q2⟩ := hbody cdv A outer s H vs Q E hr h
  exact ⟨t, q1.nox, q2⟩
end
section
variable {X : Cx} {k : Nat} {C : Addr} {ps : List Str} {sp : Sp} {x m : Str} {p pos apos : Pos} {e o : Expr} {es : List Expr} {ta : TE} {t : TA}
theorem pe_callG (G : GF X.prog X.w X.K X.mg X.base k x ps sp) (hr : Room k X.A) (hg : Gl X x) (ha : PA X (e :: es) t) (hdb : (x == ("__debug__" : Str)) = false := by decide)
    (he : starEach (e :: es) X.env = (false, eval e X.env) :: starEach es X.env := by rfl) (hpl : (backTo pos (starEach es X.env)).any (·.1) = false := by rfl) : PE X (.Call (.Name x p) (e :: es) [] pos) (tCall sp [] E0 t) := by
  obtain ⟨f, fd, F, hm, kp, b⟩ := G
  exact pe_call F hr hg hm kp b .nil pass0 ha hdb he hpl
theorem pe_methG {pl : Sem Bool} (G : GM X.prog X.w X.K X.mg X.base k C m ps sp) (hr : Room k X.A) (ho : PE X o ta) (ha : PA X (e :: es) t)
    (hst : starEach (e :: es) X.env = (false, eval e X.env) :: starEach es X.env := by rfl) (hpl : (backTo pos (starEach es X.env)).any (·.1) = false := by rfl)
    (ht : eval (.Call (.Attribute o m apos) (e :: es) [] pos) X.env = (do
      let ov ← eval o X.env
      standAt apos.atName
      let (f, first) ← holding [ov] (getMethod ov m pl)
      callWith pos f first (backTo pos (starEach (e :: es) X.env)) (backToKw pos (keywordEach [] X.env))) := by rfl) :
    PE X (.Call (.Attribute o m apos) (e :: es) [] pos) (tMeth C m sp [] E0 ta t) := by
  obtain ⟨f, fd, F, hc, hm, b⟩ := G
  exact pe_meth (pl := pl) ho hc hm F hr b .nil pass0 ha hst hpl ht
theorem pe_methG0 {pl : Sem Bool} (G : GM X.prog X.w X.K X.mg X.base k C m ps sp) (hr : Room k X.A) (ho : PE X o ta)
    (ht : eval (.Call (.Attribute o m apos) [] [] pos) X.env = (do
      let ov ← eval o X.env
      standAt apos.atName
      let (f, first) ← holding [ov] (getMethod ov m pl)
      callWith pos f first (backTo pos (starEach [] X.env)) (backToKw pos (keywordEach [] X.env))) := by rfl) :
    PE X (.Call (.Attribute o m apos) [] [] pos) (tMeth C m sp [] E0 ta tNil) := by
  obtain ⟨f, fd, F, hc, hm, b⟩ := G
  exact pe_meth0 (pl := pl) ho hc hm F hr b .nil pass0 ht
theorem pe_int_glob {i : Int} (hg : Gl X x) (hm : ∃ t, X.mg x = some (.int i t)) (hd : (x == ("__debug__" : Str)) = false := by decide) : PE X (.Name x pos) (tC (.int i)) := by
  obtain ⟨t, hm⟩ := hm
  exact pe_glob hg hm ⟨t, rfl⟩ hd
end
end Vg

set_option Elab.async false
set_option linter.all false
set_option maxRecDepth 100000
set_option maxHeartbeats 0
namespace Vg
open PySem PySem.Spec PyProof.Rows L2
/-! ### the head: what the top leaves, by one run -/
def FA : List He.Fa := GLO.map He.Fa.glo ++ (FREE.map He.Fa.free ++ (NOAT.map (fun p => He.Fa.noat p.1 p.2) ++ (METH.map (fun p => He.Fa.meth p.1 p.2) ++
  [.int "MOST_SIDES" 5, .int "MOST_PLACES" 600, .int "PAGE" 8, .int "MOST_STRIDE" 600, .cls "Room", .cls "View", .cls "Page", .mkr "Room", .mkr "View", .mkr "Page", .noat "View" "need", .noat "Page" "need", .noat "Page" "tell"])))
/-- a class of instances that are compared by what they are -/
def cmpB (K : PySem.W.Frag) (C : Addr) : Bool := match K.lookup C with
  | some ⟨.type "type", _, .cls cd, sl⟩ => (match cd.mro, sl.toList with
    | [.ref C', .type "object"], [_, _, _, _, some (.builtin _), _] => decide (C' = C) && (!cd.hasDel && (PySem.W.nsOkIn K cd.ns && (He.eqO (PySem.W.nsIn K cd.ns "__eq__") (some none) && He.eqO (PySem.W.nsIn K cd.ns "__ne__") (some none))))
    | _, _ => false)
  | _ => false
def lookX (K : PySem.W.Frag) : He.AlD × Bool := (He.obsD FA FN K, cmpB K (He.ga K "Room"))
def refsX (o : Obj) : List Addr := match o.data with
  | .dict es _ => es.toList.flatMap fun e => He.refV e.val
  | .func fd => He.refV fd.code ++ (He.refV fd.defaults ++ He.refV fd.kwdefaults)
  | .cls cd => [cd.ns]
  | _ => []
/-- the addresses that the module's names reach in n steps, by levels -/
def levX (g : Addr → Option Obj) : Nat → List Addr
  | 0 => [mainGlobals]
  | n + 1 => (levX g n).flatMap fun a => match g a with
    | some o => refsX o
    | none => []
def asX (g : Addr → Option Obj) : List Addr := levX g 0 ++ (levX g 1 ++ (levX g 2 ++ (levX g 3 ++ levX g 4)))
def obX (g : Addr → Option Obj) : He.AlD × Bool := lookX (He.frG g (asX g))
def hkX : PySem.W.Hook where
  α := He.AlD × Bool
  obs := fun s => obX s.heap.get?
  val := fun _ => (He.valD FN, true)
  says := fun _ h => ∃ K : PySem.W.Frag, K.In h ∧ lookX K = (He.valD FN, true)
  of := fun _ _ e => ⟨_, He.frG_in, e⟩
  keeps := fun _ _ _ ⟨K, hK, c⟩ k => ⟨K, PySem.W.Frag.In.keeps hK k, c⟩
abbrev RR0 : PySem.W.OpenRow := PySem.W.OpenLaw.row PySem.Challenge.rw_viewgrid_k39_whole_meets_both_ways
def ob (s : PySem.W.SharedT) : He.AlD × Bool := obX (HandSHeadRun.getT s)
theorem ob_eq (s : PySem.W.SharedT) : ob s = hkX.obs s.abs := by
  have e : HandSHeadRun.getT s = s.abs.heap.get? := funext (HandSHeadRun.getT_eq s)
  show obX (HandSHeadRun.getT s) = obX s.abs.heap.get?
  rw [e]
def loose : List PySem.Str := (["_wall", "NoSides", "NoStrides", "OutOfRoom", "NoPlace", "NoCell", "TooGreat", "Shut", "MOST_SIDES", "MOST_PLACES", "is_whole", "size_of", "vet_size", "vet_sides", "places_of", "whole_place", "dense_strides", "PAGE", "Page", "Room", "MOST_STRIDE", "vet_strides", "cells_by", "vet_cells", "View", "plain_view", "whole_box", "is_bare", "first_cell", "span_of"] : List PySem.Str) ++ (["strides_within", "common_divisor", "halves_of", "halved", "widest_side", "leaf_of", "cuts_between", "meeting", "twice_in", "unlike_rows", "unlike_cells", "is_so", "are_whole", "is_told_place", "is_number_below", "leaf_right", "cut_of", "are_later", "split_boxes", "cuts_right", "cuts_hold", "is_single", "unlike_right", "unlike_holds", "_law_purse", "_law_take", "_law_places", "_law_cells", "_law_lengths", "_law_number"] : List PySem.Str) ++ (["_law_steps", "_law_reach", "_law_room", "_law_look", "_law_pair", "_law_some", "_law_table", "_law_meets", "_law_seen", "_law_unseen", "_law_right", "_law_strange"] : List PySem.Str)
theorem run (w : World) : HandSHeadRun.RunEq RR0 (PySem.W.view RR0.prog [79]) hkX ob 6000 loose w := by
  intro os
  kernel_rfl
end Vg

namespace Vg
open PySem PySem.Spec PyProof.Rows L2 RZ RT
/-! ### rules that were lacking -/
section
variable {X : Cx}
theorem ip_mul : PIp X .Mult (fun x y H Q => ∃ i j, x = .int i ∧ y = .int j ∧ CMul i j ∧ Q (.int (i * j)) H) := by
  intro pins s σ H x y v u Q I r1 r2 h
  obtain ⟨i, j, e1, e2, hc, q⟩ := h
  subst e1; subst e2
  obtain ⟨t, rfl⟩ := r1
  obtain ⟨t', rfl⟩ := r2
  exact imul_int ⟨.int _, H, I.tok _, ⟨_, rfl⟩, q⟩ hc.ok
/-- pow of a base below a million bits -/
def CPowW (i j : Int) : Prop := 0 ≤ j ∧ (Builtin.Int.intBits i : Int) * j ≤ 2 ^ 27
theorem op_powW : OpR X (binaryOp .Pow) (rI CPowW fun i j => .int (i ^ j.toNat)) := opI fun _ _ _ _ _ _ _ hc q => pow_int hc.1 hc.2 q
end
/-! ### walks -/
section
variable {K : PySem.W.Frag} {a b : Addr} {xs ys : List V}
theorem walk_zipT {n : Nat} (hn : n = min xs.length ys.length) : Walk (ItzT K a b) n (fun H => SqT K H a xs ∧ SqT K H b ys) (YPair (fun i => xs[i]?) (fun i => ys[i]?)) := by
  subst hn
  refine ⟨fun i _ hi q => ?_, fun _ q => ⟨xs, ys, q.1, q.2, by omega⟩, fun i H v H' _ q y => ?_⟩
  · have h1 : i < xs.length := by omega
    have h2 : i < ys.length := by omega
    exact ⟨xs, ys, xs[i], ys[i], q.1, q.2, by simp [h1], by simp [h2]⟩
  · obtain ⟨T, x, z, h1, h2, h3, h4, h5⟩ := y
    exact ⟨T, x, z, h1, h2, h3, h4 xs q.1, h5 ys q.2⟩
theorem walk_revT : Walk (ItvT K a xs.length) xs.length (fun H => SqT K H a xs) (fun i H x H' => H' = H ∧ xs[xs.length - 1 - i]? = some x) :=
  ⟨fun i _ hi q => ⟨hi, xs, xs[xs.length - 1 - i]'(by omega), q, by simp [show xs.length - 1 - i < xs.length by omega]⟩, fun _ _ => Nat.le_refl _, fun _ _ _ _ _ q y => ⟨y.1, y.2 xs q⟩⟩
end
/-! ### heaps: what stays -/
/-- tuples and views stay -/
structure KT (K : PySem.W.Frag) (H H' : Hp) : Prop where
  tup : ∀ b xs, H b = some (.tup xs) → H' b = some (.tup xs)
  vw : ∀ b dx fs, H b = some (.ins (CView K) dx fs) → H' b = some (.ins (CView K) dx fs)
section
variable {K : PySem.W.Frag} {H H' H1 H2 : Hp} {p : Addr} {o : HO} {xs ys : List V}
theorem KT.refl (H : Hp) : KT K H H := ⟨fun _ _ h => h, fun _ _ _ h => h⟩
theorem KT.trans (a : KT K H H1) (b : KT K H1 H2) : KT K H H2 := ⟨fun c x h => b.tup c x (a.tup c x h), fun c x y h => b.vw c x y (a.vw c x y h)⟩
theorem KT.of (s : Same H H') : KT K H H' := ⟨fun c x h => s c _ h, fun c x y h => s c _ h⟩
theorem KT.lst (h : H p = some (.lst xs)) : KT K H (upd H p o) :=
  ⟨fun c x e => by rw [upd_ne (fun q => by subst q; rw [h] at e; cases e)]; exact e, fun c x y e => by rw [upd_ne (fun q => by subst q; rw [h] at e; cases e)]; exact e⟩
theorem KT.dk {kvs} (h : H p = some (.dK kvs)) : KT K H (upd H p o) :=
  ⟨fun c x e => by rw [upd_ne (fun q => by subst q; rw [h] at e; cases e)]; exact e, fun c x y e => by rw [upd_ne (fun q => by subst q; rw [h] at e; cases e)]; exact e⟩
theorem KT.ins {C dx fs} (h : H p = some (.ins C dx fs)) (hC : C ≠ CView K) : KT K H (upd H p o) :=
  ⟨fun c x e => by rw [upd_ne (fun q => by subst q; rw [h] at e; cases e)]; exact e, fun c x y e => by rw [upd_ne (fun q => by subst q; rw [h] at e; cases e; exact hC rfl)]; exact e⟩
theorem Same.new (h : H p = none) : Same H (upd H p o) := fun c u e => by rw [upd_ne (ne_of_none e h)]; exact e
theorem KT.new (h : H p = none) : KT K H (upd H p o) := .of (Same.new h)
/-- writing at what the first heap doesn't know -/
theorem Same.mut (s : Same H H') (h : H p = none) : Same H (upd H' p o) := fun c u e => by rw [upd_ne (ne_of_none e h)]; exact s c u e
end
/-! ### data -/
abbrev Rep (α : Type) := Hp → V → α → Prop
structure Mon {α : Type} (K : PySem.W.Frag) (R : Rep α) : Prop where
  up : ∀ {H H' : Hp} {v : V} {a : α}, KT K H H' → R H v a → R H' v a
def IntR : Rep Int := fun _ v i => v = .int i
def RefR : Rep Addr := fun _ v a => v = .ref a
/-- a tuple of data -/
def TupR {α : Type} (R : Rep α) : Rep (List α) := fun H v xs => ∃ a vs, v = .ref a ∧ H a = some (.tup vs) ∧ Paired (R H) vs xs
/-- a tuple of ints -/
def IT : Rep (List Int) := fun H v ns => ∃ a, v = .ref a ∧ H a = some (.tup (ns.map V.int))
def PairR : Rep (Int × Int) := fun H v p => ∃ a, v = .ref a ∧ H a = some (.tup [.int p.1, .int p.2])
abbrev Box := List (Int × Int)
def BoxR : Rep Box := TupR PairR
/-- two data of one kind -/
def TwoR {α : Type} (R : Rep α) : Rep (α × α) := fun H v p => ∃ a x y, v = .ref a ∧ H a = some (.tup [x, y]) ∧ R H x p.1 ∧ R H y p.2
section
variable {K : PySem.W.Frag} {H H' : Hp} {v : V} {α : Type} {R : Rep α}
theorem mon_int : Mon K IntR := ⟨fun _ h => h⟩
theorem mon_it : Mon K IT := ⟨fun k ⟨a, e, h⟩ => ⟨a, e, k.tup _ _ h⟩⟩
theorem mon_pair : Mon K PairR := ⟨fun k ⟨a, e, h⟩ => ⟨a, e, k.tup _ _ h⟩⟩
theorem mon_tup (m : Mon K R) : Mon K (TupR R) := ⟨fun k ⟨a, vs, e, h, p⟩ => ⟨a, vs, e, k.tup _ _ h, Paired.mapP p fun _ _ q => m.up k q⟩⟩
theorem mon_box : Mon K BoxR := mon_tup mon_pair
theorem mon_two (m : Mon K R) : Mon K (TwoR R) := ⟨fun k ⟨a, x, y, e, h, p, q⟩ => ⟨a, x, y, e, k.tup _ _ h, m.up k p, m.up k q⟩⟩
end
section
variable {α β : Type} {F G : α → β → Prop}
theorem Paired.len : ∀ {xs : List α} {ys : List β}, Paired F xs ys → xs.length = ys.length
  | _, _, .nil => rfl
  | _, _, .cons _ t => congrArg Nat.succ (Paired.len t)
theorem Paired.get : ∀ {xs : List α} {ys : List β} {i : Nat} {x : α}, Paired F xs ys → xs[i]? = some x → ∃ y, ys[i]? = some y ∧ F x y
  | _, _, _, _, .nil, e => by simp at e
  | _, _, 0, _, .cons r _, e => by simp at e; subst e; exact ⟨_, rfl, r⟩
  | _, _, i + 1, x, .cons _ t, e => by
    obtain ⟨u, h1, h2⟩ := Paired.get (i := i) (x := x) t (by simpa using e)
    exact ⟨u, by simpa using h1, h2⟩
theorem Paired.get' : ∀ {xs : List α} {ys : List β} {i : Nat} {y : β}, Paired F xs ys → ys[i]? = some y → ∃ x, xs[i]? = some x ∧ F x y
  | _, _, _, _, .nil, e => by simp at e
  | _, _, 0, _, .cons r _, e => by simp at e; subst e; exact ⟨_, rfl, r⟩
  | _, _, i + 1, x, .cons _ t, e => by
    obtain ⟨u, h1, h2⟩ := Paired.get' (i := i) (y := x) t (by simpa using e)
    exact ⟨u, by simpa using h1, h2⟩
theorem Paired.app : ∀ {xs : List α} {ys : List β} {x : α} {y : β}, Paired F xs ys → F x y → Paired F (xs ++ [x]) (ys ++ [y])
  | _, _, _, _, .nil, h => .cons h .nil
  | _, _, _, _, .cons r t, h => .cons r (Paired.app t h)
theorem Paired.append : ∀ {xs xs' : List α} {ys ys' : List β}, Paired F xs ys → Paired F xs' ys' → Paired F (xs ++ xs') (ys ++ ys')
  | _, _, _, _, .nil, h => h
  | _, _, _, _, .cons r t, h => .cons r (Paired.append t h)
theorem Paired.tk : ∀ {xs : List α} {ys : List β} (n : Nat), Paired F xs ys → Paired F (xs.take n) (ys.take n)
  | _, _, 0, _ => .nil
  | _, _, _ + 1, .nil => .nil
  | _, _, n + 1, .cons r t => .cons r (Paired.tk n t)
theorem Paired.dr : ∀ {xs : List α} {ys : List β} (n : Nat), Paired F xs ys → Paired F (xs.drop n) (ys.drop n)
  | _, _, 0, r => r
  | _, _, _ + 1, .nil => .nil
  | _, _, n + 1, .cons _ t => Paired.dr n t
end
theorem Paired.ints : ∀ {vs : List V} {ns : List Int}, Paired (fun v i => v = V.int i) vs ns → vs = ns.map V.int
  | _, _, .nil => rfl
  | _, _, .cons r t => by rw [r, Paired.ints t]; rfl
theorem Paired.of_ints {H : Hp} : ∀ ns : List Int, Paired (IntR H) (ns.map V.int) ns
  | [] => .nil
  | _ :: r => .cons rfl (Paired.of_ints r)
theorem range_succ_map {α : Type} (f : Nat → α) (i : Nat) : (List.range (i + 1)).map f = (List.range i).map f ++ [f i] := by rw [List.range_succ, List.map_append]; rfl
section
variable {J : It} {n : Nat} {G : Hp → Prop} {Y : Nat → Hp → V → Hp → Prop} {K : PySem.W.Frag} {α : Type}
/-- a comprehension without a test: what each turn gives -/
theorem lc_map (w : Walk J n G Y) {g : TG} {te : TE} {vs : List Nat} {σ : L2.St} {H1 : Hp} {D : Addr} {Qd : Hp → Prop} {R : Rep α} (m : Mon K R) (f : Nat → α) (hn : n ≤ 1000000) (hD : H1 D = none) (hG : ∀ H, Same H1 H → G H)
    (hs : ∀ i x H H' (Kk : V → Hp → Prop), i < n → Same H1 H → Y i H x H' → (∀ y H3, Same H H3 → R H3 y (f i) → Kk y H3) → g x (wipe σ vs) H' fun σ2 H2 => wipe σ2 vs = wipe σ vs ∧ te σ2 H2 Kk)
    (hd : ∀ H acc, Same H1 H → H D = some (.lst acc) → Paired (R H) acc ((List.range n).map f) → Qd H) :
    ∃ W : Nat → Nat → Hp → Prop, (∃ m, W 0 m (upd H1 D (.lst []))) ∧ ∀ i m H, W i m H →
      (J.stop i H ∧ Qd H) ∨ (J.go i H ∧ ∃ Nx : Hp → Prop, (∀ H', Nx H' → ∃ m', m' < m ∧ W (i + 1) m' H') ∧ ∀ x H', J.yld i H x H' → g x (wipe σ vs) H' fun σ2 H2 => wipe σ2 vs = wipe σ vs ∧ tYes σ2 H2 fun b H3 =>
        if b = true then te σ2 H3 fun y H4 => ∃ acc, H4 D = some (.lst acc) ∧ acc.length < sizeLine ∧ Nx (upd H4 D (.lst (acc ++ [y]))) else Nx H3) := by
  refine lc_it w (fun i H => i ≤ n ∧ Same H1 H ∧ ∃ acc, H D = some (.lst acc) ∧ Paired (R H) acc ((List.range i).map f)) ⟨Nat.zero_le _, Same.new hD, [], upd_same, .nil⟩ (fun i H _ p => hG H p.2.1) ?_ fun H ⟨_, s, acc, h1, h2⟩ => hd H acc s h1 h2
  rintro i x H H' hi ⟨_, s, acc, h1, h2⟩ y
  refine hs i x H H' _ hi s y fun z H3 s3 r => ?_
  refine ⟨acc, s3 _ _ h1, ?_, hi, Same.mut (s.trans s3) hD, acc ++ [z], upd_same, ?_⟩
  · have e := Paired.len h2
    rw [List.length_map, List.length_range] at e
    rw [e, sizeLine_eq]; omega
  · rw [range_succ_map]
    have k : KT K H3 (upd H3 D (.lst (acc ++ [z]))) := KT.lst (s3 _ _ h1)
    exact Paired.app (Paired.mapP h2 fun _ _ q => m.up ((KT.of s3).trans k) q) (m.up k r)
/-- two clauses: the outer walk -/
theorem lc2_it (w : Walk J n G Y) {g g1 : TG} {wi1 : TI} {te : TE} {vs vs1 : List Nat} {σ : L2.St} {H1 : Hp} {D : Addr} {Qd : Hp → Prop} (Pv : Nat → Hp → Prop) (h0 : Pv 0 (upd H1 D (.lst []))) (hG : ∀ i H, i ≤ n → Pv i H → G H)
    (hs : ∀ i x H H', i < n → Pv i H → Y i H x H' → g x (wipe σ vs) H' fun σ2 H2 => wipe σ2 vs = wipe σ vs ∧ wi1 σ2 H2 fun J1 H4 => ∃ W1 : Nat → Nat → Hp → Prop, (∃ m, W1 0 m H4) ∧ ∀ j k H, W1 j k H →
      (J1.stop j H ∧ Pv (i + 1) H) ∨ (J1.go j H ∧ ∃ Nx1 : Hp → Prop, (∀ H', Nx1 H' → ∃ k', k' < k ∧ W1 (j + 1) k' H') ∧ ∀ x H', J1.yld j H x H' → g1 x (wipe σ2 vs1) H' fun σ3 H5 => wipe σ3 vs1 = wipe σ2 vs1 ∧ tYes σ3 H5 fun b H6 =>
        if b = true then te σ3 H6 fun y H7 => ∃ acc, H7 D = some (.lst acc) ∧ acc.length < sizeLine ∧ Nx1 (upd H7 D (.lst (acc ++ [y]))) else Nx1 H6))
    (hd : ∀ H, Pv n H → Qd H) :
    ∃ W : Nat → Nat → Hp → Prop, (∃ m, W 0 m (upd H1 D (.lst []))) ∧ ∀ i m H, W i m H →
  (J.stop i H ∧ Qd H) ∨ (J.go i H ∧ ∃ Nx : Hp → Prop, (∀ H', Nx H' → ∃ m', m' < m ∧ W (i + 1) m' H') ∧ ∀ x H', J.yld i H x H' → g x (wipe σ vs) H' fun σ2 H2 => wipe σ2 vs = wipe σ vs ∧ tYes σ2 H2 fun b H3 =>
    if b = true then wi1 σ2 H3 fun J1 H4 => ∃ W1 : Nat → Nat → Hp → Prop, (∃ m, W1 0 m H4) ∧ ∀ j k H, W1 j k H →
      (J1.stop j H ∧ Nx H) ∨ (J1.go j H ∧ ∃ Nx1 : Hp → Prop, (∀ H', Nx1 H' → ∃ k', k' < k ∧ W1 (j + 1) k' H') ∧ ∀ x H', J1.yld j H x H' → g1 x (wipe σ2 vs1) H' fun σ3 H5 => wipe σ3 vs1 = wipe σ2 vs1 ∧ tYes σ3 H5 fun b H6 =>
        if b = true then te σ3 H6 fun y H7 => ∃ acc, H7 D = some (.lst acc) ∧ acc.length < sizeLine ∧ Nx1 (upd H7 D (.lst (acc ++ [y]))) else Nx1 H6)
    else Nx H3) := by
  refine ⟨fun i m H => m = n - i ∧ i ≤ n ∧ Pv i H, ⟨n, by simp, Nat.zero_le _, h0⟩, ?_⟩
  rintro i m H ⟨rfl, hi, p⟩
  have q := hG i H hi p
  by_cases hlt : i < n
  · exact .inr ⟨w.goes i H hlt q, Pv (i + 1), fun H' p' => ⟨n - (i + 1), by omega, rfl, hlt, p'⟩, fun x H' y => hs i x H H' hlt p (w.yields i H x H' hlt q y)⟩
  · have e : i = n := by omega
    subst e
    exact .inl ⟨w.stops H q, hd H p⟩
/-- the inner walk: it makes the list at D longer by what its turns give -/
theorem lc2_in {J1 : It} {n1 : Nat} {G1 : Hp → Prop} {Y1 : Nat → Hp → V → Hp → Prop} (w : Walk J1 n1 G1 Y1) {g1 : TG} {te : TE} {vs1 : List Nat} {σ2 : L2.St} {H0 H4 : Hp} {D : Addr} {Nx : Hp → Prop} {R : Rep α} (m : Mon K R) (f : Nat → α) {acc0 : List V} {pre : List α}
    (hn : pre.length + n1 ≤ 1000000) (hD : H0 D = none) (s0 : Same H0 H4) (h4 : H4 D = some (.lst acc0)) (hp : Paired (R H4) acc0 pre) (hG : ∀ H, Same H0 H → (∃ l, H D = some (.lst l)) → G1 H)
    (hs : ∀ j x H H' (Kk : V → Hp → Prop), j < n1 → Same H0 H → Y1 j H x H' → (∀ y H3, Same H H3 → R H3 y (f j) → Kk y H3) → g1 x (wipe σ2 vs1) H' fun σ3 H5 => wipe σ3 vs1 = wipe σ2 vs1 ∧ te σ3 H5 Kk)
    (hd : ∀ H acc, Same H0 H → H D = some (.lst acc) → Paired (R H) acc (pre ++ (List.range n1).map f) → Nx H) :
    ∃ W1 : Nat → Nat → Hp → Prop, (∃ m, W1 0 m H4) ∧ ∀ j k H, W1 j k H →
      (J1.stop j H ∧ Nx H) ∨ (J1.go j H ∧ ∃ Nx1 : Hp → Prop, (∀ H', Nx1 H' → ∃ k', k' < k ∧ W1 (j + 1) k' H') ∧ ∀ x H', J1.yld j H x H' → g1 x (wipe σ2 vs1) H' fun σ3 H5 => wipe σ3 vs1 = wipe σ2 vs1 ∧ tYes σ3 H5 fun b H6 =>
        if b = true then te σ3 H6 fun y H7 => ∃ acc, H7 D = some (.lst acc) ∧ acc.length < sizeLine ∧ Nx1 (upd H7 D (.lst (acc ++ [y]))) else Nx1 H6) := by
  let P1 : Nat → Hp → Prop := fun j H => Same H0 H ∧ ∃ acc, H D = some (.lst acc) ∧ Paired (R H) acc (pre ++ (List.range j).map f)
  refine ⟨fun j k H => k = n1 - j ∧ j ≤ n1 ∧ P1 j H, ⟨n1, by simp, Nat.zero_le _, s0, acc0, h4, by simpa using hp⟩, ?_⟩
  rintro j k H ⟨rfl, hj, s, acc, h1, h2⟩
  have q := hG H s ⟨acc, h1⟩
  by_cases hlt : j < n1
  · refine .inr ⟨w.goes j H hlt q, P1 (j + 1), fun H' p' => ⟨n1 - (j + 1), by omega, rfl, hlt, p'⟩, fun x H' y => ?_⟩
    refine hs j x H H' _ hlt s (w.yields j H x H' hlt q y) fun z H3 s3 r => ?_
    refine ⟨acc, s3 _ _ h1, ?_, Same.mut (s.trans s3) hD, acc ++ [z], upd_same, ?_⟩
    · have e := Paired.len h2
      rw [List.length_append, List.length_map, List.length_range] at e
      rw [e, sizeLine_eq]; omega
    · rw [range_succ_map, ← List.append_assoc]
      have kk : KT K H3 (upd H3 D (.lst (acc ++ [z]))) := KT.lst (s3 _ _ h1)
      exact Paired.app (Paired.mapP h2 fun _ _ q => m.up ((KT.of s3).trans kk) q) (m.up kk r)
  · have e : j = n1 := by omega
    subst e
    exact .inl ⟨w.stops H q, hd H acc s h1 h2⟩
end
end Vg

namespace Vg
open PySem PySem.Spec PyProof.Rows L2 RZ RT
section
variable {X : Cx}
/-! ### isinstance with a built-in type -/
theorem call_isB : CallR X (.builtin "isinstance") (fun xs H Q => ∃ (x : V) (n m : String) (b : Bool), xs = [x, .ty n] ∧ TyOf X.K H x (.type m) ∧ kitB m n = some b ∧ Q (.bl b) H) := by
  intro pins s σ H xs us Q I r h
  obtain ⟨x, n, m, b, rfl, t, e, q⟩ := h
  obtain ⟨u, c, rfl, rx, rt⟩ := Vals.two r
  cases rt
  exact isinst_ok I rx t (kit_ty e) fun tk => ⟨.bl b, H, I.kept (t' := tk) fun _ _ z => z, rfl, q⟩
/-! ### rooms are compared by what they are -/
theorem room_cmp {mg : Str → Option Value} (T : Txt X.K mg) {pins : List (Addr × Obj)} {σ : L2.St} {H : Hp} {s : Shared} {a dx : Addr} {fs : List (Str × V)} (I : Inv X pins σ H s) (h : H a = some (.ins (CRoom X.K) dx fs)) :
    s.heap.CmpInst a (CRoom X.K) [.type "object"] := by
  obtain ⟨mA, J, _⟩ := ins_get I.hok h
  obtain ⟨nm, q, N, bs, hdct, sn, sub, ab, col, dd, k0, k1, k2, k3, k5, newId, mN, h1, h2, h3, h4⟩ := T.cmpR s.heap I.kIn
  exact ⟨_, nm, q, N, bs, hdct, sn, sub, ab, col, dd, k0, k1, k2, k3, k5, newId, mN, J.obj, rfl, h1, h2, h3, h4⟩
def rRoomC (K : PySem.W.Frag) (neg : Bool) : R2 := fun x y H Q => ∃ a b dx dy fs gs, x = .ref a ∧ y = .ref b ∧ H a = some (.ins (CRoom K) dx fs) ∧ H b = some (.ins (CRoom K) dy gs) ∧ Q (.bl (if neg then !decide (a = b) else decide (a = b))) H
theorem op_EqRoom {mg : Str → Option Value} (T : Txt X.K mg) (hu : X.A.units + 1 < cLine) : OpR X (compareOp .Eq) (rRoomC X.K false) := by
  intro pins s σ H x y v u Q I rx ry h
  obtain ⟨a, b, dx, dy, fs, gs, rfl, rfl, ha, hb, q⟩ := h
  cases (show v = Value.ref a from rx)
  cases (show u = Value.ref b from ry)
  have c1 := room_cmp T I ha
  have c2 := room_cmp T I hb
  by_cases e : a = b
  · subst e
    exact compareOp_eq_same PySem.F.cmp_object c1 (by omega) ⟨.bl true, H, I, rfl, by simpa using q⟩
  · exact compareOp_eq_other PySem.F.cmp_object PySem.F.cmp_object c1 c2 e (by omega) ⟨.bl false, H, I, rfl, by simpa [e] using q⟩
theorem op_NeRoom {mg : Str → Option Value} (T : Txt X.K mg) (hu : X.A.units + 1 < cLine) : OpR X (compareOp .NotEq) (rRoomC X.K true) := by
  intro pins s σ H x y v u Q I rx ry h
  obtain ⟨a, b, dx, dy, fs, gs, rfl, rfl, ha, hb, q⟩ := h
  cases (show v = Value.ref a from rx)
  cases (show u = Value.ref b from ry)
  have c1 := room_cmp T I ha
  have c2 := room_cmp T I hb
  by_cases e : a = b
  · subst e
    exact compareOp_ne_same PySem.F.cmp_object c1 hu ⟨.bl false, H, I, rfl, by simpa using q⟩
  · exact compareOp_ne_other PySem.F.cmp_object PySem.F.cmp_object c1 c2 e hu ⟨.bl true, H, I, rfl, by simpa [e] using q⟩
/-! ### d[k] = v as a target -/
theorem set_dict (hu : X.A.units + 1 < cLine) : PSet X (fun o i v H Q => ∃ a H', o = .ref a ∧ DPut H a i v H' ∧ Q H') := by
  intro pins s σ H o i v ov iv u Q I ro ri rv h
  obtain ⟨a, H', rfl, g, q⟩ := h
  cases (show ov = Value.ref a from ro)
  exact d_setItem hu I g ri rv fun s' I' => ⟨H', I', q⟩
/-! ### max, min with a default -/
def rBest (K : PySem.W.Frag) (tup : Bool) (best : PyData → List PyData → PyData) : List V → List V → Hp → VK → Prop := fun vs zs H Q => ∃ (a : Addr) (xs : List V) (ds : List PyData) (d : V), vs = [.ref a] ∧ zs = [d] ∧
  (if tup then SqT K H a xs else SqL K H a xs) ∧ DpAll K H xs ds ∧ PySem.W.AlikeAll ds ∧ PyData.depthAll ds ≤ 20 ∧ (ds = [] → Q d H) ∧ ∀ (i : Nat) (y : PyData) (r : List PyData) (v : V), ds = y :: r → xs[i]? = some v → ds[i]? = some (best y r) → Q v H
theorem DpAll.at {K : PySem.W.Frag} {H : Hp} : ∀ {xs : List V} {ds : List PyData} {i : Nat} {v : V}, DpAll K H xs ds → xs[i]? = some v → ∃ d, ds[i]? = some d ∧ Dp K H v d
  | _, _, _, _, .nil, e => by simp at e
  | _, _, 0, _, .cons h _, e => by simp at e; subst e; exact ⟨_, rfl, h⟩
  | _, _, i + 1, v, .cons _ t, e => by
    obtain ⟨d, h1, h2⟩ := DpAll.at (i := i) (v := v) t (by simpa using e)
    exact ⟨d, by simpa using h1, h2⟩
theorem vals_back {xs : List V} {its : List Value} (r : Vals xs its) {i : Nat} {u : Value} (e : its[i]? = some u) : ∃ x, xs[i]? = some x ∧ RelV x u := Paired.get' r e
theorem best_end {pins : List (Addr × Obj)} {σ : L2.St} {H : Hp} {s : Shared} {xs : List V} {its : List Value} {ds : List PyData} {b : PyData} {Q : VK} {i : Nat} {u : Value} {h' : Heap} {tk : Nat} {bs : List Addr} (I : Inv X pins σ H s) (hd : DpAll X.K H xs ds) (r : Vals xs its)
    (hv : its.toArray[i]? = some u) (hr : Reads h' u b bs) (hk : ∀ b o, s.heap.get? b = some o → h'.get? b = some o) (q : ∀ v, xs[i]? = some v → ds[i]? = some b → Q v H) : EP X pins σ Q u { s with heap := h', toks := tk } := by
  have I2 : Inv X pins σ H { s with heap := h', toks := tk } := I.kept hk
  obtain ⟨x, hx, rx⟩ := vals_back r (by simpa using hv)
  obtain ⟨d, e1, e2⟩ := DpAll.at hd hx
  obtain ⟨as, r2⟩ := Dp.reads I2 d x u e2 rx
  obtain ⟨e, _⟩ := PySem.Reads.unique hr _ _ r2
  exact ⟨x, H, I2, rx, q x hx (by rw [e1, e])⟩
theorem cr_maxT (hc : X.calm = true) (hu : X.A.units + 64 < cLine) : CallRK X (.builtin "max") [Str.ofString "default"] (rBest X.K true PySem.W.maxD) := by
  intro pins s σ H vs zs us ws Q I r rz h
  obtain ⟨a, xs, ds, d, rfl, rfl, hs, hd, ha, hdep, q0, q⟩ := h
  obtain rfl := Vals.ref1 r
  obtain ⟨d', rfl, rd⟩ := vals1 rz
  obtain ⟨its, rv, p, hz⟩ := I.tuple hs
  obtain ⟨as, hr⟩ := Dp.readsAll I ds xs its hd rv
  refine PySem.W.max_tuple_default (I.ok.hd hc) (show s.heap.IsTuple a its.toArray from p) (by simpa using hr) ha (by omega) (fun e h' tk hk => ?_) fun y ys i v h' tk bs e hv hrd hk => ?_
  · exact ⟨d, H, I.kept hk, rd, q0 e⟩
  · exact best_end I hd rv hv hrd hk fun x hx hb => q i y ys x e hx hb
theorem cr_maxL (hc : X.calm = true) (hu : X.A.units + 64 < cLine) : CallRK X (.builtin "max") [Str.ofString "default"] (rBest X.K false PySem.W.maxD) := by
  intro pins s σ H vs zs us ws Q I r rz h
  obtain ⟨a, xs, ds, d, rfl, rfl, hs, hd, ha, hdep, q0, q⟩ := h
  obtain rfl := Vals.ref1 r
  obtain ⟨d', rfl, rd⟩ := vals1 rz
  obtain ⟨its, rv, p, hz⟩ := I.list hs
  obtain ⟨as, hr⟩ := Dp.readsAll I ds xs its hd rv
  refine PySem.W.max_list_default (I.ok.hd hc) p.isList (by simpa using hr) ha (by omega) (fun e h' tk hk => ?_) fun y ys i v h' tk bs e hv hrd hk => ?_
  · exact ⟨d, H, I.kept hk, rd, q0 e⟩
  · exact best_end I hd rv hv hrd hk fun x hx hb => q i y ys x e hx hb
theorem cr_minL (hc : X.calm = true) (hu : X.A.units + 64 < cLine) : CallRK X (.builtin "min") [Str.ofString "default"] (rBest X.K false PySem.W.minD) := by
  intro pins s σ H vs zs us ws Q I r rz h
  obtain ⟨a, xs, ds, d, rfl, rfl, hs, hd, ha, hdep, q0, q⟩ := h
  obtain rfl := Vals.ref1 r
  obtain ⟨d', rfl, rd⟩ := vals1 rz
  obtain ⟨its, rv, p, hz⟩ := I.list hs
  obtain ⟨as, hr⟩ := Dp.readsAll I ds xs its hd rv
  refine PySem.W.min_list_default (I.ok.hd hc) p.isList (by simpa using hr) ha (by omega) (fun e h' tk hk => ?_) fun y ys i v h' tk bs e hv hrd hk => ?_
  · exact ⟨d, H, I.kept hk, rd, q0 e⟩
  · exact best_end I hd rv hv hrd hk fun x hx hb => q i y ys x e hx hb
/-! ### lists of unlike lengths -/
theorem op_eqLen (hu : X.A.units < cLine) : OpR X (compareOp .Eq) (fun x y H Q => ∃ a b xs ys, x = .ref a ∧ y = .ref b ∧ H a = some (.lst xs) ∧ H b = some (.lst ys) ∧ xs.length ≠ ys.length ∧ Q (.bl false) H) := by
  intro pins s σ H x y v u Q I rx ry h
  obtain ⟨a, b, xs, ys, rfl, rfl, ha, hb, hne, q⟩ := h
  cases (show v = Value.ref a from rx)
  cases (show u = Value.ref b from ry)
  obtain ⟨_, its, n, r1, e1, o1⟩ := I.lstM ha
  obtain ⟨_, its2, n2, r2, e2, o2⟩ := I.lstM hb
  refine richCompare_meets_room (op := .Eq) ⟨_, o1, rfl⟩ ⟨_, o2, rfl⟩ PySem.F.slot_list_eq PySem.F.entry_list_eq (PySem.F.args_list_eq_2 _ _) (SeqAt.list_eq_lengthsAt a b its.toArray its2.toArray n n2 none none #[] #[] (by simp; omega)) ⟨o1, o2, ?_⟩ hu
  exact ⟨(fun x => nomatch x), ⟨.bl false, H, I, rfl, q⟩⟩
/-! ### len(range(n)) -/
def tLenRange (te : L2.St → Hp → (Int → Int → Hp → Prop) → Prop) : TE := fun σ H Q => te σ H fun a b H1 => ∃ n : Nat, a = 0 ∧ b = n ∧ n < 1000000 ∧ Q (.int n) H1
theorem pe_lenRange {e : Expr} {te : L2.St → Hp → (Int → Int → Hp → Prop) → Prop} {p pos : Pos} (hg : Gl X "len") (hm : X.mg "len" = none) (he : PRg X e te) (na : starEach [e] X.env = (false, eval e X.env) :: starEach [] X.env := by rfl)
    (hpl : (backTo pos (starEach [] X.env)).any (·.1) = false := by rfl) : PE X (.Call (.Name "len" p) [e] [] pos) (tLenRange te) := by
  refine ⟨fun pins s σ H Q I h => ?_⟩
  refine wpAny_Call_Name_kw (ld_blt I hg hm boot_len ?_)
  refine PyProof.Rows.callWith_builtin1 (args_cons (thn (he pins s σ H _ I h) fun x s1 ⟨r, a, b, t, u, v, H1, ex, hr, I1, q⟩ => args_nil ?_) na) na hpl
  subst ex
  obtain ⟨n, rfl, rfl, hn, q⟩ := q
  have e1 : Builtin.Range.rangeSize 0 (n : Int) 1 = n := by
    have := rangeSize_nat 0 (n : Int)
    simpa using this
  exact call_len_range hr e1 (by omega) ⟨.int n, H1, (I1.tok _), ⟨_, rfl⟩, q⟩
/-! ### a tuple once -/
theorem tuple_mulOne (l : Addr) (items : Array Value) (n : Nat) (dd : Option Addr) (sl : Array (Option Value)) (u : Tok) :
    Meets (Builtin.«tuple.__mul__» ⟨[.ref l, .int 1 u], []⟩) (fun _ R s => s.heap.get? l = some { cls := .type "tuple", dict := dd, data := .seq items n, slots := sl } ∧ R (.ok (.ret (.ref l))) s) :=
  .of_wp fun prog w A R s h => by
    obtain ⟨hp, g, d, tk, os⟩ := s
    obtain ⟨hl, h⟩ := h
    have f1 := AutoSeq1.idx_int
    wp_walk using wpAny_loadPart' hl
    repeat (first
      | (refine wpAny_ite_false (decide_eq_false (by decide)) ?_; wp_walk using wpAny_loadPart' hl)
      | (refine wpAny_ite_true (decide_eq_true (by simp)) ?_; wp_walk using wpAny_loadPart' hl))
    exact ⟨_, rfl, h⟩
theorem op_repOne : OpR X (binaryOp .Mult) (fun x y H Q => ∃ l xs, x = .ref l ∧ y = .int 1 ∧ SqT X.K H l xs ∧ Q (.ref l) H) := by
  intro pins s σ H x y v u Q I rx ry h
  obtain ⟨l, xs, rfl, rfl, hT, q⟩ := h
  cases rx
  obtain ⟨t, rfl⟩ := ry
  obtain ⟨its, r, ⟨⟨cls, dd, data, sl⟩, ho, hc, n, hd⟩, hs⟩ := I.tuple hT
  simp only at hc hd
  subst hc hd
  exact wpAny_binaryOp_repeat_ref (T := "tuple") (U := "int") (by decide) ⟨_, ho, rfl⟩ (fun s' => typeIs_int s' 1 t) noFill_tuple_mul F.fills_int_mul F.slot_int_rmul repeat_tuple F.slot_int_index.lookup
    (call_meets F.slot_int_rmul (typeIs_int s 1 t) F.entry_int_rmul (F.args_int_rmul_2 _ _) (int_rmul_tuple 1 t l its.toArray n dd sl)
      ⟨ho, rfl, ⟨_, ho, rfl⟩, call_meets F.slot_tuple_mul ⟨_, ho, rfl⟩ F.entry_tuple_mul (F.args_tuple_mul_2 _ _) (tuple_mulOne l its.toArray n dd sl t) ⟨ho, ⟨.ref l, H, I, rfl, q⟩⟩⟩)
theorem op_repT1 : OpR X (binaryOp .Mult) (fun x y H Q => rRepT X.K x y H Q ∨ ∃ l xs, x = .ref l ∧ y = .int 1 ∧ SqT X.K H l xs ∧ Q (.ref l) H) := op_repT.or op_repOne
end
end Vg

namespace Vg
open PySem PySem.Spec PyProof.Rows L2 RZ RT
/-! ### sums -/
theorem walks_shift {prog : Program} {w : World} {A : Around} {I : Addr} {fp wr : List Addr} {n : Nat} {P : Nat → Value → Prop} {S : Nat → Heap → Prop} (W : Walks prog w A I fp wr n P S) :
    Walks prog w A I fp wr (n + 1) (fun i v => match i with | 0 => False | j + 1 => P j v) (fun i h => match i with | 0 => False | j + 1 => S j h) where
  sub := W.sub
  frame := fun i h h' st k => match i, st with
    | j + 1, st => W.frame j h h' st k
  item := fun i s Q E hi st hQ => match i, hi, st, hQ with
    | j + 1, hi, st, hQ => W.item j s Q E (by omega) st hQ
  done := fun s Q E st hQ => W.done s Q E st hQ
  self := fun i s Q E st hQ => match i, st with
    | j + 1, st => W.self j s Q E st hQ
section
variable {prog : Program} {w : World} {A : Around} {E : Value → Shared → Prop} {s : Shared}
theorem args_sum_start (a v : Value) : argsOk "sum" ⟨[a], [(Str.ofString "start", v)]⟩ := by unfold argsOk; kernel_rfl
theorem call_sum_start {x : Value} {c : Int} {t : Tok} {Q : Value → Shared → Prop} (hc : -(2 ^ 63) ≤ c ∧ c < 2 ^ 63)
    (h : wpAny (model prog w) A.in1 (pyIter x) (fun it s2 => ∃ I fp wr n P S val, it = .ref I ∧ Walks prog w A.in1 I fp wr n P S ∧ S 0 s2.heap ∧ (∀ b ∈ fp, b < s2.heap.objs.size) ∧
      (∀ i v, P i v → ∃ t, v = .int (val i) t) ∧ (∀ j, j < n → InLong (val j) ∧ InLong (c + preSum val (j + 1))) ∧
      ∀ h' tk t', (∀ b o, b ∉ wr → s2.heap.get? b = some o → h'.get? b = some o) → Q (.int (c + preSum val n) t') { s2 with heap := h', toks := tk }) E s) :
    wpAny (model prog w) A (call (.builtin "sum") [x] [(Str.ofString "start", .int c t)]) Q E s := by
  refine PyProof.Rows.kmk_tree F.kind_sum F.plain_sum F.entry_sum (args_sum_start _ _) ?_
  unfold Builtin.«sum»
  simp only [List.length_cons, List.length_nil]
  rw [if_neg (by decide)]
  refine wpAny_bind (wpAny_of_eq (show Builtin.Builtins.bindParams "sum" ["start"] 0 ⟨[], [(Str.ofString "start", .int c t)]⟩ = pure [some (.int c t)] from rfl) ?_)
  refine wpAny_bind (wpAny_mono h (fun it s2 h2 => ?_) fun _ _ e => e)
  obtain ⟨I, fp, wr, n, P, S, val, rfl, W, hst, hfp, hval, hfit, hQ⟩ := h2
  have hfl : (decide (-(2 ^ 63) ≤ c) && decide (c < 2 ^ 63)) = true := by simp only [Bool.and_eq_true, decide_eq_true_eq]; exact hc
  show wpAny _ A.in1 (if (decide (-(2 ^ 63) ≤ c) && decide (c < 2 ^ 63)) = true then _ else _) _ _ _
  rw [if_pos hfl]
  refine wpAny_bind (wpAny_rule (wpAny_bind (wpAny_mkInt ?_)))
  refine wpAny_bind (wpAny_pure ?_)
  simp only [List.forIn_cons, List.forIn_nil]
  refine wpAny_bind (wpAny_bind (wpAny_bind (wpAny_isInstance (T := "int") (b := false) (typeIs_int _ _ _) PySem.sub_int_str ?_)))
  simp only [Bool.false_eq_true, if_false]
  refine wpAny_pure (wpAny_bind (wpAny_bind (wpAny_isInstance (T := "int") (b := false) (typeIs_int _ _ _) PySem.sub_int_bytes ?_)))
  simp only [Bool.false_eq_true, if_false]
  refine wpAny_pure (wpAny_bind (wpAny_bind (wpAny_isInstance (T := "int") (b := false) (typeIs_int _ _ _) PySem.sub_int_bytearray ?_)))
  simp only [Bool.false_eq_true, if_false]
  refine wpAny_pure (wpAny_pure ?_)
  refine wpAny_bind (wpAny_newObj_type ?_)
  have hSf : s2.heap.objs.size ∉ fp := fun hm => Nat.lt_irrefl _ (hfp _ hm)
  let val' : Nat → Int := fun i => match i with | 0 => c | j + 1 => val j
  have hpre : ∀ j, preSum val' (j + 1) = c + preSum val j := fun j => by
    induction j with
    | zero => show (0 : Int) + c = c + 0; omega
    | succ j ih => show preSum val' (j + 1) + val j = c + (preSum val j + val j); rw [ih]; omega
  have hp1 : preSum val' 1 = c := by have := hpre 0; simpa [preSum] using this
  refine wpAny_pure ⟨plainId_quiet F.plain_sum_loop _, codeAny_sum_loop (walks_shift W) val' (fun i v hv => ?_) (fun j hj => ?_) s2.heap.objs.size hSf n 1 _ s2.toks 0 (by omega) (by omega)
    (W.frame 0 _ _ hst fun b _ o e => Heap.get?_push_of_some _ e) (by rw [hp1]; exact Heap.get?_push_size _ rfl) fun h' tk t' hk => ?_⟩
  · match i, hv with
    | j + 1, hv => exact hval j v hv
  · match j, hj with
    | 0, _ => exact ⟨hc, by rw [hp1]; exact hc⟩
    | j + 1, hj =>
      obtain ⟨f1, f2⟩ := hfit j (by omega)
      exact ⟨f1, by rw [hpre]; exact f2⟩
  · rw [hpre]
    exact hQ h' tk t' fun b o hbw e => hk b o hbw (Nat.ne_of_lt (Heap.lt_size e)) (Heap.get?_push_of_some _ e)
end
section
variable {X : Cx}
theorem preSum_ints (ns : List Int) : ∀ i, i ≤ ns.length → preSum (fun i => ns.getD i 0) i = (ns.take i).sum
  | 0, _ => rfl
  | i + 1, h => by
    have e : ns[i]? = some (ns.getD i 0) := by rw [List.getD_eq_getElem?_getD, List.getElem?_eq_getElem (by omega)]; rfl
    rw [sum_take e, ← preSum_ints ns i (by omega)]; rfl
theorem small_sum {ns : List Int} {B : Int} (h : ∀ n ∈ ns, -B ≤ n ∧ n ≤ B) : ∀ i : Nat, i ≤ ns.length → -(B * i) ≤ (ns.take i).sum ∧ (ns.take i).sum ≤ B * i
  | 0, _ => by simp
  | i + 1, hi => by
    have e : ns[i]? = some ns[i] := List.getElem?_eq_getElem (by omega)
    have ih := small_sum h i (by omega)
    have := h ns[i] (List.getElem_mem _)
    rw [sum_take e]
    have e2 : B * ((i + 1 : Nat) : Int) = B * i + B := by rw [Int.natCast_add, Int.mul_add]; simp
    omega
/-- ints of a million at most -/
def Small (ns : List Int) : Prop := ns.length ≤ 1000 ∧ ∀ n ∈ ns, -1000000 ≤ n ∧ n ≤ 1000000
def rSumS (K : PySem.W.Frag) : List V → List V → Hp → VK → Prop := fun vs zs H Q => ∃ (a : Addr) (ns : List Int) (c : Int), vs = [.ref a] ∧ zs = [.int c] ∧ SqL K H a (ns.map V.int) ∧ Small ns ∧ -1000000000 ≤ c ∧ c ≤ 1000000000 ∧ Q (.int (c + ns.sum)) H
theorem cr_sumS (hc : X.calm = true) : CallRK X (.builtin "sum") [Str.ofString "start"] (rSumS X.K) := by
  intro pins s σ H vs zs us ws Q I r rz h
  obtain ⟨a, ns, c, rfl, rfl, hs, ⟨hl, hb⟩, c1, c2, q⟩ := h
  obtain rfl := Vals.ref1 r
  obtain ⟨d', rfl, rd⟩ := vals1 rz
  obtain ⟨t, rfl⟩ := rd
  obtain ⟨its, rv, p, hz⟩ := I.list hs
  have hit := intsAre_of rv
  have hlen : its.length = ns.length := by rw [← rv.length, List.length_map]
  refine call_sum_start ⟨by omega, by omega⟩ (iter_any p.isList fun s2 e st hne => ?_)
  subst e
  refine ⟨_, _, _, _, _, _, fun i => ns.getD i 0, rfl, Walks.list (A := X.A.in1) (I.ok.hd hc) _ a hne its.toArray, st, ?_, ?_, ?_, ?_⟩
  · intro b hb'
    have e' : b = s.heap.objs.size ∨ b = a := by simpa using hb'
    have hlt : a < s.heap.objs.size := by obtain ⟨_, e, _⟩ := p.isList; exact Heap.lt_size e
    show b < (s.heap.push _).objs.size
    rw [Heap.size_push]
    rcases e' with z | z
    · rw [z]; exact Nat.lt_succ_self _
    · rw [z]; exact Nat.lt_succ_of_lt hlt
  · intro i v hv
    have hv' : its[i]? = some v := by simpa using hv
    obtain ⟨x, hx, rx⟩ := vals_back rv hv'
    rw [List.getElem?_map] at hx
    cases e : ns[i]? with
    | none => rw [e] at hx; cases hx
    | some z =>
      rw [e] at hx
      have ex : V.int z = x := Option.some.inj hx
      subst ex
      obtain ⟨t', rfl⟩ := rx
      exact ⟨t', by show Value.int z t' = Value.int (ns.getD i 0) t'; rw [List.getD_eq_getElem?_getD, e]; rfl⟩
  · intro j hj
    have hj' : j < ns.length := by simpa [hlen] using hj
    have e : ns.getD j 0 = ns[j] := by rw [List.getD_eq_getElem?_getD, List.getElem?_eq_getElem hj']; rfl
    have h1 := hb _ (List.getElem_mem hj')
    have h2 := small_sum hb (j + 1) (by omega)
    rw [preSum_ints ns (j + 1) (by omega)]
    have h3 : (1000000 : Int) * ((j + 1 : Nat) : Int) ≤ 1000000 * 1000 := by omega
    refine ⟨?_, ?_⟩
    · show -(2 ^ 63) ≤ ns.getD j 0 ∧ ns.getD j 0 < 2 ^ 63; rw [e]; omega
    · unfold InLong; omega
  · intro h' tk t' hk
    have e1 : preSum (fun i => ns.getD i 0) its.toArray.size = ns.sum := by
      rw [preSum_ints ns _ (by simp [hlen]), List.size_toArray, hlen, List.take_length]
    rw [e1]
    refine ⟨.int _, H, (I.kept (t' := tk) fun b o e => hk b o (fun hm => ?_) (Heap.get?_push_of_some _ e)), ⟨_, rfl⟩, q⟩
    rw [List.mem_singleton.mp hm] at e
    exact absurd (Heap.lt_size e) (Nat.lt_irrefl _)
/-- the sum of a tuple of ints -/
theorem cr_sumT (hc : X.calm = true) : CallR X (.builtin "sum") (fun vs H Q => ∃ (a : Addr) (ns : List Int), vs = [.ref a] ∧ SqT X.K H a (ns.map V.int) ∧ Small ns ∧ Q (.int ns.sum) H) := by
  intro pins s σ H vs us Q I r h
  obtain ⟨a, ns, rfl, hs, ⟨hl, hb⟩, q⟩ := h
  obtain rfl := Vals.ref1 r
  obtain ⟨its, rv, p, hz⟩ := I.tuple hs
  have hlen : its.length = ns.length := by rw [← rv.length, List.length_map]
  have hlt : a < s.heap.objs.size := p.lt
  have hne : a ≠ s.heap.objs.size := Nat.ne_of_lt hlt
  have pT : s.heap.IsTuple a its.toArray := p
  refine call_sum_walk (wpAny_pyIter_tuple pT ?_)
  refine ⟨_, _, _, _, _, _, fun i => ns.getD i 0, rfl, Walks.tuple (A := X.A.in1) (I.ok.hd hc) s.heap.objs.size a hne its.toArray, ⟨⟨_, Heap.get?_push_size _ rfl, rfl, rfl⟩, pT.at fun o e => Heap.get?_push_of_some _ e⟩, ?_, ?_, ?_, ?_⟩
  · intro b hb'
    have e' : b = s.heap.objs.size ∨ b = a := by simpa using hb'
    show b < (s.heap.push _).objs.size
    rw [Heap.size_push]
    rcases e' with z | z
    · rw [z]; exact Nat.lt_succ_self _
    · rw [z]; exact Nat.lt_succ_of_lt hlt
  · intro i v hv
    have hv' : its[i]? = some v := by simpa using hv
    obtain ⟨x, hx, rx⟩ := vals_back rv hv'
    rw [List.getElem?_map] at hx
    cases e : ns[i]? with
    | none => rw [e] at hx; cases hx
    | some z =>
      rw [e] at hx
      have ex : V.int z = x := Option.some.inj hx
      subst ex
      obtain ⟨t', rfl⟩ := rx
      exact ⟨t', by show Value.int z t' = Value.int (ns.getD i 0) t'; rw [List.getD_eq_getElem?_getD, e]; rfl⟩
  · intro j hj
    have hj' : j < ns.length := by simpa [hlen] using hj
    have e : ns.getD j 0 = ns[j] := by rw [List.getD_eq_getElem?_getD, List.getElem?_eq_getElem hj']; rfl
    have h1 := hb _ (List.getElem_mem hj')
    have h2 := small_sum hb (j + 1) (by omega)
    rw [preSum_ints ns (j + 1) (by omega)]
    have h3 : (1000000 : Int) * ((j + 1 : Nat) : Int) ≤ 1000000 * 1000 := by omega
    refine ⟨?_, ?_⟩
    · show -(2 ^ 63) ≤ ns.getD j 0 ∧ ns.getD j 0 < 2 ^ 63; rw [e]; omega
    · unfold InLong; omega
  · intro h' tk t' hk
    have e1 : preSum (fun i => ns.getD i 0) its.toArray.size = ns.sum := by
      rw [preSum_ints ns _ (by simp [hlen]), List.size_toArray, hlen, List.take_length]
    rw [e1]
    refine ⟨.int _, H, (I.kept (t' := tk) fun b o e => hk b o (fun hm => ?_) (Heap.get?_push_of_some _ e)), ⟨_, rfl⟩, q⟩
    rw [List.mem_singleton.mp hm] at e
    exact absurd (Heap.lt_size e) (Nat.lt_irrefl _)
end
end Vg

namespace Vg
open PySem PySem.Spec PyProof.Rows L2 RZ RT
/-! ### enumerate of a tuple -/
theorem meets_enum_new1 {v : Value} {o : Obj} {G : Heap → Prop} (B : Begins v o G) :
    Meets (Builtin.«enumerate.__new__» ⟨[.type "enumerate", v], []⟩) (fun _ R s => G s.heap ∧
      R (.ok (.ret (.ref (s.heap.push o).objs.size))) { s with heap := (s.heap.push o).push { cls := .type "enumerate", data := .fields #[.none, .bool false, .ref s.heap.objs.size, rawInt 0, .none, .none] } }) :=
  .of_wp fun prog w A R s h => by
    obtain ⟨hp, g, d, tk, os⟩ := s; obtain ⟨h1, h⟩ := h
    have hsub := sub_enumerate
    have q1 : ∀ {A' : Around} {E : Value → Shared → Prop} {Q : Value → Shared → Prop}, Q (.ref hp.objs.size) ⟨hp.push o, g, d, tk, os⟩ → wpAny (model prog w) A' (pyIter v) Q E ⟨hp, g, d, tk, os⟩ :=
      fun q => B.iter prog w _ _ ⟨hp, g, d, tk, os⟩ _ h1 q
    wp_walk using q1
    refine wpAny_stack_any fun st => wpAny_pure ?_
    split
    · rename_i c _ _ _ _ _
      cases (c == Value.type "enumerate")
      · wp_walk using q1
        exact ⟨_, rfl, h⟩
      · wp_walk using q1
        exact ⟨_, rfl, h⟩
    · wp_walk using q1
      exact ⟨_, rfl, h⟩
theorem enum_begins1 {prog : Program} {w : World} {A : Around} {E : Value → Shared → Prop} {s : Shared} {v : Value} {o : Obj} {G : Heap → Prop} {Q : Value → Shared → Prop} (B : Begins v o G) (h1 : G s.heap)
    (h : ∀ h', IsEnum h' (s.heap.objs.size + 1) s.heap.objs.size 0 .none → h'.get? s.heap.objs.size = some o → h'.objs.size = s.heap.objs.size + 2 →
      (∀ b o, s.heap.get? b = some o → h'.get? b = some o) → Q (.ref (s.heap.objs.size + 1)) { s with heap := h' }) :
    wpAny (model prog w) A (call (.type "enumerate") [v]) Q E s := by
  refine callType_new F.called_enumerate (by decide) (F.typeCall_enumerate_1 _) (F.newCall_enumerate_1 _) (fun obj => F.args_object_init_2 obj _) F.entry_enumerate_new (meets_enum_new1 B) ⟨h1, ?_⟩
  have hz : (s.heap.push o).objs.size = s.heap.objs.size + 1 := Heap.size_push ..
  show _ ∧ _
  rw [hz]
  have he : IsEnum ((s.heap.push o).push { cls := .type "enumerate", data := .fields #[.none, .bool false, .ref s.heap.objs.size, rawInt 0, .none, .none] }) (s.heap.objs.size + 1) s.heap.objs.size 0 .none := by
    have := Heap.get?_push_size (s.heap.push o) (o := { cls := .type "enumerate", data := .fields #[.none, .bool false, .ref s.heap.objs.size, rawInt 0, .none, .none] }) rfl
    rw [hz] at this; exact this
  exact ⟨⟨_, he, rfl⟩, h _ he (Heap.get?_push_of_some _ (Heap.get?_push_size _ B.free)) (by rw [Heap.size_push, hz]) fun b o x => Heap.get?_push_of_some _ (Heap.get?_push_of_some _ x)⟩
/-- the tuple at a as it stands at each turn, each item in a new pair -/
def IteT (K : PySem.W.Frag) (a : Addr) : It :=
  ⟨fun i H => ∃ (xs : List V) (x : V), SqT K H a xs ∧ xs[i]? = some x, fun i H v H' => ∃ T x, v = .ref T ∧ H T = none ∧ H' = upd H T (.tup [.int (i : Nat), x]) ∧ ∀ xs, SqT K H a xs → xs[i]? = some x, fun i H => ∃ xs : List V, SqT K H a xs ∧ xs.length = i⟩
theorem walk_enumT {K : PySem.W.Frag} {a : Addr} {xs : List V} : Walk (IteT K a) xs.length (fun H => SqT K H a xs) (YPair (fun i => some (.int (i : Nat))) (fun i => xs[i]?)) := by
  refine ⟨fun i _ hi q => ⟨xs, xs[i], q, by simp [hi]⟩, fun _ q => ⟨xs, q, rfl⟩, fun i H v H' _ q y => ?_⟩
  obtain ⟨T, x, h1, h2, h3, h4⟩ := y
  exact ⟨T, .int (i : Nat), x, h1, h2, h3, rfl, h4 xs q⟩
theorem turn_enumT {P : Program} {w : World} {K : PySem.W.Frag} {elts : List Expr} {kk : Nat} {tpos : Pos} (a e it : Addr) :
    Turn P w K (.Tuple elts kk tpos) (IteT K a) [e, it] e (fun i h => (∃ old, IsEnum h e it ((i : Nat) : Int) old) ∧ h.IsTupleIter it a i ∧ e ≠ it ∧ a ≠ it ∧ e ≠ a) where
  mem := by simp
  obj := fun i h st b hb => by
    obtain ⟨⟨old, he⟩, ⟨o, ho, hc, hd⟩, _⟩ := st
    have e' : b = e ∨ b = it := by simpa using hb
    rcases e' with z | z
    · rw [z]; exact ⟨_, he, fun v q => nomatch q⟩
    · rw [z]; exact ⟨o, ho, fun v q => by rw [hd] at q; cases q⟩
  keep := fun i h h' st k => let ⟨⟨old, he⟩, hi, hne⟩ := st; ⟨⟨old, k e (by simp) _ he⟩, hi.at fun o q => k it (by simp) o q, hne⟩
  item := by
    intro X hP hw hK hc i pins s σ H E I hf st hg
    subst hP hw hK
    obtain ⟨⟨old, he⟩, hit, hne, hai, hea⟩ := st
    obtain ⟨xs, x, hq, hx⟩ := hg
    obtain ⟨its, rv, p, hz⟩ := I.tuple hq
    obtain ⟨u, hu, ru⟩ := rv.get hx
    have hel : e < s.heap.objs.size := Heap.lt_size he
    have hil : it < s.heap.objs.size := by obtain ⟨_, q, _⟩ := hit; exact Heap.lt_size q
    have pT : s.heap.IsTuple a its.toArray := p
    have hlt : i < its.toArray.size := by
      have := (List.getElem?_eq_some_iff.mp hu).1
      simpa using this
    refine wpAny_pyNext_enum_itemC (Draws.tuple (A := X.A.in1) (I.ok.hd hc) it a hai its.toArray) he ⟨hit, pT⟩ hlt hne (by simp [hne, hea]) fun y h' tk hP ho hit' hT hsz hk => ?_
    have ey : y = u := by
      have h1 : its.toArray[i]? = some u := by simpa using hu
      exact Option.some.inj (hP.symm.trans h1)
    subst ey
    refine ⟨_, rfl, wpAny_letOwnedTupleGo_enum (s := { s with heap := h', toks := tk + 1 }) ho fun h'' he' sb => ?_⟩
    have hT2 : h''.get? s.heap.objs.size = some { cls := .type "tuple", data := .seq #[.int i tk, y] } := (sb.2 _ (Nat.ne_of_gt hel)).trans hT
    have new : ObjOk X.prog X.w (upd H s.heap.objs.size (.tup [.int (i : Nat), x])) h'' s.heap.objs.size (.tup [.int (i : Nat), x]) :=
      ⟨by show 2 ≤ sizeLine; decide, [.int i tk, y], .cons ⟨_, rfl⟩ (.cons ru .nil), ⟨_, hT2, rfl, _, rfl⟩⟩
    have I1 : Inv X pins σ (upd H s.heap.objs.size (.tup [.int (i : Nat), x])) { s with heap := h'', toks := tk + 1 } :=
      I.turnedNew (ch := [e, it]) (fun b ob hb q => (sb.2 b (fun z => hb (by simp [z]))).trans (hk b ob (fun z => hb (by simp [z])) (fun z => hb (by simp [z])) q)) hf (Nat.le_refl _) new
    refine ⟨.ref s.heap.objs.size, _, I1, rfl, ⟨_, x, rfl, I.hok.fresh (Nat.le_refl _), rfl, fun ys hy => by rw [I.tuple_inj hy hq]; exact hx⟩, ⟨⟨y, ?_⟩, hit'.1.at fun o q => (sb.2 it (Ne.symm hne)).trans q, hne, hai, hea⟩, fun b hb => ?_⟩
    · have e1 : ((i + 1 : Nat) : Int) = (i : Int) + 1 := by omega
      rw [e1]; exact he'
    · have hb' : b < s.heap.objs.size := by
        have e' : b = e ∨ b = it := by simpa using hb
        rcases e' with z | z
        · rw [z]; exact hel
        · rw [z]; exact hil
      rw [upd_ne (Nat.ne_of_lt hb')]
      exact (hf b hb).1
  done := by
    intro X hP hw hK hc i pins s σ H E I hf st hg
    subst hP hw hK
    obtain ⟨⟨old, he⟩, hit, hne, hai, hea⟩ := st
    obtain ⟨xs, hq, hx⟩ := hg
    obtain ⟨its, rv, p, hz⟩ := I.tuple hq
    have pT : s.heap.IsTuple a its.toArray := p
    obtain ⟨f0, f1, f2, f3, f4, f5⟩ := hf it (by simp)
    have hl := rv.length
    have en : its.toArray.size = i := by simp; omega
    subst en
    exact wpAny_pyNext_enum_endD (Draws.tuple (A := X.A.in1) (I.ok.hd hc) it a hai its.toArray) he ⟨hit, pT⟩ fun h' eb => ⟨rfl, I.turned (t' := s.toks) (fun b o hb q => eb b o hb q) f0 f1 f3 f4 f5⟩
  self := fun A i s Q E st h => let ⟨⟨_, he⟩, _⟩ := st; wpAny_pyIter_enum he h
def iEnumT (K : PySem.W.Frag) (ta : TA) : TI := fun σ H R => ta σ H fun vs H1 => ∃ a xs, vs = [.ref a] ∧ SqT K H1 a xs ∧ R (IteT K a) H1
theorem pi_enumT {X : Cx} {e : Expr} {ta : TA} {p pos tpos : Pos} {elts : List Expr} {kk : Nat} (hg : Gl X "enumerate") (hm : X.mg "enumerate" = none) (ha : PA X [e] ta) (hs : starEach [e] X.env = [(false, eval e X.env)] := by rfl) :
    PI X (.Tuple elts kk tpos) (.Call (.Name "enumerate" p) [e] [] pos) (iEnumT X.K ta) := by
  refine ⟨fun pins s σ H R I h => ?_⟩
  refine Call_ (ld_blt I hg hm boot_enumerate (PyProof.Rows.callWith_type1 (thn (ha.run pos pins s σ H _ I h) fun us s1 ⟨vs, H1, I1, r1, q1⟩ => ?_) hs rfl))
  obtain ⟨a, xs, ex, hq, q⟩ := q1
  subst ex
  obtain rfl := Vals.ref1 r1
  obtain ⟨its, rv, p', hz⟩ := I1.tuple hq
  have hal : a < s1.heap.objs.size := p'.lt
  refine enum_begins1 (begins_tuple a its.toArray) (show s1.heap.IsTuple a its.toArray from p') fun h' he hit hsz hk => wpAny_pyIter_enum he ?_
  have I2 : Inv X pins σ H1 { s1 with heap := h' } := I1.kept (t' := s1.toks) hk
  refine ⟨s1.heap.objs.size + 1, [s1.heap.objs.size + 1, s1.heap.objs.size], _, _, H1, rfl, I2, turn_enumT a (s1.heap.objs.size + 1) s1.heap.objs.size, ⟨⟨.none, he⟩, ⟨_, hit, rfl, rfl⟩, Nat.succ_ne_self _, Nat.ne_of_lt hal, Nat.ne_of_gt (Nat.lt_succ_of_lt hal)⟩, fun b hb => ?_, q⟩
  have e' : b = s1.heap.objs.size + 1 ∨ b = s1.heap.objs.size := by simpa using hb
  have hle : s1.heap.objs.size ≤ b := by
    rcases e' with z | z
    · rw [z]; exact Nat.le_add_right _ _
    · rw [z]; exact Nat.le_refl _
  exact I1.fpOk hle (I1.hok.fresh hle)
end Vg

namespace Vg
open PySem PySem.Spec PyProof.Rows L2 RZ RT
/-! ### the number of unlike items of a list of ints -/
section
variable {X : Cx}
theorem dedup_props (ns : List Int) : (ns.foldl step_dedup []).Nodup ∧ (∀ x, x ∈ ns.foldl step_dedup [] ↔ x ∈ ns) ∧ (ns.foldl step_dedup []).length ≤ ns.length ∧ ((ns.foldl step_dedup []).length = ns.length ↔ ns.Nodup) := by
  have key : ∀ (xs acc : List Int), acc.Nodup → (xs.foldl step_dedup acc).Nodup ∧ (∀ x, x ∈ xs.foldl step_dedup acc ↔ x ∈ acc ∨ x ∈ xs) ∧ (xs.foldl step_dedup acc).length ≤ acc.length + xs.length ∧
      ((xs.foldl step_dedup acc).length = acc.length + xs.length ↔ (acc ++ xs).Nodup) := by
    intro xs
    induction xs with
    | nil => intro acc h; simp [h]
    | cons y r ih =>
      intro acc h
      rw [List.foldl_cons]
      by_cases hy : y ∈ acc
      · have e : step_dedup acc y = acc := by unfold step_dedup; simp [hy]
        rw [e]
        obtain ⟨i1, i2, i3, i4⟩ := ih acc h
        refine ⟨i1, fun x => ?_, by rw [List.length_cons]; omega, ?_⟩
        · rw [i2 x, List.mem_cons]
          constructor
          · rintro (h | h)
            · exact .inl h
            · exact .inr (.inr h)
          · rintro (h | h | h)
            · exact .inl h
            · exact .inl (h ▸ hy)
            · exact .inr h
        · rw [List.length_cons]
          constructor
          · intro q; omega
          · intro q
            have := (List.nodup_append.mp q).2.2 y hy y (List.mem_cons_self ..)
            exact absurd rfl this
      · have e : step_dedup acc y = acc ++ [y] := by unfold step_dedup; simp [hy]
        rw [e]
        have h2 : (acc ++ [y]).Nodup := by
          rw [List.nodup_append]
          refine ⟨h, by simp, fun a ha b hb => ?_⟩
          rw [List.mem_singleton.mp hb]
          exact fun q => hy (q ▸ ha)
        obtain ⟨i1, i2, i3, i4⟩ := ih (acc ++ [y]) h2
        refine ⟨i1, fun x => ?_, by rw [List.length_append, List.length_singleton] at i3; rw [List.length_cons]; omega, ?_⟩
        · rw [i2 x, List.mem_append, List.mem_singleton, List.mem_cons, or_assoc]
        · rw [List.length_append, List.length_singleton] at i4
          rw [List.length_cons, show acc.length + (r.length + 1) = acc.length + 1 + r.length by omega, i4, List.append_assoc]; rfl
  obtain ⟨a, b, c, d⟩ := key ns [] (by simp)
  refine ⟨a, fun x => by rw [b x]; simp, by simpa using c, by simpa using d⟩
theorem range_getD (ns : List Int) : (List.range ns.length).map (fun i => ns.getD i 0) = ns := by
  refine List.ext_getElem (by simp) fun i h1 h2 => ?_
  rw [List.getElem_map, List.getElem_range, List.getD_eq_getElem?_getD, List.getElem?_eq_getElem h2]; rfl
def tLenSet (K : PySem.W.Frag) (ta : TE) : TE := fun σ H Q => ta σ H fun x H1 => ∃ (l : Addr) (ns : List Int), x = .ref l ∧ SqL K H1 l (ns.map V.int) ∧ ns.length ≤ 4000 ∧ ∀ m : Nat, m ≤ ns.length → (m = ns.length ↔ ns.Nodup) → Q (.int m) H1
theorem pe_lenSet {a : Expr} {ta : TE} {p p2 q pos : Pos} (hg : Gl X "len") (hm : X.mg "len" = none) (hg2 : Gl X "set") (hm2 : X.mg "set" = none) (ha : PE X a ta) (hc : X.calm = true := by rfl)
    (na : starEach [a] X.env = (false, eval a X.env) :: starEach [] X.env := by rfl) : PE X (.Call (.Name "len" p) [.Call (.Name "set" p2) [a] [] q] [] pos) (tLenSet X.K ta) := by
  refine ⟨fun pins s σ H Q I h => ?_⟩
  refine Call_ (ld_blt I hg hm boot_len ?_)
  refine PyProof.Rows.callWith_builtin1 (PyProof.Rows.args_cons ?_ rfl) rfl rfl
  refine Call_ (ld_blt I hg2 hm2 boot_set ?_)
  refine PyProof.Rows.callWith_type1 (PyProof.Rows.args_cons (thn (ha.run pins s σ H _ I h) fun v s1 ⟨x, H1, I1, r1, q1⟩ => PyProof.Rows.args_nil ?_) na) na rfl
  obtain ⟨l, ns, rfl, hq, hl, q1⟩ := q1
  cases r1
  obtain ⟨its, r, pl, hz⟩ := I1.list hq
  have hlen : its.toArray.size = ns.length := by rw [List.size_toArray, ← r.length, List.length_map]
  refine call_set_list (I1.ok.hd hc) pl.isList (by simpa using intsAre_vals r) (by rw [hlen]; unfold scanBound; omega) fun h' tk hS hk => ?_
  refine PyProof.Rows.args_nil ?_
  obtain ⟨d1, d2, d3, d4⟩ := dedup_props ns
  have e1 : PyProof.Rows.firstMet (fun i => ns.getD i 0) its.toArray.size = ns.foldl step_dedup [] := by unfold PyProof.Rows.firstMet; rw [hlen, range_getD]
  rw [e1] at hS
  obtain ⟨o, es, ep, t, ho, hex, hd, _, _, _, hf, hn⟩ := hS
  have I2 : Inv X pins σ H1 { s1 with heap := h', toks := tk } := I1.kept fun b o e => hk b o (Heap.lt_size e) e
  exact call_len_set ho hex hd hf (by rw [hn] <;> omega) ⟨.int (ns.foldl step_dedup []).length, H1, I2.tok _, ⟨_, by rw [hn]⟩, q1 _ d3 d4⟩
/-! ### == of lists, tuples of ints -/
theorem dp_ints {K : PySem.W.Frag} {H : Hp} : ∀ ns : List Int, DpAll K H (ns.map V.int) (ns.map PyData.int)
  | [] => .nil
  | _ :: r => .cons (.int _) (dp_ints r)
theorem eqv_ints : ∀ ns ms : List Int, PyData.eqvAll (ns.map PyData.int) (ms.map PyData.int) = decide (ns = ms)
  | [], [] => rfl
  | [], _ :: _ => rfl
  | _ :: _, [] => rfl
  | a :: r, b :: t => by
    show (PyData.eqv (.int a) (.int b) && PyData.eqvAll (r.map PyData.int) (t.map PyData.int)) = _
    rw [eqv_ints r t]
    show (a == b && decide (r = t)) = decide (a :: r = b :: t)
    by_cases h1 : a = b
    · subst h1; simp
    · simp [h1]
theorem lay_ints : ∀ ns : List Int, PyData.canLayAll0 (ns.map PyData.int) = true
  | [] => rfl
  | _ :: r => by show (true && _) = true; rw [lay_ints r]; rfl
theorem depth_ints : ∀ ns : List Int, PyData.depthAll (ns.map PyData.int) ≤ 1
  | [] => Nat.zero_le _
  | _ :: r => by
    have := depth_ints r
    show max (PyData.depth (.int _)) (PyData.depthAll (r.map PyData.int)) ≤ 1
    have e : ∀ z : Int, PyData.depth (.int z) = 0 := fun _ => by first | rfl | simp [PyData.depth]
    rw [e]; omega
theorem shaped_ints (ns : List Int) : SeqAt.shaped (.list (ns.map PyData.int)) = true ∧ SeqAt.shaped (.tuple (ns.map PyData.int)) = true := by
  have h1 := lay_ints ns
  have h2 := depth_ints ns
  constructor
  · show (PyData.canLayAll0 _ && decide (PyData.depthAll _ + 1 ≤ 64)) = true
    rw [h1]; simp; omega
  · show (PyData.canLayAll0 _ && decide (PyData.depthAll _ + 1 ≤ 64)) = true
    rw [h1]; simp; omega
def rIntsC (K : PySem.W.Frag) (neg : Bool) : R2 := fun x y H Q => ∃ (a b : Addr) (ns ms : List Int), x = .ref a ∧ y = .ref b ∧ ((SqL K H a (ns.map V.int) ∧ SqL K H b (ms.map V.int)) ∨ (SqT K H a (ns.map V.int) ∧ SqT K H b (ms.map V.int))) ∧ Q (.bl (if neg then !decide (ns = ms) else decide (ns = ms))) H
theorem op_eqInts (hu : X.A.units + 64 < cLine) : OpR X (compareOp .Eq) (rIntsC X.K false) := by
  intro pins s σ H x y v u Q I rx ry h
  obtain ⟨a, b, ns, ms, rfl, rfl, h, q⟩ := h
  rcases h with ⟨h1, h2⟩ | ⟨h1, h2⟩
  · refine op_eqD hu pins s σ H _ _ v u Q I rx ry ⟨_, _, .lst h1 (dp_ints ns), .lst h2 (dp_ints ms), (shaped_ints ns).1, (shaped_ints ms).1, ?_⟩
    show Q (.bl (PyData.eqvAll _ _)) H
    rw [eqv_ints]; exact q
  · refine op_eqD hu pins s σ H _ _ v u Q I rx ry ⟨_, _, .tup h1 (dp_ints ns), .tup h2 (dp_ints ms), (shaped_ints ns).2, (shaped_ints ms).2, ?_⟩
    show Q (.bl (PyData.eqvAll _ _)) H
    rw [eqv_ints]; exact q
theorem op_neInts (hu : X.A.units + 64 < cLine) : OpR X (compareOp .NotEq) (rIntsC X.K true) := by
  intro pins s σ H x y v u Q I rx ry h
  obtain ⟨a, b, ns, ms, rfl, rfl, h, q⟩ := h
  rcases h with ⟨h1, h2⟩ | ⟨h1, h2⟩
  · refine op_neD hu pins s σ H _ _ v u Q I rx ry ⟨_, _, .lst h1 (dp_ints ns), .lst h2 (dp_ints ms), (shaped_ints ns).1, (shaped_ints ms).1, ?_⟩
    show Q (.bl (!PyData.eqvAll _ _)) H
    rw [eqv_ints]; exact q
  · refine op_neD hu pins s σ H _ _ v u Q I rx ry ⟨_, _, .tup h1 (dp_ints ns), .tup h2 (dp_ints ms), (shaped_ints ns).2, (shaped_ints ms).2, ?_⟩
    show Q (.bl (!PyData.eqvAll _ _)) H
    rw [eqv_ints]; exact q
end
end Vg

namespace Vg
open PySem PySem.Spec PyProof.Rows L2 RZ RT
/-! ### the rules that speak of the written part, with it named -/
section
variable {X : Cx} (K : PySem.W.Frag)
theorem op_catK (h : X.K = K := by rfl) : OpR X (binaryOp .Add) (rCatA K) := by subst h; exact op_catA
theorem ix_tupK (h : X.K = K := by rfl) : IxR X (rIxT K) := by subst h; exact ix_tup
theorem ix_listK (h : X.K = K := by rfl) : IxR X (rIxL K) := by subst h; exact ix_list
theorem sl_listK (h : X.K = K := by rfl) : SlR X (rSlL K) := by subst h; exact sl_list
theorem op_in_seqK (h : X.K = K := by rfl) : OpR X (compareOp .In) (rIn K false) := by subst h; exact op_in_seq
def rListOf (K : PySem.W.Frag) : List V → Hp → VK → Prop := fun xs H Q => ∃ p ys, xs = [.ref p] ∧ (SqL K H p ys ∨ SqT K H p ys) ∧ ∀ l, H l = none → Q (.ref l) (upd H l (.lst ys))
theorem call_list_ofK (h : X.K = K := by rfl) : CallR X (.type "list") (rListOf K) := by subst h; exact call_list_of
theorem pe_fldK {e : Expr} {f : Str} {pos : Pos} {ta : TE} (he : PE X e ta) (hb : attributeBase e f X.env (eval e X.env) = eval e X.env) (h : X.K = K := by rfl) : PE X (.Attribute e f pos) (tFld K ta f) := by subst h; exact pe_fld he hb
theorem pi_listK {tg l : Expr} {tl : TE} (hl : PE X l tl) (h : X.K = K := by rfl) : PI X tg l (iList K tl) := by subst h; exact pi_list hl
end
end Vg

namespace Vg
open PySem PySem.Spec PyProof.Rows L2 RZ RT
/-- the size of sides -/
def prod (ns : List Int) : Int := ns.foldl (fun a b => a * b) 1
theorem take_snoc {α : Type} {ns : List α} {i : Nat} {z : α} (h : ns[i]? = some z) : ns.take (i + 1) = ns.take i ++ [z] := by
  obtain ⟨hi, e⟩ := List.getElem?_eq_some_iff.mp h
  rw [List.take_succ_eq_append_getElem hi, e]
theorem prod_take {ns : List Int} {i : Nat} {z : Int} (h : ns[i]? = some z) : prod (ns.take (i + 1)) = prod (ns.take i) * z := by
  rw [take_snoc h]; unfold prod; rw [List.foldl_append]; rfl
structure Lens (ns : List Int) : Prop where
  few : ns.length ≤ 5
  rng : ∀ n ∈ ns, 0 ≤ n ∧ n ≤ 600
  sz : prod ns ≤ 600
theorem map_at {α : Type} {f : α → V} {ns : List α} {i : Nat} {y : V} (h : (ns.map f)[i]? = some y) : ∃ z, ns[i]? = some z ∧ y = f z := by
  rw [List.getElem?_map] at h
  cases e : ns[i]? with
  | none => rw [e] at h; cases h
  | some z => rw [e] at h; exact ⟨z, rfl, (Option.some.inj h).symm⟩
theorem len_in {ns : List Int} (h : ∀ n ∈ ns, 0 ≤ n ∧ n ≤ 600) {i : Nat} {z : Int} (e : ns[i]? = some z) : 0 ≤ z ∧ z ≤ 600 := h z (List.mem_of_getElem? e)
section
variable {P : Program} {w : World} {K : PySem.W.Frag} {mg : Str → Option Value} {base : Heap}
def sp_is_whole : Sp := fun vs H Q _ => ∃ i : Int, vs = [.int i] ∧ Q (.bl true) H
abbrev N_is_whole : List Str := ["thing"]
theorem sc_is_whole : FnScope N_is_whole ["thing"] (defScope s_is_whole) := ⟨rfl, rfl, rfl, by decide +kernel, rfl, by decide +kernel, by decide +kernel⟩
theorem ok_is_whole (T : Txt K mg) : GF P w K mg base 1 "is_whole" ["thing"] sp_is_whole := by
  have nd := sc_is_whole.nd
  refine gf_of T (d := d_is_whole) (x := "is_whole") rfl rfl rfl (i := 0) rfl (by decide +kernel) sc_is_whole (fun _ _ _ _ _ _ us hl => match us, hl with | [_], _ => rfl) (fun vs H Q E h => ?_) (fun cdv A outer s H vs Q E hr h => ?_)
  · obtain ⟨i, rfl, _⟩ := h; rfl
  · refine ⟨_, (pss_one (ps_ret (pe_and (pe_callB call_isB rfl (T.free "isinstance") (by decide +kernel) (pa_cons (pv 0) (pa_cons (pe_bltn (v := .ty "int") (u := .type "int") rfl (T.free "int") (by decide +kernel) rfl) pa_nil))) (pe_one (pe_not (pe_callB call_isB rfl (T.free "isinstance") (by decide +kernel) (pa_cons (pv 0) (pa_cons (pe_bltn (v := .ty "bool") (u := .type "bool") rfl (T.free "bool") (by decide +kernel) rfl) pa_nil)))))))), ?_⟩
    obtain ⟨i, rfl, q⟩ := h
    exact ⟨_, rfl, _, _, _, true, rfl, .int _, by decide +kernel, true, rfl, iteT ⟨_, rfl, _, _, _, false, rfl, .int _, by decide +kernel, false, rfl, q⟩⟩
end
section
variable {P : Program} {w : World} {K : PySem.W.Frag} {mg : Str → Option Value} {base : Heap}
def sp_size_of : Sp := fun vs H Q _ => ∃ v ns, vs = [v] ∧ IT H v ns ∧ (∀ n ∈ ns, 0 ≤ n ∧ n ≤ 600) ∧ Q (.int (prod ns)) H
abbrev N_size_of : List Str := ["sides", "size", "length"]
theorem sc_size_of : FnScope N_size_of ["sides"] (defScope s_size_of) := ⟨rfl, rfl, rfl, by decide +kernel, rfl, by decide +kernel, by decide +kernel⟩
theorem ok_size_of (T : Txt K mg) : GF P w K mg base 1 "size_of" ["sides"] sp_size_of := by
  have nd := sc_size_of.nd
  refine gf_of T (d := d_size_of) (x := "size_of") rfl rfl rfl (i := 1) rfl (by decide +kernel) sc_size_of (fun _ _ _ _ _ _ us hl => match us, hl with | [_], _ => rfl) (fun vs H Q E h => ?_) (fun cdv A outer s H vs Q E hr h => ?_)
  · obtain ⟨v, ns, rfl, _⟩ := h; rfl
  · refine ⟨_, (pss_cons (ps_set (i := 1) nd rfl (Or.inl rfl) pe_int)
      (pss_cons (ps_for PassesOwn.never rfl (pi_tup (pv 0)) (pg_name (i := 2) nd rfl (Or.inl rfl)) (pss_one (ps_aug (i := 1) nd rfl (Or.inl rfl) (pv 2) ip_mul)))
      (pss_one (ps_ret (pv 1))))), ?_⟩
    obtain ⟨v, ns, rfl, ⟨a, rfl, ha⟩, hb, q⟩ := h
    refine ⟨_, rfl, a, rfl, ⟨_, SqT.of ha⟩, for_it walk_tup (fun i σ H' => H' = H ∧ ∃ z, σ = [some (.ref a), some (.int (prod (ns.take i))), z]) ⟨rfl, none, rfl⟩ (fun i σ H' _ p => by rw [p.1]; exact SqT.of ha) ?_ ?_⟩
    · rintro i y σ H1 H2 hi ⟨rfl, z, rfl⟩ ⟨rfl, hy⟩
      obtain ⟨n, hn, rfl⟩ := map_at hy
      have := len_in hb hn
      refine ⟨_, rfl, _, rfl, _, _, rfl, rfl, .inr (by omega), rfl, some (.int n), ?_⟩
      rw [prod_take hn]; rfl
    · rintro σ H' ⟨rfl, z, rfl⟩
      refine ⟨_, rfl, ?_⟩
      rw [List.take_of_length_le (by simp)]
      exact q
end
theorem alike_ints (ns : List Int) : PySem.W.AlikeAll (ns.map PyData.int) := by
  refine ⟨fun x hx y hy => ?_, fun x hx => ?_⟩
  · obtain ⟨a, _, rfl⟩ := List.mem_map.mp hx
    obtain ⟨b, _, rfl⟩ := List.mem_map.mp hy
    rfl
  · obtain ⟨a, _, rfl⟩ := List.mem_map.mp hx
    exact fun h => nomatch h
section
variable {P : Program} {w : World} {K : PySem.W.Frag} {mg : Str → Option Value} {base : Heap}
def sp_vet_size : Sp := fun vs H Q _ => ∃ v ns, vs = [v] ∧ IT H v ns ∧ Lens ns ∧ Q .non H
abbrev N_vet_size : List Str := ["lengths", "size"]
theorem sc_vet_size : FnScope N_vet_size ["lengths"] (defScope s_vet_size) := ⟨rfl, rfl, rfl, by decide +kernel, rfl, by decide +kernel, by decide +kernel⟩
theorem ok_vet_size (T : Txt K mg) : GF P w K mg base 2 "vet_size" ["lengths"] sp_vet_size := by
  have nd := sc_vet_size.nd
  refine gf_of T (d := d_vet_size) (x := "vet_size") rfl rfl rfl (i := 2) rfl (by decide +kernel) sc_vet_size (fun _ _ _ _ _ _ us hl => match us, hl with | [_], _ => rfl) (fun vs H Q E h => ?_) (fun cdv A outer s H vs Q E hr h => ?_)
  · obtain ⟨v, ns, rfl, _⟩ := h; rfl
  · refine ⟨_, (pss_cons (ps_set (i := 1) nd rfl (Or.inl rfl) (pe_callG (ok_size_of T) (hr.mono (by decide)) rfl (pa_cons (pv 0) pa_nil)))
      (pss_one (ps_if (PW.pt (pw_or (pt_cmpR op_gt (pe_callB call_len_seq rfl (T.free "len") boot_len (pa_cons (pv 0) pa_nil)) (pe_int_glob rfl T.i_MOST_SIDES) (nomark _)) (pw_or (pt_cmpR op_gt (pv 1) (pe_int_glob rfl T.i_MOST_PLACES) (nomark _)) (pw_or1 (pt_cmpR op_gt (pe_callBK (cr_maxT rfl hr.units) rfl (T.free "max") (by decide +kernel) (pa_cons (pv 0) pa_nil) (pk_cons pe_int pk_nil)) (pe_int_glob rfl T.i_MOST_PLACES) (nomark _)))))) (pss_one ps_never) pss_nil))), ?_⟩
    obtain ⟨v, ns, rfl, ⟨a, rfl, ha⟩, hL, q⟩ := h
    refine ⟨_, rfl, _, ns, rfl, ⟨a, rfl, ha⟩, hL.rng, ?_⟩
    have h1 := hL.few
    have h2 := hL.sz
    refine ⟨_, rfl, a, _, rfl, .inr (SqT.of ha), _, _, rfl, rfl, _, rfl, ?_⟩
    rw [List.length_map, decide_eq_false (by omega)]
    refine iteF ⟨_, rfl, _, _, rfl, rfl, _, rfl, ?_⟩
    rw [decide_eq_false (by omega)]
    refine iteF ⟨_, rfl, a, _, _, _, rfl, rfl, SqT.of ha, dp_ints ns, alike_ints ns, Nat.le_trans (depth_ints ns) (by decide), fun _ => ?_, fun i y r v _ hv _ => ?_⟩
    · exact ⟨_, _, rfl, rfl, false, rfl, iteF q⟩
    · obtain ⟨n, hn, rfl⟩ := map_at hv
      have := len_in hL.rng hn
      refine ⟨_, _, rfl, rfl, false, ?_, iteF q⟩
      show V.bl (decide (600 < n)) = _
      rw [decide_eq_false (by omega)]
end
section
variable {P : Program} {w : World} {K : PySem.W.Frag} {mg : Str → Option Value} {base : Heap}
def sp_vet_sides : Sp := fun vs H Q _ => ∃ v ns, vs = [v] ∧ IT H v ns ∧ Lens ns ∧ ∀ H', Same H H' → Q .non H'
abbrev N_vet_sides : List Str := ["thing", "spot", "length"]
theorem sc_vet_sides : FnScope N_vet_sides ["thing"] (defScope s_vet_sides) := ⟨rfl, rfl, rfl, by decide +kernel, rfl, by decide +kernel, by decide +kernel⟩
theorem ok_vet_sides (T : Txt K mg) : GF P w K mg base 3 "vet_sides" ["thing"] sp_vet_sides := by
  have nd := sc_vet_sides.nd
  refine gf_of T (d := d_vet_sides) (x := "vet_sides") rfl rfl rfl (i := 3) rfl (by decide +kernel) sc_vet_sides (fun _ _ _ _ _ _ us hl => match us, hl with | [_], _ => rfl) (fun vs H Q E h => ?_) (fun cdv A outer s H vs Q E hr h => ?_)
  · obtain ⟨v, ns, rfl, _⟩ := h; rfl
  · refine ⟨_, (pss_cons (ps_if (pt_not (pt_val (pe_callB call_isB rfl (T.free "isinstance") (by decide +kernel) (pa_cons (pv 0) (pa_cons (pe_bltn (v := .ty "tuple") (u := .type "tuple") rfl (T.free "tuple") (by decide +kernel) rfl) pa_nil))))) (pss_one ps_never) pss_nil)
      (pss_cons (ps_for PassesOwn.never rfl (pi_enumT rfl (T.free "enumerate") (pa_cons (pv 0) pa_nil)) (pg_tup rfl (pgs_cons (pg_name (i := 1) nd rfl (Or.inl rfl)) (pgs_cons (pg_name (i := 2) nd rfl (Or.inl rfl)) pgs_nil))) (pss_one (ps_if (PW.pt (pw_or (pt_not (pt_val (pe_callG (ok_is_whole T) (hr.mono (by decide)) rfl (pa_cons (pv 2) pa_nil)))) (pw_or1 (pt_not (pt_chain op_le op_le pe_int (pv 2) (pe_int_glob rfl T.i_MOST_PLACES)))))) (pss_one ps_never) pss_nil)))
      (pss_one (ps_expr (pe_callG (ok_vet_size T) (hr.mono (by decide)) rfl (pa_cons (pv 0) pa_nil)))))), ?_⟩
    obtain ⟨v, ns, rfl, ⟨a, rfl, ha⟩, hL, q⟩ := h
    refine ⟨_, rfl, _, _, _, true, rfl, .tup ha, by decide +kernel, true, rfl, iteF ?_⟩
    refine ⟨_, rfl, a, _, rfl, SqT.of ha, for_it walk_enumT (fun i σ H' => Same H H' ∧ ∃ y z, σ = [some (.ref a), y, z]) ⟨Same.refl H, none, none, rfl⟩ (fun i σ H' _ p => SqT.of (p.1 _ _ ha)) ?_ ?_⟩
    · rintro i y σ H1 H2 hi ⟨s1, y', z', rfl⟩ ⟨t, x1, x2, rfl, hn, rfl, e1, e2⟩
      cases e1
      obtain ⟨n, hn', rfl⟩ := map_at e2
      have := len_in hL.rng hn'
      refine ⟨t, _, rfl, SqT.of upd_same, rfl, _, _, rfl, _, _, rfl, rfl, ?_⟩
      refine ⟨_, rfl, n, rfl, true, rfl, iteF ⟨_, rfl, _, _, rfl, rfl, true, ?_, iteT ⟨_, _, rfl, rfl, true, ?_, iteF ?_⟩⟩⟩
      · show V.bl (decide (0 ≤ n)) = _
        rw [decide_eq_true (by omega)]
      · show V.bl (decide (n ≤ 600)) = _
        rw [decide_eq_true (by omega)]
      · exact ⟨s1.trans (Same.new hn), _, _, rfl⟩
    · rintro σ H1 ⟨s1, y', z', rfl⟩
      exact ⟨_, rfl, _, ns, rfl, ⟨a, rfl, s1 _ _ ha⟩, hL, q _ s1⟩
    
end
end Vg

namespace Vg
open PySem PySem.Spec PyProof.Rows L2 RZ RT
theorem catA_ok {K : PySem.W.Frag} {H : Hp} {a b : Addr} {xs ys : List V} {Q : VK} (ha : H a = some (.tup xs)) (hb : H b = some (.tup ys)) (hl : xs.length + ys.length ≤ 1000000)
    (h : ∀ c H', Same H H' → H' c = some (.tup (xs ++ ys)) → Q (.ref c) H') : rCatA K (.ref a) (.ref b) H Q := by
  refine ⟨a, b, xs, ys, rfl, rfl, SqT.of ha, SqT.of hb, by rw [sizeLine_eq]; omega, fun e => ?_, fun _ e => ?_, fun _ _ p hp => ?_⟩
  · subst e; exact h b H (Same.refl H) hb
  · subst e; exact h a H (Same.refl H) (by rw [List.append_nil]; exact ha)
  · exact h p _ (Same.new hp) upd_same
theorem slA_ok {K : PySem.W.Frag} {H : Hp} {a : Addr} {xs : List V} {lo hi : Option Int} {Q : VK} (ha : H a = some (.tup xs)) (h : ∀ c H', Same H H' → H' c = some (.tup (cutV xs lo hi)) → Q (.ref c) H') : rSlA K (.ref a) lo hi H Q := by
  refine ⟨a, xs, rfl, SqT.of ha, fun e => ?_, fun _ p hp => ?_⟩
  · refine h a H (Same.refl H) ?_
    have : cutV xs lo hi = xs := by unfold cutV; rw [e.1, e.2]; simp
    rw [this]; exact ha
  · exact h p _ (Same.new hp) upd_same
/-- one more side -/
def stepP (found : List (List Int)) (n : Int) : List (List Int) := found.flatMap fun p => (List.range n.toNat).map fun (k : Nat) => p ++ [(k : Int)]
def places (ns : List Int) : List (List Int) := if prod ns = 0 then [] else ns.foldl stepP [[]]
theorem flatMap_take {α β : Type} (f : α → List β) {xs : List α} {i : Nat} {x : α} (h : xs[i]? = some x) : (xs.take (i + 1)).flatMap f = (xs.take i).flatMap f ++ f x := by
  rw [take_snoc h, List.flatMap_append]; simp
theorem stepP_length (found : List (List Int)) (n : Int) : (stepP found n).length = found.length * n.toNat := by
  unfold stepP
  induction found with
  | nil => simp
  | cons p r ih => rw [List.flatMap_cons, List.length_append, ih, List.length_map, List.length_range, List.length_cons, Nat.succ_mul, Nat.add_comm]
theorem prod_foldl (ns : List Int) (a : Int) : ns.foldl (fun x y => x * y) a = a * prod ns := by
  induction ns generalizing a with
  | nil => simp [prod]
  | cons n r ih => unfold prod; rw [List.foldl_cons, List.foldl_cons, ih, ih (1 * n), Int.one_mul, Int.mul_assoc]
theorem prod_append (ns ms : List Int) : prod (ns ++ ms) = prod ns * prod ms := by
  unfold prod; rw [List.foldl_append, prod_foldl]; rfl
theorem prod_cons (n : Int) (ns : List Int) : prod (n :: ns) = n * prod ns := by
  have := prod_append [n] ns
  simpa [prod] using this
theorem prod_nonneg {ns : List Int} (h : ∀ n ∈ ns, 0 ≤ n) : 0 ≤ prod ns := by
  induction ns with
  | nil => decide
  | cons n r ih =>
    rw [prod_cons]
    exact Int.mul_nonneg (h n (List.mem_cons_self ..)) (ih fun m hm => h m (List.mem_cons_of_mem _ hm))
theorem prod_pos {ns : List Int} (h : ∀ n ∈ ns, 0 ≤ n) (h0 : prod ns ≠ 0) : 1 ≤ prod ns := by have := prod_nonneg h; omega
theorem prod_zero {ns : List Int} : prod ns = 0 ↔ 0 ∈ ns := by
  induction ns with
  | nil => simp [prod]
  | cons n r ih => rw [prod_cons, Int.mul_eq_zero, ih, List.mem_cons]; constructor <;> (rintro (h | h); exact .inl h.symm; exact .inr h)
theorem prod_take_le {ns : List Int} (h : ∀ n ∈ ns, 0 ≤ n) (h0 : prod ns ≠ 0) (i : Nat) : 1 ≤ prod (ns.take i) ∧ prod (ns.take i) ≤ prod ns := by
  have e : prod ns = prod (ns.take i) * prod (ns.drop i) := by rw [← prod_append, List.take_append_drop]
  have p1 : 1 ≤ prod (ns.take i) := prod_pos (fun n hn => h n (List.mem_of_mem_take hn)) fun q => h0 (by rw [e, q, Int.zero_mul])
  have p2 : 1 ≤ prod (ns.drop i) := prod_pos (fun n hn => h n (List.mem_of_mem_drop hn)) fun q => h0 (by rw [e, q, Int.mul_zero])
  refine ⟨p1, ?_⟩
  rw [e]
  have := Int.mul_le_mul_of_nonneg_left p2 (show 0 ≤ prod (ns.take i) by omega)
  rw [Int.mul_one] at this
  exact this
theorem folded_length (ns : List Int) (h : ∀ n ∈ ns, 0 ≤ n) : (((ns.foldl stepP [[]]).length : Nat) : Int) = prod ns := by
  have key : ∀ (ns : List Int) (f : List (List Int)), (∀ n ∈ ns, 0 ≤ n) → (((ns.foldl stepP f).length : Nat) : Int) = f.length * prod ns := by
    intro ns
    induction ns with
    | nil => intro f _; simp [prod]
    | cons n r ih =>
      intro f h
      rw [List.foldl_cons, ih _ (fun m hm => h m (List.mem_cons_of_mem _ hm)), stepP_length, prod_cons, Int.natCast_mul, Int.toNat_of_nonneg (h n (List.mem_cons_self ..)), Int.mul_assoc]
  have := key ns [[]] h
  simpa using this
theorem places_length {ns : List Int} (h : ∀ n ∈ ns, 0 ≤ n) : (((places ns).length : Nat) : Int) = prod ns := by
  unfold places
  by_cases e : prod ns = 0
  · rw [if_pos e, e]; rfl
  · rw [if_neg e]; exact folded_length ns h
theorem part_length {ns : List Int} (hL : Lens ns) (h0 : prod ns ≠ 0) (i : Nat) : ((ns.take i).foldl stepP [[]]).length ≤ 600 := by
  have h1 := folded_length (ns.take i) fun n hn => (hL.rng n (List.mem_of_mem_take hn)).1
  have h2 := (prod_take_le (fun n hn => (hL.rng n hn).1) h0 i).2
  have := hL.sz
  omega
/-- a place of sides, told from 0 -/
def InP : List Int → List Int → Prop
  | [], [] => True
  | n :: ns, p :: ps => (0 ≤ p ∧ p < n) ∧ InP ns ps
  | _, _ => False
theorem InP.len : ∀ {ns ps : List Int}, InP ns ps → ps.length = ns.length
  | [], [], _ => rfl
  | _ :: _, _ :: _, h => congrArg Nat.succ (InP.len h.2)
theorem InP.at : ∀ {ns ps : List Int} {i : Nat} {n p : Int}, InP ns ps → ns[i]? = some n → ps[i]? = some p → 0 ≤ p ∧ p < n
  | _ :: _, _ :: _, 0, _, _, h, e1, e2 => by simp at e1 e2; subst e1 e2; exact h.1
  | _ :: _, _ :: _, i + 1, _, _, h, e1, e2 => InP.at (i := i) h.2 (by simpa using e1) (by simpa using e2)
theorem mem_stepP {f : List (List Int)} {n : Int} {p : List Int} : p ∈ stepP f n ↔ ∃ q ∈ f, ∃ k : Int, (0 ≤ k ∧ k < n) ∧ p = q ++ [k] := by
  unfold stepP
  rw [List.mem_flatMap]
  constructor
  · rintro ⟨q, hq, hp⟩
    obtain ⟨k, hk, rfl⟩ := List.mem_map.mp hp
    have := List.mem_range.mp hk
    exact ⟨q, hq, (k : Int), ⟨by omega, by omega⟩, rfl⟩
  · rintro ⟨q, hq, k, hk, rfl⟩
    refine ⟨q, hq, List.mem_map.mpr ⟨k.toNat, List.mem_range.mpr (by omega), ?_⟩⟩
    rw [Int.toNat_of_nonneg hk.1]
theorem mem_folded : ∀ {ns : List Int} {f : List (List Int)} {p : List Int}, p ∈ ns.foldl stepP f ↔ ∃ q ∈ f, ∃ r, p = q ++ r ∧ InP ns r
  | [], f, p => by
    show p ∈ f ↔ _
    constructor
    · intro h; exact ⟨p, h, [], by simp, trivial⟩
    · rintro ⟨q, hq, r, rfl, hr⟩
      match r, hr with
      | [], _ => simpa using hq
  | n :: ns, f, p => by
    rw [List.foldl_cons, mem_folded]
    constructor
    · rintro ⟨q, hq, r, rfl, hr⟩
      obtain ⟨q0, h0, k, hk, rfl⟩ := mem_stepP.mp hq
      exact ⟨q0, h0, k :: r, by simp, hk, hr⟩
    · rintro ⟨q, hq, r, rfl, hr⟩
      match r, hr with
      | k :: r, hr => exact ⟨q ++ [k], mem_stepP.mpr ⟨q, hq, k, hr.1, rfl⟩, r, by simp, hr.2⟩
theorem prod_ne_of_in : ∀ {ns ps : List Int}, InP ns ps → prod ns ≠ 0
  | [], [], _ => by decide
  | n :: ns, p :: ps, h => by
    rw [prod_cons]
    intro q
    rcases Int.mul_eq_zero.mp q with q | q
    · have := h.1; omega
    · exact prod_ne_of_in h.2 q
theorem mem_places {ns p : List Int} : p ∈ places ns ↔ InP ns p := by
  unfold places
  by_cases e : prod ns = 0
  · rw [if_pos e]
    exact ⟨(fun h => nomatch h), fun h => absurd e (prod_ne_of_in h)⟩
  · rw [if_neg e, mem_folded]
    constructor
    · rintro ⟨q, hq, r, rfl, hr⟩
      rw [List.mem_singleton.mp hq]; exact hr
    · intro h; exact ⟨[], by simp, p, by simp, h⟩
section
variable {P : Program} {w : World} {K : PySem.W.Frag} {mg : Str → Option Value} {base : Heap}
def sp_places_of : Sp := fun vs H Q _ => ∃ v ns, vs = [v] ∧ IT H v ns ∧ Lens ns ∧ ∀ l H' ys, H l = none → Same H H' → H' l = some (.lst ys) → Paired (IT H') ys (places ns) → Q (.ref l) H'
abbrev N_places_of : List Str := ["sides", "found", "length", "place", "k"]
theorem sc_places_of : FnScope N_places_of ["sides"] (defScope s_places_of) := ⟨rfl, rfl, rfl, by decide +kernel, rfl, by decide +kernel, by decide +kernel⟩
theorem ok_places_of (T : Txt K mg) : GF P w K mg base 2 "places_of" ["sides"] sp_places_of := by
  have nd := sc_places_of.nd
  refine gf_of T (d := d_places_of) (x := "places_of") rfl rfl rfl (i := 4) rfl (by decide +kernel) sc_places_of (fun _ _ _ _ _ _ us hl => match us, hl with | [_], _ => rfl) (fun vs H Q E h => ?_) (fun cdv A outer s H vs Q E hr h => ?_)
  · obtain ⟨v, ns, rfl, _⟩ := h; rfl
  · refine ⟨_, (pss_cons (ps_if (pt_cmpR op_eq (pe_callG (ok_size_of T) (hr.mono (by decide)) rfl (pa_cons (pv 0) pa_nil)) pe_int (nomark _)) (pss_one (ps_ret (pe_lst pa_nil))) pss_nil)
      (pss_cons (ps_set (i := 1) nd rfl (Or.inl rfl) (pe_lst (pa_cons (pe_tup pa_nil) pa_nil)))
      (pss_cons (ps_for PassesOwn.never rfl (pi_tup (pv 0)) (pg_name (i := 2) nd rfl (Or.inr rfl)) (pss_one (ps_setLc2 (i := 1) (own := [("place", 3), ("k", 4)]) (vs1 := [4]) (g := (gName 3)) (g1 := (gName 4)) (tt := tYes) (tt1 := tYes) rfl nd rfl rfl (sw_true rfl rfl rfl (by decide +kernel)) (pi_list (pv 1)) (blkOk_by (N := N_places_of) (sc := defScope s_places_of) (by decide +kernel)) (by decide) (fun _ _ _ _ _ => (pg_name (i := 3) nd rfl (Or.inl rfl))) (fun _ _ _ _ _ => pts_nil) (fun _ _ _ _ _ => (pi_range1 rfl (T.free "range") (pa_cons (pv 2) pa_nil))) (fun _ _ _ _ _ => (pg_name (i := 4) nd rfl (Or.inl rfl))) (fun _ _ _ _ _ => pts_nil) (fun _ _ _ _ _ => (pe_op (op_catK K) (pv 3) (pe_tup (pa_cons (pv 4) pa_nil)))))))
      (pss_one (ps_ret (pv 1)))))), ?_⟩
    obtain ⟨v, ns, rfl, ⟨a, rfl, ha⟩, hL, q⟩ := h
    refine ⟨_, rfl, _, ns, rfl, ⟨a, rfl, ha⟩, hL.rng, rfl, _, rfl, ?_⟩
    rw [dec_int]
    by_cases h0 : prod ns = 0
    · rw [h0]
      refine iteT ⟨by show 0 ≤ sizeLine; decide, fun l hl => q l _ [] hl (Same.new hl) upd_same ?_⟩
      unfold places; rw [if_pos h0]; exact .nil
    rw [beq_eq_false_iff_ne.mpr h0]
    refine iteF ⟨by show 0 ≤ sizeLine; decide, fun t ht => ⟨by show 1 ≤ sizeLine; decide, fun l hl => ?_⟩⟩
    have s0 : Same H (upd (upd H t (.tup [])) l (.lst [V.ref t])) := (Same.new ht).trans (Same.new hl)
    have nlt : t ≠ l := fun e => by rw [e, upd_same] at hl; cases hl
    refine ⟨_, rfl, a, rfl, ⟨_, SqT.of (s0 _ _ ha)⟩, for_it walk_tup (fun i σ H' => Same H H' ∧ ∃ l ys z, σ = [some (.ref a), some (.ref l), z, none, none] ∧ H l = none ∧ H' l = some (.lst ys) ∧ Paired (IT H') ys ((ns.take i).foldl stepP [[]]))
      ⟨s0, l, [V.ref t], none, rfl, (Same.new ht).free hl, upd_same, .cons ⟨t, rfl, by rw [upd_ne nlt]; exact upd_same⟩ .nil⟩ (fun i σ H' _ p => SqT.of (p.1 _ _ ha)) ?_ ?_⟩
    · rintro i y σ H0 H1 hi ⟨s1, l1, ys, z, rfl, hl1, e1, p1⟩ ⟨rfl, hy⟩
      obtain ⟨n, hn, rfl⟩ := map_at hy
      have hb := len_in hL.rng hn
      have hlen := part_length hL h0 i
      have hlen2 := part_length hL h0 (i + 1)
      have hys := Paired.len p1
      refine ⟨_, rfl, l1, rfl, ⟨_, SqL.of e1⟩, fun D hD => ?_⟩
      have es : (ns.take (i + 1)).foldl stepP [[]] = stepP ((ns.take i).foldl stepP [[]]) n := by rw [take_snoc hn, List.foldl_append]; rfl
      rw [es] at hlen2
      generalize hcur : (ns.take i).foldl stepP [[]] = cur at *
      refine lc2_it walk_list (fun j H2 => Same H1 H2 ∧ ∃ acc, H2 D = some (.lst acc) ∧ Paired (IT H2) acc ((cur.take j).flatMap fun p => (List.range n.toNat).map fun (k : Nat) => p ++ [(k : Int)]))
        ⟨Same.new hD, [], upd_same, .nil⟩ (fun j H2 _ p => SqL.of (p.1 _ _ e1)) ?_ ?_
      · rintro j x H9 H2 hj ⟨s2, acc, e2, p2⟩ ⟨rfl, hx⟩
        obtain ⟨p, hp, t1, rfl, ht1⟩ := Paired.get p1 hx
        have hpl : ((cur.take j).flatMap fun p => (List.range n.toNat).map fun (k : Nat) => p ++ [(k : Int)]).length + n.toNat ≤ 600 := by
          have h1 := stepP_length (cur.take (j + 1)) n
          have h3 : (stepP (cur.take (j + 1)) n).length ≤ (stepP cur n).length := by
            rw [stepP_length, stepP_length]
            exact Nat.mul_le_mul_right _ (List.length_take_le' ..)
          unfold stepP at h1 h3
          rw [flatMap_take _ hp, List.length_append, List.length_map, List.length_range] at h3
          unfold stepP at hlen2
          omega
        refine ⟨rfl, _, rfl, n, rfl, by omega, by omega, lc2_in walk_range (R := IT) (K := K) (H0 := H1) (pre := (cur.take j).flatMap fun p => (List.range n.toNat).map fun (k : Nat) => p ++ [(k : Int)]) mon_it (fun (k : Nat) => p ++ [(k : Int)]) (by omega) hD s2 e2 p2 (fun _ _ _ => trivial) ?_ ?_⟩
        · rintro k x H4 H5 Kk hk s4 ⟨rfl, rfl⟩ kk
          refine ⟨rfl, _, rfl, _, rfl, by show 1 ≤ sizeLine; decide, fun c hc => ?_⟩
          have ht4 : H5 t1 = some (.tup (p.map V.int)) := s4 _ _ ht1
          refine catA_ok (Same.new hc _ _ ht4) upd_same (by
            obtain ⟨q0, h0, r0, e0, hr0⟩ := mem_folded.mp (hcur ▸ List.mem_of_getElem? hp)
            have := hr0.len
            rw [List.mem_singleton.mp h0] at e0
            have hf := hL.few
            rw [e0]; simp only [List.nil_append, List.length_map, List.length_singleton]; rw [hr0.len, List.length_take]; omega) fun c' H6 s6 e6 => kk _ _ ((Same.new hc).trans s6) ⟨c', rfl, by rw [e6]; simp⟩
        · intro H4 acc4 s4 e4 p4
          refine ⟨s4, acc4, e4, ?_⟩
          rw [flatMap_take _ hp]; exact p4
      · rintro H2 ⟨s2, acc, e2, p2⟩
        refine ⟨s1.trans s2, D, acc, some (.int n), rfl, s1.free hD, e2, ?_⟩
        rw [es]
        rw [List.take_of_length_le (by omega)] at p2
        exact p2
    · rintro σ H1 ⟨s1, l1, ys, z, rfl, hl1, e1, p1⟩
      refine ⟨_, rfl, q l1 H1 ys hl1 s1 e1 ?_⟩
      rw [List.length_map, List.take_length] at p1
      unfold places; rw [if_neg h0]; exact p1
end
section
variable {P : Program} {w : World} {K : PySem.W.Frag} {mg : Str → Option Value} {base : Heap}
def sp_whole_place : Sp := fun vs H Q _ => ∃ v u ns ps, vs = [v, u] ∧ IT H v ns ∧ IT H u ps ∧ (∀ n ∈ ns, 0 ≤ n ∧ n ≤ 600) ∧ ns.length ≤ 5 ∧ InP ns ps ∧ ∀ v' H', Same H H' → IT H' v' ps → Q v' H'
abbrev N_whole_place : List Str := ["lengths", "place", "k", "length"]
theorem sc_whole_place : FnScope N_whole_place ["lengths", "place"] (defScope s_whole_place) := ⟨rfl, rfl, rfl, by decide +kernel, rfl, by decide +kernel, by decide +kernel⟩
theorem ok_whole_place (T : Txt K mg) : GF P w K mg base 2 "whole_place" ["lengths", "place"] sp_whole_place := by
  have nd := sc_whole_place.nd
  refine gf_of T (d := d_whole_place) (x := "whole_place") rfl rfl rfl (i := 5) rfl (by decide +kernel) sc_whole_place (fun _ _ _ _ _ _ us hl => match us, hl with | [_, _], _ => rfl) (fun vs H Q E h => ?_) (fun cdv A outer s H vs Q E hr h => ?_)
  · obtain ⟨v, u, ns, ps, rfl, _⟩ := h; rfl
  · refine ⟨_, (pss_cons (ps_if (PW.pt (pw_or (pt_not (pt_val (pe_callB call_isB rfl (T.free "isinstance") (by decide +kernel) (pa_cons (pv 1) (pa_cons (pe_bltn (v := .ty "tuple") (u := .type "tuple") rfl (T.free "tuple") (by decide +kernel) rfl) pa_nil))))) (pw_or1 (pt_cmpR op_ne (pe_callB call_len_seq rfl (T.free "len") boot_len (pa_cons (pv 1) pa_nil)) (pe_callB call_len_seq rfl (T.free "len") boot_len (pa_cons (pv 0) pa_nil)) (nomark _))))) (pss_one ps_never) pss_nil)
      (pss_cons (ps_for PassesOwn.never rfl (pi_zipA rfl (T.free "zip") (pa_cons (pv 1) (pa_cons (pv 0) pa_nil))) (pg_tup rfl (pgs_cons (pg_name (i := 2) nd rfl (Or.inl rfl)) (pgs_cons (pg_name (i := 3) nd rfl (Or.inl rfl)) pgs_nil))) (pss_one (ps_if (PW.pt (pw_or (pt_not (pt_val (pe_callG (ok_is_whole T) (hr.mono (by decide)) rfl (pa_cons (pv 2) pa_nil)))) (pw_or1 (pt_not (pt_chain op_le op_lt (pe_un un_neg (pv 3)) (pv 2) (pv 3)))))) (pss_one ps_never) pss_nil)))
      (pss_one (ps_ret (pe_callTy call_tuple_of rfl (T.free "tuple") (by decide +kernel) (pa_cons (pe_lc (own := [("k", 2), ("length", 3)]) (g := (gTup K 2 (gCons (gName 2) (gCons (gName 3) gNil)))) (tt := tYes) rfl nd (pi_zipA rfl (T.free "zip") (pa_cons (pv 1) (pa_cons (pv 0) pa_nil))) (blkOk_by (N := N_whole_place) (sc := defScope s_whole_place) (by decide +kernel)) (fun _ _ _ _ _ => (pg_tup rfl (pgs_cons (pg_name (i := 2) nd rfl (Or.inl rfl)) (pgs_cons (pg_name (i := 3) nd rfl (Or.inl rfl)) pgs_nil)))) (fun _ _ _ _ _ => pts_nil) (fun _ _ _ _ _ => (pe_op op_mod (pv 2) (pv 3)))) pa_nil)))))), ?_⟩
    obtain ⟨v, u, ns, ps, rfl, ⟨a, rfl, ha⟩, ⟨b, rfl, hb⟩, hrng, hfew, hin, q⟩ := h
    have hlen := hin.len
    refine ⟨_, rfl, _, _, _, true, rfl, .tup hb, by decide +kernel, true, rfl, iteF ?_⟩
    refine ⟨_, rfl, b, _, rfl, .inr (SqT.of hb), _, rfl, a, _, rfl, .inr (SqT.of ha), rfl, _, rfl, ?_⟩
    rw [List.length_map, List.length_map, hlen, dec_int, beq_self_eq_true]
    refine iteF ⟨_, rfl, _, rfl, b, a, _, _, rfl, .inr ⟨SqT.of hb, SqT.of ha, for_it (walk_zipT (n := ns.length) (by simp [hlen])) (fun i σ H' => Same H H' ∧ ∃ y z, σ = [some (.ref a), some (.ref b), y, z]) ⟨Same.refl H, none, none, rfl⟩ (fun i σ H' _ p => ⟨SqT.of (p.1 _ _ hb), SqT.of (p.1 _ _ ha)⟩) ?_ ?_⟩⟩
    · rintro i y σ H1 H2 hi ⟨s1, y', z', rfl⟩ ⟨t, x1, x2, rfl, hn, rfl, e1, e2⟩
      obtain ⟨p, hp, rfl⟩ := map_at e1
      obtain ⟨n, hn', rfl⟩ := map_at e2
      have := hin.at hn' hp
      refine ⟨t, _, rfl, SqT.of upd_same, rfl, _, _, rfl, _, _, rfl, rfl, ?_⟩
      refine ⟨_, rfl, p, rfl, true, rfl, iteF ⟨_, rfl, n, rfl, _, rfl, _, _, rfl, rfl, true, ?_, iteT ⟨_, rfl, _, _, rfl, rfl, true, ?_, iteF ?_⟩⟩⟩
      · show V.bl (decide (-n ≤ p)) = _
        rw [decide_eq_true (by omega)]
      · show V.bl (decide (p < n)) = _
        rw [decide_eq_true (by omega)]
      · exact ⟨s1.trans (Same.new hn), _, _, rfl⟩
    · rintro σ H1 ⟨s1, y', z', rfl⟩
      have hb1 := s1 _ _ hb
      have ha1 := s1 _ _ ha
      refine ⟨_, rfl, _, rfl, b, a, _, _, rfl, .inr ⟨SqT.of hb1, SqT.of ha1, fun D hD => ?_⟩⟩
      refine lc_map (K := K) (R := IntR) (walk_zipT (n := ns.length) (xs := ps.map V.int) (ys := ns.map V.int) (by simp [hlen])) mon_int (fun i => ps.getD i 0) (by omega) hD (fun H' s' => ⟨SqT.of (s' _ _ hb1), SqT.of (s' _ _ ha1)⟩) ?_ ?_
      · rintro i x H2 H3 Kk hi s2 ⟨t, x1, x2, rfl, hn, rfl, e1, e2⟩ kk
        obtain ⟨p, hp, rfl⟩ := map_at e1
        obtain ⟨n, hn', rfl⟩ := map_at e2
        have := hin.at hn' hp
        refine ⟨t, _, rfl, SqT.of upd_same, rfl, _, _, rfl, _, _, rfl, rfl, rfl, ?_⟩
        refine ⟨_, rfl, _, rfl, _, _, rfl, rfl, by show 0 < n; omega, kk _ _ (Same.new hn) ?_⟩
        show V.int (p % n) = V.int (ps.getD i 0)
        rw [List.getD_eq_getElem?_getD, hp, Int.emod_eq_of_lt this.1 this.2]; rfl
      · intro H2 acc s2 e2 p2
        have ea := Paired.ints p2
        refine ⟨D, acc, rfl, .inl ⟨SqL.of e2, fun l hl => q _ _ ((s1.trans s2).trans (Same.new hl)) ⟨l, rfl, ?_⟩⟩⟩
        rw [upd_same, ea, ← hlen, range_getD]
end
section
variable {P : Program} {w : World} {K : PySem.W.Frag} {mg : Str → Option Value} {base : Heap}
def sp_dense_strides : Sp := fun vs H Q _ => ∃ v ns, vs = [v] ∧ IT H v ns ∧ Lens ns ∧ ∀ v' ms H', Same H H' → ms.length = ns.length → IT H' v' ms → Q v' H'
abbrev N_dense_strides : List Str := ["lengths", "found", "step", "length"]
theorem sc_dense_strides : FnScope N_dense_strides ["lengths"] (defScope s_dense_strides) := ⟨rfl, rfl, rfl, by decide +kernel, rfl, by decide +kernel, by decide +kernel⟩
theorem ok_dense_strides (T : Txt K mg) : GF P w K mg base 1 "dense_strides" ["lengths"] sp_dense_strides := by
  have nd := sc_dense_strides.nd
  refine gf_of T (d := d_dense_strides) (x := "dense_strides") rfl rfl rfl (i := 6) rfl (by decide +kernel) sc_dense_strides (fun _ _ _ _ _ _ us hl => match us, hl with | [_], _ => rfl) (fun vs H Q E h => ?_) (fun cdv A outer s H vs Q E hr h => ?_)
  · obtain ⟨v, ns, rfl, _⟩ := h; rfl
  · refine ⟨_, (pss_cons (ps_set (i := 1) nd rfl (Or.inl rfl) (pe_lst pa_nil))
      (pss_cons (ps_set (i := 2) nd rfl (Or.inl rfl) pe_int)
      (pss_cons (ps_for PassesOwn.never rfl (pi_revA rfl (T.free "reversed") (pv 0)) (pg_name (i := 3) nd rfl (Or.inl rfl)) (pss_cons (ps_expr (pe_bm PySem.F.plainAttrs_list PySem.F.slot_list_append PySem.F.type_list_append mt_append (pv 1) (pa_cons (pv 2) pa_nil)))
      (pss_one (ps_aug (i := 2) nd rfl (Or.inl rfl) (pv 3) ip_mul))))
      (pss_one (ps_ret (pe_callTy call_tuple_of rfl (T.free "tuple") (by decide +kernel) (pa_cons (pe_revL (pv 1)) pa_nil))))))), ?_⟩
    obtain ⟨v, ns, rfl, ⟨a, rfl, ha⟩, hL, q⟩ := h
    refine ⟨by show 0 ≤ sizeLine; decide, fun l hl => ?_⟩
    have s0 : Same H (upd H l (.lst [])) := Same.new hl
    refine ⟨_, rfl, a, _, rfl, .inr ⟨SqT.of (s0 _ _ ha), for_it walk_revT (fun i σ H' => Same H H' ∧ ∃ ms st z, σ = [some (.ref a), some (.ref l), some (.int st), z] ∧ H' l = some (.lst (ms.map V.int)) ∧ ms.length = i) ⟨s0, [], 1, none, rfl, upd_same, rfl⟩ (fun i σ H' _ p => SqT.of (p.1 _ _ ha)) ?_ ?_⟩⟩
    · rintro i y σ H0 H1 hi ⟨s1, ms, st, z, rfl, e1, hm⟩ ⟨rfl, hy⟩
      obtain ⟨n, hn, rfl⟩ := map_at hy
      have hb := len_in hL.rng hn
      have hfew := hL.few
      rw [List.length_map] at hi
      refine ⟨_, rfl, .inl ⟨rfl, _, SqL.of e1⟩, _, rfl, l, _, _, rfl, rfl, e1, by rw [List.length_map, hm, sizeLine_eq]; omega, ?_⟩
      refine ⟨_, rfl, _, rfl, _, _, rfl, rfl, .inr (by omega), ?_⟩
      exact ⟨Same.mut s1 hl, ms ++ [st], _, _, rfl, by rw [upd_same]; simp, by simp [hm]⟩
    · rintro σ H1 ⟨s1, ms, st, z, rfl, e1, hm⟩
      rw [List.length_map] at hm
      refine ⟨_, rfl, l, _, rfl, SqL.of e1, fun p hp => ⟨p, _, rfl, .inl ⟨SqL.of upd_same, fun r hr => q _ ms.reverse _ ((s1.trans (Same.new hp)).trans (Same.new hr)) (by simp [hm]) ⟨r, rfl, by rw [upd_same, List.map_reverse]⟩⟩⟩⟩
    
end
end Vg

namespace Vg
open PySem PySem.Spec PyProof.Rows L2 RZ RT
theorem nox_of {X : Cx} {body : List Stmt} {q : TS → Prop} (h : ∃ t, PSs X.nox body t ∧ q t) : ∃ t, PSs X body t ∧ q t := let ⟨t, h1, h2⟩ := h; ⟨t, h1.nox, h2⟩
/-! ### rooms and pages -/
abbrev rf (n w : Int) (pl : Addr) (cp : Int) : List (Str × V) := [("many", .int n), ("width", .int w), ("pages", .ref pl), ("copies", .int cp), ("shuts", .int 0)]
abbrev pf (kl : Addr) (h : Int) : List (Str × V) := [("kept", .ref kl), ("holders", .int h)]
structure PgD where
  dx : Addr
  kl : Addr
  kept : List Int
  h : Int
def PageAt (K : PySem.W.Frag) (H : Hp) (p : Addr) (d : PgD) : Prop := H p = some (.ins (CPage K) d.dx (pf d.kl d.h)) ∧ H d.kl = some (.lst (d.kept.map V.int))
structure RR where
  a : Addr
  dx : Addr
  pl : Addr
  w : Nat
  cp : Int
  pgs : List Addr
  xs : List Int
structure RAt (K : PySem.W.Frag) (H : Hp) (pt : Addr → PgD) (r : RR) : Prop where
  ob : H r.a = some (.ins (CRoom K) r.dx (rf r.xs.length r.w r.pl r.cp))
  ls : H r.pl = some (.lst (r.pgs.map V.ref))
  w1 : 1 ≤ r.w
  w2 : r.w ≤ 64
  n : r.xs.length ≤ 700
  nd : r.pgs.Nodup
  pg : ∀ p ∈ r.pgs, PageAt K H p (pt p)
  ct : ∀ (i : Nat) x, r.xs[i]? = some x → ∃ p, r.pgs[i / r.w]? = some p ∧ (pt p).kept[i % r.w]? = some x
theorem str_ne {a b : Str} (h : (a == b) = false := by decide +kernel) : a ≠ b := fun e => by rw [e] at h; simp at h
section
variable {P : Program} {w : World} {K : PySem.W.Frag} {mg : Str → Option Value} {base : Heap}
def sp_Page_init (K : PySem.W.Frag) : Sp := fun vs H Q _ => ∃ (p kl dx : Addr), vs = [.ref p, .ref kl] ∧ H p = some (.ins (CPage K) dx []) ∧ ∀ H', H' p = some (.ins (CPage K) dx (pf kl 1)) → (∀ b, b ≠ p → H' b = H b) → Q .non H'
abbrev N_Page_init : List Str := ["self", "kept"]
theorem sc_Page_init : FnScope N_Page_init ["self", "kept"] (defScope s_Page_init) := ⟨rfl, rfl, rfl, by decide +kernel, rfl, by decide +kernel, by decide +kernel⟩
theorem ok_Page_init (T : Txt K mg) {fd : FuncData} (F : FunD K d_Page_init.name d_Page_init.qual d_Page_init.params d_Page_init.body d_Page_init.scope (d_Page_init.dvs K) (d_Page_init.kws K) (He.fAd K d_Page_init.at_) fd) : FnOk P w K mg base CX0 1 (He.fAd K d_Page_init.at_) fd ["self", "kept"] (sp_Page_init K) := by
  have nd := sc_Page_init.nd
  refine F.ok sc_Page_init (fun vs H Q E h => ?_) (fun cdv A outer s H vs Q E hr h => ?_)
  · obtain ⟨p, kl, dx, rfl, _⟩ := h; rfl
  · refine nox_of ?_
    refine ⟨_, (pss_cons (ps_fld (pv 0) (pv 1) rfl)
      (pss_one (ps_fld (pv 0) pe_int rfl))), ?_⟩
    obtain ⟨p, kl, dx, rfl, hp, q⟩ := h
    refine ⟨_, rfl, _, rfl, p, _, dx, _, rfl, hp, T.clP, T.na "Page" "kept", by decide, ?_⟩
    refine ⟨_, rfl, p, _, dx, _, rfl, upd_same, T.clP, T.na "Page" "holders", (by show 1 < 1000; decide), ?_⟩
    refine q _ ?_ fun b hb => by rw [upd_ne hb, upd_ne hb]
    rw [upd_same]
    congr 2
end
section
variable {P : Program} {w : World} {K : PySem.W.Frag} {mg : Str → Option Value} {base : Heap}
def sp_Room_need (K : PySem.W.Frag) : Sp := fun vs H Q _ => ∃ (a dx pl : Addr) (n w c cp : Int), vs = [.ref a, .int c] ∧ H a = some (.ins (CRoom K) dx (rf n w pl cp)) ∧ 0 ≤ c ∧ c < n ∧ Q .non H
abbrev N_Room_need : List Str := ["self", "cell"]
theorem sc_Room_need : FnScope N_Room_need ["self", "cell"] (defScope s_Room_need) := ⟨rfl, rfl, rfl, by decide +kernel, rfl, by decide +kernel, by decide +kernel⟩
theorem ok_Room_need (T : Txt K mg) : GM P w K mg base 2 (CRoom K) "need" ["self", "cell"] (sp_Room_need K) := by
  have nd := sc_Room_need.nd
  refine gm_of T (d := d_Room_need) (x := "Room") (m := "need") rfl rfl rfl T.clR (i := 10) rfl (by decide +kernel) sc_Room_need (fun _ _ _ _ _ _ us hl => match us, hl with | [_, _], _ => rfl) (fun vs H Q E h => ?_) (fun cdv A outer s H vs Q E hr h => ?_)
  · obtain ⟨a, dx, pl, n, w, c, cp, rfl, _⟩ := h; rfl
  · refine ⟨_, (pss_one (ps_if (PW.pt (pw_or (pt_not (pt_val (pe_callG (ok_is_whole T) (hr.mono (by decide)) rfl (pa_cons (pv 1) pa_nil)))) (pw_or1 (pt_not (pt_chain op_le op_lt pe_int (pv 1) (pe_fld (pv 0) rfl)))))) (pss_one ps_never) pss_nil)), ?_⟩
    obtain ⟨a, dx, pl, n, w, c, cp, rfl, ha, h0, h1, q⟩ := h
    refine ⟨_, rfl, c, rfl, true, rfl, iteF ⟨_, rfl, _, _, rfl, rfl, true, ?_, iteT ⟨_, rfl, a, _, dx, _, _, rfl, ha, T.clR, T.na "Room" "many", rfl, _, _, rfl, rfl, true, ?_, iteF q⟩⟩⟩
    · show V.bl (decide (0 ≤ c)) = _
      rw [decide_eq_true h0]
    · show V.bl (decide (c < n)) = _
      rw [decide_eq_true h1]
end
section
variable {P : Program} {w : World} {K : PySem.W.Frag} {mg : Str → Option Value} {base : Heap}
def sp_Room_len (K : PySem.W.Frag) : Sp := fun vs H Q _ => ∃ (a dx pl : Addr) (n : Nat) (w cp : Int), vs = [.ref a] ∧ H a = some (.ins (CRoom K) dx (rf n w pl cp)) ∧ n ≤ 100000 ∧ Q (.int n) H
abbrev N_Room_len : List Str := ["self"]
theorem sc_Room_len : FnScope N_Room_len ["self"] (defScope s_Room_len) := ⟨rfl, rfl, rfl, by decide +kernel, rfl, by decide +kernel, by decide +kernel⟩
theorem ok_Room_len (T : Txt K mg) : GM P w K mg base 1 (CRoom K) "__len__" ["self"] (sp_Room_len K) := by
  have nd := sc_Room_len.nd
  refine gm_of T (d := d_Room_len) (x := "Room") (m := "__len__") rfl rfl rfl T.clR (i := 9) rfl (by decide +kernel) sc_Room_len (fun _ _ _ _ _ _ us hl => match us, hl with | [_], _ => rfl) (fun vs H Q E h => ?_) (fun cdv A outer s H vs Q E hr h => ?_)
  · obtain ⟨a, dx, pl, n, w, cp, rfl, _⟩ := h; rfl
  · refine ⟨_, (pss_one (ps_ret (pe_lenRange rfl (T.free "len") (prg_1 rfl (T.free "range") (pe_fld (pv 0) rfl))))), ?_⟩
    obtain ⟨a, dx, pl, n, w, cp, rfl, ha, hn, q⟩ := h
    exact ⟨_, rfl, a, _, dx, _, _, rfl, ha, T.clR, T.na "Room" "many", rfl, n, rfl, n, rfl, rfl, by omega, q⟩
end
section
variable {P : Program} {w : World} {K : PySem.W.Frag} {mg : Str → Option Value} {base : Heap}
def sp_Room_read (K : PySem.W.Frag) : Sp := fun vs H Q _ => ∃ (r : RR) (pt : Addr → PgD) (i : Nat) (x : Int), vs = [.ref r.a, .int i] ∧ RAt K H pt r ∧ r.xs[i]? = some x ∧ Q (.int x) H
abbrev N_Room_read : List Str := ["self", "cell"]
theorem sc_Room_read : FnScope N_Room_read ["self", "cell"] (defScope s_Room_read) := ⟨rfl, rfl, rfl, by decide +kernel, rfl, by decide +kernel, by decide +kernel⟩
theorem ok_Room_read (T : Txt K mg) : GM P w K mg base 3 (CRoom K) "read" ["self", "cell"] (sp_Room_read K) := by
  have nd := sc_Room_read.nd
  refine gm_of T (d := d_Room_read) (x := "Room") (m := "read") rfl rfl rfl T.clR (i := 11) rfl (by decide +kernel) sc_Room_read (fun _ _ _ _ _ _ us hl => match us, hl with | [_, _], _ => rfl) (fun vs H Q E h => ?_) (fun cdv A outer s H vs Q E hr h => ?_)
  · obtain ⟨r, pt, i, x, rfl, _⟩ := h; rfl
  · refine ⟨_, (pss_cons (ps_expr (pe_methG (ok_Room_need T) (hr.mono (by decide)) (pv 0) (pa_cons (pv 1) pa_nil)))
      (pss_one (ps_ret (pe_ix ix_list (pe_fld (pe_ix ix_list (pe_fld (pv 0) rfl) (pe_op op_fdivW (pv 1) (pe_fld (pv 0) rfl)) (fun _ _ => rfl)) rfl) (pe_op op_mod (pv 1) (pe_fld (pv 0) rfl)) (fun _ _ => rfl))))), ?_⟩
    obtain ⟨r, pt, i, x, rfl, R, hx, q⟩ := h
    have hi : i < r.xs.length := (List.getElem?_eq_some_iff.mp hx).1
    refine ⟨_, rfl, r.a, r.dx, _, rfl, R.ob, rfl, _, rfl, r.a, r.dx, r.pl, _, _, _, _, rfl, R.ob, by omega, by omega, ?_⟩
    obtain ⟨p, hp, hk⟩ := R.ct i x hx
    obtain ⟨hp1, hp2⟩ := R.pg p (List.mem_of_getElem? hp)
    have w1 := R.w1
    have w2 := R.w2
    refine ⟨_, rfl, r.a, _, r.dx, _, _, rfl, R.ob, T.clR, T.na "Room" "pages", rfl, _, rfl, _, rfl, r.a, _, r.dx, _, _, rfl, R.ob, T.clR, T.na "Room" "width", rfl, _, _, rfl, rfl, wide_div (b := 10) (by omega) (by omega) (by decide) (by decide), ?_⟩
    refine ⟨r.pl, _, _, _, rfl, rfl, SqL.of R.ls, at_of (j := i / r.w) (v := V.ref p) (by first | rfl | omega) (by rw [List.getElem?_map, hp]; rfl), ?_⟩
    refine ⟨p, _, _, _, _, rfl, hp1, T.clP, T.na "Page" "kept", rfl, _, rfl, _, rfl, r.a, _, r.dx, _, _, rfl, R.ob, T.clR, T.na "Room" "width", rfl, _, _, rfl, rfl, by show (0 : Int) < r.w; omega, ?_⟩
    exact ⟨(pt p).kl, _, _, _, rfl, rfl, SqL.of hp2, at_of (j := i % r.w) (v := V.int x) (by first | rfl | omega) (by rw [List.getElem?_map, hk]; rfl), q⟩
    
end
end Vg

namespace Vg
open PySem PySem.Spec PyProof.Rows L2 RZ RT
/-! ### new pages, rooms, views; len of a room -/
section
variable {P : Program} {w : World} {K : PySem.W.Frag} {mg : Str → Option Value} {base : Heap}
theorem fnInit (T : Txt K mg) {d : He.DefD} {i : Nat} (hd : FN[i]? = some d) : ∃ fd, FunD K d.name d.qual d.params d.body d.scope (d.dvs K) (d.kws K) (He.fAd K d.at_) fd := T.fn d (List.mem_of_getElem? hd)
/-- the __init__ of a class keeps a promise -/
def InitOk (P : Program) (w : World) (K : PySem.W.Frag) (mg : Str → Option Value) (base : Heap) (k : Nat) (d : He.DefD) (ps : List Str) (sp : Sp) : Prop :=
  ∀ fd, FunD K d.name d.qual d.params d.body d.scope (d.dvs K) (d.kws K) (He.fAd K d.at_) fd → FnOk P w K mg base CX0 k (He.fAd K d.at_) fd ps sp
end
section
variable {X : Cx} {p pos : Pos} {e : Expr} {es : List Expr} {kws : List Keyword} {te : TE} {t tk : TA} {sp : Sp} {k : Nat} {K : PySem.W.Frag} {mg : Str → Option Value}
theorem pe_makePage (T : Txt K mg) (hok : InitOk X.prog X.w K mg X.base k d_Page_init ["self", "kept"] sp) (hr : Room (k + 1) X.A) (hg : Gl X "Page") (ha : PA X (e :: es) t) (hK : X.K = K := by rfl) (hM : X.mg = mg := by rfl)
    (he : starEach (e :: es) X.env = (false, eval e X.env) :: starEach es X.env := by rfl) (hpl : (backTo pos (starEach es X.env)).any (·.1) = false := by rfl) :
    PE X (.Call (.Name "Page" p) (e :: es) [] pos) (tMake (CPage K) sp [] E0 t) := by
  subst hK hM
  obtain ⟨fd, F⟩ := fnInit T (d := d_Page_init) (i := 7) rfl
  exact pe_make (C := CPage X.K) T.mkP (hok fd F) hr hg (T.glo "Page" (by decide +kernel)) (F.bindsN (ps := ["self", "kept"]) fun _ _ _ _ _ _ us hl => match us, hl with | [_, _], _ => rfl) .nil pass0 ha (by decide) he hpl
theorem pe_makeRoom (T : Txt K mg) (hok : InitOk X.prog X.w K mg X.base k d_Room_init ["self", "numbers", "page"] sp) (hr : Room (k + 1) X.A) (hg : Gl X "Room") (ha : PA X [e] t) (hkw : PK X kws tk) (hK : X.K = K := by rfl) (hM : X.mg = mg := by rfl)
    (hall : (backToKw pos (keywordEach kws X.env)).all (·.1.isSome) = true := by rfl) (hks : (backToKw pos (keywordEach kws X.env)).filterMap (·.1) = (["page"] : List Str) := by rfl)
    (he : starEach [e] X.env = (false, eval e X.env) :: starEach [] X.env := by rfl)
    (hpl : ((backTo pos (starEach [e] X.env)).any (·.1) || (backToKw pos (keywordEach kws X.env)).any (·.1.isNone)) = false := by rfl) :
    PE X (.Call (.Name "Room" p) [e] kws pos) (tMakeN (CRoom K) 1 1 sp (fun us ws => us ++ ws) E0 t tk) := by
  subst hK hM
  obtain ⟨fd, F⟩ := fnInit T (d := d_Room_init) (i := 8) rfl
  obtain ⟨its, B⟩ := F.kbindsD (ps := ["self", "numbers", "page"]) 2 ["page"] (fun us _ ws => us ++ ws) (fun h => nomatch h) (fun r1 _ r3 => r1.append r3)
    (fun T kV doc pm an cdv ct us its ws l1 l2 l3 => match us, its, ws, l1, l2, l3 with | [_, _], [_], [_], _, _, _ => ⟨_, rfl, rfl⟩)
  exact pe_makeN (C := CRoom X.K) (n := 1) (ks := ["page"]) T.mkR (hok fd F) hr hg (T.glo "Room" (by decide +kernel)) B pass0 ha hkw hall hks (by decide) he hpl
theorem pe_makeViewN {e2 : Expr} (T : Txt K mg) (hok : InitOk X.prog X.w K mg X.base k d_View_init ["self", "room", "sides", "first", "strides"] sp) (hr : Room (k + 1) X.A) (hg : Gl X "View") (ha : PA X [e, e2] t) (hkw : PK X kws tk) (hK : X.K = K := by rfl) (hM : X.mg = mg := by rfl)
    (hall : (backToKw pos (keywordEach kws X.env)).all (·.1.isSome) = true := by rfl) (hks : (backToKw pos (keywordEach kws X.env)).filterMap (·.1) = (["first", "strides"] : List Str) := by rfl)
    (he : starEach [e, e2] X.env = (false, eval e X.env) :: starEach [e2] X.env := by rfl)
    (hpl : ((backTo pos (starEach [e, e2] X.env)).any (·.1) || (backToKw pos (keywordEach kws X.env)).any (·.1.isNone)) = false := by rfl) :
    PE X (.Call (.Name "View" p) [e, e2] kws pos) (tMakeN (CView K) 2 2 sp (fun us ws => us ++ ws) E0 t tk) := by
  subst hK hM
  obtain ⟨fd, F⟩ := fnInit T (d := d_View_init) (i := 18) rfl
  obtain ⟨its, B⟩ := F.kbindsD (ps := ["self", "room", "sides", "first", "strides"]) 3 ["first", "strides"] (fun us _ ws => us ++ ws) (fun h => nomatch h) (fun r1 _ r3 => r1.append r3)
    (fun T kV doc pm an cdv ct us its ws l1 l2 l3 => match us, its, ws, l1, l2, l3 with | [_, _, _], [_], [_, _], _, _, _ => ⟨_, rfl, rfl⟩)
  exact pe_makeN (C := CView X.K) (n := 2) (ks := ["first", "strides"]) T.mkV (hok fd F) hr hg (T.glo "View" (by decide +kernel)) B pass0 ha hkw hall hks (by decide) he hpl
theorem pe_makeView0 {e2 : Expr} (T : Txt K mg) (hok : InitOk X.prog X.w K mg X.base k d_View_init ["self", "room", "sides", "first", "strides"] sp) (hr : Room (k + 1) X.A) (hg : Gl X "View") (ha : PA X [e, e2] t) (hK : X.K = K := by rfl) (hM : X.mg = mg := by rfl)
    (he : starEach [e, e2] X.env = (false, eval e X.env) :: starEach [e2] X.env := by rfl) (hpl : (backTo pos (starEach [e2] X.env)).any (·.1) = false := by rfl) :
    PE X (.Call (.Name "View" p) [e, e2] [] pos) (tMake (CView K) sp [.int 0, .non] E0 t) := by
  subst hK hM
  obtain ⟨fd, F⟩ := fnInit T (d := d_View_init) (i := 18) rfl
  obtain ⟨ds, r, B⟩ := F.binds (ps := ["self", "room", "sides", "first", "strides"]) 3 1 (fun h => nomatch h) rfl
    (fun T D doc pm an cdv ct us its ks l1 l2 l3 => match us, its, ks, l1, l2, l3 with | [_, _, _], [_], [_, _], _, _, _ => ⟨_, rfl, ⟨_, _, _, _, _, _, rfl, rfl, ⟨_, _, _, _, _, _, rfl, rfl, rfl⟩⟩⟩) (fun h => nomatch h)
  exact pe_make (C := CView X.K) T.mkV (hok fd F) hr hg (T.glo "View" (by decide +kernel)) B r pass0 ha (by decide) he hpl
/-- len of an own object -/
theorem len_own {prog : Program} {w : World} {A : Around} {E : Value → Shared → Prop} {s : Shared} {x C f : Addr} {ox : Obj} {od : Option Obj} {Q : Value → Shared → Prop} (X : K.In s.heap) (I : PySem.W.InstAt s.heap x ox C od) (hs : PySem.W.findIn K (.ref C) "__len__" = some (some (.ref f))) (hf : PySem.W.isFn K (.ref f) = true)
    (h : wpAny (model prog w) A.in1 (call (.ref f) [.ref x]) (PySem.W.LenBack Q) E s) : wpAny (model prog w) A (call (.builtin "len") [.ref x]) Q E s := by
  refine Calls.call_function_entry kind_len plain_len entry_len (args_len1 _) ?_
  unfold Builtin.«len»
  refine wpAny_bind (m := oneArg "len" _) (wpAny_pure ?_)
  refine wpAny_bind (m := callSpecial? (.ref x) (Str.ofString "__len__")) (PySem.W.special_fn X I hs (beq_iff_eq.mp hf) (wpAny_mono h (fun r s' hr => ?_) fun _ _ y => y))
  cases r <;> first | exact hr.elim | skip
  rename_i n u
  obtain ⟨⟨h0, h1⟩, hq⟩ := hr
  refine wpAny_bind (wpAny_holding (wpAny_pure ?_))
  refine wpAny_bind (wpAny_letGo ?_)
  show wpAny _ _ (if n < 0 then _ else _) _ _ _
  rw [if_neg (by omega)]
  show wpAny _ _ (if n ≥ 2 ^ 63 then _ else _) _ _ _
  rw [if_neg (by omega)]
  exact wpAny_bind (wpAny_mkInt (wpAny_pure ⟨_, rfl, hq⟩))
def rLenRoom (K : PySem.W.Frag) : List V → Hp → VK → Prop := fun xs H Q => ∃ (a dx pl : Addr) (n : Nat) (w cp : Int), xs = [.ref a] ∧ H a = some (.ins (CRoom K) dx (rf n w pl cp)) ∧ n ≤ 100000 ∧ Q (.int n) H
theorem call_lenRoom (T : Txt K mg) (hr : Room 2 X.A) (hK : X.K = K := by rfl) (hM : X.mg = mg := by rfl) : CallR X (.builtin "len") (rLenRoom K) := by
  subst hK hM
  intro pins s σ H xs us Q I r h
  obtain ⟨a, dx, pl, n, w, cp, rfl, ha, hn, q⟩ := h
  obtain rfl := Vals.ref1 r
  obtain ⟨mA, O, _⟩ := ins_get I.hok ha
  obtain ⟨od, J, _⟩ := O.look
  obtain ⟨f, fd, F, hc, hm, b⟩ := ok_Room_len (P := X.prog) (w := X.w) (base := X.base) T
  refine len_own I.kIn J hm.at_ hm.fn ?_
  refine wpAny_call (codeAny_mono (F.run _ X.stack s H ⟨[.ref a], []⟩ [.ref a] [.ref a] (fun v H2 => v = .int n ∧ Q v H2) E0 (hr.mono (by decide)).in1 I.env0.in1 (by have := b s [.ref a] I.kIn rfl; rwa [List.append_nil] at this) (.cons rfl .nil) ⟨a, dx, pl, n, w, cp, rfl, ha, hn, rfl, q⟩) fun r s' hq => ?_)
  cases r with
  | error e => exact pass0 (X := X) pins σ H s e s' I hq
  | ok fl =>
    cases fl with
    | ret u =>
      obtain ⟨v, H', I3, rv, ev, q3⟩ := I.after hq
      subst ev
      obtain ⟨t, rfl⟩ := rv
      exact ⟨⟨by omega, by omega⟩, ⟨.int n, H', I3.tok _, ⟨_, rfl⟩, q3⟩⟩
    | next => exact False.elim hq
    | brk => exact False.elim hq
    | cont => exact False.elim hq
end
end Vg

namespace Vg
open PySem PySem.Spec PyProof.Rows L2 RZ RT
theorem yesT {σ : L2.St} {H : Hp} {A B : Hp → Prop} (h : A H) : tYes σ H (fun b H3 => if b = true then A H3 else B H3) := h
/-- a room that has just been made: what it needs is new beside H -/
structure NewR (H : Hp) (pt : Addr → PgD) (r : RR) : Prop where
  pl : H r.pl = none
  pg : ∀ p ∈ r.pgs, H p = none ∧ H (pt p).kl = none ∧ (pt p).h = 1 ∧ (pt p).kl ≠ r.pl
  ki : ∀ p ∈ r.pgs, ∀ q ∈ r.pgs, (pt p).kl = (pt q).kl → p = q
theorem rgc_pages {n w : Nat} (hn : n ≤ 700) (w1 : 1 ≤ w) (w2 : w ≤ 64) : RgC 0 n w ((n + w - 1) / w) := by
  have e := rangeSize_pos (len := (n : Int)) (c := (w : Int)) (by omega) (by omega)
  have e2 : ((n : Int) + w - 1) / w = (((n + w - 1) / w : Nat) : Int) := by
    rw [Int.natCast_ediv]; congr 1; omega
  have hle : (n + w - 1) / w ≤ n + w - 1 := Nat.div_le_self _ _
  refine ⟨by omega, by omega, ?_, by rw [e, e2]⟩
  unfold Builtin.Range.small
  rw [e, e2]
  have hm : ((n + w - 1) / w) * w ≤ n + w - 1 := Nat.div_mul_le_self _ _
  generalize (n + w - 1) / w = m at *
  have hm2 : ((m : Nat) : Int) * w ≤ n + w - 1 := by
    have : ((m * w : Nat) : Int) ≤ ((n + w - 1 : Nat) : Int) := Int.ofNat_le.mpr hm
    rw [Int.natCast_mul] at this; omega
  have hm3 : (0 : Int) ≤ (m : Nat) * (w : Int) := Int.mul_nonneg (by omega) (by omega)
  simp only [Builtin.Range.rangeFitsLong, Bool.and_eq_true, Bool.or_eq_true, decide_eq_true_eq, beq_iff_eq]
  have hw : (w : Int) > 0 := by omega
  simp only [if_pos hw]
  refine ⟨⟨⟨⟨by omega, by omega⟩, by omega⟩, by omega⟩, .inr ?_⟩
  rw [Bool.and_eq_true, decide_eq_true_eq, decide_eq_true_eq]; omega
/-- the i-th page's numbers -/
def chunk (xs : List Int) (w i : Nat) : List Int := (xs.drop (i * w)).take w
theorem chunk_at {xs : List Int} {w i : Nat} {x : Int} (w1 : 1 ≤ w) (h : xs[i]? = some x) : (chunk xs w (i / w))[i % w]? = some x := by
  unfold chunk
  have h1 : i % w < w := Nat.mod_lt _ (by omega)
  rw [List.getElem?_take, if_pos h1, List.getElem?_drop]
  have : i / w * w + i % w = i := by rw [Nat.mul_comm]; exact Nat.div_add_mod i w
  rw [this]; exact h
theorem cut_chunk (xs : List Int) (w n : Nat) : cutV (xs.map V.int) (some (0 + (n : Nat) * (w : Int))) (some (0 + (n : Nat) * (w : Int) + w)) = (chunk xs w n).map V.int := by
  unfold cutV chunk
  have e1 : (0 + (n : Int) * (w : Int)) = ((n * w : Nat) : Int) := by rw [Int.natCast_mul]; omega
  have e2 : (((n * w : Nat) : Int) + (w : Int)) = ((n * w + w : Nat) : Int) := by omega
  rw [e1, e2, HT.sIx_nat, HT.sIx_nat, List.length_map, List.map_take, List.map_drop]
  generalize n * w = k
  by_cases h : k ≤ xs.length
  · rw [Nat.min_eq_left h]
    by_cases h2 : k + w ≤ xs.length
    · rw [Nat.min_eq_left h2]; congr 1; omega
    · rw [Nat.min_eq_right (by omega), List.take_of_length_le (by simp), List.take_of_length_le (by simp; omega)]
  · rw [Nat.min_eq_right (by omega), Nat.min_eq_right (by omega), List.drop_eq_nil_of_le (by simp), List.drop_eq_nil_of_le (by simp; omega)]; simp
/-- the pages as the comprehension makes them, beside the heap H2 and its list at D -/
structure Pgs (K : PySem.W.Frag) (xs : List Int) (w : Nat) (H2 : Hp) (D : Addr) (H : Hp) (pgs : List Addr) (pt : Addr → PgD) : Prop where
  ob : ∀ p ∈ pgs, PageAt K H p (pt p) ∧ (pt p).h = 1 ∧ H2 p = none ∧ H2 (pt p).kl = none ∧ p ≠ D ∧ (pt p).kl ≠ D
  nd : pgs.Nodup
  ki : ∀ p ∈ pgs, ∀ q ∈ pgs, (pt p).kl = (pt q).kl → p = q
  ct : ∀ i p, pgs[i]? = some p → (pt p).kept = chunk xs w i
theorem mem_app {α : Type} {xs : List α} {x y : α} (h : y ∈ xs ++ [x]) : y ∈ xs ∨ y = x := by simpa using h
theorem Pgs.app {K : PySem.W.Frag} {xs : List Int} {w : Nat} {H2 : Hp} {D : Addr} {H H' : Hp} {pgs : List Addr} {pt : Addr → PgD} (P : Pgs K xs w H2 D H pgs pt) {p : Addr} {d : PgD} (hp : PageAt K H' p d) (h1 : d.h = 1) (f1 : H p = none) (f2 : H d.kl = none) (hD : p ≠ D) (hD2 : d.kl ≠ D)
    (g1 : H2 p = none) (g2 : H2 d.kl = none) (hs : ∀ b o, b ≠ D → H b = some o → H' b = some o) (hk : d.kept = chunk xs w pgs.length) : Pgs K xs w H2 D H' (pgs ++ [p]) (fun b => if b = p then d else pt b) := by
  have ne : ∀ q ∈ pgs, q ≠ p := fun q hq e => by subst e; have := (P.ob q hq).1.1; rw [f1] at this; cases this
  refine ⟨fun q hq => ?_, ?_, fun q hq t ht e => ?_, fun i q hq => ?_⟩
  · rcases mem_app hq with hq | rfl
    · obtain ⟨a, b, c, e, f, g⟩ := P.ob q hq
      rw [if_neg (ne q hq)]
      exact ⟨⟨hs _ _ f a.1, hs _ _ g a.2⟩, b, c, e, f, g⟩
    · rw [if_pos rfl]; exact ⟨hp, h1, g1, g2, hD, hD2⟩
  · rw [List.nodup_append]
    refine ⟨P.nd, by simp, fun a ha b hb => ?_⟩
    rw [List.mem_singleton.mp hb]; exact ne a ha
  · clear hs
    have kf : ∀ q ∈ pgs, (pt q).kl ≠ d.kl := fun q hq e => by have := (P.ob q hq).1.2; rw [e, f2] at this; cases this
    rcases mem_app hq with h1 | h1 <;> rcases mem_app ht with h2 | h2
    · rw [if_neg (ne q h1), if_neg (ne t h2)] at e
      exact P.ki q h1 t h2 e
    · rw [if_neg (ne q h1), if_pos h2] at e
      exact absurd e (kf q h1)
    · rw [if_neg (ne t h2), if_pos h1] at e
      exact absurd e.symm (kf t h2)
    · rw [h1, h2]
  · by_cases hi : i < pgs.length
    · rw [List.getElem?_append_left hi] at hq
      rw [if_neg (ne q (List.mem_of_getElem? hq))]
      exact P.ct i q hq
    · rw [List.getElem?_append_right (by omega)] at hq
      have : i - pgs.length = 0 := by
        by_cases h0 : i - pgs.length = 0
        · exact h0
        · rw [List.getElem?_eq_none (by simp; omega)] at hq; cases hq
      rw [this] at hq
      simp at hq
      subst hq
      rw [if_pos rfl, hk]
      congr 1; omega
theorem Pgs.keep {K : PySem.W.Frag} {xs : List Int} {w : Nat} {H2 : Hp} {D : Addr} {H H' : Hp} {pgs : List Addr} {pt : Addr → PgD} (P : Pgs K xs w H2 D H pgs pt) (hs : ∀ b o, b ≠ D → H b = some o → H' b = some o) : Pgs K xs w H2 D H' pgs pt :=
  ⟨fun q hq => by obtain ⟨a, b, c, e, f, g⟩ := P.ob q hq; exact ⟨⟨hs _ _ f a.1, hs _ _ g a.2⟩, b, c, e, f, g⟩, P.nd, P.ki, P.ct⟩
section
variable {P : Program} {w : World} {K : PySem.W.Frag} {mg : Str → Option Value} {base : Heap}
def sp_Room_init (K : PySem.W.Frag) : Sp := fun vs H Q _ => ∃ (x dx l : Addr) (w : Nat) (xs : List Int), vs = [.ref x, .ref l, .int w] ∧ H x = some (.ins (CRoom K) dx []) ∧ 1 ≤ w ∧ w ≤ 64 ∧ xs.length ≤ 700 ∧ (H l = some (.lst (xs.map V.int)) ∨ (xs = [] ∧ H l = some (.tup []))) ∧
  ∀ H' (r : RR) pt, r.a = x → r.xs = xs → r.w = w → RAt K H' pt r → NewR H pt r → (∀ b o, b ≠ x → H b = some o → H' b = some o) → Q .non H'
abbrev N_Room_init : List Str := ["self", "numbers", "page", "at"]
theorem sc_Room_init : FnScope N_Room_init ["self", "numbers", "page"] (defScope s_Room_init) := ⟨rfl, rfl, rfl, by decide +kernel, rfl, by decide +kernel, by decide +kernel⟩
theorem ok_Room_init (T : Txt K mg) {fd : FuncData} (F : FunD K d_Room_init.name d_Room_init.qual d_Room_init.params d_Room_init.body d_Room_init.scope (d_Room_init.dvs K) (d_Room_init.kws K) (He.fAd K d_Room_init.at_) fd) : FnOk P w K mg base CX0 3 (He.fAd K d_Room_init.at_) fd ["self", "numbers", "page"] (sp_Room_init K) := by
  have nd := sc_Room_init.nd
  refine F.ok sc_Room_init (fun vs H Q E h => ?_) (fun cdv A outer s H vs Q E hr h => ?_)
  · obtain ⟨x, dx, l, w, xs, rfl, _⟩ := h; rfl
  · refine nox_of ?_
    refine ⟨_, (pss_cons (ps_fld (pv 0) (pe_callB call_len_seq rfl (T.free "len") boot_len (pa_cons (pv 1) pa_nil)) rfl)
      (pss_cons (ps_fld (pv 0) (pv 2) rfl)
      (pss_cons (ps_fld (pv 0) (pe_lc (own := [("at", 3)]) (g := (gName 3)) (tt := tYes) rfl nd (pi_range3 rfl (T.free "range") (pa_cons pe_int (pa_cons (pe_callB call_len_seq rfl (T.free "len") boot_len (pa_cons (pv 1) pa_nil)) (pa_cons (pv 2) pa_nil)))) (blkOk_by (N := N_Room_init) (sc := defScope s_Room_init) (by decide +kernel)) (fun _ _ _ _ _ => (pg_name (i := 3) nd rfl (Or.inl rfl))) (fun _ _ _ _ _ => pts_nil) (fun _ _ _ _ _ => (pe_makePage T (fun fd F => ok_Page_init T F) (hr.mono (by decide)) rfl (pa_cons (pe_callTy (call_list_ofK K) rfl (T.free "list") (by decide +kernel) (pa_cons (pe_slice (sl_listK K) (pv 1) (po_some (pv 3)) (po_some (pe_op op_add (pv 3) (pv 2)))) pa_nil)) pa_nil)))) rfl)
      (pss_cons (ps_fld (pv 0) pe_int rfl)
      (pss_one (ps_fld (pv 0) pe_int rfl)))))), ?_⟩
    obtain ⟨x, dx, l, w, xs, rfl, hx, w1, w2, hn, hl, q⟩ := h
    have nl : l ≠ x := by
      rintro rfl
      rw [hx] at hl
      rcases hl with h | ⟨_, h⟩ <;> cases h
    have sq : ∀ H' : Hp, (∀ b o, b ≠ x → H b = some o → H' b = some o) → (SqL K H' l (xs.map V.int) ∨ SqT K H' l (xs.map V.int)) := fun H' s => by
      rcases hl with h | ⟨rfl, h⟩
      · exact .inl (SqL.of (s _ _ nl h))
      · exact .inr (SqT.of (s _ _ nl h))
    refine ⟨_, rfl, l, _, rfl, sq H (fun _ _ _ e => e), _, rfl, x, _, dx, _, rfl, hx, T.clR, T.na "Room" "many", by decide, ?_⟩
    refine ⟨_, rfl, _, rfl, x, _, dx, _, rfl, upd_same, T.clR, T.na "Room" "width", (by show 1 < 1000; decide), ?_⟩
    have eL : (xs.map V.int).length = xs.length := List.length_map ..
    refine ⟨_, rfl, l, _, rfl, sq _ fun b o hb e => by rw [upd_ne hb, upd_ne hb]; exact e, _, rfl, 0, (xs.map V.int).length, w, ((xs.map V.int).length + w - 1) / w, rfl, rgc_pages (by rw [eL]; exact hn) w1 w2, fun D hD => ?_⟩
    rw [eL] at hD ⊢
    have hDx : D ≠ x := by rintro rfl; rw [upd_same] at hD; cases hD
    have hDH : H D = none := by rw [upd_ne hDx, upd_ne hDx] at hD; exact hD
    refine lc_it walk_rangeC (fun i H' => ∃ pgs pt, i = pgs.length ∧ Pgs K xs w H D H' pgs pt ∧ H' D = some (.lst (pgs.map V.ref)) ∧ (∀ b o, b ≠ x → H b = some o → H' b = some o) ∧ H' x = some (.ins (CRoom K) dx [("many", .int xs.length), ("width", .int w)])) ⟨[], fun _ => ⟨0, 0, [], 0⟩, rfl, ⟨(fun _ h => nomatch h), by simp, (fun _ h => nomatch h), (fun _ _ h => by simp at h)⟩, upd_same, ?_, ?_⟩ (fun _ _ _ _ => trivial) ?_ ?_
    · intro b o hb e
      rw [upd_ne (ne_of_none e hDH), upd_ne hb, upd_ne hb]; exact e
    · rw [upd_ne (Ne.symm hDx)]; exact upd_same
    · rintro i y H9 H3 hi ⟨pgs, pt, rfl, P, e1, s1, x1⟩ ⟨rfl, rfl⟩
      have hl2 : H l = some (.lst (xs.map V.int)) := by
        rcases hl with h | ⟨rfl, _⟩
        · exact h
        · exfalso
          rw [List.length_nil, Nat.div_eq_of_lt (by omega)] at hi
          exact absurd hi (Nat.not_lt_zero _)
      have lD : l ≠ D := ne_of_none hl2 hDH
      refine ⟨rfl, yesT ?_⟩
      refine ⟨_, rfl, _, rfl, _, rfl, _, rfl, _, rfl, _, _, rfl, rfl, _, rfl, l, _, rfl, SqL.of (s1 _ _ nl hl2), fun sl hsl => ⟨sl, _, rfl, .inl (SqL.of upd_same), fun kl hkl => ?_⟩⟩
      rintro p dp hp hdp hne
      have kp : kl ≠ p := by rintro rfl; rw [upd_same] at hp; cases hp
      have kd : kl ≠ dp := by rintro rfl; rw [upd_same] at hdp; cases hdp
      have hsl3 : ∀ b, (upd H3 sl (.lst (cutV (xs.map V.int) (some (0 + (pgs.length : Nat) * (w : Int))) (some (0 + (pgs.length : Nat) * (w : Int) + w))))) b = none → H3 b = none := fun b hb => (Same.new hsl).free hb
      have hkl3 : H3 kl = none := hsl3 _ hkl
      have hp3 : H3 p = none := hsl3 _ ((Same.new hkl).free hp)
      have fx : ∀ b, H3 b = none → b ≠ x ∧ b ≠ D ∧ H b = none := fun b hb => by
        refine ⟨?_, ?_, ?_⟩
        · rintro rfl; rw [x1] at hb; cases hb
        · rintro rfl; rw [e1] at hb; cases hb
        · cases e : H b with
          | none => rfl
          | some o =>
            by_cases q : b = x
            · rw [q, x1] at hb; cases hb
            · rw [s1 _ _ q e] at hb; cases hb
      refine ⟨p, kl, dp, rfl, upd_same, fun H5 f1 f2 => ⟨rfl, ?_⟩⟩
      have keep : ∀ b o, H3 b = some o → H5 b = some o := fun b o e => by
        have n1 : b ≠ p := ne_of_none e hp3
        have n2 : b ≠ dp := ne_of_none e (hsl3 _ ((Same.new hkl).free hdp))
        rw [f2 b n1, upd_ne n1, upd_ne n2, upd_ne (ne_of_none e hkl3), upd_ne (ne_of_none e hsl)]; exact e
      refine ⟨pgs.map V.ref, keep _ _ e1, ?_, pgs ++ [p], fun b => if b = p then ⟨dp, kl, chunk xs w pgs.length, 1⟩ else pt b, by simp, ?_, ?_, ?_, ?_⟩
      · have : (xs.length + w - 1) / w ≤ xs.length + w - 1 := Nat.div_le_self _ _
        rw [List.length_map, sizeLine_eq]; omega
      · refine P.app ⟨?_, ?_⟩ rfl hp3 hkl3 (fx p hp3).2.1 (fx kl hkl3).2.1 (fx p hp3).2.2 (fx kl hkl3).2.2 (fun b o nb e => by rw [upd_ne nb]; exact keep _ _ e) rfl
        · rw [upd_ne (fx p hp3).2.1]; exact f1
        · rw [upd_ne (fx kl hkl3).2.1, f2 kl kp, upd_ne kp, upd_ne kd, upd_same]
          rw [cut_chunk]
      · rw [upd_same]; simp
      · intro b o hb e
        rw [upd_ne (ne_of_none e hDH)]; exact keep _ _ (s1 _ _ hb e)
      · rw [upd_ne (Ne.symm hDx)]; exact keep _ _ x1
    · rintro H3 ⟨pgs, pt, hlen, P, e1, s1, x1⟩
      refine ⟨_, rfl, x, _, dx, _, rfl, x1, T.clR, T.na "Room" "pages", (by show 2 < 1000; decide), ?_⟩
      refine ⟨_, rfl, x, _, dx, _, rfl, upd_same, T.clR, T.na "Room" "copies", (by show 3 < 1000; decide), ?_⟩
      refine ⟨_, rfl, x, _, dx, _, rfl, upd_same, T.clR, T.na "Room" "shuts", (by show 4 < 1000; decide), ?_⟩
      have pne : ∀ p ∈ pgs, p ≠ x ∧ (pt p).kl ≠ x := fun p hp => by
        obtain ⟨a, b, c, _⟩ := P.ob p hp
        constructor
        · rintro rfl; rw [hx] at c; cases c
        · intro e; have := a.2; rw [e, x1] at this; cases this
      refine q _ ⟨x, dx, D, w, 0, pgs, xs⟩ pt rfl rfl rfl ⟨upd_same, ?_, w1, w2, hn, P.nd, fun p hp => ?_, fun i y hy => ?_⟩ ⟨hDH, fun p hp => ?_, P.ki⟩ fun b o hb e => ?_
      · show (upd _ _ _) D = _
        rw [upd_ne hDx, upd_ne hDx, upd_ne hDx]; exact e1
      · obtain ⟨n1, n2⟩ := pne p hp
        obtain ⟨⟨a, b⟩, _⟩ := P.ob p hp
        constructor
        · rw [upd_ne n1, upd_ne n1, upd_ne n1]; exact a
        · rw [upd_ne n2, upd_ne n2, upd_ne n2]; exact b
      · have hi : i < xs.length := (List.getElem?_eq_some_iff.mp hy).1
        have hlt : i / w < pgs.length := by
          rw [← hlen, Nat.div_lt_iff_lt_mul (by omega)]
          have h1 := Nat.div_add_mod (xs.length + w - 1) w
          have h2 := Nat.mod_lt (xs.length + w - 1) (show w > 0 by omega)
          rw [Nat.mul_comm] at h1
          omega
        refine ⟨pgs[i / w], List.getElem?_eq_getElem hlt, ?_⟩
        rw [P.ct _ _ (List.getElem?_eq_getElem hlt)]
        exact chunk_at w1 hy
      · obtain ⟨_, b, c, e, _, f⟩ := P.ob p hp
        exact ⟨c, e, b, f⟩
      · rw [upd_ne hb, upd_ne hb, upd_ne hb]; exact s1 b o hb e
    
end
end Vg

namespace Vg
open PySem PySem.Spec PyProof.Rows L2 RZ RT
/-- the rooms of the heap H, beside what G holds -/
structure RW (K : PySem.W.Frag) (G H : Hp) (rs : List RR) (pt : Addr → PgD) : Prop where
  sm : Same G H
  at_ : ∀ r ∈ rs, RAt K H pt r
  ga : ∀ r ∈ rs, G r.a = none ∧ G r.pl = none
  gp : ∀ r ∈ rs, ∀ p ∈ r.pgs, G p = none ∧ G (pt p).kl = none
  na : ∀ (i j : Nat) r t, rs[i]? = some r → rs[j]? = some t → r.a = t.a → i = j
  nl : ∀ (i j : Nat) r t, rs[i]? = some r → rs[j]? = some t → r.pl = t.pl → i = j
  ki : ∀ r ∈ rs, ∀ t ∈ rs, ∀ p ∈ r.pgs, ∀ q ∈ t.pgs, (pt p).kl = (pt q).kl → p = q
  kp : ∀ r ∈ rs, ∀ t ∈ rs, ∀ p ∈ r.pgs, (pt p).kl ≠ t.pl
  hd : ∀ r ∈ rs, ∀ p ∈ r.pgs, ((rs.countP (fun t => decide (p ∈ t.pgs)) : Nat) : Int) ≤ (pt p).h
section
variable {K : PySem.W.Frag} {G H H' : Hp} {rs : List RR} {pt pt' : Addr → PgD} {r t : RR}
/-- what a room needs stays -/
theorem RAt.keep (R : RAt K H pt r) (ha : H' r.a = H r.a) (hl : H' r.pl = H r.pl) (hp : ∀ p ∈ r.pgs, PageAt K H' p (pt' p) ∧ (pt' p).kept = (pt p).kept) : RAt K H' pt' r :=
  ⟨by rw [ha]; exact R.ob, by rw [hl]; exact R.ls, R.w1, R.w2, R.n, R.nd, fun p h => (hp p h).1, fun i x hx => by
    obtain ⟨p, h1, h2⟩ := R.ct i x hx
    exact ⟨p, h1, by rw [(hp p (List.mem_of_getElem? h1)).2]; exact h2⟩⟩
theorem RAt.same (R : RAt K H pt r) (s : Same H H') : RAt K H' pt r :=
  R.keep (by rw [R.ob]; exact s _ _ R.ob) (by rw [R.ls]; exact s _ _ R.ls) fun p hp => ⟨⟨s _ _ (R.pg p hp).1, s _ _ (R.pg p hp).2⟩, rfl⟩
theorem RW.same (W : RW K G H rs pt) (s : Same H H') : RW K G H' rs pt := ⟨W.sm.trans s, fun r hr => (W.at_ r hr).same s, W.ga, W.gp, W.na, W.nl, W.ki, W.kp, W.hd⟩
/-- more is known beside the rooms -/
theorem RW.more (W : RW K G H rs pt) {G' : Hp} (s : Same G' H) (h : ∀ b, G' b ≠ none → G b ≠ none ∨ ∀ r ∈ rs, b ≠ r.a ∧ b ≠ r.pl ∧ ∀ p ∈ r.pgs, b ≠ p ∧ b ≠ (pt p).kl) : RW K G' H rs pt := by
  have key : ∀ b, (G b = none) → (∃ r ∈ rs, b = r.a ∨ b = r.pl ∨ ∃ p ∈ r.pgs, b = p ∨ b = (pt p).kl) → G' b = none := by
    intro b hb ⟨r, hr, hm⟩
    cases e : G' b with
    | none => rfl
    | some o =>
      exfalso
      rcases h b (by rw [e]; exact fun h => nomatch h) with q | q
      · exact q hb
      · obtain ⟨q1, q2, q3⟩ := q r hr
        rcases hm with m | m | ⟨p, hp, m | m⟩
        · exact q1 m
        · exact q2 m
        · exact (q3 p hp).1 m
        · exact (q3 p hp).2 m
  exact ⟨s, W.at_, fun r hr => ⟨key _ (W.ga r hr).1 ⟨r, hr, .inl rfl⟩, key _ (W.ga r hr).2 ⟨r, hr, .inr (.inl rfl)⟩⟩,
    fun r hr p hp => ⟨key _ (W.gp r hr p hp).1 ⟨r, hr, .inr (.inr ⟨p, hp, .inl rfl⟩)⟩, key _ (W.gp r hr p hp).2 ⟨r, hr, .inr (.inr ⟨p, hp, .inr rfl⟩)⟩⟩, W.na, W.nl, W.ki, W.kp, W.hd⟩
/-- two rooms that hold one page -/
theorem count_two {α : Type} {f : α → Bool} : ∀ {xs : List α} {i j : Nat} {x y : α}, xs[i]? = some x → xs[j]? = some y → i ≠ j → f x = true → f y = true → 2 ≤ xs.countP f
  | _ :: xs, 0, 0, _, _, _, _, h, _, _ => absurd rfl h
  | z :: xs, 0, j + 1, x, y, h1, h2, _, f1, f2 => by
    simp at h1 h2; subst h1
    rw [List.countP_cons_of_pos f1]
    have : 0 < xs.countP f := List.countP_pos_iff.mpr ⟨y, List.mem_of_getElem? h2, f2⟩
    omega
  | z :: xs, i + 1, 0, x, y, h1, h2, _, f1, f2 => by
    simp at h1 h2; subst h2
    rw [List.countP_cons_of_pos f2]
    have : 0 < xs.countP f := List.countP_pos_iff.mpr ⟨x, List.mem_of_getElem? h1, f1⟩
    omega
  | z :: xs, i + 1, j + 1, x, y, h1, h2, h, f1, f2 => by
    have := count_two (xs := xs) (i := i) (j := j) (by simpa using h1) (by simpa using h2) (by omega) f1 f2
    rw [List.countP_cons]; omega
theorem RW.alone (W : RW K G H rs pt) {k j : Nat} {p : Addr} (hr : rs[k]? = some r) (ht : rs[j]? = some t) (hp : p ∈ r.pgs) (h1 : (pt p).h ≤ 1) (hj : j ≠ k) : p ∉ t.pgs := fun hq => by
  have h2 := W.hd r (List.mem_of_getElem? hr) p hp
  have h3 := count_two (f := fun t : RR => decide (p ∈ t.pgs)) hr ht (Ne.symm hj) (by simpa using hp) (by simpa using hq)
  omega
theorem mem_set_at {α : Type} {xs : List α} {k : Nat} {x y : α} (h : y ∈ xs.set k x) : (y = x ∧ k < xs.length) ∨ ∃ j, j ≠ k ∧ xs[j]? = some y := by
  obtain ⟨j, hj⟩ := List.getElem?_of_mem h
  rw [List.getElem?_set] at hj
  by_cases e : k = j
  · rw [if_pos e] at hj
    split at hj
    · exact .inl ⟨(Option.some.inj hj).symm, by omega⟩
    · cases hj
  · rw [if_neg e] at hj; exact .inr ⟨j, Ne.symm e, hj⟩
theorem set_at {α : Type} {xs : List α} {k i : Nat} {x y z : α} (hk : xs[k]? = some z) (h : (xs.set k x)[i]? = some y) : (i = k ∧ y = x) ∨ (i ≠ k ∧ xs[i]? = some y) := by
  rw [List.getElem?_set] at h
  by_cases e : k = i
  · rw [if_pos e] at h
    split at h
    · exact .inl ⟨e.symm, (Option.some.inj h).symm⟩
    · cases h
  · rw [if_neg e] at h; exact .inr ⟨Ne.symm e, h⟩
/-- the same rooms but for what one of them holds -/
theorem index_set {f : RR → Addr} {k : Nat} {r r' : RR} (hr : rs[k]? = some r) (h : ∀ (i j : Nat) r t, rs[i]? = some r → rs[j]? = some t → f r = f t → i = j) (e : f r' = f r) : ∀ (i j : Nat) u v, (rs.set k r')[i]? = some u → (rs.set k r')[j]? = some v → f u = f v → i = j := by
  intro i j u v hu hv huv
  rcases set_at hr hu with ⟨a1, a2⟩ | ⟨a1, a2⟩ <;> rcases set_at hr hv with ⟨b1, b2⟩ | ⟨b1, b2⟩
  · rw [a1, b1]
  · rw [a1]; exact h _ _ _ _ hr b2 (by rw [← huv, a2, e])
  · rw [b1]; exact h _ _ _ _ a2 hr (by rw [huv, b2, e])
  · exact h _ _ _ _ a2 b2 huv
theorem count_set {α : Type} {f : α → Bool} : ∀ {xs : List α} {k : Nat} {x z : α}, xs[k]? = some z → f x = f z → (xs.set k x).countP f = xs.countP f
  | y :: xs, 0, x, z, h, e => by simp at h; subst h; simp only [List.set_cons_zero, List.countP_cons, e]
  | y :: xs, k + 1, x, z, h, e => by
    simp only [List.set_cons_succ, List.countP_cons]
    rw [count_set (xs := xs) (k := k) (by simpa using h) e]
theorem count_less {α : Type} {f : α → Bool} : ∀ {xs : List α} {k : Nat} {x z : α}, xs[k]? = some z → f z = true → f x = false → (xs.set k x).countP f + 1 = xs.countP f
  | y :: xs, 0, x, z, h, e, e2 => by simp at h; subst h; simp [List.countP_cons, e, e2]
  | y :: xs, k + 1, x, z, h, e, e2 => by
    simp only [List.set_cons_succ, List.countP_cons]
    have := count_less (xs := xs) (k := k) (by simpa using h) e e2
    omega
theorem mod_of_div {i j w : Nat} (h : i / w = j / w) (h2 : i % w = j % w) : i = j := by
  have a := Nat.div_add_mod i w
  have b := Nat.div_add_mod j w
  rw [h, h2] at a; omega
theorem T0 {K : PySem.W.Frag} {n w pl cp dx kl h dy} (e : some (HO.ins (CRoom K) dx (rf n w pl cp)) = some (HO.ins (CPage K) dy (pf kl h))) : False := by
  injection e with e; injection e with _ _ e; injection e with e; injection e with e
  exact str_ne (by decide +kernel) e
theorem nodup_set {α : Type} {q : α} : ∀ {xs : List α} {j : Nat}, xs.Nodup → (∀ b ∈ xs, b ≠ q) → (xs.set j q).Nodup
  | [], _, h, _ => h
  | x :: xs, 0, h, hq => by
    rw [List.set_cons_zero, List.nodup_cons]
    rw [List.nodup_cons] at h
    exact ⟨fun hm => hq q (List.mem_cons_of_mem _ hm) rfl, h.2⟩
  | x :: xs, j + 1, h, hq => by
    rw [List.set_cons_succ, List.nodup_cons]
    rw [List.nodup_cons] at h
    refine ⟨fun hm => ?_, nodup_set h.2 fun b hb => hq b (List.mem_cons_of_mem _ hb)⟩
    rcases mem_set_at hm with ⟨e, _⟩ | ⟨i, _, hi⟩
    · exact hq x (List.mem_cons_self ..) e
    · exact h.1 (List.mem_of_getElem? hi)
theorem count_more {α : Type} {f : α → Bool} : ∀ (xs : List α) (k : Nat) (x : α), (xs.set k x).countP f ≤ xs.countP f + 1
  | [], _, _ => by simp
  | y :: xs, 0, x => by
    rw [List.set_cons_zero, List.countP_cons, List.countP_cons]
    split <;> split <;> omega
  | y :: xs, k + 1, x => by
    rw [List.set_cons_succ, List.countP_cons, List.countP_cons]
    have := count_more (f := f) xs k x
    omega
/-- a number is put into a page that no other room holds -/
theorem RW.put (W : RW K G H rs pt) {k i : Nat} {p : Addr} {n : Int} (hr : rs[k]? = some r) (hp : r.pgs[i / r.w]? = some p) (h1 : (pt p).h ≤ 1) (hi : i < r.xs.length) :
    RW K G (upd H (pt p).kl (.lst (((pt p).kept.set (i % r.w) n).map V.int))) (rs.set k { r with xs := r.xs.set i n }) (fun b => if b = p then { pt p with kept := (pt p).kept.set (i % r.w) n } else pt b) := by
  have mr := List.mem_of_getElem? hr
  have R := W.at_ r mr
  have mp := List.mem_of_getElem? hp
  have P := R.pg p mp
  let pt' : Addr → PgD := fun b => if b = p then { pt p with kept := (pt p).kept.set (i % r.w) n } else pt b
  have ek : ∀ q, (pt' q).kl = (pt q).kl := fun q => by
    show (if q = p then _ else _ : PgD).kl = _
    by_cases e : q = p
    · rw [if_pos e, e]
    · rw [if_neg e]
  have eh : ∀ q, (pt' q).h = (pt q).h := fun q => by
    show (if q = p then _ else _ : PgD).h = _
    by_cases e : q = p
    · rw [if_pos e, e]
    · rw [if_neg e]
  -- each room of the new list is like one of the old
  have old : ∀ u ∈ rs.set k { r with xs := r.xs.set i n }, ∃ v ∈ rs, u.a = v.a ∧ u.pl = v.pl ∧ u.pgs = v.pgs := fun u hu => by
    rcases mem_set_at hu with ⟨rfl, _⟩ | ⟨j, _, hj⟩
    · exact ⟨r, mr, rfl, rfl, rfl⟩
    · exact ⟨u, List.mem_of_getElem? hj, rfl, rfl, rfl⟩
  have page : ∀ v ∈ rs, ∀ q ∈ v.pgs, PageAt K (upd H (pt p).kl (.lst (((pt p).kept.set (i % r.w) n).map V.int))) q (pt' q) := fun v hv q hq => by
    have Pq := (W.at_ v hv).pg q hq
    have n1 : q ≠ (pt p).kl := fun e => by have := Pq.1; rw [e, P.2] at this; cases this
    by_cases e : q = p
    · subst e
      have : pt' q = { pt q with kept := (pt q).kept.set (i % r.w) n } := if_pos rfl
      rw [this]
      exact ⟨by rw [upd_ne n1]; exact Pq.1, upd_same⟩
    · have : pt' q = pt q := if_neg e
      rw [this]
      exact ⟨by rw [upd_ne n1]; exact Pq.1, by rw [upd_ne (fun c => e (W.ki v hv r mr q hq p mp c))]; exact Pq.2⟩
  have hob : ∀ v ∈ rs, upd H (pt p).kl (.lst (((pt p).kept.set (i % r.w) n).map V.int)) v.a = H v.a ∧ upd H (pt p).kl (.lst (((pt p).kept.set (i % r.w) n).map V.int)) v.pl = H v.pl := fun v hv =>
    ⟨upd_ne (fun e => by have := (W.at_ v hv).ob; rw [e, P.2] at this; cases this), upd_ne fun e => W.kp r mr v hv p mp e.symm⟩
  refine ⟨fun b o e => ?_, fun u hu => ?_, fun u hu => ?_, fun u hu => ?_, index_set hr W.na rfl, index_set hr W.nl rfl, fun u hu v hv q hq q2 hq2 => ?_, fun u hu v hv q hq => ?_, fun u hu q hq => ?_⟩
  · rw [upd_ne fun c => by rw [c, (W.gp r mr p mp).2] at e; cases e]; exact W.sm b o e
  · rcases mem_set_at hu with ⟨rfl, _⟩ | ⟨j, hj, hu⟩
    · obtain ⟨q1, q2⟩ := hob r mr
      refine ⟨?_, by rw [q2]; exact R.ls, R.w1, R.w2, by simpa using R.n, R.nd, fun q hq => page r mr q hq, fun j y hy => ?_⟩
      · rw [q1, List.length_set]; exact R.ob
      · show ∃ p', r.pgs[j / r.w]? = some p' ∧ (pt' p').kept[j % r.w]? = some y
        have hy' : (r.xs.set i n)[j]? = some y := hy
        rw [List.getElem?_set] at hy'
        by_cases e : i = j
        · subst e
          rw [if_pos rfl, if_pos hi] at hy'
          refine ⟨p, hp, ?_⟩
          have : pt' p = { pt p with kept := (pt p).kept.set (i % r.w) n } := if_pos rfl
          rw [this]
          show ((pt p).kept.set (i % r.w) n)[i % r.w]? = _
          obtain ⟨p2, h2, h3⟩ := R.ct i _ (List.getElem?_eq_getElem hi)
          rw [hp] at h2
          cases h2
          rw [List.getElem?_set, if_pos rfl, if_pos (List.getElem?_eq_some_iff.mp h3).1]; exact hy'
        · rw [if_neg e] at hy'
          obtain ⟨p2, h2, h3⟩ := R.ct j y hy'
          refine ⟨p2, h2, ?_⟩
          by_cases c : p2 = p
          · subst c
            have : pt' p2 = { pt p2 with kept := (pt p2).kept.set (i % r.w) n } := if_pos rfl
            rw [this]
            show ((pt p2).kept.set (i % r.w) n)[j % r.w]? = _
            have ed : i / r.w = j / r.w := by
              obtain ⟨l1, g1⟩ := List.getElem?_eq_some_iff.mp hp
              obtain ⟨l2, g2⟩ := List.getElem?_eq_some_iff.mp h2
              exact (List.getElem_inj R.nd).mp (g1.trans g2.symm)
            rw [List.getElem?_set, if_neg (fun c => e (mod_of_div ed c))]; exact h3
          · have : pt' p2 = pt p2 := if_neg c
            rw [this]; exact h3
    · have mu := List.mem_of_getElem? hu
      obtain ⟨q1, q2⟩ := hob u mu
      refine (W.at_ u mu).keep q1 q2 fun q hq => ⟨page u mu q hq, ?_⟩
      have : q ≠ p := fun c => W.alone hr hu mp h1 hj (c ▸ hq)
      show (if q = p then _ else _ : PgD).kept = _
      rw [if_neg this]
  · obtain ⟨v, hv, e1, e2, _⟩ := old u hu
    rw [e1, e2]; exact W.ga v hv
  · obtain ⟨v, hv, e1, e2, e3⟩ := old u hu
    intro q hq
    rw [e3] at hq
    show _ ∧ G (pt' q).kl = none
    rw [ek]; exact W.gp v hv q hq
  · obtain ⟨u', hu', _, _, e1⟩ := old u hu
    obtain ⟨v', hv', _, _, e2⟩ := old v hv
    show (pt' q).kl = (pt' q2).kl → _
    rw [ek, ek]
    exact W.ki u' hu' v' hv' q (e1 ▸ hq) q2 (e2 ▸ hq2)
  · obtain ⟨u', hu', _, _, e1⟩ := old u hu
    obtain ⟨v', hv', _, e2, _⟩ := old v hv
    show (pt' q).kl ≠ _
    rw [ek, e2]
    exact W.kp u' hu' v' hv' q (e1 ▸ hq)
  · obtain ⟨u', hu', _, _, e1⟩ := old u hu
    show _ ≤ (pt' q).h
    rw [eh, count_set (x := { r with xs := r.xs.set i n }) hr rfl]
    exact W.hd u' hu' q (e1 ▸ hq)
/-- a page that others hold too is doubled -/
theorem RW.own (W : RW K G H rs pt) {k j : Nat} {p q kq dq : Addr} (hr : rs[k]? = some r) (hp : r.pgs[j]? = some p) (h1 : 1 < (pt p).h) (fq : H q = none) (fk : H kq = none)
    (a1 : H' p = some (.ins (CPage K) (pt p).dx (pf (pt p).kl ((pt p).h - 1)))) (a2 : H' q = some (.ins (CPage K) dq (pf kq 1))) (a3 : H' kq = some (.lst ((pt p).kept.map V.int))) (a4 : H' r.pl = some (.lst ((r.pgs.set j q).map V.ref)))
    (a5 : H' r.a = some (.ins (CRoom K) r.dx (rf r.xs.length r.w r.pl (r.cp + 1)))) (a6 : ∀ b o, H b = some o → b ≠ p → b ≠ r.pl → b ≠ r.a → H' b = some o) :
    RW K G H' (rs.set k { r with pgs := r.pgs.set j q, cp := r.cp + 1 }) (fun b => if b = q then ⟨dq, kq, (pt p).kept, 1⟩ else if b = p then { pt p with h := (pt p).h - 1 } else pt b) := by
  have mr := List.mem_of_getElem? hr
  have R := W.at_ r mr
  have mp := List.mem_of_getElem? hp
  have P := R.pg p mp
  let pt' : Addr → PgD := fun b => if b = q then ⟨dq, kq, (pt p).kept, 1⟩ else if b = p then { pt p with h := (pt p).h - 1 } else pt b
  have nq : ∀ v ∈ rs, ∀ b ∈ v.pgs, b ≠ q := fun v hv b hb e => by have := ((W.at_ v hv).pg b hb).1; rw [e, fq] at this; cases this
  have eq_ : pt' q = ⟨dq, kq, (pt p).kept, 1⟩ := if_pos rfl
  have eo : ∀ v ∈ rs, ∀ b ∈ v.pgs, (pt' b).kl = (pt b).kl ∧ (pt' b).kept = (pt b).kept := fun v hv b hb => by
    have e : pt' b = if b = p then { pt p with h := (pt p).h - 1 } else pt b := if_neg (nq v hv b hb)
    rw [e]
    by_cases c : b = p
    · rw [if_pos c, c]; exact ⟨rfl, rfl⟩
    · rw [if_neg c]; exact ⟨rfl, rfl⟩
  -- the kinds of addresses are apart
  have ap : ∀ v ∈ rs, ∀ b ∈ v.pgs, b ≠ r.pl ∧ b ≠ r.a ∧ (pt b).kl ≠ p ∧ (pt b).kl ≠ r.pl ∧ (pt b).kl ≠ r.a := fun v hv b hb => by
    have Pb := (W.at_ v hv).pg b hb
    refine ⟨fun e => ?_, fun e => ?_, fun e => ?_, W.kp v hv r mr b hb, fun e => ?_⟩
    · have := Pb.1; rw [e, R.ls] at this; cases this
    · have := Pb.1; rw [e, R.ob] at this; exact T0 this
    · have := Pb.2; rw [e, P.1] at this; cases this
    · have := Pb.2; rw [e, R.ob] at this; cases this
  have page : ∀ v ∈ rs, ∀ b ∈ v.pgs, PageAt K H' b (pt' b) := fun v hv b hb => by
    have Pb := (W.at_ v hv).pg b hb
    obtain ⟨n1, n2, n3, n4, n5⟩ := ap v hv b hb
    have e : pt' b = if b = p then { pt p with h := (pt p).h - 1 } else pt b := if_neg (nq v hv b hb)
    rw [e]
    by_cases c : b = p
    · rw [if_pos c, c]
      exact ⟨a1, a6 _ _ (c ▸ Pb.2) (c ▸ n3) (c ▸ n4) (c ▸ n5)⟩
    · rw [if_neg c]
      exact ⟨a6 _ _ Pb.1 c n1 n2, a6 _ _ Pb.2 n3 n4 n5⟩
  have pq : PageAt K H' q (pt' q) := by rw [eq_]; exact ⟨a2, a3⟩
  -- the pages of the new list
  have old : ∀ u ∈ rs.set k { r with pgs := r.pgs.set j q, cp := r.cp + 1 }, ∃ v ∈ rs, u.a = v.a ∧ u.pl = v.pl ∧ ∀ b ∈ u.pgs, b ∈ v.pgs ∨ (b = q ∧ v = r) := fun u hu => by
    rcases mem_set_at hu with ⟨rfl, _⟩ | ⟨i, _, hi⟩
    · refine ⟨r, mr, rfl, rfl, fun b hb => ?_⟩
      rcases mem_set_at hb with ⟨c, _⟩ | ⟨i, _, hi⟩
      · exact .inr ⟨c, rfl⟩
      · exact .inl (List.mem_of_getElem? hi)
    · exact ⟨u, List.mem_of_getElem? hi, rfl, rfl, fun b hb => .inl hb⟩
  have gq : G q = none := W.sm.free fq
  have gk : G kq = none := W.sm.free fk
  have nkq : ∀ v ∈ rs, ∀ b ∈ v.pgs, (pt b).kl ≠ kq := fun v hv b hb e => by have := ((W.at_ v hv).pg b hb).2; rw [e, fk] at this; cases this
  refine ⟨fun b o e => ?_, fun u hu => ?_, fun u hu => ?_, fun u hu b hb => ?_, index_set hr W.na rfl, index_set hr W.nl rfl, fun u hu v hv b hb b2 hb2 => ?_, fun u hu v hv b hb => ?_, fun u hu b hb => ?_⟩
  · refine a6 b o (W.sm b o e) (fun c => ?_) (fun c => ?_) (fun c => ?_)
    · rw [c, (W.gp r mr p mp).1] at e; cases e
    · rw [c, (W.ga r mr).2] at e; cases e
    · rw [c, (W.ga r mr).1] at e; cases e
  · rcases mem_set_at hu with ⟨rfl, _⟩ | ⟨i, hi, hu⟩
    · have jl : j < r.pgs.length := (List.getElem?_eq_some_iff.mp hp).1
      refine ⟨a5, a4, R.w1, R.w2, R.n, ?_, fun b hb => ?_, fun i y hy => ?_⟩
      · exact nodup_set R.nd (fun b hb => nq r mr b hb)
      · rcases mem_set_at hb with ⟨c, _⟩ | ⟨i, _, hi⟩
        · rw [c]; exact pq
        · exact page r mr b (List.mem_of_getElem? hi)
      · obtain ⟨p2, h2, h3⟩ := R.ct i y hy
        show ∃ p', (r.pgs.set j q)[i / r.w]? = some p' ∧ (pt' p').kept[i % r.w]? = some y
        rw [List.getElem?_set]
        by_cases c : j = i / r.w
        · rw [if_pos c, if_pos (c ▸ jl)]
          refine ⟨q, rfl, ?_⟩
          rw [eq_]
          rw [← c, hp] at h2
          cases h2
          exact h3
        · rw [if_neg c]
          refine ⟨p2, h2, ?_⟩
          rw [(eo r mr p2 (List.mem_of_getElem? h2)).2]; exact h3
    · have mu := List.mem_of_getElem? hu
      have U := W.at_ u mu
      refine U.keep ?_ ?_ fun b hb => ⟨page u mu b hb, (eo u mu b hb).2⟩
      · rw [U.ob]
        refine a6 _ _ U.ob (fun e => ?_) (fun e => ?_) (fun e => hi (W.na _ _ _ _ hu hr e))
        · have := U.ob; rw [e, P.1] at this; exact T0 this.symm
        · have := U.ob; rw [e, R.ls] at this; cases this
      · rw [U.ls]
        refine a6 _ _ U.ls (fun e => ?_) (fun e => hi (W.nl _ _ _ _ hu hr e)) (fun e => ?_)
        · have := U.ls; rw [e, P.1] at this; cases this
        · have := U.ls; rw [e, R.ob] at this; cases this
  · obtain ⟨v, hv, e1, e2, _⟩ := old u hu
    rw [e1, e2]; exact W.ga v hv
  · obtain ⟨v, hv, e1, e2, e3⟩ := old u hu
    show _ ∧ G (pt' b).kl = none
    rcases e3 b hb with c | ⟨c, _⟩
    · rw [(eo v hv b c).1]; exact W.gp v hv b c
    · rw [c, eq_]; exact ⟨gq, gk⟩
  · obtain ⟨u', hu', _, _, e1⟩ := old u hu
    obtain ⟨v', hv', _, _, e2⟩ := old v hv
    show (pt' b).kl = (pt' b2).kl → _
    rcases e1 b hb with c | ⟨c, _⟩ <;> rcases e2 b2 hb2 with d | ⟨d, _⟩
    · rw [(eo u' hu' b c).1, (eo v' hv' b2 d).1]
      exact W.ki u' hu' v' hv' b c b2 d
    · rw [(eo u' hu' b c).1, d, eq_]
      exact fun e => absurd e (nkq u' hu' b c)
    · rw [(eo v' hv' b2 d).1, c, eq_]
      exact fun e => absurd e.symm (nkq v' hv' b2 d)
    · exact fun _ => by rw [c, d]
  · obtain ⟨u', hu', _, _, e1⟩ := old u hu
    obtain ⟨v', hv', _, e2, _⟩ := old v hv
    show (pt' b).kl ≠ _
    rw [e2]
    rcases e1 b hb with c | ⟨c, _⟩
    · rw [(eo u' hu' b c).1]; exact W.kp u' hu' v' hv' b c
    · rw [c, eq_]
      intro e
      have := (W.at_ v' hv').ls
      rw [← e, fk] at this; cases this
  · obtain ⟨u', hu', _, _, e1⟩ := old u hu
    show _ ≤ (pt' b).h
    rcases e1 b hb with c | ⟨c, _⟩
    · have e : pt' b = if b = p then { pt p with h := (pt p).h - 1 } else pt b := if_neg (nq u' hu' b c)
      have h0 := W.hd u' hu' b c
      by_cases d : b = p
      · rw [e, if_pos d]
        subst d
        have := count_less (f := fun t : RR => decide (b ∈ t.pgs)) (x := { r with pgs := r.pgs.set j q, cp := r.cp + 1 }) hr (by simpa using mp) (by
          simp only [decide_eq_false_iff_not]
          intro hm
          rcases mem_set_at hm with ⟨f, _⟩ | ⟨i, hi, hm⟩
          · exact nq r mr b mp f
          · obtain ⟨l1, g1⟩ := List.getElem?_eq_some_iff.mp hp
            obtain ⟨l2, g2⟩ := List.getElem?_eq_some_iff.mp hm
            exact hi ((List.getElem_inj R.nd).mp (g2.trans g1.symm)))
        show _ ≤ (pt b).h - 1
        omega
      · rw [e, if_neg d]
        rw [count_set (x := { r with pgs := r.pgs.set j q, cp := r.cp + 1 }) hr]
        · exact h0
        · refine decide_eq_decide.mpr ⟨fun hm => ?_, fun hm => ?_⟩
          · rcases mem_set_at hm with ⟨f, _⟩ | ⟨i, hi, hm⟩
            · exact absurd f (nq u' hu' b c)
            · exact List.mem_of_getElem? hm
          · obtain ⟨i, hi⟩ := List.getElem?_of_mem hm
            refine List.mem_of_getElem? (i := i) ?_
            show (r.pgs.set j q)[i]? = some b
            rw [List.getElem?_set, if_neg fun f => ?_]
            · exact hi
            · rw [← f, hp] at hi; exact d (Option.some.inj hi).symm
    · rw [c, eq_]
      have hz : ∀ xs : List RR, (∀ v ∈ xs, q ∉ v.pgs) → xs.countP (fun t => decide (q ∈ t.pgs)) = 0 := fun xs h => List.countP_eq_zero.mpr fun v hv => by simpa using h v hv
      have h0 := hz rs fun v hv hm => nq v hv q hm rfl
      have : (rs.set k { r with pgs := r.pgs.set j q, cp := r.cp + 1 }).countP (fun t => decide (q ∈ t.pgs)) ≤ rs.countP (fun t => decide (q ∈ t.pgs)) + 1 := count_more rs k _
      show _ ≤ (1 : Int)
      omega
end

end Vg

namespace Vg
open PySem PySem.Spec PyProof.Rows L2 RZ RT
section
variable {K : PySem.W.Frag} {G H H' : Hp} {rs : List RR} {pt pt' pt2 : Addr → PgD} {r t : RR}
theorem app_at {α : Type} {xs : List α} {i : Nat} {x y : α} (h : (xs ++ [x])[i]? = some y) : (i < xs.length ∧ xs[i]? = some y) ∨ (i = xs.length ∧ y = x) := by
  by_cases e : i < xs.length
  · rw [List.getElem?_append_left e] at h; exact .inl ⟨e, h⟩
  · rw [List.getElem?_append_right (by omega)] at h
    by_cases c : i - xs.length = 0
    · rw [c] at h; exact .inr ⟨by omega, (Option.some.inj (by simpa using h)).symm⟩
    · rw [List.getElem?_eq_none (by simp; omega)] at h; cases h
theorem index_app {f : RR → Addr} {r : RR} (h : ∀ (i j : Nat) r t, rs[i]? = some r → rs[j]? = some t → f r = f t → i = j) (hn : ∀ v ∈ rs, f v ≠ f r) : ∀ (i j : Nat) u v, (rs ++ [r])[i]? = some u → (rs ++ [r])[j]? = some v → f u = f v → i = j := by
  intro i j u v hu hv e
  rcases app_at hu with ⟨_, a⟩ | ⟨a, b⟩ <;> rcases app_at hv with ⟨_, c⟩ | ⟨c, d⟩
  · exact h _ _ _ _ a c e
  · rw [d] at e; exact absurd e (hn u (List.mem_of_getElem? a))
  · rw [b] at e; exact absurd e.symm (hn v (List.mem_of_getElem? c))
  · rw [a, c]
/-- one room more, all of it new -/
theorem RW.new (W : RW K G H rs pt) (R : RAt K H' pt2 r) (N : NewR H pt2 r) (fa : H r.a = none) (s : Same H H') : RW K G H' (rs ++ [r]) (fun b => if b ∈ r.pgs then pt2 b else pt b) := by
  have W2 := W.same s
  let q : Addr → PgD := fun b => if b ∈ r.pgs then pt2 b else pt b
  have q1 : ∀ b ∈ r.pgs, q b = pt2 b := fun b hb => if_pos hb
  have no : ∀ v ∈ rs, ∀ b ∈ v.pgs, b ∉ r.pgs := fun v hv b hb hm => by have := ((W.at_ v hv).pg b hb).1; rw [(N.pg b hm).1] at this; cases this
  have q2 : ∀ v ∈ rs, ∀ b ∈ v.pgs, q b = pt b := fun v hv b hb => if_neg (no v hv b hb)
  have kk : ∀ v ∈ rs, ∀ b ∈ v.pgs, ∀ c ∈ r.pgs, (pt b).kl ≠ (pt2 c).kl := fun v hv b hb c hc e => by have := ((W.at_ v hv).pg b hb).2; rw [e, (N.pg c hc).2.1] at this; cases this
  have z : ∀ xs : List RR, ∀ p, (∀ v ∈ xs, p ∉ v.pgs) → xs.countP (fun t => decide (p ∈ t.pgs)) = 0 := fun xs p h => List.countP_eq_zero.mpr fun v hv => by simpa using h v hv
  refine ⟨W2.sm, fun u hu => ?_, fun u hu => ?_, fun u hu b hb => ?_, index_app W.na fun v hv e => ?_, index_app W.nl fun v hv e => ?_, fun u hu v hv b hb c hc => ?_, fun u hu v hv b hb => ?_, fun u hu b hb => ?_⟩
  · rcases mem_app hu with hu | rfl
    · exact (W2.at_ u hu).keep rfl rfl fun b hb => ⟨by show PageAt K H' b (q b); rw [q2 u hu b hb]; exact (W2.at_ u hu).pg b hb, by show (q b).kept = _; rw [q2 u hu b hb]⟩
    · exact R.keep rfl rfl fun b hb => ⟨by show PageAt K H' b (q b); rw [q1 b hb]; exact R.pg b hb, by show (q b).kept = _; rw [q1 b hb]⟩
  · rcases mem_app hu with hu | rfl
    · exact W.ga u hu
    · exact ⟨W.sm.free fa, W.sm.free N.pl⟩
  · show _ ∧ G (q b).kl = none
    rcases mem_app hu with hu | rfl
    · rw [q2 u hu b hb]; exact W.gp u hu b hb
    · rw [q1 b hb]; exact ⟨W.sm.free (N.pg b hb).1, W.sm.free (N.pg b hb).2.1⟩
  · have := (W.at_ v hv).ob; rw [e, fa] at this; cases this
  · have := (W.at_ v hv).ls; rw [e, N.pl] at this; cases this
  · show (q b).kl = (q c).kl → _
    rcases mem_app hu with h1 | h1 <;> rcases mem_app hv with h2 | h2
    · rw [q2 u h1 b hb, q2 v h2 c hc]; exact W.ki u h1 v h2 b hb c hc
    · rw [h2] at hc; rw [q2 u h1 b hb, q1 c hc]; exact fun e => absurd e (kk u h1 b hb c hc)
    · rw [h1] at hb; rw [q2 v h2 c hc, q1 b hb]; exact fun e => absurd e.symm (kk v h2 c hc b hb)
    · rw [h1] at hb; rw [h2] at hc; rw [q1 b hb, q1 c hc]; exact N.ki b hb c hc
  · show (q b).kl ≠ _
    rcases mem_app hu with h1 | h1 <;> rcases mem_app hv with h2 | h2
    · rw [q2 u h1 b hb]; exact W.kp u h1 v h2 b hb
    · rw [q2 u h1 b hb, h2]; intro e; have := ((W.at_ u h1).pg b hb).2; rw [e, N.pl] at this; cases this
    · rw [h1] at hb; rw [q1 b hb]; intro e; have := (W.at_ v h2).ls; rw [← e, (N.pg b hb).2.1] at this; cases this
    · rw [h1] at hb; rw [q1 b hb, h2]; exact (N.pg b hb).2.2.2
  · show _ ≤ (q b).h
    rw [List.countP_append, List.countP_singleton]
    rcases mem_app hu with hu | rfl
    · rw [q2 u hu b hb, if_neg (by simpa using no u hu b hb)]; exact W.hd u hu b hb
    · rw [q1 b hb, (N.pg b hb).2.2.1, z rs b fun v hv hm => no v hv b hm hb]; split <;> decide
/-- a twin -/
theorem RW.twin (W : RW K G H rs pt) {k : Nat} {a2 dx2 pl2 : Addr} {cp2 : Int} (hr : rs[k]? = some r) (fa : H a2 = none) (fp : H pl2 = none) (b1 : ∀ p ∈ r.pgs, H' p = some (.ins (CPage K) (pt p).dx (pf (pt p).kl ((pt p).h + 1))))
    (b2 : H' a2 = some (.ins (CRoom K) dx2 (rf r.xs.length r.w pl2 cp2))) (b3 : H' pl2 = some (.lst (r.pgs.map V.ref))) (b4 : ∀ b o, H b = some o → b ∉ r.pgs → H' b = some o) :
    RW K G H' (rs ++ [⟨a2, dx2, pl2, r.w, cp2, r.pgs, r.xs⟩]) (fun b => if b ∈ r.pgs then { pt b with h := (pt b).h + 1 } else pt b) := by
  have mr := List.mem_of_getElem? hr
  have R := W.at_ r mr
  let q : Addr → PgD := fun b => if b ∈ r.pgs then { pt b with h := (pt b).h + 1 } else pt b
  have q1 : ∀ b ∈ r.pgs, q b = { pt b with h := (pt b).h + 1 } := fun b hb => if_pos hb
  have q2 : ∀ b, b ∉ r.pgs → q b = pt b := fun b hb => if_neg hb
  have ek : ∀ b, (q b).kl = (pt b).kl ∧ (q b).kept = (pt b).kept := fun b => by
    by_cases c : b ∈ r.pgs
    · rw [q1 b c]; exact ⟨rfl, rfl⟩
    · rw [q2 b c]; exact ⟨rfl, rfl⟩
  have nk : ∀ v ∈ rs, ∀ b ∈ v.pgs, (pt b).kl ∉ r.pgs := fun v hv b hb hm => by have := ((W.at_ v hv).pg b hb).2; rw [(R.pg _ hm).1] at this; cases this
  have page : ∀ v ∈ rs, ∀ b ∈ v.pgs, PageAt K H' b (q b) := fun v hv b hb => by
    have P := (W.at_ v hv).pg b hb
    by_cases c : b ∈ r.pgs
    · rw [q1 b c]; exact ⟨b1 b c, b4 _ _ P.2 (nk v hv b hb)⟩
    · rw [q2 b c]; exact ⟨b4 _ _ P.1 c, b4 _ _ P.2 (nk v hv b hb)⟩
  -- a room of the new list is an old one but for its places
  have old : ∀ u ∈ rs ++ [⟨a2, dx2, pl2, r.w, cp2, r.pgs, r.xs⟩], ∃ v ∈ rs, u.pgs = v.pgs := fun u hu => by
    rcases mem_app hu with hu | rfl
    · exact ⟨u, hu, rfl⟩
    · exact ⟨r, mr, rfl⟩
  refine ⟨fun b o e => ?_, fun u hu => ?_, fun u hu => ?_, fun u hu b hb => ?_, index_app W.na fun v hv e => ?_, index_app W.nl fun v hv e => ?_, fun u hu v hv b hb c hc => ?_, fun u hu v hv b hb => ?_, fun u hu b hb => ?_⟩
  · exact b4 b o (W.sm b o e) fun hm => by rw [(W.gp r mr b hm).1] at e; cases e
  · rcases mem_app hu with hu | rfl
    · have U := W.at_ u hu
      refine U.keep ?_ ?_ fun b hb => ⟨page u hu b hb, (ek b).2⟩
      · rw [U.ob]; exact b4 _ _ U.ob fun hm => by have := U.ob; rw [(R.pg _ hm).1] at this; exact T0 this.symm
      · rw [U.ls]; exact b4 _ _ U.ls fun hm => by have := U.ls; rw [(R.pg _ hm).1] at this; cases this
    · refine ⟨b2, b3, R.w1, R.w2, R.n, R.nd, fun b hb => page r mr b hb, fun i x hx => ?_⟩
      obtain ⟨p, h1, h2⟩ := R.ct i x hx
      exact ⟨p, h1, by show (q p).kept[_]? = _; rw [(ek p).2]; exact h2⟩
  · rcases mem_app hu with hu | rfl
    · exact W.ga u hu
    · exact ⟨W.sm.free fa, W.sm.free fp⟩
  · obtain ⟨v, hv, e⟩ := old u hu
    show _ ∧ G (q b).kl = none
    rw [(ek b).1]; exact W.gp v hv b (e ▸ hb)
  · have := (W.at_ v hv).ob; rw [e, fa] at this; cases this
  · have := (W.at_ v hv).ls; rw [e, fp] at this; cases this
  · obtain ⟨u', hu', e1⟩ := old u hu
    obtain ⟨v', hv', e2⟩ := old v hv
    show (q b).kl = (q c).kl → _
    rw [(ek b).1, (ek c).1]
    exact W.ki u' hu' v' hv' b (e1 ▸ hb) c (e2 ▸ hc)
  · obtain ⟨u', hu', e1⟩ := old u hu
    show (q b).kl ≠ _
    rw [(ek b).1]
    rcases mem_app hv with hv | rfl
    · exact W.kp u' hu' v hv b (e1 ▸ hb)
    · intro e; have := ((W.at_ u' hu').pg b (e1 ▸ hb)).2; rw [e, fp] at this; cases this
  · obtain ⟨u', hu', e1⟩ := old u hu
    have h0 := W.hd u' hu' b (e1 ▸ hb)
    show _ ≤ (q b).h
    rw [List.countP_append, List.countP_singleton]
    by_cases c : b ∈ r.pgs
    · rw [q1 b c, if_pos (by simpa using c)]
      show _ ≤ (pt b).h + 1
      omega
    · rw [q2 b c, if_neg (by simpa using c)]; exact h0
end
theorem ixN_at {n j : Nat} (hj : j < n) : ixN n (j : Int) = some j := by
  unfold ixN
  rw [if_pos (by omega), if_pos (by omega), Int.toNat_natCast]
theorem set_self {α : Type} : ∀ {xs : List α} {k : Nat} {x : α}, xs[k]? = some x → xs.set k x = xs
  | y :: xs, 0, x, h => by simp at h; subst h; rfl
  | y :: xs, k + 1, x, h => by rw [List.set_cons_succ, set_self (xs := xs) (k := k) (by simpa using h)]
/-- the rooms by place and numbers -/
def Rooms (K : PySem.W.Frag) (G H : Hp) (ρ : List (Addr × List Int)) : Prop := ∃ rs pt, RW K G H rs pt ∧ ρ = rs.map fun r => (r.a, r.xs)
section
variable {K : PySem.W.Frag} {G H H' : Hp} {ρ : List (Addr × List Int)}
theorem Rooms.same (W : Rooms K G H ρ) (s : Same H H') : Rooms K G H' ρ := let ⟨rs, pt, R, e⟩ := W; ⟨rs, pt, R.same s, e⟩
theorem Rooms.sm (W : Rooms K G H ρ) : Same G H := let ⟨_, _, R, _⟩ := W; R.sm
theorem Rooms.room (W : Rooms K G H ρ) {k : Nat} {a : Addr} {xs : List Int} (h : ρ[k]? = some (a, xs)) : ∃ rs pt r, RW K G H rs pt ∧ ρ = rs.map (fun r => (r.a, r.xs)) ∧ rs[k]? = some r ∧ r.a = a ∧ r.xs = xs := by
  obtain ⟨rs, pt, R, e⟩ := W
  rw [e, List.getElem?_map] at h
  cases q : rs[k]? with
  | none => rw [q] at h; cases h
  | some r =>
    rw [q] at h
    have e2 := Option.some.inj h
    exact ⟨rs, pt, r, R, e, q, congrArg Prod.fst e2, congrArg Prod.snd e2⟩
/-- a room is an instance of Room of so many cells -/
theorem Rooms.ins (W : Rooms K G H ρ) {k : Nat} {a : Addr} {xs : List Int} (h : ρ[k]? = some (a, xs)) : ∃ dx pl w cp, H a = some (.ins (CRoom K) dx (rf xs.length w pl cp)) ∧ xs.length ≤ 700 := by
  obtain ⟨rs, pt, r, R, _, hr, rfl, rfl⟩ := W.room h
  have := R.at_ r (List.mem_of_getElem? hr)
  exact ⟨_, _, _, _, this.ob, this.n⟩
/-- of unlike places -/
theorem Rooms.inj (W : Rooms K G H ρ) {i j : Nat} {a : Addr} {xs ys : List Int} (h1 : ρ[i]? = some (a, xs)) (h2 : ρ[j]? = some (a, ys)) : i = j := by
  obtain ⟨rs, pt, R, e⟩ := W
  rw [e, List.getElem?_map] at h1 h2
  cases q : rs[i]? with
  | none => rw [q] at h1; cases h1
  | some r =>
    cases p : rs[j]? with
    | none => rw [p] at h2; cases h2
    | some t =>
      rw [q] at h1; rw [p] at h2
      have e1 := congrArg Prod.fst (Option.some.inj h1)
      have e2 := congrArg Prod.fst (Option.some.inj h2)
      exact R.na i j r t q p (e1.trans e2.symm)
end
section
variable {P : Program} {w : World} {K : PySem.W.Frag} {mg : Str → Option Value} {base : Heap}
def sp_Room_own_page (K : PySem.W.Frag) : Sp := fun vs H Q _ => ∃ (G : Hp) (rs : List RR) (pt : Addr → PgD) (k j : Nat) (r : RR) (p : Addr), vs = [.ref r.a, .int j] ∧ RW K G H rs pt ∧ rs[k]? = some r ∧ r.pgs[j]? = some p ∧
  ∀ H' pt' r' p', RW K G H' (rs.set k r') pt' → r'.a = r.a → r'.xs = r.xs → r'.w = r.w → r'.pgs[j]? = some p' → (pt' p').h ≤ 1 → Q (.ref p') H'
abbrev N_Room_own_page : List Str := ["self", "at", "page"]
theorem sc_Room_own_page : FnScope N_Room_own_page ["self", "at"] (defScope s_Room_own_page) := ⟨rfl, rfl, rfl, by decide +kernel, rfl, by decide +kernel, by decide +kernel⟩
theorem ok_Room_own_page (T : Txt K mg) : GM P w K mg base 3 (CRoom K) "own_page" ["self", "at"] (sp_Room_own_page K) := by
  have nd := sc_Room_own_page.nd
  refine gm_of T (d := d_Room_own_page) (x := "Room") (m := "own_page") rfl rfl rfl T.clR (i := 12) rfl (by decide +kernel) sc_Room_own_page (fun _ _ _ _ _ _ us hl => match us, hl with | [_, _], _ => rfl) (fun vs H Q E h => ?_) (fun cdv A outer s H vs Q E hr h => ?_)
  · obtain ⟨G, rs, pt, k, j, r, p, rfl, _⟩ := h; rfl
  · refine ⟨_, (pss_cons (ps_set (i := 2) nd rfl (Or.inl rfl) (pe_ix ix_list (pe_fld (pv 0) rfl) (pv 1) (fun _ _ => rfl)))
      (pss_cons (ps_if (pt_cmpR op_gt (pe_fld (pv 2) rfl) pe_int (nomark _)) (pss_cons (ps_fldaug (pv 2) pe_int in_sub)
      (pss_cons (ps_set (i := 2) nd rfl (Or.inl rfl) (pe_makePage T (fun fd F => ok_Page_init T F) (hr.mono (by decide)) rfl (pa_cons (pe_callTy call_list_of rfl (T.free "list") (by decide +kernel) (pa_cons (pe_fld (pv 2) rfl) pa_nil)) pa_nil)))
      (pss_cons (ps_asg (pv 2) (pg_sub (pe_fld (pv 0) rfl) (pv 1) set_list))
      (pss_one (ps_fldaug (pv 0) pe_int in_add))))) pss_nil)
      (pss_one (ps_ret (pv 2))))), ?_⟩
    obtain ⟨G, rs, pt, k, j, r, p, rfl, W, hr, hp, q⟩ := h
    have mr := List.mem_of_getElem? hr
    have R := W.at_ r mr
    have mp := List.mem_of_getElem? hp
    have P := R.pg p mp
    refine ⟨_, rfl, r.a, _, r.dx, _, _, rfl, R.ob, T.clR, T.na "Room" "pages", rfl, _, rfl, r.pl, _, _, _, rfl, rfl, SqL.of R.ls, at_of (j := j) (v := V.ref p) (by first | rfl | omega) (by rw [List.getElem?_map, hp]; rfl), ?_⟩
    refine ⟨_, rfl, p, _, _, _, _, rfl, P.1, T.clP, T.na "Page" "holders", rfl, _, _, rfl, rfl, decide ((pt p).h > 1), rfl, ?_⟩
    by_cases h1 : (pt p).h > 1
    · rw [decide_eq_true h1]
      refine iteT ⟨_, rfl, p, _, _, _, _, rfl, P.1, T.clP, T.na "Page" "holders", rfl, _, _, rfl, rfl, _, _, P.1, (by show 2 < 1000; decide), ?_⟩
      have nkp : (pt p).kl ≠ p := fun e => by have := P.2; rw [e, P.1] at this; cases this
      refine ⟨_, rfl, p, _, _, _, _, rfl, upd_same, T.clP, T.na "Page" "kept", rfl, (pt p).kl, _, rfl, .inl (SqL.of (by rw [upd_ne nkp]; exact P.2)), fun kq hkq => ?_⟩
      rintro z dz hz hdz hne
      refine ⟨z, kq, dz, rfl, upd_same, fun H3 f1 f2 => ⟨rfl, ?_⟩⟩
      have fr : ∀ b, (upd H p (.ins (CPage K) (pt p).dx (pf (pt p).kl ((pt p).h - 1)))) b = none → H b = none ∧ b ≠ p := fun b hb => by
        have n : b ≠ p := by rintro rfl; rw [upd_same] at hb; cases hb
        rw [upd_ne n] at hb; exact ⟨hb, n⟩
      obtain ⟨k1, k2⟩ := fr kq hkq
      obtain ⟨z1, z2⟩ := fr z ((Same.new hkq).free hz)
      obtain ⟨d1, d2⟩ := fr dz ((Same.new hkq).free hdz)
      have nzk : kq ≠ z := by rintro rfl; rw [upd_same] at hz; cases hz
      have ndk : kq ≠ dz := by rintro rfl; rw [upd_same] at hdz; cases hdz
      have s3 : ∀ b o, H b = some o → b ≠ p → H3 b = some o := fun b o e n => by
        have n1 : b ≠ z := ne_of_none e z1
        rw [f2 b n1, upd_ne n1, upd_ne (ne_of_none e d1), upd_ne (ne_of_none e k1)]
        exact (upd_ne n).trans e
      have e1 : H3 p = some (.ins (CPage K) (pt p).dx (pf (pt p).kl ((pt p).h - 1))) := by
        have n1 : p ≠ z := Ne.symm z2
        rw [f2 p n1, upd_ne n1, upd_ne (Ne.symm d2), upd_ne (Ne.symm k2)]; exact upd_same
      have e2 : H3 kq = some (.lst ((pt p).kept.map V.int)) := by
        rw [f2 kq nzk, upd_ne nzk, upd_ne ndk, upd_same]
      have nap : r.a ≠ p := fun e => by have := R.ob; rw [e, P.1] at this; exact T0 this.symm
      have nlp : r.pl ≠ p := fun e => by have := R.ls; rw [e, P.1] at this; cases this
      have nal : r.a ≠ r.pl := fun e => by have := R.ob; rw [e, R.ls] at this; cases this
      have nzl : z ≠ r.pl := fun e => by have := R.ls; rw [← e, z1] at this; cases this
      have nza : z ≠ r.a := fun e => by have := R.ob; rw [← e, z1] at this; cases this
      have nkl : kq ≠ r.pl := fun e => by have := R.ls; rw [← e, k1] at this; cases this
      have nka : kq ≠ r.a := fun e => by have := R.ob; rw [← e, k1] at this; cases this
      have hob := s3 _ _ R.ob nap
      refine ⟨_, rfl, _, rfl, r.a, _, _, _, _, rfl, hob, T.clR, T.na "Room" "pages", rfl, _, rfl, ?_⟩
      have jl : j < r.pgs.length := (List.getElem?_eq_some_iff.mp hp).1
      refine ⟨r.pl, _, j, j, rfl, rfl, s3 _ _ R.ls nlp, ixN_at (by rw [List.length_map]; exact jl), ?_⟩
      refine ⟨_, rfl, r.a, _, _, _, _, rfl, (upd_ne nal).trans hob, T.clR, T.na "Room" "copies", rfl, _, _, rfl, rfl, _, _, (upd_ne nal).trans hob, (by show 5 < 1000; decide), ?_⟩
      refine ⟨_, rfl, ?_⟩
      refine q _ _ { r with pgs := r.pgs.set j z, cp := r.cp + 1 } z (W.own hr hp h1 z1 k1 (dq := dz) ?_ ?_ ?_ ?_ ?_ ?_) rfl rfl rfl ?_ ?_
      · rw [upd_ne (Ne.symm nap), upd_ne (Ne.symm nlp)]; exact e1
      · rw [upd_ne nza, upd_ne nzl]; exact f1
      · rw [upd_ne nka, upd_ne nkl]; exact e2
      · rw [upd_ne (Ne.symm nal), upd_same, List.map_set]
      · exact upd_same
      · intro b o e n1 n2 n3
        rw [upd_ne n3, upd_ne n2]; exact s3 b o e n1
      · show (r.pgs.set j z)[j]? = _
        rw [List.getElem?_set, if_pos rfl, if_pos jl]
      · rw [if_pos rfl]; show (1 : Int) ≤ 1; omega
    · rw [decide_eq_false h1]
      refine iteF ⟨_, rfl, ?_⟩
      have e : rs.set k r = rs := set_self hr
      exact q _ pt r p (by rw [e]; exact W) rfl rfl rfl hp (by omega)
end
section
variable {P : Program} {w : World} {K : PySem.W.Frag} {mg : Str → Option Value} {base : Heap}
def sp_Room_write (K : PySem.W.Frag) : Sp := fun vs H Q _ => ∃ (G : Hp) (ρ : List (Addr × List Int)) (k i : Nat) (a : Addr) (xs : List Int) (n : Int), vs = [.ref a, .int i, .int n] ∧ Rooms K G H ρ ∧ ρ[k]? = some (a, xs) ∧ i < xs.length ∧
  ∀ H', Rooms K G H' (ρ.set k (a, xs.set i n)) → Q .non H'
abbrev N_Room_write : List Str := ["self", "cell", "number"]
theorem sc_Room_write : FnScope N_Room_write ["self", "cell", "number"] (defScope s_Room_write) := ⟨rfl, rfl, rfl, by decide +kernel, rfl, by decide +kernel, by decide +kernel⟩
theorem ok_Room_write (T : Txt K mg) : GM P w K mg base 4 (CRoom K) "write" ["self", "cell", "number"] (sp_Room_write K) := by
  have nd := sc_Room_write.nd
  refine gm_of T (d := d_Room_write) (x := "Room") (m := "write") rfl rfl rfl T.clR (i := 13) rfl (by decide +kernel) sc_Room_write (fun _ _ _ _ _ _ us hl => match us, hl with | [_, _, _], _ => rfl) (fun vs H Q E h => ?_) (fun cdv A outer s H vs Q E hr h => ?_)
  · obtain ⟨G, ρ, k, i, a, xs, n, rfl, _⟩ := h; rfl
  · refine ⟨_, (pss_cons (ps_expr (pe_methG (ok_Room_need T) (hr.mono (by decide)) (pv 0) (pa_cons (pv 1) pa_nil)))
      (pss_cons (ps_if (pt_cmpR op_gt (pe_fld (pv 0) rfl) pe_int (nomark _)) (pss_one ps_never) pss_nil)
      (pss_one (ps_if (pt_cmpR op_ne (pe_methG (ok_Room_read T) (hr.mono (by decide)) (pv 0) (pa_cons (pv 1) pa_nil)) (pv 2) (nomark _)) (pss_one (ps_asg (pv 2) (pg_sub (pe_fld (pe_methG (ok_Room_own_page T) (hr.mono (by decide)) (pv 0) (pa_cons (pe_op op_fdivW (pv 1) (pe_fld (pv 0) rfl)) pa_nil)) rfl) (pe_op op_mod (pv 1) (pe_fld (pv 0) rfl)) set_list))) pss_nil)))), ?_⟩
    obtain ⟨G, ρ, k, i, a, xs, n, rfl, W, hk, hi, q⟩ := h
    obtain ⟨rs, pt, r, W, hρ, hr, rfl, rfl⟩ := W.room hk
    have mr := List.mem_of_getElem? hr
    have R := W.at_ r mr
    refine ⟨_, rfl, r.a, r.dx, _, rfl, R.ob, rfl, _, rfl, r.a, r.dx, r.pl, _, _, _, _, rfl, R.ob, by omega, by omega, ?_⟩
    refine ⟨_, rfl, r.a, _, _, _, _, rfl, R.ob, T.clR, T.na "Room" "shuts", rfl, _, _, rfl, rfl, false, rfl, iteF ?_⟩
    refine ⟨_, rfl, r.a, r.dx, _, rfl, R.ob, rfl, _, rfl, r, pt, i, r.xs[i], rfl, R, List.getElem?_eq_getElem hi, _, rfl, rfl, _, rfl, ?_⟩
    rw [dec_int]
    by_cases hne : r.xs[i] = n
    · rw [show (!(r.xs[i] == n)) = false by simp [hne]]
      refine iteF (q H ?_)
      have e : r.xs.set i n = r.xs := set_self (by rw [List.getElem?_eq_getElem hi, hne])
      rw [e, set_self hk]
      exact ⟨rs, pt, W, hρ⟩
    rw [show (!(r.xs[i] == n)) = true by simp [hne]]
    obtain ⟨p, hp, hkp⟩ := R.ct i _ (List.getElem?_eq_getElem hi)
    have w1 := R.w1
    have w2 := R.w2
    have hn := R.n
    refine iteT ⟨_, rfl, _, rfl, r.a, r.dx, _, rfl, R.ob, rfl, _, rfl, _, rfl, r.a, _, _, _, _, rfl, R.ob, T.clR, T.na "Room" "width", rfl, _, _, rfl, rfl, wide_div (b := 10) (by omega) (by omega) (by decide) (by decide), ?_⟩
    refine ⟨G, rs, pt, k, i / r.w, r, p, by rw [Int.natCast_ediv]; rfl, W, hr, hp, fun H' pt' r' p' W' ea ex ew hp' hh => ?_⟩
    have hr' : (rs.set k r')[k]? = some r' := by rw [List.getElem?_set, if_pos rfl, if_pos (List.getElem?_eq_some_iff.mp hr).1]
    have R' := W'.at_ r' (List.mem_of_getElem? hr')
    have P' := R'.pg p' (List.mem_of_getElem? hp')
    have hi' : i < r'.xs.length := by rw [ex]; exact hi
    have hp2 : r'.pgs[i / r'.w]? = some p' := by rw [ew]; exact hp'
    obtain ⟨p2, g1, g2⟩ := R'.ct i _ (List.getElem?_eq_getElem hi')
    rw [hp2] at g1
    cases g1
    refine ⟨p', _, _, _, _, rfl, P'.1, T.clP, T.na "Page" "kept", rfl, _, rfl, _, rfl, r.a, _, _, _, _, rfl, ea ▸ R'.ob, T.clR, T.na "Room" "width", rfl, _, _, rfl, rfl, by show (0 : Int) < r'.w; rw [ew]; omega, ?_⟩
    refine ⟨(pt' p').kl, _, _, i % r'.w, rfl, rfl, P'.2, ?_, ?_⟩
    · rw [← Int.natCast_emod]
      exact ixN_at (by rw [List.length_map]; exact (List.getElem?_eq_some_iff.mp g2).1)
    · have Z := W'.put (n := n) hr' hp2 hh hi'
      rw [List.map_set] at Z
      refine q _ ⟨_, _, Z, ?_⟩
      rw [hρ, List.map_set, List.map_set, List.set_set, ea, ex]
end
section
variable {P : Program} {w : World} {K : PySem.W.Frag} {mg : Str → Option Value} {base : Heap}
def sp_Room_twin (K : PySem.W.Frag) : Sp := fun vs H Q _ => ∃ (G : Hp) (ρ : List (Addr × List Int)) (k : Nat) (a : Addr) (xs : List Int), vs = [.ref a] ∧ Rooms K G H ρ ∧ ρ[k]? = some (a, xs) ∧
  ∀ b H', H b = none → Rooms K G H' (ρ ++ [(b, xs)]) → Q (.ref b) H'
abbrev N_Room_twin : List Str := ["self", "found", "page"]
theorem sc_Room_twin : FnScope N_Room_twin ["self"] (defScope s_Room_twin) := ⟨rfl, rfl, rfl, by decide +kernel, rfl, by decide +kernel, by decide +kernel⟩
theorem ok_Room_twin (T : Txt K mg) : GM P w K mg base 5 (CRoom K) "twin" ["self"] (sp_Room_twin K) := by
  have nd := sc_Room_twin.nd
  refine gm_of T (d := d_Room_twin) (x := "Room") (m := "twin") rfl rfl rfl T.clR (i := 14) rfl (by decide +kernel) sc_Room_twin (fun _ _ _ _ _ _ us hl => match us, hl with | [_], _ => rfl) (fun vs H Q E h => ?_) (fun cdv A outer s H vs Q E hr h => ?_)
  · obtain ⟨G, ρ, k, a, xs, rfl, _⟩ := h; rfl
  · refine ⟨_, (pss_cons (ps_set (i := 1) nd rfl (Or.inl rfl) (pe_makeRoom T (fun fd F => ok_Room_init T F) (hr.mono (by decide)) rfl (pa_cons (pe_tup pa_nil) pa_nil) (pk_cons (pe_fld (pv 0) rfl) pk_nil)))
      (pss_cons (ps_fld (pv 1) (pe_fld (pv 0) rfl) rfl)
      (pss_cons (ps_fld (pv 1) (pe_callTy call_list_of rfl (T.free "list") (by decide +kernel) (pa_cons (pe_fld (pv 0) rfl) pa_nil)) rfl)
      (pss_cons (ps_for PassesOwn.never rfl (pi_list (pe_fld (pv 1) rfl)) (pg_name (i := 2) nd rfl (Or.inl rfl)) (pss_one (ps_fldaug (pv 2) pe_int in_add)))
      (pss_one (ps_ret (pv 1))))))), ?_⟩
    obtain ⟨G, ρ, k, a, xs, rfl, W, hk, q⟩ := h
    obtain ⟨rs, pt, r, W, hρ, hr, rfl, rfl⟩ := W.room hk
    have mr := List.mem_of_getElem? hr
    have R := W.at_ r mr
    refine ⟨by show 0 ≤ sizeLine; decide, fun t0 ht0 => ⟨_, rfl, r.a, _, _, _, _, rfl, (Same.new ht0) _ _ R.ob, T.clR, T.na "Room" "width", rfl, rfl, rfl, ?_⟩⟩
    rintro a2 dx2 ha2 hdx2 hne
    have ha2' : H a2 = none := (Same.new ht0).free ha2
    have hdx2' : H dx2 = none := (Same.new ht0).free hdx2
    have nta : t0 ≠ a2 := by rintro rfl; rw [upd_same] at ha2; cases ha2
    have ntd : t0 ≠ dx2 := by rintro rfl; rw [upd_same] at hdx2; cases hdx2
    refine ⟨a2, dx2, t0, r.w, [], rfl, upd_same, R.w1, R.w2, by decide, .inr ⟨rfl, by rw [upd_ne nta, upd_ne ntd, upd_same]⟩, fun H3 r0 pt0 e1 e2 e3 R0 N0 s0 => ⟨rfl, ?_⟩⟩
    have s3 : Same H H3 := fun b o e => by
      have n1 := ne_of_none e ha2'
      exact s0 b o n1 (by rw [upd_ne n1, upd_ne (ne_of_none e hdx2'), upd_ne (ne_of_none e ht0)]; exact e)
    have ob0 := R0.ob
    rw [e1, e2, e3] at ob0
    have naa : r.a ≠ a2 := ne_of_none R.ob ha2'
    refine ⟨_, rfl, r.a, _, _, _, _, rfl, s3 _ _ R.ob, T.clR, T.na "Room" "many", rfl, _, rfl, a2, _, _, _, rfl, ob0, T.clR, T.na "Room" "many", (by show 5 < 1000; decide), ?_⟩
    refine ⟨_, rfl, r.a, _, _, _, _, rfl, (upd_ne naa).trans (s3 _ _ R.ob), T.clR, T.na "Room" "pages", rfl, r.pl, _, rfl, .inl (SqL.of ((upd_ne (ne_of_none R.ls ha2')).trans (s3 _ _ R.ls))), fun pl2 hpl2 => ?_⟩
    have npa : pl2 ≠ a2 := by rintro rfl; rw [upd_same] at hpl2; cases hpl2
    have hpl3 : H3 pl2 = none := (upd_ne npa).symm.trans hpl2
    refine ⟨_, rfl, a2, _, _, _, rfl, (upd_ne (Ne.symm npa)).trans upd_same, T.clR, T.na "Room" "pages", (by show 5 < 1000; decide), ?_⟩
    refine ⟨_, rfl, a2, _, _, _, _, rfl, upd_same, T.clR, T.na "Room" "pages", rfl, pl2, rfl, ⟨r.pgs.map V.ref, SqL.of ((upd_ne npa).trans upd_same)⟩, ?_⟩
    have hp3 : ∀ p ∈ r.pgs, H3 p = some (.ins (CPage K) (pt p).dx (pf (pt p).kl (pt p).h)) ∧ p ≠ a2 ∧ p ≠ pl2 := fun p hp => by
      have e := s3 _ _ (R.pg p hp).1
      exact ⟨e, ne_of_none (R.pg p hp).1 ha2', ne_of_none e hpl3⟩
    refine for_it walk_list (fun i σ H' => (∃ z, σ = [some (.ref r.a), some (.ref a2), z]) ∧ (∀ p ∈ r.pgs.take i, H' p = some (.ins (CPage K) (pt p).dx (pf (pt p).kl ((pt p).h + 1)))) ∧ (∀ b, b ∉ r.pgs.take i → b ≠ a2 → b ≠ pl2 → H' b = H3 b) ∧
      H' a2 = some (.ins (CRoom K) r0.dx (rf r.xs.length r.w pl2 r0.cp)) ∧ H' pl2 = some (.lst (r.pgs.map V.ref))) ⟨⟨none, rfl⟩, (fun _ h => by simp at h), fun b _ n1 n2 => ?_, upd_same, ?_⟩ (fun i σ H' _ p => SqL.of p.2.2.2.2) ?_ ?_
    · rw [upd_ne n1, upd_ne n2, upd_ne n1]
    · rw [upd_ne npa, upd_same]
    · rintro i y σ H9 H4 hi ⟨⟨z, rfl⟩, i1, i2, i3, i4⟩ ⟨rfl, hy⟩
      obtain ⟨p, hp, rfl⟩ := map_at hy
      have mp := List.mem_of_getElem? hp
      obtain ⟨g1, g2, g3⟩ := hp3 p mp
      have nt : p ∉ r.pgs.take i := fun hm => by
        obtain ⟨j, hj⟩ := List.getElem?_of_mem hm
        rw [List.getElem?_take] at hj
        split at hj
        · obtain ⟨l1, q1⟩ := List.getElem?_eq_some_iff.mp hp
          obtain ⟨l2, q2⟩ := List.getElem?_eq_some_iff.mp hj
          have := (List.getElem_inj R.nd).mp (q2.trans q1.symm)
          omega
        · cases hj
      have e4 := (i2 p nt g2 g3).trans g1
      refine ⟨_, rfl, p, _, _, _, _, rfl, e4, T.clP, T.na "Page" "holders", rfl, _, _, rfl, rfl, _, _, e4, (by show 2 < 1000; decide), ⟨_, rfl⟩, fun c hc => ?_, fun b hb n1 n2 => ?_, ?_, ?_⟩
      · rw [take_snoc hp] at hc
        rcases mem_app hc with h1 | h1
        · have nc : c ≠ p := fun e => nt (by rw [← e]; exact h1)
          rw [upd_ne nc]; exact i1 c h1
        · rw [h1]; exact upd_same
      · rw [take_snoc hp] at hb
        have nb : b ≠ p := fun e => hb (by rw [e]; simp)
        rw [upd_ne nb]; exact i2 b (fun hm => hb (List.mem_append_left _ hm)) n1 n2
      · rw [upd_ne (Ne.symm g2)]; exact i3
      · rw [upd_ne (Ne.symm g3)]; exact i4
    · rintro σ H4 ⟨⟨z, rfl⟩, i1, i2, i3, i4⟩
      rw [List.length_map, List.take_length] at i1 i2
      refine ⟨_, rfl, q a2 H4 ha2' ⟨_, _, W.twin hr (dx2 := r0.dx) (pl2 := pl2) (cp2 := r0.cp) ha2' (s3.free hpl3) i1 i3 i4 fun b o e hb => ?_, ?_⟩⟩
      · rw [i2 b hb (ne_of_none e ha2') (ne_of_none (s3 _ _ e) hpl3)]; exact s3 _ _ e
      · rw [hρ, List.map_append]; rfl
    
end
end Vg

namespace Vg
open PySem PySem.Spec PyProof.Rows L2 RZ RT
/-! ### views -/
/-- what a place adds -/
def dot (ps ss : List Int) : Int := ((ps.zip ss).map fun q => q.1 * q.2).sum
theorem dot_nil (ss : List Int) : dot [] ss = 0 := by unfold dot; simp
theorem dot_cons (p s : Int) (ps ss : List Int) : dot (p :: ps) (s :: ss) = p * s + dot ps ss := by unfold dot; simp
theorem dot_snoc : ∀ {ps ss : List Int} {k s : Int}, ss[ps.length]? = some s → dot (ps ++ [k]) ss = dot ps ss + k * s
  | [], s' :: ss, k, s, h => by simp at h; subst h; rw [List.nil_append, dot_cons, dot_nil, dot_nil]; omega
  | p :: ps, s' :: ss, k, s, h => by
    rw [List.cons_append, dot_cons, dot_cons, dot_snoc (ps := ps) (ss := ss) (by simpa using h)]; omega
  | [], [], _, _, h => by simp at h
  | _ :: _, [], _, _, h => by simp at h
/-- the cells in the places' order -/
def cellsOf (ls : List Int) (b : Int) (ss : List Int) : List Int := (places ls).map fun p => b + dot p ss
/-- the bounds of strides -/
def StrB (ss : List Int) : Prop := ∀ s ∈ ss, -1000 ≤ s ∧ s ≤ 1000
theorem map_stepP (f : List (List Int)) (n : Int) (g : List Int → Int) : (stepP f n).map g = f.flatMap fun p => (List.range n.toNat).map fun (k : Nat) => g (p ++ [(k : Int)]) := by
  unfold stepP
  rw [List.map_flatMap]
  congr 1; funext p
  rw [List.map_map]; rfl
theorem folded_len_of {ns : List Int} {p : List Int} (h : p ∈ ns.foldl stepP [[]]) : p.length = ns.length := by
  obtain ⟨q, hq, r, rfl, hr⟩ := mem_folded.mp h
  rw [List.mem_singleton.mp hq, List.nil_append]; exact hr.len
section
variable {P : Program} {w : World} {K : PySem.W.Frag} {mg : Str → Option Value} {base : Heap}
def sp_vet_strides : Sp := fun vs H Q _ => ∃ v ss, vs = [v, .int (ss.length : Nat)] ∧ IT H v ss ∧ (∀ s ∈ ss, -600 ≤ s ∧ s ≤ 600) ∧ ∀ H', Same H H' → Q .non H'
abbrev N_vet_strides : List Str := ["thing", "many", "spot", "step"]
theorem sc_vet_strides : FnScope N_vet_strides ["thing", "many"] (defScope s_vet_strides) := ⟨rfl, rfl, rfl, by decide +kernel, rfl, by decide +kernel, by decide +kernel⟩
theorem ok_vet_strides (T : Txt K mg) : GF P w K mg base 2 "vet_strides" ["thing", "many"] sp_vet_strides := by
  have nd := sc_vet_strides.nd
  refine gf_of T (d := d_vet_strides) (x := "vet_strides") rfl rfl rfl (i := 15) rfl (by decide +kernel) sc_vet_strides (fun _ _ _ _ _ _ us hl => match us, hl with | [_, _], _ => rfl) (fun vs H Q E h => ?_) (fun cdv A outer s H vs Q E hr h => ?_)
  · obtain ⟨v, ss, rfl, _⟩ := h; rfl
  · refine ⟨_, (pss_cons (ps_if (pt_not (pt_val (pe_callB call_isB rfl (T.free "isinstance") (by decide +kernel) (pa_cons (pv 0) (pa_cons (pe_bltn (v := .ty "tuple") (u := .type "tuple") rfl (T.free "tuple") (by decide +kernel) rfl) pa_nil))))) (pss_one ps_never) pss_nil)
      (pss_cons (ps_for PassesOwn.never rfl (pi_enumT rfl (T.free "enumerate") (pa_cons (pv 0) pa_nil)) (pg_tup rfl (pgs_cons (pg_name (i := 2) nd rfl (Or.inl rfl)) (pgs_cons (pg_name (i := 3) nd rfl (Or.inl rfl)) pgs_nil))) (pss_one (ps_if (PW.pt (pw_or (pt_not (pt_val (pe_callG (ok_is_whole T) (hr.mono (by decide)) rfl (pa_cons (pv 3) pa_nil)))) (pw_or1 (pt_not (pt_chain op_le op_le (pe_un un_neg (pe_int_glob rfl T.i_MOST_STRIDE)) (pv 3) (pe_int_glob rfl T.i_MOST_STRIDE)))))) (pss_one ps_never) pss_nil)))
      (pss_one (ps_if (pt_cmpR op_ne (pe_callB call_len_seq rfl (T.free "len") boot_len (pa_cons (pv 0) pa_nil)) (pv 1) (nomark _)) (pss_one ps_never) pss_nil)))), ?_⟩
    obtain ⟨v, ss, rfl, ⟨a, rfl, ha⟩, hb, q⟩ := h
    refine ⟨_, rfl, _, _, _, true, rfl, .tup ha, by decide +kernel, true, rfl, iteF ?_⟩
    refine ⟨_, rfl, a, _, rfl, SqT.of ha, for_it walk_enumT (fun i σ H' => Same H H' ∧ ∃ y z, σ = [some (.ref a), some (.int (ss.length : Nat)), y, z]) ⟨Same.refl H, none, none, rfl⟩ (fun i σ H' _ p => SqT.of (p.1 _ _ ha)) ?_ ?_⟩
    · rintro i y σ H1 H2 hi ⟨s1, y', z', rfl⟩ ⟨t, x1, x2, rfl, hn, rfl, e1, e2⟩
      cases e1
      obtain ⟨n, hn', rfl⟩ := map_at e2
      have := hb n (List.mem_of_getElem? hn')
      refine ⟨t, _, rfl, SqT.of upd_same, rfl, _, _, rfl, _, _, rfl, rfl, ?_⟩
      refine ⟨_, rfl, n, rfl, true, rfl, iteF ⟨_, rfl, _, rfl, _, _, rfl, rfl, true, ?_, iteT ⟨_, _, rfl, rfl, true, ?_, iteF ?_⟩⟩⟩
      · show V.bl (decide (-600 ≤ n)) = _
        rw [decide_eq_true (by omega)]
      · show V.bl (decide (n ≤ 600)) = _
        rw [decide_eq_true (by omega)]
      · exact ⟨s1.trans (Same.new hn), _, _, rfl⟩
    · rintro σ H1 ⟨s1, y', z', rfl⟩
      refine ⟨_, rfl, a, _, rfl, .inr (SqT.of (s1 _ _ ha)), _, rfl, rfl, _, rfl, ?_⟩
      rw [List.length_map, dec_int, beq_self_eq_true]
      exact iteF (q _ s1)
end
section
variable {P : Program} {w : World} {K : PySem.W.Frag} {mg : Str → Option Value} {base : Heap}
def sp_cells_by : Sp := fun vs H Q _ => ∃ v u ls b ss, vs = [v, .int b, u] ∧ IT H v ls ∧ IT H u ss ∧ Lens ls ∧ (prod ls = 0 ∨ (ss.length = ls.length ∧ StrB ss)) ∧ ∀ l H', H l = none → Same H H' → H' l = some (.lst ((cellsOf ls b ss).map V.int)) → Q (.ref l) H'
abbrev N_cells_by : List Str := ["lengths", "begin", "steps", "found", "length", "step", "cell", "k"]
theorem sc_cells_by : FnScope N_cells_by ["lengths", "begin", "steps"] (defScope s_cells_by) := ⟨rfl, rfl, rfl, by decide +kernel, rfl, by decide +kernel, by decide +kernel⟩
theorem ok_cells_by (T : Txt K mg) : GF P w K mg base 2 "cells_by" ["lengths", "begin", "steps"] sp_cells_by := by
  have nd := sc_cells_by.nd
  refine gf_of T (d := d_cells_by) (x := "cells_by") rfl rfl rfl (i := 16) rfl (by decide +kernel) sc_cells_by (fun _ _ _ _ _ _ us hl => match us, hl with | [_, _, _], _ => rfl) (fun vs H Q E h => ?_) (fun cdv A outer s H vs Q E hr h => ?_)
  · obtain ⟨v, u, ls, b, ss, rfl, _⟩ := h; rfl
  · refine ⟨_, (pss_cons (ps_if (pt_cmpR op_eq (pe_callG (ok_size_of T) (hr.mono (by decide)) rfl (pa_cons (pv 0) pa_nil)) pe_int (nomark _)) (pss_one (ps_ret (pe_lst pa_nil))) pss_nil)
      (pss_cons (ps_set (i := 3) nd rfl (Or.inl rfl) (pe_lst (pa_cons (pv 1) pa_nil)))
      (pss_cons (ps_for PassesOwn.never rfl (pi_zipA rfl (T.free "zip") (pa_cons (pv 0) (pa_cons (pv 2) pa_nil))) (pg_tup rfl (pgs_cons (pg_name (i := 4) nd rfl (Or.inr rfl)) (pgs_cons (pg_name (i := 5) nd rfl (Or.inr rfl)) pgs_nil))) (pss_one (ps_setLc2 (i := 3) (own := [("cell", 6), ("k", 7)]) (vs1 := [7]) (g := (gName 6)) (g1 := (gName 7)) (tt := tYes) (tt1 := tYes) rfl nd rfl rfl (sw_true rfl rfl rfl (by decide +kernel)) (pi_list (pv 3)) (blkOk_by (N := N_cells_by) (sc := defScope s_cells_by) (by decide +kernel)) (by decide) (fun _ _ _ _ _ => (pg_name (i := 6) nd rfl (Or.inl rfl))) (fun _ _ _ _ _ => pts_nil) (fun _ _ _ _ _ => (pi_range1 rfl (T.free "range") (pa_cons (pv 4) pa_nil))) (fun _ _ _ _ _ => (pg_name (i := 7) nd rfl (Or.inl rfl))) (fun _ _ _ _ _ => pts_nil) (fun _ _ _ _ _ => (pe_op op_add (pv 6) (pe_op op_mul (pv 5) (pv 7)))))))
      (pss_one (ps_ret (pv 3)))))), ?_⟩
    obtain ⟨v, u, ns, b, ss, rfl, ⟨a, rfl, ha⟩, ⟨c, rfl, hc⟩, hL, hs, q⟩ := h
    refine ⟨_, rfl, _, ns, rfl, ⟨a, rfl, ha⟩, hL.rng, rfl, _, rfl, ?_⟩
    rw [dec_int]
    by_cases h0 : prod ns = 0
    · rw [h0]
      refine iteT ⟨by show 0 ≤ sizeLine; decide, fun l hl => q l _ hl (Same.new hl) ?_⟩
      rw [upd_same]; unfold cellsOf places; rw [if_pos h0]; rfl
    rw [beq_eq_false_iff_ne.mpr h0]
    obtain ⟨hlen, hb⟩ := hs.resolve_left h0
    refine iteF ⟨_, rfl, by show 1 ≤ sizeLine; decide, fun l hl => ?_⟩
    refine ⟨_, rfl, _, rfl, a, c, _, _, rfl, .inr ⟨SqT.of ((Same.new hl) _ _ ha), SqT.of ((Same.new hl) _ _ hc), for_it (walk_zipT (n := ns.length) (by simp [hlen])) (fun i σ H' => Same H H' ∧ ∃ l y z, σ = [some (.ref a), some (.int b), some (.ref c), some (.ref l), y, z, none, none] ∧ H l = none ∧ H' l = some (.lst ((((ns.take i).foldl stepP [[]]).map fun p => b + dot p ss).map V.int)))
      ⟨Same.new hl, l, none, none, rfl, hl, by rw [upd_same]; show _ = some (HO.lst [V.int (b + dot [] ss)]); rw [dot_nil, Int.add_zero]⟩ (fun i σ H' _ p => ⟨SqT.of (p.1 _ _ ha), SqT.of (p.1 _ _ hc)⟩) ?_ ?_⟩⟩
    · rintro i y σ H9 H1 hi ⟨s0, l1, y', z', rfl, hl1, e1⟩ ⟨t, x1, x2, rfl, hn, rfl, g1, g2⟩
      obtain ⟨n, hn', rfl⟩ := map_at g1
      obtain ⟨st, hst, rfl⟩ := map_at g2
      have hrn := len_in hL.rng hn'
      have hbs := hb st (List.mem_of_getElem? hst)
      refine ⟨t, _, rfl, SqT.of upd_same, rfl, _, _, rfl, _, _, rfl, rfl, ?_⟩
      have s1 := s0.trans (Same.new (o := .tup [V.int n, V.int st]) hn)
      have e1' := (Same.new (o := .tup [V.int n, V.int st]) hn) _ _ e1
      generalize upd H9 t (.tup [V.int n, V.int st]) = H1 at s1 e1'
      have hlen2 := part_length hL h0 (i + 1)
      have es : (ns.take (i + 1)).foldl stepP [[]] = stepP ((ns.take i).foldl stepP [[]]) n := by rw [take_snoc hn', List.foldl_append]; rfl
      rw [es] at hlen2
      have hpl : ∀ p ∈ (ns.take i).foldl stepP [[]], p.length = i := fun p hp => by rw [folded_len_of hp, List.length_take]; exact Nat.min_eq_left (by omega)
      refine ⟨_, rfl, l1, rfl, ⟨_, SqL.of e1'⟩, fun D hD => ?_⟩
      generalize hcur : (ns.take i).foldl stepP [[]] = cur at *
      refine lc2_it walk_list (fun j H2 => Same H1 H2 ∧ ∃ acc, H2 D = some (.lst acc) ∧ Paired (IntR H2) acc ((cur.take j).flatMap fun p => (List.range n.toNat).map fun (k : Nat) => b + dot (p ++ [(k : Int)]) ss))
        ⟨Same.new hD, [], upd_same, .nil⟩ (fun j H2 _ p => SqL.of (p.1 _ _ e1')) ?_ ?_
      · rintro j x H8 H2 hj ⟨s2, acc, e2, p2⟩ ⟨rfl, hx⟩
        obtain ⟨w0, hw, rfl⟩ := map_at hx
        rw [List.getElem?_map] at hw
        cases hp : cur[j]? with
        | none => rw [hp] at hw; cases hw
        | some p =>
        rw [hp] at hw
        obtain rfl := (Option.some.inj hw).symm
        have hpe : p.length = i := hpl p (List.mem_of_getElem? hp)
        have hplen : ((cur.take j).flatMap fun p => (List.range n.toNat).map fun (k : Nat) => b + dot (p ++ [(k : Int)]) ss).length + n.toNat ≤ 600 := by
          have h3 : (stepP (cur.take (j + 1)) n).length ≤ (stepP cur n).length := by
            rw [stepP_length, stepP_length]
            exact Nat.mul_le_mul_right _ (List.length_take_le' ..)
          have e4 := map_stepP (cur.take (j + 1)) n fun p => b + dot p ss
          have e5 : (stepP (cur.take (j + 1)) n).length = _ := (List.length_map (f := fun p => b + dot p ss)).symm.trans (congrArg List.length e4)
          rw [flatMap_take _ hp, List.length_append, List.length_map, List.length_range] at e5
          omega
        refine ⟨rfl, _, rfl, n, rfl, by omega, by omega, lc2_in walk_range (R := IntR) (K := K) (H0 := H1) (pre := (cur.take j).flatMap fun p => (List.range n.toNat).map fun (k : Nat) => b + dot (p ++ [(k : Int)]) ss) mon_int (fun (k : Nat) => b + dot (p ++ [(k : Int)]) ss) (by omega) hD s2 e2 p2 (fun _ _ _ => trivial) ?_ ?_⟩
        · rintro k x H4 H5 Kk hk s4 ⟨rfl, rfl⟩ kk
          refine ⟨rfl, _, rfl, _, rfl, _, rfl, _, _, rfl, rfl, .inl (by omega), _, _, rfl, rfl, kk _ _ (Same.refl _) ?_⟩
          rw [dot_snoc (by rw [hpe]; exact hst)]
          show V.int _ = V.int _
          congr 1
          rw [Int.zero_add, Int.mul_comm st, Int.add_assoc]
        · intro H4 acc4 s4 e4 p4
          refine ⟨s4, acc4, e4, ?_⟩
          rw [flatMap_take _ hp]; exact p4
      · rintro H2 ⟨s2, acc, e2, p2⟩
        refine ⟨s1.trans s2, D, some (.int n), some (.int st), rfl, s1.free hD, ?_⟩
        rw [es, map_stepP, e2]
        rw [List.take_of_length_le (by simp)] at p2
        rw [Paired.ints p2]
    · rintro σ H1 ⟨s1, l1, y', z', rfl, hl1, e1⟩
      refine ⟨_, rfl, q l1 H1 hl1 s1 ?_⟩
      rw [e1, List.take_of_length_le (Nat.le_refl _)]
      unfold cellsOf places; rw [if_neg h0]
end
section
variable {P : Program} {w : World} {K : PySem.W.Frag} {mg : Str → Option Value} {base : Heap}
def sp_vet_cells : Sp := fun vs H Q _ => ∃ v u ls b ss, ∃ m : Int, vs = [.int m, v, .int b, u] ∧ IT H v ls ∧ IT H u ss ∧ Lens ls ∧ (prod ls = 0 ∨ (ss.length = ls.length ∧ StrB ss)) ∧ (∀ c ∈ cellsOf ls b ss, 0 ≤ c ∧ c < m) ∧ ∀ H', Same H H' → Q .non H'
abbrev N_vet_cells : List Str := ["many", "lengths", "begin", "steps", "place", "cell"]
theorem sc_vet_cells : FnScope N_vet_cells ["many", "lengths", "begin", "steps"] (defScope s_vet_cells) := ⟨rfl, rfl, rfl, by decide +kernel, rfl, by decide +kernel, by decide +kernel⟩
theorem ok_vet_cells (T : Txt K mg) : GF P w K mg base 3 "vet_cells" ["many", "lengths", "begin", "steps"] sp_vet_cells := by
  have nd := sc_vet_cells.nd
  refine gf_of T (d := d_vet_cells) (x := "vet_cells") rfl rfl rfl (i := 17) rfl (by decide +kernel) sc_vet_cells (fun _ _ _ _ _ _ us hl => match us, hl with | [_, _, _, _], _ => rfl) (fun vs H Q E h => ?_) (fun cdv A outer s H vs Q E hr h => ?_)
  · obtain ⟨v, u, ls, b, ss, m, rfl, _⟩ := h; rfl
  · refine ⟨_, (pss_one (ps_for PassesOwn.never rfl (pi_zipA rfl (T.free "zip") (pa_cons (pe_callG (ok_places_of T) (hr.mono (by decide)) rfl (pa_cons (pv 1) pa_nil)) (pa_cons (pe_callG (ok_cells_by T) (hr.mono (by decide)) rfl (pa_cons (pv 1) (pa_cons (pv 2) (pa_cons (pv 3) pa_nil)))) pa_nil))) (pg_tup rfl (pgs_cons (pg_name (i := 4) nd rfl (Or.inl rfl)) (pgs_cons (pg_name (i := 5) nd rfl (Or.inl rfl)) pgs_nil))) (pss_one (ps_if (pt_not (pt_chain op_le op_lt pe_int (pv 5) (pv 0))) (pss_one ps_never) pss_nil)))), ?_⟩
    obtain ⟨v, u, ns, b, ss, m, rfl, hv, hu, hL, hs, hc, q⟩ := h
    refine ⟨_, rfl, _, ns, rfl, hv, hL, fun l1 H1 ys f1 s1 e1 p1 => ?_⟩
    refine ⟨_, rfl, _, rfl, _, rfl, _, _, ns, b, ss, rfl, mon_it.up (K := K) (.of s1) hv, mon_it.up (K := K) (.of s1) hu, hL, hs, fun l2 H2 f2 s2 e2 => ?_⟩
    have hlen : ys.length = (cellsOf ns b ss).length := by rw [Paired.len p1]; unfold cellsOf; rw [List.length_map]
    refine ⟨l1, l2, _, _, rfl, .inl ⟨SqL.of (s2 _ _ e1), SqL.of e2, for_it (walk_zip (n := ys.length) (by simp [hlen])) (fun i σ H' => Same H2 H' ∧ ∃ y z w, σ = [some (.int m), some v, some (.int b), some w, y, z]) ⟨Same.refl _, none, none, _, rfl⟩ (fun i σ H' _ p => ⟨SqL.of (p.1 _ _ (s2 _ _ e1)), SqL.of (p.1 _ _ e2)⟩) ?_ ?_⟩⟩
    · rintro i y σ H3 H4 hi ⟨s3, y', z', w', rfl⟩ ⟨t, x1, x2, rfl, hn, rfl, g1, g2⟩
      obtain ⟨c, hc', rfl⟩ := map_at g2
      have := hc c (List.mem_of_getElem? hc')
      refine ⟨t, _, rfl, SqT.of upd_same, rfl, _, _, rfl, _, _, rfl, rfl, ?_⟩
      refine ⟨_, rfl, _, _, rfl, rfl, true, ?_, iteT ⟨_, rfl, _, _, rfl, rfl, true, ?_, iteF ⟨s3.trans (Same.new hn), _, _, _, rfl⟩⟩⟩
      · show V.bl (decide (0 ≤ c)) = _
        rw [decide_eq_true (by omega)]
      · show V.bl (decide (c < m)) = _
        rw [decide_eq_true (by omega)]
    · rintro σ H3 ⟨s3, y', z', w', rfl⟩
      exact q _ ((s1.trans s2).trans s3)
    
end
end Vg

namespace Vg
open PySem PySem.Spec PyProof.Rows L2 RZ RT
abbrev vf (rm la : Addr) (b : Int) (sa : Addr) : List (Str × V) := [("held", .ref rm), ("lengths", .ref la), ("begin", .int b), ("steps", .ref sa)]
abbrev vf1 (rm : Addr) : List (Str × V) := [("held", .ref rm)]
/-- what a view is told to keep -/
def tb (ls : List Int) (b : Int) : Int := if prod ls = 0 then 0 else b
def tst (ls ss : List Int) : List Int := if prod ls = 0 then ls.map (fun _ => 0) else (ls.zip ss).map fun q => if q.1 = 1 then 0 else q.2
theorem zip_getD {α β γ : Type} (f : α × β → γ) (a0 : α) (b0 : β) : ∀ (xs : List α) (ys : List β), xs.length = ys.length → (List.range xs.length).map (fun i => f (xs.getD i a0, ys.getD i b0)) = (xs.zip ys).map f := fun xs ys h => by
  refine List.ext_getElem (by simp [h]) fun i h1 h2 => ?_
  have g1 : i < xs.length := by simpa using h1
  have g2 : i < ys.length := by omega
  simp [List.getD_eq_getElem?_getD, List.getElem?_eq_getElem g1, List.getElem?_eq_getElem g2]
theorem rep_ints : ∀ n : Nat, (List.replicate n [V.int 0]).flatten = (List.replicate n (0 : Int)).map V.int
  | 0 => rfl
  | n + 1 => by rw [List.replicate_succ, List.flatten_cons, rep_ints n, List.replicate_succ]; rfl
theorem getD_at {α : Type} {xs : List α} {i : Nat} {x d : α} (h : xs[i]? = some x) : xs.getD i d = x := by rw [List.getD_eq_getElem?_getD, h]; rfl
section
variable {P : Program} {w : World} {K : PySem.W.Frag} {mg : Str → Option Value} {base : Heap}
def sp_View_tell (K : PySem.W.Frag) : Sp := fun vs H Q _ => ∃ (a dx rm : Addr) (fs : List (Str × V)) (v u : V) (ls ss : List Int) (b : Int), vs = [.ref a, v, .int b, u] ∧ H a = some (.ins (CView K) dx fs) ∧ (fs = vf1 rm ∨ ∃ la b sa, fs = vf rm la b sa) ∧
  IT H v ls ∧ IT H u ss ∧ Lens ls ∧ (prod ls = 0 ∨ ss.length = ls.length) ∧
  ∀ H' la sa, H' a = some (.ins (CView K) dx (vf rm la (tb ls b) sa)) → H' la = some (.tup (ls.map V.int)) → H' sa = some (.tup ((tst ls ss).map V.int)) → (∀ c o, c ≠ a → H c = some o → H' c = some o) → Q .non H'
abbrev N_View_tell : List Str := ["self", "lengths", "begin", "steps", "length", "step"]
theorem sc_View_tell : FnScope N_View_tell ["self", "lengths", "begin", "steps"] (defScope s_View_tell) := ⟨rfl, rfl, rfl, by decide +kernel, rfl, by decide +kernel, by decide +kernel⟩
theorem ok_View_tell (T : Txt K mg) : GM P w K mg base 2 (CView K) "tell" ["self", "lengths", "begin", "steps"] (sp_View_tell K) := by
  have nd := sc_View_tell.nd
  refine gm_of T (d := d_View_tell) (x := "View") (m := "tell") rfl rfl rfl T.clV (i := 19) rfl (by decide +kernel) sc_View_tell (fun _ _ _ _ _ _ us hl => match us, hl with | [_, _, _, _], _ => rfl) (fun vs H Q E h => ?_) (fun cdv A outer s H vs Q E hr h => ?_)
  · obtain ⟨a, dx, rm, fs, v, u, ls, ss, b, rfl, _⟩ := h; rfl
  · refine ⟨_, (pss_cons (ps_fld (pv 0) (pv 1) rfl)
      (pss_one (ps_if (pt_cmpR op_eq (pe_callG (ok_size_of T) (hr.mono (by decide)) rfl (pa_cons (pv 1) pa_nil)) pe_int (nomark _)) (pss_cons (ps_fld (pv 0) pe_int rfl)
      (pss_one (ps_fld (pv 0) (pe_op op_repT1 (pe_tup (pa_cons pe_int pa_nil)) (pe_callB call_len_seq rfl (T.free "len") boot_len (pa_cons (pv 1) pa_nil))) rfl))) (pss_cons (ps_fld (pv 0) (pv 2) rfl)
      (pss_one (ps_fld (pv 0) (pe_callTy call_tuple_of rfl (T.free "tuple") (by decide +kernel) (pa_cons (pe_lc (own := [("length", 4), ("step", 5)]) (g := (gTup K 2 (gCons (gName 4) (gCons (gName 5) gNil)))) (tt := tYes) rfl nd (pi_zipA rfl (T.free "zip") (pa_cons (pv 1) (pa_cons (pv 3) pa_nil))) (blkOk_by (N := N_View_tell) (sc := defScope s_View_tell) (by decide +kernel)) (fun _ _ _ _ _ => (pg_tup rfl (pgs_cons (pg_name (i := 4) nd rfl (Or.inl rfl)) (pgs_cons (pg_name (i := 5) nd rfl (Or.inl rfl)) pgs_nil)))) (fun _ _ _ _ _ => pts_nil) (fun _ _ _ _ _ => (pe_ifExp (pt_cmpR op_eq (pv 4) pe_int (nomark _)) pe_int (pv 5)))) pa_nil)) rfl)))))), ?_⟩
    obtain ⟨a, dx, rm, fs, v, u, ls, ss, b, rfl, ha, hfs, ⟨la, rfl, hla⟩, ⟨sa, rfl, hsa⟩, hL, hs, q⟩ := h
    have hput : fs.length < 1000 ∧ ∀ (x y z : V), (putF "lengths" x fs).length < 1000 ∧ (putF "begin" y (putF "lengths" x fs)).length < 1000 ∧ putF "steps" z (putF "begin" y (putF "lengths" x fs)) = ([("held", .ref rm), ("lengths", x), ("begin", y), ("steps", z)] : List (Str × V)) := by
      rcases hfs with rfl | ⟨l, b, s, rfl⟩
      · exact ⟨by show 1 < 1000; decide, fun x y z => ⟨by show 2 < 1000; decide, by show 3 < 1000; decide, rfl⟩⟩
      · exact ⟨by show 4 < 1000; decide, fun x y z => ⟨by show 4 < 1000; decide, by show 4 < 1000; decide, rfl⟩⟩
    obtain ⟨p1, p2⟩ := hput
    have nla : la ≠ a := fun e => by rw [e, ha] at hla; cases hla
    have nsa : sa ≠ a := fun e => by rw [e, ha] at hsa; cases hsa
    refine ⟨_, rfl, _, rfl, a, _, dx, _, rfl, ha, T.clV, T.na "View" "lengths", p1, ?_⟩
    refine ⟨_, rfl, _, ls, rfl, ⟨la, rfl, (upd_ne nla).trans hla⟩, hL.rng, rfl, _, rfl, ?_⟩
    rw [dec_int]
    by_cases h0 : prod ls = 0
    · rw [h0]
      refine iteT ⟨_, rfl, a, _, dx, _, rfl, upd_same, T.clV, T.na "View" "begin", (p2 (.ref la) (.int 0) .non).1, ?_⟩
      have htn : tst ls ss = List.replicate ls.length 0 := by unfold tst; rw [if_pos h0]; exact List.map_const' ..
      have htb : tb ls b = 0 := by unfold tb; rw [if_pos h0]
      refine ⟨by show 1 ≤ sizeLine; decide, fun t ht => ⟨_, rfl, la, _, rfl, .inr (SqT.of (by rw [upd_ne (ne_of_none ((upd_ne nla).trans ((upd_ne nla).trans hla)) ht), upd_ne nla, upd_ne nla]; exact hla)), ?_⟩⟩
      have nta : t ≠ a := by rintro rfl; rw [upd_same] at ht; cases ht
      have fr : H t = none := by rw [upd_ne nta, upd_ne nta] at ht; exact ht
      have hkeep : ∀ c o, c ≠ a → H c = some o → (upd (upd (upd H a (.ins (CView K) dx (putF "lengths" (.ref la) fs))) a (.ins (CView K) dx (putF "begin" (.int 0) (putF "lengths" (.ref la) fs)))) t (.tup [V.int 0])) c = some o := fun c o n e => by
        rw [upd_ne (ne_of_none e fr), upd_ne n, upd_ne n]; exact e
      have hat : (upd (upd (upd H a (.ins (CView K) dx (putF "lengths" (.ref la) fs))) a (.ins (CView K) dx (putF "begin" (.int 0) (putF "lengths" (.ref la) fs)))) t (.tup [V.int 0])) a = some (.ins (CView K) dx (putF "begin" (.int 0) (putF "lengths" (.ref la) fs))) := by
        rw [upd_ne (Ne.symm nta), upd_same]
      have hl0 : 1 ≤ ls.length := by
        cases ls with
        | nil => exact absurd h0 (by decide)
        | cons _ _ => simp
      have hf := hL.few
      by_cases h1 : ls.length = 1
      · refine .inr ⟨t, _, rfl, by rw [List.length_map, h1]; rfl, SqT.of upd_same, _, rfl, a, _, dx, _, rfl, hat, T.clV, T.na "View" "steps", (p2 (.ref la) (.int 0) .non).2.1, ?_⟩
        rw [(p2 _ _ _).2.2]
        refine q _ la t ?_ ?_ ?_ fun c o n e => by rw [upd_ne n]; exact hkeep c o n e
        · rw [upd_same, htb]
        · rw [upd_ne nla]; exact hkeep _ _ nla hla
        · rw [upd_ne nta, upd_same, htn, h1]; rfl
      · refine .inl ⟨t, _, _, rfl, rfl, SqT.of upd_same, (fun h => nomatch h), by rw [List.length_map]; omega, by rw [List.length_map]; omega, by decide, fun r hr => ?_⟩
        have nra : r ≠ a := by rintro rfl; rw [hat] at hr; cases hr
        refine ⟨_, rfl, a, _, dx, _, rfl, (upd_ne (Ne.symm nra)).trans hat, T.clV, T.na "View" "steps", (p2 (.ref la) (.int 0) .non).2.1, ?_⟩
        rw [(p2 _ _ _).2.2]
        have hk : ∀ c o, c ≠ a → H c = some o → c ≠ r := fun c o n e => ne_of_none (hkeep c o n e) hr
        refine q _ la r ?_ ?_ ?_ fun c o n e => by rw [upd_ne n, upd_ne (hk c o n e)]; exact hkeep c o n e
        · rw [upd_same, htb]
        · rw [upd_ne nla, upd_ne (hk _ _ nla hla)]; exact hkeep _ _ nla hla
        · rw [upd_ne nra, upd_same, htn, rep_ints, List.length_map, Int.toNat_natCast]
    · rw [beq_eq_false_iff_ne.mpr h0]
      have hlen := hs.resolve_left h0
      have htb : tb ls b = b := by unfold tb; rw [if_neg h0]
      refine iteF ⟨_, rfl, _, rfl, a, _, dx, _, rfl, upd_same, T.clV, T.na "View" "begin", (p2 (.ref la) (.int b) .non).1, ?_⟩
      have hk0 : ∀ c o, c ≠ a → H c = some o → (upd (upd H a (.ins (CView K) dx (putF "lengths" (.ref la) fs))) a (.ins (CView K) dx (putF "begin" (.int b) (putF "lengths" (.ref la) fs)))) c = some o := fun c o n e => by
        rw [upd_ne n, upd_ne n]; exact e
      have ha0 : (upd (upd H a (.ins (CView K) dx (putF "lengths" (.ref la) fs))) a (.ins (CView K) dx (putF "begin" (.int b) (putF "lengths" (.ref la) fs)))) a = some (.ins (CView K) dx (putF "begin" (.int b) (putF "lengths" (.ref la) fs))) := upd_same
      refine ⟨_, rfl, _, rfl, la, sa, _, _, rfl, .inr ⟨SqT.of (hk0 _ _ nla hla), SqT.of (hk0 _ _ nsa hsa), fun D hD => ?_⟩⟩
      refine lc_map (K := K) (R := IntR) (walk_zipT (n := ls.length) (by simp [hlen])) mon_int (fun i => if ls.getD i 0 = 1 then 0 else ss.getD i 0) (by have := hL.few; omega) hD (fun H' s' => ⟨SqT.of (s' _ _ (hk0 _ _ nla hla)), SqT.of (s' _ _ (hk0 _ _ nsa hsa))⟩) ?_ ?_
      · rintro i x H2 H3 Kk hi s2 ⟨t, x1, x2, rfl, hn, rfl, e1, e2⟩ kk
        obtain ⟨n, hn', rfl⟩ := map_at e1
        obtain ⟨st, hst, rfl⟩ := map_at e2
        refine ⟨t, _, rfl, SqT.of upd_same, rfl, _, _, rfl, _, _, rfl, rfl, rfl, ?_⟩
        refine ⟨_, rfl, rfl, _, rfl, ?_⟩
        rw [dec_int]
        have g1 := getD_at (d := 0) hn'
        have g2 := getD_at (d := 0) hst
        by_cases c : n = 1
        · rw [c]; exact iteT (kk _ _ (Same.new hn) (by show V.int 0 = V.int _; rw [g1, if_pos c]))
        · rw [beq_eq_false_iff_ne.mpr c]; exact iteF ⟨_, rfl, kk _ _ (Same.new hn) (by show V.int st = V.int _; rw [g1, if_neg c, g2])⟩
      · intro H2 acc s2 e2 p2'
        have ea := Paired.ints p2'
        refine ⟨D, acc, rfl, .inl ⟨SqL.of e2, fun r hr => ?_⟩⟩
        have hz : (List.range ls.length).map (fun i => if ls.getD i 0 = 1 then 0 else ss.getD i 0) = tst ls ss := by
          unfold tst; rw [if_neg h0]
          exact zip_getD (fun q : Int × Int => if q.1 = 1 then 0 else q.2) 0 0 ls ss hlen.symm
        have ha2 := s2 _ _ ha0
        have nra : r ≠ a := by rintro rfl; rw [ha2] at hr; cases hr
        refine ⟨_, rfl, a, _, dx, _, rfl, (upd_ne (Ne.symm nra)).trans ha2, T.clV, T.na "View" "steps", (p2 (.ref la) (.int b) .non).2.1, ?_⟩
        rw [(p2 _ _ _).2.2]
        have hk : ∀ c o, c ≠ a → H c = some o → c ≠ r := fun c o n e => ne_of_none (s2 _ _ (hk0 c o n e)) hr
        refine q _ la r ?_ ?_ ?_ fun c o n e => by rw [upd_ne n, upd_ne (hk c o n e)]; exact s2 _ _ (hk0 c o n e)
        · rw [upd_same, htb]
        · rw [upd_ne nla, upd_ne (hk _ _ nla hla)]; exact s2 _ _ (hk0 _ _ nla hla)
        · rw [upd_ne nra, upd_same, ea, hz]
    
end
end Vg

namespace Vg
open PySem PySem.Spec PyProof.Rows L2 RZ RT
structure VW where
  room : Addr
  ls : List Int
  b : Int
  ss : List Int
def VwR (K : PySem.W.Frag) : Rep VW := fun H v x => ∃ a dx la sa, v = .ref a ∧ H a = some (.ins (CView K) dx (vf x.room la x.b sa)) ∧ H la = some (.tup (x.ls.map V.int)) ∧ H sa = some (.tup (x.ss.map V.int))
theorem mon_vw {K : PySem.W.Frag} : Mon K (VwR K) := ⟨fun k ⟨a, dx, la, sa, e, h1, h2, h3⟩ => ⟨a, dx, la, sa, e, k.vw _ _ _ h1, k.tup _ _ h2, k.tup _ _ h3⟩⟩
structure VOK (x : VW) : Prop where
  lens : Lens x.ls
  len : x.ss.length = x.ls.length
  str : ∀ s ∈ x.ss, -600 ≤ s ∧ s ≤ 600
  bg : -10000 ≤ x.b ∧ x.b ≤ 10000
  tb : tb x.ls x.b = x.b
  ts : tst x.ls x.ss = x.ss
theorem VOK.strB {x : VW} (h : VOK x) : StrB x.ss := fun s hs => by have := h.str s hs; omega
theorem tb_tb (ls : List Int) (b : Int) : tb ls (tb ls b) = tb ls b := by unfold tb; split <;> rfl
theorem tst_len {ls ss : List Int} (h : prod ls = 0 ∨ ss.length = ls.length) : (tst ls ss).length = ls.length := by
  unfold tst
  by_cases h0 : prod ls = 0
  · rw [if_pos h0, List.length_map]
  · rw [if_neg h0, List.length_map, List.length_zip, h.resolve_left h0, Nat.min_self]
theorem zip_told : ∀ (ls ss : List Int), ((ls.zip ((ls.zip ss).map fun q => if q.1 = 1 then 0 else q.2)).map fun q => if q.1 = 1 then 0 else q.2) = (ls.zip ss).map fun q => if q.1 = 1 then 0 else q.2
  | [], _ => rfl
  | _ :: _, [] => rfl
  | n :: ls, s :: ss => by
    simp only [List.zip_cons_cons, List.map_cons, zip_told ls ss]
    congr 1
    split <;> rfl
theorem tst_tst (ls ss : List Int) : tst ls (tst ls ss) = tst ls ss := by
  unfold tst
  by_cases h0 : prod ls = 0
  · rw [if_pos h0, if_pos h0]
  · simp only [if_neg h0]; exact zip_told ls ss
theorem mem_tst {ls ss : List Int} {s : Int} (h : s ∈ tst ls ss) : s = 0 ∨ s ∈ ss := by
  unfold tst at h
  split at h
  · obtain ⟨_, _, rfl⟩ := List.mem_map.mp h; exact .inl rfl
  · obtain ⟨⟨n, t⟩, hq, rfl⟩ := List.mem_map.mp h
    show (if n = 1 then (0 : Int) else t) = 0 ∨ _
    split
    · exact .inl rfl
    · exact .inr (List.of_mem_zip hq).2
theorem vok_of {rm : Addr} {ls ss : List Int} {b : Int} (hL : Lens ls) (h : prod ls = 0 ∨ ss.length = ls.length) (hs : prod ls = 0 ∨ ∀ s ∈ ss, -600 ≤ s ∧ s ≤ 600) (hb : -10000 ≤ b ∧ b ≤ 10000) : VOK ⟨rm, ls, tb ls b, tst ls ss⟩ := by
  refine ⟨hL, tst_len h, fun s m => ?_, ?_, tb_tb _ _, tst_tst _ _⟩
  · rcases hs with h0 | hs
    · have m' : s ∈ tst ls ss := m
      unfold tst at m'
      rw [if_pos h0] at m'
      obtain ⟨_, _, rfl⟩ := List.mem_map.mp m'; omega
    · rcases mem_tst m with rfl | m
      · omega
      · exact hs s m
  · show -10000 ≤ tb ls b ∧ tb ls b ≤ 10000
    unfold tb; split <;> omega
section
variable {P : Program} {w : World} {K : PySem.W.Frag} {mg : Str → Option Value} {base : Heap}
def sp_View_init (K : PySem.W.Frag) : Sp := fun vs H Q _ => ∃ (x dx rm dr pl : Addr) (n : Nat) (w cp : Int) (v sv : V) (ls ss : List Int) (b : Int), vs = [.ref x, .ref rm, v, .int b, sv] ∧ H x = some (.ins (CView K) dx []) ∧ H rm = some (.ins (CRoom K) dr (rf n w pl cp)) ∧ n ≤ 700 ∧
  IT H v ls ∧ Lens ls ∧ ((sv = .non ∧ prod ls = 0) ∨ (IT H sv ss ∧ ss.length = ls.length ∧ (∀ s ∈ ss, -600 ≤ s ∧ s ≤ 600) ∧ ∀ c ∈ cellsOf ls b ss, 0 ≤ c ∧ c < (n : Int))) ∧
  ∀ H' la sa, H' x = some (.ins (CView K) dx (vf rm la (tb ls b) sa)) → H' la = some (.tup (ls.map V.int)) → (∃ ss', (ss' = tst ls ss ∨ (sv = .non ∧ ss'.length = ls.length)) ∧ H' sa = some (.tup (ss'.map V.int))) → (∀ c o, c ≠ x → H c = some o → H' c = some o) → Q .non H'
abbrev N_View_init : List Str := ["self", "room", "sides", "first", "strides", "lengths", "steps"]
theorem sc_View_init : FnScope N_View_init ["self", "room", "sides", "first", "strides"] (defScope s_View_init) := ⟨rfl, rfl, rfl, by decide +kernel, rfl, by decide +kernel, by decide +kernel⟩
theorem ok_View_init (T : Txt K mg) {fd : FuncData} (F : FunD K d_View_init.name d_View_init.qual d_View_init.params d_View_init.body d_View_init.scope (d_View_init.dvs K) (d_View_init.kws K) (He.fAd K d_View_init.at_) fd) : FnOk P w K mg base CX0 4 (He.fAd K d_View_init.at_) fd ["self", "room", "sides", "first", "strides"] (sp_View_init K) := by
  have nd := sc_View_init.nd
  refine F.ok sc_View_init (fun vs H Q E h => ?_) (fun cdv A outer s H vs Q E hr h => ?_)
  · obtain ⟨x, dx, rm, dr, pl, n, w, cp, v, sv, ls, ss, b, rfl, _⟩ := h; rfl
  · refine nox_of ?_
    refine ⟨_, (pss_cons (ps_set (i := 5) nd rfl (Or.inl rfl) (pv 2))
      (pss_cons (ps_if (pt_cmpR op_isN (pv 2) pe_non (nomark _)) (pss_one (ps_set (i := 5) nd rfl (Or.inl rfl) (pe_tup (pa_cons (pe_callB (call_lenRoom T (hr.mono (by decide))) rfl (T.free "len") boot_len (pa_cons (pv 1) pa_nil)) pa_nil)))) (pss_one (ps_expr (pe_callG (ok_vet_sides T) (hr.mono (by decide)) rfl (pa_cons (pv 2) pa_nil)))))
      (pss_cons (ps_set (i := 6) nd rfl (Or.inl rfl) (pv 4))
      (pss_cons (ps_if (pt_cmpR op_isN (pv 4) pe_non (nomark _)) (pss_one (ps_set (i := 6) nd rfl (Or.inl rfl) (pe_callG (ok_dense_strides T) (hr.mono (by decide)) rfl (pa_cons (pv 5) pa_nil)))) (pss_one (ps_expr (pe_callG (ok_vet_strides T) (hr.mono (by decide)) rfl (pa_cons (pv 4) (pa_cons (pe_callB call_len_seq rfl (T.free "len") boot_len (pa_cons (pv 5) pa_nil)) pa_nil))))))
      (pss_cons (ps_expr (pe_callG (ok_vet_cells T) (hr.mono (by decide)) rfl (pa_cons (pe_callB (call_lenRoom T (hr.mono (by decide))) rfl (T.free "len") boot_len (pa_cons (pv 1) pa_nil)) (pa_cons (pv 5) (pa_cons (pv 3) (pa_cons (pv 6) pa_nil))))))
      (pss_cons (ps_fld (pv 0) (pv 1) rfl)
      (pss_one (ps_expr (pe_methG (ok_View_tell T) (hr.mono (by decide)) (pv 0) (pa_cons (pv 5) (pa_cons (pv 3) (pa_cons (pv 6) pa_nil)))))))))))), ?_⟩
    obtain ⟨x, dx, rm, dr, pl, n, w, cp, v, sv, ls, ss, b, rfl, hx, hrm, hn, hv, hL, hsv, q⟩ := h
    obtain ⟨la, rfl, hla⟩ := hv
    refine ⟨_, rfl, _, rfl, rfl, false, rfl, iteF ⟨_, rfl, _, ls, rfl, ⟨la, rfl, hla⟩, hL, fun H1 s1 => ?_⟩⟩
    have hl1 := s1 _ _ hla
    refine ⟨_, rfl, ?_⟩
    rcases hsv with ⟨rfl, h0⟩ | ⟨⟨sa, rfl, hsa⟩, hlen, hb, hc⟩
    · refine ⟨_, rfl, rfl, true, rfl, iteT ⟨_, rfl, _, ls, rfl, ⟨la, rfl, hl1⟩, hL, fun u ms H2 s2 hm hu => ?_⟩⟩
      have s02 := s1.trans s2
      refine ⟨_, rfl, rm, dr, pl, n, w, cp, rfl, s02 _ _ hrm, by omega, _, rfl, _, rfl, _, rfl, _, _, ls, b, ms, n, rfl, ⟨la, rfl, s02 _ _ hla⟩, hu, hL, .inl h0, ?_, fun H3 s3 => ?_⟩
      · unfold cellsOf places; rw [if_pos h0]; exact fun _ h => nomatch h
      · have s03 := s02.trans s3
        refine ⟨_, rfl, _, rfl, x, _, dx, _, rfl, s03 _ _ hx, T.clV, T.na "View" "held", by decide, ?_⟩
        have nx : ∀ c o, c ≠ x → H3 c = some o → (upd H3 x (.ins (CView K) dx (putF "held" (.ref rm) []))) c = some o := fun c o n e => (upd_ne n).trans e
        have nlx : la ≠ x := fun e => by rw [e, hx] at hla; cases hla
        obtain ⟨ua, rfl, hua⟩ := mon_it.up (K := K) (.of s3) hu
        have nux : ua ≠ x := fun e => by rw [e, s03 _ _ hx] at hua; cases hua
        refine ⟨_, rfl, x, dx, _, rfl, upd_same, rfl, _, rfl, _, rfl, _, rfl, x, dx, rm, _, _, _, ls, ms, b, rfl, upd_same, .inl rfl, ⟨la, rfl, nx _ _ nlx (s03 _ _ hla)⟩, ⟨ua, rfl, nx _ _ nux hua⟩, hL, .inl h0, fun H' la' sa' g1 g2 g3 g4 => ?_⟩
        exact q H' la' sa' g1 g2 ⟨_, .inr ⟨rfl, tst_len (.inl h0)⟩, g3⟩ fun c o n e => g4 c o n (nx c o n (s03 _ _ e))
    · refine ⟨_, rfl, rfl, false, rfl, iteF ⟨_, rfl, _, rfl, la, _, rfl, .inr (SqT.of hl1), _, ss, by rw [List.length_map, hlen]; rfl, ⟨sa, rfl, s1 _ _ hsa⟩, hb, fun H2 s2 => ?_⟩⟩
      have s02 := s1.trans s2
      have hB : StrB ss := fun s hs => by have := hb s hs; omega
      refine ⟨_, rfl, rm, dr, pl, n, w, cp, rfl, s02 _ _ hrm, by omega, _, rfl, _, rfl, _, rfl, _, _, ls, b, ss, n, rfl, ⟨la, rfl, s02 _ _ hla⟩, ⟨sa, rfl, s02 _ _ hsa⟩, hL, .inr ⟨hlen, hB⟩, hc, fun H3 s3 => ?_⟩
      have s03 := s02.trans s3
      refine ⟨_, rfl, _, rfl, x, _, dx, _, rfl, s03 _ _ hx, T.clV, T.na "View" "held", by decide, ?_⟩
      have nx : ∀ c o, c ≠ x → H3 c = some o → (upd H3 x (.ins (CView K) dx (putF "held" (.ref rm) []))) c = some o := fun c o n e => (upd_ne n).trans e
      have nlx : la ≠ x := fun e => by rw [e, hx] at hla; cases hla
      have nux : sa ≠ x := fun e => by rw [e, hx] at hsa; cases hsa
      refine ⟨_, rfl, x, dx, _, rfl, upd_same, rfl, _, rfl, _, rfl, _, rfl, x, dx, rm, _, _, _, ls, ss, b, rfl, upd_same, .inl rfl, ⟨la, rfl, nx _ _ nlx (s03 _ _ hla)⟩, ⟨sa, rfl, nx _ _ nux (s03 _ _ hsa)⟩, hL, .inr hlen, fun H' la' sa' g1 g2 g3 g4 => ?_⟩
      exact q H' la' sa' g1 g2 ⟨_, .inl rfl, g3⟩ fun c o n e => g4 c o n (nx c o n (s03 _ _ e))
end
section
variable {P : Program} {w : World} {K : PySem.W.Frag} {mg : Str → Option Value} {base : Heap}
def sp_View_room (K : PySem.W.Frag) : Sp := fun vs H Q _ => ∃ v x, vs = [v] ∧ VwR K H v x ∧ Q (.ref x.room) H
abbrev N_View_room : List Str := ["self"]
theorem sc_View_room : FnScope N_View_room ["self"] (defScope s_View_room) := ⟨rfl, rfl, rfl, by decide +kernel, rfl, by decide +kernel, by decide +kernel⟩
theorem ok_View_room (T : Txt K mg) : GM P w K mg base 1 (CView K) "room" ["self"] (sp_View_room K) := by
  have nd := sc_View_room.nd
  refine gm_of T (d := d_View_room) (x := "View") (m := "room") rfl rfl rfl T.clV (i := 20) rfl (by decide +kernel) sc_View_room (fun _ _ _ _ _ _ us hl => match us, hl with | [_], _ => rfl) (fun vs H Q E h => ?_) (fun cdv A outer s H vs Q E hr h => ?_)
  · obtain ⟨v, x, rfl, _⟩ := h; rfl
  · refine ⟨_, (pss_one (ps_ret (pe_fld (pv 0) rfl))), ?_⟩
    obtain ⟨v, x, rfl, ⟨a, dx, la, sa, rfl, h1, h2, h3⟩, q⟩ := h
    exact ⟨_, rfl, a, _, dx, _, _, rfl, h1, T.clV, T.na "View" "held", rfl, q⟩
end
section
variable {P : Program} {w : World} {K : PySem.W.Frag} {mg : Str → Option Value} {base : Heap}
def sp_View_sides (K : PySem.W.Frag) : Sp := fun vs H Q _ => ∃ v x, vs = [v] ∧ VwR K H v x ∧ ∀ la, H la = some (.tup (x.ls.map V.int)) → Q (.ref la) H
abbrev N_View_sides : List Str := ["self"]
theorem sc_View_sides : FnScope N_View_sides ["self"] (defScope s_View_sides) := ⟨rfl, rfl, rfl, by decide +kernel, rfl, by decide +kernel, by decide +kernel⟩
theorem ok_View_sides (T : Txt K mg) : GM P w K mg base 1 (CView K) "sides" ["self"] (sp_View_sides K) := by
  have nd := sc_View_sides.nd
  refine gm_of T (d := d_View_sides) (x := "View") (m := "sides") rfl rfl rfl T.clV (i := 21) rfl (by decide +kernel) sc_View_sides (fun _ _ _ _ _ _ us hl => match us, hl with | [_], _ => rfl) (fun vs H Q E h => ?_) (fun cdv A outer s H vs Q E hr h => ?_)
  · obtain ⟨v, x, rfl, _⟩ := h; rfl
  · refine ⟨_, (pss_one (ps_ret (pe_fld (pv 0) rfl))), ?_⟩
    obtain ⟨v, x, rfl, ⟨a, dx, la, sa, rfl, h1, h2, h3⟩, q⟩ := h
    exact ⟨_, rfl, a, _, dx, _, _, rfl, h1, T.clV, T.na "View" "lengths", rfl, q _ h2⟩
end
section
variable {P : Program} {w : World} {K : PySem.W.Frag} {mg : Str → Option Value} {base : Heap}
def sp_View_first (K : PySem.W.Frag) : Sp := fun vs H Q _ => ∃ v x, vs = [v] ∧ VwR K H v x ∧ Q (.int x.b) H
abbrev N_View_first : List Str := ["self"]
theorem sc_View_first : FnScope N_View_first ["self"] (defScope s_View_first) := ⟨rfl, rfl, rfl, by decide +kernel, rfl, by decide +kernel, by decide +kernel⟩
theorem ok_View_first (T : Txt K mg) : GM P w K mg base 1 (CView K) "first" ["self"] (sp_View_first K) := by
  have nd := sc_View_first.nd
  refine gm_of T (d := d_View_first) (x := "View") (m := "first") rfl rfl rfl T.clV (i := 22) rfl (by decide +kernel) sc_View_first (fun _ _ _ _ _ _ us hl => match us, hl with | [_], _ => rfl) (fun vs H Q E h => ?_) (fun cdv A outer s H vs Q E hr h => ?_)
  · obtain ⟨v, x, rfl, _⟩ := h; rfl
  · refine ⟨_, (pss_one (ps_ret (pe_fld (pv 0) rfl))), ?_⟩
    obtain ⟨v, x, rfl, ⟨a, dx, la, sa, rfl, h1, h2, h3⟩, q⟩ := h
    exact ⟨_, rfl, a, _, dx, _, _, rfl, h1, T.clV, T.na "View" "begin", rfl, q⟩
end
section
variable {P : Program} {w : World} {K : PySem.W.Frag} {mg : Str → Option Value} {base : Heap}
def sp_View_strides (K : PySem.W.Frag) : Sp := fun vs H Q _ => ∃ v x, vs = [v] ∧ VwR K H v x ∧ ∀ sa, H sa = some (.tup (x.ss.map V.int)) → Q (.ref sa) H
abbrev N_View_strides : List Str := ["self"]
theorem sc_View_strides : FnScope N_View_strides ["self"] (defScope s_View_strides) := ⟨rfl, rfl, rfl, by decide +kernel, rfl, by decide +kernel, by decide +kernel⟩
theorem ok_View_strides (T : Txt K mg) : GM P w K mg base 1 (CView K) "strides" ["self"] (sp_View_strides K) := by
  have nd := sc_View_strides.nd
  refine gm_of T (d := d_View_strides) (x := "View") (m := "strides") rfl rfl rfl T.clV (i := 23) rfl (by decide +kernel) sc_View_strides (fun _ _ _ _ _ _ us hl => match us, hl with | [_], _ => rfl) (fun vs H Q E h => ?_) (fun cdv A outer s H vs Q E hr h => ?_)
  · obtain ⟨v, x, rfl, _⟩ := h; rfl
  · refine ⟨_, (pss_one (ps_ret (pe_fld (pv 0) rfl))), ?_⟩
    obtain ⟨v, x, rfl, ⟨a, dx, la, sa, rfl, h1, h2, h3⟩, q⟩ := h
    exact ⟨_, rfl, a, _, dx, _, _, rfl, h1, T.clV, T.na "View" "steps", rfl, q _ h3⟩
end
section
variable {P : Program} {w : World} {K : PySem.W.Frag} {mg : Str → Option Value} {base : Heap}
def sp_View_cells (K : PySem.W.Frag) : Sp := fun vs H Q _ => ∃ v x, vs = [v] ∧ VwR K H v x ∧ VOK x ∧ ∀ l H', H l = none → Same H H' → H' l = some (.lst ((cellsOf x.ls x.b x.ss).map V.int)) → Q (.ref l) H'
abbrev N_View_cells : List Str := ["self"]
theorem sc_View_cells : FnScope N_View_cells ["self"] (defScope s_View_cells) := ⟨rfl, rfl, rfl, by decide +kernel, rfl, by decide +kernel, by decide +kernel⟩
theorem ok_View_cells (T : Txt K mg) : GM P w K mg base 3 (CView K) "cells" ["self"] (sp_View_cells K) := by
  have nd := sc_View_cells.nd
  refine gm_of T (d := d_View_cells) (x := "View") (m := "cells") rfl rfl rfl T.clV (i := 24) rfl (by decide +kernel) sc_View_cells (fun _ _ _ _ _ _ us hl => match us, hl with | [_], _ => rfl) (fun vs H Q E h => ?_) (fun cdv A outer s H vs Q E hr h => ?_)
  · obtain ⟨v, x, rfl, _⟩ := h; rfl
  · refine ⟨_, (pss_one (ps_ret (pe_callG (ok_cells_by T) (hr.mono (by decide)) rfl (pa_cons (pe_fld (pv 0) rfl) (pa_cons (pe_fld (pv 0) rfl) (pa_cons (pe_fld (pv 0) rfl) pa_nil)))))), ?_⟩
    obtain ⟨v, x, rfl, ⟨a, dx, la, sa, rfl, h1, h2, h3⟩, hO, q⟩ := h
    exact ⟨_, rfl, a, _, dx, _, _, rfl, h1, T.clV, T.na "View" "lengths", rfl, _, rfl, a, _, dx, _, _, rfl, h1, T.clV, T.na "View" "begin", rfl, _, rfl, a, _, dx, _, _, rfl, h1, T.clV, T.na "View" "steps", rfl, _, _, x.ls, x.b, x.ss, rfl, ⟨la, rfl, h2⟩, ⟨sa, rfl, h3⟩, hO.lens, .inr ⟨hO.len, hO.strB⟩, fun l H' f s e => q l H' f s e⟩
    
end
end Vg

namespace Vg
open PySem PySem.Spec PyProof.Rows L2 RZ RT
theorem dot_range {ps ss : List Int} (h : ss.length = ps.length) : (((List.range ps.length).map fun i => ps.getD i 0 * ss.getD i 0)).sum = dot ps ss := by
  unfold dot
  rw [← zip_getD (fun q : Int × Int => q.1 * q.2) 0 0 ps ss h.symm]
section
variable {P : Program} {w : World} {K : PySem.W.Frag} {mg : Str → Option Value} {base : Heap}
def sp_View_cell (K : PySem.W.Frag) : Sp := fun vs H Q _ => ∃ v x u ps, vs = [v, u] ∧ VwR K H v x ∧ VOK x ∧ IT H u ps ∧ InP x.ls ps ∧ ∀ H', Same H H' → Q (.int (x.b + dot ps x.ss)) H'
abbrev N_View_cell : List Str := ["self", "place", "whole", "k", "step"]
theorem sc_View_cell : FnScope N_View_cell ["self", "place"] (defScope s_View_cell) := ⟨rfl, rfl, rfl, by decide +kernel, rfl, by decide +kernel, by decide +kernel⟩
theorem ok_View_cell (T : Txt K mg) : GM P w K mg base 3 (CView K) "cell" ["self", "place"] (sp_View_cell K) := by
  have nd := sc_View_cell.nd
  refine gm_of T (d := d_View_cell) (x := "View") (m := "cell") rfl rfl rfl T.clV (i := 25) rfl (by decide +kernel) sc_View_cell (fun _ _ _ _ _ _ us hl => match us, hl with | [_, _], _ => rfl) (fun vs H Q E h => ?_) (fun cdv A outer s H vs Q E hr h => ?_)
  · obtain ⟨v, x, u, ps, rfl, _⟩ := h; rfl
  · refine ⟨_, (pss_cons (ps_set (i := 2) nd rfl (Or.inl rfl) (pe_callG (ok_whole_place T) (hr.mono (by decide)) rfl (pa_cons (pe_fld (pv 0) rfl) (pa_cons (pv 1) pa_nil))))
      (pss_one (ps_ret (pe_op op_add (pe_fld (pv 0) rfl) (pe_callB (cr_sum rfl) rfl (T.free "sum") (by decide +kernel) (pa_cons (pe_lc (own := [("k", 3), ("step", 4)]) (g := (gTup K 2 (gCons (gName 3) (gCons (gName 4) gNil)))) (tt := tYes) rfl nd (pi_zipA rfl (T.free "zip") (pa_cons (pv 2) (pa_cons (pe_fld (pv 0) rfl) pa_nil))) (blkOk_by (N := N_View_cell) (sc := defScope s_View_cell) (by decide +kernel)) (fun _ _ _ _ _ => (pg_tup rfl (pgs_cons (pg_name (i := 3) nd rfl (Or.inl rfl)) (pgs_cons (pg_name (i := 4) nd rfl (Or.inl rfl)) pgs_nil)))) (fun _ _ _ _ _ => pts_nil) (fun _ _ _ _ _ => (pe_op op_mul (pv 3) (pv 4)))) pa_nil)))))), ?_⟩
    obtain ⟨v, x, u, ps, rfl, ⟨a, dx, la, sa, rfl, h1, h2, h3⟩, hO, hu, hin, q⟩ := h
    have hlen := hin.len
    have hrng := hO.lens.rng
    have hfew := hO.lens.few
    refine ⟨_, rfl, a, _, dx, _, _, rfl, h1, T.clV, T.na "View" "lengths", rfl, _, rfl, _, _, x.ls, ps, rfl, ⟨la, rfl, h2⟩, hu, hrng, hfew, hin, fun w H1 s1 hw => ?_⟩
    obtain ⟨wa, rfl, hwa⟩ := hw
    refine ⟨_, rfl, a, _, dx, _, _, rfl, s1 _ _ h1, T.clV, T.na "View" "begin", rfl, _, rfl, _, rfl, a, _, dx, _, _, rfl, s1 _ _ h1, T.clV, T.na "View" "steps", rfl, wa, sa, _, _, rfl, .inr ⟨SqT.of hwa, SqT.of (s1 _ _ h3), fun D hD => ?_⟩⟩
    refine lc_map (K := K) (R := IntR) (walk_zipT (n := ps.length) (by simp [hlen, hO.len])) mon_int (fun i => ps.getD i 0 * x.ss.getD i 0) (by omega) hD (fun H' s' => ⟨SqT.of (s' _ _ hwa), SqT.of (s' _ _ (s1 _ _ h3))⟩) ?_ ?_
    · rintro i y H2 H3 Kk hi s2 ⟨t, x1, x2, rfl, hn, rfl, e1, e2⟩ kk
      obtain ⟨p, hp, rfl⟩ := map_at e1
      obtain ⟨st, hst, rfl⟩ := map_at e2
      have hs := hO.str st (List.mem_of_getElem? hst)
      refine ⟨t, _, rfl, SqT.of upd_same, rfl, _, _, rfl, _, _, rfl, rfl, rfl, ?_⟩
      refine ⟨_, rfl, _, rfl, _, _, rfl, rfl, .inr (by omega), kk _ _ (Same.new hn) ?_⟩
      show V.int (p * st) = V.int _
      rw [getD_at (d := 0) hp, getD_at (d := 0) hst]
    · intro H2 acc s2 e2 p2
      have ea := Paired.ints p2
      rw [ea] at e2
      refine ⟨D, _, rfl, SqL.of e2, _, _, rfl, rfl, ?_⟩
      rw [dot_range (by rw [hO.len, hlen])]
      exact q _ (s1.trans s2)
end
section
variable {P : Program} {w : World} {K : PySem.W.Frag} {mg : Str → Option Value} {base : Heap}
def sp_View_at (K : PySem.W.Frag) : Sp := fun vs H Q _ => ∃ (G : Hp) (ρ : List (Addr × List Int)) (k i : Nat) (v u : V) (x : VW) (ps xs : List Int) (y : Int), vs = [v, u] ∧ VwR K H v x ∧ VOK x ∧ IT H u ps ∧ InP x.ls ps ∧ Rooms K G H ρ ∧ ρ[k]? = some (x.room, xs) ∧ x.b + dot ps x.ss = (i : Nat) ∧ xs[i]? = some y ∧
  ∀ H', Same H H' → Q (.int y) H'
abbrev N_View_at : List Str := ["self", "place"]
theorem sc_View_at : FnScope N_View_at ["self", "place"] (defScope s_View_at) := ⟨rfl, rfl, rfl, by decide +kernel, rfl, by decide +kernel, by decide +kernel⟩
theorem ok_View_at (T : Txt K mg) : GM P w K mg base 4 (CView K) "at" ["self", "place"] (sp_View_at K) := by
  have nd := sc_View_at.nd
  refine gm_of T (d := d_View_at) (x := "View") (m := "at") rfl rfl rfl T.clV (i := 26) rfl (by decide +kernel) sc_View_at (fun _ _ _ _ _ _ us hl => match us, hl with | [_, _], _ => rfl) (fun vs H Q E h => ?_) (fun cdv A outer s H vs Q E hr h => ?_)
  · obtain ⟨G, ρ, k, i, v, u, x, ps, xs, y, rfl, _⟩ := h; rfl
  · refine ⟨_, (pss_one (ps_ret (pe_methG (ok_Room_read T) (hr.mono (by decide)) (pe_fld (pv 0) rfl) (pa_cons (pe_methG (ok_View_cell T) (hr.mono (by decide)) (pv 0) (pa_cons (pv 1) pa_nil)) pa_nil)))), ?_⟩
    obtain ⟨G, ρ, k, i, v, u, x, ps, xs, y, rfl, hV, hO, hu, hin, W, hk, hi, hy, q⟩ := h
    have hV' := hV
    obtain ⟨a, dx, la, sa, rfl, h1, h2, h3⟩ := hV'
    obtain ⟨rs, pt, r, RWw, _, hr, er, rfl⟩ := W.room hk
    have R := RWw.at_ r (List.mem_of_getElem? hr)
    have ob := R.ob
    rw [er] at ob
    refine ⟨_, rfl, a, _, dx, _, _, rfl, h1, T.clV, T.na "View" "held", rfl, x.room, r.dx, _, rfl, ob, rfl, _, rfl, a, dx, _, rfl, h1, rfl, _, rfl, _, x, _, ps, rfl, hV, hO, hu, hin, fun H1 s1 => ?_⟩
    exact ⟨r, pt, i, y, by rw [hi, er]; rfl, R.same s1, hy, q _ s1⟩
end
section
variable {P : Program} {w : World} {K : PySem.W.Frag} {mg : Str → Option Value} {base : Heap}
def sp_View_put (K : PySem.W.Frag) : Sp := fun vs H Q _ => ∃ (G : Hp) (ρ : List (Addr × List Int)) (k i : Nat) (v u : V) (x : VW) (ps xs : List Int) (n : Int), vs = [v, u, .int n] ∧ VwR K H v x ∧ VOK x ∧ IT H u ps ∧ InP x.ls ps ∧ Rooms K G H ρ ∧ ρ[k]? = some (x.room, xs) ∧ x.b + dot ps x.ss = (i : Nat) ∧ i < xs.length ∧
  ∀ H', Rooms K G H' (ρ.set k (x.room, xs.set i n)) → Q .non H'
abbrev N_View_put : List Str := ["self", "place", "number"]
theorem sc_View_put : FnScope N_View_put ["self", "place", "number"] (defScope s_View_put) := ⟨rfl, rfl, rfl, by decide +kernel, rfl, by decide +kernel, by decide +kernel⟩
theorem ok_View_put (T : Txt K mg) : GM P w K mg base 5 (CView K) "put" ["self", "place", "number"] (sp_View_put K) := by
  have nd := sc_View_put.nd
  refine gm_of T (d := d_View_put) (x := "View") (m := "put") rfl rfl rfl T.clV (i := 27) rfl (by decide +kernel) sc_View_put (fun _ _ _ _ _ _ us hl => match us, hl with | [_, _, _], _ => rfl) (fun vs H Q E h => ?_) (fun cdv A outer s H vs Q E hr h => ?_)
  · obtain ⟨G, ρ, k, i, v, u, x, ps, xs, n, rfl, _⟩ := h; rfl
  · refine ⟨_, (pss_one (ps_expr (pe_methG (ok_Room_write T) (hr.mono (by decide)) (pe_fld (pv 0) rfl) (pa_cons (pe_methG (ok_View_cell T) (hr.mono (by decide)) (pv 0) (pa_cons (pv 1) pa_nil)) (pa_cons (pv 2) pa_nil))))), ?_⟩
    obtain ⟨G, ρ, k, i, v, u, x, ps, xs, n, rfl, hV, hO, hu, hin, W, hk, hi, hy, q⟩ := h
    have hV' := hV
    obtain ⟨a, dx, la, sa, rfl, h1, h2, h3⟩ := hV'
    obtain ⟨dr, pl, w, cp, hob, _⟩ := W.ins hk
    refine ⟨_, rfl, a, _, dx, _, _, rfl, h1, T.clV, T.na "View" "held", rfl, x.room, _, _, rfl, hob, rfl, _, rfl, a, dx, _, rfl, h1, rfl, _, rfl, _, x, _, ps, rfl, hV, hO, hu, hin, fun H1 s1 => ?_⟩
    exact ⟨_, rfl, G, ρ, k, i, x.room, xs, n, by rw [hi]; rfl, W.same s1, hk, hy, q⟩
end
section
variable {P : Program} {w : World} {K : PySem.W.Frag} {mg : Str → Option Value} {base : Heap}
def sp_View_numbers (K : PySem.W.Frag) : Sp := fun vs H Q _ => ∃ (G : Hp) (ρ : List (Addr × List Int)) (k : Nat) (v : V) (x : VW) (xs : List Int), vs = [v] ∧ VwR K H v x ∧ VOK x ∧ Rooms K G H ρ ∧ ρ[k]? = some (x.room, xs) ∧ (∀ c ∈ cellsOf x.ls x.b x.ss, 0 ≤ c ∧ c < (xs.length : Int)) ∧
  ∀ l H', H l = none → Same H H' → H' l = some (.lst (((cellsOf x.ls x.b x.ss).map fun c => xs.getD c.toNat 0).map V.int)) → Q (.ref l) H'
abbrev N_View_numbers : List Str := ["self", "cell"]
theorem sc_View_numbers : FnScope N_View_numbers ["self"] (defScope s_View_numbers) := ⟨rfl, rfl, rfl, by decide +kernel, rfl, by decide +kernel, by decide +kernel⟩
theorem ok_View_numbers (T : Txt K mg) : GM P w K mg base 4 (CView K) "numbers" ["self"] (sp_View_numbers K) := by
  have nd := sc_View_numbers.nd
  refine gm_of T (d := d_View_numbers) (x := "View") (m := "numbers") rfl rfl rfl T.clV (i := 28) rfl (by decide +kernel) sc_View_numbers (fun _ _ _ _ _ _ us hl => match us, hl with | [_], _ => rfl) (fun vs H Q E h => ?_) (fun cdv A outer s H vs Q E hr h => ?_)
  · obtain ⟨G, ρ, k, v, x, xs, rfl, _⟩ := h; rfl
  · refine ⟨_, (pss_one (ps_ret (pe_lc (own := [("cell", 1)]) (g := (gName 1)) (tt := tYes) rfl nd (pi_list (pe_methG0 (ok_View_cells T) (hr.mono (by decide)) (pv 0))) (blkOk_by (N := N_View_numbers) (sc := defScope s_View_numbers) (by decide +kernel)) (fun _ _ _ _ _ => (pg_name (i := 1) nd rfl (Or.inl rfl))) (fun _ _ _ _ _ => pts_nil) (fun _ _ _ _ _ => (pe_methG (ok_Room_read T) (hr.mono (by decide)) (pe_fldK K (pv 0) rfl) (pa_cons (pv 1) pa_nil)))))), ?_⟩
    obtain ⟨G, ρ, k, v, x, xs, rfl, hV, hO, W, hk, hc, q⟩ := h
    have hV' := hV
    obtain ⟨a, dx, la, sa, rfl, h1, h2, h3⟩ := hV'
    obtain ⟨rs, pt, r, RWw, _, hr, er, rfl⟩ := W.room hk
    have R := RWw.at_ r (List.mem_of_getElem? hr)
    have ob := R.ob
    rw [er] at ob
    have hcl : (cellsOf x.ls x.b x.ss).length ≤ 600 := by
      unfold cellsOf; rw [List.length_map]
      have e1 := places_length (fun n hn => (hO.lens.rng n hn).1)
      have e2 := hO.lens.sz
      omega
    refine ⟨_, rfl, a, dx, _, rfl, h1, rfl, _, x, rfl, hV, hO, fun l H1 f1 s1 e1 => ⟨l, rfl, ⟨_, SqL.of e1⟩, fun D hD => ?_⟩⟩
    refine lc_map (K := K) (R := IntR) walk_list mon_int (fun i => r.xs.getD ((cellsOf x.ls x.b x.ss).getD i 0).toNat 0) (by rw [List.length_map]; omega) hD (fun H' s' => SqL.of (s' _ _ e1)) ?_ ?_
    · rintro i y H2 H3 Kk hi s2 ⟨rfl, hy⟩ kk
      obtain ⟨c, hcc, rfl⟩ := map_at hy
      obtain ⟨c0, c1⟩ := hc c (List.mem_of_getElem? hcc)
      have s12 := s1.trans s2
      have hlt : c.toNat < r.xs.length := by omega
      refine ⟨rfl, _, rfl, a, _, dx, _, _, rfl, s12 _ _ h1, T.clV, T.na "View" "held", rfl, x.room, r.dx, _, rfl, s12 _ _ ob, rfl, _, rfl, r, pt, c.toNat, r.xs[c.toNat], ?_, R.same s12, List.getElem?_eq_getElem hlt, kk _ _ (Same.refl _) ?_⟩
      · rw [er, Int.toNat_of_nonneg c0]; rfl
      · show V.int _ = V.int _
        rw [getD_at (d := 0) hcc, getD_at (List.getElem?_eq_getElem hlt)]
    · intro H2 acc s2 e2 p2
      refine q D H2 (s1.free hD) (s1.trans s2) ?_
      rw [e2, Paired.ints p2, List.length_map]
      congr 3
      refine List.ext_getElem (by simp) fun i g1 g2 => ?_
      have g3 : i < (cellsOf x.ls x.b x.ss).length := by simpa using g1
      rw [List.getElem_map, List.getElem_map, List.getElem_range, getD_at (List.getElem?_eq_getElem g3)]
end
section
variable {P : Program} {w : World} {K : PySem.W.Frag} {mg : Str → Option Value} {base : Heap}
def sp_plain_view (K : PySem.W.Frag) : Sp := fun vs H Q _ => ∃ (rm dr pl : Addr) (n : Nat) (w cp : Int) (v u : V) (ls ss : List Int) (b : Int), vs = [.ref rm, v, .int b, u] ∧ H rm = some (.ins (CRoom K) dr (rf n w pl cp)) ∧ n ≤ 700 ∧ IT H v ls ∧ IT H u ss ∧ Lens ls ∧ (prod ls = 0 ∨ ss.length = ls.length) ∧
  ∀ z H', Same H H' → VwR K H' z ⟨rm, ls, tb ls b, tst ls ss⟩ → Q z H'
abbrev N_plain_view : List Str := ["room", "lengths", "begin", "steps", "found"]
theorem sc_plain_view : FnScope N_plain_view ["room", "lengths", "begin", "steps"] (defScope s_plain_view) := ⟨rfl, rfl, rfl, by decide +kernel, rfl, by decide +kernel, by decide +kernel⟩
theorem ok_plain_view (T : Txt K mg) : GF P w K mg base 6 "plain_view" ["room", "lengths", "begin", "steps"] (sp_plain_view K) := by
  have nd := sc_plain_view.nd
  refine gf_of T (d := d_plain_view) (x := "plain_view") rfl rfl rfl (i := 30) rfl (by decide +kernel) sc_plain_view (fun _ _ _ _ _ _ us hl => match us, hl with | [_, _, _, _], _ => rfl) (fun vs H Q E h => ?_) (fun cdv A outer s H vs Q E hr h => ?_)
  · obtain ⟨rm, dr, pl, n, w, cp, v, u, ls, ss, b, rfl, _⟩ := h; rfl
  · refine ⟨_, (pss_cons (ps_set (i := 4) nd rfl (Or.inl rfl) (pe_makeView0 T (fun fd F => ok_View_init T F) (hr.mono (by decide)) rfl (pa_cons (pv 0) (pa_cons (pe_tup (pa_cons pe_int pa_nil)) pa_nil))))
      (pss_cons (ps_expr (pe_methG (ok_View_tell T) (hr.mono (by decide)) (pv 4) (pa_cons (pv 1) (pa_cons (pv 2) (pa_cons (pv 3) pa_nil)))))
      (pss_one (ps_ret (pv 4))))), ?_⟩
    obtain ⟨rm, dr, pl, n, w, cp, v, u, ls, ss, b, rfl, hrm, hn, ⟨la, rfl, hla⟩, ⟨sa, rfl, hsa⟩, hL, hs, q⟩ := h
    refine ⟨_, rfl, by show 1 ≤ sizeLine; decide, fun t ht => ?_⟩
    rintro x dx hx hdx hne
    have nx : ∀ c o, H c = some o → c ≠ t ∧ c ≠ x ∧ c ≠ dx := fun c o e => ⟨ne_of_none e ht, ne_of_none e ((Same.new ht).free hx), ne_of_none e ((Same.new ht).free hdx)⟩
    have s2 : Same H (upd (upd (upd H t (.tup [V.int 0])) dx (.own x)) x (.ins (CView K) dx [])) := fun c o e => by
      obtain ⟨n1, n2, n3⟩ := nx c o e
      rw [upd_ne n2, upd_ne n3, upd_ne n1]; exact e
    have ntx : t ≠ x := by rintro rfl; rw [upd_same] at hx; cases hx
    have ntd : t ≠ dx := by rintro rfl; rw [upd_same] at hdx; cases hdx
    refine ⟨x, dx, rm, dr, pl, n, w, cp, .ref t, .non, [0], [], 0, rfl, upd_same, s2 _ _ hrm, hn, ⟨t, rfl, by rw [upd_ne ntx, upd_ne ntd, upd_same]; rfl⟩, ⟨by decide, by intro m hm; rw [List.mem_singleton.mp hm]; decide, by decide⟩, .inl ⟨rfl, by decide⟩, fun H3 la3 sa3 g1 g2 g3 g4 => ⟨rfl, ?_⟩⟩
    have s3 : Same H H3 := fun c o e => g4 c o (nx c o e).2.1 (s2 c o e)
    refine ⟨_, rfl, x, dx, _, rfl, g1, rfl, _, rfl, _, rfl, _, rfl, x, dx, rm, _, _, _, ls, ss, b, rfl, g1, .inr ⟨_, _, _, rfl⟩, ⟨la, rfl, s3 _ _ hla⟩, ⟨sa, rfl, s3 _ _ hsa⟩, hL, hs, fun H4 la4 sa4 k1 k2 k3 k4 => ?_⟩
    refine ⟨_, rfl, q _ H4 (fun c o e => k4 c o (nx c o e).2.1 (s3 c o e)) ⟨x, dx, la4, sa4, rfl, k1, k2, k3⟩⟩
end
section
variable {P : Program} {w : World} {K : PySem.W.Frag} {mg : Str → Option Value} {base : Heap}
def sp_View_twin (K : PySem.W.Frag) : Sp := fun vs H Q _ => ∃ (G : Hp) (ρ : List (Addr × List Int)) (k : Nat) (v : V) (x : VW) (xs : List Int), vs = [v] ∧ VwR K G v x ∧ VOK x ∧ Rooms K G H ρ ∧ ρ[k]? = some (x.room, xs) ∧
  ∀ b z H', H b = none → Rooms K G H' (ρ ++ [(b, xs)]) → VwR K H' z { x with room := b } → Q z H'
abbrev N_View_twin : List Str := ["self"]
theorem sc_View_twin : FnScope N_View_twin ["self"] (defScope s_View_twin) := ⟨rfl, rfl, rfl, by decide +kernel, rfl, by decide +kernel, by decide +kernel⟩
theorem ok_View_twin (T : Txt K mg) : GM P w K mg base 7 (CView K) "twin" ["self"] (sp_View_twin K) := by
  have nd := sc_View_twin.nd
  refine gm_of T (d := d_View_twin) (x := "View") (m := "twin") rfl rfl rfl T.clV (i := 29) rfl (by decide +kernel) sc_View_twin (fun _ _ _ _ _ _ us hl => match us, hl with | [_], _ => rfl) (fun vs H Q E h => ?_) (fun cdv A outer s H vs Q E hr h => ?_)
  · obtain ⟨G, ρ, k, v, x, xs, rfl, _⟩ := h; rfl
  · refine ⟨_, (pss_one (ps_ret (pe_callG (ok_plain_view T) (hr.mono (by decide)) rfl (pa_cons (pe_methG0 (ok_Room_twin T) (hr.mono (by decide)) (pe_fld (pv 0) rfl)) (pa_cons (pe_fld (pv 0) rfl) (pa_cons (pe_fld (pv 0) rfl) (pa_cons (pe_fld (pv 0) rfl) pa_nil))))))), ?_⟩
    obtain ⟨G, ρ, k, v, x, xs, rfl, ⟨a, dx, la, sa, rfl, h1, h2, h3⟩, hO, W, hk, q⟩ := h
    have sm := W.sm
    obtain ⟨dr, pl, w, cp, hob, _⟩ := W.ins hk
    refine ⟨_, rfl, a, _, dx, _, _, rfl, sm _ _ h1, T.clV, T.na "View" "held", rfl, x.room, _, _, rfl, hob, rfl, G, ρ, k, x.room, xs, rfl, W, hk, fun b H1 fb W1 => ?_⟩
    have sm1 := W1.sm
    have hk1 : (ρ ++ [(b, xs)])[ρ.length]? = some (b, xs) := by simp
    obtain ⟨dr1, pl1, w1, cp1, hob1, hn1⟩ := W1.ins hk1
    refine ⟨_, rfl, a, _, dx, _, _, rfl, sm1 _ _ h1, T.clV, T.na "View" "lengths", rfl, _, rfl, a, _, dx, _, _, rfl, sm1 _ _ h1, T.clV, T.na "View" "begin", rfl, _, rfl, a, _, dx, _, _, rfl, sm1 _ _ h1, T.clV, T.na "View" "steps", rfl, ?_⟩
    refine ⟨b, dr1, pl1, xs.length, w1, cp1, _, _, x.ls, x.ss, x.b, rfl, hob1, hn1, ⟨la, rfl, sm1 _ _ h2⟩, ⟨sa, rfl, sm1 _ _ h3⟩, hO.lens, .inr hO.len, fun z H2 s2 hz => ?_⟩
    rw [hO.tb, hO.ts] at hz
    exact q b z H2 fb (W1.same s2) hz
    
end
end Vg

namespace Vg
open PySem PySem.Spec PyProof.Rows L2 RZ RT
/-! ### boxes -/
def wbox (ls : List Int) : Box := ls.map fun n => (0, n)
def bareB (box : Box) : Bool := box.any fun q => decide (q.1 ≥ q.2)
def fcell (b : Int) (ss : List Int) (box : Box) : Int := b + ((box.zip ss).map fun q => q.1.1 * q.2).sum
def mnI (x : Int) : Int := if 0 < x then 0 else x
def mxI (x : Int) : Int := if 0 > x then 0 else x
def spLo (b : Int) (ss : List Int) (box : Box) : Int := fcell b ss box + ((box.zip ss).map fun q => mnI ((q.1.2 - q.1.1 - 1) * q.2)).sum
def spHi (b : Int) (ss : List Int) (box : Box) : Int := fcell b ss box + ((box.zip ss).map fun q => mxI ((q.1.2 - q.1.1 - 1) * q.2)).sum
def within (ss : List Int) (box : Box) : List Int := ((box.zip ss).filter fun q => decide (q.1.2 - q.1.1 > 1)).map fun q => q.2
/-- a box of so many sides, told by small numbers -/
structure BB (n : Nat) (box : Box) : Prop where
  len : box.length = n
  rng : ∀ q ∈ box, (0 ≤ q.1 ∧ q.1 ≤ 600) ∧ 0 ≤ q.2 ∧ q.2 ≤ 600
theorem bb_wbox {ls : List Int} (h : ∀ n ∈ ls, 0 ≤ n ∧ n ≤ 600) : BB ls.length (wbox ls) := ⟨List.length_map .., fun q hq => by
  obtain ⟨n, hn, rfl⟩ := List.mem_map.mp hq
  have := h n hn
  exact ⟨⟨by show (0 : Int) ≤ 0; omega, by show (0 : Int) ≤ 600; omega⟩, this⟩⟩
theorem wbox_range (ls : List Int) : (List.range ls.length).map (fun i => ((0 : Int), ls.getD i 0)) = wbox ls := by
  unfold wbox
  refine List.ext_getElem (by simp) fun i h1 h2 => ?_
  have g : i < ls.length := by simpa using h1
  rw [List.getElem_map, List.getElem_map, List.getElem_range, getD_at (List.getElem?_eq_getElem g)]
theorem zip_at {α β : Type} {xs : List α} {ys : List β} {i : Nat} {x : α} {y : β} (h1 : xs[i]? = some x) (h2 : ys[i]? = some y) : (xs.zip ys)[i]? = some (x, y) := by
  rw [List.getElem?_zip_eq_some]; exact ⟨h1, h2⟩
theorem mul_small {p s : Int} (h1 : -600 ≤ p ∧ p ≤ 600) (h2 : -600 ≤ s ∧ s ≤ 600) : -360000 ≤ p * s ∧ p * s ≤ 360000 := by
  have a := Int.mul_nonneg (show 0 ≤ 600 - p by omega) (show 0 ≤ 600 - s by omega)
  have b := Int.mul_nonneg (show 0 ≤ 600 + p by omega) (show 0 ≤ 600 + s by omega)
  have c := Int.mul_nonneg (show 0 ≤ 600 - p by omega) (show 0 ≤ 600 + s by omega)
  have d := Int.mul_nonneg (show 0 ≤ 600 + p by omega) (show 0 ≤ 600 - s by omega)
  rw [Int.sub_mul, Int.mul_sub] at a
  rw [Int.add_mul, Int.mul_add] at b
  rw [Int.sub_mul, Int.mul_add] at c
  rw [Int.add_mul, Int.mul_sub] at d
  rw [Int.mul_sub] at a d
  rw [Int.mul_add] at b c
  omega
section
variable {P : Program} {w : World} {K : PySem.W.Frag} {mg : Str → Option Value} {base : Heap}
def sp_whole_box (K : PySem.W.Frag) : Sp := fun vs H Q _ => ∃ v x, vs = [v] ∧ VwR K H v x ∧ x.ls.length ≤ 5 ∧ ∀ w H', Same H H' → BoxR H' w (wbox x.ls) → Q w H'
abbrev N_whole_box : List Str := ["view", "length"]
theorem sc_whole_box : FnScope N_whole_box ["view"] (defScope s_whole_box) := ⟨rfl, rfl, rfl, by decide +kernel, rfl, by decide +kernel, by decide +kernel⟩
theorem ok_whole_box (T : Txt K mg) : GF P w K mg base 2 "whole_box" ["view"] (sp_whole_box K) := by
  have nd := sc_whole_box.nd
  refine gf_of T (d := d_whole_box) (x := "whole_box") rfl rfl rfl (i := 31) rfl (by decide +kernel) sc_whole_box (fun _ _ _ _ _ _ us hl => match us, hl with | [_], _ => rfl) (fun vs H Q E h => ?_) (fun cdv A outer s H vs Q E hr h => ?_)
  · obtain ⟨v, x, rfl, _⟩ := h; rfl
  · refine ⟨_, (pss_one (ps_ret (pe_callTy call_tuple_of rfl (T.free "tuple") (by decide +kernel) (pa_cons (pe_lc (own := [("length", 1)]) (g := (gName 1)) (tt := tYes) rfl nd (pi_tup (pe_methG0 (ok_View_sides T) (hr.mono (by decide)) (pv 0))) (blkOk_by (N := N_whole_box) (sc := defScope s_whole_box) (by decide +kernel)) (fun _ _ _ _ _ => (pg_name (i := 1) nd rfl (Or.inl rfl))) (fun _ _ _ _ _ => pts_nil) (fun _ _ _ _ _ => (pe_tup (pa_cons pe_int (pa_cons (pv 1) pa_nil))))) pa_nil)))), ?_⟩
    obtain ⟨v, x, rfl, hV, hf, q⟩ := h
    obtain ⟨a, dx, la0, sa, rfl, h1, h2, h3⟩ := hV
    refine ⟨_, rfl, a, dx, _, rfl, h1, rfl, _, x, rfl, ⟨a, dx, la0, sa, rfl, h1, h2, h3⟩, fun la hla => ?_⟩
    refine ⟨la, rfl, ⟨_, SqT.of hla⟩, fun D hD => ?_⟩
    refine lc_map (K := K) (R := PairR) walk_tup mon_pair (fun i => ((0 : Int), x.ls.getD i 0)) (by rw [List.length_map]; omega) hD (fun H' s' => SqT.of (s' _ _ hla)) ?_ ?_
    · rintro i y H2 H3 Kk hi s2 ⟨rfl, hy⟩ kk
      obtain ⟨n, hn, rfl⟩ := map_at hy
      refine ⟨rfl, _, rfl, by show 2 ≤ sizeLine; decide, fun t ht => kk _ _ (Same.new ht) ⟨t, rfl, ?_⟩⟩
      show _ = some (HO.tup [.int 0, .int (x.ls.getD i 0)])
      rw [upd_same, getD_at hn]
    · intro H2 acc s2 e2 p2
      refine ⟨D, acc, rfl, .inl ⟨SqL.of e2, fun r hr => q _ _ (s2.trans (Same.new hr)) ⟨r, acc, rfl, upd_same, ?_⟩⟩⟩
      rw [List.length_map, wbox_range] at p2
      exact Paired.mapP p2 fun _ _ h => mon_pair.up (K := K) (.of (Same.new hr)) h
end
section
variable {P : Program} {w : World} {K : PySem.W.Frag} {mg : Str → Option Value} {base : Heap}
def sp_is_bare : Sp := fun vs H Q _ => ∃ v box, vs = [v] ∧ BoxR H v box ∧ box.length ≤ 5 ∧ ∀ H', Same H H' → Q (.bl (bareB box)) H'
abbrev N_is_bare : List Str := ["box", "low", "high"]
theorem sc_is_bare : FnScope N_is_bare ["box"] (defScope s_is_bare) := ⟨rfl, rfl, rfl, by decide +kernel, rfl, by decide +kernel, by decide +kernel⟩
theorem ok_is_bare (T : Txt K mg) : GF P w K mg base 1 "is_bare" ["box"] sp_is_bare := by
  have nd := sc_is_bare.nd
  refine gf_of T (d := d_is_bare) (x := "is_bare") rfl rfl rfl (i := 32) rfl (by decide +kernel) sc_is_bare (fun _ _ _ _ _ _ us hl => match us, hl with | [_], _ => rfl) (fun vs H Q E h => ?_) (fun cdv A outer s H vs Q E hr h => ?_)
  · obtain ⟨v, x, rfl, _⟩ := h; rfl
  · refine ⟨_, (pss_one (ps_ret (pe_callB (cr_any rfl) rfl (T.free "any") (by decide +kernel) (pa_cons (pe_lc (own := [("low", 1), ("high", 2)]) (g := (gTup K 2 (gCons (gName 1) (gCons (gName 2) gNil)))) (tt := tYes) rfl nd (pi_tup (pv 0)) (blkOk_by (N := N_is_bare) (sc := defScope s_is_bare) (by decide +kernel)) (fun _ _ _ _ _ => (pg_tup rfl (pgs_cons (pg_name (i := 1) nd rfl (Or.inl rfl)) (pgs_cons (pg_name (i := 2) nd rfl (Or.inl rfl)) pgs_nil)))) (fun _ _ _ _ _ => pts_nil) (fun _ _ _ _ _ => (pe_cmpR op_ge (pv 1) (pv 2) (nomark _)))) pa_nil)))), ?_⟩
    obtain ⟨v, box, rfl, ⟨a, vs, rfl, ha, hp⟩, hf, q⟩ := h
    have hlen := Paired.len hp
    refine ⟨_, rfl, a, rfl, ⟨_, SqT.of ha⟩, fun D hD => ?_⟩
    refine lc_map (K := K) (R := fun _ v b => v = V.bl b) walk_tup ⟨fun _ h => h⟩ (fun i => decide ((box.getD i (0, 0)).1 ≥ (box.getD i (0, 0)).2)) (by omega) hD (fun H' s' => SqT.of (s' _ _ ha)) ?_ ?_
    · rintro i y H2 H3 Kk hi s2 ⟨rfl, hy⟩ kk
      obtain ⟨p, hpp, t, rfl, ht⟩ := Paired.get hp hy
      refine ⟨t, _, rfl, SqT.of (s2 _ _ ht), rfl, _, _, rfl, _, _, rfl, rfl, rfl, ?_⟩
      refine ⟨_, rfl, _, rfl, _, _, rfl, rfl, kk _ _ (Same.refl _) ?_⟩
      show V.bl _ = V.bl _
      rw [getD_at hpp]
    · intro H2 acc s2 e2 p2
      have eb : ∀ {xs : List V} {bs : List Bool}, Paired (fun v b => v = V.bl b) xs bs → xs = bs.map V.bl := fun h => by
        induction h with
        | nil => rfl
        | cons r _ ih => rw [r, ih]; rfl
      have e := eb p2
      rw [e] at e2
      refine ⟨D, _, rfl, SqL.of e2, ?_⟩
      have : ((List.range vs.length).map fun i => decide ((box.getD i (0, 0)).1 ≥ (box.getD i (0, 0)).2)).any id = bareB box := by
        rw [hlen]
        unfold bareB
        rw [List.any_map]
        have e0 : box = (List.range box.length).map fun i => box.getD i (0, 0) := List.ext_getElem (by simp) fun i g1 g2 => by
          rw [List.getElem_map, List.getElem_range, getD_at (List.getElem?_eq_getElem g1)]
        conv => rhs; rw [e0]
        rw [List.any_map]; rfl
      rw [this]
      exact q _ s2
end
section
variable {P : Program} {w : World} {K : PySem.W.Frag} {mg : Str → Option Value} {base : Heap}
def sp_first_cell (K : PySem.W.Frag) : Sp := fun vs H Q _ => ∃ v x u box, vs = [v, u] ∧ VwR K H v x ∧ VOK x ∧ BoxR H u box ∧ BB x.ls.length box ∧ ∀ H', Same H H' → Q (.int (fcell x.b x.ss box)) H'
abbrev N_first_cell : List Str := ["view", "box", "low", "high", "stride"]
theorem sc_first_cell : FnScope N_first_cell ["view", "box"] (defScope s_first_cell) := ⟨rfl, rfl, rfl, by decide +kernel, rfl, by decide +kernel, by decide +kernel⟩
theorem ok_first_cell (T : Txt K mg) : GF P w K mg base 2 "first_cell" ["view", "box"] (sp_first_cell K) := by
  have nd := sc_first_cell.nd
  refine gf_of T (d := d_first_cell) (x := "first_cell") rfl rfl rfl (i := 33) rfl (by decide +kernel) sc_first_cell (fun _ _ _ _ _ _ us hl => match us, hl with | [_, _], _ => rfl) (fun vs H Q E h => ?_) (fun cdv A outer s H vs Q E hr h => ?_)
  · obtain ⟨v, x, u, box, rfl, _⟩ := h; rfl
  · refine ⟨_, (pss_one (ps_ret (pe_callBK (cr_sumS rfl) rfl (T.free "sum") (by decide +kernel) (pa_cons (pe_lc (own := [("stride", 4), ("low", 2), ("high", 3)]) (g := (gTup K 2 (gCons (gTup K 2 (gCons (gName 2) (gCons (gName 3) gNil))) (gCons (gName 4) gNil)))) (tt := tYes) rfl nd (pi_zipA rfl (T.free "zip") (pa_cons (pv 1) (pa_cons (pe_methG0 (ok_View_strides T) (hr.mono (by decide)) (pv 0)) pa_nil))) (blkOk_by (N := N_first_cell) (sc := defScope s_first_cell) (by decide +kernel)) (fun _ _ _ _ _ => (pg_tup rfl (pgs_cons (pg_tup rfl (pgs_cons (pg_name (i := 2) nd rfl (Or.inl rfl)) (pgs_cons (pg_name (i := 3) nd rfl (Or.inl rfl)) pgs_nil))) (pgs_cons (pg_name (i := 4) nd rfl (Or.inl rfl)) pgs_nil)))) (fun _ _ _ _ _ => pts_nil) (fun _ _ _ _ _ => (pe_op op_mul (pv 2) (pv 4)))) pa_nil) (pk_cons (pe_methG0 (ok_View_first T) (hr.mono (by decide)) (pv 0)) pk_nil)))), ?_⟩
    obtain ⟨v, x, u, box, rfl, hV, hO, ⟨c, vs, rfl, hc, hp⟩, hB, q⟩ := h
    obtain ⟨a, dx, la, sa0, rfl, h1, h2, h3⟩ := id hV
    have hlen := Paired.len hp
    have hfew := hO.lens.few
    refine ⟨_, rfl, _, rfl, a, dx, _, rfl, h1, rfl, _, x, rfl, hV, fun sa hsa => ⟨c, sa, _, _, rfl, .inr ⟨SqT.of hc, SqT.of hsa, fun D hD => ?_⟩⟩⟩
    refine lc_map (K := K) (R := IntR) (walk_zipT (n := box.length) (by simp [hlen, hB.len, hO.len])) mon_int (fun i => (box.getD i (0, 0)).1 * x.ss.getD i 0) (by rw [hB.len]; omega) hD (fun H' s' => ⟨SqT.of (s' _ _ hc), SqT.of (s' _ _ hsa)⟩) ?_ ?_
    · rintro i y H2 H3 Kk hi s2 ⟨t, x1, x2, rfl, hn, rfl, e1, e2⟩ kk
      obtain ⟨p, hpp, pa, rfl, hpa⟩ := Paired.get hp e1
      obtain ⟨st, hst, rfl⟩ := map_at e2
      have hs := hO.str st (List.mem_of_getElem? hst)
      refine ⟨t, _, rfl, SqT.of upd_same, rfl, _, _, rfl, pa, _, rfl, SqT.of ((Same.new hn) _ _ (s2 _ _ hpa)), rfl, _, _, rfl, _, _, rfl, rfl, _, _, rfl, rfl, rfl, ?_⟩
      refine ⟨_, rfl, _, rfl, _, _, rfl, rfl, .inr (by omega), kk _ _ (Same.new hn) ?_⟩
      show V.int _ = V.int _
      rw [getD_at hpp, getD_at (d := 0) hst]
    · intro H2 acc s2 e2 p2
      rw [Paired.ints p2] at e2
      have ez : (List.range box.length).map (fun i => (box.getD i (0, 0)).1 * x.ss.getD i 0) = (box.zip x.ss).map fun q => q.1.1 * q.2 :=
        zip_getD (fun q : (Int × Int) × Int => q.1.1 * q.2) (0, 0) 0 box x.ss (by rw [hB.len, hO.len])
      rw [ez] at e2
      refine ⟨_, rfl, a, dx, _, rfl, s2 _ _ h1, rfl, _, x, rfl, mon_vw.up (.of s2) hV, D, _, _, rfl, rfl, SqL.of e2, ⟨?_, fun n hn => ?_⟩, ?_, ?_, q _ s2⟩
      · rw [List.length_map, List.length_zip, hB.len]; omega
      · obtain ⟨⟨p, s⟩, hq, rfl⟩ := List.mem_map.mp hn
        have h4 := hB.rng p (List.of_mem_zip hq).1
        have h5 := hO.str s (List.of_mem_zip hq).2
        have := mul_small (p := p.1) (s := s) (by omega) h5
        show -1000000 ≤ p.1 * s ∧ p.1 * s ≤ 1000000
        omega
      · have := hO.bg; omega
      · have := hO.bg; omega
    
end
end Vg

namespace Vg
open PySem PySem.Spec PyProof.Rows L2 RZ RT
section
variable {P : Program} {w : World} {K : PySem.W.Frag} {mg : Str → Option Value} {base : Heap}
def sp_span_of (K : PySem.W.Frag) : Sp := fun vs H Q _ => ∃ v x u box, vs = [v, u] ∧ VwR K H v x ∧ VOK x ∧ BoxR H u box ∧ BB x.ls.length box ∧ ∀ w H', Same H H' → PairR H' w (spLo x.b x.ss box, spHi x.b x.ss box) → Q w H'
abbrev N_span_of : List Str := ["view", "box", "least", "greatest", "low", "high", "stride", "far"]
theorem sc_span_of : FnScope N_span_of ["view", "box"] (defScope s_span_of) := ⟨rfl, rfl, rfl, by decide +kernel, rfl, by decide +kernel, by decide +kernel⟩
theorem ok_span_of (T : Txt K mg) : GF P w K mg base 3 "span_of" ["view", "box"] (sp_span_of K) := by
  have nd := sc_span_of.nd
  refine gf_of T (d := d_span_of) (x := "span_of") rfl rfl rfl (i := 34) rfl (by decide +kernel) sc_span_of (fun _ _ _ _ _ _ us hl => match us, hl with | [_, _], _ => rfl) (fun vs H Q E h => ?_) (fun cdv A outer s H vs Q E hr h => ?_)
  · obtain ⟨v, x, u, box, rfl, _⟩ := h; rfl
  · refine ⟨_, (pss_cons (ps_asg2 (pe_callG (ok_first_cell T) (hr.mono (by decide)) rfl (pa_cons (pv 0) (pa_cons (pv 1) pa_nil))) (pg_name (i := 2) nd rfl (Or.inl rfl)) (pg_name (i := 3) nd rfl (Or.inl rfl)))
      (pss_cons (ps_for PassesOwn.never rfl (pi_zipA rfl (T.free "zip") (pa_cons (pv 1) (pa_cons (pe_methG0 (ok_View_strides T) (hr.mono (by decide)) (pv 0)) pa_nil))) (pg_tup rfl (pgs_cons (pg_tup rfl (pgs_cons (pg_name (i := 4) nd rfl (Or.inl rfl)) (pgs_cons (pg_name (i := 5) nd rfl (Or.inl rfl)) pgs_nil))) (pgs_cons (pg_name (i := 6) nd rfl (Or.inl rfl)) pgs_nil))) (pss_cons (ps_set (i := 7) nd rfl (Or.inl rfl) (pe_op op_mul (pe_op op_sub (pe_op op_sub (pv 5) (pv 4)) pe_int) (pv 6)))
      (pss_cons (ps_aug (i := 2) nd rfl (Or.inl rfl) (pe_callB (call_min2 rfl) rfl (T.free "min") (by decide +kernel) (pa_cons (pv 7) (pa_cons pe_int pa_nil))) ip_add)
      (pss_one (ps_aug (i := 3) nd rfl (Or.inl rfl) (pe_callB (call_max2 rfl) rfl (T.free "max") (by decide +kernel) (pa_cons (pv 7) (pa_cons pe_int pa_nil))) ip_add)))))
      (pss_one (ps_ret (pe_tup (pa_cons (pv 2) (pa_cons (pv 3) pa_nil))))))), ?_⟩
    obtain ⟨v, x, u, box, rfl, hV, hO, hbx, hB, q⟩ := h
    obtain ⟨c, vs, rfl, hc, hp⟩ := id hbx
    obtain ⟨a, dx, la, sa0, rfl, h1, h2, h3⟩ := id hV
    have hlen := Paired.len hp
    refine ⟨_, rfl, _, rfl, _, x, _, box, rfl, hV, hO, hbx, hB, fun H1 s1 => ?_⟩
    refine ⟨_, rfl, _, rfl, a, dx, _, rfl, s1 _ _ h1, rfl, _, x, rfl, mon_vw.up (.of s1) hV, fun sa hsa => ⟨c, sa, _, _, rfl, .inr ⟨SqT.of (s1 _ _ hc), SqT.of hsa, for_it (walk_zipT (n := box.length) (by simp [hlen, hB.len, hO.len]))
      (fun i σ H' => Same H1 H' ∧ ∃ y z w r, σ = [some (.ref a), some (.ref c), some (.int (fcell x.b x.ss box + (((box.zip x.ss).map fun q => mnI ((q.1.2 - q.1.1 - 1) * q.2)).take i).sum)), some (.int (fcell x.b x.ss box + (((box.zip x.ss).map fun q => mxI ((q.1.2 - q.1.1 - 1) * q.2)).take i).sum)), y, z, w, r])
      ⟨Same.refl _, none, none, none, none, ?_⟩ (fun i σ H' _ p => ⟨SqT.of (p.1 _ _ (s1 _ _ hc)), SqT.of (p.1 _ _ hsa)⟩) ?_ ?_⟩⟩⟩
    · rw [List.take_zero, List.take_zero, List.sum_nil, Int.add_zero]; rfl
    · rintro i y σ H2 H3 hi ⟨s2, y', z', w', r', rfl⟩ ⟨t, x1, x2, rfl, hn, rfl, e1, e2⟩
      obtain ⟨p, hpp, pa, rfl, hpa⟩ := Paired.get hp e1
      obtain ⟨st, hst, rfl⟩ := map_at e2
      have hs := hO.str st (List.mem_of_getElem? hst)
      have hz := zip_at hpp hst
      refine ⟨t, _, rfl, SqT.of upd_same, rfl, _, _, rfl, pa, _, rfl, SqT.of ((Same.new hn) _ _ (s2 _ _ (s1 _ _ hpa))), rfl, _, _, rfl, _, _, rfl, rfl, _, _, rfl, rfl, ?_⟩
      refine ⟨_, rfl, _, rfl, _, _, rfl, rfl, _, _, rfl, rfl, _, rfl, _, _, rfl, rfl, .inr (by omega), ?_⟩
      refine ⟨_, rfl, _, rfl, _, _, rfl, _, _, rfl, rfl, ?_⟩
      refine ⟨_, rfl, _, rfl, _, _, rfl, _, _, rfl, rfl, ?_⟩
      refine ⟨s2.trans (Same.new hn), some (.int p.1), some (.int p.2), some (.int st), some (.int ((p.2 - p.1 - 1) * st)), ?_⟩
      rw [sum_take (z := mnI ((p.2 - p.1 - 1) * st)) (by rw [List.getElem?_map, hz]; rfl), sum_take (z := mxI ((p.2 - p.1 - 1) * st)) (by rw [List.getElem?_map, hz]; rfl), ← Int.add_assoc, ← Int.add_assoc]
      rfl
    · rintro σ H2 ⟨s2, y', z', w', r', rfl⟩
      refine ⟨_, rfl, _, rfl, by show 2 ≤ sizeLine; decide, fun t ht => q _ _ ((s1.trans s2).trans (Same.new ht)) ⟨t, rfl, ?_⟩⟩
      rw [upd_same, List.take_of_length_le (by rw [List.length_map, List.length_zip]; omega), List.take_of_length_le (by rw [List.length_map, List.length_zip]; omega)]; rfl
end
section
variable {P : Program} {w : World} {K : PySem.W.Frag} {mg : Str → Option Value} {base : Heap}
def sp_strides_within (K : PySem.W.Frag) : Sp := fun vs H Q _ => ∃ v x u box, vs = [v, u] ∧ VwR K H v x ∧ VOK x ∧ BoxR H u box ∧ BB x.ls.length box ∧ ∀ l H', H l = none → Same H H' → H' l = some (.lst ((within x.ss box).map V.int)) → Q (.ref l) H'
abbrev N_strides_within : List Str := ["view", "box", "low", "high", "stride"]
theorem sc_strides_within : FnScope N_strides_within ["view", "box"] (defScope s_strides_within) := ⟨rfl, rfl, rfl, by decide +kernel, rfl, by decide +kernel, by decide +kernel⟩
theorem ok_strides_within (T : Txt K mg) : GF P w K mg base 2 "strides_within" ["view", "box"] (sp_strides_within K) := by
  have nd := sc_strides_within.nd
  refine gf_of T (d := d_strides_within) (x := "strides_within") rfl rfl rfl (i := 35) rfl (by decide +kernel) sc_strides_within (fun _ _ _ _ _ _ us hl => match us, hl with | [_, _], _ => rfl) (fun vs H Q E h => ?_) (fun cdv A outer s H vs Q E hr h => ?_)
  · obtain ⟨v, x, u, box, rfl, _⟩ := h; rfl
  · refine ⟨_, (pss_one (ps_ret (pe_lc (own := [("stride", 4), ("low", 2), ("high", 3)]) (g := (gTup K 2 (gCons (gTup K 2 (gCons (gName 2) (gCons (gName 3) gNil))) (gCons (gName 4) gNil)))) rfl nd (pi_zipA rfl (T.free "zip") (pa_cons (pv 1) (pa_cons (pe_methG0 (ok_View_strides T) (hr.mono (by decide)) (pv 0)) pa_nil))) (blkOk_by (N := N_strides_within) (sc := defScope s_strides_within) (by decide +kernel)) (fun _ _ _ _ _ => (pg_tup rfl (pgs_cons (pg_tup rfl (pgs_cons (pg_name (i := 2) nd rfl (Or.inl rfl)) (pgs_cons (pg_name (i := 3) nd rfl (Or.inl rfl)) pgs_nil))) (pgs_cons (pg_name (i := 4) nd rfl (Or.inl rfl)) pgs_nil)))) (fun _ _ _ _ _ => pts_one (pt_cmpR op_gt (pe_op op_sub (pv 3) (pv 2)) pe_int (nomark _))) (fun _ _ _ _ _ => (pv 4))))), ?_⟩
    obtain ⟨v, x, u, box, rfl, hV, hO, hbx, hB, q⟩ := h
    obtain ⟨c, vs, rfl, hc, hp⟩ := id hbx
    obtain ⟨a, dx, la, sa0, rfl, h1, h2, h3⟩ := id hV
    have hlen := Paired.len hp
    have hfew := hO.lens.few
    refine ⟨_, rfl, _, rfl, a, dx, _, rfl, h1, rfl, _, x, rfl, hV, fun sa hsa => ⟨c, sa, _, _, rfl, .inr ⟨SqT.of hc, SqT.of hsa, fun D hD => ?_⟩⟩⟩
    refine lc_it (walk_zipT (n := box.length) (by simp [hlen, hB.len, hO.len])) (fun i H' => Same H H' ∧ H' D = some (.lst (((((box.zip x.ss).take i).filter fun q => decide (q.1.2 - q.1.1 > 1)).map fun q => q.2).map V.int))) ⟨Same.new hD, upd_same⟩ (fun i H' _ p => ⟨SqT.of (p.1 _ _ hc), SqT.of (p.1 _ _ hsa)⟩) ?_ ?_
    · rintro i y H2 H3 hi ⟨s2, e⟩ ⟨t, x1, x2, rfl, hn, rfl, e1, e2⟩
      obtain ⟨p, hpp, pa, rfl, hpa⟩ := Paired.get hp e1
      obtain ⟨st, hst, rfl⟩ := map_at e2
      have hz := zip_at hpp hst
      refine ⟨t, _, rfl, SqT.of upd_same, rfl, _, _, rfl, pa, _, rfl, SqT.of ((Same.new hn) _ _ (s2 _ _ hpa)), rfl, _, _, rfl, _, _, rfl, rfl, _, _, rfl, rfl, rfl, ?_⟩
      refine ⟨_, rfl, _, rfl, _, _, rfl, rfl, _, _, rfl, rfl, decide (p.2 - p.1 > 1), rfl, ?_⟩
      rw [take_snoc hz, List.filter_append]
      by_cases hg : p.2 - p.1 > 1
      · rw [decide_eq_true hg]
        refine iteT ⟨_, rfl, _, (Same.new hn) _ _ e, ?_, ?_, ?_⟩
        · have : (((((box.zip x.ss).take i).filter fun q => decide (q.1.2 - q.1.1 > 1)).map fun q => q.2).map V.int).length ≤ 5 := by
            rw [List.length_map, List.length_map]
            refine Nat.le_trans (List.length_filter_le ..) ?_
            rw [List.length_take, List.length_zip, hB.len]; omega
          rw [sizeLine_eq]; omega
        · exact Same.mut (s2.trans (Same.new hn)) hD
        · rw [upd_same, List.map_append, List.map_append]
          congr 3
          rw [List.filter_cons_of_pos (by simpa using hg)]; rfl
      · rw [decide_eq_false hg]
        refine iteF ⟨s2.trans (Same.new hn), ?_⟩
        rw [List.filter_cons_of_neg (by simpa using hg), List.filter_nil, List.append_nil]
        exact (Same.new hn) _ _ e
    · rintro H2 ⟨s2, e⟩
      refine q D H2 hD s2 ?_
      rw [List.take_of_length_le (by rw [List.length_zip]; omega)] at e
      exact e
end
section
variable {P : Program} {w : World} {K : PySem.W.Frag} {mg : Str → Option Value} {base : Heap}
def sp_common_divisor (K : PySem.W.Frag) : Sp := fun vs H Q _ => ∃ (l : Addr) (ns : List Int), vs = [.ref l] ∧ H l = some (.lst (ns.map V.int)) ∧ ∀ d : Int, 0 ≤ d → (∀ n ∈ ns, d ∣ n) → Q (.int d) H
abbrev N_common_divisor : List Str := ["numbers", "found", "number", "one"]
theorem sc_common_divisor : FnScope N_common_divisor ["numbers"] (defScope s_common_divisor) := ⟨rfl, rfl, rfl, by decide +kernel, rfl, by decide +kernel, by decide +kernel⟩
theorem ok_common_divisor (T : Txt K mg) : GF P w K mg base 1 "common_divisor" ["numbers"] (sp_common_divisor K) := by
  have nd := sc_common_divisor.nd
  refine gf_of T (d := d_common_divisor) (x := "common_divisor") rfl rfl rfl (i := 36) rfl (by decide +kernel) sc_common_divisor (fun _ _ _ _ _ _ us hl => match us, hl with | [_], _ => rfl) (fun vs H Q E h => ?_) (fun cdv A outer s H vs Q E hr h => ?_)
  · obtain ⟨l, ns, rfl, _⟩ := h; rfl
  · refine ⟨_, (pss_cons (ps_set (i := 1) nd rfl (Or.inl rfl) pe_int)
      (pss_cons (ps_for PassesOwn.never rfl (pi_list (pv 0)) (pg_name (i := 2) nd rfl (Or.inl rfl)) (pss_cons (ps_set (i := 3) nd rfl (Or.inl rfl) (pe_callB call_abs rfl (T.free "abs") (by decide +kernel) (pa_cons (pv 2) pa_nil)))
      (pss_one (ps_while PassesOwn.never (pt_cmpR op_gt (pv 3) pe_int (nomark _)) (pss_one (ps_par (i := 1) (j := 3) (by rfl) nd rfl rfl (by decide) rfl rfl (pa_cons (pv 3) (pa_cons (pe_op op_mod (pv 1) (pv 3)) pa_nil)) (by rfl)))))))
      (pss_one (ps_ret (pv 1))))), ?_⟩
    obtain ⟨l, ns, rfl, hl, q⟩ := h
    refine ⟨_, rfl, l, rfl, ⟨_, SqL.of hl⟩, for_it walk_list (fun i σ H' => H' = H ∧ ∃ d y z, σ = [some (.ref l), some (.int d), y, z] ∧ 0 ≤ d ∧ ∀ n ∈ ns.take i, d ∣ n) ⟨rfl, 0, none, none, rfl, by decide, fun _ h => by simp at h⟩ (fun i σ H' _ p => by rw [p.1]; exact SqL.of hl) ?_ ?_⟩
    · rintro i y σ H9 H1 hi ⟨rfl, d, y', z', rfl, hd, hdv⟩ ⟨rfl, hy⟩
      obtain ⟨n, hn, rfl⟩ := map_at hy
      refine ⟨_, rfl, _, rfl, ?_⟩
      have habs : (if n < 0 then -n else n) = (n.natAbs : Int) := by split <;> omega
      rw [habs]
      refine ⟨fun m σ H' => H' = H1 ∧ ∃ (f : Int) (o : Nat), m = o ∧ σ = [some (.ref l), some (.int f), some (.int n), some (.int o)] ∧ 0 ≤ f ∧ ∀ g : Int, g ∣ f → g ∣ (o : Int) → g ∣ d ∧ g ∣ n, ⟨n.natAbs, rfl, d, n.natAbs, rfl, rfl, hd, fun g g1 g2 => ⟨g1, Int.dvd_natAbs.mp g2⟩⟩, ?_⟩
      rintro m σ H2 ⟨rfl, f, o, rfl, rfl, hf, hg⟩
      refine ⟨_, rfl, _, _, rfl, rfl, decide ((m : Int) > 0), rfl, ?_⟩
      by_cases h0 : (m : Int) > 0
      · rw [decide_eq_true h0]
        refine iteT ⟨fun σ' H' => ∃ m', m' < m ∧ (H' = H2 ∧ ∃ (f : Int) (o : Nat), m' = o ∧ σ' = [some (.ref l), some (.int f), some (.int n), some (.int o)] ∧ 0 ≤ f ∧ ∀ g : Int, g ∣ f → g ∣ (o : Int) → g ∣ d ∧ g ∣ n), fun _ _ h => h, ?_⟩
        refine ⟨_, rfl, _, rfl, _, rfl, _, _, rfl, rfl, h0, _, _, rfl, ?_⟩
        have e1 : 0 ≤ f % m := Int.emod_nonneg _ (by omega)
        have e2 : f % m < m := Int.emod_lt_of_pos _ h0
        refine ⟨(f % m).toNat, by omega, rfl, m, (f % m).toNat, rfl, by rw [Int.toNat_of_nonneg e1]; rfl, by omega, fun g g1 g2 => ?_⟩
        rw [Int.toNat_of_nonneg e1] at g2
        refine hg g ?_ g1
        rw [← Int.mul_ediv_add_emod f m]
        exact Int.dvd_add (Int.dvd_mul_of_dvd_left g1) g2
      · rw [decide_eq_false h0]
        have hm : m = 0 := by omega
        subst hm
        refine iteF ⟨rfl, f, _, _, rfl, hf, fun k hk => ?_⟩
        obtain ⟨g1, g2⟩ := hg f (Int.dvd_refl f) (Int.dvd_zero f)
        rw [take_snoc hn] at hk
        rcases mem_app hk with hk | hk
        · exact Int.dvd_trans g1 (hdv k hk)
        · rw [hk]; exact g2
    · rintro σ H1 ⟨rfl, d, y', z', rfl, hd, hdv⟩
      rw [List.length_map, List.take_length] at hdv
      exact ⟨_, rfl, q d hd hdv⟩
end
theorem noPart {σ : L2.St} {H : Hp} {k : Option Int → Hp → Prop} (h : k none H) : tNoPart σ H k := h
theorem cut_to {xs : List V} {i : Nat} (h : i ≤ xs.length) : cutV xs none (some (i : Int)) = xs.take i := by
  unfold cutV
  rw [HT.sIx_none, HT.sIx_nat, List.drop_zero, Nat.sub_zero, Nat.min_eq_left h]
theorem cut_from {xs : List V} {i : Nat} (h : i ≤ xs.length) : cutV xs (some (i : Int)) none = xs.drop i := by
  unfold cutV
  rw [HT.sIx_none, HT.sIx_nat, Nat.min_eq_left h]
  exact List.take_of_length_le (by simp)
theorem set_parts {α : Type} {xs : List α} {i : Nat} (h : i < xs.length) (y : α) : (xs.take i ++ [y]) ++ xs.drop (i + 1) = xs.set i y := by
  rw [List.set_eq_take_append_cons_drop, if_pos h]; simp
/-- one side of a box by another -/
theorem box_set {K : PySem.W.Frag} {H : Hp} {vs : List V} {box : Box} {i : Nat} {c t pa : Addr} {q : Int × Int} (hp : Paired (PairR H) vs box) (hi : i < box.length) (hpa : H pa = some (.tup [.int q.1, .int q.2])) : Paired (PairR H) ((vs.take i ++ [.ref pa]) ++ vs.drop (i + 1)) (box.set i q) := by
  rw [← set_parts hi]
  exact Paired.append (Paired.append (Paired.tk i hp) (.cons ⟨pa, rfl, hpa⟩ .nil)) (Paired.dr (i + 1) hp)
section
variable {P : Program} {w : World} {K : PySem.W.Frag} {mg : Str → Option Value} {base : Heap}
def sp_halves_of : Sp := fun vs H Q _ => ∃ u box, ∃ i : Nat, ∃ at_ l h : Int, vs = [u, .int i, .int at_] ∧ BoxR H u box ∧ box.length ≤ 5 ∧ box[i]? = some (l, h) ∧ ∀ w H', Same H H' → TwoR BoxR H' w (box.set i (l, at_), box.set i (at_, h)) → Q w H'
abbrev N_halves_of : List Str := ["box", "side", "at", "low", "high"]
theorem sc_halves_of : FnScope N_halves_of ["box", "side", "at"] (defScope s_halves_of) := ⟨rfl, rfl, rfl, by decide +kernel, rfl, by decide +kernel, by decide +kernel⟩
theorem ok_halves_of (T : Txt K mg) : GF P w K mg base 1 "halves_of" ["box", "side", "at"] sp_halves_of := by
  have nd := sc_halves_of.nd
  refine gf_of T (d := d_halves_of) (x := "halves_of") rfl rfl rfl (i := 37) rfl (by decide +kernel) sc_halves_of (fun _ _ _ _ _ _ us hl => match us, hl with | [_, _, _], _ => rfl) (fun vs H Q E h => ?_) (fun cdv A outer s H vs Q E hr h => ?_)
  · obtain ⟨u, box, i, at_, l, h, rfl, _⟩ := h; rfl
  · refine ⟨_, (pss_cons (ps_asg (pe_ix ix_tup (pv 0) (pv 1) (fun _ _ => rfl)) (pg_tup rfl (pgs_cons (pg_name (i := 3) nd rfl (Or.inl rfl)) (pgs_cons (pg_name (i := 4) nd rfl (Or.inl rfl)) pgs_nil))))
      (pss_one (ps_ret (pe_tup (pa_cons (pe_op op_catA (pe_op op_catA (pe_slice sl_tupA (pv 0) po_none (po_some (pv 1))) (pe_tup (pa_cons (pe_tup (pa_cons (pv 3) (pa_cons (pv 2) pa_nil))) pa_nil))) (pe_slice sl_tupA (pv 0) (po_some (pe_op op_add (pv 1) pe_int)) po_none)) (pa_cons (pe_op op_catA (pe_op op_catA (pe_slice sl_tupA (pv 0) po_none (po_some (pv 1))) (pe_tup (pa_cons (pe_tup (pa_cons (pv 2) (pa_cons (pv 4) pa_nil))) pa_nil))) (pe_slice sl_tupA (pv 0) (po_some (pe_op op_add (pv 1) pe_int)) po_none)) pa_nil)))))), ?_⟩
    obtain ⟨u, box, i, at_, l, h, rfl, ⟨c, vs, rfl, hc, hp⟩, hf, hi, q⟩ := h
    have hlen := Paired.len hp
    have hil : i < box.length := (List.getElem?_eq_some_iff.mp hi).1
    obtain ⟨x1, hx1, pa, rfl, hpa⟩ := Paired.get' hp hi
    have e1 : ∀ {α : Type} (xs : List α), (xs.take i).length ≤ 5 ∨ xs.length > 5 := fun xs => by rw [List.length_take]; omega
    refine ⟨_, rfl, _, rfl, c, _, _, _, rfl, rfl, SqT.of hc, at_of (j := i) (v := .ref pa) rfl hx1, pa, _, rfl, SqT.of hpa, rfl, _, _, rfl, _, _, rfl, rfl, ?_⟩
    refine ⟨_, rfl, _, rfl, _, rfl, slA_ok hc fun a1 H1 s1 g1 => ⟨_, rfl, _, rfl, by show 2 ≤ sizeLine; decide, fun t1 ht1 => ⟨by show 1 ≤ sizeLine; decide, fun t2 ht2 => ?_⟩⟩⟩
    rw [cut_to (by omega)] at g1
    have s2 : Same H1 (upd (upd H1 t1 (.tup [.int l, .int at_])) t2 (.tup [.ref t1])) := (Same.new ht1).trans (Same.new ht2)
    have k1 : (upd (upd H1 t1 (.tup [.int l, .int at_])) t2 (.tup [.ref t1])) t1 = some (.tup [.int l, .int at_]) := (Same.new ht2) _ _ upd_same
    refine catA_ok (s2 _ _ g1) upd_same (by rw [List.length_take]; show _ + 1 ≤ 1000000; omega) fun a2 H2 s3 g2 => ⟨_, rfl, _, rfl, _, _, rfl, rfl, _, rfl, noPart (slA_ok (s3 _ _ (s2 _ _ (s1 _ _ hc))) fun a3 H3 s4 g3 => ?_)⟩
    rw [show ((i : Int) + 1) = ((i + 1 : Nat) : Int) by omega, cut_from (by omega)] at g3
    refine catA_ok (s4 _ _ g2) g3 (by rw [List.length_append, List.length_take, List.length_drop]; show _ + 1 + _ ≤ 1000000; omega) fun b1 H4 s5 g4 => ?_
    have s14 : Same H H4 := (((s1.trans s2).trans s3).trans s4).trans s5
    have hp4 : Paired (PairR H4) vs box := Paired.mapP hp fun _ _ h => mon_pair.up (K := K) (.of s14) h
    have B1 : BoxR H4 (.ref b1) (box.set i (l, at_)) := ⟨b1, _, rfl, g4, box_set (K := K) (c := 0) (t := 0) hp4 hil (s5 _ _ (s4 _ _ (s3 _ _ k1)))⟩
    refine ⟨_, rfl, _, rfl, _, rfl, slA_ok (s14 _ _ hc) fun a5 H5 s6 g5 => ⟨_, rfl, _, rfl, by show 2 ≤ sizeLine; decide, fun t3 ht3 => ⟨by show 1 ≤ sizeLine; decide, fun t4 ht4 => ?_⟩⟩⟩
    rw [cut_to (by omega)] at g5
    have s7 : Same H5 (upd (upd H5 t3 (.tup [.int at_, .int h])) t4 (.tup [.ref t3])) := (Same.new ht3).trans (Same.new ht4)
    have k2 : (upd (upd H5 t3 (.tup [.int at_, .int h])) t4 (.tup [.ref t3])) t3 = some (.tup [.int at_, .int h]) := (Same.new ht4) _ _ upd_same
    refine catA_ok (s7 _ _ g5) upd_same (by rw [List.length_take]; show _ + 1 ≤ 1000000; omega) fun a6 H6 s8 g6 => ⟨_, rfl, _, rfl, _, _, rfl, rfl, _, rfl, noPart (slA_ok (s8 _ _ (s7 _ _ (s6 _ _ (s14 _ _ hc)))) fun a7 H7 s9 g7 => ?_)⟩
    rw [show ((i : Int) + 1) = ((i + 1 : Nat) : Int) by omega, cut_from (by omega)] at g7
    refine catA_ok (s9 _ _ g6) g7 (by rw [List.length_append, List.length_take, List.length_drop]; show _ + 1 + _ ≤ 1000000; omega) fun b2 H8 s10 g8 => ?_
    have s48 : Same H4 H8 := (((s6.trans s7).trans s8).trans s9).trans s10
    refine ⟨by show 2 ≤ sizeLine; decide, fun z hz => q _ _ ((s14.trans s48).trans (Same.new hz)) ⟨z, _, _, rfl, upd_same, ?_, ?_⟩⟩
    · exact mon_box.up (K := K) (.of (s48.trans (Same.new hz))) B1
    · have hp8 : Paired (PairR H8) vs box := Paired.mapP hp4 fun _ _ h => mon_pair.up (K := K) (.of s48) h
      exact mon_box.up (K := K) (.of (Same.new hz)) ⟨b2, _, rfl, g8, box_set (K := K) (c := 0) (t := 0) hp8 hil (s10 _ _ (s9 _ _ (s8 _ _ k2)))⟩
end
section
variable {P : Program} {w : World} {K : PySem.W.Frag} {mg : Str → Option Value} {base : Heap}
def sp_halved (K : PySem.W.Frag) : Sp := fun vs H Q _ => ∃ u box, ∃ i : Nat, ∃ l h : Int, vs = [u, .int i] ∧ BoxR H u box ∧ box.length ≤ 5 ∧ (∀ q ∈ box, (0 ≤ q.1 ∧ q.1 ≤ 600) ∧ 0 ≤ q.2 ∧ q.2 ≤ 600) ∧ box[i]? = some (l, h) ∧
  ∀ w x y (z : Addr) H', Same H H' → w = .ref z → H' z = some (.tup [.int ((l + h) / 2), x, y]) → BoxR H' x (box.set i (l, (l + h) / 2)) → BoxR H' y (box.set i ((l + h) / 2, h)) → Q w H'
abbrev N_halved : List Str := ["box", "side", "at", "left", "right"]
theorem sc_halved : FnScope N_halved ["box", "side"] (defScope s_halved) := ⟨rfl, rfl, rfl, by decide +kernel, rfl, by decide +kernel, by decide +kernel⟩
theorem ok_halved (T : Txt K mg) : GF P w K mg base 2 "halved" ["box", "side"] (sp_halved K) := by
  have nd := sc_halved.nd
  refine gf_of T (d := d_halved) (x := "halved") rfl rfl rfl (i := 38) rfl (by decide +kernel) sc_halved (fun _ _ _ _ _ _ us hl => match us, hl with | [_, _], _ => rfl) (fun vs H Q E h => ?_) (fun cdv A outer s H vs Q E hr h => ?_)
  · obtain ⟨u, box, i, l, h, rfl, _⟩ := h; rfl
  · refine ⟨_, (pss_cons (ps_set (i := 2) nd rfl (Or.inl rfl) (pe_op op_fdivW (pe_callB (cr_sumT rfl) rfl (T.free "sum") (by decide +kernel) (pa_cons (pe_ix ix_tup (pv 0) (pv 1) (fun _ _ => rfl)) pa_nil)) pe_int))
      (pss_cons (ps_asg (pe_callG (ok_halves_of T) (hr.mono (by decide)) rfl (pa_cons (pv 0) (pa_cons (pv 1) (pa_cons (pv 2) pa_nil)))) (pg_tup rfl (pgs_cons (pg_name (i := 3) nd rfl (Or.inl rfl)) (pgs_cons (pg_name (i := 4) nd rfl (Or.inl rfl)) pgs_nil))))
      (pss_one (ps_ret (pe_tup (pa_cons (pv 2) (pa_cons (pv 3) (pa_cons (pv 4) pa_nil)))))))), ?_⟩
    obtain ⟨u, box, i, l, h, rfl, hbx, hf, hr0, hi, q⟩ := h
    obtain ⟨c, vs, rfl, hc, hp⟩ := id hbx
    obtain ⟨x1, hx1, pa, rfl, hpa⟩ := Paired.get' hp hi
    have hb := hr0 _ (List.mem_of_getElem? hi)
    have hb' : (0 ≤ l ∧ l ≤ 600) ∧ 0 ≤ h ∧ h ≤ 600 := hb
    refine ⟨_, rfl, _, rfl, c, _, _, _, rfl, rfl, SqT.of hc, at_of (j := i) (v := .ref pa) rfl hx1, pa, [l, h], rfl, SqT.of hpa, ⟨by show 2 ≤ 1000; decide, fun n hn => ?_⟩, _, _, rfl, rfl, wide_div (b := 12) (by decide) (by decide) (by decide) (by decide), ?_⟩
    · rcases List.mem_cons.mp hn with rfl | hn
      · omega
      · rw [List.mem_singleton.mp hn]; omega
    have es : [l, h].sum = l + h := by simp
    rw [es]
    refine ⟨_, rfl, _, rfl, _, rfl, _, box, i, _, l, h, rfl, hbx, hf, hi, fun w H1 s1 hw => ?_⟩
    obtain ⟨z, x, y, rfl, hz, hx, hy⟩ := hw
    refine ⟨z, _, rfl, SqT.of hz, rfl, _, _, rfl, _, _, rfl, rfl, ?_⟩
    refine ⟨_, rfl, _, rfl, _, rfl, by show 3 ≤ sizeLine; decide, fun t ht => q _ x y t _ (s1.trans (Same.new ht)) rfl upd_same (mon_box.up (K := K) (.of (Same.new ht)) hx) (mon_box.up (K := K) (.of (Same.new ht)) hy)⟩
    
end
end Vg

namespace Vg
open PySem PySem.Spec PyProof.Rows L2 RZ RT
/-! ### zip(a, b, strict=True) of two tuples of one length -/
abbrev ZipG (h : Heap) (z TI TO : Addr) (f0 f1 : Value) (st : Bool) : Prop :=
  h.get? z = some { cls := .type "zip", dict := none, data := .fields #[f0, f1, .bool st, .ref TI, .ref TO], slots := #[] }
section
variable {prog : Program} {w : World} {A : Around} {E : Value → Shared → Prop} {s : Shared}
theorem nextOrEnd_item {it l : Addr} {i : Nat} {items} {x : Value} {Q : Option Value → Shared → Prop} (hit : s.heap.IsTupleIter it l i) (hl : s.heap.IsTuple l items) (hx : items[i]? = some x)
    (hQ : ∀ h', h'.IsTupleIter it l (i + 1) → Heap.SameBut it s.heap h' → Q (some x) { s with heap := h' }) : wpAny (model prog w) A (Builtin.SmallTypes.nextOrEnd (.ref it)) Q E s := by
  unfold Builtin.SmallTypes.nextOrEnd
  exact wpAny_bind (wpAny_attempt (nextOf_tuple_item hit hl hx fun h' a b => wpAny_pure (hQ h' a b)))
theorem nextOrEnd_end {it l : Addr} {i : Nat} {items} {Q : Option Value → Shared → Prop} (hh : A.handled = none) (hit : s.heap.IsTupleIter it l i) (hl : s.heap.IsTuple l items) (hx : items[i]? = none)
    (hQ : ∀ h', Heap.ExtBut it s.heap h' → Q none { s with heap := h' }) : wpAny (model prog w) A (Builtin.SmallTypes.nextOrEnd (.ref it)) Q E s := by
  unfold Builtin.SmallTypes.nextOrEnd
  refine wpAny_bind (wpAny_attempt (nextOf_tuple_end hh hit hl hx fun h' e a he => ?_))
  obtain ⟨o, ho, hc⟩ := he
  refine wpAny_bind (wpAny_isInstance (T := "StopIteration") (b := true) ⟨o, ho, hc⟩ isSubtype_stop ?_)
  exact wpAny_pure (hQ _ a)
theorem stop_now {α : Type} {Q : α → Shared → Prop} (hh : A.handled = none) (hE : ∀ h' e, (∀ c o, s.heap.get? c = some o → h'.get? c = some o) → (∃ o, h'.get? e = some o ∧ o.cls = .type "StopIteration") → E (.ref e) { s with heap := h' }) :
    wpAny (model prog w) A (Builtin.SmallTypes.stopIteration (α := α)) Q E s := by
  unfold Builtin.SmallTypes.stopIteration
  show wpAny _ _ (newExc (.type "StopIteration") [] >>= _) _ _ _
  refine wpAny_bind ?_
  simp only [newExc, newTuple]
  refine wpAny_bind (wpAny_newObj_type ?_ (by size_fits))
  refine wpAny_bind (m := firstArgMember _ _) (wpAny_of_eq (a := Value.none) (by first | rfl | (simp only [firstArgMember]; rfl)) ?_)
  refine wpAny_newObj_type ?_ (by size_fits)
  simp only [raiseNew]
  refine wpAny_bind (wpAny_handled ?_)
  first | rw [show A.in1.handled = none from hh] | rw [hh]
  refine wpAny_bind (wpAny_pure (wpAny_throw ?_))
  exact hE _ _ (fun c o x => Heap.get?_push_of_some _ (Heap.get?_push_of_some _ x)) ⟨_, Heap.get?_push_size _ rfl, rfl⟩
theorem zipS_next_item {z TI TO i1 i2 l1 l2 : Addr} {k1 k2 : Nat} {xs ys : Array Value} {x y a b : Value} {Q : Value → Shared → Prop} (D : ZipApart z TI TO i1 i2 l1 l2)
    (hz : ZipG s.heap z TI TO .none (.bool false) true) (hTI : IsPair s.heap TI (.ref i1) (.ref i2)) (hTO : IsPair s.heap TO a b)
    (h1 : s.heap.IsTupleIter i1 l1 k1) (h2 : s.heap.IsTupleIter i2 l2 k2) (hl1 : s.heap.IsTuple l1 xs) (hl2 : s.heap.IsTuple l2 ys) (hx : xs[k1]? = some x) (hy : ys[k2]? = some y)
    (hQ : ∀ h', ZipG h' z TI TO (rawInt s.heap.objs.size) (.bool false) true → IsPair h' TO x y → h'.IsTupleIter i1 l1 (k1 + 1) → h'.IsTupleIter i2 l2 (k2 + 1) → IsPair h' s.heap.objs.size x y → h'.objs.size = s.heap.objs.size + 1 →
      (∀ c o, c ≠ z → c ≠ TO → c ≠ i1 → c ≠ i2 → s.heap.get? c = some o → h'.get? c = some o) → Q (.ref s.heap.objs.size) { s with heap := h' }) :
    wpAny (model prog w) A (Builtin.«zip.__next__» ⟨[.ref z], []⟩) (fun fin s' => ∃ v, fin = .done (.ret v) ∧ Q v s') E s := by
  show wpAny _ _ (field (.ref z) 2 >>= _) _ _ _
  refine wpAny_bind (wpAny_field hz rfl (x := .bool true) rfl ?_)
  show wpAny _ _ (field (.ref z) 3 >>= _) _ _ _
  refine wpAny_bind (wpAny_field hz rfl (x := .ref TI) rfl ?_)
  refine wpAny_bind (wpAny_seqItems hTI rfl ?_)
  show wpAny _ _ (Builtin.SmallTypes.ownedTupleIsFree (.ref z) >>= _) _ _ _
  refine wpAny_bind ?_
  unfold Builtin.SmallTypes.ownedTupleIsFree
  refine wpAny_bind (wpAny_field hz rfl (x := .none) rfl (wpAny_pure ?_))
  simp only [if_true]
  refine wpAny_bind (wpAny_rule ?_)
  refine wpAny_bind (wpAny_field hz rfl (x := .ref TO) rfl ?_)
  refine wpAny_bind (wpAny_setField_rec hz (by simp) fun h₁ hz₁ hs₁ => ?_)
  replace hz₁ : ZipG h₁ z TI TO .ellipsis (.bool false) true := hz₁
  refine wpAny_bind ?_
  simp only [List.zipIdx_cons, List.zipIdx_nil, List.forIn_cons, List.forIn_nil]
  refine wpAny_bind (wpAny_bind (wpAny_onRaise ?_))
  show wpAny _ _ (Builtin.SmallTypes.nextOrEnd (.ref i1)) _ _ _
  refine nextOrEnd_item (h1.extBut hs₁.extBut D.i1z) (hl1.extBut hs₁.extBut D.l1z) hx fun h₂ h1₂ hs₂ => ?_
  have hTO₂ : IsPair h₂ TO a b := hs₂.extBut _ _ D.TOi1 (hs₁.extBut _ _ D.TOz hTO)
  refine wpAny_bind (wpAny_seqItems hTO₂ rfl ?_)
  refine wpAny_bind (wpAny_updateSeq_pair hTO₂ fun h₃ hTO₃ hs₃ => ?_)
  replace hTO₃ : IsPair h₃ TO x b := hTO₃
  refine wpAny_bind (wpAny_letGo (wpAny_pure ?_))
  refine wpAny_bind (wpAny_bind (wpAny_onRaise ?_))
  show wpAny _ _ (Builtin.SmallTypes.nextOrEnd (.ref i2)) _ _ _
  refine nextOrEnd_item (((h2.extBut hs₁.extBut D.i2z).extBut hs₂.extBut D.i12.symm).extBut hs₃.extBut D.TOi2.symm)
    (((hl2.extBut hs₁.extBut D.l2z).extBut hs₂.extBut D.l2i1).extBut hs₃.extBut D.l2TO) hy fun h₄ h2₄ hs₄ => ?_
  have hTO₄ : IsPair h₄ TO x b := hs₄.extBut _ _ D.TOi2 hTO₃
  refine wpAny_bind (wpAny_seqItems hTO₄ rfl ?_)
  refine wpAny_bind (wpAny_updateSeq_pair hTO₄ fun h₅ hTO₅ hs₅ => ?_)
  replace hTO₅ : IsPair h₅ TO x y := hTO₅
  refine wpAny_bind (wpAny_letGo (wpAny_pure (wpAny_pure ?_)))
  refine wpAny_bind (wpAny_seqItems hTO₅ rfl ?_)
  refine wpAny_bind (wpAny_newTuple ?_)
  have hsz : h₅.objs.size = s.heap.objs.size := by rw [hs₅.1, hs₄.1, hs₃.1, hs₂.1, hs₁.1]
  have hz₅ : ZipG h₅ z TI TO .ellipsis (.bool false) true := hs₅.extBut _ _ D.TOz.symm (hs₄.extBut _ _ D.i2z.symm (hs₃.extBut _ _ D.TOz.symm (hs₂.extBut _ _ D.i1z.symm hz₁)))
  have hk₅ : ∀ c o, c ≠ z → c ≠ TO → c ≠ i1 → c ≠ i2 → s.heap.get? c = some o → h₅.get? c = some o := fun c o c1 c2 c3 c4 e =>
    hs₅.extBut _ _ c2 (hs₄.extBut _ _ c4 (hs₃.extBut _ _ c2 (hs₂.extBut _ _ c3 (hs₁.extBut _ _ c1 e))))
  have h1₅ : h₅.IsTupleIter i1 l1 (k1 + 1) := ((h1₂.extBut hs₃.extBut D.TOi1.symm).extBut hs₄.extBut D.i12).extBut hs₅.extBut D.TOi1.symm
  have h2₅ : h₅.IsTupleIter i2 l2 (k2 + 1) := h2₄.extBut hs₅.extBut D.TOi2.symm
  have hzlt : z < h₅.objs.size := Heap.lt_size hz₅
  show wpAny _ _ (Builtin.SmallTypes.ownedTupleHandOut (.ref z) (.ref h₅.objs.size) >>= _) _ _ _
  refine wpAny_bind ?_
  unfold Builtin.SmallTypes.ownedTupleHandOut
  have hz₆ : ZipG (h₅.push { cls := .type "tuple", data := .seq #[x, y] }) z TI TO .ellipsis (.bool false) true := Heap.get?_push_of_some _ hz₅
  refine wpAny_bind (wpAny_setField_rec hz₆ (by simp) fun h₇ hz₇ hs₇ => ?_)
  replace hz₇ : ZipG h₇ z TI TO (rawInt h₅.objs.size) (.bool false) true := hz₇
  refine wpAny_setField_rec hz₇ (by simp) fun h₈ hz₈ hs₈ => ?_
  replace hz₈ : ZipG h₈ z TI TO (rawInt h₅.objs.size) (.bool false) true := hz₈
  have up : ∀ c o, c ≠ z → h₅.get? c = some o → h₈.get? c = some o := fun c o c1 e => hs₈.extBut _ _ c1 (hs₇.extBut _ _ c1 (Heap.get?_push_of_some _ e))
  have hT₈ : IsPair h₈ h₅.objs.size x y := hs₈.extBut _ _ (Nat.ne_of_gt hzlt) (hs₇.extBut _ _ (Nat.ne_of_gt hzlt) (Heap.get?_push_size _ rfl))
  have hz8 : h₈.objs.size = h₅.objs.size + 1 := by rw [hs₈.1, hs₇.1, Heap.size_push]
  rw [hsz] at hz₈ hT₈ hz8
  refine wpAny_pure ⟨_, rfl, ?_⟩
  show Q (.ref h₅.objs.size) _
  rw [hsz]
  exact hQ h₈ hz₈ (up _ _ D.TOz hTO₅) (h1₅.at fun o e => up _ o D.i1z e) (h2₅.at fun o e => up _ o D.i2z e) hT₈ hz8 fun c o c1 c2 c3 c4 e => up c o c1 (hk₅ c o c1 c2 c3 c4 e)
theorem zipS_next_end {z TI TO i1 i2 l1 l2 : Addr} {k1 k2 : Nat} {xs ys : Array Value} {a b : Value} {Q : Fin → Shared → Prop} (hh : A.handled = none) (D : ZipApart z TI TO i1 i2 l1 l2)
    (hz : ZipG s.heap z TI TO .none (.bool false) true) (hTI : IsPair s.heap TI (.ref i1) (.ref i2)) (hTO : IsPair s.heap TO a b)
    (h1 : s.heap.IsTupleIter i1 l1 k1) (h2 : s.heap.IsTupleIter i2 l2 k2) (hl1 : s.heap.IsTuple l1 xs) (hl2 : s.heap.IsTuple l2 ys) (hx : xs[k1]? = none) (hy : ys[k2]? = none)
    (hE : ∀ h' e, (∀ c o, c ≠ z → c ≠ TO → c ≠ i1 → c ≠ i2 → s.heap.get? c = some o → h'.get? c = some o) → (∃ o, h'.get? e = some o ∧ o.cls = .type "StopIteration") → E (.ref e) { s with heap := h' }) :
    wpAny (model prog w) A (Builtin.«zip.__next__» ⟨[.ref z], []⟩) Q E s := by
  show wpAny _ _ (field (.ref z) 2 >>= _) _ _ _
  refine wpAny_bind (wpAny_field hz rfl (x := .bool true) rfl ?_)
  show wpAny _ _ (field (.ref z) 3 >>= _) _ _ _
  refine wpAny_bind (wpAny_field hz rfl (x := .ref TI) rfl ?_)
  refine wpAny_bind (wpAny_seqItems hTI rfl ?_)
  show wpAny _ _ (Builtin.SmallTypes.ownedTupleIsFree (.ref z) >>= _) _ _ _
  refine wpAny_bind ?_
  unfold Builtin.SmallTypes.ownedTupleIsFree
  refine wpAny_bind (wpAny_field hz rfl (x := .none) rfl (wpAny_pure ?_))
  simp only [if_true]
  refine wpAny_bind (wpAny_rule ?_)
  refine wpAny_bind (wpAny_field hz rfl (x := .ref TO) rfl ?_)
  refine wpAny_bind (wpAny_setField_rec hz (by simp) fun h₁ hz₁ hs₁ => ?_)
  replace hz₁ : ZipG h₁ z TI TO .ellipsis (.bool false) true := hz₁
  refine wpAny_bind ?_
  simp only [List.zipIdx_cons, List.zipIdx_nil, List.forIn_cons, List.forIn_nil]
  refine wpAny_bind (wpAny_bind (wpAny_onRaise ?_))
  show wpAny _ _ (Builtin.SmallTypes.nextOrEnd (.ref i1)) _ _ _
  refine nextOrEnd_end hh (h1.extBut hs₁.extBut D.i1z) (hl1.extBut hs₁.extBut D.l1z) hx fun h₂ hs₂ => ?_
  have hz₂ : ZipG h₂ z TI TO .ellipsis (.bool false) true := hs₂ _ _ D.i1z.symm hz₁
  refine wpAny_bind (wpAny_setField_rec hz₂ (by simp) fun h₃ hz₃ hs₃ => ?_)
  have h2₃ := ((h2.extBut hs₁.extBut D.i2z).extBut hs₂ D.i12.symm).extBut hs₃.extBut D.i2z
  have hl2₃ := ((hl2.extBut hs₁.extBut D.l2z).extBut hs₂ D.l2i1).extBut hs₃.extBut D.l2z
  refine wpAny_bind ?_
  refine wpAny_bind ?_
  show wpAny _ _ (forIn ([(Value.ref i2, 1)] : List (Value × Nat)) _ _) _ _ _
  simp only [List.forIn_cons, List.forIn_nil]
  refine wpAny_bind (wpAny_bind (nextOrEnd_end hh h2₃ hl2₃ hy fun h₄ hs₄ => ?_))
  simp only [Option.isNone_none, Option.isSome_none, Bool.false_eq_true, if_false]
  refine wpAny_pure (wpAny_pure (wpAny_bind (wpAny_rule (stop_now hh fun h₅ e hk he => ?_))))
  exact hE h₅ e (fun c o c1 c2 c3 c4 x => hk _ _ (hs₄ _ _ c4 (hs₃.extBut _ _ c1 (hs₂ _ _ c3 (hs₁.extBut _ _ c1 x))))) he
theorem pyNext_zipS_item {z TI TO i1 i2 l1 l2 : Addr} {k1 k2 : Nat} {xs ys : Array Value} {x y a b : Value} {Q : Option Value → Shared → Prop} (D : ZipApart z TI TO i1 i2 l1 l2)
    (hz : ZipG s.heap z TI TO .none (.bool false) true) (hTI : IsPair s.heap TI (.ref i1) (.ref i2)) (hTO : IsPair s.heap TO a b)
    (h1 : s.heap.IsTupleIter i1 l1 k1) (h2 : s.heap.IsTupleIter i2 l2 k2) (hl1 : s.heap.IsTuple l1 xs) (hl2 : s.heap.IsTuple l2 ys) (hx : xs[k1]? = some x) (hy : ys[k2]? = some y)
    (hQ : ∀ h', ZipG h' z TI TO (rawInt s.heap.objs.size) (.bool false) true → IsPair h' TO x y → h'.IsTupleIter i1 l1 (k1 + 1) → h'.IsTupleIter i2 l2 (k2 + 1) → IsPair h' s.heap.objs.size x y → h'.objs.size = s.heap.objs.size + 1 →
      (∀ c o, c ≠ z → c ≠ TO → c ≠ i1 → c ≠ i2 → s.heap.get? c = some o → h'.get? c = some o) → Q (some (.ref s.heap.objs.size)) { s with heap := h' }) :
    wpAny (model prog w) A (pyNext (.ref z)) Q E s := by
  have hT : s.TypeIs (.ref z) "zip" := ⟨_, hz, rfl⟩
  unfold pyNext
  exact wpAny_bind (wpAny_attempt (wpAny_callSpecial?_slot (name := Str.ofString "__next__") hT F.slot_zip_next
    (wpAny_call_entry F.slot_zip_next hT F.entry_zip_next
      (zipS_next_item D hz hTI hTO h1 h2 hl1 hl2 hx hy fun h' a1 a2 a3 a4 a5 a6 a7 => wpAny_pure (hQ h' a1 a2 a3 a4 a5 a6 a7)) (F.args_zip_next_1 _))))
theorem pyNext_zipS_end {z TI TO i1 i2 l1 l2 : Addr} {k1 k2 : Nat} {xs ys : Array Value} {a b : Value} {Q : Option Value → Shared → Prop} (hh : A.handled = none) (D : ZipApart z TI TO i1 i2 l1 l2)
    (hz : ZipG s.heap z TI TO .none (.bool false) true) (hTI : IsPair s.heap TI (.ref i1) (.ref i2)) (hTO : IsPair s.heap TO a b)
    (h1 : s.heap.IsTupleIter i1 l1 k1) (h2 : s.heap.IsTupleIter i2 l2 k2) (hl1 : s.heap.IsTuple l1 xs) (hl2 : s.heap.IsTuple l2 ys) (hx : xs[k1]? = none) (hy : ys[k2]? = none)
    (hQ : ∀ h', (∀ c o, c ≠ z → c ≠ TO → c ≠ i1 → c ≠ i2 → s.heap.get? c = some o → h'.get? c = some o) → Q none { s with heap := h' }) : wpAny (model prog w) A (pyNext (.ref z)) Q E s := by
  have hT : s.TypeIs (.ref z) "zip" := ⟨_, hz, rfl⟩
  unfold pyNext
  refine wpAny_bind (wpAny_attempt (wpAny_callSpecial?_slot (name := Str.ofString "__next__") hT F.slot_zip_next
    (wpAny_call_entry F.slot_zip_next hT F.entry_zip_next (zipS_next_end hh D hz hTI hTO h1 h2 hl1 hl2 hx hy fun h' e hk he => ?_) (F.args_zip_next_1 _))))
  obtain ⟨o, ho, hc⟩ := he
  refine wpAny_bind (wpAny_isInstance (T := "StopIteration") (b := true) ⟨o, ho, hc⟩ isSubtype_stop ?_)
  exact wpAny_pure (hQ _ hk)
theorem letGo_zipS {elts : List Expr} {x1} {pos : Pos} {z TI TO T : Addr} {Q : Unit → Shared → Prop} (hz : ZipG s.heap z TI TO (rawInt T) (.bool false) true)
    (hQ : ∀ h', ZipG h' z TI TO .none (.bool false) true → Heap.SameBut z s.heap h' → Q () { s with heap := h' }) :
    wpAny (model prog w) A (letOwnedTupleGo (.Tuple elts x1 pos) (.ref z) (.ref T)) Q E s := by
  unfold letOwnedTupleGo
  refine wpAny_bind (wpAny_load hz ?_)
  show wpAny _ _ (if (["enumerate", "zip", "dict_itemiterator", "dict_reverseitemiterator", "odict_iterator", "itertools.zip_longest", "itertools.pairwise"].contains "zip" &&
      (#[rawInt T, .bool false, .bool true, .ref TI, .ref TO] : Array Value)[0]? == some (rawInt T)) = true then _ else _) Q E s
  rw [if_pos (by simp)]
  refine wpAny_bind (wpAny_rule ?_)
  show wpAny _ _ (setField (.ref z) 0 .none) Q E s
  exact wpAny_setField_rec hz (by simp) fun h' hz' hs' => hQ h' hz' hs'
theorem pyIter_zipG {z TI TO : Addr} {f0 f1 : Value} {st : Bool} {Q : Value → Shared → Prop} (hz : ZipG s.heap z TI TO f0 f1 st) (h : Q (.ref z) s) : wpAny (model prog w) A (pyIter (.ref z)) Q E s := by
  have hT : s.TypeIs (.ref z) "zip" := ⟨_, hz, rfl⟩
  refine wpAny_pyIter_slot hT F.slot_zip_iter (wpAny_call_entry F.slot_zip_iter hT F.entry_zip_iter ?_ (F.args_zip_iter_1 _))
  show wpAny _ _ (ret (.ref z)) _ _ s
  exact wpAny_pure ⟨_, rfl, "zip", _, hT, F.slot_zip_next.lookup, h⟩
end
abbrev zipSH5 (h : Heap) (l1 l2 : Addr) : Heap := (zipTH4 h l1 l2).push { cls := .type "zip", data := .fields #[.none, .bool false, .bool true, .ref (zipTH2 h l1 l2).objs.size, .ref (zipTH3 h l1 l2).objs.size] }
theorem typeCall_zip_strict (a b v : Value) : checkTypeCall "zip" ⟨[a, b], [(Str.ofString "strict", v)]⟩ = pure () := by kernel_rfl
theorem newCall_zip_strict (a b v : Value) : checkBuiltinCall "zip.__new__" ⟨[.type "zip", a, b], [(Str.ofString "strict", v)]⟩ = pure () := by kernel_rfl
theorem args_object_init_strict (obj a b v : Value) : argsOk "object.__init__" ⟨[obj, a, b], [(Str.ofString "strict", v)]⟩ := by unfold argsOk; kernel_rfl
theorem meets_zipS_new (l1 l2 : Addr) (xs ys : Array Value) :
    Meets (Builtin.«zip.__new__» ⟨[.type "zip", .ref l1, .ref l2], [(Str.ofString "strict", .bool true)]⟩) (fun _ R s => s.heap.IsTuple l1 xs ∧ s.heap.IsTuple l2 ys ∧
      R (.ok (.ret (.ref (zipTH4 s.heap l1 l2).objs.size))) { s with heap := zipSH5 s.heap l1 l2 }) :=
  .of_wp fun prog w A R s h => by
    obtain ⟨hp, g, d, tk, os⟩ := s; obtain ⟨hl1, hl2, h⟩ := h
    have hsub := sub_zip
    have e1 : (Str.ofString "strict" != ("strict" : Str)) = false := by decide +kernel
    have hL1 : Heap.IsTuple (Shared.heap ⟨hp, g, d, tk, os⟩) l1 xs := hl1
    have hL2 : Heap.IsTuple (Shared.heap ⟨hp.push { cls := .type "tuple_iterator", data := .fields #[.ref l1, .int 0 0] }, g, d, tk, os⟩) l2 ys := Heap.IsTuple.push hl2 _
    wp_walk using wpAny_pyIter_tuple hL1, wpAny_pyIter_tuple hL2
    exact ⟨_, rfl, h⟩
section
variable {prog : Program} {w : World} {A : Around} {E : Value → Shared → Prop} {s : Shared}
theorem call_zipS {l1 l2 : Addr} {xs ys : Array Value} {Q : Value → Shared → Prop} (hl1 : s.heap.IsTuple l1 xs) (hl2 : s.heap.IsTuple l2 ys)
    (h : ∀ h', ZipG h' (s.heap.objs.size + 4) (s.heap.objs.size + 2) (s.heap.objs.size + 3) .none (.bool false) true → IsPair h' (s.heap.objs.size + 2) (.ref s.heap.objs.size) (.ref (s.heap.objs.size + 1)) →
      IsPair h' (s.heap.objs.size + 3) .none .none → h'.IsTupleIter s.heap.objs.size l1 0 → h'.IsTupleIter (s.heap.objs.size + 1) l2 0 → h'.objs.size = s.heap.objs.size + 5 →
      (∀ c o, s.heap.get? c = some o → h'.get? c = some o) → Q (.ref (s.heap.objs.size + 4)) { s with heap := h' }) :
    wpAny (model prog w) A (call (.type "zip") [.ref l1, .ref l2] [(Str.ofString "strict", .bool true)]) Q E s := by
  refine callType_newKw F.called_zip (by decide) (typeCall_zip_strict _ _ _) (newCall_zip_strict _ _ _) (fun obj => args_object_init_strict obj _ _ _) F.entry_zip_new
    (meets_zipS_new l1 l2 xs ys) ⟨hl1, hl2, ?_⟩
  have z1 : (zipTH1 s.heap l1).objs.size = s.heap.objs.size + 1 := Heap.size_push ..
  have z2 : (zipTH2 s.heap l1 l2).objs.size = s.heap.objs.size + 2 := by rw [Heap.size_push, z1]
  have z3 : (zipTH3 s.heap l1 l2).objs.size = s.heap.objs.size + 3 := by rw [Heap.size_push, z2]
  have z4 : (zipTH4 s.heap l1 l2).objs.size = s.heap.objs.size + 4 := by rw [Heap.size_push, z3]
  have z5 : (zipSH5 s.heap l1 l2).objs.size = s.heap.objs.size + 5 := by rw [Heap.size_push, z4]
  have g5 : (zipSH5 s.heap l1 l2).get? (zipTH4 s.heap l1 l2).objs.size = some _ := Heap.get?_push_size _ rfl
  have g4 : (zipSH5 s.heap l1 l2).get? (zipTH3 s.heap l1 l2).objs.size = some _ := Heap.get?_push_of_some _ (Heap.get?_push_size _ rfl)
  have g3 : (zipSH5 s.heap l1 l2).get? (zipTH2 s.heap l1 l2).objs.size = some _ := Heap.get?_push_of_some _ (Heap.get?_push_of_some _ (Heap.get?_push_size _ rfl))
  have g2 : (zipSH5 s.heap l1 l2).get? (zipTH1 s.heap l1).objs.size = some _ := Heap.get?_push_of_some _ (Heap.get?_push_of_some _ (Heap.get?_push_of_some _ (Heap.get?_push_size _ rfl)))
  have g1 : (zipSH5 s.heap l1 l2).get? s.heap.objs.size = some _ := Heap.get?_push_of_some _ (Heap.get?_push_of_some _ (Heap.get?_push_of_some _ (Heap.get?_push_of_some _ (Heap.get?_push_size _ rfl))))
  show _ ∧ _
  rw [z2, z3, z4] at g5
  rw [z1, z2] at g3
  rw [z3] at g4
  rw [z1] at g2
  rw [z4]
  exact ⟨⟨_, g5, rfl⟩, h _ g5 g3 g4 ⟨_, g1, rfl, rfl⟩ ⟨_, g2, rfl, rfl⟩ z5 fun c o x =>
    Heap.get?_push_of_some _ (Heap.get?_push_of_some _ (Heap.get?_push_of_some _ (Heap.get?_push_of_some _ (Heap.get?_push_of_some _ x))))⟩
theorem callWith_typeKw {M : Model} {env : Env} {pos : Pos} {T : String} {e : Expr} {rest : List Expr} {kws : List Keyword} {Q : Value → Shared → Prop}
    (h : wpAny M A (spliced (backTo pos (starEach (e :: rest) env))) (fun vs s₁ => wpAny M A (evalAll ((backToKw pos (keywordEach kws env)).map (·.2)))
      (fun kvs s₂ => wpAny M A (call (.type T) vs (((backToKw pos (keywordEach kws env)).filterMap (·.1)).zip kvs)) Q E s₂) E s₁) E s)
    (he : backTo pos (starEach (e :: rest) env) = (false, eval e env) :: backTo pos (starEach rest env) := by rfl)
    (hplain : (backTo pos (starEach (e :: rest) env)).any (·.1) = false := by rfl)
    (hall : (backToKw pos (keywordEach kws env)).all (·.1.isSome) = true := by rfl)
    (hkw : (backToKw pos (keywordEach kws env)).any (·.1.isNone) = false := by rfl) :
    wpAny M A (callWith pos (.type T) [] (backTo pos (starEach (e :: rest) env)) (backToKw pos (keywordEach kws env))) Q E s := by
  have key : wpAny M A (evalArgs (.type T) true (backTo pos (starEach (e :: rest) env)) (backToKw pos (keywordEach kws env))) (fun a s₁ => wpAny M A (call (.type T) ([] ++ a.pos) a.kw) Q E s₁) E s := by
    rw [he] at h ⊢
    exact evalArgs_kwB hall h
  unfold callWith
  refine wpAny_bind (wpAny_holding (wpAny_mono key (fun a s₁ h₁ => wpAny_bind (wpAny_standAt ?_)) fun _ _ x => x))
  simp only [hplain, hkw, Bool.or_false]
  refine wpAny_bind (wpAny_pure ?_)
  exact wpAny_bind (wpAny_mono h₁ (fun r s₂ hr => wpAny_bind (wpAny_holding (wpAny_point (wpAny_pure hr)))) fun _ _ x => x)
end
def ItzS (K : PySem.W.Frag) (a b : Addr) : It :=
  ⟨fun i H => ∃ (xs ys : List V) (x y : V), SqT K H a xs ∧ SqT K H b ys ∧ xs[i]? = some x ∧ ys[i]? = some y,
    fun i H v H' => ∃ T x y, v = .ref T ∧ H T = none ∧ H' = upd H T (.tup [x, y]) ∧ (∀ xs, SqT K H a xs → xs[i]? = some x) ∧ ∀ ys, SqT K H b ys → ys[i]? = some y,
    fun i H => ∃ xs ys : List V, SqT K H a xs ∧ SqT K H b ys ∧ xs.length ≤ i ∧ ys.length ≤ i⟩
theorem walk_zipS {K : PySem.W.Frag} {a b : Addr} {xs ys : List V} {n : Nat} (hx : xs.length = n) (hy : ys.length = n) : Walk (ItzS K a b) n (fun H => SqT K H a xs ∧ SqT K H b ys) (YPair (fun i => xs[i]?) (fun i => ys[i]?)) := by
  refine ⟨fun i _ hi q => ?_, fun _ q => ⟨xs, ys, q.1, q.2, by omega, by omega⟩, fun i H v H' _ q y => ?_⟩
  · have h1 : i < xs.length := by omega
    have h2 : i < ys.length := by omega
    exact ⟨xs, ys, xs[i], ys[i], q.1, q.2, by simp [h1], by simp [h2]⟩
  · obtain ⟨T, x, z, h1, h2, h3, h4, h5⟩ := y
    exact ⟨T, x, z, h1, h2, h3, h4 xs q.1, h5 ys q.2⟩
theorem turn_zipS {P : Program} {w : World} {K : PySem.W.Frag} {elts : List Expr} {kk : Nat} {tpos : Pos} {a b z TI TO i1 i2 : Addr} (D : ZipApart z TI TO i1 i2 a b) :
    Turn P w K (.Tuple elts kk tpos) (ItzS K a b) [z, TI, TO, i1, i2] z (fun i h => ZipG h z TI TO .none (.bool false) true ∧ IsPair h TI (.ref i1) (.ref i2) ∧ (∃ x y, IsPair h TO x y) ∧ h.IsTupleIter i1 a i ∧ h.IsTupleIter i2 b i) where
  mem := by simp
  obj := fun i h st c hc => by
    obtain ⟨hz, hTI, ⟨x, y, hTO⟩, ⟨o1, e1, _, d1⟩, ⟨o2, e2, _, d2⟩⟩ := st
    have e' : c = z ∨ c = TI ∨ c = TO ∨ c = i1 ∨ c = i2 := by simpa using hc
    rcases e' with q | q | q | q | q
    · rw [q]; exact ⟨_, hz, fun v q => nomatch q⟩
    · rw [q]; exact ⟨_, hTI, fun v q => nomatch q⟩
    · rw [q]; exact ⟨_, hTO, fun v q => nomatch q⟩
    · rw [q]; exact ⟨o1, e1, fun v q => by rw [d1] at q; cases q⟩
    · rw [q]; exact ⟨o2, e2, fun v q => by rw [d2] at q; cases q⟩
  keep := fun i h h' st k => by
    obtain ⟨hz, hTI, ⟨x, y, hTO⟩, h1, h2⟩ := st
    exact ⟨k z (by simp) _ hz, k TI (by simp) _ hTI, ⟨x, y, k TO (by simp) _ hTO⟩, h1.at fun o q => k i1 (by simp) o q, h2.at fun o q => k i2 (by simp) o q⟩
  item := by
    intro X hP hw hK hc i pins s σ H E I hf st hg
    subst hP hw hK
    obtain ⟨hz, hTI, ⟨x0, y0, hTO⟩, h1, h2⟩ := st
    obtain ⟨xs, ys, x, y, hqx, hqy, hx, hy⟩ := hg
    obtain ⟨its, rv, p, _⟩ := I.tuple hqx
    obtain ⟨its2, rv2, p2, _⟩ := I.tuple hqy
    obtain ⟨u, hu, ru⟩ := rv.get hx
    obtain ⟨u2, hu2, ru2⟩ := rv2.get hy
    have hzl : z < s.heap.objs.size := Heap.lt_size hz
    refine pyNext_zipS_item D hz hTI hTO h1 h2 p p2 (x := u) (y := u2) (by simpa using hu) (by simpa using hu2) fun h' z' TO' h1' h2' hT hsz hk => ?_
    refine ⟨_, rfl, letGo_zipS (s := { s with heap := h' }) z' fun h'' z'' sb => ?_⟩
    have hT2 : h''.get? s.heap.objs.size = some { cls := .type "tuple", data := .seq #[u, u2] } := (sb.2 _ (Nat.ne_of_gt hzl)).trans hT
    have new : ObjOk X.prog X.w (upd H s.heap.objs.size (.tup [x, y])) h'' s.heap.objs.size (.tup [x, y]) :=
      ⟨by show 2 ≤ sizeLine; decide, [u, u2], .cons ru (.cons ru2 .nil), ⟨_, hT2, rfl, _, rfl⟩⟩
    have I1 : Inv X pins σ (upd H s.heap.objs.size (.tup [x, y])) { s with heap := h'' } :=
      I.turnedNew (t' := s.toks) (ch := [z, TI, TO, i1, i2]) (fun c o hb q => (sb.2 c (fun q' => hb (by simp [q']))).trans (hk c o (fun q' => hb (by simp [q'])) (fun q' => hb (by simp [q'])) (fun q' => hb (by simp [q'])) (fun q' => hb (by simp [q'])) q)) hf (Nat.le_refl _) new
    refine ⟨.ref s.heap.objs.size, _, I1, rfl, ⟨_, x, y, rfl, I.hok.fresh (Nat.le_refl _), rfl, fun l hl => by rw [I.tuple_inj hl hqx]; exact hx, fun l hl => by rw [I.tuple_inj hl hqy]; exact hy⟩, ⟨z'', ?_, ⟨u, u2, ?_⟩, ?_, ?_⟩, fun c hcm => ?_⟩
    · exact (sb.2 _ D.TIz).trans (hk _ _ D.TIz D.TITO D.TIi1 D.TIi2 hTI)
    · exact (sb.2 _ D.TOz).trans TO'
    · exact h1'.at fun o q => (sb.2 _ D.i1z).trans q
    · exact h2'.at fun o q => (sb.2 _ D.i2z).trans q
    · have hlt : c < s.heap.objs.size := by
        have e' : c = z ∨ c = TI ∨ c = TO ∨ c = i1 ∨ c = i2 := by simpa using hcm
        rcases e' with q | q | q | q | q
        · rw [q]; exact hzl
        · rw [q]; exact Heap.lt_size hTI
        · rw [q]; exact Heap.lt_size hTO
        · rw [q]; obtain ⟨_, e1, _⟩ := h1; exact Heap.lt_size e1
        · rw [q]; obtain ⟨_, e2, _⟩ := h2; exact Heap.lt_size e2
      rw [upd_ne (Nat.ne_of_lt hlt)]
      exact (hf c hcm).1
  done := by
    intro X hP hw hK hc i pins s σ H E I hf st hg
    subst hP hw hK
    obtain ⟨hz, hTI, ⟨x0, y0, hTO⟩, h1, h2⟩ := st
    obtain ⟨xs, ys, hqx, hqy, q1, q2⟩ := hg
    obtain ⟨its, rv, p, _⟩ := I.tuple hqx
    obtain ⟨its2, rv2, p2, _⟩ := I.tuple hqy
    have l1 := rv.length
    have l2 := rv2.length
    exact pyNext_zipS_end (I.ok.hd hc) D hz hTI hTO h1 h2 p p2 (by simp; omega) (by simp; omega) fun h' hk => ⟨rfl, I.turnedL (t' := s.toks) (ch := [z, TI, TO, i1, i2]) (fun c o hb q =>
      hk c o (fun q' => hb (by simp [q'])) (fun q' => hb (by simp [q'])) (fun q' => hb (by simp [q'])) (fun q' => hb (by simp [q'])) q) hf⟩
  self := fun A i s Q E st h => pyIter_zipG st.1 h
def iZipS (K : PySem.W.Frag) (ta tk : TA) : TI := fun σ H R => ta σ H fun vs H1 => tk σ H1 fun zs H2 => ∃ a b xs ys, vs = [.ref a, .ref b] ∧ zs = [.bl true] ∧ SqT K H2 a xs ∧ SqT K H2 b ys ∧ R (ItzS K a b) H2
theorem pi_zipStrict {X : Cx} {e e2 : Expr} {kws : List Keyword} {ta tk : TA} {p pos tpos : Pos} {elts : List Expr} {kk : Nat} (hg : Gl X "zip") (hm : X.mg "zip" = none) (ha : PA X [e, e2] ta) (hkw : PK X kws tk)
    (he : backTo pos (starEach [e, e2] X.env) = (false, eval e X.env) :: backTo pos (starEach [e2] X.env) := by rfl) (hpl : (backTo pos (starEach [e, e2] X.env)).any (·.1) = false := by rfl)
    (hall : (backToKw pos (keywordEach kws X.env)).all (·.1.isSome) = true := by rfl) (hnone : (backToKw pos (keywordEach kws X.env)).any (·.1.isNone) = false := by rfl) (hks : (backToKw pos (keywordEach kws X.env)).filterMap (·.1) = ([Str.ofString "strict"] : List Str) := by rfl) :
    PI X (.Tuple elts kk tpos) (.Call (.Name "zip" p) [e, e2] kws pos) (iZipS X.K ta tk) := by
  refine ⟨fun pins s σ H R I h => ?_⟩
  refine wpAny_Call_Name_kw (ld_blt I hg hm PyProof.Rows.boot_zip ?_)
  refine callWith_typeKw (thn (ha.run pos pins s σ H _ I h) fun us s1 ⟨vs, H1, I1, r1, q1⟩ => thn (hkw.run pos pins s1 σ H1 _ I1 q1) fun ws s2 ⟨zs, H2, I2, r2, q2⟩ => ?_) he hpl hall hnone
  rw [hks]
  obtain ⟨a, b, xs, ys, rfl, rfl, hqx, hqy, q⟩ := q2
  cases r1 with
  | cons r rr =>
    cases rr with
    | cons r' rr =>
      cases rr
      cases r
      cases r'
      cases r2 with
      | cons r2 rr2 =>
        cases rr2
        cases r2
        have fresh5 : ∀ c, c ∈ [s2.heap.objs.size + 4, s2.heap.objs.size + 2, s2.heap.objs.size + 3, s2.heap.objs.size, s2.heap.objs.size + 1] → FpOk X pins H2 c := fun c hcm => by
          have e' : c = s2.heap.objs.size + 4 ∨ c = s2.heap.objs.size + 2 ∨ c = s2.heap.objs.size + 3 ∨ c = s2.heap.objs.size ∨ c = s2.heap.objs.size + 1 := by simpa using hcm
          have hle : s2.heap.objs.size ≤ c := by
            rcases e' with z | z | z | z | z
            · rw [z]; exact Nat.le_add_right _ _
            · rw [z]; exact Nat.le_add_right _ _
            · rw [z]; exact Nat.le_add_right _ _
            · rw [z]; exact Nat.le_refl _
            · rw [z]; exact Nat.le_add_right _ _
          exact I2.fpOk hle (I2.hok.fresh hle)
        obtain ⟨its, rv, p1, _⟩ := I2.tuple hqx
        obtain ⟨its2, rv2, p2, _⟩ := I2.tuple hqy
        obtain ⟨o1, ho1, _⟩ := id p1
        obtain ⟨o2, ho2, _⟩ := id p2
        refine call_zipS (show s2.heap.IsTuple a its.toArray from p1) (show s2.heap.IsTuple b its2.toArray from p2) fun h' hz hTI hTO h1 h2 hsz hk => pyIter_zipG hz ?_
        have I3 : Inv X pins σ H2 { s2 with heap := h' } := I2.kept (t' := s2.toks) hk
        exact ⟨s2.heap.objs.size + 4, [s2.heap.objs.size + 4, s2.heap.objs.size + 2, s2.heap.objs.size + 3, s2.heap.objs.size, s2.heap.objs.size + 1], _, _, H2, rfl, I3, turn_zipS (PySem.W.ktu_apart s2.heap.objs.size a b (Heap.lt_size ho1) (Heap.lt_size ho2)), ⟨hz, hTI, ⟨_, _, hTO⟩, h1, h2⟩, fresh5, q⟩
end Vg

namespace Vg
open PySem PySem.Spec PyProof.Rows L2 RZ RT
/-! ### enumerate(zip(a, b)) of two tuples -/
/-- a zip, its own tuple out or not -/
def ZipAny (h : Heap) (z TI TO : Addr) : Prop := ∃ f0 f1 : Value, ZipG h z TI TO f0 f1 false ∧ (f0 = .none ∨ ∃ (T : Addr) (b : Bool), f0 = rawInt T ∧ f1 = .bool b)
section
variable {prog : Program} {w : World} {A : Around} {E : Value → Shared → Prop} {s : Shared}
theorem load_alive {a : Addr} {Q : Option Obj → Shared → Prop} (h : Q (s.heap.get? a) s) : wpAny (model prog w) A (loadIfAlive a) Q E s := fun _ _ _ => h
/-- the two ways -/
theorem owned_cases {z TI TO : Addr} {Q : Bool → Shared → Prop} (hz : ZipAny s.heap z TI TO) (h1 : ∀ f0 f1, ZipG s.heap z TI TO f0 f1 false → Q true s)
    (h2 : ∀ (T : Addr) h', ZipG h' z TI TO (rawInt T) (.bool true) false → Heap.SameBut z s.heap h' → Q false { s with heap := h' }) : wpAny (model prog w) A (Builtin.SmallTypes.ownedTupleIsFree (.ref z)) Q E s := by
  obtain ⟨f0, f1, hz, hf⟩ := hz
  unfold Builtin.SmallTypes.ownedTupleIsFree
  refine wpAny_bind (wpAny_field hz rfl (x := f0) rfl ?_)
  rcases hf with rfl | ⟨T, b, rfl, rfl⟩
  · exact wpAny_pure (h1 _ _ hz)
  · show wpAny _ _ (loadIfAlive ((T : Int).toNat) >>= _) _ _ _
    rw [Int.toNat_natCast]
    refine wpAny_bind (load_alive ?_)
    cases hT : s.heap.get? T with
    | none =>
      simp only [Option.isNone_none, if_true]
      exact wpAny_pure (h1 _ _ hz)
    | some oT =>
      simp only [Option.isNone_some, Bool.false_eq_true, if_false]
      refine wpAny_bind (wpAny_field hz rfl (x := .bool b) rfl ?_)
      cases b with
      | true =>
        rw [if_neg (show ¬ ((Value.bool true != Value.bool true) = true) from Bool.false_ne_true)]
        exact wpAny_pure (h2 T s.heap hz (Heap.SameBut.refl _ _))
      | false =>
        rw [if_pos (show (Value.bool false != Value.bool true) = true from rfl)]
        exact wpAny_bind (wpAny_setField_rec hz (by simp) fun h₁ hz₁ hs₁ => wpAny_pure (h2 T h₁ hz₁ hs₁))
theorem zipA_next_item {z TI TO i1 i2 l1 l2 : Addr} {k1 k2 : Nat} {xs ys : Array Value} {x y a b : Value} {Q : Value → Shared → Prop} (D : ZipApart z TI TO i1 i2 l1 l2)
    (hz : ZipAny s.heap z TI TO) (hTI : IsPair s.heap TI (.ref i1) (.ref i2)) (hTO : IsPair s.heap TO a b)
    (h1 : s.heap.IsTupleIter i1 l1 k1) (h2 : s.heap.IsTupleIter i2 l2 k2) (hl1 : s.heap.IsTuple l1 xs) (hl2 : s.heap.IsTuple l2 ys) (hx : xs[k1]? = some x) (hy : ys[k2]? = some y)
    (hQ : ∀ h', ZipAny h' z TI TO → (∃ a b, IsPair h' TO a b) → h'.IsTupleIter i1 l1 (k1 + 1) → h'.IsTupleIter i2 l2 (k2 + 1) → IsPair h' s.heap.objs.size x y → h'.objs.size = s.heap.objs.size + 1 →
      (∀ c o, c ≠ z → c ≠ TO → c ≠ i1 → c ≠ i2 → s.heap.get? c = some o → h'.get? c = some o) → Q (.ref s.heap.objs.size) { s with heap := h' }) :
    wpAny (model prog w) A (Builtin.«zip.__next__» ⟨[.ref z], []⟩) (fun fin s' => ∃ v, fin = .done (.ret v) ∧ Q v s') E s := by
  obtain ⟨e0, e1, hz0, _⟩ := id hz
  show wpAny _ _ (field (.ref z) 2 >>= _) _ _ _
  refine wpAny_bind (wpAny_field hz0 rfl (x := .bool false) rfl ?_)
  show wpAny _ _ (field (.ref z) 3 >>= _) _ _ _
  refine wpAny_bind (wpAny_field hz0 rfl (x := .ref TI) rfl ?_)
  refine wpAny_bind (wpAny_seqItems hTI rfl ?_)
  show wpAny _ _ (Builtin.SmallTypes.ownedTupleIsFree (.ref z) >>= _) _ _ _
  refine wpAny_bind (owned_cases hz (fun f0 f1 hzf => ?_) fun T h₁ hz₁ hs₁ => ?_)
  · simp only [if_true]
    refine wpAny_bind (wpAny_rule ?_)
    refine wpAny_bind (wpAny_field hzf rfl (x := .ref TO) rfl ?_)
    refine wpAny_bind (wpAny_setField_rec hzf (by simp) fun h₁ hz₁ hs₁ => ?_)
    replace hz₁ : ZipG h₁ z TI TO .ellipsis f1 false := hz₁
    refine wpAny_bind ?_
    simp only [List.zipIdx_cons, List.zipIdx_nil, List.forIn_cons, List.forIn_nil]
    refine wpAny_bind (wpAny_bind (wpAny_onRaise ?_))
    show wpAny _ _ (Builtin.SmallTypes.nextOf (.ref i1) >>= _) _ _ _
    refine wpAny_bind (nextOf_tuple_item (h1.extBut hs₁.extBut D.i1z) (hl1.extBut hs₁.extBut D.l1z) hx fun h₂ h1₂ hs₂ => wpAny_pure ?_)
    have hTO₂ : IsPair h₂ TO a b := hs₂.extBut _ _ D.TOi1 (hs₁.extBut _ _ D.TOz hTO)
    refine wpAny_bind (wpAny_seqItems hTO₂ rfl ?_)
    refine wpAny_bind (wpAny_updateSeq_pair hTO₂ fun h₃ hTO₃ hs₃ => ?_)
    replace hTO₃ : IsPair h₃ TO x b := hTO₃
    refine wpAny_bind (wpAny_letGo (wpAny_pure ?_))
    refine wpAny_bind (wpAny_bind (wpAny_onRaise ?_))
    show wpAny _ _ (Builtin.SmallTypes.nextOf (.ref i2) >>= _) _ _ _
    refine wpAny_bind (nextOf_tuple_item (((h2.extBut hs₁.extBut D.i2z).extBut hs₂.extBut D.i12.symm).extBut hs₃.extBut D.TOi2.symm)
      (((hl2.extBut hs₁.extBut D.l2z).extBut hs₂.extBut D.l2i1).extBut hs₃.extBut D.l2TO) hy fun h₄ h2₄ hs₄ => wpAny_pure ?_)
    have hTO₄ : IsPair h₄ TO x b := hs₄.extBut _ _ D.TOi2 hTO₃
    refine wpAny_bind (wpAny_seqItems hTO₄ rfl ?_)
    refine wpAny_bind (wpAny_updateSeq_pair hTO₄ fun h₅ hTO₅ hs₅ => ?_)
    replace hTO₅ : IsPair h₅ TO x y := hTO₅
    refine wpAny_bind (wpAny_letGo (wpAny_pure (wpAny_pure ?_)))
    refine wpAny_bind (wpAny_seqItems hTO₅ rfl ?_)
    refine wpAny_bind (wpAny_newTuple ?_)
    have hsz : h₅.objs.size = s.heap.objs.size := by rw [hs₅.1, hs₄.1, hs₃.1, hs₂.1, hs₁.1]
    have hz₅ : ZipG h₅ z TI TO .ellipsis f1 false := hs₅.extBut _ _ D.TOz.symm (hs₄.extBut _ _ D.i2z.symm (hs₃.extBut _ _ D.TOz.symm (hs₂.extBut _ _ D.i1z.symm hz₁)))
    have hk₅ : ∀ c o, c ≠ z → c ≠ TO → c ≠ i1 → c ≠ i2 → s.heap.get? c = some o → h₅.get? c = some o := fun c o c1 c2 c3 c4 e =>
      hs₅.extBut _ _ c2 (hs₄.extBut _ _ c4 (hs₃.extBut _ _ c2 (hs₂.extBut _ _ c3 (hs₁.extBut _ _ c1 e))))
    have h1₅ : h₅.IsTupleIter i1 l1 (k1 + 1) := ((h1₂.extBut hs₃.extBut D.TOi1.symm).extBut hs₄.extBut D.i12).extBut hs₅.extBut D.TOi1.symm
    have h2₅ : h₅.IsTupleIter i2 l2 (k2 + 1) := h2₄.extBut hs₅.extBut D.TOi2.symm
    have hzlt : z < h₅.objs.size := Heap.lt_size hz₅
    show wpAny _ _ (Builtin.SmallTypes.ownedTupleHandOut (.ref z) (.ref h₅.objs.size) >>= _) _ _ _
    refine wpAny_bind ?_
    unfold Builtin.SmallTypes.ownedTupleHandOut
    have hz₆ : ZipG (h₅.push { cls := .type "tuple", data := .seq #[x, y] }) z TI TO .ellipsis f1 false := Heap.get?_push_of_some _ hz₅
    refine wpAny_bind (wpAny_setField_rec hz₆ (by simp) fun h₇ hz₇ hs₇ => ?_)
    replace hz₇ : ZipG h₇ z TI TO (rawInt h₅.objs.size) f1 false := hz₇
    refine wpAny_setField_rec hz₇ (by simp) fun h₈ hz₈ hs₈ => ?_
    replace hz₈ : ZipG h₈ z TI TO (rawInt h₅.objs.size) (.bool false) false := hz₈
    have up : ∀ c o, c ≠ z → h₅.get? c = some o → h₈.get? c = some o := fun c o c1 e => hs₈.extBut _ _ c1 (hs₇.extBut _ _ c1 (Heap.get?_push_of_some _ e))
    have hT₈ : IsPair h₈ h₅.objs.size x y := hs₈.extBut _ _ (Nat.ne_of_gt hzlt) (hs₇.extBut _ _ (Nat.ne_of_gt hzlt) (Heap.get?_push_size _ rfl))
    have hz8 : h₈.objs.size = h₅.objs.size + 1 := by rw [hs₈.1, hs₇.1, Heap.size_push]
    rw [hsz] at hz₈ hT₈ hz8
    refine wpAny_pure ⟨_, rfl, ?_⟩
    show Q (.ref h₅.objs.size) _
    rw [hsz]
    exact hQ h₈ ⟨_, _, hz₈, .inr ⟨_, _, rfl, rfl⟩⟩ ⟨_, _, up _ _ D.TOz hTO₅⟩ (h1₅.at fun o e => up _ o D.i1z e) (h2₅.at fun o e => up _ o D.i2z e) hT₈ hz8 fun c o c1 c2 c3 c4 e => up c o c1 (hk₅ c o c1 c2 c3 c4 e)
  · simp only [Bool.false_eq_true, if_false]
    refine wpAny_bind ?_
    rw [← Array.forIn_toList]
    simp only [List.forIn_cons, List.forIn_nil]
    refine wpAny_bind (wpAny_bind (wpAny_holding ?_))
    show wpAny _ _ (Builtin.SmallTypes.nextOf (.ref i1) >>= _) _ _ _
    refine wpAny_bind (nextOf_tuple_item (s := { s with heap := h₁ }) (h1.extBut hs₁.extBut D.i1z) (hl1.extBut hs₁.extBut D.l1z) hx fun h₂ h1₂ hs₂ => wpAny_pure ?_)
    refine wpAny_pure ?_
    refine wpAny_bind (wpAny_bind (wpAny_holding ?_))
    show wpAny _ _ (Builtin.SmallTypes.nextOf (.ref i2) >>= _) _ _ _
    refine wpAny_bind (nextOf_tuple_item (s := { s with heap := h₂ }) ((h2.extBut hs₁.extBut D.i2z).extBut hs₂.extBut D.i12.symm) ((hl2.extBut hs₁.extBut D.l2z).extBut hs₂.extBut D.l2i1) hy fun h₃ h2₃ hs₃ => wpAny_pure ?_)
    refine wpAny_pure (wpAny_pure ?_)
    show wpAny _ _ (newTuple [x, y] >>= _) _ _ _
    refine wpAny_bind (wpAny_newTuple ?_)
    have hsz : h₃.objs.size = s.heap.objs.size := by rw [hs₃.1, hs₂.1, hs₁.1]
    have hz₃ : ZipG h₃ z TI TO (rawInt T) (.bool true) false := hs₃.extBut _ _ D.i2z.symm (hs₂.extBut _ _ D.i1z.symm hz₁)
    have hk : ∀ c o, c ≠ z → c ≠ i1 → c ≠ i2 → s.heap.get? c = some o → h₃.get? c = some o := fun c o c1 c2 c3 e => hs₃.extBut _ _ c3 (hs₂.extBut _ _ c2 (hs₁.extBut _ _ c1 e))
    have h1₃ : h₃.IsTupleIter i1 l1 (k1 + 1) := h1₂.extBut hs₃.extBut D.i12
    refine wpAny_pure ⟨_, rfl, ?_⟩
    show Q (.ref h₃.objs.size) _
    have hp : IsPair (h₃.push { cls := .type "tuple", data := .seq #[x, y] }) h₃.objs.size x y := Heap.get?_push_size _ rfl
    have hz4 : (h₃.push { cls := .type "tuple", data := .seq #[x, y] }).objs.size = h₃.objs.size + 1 := Heap.size_push ..
    rw [hsz] at hp hz4 ⊢
    exact hQ _ ⟨_, _, Heap.get?_push_of_some _ hz₃, .inr ⟨_, _, rfl, rfl⟩⟩ ⟨_, _, Heap.get?_push_of_some _ (hk _ _ D.TOz D.TOi1 D.TOi2 hTO)⟩ (h1₃.at fun o e => Heap.get?_push_of_some _ e) (h2₃.at fun o e => Heap.get?_push_of_some _ e) hp hz4 fun c o c1 _ c2 c3 e => Heap.get?_push_of_some _ (hk c o c1 c2 c3 e)
theorem zipA_next_end {z TI TO i1 i2 l1 l2 : Addr} {k1 k2 : Nat} {xs ys : Array Value} {a b : Value} {Q : Fin → Shared → Prop} (hh : A.handled = none) (D : ZipApart z TI TO i1 i2 l1 l2)
    (hz : ZipAny s.heap z TI TO) (hTI : IsPair s.heap TI (.ref i1) (.ref i2)) (hTO : IsPair s.heap TO a b)
    (h1 : s.heap.IsTupleIter i1 l1 k1) (h2 : s.heap.IsTupleIter i2 l2 k2) (hl1 : s.heap.IsTuple l1 xs) (hl2 : s.heap.IsTuple l2 ys) (hend : xs[k1]? = none ∨ ys[k2]? = none)
    (hE : ∀ h' e, (∀ c o, c ≠ z → c ≠ TO → c ≠ i1 → c ≠ i2 → s.heap.get? c = some o → h'.get? c = some o) → (∃ o, h'.get? e = some o ∧ o.cls = .type "StopIteration") → E (.ref e) { s with heap := h' }) :
    wpAny (model prog w) A (Builtin.«zip.__next__» ⟨[.ref z], []⟩) Q E s := by
  obtain ⟨e0, e1, hz0, _⟩ := id hz
  show wpAny _ _ (field (.ref z) 2 >>= _) _ _ _
  refine wpAny_bind (wpAny_field hz0 rfl (x := .bool false) rfl ?_)
  show wpAny _ _ (field (.ref z) 3 >>= _) _ _ _
  refine wpAny_bind (wpAny_field hz0 rfl (x := .ref TI) rfl ?_)
  refine wpAny_bind (wpAny_seqItems hTI rfl ?_)
  show wpAny _ _ (Builtin.SmallTypes.ownedTupleIsFree (.ref z) >>= _) _ _ _
  refine wpAny_bind (owned_cases hz (fun f0 f1 hzf => ?_) fun T h₁ hz₁ hs₁ => ?_)
  · simp only [if_true]
    refine wpAny_bind (wpAny_rule ?_)
    refine wpAny_bind (wpAny_field hzf rfl (x := .ref TO) rfl ?_)
    refine wpAny_bind (wpAny_setField_rec hzf (by simp) fun h₁ hz₁ hs₁ => ?_)
    replace hz₁ : ZipG h₁ z TI TO .ellipsis f1 false := hz₁
    refine wpAny_bind ?_
    simp only [List.zipIdx_cons, List.zipIdx_nil, List.forIn_cons, List.forIn_nil]
    refine wpAny_bind (wpAny_bind (wpAny_onRaise ?_))
    show wpAny _ _ (Builtin.SmallTypes.nextOf (.ref i1) >>= _) _ _ _
    cases hx : xs[k1]? with
    | none =>
      refine wpAny_bind (nextOf_tuple_end hh (h1.extBut hs₁.extBut D.i1z) (hl1.extBut hs₁.extBut D.l1z) hx fun h₂ e hs₂ he => ?_)
      obtain ⟨oe, hoe, hce⟩ := he
      have hz₂ : ZipG h₂ z TI TO .ellipsis f1 false := hs₂ _ _ D.i1z.symm hz₁
      have hez : e ≠ z := fun x => by subst x; rw [hz₂] at hoe; cases hoe; simp at hce
      refine wpAny_setField_rec hz₂ (by simp) fun h₃ _ hs₃ => hE h₃ e (fun c o c1 _ c3 _ x => hs₃.extBut _ _ c1 (hs₂ _ _ c3 (hs₁.extBut _ _ c1 x))) ⟨oe, hs₃.extBut _ _ hez hoe, hce⟩
    | some x =>
      have hy : ys[k2]? = none := by rcases hend with h | h; rw [hx] at h; cases h; exact h
      refine wpAny_bind (nextOf_tuple_item (h1.extBut hs₁.extBut D.i1z) (hl1.extBut hs₁.extBut D.l1z) hx fun h₂ h1₂ hs₂ => wpAny_pure ?_)
      have hTO₂ : IsPair h₂ TO a b := hs₂.extBut _ _ D.TOi1 (hs₁.extBut _ _ D.TOz hTO)
      refine wpAny_bind (wpAny_seqItems hTO₂ rfl ?_)
      refine wpAny_bind (wpAny_updateSeq_pair hTO₂ fun h₃ hTO₃ hs₃ => ?_)
      refine wpAny_bind (wpAny_letGo (wpAny_pure ?_))
      refine wpAny_bind (wpAny_bind (wpAny_onRaise ?_))
      show wpAny _ _ (Builtin.SmallTypes.nextOf (.ref i2) >>= _) _ _ _
      refine wpAny_bind (nextOf_tuple_end hh (((h2.extBut hs₁.extBut D.i2z).extBut hs₂.extBut D.i12.symm).extBut hs₃.extBut D.TOi2.symm)
        (((hl2.extBut hs₁.extBut D.l2z).extBut hs₂.extBut D.l2i1).extBut hs₃.extBut D.l2TO) hy fun h₄ e hs₄ he => ?_)
      obtain ⟨oe, hoe, hce⟩ := he
      have hz₄ : ZipG h₄ z TI TO .ellipsis f1 false := hs₄ _ _ D.i2z.symm (hs₃.extBut _ _ D.TOz.symm (hs₂.extBut _ _ D.i1z.symm hz₁))
      have hez : e ≠ z := fun x => by subst x; rw [hz₄] at hoe; cases hoe; simp at hce
      refine wpAny_setField_rec hz₄ (by simp) fun h₅ _ hs₅ => hE h₅ e (fun c o c1 c2 c3 c4 x => hs₅.extBut _ _ c1 (hs₄ _ _ c4 (hs₃.extBut _ _ c2 (hs₂.extBut _ _ c3 (hs₁.extBut _ _ c1 x))))) ⟨oe, hs₅.extBut _ _ hez hoe, hce⟩
  · simp only [Bool.false_eq_true, if_false]
    refine wpAny_bind ?_
    rw [← Array.forIn_toList]
    simp only [List.forIn_cons, List.forIn_nil]
    refine wpAny_bind (wpAny_bind (wpAny_holding ?_))
    show wpAny _ _ (Builtin.SmallTypes.nextOf (.ref i1) >>= _) _ _ _
    cases hx : xs[k1]? with
    | none =>
      refine wpAny_bind (nextOf_tuple_end (s := { s with heap := h₁ }) hh (h1.extBut hs₁.extBut D.i1z) (hl1.extBut hs₁.extBut D.l1z) hx fun h₂ e hs₂ he => ?_)
      exact hE h₂ e (fun c o c1 _ c2 _ x => hs₂ _ _ c2 (hs₁.extBut _ _ c1 x)) he
    | some x =>
      have hy : ys[k2]? = none := by rcases hend with h | h; rw [hx] at h; cases h; exact h
      refine wpAny_bind (nextOf_tuple_item (s := { s with heap := h₁ }) (h1.extBut hs₁.extBut D.i1z) (hl1.extBut hs₁.extBut D.l1z) hx fun h₂ h1₂ hs₂ => wpAny_pure ?_)
      refine wpAny_pure ?_
      refine wpAny_bind (wpAny_bind (wpAny_holding ?_))
      show wpAny _ _ (Builtin.SmallTypes.nextOf (.ref i2) >>= _) _ _ _
      refine wpAny_bind (nextOf_tuple_end (s := { s with heap := h₂ }) hh ((h2.extBut hs₁.extBut D.i2z).extBut hs₂.extBut D.i12.symm) ((hl2.extBut hs₁.extBut D.l2z).extBut hs₂.extBut D.l2i1) hy fun h₃ e hs₃ he => ?_)
      exact hE h₃ e (fun c o c1 _ c2 c3 x => hs₃ _ _ c3 (hs₂.extBut _ _ c2 (hs₁.extBut _ _ c1 x))) he
/-- the next item of an iterator, by a promise of its __next__ -/
theorem nextOf_zipA {z TI TO : Addr} {Q : Value → Shared → Prop} (hz : ZipAny s.heap z TI TO) (h : wpAny (model prog w) A.in1 (Builtin.«zip.__next__» ⟨[.ref z], []⟩) (fun fin s' => ∃ v, fin = .done (.ret v) ∧ Q v s') E s) :
    wpAny (model prog w) A (Builtin.SmallTypes.nextOf (.ref z)) Q E s := by
  obtain ⟨f0, f1, hz, _⟩ := hz
  have hT : s.TypeIs (.ref z) "zip" := ⟨_, hz, rfl⟩
  unfold Builtin.SmallTypes.nextOf
  exact wpAny_bind (wpAny_callSpecial?_slot (name := Str.ofString "__next__") hT F.slot_zip_next (wpAny_call_entry F.slot_zip_next hT F.entry_zip_next (wpAny_mono h (fun _ _ ⟨v, e, q⟩ => ⟨v, e, wpAny_pure q⟩) fun _ _ x => x) (F.args_zip_next_1 _)))
theorem enumI_next_item {e it : Addr} {c : Int} {old : Value} {Q : Value → Shared → Prop} {R : Heap → Prop} (he : IsEnum s.heap e it c old)
    (inner : ∀ Q' : Value → Shared → Prop, (∀ h₁, R h₁ → Q' (.ref s.heap.objs.size) { s with heap := h₁ }) → wpAny (model prog w) A (Builtin.SmallTypes.nextOf (.ref it)) Q' E s)
    (hR : ∀ h₁, R h₁ → IsEnum h₁ e it c old)
    (hQ : ∀ h₁ h' tk, R h₁ → IsEnumOut h' e it (c + 1) (.ref s.heap.objs.size) h₁.objs.size → h'.get? h₁.objs.size = some { cls := .type "tuple", data := .seq #[.int c tk, .ref s.heap.objs.size] } → h'.objs.size = h₁.objs.size + 1 →
      (∀ b o, b ≠ e → h₁.get? b = some o → h'.get? b = some o) → Q (.ref h₁.objs.size) { s with heap := h', toks := tk + 1 }) :
    wpAny (model prog w) A (Builtin.«enumerate.__next__» ⟨[.ref e], []⟩) (fun fin s' => ∃ v, fin = .done (.ret v) ∧ Q v s') E s := by
  obtain ⟨hp, g, d, tk, os⟩ := s
  show wpAny _ _ (field (.ref e) 2 >>= _) _ _ _
  refine wpAny_bind (wpAny_field he rfl (x := .ref it) rfl ?_)
  refine wpAny_bind (inner _ fun h₁ hr => ?_)
  have he₁ : IsEnum h₁ e it c old := hR h₁ hr
  show wpAny _ _ (field (.ref e) 3 >>= _) _ _ ⟨h₁, g, d, tk, os⟩
  refine wpAny_bind (wpAny_field he₁ rfl (x := rawInt c) rfl ?_)
  show wpAny _ _ (field (.ref e) 4 >>= _) _ _ ⟨h₁, g, d, tk, os⟩
  refine wpAny_bind (wpAny_field he₁ rfl (x := .none) rfl ?_)
  show wpAny _ _ (mkInt c >>= _) _ _ ⟨h₁, g, d, tk, os⟩
  refine wpAny_bind (wpAny_mkInt ?_)
  show wpAny _ _ (setField (.ref e) 3 (rawInt (c + 1)) >>= _) _ _ ⟨h₁, g, d, tk + 1, os⟩
  refine wpAny_bind (wpAny_setField_rec he₁ (by simp) fun h₂ he₂ hs₂ => ?_)
  replace hs₂ : Heap.SameBut e h₁ h₂ := hs₂
  replace he₂ : IsEnum h₂ e it (c + 1) old := he₂
  show wpAny _ _ (setField (.ref e) 4 .none >>= _) _ _ ⟨h₂, g, d, tk + 1, os⟩
  refine wpAny_bind (wpAny_setField_rec he₂ (by simp) fun h₃ he₃ hs₃ => ?_)
  replace hs₃ : Heap.SameBut e h₂ h₃ := hs₃
  replace he₃ : IsEnum h₃ e it (c + 1) old := he₃
  show wpAny _ _ (newTuple [.int c tk, .ref hp.objs.size] >>= _) _ _ ⟨h₃, g, d, tk + 1, os⟩
  refine wpAny_bind (wpAny_newTuple ?_)
  have he₄ : IsEnum (h₃.push { cls := .type "tuple", data := .seq #[.int c tk, .ref hp.objs.size] }) e it (c + 1) old := Heap.get?_push_of_some _ he₃
  generalize hh₄ : h₃.push { cls := .type "tuple", data := .seq #[.int c tk, .ref hp.objs.size] } = h₄ at he₄
  have hsz : h₃.objs.size = h₁.objs.size := by rw [hs₃.1, hs₂.1]
  have hel : e < h₁.objs.size := Heap.lt_size he₁
  have ht₄ : h₄.get? h₁.objs.size = some { cls := .type "tuple", data := .seq #[.int c tk, .ref hp.objs.size] } := by rw [← hh₄, ← hsz]; exact Heap.get?_push_size _ rfl
  have hz₄ : h₄.objs.size = h₁.objs.size + 1 := by rw [← hh₄, Heap.size_push, hsz]
  have hk₄ : ∀ b o, b ≠ e → h₁.get? b = some o → h₄.get? b = some o := fun b o hbe hb => by
    rw [← hh₄]; exact Heap.get?_push_of_some _ (hs₃.extBut b o hbe (hs₂.extBut b o hbe hb))
  show wpAny _ _ (Builtin.SmallTypes.ownedTupleIsFree (.ref e) >>= _) _ _ ⟨h₄, g, d, tk + 1, os⟩
  rw [hsz]
  refine wpAny_bind ?_
  · unfold Builtin.SmallTypes.ownedTupleIsFree
    refine wpAny_bind (wpAny_field he₄ rfl (x := .none) rfl (wpAny_pure ?_))
    simp only [if_true]
    refine wpAny_bind (wpAny_rule ?_)
    refine wpAny_bind (wpAny_field he₄ rfl (x := old) rfl ?_)
    refine wpAny_bind (wpAny_setField_rec he₄ (by simp) fun h₅ he₅ hs₅ => ?_)
    replace hs₅ : Heap.SameBut e h₄ h₅ := hs₅
    replace he₅ : IsEnum h₅ e it (c + 1) (.ref hp.objs.size) := he₅
    show wpAny _ _ (Builtin.SmallTypes.ownedTupleHandOut (.ref e) (.ref h₁.objs.size) >>= _) _ _ ⟨h₅, g, d, tk + 1, os⟩
    refine wpAny_bind ?_
    · unfold Builtin.SmallTypes.ownedTupleHandOut
      refine wpAny_bind (wpAny_setField_rec he₅ (by simp) fun h₆ he₆ hs₆ => ?_)
      replace hs₆ : Heap.SameBut e h₅ h₆ := hs₆
      replace he₆ : IsEnumOut h₆ e it (c + 1) (.ref hp.objs.size) h₁.objs.size := he₆
      refine wpAny_setField_rec he₆ (by simp) fun h₇ he₇ hs₇ => ?_
      replace hs₇ : Heap.SameBut e h₆ h₇ := hs₇
      replace he₇ : IsEnumOut h₇ e it (c + 1) (.ref hp.objs.size) h₁.objs.size := he₇
      refine wpAny_bind (wpAny_letGo (wpAny_pure ⟨_, rfl, hQ h₁ h₇ tk hr he₇ ?_ ?_ ?_⟩))
      · exact hs₇.extBut _ _ (Nat.ne_of_gt hel) (hs₆.extBut _ _ (Nat.ne_of_gt hel) (hs₅.extBut _ _ (Nat.ne_of_gt hel) ht₄))
      · rw [hs₇.1, hs₆.1, hs₅.1, hz₄]
      · exact fun b o hbe hb => hs₇.extBut b o hbe (hs₆.extBut b o hbe (hs₅.extBut b o hbe (hk₄ b o hbe hb)))
/-- what one step of the zip leaves -/
structure ZipStep (h h' : Heap) (z TI TO i1 i2 l1 l2 : Addr) (i : Nat) (x y : Value) : Prop where
  zz : ZipAny h' z TI TO
  pp : ∃ a b, IsPair h' TO a b
  aa : h'.IsTupleIter i1 l1 (i + 1)
  bb : h'.IsTupleIter i2 l2 (i + 1)
  nn : IsPair h' h.objs.size x y
  ss : h'.objs.size = h.objs.size + 1
  kk : ∀ c o, c ≠ z → c ≠ TO → c ≠ i1 → c ≠ i2 → h.get? c = some o → h'.get? c = some o
theorem pyNext_enumZ_item {e z TI TO i1 i2 l1 l2 : Addr} {i : Nat} {c : Int} {old : Value} {xs ys : Array Value} {x y a b : Value} {Q : Option Value → Shared → Prop} (D : ZipApart z TI TO i1 i2 l1 l2)
    (ne : e ≠ z ∧ e ≠ TO ∧ e ≠ i1 ∧ e ≠ i2) (he : IsEnum s.heap e z c old) (hz : ZipAny s.heap z TI TO) (hTI : IsPair s.heap TI (.ref i1) (.ref i2)) (hTO : IsPair s.heap TO a b)
    (h1 : s.heap.IsTupleIter i1 l1 i) (h2 : s.heap.IsTupleIter i2 l2 i) (hl1 : s.heap.IsTuple l1 xs) (hl2 : s.heap.IsTuple l2 ys) (hx : xs[i]? = some x) (hy : ys[i]? = some y)
    (hQ : ∀ h₁ h' tk, ZipStep s.heap h₁ z TI TO i1 i2 l1 l2 i x y → IsEnumOut h' e z (c + 1) (.ref s.heap.objs.size) h₁.objs.size → h'.get? h₁.objs.size = some { cls := .type "tuple", data := .seq #[.int c tk, .ref s.heap.objs.size] } → h'.objs.size = h₁.objs.size + 1 →
      (∀ b o, b ≠ e → h₁.get? b = some o → h'.get? b = some o) → Q (some (.ref h₁.objs.size)) { s with heap := h', toks := tk + 1 }) :
    wpAny (model prog w) A (pyNext (.ref e)) Q E s := by
  have hT : s.TypeIs (.ref e) "enumerate" := ⟨_, he, rfl⟩
  unfold pyNext
  exact wpAny_bind (wpAny_attempt (wpAny_callSpecial?_slot (name := Str.ofString "__next__") hT F.slot_enumerate_next
    (wpAny_call_entry F.slot_enumerate_next hT F.entry_enumerate_next
      (enumI_next_item (R := fun h₁ => ZipStep s.heap h₁ z TI TO i1 i2 l1 l2 i x y) he (fun Q' q => nextOf_zipA hz (zipA_next_item D hz hTI hTO h1 h2 hl1 hl2 hx hy fun h' a1 a2 a3 a4 a5 a6 a7 => q h' ⟨a1, a2, a3, a4, a5, a6, a7⟩))
        (fun h₁ r => r.kk _ _ ne.1 ne.2.1 ne.2.2.1 ne.2.2.2 he) fun h₁ h' tk a1 a2 a3 a4 a5 => wpAny_pure (hQ h₁ h' tk a1 a2 a3 a4 a5)) (F.args_enumerate_next_1 _))))
theorem pyNext_enumZ_end {e z TI TO i1 i2 l1 l2 : Addr} {i : Nat} {c : Int} {old : Value} {xs ys : Array Value} {a b : Value} {Q : Option Value → Shared → Prop} (hh : A.handled = none) (D : ZipApart z TI TO i1 i2 l1 l2)
    (he : IsEnum s.heap e z c old) (hz : ZipAny s.heap z TI TO) (hTI : IsPair s.heap TI (.ref i1) (.ref i2)) (hTO : IsPair s.heap TO a b)
    (h1 : s.heap.IsTupleIter i1 l1 i) (h2 : s.heap.IsTupleIter i2 l2 i) (hl1 : s.heap.IsTuple l1 xs) (hl2 : s.heap.IsTuple l2 ys) (hend : xs[i]? = none ∨ ys[i]? = none)
    (hQ : ∀ h', (∀ c o, c ≠ z → c ≠ TO → c ≠ i1 → c ≠ i2 → s.heap.get? c = some o → h'.get? c = some o) → Q none { s with heap := h' }) : wpAny (model prog w) A (pyNext (.ref e)) Q E s := by
  have hT : s.TypeIs (.ref e) "enumerate" := ⟨_, he, rfl⟩
  obtain ⟨f0, f1, hzg, _⟩ := id hz
  have hTz : s.TypeIs (.ref z) "zip" := ⟨_, hzg, rfl⟩
  unfold pyNext
  refine wpAny_bind (wpAny_attempt (wpAny_callSpecial?_slot (name := Str.ofString "__next__") hT F.slot_enumerate_next
    (wpAny_call_entry F.slot_enumerate_next hT F.entry_enumerate_next ?_ (F.args_enumerate_next_1 _))))
  show wpAny _ _ (field (.ref e) 2 >>= _) _ _ _
  refine wpAny_bind (wpAny_field he rfl (x := .ref z) rfl ?_)
  refine wpAny_bind ?_
  show wpAny _ _ (Builtin.SmallTypes.nextOf (.ref z)) _ _ _
  unfold Builtin.SmallTypes.nextOf
  refine wpAny_bind (wpAny_callSpecial?_slot (name := Str.ofString "__next__") hTz F.slot_zip_next (wpAny_call_entry F.slot_zip_next hTz F.entry_zip_next (zipA_next_end hh D hz hTI hTO h1 h2 hl1 hl2 hend fun h' x hk hx => ?_) (F.args_zip_next_1 _)))
  obtain ⟨o, ho, hc⟩ := hx
  refine wpAny_bind (wpAny_isInstance (T := "StopIteration") (b := true) ⟨o, ho, hc⟩ isSubtype_stop ?_)
  exact wpAny_pure (hQ _ hk)
end
def ItzE (K : PySem.W.Frag) (a b : Addr) : It :=
  ⟨fun i H => ∃ (xs ys : List V) (x y : V), SqT K H a xs ∧ SqT K H b ys ∧ xs[i]? = some x ∧ ys[i]? = some y,
    fun i H v H' => ∃ T U x y, v = .ref T ∧ H U = none ∧ H T = none ∧ T ≠ U ∧ H' = upd (upd H U (.tup [x, y])) T (.tup [.int (i : Nat), .ref U]) ∧ (∀ xs, SqT K H a xs → xs[i]? = some x) ∧ ∀ ys, SqT K H b ys → ys[i]? = some y,
    fun i H => ∃ xs ys : List V, SqT K H a xs ∧ SqT K H b ys ∧ (xs.length ≤ i ∨ ys.length ≤ i)⟩
/-- what a turn gives: the pair in a pair -/
def YEnumZ (xs ys : List V) : Nat → Hp → V → Hp → Prop := fun i H v H' => ∃ T U x y, v = .ref T ∧ H U = none ∧ H T = none ∧ T ≠ U ∧ H' = upd (upd H U (.tup [x, y])) T (.tup [.int (i : Nat), .ref U]) ∧ xs[i]? = some x ∧ ys[i]? = some y
theorem walk_enumZ {K : PySem.W.Frag} {a b : Addr} {xs ys : List V} {n : Nat} (hn : n = min xs.length ys.length) : Walk (ItzE K a b) n (fun H => SqT K H a xs ∧ SqT K H b ys) (YEnumZ xs ys) := by
  subst hn
  refine ⟨fun i _ hi q => ?_, fun _ q => ⟨xs, ys, q.1, q.2, by omega⟩, fun i H v H' _ q y => ?_⟩
  · have h1 : i < xs.length := by omega
    have h2 : i < ys.length := by omega
    exact ⟨xs, ys, xs[i], ys[i], q.1, q.2, by simp [h1], by simp [h2]⟩
  · obtain ⟨T, U, x, z, h1, h2, h3, h4, h5, h6, h7⟩ := y
    exact ⟨T, U, x, z, h1, h2, h3, h4, h5, h6 xs q.1, h7 ys q.2⟩
theorem turn_enumZ {P : Program} {w : World} {K : PySem.W.Frag} {elts : List Expr} {kk : Nat} {tpos : Pos} {a b e z TI TO i1 i2 : Addr} (D : ZipApart z TI TO i1 i2 a b) (ne : e ≠ z ∧ e ≠ TI ∧ e ≠ TO ∧ e ≠ i1 ∧ e ≠ i2) :
    Turn P w K (.Tuple elts kk tpos) (ItzE K a b) [e, z, TI, TO, i1, i2] e (fun i h => (∃ old, IsEnum h e z ((i : Nat) : Int) old) ∧ ZipAny h z TI TO ∧ IsPair h TI (.ref i1) (.ref i2) ∧ (∃ x y, IsPair h TO x y) ∧ h.IsTupleIter i1 a i ∧ h.IsTupleIter i2 b i) where
  mem := by simp
  obj := fun i h st c hc => by
    obtain ⟨⟨old, he⟩, ⟨f0, f1, hz, _⟩, hTI, ⟨x, y, hTO⟩, ⟨o1, e1, _, d1⟩, ⟨o2, e2, _, d2⟩⟩ := st
    have e' : c = e ∨ c = z ∨ c = TI ∨ c = TO ∨ c = i1 ∨ c = i2 := by simpa using hc
    rcases e' with q | q | q | q | q | q
    · rw [q]; exact ⟨_, he, fun v q => nomatch q⟩
    · rw [q]; exact ⟨_, hz, fun v q => nomatch q⟩
    · rw [q]; exact ⟨_, hTI, fun v q => nomatch q⟩
    · rw [q]; exact ⟨_, hTO, fun v q => nomatch q⟩
    · rw [q]; exact ⟨o1, e1, fun v q => by rw [d1] at q; cases q⟩
    · rw [q]; exact ⟨o2, e2, fun v q => by rw [d2] at q; cases q⟩
  keep := fun i h h' st k => by
    obtain ⟨⟨old, he⟩, ⟨f0, f1, hz, hf⟩, hTI, ⟨x, y, hTO⟩, h1, h2⟩ := st
    exact ⟨⟨old, k e (by simp) _ he⟩, ⟨f0, f1, k z (by simp) _ hz, hf⟩, k TI (by simp) _ hTI, ⟨x, y, k TO (by simp) _ hTO⟩, h1.at fun o q => k i1 (by simp) o q, h2.at fun o q => k i2 (by simp) o q⟩
  item := by
    intro X hP hw hK hc i pins s σ H E I hf st hg
    subst hP hw hK
    obtain ⟨⟨old, he⟩, hz, hTI, ⟨x0, y0, hTO⟩, h1, h2⟩ := st
    obtain ⟨xs, ys, x, y, hqx, hqy, hx, hy⟩ := hg
    obtain ⟨its, rv, p, _⟩ := I.tuple hqx
    obtain ⟨its2, rv2, p2, _⟩ := I.tuple hqy
    obtain ⟨u, hu, ru⟩ := rv.get hx
    obtain ⟨u2, hu2, ru2⟩ := rv2.get hy
    have hel : e < s.heap.objs.size := Heap.lt_size he
    have hlts : ∀ c ∈ [e, z, TI, TO, i1, i2], c < s.heap.objs.size := fun c hcm => by
      obtain ⟨f0, f1, hzg, _⟩ := hz
      have e' : c = e ∨ c = z ∨ c = TI ∨ c = TO ∨ c = i1 ∨ c = i2 := by simpa using hcm
      rcases e' with q | q | q | q | q | q
      · rw [q]; exact hel
      · rw [q]; exact Heap.lt_size hzg
      · rw [q]; exact Heap.lt_size hTI
      · rw [q]; exact Heap.lt_size hTO
      · rw [q]; obtain ⟨_, e1, _⟩ := h1; exact Heap.lt_size e1
      · rw [q]; obtain ⟨_, e2, _⟩ := h2; exact Heap.lt_size e2
    refine pyNext_enumZ_item D ⟨ne.1, ne.2.2.1, ne.2.2.2.1, ne.2.2.2.2⟩ he hz hTI hTO h1 h2 p p2 (x := u) (y := u2) (by simpa using hu) (by simpa using hu2) fun h₁ h' tk st1 ho hT hsz hk => ?_
    refine ⟨_, rfl, wpAny_letOwnedTupleGo_enum (s := { s with heap := h', toks := tk + 1 }) ho fun h'' he'' sb => ?_⟩
    have hU1 : h₁.get? s.heap.objs.size = some { cls := .type "tuple", data := .seq #[u, u2] } := st1.nn
    have new1 : ObjOk X.prog X.w (upd H s.heap.objs.size (.tup [x, y])) h₁ s.heap.objs.size (.tup [x, y]) :=
      ⟨by show 2 ≤ sizeLine; decide, [u, u2], .cons ru (.cons ru2 .nil), ⟨_, hU1, rfl, _, rfl⟩⟩
    have I1 : Inv X pins σ (upd H s.heap.objs.size (.tup [x, y])) { s with heap := h₁ } :=
      I.turnedNew (t' := s.toks) (ch := [e, z, TI, TO, i1, i2]) (fun c o hb q => st1.kk c o (fun q' => hb (by simp [q'])) (fun q' => hb (by simp [q'])) (fun q' => hb (by simp [q'])) (fun q' => hb (by simp [q'])) q) hf (Nat.le_refl _) new1
    have hel1 : e < h₁.objs.size := by rw [st1.ss]; exact Nat.lt_succ_of_lt hel
    have hup : ∀ c o, c ≠ e → h₁.get? c = some o → h''.get? c = some o := fun c o n q => (sb.2 c n).trans (hk c o n q)
    have hT2 : h''.get? h₁.objs.size = some { cls := .type "tuple", data := .seq #[.int i tk, .ref s.heap.objs.size] } := (sb.2 _ (Nat.ne_of_gt hel1)).trans hT
    have new2 : ObjOk X.prog X.w (upd (upd H s.heap.objs.size (.tup [x, y])) h₁.objs.size (.tup [.int (i : Nat), .ref s.heap.objs.size])) h'' h₁.objs.size (.tup [.int (i : Nat), .ref s.heap.objs.size]) :=
      ⟨by show 2 ≤ sizeLine; decide, [.int i tk, .ref s.heap.objs.size], .cons ⟨_, rfl⟩ (.cons rfl .nil), ⟨_, hT2, rfl, _, rfl⟩⟩
    have fe : FpOk X pins (upd H s.heap.objs.size (.tup [x, y])) e := by
      obtain ⟨g0, g1⟩ := hf e (by simp)
      exact ⟨by rw [upd_ne (Nat.ne_of_lt hel)]; exact g0, g1⟩
    have I2 : Inv X pins σ (upd (upd H s.heap.objs.size (.tup [x, y])) h₁.objs.size (.tup [.int (i : Nat), .ref s.heap.objs.size])) { s with heap := h'', toks := tk + 1 } :=
      I1.turnedNew (t' := tk + 1) (ch := [e]) (fun c o hb q => hup c o (fun q' => hb (by simp [q'])) q) (fun c hcm => by rw [List.mem_singleton.mp hcm]; exact fe) (Nat.le_refl _) new2
    have fT : H h₁.objs.size = none := I.hok.fresh (by rw [st1.ss]; exact Nat.le_succ _)
    have nTU : h₁.objs.size ≠ s.heap.objs.size := by rw [st1.ss]; exact Nat.succ_ne_self _
    obtain ⟨g0, g1, hz1, hzf⟩ := st1.zz
    refine ⟨.ref h₁.objs.size, _, I2, rfl, ⟨_, _, x, y, rfl, I.hok.fresh (Nat.le_refl _), fT, nTU, rfl, fun l hl => by rw [I.tuple_inj hl hqx]; exact hx, fun l hl => by rw [I.tuple_inj hl hqy]; exact hy⟩, ⟨⟨.ref s.heap.objs.size, ?_⟩, ⟨g0, g1, hup _ _ ne.1.symm hz1, hzf⟩, ?_, ?_, ?_, ?_⟩, fun c hcm => ?_⟩
    · have e1 : ((i + 1 : Nat) : Int) = (i : Int) + 1 := by omega
      rw [e1]; exact he''
    · exact hup _ _ ne.2.1.symm (st1.kk _ _ D.TIz D.TITO D.TIi1 D.TIi2 hTI)
    · obtain ⟨a', b', hp'⟩ := st1.pp
      exact ⟨a', b', hup _ _ ne.2.2.1.symm hp'⟩
    · exact st1.aa.at fun o q => hup _ _ ne.2.2.2.1.symm q
    · exact st1.bb.at fun o q => hup _ _ ne.2.2.2.2.symm q
    · have hlt := hlts c hcm
      rw [upd_ne (Nat.ne_of_lt (by rw [st1.ss]; exact Nat.lt_succ_of_lt hlt)), upd_ne (Nat.ne_of_lt hlt)]
      exact (hf c hcm).1
  done := by
    intro X hP hw hK hc i pins s σ H E I hf st hg
    subst hP hw hK
    obtain ⟨⟨old, he⟩, hz, hTI, ⟨x0, y0, hTO⟩, h1, h2⟩ := st
    obtain ⟨xs, ys, hqx, hqy, hend⟩ := hg
    obtain ⟨its, rv, p, _⟩ := I.tuple hqx
    obtain ⟨its2, rv2, p2, _⟩ := I.tuple hqy
    have l1 := rv.length
    have l2 := rv2.length
    have hee : its.toArray[i]? = none ∨ its2.toArray[i]? = none := by
      rcases hend with q | q
      · exact .inl (by simp; omega)
      · exact .inr (by simp; omega)
    exact pyNext_enumZ_end (I.ok.hd hc) D he hz hTI hTO h1 h2 p p2 hee fun h' hk => ⟨rfl, I.turnedL (t' := s.toks) (ch := [e, z, TI, TO, i1, i2]) (fun c o hb q =>
      hk c o (fun q' => hb (by simp [q'])) (fun q' => hb (by simp [q'])) (fun q' => hb (by simp [q'])) (fun q' => hb (by simp [q'])) q) hf⟩
  self := fun A i s Q E st h => let ⟨⟨_, he⟩, _⟩ := st; wpAny_pyIter_enum he h
theorem meets_enum_newZ {z TI TO : Addr} :
    Meets (Builtin.«enumerate.__new__» ⟨[.type "enumerate", .ref z], []⟩) (fun _ R s => ZipG s.heap z TI TO .none (.bool false) false ∧
      R (.ok (.ret (.ref s.heap.objs.size))) { s with heap := s.heap.push { cls := .type "enumerate", data := .fields #[.none, .bool false, .ref z, rawInt 0, .none, .none] } }) :=
  .of_wp fun prog w A R s h => by
    obtain ⟨hp, g, d, tk, os⟩ := s; obtain ⟨h1, h⟩ := h
    have hsub := sub_enumerate
    have q1 : ∀ {A' : Around} {E : Value → Shared → Prop} {Q : Value → Shared → Prop}, Q (.ref z) ⟨hp, g, d, tk, os⟩ → wpAny (model prog w) A' (pyIter (.ref z)) Q E ⟨hp, g, d, tk, os⟩ :=
      fun q => pyIter_zipG (s := ⟨hp, g, d, tk, os⟩) h1 q
    wp_walk using q1
    refine wpAny_stack_any fun st => wpAny_pure ?_
    split
    · rename_i c _ _ _ _ _
      cases (c == Value.type "enumerate")
      · wp_walk using q1
        exact ⟨_, rfl, h⟩
      · wp_walk using q1
        exact ⟨_, rfl, h⟩
    · wp_walk using q1
      exact ⟨_, rfl, h⟩
theorem enum_beginsZ {prog : Program} {w : World} {A : Around} {E : Value → Shared → Prop} {s : Shared} {z TI TO : Addr} {Q : Value → Shared → Prop} (hz : ZipG s.heap z TI TO .none (.bool false) false)
    (h : ∀ h', IsEnum h' s.heap.objs.size z 0 .none → (∀ b o, s.heap.get? b = some o → h'.get? b = some o) → Q (.ref s.heap.objs.size) { s with heap := h' }) :
    wpAny (model prog w) A (call (.type "enumerate") [.ref z]) Q E s := by
  refine callType_new F.called_enumerate (by decide) (F.typeCall_enumerate_1 _) (F.newCall_enumerate_1 _) (fun obj => F.args_object_init_2 obj _) F.entry_enumerate_new (meets_enum_newZ (TI := TI) (TO := TO)) ⟨hz, ?_⟩
  show _ ∧ _
  have he : IsEnum (s.heap.push { cls := .type "enumerate", data := .fields #[.none, .bool false, .ref z, rawInt 0, .none, .none] }) s.heap.objs.size z 0 .none := Heap.get?_push_size _ rfl
  exact ⟨⟨_, he, rfl⟩, h _ he fun b o x => Heap.get?_push_of_some _ x⟩
def iEnumZ (K : PySem.W.Frag) (ta : TA) : TI := fun σ H R => ta σ H fun vs H1 => ∃ a b xs ys, vs = [.ref a, .ref b] ∧ SqT K H1 a xs ∧ SqT K H1 b ys ∧ R (ItzE K a b) H1
theorem pi_enumZip {X : Cx} {e e2 : Expr} {ta : TA} {p pos p2 pos2 tpos : Pos} {elts : List Expr} {kk : Nat} (hg : Gl X "enumerate") (hm : X.mg "enumerate" = none) (hg2 : Gl X "zip") (hm2 : X.mg "zip" = none) (ha : PA X [e, e2] ta)
    (hs0 : starEach [.Call (.Name "zip" p2) [e, e2] [] pos2] X.env = [(false, eval (.Call (.Name "zip" p2) [e, e2] [] pos2) X.env)] := by rfl)
    (hs : starEach [e, e2] X.env = (false, eval e X.env) :: starEach [e2] X.env := by rfl) (hpl : (backTo pos2 (starEach [e2] X.env)).any (·.1) = false := by rfl) :
    PI X (.Tuple elts kk tpos) (.Call (.Name "enumerate" p) [.Call (.Name "zip" p2) [e, e2] [] pos2] [] pos) (iEnumZ X.K ta) := by
  refine ⟨fun pins s σ H R I h => ?_⟩
  refine Call_ (ld_blt I hg hm boot_enumerate ?_)
  refine PyProof.Rows.callWith_type1 (PyProof.Rows.args_cons ?_ hs0) hs0 rfl
  refine Call_ (ld_blt I hg2 hm2 PyProof.Rows.boot_zip (PyProof.Rows.callWith_type1 (thn (ha.run pos2 pins s σ H _ I h) fun us s1 ⟨vs, H1, I1, r1, q1⟩ => ?_) hs hpl))
  obtain ⟨a, b, xs, ys, rfl, hqx, hqy, q⟩ := q1
  cases r1 with
  | cons r rr =>
    cases rr with
    | cons r' rr =>
      cases rr
      cases r
      cases r'
      obtain ⟨its, rv, p1, _⟩ := I1.tuple hqx
      obtain ⟨its2, rv2, p2', _⟩ := I1.tuple hqy
      obtain ⟨o1, ho1, _⟩ := id p1
      obtain ⟨o2, ho2, _⟩ := id p2'
      refine call_zipT (show s1.heap.IsTuple a its.toArray from p1) (show s1.heap.IsTuple b its2.toArray from p2') fun h' hz hTI hTO h1 h2 hsz hk => PyProof.Rows.args_nil ?_
      refine enum_beginsZ (s := { s1 with heap := h' }) hz fun h2' he hk2 => wpAny_pyIter_enum he ?_
      have I2 : Inv X pins σ H1 { s1 with heap := h2' } := I1.kept (t' := s1.toks) fun c o x => hk2 c o (hk c o x)
      have hz5 : ({ s1 with heap := h' } : Shared).heap.objs.size = s1.heap.objs.size + 5 := hsz
      rw [hz5] at he ⊢
      refine ⟨s1.heap.objs.size + 5, [s1.heap.objs.size + 5, s1.heap.objs.size + 4, s1.heap.objs.size + 2, s1.heap.objs.size + 3, s1.heap.objs.size, s1.heap.objs.size + 1], _, _, H1, rfl, I2,
        turn_enumZ (PySem.W.ktu_apart s1.heap.objs.size a b (Heap.lt_size ho1) (Heap.lt_size ho2)) ⟨?_, ?_, ?_, ?_, ?_⟩, ⟨⟨.none, he⟩, ⟨_, _, hk2 _ _ hz, .inl rfl⟩, hk2 _ _ hTI, ⟨_, _, hk2 _ _ hTO⟩, h1.at fun o x => hk2 _ o x, h2.at fun o x => hk2 _ o x⟩, fun c hcm => ?_, q⟩
      · exact Nat.succ_ne_self _
      · exact fun x => by have : s1.heap.objs.size + 5 = s1.heap.objs.size + 2 := x; exact absurd (Nat.add_left_cancel this) (by decide)
      · exact fun x => by have : s1.heap.objs.size + 5 = s1.heap.objs.size + 3 := x; exact absurd (Nat.add_left_cancel this) (by decide)
      · exact fun x => by have : s1.heap.objs.size + 5 = s1.heap.objs.size + 0 := x; exact absurd (Nat.add_left_cancel this) (by decide)
      · exact fun x => by have : s1.heap.objs.size + 5 = s1.heap.objs.size + 1 := x; exact absurd (Nat.add_left_cancel this) (by decide)
      · have e' : c = s1.heap.objs.size + 5 ∨ c = s1.heap.objs.size + 4 ∨ c = s1.heap.objs.size + 2 ∨ c = s1.heap.objs.size + 3 ∨ c = s1.heap.objs.size ∨ c = s1.heap.objs.size + 1 := by simpa using hcm
        have hle : s1.heap.objs.size ≤ c := by
          rcases e' with z | z | z | z | z | z <;> rw [z] <;> first | exact Nat.le_add_right _ _ | exact Nat.le_refl _
        exact I1.fpOk hle (I1.hok.fresh hle)
end Vg

namespace Vg
open PySem PySem.Spec PyProof.Rows L2 RZ RT
/-- the inner walk of two clauses, by an invariant -/
theorem lc2_by {J1 : It} {n1 : Nat} {G1 : Hp → Prop} {Y1 : Nat → Hp → V → Hp → Prop} (w : Walk J1 n1 G1 Y1) {g1 : TG} {te : TE} {vs1 : List Nat} {σ2 : L2.St} {H4 : Hp} {D : Addr} {Nx : Hp → Prop} (Pv : Nat → Hp → Prop) (h0 : Pv 0 H4) (hG : ∀ j H, j ≤ n1 → Pv j H → G1 H)
    (hs : ∀ j x H H', j < n1 → Pv j H → Y1 j H x H' → g1 x (wipe σ2 vs1) H' fun σ3 H5 => wipe σ3 vs1 = wipe σ2 vs1 ∧ te σ3 H5 fun y H7 => ∃ acc, H7 D = some (.lst acc) ∧ acc.length < sizeLine ∧ Pv (j + 1) (upd H7 D (.lst (acc ++ [y]))))
    (hd : ∀ H, Pv n1 H → Nx H) :
    ∃ W1 : Nat → Nat → Hp → Prop, (∃ m, W1 0 m H4) ∧ ∀ j k H, W1 j k H →
      (J1.stop j H ∧ Nx H) ∨ (J1.go j H ∧ ∃ Nx1 : Hp → Prop, (∀ H', Nx1 H' → ∃ k', k' < k ∧ W1 (j + 1) k' H') ∧ ∀ x H', J1.yld j H x H' → g1 x (wipe σ2 vs1) H' fun σ3 H5 => wipe σ3 vs1 = wipe σ2 vs1 ∧ tYes σ3 H5 fun b H6 =>
        if b = true then te σ3 H6 fun y H7 => ∃ acc, H7 D = some (.lst acc) ∧ acc.length < sizeLine ∧ Nx1 (upd H7 D (.lst (acc ++ [y]))) else Nx1 H6) := by
  refine ⟨fun j k H => k = n1 - j ∧ j ≤ n1 ∧ Pv j H, ⟨n1, by simp, Nat.zero_le _, h0⟩, ?_⟩
  rintro j k H ⟨rfl, hj, p⟩
  have q := hG j H hj p
  by_cases hlt : j < n1
  · exact .inr ⟨w.goes j H hlt q, Pv (j + 1), fun H' p' => ⟨n1 - (j + 1), by omega, rfl, hlt, p'⟩, fun x H' y => hs j x H H' hlt p (w.yields j H x H' hlt q y)⟩
  · have e : j = n1 := by omega
    subst e
    exact .inl ⟨w.stops H q, hd H p⟩
/-- how far a side reaches -/
def reachI (q : (Int × Int) × Int) : Int := (q.1.2 - q.1.1 - 1) * (if q.2 < 0 then -q.2 else q.2)
/-- a side of the widest reach -/
def WS (ss : List Int) (box : Box) (r i : Int) : Prop := (box = [] ∧ r = 0 ∧ i = 0) ∨
  ((∃ (k : Nat) (p : Int × Int) (s : Int), i = k ∧ box[k]? = some p ∧ ss[k]? = some s ∧ r = reachI (p, s)) ∧ ∀ (j : Nat) (p : Int × Int) (s : Int), box[j]? = some p → ss[j]? = some s → reachI (p, s) ≤ r)
def pd (p : Int × Int) : PyData := .tuple [.int p.1, .int p.2]
def bestP (y : Int × Int) (r : List (Int × Int)) : Int × Int := r.foldl (fun a b => if a.1 < b.1 ∨ (a.1 = b.1 ∧ a.2 < b.2) then b else a) y
theorem maxD_pd : ∀ (r : List (Int × Int)) (y : Int × Int), PySem.W.maxD (pd y) (r.map pd) = pd (bestP y r)
  | [], _ => rfl
  | b :: r, y => by
    show PySem.W.maxD (if PySem.W.dataLt (pd y) (pd b) = true then pd b else pd y) (r.map pd) = pd (bestP (if y.1 < b.1 ∨ (y.1 = b.1 ∧ y.2 < b.2) then b else y) r)
    have e : PySem.W.dataLt (pd y) (pd b) = decide (y.1 < b.1 ∨ (y.1 = b.1 ∧ y.2 < b.2)) := PySem.W.dataLt_ii _ _ _ _
    rw [e]
    by_cases c : y.1 < b.1 ∨ (y.1 = b.1 ∧ y.2 < b.2)
    · rw [if_pos (decide_eq_true c), if_pos c]; exact maxD_pd r b
    · rw [if_neg (by simpa using c), if_neg c]; exact maxD_pd r y
theorem bestP_mem : ∀ (r : List (Int × Int)) (y : Int × Int), bestP y r ∈ y :: r ∧ ∀ q ∈ y :: r, q.1 ≤ (bestP y r).1
  | [], y => ⟨List.mem_cons_self .., fun q hq => by rw [List.mem_singleton.mp hq]; exact Int.le_refl _⟩
  | b :: r, y => by
    show bestP (if y.1 < b.1 ∨ (y.1 = b.1 ∧ y.2 < b.2) then b else y) r ∈ _ ∧ ∀ q ∈ y :: b :: r, q.1 ≤ (bestP (if y.1 < b.1 ∨ (y.1 = b.1 ∧ y.2 < b.2) then b else y) r).1
    by_cases c : y.1 < b.1 ∨ (y.1 = b.1 ∧ y.2 < b.2)
    · rw [if_pos c]
      obtain ⟨h1, h2⟩ := bestP_mem r b
      refine ⟨List.mem_cons_of_mem _ h1, fun q hq => ?_⟩
      rcases List.mem_cons.mp hq with rfl | hq
      · have := h2 b (List.mem_cons_self ..); omega
      · exact h2 q hq
    · rw [if_neg c]
      obtain ⟨h1, h2⟩ := bestP_mem r y
      refine ⟨?_, fun q hq => ?_⟩
      · rcases List.mem_cons.mp h1 with h | h
        · rw [h]; exact List.mem_cons_self ..
        · exact List.mem_cons_of_mem _ (List.mem_cons_of_mem _ h)
      · rcases List.mem_cons.mp hq with rfl | hq
        · exact h2 q (List.mem_cons_self ..)
        · rcases List.mem_cons.mp hq with rfl | hq
          · have := h2 y (List.mem_cons_self ..); omega
          · exact h2 q (List.mem_cons_of_mem _ hq)
theorem pd_inj {p q : Int × Int} (h : pd p = pd q) : p = q := by
  injection h with h; injection h with h1 h; injection h1 with h1; injection h with h2; injection h2 with h2
  exact Prod.ext h1 h2
theorem alike_pd (ps : List (Int × Int)) : PySem.W.AlikeAll (ps.map pd) := by
  refine ⟨fun x hx y hy => ?_, fun x hx => ?_⟩
  · obtain ⟨a, _, rfl⟩ := List.mem_map.mp hx
    obtain ⟨b, _, rfl⟩ := List.mem_map.mp hy
    rfl
  · obtain ⟨a, _, rfl⟩ := List.mem_map.mp hx
    exact fun h => nomatch h
theorem depth_pd : ∀ ps : List (Int × Int), PyData.depthAll (ps.map pd) ≤ 20
  | [] => Nat.zero_le _
  | p :: r => by
    have h := depth_pd r
    show max (PyData.depth (pd p)) (PyData.depthAll (r.map pd)) ≤ 20
    have e : PyData.depth (pd p) ≤ 2 := by simp [pd, PyData.depth, PyData.depthAll]
    omega
theorem dp_pairs {K : PySem.W.Frag} {H : Hp} : ∀ {xs : List V} {ps : List (Int × Int)}, Paired (PairR H) xs ps → DpAll K H xs (ps.map pd)
  | _, _, .nil => .nil
  | _, _, .cons (b := p) ⟨a, e, h⟩ t => by
    subst e
    exact .cons (.tup (SqT.of h) (dp_ints [p.1, p.2])) (dp_pairs t)
section
variable {P : Program} {w : World} {K : PySem.W.Frag} {mg : Str → Option Value} {base : Heap}
def sp_widest_side (K : PySem.W.Frag) : Sp := fun vs H Q _ => ∃ v x u box, vs = [v, u] ∧ VwR K H v x ∧ VOK x ∧ BoxR H u box ∧ BB x.ls.length box ∧ ∀ w H' r i, Same H H' → PairR H' w (r, i) → WS x.ss box r i → Q w H'
abbrev N_widest_side : List Str := ["view", "box", "reach", "side", "low", "high", "stride"]
theorem sc_widest_side : FnScope N_widest_side ["view", "box"] (defScope s_widest_side) := ⟨rfl, rfl, rfl, by decide +kernel, rfl, by decide +kernel, by decide +kernel⟩
theorem ok_widest_side (T : Txt K mg) : GF P w K mg base 2 "widest_side" ["view", "box"] (sp_widest_side K) := by
  have nd := sc_widest_side.nd
  refine gf_of T (d := d_widest_side) (x := "widest_side") rfl rfl rfl (i := 39) rfl (by decide +kernel) sc_widest_side (fun _ _ _ _ _ _ us hl => match us, hl with | [_, _], _ => rfl) (fun vs H Q E h => ?_) (fun cdv A outer s H vs Q E hr h => ?_)
  · obtain ⟨v, x, u, box, rfl, _⟩ := h; rfl
  · refine ⟨_, (pss_cons (ps_setLc (i := 2) (own := [("side", 3), ("stride", 6), ("low", 4), ("high", 5)]) (g := (gTup K 2 (gCons (gName 3) (gCons (gTup K 2 (gCons (gTup K 2 (gCons (gName 4) (gCons (gName 5) gNil))) (gCons (gName 6) gNil))) gNil)))) (tt := tYes) rfl nd rfl rfl (sw_true rfl rfl rfl (by decide +kernel)) (pi_enumZip rfl (T.free "enumerate") rfl (T.free "zip") (pa_cons (pv 1) (pa_cons (pe_methG0 (ok_View_strides T) (hr.mono (by decide)) (pv 0)) pa_nil))) (blkOk_by (N := N_widest_side) (sc := defScope s_widest_side) (by decide +kernel)) (fun _ _ _ _ _ => (pg_tup rfl (pgs_cons (pg_name (i := 3) nd rfl (Or.inl rfl)) (pgs_cons (pg_tup rfl (pgs_cons (pg_tup rfl (pgs_cons (pg_name (i := 4) nd rfl (Or.inl rfl)) (pgs_cons (pg_name (i := 5) nd rfl (Or.inl rfl)) pgs_nil))) (pgs_cons (pg_name (i := 6) nd rfl (Or.inl rfl)) pgs_nil))) pgs_nil)))) (fun _ _ _ _ _ => pts_nil) (fun _ _ _ _ _ => (pe_tup (pa_cons (pe_op op_mul (pe_op op_sub (pe_op op_sub (pv 5) (pv 4)) pe_int) (pe_callB call_abs rfl (T.free "abs") (by decide +kernel) (pa_cons (pv 6) pa_nil))) (pa_cons (pv 3) pa_nil)))))
      (pss_one (ps_ret (pe_callBK (cr_maxL rfl hr.units) rfl (T.free "max") (by decide +kernel) (pa_cons (pv 2) pa_nil) (pk_cons (pe_tup (pa_cons pe_int (pa_cons pe_int pa_nil))) pk_nil))))), ?_⟩
    obtain ⟨v, x, u, box, rfl, hV, hO, hbx, hB, q⟩ := h
    obtain ⟨c, vs, rfl, hc, hp⟩ := id hbx
    obtain ⟨a, dx, la, sa0, rfl, h1, h2, h3⟩ := id hV
    have hlen := Paired.len hp
    have hfew := hO.lens.few
    refine ⟨_, rfl, _, rfl, a, dx, _, rfl, h1, rfl, _, x, rfl, hV, fun sa hsa => ⟨c, sa, _, _, rfl, SqT.of hc, SqT.of hsa, fun D hD => ?_⟩⟩
    refine lc_map (K := K) (R := PairR) (walk_enumZ (n := box.length) (by simp [hlen, hB.len, hO.len])) mon_pair (fun i => (reachI (box.getD i (0, 0), x.ss.getD i 0), (i : Int))) (by rw [hB.len]; omega) hD (fun H' s' => ⟨SqT.of (s' _ _ hc), SqT.of (s' _ _ hsa)⟩) ?_ ?_
    · rintro i y H2 H3 Kk hi s2 ⟨t, t2, x1, x2, rfl, hU, hT, hTU, rfl, e1, e2⟩ kk
      obtain ⟨p, hpp, pa, rfl, hpa⟩ := Paired.get hp e1
      obtain ⟨st, hst, rfl⟩ := map_at e2
      have s3 : Same H2 (upd (upd H2 t2 (.tup [.ref pa, .int st])) t (.tup [.int (i : Nat), .ref t2])) := (Same.new hU).trans (Same.new (by rw [upd_ne hTU]; exact hT))
      refine ⟨t, _, rfl, SqT.of upd_same, rfl, _, _, rfl, _, _, rfl, t2, _, rfl, SqT.of ((upd_ne (Ne.symm hTU)).trans upd_same), rfl, _, _, rfl, pa, _, rfl, SqT.of (s3 _ _ (s2 _ _ hpa)), rfl, _, _, rfl, _, _, rfl, rfl, _, _, rfl, rfl, rfl, rfl, ?_⟩
      refine ⟨_, rfl, _, rfl, _, _, rfl, rfl, _, _, rfl, rfl, _, rfl, st, rfl, _, _, rfl, rfl, .inr ?_, _, rfl, by show 2 ≤ sizeLine; decide, fun z hz => kk _ _ (s3.trans (Same.new hz)) ⟨z, rfl, ?_⟩⟩
      · have := hO.str st (List.mem_of_getElem? hst)
        split <;> omega
      · rw [upd_same]
        show some (HO.tup [.int ((p.2 - p.1 - 1) * (if st < 0 then -st else st)), .int i]) = some (HO.tup [.int (reachI (box.getD i (0, 0), x.ss.getD i 0)), .int i])
        rw [getD_at hpp, getD_at (d := 0) hst]; rfl
    · intro H2 acc s2 e2 p2
      refine ⟨_, rfl, by show 2 ≤ sizeLine; decide, fun z hz => ?_⟩
      have s3 : Same H2 (upd H2 z (.tup [.int 0, .int 0])) := Same.new hz
      have p3 := Paired.mapP p2 fun _ _ h => mon_pair.up (K := K) (.of s3) h
      refine ⟨D, acc, _, _, rfl, rfl, SqL.of (s3 _ _ e2), dp_pairs p3, alike_pd _, depth_pd _, fun e => ?_, fun i y r v e hv hb => ?_⟩
      · have e0 : box = [] := by
          have := congrArg List.length e
          simp at this
          exact this
        exact q _ _ 0 0 (s2.trans s3) ⟨z, rfl, upd_same⟩ (.inl ⟨e0, rfl, rfl⟩)
      · obtain ⟨pi, hpi, hR⟩ := Paired.get p3 hv
        cases hL : (List.range box.length).map (fun i => (reachI (box.getD i (0, 0), x.ss.getD i 0), (i : Int))) with
        | nil => rw [hL] at hpi; simp at hpi
        | cons y0 r0 =>
          rw [hL] at e hb hpi
          injection e with ey er
          subst ey er
          rw [maxD_pd, List.getElem?_map, hpi] at hb
          have hb' := pd_inj (Option.some.inj hb)
          obtain ⟨m1, m2⟩ := bestP_mem r0 y0
          rw [← hb', ← hL] at m1
          rw [← hb', ← hL] at m2
          obtain ⟨k, hk, ek⟩ := List.mem_map.mp m1
          have hkl := List.mem_range.mp hk
          refine q _ _ pi.1 pi.2 (s2.trans s3) hR (.inr ⟨⟨k, box[k], x.ss[k]'(by rw [hO.len, ← hB.len]; exact hkl), ?_, List.getElem?_eq_getElem hkl, List.getElem?_eq_getElem _, ?_⟩, fun j p s hj hs => ?_⟩)
          · rw [← ek]
          · rw [← ek, getD_at (List.getElem?_eq_getElem hkl), getD_at (d := 0) (List.getElem?_eq_getElem _)]
          · have := m2 (reachI (box.getD j (0, 0), x.ss.getD j 0), (j : Int)) (List.mem_map.mpr ⟨j, List.mem_range.mpr (List.getElem?_eq_some_iff.mp hj).1, rfl⟩)
            rw [getD_at hj, getD_at (d := 0) hs] at this
            exact this
    
end
end Vg

namespace Vg
open PySem PySem.Spec PyProof.Rows L2 RZ RT
/-! ### rows of a paper -/
inductive Row where
  | bare
  | far
  | rests (d : Int)
  | split (which side at_ l r : Int)
  | rooms
def Row.vs : Row → List V
  | .bare => [.str "none"]
  | .far => [.str "far"]
  | .rests d => [.str "rests", .int d]
  | .split w s a l r => [.str "split", .int w, .int s, .int a, .int l, .int r]
  | .rooms => [.str "rooms"]
def RowR : Rep Row := fun H v row => ∃ a, v = .ref a ∧ H a = some (.tup row.vs)
theorem mon_row {K : PySem.W.Frag} : Mon K RowR := ⟨fun k ⟨a, e, h⟩ => ⟨a, e, k.tup _ _ h⟩⟩
/-- two boxes are too far, of unlike rests -/
def farB (x y : VW) (b c : Box) : Prop := spHi x.b x.ss b < spLo y.b y.ss c ∨ spHi y.b y.ss c < spLo x.b x.ss b
instance (x y : VW) (b c : Box) : Decidable (farB x y b c) := by unfold farB; infer_instance
def apart (x y : VW) (b c : Box) : Int := fcell x.b x.ss b - fcell y.b y.ss c
/-- what the leaf of two boxes may be -/
def LeafSp (x y : VW) (b c : Box) : Option Row → Prop
  | some .bare => bareB b = true ∨ bareB c = true
  | some .far => bareB b = false ∧ bareB c = false ∧ farB x y b c
  | some (.rests d) => bareB b = false ∧ bareB c = false ∧ 1 < d ∧ (∀ s ∈ within x.ss b ++ within y.ss c, d ∣ s) ∧ apart x y b c % d ≠ 0
  | none => bareB b = false ∧ bareB c = false ∧ ¬ farB x y b c
  | _ => False
def OptR {α : Type} (R : Rep α) : Rep (Option α) := fun H v o => match o with
  | none => v = .non
  | some x => R H v x
theorem two_get {α : Type} {P : V → α → Prop} {v1 v2 : V} {x y : α} (h1 : P v1 x) (h2 : P v2 y) {i : Nat} {v : V} (e : [v1, v2][i]? = some v) : P v (if i = 0 then x else y) := by
  match i, e with
  | 0, e => simp at e; subst e; exact h1
  | 1, e => simp at e; subst e; exact h2
theorem within_len {ss : List Int} {box : Box} : (within ss box).length ≤ box.length := by
  unfold within
  rw [List.length_map]
  refine Nat.le_trans (List.length_filter_le ..) ?_
  rw [List.length_zip]; omega
section
variable {P : Program} {w : World} {K : PySem.W.Frag} {mg : Str → Option Value} {base : Heap}
def sp_leaf_of (K : PySem.W.Frag) : Sp := fun vs H Q _ => ∃ v u x y b c, vs = [v, u] ∧ TwoR (VwR K) H v (x, y) ∧ VOK x ∧ VOK y ∧ TwoR BoxR H u (b, c) ∧ BB x.ls.length b ∧ BB y.ls.length c ∧ ∀ w H' lf, Same H H' → OptR RowR H' w lf → LeafSp x y b c lf → Q w H'
abbrev N_leaf_of : List Str := ["views", "boxes", "least", "greatest", "low", "high", "view", "box", "divisor", "stride", "apart"]
theorem sc_leaf_of : FnScope N_leaf_of ["views", "boxes"] (defScope s_leaf_of) := ⟨rfl, rfl, rfl, by decide +kernel, rfl, by decide +kernel, by decide +kernel⟩
theorem ok_leaf_of (T : Txt K mg) : GF P w K mg base 4 "leaf_of" ["views", "boxes"] (sp_leaf_of K) := by
  have nd := sc_leaf_of.nd
  refine gf_of T (d := d_leaf_of) (x := "leaf_of") rfl rfl rfl (i := 40) rfl (by decide +kernel) sc_leaf_of (fun _ _ _ _ _ _ us hl => match us, hl with | [_, _], _ => rfl) (fun vs H Q E h => ?_) (fun cdv A outer s H vs Q E hr h => ?_)
  · obtain ⟨v, u, x, y, b, c, rfl, _⟩ := h; rfl
  · refine ⟨_, (pss_cons (ps_if (PW.pt (pw_or (pt_val (pe_callG (ok_is_bare T) (hr.mono (by decide)) rfl (pa_cons (pe_ix ix_tup (pv 1) pe_int (fun _ _ => rfl)) pa_nil))) (pw_or1 (pt_val (pe_callG (ok_is_bare T) (hr.mono (by decide)) rfl (pa_cons (pe_ix ix_tup (pv 1) pe_int (fun _ _ => rfl)) pa_nil)))))) (pss_one (ps_ret (pe_tup (pa_cons pe_str pa_nil)))) pss_nil)
      (pss_cons (ps_asg (pe_lc (own := [("view", 6), ("box", 7)]) (g := (gTup K 2 (gCons (gName 6) (gCons (gName 7) gNil)))) (tt := tYes) rfl nd (pi_zipA rfl (T.free "zip") (pa_cons (pv 0) (pa_cons (pv 1) pa_nil))) (blkOk_by (N := N_leaf_of) (sc := defScope s_leaf_of) (by decide +kernel)) (fun _ _ _ _ _ => (pg_tup rfl (pgs_cons (pg_name (i := 6) nd rfl (Or.inl rfl)) (pgs_cons (pg_name (i := 7) nd rfl (Or.inl rfl)) pgs_nil)))) (fun _ _ _ _ _ => pts_nil) (fun _ _ _ _ _ => (pe_callG (ok_span_of T) (hr.mono (by decide)) rfl (pa_cons (pv 6) (pa_cons (pv 7) pa_nil))))) (pg_unl rfl (pgs_cons (pg_tup rfl (pgs_cons (pg_name (i := 2) nd rfl (Or.inl rfl)) (pgs_cons (pg_name (i := 3) nd rfl (Or.inl rfl)) pgs_nil))) (pgs_cons (pg_tup rfl (pgs_cons (pg_name (i := 4) nd rfl (Or.inl rfl)) (pgs_cons (pg_name (i := 5) nd rfl (Or.inl rfl)) pgs_nil))) pgs_nil))))
      (pss_cons (ps_if (PW.pt (pw_or (pt_cmpR op_lt (pv 3) (pv 4) (nomark _)) (pw_or1 (pt_cmpR op_lt (pv 5) (pv 2) (nomark _))))) (pss_one (ps_ret (pe_tup (pa_cons pe_str pa_nil)))) pss_nil)
      (pss_cons (ps_set (i := 8) nd rfl (Or.inl rfl) (pe_callG (ok_common_divisor T) (hr.mono (by decide)) rfl (pa_cons (pe_lc2 (own := [("view", 6), ("box", 7), ("stride", 9)]) (vs1 := [9]) (g := (gTup K 2 (gCons (gName 6) (gCons (gName 7) gNil)))) (g1 := (gName 9)) (tt := tYes) (tt1 := tYes) rfl nd (pi_zipA rfl (T.free "zip") (pa_cons (pv 0) (pa_cons (pv 1) pa_nil))) (blkOk_by (N := N_leaf_of) (sc := defScope s_leaf_of) (by decide +kernel)) (by decide) (fun _ _ _ _ _ => (pg_tup rfl (pgs_cons (pg_name (i := 6) nd rfl (Or.inl rfl)) (pgs_cons (pg_name (i := 7) nd rfl (Or.inl rfl)) pgs_nil)))) (fun _ _ _ _ _ => pts_nil) (fun _ _ _ _ _ => ((pi_listK K) (pe_callG (ok_strides_within T) (hr.mono (by decide)) rfl (pa_cons (pv 6) (pa_cons (pv 7) pa_nil))))) (fun _ _ _ _ _ => (pg_name (i := 9) nd rfl (Or.inl rfl))) (fun _ _ _ _ _ => pts_nil) (fun _ _ _ _ _ => (pv 9))) pa_nil)))
      (pss_cons (ps_set (i := 10) nd rfl (Or.inl rfl) (pe_op op_sub (pe_callG (ok_first_cell T) (hr.mono (by decide)) rfl (pa_cons (pe_ix ix_tup (pv 0) pe_int (fun _ _ => rfl)) (pa_cons (pe_ix ix_tup (pv 1) pe_int (fun _ _ => rfl)) pa_nil))) (pe_callG (ok_first_cell T) (hr.mono (by decide)) rfl (pa_cons (pe_ix ix_tup (pv 0) pe_int (fun _ _ => rfl)) (pa_cons (pe_ix ix_tup (pv 1) pe_int (fun _ _ => rfl)) pa_nil)))))
      (pss_cons (ps_if (PW.pt (pw_and (pt_cmpR op_gt (pv 8) pe_int (nomark _)) (pw_and1 (pt_cmpR op_ne (pe_op op_mod (pv 10) (pv 8)) pe_int (nomark _))))) (pss_one (ps_ret (pe_tup (pa_cons pe_str (pa_cons (pv 8) pa_nil))))) pss_nil)
      (pss_one (ps_ret pe_non)))))))), ?_⟩
    obtain ⟨v, u, x, y, b, c, rfl, ⟨va, v1, v2, rfl, hva, hx, hy⟩, hOx, hOy, ⟨ua, u1, u2, rfl, hua, hb, hc⟩, hBb, hBc, q⟩ := h
    have fx := hOx.lens.few
    have fy := hOy.lens.few
    refine ⟨_, rfl, ua, _, _, _, rfl, rfl, SqT.of hua, at_of (j := 0) (v := u1) rfl rfl, u1, b, rfl, hb, by rw [hBb.len]; exact fx, fun H1 s1 => ⟨bareB b, rfl, ?_⟩⟩
    by_cases bb : bareB b = true
    · rw [bb]
      exact iteT (iteT ⟨by show 1 ≤ sizeLine; decide, fun t ht => q _ _ (some .bare) (s1.trans (Same.new ht)) ⟨t, rfl, upd_same⟩ (.inl bb)⟩)
    have bb' : bareB b = false := by simpa using bb
    rw [bb']
    refine iteF ⟨_, rfl, ua, _, _, _, rfl, rfl, SqT.of (s1 _ _ hua), at_of (j := 1) (v := u2) rfl rfl, u2, c, rfl, mon_box.up (K := K) (.of s1) hc, by rw [hBc.len]; exact fy, fun H2 s2 => ⟨bareB c, rfl, ?_⟩⟩
    have s02 := s1.trans s2
    by_cases bc : bareB c = true
    · rw [bc]
      exact iteT ⟨by show 1 ≤ sizeLine; decide, fun t ht => q _ _ (some .bare) (s02.trans (Same.new ht)) ⟨t, rfl, upd_same⟩ (.inr bc)⟩
    have bc' : bareB c = false := by simpa using bc
    rw [bc']
    refine iteF ⟨_, rfl, _, rfl, va, ua, _, _, rfl, .inr ⟨SqT.of (s02 _ _ hva), SqT.of (s02 _ _ hua), fun D hD => ?_⟩⟩
    refine lc_map (K := K) (R := PairR) (walk_zipT (n := 2) (xs := [v1, v2]) (ys := [u1, u2]) rfl) mon_pair (fun i => (spLo (if i = 0 then x else y).b (if i = 0 then x else y).ss (if i = 0 then b else c), spHi (if i = 0 then x else y).b (if i = 0 then x else y).ss (if i = 0 then b else c))) (by decide) hD (fun H' s' => ⟨SqT.of (s' _ _ (s02 _ _ hva)), SqT.of (s' _ _ (s02 _ _ hua))⟩) ?_ ?_
    · rintro i z H3 H4 Kk hi s3 ⟨t, x1, x2, rfl, hn, rfl, e1, e2⟩ kk
      have s03 := s02.trans s3
      have s04 := s03.trans (Same.new (o := .tup [x1, x2]) hn)
      refine ⟨t, _, rfl, SqT.of upd_same, rfl, _, _, rfl, _, _, rfl, rfl, rfl, ?_⟩
      refine ⟨_, rfl, _, rfl, _, (if i = 0 then x else y), _, (if i = 0 then b else c), rfl, mon_vw.up (.of s04) (two_get hx hy e1), ?_, mon_box.up (K := K) (.of s04) (two_get hb hc e2), ?_, fun w H5 s5 hw => kk _ _ ((Same.new hn).trans s5) hw⟩
      · split <;> assumption
      · split <;> assumption
    intro H3 acc s3 e3 p3
    have s03 := s02.trans s3
    have p3' : Paired (PairR H3) acc [(spLo x.b x.ss b, spHi x.b x.ss b), (spLo y.b y.ss c, spHi y.b y.ss c)] := p3
    match acc, p3' with
    | [w1, w2], .cons ⟨p1, ew1, hp1⟩ (.cons ⟨p2, ew2, hp2⟩ .nil) =>
    subst ew1 ew2
    refine ⟨D, _, rfl, SqL.of e3, rfl, _, _, rfl, p1, _, rfl, SqT.of hp1, rfl, _, _, rfl, _, _, rfl, rfl, _, _, rfl, p2, _, rfl, SqT.of hp2, rfl, _, _, rfl, _, _, rfl, rfl, rfl, ?_⟩
    refine ⟨_, rfl, _, rfl, _, _, rfl, rfl, decide (spHi x.b x.ss b < spLo y.b y.ss c), rfl, ?_⟩
    by_cases f1 : spHi x.b x.ss b < spLo y.b y.ss c
    · rw [decide_eq_true f1]
      exact iteT (iteT ⟨by show 1 ≤ sizeLine; decide, fun t ht => q _ _ (some .far) (s03.trans (Same.new ht)) ⟨t, rfl, upd_same⟩ ⟨bb', bc', .inl f1⟩⟩)
    rw [decide_eq_false f1]
    refine iteF ⟨_, rfl, _, rfl, _, _, rfl, rfl, decide (spHi y.b y.ss c < spLo x.b x.ss b), rfl, ?_⟩
    by_cases f2 : spHi y.b y.ss c < spLo x.b x.ss b
    · rw [decide_eq_true f2]
      exact iteT ⟨by show 1 ≤ sizeLine; decide, fun t ht => q _ _ (some .far) (s03.trans (Same.new ht)) ⟨t, rfl, upd_same⟩ ⟨bb', bc', .inr f2⟩⟩
    rw [decide_eq_false f2]
    have nf : ¬ farB x y b c := fun h => h.elim f1 f2
    refine iteF ⟨_, rfl, _, rfl, va, ua, _, _, rfl, .inr ⟨SqT.of (s03 _ _ hva), SqT.of (s03 _ _ hua), fun D2 hD2 => ?_⟩⟩
    refine lc2_it (walk_zipT (n := 2) (xs := [v1, v2]) (ys := [u1, u2]) rfl) (fun i H' => Same H3 H' ∧ H' D2 = some (.lst (((List.range i).flatMap fun j => within (if j = 0 then x else y).ss (if j = 0 then b else c)).map V.int))) ⟨Same.new hD2, upd_same⟩ (fun i H' _ p => ⟨SqT.of (p.1 _ _ (s03 _ _ hva)), SqT.of (p.1 _ _ (s03 _ _ hua))⟩) ?_ ?_
    · rintro i z H4 H5 hi ⟨s4, e4⟩ ⟨t, x1, x2, rfl, hn, rfl, e1, e2⟩
      have s04 := s03.trans s4
      have s05 := s04.trans (Same.new (o := .tup [x1, x2]) hn)
      refine ⟨t, _, rfl, SqT.of upd_same, rfl, _, _, rfl, _, _, rfl, rfl, rfl, ?_⟩
      have hO' : VOK (if i = 0 then x else y) := by split <;> assumption
      have hB' : BB (if i = 0 then x else y).ls.length (if i = 0 then b else c) := by split <;> assumption
      refine ⟨_, rfl, _, rfl, _, (if i = 0 then x else y), _, (if i = 0 then b else c), rfl, mon_vw.up (.of s05) (two_get hx hy e1), hO', mon_box.up (K := K) (.of s05) (two_get hb hc e2), hB', fun l H6 f6 s6 e6 => ?_⟩
      have s46 := (Same.new (o := .tup [x1, x2]) hn).trans s6
      have nl : l ≠ D2 := by
        intro e
        have := (Same.new (o := .tup [x1, x2]) hn) _ _ e4
        rw [e] at f6
        rw [f6] at this; cases this
      have hlw : ∀ k, (within (if k = 0 then x else y).ss (if k = 0 then b else c)).length ≤ 5 := fun k => by
        refine Nat.le_trans within_len ?_
        split
        · rw [hBb.len]; exact fx
        · rw [hBc.len]; exact fy
      have hpre : ((List.range i).flatMap fun j => within (if j = 0 then x else y).ss (if j = 0 then b else c)).length ≤ 10 := by
        match i, hi with
        | 0, _ => simp
        | 1, _ =>
          have := hlw 0
          simp [List.range_succ] at this ⊢; omega
      refine ⟨l, rfl, ⟨_, SqL.of e6⟩, lc2_by walk_list (fun j H' => Same H3 H' ∧ H' l = some (.lst ((within (if i = 0 then x else y).ss (if i = 0 then b else c)).map V.int)) ∧
        H' D2 = some (.lst ((((List.range i).flatMap fun j => within (if j = 0 then x else y).ss (if j = 0 then b else c)) ++ (within (if i = 0 then x else y).ss (if i = 0 then b else c)).take j).map V.int)))
        ⟨s4.trans s46, e6, by rw [List.take_zero, List.append_nil]; exact s46 _ _ e4⟩ (fun j H' _ p => SqL.of p.2.1) ?_ ?_⟩
      · rintro j z H9 H7 hj ⟨s7, g1, g2⟩ ⟨rfl, hz⟩
        obtain ⟨st, hst, rfl⟩ := map_at hz
        refine ⟨rfl, _, rfl, _, g2, ?_, Same.mut s7 hD2, by rw [upd_ne nl]; exact g1, ?_⟩
        · rw [List.length_map, List.length_append, List.length_take, sizeLine_eq]
          have := hlw i
          omega
        · rw [upd_same, take_snoc hst]; simp
      · rintro H7 ⟨s7, g1, g2⟩
        refine ⟨s7, ?_⟩
        rw [g2, List.length_map, List.take_length, List.range_succ, List.flatMap_append]; simp
    rintro H4 ⟨s4, e4⟩
    have s04 := s03.trans s4
    have ew : ((List.range 2).flatMap fun j => within (if j = 0 then x else y).ss (if j = 0 then b else c)) = within x.ss b ++ within y.ss c := by simp [List.range_succ]
    rw [ew] at e4
    refine ⟨D2, _, rfl, e4, fun d hd0 hdv => ?_⟩
    refine ⟨_, rfl, va, _, _, _, rfl, rfl, SqT.of (s04 _ _ hva), at_of (j := 0) (v := v1) rfl rfl, _, rfl, ua, _, _, _, rfl, rfl, SqT.of (s04 _ _ hua), at_of (j := 0) (v := u1) rfl rfl, v1, x, u1, b, rfl, mon_vw.up (.of s04) hx, hOx, mon_box.up (K := K) (.of s04) hb, hBb, fun H5 s5 => ?_⟩
    have s05 := s04.trans s5
    refine ⟨_, rfl, va, _, _, _, rfl, rfl, SqT.of (s05 _ _ hva), at_of (j := 1) (v := v2) rfl rfl, _, rfl, ua, _, _, _, rfl, rfl, SqT.of (s05 _ _ hua), at_of (j := 1) (v := u2) rfl rfl, v2, y, u2, c, rfl, mon_vw.up (.of s05) hy, hOy, mon_box.up (K := K) (.of s05) hc, hBc, fun H6 s6 => ?_⟩
    have s06 := s05.trans s6
    refine ⟨_, _, rfl, rfl, ?_⟩
    refine ⟨_, rfl, _, _, rfl, rfl, decide (d > 1), rfl, ?_⟩
    by_cases g1 : d > 1
    · rw [decide_eq_true g1]
      refine iteT ⟨_, rfl, _, rfl, _, _, rfl, rfl, by show 0 < d; omega, rfl, _, rfl, ?_⟩
      rw [dec_int]
      by_cases g2 : apart x y b c % d = 0
      · rw [show ((fcell x.b x.ss b - fcell y.b y.ss c) % d == 0) = true from beq_iff_eq.mpr g2]
        exact iteF (q _ _ none s06 rfl ⟨bb', bc', nf⟩)
      · rw [show ((fcell x.b x.ss b - fcell y.b y.ss c) % d == 0) = false from beq_eq_false_iff_ne.mpr g2]
        exact iteT ⟨_, rfl, by show 2 ≤ sizeLine; decide, fun t ht => q _ _ (some (.rests d)) (s06.trans (Same.new ht)) ⟨t, rfl, upd_same⟩ ⟨bb', bc', g1, hdv, g2⟩⟩
    · rw [decide_eq_false g1]
      exact iteF (q _ _ none s06 rfl ⟨bb', bc', nf⟩)
    
end
end Vg

namespace Vg
/-! ### the plain law of cuts -/
/-- a place within a box -/
def InB : Box → List Int → Prop
  | [], [] => True
  | q :: b, p :: ps => (q.1 ≤ p ∧ p < q.2) ∧ InB b ps
  | _, _ => False
theorem InB.len : ∀ {b : Box} {ps : List Int}, InB b ps → ps.length = b.length
  | [], [], _ => rfl
  | _ :: _, _ :: _, h => congrArg Nat.succ (InB.len h.2)
theorem InB.at : ∀ {b : Box} {ps : List Int} {i : Nat} {q : Int × Int}, InB b ps → b[i]? = some q → ∃ p, ps[i]? = some p ∧ q.1 ≤ p ∧ p < q.2
  | _ :: _, p :: _, 0, _, h, e => by simp at e; subst e; exact ⟨p, rfl, h.1⟩
  | _ :: b, _ :: ps, i + 1, q, h, e => by
    obtain ⟨p, h1, h2⟩ := InB.at (b := b) (ps := ps) (i := i) (q := q) h.2 (by simpa using e)
    exact ⟨p, by simpa using h1, h2⟩
theorem inB_wbox : ∀ {ls ps : List Int}, InB (wbox ls) ps ↔ InP ls ps
  | [], [] => Iff.rfl
  | [], _ :: _ => Iff.rfl
  | _ :: _, [] => Iff.rfl
  | n :: ls, p :: ps => by
    show ((0 ≤ p ∧ p < n) ∧ InB (wbox ls) ps) ↔ ((0 ≤ p ∧ p < n) ∧ InP ls ps)
    rw [inB_wbox]
/-- a narrower side -/
theorem InB.wide : ∀ {b : Box} {ps : List Int} {i : Nat} {q q' : Int × Int}, b[i]? = some q → q.1 ≤ q'.1 → q'.2 ≤ q.2 → InB (b.set i q') ps → InB b ps
  | q0 :: b, p :: ps, 0, q, q', e, h1, h2, h => by
    simp at e; subst e
    exact ⟨⟨Int.le_trans h1 h.1.1, Int.lt_of_lt_of_le h.1.2 h2⟩, h.2⟩
  | q0 :: b, p :: ps, i + 1, q, q', e, h1, h2, h => ⟨h.1, InB.wide (b := b) (ps := ps) (i := i) (by simpa using e) h1 h2 h.2⟩
  | q0 :: b, [], 0, _, _, _, _, _, h => h.elim
  | q0 :: b, [], i + 1, _, _, _, _, _, h => h.elim
  | [], _, _, _, _, e, _, _, _ => by simp at e
/-- one of the halves has it -/
theorem InB.halves : ∀ {b : Box} {ps : List Int} {i : Nat} {l h m : Int}, b[i]? = some (l, h) → InB b ps → InB (b.set i (l, m)) ps ∨ InB (b.set i (m, h)) ps
  | q0 :: b, p :: ps, 0, l, h, m, e, w => by
    simp at e; subst e
    obtain ⟨⟨w1, w2⟩, w3⟩ := w
    by_cases c : p < m
    · exact .inl ⟨⟨w1, c⟩, w3⟩
    · exact .inr ⟨⟨by show m ≤ p; omega, w2⟩, w3⟩
  | q0 :: b, p :: ps, i + 1, l, h, m, e, w => by
    rcases InB.halves (b := b) (ps := ps) (i := i) (m := m) (by simpa using e) w.2 with g | g
    · exact .inl ⟨w.1, g⟩
    · exact .inr ⟨w.1, g⟩
  | [], _, _, _, _, _, e, _ => by simp at e
  | _ :: _, [], _, _, _, _, _, w => w.elim
theorem bareB_false {b : Box} : bareB b = false ↔ ∀ q ∈ b, q.1 < q.2 := by
  unfold bareB
  rw [List.any_eq_false]
  constructor
  · intro h q hq; have := h q hq; simp at this; exact this
  · intro h q hq; have := h q hq; simp; exact this
theorem bare_none {b : Box} (h : bareB b = true) (ps : List Int) : ¬ InB b ps := fun w => by
  unfold bareB at h
  obtain ⟨q, hq, hc⟩ := List.any_eq_true.mp h
  obtain ⟨i, hi⟩ := List.getElem?_of_mem hq
  obtain ⟨p, _, h1, h2⟩ := w.at hi
  simp at hc; omega
/-- its first place -/
theorem inB_first : ∀ {b : Box}, (∀ q ∈ b, q.1 < q.2) → InB b (b.map (·.1))
  | [], _ => trivial
  | q :: b, h => ⟨⟨Int.le_refl _, h q (List.mem_cons_self ..)⟩, inB_first fun r hr => h r (List.mem_cons_of_mem _ hr)⟩
theorem dot_first (b : Int) : ∀ (box : Box) (ss : List Int), b + dot (box.map (·.1)) ss = fcell b ss box := fun box ss => by
  unfold fcell dot
  congr 2
  induction box generalizing ss with
  | nil => simp
  | cons q box ih =>
    cases ss with
    | nil => simp
    | cons s ss => simp only [List.map_cons, List.zip_cons_cons, ih]
/-! a cell lies within the span -/
theorem mul_between {d m s : Int} (h0 : 0 ≤ d) (h1 : d ≤ m) : mnI (m * s) ≤ d * s ∧ d * s ≤ mxI (m * s) := by
  unfold mnI mxI
  by_cases hs : 0 ≤ s
  · have a := Int.mul_nonneg h0 hs
    have b := Int.mul_le_mul_of_nonneg_right h1 hs
    constructor
    · split <;> omega
    · split <;> omega
  · have hs' : 0 ≤ -s := by omega
    have a := Int.mul_nonneg h0 hs'
    have b := Int.mul_le_mul_of_nonneg_right h1 hs'
    rw [Int.mul_neg] at a
    rw [Int.mul_neg, Int.mul_neg] at b
    constructor
    · split <;> omega
    · split <;> omega
theorem dot_span : ∀ {box : Box} {ps ss : List Int}, ss.length = box.length → InB box ps →
    ((box.zip ss).map fun q => q.1.1 * q.2).sum + ((box.zip ss).map fun q => mnI ((q.1.2 - q.1.1 - 1) * q.2)).sum ≤ dot ps ss ∧ dot ps ss ≤ ((box.zip ss).map fun q => q.1.1 * q.2).sum + ((box.zip ss).map fun q => mxI ((q.1.2 - q.1.1 - 1) * q.2)).sum
  | [], [], _, _, _ => by simp [dot_nil]
  | q :: box, p :: ps, s :: ss, hl, h => by
    have ih := dot_span (box := box) (ps := ps) (ss := ss) (by simpa using hl) h.2
    rw [dot_cons]
    simp only [List.zip_cons_cons, List.map_cons, List.sum_cons]
    have m := mul_between (d := p - q.1) (m := q.2 - q.1 - 1) (s := s) (by have := h.1.1; omega) (by have := h.1.2; omega)
    have e : (p - q.1) * s = p * s - q.1 * s := Int.sub_mul ..
    rw [e] at m
    omega
theorem cell_span {x : VW} {box : Box} {ps : List Int} (hl : x.ss.length = box.length) (h : InB box ps) : spLo x.b x.ss box ≤ x.b + dot ps x.ss ∧ x.b + dot ps x.ss ≤ spHi x.b x.ss box := by
  have := dot_span hl h
  unfold spLo spHi fcell
  omega
/-! a cell's rest is that of the first -/
theorem dot_rest : ∀ {box : Box} {ps ss : List Int} {d : Int}, ss.length = box.length → InB box ps → (∀ s ∈ within ss box, d ∣ s) → d ∣ dot ps ss - ((box.zip ss).map fun q => q.1.1 * q.2).sum
  | [], [], ss, d, _, _, _ => by simp [dot_nil]
  | q :: box, p :: ps, s :: ss, d, hl, h, hd => by
    have hd' : ∀ t ∈ within ss box, d ∣ t := fun t ht => hd t (by
      unfold within at ht ⊢
      rw [List.zip_cons_cons, List.filter_cons]
      split
      · exact List.mem_cons_of_mem _ ht
      · exact ht)
    have ih := dot_rest (box := box) (ps := ps) (ss := ss) (by simpa using hl) h.2 hd'
    rw [dot_cons]
    simp only [List.zip_cons_cons, List.map_cons, List.sum_cons]
    have e : p * s + dot ps ss - (q.1 * s + ((box.zip ss).map fun q => q.1.1 * q.2).sum) = (p - q.1) * s + (dot ps ss - ((box.zip ss).map fun q => q.1.1 * q.2).sum) := by rw [Int.sub_mul]; omega
    rw [e]
    refine Int.dvd_add ?_ ih
    by_cases c : q.2 - q.1 > 1
    · have hs : d ∣ s := hd s (by
        unfold within
        rw [List.zip_cons_cons, List.filter_cons_of_pos (by simpa using c)]
        exact List.mem_cons_self ..)
      exact Int.dvd_mul_of_dvd_right hs
    · have : p - q.1 = 0 := by have := h.1; omega
      rw [this, Int.zero_mul]; exact Int.dvd_zero d
/-! ### the pairs of boxes -/
/-- no cell in both -/
def Dis (x y : VW) (b c : Box) : Prop := ∀ p q, InB b p → InB c q → x.b + dot p x.ss ≠ y.b + dot q y.ss
def leafB (x y : VW) (b c : Box) : Row → Bool
  | .rooms => decide (x.room ≠ y.room)
  | .bare => bareB b || bareB c
  | .far => !(bareB b || bareB c) && decide (farB x y b c)
  | .rests d => !(bareB b || bareB c) && (decide (2 ≤ d) && ((within x.ss b ++ within y.ss c).all (fun s => s % d == 0) && (apart x y b c % d != 0)))
  | .split .. => false
def Ap (x y : VW) (b c : Box) : Prop := x.room ≠ y.room ∨ Dis x y b c
theorem leafB_sound {x y : VW} {b c : Box} {row : Row} (hx : x.ss.length = b.length) (hy : y.ss.length = c.length) (h : leafB x y b c row = true) : Ap x y b c := by
  cases row with
  | rooms => exact .inl (by simpa [leafB] using h)
  | bare =>
    refine .inr fun p q hp hq => ?_
    rcases Bool.or_eq_true _ _ |>.mp h with h | h
    · exact absurd hp (bare_none h p)
    · exact absurd hq (bare_none h q)
  | far =>
    refine .inr fun p q hp hq e => ?_
    have hf : farB x y b c := by
      have := (Bool.and_eq_true _ _ |>.mp h).2
      exact of_decide_eq_true this
    have h1 := cell_span hx hp
    have h2 := cell_span hy hq
    rcases hf with f | f <;> omega
  | rests d =>
    refine .inr fun p q hp hq e => ?_
    obtain ⟨_, h⟩ := Bool.and_eq_true _ _ |>.mp h
    obtain ⟨h2, h⟩ := Bool.and_eq_true _ _ |>.mp h
    obtain ⟨h3, h4⟩ := Bool.and_eq_true _ _ |>.mp h
    have hd : ∀ s ∈ within x.ss b ++ within y.ss c, d ∣ s := fun s hs => Int.dvd_of_emod_eq_zero (by
      have := List.all_eq_true.mp h3 s hs
      exact beq_iff_eq.mp this)
    have r1 := dot_rest hx hp fun s hs => hd s (List.mem_append_left _ hs)
    have r2 := dot_rest hy hq fun s hs => hd s (List.mem_append_right _ hs)
    have h4' : apart x y b c % d ≠ 0 := by simpa using h4
    apply h4'
    apply Int.emod_eq_zero_of_dvd
    have := Int.dvd_sub r2 r1
    have e2 : dot q y.ss - ((c.zip y.ss).map fun q => q.1.1 * q.2).sum - (dot p x.ss - ((b.zip x.ss).map fun q => q.1.1 * q.2).sum) = apart x y b c := by
      unfold apart fcell; omega
    rw [e2] at this
    exact this
  | split => simp [leafB] at h
theorem leafSp_right {x y : VW} {b c : Box} {row : Row} (h : LeafSp x y b c (some row)) : leafB x y b c row = true := by
  cases row with
  | rooms => exact h.elim
  | bare => exact Bool.or_eq_true _ _ |>.mpr h
  | far =>
    obtain ⟨h1, h2, h3⟩ := h
    show (!(bareB b || bareB c) && decide (farB x y b c)) = true
    rw [h1, h2, decide_eq_true h3]; rfl
  | rests d =>
    obtain ⟨h1, h2, h3, h4, h5⟩ := h
    show (!(bareB b || bareB c) && (decide (2 ≤ d) && ((within x.ss b ++ within y.ss c).all (fun s => s % d == 0) && (apart x y b c % d != 0)))) = true
    rw [h1, h2, decide_eq_true (show 2 ≤ d by omega)]
    have h6 : (within x.ss b ++ within y.ss c).all (fun s => s % d == 0) = true := List.all_eq_true.mpr fun s hs => beq_iff_eq.mpr (Int.emod_eq_zero_of_dvd (h4 s hs))
    rw [h6]
    simp [h5]
  | split => exact h.elim
end Vg

namespace Vg
/-! ### the looker's own walk over the rows -/
abbrev Pr := Box × Box
def cutB (b : Box) (s a : Int) : Option (Box × Box) :=
  if 0 ≤ s ∧ s < b.length then (match b[s.toNat]? with
    | some q => if q.1 < a ∧ a < q.2 then some (b.set s.toNat (q.1, a), b.set s.toNat (a, q.2)) else none
    | none => none) else none
def splitB (p : Pr) (w s a : Int) : Option (Pr × Pr) :=
  if w = 0 then (cutB p.1 s a).map fun h => ((h.1, p.2), (h.2, p.2)) else if w = 1 then (cutB p.2 s a).map fun h => ((p.1, h.1), (p.1, h.2)) else none
def laterB {α : Type} (l r at_ : Int) (met : List (Int × α)) : Bool := decide (l ≠ r) && (decide (at_ < l ∧ at_ < r) && ((met.lookup l).isNone && (met.lookup r).isNone))
def stepC (x y : VW) (met : List (Int × Pr)) (at_ : Int) (row : Row) : Option (List (Int × Pr)) :=
  match met.lookup at_ with
  | none => none
  | some p => match row with
    | .split w s a l r => match splitB p w s a with
      | none => none
      | some h => if laterB l r at_ met = true then some (met ++ [(l, h.1), (r, h.2)]) else none
    | row => if leafB x y p.1 p.2 row = true then some met else none
def runC (x y : VW) : List (Int × Pr) → Int → List Row → Option (List (Int × Pr))
  | met, _, [] => some met
  | met, at_, row :: rows => (stepC x y met at_ row).bind fun m => runC x y m (at_ + 1) rows
def cutsB (x y : VW) (p : Pr) (rows : List Row) : Bool := !rows.isEmpty && (match runC x y [(0, p)] 0 rows with
  | some met => decide (met.length = rows.length)
  | none => false)
theorem runC_snoc {x y : VW} {row : Row} : ∀ {rows : List Row} {met : List (Int × Pr)} {at_ : Int}, runC x y met at_ (rows ++ [row]) = (runC x y met at_ rows).bind fun m => stepC x y m (at_ + rows.length) row
  | [], met, at_ => by
    show (stepC x y met at_ row).bind (fun m => some m) = stepC x y met (at_ + 0) row
    rw [Int.add_zero]
    cases stepC x y met at_ row <;> rfl
  | r :: rows, met, at_ => by
    show (stepC x y met at_ r).bind (fun m => runC x y m (at_ + 1) (rows ++ [row])) = ((stepC x y met at_ r).bind fun m => runC x y m (at_ + 1) rows).bind _
    cases stepC x y met at_ r with
    | none => rfl
    | some m =>
      show runC x y m (at_ + 1) (rows ++ [row]) = (runC x y m (at_ + 1) rows).bind _
      rw [runC_snoc]
      congr 1; funext z
      have : at_ + 1 + (rows.length : Int) = at_ + ((r :: rows).length : Nat) := by rw [List.length_cons]; omega
      rw [this]
theorem lookup_app {α : Type} {k : Int} {u v : α} : ∀ {m n : List (Int × α)}, m.lookup k = some v → (m ++ n).lookup k = some v
  | [], _, h => by simp at h
  | (j, w) :: m, n, h => by
    rw [List.cons_append, List.lookup_cons] at *
    split at h
    · exact h
    · rename_i c; rw [c] at *; exact lookup_app (u := u) h
theorem lookup_app_none {α : Type} {k : Int} : ∀ {m n : List (Int × α)}, m.lookup k = none → (m ++ n).lookup k = n.lookup k
  | [], _, _ => rfl
  | (j, w) :: m, n, h => by
    rw [List.cons_append, List.lookup_cons]
    rw [List.lookup_cons] at h
    split at h
    · cases h
    · exact lookup_app_none h
theorem lookup_none_keys {α : Type} {k : Int} : ∀ {m : List (Int × α)}, m.lookup k = none ↔ k ∉ m.map (·.1)
  | [] => by simp
  | (j, w) :: m => by
    rw [List.lookup_cons, List.map_cons, List.mem_cons]
    by_cases c : k = j
    · subst c; simp
    · have : (k == j) = false := beq_eq_false_iff_ne.mpr c
      rw [this]
      simp only []
      rw [lookup_none_keys]
      constructor
      · intro h hh; rcases hh with hh | hh
        · exact c hh
        · exact h hh
      · intro h hh; exact h (.inr hh)
theorem lookup_some_keys {α : Type} {k : Int} {v : α} {m : List (Int × α)} (h : m.lookup k = some v) : k ∈ m.map (·.1) := by
  by_cases c : k ∈ m.map (·.1)
  · exact c
  · rw [lookup_none_keys.mpr c] at h; cases h
theorem nodup_sub_len {α : Type} [DecidableEq α] : ∀ {xs ys : List α}, xs.Nodup → (∀ x ∈ xs, x ∈ ys) → xs.length ≤ ys.length
  | [], _, _, _ => Nat.zero_le _
  | x :: xs, ys, h, hs => by
    rw [List.nodup_cons] at h
    have hx := hs x (List.mem_cons_self ..)
    have := nodup_sub_len (xs := xs) (ys := ys.erase x) h.2 fun z hz => (List.mem_erase_of_ne (fun e => h.1 (by rw [← e]; exact hz))).mpr (hs z (List.mem_cons_of_mem _ hz))
    rw [List.length_erase_of_mem hx] at this
    have : 0 < ys.length := List.length_pos_of_mem hx
    rw [List.length_cons]; omega
theorem nodup_range_int (n : Nat) : ((List.range n).map fun (i : Nat) => (i : Int)).Nodup := by
  unfold List.Nodup
  rw [List.pairwise_map]
  exact List.nodup_range.imp fun h e => h (by omega)
/-- what a row says of its pair, the last list of pairs at hand -/
def RowOk (x y : VW) (met : List (Int × Pr)) (at_ : Int) (row : Row) : Prop := ∃ p, met.lookup at_ = some p ∧ (leafB x y p.1 p.2 row = true ∨
  ∃ w s a l r h, row = .split w s a l r ∧ splitB p w s a = some h ∧ met.lookup l = some h.1 ∧ met.lookup r = some h.2 ∧ at_ < l ∧ at_ < r)
theorem stepC_spec {x y : VW} {met met' : List (Int × Pr)} {at_ : Int} {row : Row} (h : stepC x y met at_ row = some met') (nd : (met.map (·.1)).Nodup) : (met'.map (·.1)).Nodup ∧ (∀ k p, met.lookup k = some p → met'.lookup k = some p) ∧ RowOk x y met' at_ row := by
  unfold stepC at h
  cases hp : met.lookup at_ with
  | none => rw [hp] at h; cases h
  | some p =>
    rw [hp] at h
    have leaf : ∀ {row : Row}, (if leafB x y p.1 p.2 row = true then some met else none) = some met' → (met'.map (·.1)).Nodup ∧ (∀ k p, met.lookup k = some p → met'.lookup k = some p) ∧ RowOk x y met' at_ row := fun h => by
      split at h
      · rename_i c
        cases h
        exact ⟨nd, fun _ _ h => h, p, hp, .inl c⟩
      · cases h
    cases row with
    | bare => exact leaf h
    | far => exact leaf h
    | rests d => exact leaf h
    | rooms => exact leaf h
    | split w s a l r =>
      simp only at h
      cases hs : splitB p w s a with
      | none => rw [hs] at h; cases h
      | some hh =>
        rw [hs] at h
        simp only at h
        split at h
        · rename_i c
          cases h
          unfold laterB at c
          simp only [Bool.and_eq_true, decide_eq_true_eq, Option.isNone_iff_eq_none] at c
          obtain ⟨c1, ⟨c2, c3⟩, c4, c5⟩ := c
          refine ⟨?_, fun k q hk => lookup_app (u := q) hk, p, lookup_app (u := p) hp, .inr ⟨w, s, a, l, r, hh, rfl, hs, ?_, ?_, c2, c3⟩⟩
          · rw [List.map_append, List.nodup_append]
            refine ⟨nd, by simp [c1], fun z hz t ht => ?_⟩
            intro e
            subst e
            rcases List.mem_cons.mp ht with e | ht
            · exact lookup_none_keys.mp c4 (by have e2 : z = l := e; rw [← e2]; exact hz)
            · rw [List.map_cons, List.map_nil, List.mem_singleton] at ht
              exact lookup_none_keys.mp c5 (by have e2 : z = r := ht; rw [← e2]; exact hz)
          · rw [lookup_app_none c4]; simp
          · rw [lookup_app_none c5, List.lookup_cons]
            have : (r == l) = false := beq_eq_false_iff_ne.mpr (Ne.symm c1)
            rw [this]; simp
        · cases h
theorem RowOk.more {x y : VW} {met met' : List (Int × Pr)} {at_ : Int} {row : Row} (h : RowOk x y met at_ row) (s : ∀ k p, met.lookup k = some p → met'.lookup k = some p) : RowOk x y met' at_ row := by
  obtain ⟨p, h1, h2⟩ := h
  refine ⟨p, s _ _ h1, ?_⟩
  rcases h2 with h2 | ⟨w, s', a, l, r, hh, e1, e2, e3, e4, e5, e6⟩
  · exact .inl h2
  · exact .inr ⟨w, s', a, l, r, hh, e1, e2, s _ _ e3, s _ _ e4, e5, e6⟩
theorem runC_spec {x y : VW} : ∀ {rows : List Row} {met met' : List (Int × Pr)} {at_ : Int}, runC x y met at_ rows = some met' → (met.map (·.1)).Nodup →
    (met'.map (·.1)).Nodup ∧ (∀ k p, met.lookup k = some p → met'.lookup k = some p) ∧ ∀ (i : Nat) row, rows[i]? = some row → RowOk x y met' (at_ + i) row
  | [], met, met', at_, h, nd => by cases h; exact ⟨nd, fun _ _ h => h, fun i row e => by simp at e⟩
  | r :: rows, met, met', at_, h, nd => by
    unfold runC at h
    cases hs : stepC x y met at_ r with
    | none => rw [hs] at h; cases h
    | some m =>
      rw [hs] at h
      obtain ⟨n1, k1, r1⟩ := stepC_spec hs nd
      obtain ⟨n2, k2, r2⟩ := runC_spec (show runC x y m (at_ + 1) rows = some met' from h) n1
      refine ⟨n2, fun k p hk => k2 k p (k1 k p hk), fun i row e => ?_⟩
      cases i with
      | zero => simp at e; subst e; have := r1.more k2; simpa using this
      | succ i =>
        have := r2 i row (by simpa using e)
        have e2 : at_ + 1 + (i : Int) = at_ + ((i + 1 : Nat) : Int) := by omega
        rw [e2] at this; exact this
theorem cutB_spec {b : Box} {s a : Int} {h : Box × Box} (e : cutB b s a = some h) : ∃ (i : Nat) (l u : Int), s = i ∧ b[i]? = some (l, u) ∧ l < a ∧ a < u ∧ h = (b.set i (l, a), b.set i (a, u)) := by
  unfold cutB at e
  split at e
  · rename_i c
    split at e
    · rename_i q hq
      split at e
      · rename_i d
        cases e
        exact ⟨s.toNat, q.1, q.2, (Int.toNat_of_nonneg c.1).symm, hq, d.1, d.2, rfl⟩
      · cases e
    · cases e
  · cases e
theorem cutB_of {b : Box} {i : Nat} {l u a : Int} (h : b[i]? = some (l, u)) (h1 : l < a) (h2 : a < u) : cutB b i a = some (b.set i (l, a), b.set i (a, u)) := by
  unfold cutB
  have hl := (List.getElem?_eq_some_iff.mp h).1
  rw [if_pos ⟨by omega, by omega⟩, Int.toNat_natCast, h]
  exact if_pos ⟨h1, h2⟩
theorem set_len_box {b : Box} {i : Nat} {q : Int × Int} : (b.set i q).length = b.length := List.length_set ..
/-- if both halves are apart, the pair is -/
theorem split_sound {x y : VW} {p : Pr} {w s a : Int} {h : Pr × Pr} (e : splitB p w s a = some h) (h1 : Ap x y h.1.1 h.1.2) (h2 : Ap x y h.2.1 h.2.2) : Ap x y p.1 p.2 := by
  unfold splitB at e
  split at e
  · cases hc : cutB p.1 s a with
    | none => rw [hc] at e; cases e
    | some c =>
      rw [hc] at e
      cases e
      obtain ⟨i, l, u, _, hi, _, _, rfl⟩ := cutB_spec hc
      rcases h1 with h1 | h1
      · exact .inl h1
      rcases h2 with h2 | h2
      · exact .inl h2
      refine .inr fun q t hq ht => ?_
      rcases InB.halves (m := a) hi hq with g | g
      · exact h1 q t g ht
      · exact h2 q t g ht
  · split at e
    · cases hc : cutB p.2 s a with
      | none => rw [hc] at e; cases e
      | some c =>
        rw [hc] at e
        cases e
        obtain ⟨i, l, u, _, hi, _, _, rfl⟩ := cutB_spec hc
        rcases h1 with h1 | h1
        · exact .inl h1
        rcases h2 with h2 | h2
        · exact .inl h2
        refine .inr fun q t hq ht => ?_
        rcases InB.halves (m := a) hi ht with g | g
        · exact h1 q t hq g
        · exact h2 q t hq g
    · cases e
/-- sides and lengths stay -/
def PBok (m n : Nat) (p : Pr) : Prop := BB m p.1 ∧ BB n p.2
theorem bb_set {n : Nat} {b : Box} {i : Nat} {l u a : Int} (h : BB n b) (hi : b[i]? = some (l, u)) (h1 : l < a) (h2 : a < u) : BB n (b.set i (l, a)) ∧ BB n (b.set i (a, u)) := by
  have hb := h.rng _ (List.mem_of_getElem? hi)
  constructor
  · refine ⟨by rw [set_len_box]; exact h.len, fun q hq => ?_⟩
    rcases mem_set_at hq with ⟨rfl, _⟩ | ⟨j, _, hj⟩
    · simp at hb ⊢; omega
    · exact h.rng q (List.mem_of_getElem? hj)
  · refine ⟨by rw [set_len_box]; exact h.len, fun q hq => ?_⟩
    rcases mem_set_at hq with ⟨rfl, _⟩ | ⟨j, _, hj⟩
    · simp at hb ⊢; omega
    · exact h.rng q (List.mem_of_getElem? hj)
theorem split_bb {m n : Nat} {p : Pr} {w s a : Int} {h : Pr × Pr} (e : splitB p w s a = some h) (hp : PBok m n p) : PBok m n h.1 ∧ PBok m n h.2 := by
  unfold splitB at e
  split at e
  · cases hc : cutB p.1 s a with
    | none => rw [hc] at e; cases e
    | some c =>
      rw [hc] at e
      cases e
      obtain ⟨i, l, u, _, hi, g1, g2, rfl⟩ := cutB_spec hc
      obtain ⟨k1, k2⟩ := bb_set hp.1 hi g1 g2
      exact ⟨⟨k1, hp.2⟩, k2, hp.2⟩
  · split at e
    · cases hc : cutB p.2 s a with
      | none => rw [hc] at e; cases e
      | some c =>
        rw [hc] at e
        cases e
        obtain ⟨i, l, u, _, hi, g1, g2, rfl⟩ := cutB_spec hc
        obtain ⟨k1, k2⟩ := bb_set hp.2 hi g1 g2
        exact ⟨⟨hp.1, k1⟩, hp.1, k2⟩
    · cases e
theorem lookup_mem {α : Type} {k : Int} {v : α} : ∀ {m : List (Int × α)}, m.lookup k = some v → (k, v) ∈ m
  | [], h => by simp at h
  | (j, w) :: m, h => by
    rw [List.lookup_cons] at h
    split at h
    · rename_i c; cases h; rw [beq_iff_eq.mp c]; exact List.mem_cons_self ..
    · exact List.mem_cons_of_mem _ (lookup_mem h)
theorem stepC_bb {x y : VW} {m n : Nat} {met met' : List (Int × Pr)} {at_ : Int} {row : Row} (h : stepC x y met at_ row = some met') (hp : ∀ k p, (k, p) ∈ met → PBok m n p) : ∀ k p, (k, p) ∈ met' → PBok m n p := by
  unfold stepC at h
  cases hl : met.lookup at_ with
  | none => rw [hl] at h; cases h
  | some p =>
    rw [hl] at h
    have leaf : ∀ {row : Row}, (if leafB x y p.1 p.2 row = true then some met else none) = some met' → ∀ k p, (k, p) ∈ met' → PBok m n p := fun h => by
      split at h
      · cases h; exact hp
      · cases h
    cases row with
    | bare => exact leaf h
    | far => exact leaf h
    | rests d => exact leaf h
    | rooms => exact leaf h
    | split w s a l r =>
      simp only at h
      cases hs : splitB p w s a with
      | none => rw [hs] at h; cases h
      | some hh =>
        rw [hs] at h
        simp only at h
        split at h
        · cases h
          have hpp : PBok m n p := hp _ p (lookup_mem hl)
          obtain ⟨b1, b2⟩ := split_bb hs hpp
          intro k q hq
          rcases List.mem_append.mp hq with hq | hq
          · exact hp k q hq
          · rcases List.mem_cons.mp hq with hq | hq
            · cases hq; exact b1
            · rw [List.mem_singleton] at hq; cases hq; exact b2
        · cases h
theorem runC_bb {x y : VW} {m n : Nat} : ∀ {rows : List Row} {met met' : List (Int × Pr)} {at_ : Int}, runC x y met at_ rows = some met' → (∀ k p, (k, p) ∈ met → PBok m n p) → ∀ k p, (k, p) ∈ met' → PBok m n p
  | [], met, met', at_, h, hp => by cases h; exact hp
  | r :: rows, met, met', at_, h, hp => by
    unfold runC at h
    cases hs : stepC x y met at_ r with
    | none => rw [hs] at h; cases h
    | some m' =>
      rw [hs] at h
      exact runC_bb (show runC x y m' (at_ + 1) rows = some met' from h) (stepC_bb hs hp)
/-- THE LOOKER IS SOUND -/
theorem cuts_sound {x y : VW} {p : Pr} {rows : List Row} (hx : BB x.ss.length p.1) (hy : BB y.ss.length p.2) (h : cutsB x y p rows = true) : Ap x y p.1 p.2 := by
  unfold cutsB at h
  obtain ⟨h0, h⟩ := Bool.and_eq_true _ _ |>.mp h
  cases hr : runC x y [(0, p)] 0 rows with
  | none => rw [hr] at h; cases h
  | some met =>
    rw [hr] at h
    have hl : met.length = rows.length := of_decide_eq_true h
    obtain ⟨nd, hk, hrow⟩ := runC_spec hr (by simp)
    have hbb := runC_bb hr (m := x.ss.length) (n := y.ss.length) (fun k q hq => by rw [List.mem_singleton] at hq; cases hq; exact ⟨hx, hy⟩)
    -- the keys are the rows' numbers
    have keys : ∀ k : Int, k ∈ met.map (·.1) → ∃ i : Nat, k = (i : Int) ∧ i < rows.length := fun k hk => by
      by_cases c : ∃ i : Nat, k = (i : Int) ∧ i < rows.length
      · exact c
      · exfalso
        have nd2 : (k :: (List.range rows.length).map fun (i : Nat) => (i : Int)).Nodup := by
          rw [List.nodup_cons]
          refine ⟨fun hm => ?_, ?_⟩
          · obtain ⟨i, hi, e⟩ := List.mem_map.mp hm
            exact c ⟨i, e.symm, List.mem_range.mp hi⟩
          · exact nodup_range_int _
        have := nodup_sub_len nd2 (ys := met.map (·.1)) fun z hz => by
          rcases List.mem_cons.mp hz with rfl | hz
          · exact hk
          · obtain ⟨i, hi, rfl⟩ := List.mem_map.mp hz
            have hi' := List.mem_range.mp hi
            obtain ⟨q, hq, _⟩ := hrow i rows[i] (List.getElem?_eq_getElem hi')
            rw [Int.zero_add] at hq
            exact lookup_some_keys hq
        rw [List.length_cons, List.length_map, List.length_range, List.length_map] at this
        omega
    -- from the last to the first
    have back : ∀ n i : Nat, i < rows.length → rows.length - i ≤ n → ∀ q, met.lookup (i : Int) = some q → Ap x y q.1 q.2 := by
      intro n
      induction n with
      | zero => intro i hi hn; omega
      | succ n ih =>
        intro i hi hn q hq
        obtain ⟨q', hq', hc⟩ := hrow i rows[i] (List.getElem?_eq_getElem hi)
        rw [Int.zero_add] at hq' hc
        rw [hq] at hq'
        cases hq'
        obtain ⟨b1, b2⟩ := hbb _ _ (lookup_mem hq)
        rcases hc with hc | ⟨w, s, a, l, r, hh, _, hs, hl1, hr1, c1, c2⟩
        · exact leafB_sound b1.len.symm b2.len.symm hc
        · obtain ⟨il, rfl, el⟩ := keys l (lookup_some_keys hl1)
          obtain ⟨ir, rfl, er⟩ := keys r (lookup_some_keys hr1)
          exact split_sound hs (ih il el (by omega) _ hl1) (ih ir er (by omega) _ hr1)
    have hne : 0 < rows.length := by
      cases rows with
      | nil => simp at h0
      | cons _ _ => simp
    exact back rows.length 0 hne (by omega) p (hk 0 p (by simp))
end Vg

namespace Vg
/-! ### the maker's own walk -/
def metFrom {α : Type} (k : Int) : List α → List (Int × α)
  | [] => []
  | p :: r => (k, p) :: metFrom (k + 1) r
theorem metFrom_len {α : Type} : ∀ (k : Int) (P : List α), (metFrom k P).length = P.length
  | _, [] => rfl
  | k, _ :: P => congrArg Nat.succ (metFrom_len (k + 1) P)
theorem metFrom_app {α : Type} : ∀ (k : Int) (P Q : List α), metFrom k (P ++ Q) = metFrom k P ++ metFrom (k + P.length) Q
  | k, [], Q => by simp [metFrom]
  | k, p :: P, Q => by
    show (k, p) :: metFrom (k + 1) (P ++ Q) = (k, p) :: (metFrom (k + 1) P ++ metFrom (k + ((p :: P).length : Nat)) Q)
    rw [metFrom_app]
    have : k + 1 + (P.length : Int) = k + ((p :: P).length : Nat) := by rw [List.length_cons]; omega
    rw [this]
theorem metFrom_at {α : Type} : ∀ (k : Int) (P : List α) (j : Nat), (metFrom k P).lookup (k + j) = P[j]?
  | _, [], _ => rfl
  | k, p :: P, 0 => by show List.lookup (k + 0) ((k, p) :: _) = _; rw [Int.add_zero, List.lookup_cons]; simp
  | k, p :: P, j + 1 => by
    show List.lookup (k + ((j + 1 : Nat) : Int)) ((k, p) :: metFrom (k + 1) P) = _
    rw [List.lookup_cons]
    have : (k + ((j + 1 : Nat) : Int) == k) = false := beq_eq_false_iff_ne.mpr (by omega)
    rw [this]
    have e : k + ((j + 1 : Nat) : Int) = (k + 1) + (j : Int) := by omega
    rw [e]
    show List.lookup (k + 1 + (j : Int)) (metFrom (k + 1) P) = _
    rw [metFrom_at (k + 1) P j]; simp
/-- the rows so far tell the pairs so far -/
def Told (x y : VW) (p0 : Pr) (rows : List Row) (P : List Pr) : Prop := runC x y [(0, p0)] 0 rows = some (metFrom 0 P)
theorem told_leaf {x y : VW} {p0 p : Pr} {rows : List Row} {P : List Pr} {row : Row} (h : Told x y p0 rows P) (hp : P[rows.length]? = some p) (hl : LeafSp x y p.1 p.2 (some row)) : Told x y p0 (rows ++ [row]) P := by
  unfold Told at *
  rw [runC_snoc, h]
  show stepC x y (metFrom 0 P) (0 + (rows.length : Int)) row = _
  unfold stepC
  rw [metFrom_at, hp]
  have hb := leafSp_right hl
  cases row with
  | split => exact hl.elim
  | bare => exact if_pos hb
  | far => exact if_pos hb
  | rests d => exact if_pos hb
  | rooms => exact if_pos hb
theorem told_split {x y : VW} {p0 p : Pr} {rows : List Row} {P : List Pr} {w s a : Int} {h : Pr × Pr} (ht : Told x y p0 rows P) (hp : P[rows.length]? = some p) (hs : splitB p w s a = some h) : Told x y p0 (rows ++ [.split w s a P.length (P.length + 1)]) (P ++ [h.1, h.2]) := by
  unfold Told at *
  have hl := (List.getElem?_eq_some_iff.mp hp).1
  rw [runC_snoc, ht]
  show stepC x y (metFrom 0 P) (0 + (rows.length : Int)) (.split w s a P.length (P.length + 1)) = _
  unfold stepC
  rw [metFrom_at, hp]
  simp only [hs]
  have none_at : ∀ j : Nat, P.length ≤ j → (metFrom 0 P).lookup (j : Int) = none := fun j hj => by
    have := metFrom_at 0 P j
    rw [Int.zero_add] at this
    rw [this]; exact List.getElem?_eq_none hj
  have hlt : laterB (P.length : Int) ((P.length : Int) + 1) (0 + (rows.length : Int)) (metFrom 0 P) = true := by
    unfold laterB
    rw [none_at P.length (Nat.le_refl _), show ((P.length : Int) + 1) = ((P.length + 1 : Nat) : Int) by omega, none_at (P.length + 1) (by omega), decide_eq_true (by omega), decide_eq_true (by omega)]
    rfl
  rw [if_pos hlt, metFrom_app]
  show some _ = some (metFrom 0 P ++ [((0 : Int) + P.length, h.1), ((0 : Int) + P.length + 1, h.2)])
  rw [Int.zero_add]
theorem told_end {x y : VW} {p0 : Pr} {rows : List Row} {P : List Pr} (h : Told x y p0 rows P) (hl : rows.length = P.length) (hn : P ≠ []) : cutsB x y p0 rows = true := by
  unfold cutsB
  unfold Told at h
  rw [h]
  have : rows.isEmpty = false := by
    cases rows with
    | nil => exact absurd (List.length_eq_zero_iff.mp hl.symm) hn
    | cons _ _ => rfl
  rw [this]
  show (true && decide ((metFrom 0 P).length = rows.length)) = true
  rw [metFrom_len, decide_eq_true hl.symm]; rfl
/-! the size of a box, of a pair -/
def vol : Box → Nat
  | [] => 1
  | q :: b => (q.2 - q.1).toNat * vol b
theorem vol_pos : ∀ {b : Box}, (∀ q ∈ b, q.1 < q.2) → 1 ≤ vol b
  | [], _ => Nat.le_refl _
  | q :: b, h => by
    have h1 := h q (List.mem_cons_self ..)
    have h2 := vol_pos (b := b) fun r hr => h r (List.mem_cons_of_mem _ hr)
    exact Nat.mul_pos (by omega) h2
theorem vol_set : ∀ {b : Box} {i : Nat} {l u a : Int}, b[i]? = some (l, u) → l < a → a < u → vol (b.set i (l, a)) + vol (b.set i (a, u)) = vol b
  | q :: b, 0, l, u, a, h, h1, h2 => by
    simp at h; subst h
    show (a - l).toNat * vol b + (u - a).toNat * vol b = (u - l).toNat * vol b
    rw [← Nat.add_mul]; congr 1; omega
  | q :: b, i + 1, l, u, a, h, h1, h2 => by
    have := vol_set (b := b) (i := i) (by simpa using h) h1 h2
    show (q.2 - q.1).toNat * vol (b.set i (l, a)) + (q.2 - q.1).toNat * vol (b.set i (a, u)) = (q.2 - q.1).toNat * vol b
    rw [← Nat.mul_add, this]
  | [], _, _, _, _, h, _, _ => by simp at h
def pv2 (p : Pr) : Nat := vol p.1 * vol p.2
def fm (p : Pr) : Nat := max 1 (2 * pv2 p - 1)
theorem fm_pos (p : Pr) : 1 ≤ fm p := Nat.le_max_left ..
theorem set_bare {b : Box} {i : Nat} {l u a : Int} (h : ∀ q ∈ b, q.1 < q.2) (hi : b[i]? = some (l, u)) (h1 : l < a) (h2 : a < u) : (∀ q ∈ b.set i (l, a), q.1 < q.2) ∧ ∀ q ∈ b.set i (a, u), q.1 < q.2 := by
  constructor
  · intro q hq
    rcases mem_set_at hq with ⟨rfl, _⟩ | ⟨j, _, hj⟩
    · exact h1
    · exact h q (List.mem_of_getElem? hj)
  · intro q hq
    rcases mem_set_at hq with ⟨rfl, _⟩ | ⟨j, _, hj⟩
    · exact h2
    · exact h q (List.mem_of_getElem? hj)
theorem fm_split {p : Pr} {w s a : Int} {h : Pr × Pr} (e : splitB p w s a = some h) (b1 : bareB p.1 = false) (b2 : bareB p.2 = false) : fm h.1 + fm h.2 + 1 ≤ fm p := by
  have n1 := bareB_false.mp b1
  have n2 := bareB_false.mp b2
  have key : ∀ V1 V2 V : Nat, V1 + V2 = V → 1 ≤ V1 → 1 ≤ V2 → max 1 (2 * V1 - 1) + max 1 (2 * V2 - 1) + 1 ≤ max 1 (2 * V - 1) := fun V1 V2 V _ _ _ => by omega
  unfold splitB at e
  split at e
  · cases hc : cutB p.1 s a with
    | none => rw [hc] at e; cases e
    | some c =>
      rw [hc] at e
      cases e
      obtain ⟨i, l, u, _, hi, g1, g2, rfl⟩ := cutB_spec hc
      obtain ⟨m1, m2⟩ := set_bare n1 hi g1 g2
      have v := vol_set hi g1 g2
      refine key _ _ _ ?_ (Nat.mul_pos (vol_pos m1) (vol_pos n2)) (Nat.mul_pos (vol_pos m2) (vol_pos n2))
      show vol _ * vol p.2 + vol _ * vol p.2 = vol p.1 * vol p.2
      rw [← Nat.add_mul, v]
  · split at e
    · cases hc : cutB p.2 s a with
      | none => rw [hc] at e; cases e
      | some c =>
        rw [hc] at e
        cases e
        obtain ⟨i, l, u, _, hi, g1, g2, rfl⟩ := cutB_spec hc
        obtain ⟨m1, m2⟩ := set_bare n2 hi g1 g2
        have v := vol_set hi g1 g2
        refine key _ _ _ ?_ (Nat.mul_pos (vol_pos n1) (vol_pos m1)) (Nat.mul_pos (vol_pos n1) (vol_pos m2))
        show vol p.1 * vol _ + vol p.1 * vol _ = vol p.1 * vol p.2
        rw [← Nat.mul_add, v]
    · cases e
/-- what is still to do -/
def todo (n : Nat) (P : List Pr) : Nat := ((P.drop n).map fm).sum
theorem sum_len : ∀ (P : List Pr), P.length ≤ (P.map fm).sum
  | [] => Nat.le_refl _
  | p :: P => by
    have := sum_len P
    have := fm_pos p
    rw [List.length_cons, List.map_cons, List.sum_cons]; omega
theorem todo_len {n : Nat} {P : List Pr} (h : n ≤ P.length) : P.length ≤ n + todo n P := by
  have := sum_len (P.drop n)
  rw [List.length_drop] at this
  unfold todo; omega
theorem todo_at {n : Nat} {P : List Pr} {p : Pr} (h : P[n]? = some p) : todo n P = fm p + todo (n + 1) P := by
  obtain ⟨hl, e⟩ := List.getElem?_eq_some_iff.mp h
  unfold todo
  rw [List.drop_eq_getElem_cons hl, List.map_cons, List.sum_cons, e]
theorem todo_app {n : Nat} {P : List Pr} (a b : Pr) (h : n ≤ P.length) : todo n (P ++ [a, b]) = todo n P + fm a + fm b := by
  unfold todo
  rw [List.drop_append_of_le_length h, List.map_append, List.sum_append]
  simp; omega
/-! the choice of the side -/
theorem span_zero {x : VW} {box : Box} {r i : Int} (h : WS x.ss box r i) (hr : r ≤ 0) (hb : ∀ q ∈ box, q.1 < q.2) : spLo x.b x.ss box = fcell x.b x.ss box ∧ spHi x.b x.ss box = fcell x.b x.ss box := by
  have zero : ∀ q ∈ box.zip x.ss, (q.1.2 - q.1.1 - 1) * q.2 = 0 := fun q hq => by
    rcases h with ⟨rfl, _⟩ | ⟨_, h⟩
    · simp at hq
    · obtain ⟨j, hj⟩ := List.getElem?_of_mem hq
      obtain ⟨h1, h2⟩ := List.getElem?_zip_eq_some.mp hj
      have h3 := h j q.1 q.2 h1 h2
      have h4 := hb q.1 (List.mem_of_getElem? h1)
      unfold reachI at h3
      simp only at h3
      split at h3
      · have := Int.mul_nonneg (show 0 ≤ q.1.2 - q.1.1 - 1 by omega) (show 0 ≤ -q.2 by omega)
        have e : (q.1.2 - q.1.1 - 1) * -q.2 = 0 := by omega
        rw [Int.mul_neg] at e; omega
      · have := Int.mul_nonneg (show 0 ≤ q.1.2 - q.1.1 - 1 by omega) (show 0 ≤ q.2 by omega)
        omega
  have sums : ∀ (f : Int → Int), f 0 = 0 → ∀ l : List ((Int × Int) × Int), (∀ q ∈ l, (q.1.2 - q.1.1 - 1) * q.2 = 0) → (l.map fun q => f ((q.1.2 - q.1.1 - 1) * q.2)).sum = 0 := fun f f0 l => by
    induction l with
    | nil => intro _; rfl
    | cons q l ih =>
      intro hl
      rw [List.map_cons, List.sum_cons, ih fun z hz => hl z (List.mem_cons_of_mem _ hz), hl q (List.mem_cons_self ..), f0]; rfl
  unfold spLo spHi
  rw [sums mnI rfl _ zero, sums mxI rfl _ zero, Int.add_zero]
  exact ⟨rfl, rfl⟩
theorem wide_cut {ss : List Int} {box : Box} {r i : Int} (h : WS ss box r i) (hr : 0 < r) (hb : ∀ q ∈ box, q.1 < q.2) : ∃ (k : Nat) (l u : Int), i = k ∧ box[k]? = some (l, u) ∧ l < (l + u) / 2 ∧ (l + u) / 2 < u := by
  rcases h with ⟨_, h, _⟩ | ⟨⟨k, q, s, h1, h2, h3, h4⟩, _⟩
  · omega
  · have hq := hb q (List.mem_of_getElem? h2)
    refine ⟨k, q.1, q.2, h1, h2, ?_⟩
    have : q.2 - q.1 - 1 ≠ 0 := fun e => by
      unfold reachI at h4
      simp only [e, Int.zero_mul] at h4
      omega
    omega
/-- one of the two can be cut -/
theorem choose {x y : VW} {b c : Box} {r0 i0 r1 i1 : Int} (hl : LeafSp x y b c none) (hd : Dis x y b c) (h0 : WS x.ss b r0 i0) (h1 : WS y.ss c r1 i1) :
    (r1 > r0 → ∃ (k : Nat) (l u : Int), i1 = k ∧ c[k]? = some (l, u) ∧ l < (l + u) / 2 ∧ (l + u) / 2 < u) ∧ (¬ r1 > r0 → ∃ (k : Nat) (l u : Int), i0 = k ∧ b[k]? = some (l, u) ∧ l < (l + u) / 2 ∧ (l + u) / 2 < u) := by
  obtain ⟨b1, b2, nf⟩ := hl
  have n1 := bareB_false.mp b1
  have n2 := bareB_false.mp b2
  have pos : 0 < r0 ∨ 0 < r1 := by
    by_cases c0 : 0 < r0
    · exact .inl c0
    · by_cases c1 : 0 < r1
      · exact .inr c1
      · exfalso
        obtain ⟨e1, e2⟩ := span_zero h0 (by omega) n1
        obtain ⟨e3, e4⟩ := span_zero h1 (by omega) n2
        unfold farB at nf
        rw [e1, e2, e3, e4] at nf
        have he : fcell x.b x.ss b = fcell y.b y.ss c := by omega
        refine hd _ _ (inB_first n1) (inB_first n2) ?_
        rw [dot_first, dot_first]; exact he
  have nn : ∀ {ss : List Int} {box : Box} {r i : Int}, WS ss box r i → (∀ q ∈ box, q.1 < q.2) → 0 ≤ r := fun h hb => by
    rcases h with ⟨_, h, _⟩ | ⟨⟨k, q, s, _, h2, _, h4⟩, _⟩
    · omega
    · have hq := hb q (List.mem_of_getElem? h2)
      rw [h4]; unfold reachI
      refine Int.mul_nonneg (by simp only; omega) ?_
      simp only; split <;> omega
  have p0 := nn h0 n1
  have p1 := nn h1 n2
  exact ⟨fun hgt => wide_cut h1 (by omega) n2, fun hle => wide_cut h0 (by omega) n1⟩
/-- halves are apart where the pair is -/
theorem dis_split {x y : VW} {p : Pr} {w s a : Int} {h : Pr × Pr} (e : splitB p w s a = some h) (hd : Dis x y p.1 p.2) : Dis x y h.1.1 h.1.2 ∧ Dis x y h.2.1 h.2.2 := by
  unfold splitB at e
  split at e
  · cases hc : cutB p.1 s a with
    | none => rw [hc] at e; cases e
    | some c =>
      rw [hc] at e
      cases e
      obtain ⟨i, l, u, _, hi, g1, g2, rfl⟩ := cutB_spec hc
      exact ⟨fun q t hq ht => hd q t (InB.wide (q' := (l, a)) hi (Int.le_refl _) (Int.le_of_lt g2) hq) ht, fun q t hq ht => hd q t (InB.wide (q' := (a, u)) hi (Int.le_of_lt g1) (Int.le_refl _) hq) ht⟩
  · split at e
    · cases hc : cutB p.2 s a with
      | none => rw [hc] at e; cases e
      | some c =>
        rw [hc] at e
        cases e
        obtain ⟨i, l, u, _, hi, g1, g2, rfl⟩ := cutB_spec hc
        exact ⟨fun q t hq ht => hd q t hq (InB.wide (q' := (l, a)) hi (Int.le_refl _) (Int.le_of_lt g2) ht), fun q t hq ht => hd q t hq (InB.wide (q' := (a, u)) hi (Int.le_of_lt g1) (Int.le_refl _) ht)⟩
    · cases e
theorem vol_wbox : ∀ {ls : List Int}, (∀ n ∈ ls, 0 ≤ n) → ((vol (wbox ls) : Nat) : Int) = prod ls
  | [], _ => rfl
  | n :: ls, h => by
    show (((n - 0).toNat * vol (wbox ls) : Nat) : Int) = prod (n :: ls)
    rw [prod_cons, Int.natCast_mul, vol_wbox fun m hm => h m (List.mem_cons_of_mem _ hm), Int.sub_zero, Int.toNat_of_nonneg (h n (List.mem_cons_self ..))]
end Vg

namespace Vg
open PySem PySem.Spec PyProof.Rows L2 RZ RT
/-- a reach told of a view and a box -/
def ReachR : Rep (VW × Box) := fun H v q => ∃ r i, PairR H v (r, i) ∧ WS q.1.ss q.2 r i
theorem mon_reach {K : PySem.W.Frag} : Mon K ReachR := ⟨fun k ⟨r, i, h, w⟩ => ⟨r, i, mon_pair.up (K := K) k h, w⟩⟩
/-- where the making of cuts stands -/
structure CS (K : PySem.W.Frag) (H0 : Hp) (x y : VW) (p0 : Pr) (H : Hp) (l1 l2 : Addr) (rows : List Row) (P : List Pr) : Prop where
  sm : Same H0 H
  f1 : H0 l1 = none
  f2 : H0 l2 = none
  ne : l1 ≠ l2
  ps : ∃ pvs, H l1 = some (.lst pvs) ∧ Paired (TwoR BoxR H) pvs P
  rs : ∃ rvs, H l2 = some (.lst rvs) ∧ Paired (RowR H) rvs rows
  told : Told x y p0 rows P
  ok : ∀ q ∈ P, PBok x.ls.length y.ls.length q ∧ Dis x y q.1 q.2
  le : rows.length ≤ P.length
  nn : P ≠ []
  bd : rows.length + todo rows.length P ≤ 2000000
theorem CS.same {K : PySem.W.Frag} {H0 H H' : Hp} {x y : VW} {p0 : Pr} {l1 l2 : Addr} {rows : List Row} {P : List Pr} (c : CS K H0 x y p0 H l1 l2 rows P) (s : Same H H') : CS K H0 x y p0 H' l1 l2 rows P := by
  obtain ⟨pvs, h1, h2⟩ := c.ps
  obtain ⟨rvs, h3, h4⟩ := c.rs
  exact ⟨c.sm.trans s, c.f1, c.f2, c.ne, ⟨pvs, s _ _ h1, Paired.mapP h2 fun _ _ h => (mon_two mon_box).up (K := K) (.of s) h⟩, ⟨rvs, s _ _ h3, Paired.mapP h4 fun _ _ h => mon_row.up (K := K) (.of s) h⟩, c.told, c.ok, c.le, c.nn, c.bd⟩
section
variable {P : Program} {w : World} {K : PySem.W.Frag} {mg : Str → Option Value} {base : Heap}
def sp_cuts_between (K : PySem.W.Frag) : Sp := fun vs H Q _ => ∃ v u x y, ∃ p : Pr, vs = [v, u] ∧ TwoR (VwR K) H v (x, y) ∧ VOK x ∧ VOK y ∧ TwoR BoxR H u p ∧ PBok x.ls.length y.ls.length p ∧ Dis x y p.1 p.2 ∧ pv2 p ≤ 1000000 ∧
  ∀ l H' rvs rows, H l = none → Same H H' → H' l = some (.lst rvs) → Paired (RowR H') rvs rows → cutsB x y p rows = true → rows.length ≤ 2000000 → Q (.ref l) H'
abbrev N_cuts_between : List Str := ["views", "boxes", "pairs", "rows", "here", "leaf", "reaches", "view", "box", "which", "side", "at", "left", "right", "half"]
theorem sc_cuts_between : FnScope N_cuts_between ["views", "boxes"] (defScope s_cuts_between) := ⟨rfl, rfl, rfl, by decide +kernel, rfl, by decide +kernel, by decide +kernel⟩
theorem ok_cuts_between (T : Txt K mg) : GF P w K mg base 5 "cuts_between" ["views", "boxes"] (sp_cuts_between K) := by
  have nd := sc_cuts_between.nd
  refine gf_of T (d := d_cuts_between) (x := "cuts_between") rfl rfl rfl (i := 41) rfl (by decide +kernel) sc_cuts_between (fun _ _ _ _ _ _ us hl => match us, hl with | [_, _], _ => rfl) (fun vs H Q E h => ?_) (fun cdv A outer s H vs Q E hr h => ?_)
  · obtain ⟨v, u, x, y, p, rfl, _⟩ := h; rfl
  · refine ⟨_, (pss_cons (ps_set (i := 2) nd rfl (Or.inl rfl) (pe_lst (pa_cons (pe_callTy call_tupleT rfl (T.free "tuple") (by decide +kernel) (pa_cons (pv 1) pa_nil)) pa_nil)))
      (pss_cons (ps_set (i := 3) nd rfl (Or.inl rfl) (pe_lst pa_nil))
      (pss_cons (ps_while PassesOwn.never (pt_cmpR op_lt (pe_callB call_len_seq rfl (T.free "len") boot_len (pa_cons (pv 3) pa_nil)) (pe_callB call_len_seq rfl (T.free "len") boot_len (pa_cons (pv 2) pa_nil)) (nomark _)) (pss_cons (ps_set (i := 4) nd rfl (Or.inl rfl) (pe_ix ix_list (pv 2) (pe_callB call_len_seq rfl (T.free "len") boot_len (pa_cons (pv 3) pa_nil)) (fun _ _ => rfl)))
      (pss_cons (ps_set (i := 5) nd rfl (Or.inl rfl) (pe_callG (ok_leaf_of T) (hr.mono (by decide)) rfl (pa_cons (pv 0) (pa_cons (pv 4) pa_nil))))
      (pss_one (ps_if (pt_cmpR op_notN (pv 5) pe_non (nomark _)) (pss_one (ps_expr (pe_bm PySem.F.plainAttrs_list PySem.F.slot_list_append PySem.F.type_list_append mt_append (pv 3) (pa_cons (pv 5) pa_nil)))) (pss_cons (ps_setLc (i := 6) (own := [("view", 7), ("box", 8)]) (g := (gTup K 2 (gCons (gName 7) (gCons (gName 8) gNil)))) (tt := tYes) rfl nd rfl rfl (sw_true rfl rfl rfl (by decide +kernel)) (pi_zipA rfl (T.free "zip") (pa_cons (pv 0) (pa_cons (pv 4) pa_nil))) (blkOk_by (N := N_cuts_between) (sc := defScope s_cuts_between) (by decide +kernel)) (fun _ _ _ _ _ => (pg_tup rfl (pgs_cons (pg_name (i := 7) nd rfl (Or.inl rfl)) (pgs_cons (pg_name (i := 8) nd rfl (Or.inl rfl)) pgs_nil)))) (fun _ _ _ _ _ => pts_nil) (fun _ _ _ _ _ => (pe_callG (ok_widest_side T) (hr.mono (by decide)) rfl (pa_cons (pv 7) (pa_cons (pv 8) pa_nil)))))
      (pss_cons (ps_set (i := 9) nd rfl (Or.inl rfl) (pe_callTy call_int1 rfl (T.free "int") (by decide +kernel) (pa_cons (pe_cmpR op_gt (pe_ix ix_tup (pe_ix ix_list (pv 6) pe_int (fun _ _ => rfl)) pe_int (fun _ _ => rfl)) (pe_ix ix_tup (pe_ix ix_list (pv 6) pe_int (fun _ _ => rfl)) pe_int (fun _ _ => rfl)) (nomark _)) pa_nil)))
      (pss_cons (ps_set (i := 10) nd rfl (Or.inl rfl) (pe_ix ix_tup (pe_ix ix_list (pv 6) (pv 9) (fun _ _ => rfl)) pe_int (fun _ _ => rfl)))
      (pss_cons (ps_asg (pe_callG (ok_halved T) (hr.mono (by decide)) rfl (pa_cons (pe_ix ix_tup (pv 4) (pv 9) (fun _ _ => rfl)) (pa_cons (pv 10) pa_nil))) (pg_tup rfl (pgs_cons (pg_name (i := 11) nd rfl (Or.inl rfl)) (pgs_cons (pg_name (i := 12) nd rfl (Or.inl rfl)) (pgs_cons (pg_name (i := 13) nd rfl (Or.inl rfl)) pgs_nil)))))
      (pss_cons (ps_expr (pe_bm PySem.F.plainAttrs_list PySem.F.slot_list_append PySem.F.type_list_append mt_append (pv 3) (pa_cons (pe_tup (pa_cons pe_str (pa_cons (pv 9) (pa_cons (pv 10) (pa_cons (pv 11) (pa_cons (pe_callB call_len_seq rfl (T.free "len") boot_len (pa_cons (pv 2) pa_nil)) (pa_cons (pe_op op_add (pe_callB call_len_seq rfl (T.free "len") boot_len (pa_cons (pv 2) pa_nil)) pe_int) pa_nil))))))) pa_nil)))
      (pss_one (ps_for PassesOwn.never rfl (pi_tup (pe_tup (pa_cons (pv 12) (pa_cons (pv 13) pa_nil)))) (pg_name (i := 14) nd rfl (Or.inl rfl)) (pss_one (ps_expr (pe_bm PySem.F.plainAttrs_list PySem.F.slot_list_append PySem.F.type_list_append mt_append (pv 2) (pa_cons (pe_ifExp (pt_cmpR op_eq (pv 9) pe_int (nomark _)) (pe_tup (pa_cons (pv 14) (pa_cons (pe_ix ix_tup (pv 4) pe_int (fun _ _ => rfl)) pa_nil))) (pe_tup (pa_cons (pe_ix ix_tup (pv 4) pe_int (fun _ _ => rfl)) (pa_cons (pv 14) pa_nil)))) pa_nil))))))))))))))))
      (pss_one (ps_ret (pv 3)))))), ?_⟩
    obtain ⟨v, u, x, y, p0, rfl, hv, hOx, hOy, hu, hPB, hD, hvol, q⟩ := h
    obtain ⟨va, v1, v2, rfl, hva, hx, hy⟩ := id hv
    obtain ⟨ua, u1, u2, rfl, hua, hb, hc⟩ := id hu
    have fx := hOx.lens.few
    have fy := hOy.lens.few
    refine ⟨_, rfl, ua, _, rfl, SqT.of hua, by show 1 ≤ sizeLine; decide, fun l1 hl1 => ⟨by show 0 ≤ sizeLine; decide, fun l2 hl2 => ?_⟩⟩
    have n12 : l1 ≠ l2 := by rintro rfl; rw [upd_same] at hl2; cases hl2
    have s0 : Same H (upd (upd H l1 (.lst [.ref ua])) l2 (.lst [])) := (Same.new hl1).trans (Same.new hl2)
    have c0 : CS K H x y p0 (upd (upd H l1 (.lst [.ref ua])) l2 (.lst [])) l1 l2 [] [p0] := by
      refine ⟨s0, hl1, (Same.new hl1).free hl2, n12, ⟨[.ref ua], by rw [upd_ne n12, upd_same], .cons ((mon_two mon_box).up (K := K) (.of s0) hu) .nil⟩, ⟨[], upd_same, .nil⟩, rfl, fun z hz => ?_, Nat.zero_le _, by simp, ?_⟩
      · rw [List.mem_singleton.mp hz]; exact ⟨hPB, hD⟩
      · show 0 + todo 0 [p0] ≤ 2000000
        unfold todo fm; simp; omega
    refine ⟨fun m σ H' => ∃ l1 l2 rows P z4 z5 z6 z9 z10 z11 z12 z13 z14, m = todo rows.length P ∧ σ = [some (.ref va), some (.ref ua), some (.ref l1), some (.ref l2), z4, z5, z6, none, none, z9, z10, z11, z12, z13, z14] ∧ CS K H x y p0 H' l1 l2 rows P,
      ⟨todo 0 [p0], l1, l2, [], [p0], none, none, none, none, none, none, none, none, none, rfl, rfl, c0⟩, ?_⟩
    rintro m σ H1 ⟨l1, l2, rows, P, z4, z5, z6, z9, z10, z11, z12, z13, z14, rfl, rfl, C⟩
    clear c0 s0 n12 hl1 hl2
    obtain ⟨pvs, e1, p1⟩ := C.ps
    obtain ⟨rvs, e2, p2⟩ := C.rs
    have lp := Paired.len p1
    have lr := Paired.len p2
    refine ⟨_, rfl, l2, _, rfl, .inl (SqL.of e2), _, rfl, l1, _, rfl, .inl (SqL.of e1), _, _, rfl, rfl, decide ((rvs.length : Int) < pvs.length), rfl, ?_⟩
    by_cases hlt : (rvs.length : Int) < pvs.length
    case neg =>
      rw [decide_eq_false hlt]
      have le := C.le
      have hlen : rows.length = P.length := by omega
      refine iteF ⟨_, rfl, q l2 H1 rvs rows C.f2 C.sm e2 p2 (told_end C.told hlen C.nn) ?_⟩
      have := C.bd; omega
    rw [decide_eq_true hlt]
    have hn : rows.length < P.length := by omega
    have hP : P[rows.length]? = some P[rows.length] := List.getElem?_eq_getElem hn
    generalize hpp : P[rows.length] = pp at hP
    obtain ⟨hv0, hw1, hw2⟩ := Paired.get' p1 hP
    obtain ⟨a0, b1, b2, rfl, ha0, hb1, hb2⟩ := hw2
    obtain ⟨⟨Bb, Bc⟩, hdis⟩ := C.ok pp (List.mem_of_getElem? hP)
    have hx1 := (mon_two mon_vw).up (.of C.sm) hv
    refine iteT ⟨fun σ' H' => ∃ m', m' < todo rows.length P ∧ ∃ l1 l2 rows P z4 z5 z6 z9 z10 z11 z12 z13 z14, m' = todo rows.length P ∧ σ' = [some (.ref va), some (.ref ua), some (.ref l1), some (.ref l2), z4, z5, z6, none, none, z9, z10, z11, z12, z13, z14] ∧ CS K H x y p0 H' l1 l2 rows P, fun _ _ h => h, ?_⟩
    refine ⟨_, rfl, _, rfl, l2, _, rfl, .inl (SqL.of e2), l1, _, _, _, rfl, rfl, SqL.of e1, at_of (j := rows.length) (v := .ref a0) (by rw [lr]) hw1, ?_⟩
    refine ⟨_, rfl, _, rfl, _, _, x, y, pp.1, pp.2, rfl, hx1, hOx, hOy, ⟨a0, b1, b2, rfl, ha0, hb1, hb2⟩, Bb, Bc, fun w H2 lf s2 hw hlf => ?_⟩
    have C2 := C.same s2
    refine ⟨_, rfl, rfl, _, rfl, ?_⟩
    have sz : rvs.length < sizeLine := by rw [sizeLine_eq]; have := C.bd; omega
    match lf, hw, hlf with
    | some row, ⟨ra, hra1, hra⟩, hlf =>
      subst hra1
      refine iteT ⟨_, rfl, .inl ⟨rfl, _, SqL.of (s2 _ _ e2)⟩, _, rfl, l2, _, _, rfl, rfl, s2 _ _ e2, sz, ?_⟩
      have k3 : KT K H2 (upd H2 l2 (.lst (rvs ++ [.ref ra]))) := KT.lst (s2 _ _ e2)
      have ht := todo_at hP
      have hf := fm_pos pp
      refine ⟨todo (rows ++ [row]).length P, by rw [List.length_append, List.length_singleton]; omega, l1, l2, rows ++ [row], P, _, _, _, _, _, _, _, _, _, rfl, rfl, ?_⟩
      refine ⟨Same.mut C2.sm C.f2, C.f1, C.f2, C.ne, ⟨pvs, (upd_ne C.ne).trans (s2 _ _ e1), Paired.mapP p1 fun _ _ h => (mon_two mon_box).up (K := K) ((KT.of s2).trans k3) h⟩, ⟨_, upd_same, Paired.app (Paired.mapP p2 fun _ _ h => mon_row.up (K := K) ((KT.of s2).trans k3) h) ⟨ra, rfl, k3.tup _ _ hra⟩⟩,
        told_leaf C.told hP hlf, C.ok, by rw [List.length_append, List.length_singleton]; omega, C.nn, ?_⟩
      have := C.bd
      rw [List.length_append, List.length_singleton]; omega
    | none, hw, hlf =>
    have hw' : w = V.non := hw
    subst hw'
    refine iteF ⟨_, rfl, _, rfl, va, a0, _, _, rfl, .inr ⟨SqT.of (s2 _ _ (C.sm _ _ hva)), SqT.of (s2 _ _ ha0), fun D hD => ?_⟩⟩
    refine lc_map (K := K) (R := ReachR) (walk_zipT (n := 2) (xs := [v1, v2]) (ys := [b1, b2]) rfl) mon_reach (fun i => (if i = 0 then x else y, if i = 0 then pp.1 else pp.2)) (by decide) hD (fun H' s' => ⟨SqT.of (s' _ _ (s2 _ _ (C.sm _ _ hva))), SqT.of (s' _ _ (s2 _ _ ha0))⟩) ?_ ?_
    · rintro i z H3 H4 Kk hi s3 ⟨t, x1, x2, rfl, hn', rfl, g1, g2⟩ kk
      have s13 := s2.trans s3
      have s14 := s13.trans (Same.new (o := .tup [x1, x2]) hn')
      refine ⟨t, _, rfl, SqT.of upd_same, rfl, _, _, rfl, _, _, rfl, rfl, rfl, ?_⟩
      refine ⟨_, rfl, _, rfl, _, (if i = 0 then x else y), _, (if i = 0 then pp.1 else pp.2), rfl, mon_vw.up (.of (C.sm.trans s14)) (two_get hx hy g1), ?_, mon_box.up (K := K) (.of s14) (two_get hb1 hb2 g2), ?_, fun w H5 r i' s5 hr hws => kk _ _ ((Same.new hn').trans s5) ⟨r, i', hr, hws⟩⟩
      · split <;> assumption
      · split <;> assumption
    intro H3 acc s3 e3 p3
    have s13 := s2.trans s3
    have p3' : Paired (ReachR H3) acc [(x, pp.1), (y, pp.2)] := p3
    match acc, p3' with
    | [w1, w2], .cons ⟨r0, i0, ⟨q0, ew1, hq0⟩, ws0⟩ (.cons ⟨r1, i1, ⟨q1, ew2, hq1⟩, ws1⟩ .nil) =>
    subst ew1 ew2
    have C3 := C2.same s3
    refine ⟨_, rfl, D, _, _, _, rfl, rfl, SqL.of e3, at_of (j := 1) (v := .ref q1) rfl rfl, q1, _, _, _, rfl, rfl, SqT.of hq1, at_of (j := 0) (v := .int r1) rfl rfl, _, rfl, D, _, _, _, rfl, rfl, SqL.of e3, at_of (j := 0) (v := .ref q0) rfl rfl, q0, _, _, _, rfl, rfl, SqT.of hq0, at_of (j := 0) (v := .int r0) rfl rfl, _, _, rfl, rfl, .inr ⟨_, rfl, ?_⟩⟩
    obtain ⟨ch1, ch0⟩ := choose hlf hdis ws0 ws1
    by_cases hgt : r1 > r0
    · rw [decide_eq_true hgt]
      obtain ⟨k, l, u, ei, hk, c1, c2⟩ := ch1 hgt
      subst ei
      have hspl : splitB pp 1 k ((l + u) / 2) = some (((pp.1, pp.2.set k (l, (l + u) / 2)), (pp.1, pp.2.set k ((l + u) / 2, u))) : Pr × Pr) := by
        unfold splitB
        rw [if_neg (by decide), if_pos rfl, cutB_of hk c1 c2]; rfl
      refine ⟨_, rfl, _, rfl, D, _, _, _, rfl, rfl, SqL.of e3, at_of (j := 1) (v := .ref q1) rfl rfl, q1, _, _, _, rfl, rfl, SqT.of hq1, at_of (j := 1) (v := .int k) rfl rfl, ?_⟩
      refine ⟨_, rfl, _, rfl, a0, _, _, _, rfl, rfl, SqT.of (s13 _ _ ha0), at_of (j := 1) (v := b2) rfl rfl, _, rfl, _, pp.2, k, l, u, rfl, mon_box.up (K := K) (.of s13) hb2, by rw [Bc.len]; omega, Bc.rng, hk, fun wv xl yl z H4 s4 ew hz hX hY => ?_⟩
      subst ew
      have s14 := s13.trans s4
      have C4 := C3.same s4
      refine ⟨z, _, rfl, SqT.of hz, rfl, _, _, rfl, _, _, rfl, _, _, rfl, rfl, ?_⟩
      refine ⟨_, rfl, .inl ⟨rfl, _, SqL.of (s14 _ _ e2)⟩, _, rfl, _, rfl, _, rfl, _, rfl, l1, _, rfl, .inl (SqL.of (s14 _ _ e1)), _, rfl, l1, _, rfl, .inl (SqL.of (s14 _ _ e1)), _, _, rfl, rfl, by show 6 ≤ sizeLine; decide, fun t ht => ⟨l2, _, _, rfl, rfl, (Same.new ht) _ _ (s14 _ _ e2), sz, ?_⟩⟩
      have k5 : KT K H4 (upd (upd H4 t (.tup [.str "split", .int 1, .int k, .int ((l + u) / 2), .int pvs.length, .int (pvs.length + 1)])) l2 (.lst (rvs ++ [.ref t]))) := (KT.new ht).trans (KT.lst ((Same.new ht) _ _ (s14 _ _ e2)))
      have m5 : Same H (upd (upd H4 t (.tup [.str "split", .int 1, .int k, .int ((l + u) / 2), .int pvs.length, .int (pvs.length + 1)])) l2 (.lst (rvs ++ [.ref t]))) := Same.mut (C4.sm.trans (Same.new ht)) C.f2
      have g1 : (upd (upd H4 t (.tup [.str "split", .int 1, .int k, .int ((l + u) / 2), .int pvs.length, .int (pvs.length + 1)])) l2 (.lst (rvs ++ [.ref t]))) l1 = some (.lst pvs) := (upd_ne C.ne).trans ((Same.new ht) _ _ (s14 _ _ e1))
      have g2 : (upd (upd H4 t (.tup [.str "split", .int 1, .int k, .int ((l + u) / 2), .int pvs.length, .int (pvs.length + 1)])) l2 (.lst (rvs ++ [.ref t]))) l2 = some (.lst (rvs ++ [.ref t])) := upd_same
      have g3 : (upd (upd H4 t (.tup [.str "split", .int 1, .int k, .int ((l + u) / 2), .int pvs.length, .int (pvs.length + 1)])) l2 (.lst (rvs ++ [.ref t]))) t = some (.tup [.str "split", .int 1, .int k, .int ((l + u) / 2), .int pvs.length, .int (pvs.length + 1)]) := (upd_ne (Ne.symm (ne_of_none (s14 _ _ e2) ht))).trans upd_same
      refine ⟨_, rfl, _, rfl, by show 2 ≤ sizeLine; decide, fun t2 ht2 => ⟨t2, rfl, ⟨_, SqT.of upd_same⟩, ?_⟩⟩
      have s6 : Same (upd (upd H4 t (.tup [.str "split", .int 1, .int k, .int ((l + u) / 2), .int pvs.length, .int (pvs.length + 1)])) l2 (.lst (rvs ++ [.ref t]))) (upd (upd (upd H4 t (.tup [.str "split", .int 1, .int k, .int ((l + u) / 2), .int pvs.length, .int (pvs.length + 1)])) l2 (.lst (rvs ++ [.ref t]))) t2 (.tup [xl, yl])) := Same.new ht2
      have e6 : (upd (upd (upd H4 t (.tup [.str "split", .int 1, .int k, .int ((l + u) / 2), .int pvs.length, .int (pvs.length + 1)])) l2 (.lst (rvs ++ [.ref t]))) t2 (.tup [xl, yl])) t2 = some (.tup [xl, yl]) := upd_same
      have k46 := k5.trans (KT.of s6)
      have m6 := m5.trans s6
      refine for_it walk_tup (fun i σ H' => (∃ z14, σ = [some (.ref va), some (.ref ua), some (.ref l1), some (.ref l2), some (.ref a0), some .non, some (.ref D), none, none, some (.int 1), some (.int k), some (.int ((l + u) / 2)), some xl, some yl, z14]) ∧ KT K H4 H' ∧ Same H H' ∧ H' l2 = some (.lst (rvs ++ [.ref t])) ∧ H' t = some (.tup [.str "split", .int 1, .int k, .int ((l + u) / 2), .int pvs.length, .int (pvs.length + 1)]) ∧ H' t2 = some (.tup [xl, yl]) ∧
        ∃ ps, H' l1 = some (.lst ps) ∧ Paired (TwoR BoxR H') ps (P ++ ([((((pp.1, pp.2.set k (l, (l + u) / 2)), (pp.1, pp.2.set k ((l + u) / 2, u))) : Pr × Pr)).1, ((((pp.1, pp.2.set k (l, (l + u) / 2)), (pp.1, pp.2.set k ((l + u) / 2, u))) : Pr × Pr)).2] : List Pr).take i)) ⟨⟨_, rfl⟩, k46, m6, s6 _ _ g2, s6 _ _ g3, e6, pvs, s6 _ _ g1, ?_⟩ (fun i σ H' _ p => SqT.of p.2.2.2.2.2.1) ?_ ?_
      · rw [List.take_zero, List.append_nil]
        exact Paired.mapP p1 fun _ _ h => (mon_two mon_box).up (K := K) ((KT.of s14).trans k46) h
      · rintro i yv σ H8 H7 hi ⟨⟨z14, rfl⟩, k7, m7, h72, h7t, h7u, ps, h71, pp7⟩ ⟨rfl, hyv⟩
        have hyl : BoxR H7 yv ([((((pp.1, pp.2.set k (l, (l + u) / 2)), (pp.1, pp.2.set k ((l + u) / 2, u))) : Pr × Pr)).1.2, ((((pp.1, pp.2.set k (l, (l + u) / 2)), (pp.1, pp.2.set k ((l + u) / 2, u))) : Pr × Pr)).2.2].getD i []) ∧ ([xl, yl] : List V)[i]? = some yv := by
          refine ⟨?_, hyv⟩
          match i, hyv with
          | 0, hyv => simp at hyv; subst hyv; exact mon_box.up k7 hX
          | 1, hyv => simp at hyv; subst hyv; exact mon_box.up k7 hY
        have szp : ps.length < sizeLine := by
          have := Paired.len pp7
          have b3 := todo_len C.le
          have b4 := C.bd
          rw [List.length_append, List.length_take] at this
          rw [sizeLine_eq]; simp at this; omega
        refine ⟨_, rfl, .inl ⟨rfl, _, SqL.of h71⟩, _, rfl, rfl, _, rfl, ?_⟩
        refine iteF ⟨_, rfl, a0, _, _, _, rfl, rfl, SqT.of ((k7.tup _ _ (s14 _ _ ha0))), at_of (j := 0) (v := b1) rfl rfl, _, rfl, by show 2 ≤ sizeLine; decide, fun t3 ht3 => ⟨l1, _, _, rfl, rfl, (Same.new ht3) _ _ h71, szp, ?_⟩⟩
        have k8 : KT K H7 (upd (upd H7 t3 (.tup [b1, yv])) l1 (.lst (ps ++ [.ref t3]))) := (KT.new ht3).trans (KT.lst ((Same.new ht3) _ _ h71))
        have nt2 : t2 ≠ l1 := fun e => by rw [e, h71] at h7u; cases h7u
        have ntt : t ≠ l1 := fun e => by rw [e, h71] at h7t; cases h7t
        refine ⟨⟨_, rfl⟩, k7.trans k8, Same.mut (m7.trans (Same.new ht3)) C.f1, (upd_ne (Ne.symm C.ne)).trans ((Same.new ht3) _ _ h72), (upd_ne ntt).trans ((Same.new ht3) _ _ h7t), (upd_ne nt2).trans ((Same.new ht3) _ _ h7u), _, upd_same, ?_⟩
        have hnew : TwoR BoxR (upd (upd H7 t3 (.tup [b1, yv])) l1 (.lst (ps ++ [.ref t3]))) (.ref t3) (pp.1, [((((pp.1, pp.2.set k (l, (l + u) / 2)), (pp.1, pp.2.set k ((l + u) / 2, u))) : Pr × Pr)).1.2, ((((pp.1, pp.2.set k (l, (l + u) / 2)), (pp.1, pp.2.set k ((l + u) / 2, u))) : Pr × Pr)).2.2].getD i []) := ⟨t3, _, _, rfl, (upd_ne (fun e => by rw [e, h71] at ht3; cases ht3)).trans upd_same, mon_box.up (K := K) ((KT.of s14).trans (k7.trans k8)) hb1, mon_box.up (K := K) k8 hyl.1⟩
        have hh := Paired.app (Paired.mapP pp7 fun _ _ h => (mon_two mon_box).up k8 h) hnew
        match i, hi with
        | 0, _ => simpa using hh
        | 1, _ => simpa using hh
      · rintro σ H7 ⟨⟨z14, rfl⟩, k7, m7, h72, h7t, h7u, ps, h71, pp7⟩
        have pp7' : Paired (TwoR BoxR H7) ps (P ++ [((((pp.1, pp.2.set k (l, (l + u) / 2)), (pp.1, pp.2.set k ((l + u) / 2, u))) : Pr × Pr)).1, ((((pp.1, pp.2.set k (l, (l + u) / 2)), (pp.1, pp.2.set k ((l + u) / 2, u))) : Pr × Pr)).2]) := pp7
        obtain ⟨⟨o1, o2⟩, o3, o4⟩ := And.intro (split_bb hspl ⟨Bb, Bc⟩) (dis_split hspl hdis)
        have hfs := fm_split hspl hlf.1 hlf.2.1
        have ht0 := todo_at hP
        have hta := todo_app (n := rows.length + 1) (P := P) ((((pp.1, pp.2.set k (l, (l + u) / 2)), (pp.1, pp.2.set k ((l + u) / 2, u))) : Pr × Pr)).1 ((((pp.1, pp.2.set k (l, (l + u) / 2)), (pp.1, pp.2.set k ((l + u) / 2, u))) : Pr × Pr)).2 hn
        have hbd := C.bd
        refine ⟨todo (rows.length + 1) (P ++ [((((pp.1, pp.2.set k (l, (l + u) / 2)), (pp.1, pp.2.set k ((l + u) / 2, u))) : Pr × Pr)).1, ((((pp.1, pp.2.set k (l, (l + u) / 2)), (pp.1, pp.2.set k ((l + u) / 2, u))) : Pr × Pr)).2]), by omega, l1, l2, rows ++ [.split 1 k ((l + u) / 2) P.length (P.length + 1)], P ++ [((((pp.1, pp.2.set k (l, (l + u) / 2)), (pp.1, pp.2.set k ((l + u) / 2, u))) : Pr × Pr)).1, ((((pp.1, pp.2.set k (l, (l + u) / 2)), (pp.1, pp.2.set k ((l + u) / 2, u))) : Pr × Pr)).2], _, _, _, _, _, _, _, _, _, by rw [List.length_append, List.length_singleton], rfl, ?_⟩
        refine ⟨m7, C.f1, C.f2, C.ne, ⟨ps, h71, pp7'⟩, ⟨_, h72, Paired.app (Paired.mapP p2 fun _ _ h => mon_row.up ((KT.of s14).trans k7) h) ⟨t, rfl, ?_⟩⟩, told_split C.told hP hspl, fun z hz => ?_, ?_, by simp, ?_⟩
        · rw [h7t, lp]; rfl
        · rcases List.mem_append.mp hz with hz | hz
          · exact C.ok z hz
          · rcases List.mem_cons.mp hz with rfl | hz
            · exact ⟨o1, o3⟩
            · rw [List.mem_singleton.mp hz]; exact ⟨o2, o4⟩
        · rw [List.length_append, List.length_append, List.length_singleton]; simp; omega
        · rw [List.length_append, List.length_singleton]; omega
    · rw [decide_eq_false hgt]
      obtain ⟨k, l, u, ei, hk, c1, c2⟩ := ch0 hgt
      subst ei
      have hspl : splitB pp 0 k ((l + u) / 2) = some (((pp.1.set k (l, (l + u) / 2), pp.2), (pp.1.set k ((l + u) / 2, u), pp.2)) : Pr × Pr) := by
        unfold splitB
        rw [if_pos rfl, cutB_of hk c1 c2]; rfl
      refine ⟨_, rfl, _, rfl, D, _, _, _, rfl, rfl, SqL.of e3, at_of (j := 0) (v := .ref q0) rfl rfl, q0, _, _, _, rfl, rfl, SqT.of hq0, at_of (j := 1) (v := .int k) rfl rfl, ?_⟩
      refine ⟨_, rfl, _, rfl, a0, _, _, _, rfl, rfl, SqT.of (s13 _ _ ha0), at_of (j := 0) (v := b1) rfl rfl, _, rfl, _, pp.1, k, l, u, rfl, mon_box.up (K := K) (.of s13) hb1, by rw [Bb.len]; omega, Bb.rng, hk, fun wv xl yl z H4 s4 ew hz hX hY => ?_⟩
      subst ew
      have s14 := s13.trans s4
      have C4 := C3.same s4
      refine ⟨z, _, rfl, SqT.of hz, rfl, _, _, rfl, _, _, rfl, _, _, rfl, rfl, ?_⟩
      refine ⟨_, rfl, .inl ⟨rfl, _, SqL.of (s14 _ _ e2)⟩, _, rfl, _, rfl, _, rfl, _, rfl, l1, _, rfl, .inl (SqL.of (s14 _ _ e1)), _, rfl, l1, _, rfl, .inl (SqL.of (s14 _ _ e1)), _, _, rfl, rfl, by show 6 ≤ sizeLine; decide, fun t ht => ⟨l2, _, _, rfl, rfl, (Same.new ht) _ _ (s14 _ _ e2), sz, ?_⟩⟩
      have k5 : KT K H4 (upd (upd H4 t (.tup [.str "split", .int 0, .int k, .int ((l + u) / 2), .int pvs.length, .int (pvs.length + 1)])) l2 (.lst (rvs ++ [.ref t]))) := (KT.new ht).trans (KT.lst ((Same.new ht) _ _ (s14 _ _ e2)))
      have m5 : Same H (upd (upd H4 t (.tup [.str "split", .int 0, .int k, .int ((l + u) / 2), .int pvs.length, .int (pvs.length + 1)])) l2 (.lst (rvs ++ [.ref t]))) := Same.mut (C4.sm.trans (Same.new ht)) C.f2
      have g1 : (upd (upd H4 t (.tup [.str "split", .int 0, .int k, .int ((l + u) / 2), .int pvs.length, .int (pvs.length + 1)])) l2 (.lst (rvs ++ [.ref t]))) l1 = some (.lst pvs) := (upd_ne C.ne).trans ((Same.new ht) _ _ (s14 _ _ e1))
      have g2 : (upd (upd H4 t (.tup [.str "split", .int 0, .int k, .int ((l + u) / 2), .int pvs.length, .int (pvs.length + 1)])) l2 (.lst (rvs ++ [.ref t]))) l2 = some (.lst (rvs ++ [.ref t])) := upd_same
      have g3 : (upd (upd H4 t (.tup [.str "split", .int 0, .int k, .int ((l + u) / 2), .int pvs.length, .int (pvs.length + 1)])) l2 (.lst (rvs ++ [.ref t]))) t = some (.tup [.str "split", .int 0, .int k, .int ((l + u) / 2), .int pvs.length, .int (pvs.length + 1)]) := (upd_ne (Ne.symm (ne_of_none (s14 _ _ e2) ht))).trans upd_same
      refine ⟨_, rfl, _, rfl, by show 2 ≤ sizeLine; decide, fun t2 ht2 => ⟨t2, rfl, ⟨_, SqT.of upd_same⟩, ?_⟩⟩
      have s6 : Same (upd (upd H4 t (.tup [.str "split", .int 0, .int k, .int ((l + u) / 2), .int pvs.length, .int (pvs.length + 1)])) l2 (.lst (rvs ++ [.ref t]))) (upd (upd (upd H4 t (.tup [.str "split", .int 0, .int k, .int ((l + u) / 2), .int pvs.length, .int (pvs.length + 1)])) l2 (.lst (rvs ++ [.ref t]))) t2 (.tup [xl, yl])) := Same.new ht2
      have e6 : (upd (upd (upd H4 t (.tup [.str "split", .int 0, .int k, .int ((l + u) / 2), .int pvs.length, .int (pvs.length + 1)])) l2 (.lst (rvs ++ [.ref t]))) t2 (.tup [xl, yl])) t2 = some (.tup [xl, yl]) := upd_same
      have k46 := k5.trans (KT.of s6)
      have m6 := m5.trans s6
      refine for_it walk_tup (fun i σ H' => (∃ z14, σ = [some (.ref va), some (.ref ua), some (.ref l1), some (.ref l2), some (.ref a0), some .non, some (.ref D), none, none, some (.int 0), some (.int k), some (.int ((l + u) / 2)), some xl, some yl, z14]) ∧ KT K H4 H' ∧ Same H H' ∧ H' l2 = some (.lst (rvs ++ [.ref t])) ∧ H' t = some (.tup [.str "split", .int 0, .int k, .int ((l + u) / 2), .int pvs.length, .int (pvs.length + 1)]) ∧ H' t2 = some (.tup [xl, yl]) ∧
        ∃ ps, H' l1 = some (.lst ps) ∧ Paired (TwoR BoxR H') ps (P ++ ([((((pp.1.set k (l, (l + u) / 2), pp.2), (pp.1.set k ((l + u) / 2, u), pp.2)) : Pr × Pr)).1, ((((pp.1.set k (l, (l + u) / 2), pp.2), (pp.1.set k ((l + u) / 2, u), pp.2)) : Pr × Pr)).2] : List Pr).take i)) ⟨⟨_, rfl⟩, k46, m6, s6 _ _ g2, s6 _ _ g3, e6, pvs, s6 _ _ g1, ?_⟩ (fun i σ H' _ p => SqT.of p.2.2.2.2.2.1) ?_ ?_
      · rw [List.take_zero, List.append_nil]
        exact Paired.mapP p1 fun _ _ h => (mon_two mon_box).up (K := K) ((KT.of s14).trans k46) h
      · rintro i yv σ H8 H7 hi ⟨⟨z14, rfl⟩, k7, m7, h72, h7t, h7u, ps, h71, pp7⟩ ⟨rfl, hyv⟩
        have hyl : BoxR H7 yv ([((((pp.1.set k (l, (l + u) / 2), pp.2), (pp.1.set k ((l + u) / 2, u), pp.2)) : Pr × Pr)).1.1, ((((pp.1.set k (l, (l + u) / 2), pp.2), (pp.1.set k ((l + u) / 2, u), pp.2)) : Pr × Pr)).2.1].getD i []) ∧ ([xl, yl] : List V)[i]? = some yv := by
          refine ⟨?_, hyv⟩
          match i, hyv with
          | 0, hyv => simp at hyv; subst hyv; exact mon_box.up k7 hX
          | 1, hyv => simp at hyv; subst hyv; exact mon_box.up k7 hY
        have szp : ps.length < sizeLine := by
          have := Paired.len pp7
          have b3 := todo_len C.le
          have b4 := C.bd
          rw [List.length_append, List.length_take] at this
          rw [sizeLine_eq]; simp at this; omega
        refine ⟨_, rfl, .inl ⟨rfl, _, SqL.of h71⟩, _, rfl, rfl, _, rfl, ?_⟩
        refine iteT ⟨_, rfl, _, rfl, a0, _, _, _, rfl, rfl, SqT.of ((k7.tup _ _ (s14 _ _ ha0))), at_of (j := 1) (v := b2) rfl rfl, by show 2 ≤ sizeLine; decide, fun t3 ht3 => ⟨l1, _, _, rfl, rfl, (Same.new ht3) _ _ h71, szp, ?_⟩⟩
        have k8 : KT K H7 (upd (upd H7 t3 (.tup [yv, b2])) l1 (.lst (ps ++ [.ref t3]))) := (KT.new ht3).trans (KT.lst ((Same.new ht3) _ _ h71))
        have nt2 : t2 ≠ l1 := fun e => by rw [e, h71] at h7u; cases h7u
        have ntt : t ≠ l1 := fun e => by rw [e, h71] at h7t; cases h7t
        refine ⟨⟨_, rfl⟩, k7.trans k8, Same.mut (m7.trans (Same.new ht3)) C.f1, (upd_ne (Ne.symm C.ne)).trans ((Same.new ht3) _ _ h72), (upd_ne ntt).trans ((Same.new ht3) _ _ h7t), (upd_ne nt2).trans ((Same.new ht3) _ _ h7u), _, upd_same, ?_⟩
        have hnew : TwoR BoxR (upd (upd H7 t3 (.tup [yv, b2])) l1 (.lst (ps ++ [.ref t3]))) (.ref t3) ([((((pp.1.set k (l, (l + u) / 2), pp.2), (pp.1.set k ((l + u) / 2, u), pp.2)) : Pr × Pr)).1.1, ((((pp.1.set k (l, (l + u) / 2), pp.2), (pp.1.set k ((l + u) / 2, u), pp.2)) : Pr × Pr)).2.1].getD i [], pp.2) := ⟨t3, _, _, rfl, (upd_ne (fun e => by rw [e, h71] at ht3; cases ht3)).trans upd_same, mon_box.up (K := K) k8 hyl.1, mon_box.up (K := K) ((KT.of s14).trans (k7.trans k8)) hb2⟩
        have hh := Paired.app (Paired.mapP pp7 fun _ _ h => (mon_two mon_box).up k8 h) hnew
        match i, hi with
        | 0, _ => simpa using hh
        | 1, _ => simpa using hh
      · rintro σ H7 ⟨⟨z14, rfl⟩, k7, m7, h72, h7t, h7u, ps, h71, pp7⟩
        have pp7' : Paired (TwoR BoxR H7) ps (P ++ [((((pp.1.set k (l, (l + u) / 2), pp.2), (pp.1.set k ((l + u) / 2, u), pp.2)) : Pr × Pr)).1, ((((pp.1.set k (l, (l + u) / 2), pp.2), (pp.1.set k ((l + u) / 2, u), pp.2)) : Pr × Pr)).2]) := pp7
        obtain ⟨⟨o1, o2⟩, o3, o4⟩ := And.intro (split_bb hspl ⟨Bb, Bc⟩) (dis_split hspl hdis)
        have hfs := fm_split hspl hlf.1 hlf.2.1
        have ht0 := todo_at hP
        have hta := todo_app (n := rows.length + 1) (P := P) ((((pp.1.set k (l, (l + u) / 2), pp.2), (pp.1.set k ((l + u) / 2, u), pp.2)) : Pr × Pr)).1 ((((pp.1.set k (l, (l + u) / 2), pp.2), (pp.1.set k ((l + u) / 2, u), pp.2)) : Pr × Pr)).2 hn
        have hbd := C.bd
        refine ⟨todo (rows.length + 1) (P ++ [((((pp.1.set k (l, (l + u) / 2), pp.2), (pp.1.set k ((l + u) / 2, u), pp.2)) : Pr × Pr)).1, ((((pp.1.set k (l, (l + u) / 2), pp.2), (pp.1.set k ((l + u) / 2, u), pp.2)) : Pr × Pr)).2]), by omega, l1, l2, rows ++ [.split 0 k ((l + u) / 2) P.length (P.length + 1)], P ++ [((((pp.1.set k (l, (l + u) / 2), pp.2), (pp.1.set k ((l + u) / 2, u), pp.2)) : Pr × Pr)).1, ((((pp.1.set k (l, (l + u) / 2), pp.2), (pp.1.set k ((l + u) / 2, u), pp.2)) : Pr × Pr)).2], _, _, _, _, _, _, _, _, _, by rw [List.length_append, List.length_singleton], rfl, ?_⟩
        refine ⟨m7, C.f1, C.f2, C.ne, ⟨ps, h71, pp7'⟩, ⟨_, h72, Paired.app (Paired.mapP p2 fun _ _ h => mon_row.up ((KT.of s14).trans k7) h) ⟨t, rfl, ?_⟩⟩, told_split C.told hP hspl, fun z hz => ?_, ?_, by simp, ?_⟩
        · rw [h7t, lp]; rfl
        · rcases List.mem_append.mp hz with hz | hz
          · exact C.ok z hz
          · rcases List.mem_cons.mp hz with rfl | hz
            · exact ⟨o1, o3⟩
            · rw [List.mem_singleton.mp hz]; exact ⟨o2, o4⟩
        · rw [List.length_append, List.length_append, List.length_singleton]; simp; omega
        · rw [List.length_append, List.length_singleton]; omega
    
end
end Vg

namespace Vg
open PySem PySem.Spec PyProof.Rows L2 RZ RT
/-! ### dicts by ints -/
def DRel {α : Type} (R : Rep α) (H : Hp) (kv : Key × V) (m : Int × α) : Prop := kv.1 = .inl m.1 ∧ R H kv.2 m.2
section
variable {α : Type} {R : Rep α} {H : Hp}
theorem dr_get {k : Int} {kvs : List (Key × V)} {met : List (Int × α)} (h : Paired (DRel R H) kvs met) : (met.lookup k = none → valV kvs (.inl k) = none) ∧ ∀ p, met.lookup k = some p → ∃ v, valV kvs (.inl k) = some v ∧ R H v p := by
  induction h with
  | nil => exact ⟨fun _ => rfl, fun p h => by simp at h⟩
  | @cons kv m kvs met r t ih =>
    obtain ⟨e1, e2⟩ := r
    obtain ⟨i1, i2⟩ := ih
    obtain ⟨mk, mv⟩ := m
    rw [List.lookup_cons]
    by_cases c : k = mk
    · subst c
      rw [valV_pos (by rw [e1])]
      simp only [beq_self_eq_true]
      exact ⟨(fun h => by cases h), (fun p h => by cases h; exact ⟨_, rfl, e2⟩)⟩
    · have : (k == mk) = false := beq_eq_false_iff_ne.mpr c
      rw [this, valV_neg (by rw [e1]; exact fun h => c (by injection h with h; exact h.symm))]
      exact ⟨i1, i2⟩
theorem dr_mapP {H' : Hp} (m : ∀ v a, R H v a → R H' v a) {kvs : List (Key × V)} {met : List (Int × α)} (h : Paired (DRel R H) kvs met) : Paired (DRel R H') kvs met := Paired.mapP h fun _ _ q => ⟨q.1, m _ _ q.2⟩
end
theorem KT.frz {K : PySem.W.Frag} {H : Hp} {d : Addr} {od : Obj} {u o : HO} (h : H d = some (.frz od u)) : KT K H (upd H d o) :=
  ⟨fun c x e => by rw [upd_ne (fun q => by subst q; rw [h] at e; cases e)]; exact e, fun c x y e => by rw [upd_ne (fun q => by subst q; rw [h] at e; cases e)]; exact e⟩
theorem stepP_nodup {f : List (List Int)} {n : Int} (h : f.Nodup) : (stepP f n).Nodup := by
  unfold stepP
  induction f with
  | nil => simp
  | cons p r ih =>
    rw [List.nodup_cons] at h
    rw [List.flatMap_cons, List.nodup_append]
    refine ⟨?_, ih h.2, fun a ha b hb e => ?_⟩
    · unfold List.Nodup
      rw [List.pairwise_map]
      refine List.nodup_range.imp fun {a b} hab e => hab ?_
      have := List.append_cancel_left e
      injection this with this
      omega
    · obtain ⟨k, _, rfl⟩ := List.mem_map.mp ha
      obtain ⟨q, hq, hb⟩ := List.mem_flatMap.mp hb
      obtain ⟨j, _, rfl⟩ := List.mem_map.mp hb
      have := (List.append_inj' e rfl).1
      exact h.1 (this ▸ hq)
theorem folded_nodup : ∀ (ns : List Int) {f : List (List Int)}, f.Nodup → (ns.foldl stepP f).Nodup
  | [], _, h => h
  | n :: ns, f, h => by rw [List.foldl_cons]; exact folded_nodup ns (stepP_nodup h)
theorem places_nodup (ns : List Int) : (places ns).Nodup := by
  unfold places
  split
  · simp
  · exact folded_nodup ns (by simp)
/-- the cell of a place -/
def cl (x : VW) (p : List Int) : Int := x.b + dot p x.ss
theorem places_len600 {ls : List Int} (h : Lens ls) : (places ls).length ≤ 600 := by
  have e1 := places_length (fun n hn => (h.rng n hn).1)
  have e2 := h.sz
  omega
def TwoI : Rep (List Int × List Int) := fun H v q => ∃ z a1 a2, v = .ref z ∧ H z = some (.tup [a1, a2]) ∧ IT H a1 q.1 ∧ IT H a2 q.2
theorem mon_twoI {K : PySem.W.Frag} : Mon K TwoI := ⟨fun k ⟨z, a1, a2, e, h, p, q⟩ => ⟨z, a1, a2, e, k.tup _ _ h, mon_it.up (K := K) k p, mon_it.up (K := K) k q⟩⟩
def pd2 (q : List Int × List Int) : PyData := .tuple [.tuple (q.1.map .int), .tuple (q.2.map .int)]
theorem dp_it {K : PySem.W.Frag} {H : Hp} {v : V} {ns : List Int} (h : IT H v ns) : Dp K H v (.tuple (ns.map .int)) := by
  obtain ⟨a, rfl, ha⟩ := h
  exact .tup (SqT.of ha) (dp_ints ns)
theorem dp_twoI {K : PySem.W.Frag} {H : Hp} : ∀ {xs : List V} {ps : List (List Int × List Int)}, Paired (TwoI H) xs ps → DpAll K H xs (ps.map pd2)
  | _, _, .nil => .nil
  | _, _, .cons (b := p) ⟨z, a1, a2, e, h, p1, p2⟩ t => by
    subst e
    exact .cons (.tup (SqT.of h) (.cons (dp_it p1) (.cons (dp_it p2) .nil))) (dp_twoI t)
theorem alike_intsAll : ∀ ns ms : List Int, PySem.W.alikeAll (ns.map PyData.int) (ms.map PyData.int) = true
  | [], _ => by unfold PySem.W.alikeAll; rfl
  | _ :: _, [] => by unfold PySem.W.alikeAll; rfl
  | n :: ns, m :: ms => by
    show (PySem.W.alike (.int n) (.int m) && PySem.W.alikeAll (ns.map PyData.int) (ms.map PyData.int)) = true
    rw [alike_intsAll ns ms]; rfl
theorem alike_pd2 (ps : List (List Int × List Int)) : PySem.W.AlikeAll (ps.map pd2) := by
  refine ⟨fun x hx y hy => ?_, fun x hx => ?_⟩
  · obtain ⟨a, _, rfl⟩ := List.mem_map.mp hx
    obtain ⟨b, _, rfl⟩ := List.mem_map.mp hy
    show (PySem.W.alikeAll (a.1.map PyData.int) (b.1.map PyData.int) && (PySem.W.alikeAll (a.2.map PyData.int) (b.2.map PyData.int) && true)) = true
    rw [alike_intsAll, alike_intsAll]; rfl
  · obtain ⟨a, _, rfl⟩ := List.mem_map.mp hx
    exact fun h => nomatch h
theorem depth_pd2 : ∀ ps : List (List Int × List Int), PyData.depthAll (ps.map pd2) ≤ 20
  | [] => Nat.zero_le _
  | p :: r => by
    have h := depth_pd2 r
    have h1 := depth_ints p.1
    have h2 := depth_ints p.2
    show max (PyData.depth (pd2 p)) (PyData.depthAll (r.map pd2)) ≤ 20
    have e : PyData.depth (pd2 p) ≤ 3 := by simp only [pd2, PyData.depth, PyData.depthAll]; omega
    omega
theorem fold_mem {α : Type} (f : α → α → Bool) : ∀ (r : List α) (y : α), r.foldl (fun a b => if f a b = true then b else a) y ∈ y :: r
  | [], y => List.mem_cons_self ..
  | b :: r, y => by
    rw [List.foldl_cons]
    have := fold_mem f r (if f y b = true then b else y)
    rcases List.mem_cons.mp this with h | h
    · rw [h]; split
      · exact List.mem_cons_of_mem _ (List.mem_cons_self ..)
      · exact List.mem_cons_self ..
    · exact List.mem_cons_of_mem _ (List.mem_cons_of_mem _ h)
theorem lookup_is {α : Type} {k : Int} {v : α} {m : List (Int × α)} (h : (k, v) ∈ m) : ∃ w, m.lookup k = some w := by
  cases e : m.lookup k with
  | some w => exact ⟨w, rfl⟩
  | none => exact absurd (List.mem_map.mpr ⟨(k, v), h, rfl⟩) (lookup_none_keys.mp e)
/-- where the search for a cell met twice stands -/
structure TW (x : VW) (PL : List (List Int)) (i : Nat) (F L : List (Int × List Int)) : Prop where
  f1 : ∀ c p, F.lookup c = some p → p ∈ PL.take i ∧ cl x p = c
  f2 : ∀ p ∈ PL.take i, F.lookup (cl x p) ≠ none
  l1 : ∀ c q, (c, q) ∈ L → q ∈ PL ∧ cl x q = c ∧ ∃ p, F.lookup c = some p ∧ p ≠ q
  nd : L = [] → ((PL.take i).map (cl x)).Nodup
  fl : F.length ≤ i
  ll : L.length ≤ i
theorem tw_in {x : VW} {PL : List (List Int)} {i : Nat} {F L : List (Int × List Int)} {p q : List Int} (h : TW x PL i F L) (hq : PL[i]? = some q) (hp : F.lookup (cl x q) = some p) (nd : PL.Nodup) : (∀ z, L.lookup (cl x q) = some z → TW x PL (i + 1) F L) ∧ (L.lookup (cl x q) = none → TW x PL (i + 1) F (L ++ [(cl x q, q)])) := by
  have e := take_snoc hq
  have hne : p ≠ q := fun c => by
    have hm := (h.f1 _ _ hp).1
    rw [c] at hm
    obtain ⟨j, hj⟩ := List.getElem?_of_mem hm
    rw [List.getElem?_take] at hj
    split at hj
    · obtain ⟨l1, q1⟩ := List.getElem?_eq_some_iff.mp hq
      obtain ⟨l2, q2⟩ := List.getElem?_eq_some_iff.mp hj
      have := (List.getElem_inj nd).mp (q2.trans q1.symm)
      omega
    · cases hj
  have g1 : ∀ c p, F.lookup c = some p → p ∈ PL.take (i + 1) ∧ cl x p = c := fun c p hc => by
    obtain ⟨a, b⟩ := h.f1 c p hc
    rw [e]; exact ⟨List.mem_append_left _ a, b⟩
  have g2 : ∀ p ∈ PL.take (i + 1), F.lookup (cl x p) ≠ none := fun p' hp' => by
    rw [e] at hp'
    rcases mem_app hp' with h1 | rfl
    · exact h.f2 p' h1
    · rw [hp]; exact fun h => nomatch h
  have hfl := h.fl
  have hll := h.ll
  refine ⟨fun z hz => ⟨g1, g2, h.l1, fun hL => ?_, by omega, by omega⟩, fun hz => ⟨g1, g2, fun c r hr => ?_, fun hL => ?_, by omega, by rw [List.length_append, List.length_singleton]; omega⟩⟩
  · rw [hL] at hz; simp at hz
  · rcases List.mem_append.mp hr with hr | hr
    · exact h.l1 c r hr
    · rw [List.mem_singleton] at hr
      cases hr
      exact ⟨List.mem_of_getElem? hq, rfl, p, hp, hne⟩
  · simp at hL
theorem tw_out {x : VW} {PL : List (List Int)} {i : Nat} {F L : List (Int × List Int)} {q : List Int} (h : TW x PL i F L) (hq : PL[i]? = some q) (hp : F.lookup (cl x q) = none) : TW x PL (i + 1) (F ++ [(cl x q, q)]) L := by
  have e := take_snoc hq
  have key : ∀ c p, (F ++ [(cl x q, q)]).lookup c = some p → F.lookup c = some p ∨ (c = cl x q ∧ p = q) := fun c p hc => by
    cases hF : F.lookup c with
    | some r =>
      rw [lookup_app (u := r) hF] at hc
      exact .inl hc
    | none =>
      rw [lookup_app_none hF, List.lookup_cons] at hc
      split at hc
      · rename_i d; cases hc; exact .inr ⟨beq_iff_eq.mp d, rfl⟩
      · simp at hc
  have hfl := h.fl
  have hll := h.ll
  refine ⟨fun c p hc => ?_, fun p hp' => ?_, fun c r hr => ?_, fun hL => ?_, by rw [List.length_append, List.length_singleton]; omega, by omega⟩
  · rw [e]
    rcases key c p hc with h1 | ⟨rfl, rfl⟩
    · obtain ⟨a, b⟩ := h.f1 c p h1
      exact ⟨List.mem_append_left _ a, b⟩
    · exact ⟨List.mem_append_right _ (List.mem_singleton_self _), rfl⟩
  · rw [e] at hp'
    rcases mem_app hp' with h1 | rfl
    · have := h.f2 p h1
      cases hF : F.lookup (cl x p) with
      | none => exact absurd hF this
      | some r => rw [lookup_app (u := r) hF]; exact fun h => nomatch h
    · rw [lookup_app_none hp]; simp
  · obtain ⟨a, b, p, h1, h2⟩ := h.l1 c r hr
    exact ⟨a, b, p, lookup_app (u := p) h1, h2⟩
  · rw [e, List.map_append, List.nodup_append]
    refine ⟨h.nd hL, by simp, fun a ha b hb c => ?_⟩
    rw [List.map_cons, List.map_nil, List.mem_singleton] at hb
    obtain ⟨p, h1, h2⟩ := List.mem_map.mp ha
    apply h.f2 p h1
    rw [h2, c, hb, hp]
section
variable {P : Program} {w : World} {K : PySem.W.Frag} {mg : Str → Option Value} {base : Heap}
def sp_twice_in (K : PySem.W.Frag) : Sp := fun vs H Q _ => ∃ v x, vs = [v] ∧ VwR K H v x ∧ VOK x ∧ (∀ H', Same H H' → ((places x.ls).map (cl x)).Nodup → Q .non H') ∧
  ∀ w p q H', Same H H' → TwoI H' w (p, q) → InP x.ls p → InP x.ls q → p ≠ q → cl x p = cl x q → Q w H'
abbrev N_twice_in : List Str := ["view", "first", "later", "place", "cell", "found"]
theorem sc_twice_in : FnScope N_twice_in ["view"] (defScope s_twice_in) := ⟨rfl, rfl, rfl, by decide +kernel, rfl, by decide +kernel, by decide +kernel⟩
theorem ok_twice_in (T : Txt K mg) : GF P w K mg base 4 "twice_in" ["view"] (sp_twice_in K) := by
  have nd := sc_twice_in.nd
  refine gf_of T (d := d_twice_in) (x := "twice_in") rfl rfl rfl (i := 43) rfl (by decide +kernel) sc_twice_in (fun _ _ _ _ _ _ us hl => match us, hl with | [_], _ => rfl) (fun vs H Q E h => ?_) (fun cdv A outer s H vs Q E hr h => ?_)
  · obtain ⟨v, x, rfl, _⟩ := h; rfl
  · refine ⟨_, (pss_cons (ps_set (i := 1) nd rfl (Or.inr rfl) pe_dnewK)
      (pss_cons (ps_set (i := 2) nd rfl (Or.inr rfl) pe_dnewK)
      (pss_cons (ps_for PassesOwn.never rfl (pi_list (pe_callG (ok_places_of T) (hr.mono (by decide)) rfl (pa_cons (pe_methG0 (ok_View_sides T) (hr.mono (by decide)) (pv 0)) pa_nil))) (pg_name (i := 3) nd rfl (Or.inl rfl)) (pss_cons (ps_set (i := 4) nd rfl (Or.inl rfl) (pe_methG (ok_View_cell T) (hr.mono (by decide)) (pv 0) (pa_cons (pv 3) pa_nil)))
      (pss_one (ps_if (pt_cmp (pc_din (hu_of hr) (pv 4) (pv 1)) rfl) (pss_one (ps_expr (pe_dsetd (pv 2) (pv 4) (pv 3) ⟨by rfl, by rfl, by rfl, by rfl⟩))) (pss_one (ps_dput (hu_of hr) (pv 1) (pv 4) (pv 3) rfl))))))
      (pss_cons (ps_lock (ps_setLc (i := 5) (own := [("cell", 4)]) (g := (gName 4)) (tt := tYes) rfl nd rfl rfl (sw_true rfl rfl rfl (by decide +kernel)) (pi_keys (pv 2)) (blkOk_by (N := N_twice_in) (sc := defScope s_twice_in) (by decide +kernel)) (fun _ _ _ _ _ => (pg_name (i := 4) nd rfl (Or.inl rfl))) (fun _ _ _ _ _ => pts_nil) (fun _ _ _ _ _ => (pe_tup (pa_cons (pe_dget (hu_of hr) (pv 1) (pv 4) (fun _ _ => rfl)) (pa_cons (pe_dget (hu_of hr) (pv 2) (pv 4) (fun _ _ => rfl)) pa_nil))))))
      (pss_one (ps_ret (pe_callBK (cr_minL rfl hr.units) rfl (T.free "min") (by decide +kernel) (pa_cons (pv 5) pa_nil) (pk_cons pe_non pk_nil)))))))), ?_⟩
    obtain ⟨v, x, rfl, hV, hO, q1, q2⟩ := h
    obtain ⟨a, dx, la0, sa, rfl, h1, h2, h3⟩ := id hV
    have hPL := places_len600 hO.lens
    have nd0 := places_nodup x.ls
    rintro d1 hd1
    rintro d2 hd2
    have n12 : d1 ≠ d2 := by rintro rfl; rw [upd_same] at hd2; cases hd2
    have s0 : Same H (upd (upd H d1 (.dK [])) d2 (.dK [])) := (Same.new hd1).trans (Same.new hd2)
    have fd2 : H d2 = none := (Same.new hd1).free hd2
    refine ⟨_, rfl, a, dx, _, rfl, s0 _ _ h1, rfl, _, x, rfl, mon_vw.up (.of s0) hV, fun la hla => ⟨_, x.ls, rfl, ⟨la, rfl, hla⟩, hO.lens, fun l H1 ys fl s1 e1 p1 => ⟨l, rfl, ⟨_, SqL.of e1⟩, ?_⟩⟩⟩
    have s01 := s0.trans s1
    have fl0 : H l = none := s0.free fl
    have lys := Paired.len p1
    have hd1' : H1 d1 = some (.dK []) := s1 _ _ ((upd_ne n12).trans upd_same)
    have hd2' : H1 d2 = some (.dK []) := s1 _ _ upd_same
    refine for_it walk_list (fun i σ H' => (∃ z3 z4, σ = [some (.ref a), some (.ref d1), some (.ref d2), z3, z4, none]) ∧ Same H H' ∧ H' l = some (.lst ys) ∧ Paired (IT H') ys (places x.ls) ∧ ∃ k1 k2 F L, H' d1 = some (.dK k1) ∧ H' d2 = some (.dK k2) ∧ Paired (DRel IT H') k1 F ∧ Paired (DRel IT H') k2 L ∧ TW x (places x.ls) i F L)
      ⟨⟨_, _, rfl⟩, s01, e1, p1, [], [], [], [], hd1', hd2', .nil, .nil, ⟨(fun _ _ h => by simp at h), (fun _ h => by simp at h), (fun _ _ h => by simp at h), (fun _ => by simp), Nat.le_refl _, Nat.le_refl _⟩⟩ (fun i σ H' _ p => SqL.of p.2.2.1) ?_ ?_
    · rintro i y σ H9 H2 hi ⟨⟨z3, z4, rfl⟩, s2, el, pl, k1, k2, F, L, g1, g2, r1, r2, tw⟩ ⟨rfl, hy⟩
      obtain ⟨q, hq, hit⟩ := Paired.get pl hy
      have hin := mem_places.mp (List.mem_of_getElem? hq)
      refine ⟨_, rfl, a, dx, _, rfl, s2 _ _ h1, rfl, _, rfl, _, x, _, q, rfl, mon_vw.up (.of s2) hV, hO, hit, hin, fun H3 s3 => ?_⟩
      have s03 := s2.trans s3
      have m3 : ∀ v a, IT H2 v a → IT H3 v a := fun v a h => mon_it.up (K := K) (.of s3) h
      obtain ⟨n1, n2⟩ := dr_get (k := cl x q) r1
      have hl1 := Paired.len r1
      have hl2 := Paired.len r2
      have tfl := tw.fl
      have tll := tw.ll
      have hdd : d1 ≠ d2 := n12
      refine ⟨_, rfl, _, rfl, d1, _, rfl, .inl ⟨k1, .inl (cl x q), .inl (s3 _ _ g1), rfl, rfl⟩, ?_⟩
      cases hF : F.lookup (cl x q) with
      | none =>
        rw [n1 hF]
        refine ⟨_, rfl, iteF ⟨_, rfl, _, rfl, _, rfl, d1, _, rfl, .inl ⟨k1, .inl (cl x q), s3 _ _ g1, rfl, by rw [sizeLine_eq]; omega, rfl⟩, ?_⟩⟩
        have kt : KT K H3 (upd H3 d1 (.dK (putK k1 (.inl (cl x q)) y))) := KT.dk (s3 _ _ g1)
        have m4 : ∀ v a, IT H2 v a → IT (upd H3 d1 (.dK (putK k1 (.inl (cl x q)) y))) v a := fun v a h => mon_it.up (K := K) kt (m3 v a h)
        have nl : l ≠ d1 := fun e => by rw [e, g1] at el; cases el
        refine ⟨⟨_, _, rfl⟩, Same.mut s03 hd1, (upd_ne nl).trans (s3 _ _ el), Paired.mapP pl m4, _, k2, F ++ [(cl x q, q)], L, upd_same, (upd_ne (Ne.symm n12)).trans (s3 _ _ g2), ?_, dr_mapP m4 r2, tw_out tw hq hF⟩
        rw [putK_new _ (n1 hF)] at m4 ⊢
        exact Paired.app (dr_mapP m4 r1) ⟨rfl, m4 _ _ hit⟩
      | some p =>
        obtain ⟨v, hv, _⟩ := n2 p hF
        obtain ⟨t1, t2⟩ := tw_in tw hq hF nd0
        rw [hv]
        refine ⟨_, rfl, iteT ⟨_, rfl, d2, rfl, .inl ⟨k2, .inl (s3 _ _ g2)⟩, _, rfl, _, rfl, k2, .inl (cl x q), s3 _ _ g2, rfl, by rw [sizeLine_eq]; omega, fun v' hv' => ?_, fun hn' => ?_⟩⟩
        · refine ⟨⟨_, _, rfl⟩, s03, s3 _ _ el, Paired.mapP pl m3, k1, k2, F, L, s3 _ _ g1, s3 _ _ g2, dr_mapP m3 r1, dr_mapP m3 r2, ?_⟩
          cases hL : L.lookup (cl x q) with
          | none => rw [(dr_get r2).1 hL] at hv'; cases hv'
          | some z => exact t1 z hL
        · have kt : KT K H3 (upd H3 d2 (.dK (putK k2 (.inl (cl x q)) y))) := KT.dk (s3 _ _ g2)
          have m4 : ∀ v a, IT H2 v a → IT (upd H3 d2 (.dK (putK k2 (.inl (cl x q)) y))) v a := fun v a h => mon_it.up (K := K) kt (m3 v a h)
          have nl : l ≠ d2 := fun e => by rw [e, g2] at el; cases el
          refine ⟨⟨_, _, rfl⟩, Same.mut s03 fd2, (upd_ne nl).trans (s3 _ _ el), Paired.mapP pl m4, k1, _, F, L ++ [(cl x q, q)], (upd_ne n12).trans (s3 _ _ g1), upd_same, dr_mapP m4 r1, ?_, ?_⟩
          · rw [putK_new _ hn'] at m4 ⊢
            exact Paired.app (dr_mapP m4 r2) ⟨rfl, m4 _ _ hit⟩
          · cases hL : L.lookup (cl x q) with
            | none => exact t2 hL
            | some z =>
              obtain ⟨_, h, _⟩ := (dr_get r2).2 z hL
              rw [h] at hn'; cases hn'
    · rintro σ H2 ⟨⟨z3, z4, rfl⟩, s2, el, pl, k1, k2, F, L, g1, g2, r1, r2, tw⟩
      rw [lys] at tw
      have hl2 := Paired.len r2
      have tll := tw.ll
      refine ⟨d2, _, g2, trivial, fun od => ?_⟩
      have kf : KT K H2 (upd H2 d2 (.frz od (.dK k2))) := KT.dk g2
      refine ⟨_, rfl, d2, od, rfl, .inl ⟨k2, upd_same, fun D hD => ?_⟩⟩
      have hD2 : H2 D = none := (upd_ne (fun e => by rw [e, upd_same] at hD; cases hD)).symm.trans hD
      have nDd : D ≠ d2 := fun e => by rw [e, g2] at hD2; cases hD2
      have g1' : (upd H2 d2 (.frz od (.dK k2))) d1 = some (.dK k1) := (upd_ne n12).trans g1
      have g2' : (upd H2 d2 (.frz od (.dK k2))) d2 = some (.frz od (.dK k2)) := upd_same
      refine lc_map (K := K) (R := TwoI) walk_keys mon_twoI (fun i => ((F.lookup (L.getD i (0, [])).1).getD [], (L.lookup (L.getD i (0, [])).1).getD [])) (by omega) hD (fun H' s' => s' _ _ g2') ?_ ?_
      · rintro i y H9 H3 Kk hi s3 ⟨rfl, kk, vv, hkv, rfl⟩ kq
        obtain ⟨⟨c, q0⟩, hL, ek, _⟩ := Paired.get r2 hkv
        have ek' : kk = .inl c := ek
        subst ek'
        obtain ⟨q, hLq⟩ := lookup_is (List.mem_of_getElem? hL)
        obtain ⟨_, _, p, hp, _⟩ := tw.l1 c q (lookup_mem hLq)
        obtain ⟨v1, hv1, hp1⟩ := (dr_get r1).2 p hp
        obtain ⟨v2, hv2, hq⟩ := (dr_get r2).2 q hLq
        have m5 : ∀ v a, IT H2 v a → IT H3 v a := fun v a h => mon_it.up (K := K) (kf.trans (.of s3)) h
        refine ⟨rfl, _, rfl, _, rfl, d1, v1, rfl, .inl ⟨k1, .inl c, .inl (s3 _ _ g1'), rfl, hv1.symm⟩, _, rfl, _, rfl, d2, v2, rfl, .inl ⟨k2, .inl c, .inr ⟨od, s3 _ _ g2'⟩, rfl, hv2.symm⟩, by show 2 ≤ sizeLine; decide, fun z hz => kq _ _ (Same.new hz) ?_⟩
        have kz : KT K H3 (upd H3 z (.tup [v1, v2])) := KT.new hz
        refine ⟨z, v1, v2, rfl, upd_same, ?_, ?_⟩
        · rw [getD_at hL, hp]; exact mon_it.up (K := K) kz (m5 _ _ hp1)
        · rw [getD_at hL, hLq]; exact mon_it.up (K := K) kz (m5 _ _ hq)
      · intro H3 acc s3 e3 p3
        have f3 := s3 _ _ g2'
        refine ⟨f3, ?_⟩
        have kb : KT K H3 (upd H3 d2 (.dK k2)) := KT.frz f3
        have p4 := Paired.mapP p3 fun _ _ h => mon_twoI.up (K := K) kb h
        have sfin : Same H (upd H3 d2 (.dK k2)) := fun b o e => by
          have nb : b ≠ d2 := ne_of_none e fd2
          rw [upd_ne nb]
          exact s3 _ _ ((upd_ne nb).trans (s2 _ _ e))
        have lk2 : k2.length = L.length := hl2
        refine ⟨_, rfl, D, acc, _, _, rfl, rfl, SqL.of ((upd_ne nDd).trans e3), dp_twoI p4, alike_pd2 _, depth_pd2 _, fun e => ?_, fun i y r v e hv hb => ?_⟩
        · have e0 : L = [] := by
            have := congrArg List.length e
            simp at this
            rw [this] at lk2
            exact List.length_eq_zero_iff.mp lk2.symm
          refine q1 _ sfin ?_
          have := tw.nd e0
          rwa [List.take_length] at this
        · obtain ⟨pq, hpq, hR⟩ := Paired.get p4 hv
          have hpq' := hpq
          rw [List.getElem?_map] at hpq'
          cases hri : (List.range k2.length)[i]? with
          | none => rw [hri] at hpq'; cases hpq'
          | some j =>
            rw [hri] at hpq'
            have ej := Option.some.inj hpq'
            obtain ⟨hil, hij⟩ := List.getElem?_eq_some_iff.mp hri
            rw [List.getElem_range] at hij
            subst hij
            rw [List.length_range] at hil
            have hL : L[i]? = some L[i] := List.getElem?_eq_getElem (by omega)
            obtain ⟨q, hLq⟩ := lookup_is (k := L[i].1) (v := L[i].2) (List.mem_of_getElem? hL)
            obtain ⟨hqP, hqc, p, hp, hpne⟩ := tw.l1 L[i].1 q (lookup_mem hLq)
            obtain ⟨hp1, hp2⟩ := tw.f1 _ _ hp
            simp only [getD_at hL, hp, hLq, Option.getD_some] at ej
            subst ej
            exact q2 v p q _ sfin hR (mem_places.mp (List.mem_of_mem_take hp1)) (mem_places.mp hqP) hpne (by rw [hp2, hqc])
    
end
end Vg

namespace Vg
open PySem PySem.Spec PyProof.Rows L2 RZ RT
/-! ### the paper of two views -/
inductive Paper where
  | meet (p q : List Int)
  | apart (rows : List Row)
def PapR (N : Addr → Prop) : Rep Paper := fun H v pap => match pap with
  | .meet p q => ∃ a u w, v = .ref a ∧ H a = some (.tup [.str "meet", u, w]) ∧ IT H u p ∧ IT H w q
  | .apart rows => ∃ a l rvs, v = .ref a ∧ H a = some (.tup [.str "apart", .ref l]) ∧ N l ∧ H l = some (.lst rvs) ∧ Paired (RowR H) rvs rows
def PapOk (x y : VW) : Paper → Prop
  | .meet p q => x.room = y.room ∧ InP x.ls p ∧ InP y.ls q ∧ cl x p = cl y q
  | .apart rows => cutsB x y (wbox x.ls, wbox y.ls) rows = true ∧ rows.length ≤ 2000000
def RmOk (K : PySem.W.Frag) (H : Hp) (r : Addr) : Prop := ∃ dx fs, H r = some (.ins (CRoom K) dx fs)
theorem RmOk.same {K : PySem.W.Frag} {H H' : Hp} {r : Addr} (h : RmOk K H r) (s : Same H H') : RmOk K H' r := let ⟨dx, fs, e⟩ := h; ⟨dx, fs, s _ _ e⟩
theorem dis_of {x y : VW} (h : ∀ p ∈ places x.ls, ∀ q ∈ places y.ls, cl x p ≠ cl y q) : Dis x y (wbox x.ls) (wbox y.ls) := fun p q hp hq => h p (mem_places.mpr (inB_wbox.mp hp)) q (mem_places.mpr (inB_wbox.mp hq))
theorem pv2_wbox {x y : VW} (hx : Lens x.ls) (hy : Lens y.ls) : pv2 (wbox x.ls, wbox y.ls) ≤ 1000000 := by
  have e1 := vol_wbox fun n hn => (hx.rng n hn).1
  have e2 := vol_wbox fun n hn => (hy.rng n hn).1
  have h1 : vol (wbox x.ls) ≤ 600 := by have := hx.sz; omega
  have h2 : vol (wbox y.ls) ≤ 600 := by have := hy.sz; omega
  show vol (wbox x.ls) * vol (wbox y.ls) ≤ 1000000
  have := Nat.mul_le_mul h1 h2
  omega
theorem rooms_row {x y : VW} (h : x.room ≠ y.room) : cutsB x y (wbox x.ls, wbox y.ls) [.rooms] = true := by
  have hl : leafB x y (wbox x.ls) (wbox y.ls) .rooms = true := decide_eq_true h
  have : stepC x y [(0, (wbox x.ls, wbox y.ls))] 0 .rooms = some [(0, (wbox x.ls, wbox y.ls))] := if_pos hl
  unfold cutsB runC
  rw [this]; rfl
section
variable {P : Program} {w : World} {K : PySem.W.Frag} {mg : Str → Option Value} {base : Heap}
def sp_meeting (K : PySem.W.Frag) : Sp := fun vs H Q _ => ∃ v u x y, vs = [v, u] ∧ VwR K H v x ∧ VOK x ∧ VwR K H u y ∧ VOK y ∧ RmOk K H x.room ∧ RmOk K H y.room ∧ ∀ w H' pap, Same H H' → PapR (fun l => H l = none) H' w pap → PapOk x y pap → Q w H'
abbrev N_meeting : List Str := ["one", "other", "theirs", "place"]
theorem sc_meeting : FnScope N_meeting ["one", "other"] (defScope s_meeting) := ⟨rfl, rfl, rfl, by decide +kernel, rfl, by decide +kernel, by decide +kernel⟩
theorem ok_meeting (T : Txt K mg) : GF P w K mg base 6 "meeting" ["one", "other"] (sp_meeting K) := by
  have nd := sc_meeting.nd
  refine gf_of T (d := d_meeting) (x := "meeting") rfl rfl rfl (i := 42) rfl (by decide +kernel) sc_meeting (fun _ _ _ _ _ _ us hl => match us, hl with | [_, _], _ => rfl) (fun vs H Q E h => ?_) (fun cdv A outer s H vs Q E hr h => ?_)
  · obtain ⟨v, u, x, y, rfl, _⟩ := h; rfl
  · refine ⟨_, (pss_cons (ps_if (pt_cmpR (op_NeRoom T (hu_of hr)) (pe_methG0 (ok_View_room T) (hr.mono (by decide)) (pv 0)) (pe_methG0 (ok_View_room T) (hr.mono (by decide)) (pv 1)) (nomark _)) (pss_one (ps_ret (pe_tup (pa_cons pe_str (pa_cons (pe_lst (pa_cons (pe_tup (pa_cons pe_str pa_nil)) pa_nil)) pa_nil))))) pss_nil)
      (pss_cons (ps_set (i := 2) nd rfl (Or.inl rfl) pe_dnewK)
      (pss_cons (ps_for PassesOwn.never rfl (pi_list (pe_callG (ok_places_of T) (hr.mono (by decide)) rfl (pa_cons (pe_methG0 (ok_View_sides T) (hr.mono (by decide)) (pv 1)) pa_nil))) (pg_name (i := 3) nd rfl (Or.inl rfl)) (pss_one (ps_expr (pe_dsetd (pv 2) (pe_methG (ok_View_cell T) (hr.mono (by decide)) (pv 1) (pa_cons (pv 3) pa_nil)) (pv 3) ⟨by rfl, by rfl, by rfl, by rfl⟩))))
      (pss_cons (ps_for PassesOwn.never rfl (pi_list (pe_callG (ok_places_of T) (hr.mono (by decide)) rfl (pa_cons (pe_methG0 (ok_View_sides T) (hr.mono (by decide)) (pv 0)) pa_nil))) (pg_name (i := 3) nd rfl (Or.inl rfl)) (pss_one (ps_if (pt_cmp (pc_din (hu_of hr) (pe_methG (ok_View_cell T) (hr.mono (by decide)) (pv 0) (pa_cons (pv 3) pa_nil)) (pv 2)) rfl) (pss_one (ps_ret (pe_tup (pa_cons pe_str (pa_cons (pv 3) (pa_cons (pe_dget (hu_of hr) (pv 2) (pe_methG (ok_View_cell T) (hr.mono (by decide)) (pv 0) (pa_cons (pv 3) pa_nil)) (fun _ _ => rfl)) pa_nil)))))) pss_nil)))
      (pss_one (ps_ret (pe_tup (pa_cons pe_str (pa_cons (pe_callG (ok_cuts_between T) (hr.mono (by decide)) rfl (pa_cons (pe_tup (pa_cons (pv 0) (pa_cons (pv 1) pa_nil))) (pa_cons (pe_tup (pa_cons (pe_callG (ok_whole_box T) (hr.mono (by decide)) rfl (pa_cons (pv 0) pa_nil)) (pa_cons (pe_callG (ok_whole_box T) (hr.mono (by decide)) rfl (pa_cons (pv 1) pa_nil)) pa_nil))) pa_nil))) pa_nil))))))))), ?_⟩
    obtain ⟨v, u, x, y, rfl, hV, hOx, hU, hOy, ⟨rx, gx, hrx⟩, ⟨ry, gy, hry⟩, q⟩ := h
    obtain ⟨a, dx, la0, sa0, rfl, h1, h2, h3⟩ := id hV
    obtain ⟨b, dy, lb0, sb0, rfl, k1, k2, k3⟩ := id hU
    refine ⟨_, rfl, a, dx, _, rfl, h1, rfl, _, x, rfl, hV, _, rfl, b, dy, _, rfl, k1, rfl, _, y, rfl, hU, x.room, y.room, rx, ry, gx, gy, rfl, rfl, hrx, hry, _, rfl, ?_⟩
    by_cases hr : x.room = y.room
    case neg =>
      simp only [if_true, decide_eq_false hr, Bool.not_false]
      refine ⟨by show 1 ≤ sizeLine; decide, fun t1 ht1 => ⟨by show 1 ≤ sizeLine; decide, fun l hl => ⟨by show 2 ≤ sizeLine; decide, fun t2 ht2 => ?_⟩⟩⟩
      have s1 : Same (upd H t1 (.tup [.str "rooms"])) (upd (upd H t1 (.tup [.str "rooms"])) l (.lst [.ref t1])) := Same.new hl
      have s2 : Same (upd (upd H t1 (.tup [.str "rooms"])) l (.lst [.ref t1])) (upd (upd (upd H t1 (.tup [.str "rooms"])) l (.lst [.ref t1])) t2 (.tup [.str "apart", .ref l])) := Same.new ht2
      exact q _ _ (.apart [.rooms]) (((Same.new ht1).trans s1).trans s2) ⟨t2, l, [.ref t1], rfl, upd_same, (Same.new ht1).free hl, s2 _ _ upd_same, .cons ⟨t1, rfl, s2 _ _ (s1 _ _ upd_same)⟩ .nil⟩ ⟨rooms_row hr, by decide⟩
    simp only [if_true, decide_eq_true hr, Bool.not_true, Bool.false_eq_true, if_false]
    have hPx := places_len600 hOx.lens
    have hPy := places_len600 hOy.lens
    rintro d hd
    have s0 : Same H (upd H d (.dK [])) := Same.new hd
    refine ⟨_, rfl, b, dy, _, rfl, s0 _ _ k1, rfl, _, y, rfl, mon_vw.up (.of s0) hU, fun lb hlb => ⟨_, y.ls, rfl, ⟨lb, rfl, hlb⟩, hOy.lens, fun l H1 ys fl s1 e1 p1 => ⟨l, rfl, ⟨_, SqL.of e1⟩, ?_⟩⟩⟩
    have s01 := s0.trans s1
    have lys := Paired.len p1
    refine for_it walk_list (fun i σ H' => (∃ z3, σ = [some (.ref a), some (.ref b), some (.ref d), z3]) ∧ Same H H' ∧ H' l = some (.lst ys) ∧ Paired (IT H') ys (places y.ls) ∧ ∃ kv M, H' d = some (.dK kv) ∧ Paired (DRel IT H') kv M ∧ M.length ≤ i ∧ (∀ c p, (c, p) ∈ M → p ∈ places y.ls ∧ cl y p = c) ∧ ∀ p ∈ (places y.ls).take i, M.lookup (cl y p) ≠ none)
      ⟨⟨_, rfl⟩, s01, e1, p1, [], [], s1 _ _ upd_same, .nil, Nat.le_refl _, (fun _ _ h => by simp at h), (fun _ h => by simp at h)⟩ (fun i σ H' _ p => SqL.of p.2.2.1) ?_ ?_
    · rintro i w σ H9 H2 hi ⟨⟨z3, rfl⟩, s2, el, pl, kv, M, g1, r1, lm, m1, m2⟩ ⟨rfl, hy⟩
      obtain ⟨p, hp, hit⟩ := Paired.get pl hy
      have hin := mem_places.mp (List.mem_of_getElem? hp)
      refine ⟨_, rfl, d, rfl, .inl ⟨kv, .inl g1⟩, _, rfl, b, dy, _, rfl, s2 _ _ k1, rfl, _, rfl, _, y, _, p, rfl, mon_vw.up (.of s2) hU, hOy, hit, hin, fun H3 s3 => ?_⟩
      have s03 := s2.trans s3
      have m3 : ∀ v a, IT H2 v a → IT H3 v a := fun v a h => mon_it.up (K := K) (.of s3) h
      have hl1 := Paired.len r1
      refine ⟨_, rfl, kv, .inl (cl y p), s3 _ _ g1, rfl, by rw [sizeLine_eq]; omega, fun v' hv' => ?_, fun hn' => ?_⟩
      · refine ⟨⟨_, rfl⟩, s03, s3 _ _ el, Paired.mapP pl m3, kv, M, s3 _ _ g1, dr_mapP m3 r1, by omega, m1, fun p' hp' => ?_⟩
        rw [take_snoc hp] at hp'
        rcases mem_app hp' with h | rfl
        · exact m2 p' h
        · intro hn
          rw [(dr_get r1).1 hn] at hv'; cases hv'
      · have kt : KT K H3 (upd H3 d (.dK (putK kv (.inl (cl y p)) w))) := KT.dk (s3 _ _ g1)
        have m4 : ∀ v a, IT H2 v a → IT (upd H3 d (.dK (putK kv (.inl (cl y p)) w))) v a := fun v a h => mon_it.up (K := K) kt (m3 v a h)
        have nl : l ≠ d := fun e => by rw [e, g1] at el; cases el
        have hn : M.lookup (cl y p) = none := by
          cases e : M.lookup (cl y p) with
          | none => rfl
          | some z =>
            obtain ⟨_, h, _⟩ := (dr_get r1).2 z e
            rw [h] at hn'; cases hn'
        refine ⟨⟨_, rfl⟩, Same.mut s03 hd, (upd_ne nl).trans (s3 _ _ el), Paired.mapP pl m4, _, M ++ [(cl y p, p)], upd_same, ?_, by rw [List.length_append, List.length_singleton]; omega, fun c p' hm => ?_, fun p' hp' => ?_⟩
        · rw [putK_new _ hn'] at m4 ⊢
          exact Paired.app (dr_mapP m4 r1) ⟨rfl, m4 _ _ hit⟩
        · rcases mem_app hm with h | h
          · exact m1 c p' h
          · cases h; exact ⟨List.mem_of_getElem? hp, rfl⟩
        · rw [take_snoc hp] at hp'
          rcases mem_app hp' with h | rfl
          · cases e : M.lookup (cl y p') with
            | none => exact absurd e (m2 p' h)
            | some r => rw [lookup_app (u := r) e]; exact fun h => nomatch h
          · rw [lookup_app_none hn]; simp
    rintro σ H2 ⟨⟨z3, rfl⟩, s2, el, pl, kv, M, g1, r1, lm, m1, m2⟩
    rw [lys, List.take_length] at m2
    refine ⟨_, rfl, a, dx, _, rfl, s2 _ _ h1, rfl, _, x, rfl, mon_vw.up (.of s2) hV, fun la hla => ⟨_, x.ls, rfl, ⟨la, rfl, hla⟩, hOx.lens, fun l3 H3 xs fl3 s3 e3 p3 => ⟨l3, rfl, ⟨_, SqL.of e3⟩, ?_⟩⟩⟩
    have lxs := Paired.len p3
    have s03 := s2.trans s3
    refine for_it walk_list (fun i σ H' => (∃ z3, σ = [some (.ref a), some (.ref b), some (.ref d), z3]) ∧ Same H3 H' ∧ ∀ p ∈ (places x.ls).take i, M.lookup (cl x p) = none)
      ⟨⟨_, rfl⟩, Same.refl _, (fun _ h => by simp at h)⟩ (fun i σ H' _ p => SqL.of (p.2.1 _ _ e3)) ?_ ?_
    · rintro i w σ H9 H4 hi ⟨⟨z, rfl⟩, s4, m3⟩ ⟨rfl, hw⟩
      obtain ⟨p, hp, hit⟩ := Paired.get p3 hw
      have hin := mem_places.mp (List.mem_of_getElem? hp)
      have s04 := s03.trans s4
      have hit4 := mon_it.up (K := K) (.of s4) hit
      refine ⟨_, rfl, a, dx, _, rfl, s04 _ _ h1, rfl, _, rfl, _, x, _, p, rfl, mon_vw.up (.of s04) hV, hOx, hit4, hin, fun H5 s5 => ?_⟩
      have s05 := s04.trans s5
      have s25 := (s3.trans s4).trans s5
      refine ⟨_, rfl, d, _, rfl, .inl ⟨kv, .inl (cl x p), .inl (s25 _ _ g1), rfl, rfl⟩, ?_⟩
      cases hF : M.lookup (cl x p) with
      | none =>
        rw [(dr_get r1).1 hF]
        refine ⟨_, rfl, iteF ⟨⟨_, rfl⟩, s4.trans s5, fun p' hp' => ?_⟩⟩
        rw [take_snoc hp] at hp'
        rcases mem_app hp' with h | rfl
        · exact m3 p' h
        · exact hF
      | some p2 =>
        obtain ⟨v2, hv2, hi2⟩ := (dr_get r1).2 p2 hF
        obtain ⟨n1, n2⟩ := m1 _ _ (lookup_mem hF)
        rw [hv2]
        refine ⟨_, rfl, iteT ⟨_, rfl, _, rfl, _, rfl, a, dx, _, rfl, s05 _ _ h1, rfl, _, rfl, _, x, _, p, rfl, mon_vw.up (.of s05) hV, hOx, mon_it.up (K := K) (.of s5) hit4, hin, fun H6 s6 => ?_⟩⟩
        refine ⟨d, v2, rfl, .inl ⟨kv, .inl (cl x p), .inl (s6 _ _ (s25 _ _ g1)), rfl, hv2.symm⟩, by show 3 ≤ sizeLine; decide, fun t ht => ?_⟩
        have s7 : Same H6 (upd H6 t (.tup [.str "meet", w, v2])) := Same.new ht
        exact q _ _ (.meet p p2) ((s05.trans s6).trans s7) ⟨t, w, v2, rfl, upd_same, mon_it.up (K := K) (.of ((s5.trans s6).trans s7)) hit4, mon_it.up (K := K) (.of ((s25.trans s6).trans s7)) hi2⟩ ⟨hr, hin, mem_places.mp n1, n2.symm⟩
    rintro σ H4 ⟨⟨z, rfl⟩, s4, m3⟩
    rw [lxs, List.take_length] at m3
    have s04 := s03.trans s4
    have hdis : Dis x y (wbox x.ls) (wbox y.ls) := dis_of fun p hp t ht e => by
      have := m2 t ht
      rw [← e, m3 p hp] at this
      exact this rfl
    refine ⟨_, rfl, _, rfl, by show 2 ≤ sizeLine; decide, fun t1 ht1 => ?_⟩
    have s5 : Same H4 (upd H4 t1 (.tup [.ref a, .ref b])) := Same.new ht1
    have s05 := s04.trans s5
    refine ⟨_, rfl, _, x, rfl, mon_vw.up (.of s05) hV, hOx.lens.few, fun w1 H6 s6 b1 => ⟨_, rfl, _, y, rfl, mon_vw.up (.of (s05.trans s6)) hU, hOy.lens.few, fun w2 H7 s7 b2 => ⟨by show 2 ≤ sizeLine; decide, fun t2 ht2 => ?_⟩⟩⟩
    have s8 : Same H7 (upd H7 t2 (.tup [w1, w2])) := Same.new ht2
    have s08 := ((s05.trans s6).trans s7).trans s8
    have s58 := (s6.trans s7).trans s8
    refine ⟨_, _, x, y, (wbox x.ls, wbox y.ls), rfl, ⟨t1, _, _, rfl, s58 _ _ upd_same, mon_vw.up (.of s08) hV, mon_vw.up (.of s08) hU⟩, hOx, hOy, ⟨t2, w1, w2, rfl, upd_same, mon_box.up (K := K) (.of (s7.trans s8)) b1, mon_box.up (K := K) (.of s8) b2⟩, ⟨bb_wbox hOx.lens.rng, bb_wbox hOy.lens.rng⟩, hdis, pv2_wbox hOx.lens hOy.lens, fun l9 H9 rvs rows f9 s9 e9 p9 c9 n9 => ⟨by show 2 ≤ sizeLine; decide, fun t3 ht3 => ?_⟩⟩
    have s10 : Same H9 (upd H9 t3 (.tup [.str "apart", .ref l9])) := Same.new ht3
    exact q _ _ (.apart rows) ((s08.trans s9).trans s10) ⟨t3, l9, rvs, rfl, upd_same, s08.free f9, s10 _ _ e9, Paired.mapP p9 fun _ _ h => mon_row.up (K := K) (.of s10) h⟩ ⟨c9, n9⟩
    
end
end Vg

namespace Vg
open PySem PySem.Spec PyProof.Rows L2 RZ RT
/-! ### the paper of a view alone -/
inductive URow where
  | single
  | halves (s a l r : Int) (cuts : List Row)
def singleB (b : Box) : Bool := bareB b || b.all fun q => decide (q.2 - q.1 = 1)
def stepU (x : VW) (met : List (Int × Box)) (at_ : Int) (row : URow) : Option (List (Int × Box)) :=
  match met.lookup at_ with
  | none => none
  | some b => match row with
    | .halves s a l r cuts => match cutB b s a with
      | none => none
      | some h => if laterB l r at_ met && cutsB x x h cuts then some (met ++ [(l, h.1), (r, h.2)]) else none
    | .single => if singleB b then some met else none
def runU (x : VW) : List (Int × Box) → Int → List URow → Option (List (Int × Box))
  | met, _, [] => some met
  | met, at_, row :: rows => (stepU x met at_ row).bind fun m => runU x m (at_ + 1) rows
def unlikeB (x : VW) (rows : List URow) : Bool := !rows.isEmpty && (match runU x [(0, wbox x.ls)] 0 rows with
  | some met => decide (met.length = rows.length)
  | none => false)
theorem runU_snoc {x : VW} {row : URow} : ∀ {rows : List URow} {met : List (Int × Box)} {at_ : Int}, runU x met at_ (rows ++ [row]) = (runU x met at_ rows).bind fun m => stepU x m (at_ + rows.length) row
  | [], met, at_ => by
    show (stepU x met at_ row).bind (fun m => some m) = stepU x met (at_ + 0) row
    rw [Int.add_zero]
    cases stepU x met at_ row <;> rfl
  | r :: rows, met, at_ => by
    show (stepU x met at_ r).bind (fun m => runU x m (at_ + 1) (rows ++ [row])) = ((stepU x met at_ r).bind fun m => runU x m (at_ + 1) rows).bind _
    cases stepU x met at_ r with
    | none => rfl
    | some m =>
      show runU x m (at_ + 1) (rows ++ [row]) = (runU x m (at_ + 1) rows).bind _
      rw [runU_snoc]
      congr 1; funext z
      have : at_ + 1 + (rows.length : Int) = at_ + ((r :: rows).length : Nat) := by rw [List.length_cons]; omega
      rw [this]
def ToldU (x : VW) (rows : List URow) (P : List Box) : Prop := runU x [(0, wbox x.ls)] 0 rows = some (metFrom 0 P)
theorem toldU_single {x : VW} {b : Box} {rows : List URow} {P : List Box} (h : ToldU x rows P) (hp : P[rows.length]? = some b) (hl : singleB b = true) : ToldU x (rows ++ [.single]) P := by
  unfold ToldU at *
  rw [runU_snoc, h]
  show stepU x (metFrom 0 P) (0 + (rows.length : Int)) .single = _
  unfold stepU
  rw [metFrom_at, hp]
  exact if_pos hl
theorem toldU_halves {x : VW} {b : Box} {rows : List URow} {P : List Box} {s a : Int} {h : Box × Box} {cuts : List Row} (ht : ToldU x rows P) (hp : P[rows.length]? = some b) (hs : cutB b s a = some h) (hc : cutsB x x h cuts = true) :
    ToldU x (rows ++ [.halves s a P.length (P.length + 1) cuts]) (P ++ [h.1, h.2]) := by
  unfold ToldU at *
  have hl := (List.getElem?_eq_some_iff.mp hp).1
  rw [runU_snoc, ht]
  show stepU x (metFrom 0 P) (0 + (rows.length : Int)) (.halves s a P.length (P.length + 1) cuts) = _
  unfold stepU
  rw [metFrom_at, hp]
  simp only [hs]
  have none_at : ∀ j : Nat, P.length ≤ j → (metFrom 0 P).lookup (j : Int) = none := fun j hj => by
    have := metFrom_at 0 P j
    rw [Int.zero_add] at this
    rw [this]; exact List.getElem?_eq_none hj
  have hlt : laterB (P.length : Int) ((P.length : Int) + 1) (0 + (rows.length : Int)) (metFrom 0 P) = true := by
    unfold laterB
    rw [none_at P.length (Nat.le_refl _), show ((P.length : Int) + 1) = ((P.length + 1 : Nat) : Int) by omega, none_at (P.length + 1) (by omega), decide_eq_true (by omega), decide_eq_true (by omega)]
    rfl
  rw [hlt, hc, metFrom_app]
  show some _ = some (metFrom 0 P ++ [((0 : Int) + P.length, h.1), ((0 : Int) + P.length + 1, h.2)])
  rw [Int.zero_add]
theorem toldU_end {x : VW} {rows : List URow} {P : List Box} (h : ToldU x rows P) (hl : rows.length = P.length) (hn : P ≠ []) : unlikeB x rows = true := by
  unfold unlikeB
  unfold ToldU at h
  rw [h]
  have : rows.isEmpty = false := by
    cases rows with
    | nil => exact absurd (List.length_eq_zero_iff.mp hl.symm) hn
    | cons _ _ => rfl
  rw [this]
  show (true && decide ((metFrom 0 P).length = rows.length)) = true
  rw [metFrom_len, decide_eq_true hl.symm]; rfl
/-! the cells of a box are unlike -/
def InjB (x : VW) (b : Box) : Prop := ∀ p q, InB b p → InB b q → cl x p = cl x q → p = q
theorem halves_apart : ∀ {b : Box} {i : Nat} {l u a : Int} {p q : List Int}, b[i]? = some (l, u) → InB (b.set i (l, a)) p → InB (b.set i (a, u)) q → p ≠ q
  | _ :: _, 0, l, u, a, p :: ps, q :: qs, h, hp, hq => by
    intro e
    injection e with e _
    have h1 : p < a := hp.1.2
    have h2 : a ≤ q := hq.1.1
    omega
  | _ :: b, i + 1, l, u, a, p :: ps, q :: qs, h, hp, hq => by
    intro e
    injection e with _ e
    exact halves_apart (b := b) (i := i) (by simpa using h) hp.2 hq.2 e
  | [], _, _, _, _, _, _, h, _, _ => by simp at h
  | _ :: _, 0, _, _, _, [], _, _, hp, _ => hp.elim
  | _ :: _, 0, _, _, _, _ :: _, [], _, _, hq => hq.elim
  | _ :: _, _ + 1, _, _, _, [], _, _, hp, _ => hp.elim
  | _ :: _, _ + 1, _, _, _, _ :: _, [], _, _, hq => hq.elim
theorem cut_inj {x : VW} {b : Box} {s a : Int} {h : Box × Box} (e : cutB b s a = some h) (hi : InjB x b) : InjB x h.1 ∧ InjB x h.2 ∧ Dis x x h.1 h.2 := by
  obtain ⟨i, l, u, _, hb, g1, g2, rfl⟩ := cutB_spec e
  have w1 : ∀ p, InB (b.set i (l, a)) p → InB b p := fun p hp => InB.wide (q' := (l, a)) hb (Int.le_refl _) (Int.le_of_lt g2) hp
  have w2 : ∀ p, InB (b.set i (a, u)) p → InB b p := fun p hp => InB.wide (q' := (a, u)) hb (Int.le_of_lt g1) (Int.le_refl _) hp
  exact ⟨fun p q hp hq => hi p q (w1 p hp) (w1 q hq), fun p q hp hq => hi p q (w2 p hp) (w2 q hq), fun p q hp hq c => halves_apart hb hp hq (hi p q (w1 p hp) (w2 q hq) c)⟩
theorem inB_bump : ∀ {b : Box} {ps : List Int} {i : Nat} {q : Int × Int} {p : Int}, InB b ps → b[i]? = some q → ps[i]? = some p → p + 1 < q.2 → InB b (ps.set i (p + 1))
  | q0 :: b, p0 :: ps, 0, q, p, h, e1, e2, h2 => by
    simp at e1 e2; subst e1 e2
    exact ⟨⟨by have := h.1.1; omega, h2⟩, h.2⟩
  | q0 :: b, p0 :: ps, i + 1, q, p, h, e1, e2, h2 => ⟨h.1, inB_bump (b := b) (ps := ps) (i := i) h.2 (by simpa using e1) (by simpa using e2) h2⟩
  | [], _, _, _, _, _, e1, _, _ => by simp at e1
  | _ :: _, [], _, _, _, h, _, _, _ => h.elim
theorem dot_bump : ∀ {ps ss : List Int} {i : Nat} {p s : Int}, ps[i]? = some p → ss[i]? = some s → dot (ps.set i (p + 1)) ss = dot ps ss + s
  | p0 :: ps, s0 :: ss, 0, p, s, e1, e2 => by
    simp at e1 e2; subst e1 e2
    rw [List.set_cons_zero, dot_cons, dot_cons, Int.add_mul]; omega
  | p0 :: ps, s0 :: ss, i + 1, p, s, e1, e2 => by
    rw [List.set_cons_succ, dot_cons, dot_cons, dot_bump (ps := ps) (ss := ss) (i := i) (by simpa using e1) (by simpa using e2)]; omega
  | [], _, _, _, _, e1, _ => by simp at e1
  | _ :: _, [], _, _, _, _, e2 => by simp at e2
theorem single_of {x : VW} {b : Box} {r i : Int} (hw : WS x.ss b r i) (hl : x.ss.length = b.length) (hi : InjB x b) (hr : r = 0) (hb : bareB b = false) : singleB b = true := by
  have nb := bareB_false.mp hb
  unfold singleB
  rw [hb]
  show b.all _ = true
  rw [List.all_eq_true]
  intro q hq
  refine decide_eq_true ?_
  have hlt := nb q hq
  obtain ⟨j, hj⟩ := List.getElem?_of_mem hq
  have hjl := (List.getElem?_eq_some_iff.mp hj).1
  have hs : x.ss[j]? = some (x.ss[j]'(by omega)) := List.getElem?_eq_getElem _
  rcases hw with ⟨rfl, _⟩ | ⟨_, hw⟩
  · simp at hq
  have h3 := hw j q _ hj hs
  rw [hr] at h3
  generalize x.ss[j]'(by omega) = s at hs h3
  unfold reachI at h3
  simp only at h3
  by_cases c : q.2 - q.1 = 1
  · exact c
  exfalso
  have hz : s = 0 := by
    by_cases hs0 : s = 0
    · exact hs0
    · exfalso
      have : 0 < (q.2 - q.1 - 1) * (if s < 0 then -s else s) := Int.mul_pos (by omega) (by split <;> omega)
      omega
  subst hz
  have hf := inB_first nb
  have hpj : (b.map (·.1))[j]? = some q.1 := by rw [List.getElem?_map, hj]; rfl
  have hbump := inB_bump hf hj hpj (by omega)
  have he : cl x ((b.map (·.1)).set j (q.1 + 1)) = cl x (b.map (·.1)) := by
    unfold cl
    rw [dot_bump hpj hs]; omega
  have := hi _ _ hbump hf he
  have h5 := congrArg (fun l => l[j]?) this
  simp only [List.getElem?_set, if_true] at h5
  rw [hpj] at h5
  simp at h5
  obtain ⟨_, h5⟩ := h5
  omega
def fu (b : Box) : Nat := max 1 (2 * vol b - 1)
theorem fu_pos (b : Box) : 1 ≤ fu b := Nat.le_max_left ..
theorem cut_vol {b : Box} {s a : Int} {h : Box × Box} (e : cutB b s a = some h) (hb : bareB b = false) : vol h.1 + vol h.2 = vol b ∧ 1 ≤ vol h.1 ∧ 1 ≤ vol h.2 := by
  obtain ⟨i, l, u, _, hi, g1, g2, rfl⟩ := cutB_spec e
  obtain ⟨m1, m2⟩ := set_bare (bareB_false.mp hb) hi g1 g2
  exact ⟨vol_set hi g1 g2, vol_pos m1, vol_pos m2⟩
theorem fu_cut {b : Box} {s a : Int} {h : Box × Box} (e : cutB b s a = some h) (hb : bareB b = false) : fu h.1 + fu h.2 + 1 ≤ fu b := by
  obtain ⟨v, v1, v2⟩ := cut_vol e hb
  unfold fu; omega
def todoU (n : Nat) (P : List Box) : Nat := ((P.drop n).map fu).sum
theorem sumU_len : ∀ (P : List Box), P.length ≤ (P.map fu).sum
  | [] => Nat.le_refl _
  | p :: P => by
    have := sumU_len P
    have := fu_pos p
    rw [List.length_cons, List.map_cons, List.sum_cons]; omega
theorem todoU_len {n : Nat} {P : List Box} (h : n ≤ P.length) : P.length ≤ n + todoU n P := by
  have := sumU_len (P.drop n)
  rw [List.length_drop] at this
  unfold todoU; omega
theorem todoU_at {n : Nat} {P : List Box} {p : Box} (h : P[n]? = some p) : todoU n P = fu p + todoU (n + 1) P := by
  obtain ⟨hl, e⟩ := List.getElem?_eq_some_iff.mp h
  unfold todoU
  rw [List.drop_eq_getElem_cons hl, List.map_cons, List.sum_cons, e]
theorem todoU_app {n : Nat} {P : List Box} (a b : Box) (h : n ≤ P.length) : todoU n (P ++ [a, b]) = todoU n P + fu a + fu b := by
  unfold todoU
  rw [List.drop_append_of_le_length h, List.map_append, List.sum_append]
  simp; omega
theorem inj_wbox {x : VW} (h : ((places x.ls).map (cl x)).Nodup) : InjB x (wbox x.ls) := fun p q hp hq e => by
  have mp := mem_places.mpr (inB_wbox.mp hp)
  have mq := mem_places.mpr (inB_wbox.mp hq)
  obtain ⟨i, hi⟩ := List.getElem?_of_mem mp
  obtain ⟨j, hj⟩ := List.getElem?_of_mem mq
  obtain ⟨li, ei⟩ := List.getElem?_eq_some_iff.mp hi
  obtain ⟨lj, ej⟩ := List.getElem?_eq_some_iff.mp hj
  have hij : i = j := by
    refine (List.getElem_inj (xs := (places x.ls).map (cl x)) (h₀ := by simpa using li) (h₁ := by simpa using lj) h).mp ?_
    rw [List.getElem_map, List.getElem_map, ei, ej, e]
  subst hij
  rw [← ei, ← ej]
/-- rows on the heap -/
def URowR (N : Addr → Prop) : Rep URow := fun H v row => match row with
  | .single => ∃ a, v = .ref a ∧ H a = some (.tup [.str "single"])
  | .halves s a l r cuts => ∃ t lc rvs, v = .ref t ∧ H t = some (.tup [.str "halves", .int s, .int a, .int l, .int r, .ref lc]) ∧ N lc ∧ H lc = some (.lst rvs) ∧ Paired (RowR H) rvs cuts ∧ cuts.length ≤ 2000000
/-- all stays but two lists -/
def KL (l1 l2 : Addr) (H H' : Hp) : Prop := ∀ b o, b ≠ l1 → b ≠ l2 → H b = some o → H' b = some o
theorem KL.trans {l1 l2 : Addr} {H H1 H2 : Hp} (a : KL l1 l2 H H1) (b : KL l1 l2 H1 H2) : KL l1 l2 H H2 := fun c o n1 n2 e => b c o n1 n2 (a c o n1 n2 e)
theorem KL.of {l1 l2 : Addr} {H H' : Hp} (s : Same H H') : KL l1 l2 H H' := fun c o _ _ e => s c o e
theorem KL.w1 {l1 l2 : Addr} {H : Hp} {o : HO} : KL l1 l2 H (upd H l1 o) := fun c u n1 _ e => (upd_ne n1).trans e
theorem KL.w2 {l1 l2 : Addr} {H : Hp} {o : HO} : KL l1 l2 H (upd H l2 o) := fun c u _ n2 e => (upd_ne n2).trans e
theorem KL.kt {K : PySem.W.Frag} {l1 l2 : Addr} {H H' : Hp} {xs ys : List V} (k : KL l1 l2 H H') (h1 : H l1 = some (.lst xs)) (h2 : H l2 = some (.lst ys)) : KT K H H' :=
  ⟨fun b o e => k b _ (fun c => by rw [c, h1] at e; cases e) (fun c => by rw [c, h2] at e; cases e) e, fun b o _ e => k b _ (fun c => by rw [c, h1] at e; cases e) (fun c => by rw [c, h2] at e; cases e) e⟩
theorem urow_up {K : PySem.W.Frag} {N N' : Addr → Prop} {l1 l2 : Addr} {H H' : Hp} {xs ys : List V} {v : V} {row : URow} (h : URowR N H v row) (k : KL l1 l2 H H') (h1 : H l1 = some (.lst xs)) (h2 : H l2 = some (.lst ys)) (hN : ∀ l, N l → l ≠ l1 ∧ l ≠ l2 ∧ N' l) : URowR N' H' v row := by
  have kt : KT K H H' := k.kt h1 h2
  cases row with
  | single =>
    obtain ⟨a, e, h⟩ := h
    exact ⟨a, e, kt.tup _ _ h⟩
  | halves s a l r cuts =>
    obtain ⟨t, lc, rvs, e, h, hn, hl, hp, hb⟩ := h
    obtain ⟨n1, n2, n3⟩ := hN lc hn
    exact ⟨t, lc, rvs, e, kt.tup _ _ h, n3, k _ _ n1 n2 hl, Paired.mapP hp fun _ _ q => mon_row.up (K := K) kt q, hb⟩
end Vg

namespace Vg
open PySem PySem.Spec PyProof.Rows L2 RZ RT
structure US (K : PySem.W.Frag) (H0 : Hp) (x : VW) (H : Hp) (l1 l2 : Addr) (rows : List URow) (P : List Box) : Prop where
  sm : Same H0 H
  f1 : H0 l1 = none
  f2 : H0 l2 = none
  ne : l1 ≠ l2
  ps : ∃ pvs, H l1 = some (.lst pvs) ∧ Paired (BoxR H) pvs P
  rs : ∃ rvs, H l2 = some (.lst rvs) ∧ Paired (URowR (fun l => H0 l = none ∧ l ≠ l1 ∧ l ≠ l2) H) rvs rows
  told : ToldU x rows P
  ok : ∀ q ∈ P, BB x.ls.length q ∧ InjB x q ∧ vol q ≤ 600
  le : rows.length ≤ P.length
  nn : P ≠ []
  bd : rows.length + todoU rows.length P ≤ 2000
/-- a heap that goes on, but for the two lists -/
theorem US.goes {K : PySem.W.Frag} {H0 H H' : Hp} {l1 l2 : Addr} {rows : List URow} {P : List Box} {pvs rvs : List V} (k : KL l1 l2 H H') (h1 : H l1 = some (.lst pvs)) (p1 : Paired (BoxR H) pvs P) (h2 : H l2 = some (.lst rvs))
    (p2 : Paired (URowR (fun l => H0 l = none ∧ l ≠ l1 ∧ l ≠ l2) H) rvs rows) : Paired (BoxR H') pvs P ∧ Paired (URowR (fun l => H0 l = none ∧ l ≠ l1 ∧ l ≠ l2) H') rvs rows :=
  ⟨Paired.mapP p1 fun _ _ h => mon_box.up (K := K) (k.kt h1 h2) h, Paired.mapP p2 fun _ _ h => urow_up (K := K) h k h1 h2 fun l hl => ⟨hl.2.1, hl.2.2, hl⟩⟩
section
variable {P : Program} {w : World} {K : PySem.W.Frag} {mg : Str → Option Value} {base : Heap}
def sp_unlike_rows (K : PySem.W.Frag) : Sp := fun vs H Q _ => ∃ v x, vs = [v] ∧ VwR K H v x ∧ VOK x ∧ ((places x.ls).map (cl x)).Nodup ∧
  ∀ l H' rvs rows, H l = none → Same H H' → H' l = some (.lst rvs) → Paired (URowR (fun l => H l = none) H') rvs rows → unlikeB x rows = true → rows.length ≤ 2000 → Q (.ref l) H'
abbrev N_unlike_rows : List Str := ["view", "boxes", "rows", "box", "reach", "side", "at", "left", "right", "cuts"]
theorem sc_unlike_rows : FnScope N_unlike_rows ["view"] (defScope s_unlike_rows) := ⟨rfl, rfl, rfl, by decide +kernel, rfl, by decide +kernel, by decide +kernel⟩
theorem ok_unlike_rows (T : Txt K mg) : GF P w K mg base 6 "unlike_rows" ["view"] (sp_unlike_rows K) := by
  have nd := sc_unlike_rows.nd
  refine gf_of T (d := d_unlike_rows) (x := "unlike_rows") rfl rfl rfl (i := 44) rfl (by decide +kernel) sc_unlike_rows (fun _ _ _ _ _ _ us hl => match us, hl with | [_], _ => rfl) (fun vs H Q E h => ?_) (fun cdv A outer s H vs Q E hr h => ?_)
  · obtain ⟨v, x, rfl, _⟩ := h; rfl
  · refine ⟨_, (pss_cons (ps_set (i := 1) nd rfl (Or.inl rfl) (pe_lst (pa_cons (pe_callG (ok_whole_box T) (hr.mono (by decide)) rfl (pa_cons (pv 0) pa_nil)) pa_nil)))
      (pss_cons (ps_set (i := 2) nd rfl (Or.inl rfl) (pe_lst pa_nil))
      (pss_cons (ps_while PassesOwn.never (pt_cmpR op_lt (pe_callB call_len_seq rfl (T.free "len") boot_len (pa_cons (pv 2) pa_nil)) (pe_callB call_len_seq rfl (T.free "len") boot_len (pa_cons (pv 1) pa_nil)) (nomark _)) (pss_cons (ps_set (i := 3) nd rfl (Or.inl rfl) (pe_ix ix_list (pv 1) (pe_callB call_len_seq rfl (T.free "len") boot_len (pa_cons (pv 2) pa_nil)) (fun _ _ => rfl)))
      (pss_cons (ps_asg (pe_callG (ok_widest_side T) (hr.mono (by decide)) rfl (pa_cons (pv 0) (pa_cons (pv 3) pa_nil))) (pg_tup rfl (pgs_cons (pg_name (i := 4) nd rfl (Or.inl rfl)) (pgs_cons (pg_name (i := 5) nd rfl (Or.inl rfl)) pgs_nil))))
      (pss_one (ps_if (PW.pt (pw_or (pt_val (pe_callG (ok_is_bare T) (hr.mono (by decide)) rfl (pa_cons (pv 3) pa_nil))) (pw_or1 (pt_cmpR op_eq (pv 4) pe_int (nomark _))))) (pss_one (ps_expr (pe_bm PySem.F.plainAttrs_list PySem.F.slot_list_append PySem.F.type_list_append mt_append (pv 2) (pa_cons (pe_tup (pa_cons pe_str pa_nil)) pa_nil)))) (pss_cons (ps_asg (pe_callG (ok_halved T) (hr.mono (by decide)) rfl (pa_cons (pv 3) (pa_cons (pv 5) pa_nil))) (pg_tup rfl (pgs_cons (pg_name (i := 6) nd rfl (Or.inl rfl)) (pgs_cons (pg_name (i := 7) nd rfl (Or.inl rfl)) (pgs_cons (pg_name (i := 8) nd rfl (Or.inl rfl)) pgs_nil)))))
      (pss_cons (ps_set (i := 9) nd rfl (Or.inl rfl) (pe_callG (ok_cuts_between T) (hr.mono (by decide)) rfl (pa_cons (pe_tup (pa_cons (pv 0) (pa_cons (pv 0) pa_nil))) (pa_cons (pe_tup (pa_cons (pv 7) (pa_cons (pv 8) pa_nil))) pa_nil))))
      (pss_cons (ps_expr (pe_bm PySem.F.plainAttrs_list PySem.F.slot_list_append PySem.F.type_list_append mt_append (pv 2) (pa_cons (pe_tup (pa_cons pe_str (pa_cons (pv 5) (pa_cons (pv 6) (pa_cons (pe_callB call_len_seq rfl (T.free "len") boot_len (pa_cons (pv 1) pa_nil)) (pa_cons (pe_op op_add (pe_callB call_len_seq rfl (T.free "len") boot_len (pa_cons (pv 1) pa_nil)) pe_int) (pa_cons (pv 9) pa_nil))))))) pa_nil)))
      (pss_one (ps_expr (pe_bm PySem.F.plainAttrs_list PySem.F.slot_list_extend PySem.F.type_list_extend mt_extend (pv 1) (pa_cons (pe_lst (pa_cons (pv 7) (pa_cons (pv 8) pa_nil))) pa_nil))))))))))))
      (pss_one (ps_ret (pv 2)))))), ?_⟩
    obtain ⟨v, x, rfl, hV, hO, hnd, q⟩ := h
    have fx := hO.lens.few
    have hvol : vol (wbox x.ls) ≤ 600 := by
      have e1 := vol_wbox fun n hn => (hO.lens.rng n hn).1
      have := hO.lens.sz; omega
    refine ⟨_, rfl, _, x, rfl, hV, fx, fun w H1 s1 hw => ⟨by show 1 ≤ sizeLine; decide, fun l1 hl1 => ⟨by show 0 ≤ sizeLine; decide, fun l2 hl2 => ?_⟩⟩⟩
    have n12 : l1 ≠ l2 := by rintro rfl; rw [upd_same] at hl2; cases hl2
    have s2 : Same H1 (upd (upd H1 l1 (.lst [w])) l2 (.lst [])) := (Same.new hl1).trans (Same.new hl2)
    have c0 : US K H x (upd (upd H1 l1 (.lst [w])) l2 (.lst [])) l1 l2 [] [wbox x.ls] := by
      refine ⟨s1.trans s2, s1.free hl1, s1.free ((Same.new hl1).free hl2), n12, ⟨[w], by rw [upd_ne n12, upd_same], .cons (mon_box.up (K := K) (.of s2) hw) .nil⟩, ⟨[], upd_same, .nil⟩, rfl, fun z hz => ?_, Nat.zero_le _, by simp, ?_⟩
      · rw [List.mem_singleton.mp hz]; exact ⟨bb_wbox hO.lens.rng, inj_wbox hnd, hvol⟩
      · show 0 + todoU 0 [wbox x.ls] ≤ 2000
        unfold todoU fu; simp; omega
    refine ⟨fun m σ H' => ∃ l1 l2 rows P z3 z4 z5 z6 z7 z8 z9, m = todoU rows.length P ∧ σ = [some v, some (.ref l1), some (.ref l2), z3, z4, z5, z6, z7, z8, z9] ∧ US K H x H' l1 l2 rows P,
      ⟨todoU 0 [wbox x.ls], l1, l2, [], [wbox x.ls], none, none, none, none, none, none, none, rfl, rfl, c0⟩, ?_⟩
    clear c0 s2 n12 hl1 hl2
    rintro m σ H2 ⟨l1, l2, rows, P, z3, z4, z5, z6, z7, z8, z9, rfl, rfl, C⟩
    obtain ⟨pvs, e1, p1⟩ := C.ps
    obtain ⟨rvs, e2, p2⟩ := C.rs
    have lp := Paired.len p1
    have lr := Paired.len p2
    refine ⟨_, rfl, l2, _, rfl, .inl (SqL.of e2), _, rfl, l1, _, rfl, .inl (SqL.of e1), _, _, rfl, rfl, decide ((rvs.length : Int) < pvs.length), rfl, ?_⟩
    by_cases hlt : (rvs.length : Int) < pvs.length
    case neg =>
      rw [decide_eq_false hlt]
      have le := C.le
      have hlen : rows.length = P.length := by omega
      refine iteF ⟨_, rfl, q l2 H2 rvs rows C.f2 C.sm e2 ?_ (toldU_end C.told hlen C.nn) ?_⟩
      · exact Paired.mapP p2 fun _ _ h => urow_up (K := K) h (KL.of (Same.refl _)) e1 e2 fun l hl => ⟨hl.2.1, hl.2.2, hl.1⟩
      · have := C.bd; omega
    rw [decide_eq_true hlt]
    have hn : rows.length < P.length := by omega
    have hP : P[rows.length]? = some P[rows.length] := List.getElem?_eq_getElem hn
    generalize hpp : P[rows.length] = bx at hP
    obtain ⟨bv, hw1, hbx⟩ := Paired.get' p1 hP
    obtain ⟨hBB, hInj, hvl⟩ := C.ok bx (List.mem_of_getElem? hP)
    have hV2 := mon_vw.up (.of C.sm) hV
    refine iteT ⟨fun σ' H' => ∃ m', m' < todoU rows.length P ∧ ∃ l1 l2 rows P z3 z4 z5 z6 z7 z8 z9, m' = todoU rows.length P ∧ σ' = [some v, some (.ref l1), some (.ref l2), z3, z4, z5, z6, z7, z8, z9] ∧ US K H x H' l1 l2 rows P, fun _ _ h => h, ?_⟩
    refine ⟨_, rfl, _, rfl, l2, _, rfl, .inl (SqL.of e2), l1, _, _, _, rfl, rfl, SqL.of e1, at_of (j := rows.length) (v := bv) (by rw [lr]) hw1, ?_⟩
    refine ⟨_, rfl, _, rfl, _, x, _, bx, rfl, hV2, hO, hbx, hBB, fun w2 H3 r i s3 hw2 hws => ?_⟩
    obtain ⟨t0, ew, ht0⟩ := hw2
    subst ew
    refine ⟨t0, _, rfl, SqT.of ht0, rfl, _, _, rfl, _, _, rfl, rfl, ?_⟩
    have sz : rvs.length < sizeLine := by rw [sizeLine_eq]; have := C.bd; omega
    refine ⟨_, rfl, _, bx, rfl, mon_box.up (K := K) (.of s3) hbx, by rw [hBB.len]; omega, fun H4 s4 => ⟨bareB bx, rfl, ?_⟩⟩
    have s24 := s3.trans s4
    have tat := todoU_at hP
    have tpos := fu_pos bx
    have cbd := C.bd
    have hsingle : ∀ H5, Same H4 H5 → singleB bx = true → ∀ σ5 z3 z4 z5 z6 z7 z8 z9, σ5 = [some v, some (.ref l1), some (.ref l2), z3, z4, z5, z6, z7, z8, z9] → ∀ ta, H5 ta = some (.tup [.str "single"]) → ∃ m', m' < todoU rows.length P ∧ ∃ L1 L2 rows P z3 z4 z5 z6 z7 z8 z9, m' = todoU rows.length P ∧ σ5 = [some v, some (.ref L1), some (.ref L2), z3, z4, z5, z6, z7, z8, z9] ∧ US K H x (upd H5 l2 (.lst (rvs ++ [.ref ta]))) L1 L2 rows P := by
      intro H5 s5 hs σ5 y3 y4 y5 y6 y7 y8 y9 hσ ta hta
      have s25 := s24.trans s5
      have k : KL l1 l2 H2 (upd H5 l2 (.lst (rvs ++ [.ref ta]))) := (KL.of s25).trans KL.w2
      obtain ⟨g1, g2⟩ := US.goes (K := K) k e1 p1 e2 p2
      have nta : ta ≠ l2 := fun e => by rw [e, s25 _ _ e2] at hta; cases hta
      refine ⟨todoU (rows ++ [URow.single]).length P, by rw [List.length_append, List.length_singleton]; omega, l1, l2, rows ++ [URow.single], P, y3, y4, y5, y6, y7, y8, y9, rfl, hσ, Same.mut (C.sm.trans s25) C.f2, C.f1, C.f2, C.ne, ⟨pvs, (upd_ne C.ne).trans (s25 _ _ e1), g1⟩, ⟨_, upd_same, Paired.app g2 ⟨ta, rfl, (upd_ne nta).trans hta⟩⟩,
        toldU_single C.told hP hs, C.ok, by rw [List.length_append, List.length_singleton]; omega, C.nn, by rw [List.length_append, List.length_singleton]; omega⟩
    cases hb : bareB bx with
    | true =>
      have hs : singleB bx = true := by unfold singleB; rw [hb]; rfl
      refine iteT (iteT ⟨_, rfl, .inl ⟨rfl, _, SqL.of (s24 _ _ e2)⟩, by show 1 ≤ sizeLine; decide, fun ta hta => ⟨l2, _, _, rfl, rfl, (Same.new hta) _ _ (s24 _ _ e2), sz, hsingle _ (Same.new hta) hs _ _ _ _ _ _ _ _ rfl ta upd_same⟩⟩)
    | false =>
    refine iteF ⟨_, rfl, rfl, _, rfl, ?_⟩
    rw [dec_int]
    by_cases hr0 : r = 0
    · rw [hr0]
      have hs : singleB bx = true := single_of hws (by rw [hO.len, hBB.len]) hInj hr0 hb
      refine iteT ⟨_, rfl, .inl ⟨rfl, _, SqL.of (s24 _ _ e2)⟩, by show 1 ≤ sizeLine; decide, fun ta hta => ⟨l2, _, _, rfl, rfl, (Same.new hta) _ _ (s24 _ _ e2), sz, hsingle _ (Same.new hta) hs _ _ _ _ _ _ _ _ rfl ta upd_same⟩⟩
    rw [beq_eq_false_iff_ne.mpr hr0]
    have nb := bareB_false.mp hb
    have hrp : 0 < r := by
      rcases hws with ⟨_, h, _⟩ | ⟨⟨k, p, s, _, h2, _, h4⟩, _⟩
      · exact absurd h hr0
      · have hp := nb p (List.mem_of_getElem? h2)
        have : 0 ≤ reachI (p, s) := by
          unfold reachI
          refine Int.mul_nonneg (by simp only; omega) ?_
          simp only; split <;> omega
        omega
    obtain ⟨k, l, u, ei, hk, c1, c2⟩ := wide_cut hws hrp nb
    subst ei
    have hcut := cutB_of hk c1 c2
    obtain ⟨ci1, ci2, cdis⟩ := cut_inj hcut hInj
    obtain ⟨cv, cv1, cv2⟩ := cut_vol hcut hb
    have cfu := fu_cut hcut hb
    dsimp only at cv cv1 cv2 cfu ci1 ci2 cdis
    obtain ⟨cb1, cb2⟩ := bb_set hBB hk c1 c2
    refine iteF ⟨_, rfl, _, rfl, _, bx, k, l, u, rfl, mon_box.up (K := K) (.of s24) hbx, by rw [hBB.len]; omega, hBB.rng, hk, fun wv xl yl z H5 s5 ew hz hX hY => ?_⟩
    subst ew
    have s25 := s24.trans s5
    refine ⟨z, _, rfl, SqT.of hz, rfl, _, _, rfl, _, _, rfl, _, _, rfl, rfl, ?_⟩
    refine ⟨_, rfl, _, rfl, by show 2 ≤ sizeLine; decide, fun t1 ht1 => ⟨_, rfl, _, rfl, by show 2 ≤ sizeLine; decide, fun t2 ht2 => ?_⟩⟩
    have s6 : Same H5 (upd (upd H5 t1 (.tup [v, v])) t2 (.tup [xl, yl])) := (Same.new ht1).trans (Same.new ht2)
    have s26 := s25.trans s6
    have hV6 := mon_vw.up (.of s26) hV2
    refine ⟨_, _, x, x, (bx.set k (l, (l + u) / 2), bx.set k ((l + u) / 2, u)), rfl, ⟨t1, v, v, rfl, (Same.new ht2) _ _ upd_same, hV6, hV6⟩, hO, hO, ⟨t2, xl, yl, rfl, upd_same, mon_box.up (K := K) (.of s6) hX, mon_box.up (K := K) (.of s6) hY⟩, ⟨cb1, cb2⟩, cdis, ?_, fun lc H7 cvs cuts f7 s7 e7 p7 c7 n7 => ?_⟩
    · have := Nat.mul_le_mul (show vol (bx.set k (l, (l + u) / 2)) ≤ 600 by omega) (show vol (bx.set k ((l + u) / 2, u)) ≤ 600 by omega)
      exact Nat.le_trans this (by decide)
    have s27 := s26.trans s7
    have s57 := s6.trans s7
    have f2' : H2 lc = none := s26.free f7
    have nl1 : lc ≠ l1 := fun e => by rw [e, e1] at f2'; cases f2'
    have nl2 : lc ≠ l2 := fun e => by rw [e, e2] at f2'; cases f2'
    refine ⟨_, rfl, .inl ⟨rfl, _, SqL.of (s27 _ _ e2)⟩, _, rfl, _, rfl, _, rfl, l1, _, rfl, .inl (SqL.of (s27 _ _ e1)), _, rfl, l1, _, rfl, .inl (SqL.of (s27 _ _ e1)), _, _, rfl, rfl, _, rfl, by show 6 ≤ sizeLine; decide, fun t ht => ⟨l2, _, _, rfl, rfl, (Same.new ht) _ _ (s27 _ _ e2), sz, ?_⟩⟩
    have ntl1 : t ≠ l1 := fun e => by rw [e, s27 _ _ e1] at ht; cases ht
    have ntl2 : t ≠ l2 := fun e => by rw [e, s27 _ _ e2] at ht; cases ht
    refine ⟨_, rfl, .inl ⟨rfl, _, SqL.of ((upd_ne C.ne).trans ((Same.new ht) _ _ (s27 _ _ e1)))⟩, _, rfl, _, rfl, by show 2 ≤ sizeLine; decide, fun t3 ht3 => ?_⟩
    have szp : pvs.length + 2 ≤ sizeLine := by
      have b3 := todoU_len C.le
      rw [sizeLine_eq]; omega
    have nt3 : t3 ≠ l2 := fun e => by rw [e, upd_same] at ht3; cases ht3
    refine ⟨l1, t3, pvs, [xl, yl], rfl, rfl, (Same.new ht3) _ _ ((upd_ne C.ne).trans ((Same.new ht) _ _ (s27 _ _ e1))), upd_same, szp, ?_⟩
    have k27 : KL l1 l2 H2 H7 := KL.of s27
    have kt : KL l1 l2 H7 (upd H7 t (.tup [.str "halves", .int k, .int ((l + u) / 2), .int pvs.length, .int (pvs.length + 1), .ref lc])) := KL.of (Same.new ht)
    have k8 : KL l1 l2 (upd H7 t (.tup [.str "halves", .int k, .int ((l + u) / 2), .int pvs.length, .int (pvs.length + 1), .ref lc])) (upd (upd H7 t (.tup [.str "halves", .int k, .int ((l + u) / 2), .int pvs.length, .int (pvs.length + 1), .ref lc])) l2 (.lst (rvs ++ [.ref t]))) := KL.w2
    have kA := (kt.trans k8).trans (KL.of (Same.new ht3 (o := .lst [xl, yl])))
    have kB := kA.trans (KL.w1 (o := .lst (pvs ++ [xl, yl])))
    have k2B := k27.trans kB
    obtain ⟨g1, g2⟩ := US.goes (K := K) k2B e1 p1 e2 p2
    have mB : KT K H7 _ := kB.kt (s27 _ _ e1) (s27 _ _ e2)
    have ha := todoU_app (n := rows.length + 1) (P := P) (bx.set k (l, (l + u) / 2)) (bx.set k ((l + u) / 2, u)) hn
    refine ⟨todoU (rows.length + 1) (P ++ [bx.set k (l, (l + u) / 2), bx.set k ((l + u) / 2, u)]), by omega, l1, l2, rows ++ [.halves k ((l + u) / 2) P.length (P.length + 1) cuts], P ++ [bx.set k (l, (l + u) / 2), bx.set k ((l + u) / 2, u)], _, _, _, _, _, _, _, by rw [List.length_append, List.length_singleton], rfl, ?_⟩
    refine ⟨?_, C.f1, C.f2, C.ne, ⟨pvs ++ [xl, yl], upd_same, ?_⟩, ⟨rvs ++ [.ref t], ?_, Paired.app g2 ?_⟩, toldU_halves C.told hP hcut c7, fun zz hz => ?_, ?_, by simp, ?_⟩
    · intro b o e
      have n1 : b ≠ l1 := ne_of_none e C.f1
      have n2 : b ≠ l2 := ne_of_none e C.f2
      exact k2B b o n1 n2 (C.sm _ _ e)
    · refine Paired.append g1 (.cons (mon_box.up mB (mon_box.up (K := K) (.of s57) hX)) (.cons (mon_box.up mB (mon_box.up (K := K) (.of s57) hY)) .nil))
    · rw [upd_ne (Ne.symm C.ne), upd_ne (Ne.symm nt3), upd_same]
    · refine ⟨t, lc, cvs, rfl, ?_, ⟨C.sm.free f2', nl1, nl2⟩, kB _ _ nl1 nl2 e7, Paired.mapP p7 fun _ _ h => mon_row.up mB h, n7⟩
      have := (KL.trans (KL.trans k8 (KL.of (Same.new ht3 (o := .lst [xl, yl])))) (KL.w1 (o := .lst (pvs ++ [xl, yl])))) t _ ntl1 ntl2 upd_same
      rw [this, lp]
    · rcases List.mem_append.mp hz with hz | hz
      · exact C.ok zz hz
      · rcases List.mem_cons.mp hz with rfl | hz
        · exact ⟨cb1, ci1, by omega⟩
        · rw [List.mem_singleton.mp hz]; exact ⟨cb2, ci2, by omega⟩
    · rw [List.length_append, List.length_append, List.length_singleton]; simp; omega
    · rw [List.length_append, List.length_singleton]; omega
end
inductive UPaper where
  | unlike (rows : List URow)
  | twice (p q : List Int)
def UPapR (N : Addr → Prop) : Rep UPaper := fun H v pap => match pap with
  | .twice p q => ∃ a u w, v = .ref a ∧ H a = some (.tup [.str "twice", u, w]) ∧ IT H u p ∧ IT H w q
  | .unlike rows => ∃ a l rvs, v = .ref a ∧ H a = some (.tup [.str "unlike", .ref l]) ∧ N l ∧ H l = some (.lst rvs) ∧ Paired (URowR N H) rvs rows
def UPapOk (x : VW) : UPaper → Prop
  | .twice p q => InP x.ls p ∧ InP x.ls q ∧ p ≠ q ∧ cl x p = cl x q
  | .unlike rows => unlikeB x rows = true ∧ rows.length ≤ 2000 ∧ ((places x.ls).map (cl x)).Nodup
section
variable {P : Program} {w : World} {K : PySem.W.Frag} {mg : Str → Option Value} {base : Heap}
def sp_unlike_cells (K : PySem.W.Frag) : Sp := fun vs H Q _ => ∃ v x, vs = [v] ∧ VwR K H v x ∧ VOK x ∧ ∀ w H' pap, Same H H' → UPapR (fun l => H l = none) H' w pap → UPapOk x pap → Q w H'
abbrev N_unlike_cells : List Str := ["view", "found"]
theorem sc_unlike_cells : FnScope N_unlike_cells ["view"] (defScope s_unlike_cells) := ⟨rfl, rfl, rfl, by decide +kernel, rfl, by decide +kernel, by decide +kernel⟩
theorem ok_unlike_cells (T : Txt K mg) : GF P w K mg base 7 "unlike_cells" ["view"] (sp_unlike_cells K) := by
  have nd := sc_unlike_cells.nd
  refine gf_of T (d := d_unlike_cells) (x := "unlike_cells") rfl rfl rfl (i := 45) rfl (by decide +kernel) sc_unlike_cells (fun _ _ _ _ _ _ us hl => match us, hl with | [_], _ => rfl) (fun vs H Q E h => ?_) (fun cdv A outer s H vs Q E hr h => ?_)
  · obtain ⟨v, x, rfl, _⟩ := h; rfl
  · refine ⟨_, (pss_cons (ps_set (i := 1) nd rfl (Or.inl rfl) (pe_callG (ok_twice_in T) (hr.mono (by decide)) rfl (pa_cons (pv 0) pa_nil)))
      (pss_cons (ps_if (pt_cmpR op_isN (pv 1) pe_non (nomark _)) (pss_one (ps_ret (pe_tup (pa_cons pe_str (pa_cons (pe_callG (ok_unlike_rows T) (hr.mono (by decide)) rfl (pa_cons (pv 0) pa_nil)) pa_nil))))) pss_nil)
      (pss_one (ps_ret (pe_op op_catA (pe_tup (pa_cons pe_str pa_nil)) (pv 1)))))), ?_⟩
    obtain ⟨v, x, rfl, hV, hO, q⟩ := h
    refine ⟨_, rfl, v, x, rfl, hV, hO, fun H1 s1 hnd => ?_, fun w p t H1 s1 hw hp ht hne hc => ?_⟩
    · refine ⟨_, rfl, rfl, true, rfl, iteT ⟨_, rfl, _, x, rfl, mon_vw.up (.of s1) hV, hO, hnd, fun l H2 rvs rows f2 s2 e2 p2 c2 n2 => ⟨by show 2 ≤ sizeLine; decide, fun t ht => ?_⟩⟩⟩
      have s3 : Same H2 (upd H2 t (.tup [.str "unlike", .ref l])) := Same.new ht
      refine q _ _ (.unlike rows) ((s1.trans s2).trans s3) ⟨t, l, rvs, rfl, upd_same, s1.free f2, s3 _ _ e2, Paired.mapP p2 fun v row h => ?_⟩ ⟨c2, n2, hnd⟩
      cases row with
      | single =>
        obtain ⟨a, e, h⟩ := h
        exact ⟨a, e, s3 _ _ h⟩
      | halves s a l r cuts =>
        obtain ⟨t', lc, rv', e, h, hn, hl, hp, hb⟩ := h
        exact ⟨t', lc, rv', e, s3 _ _ h, s1.free hn, s3 _ _ hl, Paired.mapP hp fun _ _ q => mon_row.up (K := K) (.of s3) q, hb⟩
    · obtain ⟨z, a1, a2, rfl, hz, h1, h2⟩ := hw
      refine ⟨_, rfl, rfl, false, rfl, iteF ⟨by show 1 ≤ sizeLine; decide, fun t1 ht1 => ⟨_, rfl, ?_⟩⟩⟩
      refine catA_ok upd_same ((Same.new ht1) _ _ hz) (by show 1 + 2 ≤ 1000000; decide) fun c H2 s2 e2 => ?_
      have s02 := (Same.new ht1 (o := .tup [.str "twice"])).trans s2
      exact q _ _ (.twice p t) (s1.trans s02) ⟨c, a1, a2, rfl, e2, mon_it.up (K := K) (.of s02) h1, mon_it.up (K := K) (.of s02) h2⟩ ⟨hp, ht, hne, hc⟩
    
end
end Vg

namespace Vg
open PySem PySem.Spec PyProof.Rows L2 RZ RT
section
variable {P : Program} {w : World} {K : PySem.W.Frag} {mg : Str → Option Value} {base : Heap}
def sp_is_so : Sp := fun vs H Q _ => ∃ (a : Addr) (s w : Str) (rest : List V) (m : Nat) (n : Int), vs = [.ref a, .str w, .int n] ∧ H a = some (.tup (.str s :: rest)) ∧ rest.length + 1 = m ∧ Q (.bl (decide ((m : Int) = n) && decide (s = w))) H
abbrev N_is_so : List Str := ["thing", "word", "many"]
theorem sc_is_so : FnScope N_is_so ["thing", "word", "many"] (defScope s_is_so) := ⟨rfl, rfl, rfl, by decide +kernel, rfl, by decide +kernel, by decide +kernel⟩
theorem ok_is_so (T : Txt K mg) : GF P w K mg base 1 "is_so" ["thing", "word", "many"] sp_is_so := by
  have nd := sc_is_so.nd
  refine gf_of T (d := d_is_so) (x := "is_so") rfl rfl rfl (i := 46) rfl (by decide +kernel) sc_is_so (fun _ _ _ _ _ _ us hl => match us, hl with | [_, _, _], _ => rfl) (fun vs H Q E h => ?_) (fun cdv A outer s H vs Q E hr h => ?_)
  · obtain ⟨a, s, w, rest, m, n, rfl, _⟩ := h; rfl
  · refine ⟨_, (pss_one (ps_ret (pe_and (pe_callB call_isB rfl (T.free "isinstance") (by decide +kernel) (pa_cons (pv 0) (pa_cons (pe_bltn (v := .ty "tuple") (u := .type "tuple") rfl (T.free "tuple") (by decide +kernel) rfl) pa_nil))) (pe_and (pe_cmpR op_eq (pe_callB call_len_seq rfl (T.free "len") boot_len (pa_cons (pv 0) pa_nil)) (pv 2) (nomark _)) (pe_and (pe_callB call_isB rfl (T.free "isinstance") (by decide +kernel) (pa_cons (pe_ix ix_tup (pv 0) pe_int (fun _ _ => rfl)) (pa_cons (pe_bltn (v := .ty "str") (u := .type "str") rfl (T.free "str") (by decide +kernel) rfl) pa_nil))) (pe_one (pe_cmpR op_eq (pe_ix ix_tup (pv 0) pe_int (fun _ _ => rfl)) (pv 1) (nomark _)))))))), ?_⟩
    obtain ⟨a, s0, w0, rest, m, n, rfl, ha, hm, q⟩ := h
    refine ⟨_, rfl, _, _, _, true, rfl, .tup ha, by decide +kernel, true, rfl, iteT ⟨_, rfl, a, _, rfl, .inr (SqT.of ha), _, rfl, rfl, _, rfl, ?_⟩⟩
    have e1 : ((V.str s0 :: rest).length : Int) = m := by rw [List.length_cons, hm]
    rw [e1, dec_int]
    by_cases hn : (m : Int) = n
    · rw [beq_iff_eq.mpr hn]
      refine iteT ⟨_, rfl, a, _, _, _, rfl, rfl, SqT.of ha, at_of (j := 0) (v := .str s0) rfl rfl, _, _, _, true, rfl, .str _, by decide +kernel, true, rfl, iteT ⟨_, rfl, a, _, _, _, rfl, rfl, SqT.of ha, at_of (j := 0) (v := .str s0) rfl rfl, _, rfl, rfl, ?_⟩⟩
      have e2 : decide (V.str s0 = V.str w0) = decide (s0 = w0) := decide_eq_decide.mpr ⟨fun h => by injection h, fun h => by rw [h]⟩
      rw [e2]
      rw [decide_eq_true hn, Bool.true_and] at q
      exact q
    · rw [beq_eq_false_iff_ne.mpr hn]
      rw [decide_eq_false hn, Bool.false_and] at q
      exact iteF q
end
section
variable {P : Program} {w : World} {K : PySem.W.Frag} {mg : Str → Option Value} {base : Heap}
def sp_are_whole : Sp := fun vs H Q _ => ∃ v ps, ∃ n : Int, vs = [v, .int n] ∧ IT H v ps ∧ ps.length ≤ 1000 ∧ ∀ H', Same H H' → Q (.bl (decide ((ps.length : Int) = n))) H'
abbrev N_are_whole : List Str := ["thing", "many", "one"]
theorem sc_are_whole : FnScope N_are_whole ["thing", "many"] (defScope s_are_whole) := ⟨rfl, rfl, rfl, by decide +kernel, rfl, by decide +kernel, by decide +kernel⟩
theorem ok_are_whole (T : Txt K mg) : GF P w K mg base 2 "are_whole" ["thing", "many"] sp_are_whole := by
  have nd := sc_are_whole.nd
  refine gf_of T (d := d_are_whole) (x := "are_whole") rfl rfl rfl (i := 47) rfl (by decide +kernel) sc_are_whole (fun _ _ _ _ _ _ us hl => match us, hl with | [_, _], _ => rfl) (fun vs H Q E h => ?_) (fun cdv A outer s H vs Q E hr h => ?_)
  · obtain ⟨v, ps, n, rfl, _⟩ := h; rfl
  · refine ⟨_, (pss_one (ps_ret (pe_and (pe_callB call_isB rfl (T.free "isinstance") (by decide +kernel) (pa_cons (pv 0) (pa_cons (pe_bltn (v := .ty "tuple") (u := .type "tuple") rfl (T.free "tuple") (by decide +kernel) rfl) pa_nil))) (pe_and (pe_cmpR op_eq (pe_callB call_len_seq rfl (T.free "len") boot_len (pa_cons (pv 0) pa_nil)) (pv 1) (nomark _)) (pe_one (pe_callB (cr_all rfl) rfl (T.free "all") (by decide +kernel) (pa_cons (pe_lc (own := [("one", 2)]) (g := (gName 2)) (tt := tYes) rfl nd (pi_tup (pv 0)) (blkOk_by (N := N_are_whole) (sc := defScope s_are_whole) (by decide +kernel)) (fun _ _ _ _ _ => (pg_name (i := 2) nd rfl (Or.inl rfl))) (fun _ _ _ _ _ => pts_nil) (fun _ _ _ _ _ => (pe_callG (ok_is_whole T) (hr.mono (by decide)) rfl (pa_cons (pv 2) pa_nil)))) pa_nil))))))), ?_⟩
    obtain ⟨v, ps, n, rfl, ⟨a, rfl, ha⟩, hl, q⟩ := h
    refine ⟨_, rfl, _, _, _, true, rfl, .tup ha, by decide +kernel, true, rfl, iteT ⟨_, rfl, a, _, rfl, .inr (SqT.of ha), _, rfl, rfl, _, rfl, ?_⟩⟩
    rw [List.length_map, dec_int]
    by_cases hn : (ps.length : Int) = n
    · rw [beq_iff_eq.mpr hn]
      refine iteT ⟨_, rfl, a, rfl, ⟨_, SqT.of ha⟩, fun D hD => ?_⟩
      refine lc_map (K := K) (R := fun _ v b => v = V.bl b) walk_tup ⟨fun _ h => h⟩ (fun _ => true) (by rw [List.length_map]; omega) hD (fun H' s' => SqT.of (s' _ _ ha)) ?_ ?_
      · rintro i y H2 H3 Kk hi s2 ⟨rfl, hy⟩ kk
        obtain ⟨p, hp, rfl⟩ := map_at hy
        exact ⟨rfl, _, rfl, p, rfl, kk _ _ (Same.refl _) rfl⟩
      · intro H2 acc s2 e2 p2
        have eb : ∀ {xs : List V} {bs : List Bool}, Paired (fun v b => v = V.bl b) xs bs → xs = bs.map V.bl := fun h => by
          induction h with
          | nil => rfl
          | cons r _ ih => rw [r, ih]; rfl
        rw [eb p2] at e2
        refine ⟨D, _, rfl, SqL.of e2, ?_⟩
        have : (List.map (fun _ => true) (List.range (List.map V.int ps).length)).all id = true := by
          rw [List.all_eq_true]
          intro b hb
          obtain ⟨_, _, rfl⟩ := List.mem_map.mp hb; rfl
        rw [this]
        have q' := q H2 s2
        rw [decide_eq_true hn] at q'
        exact q'
    · rw [beq_eq_false_iff_ne.mpr hn]
      have q' := q H (Same.refl H)
      rw [decide_eq_false hn] at q'
      exact iteF q'
end
theorem inP_all : ∀ {ls ps : List Int}, ps.length = ls.length → ((∀ (i : Nat) (p n : Int), ps[i]? = some p → ls[i]? = some n → 0 ≤ p ∧ p < n) ↔ InP ls ps)
  | [], [], _ => ⟨fun _ => trivial, fun _ i p n h _ => by simp at h⟩
  | n :: ls, p :: ps, hl => by
    have ih := inP_all (ls := ls) (ps := ps) (by simpa using hl)
    constructor
    · intro h
      exact ⟨h 0 p n rfl rfl, ih.mp fun i p' n' e1 e2 => h (i + 1) p' n' (by simpa using e1) (by simpa using e2)⟩
    · rintro ⟨h1, h2⟩ i p' n' e1 e2
      cases i with
      | zero => simp at e1 e2; subst e1 e2; exact h1
      | succ i => exact ih.mpr h2 i p' n' (by simpa using e1) (by simpa using e2)
section
variable {P : Program} {w : World} {K : PySem.W.Frag} {mg : Str → Option Value} {base : Heap}
def sp_is_told_place (K : PySem.W.Frag) : Sp := fun vs H Q _ => ∃ u v ls ps, vs = [u, v] ∧ IT H u ls ∧ IT H v ps ∧ ls.length ≤ 1000 ∧ ps.length ≤ 1000 ∧ ∀ b H', Same H H' → (b = true ↔ InP ls ps) → Q (.bl b) H'
abbrev N_is_told_place : List Str := ["lengths", "thing", "number", "length"]
theorem sc_is_told_place : FnScope N_is_told_place ["lengths", "thing"] (defScope s_is_told_place) := ⟨rfl, rfl, rfl, by decide +kernel, rfl, by decide +kernel, by decide +kernel⟩
theorem ok_is_told_place (T : Txt K mg) : GF P w K mg base 3 "is_told_place" ["lengths", "thing"] (sp_is_told_place K) := by
  have nd := sc_is_told_place.nd
  refine gf_of T (d := d_is_told_place) (x := "is_told_place") rfl rfl rfl (i := 48) rfl (by decide +kernel) sc_is_told_place (fun _ _ _ _ _ _ us hl => match us, hl with | [_, _], _ => rfl) (fun vs H Q E h => ?_) (fun cdv A outer s H vs Q E hr h => ?_)
  · obtain ⟨u, v, ls, ps, rfl, _⟩ := h; rfl
  · refine ⟨_, (pss_cons (ps_if (pt_not (pt_val (pe_callG (ok_are_whole T) (hr.mono (by decide)) rfl (pa_cons (pv 1) (pa_cons (pe_callB call_len_seq rfl (T.free "len") boot_len (pa_cons (pv 0) pa_nil)) pa_nil))))) (pss_one (ps_ret pe_bl)) pss_nil)
      (pss_one (ps_ret (pe_callB (cr_all rfl) rfl (T.free "all") (by decide +kernel) (pa_cons (pe_lc (own := [("number", 2), ("length", 3)]) (g := (gTup K 2 (gCons (gName 2) (gCons (gName 3) gNil)))) (tt := tYes) rfl nd (pi_zipStrict rfl (T.free "zip") (pa_cons (pv 1) (pa_cons (pv 0) pa_nil)) (pk_cons pe_bl pk_nil)) (blkOk_by (N := N_is_told_place) (sc := defScope s_is_told_place) (by decide +kernel)) (fun _ _ _ _ _ => (pg_tup rfl (pgs_cons (pg_name (i := 2) nd rfl (Or.inl rfl)) (pgs_cons (pg_name (i := 3) nd rfl (Or.inl rfl)) pgs_nil)))) (fun _ _ _ _ _ => pts_nil) (fun _ _ _ _ _ => (pe_chain op_le op_lt pe_int (pv 2) (pv 3)))) pa_nil))))), ?_⟩
    obtain ⟨u, v, ls, ps, rfl, hu, hv, hl1, hl2, q⟩ := h
    obtain ⟨a, rfl, ha⟩ := id hu
    obtain ⟨c, rfl, hc⟩ := id hv
    refine ⟨_, rfl, _, rfl, a, _, rfl, .inr (SqT.of ha), _, ps, _, rfl, hv, hl2, fun H1 s1 => ⟨_, rfl, ?_⟩⟩
    rw [List.length_map]
    by_cases hl : (ps.length : Int) = ls.length
    case neg =>
      rw [decide_eq_false hl]
      refine iteT (q false H1 s1 ⟨fun h => (nomatch h), fun h => absurd h.len (by omega)⟩)
    rw [decide_eq_true hl]
    refine iteF ⟨_, rfl, _, rfl, c, a, _, _, rfl, rfl, SqT.of (s1 _ _ hc), SqT.of (s1 _ _ ha), fun D hD => ?_⟩
    refine lc_map (K := K) (R := fun _ v b => v = V.bl b) (walk_zipS (n := ps.length) (by simp) (by simp; omega)) ⟨fun _ h => h⟩ (fun i => decide (0 ≤ ps.getD i 0 ∧ ps.getD i 0 < ls.getD i 0)) (by omega) hD (fun H' s' => ⟨SqT.of (s' _ _ (s1 _ _ hc)), SqT.of (s' _ _ (s1 _ _ ha))⟩) ?_ ?_
    · rintro i y H2 H3 Kk hi s2 ⟨t, x1, x2, rfl, hn, rfl, e1, e2⟩ kk
      obtain ⟨p, hp, rfl⟩ := map_at e1
      obtain ⟨n, hn', rfl⟩ := map_at e2
      refine ⟨t, _, rfl, SqT.of upd_same, rfl, _, _, rfl, _, _, rfl, rfl, rfl, ?_⟩
      refine ⟨_, rfl, _, _, rfl, rfl, decide (0 ≤ p), rfl, ?_⟩
      by_cases h0 : 0 ≤ p
      · rw [decide_eq_true h0]
        refine iteT ⟨_, rfl, _, _, rfl, rfl, kk _ _ (Same.new hn) ?_⟩
        show V.bl (decide (p < n)) = V.bl _
        rw [getD_at hp, getD_at hn']
        exact congrArg V.bl (decide_eq_decide.mpr ⟨fun h => ⟨h0, h⟩, fun h => h.2⟩)
      · rw [decide_eq_false h0]
        refine iteF (kk _ _ (Same.new hn) ?_)
        show V.bl false = V.bl _
        rw [getD_at hp, getD_at hn', decide_eq_false (fun h => h0 h.1)]
    · intro H2 acc s2 e2 p2
      have eb : ∀ {xs : List V} {bs : List Bool}, Paired (fun v b => v = V.bl b) xs bs → xs = bs.map V.bl := fun h => by
        induction h with
        | nil => rfl
        | cons r _ ih => rw [r, ih]; rfl
      rw [eb p2] at e2
      refine ⟨D, _, rfl, SqL.of e2, q _ _ (s1.trans s2) ?_⟩
      rw [← inP_all (by omega), List.all_eq_true]
      constructor
      · intro h i p n e1 e3
        have := h (decide (0 ≤ ps.getD i 0 ∧ ps.getD i 0 < ls.getD i 0)) (List.mem_map.mpr ⟨i, List.mem_range.mpr (List.getElem?_eq_some_iff.mp e1).1, rfl⟩)
        rw [getD_at e1, getD_at e3] at this
        exact of_decide_eq_true this
      · intro h b hb
        obtain ⟨i, hi, rfl⟩ := List.mem_map.mp hb
        have hi' := List.mem_range.mp hi
        have e1 : ps[i]? = some ps[i] := List.getElem?_eq_getElem hi'
        have e3 : ls[i]? = some (ls[i]'(by omega)) := List.getElem?_eq_getElem _
        rw [getD_at e1, getD_at e3]
        exact decide_eq_true (h i _ _ e1 e3)
end
section
variable {P : Program} {w : World} {K : PySem.W.Frag} {mg : Str → Option Value} {base : Heap}
def sp_is_number_below : Sp := fun vs H Q _ => ∃ i n : Int, vs = [.int i, .int n] ∧ Q (.bl (decide (0 ≤ i ∧ i < n))) H
abbrev N_is_number_below : List Str := ["thing", "many"]
theorem sc_is_number_below : FnScope N_is_number_below ["thing", "many"] (defScope s_is_number_below) := ⟨rfl, rfl, rfl, by decide +kernel, rfl, by decide +kernel, by decide +kernel⟩
theorem ok_is_number_below (T : Txt K mg) : GF P w K mg base 2 "is_number_below" ["thing", "many"] sp_is_number_below := by
  have nd := sc_is_number_below.nd
  refine gf_of T (d := d_is_number_below) (x := "is_number_below") rfl rfl rfl (i := 49) rfl (by decide +kernel) sc_is_number_below (fun _ _ _ _ _ _ us hl => match us, hl with | [_, _], _ => rfl) (fun vs H Q E h => ?_) (fun cdv A outer s H vs Q E hr h => ?_)
  · obtain ⟨i, n, rfl, _⟩ := h; rfl
  · refine ⟨_, (pss_one (ps_ret (pe_and (pe_callG (ok_is_whole T) (hr.mono (by decide)) rfl (pa_cons (pv 0) pa_nil)) (pe_one (pe_chain op_le op_lt pe_int (pv 0) (pv 1)))))), ?_⟩
    obtain ⟨i, n, rfl, q⟩ := h
    refine ⟨_, rfl, i, rfl, true, rfl, iteT ⟨_, rfl, _, _, rfl, rfl, decide (0 ≤ i), rfl, ?_⟩⟩
    by_cases h0 : 0 ≤ i
    · rw [decide_eq_true h0]
      refine iteT ⟨_, rfl, _, _, rfl, rfl, ?_⟩
      rw [show decide (0 ≤ i ∧ i < n) = decide (i < n) from decide_eq_decide.mpr ⟨fun h => h.2, fun h => ⟨h0, h⟩⟩] at q
      exact q
    · rw [decide_eq_false h0]
      rw [decide_eq_false (fun h => h0 h.1)] at q
      exact iteF q
end
section
variable {P : Program} {w : World} {K : PySem.W.Frag} {mg : Str → Option Value} {base : Heap}
def sp_cut_of (K : PySem.W.Frag) : Sp := fun vs H Q _ => ∃ u b, ∃ s a : Int, vs = [u, .int s, .int a] ∧ BoxR H u b ∧ b.length ≤ 5 ∧ ∀ w H', Same H H' → OptR (TwoR BoxR) H' w (cutB b s a) → Q w H'
abbrev N_cut_of : List Str := ["box", "side", "at", "low", "high"]
theorem sc_cut_of : FnScope N_cut_of ["box", "side", "at"] (defScope s_cut_of) := ⟨rfl, rfl, rfl, by decide +kernel, rfl, by decide +kernel, by decide +kernel⟩
theorem ok_cut_of (T : Txt K mg) : GF P w K mg base 3 "cut_of" ["box", "side", "at"] (sp_cut_of K) := by
  have nd := sc_cut_of.nd
  refine gf_of T (d := d_cut_of) (x := "cut_of") rfl rfl rfl (i := 51) rfl (by decide +kernel) sc_cut_of (fun _ _ _ _ _ _ us hl => match us, hl with | [_, _, _], _ => rfl) (fun vs H Q E h => ?_) (fun cdv A outer s H vs Q E hr h => ?_)
  · obtain ⟨u, b, s, a, rfl, _⟩ := h; rfl
  · refine ⟨_, (pss_cons (ps_if (PW.pt (pw_or (pt_not (pt_val (pe_callG (ok_is_number_below T) (hr.mono (by decide)) rfl (pa_cons (pv 1) (pa_cons (pe_callB call_len_seq rfl (T.free "len") boot_len (pa_cons (pv 0) pa_nil)) pa_nil))))) (pw_or1 (pt_not (pt_val (pe_callG (ok_is_whole T) (hr.mono (by decide)) rfl (pa_cons (pv 2) pa_nil))))))) (pss_one (ps_ret pe_non)) pss_nil)
      (pss_cons (ps_asg (pe_ix ix_tup (pv 0) (pv 1) (fun _ _ => rfl)) (pg_tup rfl (pgs_cons (pg_name (i := 3) nd rfl (Or.inl rfl)) (pgs_cons (pg_name (i := 4) nd rfl (Or.inl rfl)) pgs_nil))))
      (pss_cons (ps_if (pt_not (pt_chain op_lt op_lt (pv 3) (pv 2) (pv 4))) (pss_one (ps_ret pe_non)) pss_nil)
      (pss_one (ps_ret (pe_callG (ok_halves_of T) (hr.mono (by decide)) rfl (pa_cons (pv 0) (pa_cons (pv 1) (pa_cons (pv 2) pa_nil))))))))), ?_⟩
    obtain ⟨u, b, s0, a, rfl, hb, hf, q⟩ := h
    obtain ⟨c, vs, rfl, hc, hp⟩ := id hb
    have hlen := Paired.len hp
    refine ⟨_, rfl, _, rfl, c, _, rfl, .inr (SqT.of hc), s0, vs.length, rfl, _, rfl, ?_⟩
    by_cases h1 : 0 ≤ s0 ∧ s0 < (vs.length : Int)
    case neg =>
      rw [decide_eq_false h1]
      refine iteT (iteT (q _ _ (Same.refl _) ?_))
      have : cutB b s0 a = none := by
        unfold cutB; rw [if_neg (by rw [← hlen]; exact h1)]
      rw [this]; rfl
    rw [decide_eq_true h1]
    refine iteF ⟨_, rfl, a, rfl, true, rfl, iteF ?_⟩
    obtain ⟨i, rfl⟩ : ∃ i : Nat, s0 = i := ⟨s0.toNat, (Int.toNat_of_nonneg h1.1).symm⟩
    have hil : i < b.length := by omega
    have hi : b[i]? = some b[i] := List.getElem?_eq_getElem hil
    generalize b[i] = lh at hi
    obtain ⟨l, u⟩ := lh
    obtain ⟨x1, hx1, pa, rfl, hpa⟩ := Paired.get' hp hi
    refine ⟨_, rfl, _, rfl, c, _, _, _, rfl, rfl, SqT.of hc, at_of (j := i) (v := .ref pa) rfl hx1, pa, _, rfl, SqT.of hpa, rfl, _, _, rfl, _, _, rfl, rfl, ?_⟩
    refine ⟨_, rfl, _, rfl, _, _, rfl, rfl, decide (l < a), rfl, ?_⟩
    have hcut : cutB b i a = if l < a ∧ a < u then some (b.set i (l, a), b.set i (a, u)) else none := by
      unfold cutB
      rw [if_pos ⟨by omega, by omega⟩, Int.toNat_natCast, hi]
    by_cases g1 : l < a
    case neg =>
      rw [decide_eq_false g1]
      refine iteF ⟨_, rfl, iteT (q _ _ (Same.refl _) ?_)⟩
      rw [hcut, if_neg (fun h => g1 h.1)]; rfl
    rw [decide_eq_true g1]
    refine iteT ⟨_, rfl, _, _, rfl, rfl, decide (a < u), rfl, ?_⟩
    by_cases g2 : a < u
    case neg =>
      rw [decide_eq_false g2]
      refine iteT (q _ _ (Same.refl _) ?_)
      rw [hcut, if_neg (fun h => g2 h.2)]; rfl
    rw [decide_eq_true g2]
    refine iteF ⟨_, rfl, _, rfl, _, rfl, _, b, i, a, l, u, rfl, hb, hf, hi, fun w H' s' hw => q w H' s' ?_⟩
    rw [hcut, if_pos ⟨g1, g2⟩]; exact hw
end
section
variable {P : Program} {w : World} {K : PySem.W.Frag} {mg : Str → Option Value} {base : Heap}
def sp_are_later : Sp := fun vs H Q _ => ∃ (l r at_ : Int) (d : Addr) (α : Type) (R : Rep α) (kvs : List (Key × V)) (met : List (Int × α)), vs = [.int l, .int r, .int at_, .ref d] ∧ H d = some (.dK kvs) ∧ Paired (DRel R H) kvs met ∧ Q (.bl (laterB l r at_ met)) H
abbrev N_are_later : List Str := ["left", "right", "at", "met"]
theorem sc_are_later : FnScope N_are_later ["left", "right", "at", "met"] (defScope s_are_later) := ⟨rfl, rfl, rfl, by decide +kernel, rfl, by decide +kernel, by decide +kernel⟩
theorem ok_are_later (T : Txt K mg) : GF P w K mg base 2 "are_later" ["left", "right", "at", "met"] sp_are_later := by
  have nd := sc_are_later.nd
  refine gf_of T (d := d_are_later) (x := "are_later") rfl rfl rfl (i := 52) rfl (by decide +kernel) sc_are_later (fun _ _ _ _ _ _ us hl => match us, hl with | [_, _, _, _], _ => rfl) (fun vs H Q E h => ?_) (fun cdv A outer s H vs Q E hr h => ?_)
  · obtain ⟨l, r, at_, d, α, R, kvs, met, rfl, _⟩ := h; rfl
  · refine ⟨_, (pss_cons (ps_if (PW.pt (pw_or (pt_not (pt_val (pe_callG (ok_is_whole T) (hr.mono (by decide)) rfl (pa_cons (pv 0) pa_nil)))) (pw_or (pt_not (pt_val (pe_callG (ok_is_whole T) (hr.mono (by decide)) rfl (pa_cons (pv 1) pa_nil)))) (pw_or1 (pt_cmpR op_eq (pv 0) (pv 1) (nomark _)))))) (pss_one (ps_ret pe_bl)) pss_nil)
      (pss_one (ps_ret (pe_and (pe_cmpR op_lt (pv 2) (pe_callB (call_min2 rfl) rfl (T.free "min") (by decide +kernel) (pa_cons (pv 0) (pa_cons (pv 1) pa_nil))) (nomark _)) (pe_and (pe_cmp (pc_dnotin (hu_of hr) (pv 0) (pv 3)) rfl) (pe_one (pe_cmp (pc_dnotin (hu_of hr) (pv 1) (pv 3)) rfl))))))), ?_⟩
    obtain ⟨l, r, at_, d, α, R, kvs, met, rfl, hd, hp, q⟩ := h
    have gk : ∀ k : Int, (valV kvs (.inl k)).isSome = (met.lookup k).isSome := fun k => by
      obtain ⟨n1, n2⟩ := dr_get (k := k) hp
      cases e : met.lookup k with
      | none => rw [n1 e]; rfl
      | some p => obtain ⟨v, hv, _⟩ := n2 p e; rw [hv]; rfl
    refine ⟨_, rfl, l, rfl, true, rfl, iteF ⟨_, rfl, r, rfl, true, rfl, iteF ⟨_, rfl, _, rfl, rfl, _, rfl, ?_⟩⟩⟩
    rw [dec_int]
    unfold laterB at q
    by_cases h0 : l = r
    · rw [beq_iff_eq.mpr h0]
      rw [decide_eq_false (fun h => h h0), Bool.false_and] at q
      exact iteT q
    rw [beq_eq_false_iff_ne.mpr h0]
    rw [decide_eq_true h0, Bool.true_and] at q
    refine iteF ⟨_, rfl, _, rfl, _, rfl, _, _, rfl, _, _, rfl, rfl, decide (at_ < (if r < l then r else l)), rfl, ?_⟩
    have e1 : decide (at_ < (if r < l then r else l)) = decide (at_ < l ∧ at_ < r) := decide_eq_decide.mpr (by split <;> omega)
    rw [e1]
    by_cases h1 : at_ < l ∧ at_ < r
    case neg =>
      rw [decide_eq_false h1] at q ⊢
      rw [Bool.false_and] at q
      exact iteF q
    rw [decide_eq_true h1] at q ⊢
    rw [Bool.true_and] at q
    refine iteT ⟨_, rfl, _, rfl, d, _, rfl, .inl ⟨kvs, .inl l, .inl hd, rfl, rfl⟩, _, rfl, ?_⟩
    rw [gk]
    cases e2 : met.lookup l with
    | some p =>
      rw [e2] at q
      exact iteF q
    | none =>
    rw [e2] at q
    refine iteT ⟨_, rfl, _, rfl, d, _, rfl, .inl ⟨kvs, .inl r, .inl hd, rfl, rfl⟩, ?_⟩
    rw [gk]
    cases e3 : met.lookup r with
    | some p => rw [e3] at q; exact q
    | none => rw [e3] at q; exact q
    
end
end Vg

namespace Vg
open PySem PySem.Spec PyProof.Rows L2 RZ RT
theorem all_range {ns : List Int} (f : Int → Bool) : ((List.range ns.length).map fun i => f (ns.getD i 0)).all id = ns.all f := by
  have e : ns = (List.range ns.length).map fun i => ns.getD i 0 := (range_getD ns).symm
  conv => rhs; rw [e]
  rw [List.all_map, List.all_map]; rfl
section
variable {P : Program} {w : World} {K : PySem.W.Frag} {mg : Str → Option Value} {base : Heap}
def sp_leaf_right (K : PySem.W.Frag) : Sp := fun vs H Q _ => ∃ v u w x y b c row, vs = [v, u, w] ∧ TwoR (VwR K) H v (x, y) ∧ VOK x ∧ VOK y ∧ RmOk K H x.room ∧ RmOk K H y.room ∧ TwoR BoxR H u (b, c) ∧ BB x.ls.length b ∧ BB y.ls.length c ∧ RowR H w row ∧ (∀ a1 a2 a3 a4 a5, row ≠ .split a1 a2 a3 a4 a5) ∧
  ∀ H', Same H H' → Q (.bl (leafB x y b c row)) H'
abbrev N_leaf_right : List Str := ["views", "boxes", "row", "bare", "least", "greatest", "low", "high", "view", "box", "strides", "stride", "apart"]
theorem sc_leaf_right : FnScope N_leaf_right ["views", "boxes", "row"] (defScope s_leaf_right) := ⟨rfl, rfl, rfl, by decide +kernel, rfl, by decide +kernel, by decide +kernel⟩
theorem ok_leaf_right (T : Txt K mg) : GF P w K mg base 4 "leaf_right" ["views", "boxes", "row"] (sp_leaf_right K) := by
  have nd := sc_leaf_right.nd
  refine gf_of T (d := d_leaf_right) (x := "leaf_right") rfl rfl rfl (i := 50) rfl (by decide +kernel) sc_leaf_right (fun _ _ _ _ _ _ us hl => match us, hl with | [_, _, _], _ => rfl) (fun vs H Q E h => ?_) (fun cdv A outer s H vs Q E hr h => ?_)
  · obtain ⟨v, u, w, x, y, b, c, row, rfl, _⟩ := h; rfl
  · refine ⟨_, (pss_cons (ps_if (pt_val (pe_callG (ok_is_so T) (hr.mono (by decide)) rfl (pa_cons (pv 2) (pa_cons pe_str (pa_cons pe_int pa_nil))))) (pss_one (ps_ret (pe_cmpR (op_NeRoom T (hu_of hr)) (pe_methG0 (ok_View_room T) (hr.mono (by decide)) (pe_ix ix_tup (pv 0) pe_int (fun _ _ => rfl))) (pe_methG0 (ok_View_room T) (hr.mono (by decide)) (pe_ix ix_tup (pv 0) pe_int (fun _ _ => rfl))) (nomark _)))) pss_nil)
      (pss_cons (ps_set (i := 3) nd rfl (Or.inl rfl) (pe_or (pe_callG (ok_is_bare T) (hr.mono (by decide)) rfl (pa_cons (pe_ix ix_tup (pv 1) pe_int (fun _ _ => rfl)) pa_nil)) (pe_one (pe_callG (ok_is_bare T) (hr.mono (by decide)) rfl (pa_cons (pe_ix ix_tup (pv 1) pe_int (fun _ _ => rfl)) pa_nil)))))
      (pss_cons (ps_if (pt_val (pe_callG (ok_is_so T) (hr.mono (by decide)) rfl (pa_cons (pv 2) (pa_cons pe_str (pa_cons pe_int pa_nil))))) (pss_one (ps_ret (pv 3))) pss_nil)
      (pss_cons (ps_if (pt_val (pv 3)) (pss_one (ps_ret pe_bl)) pss_nil)
      (pss_cons (ps_if (pt_val (pe_callG (ok_is_so T) (hr.mono (by decide)) rfl (pa_cons (pv 2) (pa_cons pe_str (pa_cons pe_int pa_nil))))) (pss_cons (ps_asg (pe_lc (own := [("view", 8), ("box", 9)]) (g := (gTup K 2 (gCons (gName 8) (gCons (gName 9) gNil)))) (tt := tYes) rfl nd (pi_zipA rfl (T.free "zip") (pa_cons (pv 0) (pa_cons (pv 1) pa_nil))) (blkOk_by (N := N_leaf_right) (sc := defScope s_leaf_right) (by decide +kernel)) (fun _ _ _ _ _ => (pg_tup rfl (pgs_cons (pg_name (i := 8) nd rfl (Or.inl rfl)) (pgs_cons (pg_name (i := 9) nd rfl (Or.inl rfl)) pgs_nil)))) (fun _ _ _ _ _ => pts_nil) (fun _ _ _ _ _ => (pe_callG (ok_span_of T) (hr.mono (by decide)) rfl (pa_cons (pv 8) (pa_cons (pv 9) pa_nil))))) (pg_unl rfl (pgs_cons (pg_tup rfl (pgs_cons (pg_name (i := 4) nd rfl (Or.inl rfl)) (pgs_cons (pg_name (i := 5) nd rfl (Or.inl rfl)) pgs_nil))) (pgs_cons (pg_tup rfl (pgs_cons (pg_name (i := 6) nd rfl (Or.inl rfl)) (pgs_cons (pg_name (i := 7) nd rfl (Or.inl rfl)) pgs_nil))) pgs_nil))))
      (pss_one (ps_ret (pe_or (pe_cmpR op_lt (pv 5) (pv 6) (nomark _)) (pe_one (pe_cmpR op_lt (pv 7) (pv 4) (nomark _))))))) pss_nil)
      (pss_cons (ps_if (PW.pt (pw_or (pt_not (pt_val (pe_callG (ok_is_so T) (hr.mono (by decide)) rfl (pa_cons (pv 2) (pa_cons pe_str (pa_cons pe_int pa_nil)))))) (pw_or (pt_not (pt_val (pe_callG (ok_is_whole T) (hr.mono (by decide)) rfl (pa_cons (pe_ix ix_tup (pv 2) pe_int (fun _ _ => rfl)) pa_nil)))) (pw_or1 (pt_cmpR op_lt (pe_ix ix_tup (pv 2) pe_int (fun _ _ => rfl)) pe_int (nomark _)))))) (pss_one (ps_ret pe_bl)) pss_nil)
      (pss_cons (ps_setLc2 (i := 10) (own := [("view", 8), ("box", 9), ("stride", 11)]) (vs1 := [11]) (g := (gTup K 2 (gCons (gName 8) (gCons (gName 9) gNil)))) (g1 := (gName 11)) (tt := tYes) (tt1 := tYes) rfl nd rfl rfl (sw_true rfl rfl rfl (by decide +kernel)) (pi_zipA rfl (T.free "zip") (pa_cons (pv 0) (pa_cons (pv 1) pa_nil))) (blkOk_by (N := N_leaf_right) (sc := defScope s_leaf_right) (by decide +kernel)) (by decide) (fun _ _ _ _ _ => (pg_tup rfl (pgs_cons (pg_name (i := 8) nd rfl (Or.inl rfl)) (pgs_cons (pg_name (i := 9) nd rfl (Or.inl rfl)) pgs_nil)))) (fun _ _ _ _ _ => pts_nil) (fun _ _ _ _ _ => ((pi_listK K) (pe_callG (ok_strides_within T) (hr.mono (by decide)) rfl (pa_cons (pv 8) (pa_cons (pv 9) pa_nil))))) (fun _ _ _ _ _ => (pg_name (i := 11) nd rfl (Or.inl rfl))) (fun _ _ _ _ _ => pts_nil) (fun _ _ _ _ _ => (pv 11)))
      (pss_cons (ps_set (i := 12) nd rfl (Or.inl rfl) (pe_op op_sub (pe_callG (ok_first_cell T) (hr.mono (by decide)) rfl (pa_cons (pe_ix ix_tup (pv 0) pe_int (fun _ _ => rfl)) (pa_cons (pe_ix ix_tup (pv 1) pe_int (fun _ _ => rfl)) pa_nil))) (pe_callG (ok_first_cell T) (hr.mono (by decide)) rfl (pa_cons (pe_ix ix_tup (pv 0) pe_int (fun _ _ => rfl)) (pa_cons (pe_ix ix_tup (pv 1) pe_int (fun _ _ => rfl)) pa_nil)))))
      (pss_one (ps_ret (pe_and (pe_callB (cr_all rfl) rfl (T.free "all") (by decide +kernel) (pa_cons (pe_lc (own := [("stride", 11)]) (g := (gName 11)) (tt := tYes) rfl nd (pi_list (pv 10)) (blkOk_by (N := N_leaf_right) (sc := defScope s_leaf_right) (by decide +kernel)) (fun _ _ _ _ _ => (pg_name (i := 11) nd rfl (Or.inl rfl))) (fun _ _ _ _ _ => pts_nil) (fun _ _ _ _ _ => (pe_cmpR op_eq (pe_op op_mod (pv 11) (pe_ix (ix_tupK K) (pv 2) pe_int (fun _ _ => rfl))) pe_int (nomark _)))) pa_nil)) (pe_one (pe_cmpR op_ne (pe_op op_mod (pv 12) (pe_ix ix_tup (pv 2) pe_int (fun _ _ => rfl))) pe_int (nomark _)))))))))))))), ?_⟩
    obtain ⟨v, u, w, x, y, b, c, row, rfl, ⟨va, v1, v2, rfl, hva, hx, hy⟩, hOx, hOy, ⟨rx, gx, hrx⟩, ⟨ry, gy, hry⟩, ⟨ua, u1, u2, rfl, hua, hb, hc⟩, hBb, hBc, ⟨ra, rfl, hra⟩, hns, q⟩ := h
    have fx := hOx.lens.few
    have fy := hOy.lens.few
    -- both boxes are asked whether they are bare
    have bare : ∀ (k : V → Hp → Prop), (∀ H2, Same H H2 → k (.bl (bareB b || bareB c)) H2) → tOrV (tCall sp_is_bare [] E0 (tCons (tOp (rIxT K) (tVar 1) (tC (.int 0))) tNil)) (tCall sp_is_bare [] E0 (tCons (tOp (rIxT K) (tVar 1) (tC (.int 1))) tNil)) (start N_leaf_right [.ref va, .ref ua, .ref ra]) H k := fun k hk => by
      refine ⟨_, rfl, ua, _, _, _, rfl, rfl, SqT.of hua, at_of (j := 0) (v := u1) rfl rfl, u1, b, rfl, hb, by rw [hBb.len]; exact fx, fun H1 s1 => ⟨bareB b, rfl, ?_⟩⟩
      cases eb : bareB b with
      | true =>
        refine iteT ?_
        have := hk H1 s1
        rw [eb] at this; exact this
      | false =>
        refine iteF ⟨_, rfl, ua, _, _, _, rfl, rfl, SqT.of (s1 _ _ hua), at_of (j := 1) (v := u2) rfl rfl, u2, c, rfl, mon_box.up (K := K) (.of s1) hc, by rw [hBc.len]; exact fy, fun H2 s2 => ?_⟩
        have := hk H2 (s1.trans s2)
        rw [eb] at this; exact this
    match row, hra, hns, q with
    | .split a1 a2 a3 a4 a5, _, hns, _ => exact absurd rfl (hns a1 a2 a3 a4 a5)
    | .rooms, hra, _, q =>
      refine ⟨_, rfl, ra, "rooms", "rooms", [], 1, 1, rfl, hra, rfl, true, congrArg V.bl (by decide +kernel), iteT ?_⟩
      obtain ⟨a1, d1, l1, s1, rfl, g1, g2, g3⟩ := id hx
      obtain ⟨a2, d2, l2, s2, rfl, k1, k2, k3⟩ := id hy
      refine ⟨_, rfl, va, _, _, _, rfl, rfl, SqT.of hva, at_of (j := 0) (v := .ref a1) rfl rfl, a1, d1, _, rfl, g1, rfl, _, x, rfl, hx, _, rfl, va, _, _, _, rfl, rfl, SqT.of hva, at_of (j := 1) (v := .ref a2) rfl rfl, a2, d2, _, rfl, k1, rfl, _, y, rfl, hy, x.room, y.room, rx, ry, gx, gy, rfl, rfl, hrx, hry, ?_⟩
      have e : leafB x y b c .rooms = !decide (x.room = y.room) := by
        show decide (x.room ≠ y.room) = _
        exact decide_not
      rw [← e]
      exact q H (Same.refl H)
    | .bare, hra, _, q =>
      refine ⟨_, rfl, ra, "none", "rooms", [], 1, 1, rfl, hra, rfl, false, congrArg V.bl (by decide +kernel), iteF (bare _ fun H2 s02 => ?_)⟩
      refine ⟨_, rfl, ra, "none", "none", [], 1, 1, rfl, s02 _ _ hra, rfl, true, congrArg V.bl (by decide +kernel), iteT ⟨_, rfl, q H2 s02⟩⟩
    | .far, hra, _, q =>
      refine ⟨_, rfl, ra, "far", "rooms", [], 1, 1, rfl, hra, rfl, false, congrArg V.bl (by decide +kernel), iteF (bare _ fun H2 s02 => ?_)⟩
      refine ⟨_, rfl, ra, "far", "none", [], 1, 1, rfl, s02 _ _ hra, rfl, false, congrArg V.bl (by decide +kernel), iteF ⟨_, rfl, _, rfl, ?_⟩⟩
      have eL : leafB x y b c .far = (!(bareB b || bareB c) && decide (farB x y b c)) := rfl
      rw [eL] at q
      by_cases ebb : (bareB b || bareB c) = true
      · rw [ebb] at q ⊢
        exact iteT (q H2 s02)
      have ebf : (bareB b || bareB c) = false := by simpa using ebb
      rw [ebf] at q ⊢
      refine iteF ⟨_, rfl, ra, "far", "far", [], 1, 1, rfl, s02 _ _ hra, rfl, true, congrArg V.bl (by decide +kernel), ?_⟩
      refine iteT ⟨_, rfl, _, rfl, va, ua, _, _, rfl, .inr ⟨SqT.of (s02 _ _ hva), SqT.of (s02 _ _ hua), fun D hD => ?_⟩⟩
      refine lc_map (K := K) (R := PairR) (walk_zipT (n := 2) (xs := [v1, v2]) (ys := [u1, u2]) rfl) mon_pair (fun i => (spLo (if i = 0 then x else y).b (if i = 0 then x else y).ss (if i = 0 then b else c), spHi (if i = 0 then x else y).b (if i = 0 then x else y).ss (if i = 0 then b else c))) (by decide) hD (fun H' s' => ⟨SqT.of (s' _ _ (s02 _ _ hva)), SqT.of (s' _ _ (s02 _ _ hua))⟩) ?_ ?_
      · rintro i z H3 H4 Kk hi s3 ⟨t, x1, x2, rfl, hn, rfl, e1, e2⟩ kk
        have s03 := s02.trans s3
        have s04 := s03.trans (Same.new (o := .tup [x1, x2]) hn)
        refine ⟨t, _, rfl, SqT.of upd_same, rfl, _, _, rfl, _, _, rfl, rfl, rfl, ?_⟩
        refine ⟨_, rfl, _, rfl, _, (if i = 0 then x else y), _, (if i = 0 then b else c), rfl, mon_vw.up (.of s04) (two_get hx hy e1), ?_, mon_box.up (K := K) (.of s04) (two_get hb hc e2), ?_, fun w H5 s5 hw => kk _ _ ((Same.new hn).trans s5) hw⟩
        · split <;> assumption
        · split <;> assumption
      intro H3 acc s3 e3 p3
      have s03 := s02.trans s3
      have p3' : Paired (PairR H3) acc [(spLo x.b x.ss b, spHi x.b x.ss b), (spLo y.b y.ss c, spHi y.b y.ss c)] := p3
      match acc, p3' with
      | [w1, w2], .cons ⟨p1, ew1, hp1⟩ (.cons ⟨p2, ew2, hp2⟩ .nil) =>
      subst ew1 ew2
      refine ⟨D, _, rfl, SqL.of e3, rfl, _, _, rfl, p1, _, rfl, SqT.of hp1, rfl, _, _, rfl, _, _, rfl, rfl, _, _, rfl, p2, _, rfl, SqT.of hp2, rfl, _, _, rfl, _, _, rfl, rfl, rfl, ?_⟩
      refine ⟨_, rfl, _, rfl, _, _, rfl, rfl, decide (spHi x.b x.ss b < spLo y.b y.ss c), rfl, ?_⟩
      have q3 := q H3 s03
      rw [Bool.not_false, Bool.true_and] at q3
      by_cases f1 : spHi x.b x.ss b < spLo y.b y.ss c
      · rw [decide_eq_true f1]
        rw [decide_eq_true (show farB x y b c from .inl f1)] at q3
        exact iteT q3
      · rw [decide_eq_false f1]
        refine iteF ⟨_, rfl, _, rfl, _, _, rfl, rfl, ?_⟩
        rw [show decide (farB x y b c) = decide (spHi y.b y.ss c < spLo x.b x.ss b) from decide_eq_decide.mpr ⟨fun h => h.resolve_left f1, fun h => .inr h⟩] at q3
        exact q3
    | .rests d, hra, _, q =>
      refine ⟨_, rfl, ra, "rests", "rooms", [.int d], 2, 1, rfl, hra, rfl, false, congrArg V.bl (by decide +kernel), iteF (bare _ fun H2 s02 => ?_)⟩
      refine ⟨_, rfl, ra, "rests", "none", [.int d], 2, 1, rfl, s02 _ _ hra, rfl, false, congrArg V.bl (by decide +kernel), iteF ⟨_, rfl, _, rfl, ?_⟩⟩
      have eL : leafB x y b c (.rests d) = (!(bareB b || bareB c) && (decide (2 ≤ d) && ((within x.ss b ++ within y.ss c).all (fun s => s % d == 0) && (apart x y b c % d != 0)))) := rfl
      rw [eL] at q
      by_cases ebb : (bareB b || bareB c) = true
      · rw [ebb] at q ⊢
        exact iteT (q H2 s02)
      have ebf : (bareB b || bareB c) = false := by simpa using ebb
      rw [ebf] at q ⊢
      rw [Bool.not_false, Bool.true_and] at q
      refine iteF ⟨_, rfl, ra, "rests", "far", [.int d], 2, 1, rfl, s02 _ _ hra, rfl, false, congrArg V.bl (by decide +kernel), iteF ?_⟩
      refine ⟨_, rfl, ra, "rests", "rests", [.int d], 2, 2, rfl, s02 _ _ hra, rfl, true, congrArg V.bl (by decide +kernel), iteF ⟨_, rfl, ra, _, _, _, rfl, rfl, SqT.of (s02 _ _ hra), at_of (j := 1) (v := .int d) rfl rfl, d, rfl, true, rfl, iteF ⟨_, rfl, ra, _, _, _, rfl, rfl, SqT.of (s02 _ _ hra), at_of (j := 1) (v := .int d) rfl rfl, _, _, rfl, rfl, decide (d < 2), rfl, ?_⟩⟩⟩
      by_cases hd : d < 2
      · rw [decide_eq_true hd]
        rw [decide_eq_false (show ¬ 2 ≤ d by omega)] at q
        exact iteT (q H2 s02)
      rw [decide_eq_false hd]
      rw [decide_eq_true (show 2 ≤ d by omega), Bool.true_and] at q
      refine iteF ?_
      refine ⟨_, rfl, _, rfl, va, ua, _, _, rfl, .inr ⟨SqT.of (s02 _ _ hva), SqT.of (s02 _ _ hua), fun D2 hD2 => ?_⟩⟩
      refine lc2_it (walk_zipT (n := 2) (xs := [v1, v2]) (ys := [u1, u2]) rfl) (fun i H' => Same H2 H' ∧ H' D2 = some (.lst (((List.range i).flatMap fun j => within (if j = 0 then x else y).ss (if j = 0 then b else c)).map V.int))) ⟨Same.new hD2, upd_same⟩ (fun i H' _ p => ⟨SqT.of (p.1 _ _ (s02 _ _ hva)), SqT.of (p.1 _ _ (s02 _ _ hua))⟩) ?_ ?_
      · rintro i z H4 H5 hi ⟨s4, e4⟩ ⟨t, x1, x2, rfl, hn, rfl, e1, e2⟩
        have s04 := s02.trans s4
        have s05 := s04.trans (Same.new (o := .tup [x1, x2]) hn)
        refine ⟨t, _, rfl, SqT.of upd_same, rfl, _, _, rfl, _, _, rfl, rfl, rfl, ?_⟩
        have hO' : VOK (if i = 0 then x else y) := by split <;> assumption
        have hB' : BB (if i = 0 then x else y).ls.length (if i = 0 then b else c) := by split <;> assumption
        refine ⟨_, rfl, _, rfl, _, (if i = 0 then x else y), _, (if i = 0 then b else c), rfl, mon_vw.up (.of s05) (two_get hx hy e1), hO', mon_box.up (K := K) (.of s05) (two_get hb hc e2), hB', fun l H6 f6 s6 e6 => ?_⟩
        have s46 := (Same.new (o := .tup [x1, x2]) hn).trans s6
        have nl : l ≠ D2 := by
          intro e
          have := (Same.new (o := .tup [x1, x2]) hn) _ _ e4
          rw [e] at f6
          rw [f6] at this; cases this
        have hlw : ∀ k, (within (if k = 0 then x else y).ss (if k = 0 then b else c)).length ≤ 5 := fun k => by
          refine Nat.le_trans within_len ?_
          split
          · rw [hBb.len]; exact fx
          · rw [hBc.len]; exact fy
        have hpre : ((List.range i).flatMap fun j => within (if j = 0 then x else y).ss (if j = 0 then b else c)).length ≤ 10 := by
          match i, hi with
          | 0, _ => simp
          | 1, _ =>
            have := hlw 0
            simp [List.range_succ] at this ⊢; omega
        refine ⟨l, rfl, ⟨_, SqL.of e6⟩, lc2_by walk_list (fun j H' => Same H2 H' ∧ H' l = some (.lst ((within (if i = 0 then x else y).ss (if i = 0 then b else c)).map V.int)) ∧
          H' D2 = some (.lst ((((List.range i).flatMap fun j => within (if j = 0 then x else y).ss (if j = 0 then b else c)) ++ (within (if i = 0 then x else y).ss (if i = 0 then b else c)).take j).map V.int)))
          ⟨s4.trans s46, e6, by rw [List.take_zero, List.append_nil]; exact s46 _ _ e4⟩ (fun j H' _ p => SqL.of p.2.1) ?_ ?_⟩
        · rintro j z H9 H7 hj ⟨s7, g1, g2⟩ ⟨rfl, hz⟩
          obtain ⟨st, hst, rfl⟩ := map_at hz
          refine ⟨rfl, _, rfl, _, g2, ?_, Same.mut s7 hD2, by rw [upd_ne nl]; exact g1, ?_⟩
          · rw [List.length_map, List.length_append, List.length_take, sizeLine_eq]
            have := hlw i
            omega
          · rw [upd_same, take_snoc hst]; simp
        · rintro H7 ⟨s7, g1, g2⟩
          refine ⟨s7, ?_⟩
          rw [g2, List.length_map, List.take_length, List.range_succ, List.flatMap_append]; simp
      rintro H4 ⟨s4, e4⟩
      have s04 := s02.trans s4
      have ew : ((List.range 2).flatMap fun j => within (if j = 0 then x else y).ss (if j = 0 then b else c)) = within x.ss b ++ within y.ss c := by simp [List.range_succ]
      rw [ew] at e4
      refine ⟨_, rfl, va, _, _, _, rfl, rfl, SqT.of (s04 _ _ hva), at_of (j := 0) (v := v1) rfl rfl, _, rfl, ua, _, _, _, rfl, rfl, SqT.of (s04 _ _ hua), at_of (j := 0) (v := u1) rfl rfl, v1, x, u1, b, rfl, mon_vw.up (.of s04) hx, hOx, mon_box.up (K := K) (.of s04) hb, hBb, fun H5 s5 => ?_⟩
      have s05 := s04.trans s5
      refine ⟨_, rfl, va, _, _, _, rfl, rfl, SqT.of (s05 _ _ hva), at_of (j := 1) (v := v2) rfl rfl, _, rfl, ua, _, _, _, rfl, rfl, SqT.of (s05 _ _ hua), at_of (j := 1) (v := u2) rfl rfl, v2, y, u2, c, rfl, mon_vw.up (.of s05) hy, hOy, mon_box.up (K := K) (.of s05) hc, hBc, fun H6 s6 => ?_⟩
      have s06 := s05.trans s6
      have e6 := s6 _ _ (s5 _ _ e4)
      refine ⟨_, _, rfl, rfl, ?_⟩
      have nlen : (within x.ss b ++ within y.ss c).length ≤ 1000 := by
        have h1 := within_len (ss := x.ss) (box := b)
        have h2 := within_len (ss := y.ss) (box := c)
        rw [hBb.len] at h1; rw [hBc.len] at h2
        rw [List.length_append]; omega
      generalize hns : within x.ss b ++ within y.ss c = ns at e6 q nlen
      refine ⟨_, rfl, D2, rfl, ⟨_, SqL.of e6⟩, fun D3 hD3 => ?_⟩
      refine lc_map (K := K) (R := fun _ v b => v = V.bl b) walk_list ⟨fun _ h => h⟩ (fun i => ns.getD i 0 % d == 0) (by rw [List.length_map]; omega) hD3 (fun H' s' => SqL.of (s' _ _ e6)) ?_ ?_
      · rintro i z H9 H7 Kk hi s7 ⟨rfl, hz⟩ kk
        obtain ⟨st, hst, rfl⟩ := map_at hz
        refine ⟨rfl, _, rfl, _, rfl, ra, _, _, _, rfl, rfl, SqT.of (s7 _ _ (s06 _ _ hra)), at_of (j := 1) (v := .int d) rfl rfl, _, _, rfl, rfl, by show 0 < d; omega, rfl, kk _ _ (Same.refl _) ?_⟩
        show V.bl (decide (V.int (st % d) = V.int 0)) = V.bl _
        rw [dec_int, getD_at hst]
      · intro H7 acc s7 e7 p7
        have eb : ∀ {xs : List V} {bs : List Bool}, Paired (fun v b => v = V.bl b) xs bs → xs = bs.map V.bl := fun h => by
          induction h with
          | nil => rfl
          | cons r _ ih => rw [r, ih]; rfl
        rw [eb p7] at e7
        have q7 := q H7 (s06.trans s7)
        refine ⟨D3, _, rfl, SqL.of e7, _, rfl, ?_⟩
        rw [List.length_map, all_range fun s => s % d == 0]
        cases hall : ns.all fun s => s % d == 0 with
        | false => rw [hall] at q7; exact iteF q7
        | true =>
          rw [hall, Bool.true_and] at q7
          refine iteT ⟨_, rfl, _, rfl, ra, _, _, _, rfl, rfl, SqT.of (s7 _ _ (s06 _ _ hra)), at_of (j := 1) (v := .int d) rfl rfl, _, _, rfl, rfl, by show 0 < d; omega, rfl, ?_⟩
          show Q (V.bl (!decide (V.int (apart x y b c % d) = V.int 0))) H7
          rw [dec_int]; exact q7
end
section
variable {P : Program} {w : World} {K : PySem.W.Frag} {mg : Str → Option Value} {base : Heap}
def sp_split_boxes (K : PySem.W.Frag) : Sp := fun vs H Q _ => ∃ u t, ∃ p : Pr, ∃ w s a l r : Int, vs = [u, t] ∧ TwoR BoxR H u p ∧ p.1.length ≤ 5 ∧ p.2.length ≤ 5 ∧ RowR H t (.split w s a l r) ∧
  (splitB p w s a = none → ∀ H', Same H H' → Q .non H') ∧ ∀ h, splitB p w s a = some h → ∀ (D : Addr) v1 v2 H', Same H H' → H' D = some (.lst [v1, v2]) → TwoR BoxR H' v1 h.1 → TwoR BoxR H' v2 h.2 → Q (.ref D) H'
abbrev N_split_boxes : List Str := ["boxes", "row", "word", "which", "side", "at", "left", "right", "halves", "half"]
theorem sc_split_boxes : FnScope N_split_boxes ["boxes", "row"] (defScope s_split_boxes) := ⟨rfl, rfl, rfl, by decide +kernel, rfl, by decide +kernel, by decide +kernel⟩
theorem ok_split_boxes (T : Txt K mg) : GF P w K mg base 4 "split_boxes" ["boxes", "row"] (sp_split_boxes K) := by
  have nd := sc_split_boxes.nd
  refine gf_of T (d := d_split_boxes) (x := "split_boxes") rfl rfl rfl (i := 53) rfl (by decide +kernel) sc_split_boxes (fun _ _ _ _ _ _ us hl => match us, hl with | [_, _], _ => rfl) (fun vs H Q E h => ?_) (fun cdv A outer s H vs Q E hr h => ?_)
  · obtain ⟨u, t, p, w, s, a, l, r, rfl, _⟩ := h; rfl
  · refine ⟨_, (pss_cons (ps_asg (pv 1) (pg_tup rfl (pgs_cons (pg_name (i := 2) nd rfl (Or.inl rfl)) (pgs_cons (pg_name (i := 3) nd rfl (Or.inl rfl)) (pgs_cons (pg_name (i := 4) nd rfl (Or.inl rfl)) (pgs_cons (pg_name (i := 5) nd rfl (Or.inl rfl)) (pgs_cons (pg_name (i := 6) nd rfl (Or.inl rfl)) (pgs_cons (pg_name (i := 7) nd rfl (Or.inl rfl)) pgs_nil))))))))
      (pss_cons (ps_if (pt_not (pt_val (pe_callG (ok_is_number_below T) (hr.mono (by decide)) rfl (pa_cons (pv 3) (pa_cons pe_int pa_nil))))) (pss_one (ps_ret pe_non)) pss_nil)
      (pss_cons (ps_set (i := 8) nd rfl (Or.inl rfl) (pe_callG (ok_cut_of T) (hr.mono (by decide)) rfl (pa_cons (pe_ix ix_tup (pv 0) (pv 3) (fun _ _ => rfl)) (pa_cons (pv 4) (pa_cons (pv 5) pa_nil)))))
      (pss_cons (ps_if (pt_cmpR op_isN (pv 8) pe_non (nomark _)) (pss_one (ps_ret pe_non)) pss_nil)
      (pss_cons (ps_if (pt_cmpR op_eq (pv 3) pe_int (nomark _)) (pss_one (ps_ret (pe_lc (own := [("half", 9)]) (g := (gName 9)) (tt := tYes) rfl nd (pi_tup (pv 8)) (blkOk_by (N := N_split_boxes) (sc := defScope s_split_boxes) (by decide +kernel)) (fun _ _ _ _ _ => (pg_name (i := 9) nd rfl (Or.inl rfl))) (fun _ _ _ _ _ => pts_nil) (fun _ _ _ _ _ => (pe_tup (pa_cons (pv 9) (pa_cons (pe_ix (ix_tupK K) (pv 0) pe_int (fun _ _ => rfl)) pa_nil))))))) pss_nil)
      (pss_one (ps_ret (pe_lc (own := [("half", 9)]) (g := (gName 9)) (tt := tYes) rfl nd (pi_tup (pv 8)) (blkOk_by (N := N_split_boxes) (sc := defScope s_split_boxes) (by decide +kernel)) (fun _ _ _ _ _ => (pg_name (i := 9) nd rfl (Or.inl rfl))) (fun _ _ _ _ _ => pts_nil) (fun _ _ _ _ _ => (pe_tup (pa_cons (pe_ix (ix_tupK K) (pv 0) pe_int (fun _ _ => rfl)) (pa_cons (pv 9) pa_nil)))))))))))), ?_⟩
    obtain ⟨u, t, p, w, s, a, l, r, rfl, ⟨ua, u1, u2, rfl, hua, hb, hc⟩, f1, f2, ⟨ra, rfl, hra⟩, qn, qs⟩ := h
    refine ⟨_, rfl, ra, _, rfl, SqT.of hra, rfl, _, _, rfl, _, _, rfl, _, _, rfl, _, _, rfl, _, _, rfl, _, _, rfl, rfl, ?_⟩
    refine ⟨_, rfl, w, 2, rfl, _, rfl, ?_⟩
    by_cases hw : 0 ≤ w ∧ w < 2
    case neg =>
      rw [decide_eq_false hw]
      refine iteT (qn ?_ H (Same.refl H))
      unfold splitB
      rw [if_neg (by omega), if_neg (by omega)]
    rw [decide_eq_true hw]
    refine iteF ?_
    rcases (show w = 0 ∨ w = 1 by omega) with rfl | rfl
    · refine ⟨_, rfl, _, rfl, ua, _, _, _, rfl, rfl, SqT.of hua, at_of (j := 0) (v := u1) rfl rfl, _, rfl, _, rfl, _, p.1, s, a, rfl, hb, f1, fun wv H1 s1 hwv => ?_⟩
      have esp : splitB p 0 s a = (cutB p.1 s a).map fun h => ((h.1, p.2), (h.2, p.2)) := by
        unfold splitB; rw [if_pos rfl]
      cases hcut : cutB p.1 s a with
      | none =>
        rw [hcut] at hwv esp
        have hw' : wv = V.non := hwv
        subst hw'
        exact ⟨_, rfl, rfl, true, rfl, iteT (qn esp H1 s1)⟩
      | some h =>
        rw [hcut] at hwv esp
        obtain ⟨z, x1, x2, rfl, hz, g1, g2⟩ := hwv
        refine ⟨_, rfl, rfl, false, rfl, iteF ⟨_, rfl, rfl, true, rfl, iteT ⟨_, rfl, z, rfl, ⟨_, SqT.of hz⟩, fun D hD => ?_⟩⟩⟩
        refine lc_map (K := K) (R := TwoR BoxR) walk_tup (mon_two mon_box) (fun i => (if i = 0 then h.1 else h.2, p.2)) (by show 2 ≤ 1000000; decide) hD (fun H' s' => SqT.of (s' _ _ hz)) ?_ ?_
        · rintro i y H9 H2 Kk hi s2 ⟨rfl, hy⟩ kk
          have hyb : BoxR H2 y (if i = 0 then h.1 else h.2) := mon_box.up (K := K) (.of s2) (two_get g1 g2 hy)
          have s12 := s1.trans s2
          refine ⟨rfl, _, rfl, _, rfl, ua, _, _, _, rfl, rfl, SqT.of (s12 _ _ hua), at_of (j := 1) (v := u2) rfl rfl, by show 2 ≤ sizeLine; decide, fun t3 ht3 => kk _ _ (Same.new ht3) ⟨t3, _, _, rfl, upd_same, mon_box.up (K := K) (.of (Same.new ht3)) hyb, mon_box.up (K := K) (.of (s12.trans (Same.new ht3))) hc⟩⟩
        · intro H2 acc s2 e2 p2
          have p2' : Paired (TwoR BoxR H2) acc [(h.1, p.2), (h.2, p.2)] := p2
          match acc, p2' with
          | [w1, w2], .cons r1 (.cons r2 .nil) => exact qs _ esp D w1 w2 H2 (s1.trans s2) e2 r1 r2
    · refine ⟨_, rfl, _, rfl, ua, _, _, _, rfl, rfl, SqT.of hua, at_of (j := 1) (v := u2) rfl rfl, _, rfl, _, rfl, _, p.2, s, a, rfl, hc, f2, fun wv H1 s1 hwv => ?_⟩
      have esp : splitB p 1 s a = (cutB p.2 s a).map fun h => ((p.1, h.1), (p.1, h.2)) := by
        unfold splitB; rw [if_neg (by decide), if_pos rfl]
      cases hcut : cutB p.2 s a with
      | none =>
        rw [hcut] at hwv esp
        have hw' : wv = V.non := hwv
        subst hw'
        exact ⟨_, rfl, rfl, true, rfl, iteT (qn esp H1 s1)⟩
      | some h =>
        rw [hcut] at hwv esp
        obtain ⟨z, x1, x2, rfl, hz, g1, g2⟩ := hwv
        refine ⟨_, rfl, rfl, false, rfl, iteF ⟨_, rfl, rfl, false, rfl, iteF ⟨_, rfl, z, rfl, ⟨_, SqT.of hz⟩, fun D hD => ?_⟩⟩⟩
        refine lc_map (K := K) (R := TwoR BoxR) walk_tup (mon_two mon_box) (fun i => (p.1, if i = 0 then h.1 else h.2)) (by show 2 ≤ 1000000; decide) hD (fun H' s' => SqT.of (s' _ _ hz)) ?_ ?_
        · rintro i y H9 H2 Kk hi s2 ⟨rfl, hy⟩ kk
          have hyb : BoxR H2 y (if i = 0 then h.1 else h.2) := mon_box.up (K := K) (.of s2) (two_get g1 g2 hy)
          have s12 := s1.trans s2
          refine ⟨rfl, _, rfl, ua, _, _, _, rfl, rfl, SqT.of (s12 _ _ hua), at_of (j := 0) (v := u1) rfl rfl, _, rfl, by show 2 ≤ sizeLine; decide, fun t3 ht3 => kk _ _ (Same.new ht3) ⟨t3, _, _, rfl, upd_same, mon_box.up (K := K) (.of (s12.trans (Same.new ht3))) hb, mon_box.up (K := K) (.of (Same.new ht3)) hyb⟩⟩
        · intro H2 acc s2 e2 p2
          have p2' : Paired (TwoR BoxR H2) acc [(p.1, h.1), (p.1, h.2)] := p2
          match acc, p2' with
          | [w1, w2], .cons r1 (.cons r2 .nil) => exact qs _ esp D w1 w2 H2 (s1.trans s2) e2 r1 r2
    
end
end Vg

namespace Vg
open PySem PySem.Spec PyProof.Rows L2 RZ RT
theorem runC_app {x y : VW} : ∀ {a b : List Row} {met : List (Int × Pr)} {at_ : Int}, runC x y met at_ (a ++ b) = (runC x y met at_ a).bind fun m => runC x y m (at_ + a.length) b
  | [], b, met, at_ => by
    show runC x y met at_ b = runC x y met (at_ + 0) b
    rw [Int.add_zero]
  | r :: a, b, met, at_ => by
    show (stepC x y met at_ r).bind (fun m => runC x y m (at_ + 1) (a ++ b)) = ((stepC x y met at_ r).bind fun m => runC x y m (at_ + 1) a).bind _
    cases stepC x y met at_ r with
    | none => rfl
    | some m =>
      show runC x y m (at_ + 1) (a ++ b) = (runC x y m (at_ + 1) a).bind _
      rw [runC_app]
      congr 1; funext z
      have : at_ + 1 + (a.length : Int) = at_ + ((r :: a).length : Nat) := by rw [List.length_cons]; omega
      rw [this]
/-- a row that fails, all fails -/
theorem cutsB_fail {x y : VW} {p : Pr} {rows : List Row} {i : Nat} {row : Row} {met : List (Int × Pr)} (h : runC x y [(0, p)] 0 (rows.take i) = some met) (hr : rows[i]? = some row) (hs : stepC x y met i row = none) : cutsB x y p rows = false := by
  obtain ⟨hi, e⟩ := List.getElem?_eq_some_iff.mp hr
  have e1 : rows = rows.take i ++ rows.drop i := (List.take_append_drop i rows).symm
  have e2 : rows.drop i = row :: rows.drop (i + 1) := by rw [List.drop_eq_getElem_cons hi, e]
  have e3 : runC x y [(0, p)] 0 rows = none := by
    rw [e1, runC_app, h]
    show runC x y met (0 + ((rows.take i).length : Int)) (rows.drop i) = none
    rw [e2]
    show (stepC x y met (0 + ((rows.take i).length : Int)) row).bind _ = none
    have : (0 + ((rows.take i).length : Int)) = (i : Int) := by rw [List.length_take]; omega
    rw [this, hs]; rfl
  unfold cutsB
  rw [e3]; simp
theorem runC_next {x y : VW} {p : Pr} {rows : List Row} {i : Nat} {row : Row} {met met' : List (Int × Pr)} (h : runC x y [(0, p)] 0 (rows.take i) = some met) (hr : rows[i]? = some row) (hs : stepC x y met i row = some met') : runC x y [(0, p)] 0 (rows.take (i + 1)) = some met' := by
  have hi := (List.getElem?_eq_some_iff.mp hr).1
  rw [take_snoc hr, runC_snoc, h]
  show stepC x y met (0 + ((rows.take i).length : Int)) row = some met'
  have : (0 + ((rows.take i).length : Int)) = (i : Int) := by rw [List.length_take]; omega
  rw [this, hs]
theorem stepC_leaf {x y : VW} {met : List (Int × Pr)} {i : Int} {p : Pr} {row : Row} (hl : met.lookup i = some p) (hn : ∀ a1 a2 a3 a4 a5, row ≠ .split a1 a2 a3 a4 a5) : stepC x y met i row = if leafB x y p.1 p.2 row = true then some met else none := by
  unfold stepC
  rw [hl]
  cases row with
  | split a1 a2 a3 a4 a5 => exact absurd rfl (hn a1 a2 a3 a4 a5)
  | bare => rfl
  | far => rfl
  | rests d => rfl
  | rooms => rfl
theorem row_head (row : Row) : ∃ s rest m, row.vs = .str s :: rest ∧ rest.length + 1 = m ∧ ((decide (((m : Nat) : Int) = 6) && decide (s = Str.ofString "split")) = true ↔ ∃ a1 a2 a3 a4 a5, row = .split a1 a2 a3 a4 a5) := by
  cases row with
  | bare => exact ⟨_, _, 1, rfl, rfl, ⟨fun h => absurd h (by decide +kernel), fun ⟨_, _, _, _, _, h⟩ => nomatch h⟩⟩
  | far => exact ⟨_, _, 1, rfl, rfl, ⟨fun h => absurd h (by decide +kernel), fun ⟨_, _, _, _, _, h⟩ => nomatch h⟩⟩
  | rests d => exact ⟨_, _, 2, rfl, rfl, ⟨fun h => absurd h (by decide +kernel), fun ⟨_, _, _, _, _, h⟩ => nomatch h⟩⟩
  | rooms => exact ⟨_, _, 1, rfl, rfl, ⟨fun h => absurd h (by decide +kernel), fun ⟨_, _, _, _, _, h⟩ => nomatch h⟩⟩
  | split a1 a2 a3 a4 a5 => exact ⟨_, _, 6, rfl, rfl, ⟨fun _ => ⟨_, _, _, _, _, rfl⟩, fun _ => by decide +kernel⟩⟩
section
variable {P : Program} {w : World} {K : PySem.W.Frag} {mg : Str → Option Value} {base : Heap}
def sp_cuts_right (K : PySem.W.Frag) : Sp := fun vs H Q _ => ∃ v u x y, ∃ p : Pr, ∃ (l : Addr) (rvs : List V) (rows : List Row), vs = [v, u, .ref l] ∧ TwoR (VwR K) H v (x, y) ∧ VOK x ∧ VOK y ∧ RmOk K H x.room ∧ RmOk K H y.room ∧ TwoR BoxR H u p ∧ PBok x.ls.length y.ls.length p ∧
  H l = some (.lst rvs) ∧ Paired (RowR H) rvs rows ∧ rows ≠ [] ∧ rows.length ≤ 2000000 ∧ ∀ H', Same H H' → Q (.bl (cutsB x y p rows)) H'
abbrev N_cuts_right : List Str := ["views", "boxes", "rows", "met", "at", "row", "handed"]
theorem sc_cuts_right : FnScope N_cuts_right ["views", "boxes", "rows"] (defScope s_cuts_right) := ⟨rfl, rfl, rfl, by decide +kernel, rfl, by decide +kernel, by decide +kernel⟩
theorem ok_cuts_right (T : Txt K mg) : GF P w K mg base 5 "cuts_right" ["views", "boxes", "rows"] (sp_cuts_right K) := by
  have nd := sc_cuts_right.nd
  refine gf_of T (d := d_cuts_right) (x := "cuts_right") rfl rfl rfl (i := 54) rfl (by decide +kernel) sc_cuts_right (fun _ _ _ _ _ _ us hl => match us, hl with | [_, _, _], _ => rfl) (fun vs H Q E h => ?_) (fun cdv A outer s H vs Q E hr h => ?_)
  · obtain ⟨v, u, x, y, p, l, rvs, rows, rfl, _⟩ := h; rfl
  · refine ⟨_, (pss_cons (ps_if (PW.pt (pw_or (pt_not (pt_val (pe_callB call_isB rfl (T.free "isinstance") (by decide +kernel) (pa_cons (pv 2) (pa_cons (pe_bltn (v := .ty "list") (u := .type "list") rfl (T.free "list") (by decide +kernel) rfl) pa_nil))))) (pw_or1 (pt_cmpR (op_eqLen hr.units0) (pv 2) (pe_lst pa_nil) (nomark _))))) (pss_one (ps_ret pe_bl)) pss_nil)
      (pss_cons (ps_set (i := 3) nd rfl (Or.inl rfl) (pe_disp (pps_cons pe_int (pv 1) pps_nil) (by rfl) (by rfl) (fun z => by cases z) (by decide)))
      (pss_cons (ps_for PassesOwn.never rfl (pi_enum rfl (T.free "enumerate") (pa_cons (pv 2) pa_nil)) (pg_tup rfl (pgs_cons (pg_name (i := 4) nd rfl (Or.inl rfl)) (pgs_cons (pg_name (i := 5) nd rfl (Or.inl rfl)) pgs_nil))) (pss_cons (ps_if (pt_cmp (pc_dnotin (hu_of hr) (pv 4) (pv 3)) rfl) (pss_one (ps_ret pe_bl)) pss_nil)
      (pss_one (ps_if (pt_not (pt_val (pe_callG (ok_is_so T) (hr.mono (by decide)) rfl (pa_cons (pv 5) (pa_cons pe_str (pa_cons pe_int pa_nil)))))) (pss_one (ps_if (pt_not (pt_val (pe_callG (ok_leaf_right T) (hr.mono (by decide)) rfl (pa_cons (pv 0) (pa_cons (pe_dget (hu_of hr) (pv 3) (pv 4) (fun _ _ => rfl)) (pa_cons (pv 5) pa_nil)))))) (pss_one (ps_ret pe_bl)) pss_nil)) (pss_cons (ps_set (i := 6) nd rfl (Or.inl rfl) (pe_callG (ok_split_boxes T) (hr.mono (by decide)) rfl (pa_cons (pe_dget (hu_of hr) (pv 3) (pv 4) (fun _ _ => rfl)) (pa_cons (pv 5) pa_nil))))
      (pss_cons (ps_if (PW.pt (pw_or (pt_cmpR op_isN (pv 6) pe_non (nomark _)) (pw_or1 (pt_not (pt_val (pe_callG (ok_are_later T) (hr.mono (by decide)) rfl (pa_cons (pe_ix ix_tup (pv 5) pe_int (fun _ _ => rfl)) (pa_cons (pe_ix ix_tup (pv 5) pe_int (fun _ _ => rfl)) (pa_cons (pv 4) (pa_cons (pv 3) pa_nil)))))))))) (pss_one (ps_ret pe_bl)) pss_nil)
      (pss_one (ps_asg (pv 6) (pg_unl rfl (pgs_cons (pg_sub (pv 3) (pe_ix ix_tup (pv 5) pe_int (fun _ _ => rfl)) (set_dict (hu_of hr))) (pgs_cons (pg_sub (pv 3) (pe_ix ix_tup (pv 5) pe_int (fun _ _ => rfl)) (set_dict (hu_of hr))) pgs_nil)))))))))))
      (pss_one (ps_ret (pe_cmpR op_eq (pe_callB call_lenD rfl (T.free "len") boot_len (pa_cons (pv 3) pa_nil)) (pe_callB call_len_seq rfl (T.free "len") boot_len (pa_cons (pv 2) pa_nil)) (nomark _))))))), ?_⟩
    obtain ⟨v, u, x, y, p, l, rvs, rows, rfl, hv, hOx, hOy, hrx, hry, hu, hPB, hl, hrs, hne, hlen, q⟩ := h
    have fx := hOx.lens.few
    have fy := hOy.lens.few
    have lr := Paired.len hrs
    refine ⟨_, rfl, _, _, _, true, rfl, .lst hl, by decide +kernel, true, rfl, iteF ⟨_, rfl, by show 0 ≤ sizeLine; decide, fun l0 hl0 => ?_⟩⟩
    have s1 : Same H (upd H l0 (.lst [])) := Same.new hl0
    have hne' : rvs.length ≠ ([] : List V).length := by
      intro e
      rw [lr] at e
      exact hne (List.length_eq_zero_iff.mp e)
    refine ⟨l, l0, rvs, [], rfl, rfl, s1 _ _ hl, upd_same, hne', false, rfl, iteF ?_⟩
    rintro d hd
    refine ⟨_, rfl, upd_same, [(.inl 0, u)], rfl, by show 1 ≤ 15; decide, ?_⟩
    have hd0 : H d = none := s1.free hd
    have s2 : Same H (upd (upd (upd H l0 (.lst [])) d (.dK [])) d (.dK (mergeK [] [(Sum.inl 0, u)]))) := Same.mut (s1.trans (Same.new hd)) hd0
    have nd0 : l0 ≠ d := by rintro rfl; rw [upd_same] at hd; cases hd
    refine ⟨_, rfl, l, _, rfl, SqL.of (s2 _ _ hl), for_it walk_enum (fun i σ H' => (∃ z4 z5 z6, σ = [some v, some u, some (.ref l), some (.ref d), z4, z5, z6]) ∧ Same H H' ∧ ∃ met kvs, H' d = some (.dK kvs) ∧ Paired (DRel (TwoR BoxR) H') kvs met ∧ runC x y [(0, p)] 0 (rows.take i) = some met ∧ (∀ k z, (k, z) ∈ met → PBok x.ls.length y.ls.length z) ∧ met.length ≤ 1 + 2 * i)
      ⟨⟨none, none, none, rfl⟩, s2, [(0, p)], [(.inl 0, u)], by rw [upd_same]; rfl, .cons ⟨rfl, (mon_two mon_box).up (K := K) (.of s2) hu⟩ .nil, rfl, fun k z hz => ?_, by show 1 ≤ 1; decide⟩ (fun i σ H' _ p => SqL.of (p.2.1 _ _ hl)) ?_ ?_⟩
    · rw [List.mem_singleton] at hz; cases hz; exact hPB
    · rintro i yy σ H1 H9 hi ⟨⟨z4, z5, z6, rfl⟩, s3, met, kvs, hd1, hp, hrun, hpb, hml⟩ ⟨t, x1, x2, rfl, hn, rfl, e1, e2⟩
      cases e1
      have hrow : ∃ row, rows[i]? = some row ∧ RowR H x2 row := Paired.get hrs e2
      obtain ⟨row, hr, hR⟩ := hrow
      have s4 : Same H1 (upd H1 t (.tup [.int (i : Nat), x2])) := Same.new hn
      refine ⟨t, _, rfl, SqT.of upd_same, rfl, _, _, rfl, _, _, rfl, rfl, ?_⟩
      have s34 := s3.trans s4
      have hd2 := s4 _ _ hd1
      have hp2 := dr_mapP (fun v a h => (mon_two mon_box).up (K := K) (.of s4) h) hp
      have lk := Paired.len hp2
      have hRi := mon_row.up (K := K) (.of s34) hR
      generalize upd H1 t (.tup [.int (i : Nat), x2]) = H2 at s4 s34 hd2 hp2 hRi
      obtain ⟨n1, n2⟩ := dr_get (k := (i : Int)) hp2
      refine ⟨_, rfl, _, rfl, d, _, rfl, .inl ⟨kvs, .inl (i : Int), .inl hd2, rfl, rfl⟩, _, rfl, ?_⟩
      cases hF : met.lookup (i : Int) with
      | none =>
        rw [n1 hF]
        refine iteT ?_
        rw [← cutsB_fail hrun hr (by unfold stepC; rw [hF])]
        exact q H2 s34
      | some pp =>
      obtain ⟨pv, hpv, hpp⟩ := n2 pp hF
      rw [hpv]
      obtain ⟨B1, B2⟩ := hpb _ _ (lookup_mem hF)
      obtain ⟨ra, rfl, hra⟩ := hRi
      obtain ⟨s0, rest, m, ev, em, esp⟩ := row_head row
      refine iteF ⟨_, rfl, ra, s0, "split", rest, m, 6, rfl, by rw [hra, ev], em, _, rfl, ?_⟩
      cases hso : decide (((m : Nat) : Int) = 6) && decide (s0 = Str.ofString "split") with
      | false =>
        have hns : ∀ a1 a2 a3 a4 a5, row ≠ .split a1 a2 a3 a4 a5 := fun a1 a2 a3 a4 a5 e => by
          rw [esp.mpr ⟨_, _, _, _, _, e⟩] at hso; cases hso
        refine iteT ⟨_, rfl, _, rfl, _, rfl, d, pv, rfl, .inl ⟨kvs, .inl (i : Int), .inl hd2, rfl, hpv.symm⟩, _, rfl, _, _, _, x, y, pp.1, pp.2, row, rfl, (mon_two mon_vw).up (.of s34) hv, hOx, hOy, hrx.same s34, hry.same s34, hpp, B1, B2, ⟨ra, rfl, hra⟩, hns, fun H3 s5 => ⟨_, rfl, ?_⟩⟩
        have s35 := s34.trans s5
        cases hlf : leafB x y pp.1 pp.2 row with
        | false =>
          refine iteT ?_
          rw [← cutsB_fail hrun hr (by rw [stepC_leaf hF hns, hlf]; rfl)]
          exact q H3 s35
        | true =>
          exact iteF ⟨⟨_, _, _, rfl⟩, s35, met, kvs, s5 _ _ hd2, dr_mapP (fun v a h => (mon_two mon_box).up (K := K) (.of s5) h) hp2, runC_next hrun hr (by rw [stepC_leaf hF hns, hlf]; rfl), hpb, by omega⟩
      | true =>
        obtain ⟨w, s, a, ll, rr, rfl⟩ := esp.mp hso
        have hstep : stepC x y met i (.split w s a ll rr) = (match splitB pp w s a with | none => none | some h => if laterB ll rr (i : Int) met = true then some (met ++ [(ll, h.1), (rr, h.2)]) else none) := by
          unfold stepC; rw [hF] <;> rfl
        refine iteF ⟨_, rfl, _, rfl, d, pv, rfl, .inl ⟨kvs, .inl (i : Int), .inl hd2, rfl, hpv.symm⟩, _, rfl, _, _, pp, w, s, a, ll, rr, rfl, hpp, by rw [B1.len]; exact fx, by rw [B2.len]; exact fy, ⟨ra, rfl, hra⟩, fun hs0 H3 s5 => ?_, fun h hs0 D v1 v2 H3 s5 hD r1 r2 => ?_⟩
        · refine ⟨_, rfl, rfl, true, rfl, iteT (iteT ?_)⟩
          rw [← cutsB_fail hrun hr (by rw [hstep, hs0])]
          exact q H3 (s34.trans s5)
        · have s35 := s34.trans s5
          have hra3 := s5 _ _ hra
          have hd3 := s5 _ _ hd2
          have hp3 := dr_mapP (fun v a h => (mon_two mon_box).up (K := K) (.of s5) h) hp2
          refine ⟨_, rfl, rfl, false, rfl, iteF ?_⟩
          refine ⟨_, rfl, ra, _, _, _, rfl, rfl, SqT.of hra3, at_of (j := 4) (v := .int ll) rfl rfl, _, rfl, ra, _, _, _, rfl, rfl, SqT.of hra3, at_of (j := 5) (v := .int rr) rfl rfl, _, rfl, _, rfl, ll, rr, (i : Int), d, _, TwoR BoxR, kvs, met, rfl, hd3, hp3, _, rfl, ?_⟩
          cases hlt : laterB ll rr (i : Int) met with
          | false =>
            refine iteT ?_
            rw [← cutsB_fail hrun hr (by rw [hstep, hs0]; simp only [hlt]; rfl)]
            exact q H3 s35
          | true =>
            have hstep2 : stepC x y met i (.split w s a ll rr) = some (met ++ [(ll, h.1), (rr, h.2)]) := by rw [hstep, hs0]; simp only [hlt]; rfl
            have hlt' := hlt
            unfold laterB at hlt'
            simp only [Bool.and_eq_true, decide_eq_true_eq, Option.isNone_iff_eq_none] at hlt'
            obtain ⟨c1, _, c4, c5⟩ := hlt'
            have szk : kvs.length + 2 < sizeLine := by
              have hil : i < rows.length := (List.getElem?_eq_some_iff.mp hr).1
              rw [sizeLine_eq]; omega
            have nDd : D ≠ d := fun e => by rw [e, hd3] at hD; cases hD
            have nrd : ra ≠ d := fun e => by rw [e, hd3] at hra3; cases hra3
            have v4 := (dr_get (k := ll) hp3).1 c4
            have v5 := (dr_get (k := rr) hp3).1 c5
            refine iteF ⟨_, rfl, D, _, rfl, SqL.of hD, rfl, _, _, rfl, _, rfl, _, rfl, ra, _, _, _, rfl, rfl, SqT.of hra3, at_of (j := 4) (v := .int ll) rfl rfl, d, _, rfl, .inl ⟨kvs, .inl ll, hd3, rfl, by omega, rfl⟩, ?_⟩
            rw [putK_new _ v4]
            have v5' : valV (kvs ++ [(Sum.inl ll, v1)]) (.inl rr) = none := by
              rw [valV_snoc _ _ _ _ v4, if_neg (fun e => c1 (by injection e with e; exact e.symm))]; exact v5
            refine ⟨_, _, rfl, _, rfl, _, rfl, ra, _, _, _, rfl, rfl, SqT.of ((upd_ne nrd).trans hra3), at_of (j := 5) (v := .int rr) rfl rfl, d, _, rfl, .inl ⟨kvs ++ [(.inl ll, v1)], .inl rr, upd_same, rfl, by rw [List.length_append, List.length_singleton]; omega, rfl⟩, rfl, ?_⟩
            rw [putK_new _ v5']
            have kt1 : KT K H3 (upd H3 d (.dK (kvs ++ [(.inl ll, v1)]))) := KT.dk hd3
            have kt2 : KT K H3 (upd (upd H3 d (.dK (kvs ++ [(.inl ll, v1)]))) d (.dK (kvs ++ [(.inl ll, v1)] ++ [(.inl rr, v2)]))) := kt1.trans (KT.dk upd_same)
            have up2 : ∀ v a, TwoR BoxR H3 v a → TwoR BoxR (upd (upd H3 d (.dK (kvs ++ [(.inl ll, v1)]))) d (.dK (kvs ++ [(.inl ll, v1)] ++ [(.inl rr, v2)]))) v a := fun v a h => (mon_two mon_box).up kt2 h
            refine ⟨⟨_, _, _, rfl⟩, Same.mut (Same.mut s35 hd0) hd0, met ++ [(ll, h.1), (rr, h.2)], _, upd_same, ?_, runC_next hrun hr hstep2, stepC_bb hstep2 hpb, by rw [List.length_append]; show _ + 2 ≤ _; omega⟩
            have := Paired.app (Paired.app (dr_mapP up2 hp3) (x := ((.inl ll : Key), v1)) (y := (ll, h.1)) ⟨rfl, up2 _ _ r1⟩) (x := ((.inl rr : Key), v2)) (y := (rr, h.2)) ⟨rfl, up2 _ _ r2⟩
            simpa using this
    · rintro σ H1 ⟨⟨z4, z5, z6, rfl⟩, s3, met, kvs, hd1, hp, hrun, hpb, hml⟩
      have lk := Paired.len hp
      rw [lr, List.take_length] at hrun
      refine ⟨_, rfl, d, _, rfl, hd1, _, rfl, l, _, rfl, .inl (SqL.of (s3 _ _ hl)), rfl, ?_⟩
      rw [dec_int]
      have e : cutsB x y p rows = ((kvs.length : Int) == (rvs.length : Int)) := by
        unfold cutsB
        rw [hrun]
        have : rows.isEmpty = false := by
          cases rows with
          | nil => exact absurd rfl hne
          | cons _ _ => rfl
        rw [this, lk, lr]
        show (true && decide (met.length = rows.length)) = _
        rw [Bool.true_and]
        by_cases c : met.length = rows.length
        · rw [decide_eq_true c, c]; simp
        · rw [decide_eq_false c]; symm; exact beq_eq_false_iff_ne.mpr (by omega)
      rw [← e]
      exact q H1 s3
    
end
end Vg

namespace Vg
open PySem PySem.Spec PyProof.Rows L2 RZ RT
section
variable {P : Program} {w : World} {K : PySem.W.Frag} {mg : Str → Option Value} {base : Heap}
def sp_is_single : Sp := fun vs H Q _ => ∃ v box, vs = [v] ∧ BoxR H v box ∧ box.length ≤ 5 ∧ ∀ H', Same H H' → Q (.bl (singleB box)) H'
abbrev N_is_single : List Str := ["box", "low", "high"]
theorem sc_is_single : FnScope N_is_single ["box"] (defScope s_is_single) := ⟨rfl, rfl, rfl, by decide +kernel, rfl, by decide +kernel, by decide +kernel⟩
theorem ok_is_single (T : Txt K mg) : GF P w K mg base 2 "is_single" ["box"] sp_is_single := by
  have nd := sc_is_single.nd
  refine gf_of T (d := d_is_single) (x := "is_single") rfl rfl rfl (i := 56) rfl (by decide +kernel) sc_is_single (fun _ _ _ _ _ _ us hl => match us, hl with | [_], _ => rfl) (fun vs H Q E h => ?_) (fun cdv A outer s H vs Q E hr h => ?_)
  · obtain ⟨v, x, rfl, _⟩ := h; rfl
  · refine ⟨_, (pss_one (ps_ret (pe_or (pe_callG (ok_is_bare T) (hr.mono (by decide)) rfl (pa_cons (pv 0) pa_nil)) (pe_one (pe_callB (cr_all rfl) rfl (T.free "all") (by decide +kernel) (pa_cons (pe_lc (own := [("low", 1), ("high", 2)]) (g := (gTup K 2 (gCons (gName 1) (gCons (gName 2) gNil)))) (tt := tYes) rfl nd (pi_tup (pv 0)) (blkOk_by (N := N_is_single) (sc := defScope s_is_single) (by decide +kernel)) (fun _ _ _ _ _ => (pg_tup rfl (pgs_cons (pg_name (i := 1) nd rfl (Or.inl rfl)) (pgs_cons (pg_name (i := 2) nd rfl (Or.inl rfl)) pgs_nil)))) (fun _ _ _ _ _ => pts_nil) (fun _ _ _ _ _ => (pe_cmpR op_eq (pe_op op_sub (pv 2) (pv 1)) pe_int (nomark _)))) pa_nil)))))), ?_⟩
    obtain ⟨v, box, rfl, hb, hf, q⟩ := h
    obtain ⟨a, vs, rfl, ha, hp⟩ := id hb
    have hlen := Paired.len hp
    refine ⟨_, rfl, _, box, rfl, hb, hf, fun H1 s1 => ⟨bareB box, rfl, ?_⟩⟩
    cases eb : bareB box with
    | true =>
      have := q H1 s1
      unfold singleB at this
      rw [eb] at this
      exact iteT this
    | false =>
    refine iteF ⟨_, rfl, a, rfl, ⟨_, SqT.of (s1 _ _ ha)⟩, fun D hD => ?_⟩
    refine lc_map (K := K) (R := fun _ v b => v = V.bl b) walk_tup ⟨fun _ h => h⟩ (fun i => decide ((box.getD i (0, 0)).2 - (box.getD i (0, 0)).1 = 1)) (by omega) hD (fun H' s' => SqT.of (s' _ _ (s1 _ _ ha))) ?_ ?_
    · rintro i y H9 H2 Kk hi s2 ⟨rfl, hy⟩ kk
      obtain ⟨p, hpp, t, rfl, ht⟩ := Paired.get hp hy
      refine ⟨t, _, rfl, SqT.of (s2 _ _ (s1 _ _ ht)), rfl, _, _, rfl, _, _, rfl, rfl, rfl, ?_⟩
      refine ⟨_, rfl, _, rfl, _, _, rfl, rfl, rfl, kk _ _ (Same.refl _) ?_⟩
      show V.bl (decide (V.int (p.2 - p.1) = V.int 1)) = V.bl _
      rw [getD_at hpp, dec_int]
      by_cases c : p.2 - p.1 = 1
      · rw [decide_eq_true c, c]; rfl
      · rw [decide_eq_false c, beq_eq_false_iff_ne.mpr c]
    · intro H2 acc s2 e2 p2
      have eb2 : ∀ {xs : List V} {bs : List Bool}, Paired (fun v b => v = V.bl b) xs bs → xs = bs.map V.bl := fun h => by
        induction h with
        | nil => rfl
        | cons r _ ih => rw [r, ih]; rfl
      rw [eb2 p2] at e2
      refine ⟨D, _, rfl, SqL.of e2, ?_⟩
      have : ((List.range vs.length).map fun i => decide ((box.getD i (0, 0)).2 - (box.getD i (0, 0)).1 = 1)).all id = box.all fun q => decide (q.2 - q.1 = 1) := by
        rw [hlen, List.all_map]
        have e0 : box = (List.range box.length).map fun i => box.getD i (0, 0) := List.ext_getElem (by simp) fun i g1 g2 => by
          rw [List.getElem_map, List.getElem_range, getD_at (List.getElem?_eq_getElem g1)]
        conv => rhs; rw [e0]
        rw [List.all_map]; rfl
      rw [this]
      have q2 := q H2 (s1.trans s2)
      unfold singleB at q2
      rw [eb, Bool.false_or] at q2
      exact q2
end
theorem runU_app {x : VW} : ∀ {a b : List URow} {met : List (Int × Box)} {at_ : Int}, runU x met at_ (a ++ b) = (runU x met at_ a).bind fun m => runU x m (at_ + a.length) b
  | [], b, met, at_ => by
    show runU x met at_ b = runU x met (at_ + 0) b
    rw [Int.add_zero]
  | r :: a, b, met, at_ => by
    show (stepU x met at_ r).bind (fun m => runU x m (at_ + 1) (a ++ b)) = ((stepU x met at_ r).bind fun m => runU x m (at_ + 1) a).bind _
    cases stepU x met at_ r with
    | none => rfl
    | some m =>
      show runU x m (at_ + 1) (a ++ b) = (runU x m (at_ + 1) a).bind _
      rw [runU_app]
      congr 1; funext z
      have : at_ + 1 + (a.length : Int) = at_ + ((r :: a).length : Nat) := by rw [List.length_cons]; omega
      rw [this]
theorem runU_step {x : VW} {m0 mf met : List (Int × Box)} {rows : List URow} {i : Nat} {row : URow} (hf : runU x m0 0 rows = some mf) (h : runU x m0 0 (rows.take i) = some met) (hr : rows[i]? = some row) : ∃ met', stepU x met i row = some met' ∧ runU x m0 0 (rows.take (i + 1)) = some met' := by
  obtain ⟨hi, e⟩ := List.getElem?_eq_some_iff.mp hr
  have e1 : rows = rows.take i ++ rows.drop i := (List.take_append_drop i rows).symm
  have e2 : rows.drop i = row :: rows.drop (i + 1) := by rw [List.drop_eq_getElem_cons hi, e]
  have ei : (0 + ((rows.take i).length : Int)) = (i : Int) := by rw [List.length_take]; omega
  rw [e1, runU_app, h] at hf
  have hf2 : runU x met (0 + ((rows.take i).length : Int)) (rows.drop i) = some mf := hf
  rw [e2, ei] at hf2
  have hf3 : (stepU x met i row).bind (fun m => runU x m ((i : Int) + 1) (rows.drop (i + 1))) = some mf := hf2
  cases hs : stepU x met i row with
  | none => rw [hs] at hf3; cases hf3
  | some m =>
    refine ⟨m, rfl, ?_⟩
    rw [take_snoc hr, runU_snoc, h]
    show stepU x met (0 + ((rows.take i).length : Int)) row = some m
    rw [ei, hs]
theorem cut_bb {n : Nat} {b : Box} {s a : Int} {h : Box × Box} (e : cutB b s a = some h) (hb : BB n b) : BB n h.1 ∧ BB n h.2 := by
  obtain ⟨i, l, u, _, hi, g1, g2, rfl⟩ := cutB_spec e
  exact bb_set hb hi g1 g2
section
variable {P : Program} {w : World} {K : PySem.W.Frag} {mg : Str → Option Value} {base : Heap}
def sp_unlike_right (K : PySem.W.Frag) : Sp := fun vs H Q _ => ∃ v x, ∃ (N : Addr → Prop) (l : Addr) (rvs : List V) (rows : List URow), vs = [v, .ref l] ∧ VwR K H v x ∧ VOK x ∧ RmOk K H x.room ∧ H l = some (.lst rvs) ∧ Paired (URowR N H) rvs rows ∧ unlikeB x rows = true ∧ rows.length ≤ 2000 ∧ ∀ H', Same H H' → Q (.bl true) H'
abbrev N_unlike_right : List Str := ["view", "rows", "met", "at", "row", "word", "side", "spot", "left", "right", "cuts", "halves"]
theorem sc_unlike_right : FnScope N_unlike_right ["view", "rows"] (defScope s_unlike_right) := ⟨rfl, rfl, rfl, by decide +kernel, rfl, by decide +kernel, by decide +kernel⟩
theorem ok_unlike_right (T : Txt K mg) : GF P w K mg base 6 "unlike_right" ["view", "rows"] (sp_unlike_right K) := by
  have nd := sc_unlike_right.nd
  refine gf_of T (d := d_unlike_right) (x := "unlike_right") rfl rfl rfl (i := 57) rfl (by decide +kernel) sc_unlike_right (fun _ _ _ _ _ _ us hl => match us, hl with | [_, _], _ => rfl) (fun vs H Q E h => ?_) (fun cdv A outer s H vs Q E hr h => ?_)
  · obtain ⟨v, x, N, l, rvs, rows, rfl, _⟩ := h; rfl
  · refine ⟨_, (pss_cons (ps_if (PW.pt (pw_or (pt_not (pt_val (pe_callB call_isB rfl (T.free "isinstance") (by decide +kernel) (pa_cons (pv 1) (pa_cons (pe_bltn (v := .ty "list") (u := .type "list") rfl (T.free "list") (by decide +kernel) rfl) pa_nil))))) (pw_or1 (pt_cmpR (op_eqLen hr.units0) (pv 1) (pe_lst pa_nil) (nomark _))))) (pss_one (ps_ret pe_bl)) pss_nil)
      (pss_cons (ps_set (i := 2) nd rfl (Or.inl rfl) (pe_disp (pps_cons pe_int (pe_callG (ok_whole_box T) (hr.mono (by decide)) rfl (pa_cons (pv 0) pa_nil)) pps_nil) (by rfl) (by rfl) (fun z => by cases z) (by decide)))
      (pss_cons (ps_for PassesOwn.never rfl (pi_enum rfl (T.free "enumerate") (pa_cons (pv 1) pa_nil)) (pg_tup rfl (pgs_cons (pg_name (i := 3) nd rfl (Or.inl rfl)) (pgs_cons (pg_name (i := 4) nd rfl (Or.inl rfl)) pgs_nil))) (pss_cons (ps_if (pt_cmp (pc_dnotin (hu_of hr) (pv 3) (pv 2)) rfl) (pss_one (ps_ret pe_bl)) pss_nil)
      (pss_one (ps_if (pt_val (pe_callG (ok_is_so T) (hr.mono (by decide)) rfl (pa_cons (pv 4) (pa_cons pe_str (pa_cons pe_int pa_nil))))) (pss_cons (ps_asg (pv 4) (pg_tup rfl (pgs_cons (pg_name (i := 5) nd rfl (Or.inl rfl)) (pgs_cons (pg_name (i := 6) nd rfl (Or.inl rfl)) (pgs_cons (pg_name (i := 7) nd rfl (Or.inl rfl)) (pgs_cons (pg_name (i := 8) nd rfl (Or.inl rfl)) (pgs_cons (pg_name (i := 9) nd rfl (Or.inl rfl)) (pgs_cons (pg_name (i := 10) nd rfl (Or.inl rfl)) pgs_nil))))))))
      (pss_cons (ps_set (i := 11) nd rfl (Or.inl rfl) (pe_callG (ok_cut_of T) (hr.mono (by decide)) rfl (pa_cons (pe_dget (hu_of hr) (pv 2) (pv 3) (fun _ _ => rfl)) (pa_cons (pv 6) (pa_cons (pv 7) pa_nil)))))
      (pss_cons (ps_if (PW.pt (pw_or (pt_cmpR op_isN (pv 11) pe_non (nomark _)) (pw_or (pt_not (pt_val (pe_callG (ok_are_later T) (hr.mono (by decide)) rfl (pa_cons (pv 8) (pa_cons (pv 9) (pa_cons (pv 3) (pa_cons (pv 2) pa_nil))))))) (pw_or1 (pt_not (pt_val (pe_callG (ok_cuts_right T) (hr.mono (by decide)) rfl (pa_cons (pe_tup (pa_cons (pv 0) (pa_cons (pv 0) pa_nil))) (pa_cons (pv 11) (pa_cons (pv 10) pa_nil)))))))))) (pss_one (ps_ret pe_bl)) pss_nil)
      (pss_one (ps_asg (pv 11) (pg_tup rfl (pgs_cons (pg_sub (pv 2) (pv 8) (set_dict (hu_of hr))) (pgs_cons (pg_sub (pv 2) (pv 9) (set_dict (hu_of hr))) pgs_nil)))))))) (pss_one (ps_if (PW.pt (pw_or (pt_not (pt_val (pe_callG (ok_is_so T) (hr.mono (by decide)) rfl (pa_cons (pv 4) (pa_cons pe_str (pa_cons pe_int pa_nil)))))) (pw_or1 (pt_not (pt_val (pe_callG (ok_is_single T) (hr.mono (by decide)) rfl (pa_cons (pe_dget (hu_of hr) (pv 2) (pv 3) (fun _ _ => rfl)) pa_nil))))))) (pss_one (ps_ret pe_bl)) pss_nil))))))
      (pss_one (ps_ret (pe_cmpR op_eq (pe_callB call_lenD rfl (T.free "len") boot_len (pa_cons (pv 2) pa_nil)) (pe_callB call_len_seq rfl (T.free "len") boot_len (pa_cons (pv 1) pa_nil)) (nomark _))))))), ?_⟩
    obtain ⟨v, x, N, l, rvs, rows, rfl, hV, hO, hrm, hl, hrs, hB, hlen, q⟩ := h
    have fx := hO.lens.few
    have lr := Paired.len hrs
    unfold unlikeB at hB
    obtain ⟨hB0, hB1⟩ := Bool.and_eq_true _ _ |>.mp hB
    cases hrun : runU x [(0, wbox x.ls)] 0 rows with
    | none => rw [hrun] at hB1; cases hB1
    | some mf =>
    rw [hrun] at hB1
    have hmf : mf.length = rows.length := of_decide_eq_true hB1
    have hne : rows ≠ [] := by rintro rfl; simp at hB0
    refine ⟨_, rfl, _, _, _, true, rfl, .lst hl, by decide +kernel, true, rfl, iteF ⟨_, rfl, by show 0 ≤ sizeLine; decide, fun l0 hl0 => ?_⟩⟩
    have s1 : Same H (upd H l0 (.lst [])) := Same.new hl0
    have hne' : rvs.length ≠ ([] : List V).length := by
      intro e
      rw [lr] at e
      exact hne (List.length_eq_zero_iff.mp e)
    refine ⟨l, l0, rvs, [], rfl, rfl, s1 _ _ hl, upd_same, hne', false, rfl, iteF ?_⟩
    rintro d hd
    have hd0 : H d = none := s1.free hd
    have s1d := s1.trans (Same.new hd (o := .dK []))
    refine ⟨_, rfl, _, x, rfl, mon_vw.up (.of s1d) hV, fx, fun wb H2 s2 hwb => ⟨s2 _ _ upd_same, [(.inl 0, wb)], rfl, by show 1 ≤ 15; decide, ?_⟩⟩
    have hd2 : H2 d = some (.dK []) := s2 _ _ upd_same
    have s3 : Same H (upd H2 d (.dK (mergeK [] [(Sum.inl 0, wb)]))) := Same.mut (s1d.trans s2) hd0
    refine ⟨_, rfl, l, _, rfl, SqL.of (s3 _ _ hl), for_it walk_enum (fun i σ H' => (∃ z3 z4 z5 z6 z7 z8 z9 z10 z11, σ = [some v, some (.ref l), some (.ref d), z3, z4, z5, z6, z7, z8, z9, z10, z11]) ∧ Same H H' ∧ ∃ met kvs, H' d = some (.dK kvs) ∧ Paired (DRel BoxR H') kvs met ∧ runU x [(0, wbox x.ls)] 0 (rows.take i) = some met ∧ (∀ k z, (k, z) ∈ met → BB x.ls.length z) ∧ met.length ≤ 1 + 2 * i)
      ⟨⟨none, none, none, none, none, none, none, none, none, rfl⟩, s3, [(0, wbox x.ls)], [(.inl 0, wb)], by rw [upd_same]; rfl, .cons ⟨rfl, mon_box.up (K := K) (KT.dk hd2) hwb⟩ .nil, rfl, fun k z hz => ?_, by show 1 ≤ 1; decide⟩ (fun i σ H' _ p => SqL.of (p.2.1 _ _ hl)) ?_ ?_⟩
    · rw [List.mem_singleton] at hz; cases hz; exact bb_wbox hO.lens.rng
    · rintro i yy σ H4 H9 hi ⟨⟨z3, z4, z5, z6, z7, z8, z9, z10, z11, rfl⟩, s4, met, kvs, hd4, hp, hrn, hpb, hml⟩ ⟨t, x1, x2, rfl, hn, rfl, e1, e2⟩
      cases e1
      obtain ⟨row, hr, hR⟩ := Paired.get hrs e2
      have s5 : Same H4 (upd H4 t (.tup [.int (i : Nat), x2])) := Same.new hn
      refine ⟨t, _, rfl, SqT.of upd_same, rfl, _, _, rfl, _, _, rfl, rfl, ?_⟩
      have s45 := s4.trans s5
      have hd5 := s5 _ _ hd4
      have hp5 := dr_mapP (fun v a h => mon_box.up (K := K) (.of s5) h) hp
      have lk := Paired.len hp5
      generalize upd H4 t (.tup [.int (i : Nat), x2]) = H5 at s5 s45 hd5 hp5
      obtain ⟨met', hst, hrn'⟩ := runU_step hrun hrn hr
      obtain ⟨n1, n2⟩ := dr_get (k := (i : Int)) hp5
      have hst0 := hst
      unfold stepU at hst
      cases hF : met.lookup (i : Int) with
      | none => rw [hF] at hst; cases hst
      | some bx =>
      rw [hF] at hst
      obtain ⟨pv, hpv, hpp⟩ := n2 bx hF
      have Bx := hpb _ _ (lookup_mem hF)
      refine ⟨_, rfl, _, rfl, d, _, rfl, .inl ⟨kvs, .inl (i : Int), .inl hd5, rfl, rfl⟩, _, rfl, ?_⟩
      rw [hpv]
      refine iteF ?_
      cases row with
      | single =>
        obtain ⟨ra, rfl, hra⟩ := hR
        have hra5 := s45 _ _ hra
        have hsb : singleB bx = true ∧ met' = met := by
          simp only at hst
          split at hst
          · rename_i c; cases hst; exact ⟨c, rfl⟩
          · cases hst
        obtain ⟨hsb, rfl⟩ := hsb
        refine ⟨_, rfl, ra, "single", "halves", [], 1, 6, rfl, hra5, rfl, false, congrArg V.bl (by decide +kernel), iteF ⟨_, rfl, ra, "single", "single", [], 1, 1, rfl, hra5, rfl, true, congrArg V.bl (by decide +kernel), iteF ?_⟩⟩
        refine ⟨_, rfl, _, rfl, d, pv, rfl, .inl ⟨kvs, .inl (i : Int), .inl hd5, rfl, hpv.symm⟩, _, bx, rfl, hpp, by rw [Bx.len]; exact fx, fun H6 s6 => ⟨true, by rw [hsb], iteF ?_⟩⟩
        exact ⟨⟨_, _, _, _, _, _, _, _, _, rfl⟩, s45.trans s6, met', kvs, s6 _ _ hd5, dr_mapP (fun v a h => mon_box.up (K := K) (.of s6) h) hp5, hrn', hpb, by omega⟩
      | halves s a ll rr cuts =>
        obtain ⟨ra, lc, cvs, rfl, hra, _, hlc, hcs, hcl⟩ := hR
        have hra5 := s45 _ _ hra
        simp only at hst
        cases hcut : cutB bx s a with
        | none => rw [hcut] at hst; cases hst
        | some h =>
        rw [hcut] at hst
        simp only at hst
        split at hst
        case isFalse => cases hst
        case isTrue c =>
        cases hst
        obtain ⟨hlt, hcb⟩ := Bool.and_eq_true _ _ |>.mp c
        obtain ⟨Bh1, Bh2⟩ := cut_bb hcut Bx
        have hcne : cuts ≠ [] := by rintro rfl; unfold cutsB at hcb; simp at hcb
        refine ⟨_, rfl, ra, "halves", "halves", _, 6, 6, rfl, hra5, rfl, true, congrArg V.bl (by decide +kernel), iteT ?_⟩
        refine ⟨_, rfl, ra, _, rfl, SqT.of hra5, rfl, _, _, rfl, _, _, rfl, _, _, rfl, _, _, rfl, _, _, rfl, _, _, rfl, rfl, ?_⟩
        refine ⟨_, rfl, _, rfl, d, pv, rfl, .inl ⟨kvs, .inl (i : Int), .inl hd5, rfl, hpv.symm⟩, _, rfl, _, rfl, _, bx, s, a, rfl, hpp, by rw [Bx.len]; exact fx, fun wv H6 s6 hwv => ?_⟩
        rw [hcut] at hwv
        obtain ⟨zh, xh1, xh2, rfl, hzh, g1, g2⟩ := hwv
        have s46 := s45.trans s6
        have hd6 := s6 _ _ hd5
        have hp6 := dr_mapP (fun v a h => mon_box.up (K := K) (.of s6) h) hp5
        refine ⟨_, rfl, rfl, false, rfl, iteF ⟨_, rfl, _, rfl, _, rfl, _, rfl, ll, rr, (i : Int), d, _, BoxR, kvs, met, rfl, hd6, hp6, true, by rw [hlt], iteF ?_⟩⟩
        refine ⟨_, rfl, _, rfl, by show 2 ≤ sizeLine; decide, fun t1 ht1 => ?_⟩
        have s7 : Same H6 (upd H6 t1 (.tup [v, v])) := Same.new ht1
        have s47 := s46.trans s7
        have hV7 := mon_vw.up (.of s47) hV
        refine ⟨_, rfl, _, rfl, _, _, x, x, h, lc, cvs, cuts, rfl, ⟨t1, v, v, rfl, upd_same, hV7, hV7⟩, hO, hO, hrm.same s47, hrm.same s47, ⟨zh, xh1, xh2, rfl, s7 _ _ hzh, mon_box.up (K := K) (.of s7) g1, mon_box.up (K := K) (.of s7) g2⟩, ⟨Bh1, Bh2⟩, s47 _ _ hlc, Paired.mapP hcs fun _ _ h => mon_row.up (K := K) (.of s47) h, hcne, hcl, fun H8 s8 => ⟨true, by rw [hcb], iteF ?_⟩⟩
        have s68 := s7.trans s8
        have hd8 := s68 _ _ hd6
        have hp8 := dr_mapP (fun v a h => mon_box.up (K := K) (.of s68) h) hp6
        have hlt' := hlt
        unfold laterB at hlt'
        simp only [Bool.and_eq_true, decide_eq_true_eq, Option.isNone_iff_eq_none] at hlt'
        obtain ⟨c1, _, c4, c5⟩ := hlt'
        have szk : kvs.length + 2 < sizeLine := by
          have hil : i < rows.length := (List.getElem?_eq_some_iff.mp hr).1
          rw [sizeLine_eq]; omega
        have v4 := (dr_get (k := ll) hp8).1 c4
        have v5 := (dr_get (k := rr) hp8).1 c5
        refine ⟨_, rfl, zh, _, rfl, SqT.of (s68 _ _ hzh), rfl, _, _, rfl, _, rfl, _, rfl, d, _, rfl, .inl ⟨kvs, .inl ll, hd8, rfl, by omega, rfl⟩, ?_⟩
        rw [putK_new _ v4]
        have v5' : valV (kvs ++ [(Sum.inl ll, xh1)]) (.inl rr) = none := by
          rw [valV_snoc _ _ _ _ v4, if_neg (fun e => c1 (by injection e with e; exact e.symm))]; exact v5
        refine ⟨_, _, rfl, _, rfl, _, rfl, d, _, rfl, .inl ⟨kvs ++ [(.inl ll, xh1)], .inl rr, upd_same, rfl, by rw [List.length_append, List.length_singleton]; omega, rfl⟩, rfl, ?_⟩
        rw [putK_new _ v5']
        have kt2 : KT K H8 (upd (upd H8 d (.dK (kvs ++ [(.inl ll, xh1)]))) d (.dK (kvs ++ [(.inl ll, xh1)] ++ [(.inl rr, xh2)]))) := (KT.dk hd8).trans (KT.dk upd_same)
        have up2 : ∀ v a, BoxR H8 v a → BoxR (upd (upd H8 d (.dK (kvs ++ [(.inl ll, xh1)]))) d (.dK (kvs ++ [(.inl ll, xh1)] ++ [(.inl rr, xh2)]))) v a := fun v a h => mon_box.up kt2 h
        refine ⟨⟨_, _, _, _, _, _, _, _, _, rfl⟩, Same.mut (Same.mut (s46.trans s68) hd0) hd0, met ++ [(ll, h.1), (rr, h.2)], _, upd_same, ?_, hrn', fun k z hz => ?_, by rw [List.length_append]; show _ + 2 ≤ _; omega⟩
        · have := Paired.app (Paired.app (dr_mapP up2 hp8) (x := ((.inl ll : Key), xh1)) (y := (ll, h.1)) ⟨rfl, up2 _ _ (mon_box.up (K := K) (.of s68) g1)⟩) (x := ((.inl rr : Key), xh2)) (y := (rr, h.2)) ⟨rfl, up2 _ _ (mon_box.up (K := K) (.of s68) g2)⟩
          simpa using this
        · rcases List.mem_append.mp hz with hz | hz
          · exact hpb k z hz
          · rcases List.mem_cons.mp hz with hz | hz
            · cases hz; exact Bh1
            · rw [List.mem_singleton] at hz; cases hz; exact Bh2
    · rintro σ H4 ⟨⟨z3, z4, z5, z6, z7, z8, z9, z10, z11, rfl⟩, s4, met, kvs, hd4, hp, hrn, hpb, hml⟩
      have lk := Paired.len hp
      rw [lr, List.take_length, hrun] at hrn
      cases hrn
      refine ⟨_, rfl, d, _, rfl, hd4, _, rfl, l, _, rfl, .inl (SqL.of (s4 _ _ hl)), rfl, ?_⟩
      rw [dec_int, lk, lr, hmf, beq_self_eq_true]
      exact q H4 s4
end
section
variable {P : Program} {w : World} {K : PySem.W.Frag} {mg : Str → Option Value} {base : Heap}
def sp_unlike_holds (K : PySem.W.Frag) : Sp := fun vs H Q _ => ∃ v w x pap, ∃ N : Addr → Prop, vs = [v, w] ∧ VwR K H v x ∧ VOK x ∧ RmOk K H x.room ∧ UPapR N H w pap ∧ UPapOk x pap ∧ ∀ H', Same H H' → Q (.bl true) H'
abbrev N_unlike_holds : List Str := ["view", "thing", "one", "other"]
theorem sc_unlike_holds : FnScope N_unlike_holds ["view", "thing"] (defScope s_unlike_holds) := ⟨rfl, rfl, rfl, by decide +kernel, rfl, by decide +kernel, by decide +kernel⟩
theorem ok_unlike_holds (T : Txt K mg) : GF P w K mg base 7 "unlike_holds" ["view", "thing"] (sp_unlike_holds K) := by
  have nd := sc_unlike_holds.nd
  refine gf_of T (d := d_unlike_holds) (x := "unlike_holds") rfl rfl rfl (i := 58) rfl (by decide +kernel) sc_unlike_holds (fun _ _ _ _ _ _ us hl => match us, hl with | [_, _], _ => rfl) (fun vs H Q E h => ?_) (fun cdv A outer s H vs Q E hr h => ?_)
  · obtain ⟨v, w, x, pap, N, rfl, _⟩ := h; rfl
  · refine ⟨_, (pss_cons (ps_if (pt_val (pe_callG (ok_is_so T) (hr.mono (by decide)) rfl (pa_cons (pv 1) (pa_cons pe_str (pa_cons pe_int pa_nil))))) (pss_cons (ps_asg (pe_slice sl_tupA (pv 1) (po_some pe_int) po_none) (pg_tup rfl (pgs_cons (pg_name (i := 2) nd rfl (Or.inl rfl)) (pgs_cons (pg_name (i := 3) nd rfl (Or.inl rfl)) pgs_nil))))
      (pss_cons (ps_if (PW.pt (pw_or (pt_not (pt_val (pe_callG (ok_is_told_place T) (hr.mono (by decide)) rfl (pa_cons (pe_methG0 (ok_View_sides T) (hr.mono (by decide)) (pv 0)) (pa_cons (pv 2) pa_nil))))) (pw_or1 (pt_not (pt_val (pe_callG (ok_is_told_place T) (hr.mono (by decide)) rfl (pa_cons (pe_methG0 (ok_View_sides T) (hr.mono (by decide)) (pv 0)) (pa_cons (pv 3) pa_nil)))))))) (pss_one (ps_ret pe_bl)) pss_nil)
      (pss_one (ps_ret (pe_and (pe_cmpR (op_neInts hr.units) (pv 2) (pv 3) (nomark _)) (pe_one (pe_cmpR op_eq (pe_methG (ok_View_cell T) (hr.mono (by decide)) (pv 0) (pa_cons (pv 2) pa_nil)) (pe_methG (ok_View_cell T) (hr.mono (by decide)) (pv 0) (pa_cons (pv 3) pa_nil)) (nomark _)))))))) pss_nil)
      (pss_one (ps_ret (pe_and (pe_callG (ok_is_so T) (hr.mono (by decide)) rfl (pa_cons (pv 1) (pa_cons pe_str (pa_cons pe_int pa_nil)))) (pe_one (pe_callG (ok_unlike_right T) (hr.mono (by decide)) rfl (pa_cons (pv 0) (pa_cons (pe_ix ix_tup (pv 1) pe_int (fun _ _ => rfl)) pa_nil)))))))), ?_⟩
    obtain ⟨v, w, x, pap, N, rfl, hV, hO, hrm, hR, hok, q⟩ := h
    have fx := hO.lens.few
    obtain ⟨a, dx, la0, sa0, rfl, h1, h2, h3⟩ := id hV
    cases pap with
    | unlike rows =>
      obtain ⟨ra, l, rvs, rfl, hra, _, hl, hrs⟩ := hR
      obtain ⟨k1, k2, _⟩ := hok
      refine ⟨_, rfl, ra, "unlike", "twice", _, 2, 3, rfl, hra, rfl, false, congrArg V.bl (by decide +kernel), iteF ⟨_, rfl, ra, "unlike", "unlike", _, 2, 2, rfl, hra, rfl, true, congrArg V.bl (by decide +kernel), iteT ?_⟩⟩
      exact ⟨_, rfl, _, rfl, ra, _, _, _, rfl, rfl, SqT.of hra, at_of (j := 1) (v := .ref l) rfl rfl, _, x, N, l, rvs, rows, rfl, hV, hO, hrm, hl, hrs, k1, k2, q⟩
    | twice p t =>
      obtain ⟨ra, u1, u2, rfl, hra, g1, g2⟩ := hR
      obtain ⟨k1, k2, k3, k4⟩ := hok
      have lp := k1.len
      have lt := k2.len
      refine ⟨_, rfl, ra, "twice", "twice", _, 3, 3, rfl, hra, rfl, true, congrArg V.bl (by decide +kernel), iteT ⟨_, rfl, 1, rfl, noPart (slA_ok hra fun c H1 s1 e1 => ?_)⟩⟩
      have e1' : H1 c = some (.tup [u1, u2]) := by
        rw [e1]
        have := cut_from (xs := [V.str "twice", u1, u2]) (i := 1) (by show 1 ≤ 3; decide)
        exact congrArg (fun z => some (HO.tup z)) this
      refine ⟨c, _, rfl, SqT.of e1', rfl, _, _, rfl, _, _, rfl, rfl, ?_⟩
      refine ⟨_, rfl, a, dx, _, rfl, s1 _ _ h1, rfl, _, x, rfl, mon_vw.up (.of s1) hV, fun la hla => ⟨_, rfl, _, _, x.ls, p, rfl, ⟨la, rfl, hla⟩, mon_it.up (K := K) (.of s1) g1, by omega, by omega, fun b1 H2 s2 hb1 => ⟨b1, rfl, ?_⟩⟩⟩
      have : b1 = true := hb1.mpr k1
      subst this
      have s12 := s1.trans s2
      refine iteF ⟨_, rfl, a, dx, _, rfl, s12 _ _ h1, rfl, _, x, rfl, mon_vw.up (.of s12) hV, fun la hla => ⟨_, rfl, _, _, x.ls, t, rfl, ⟨la, rfl, hla⟩, mon_it.up (K := K) (.of s12) g2, by omega, by omega, fun b2 H3 s3 hb2 => ⟨b2, rfl, ?_⟩⟩⟩
      have : b2 = true := hb2.mpr k2
      subst this
      have s13 := s12.trans s3
      obtain ⟨c1, ec1, hc1⟩ := mon_it.up (K := K) (.of s13) g1
      obtain ⟨c2, ec2, hc2⟩ := mon_it.up (K := K) (.of s13) g2
      subst ec1 ec2
      refine iteF ⟨_, rfl, _, rfl, c1, c2, p, t, rfl, rfl, .inr ⟨SqT.of hc1, SqT.of hc2⟩, true, ?_, iteT ?_⟩
      · show V.bl (!decide (p = t)) = V.bl true
        rw [decide_eq_false k3]; rfl
      refine ⟨_, rfl, a, dx, _, rfl, s13 _ _ h1, rfl, _, rfl, _, x, _, p, rfl, mon_vw.up (.of s13) hV, hO, ⟨c1, rfl, hc1⟩, k1, fun H4 s4 => ?_⟩
      have s14 := s13.trans s4
      refine ⟨_, rfl, a, dx, _, rfl, s14 _ _ h1, rfl, _, rfl, _, x, _, t, rfl, mon_vw.up (.of s14) hV, hO, ⟨c2, rfl, s4 _ _ hc2⟩, k2, fun H5 s5 => ⟨rfl, ?_⟩⟩
      rw [dec_int, show (x.b + dot p x.ss == x.b + dot t x.ss) = true from beq_iff_eq.mpr k4]
      exact q H5 (s14.trans s5)
end
section
variable {P : Program} {w : World} {K : PySem.W.Frag} {mg : Str → Option Value} {base : Heap}
def sp_cuts_hold (K : PySem.W.Frag) : Sp := fun vs H Q _ => ∃ v u x y, ∃ (a : Addr) (s : Str) (rest : List V), vs = [v, u, .ref a] ∧ VwR K H v x ∧ VOK x ∧ VwR K H u y ∧ VOK y ∧ RmOk K H x.room ∧ RmOk K H y.room ∧ H a = some (.tup (.str s :: rest)) ∧
  ((∃ p q u1 u2, s = "meet" ∧ rest = [u1, u2] ∧ IT H u1 p ∧ IT H u2 q ∧ p.length ≤ 1000 ∧ q.length ≤ 1000 ∧ ∀ b H', Same H H' → (b = true ↔ (InP x.ls p ∧ InP y.ls q ∧ x.room = y.room ∧ cl x p = cl y q)) → Q (.bl b) H') ∨
   (∃ l rvs rows, s = "apart" ∧ rest = [.ref l] ∧ H l = some (.lst rvs) ∧ Paired (RowR H) rvs rows ∧ rows ≠ [] ∧ rows.length ≤ 2000000 ∧ ∀ H', Same H H' → Q (.bl (cutsB x y (wbox x.ls, wbox y.ls) rows)) H') ∨
   ((decide (((rest.length + 1 : Nat) : Int) = 3) && decide (s = Str.ofString "meet")) = false ∧ (decide (((rest.length + 1 : Nat) : Int) = 2) && decide (s = Str.ofString "apart")) = false ∧ ∀ H', Same H H' → Q (.bl false) H'))
abbrev N_cuts_hold : List Str := ["one", "other", "thing"]
theorem sc_cuts_hold : FnScope N_cuts_hold ["one", "other", "thing"] (defScope s_cuts_hold) := ⟨rfl, rfl, rfl, by decide +kernel, rfl, by decide +kernel, by decide +kernel⟩
theorem ok_cuts_hold (T : Txt K mg) : GF P w K mg base 6 "cuts_hold" ["one", "other", "thing"] (sp_cuts_hold K) := by
  have nd := sc_cuts_hold.nd
  refine gf_of T (d := d_cuts_hold) (x := "cuts_hold") rfl rfl rfl (i := 55) rfl (by decide +kernel) sc_cuts_hold (fun _ _ _ _ _ _ us hl => match us, hl with | [_, _, _], _ => rfl) (fun vs H Q E h => ?_) (fun cdv A outer s H vs Q E hr h => ?_)
  · obtain ⟨v, u, x, y, a, s, rest, rfl, _⟩ := h; rfl
  · refine ⟨_, (pss_cons (ps_if (pt_val (pe_callG (ok_is_so T) (hr.mono (by decide)) rfl (pa_cons (pv 2) (pa_cons pe_str (pa_cons pe_int pa_nil))))) (pss_cons (ps_if (PW.pt (pw_or (pt_not (pt_val (pe_callG (ok_is_told_place T) (hr.mono (by decide)) rfl (pa_cons (pe_methG0 (ok_View_sides T) (hr.mono (by decide)) (pv 0)) (pa_cons (pe_ix ix_tup (pv 2) pe_int (fun _ _ => rfl)) pa_nil))))) (pw_or1 (pt_not (pt_val (pe_callG (ok_is_told_place T) (hr.mono (by decide)) rfl (pa_cons (pe_methG0 (ok_View_sides T) (hr.mono (by decide)) (pv 1)) (pa_cons (pe_ix ix_tup (pv 2) pe_int (fun _ _ => rfl)) pa_nil)))))))) (pss_one (ps_ret pe_bl)) pss_nil)
      (pss_one (ps_ret (pe_and (pe_cmpR (op_EqRoom T (hu_of hr)) (pe_methG0 (ok_View_room T) (hr.mono (by decide)) (pv 0)) (pe_methG0 (ok_View_room T) (hr.mono (by decide)) (pv 1)) (nomark _)) (pe_one (pe_cmpR op_eq (pe_methG (ok_View_cell T) (hr.mono (by decide)) (pv 0) (pa_cons (pe_ix ix_tup (pv 2) pe_int (fun _ _ => rfl)) pa_nil)) (pe_methG (ok_View_cell T) (hr.mono (by decide)) (pv 1) (pa_cons (pe_ix ix_tup (pv 2) pe_int (fun _ _ => rfl)) pa_nil)) (nomark _))))))) pss_nil)
      (pss_cons (ps_if (pt_val (pe_callG (ok_is_so T) (hr.mono (by decide)) rfl (pa_cons (pv 2) (pa_cons pe_str (pa_cons pe_int pa_nil))))) (pss_one (ps_ret (pe_callG (ok_cuts_right T) (hr.mono (by decide)) rfl (pa_cons (pe_tup (pa_cons (pv 0) (pa_cons (pv 1) pa_nil))) (pa_cons (pe_tup (pa_cons (pe_callG (ok_whole_box T) (hr.mono (by decide)) rfl (pa_cons (pv 0) pa_nil)) (pa_cons (pe_callG (ok_whole_box T) (hr.mono (by decide)) rfl (pa_cons (pv 1) pa_nil)) pa_nil))) (pa_cons (pe_ix ix_tup (pv 2) pe_int (fun _ _ => rfl)) pa_nil)))))) pss_nil)
      (pss_one (ps_ret pe_bl)))), ?_⟩
    obtain ⟨v, u, x, y, ra, s, rest, rfl, hV, hOx, hU, hOy, hrx, hry, hra, hc⟩ := h
    have fx := hOx.lens.few
    have fy := hOy.lens.few
    obtain ⟨a, dx, la0, sa0, rfl, h1, h2, h3⟩ := id hV
    obtain ⟨b, dy, lb0, sb0, rfl, k1, k2, k3⟩ := id hU
    obtain ⟨rdx, gx, hrx'⟩ := id hrx
    obtain ⟨rdy, gy, hry'⟩ := id hry
    rcases hc with ⟨p, t, u1, u2, rfl, rfl, g1, g2, lp, lt, q⟩ | ⟨l, rvs, rows, rfl, rfl, hl, hrs, hne, hlen, q⟩ | ⟨e1, e2, q⟩
    · refine ⟨_, rfl, ra, "meet", "meet", _, 3, 3, rfl, hra, rfl, true, congrArg V.bl (by decide +kernel), iteT ?_⟩
      refine ⟨_, rfl, a, dx, _, rfl, h1, rfl, _, x, rfl, hV, fun la hla => ⟨_, rfl, ra, _, _, _, rfl, rfl, SqT.of hra, at_of (j := 1) (v := u1) rfl rfl, _, _, x.ls, p, rfl, ⟨la, rfl, hla⟩, g1, by omega, lp, fun b1 H2 s2 hb1 => ⟨b1, rfl, ?_⟩⟩⟩
      cases b1 with
      | false => exact iteT (iteT (q false H2 s2 ⟨fun h => (nomatch h), fun h => hb1.mpr h.1⟩))
      | true =>
      have i1 := hb1.mp rfl
      refine iteF ⟨_, rfl, b, dy, _, rfl, s2 _ _ k1, rfl, _, y, rfl, mon_vw.up (.of s2) hU, fun lb hlb => ⟨_, rfl, ra, _, _, _, rfl, rfl, SqT.of (s2 _ _ hra), at_of (j := 2) (v := u2) rfl rfl, _, _, y.ls, t, rfl, ⟨lb, rfl, hlb⟩, mon_it.up (K := K) (.of s2) g2, by omega, lt, fun b2 H3 s3 hb2 => ⟨b2, rfl, ?_⟩⟩⟩
      have s23 := s2.trans s3
      cases b2 with
      | false => exact iteT (q false H3 s23 ⟨fun h => (nomatch h), fun h => hb2.mpr h.2.1⟩)
      | true =>
      have i2 := hb2.mp rfl
      refine iteF ⟨_, rfl, a, dx, _, rfl, s23 _ _ h1, rfl, _, x, rfl, mon_vw.up (.of s23) hV, _, rfl, b, dy, _, rfl, s23 _ _ k1, rfl, _, y, rfl, mon_vw.up (.of s23) hU, x.room, y.room, rdx, rdy, gx, gy, rfl, rfl, s23 _ _ hrx', s23 _ _ hry', decide (x.room = y.room), rfl, ?_⟩
      by_cases hr : x.room = y.room
      case neg =>
        rw [decide_eq_false hr]
        exact iteF (q false H3 s23 ⟨fun h => (nomatch h), fun h => absurd h.2.2.1 hr⟩)
      rw [decide_eq_true hr]
      refine iteT ⟨_, rfl, a, dx, _, rfl, s23 _ _ h1, rfl, _, rfl, ra, _, _, _, rfl, rfl, SqT.of (s23 _ _ hra), at_of (j := 1) (v := u1) rfl rfl, _, x, _, p, rfl, mon_vw.up (.of s23) hV, hOx, mon_it.up (K := K) (.of s23) g1, i1, fun H4 s4 => ?_⟩
      have s24 := s23.trans s4
      refine ⟨_, rfl, b, dy, _, rfl, s24 _ _ k1, rfl, _, rfl, ra, _, _, _, rfl, rfl, SqT.of (s24 _ _ hra), at_of (j := 2) (v := u2) rfl rfl, _, y, _, t, rfl, mon_vw.up (.of s24) hU, hOy, mon_it.up (K := K) (.of s24) g2, i2, fun H5 s5 => ⟨rfl, ?_⟩⟩
      rw [dec_int]
      refine q _ H5 (s24.trans s5) ?_
      rw [beq_iff_eq]
      exact ⟨fun h => ⟨i1, i2, hr, h⟩, fun h => h.2.2.2⟩
    · refine ⟨_, rfl, ra, "apart", "meet", _, 2, 3, rfl, hra, rfl, false, congrArg V.bl (by decide +kernel), iteF ⟨_, rfl, ra, "apart", "apart", _, 2, 2, rfl, hra, rfl, true, congrArg V.bl (by decide +kernel), iteT ?_⟩⟩
      refine ⟨_, rfl, _, rfl, by show 2 ≤ sizeLine; decide, fun t1 ht1 => ?_⟩
      have s1 : Same H (upd H t1 (.tup [.ref a, .ref b])) := Same.new ht1
      refine ⟨_, rfl, _, x, rfl, mon_vw.up (.of s1) hV, fx, fun w1 H2 s2 b1 => ⟨_, rfl, _, y, rfl, mon_vw.up (.of (s1.trans s2)) hU, fy, fun w2 H3 s3 b2 => ⟨by show 2 ≤ sizeLine; decide, fun t2 ht2 => ?_⟩⟩⟩
      have s4 : Same H3 (upd H3 t2 (.tup [w1, w2])) := Same.new ht2
      have s14 := (s2.trans s3).trans s4
      have s04 := s1.trans s14
      refine ⟨_, rfl, ra, _, _, _, rfl, rfl, SqT.of (s04 _ _ hra), at_of (j := 1) (v := .ref l) rfl rfl, ?_⟩
      exact ⟨_, _, x, y, (wbox x.ls, wbox y.ls), l, rvs, rows, rfl, ⟨t1, _, _, rfl, s14 _ _ upd_same, mon_vw.up (.of s04) hV, mon_vw.up (.of s04) hU⟩, hOx, hOy, hrx.same s04, hry.same s04, ⟨t2, w1, w2, rfl, upd_same, mon_box.up (K := K) (.of (s3.trans s4)) b1, mon_box.up (K := K) (.of s4) b2⟩, ⟨bb_wbox hOx.lens.rng, bb_wbox hOy.lens.rng⟩, s04 _ _ hl, Paired.mapP hrs fun _ _ h => mon_row.up (K := K) (.of s04) h, hne, hlen, fun H' s' => q H' (s04.trans s')⟩
    · refine ⟨_, rfl, ra, s, "meet", rest, _, 3, rfl, hra, rfl, false, congrArg V.bl e1, iteF ⟨_, rfl, ra, s, "apart", rest, _, 2, rfl, hra, rfl, false, congrArg V.bl e2, iteF (q H (Same.refl H))⟩⟩
    
end
end Vg

namespace Vg
open PySem PySem.Spec PyProof.Rows L2 RZ RT
/-! ### the law's purse -/
def PU (H : Hp) (pa : Addr) (k : Nat) : Prop := ∃ d s n : Int, H pa = some (.lst [.int d, .int s, .int n]) ∧ 0 ≤ d ∧ 0 ≤ s ∧ s ≤ 2 ^ 63 ∧ 0 ≤ n ∧ n ≤ (k : Int)
def SX (pa : Addr) (H H' : Hp) : Prop := ∀ b o, b ≠ pa → H b = some o → H' b = some o
theorem SX.refl {pa : Addr} (H : Hp) : SX pa H H := fun _ _ _ e => e
theorem SX.trans {pa : Addr} {H H1 H2 : Hp} (a : SX pa H H1) (b : SX pa H1 H2) : SX pa H H2 := fun c o n e => b c o n (a c o n e)
theorem SX.of {pa : Addr} {H H' : Hp} (s : Same H H') : SX pa H H' := fun c o _ e => s c o e
theorem SX.put {pa : Addr} {H : Hp} {o : HO} : SX pa H (upd H pa o) := fun c u n e => (upd_ne n).trans e
theorem SX.kt {K : PySem.W.Frag} {pa : Addr} {H H' : Hp} {xs : List V} (s : SX pa H H') (h : H pa = some (.lst xs)) : KT K H H' :=
  ⟨fun b o e => s b _ (fun c => by rw [c, h] at e; cases e) e, fun b o _ e => s b _ (fun c => by rw [c, h] at e; cases e) e⟩
theorem PU.same {H H' : Hp} {pa : Addr} {k : Nat} (h : PU H pa k) (s : Same H H') : PU H' pa k := let ⟨d, x, n, e, q⟩ := h; ⟨d, x, n, s _ _ e, q⟩
theorem PU.le {H : Hp} {pa : Addr} {k j : Nat} (h : PU H pa k) (hk : k ≤ j) : PU H pa j := let ⟨d, x, n, e, q1, q2, q3, q4, q5⟩ := h; ⟨d, x, n, e, q1, q2, q3, q4, by omega⟩
theorem PU.kt {K : PySem.W.Frag} {H H' : Hp} {pa : Addr} {k : Nat} (h : PU H pa k) (s : SX pa H H') : KT K H H' := let ⟨_, _, _, e, _⟩ := h; s.kt e
/-- what has been new is new, the purse apart -/
theorem SX.mut {pa l : Addr} {H H' : Hp} {o : HO} (s : SX pa H H') (h : H l = none) : SX pa H (upd H' l o) := fun b u n e => (upd_ne (ne_of_none e h)).trans (s b u n e)
def PRIMES : List Int := [2147483647, 2147483629, 2147483587, 2147483579, 2147483563, 2147483549, 2147483543]
theorem ints_at {ns : List Int} {m : Int} (h0 : 0 ≤ m) (h1 : m < ns.length) : ∃ p ∈ ns, atI (ns.map V.int) m = some (.int p) := by
  obtain ⟨i, rfl⟩ : ∃ i : Nat, m = i := ⟨m.toNat, (Int.toNat_of_nonneg h0).symm⟩
  have hi : i < ns.length := by omega
  exact ⟨ns[i], List.getElem_mem hi, at_of (j := i) rfl (by rw [List.getElem?_map, List.getElem?_eq_getElem hi]; rfl)⟩
theorem prime_at {m : Int} (h0 : 0 ≤ m) (h1 : m < 7) : ∃ p : Int, atI (PRIMES.map V.int) m = some (.int p) ∧ 1 ≤ p ∧ p < 2 ^ 31 := by
  obtain ⟨p, hp, e⟩ := ints_at (ns := PRIMES) h0 h1
  have : ∀ p ∈ PRIMES, 1 ≤ p ∧ p < 2 ^ 31 := by decide
  exact ⟨p, e, this p hp⟩
section
variable {P : Program} {w : World} {K : PySem.W.Frag} {mg : Str → Option Value} {base : Heap}
def sp__law_take : Sp := fun vs H Q _ => ∃ (pa : Addr) (k : Nat) (many : Int), vs = [.ref pa, .int many] ∧ PU H pa k ∧ k ≤ 1000000 ∧ 0 < many ∧ many < 2 ^ 102 ∧ ∀ r H', 0 ≤ r → r < many → SX pa H H' → PU H' pa (k + 1) → Q (.int r) H'
abbrev N__law_take : List Str := ["_law_purse_here", "_law_many", "_law_digit", "_law_primes", "_law_step", "_law_base", "_law_mixed"]
theorem sc__law_take : FnScope N__law_take ["_law_purse_here", "_law_many"] (defScope s__law_take) := ⟨rfl, rfl, rfl, by decide +kernel, rfl, by decide +kernel, by decide +kernel⟩
theorem ok__law_take (T : Txt K mg) : GF P w K mg base 1 "_law_take" ["_law_purse_here", "_law_many"] sp__law_take := by
  have nd := sc__law_take.nd
  refine gf_of T (d := d__law_take) (x := "_law_take") rfl rfl rfl (i := 60) rfl (by decide +kernel) sc__law_take (fun _ _ _ _ _ _ us hl => match us, hl with | [_, _], _ => rfl) (fun vs H Q E h => ?_) (fun cdv A outer s H vs Q E hr h => ?_)
  · obtain ⟨pa, k, many, rfl, _⟩ := h; rfl
  · refine ⟨_, (pss_cons (ps_if (pt_cmpR op_gt (pe_ix ix_list (pv 0) pe_int (fun _ _ => rfl)) pe_int (nomark _)) (pss_cons (ps_set (i := 2) nd rfl (Or.inl rfl) (pe_op op_mod (pe_ix ix_list (pv 0) pe_int (fun _ _ => rfl)) (pv 1)))
      (pss_cons (ps_asg (pe_op op_fdivW (pe_ix ix_list (pv 0) pe_int (fun _ _ => rfl)) (pv 1)) (pg_sub (pv 0) pe_int set_list))
      (pss_one (ps_ret (pv 2))))) pss_nil)
      (pss_cons (ps_set (i := 3) nd rfl (Or.inl rfl) (pe_tup (pa_cons pe_int (pa_cons pe_int (pa_cons pe_int (pa_cons pe_int (pa_cons pe_int (pa_cons pe_int (pa_cons pe_int pa_nil)))))))))
      (pss_cons (ps_asg (pe_op op_add (pe_ix ix_list (pv 0) pe_int (fun _ _ => rfl)) pe_int) (pg_sub (pv 0) pe_int set_list))
      (pss_cons (ps_set (i := 4) nd rfl (Or.inl rfl) (pe_ix ix_list (pv 0) pe_int (fun _ _ => rfl)))
      (pss_cons (ps_set (i := 5) nd rfl (Or.inl rfl) (pe_op op_add (pe_op op_mul (pe_op op_add (pe_ix ix_list (pv 0) pe_int (fun _ _ => rfl)) (pe_op op_mul pe_int (pv 4))) (pe_op op_add (pe_op op_mul pe_int (pv 4)) pe_int)) (pe_op op_mul (pe_op op_mul pe_int (pv 4)) (pv 4))))
      (pss_cons (ps_set (i := 6) nd rfl (Or.inl rfl) (pe_op op_mod (pe_op op_powW (pv 5) pe_int) (pe_ix ix_tup (pv 3) (pe_op op_mod (pv 4) pe_int) (fun _ _ => rfl))))
      (pss_one (ps_ret (pe_op op_mod (pe_op op_fdivW (pe_op op_mod (pe_op op_mul (pv 6) (pe_op op_add (pe_op op_add (pe_op op_fdivW (pv 6) pe_int) (pe_op op_mul pe_int (pv 4))) pe_int)) (pe_ix ix_tup (pv 3) (pe_op op_mod (pe_op op_add (pv 4) pe_int) pe_int) (fun _ _ => rfl))) pe_int) (pv 1)))))))))), ?_⟩
    obtain ⟨pa, k, many, rfl, ⟨d, s0, n, hp, d0, s1, s2, n0, n1⟩, hk, m0, m1, q⟩ := h
    refine ⟨_, rfl, pa, _, _, _, rfl, rfl, SqL.of hp, at_of (j := 0) (v := .int d) rfl rfl, _, _, rfl, rfl, decide (d > 0), rfl, ?_⟩
    by_cases hd : d > 0
    · rw [decide_eq_true hd]
      refine iteT ⟨_, rfl, pa, _, _, _, rfl, rfl, SqL.of hp, at_of (j := 0) (v := .int d) rfl rfl, _, rfl, _, _, rfl, rfl, by show 0 < many; exact m0, ?_⟩
      refine ⟨_, rfl, pa, _, _, _, rfl, rfl, SqL.of hp, at_of (j := 0) (v := .int d) rfl rfl, _, rfl, _, _, rfl, rfl, wide_div (b := 102) m0 (by omega) (by decide) (by decide), ?_⟩
      refine ⟨_, rfl, pa, _, 0, 0, rfl, rfl, hp, rfl, ?_⟩
      refine ⟨_, rfl, q _ _ (Int.emod_nonneg _ (by omega)) (Int.emod_lt_of_pos _ m0) SX.put ⟨d / many, s0, n, upd_same, Int.ediv_nonneg (by omega) (by omega), s1, s2, n0, by omega⟩⟩
    · rw [decide_eq_false hd]
      refine iteF ⟨by show 7 ≤ sizeLine; decide, fun tp htp => ?_⟩
      have npt : pa ≠ tp := ne_of_none hp htp
      have hp1 := (Same.new (o := .tup [.int 2147483647, .int 2147483629, .int 2147483587, .int 2147483579, .int 2147483563, .int 2147483549, .int 2147483543]) htp) _ _ hp
      refine ⟨_, rfl, pa, _, _, _, rfl, rfl, SqL.of hp1, at_of (j := 2) (v := .int n) rfl rfl, _, _, rfl, rfl, ?_⟩
      refine ⟨_, rfl, pa, _, 2, 2, rfl, rfl, hp1, rfl, ?_⟩
      refine ⟨_, rfl, pa, _, _, _, rfl, rfl, SqL.of upd_same, at_of (j := 2) (v := .int (n + 1)) rfl rfl, ?_⟩
      have m1' : 1 ≤ n + 1 := by omega
      have m2' : n + 1 ≤ 1000001 := by omega
      refine ⟨_, rfl, pa, _, _, _, rfl, rfl, SqL.of upd_same, at_of (j := 1) (v := .int s0) rfl rfl, _, rfl, _, _, rfl, rfl, .inl (by omega), _, _, rfl, rfl, _, rfl, _, _, rfl, rfl, .inl (by omega), _, _, rfl, rfl, _, _, rfl, rfl, .inr (by constructor <;> omega), _, rfl, _, _, rfl, rfl, .inl (by omega), _, rfl, _, _, rfl, rfl, .inr (by constructor <;> omega), _, _, rfl, rfl, ?_⟩
      have hbig : ((s0 + 104729 * (n + 1)) * (3 * (n + 1) + 2) + 7919 * (n + 1) * (n + 1)).natAbs < 2 ^ 100 := by
        have a1 := wide_lt (i := s0 + 104729 * (n + 1)) (j := 3 * (n + 1) + 2) (a := 65) (b := 23) (by omega) (by omega)
        have a2 := wide_lt (i := 7919 * (n + 1)) (j := n + 1) (a := 34) (b := 21) (by omega) (by omega)
        have := Int.natAbs_add_le ((s0 + 104729 * (n + 1)) * (3 * (n + 1) + 2)) (7919 * (n + 1) * (n + 1))
        omega
      obtain ⟨p1, hp1', b1, b2⟩ := prime_at (m := (n + 1) % 7) (Int.emod_nonneg _ (by decide)) (Int.emod_lt_of_pos _ (by decide))
      obtain ⟨p2, hp2', b3, b4⟩ := prime_at (m := ((n + 1) + 3) % 7) (Int.emod_nonneg _ (by decide)) (Int.emod_lt_of_pos _ (by decide))
      have htp' : ∀ o, (upd (upd H tp (.tup (PRIMES.map V.int))) pa o) tp = some (.tup (PRIMES.map V.int)) := fun o => (upd_ne (Ne.symm npt)).trans upd_same
      have hpw : CPowW ((s0 + 104729 * (n + 1)) * (3 * (n + 1) + 2) + 7919 * (n + 1) * (n + 1)) 3 := ⟨by decide, by
        have := intBits_le hbig
        have e : (Builtin.Int.intBits ((s0 + 104729 * (n + 1)) * (3 * (n + 1) + 2) + 7919 * (n + 1) * (n + 1)) : Int) * 3 ≤ 300 := by omega
        exact Int.le_trans e (by decide)⟩
      refine ⟨_, rfl, _, _, rfl, rfl, hpw, _, rfl, _, rfl, _, _, rfl, rfl, by show (0 : Int) < 7; decide, tp, _, _, _, rfl, rfl, SqT.of (htp' _), hp1', _, _, rfl, rfl, by show 0 < p1; omega, ?_⟩
      have x1 := Int.emod_nonneg (((s0 + 104729 * (n + 1)) * (3 * (n + 1) + 2) + 7919 * (n + 1) * (n + 1)) ^ (3 : Int).toNat) (show p1 ≠ 0 by omega)
      have x2 := Int.emod_lt_of_pos (((s0 + 104729 * (n + 1)) * (3 * (n + 1) + 2) + 7919 * (n + 1) * (n + 1)) ^ (3 : Int).toNat) (show 0 < p1 by omega)
      refine ⟨_, rfl, _, rfl, _, _, rfl, rfl, wide_div (b := 20) (by decide) (by decide) (by decide) (by decide), _, rfl, _, _, rfl, rfl, .inl (by decide), _, _, rfl, rfl, _, _, rfl, rfl, _, _, rfl, rfl, .inl ⟨Int.lt_of_lt_of_le (by decide) x1, Int.lt_trans x2 (by omega)⟩, _, rfl, _, rfl, _, _, rfl, rfl, _, _, rfl, rfl, by show (0 : Int) < 7; decide, tp, _, _, _, rfl, rfl, SqT.of (htp' _), hp2', _, _, rfl, rfl, by show 0 < p2; omega, _, _, rfl, rfl, wide_div (b := 20) (by decide) (by decide) (by decide) (by decide), _, rfl, _, _, rfl, rfl, by show 0 < many; exact m0, ?_⟩
      exact q _ _ (Int.emod_nonneg _ (by omega)) (Int.emod_lt_of_pos _ m0) ((SX.of (Same.new htp)).trans SX.put) ⟨d, s0, n + 1, upd_same, d0, s1, s2, by omega, by omega⟩
    
end
end Vg

namespace Vg
open PySem PySem.Spec PyProof.Rows L2 RZ RT
/-- what a side adds to the reach one way -/
def reachF (way : Int) (q : Int × Int) : Int := if q.1 > 0 ∧ q.2 * way > 0 then (q.1 - 1) * q.2 else 0
def reachS (ls ss : List Int) (way : Int) : Int := ((ls.zip ss).map (reachF way)).sum
theorem in_zero (ns : List Int) : inV (.int 0) (ns.map V.int) = decide ((0 : Int) ∈ ns) := by
  induction ns with
  | nil => rfl
  | cons n r ih =>
    unfold inV at ih ⊢
    rw [List.map_cons, List.any_cons, ih]
    by_cases h : n = 0
    · subst h; simp [eqV]
    · have : (0 : Int) ≠ n := fun e => h e.symm
      simp [eqV, h, this]
section
variable {P : Program} {w : World} {K : PySem.W.Frag} {mg : Str → Option Value} {base : Heap}
def sp__law_purse (K : PySem.W.Frag) : Sp := fun vs H Q _ => ∃ (s : Addr) (ns : List Int) (i : Nat), vs = [.ref s, .int i] ∧ SqL K H s (ns.map V.int) ∧ i ≤ 2 ∧ ∀ pa H', H pa = none → Same H H' → PU H' pa 0 → Q (.ref pa) H'
abbrev N__law_purse : List Str := ["_law_script", "_law_at", "_law_cell", "_law_far"]
theorem sc__law_purse : FnScope N__law_purse ["_law_script", "_law_at"] (defScope s__law_purse) := ⟨rfl, rfl, rfl, by decide +kernel, rfl, by decide +kernel, by decide +kernel⟩
theorem ok__law_purse (T : Txt K mg) : GF P w K mg base 1 "_law_purse" ["_law_script", "_law_at"] (sp__law_purse K) := by
  have nd := sc__law_purse.nd
  refine gf_of T (d := d__law_purse) (x := "_law_purse") rfl rfl rfl (i := 59) rfl (by decide +kernel) sc__law_purse (fun _ _ _ _ _ _ us hl => match us, hl with | [_, _], _ => rfl) (fun vs H Q E h => ?_) (fun cdv A outer s H vs Q E hr h => ?_)
  · obtain ⟨s, ns, i, rfl, _⟩ := h; rfl
  · refine ⟨_, (pss_cons (ps_set (i := 2) nd rfl (Or.inl rfl) pe_int)
      (pss_cons (ps_if (pt_cmpR op_lt (pv 1) (pe_callB call_len_seq rfl (T.free "len") boot_len (pa_cons (pv 0) pa_nil)) (nomark _)) (pss_one (ps_set (i := 2) nd rfl (Or.inl rfl) (pe_ix ix_list (pv 0) (pv 1) (fun _ _ => rfl)))) pss_nil)
      (pss_cons (ps_set (i := 3) nd rfl (Or.inl rfl) (pe_callB call_abs rfl (T.free "abs") (by decide +kernel) (pa_cons (pv 2) pa_nil)))
      (pss_one (ps_ret (pe_lst (pa_cons (pe_op op_mul (pv 3) (pe_callTy call_int1 rfl (T.free "int") (by decide +kernel) (pa_cons (pe_cmpR op_ge (pv 3) (pe_op op_powW pe_int pe_int) (nomark _)) pa_nil))) (pa_cons (pe_op op_add (pe_op op_add (pe_op op_mod (pv 2) pe_int) (pe_op op_mul pe_int (pv 1))) pe_int) (pa_cons pe_int pa_nil))))))))), ?_⟩
    obtain ⟨s0, ns, i, rfl, hs, hi, q⟩ := h
    have fin : ∀ (cell : Int), True := fun _ => trivial
    refine ⟨_, rfl, _, rfl, s0, _, rfl, .inl hs, _, _, rfl, rfl, decide ((i : Int) < (ns.map V.int).length), rfl, ?_⟩
    have rest : ∀ cell : Int, tSeq (tAsg (tCB (fun xs H Q => ∃ i, xs = [.int i] ∧ Q (.int (if i < 0 then -i else i)) H) (tCons (tVar 2) tNil)) (gName 3)) (tRet (tLst (tCons (tOp (rI CMul fun i j => V.int (i * j)) (tVar 3) (tCB (fun xs H Q => (∃ i, xs = [.int i] ∧ Q (.int i) H) ∨ ∃ k, xs = [.bl k] ∧ Q (.int (if k then 1 else 0)) H) (tCons (tOp (fun x y H Q => ∃ i j, x = .int i ∧ y = .int j ∧ Q (.bl (decide (i ≥ j))) H) (tVar 3) (tOp (rI CPowW fun i j => V.int (i ^ j.toNat)) (tC (.int 10)) (tC (.int 18)))) tNil)))
        (tCons (tOp (rI0 fun i j => V.int (i + j)) (tOp (rI0 fun i j => V.int (i + j)) (tOp (rI (fun x j => 0 < j) fun i j => V.int (i % j)) (tVar 2) (tC (.int 2305843009213693951))) (tOp (rI CMul fun i j => V.int (i * j)) (tC (.int 7177)) (tVar 1))) (tC (.int 1))) (tCons (tC (.int 0)) tNil)))))
        { nx := fun _ H' => Q .non H', rt := Q } [some (.ref s0), some (.int i), some (.int cell), none] H := fun cell => by
      refine ⟨_, rfl, cell, rfl, ?_⟩
      have ha : 0 ≤ (if cell < 0 then -cell else cell) := by split <;> omega
      generalize (if cell < 0 then -cell else cell) = far at ha
      refine ⟨_, rfl, _, rfl, _, _, rfl, rfl, ⟨by decide, by decide +kernel⟩, _, _, rfl, rfl, .inr ⟨_, rfl, ?_⟩⟩
      have h01 : ∀ k : Bool, 0 ≤ (if k = true then (1 : Int) else 0) ∧ (if k = true then (1 : Int) else 0) ≤ 1 := fun k => by cases k <;> decide
      generalize decide (far ≥ (10 : Int) ^ (18 : Int).toNat) = kk
      obtain ⟨u0, u1⟩ := h01 kk
      refine ⟨_, _, rfl, rfl, .inr ⟨by omega, by omega⟩, _, rfl, _, _, rfl, rfl, by show (0 : Int) < 2305843009213693951; decide, _, rfl, _, _, rfl, rfl, .inl (by decide), _, _, rfl, rfl, _, _, rfl, rfl, by show 3 ≤ sizeLine; decide, fun l hl => q l _ hl (Same.new hl) ⟨_, _, _, upd_same, Int.mul_nonneg ha u0, ?_, ?_, by decide, by decide⟩⟩
      · have := Int.emod_nonneg cell (show (2305843009213693951 : Int) ≠ 0 by decide); omega
      · have := Int.emod_lt_of_pos cell (show (0 : Int) < 2305843009213693951 by decide); omega
    by_cases hlt : (i : Int) < (ns.map V.int).length
    · rw [decide_eq_true hlt]
      have hil : i < ns.length := by rw [List.length_map] at hlt; omega
      refine iteT ⟨_, rfl, _, rfl, s0, _, _, _, rfl, rfl, hs, at_of (j := i) (v := .int ns[i]) rfl (by rw [List.getElem?_map, List.getElem?_eq_getElem hil]; rfl), rest ns[i]⟩
    · rw [decide_eq_false hlt]
      exact iteF (rest 0)
end
section
variable {P : Program} {w : World} {K : PySem.W.Frag} {mg : Str → Option Value} {base : Heap}
def sp__law_number : Sp := fun vs H Q _ => ∃ (pa : Addr) (k : Nat), vs = [.ref pa] ∧ PU H pa k ∧ k ≤ 999990 ∧ ∀ r H', SX pa H H' → PU H' pa (k + 2) → Q (.int r) H'
abbrev N__law_number : List Str := ["_law_purse_here", "_law_wide"]
theorem sc__law_number : FnScope N__law_number ["_law_purse_here"] (defScope s__law_number) := ⟨rfl, rfl, rfl, by decide +kernel, rfl, by decide +kernel, by decide +kernel⟩
theorem ok__law_number (T : Txt K mg) : GF P w K mg base 2 "_law_number" ["_law_purse_here"] sp__law_number := by
  have nd := sc__law_number.nd
  refine gf_of T (d := d__law_number) (x := "_law_number") rfl rfl rfl (i := 64) rfl (by decide +kernel) sc__law_number (fun _ _ _ _ _ _ us hl => match us, hl with | [_], _ => rfl) (fun vs H Q E h => ?_) (fun cdv A outer s H vs Q E hr h => ?_)
  · obtain ⟨pa, k, rfl, _⟩ := h; rfl
  · refine ⟨_, (pss_cons (ps_set (i := 1) nd rfl (Or.inl rfl) (pe_ix ix_list (pe_lst (pa_cons pe_int (pa_cons pe_int (pa_cons pe_int (pa_cons (pe_op op_sub (pe_op op_mul pe_int (pe_op op_powW pe_int pe_int)) pe_int) pa_nil))))) (pe_callG (ok__law_take T) (hr.mono (by decide)) rfl (pa_cons (pv 0) (pa_cons pe_int pa_nil))) (fun _ _ => rfl)))
      (pss_one (ps_ret (pe_op op_sub (pe_callG (ok__law_take T) (hr.mono (by decide)) rfl (pa_cons (pv 0) (pa_cons (pv 1) pa_nil))) (pe_op op_fdivW (pv 1) pe_int))))), ?_⟩
    obtain ⟨pa, k, rfl, hp, hk, q⟩ := h
    refine ⟨_, _, rfl, rfl, ⟨by decide, by decide +kernel⟩, _, _, rfl, rfl, .inl (by decide), _, _, rfl, rfl, by show 4 ≤ sizeLine; decide, fun l hl => ?_⟩
    have hp1 := hp.same (Same.new (o := .lst [V.int 7, V.int 7, V.int 100, V.int (2 * 10 ^ (30 : Int).toNat - 1)]) hl)
    refine ⟨_, rfl, pa, k, 4, rfl, hp1, by omega, by decide, by decide, fun r H1 r0 r1 x1 u1 => ?_⟩
    have npl : l ≠ pa := by
      obtain ⟨d, s0, n, e, _⟩ := hp
      exact fun c => by rw [c, e] at hl; cases hl
    have hl1 := x1 l _ npl upd_same
    obtain ⟨w, hw, ew⟩ := ints_at (ns := [7, 7, 100, 2 * 10 ^ (30 : Int).toNat - 1]) r0 (by show r < 4; exact r1)
    have hwb : 7 ≤ w ∧ w < 2 ^ 102 := by
      have : ∀ z ∈ ([7, 7, 100, 2 * 10 ^ (30 : Int).toNat - 1] : List Int), 7 ≤ z ∧ z < 2 ^ 102 := by decide +kernel
      exact this w hw
    refine ⟨l, _, _, _, rfl, rfl, SqL.of hl1, ew, ?_⟩
    refine ⟨_, rfl, _, rfl, pa, k + 1, w, rfl, u1, by omega, by omega, hwb.2, fun r2 H2 _ _ x2 u2 => ?_⟩
    refine ⟨_, rfl, _, _, rfl, rfl, wide_div (b := 20) (by decide) (by decide) (by decide) (by decide), _, _, rfl, rfl, q _ H2 ?_ u2⟩
    exact ((SX.of (Same.new hl)).trans x1).trans x2
end
section
variable {P : Program} {w : World} {K : PySem.W.Frag} {mg : Str → Option Value} {base : Heap}
def sp__law_places : Sp := fun vs H Q _ => ∃ v ns, vs = [v] ∧ IT H v ns ∧ Lens ns ∧ ∀ l H' ys, H l = none → Same H H' → H' l = some (.lst ys) → Paired (IT H') ys (places ns) → Q (.ref l) H'
abbrev N__law_places : List Str := ["_law_lengths_here", "_law_found", "_law_length", "_law_longer", "_law_place", "_law_number_here"]
theorem sc__law_places : FnScope N__law_places ["_law_lengths_here"] (defScope s__law_places) := ⟨rfl, rfl, rfl, by decide +kernel, rfl, by decide +kernel, by decide +kernel⟩
theorem ok__law_places (T : Txt K mg) : GF P w K mg base 1 "_law_places" ["_law_lengths_here"] sp__law_places := by
  have nd := sc__law_places.nd
  refine gf_of T (d := d__law_places) (x := "_law_places") rfl rfl rfl (i := 61) rfl (by decide +kernel) sc__law_places (fun _ _ _ _ _ _ us hl => match us, hl with | [_], _ => rfl) (fun vs H Q E h => ?_) (fun cdv A outer s H vs Q E hr h => ?_)
  · obtain ⟨v, ns, rfl, _⟩ := h; rfl
  · refine ⟨_, (pss_cons (ps_if (pt_cmpR op_in_seq pe_int (pv 0) rfl) (pss_one (ps_ret (pe_lst pa_nil))) pss_nil)
      (pss_cons (ps_set (i := 1) nd rfl (Or.inl rfl) (pe_lst (pa_cons (pe_tup pa_nil) pa_nil)))
      (pss_cons (ps_for PassesOwn.never rfl (pi_tup (pv 0)) (pg_name (i := 2) nd rfl (Or.inl rfl)) (pss_cons (ps_set (i := 3) nd rfl (Or.inl rfl) (pe_lst pa_nil))
      (pss_cons (ps_for PassesOwn.never rfl (pi_list (pv 1)) (pg_name (i := 4) nd rfl (Or.inr rfl)) (pss_one (ps_expr (pe_bm PySem.F.plainAttrs_list PySem.F.slot_list_extend PySem.F.type_list_extend mt_extend (pv 3) (pa_cons (pe_lc (own := [("_law_number_here", 5)]) (g := (gName 5)) (tt := tYes) rfl nd (pi_range1 rfl (T.free "range") (pa_cons (pv 2) pa_nil)) (blkOk_by (N := N__law_places) (sc := defScope s__law_places) (by decide +kernel)) (fun _ _ _ _ _ => (pg_name (i := 5) nd rfl (Or.inl rfl))) (fun _ _ _ _ _ => pts_nil) (fun _ _ _ _ _ => (pe_op (op_catK K) (pv 4) (pe_tup (pa_cons (pv 5) pa_nil))))) pa_nil)))))
      (pss_one (ps_set (i := 1) nd rfl (Or.inl rfl) (pv 3))))))
      (pss_one (ps_ret (pv 1)))))), ?_⟩
    obtain ⟨v, ns, rfl, ⟨a, rfl, ha⟩, hL, q⟩ := h
    have hfl : (ns.map V.int).all flatV = true := by
      rw [List.all_eq_true]; intro z hz; obtain ⟨i, _, rfl⟩ := List.mem_map.mp hz; rfl
    refine ⟨_, rfl, a, _, rfl, .inr (SqT.of ha), rfl, hfl, inV (.int 0) (ns.map V.int), rfl, ?_⟩
    rw [in_zero]
    by_cases h0 : prod ns = 0
    · rw [decide_eq_true (prod_zero.mp h0)]
      refine iteT ⟨by show 0 ≤ sizeLine; decide, fun l hl => q l _ [] hl (Same.new hl) upd_same ?_⟩
      unfold places; rw [if_pos h0]; exact .nil
    rw [decide_eq_false (fun h => h0 (prod_zero.mpr h))]
    refine iteF ⟨by show 0 ≤ sizeLine; decide, fun t ht => ⟨by show 1 ≤ sizeLine; decide, fun l hl => ?_⟩⟩
    have s0 : Same H (upd (upd H t (.tup [])) l (.lst [V.ref t])) := (Same.new ht).trans (Same.new hl)
    have nlt : t ≠ l := fun e => by rw [e, upd_same] at hl; cases hl
    refine ⟨_, rfl, a, rfl, ⟨_, SqT.of (s0 _ _ ha)⟩, for_it walk_tup (fun i σ H' => Same H H' ∧ ∃ l ys z2 z3 z4, σ = [some (.ref a), some (.ref l), z2, z3, z4, none] ∧ H l = none ∧ H' l = some (.lst ys) ∧ Paired (IT H') ys ((ns.take i).foldl stepP [[]]))
      ⟨s0, l, [V.ref t], none, none, none, rfl, (Same.new ht).free hl, upd_same, .cons ⟨t, rfl, by rw [upd_ne nlt]; exact upd_same⟩ .nil⟩ (fun i σ H' _ p => SqT.of (p.1 _ _ ha)) ?_ ?_⟩
    · rintro i y σ H0 H1 hi ⟨s1, l1, ys, z2, z3, z4, rfl, hl1, e1, p1⟩ ⟨rfl, hy⟩
      obtain ⟨n, hn, rfl⟩ := map_at hy
      have hb := len_in hL.rng hn
      have hlen2 := part_length hL h0 (i + 1)
      have hys := Paired.len p1
      have es : (ns.take (i + 1)).foldl stepP [[]] = stepP ((ns.take i).foldl stepP [[]]) n := by rw [take_snoc hn, List.foldl_append]; rfl
      rw [es] at hlen2
      generalize hcur : (ns.take i).foldl stepP [[]] = cur at *
      refine ⟨by show 0 ≤ sizeLine; decide, fun m hm => ⟨_, rfl, l1, rfl, ⟨_, SqL.of ((Same.new hm) _ _ e1)⟩, ?_⟩⟩
      have hmH : H m = none := s1.free hm
      refine for_it walk_list (fun j σ H' => Same H1 H' ∧ (∃ z4, σ = [some (.ref a), some (.ref l1), some (.int n), some (.ref m), z4, none]) ∧ ∃ acc, H' m = some (.lst acc) ∧ Paired (IT H') acc ((cur.take j).flatMap fun p => (List.range n.toNat).map fun (k : Nat) => p ++ [(k : Int)]))
        ⟨Same.new hm, ⟨_, rfl⟩, [], upd_same, .nil⟩ (fun j σ H' _ p => SqL.of (p.1 _ _ e1)) ?_ ?_
      · rintro j x σ H9 H2 hj ⟨s2, ⟨y4, rfl⟩, acc, e2, p2⟩ ⟨rfl, hx⟩
        obtain ⟨p, hp, t1, rfl, ht1⟩ := Paired.get p1 hx
        have hpl : ((cur.take j).flatMap fun p => (List.range n.toNat).map fun (k : Nat) => p ++ [(k : Int)]).length + n.toNat ≤ 600 := by
          have h1 := stepP_length (cur.take (j + 1)) n
          have h3 : (stepP (cur.take (j + 1)) n).length ≤ (stepP cur n).length := by
            rw [stepP_length, stepP_length]
            exact Nat.mul_le_mul_right _ (List.length_take_le' ..)
          unfold stepP at h1 h3
          rw [flatMap_take _ hp, List.length_append, List.length_map, List.length_range] at h3
          unfold stepP at hlen2
          omega
        have lacc := Paired.len p2
        refine ⟨_, rfl, .inl ⟨rfl, _, SqL.of e2⟩, _, rfl, n, rfl, by omega, by omega, fun D hD => ?_⟩
        have hDm : D ≠ m := fun e => by rw [e, e2] at hD; cases hD
        refine lc_map (K := K) (R := IT) walk_range mon_it (fun (k : Nat) => p ++ [(k : Int)]) (by omega) hD (fun _ _ => trivial) ?_ ?_
        · rintro k x H4 H5 Kk hk s4 ⟨rfl, rfl⟩ kk
          refine ⟨rfl, _, rfl, _, rfl, by show 1 ≤ sizeLine; decide, fun c hc => ?_⟩
          have ht4 : H5 t1 = some (.tup (p.map V.int)) := s4 _ _ (s2 _ _ ht1)
          refine catA_ok (Same.new hc _ _ ht4) upd_same (by
            obtain ⟨q0, h0, r0, e0, hr0⟩ := mem_folded.mp (hcur ▸ List.mem_of_getElem? hp)
            have := hr0.len
            rw [List.mem_singleton.mp h0] at e0
            have hf := hL.few
            rw [e0]; simp only [List.nil_append, List.length_map, List.length_singleton]; rw [hr0.len, List.length_take]; omega) fun c' H6 s6 e6 => kk _ _ ((Same.new hc).trans s6) ⟨c', rfl, by rw [e6]; simp⟩
        · intro H4 acc4 s4 e4 p4
          have l4 := Paired.len p4
          rw [List.length_map, List.length_range] at l4
          refine ⟨m, D, acc, acc4, rfl, rfl, s4 _ _ e2, e4, by rw [sizeLine_eq]; omega, ?_⟩
          have k5 : KT K H4 (upd H4 m (.lst (acc ++ acc4))) := KT.lst (s4 _ _ e2)
          refine ⟨Same.mut (s2.trans s4) hm, ⟨_, rfl⟩, acc ++ acc4, upd_same, ?_⟩
          rw [flatMap_take _ hp]
          exact Paired.append (Paired.mapP p2 fun _ _ h => mon_it.up ((KT.of s4).trans k5) h) (Paired.mapP p4 fun _ _ h => mon_it.up k5 h)
      · rintro σ H2 ⟨s2, ⟨y4, rfl⟩, acc, e2, p2⟩
        refine ⟨_, rfl, s1.trans s2, m, acc, _, _, _, rfl, hmH, e2, ?_⟩
        rw [es]
        rw [List.take_of_length_le (by omega)] at p2
        exact p2
    · rintro σ H1 ⟨s1, l1, ys, z2, z3, z4, rfl, hl1, e1, p1⟩
      refine ⟨_, rfl, q l1 H1 ys hl1 s1 e1 ?_⟩
      rw [List.length_map, List.take_length] at p1
      unfold places; rw [if_neg h0]; exact p1
end
section
variable {P : Program} {w : World} {K : PySem.W.Frag} {mg : Str → Option Value} {base : Heap}
def sp__law_reach : Sp := fun vs H Q _ => ∃ v u ls ss, ∃ way : Int, vs = [v, u, .int way] ∧ IT H v ls ∧ IT H u ss ∧ ss.length = ls.length ∧ (∀ n ∈ ls, 0 ≤ n ∧ n ≤ 600) ∧ (way = 1 ∨ way = -1) ∧ ∀ H', Same H H' → Q (.int (reachS ls ss way)) H'
abbrev N__law_reach : List Str := ["_law_lengths_here", "_law_steps_here", "_law_way", "_law_found", "_law_length", "_law_step"]
theorem sc__law_reach : FnScope N__law_reach ["_law_lengths_here", "_law_steps_here", "_law_way"] (defScope s__law_reach) := ⟨rfl, rfl, rfl, by decide +kernel, rfl, by decide +kernel, by decide +kernel⟩
theorem ok__law_reach (T : Txt K mg) : GF P w K mg base 1 "_law_reach" ["_law_lengths_here", "_law_steps_here", "_law_way"] sp__law_reach := by
  have nd := sc__law_reach.nd
  refine gf_of T (d := d__law_reach) (x := "_law_reach") rfl rfl rfl (i := 66) rfl (by decide +kernel) sc__law_reach (fun _ _ _ _ _ _ us hl => match us, hl with | [_, _, _], _ => rfl) (fun vs H Q E h => ?_) (fun cdv A outer s H vs Q E hr h => ?_)
  · obtain ⟨v, u, ls, ss, way, rfl, _⟩ := h; rfl
  · refine ⟨_, (pss_cons (ps_set (i := 3) nd rfl (Or.inl rfl) pe_int)
      (pss_cons (ps_for PassesOwn.never rfl (pi_zipA rfl (T.free "zip") (pa_cons (pv 0) (pa_cons (pv 1) pa_nil))) (pg_tup rfl (pgs_cons (pg_name (i := 4) nd rfl (Or.inl rfl)) (pgs_cons (pg_name (i := 5) nd rfl (Or.inl rfl)) pgs_nil))) (pss_one (ps_if (PW.pt (pw_and (pt_cmpR op_gt (pv 4) pe_int (nomark _)) (pw_and1 (pt_cmpR op_gt (pe_op op_mul (pv 5) (pv 2)) pe_int (nomark _))))) (pss_one (ps_set (i := 3) nd rfl (Or.inl rfl) (pe_op op_add (pv 3) (pe_op op_mul (pe_op op_sub (pv 4) pe_int) (pv 5))))) pss_nil)))
      (pss_one (ps_ret (pv 3))))), ?_⟩
    obtain ⟨v, u, ls, ss, way, rfl, ⟨a, rfl, ha⟩, ⟨c, rfl, hc⟩, hlen, hr0, hway, q⟩ := h
    refine ⟨_, rfl, _, rfl, a, c, _, _, rfl, .inr ⟨SqT.of ha, SqT.of hc, for_it (walk_zipT (n := ls.length) (by simp [hlen])) (fun i σ H' => Same H H' ∧ ∃ y z, σ = [some (.ref a), some (.ref c), some (.int way), some (.int (((ls.zip ss).map (reachF way)).take i).sum), y, z]) ⟨Same.refl _, none, none, rfl⟩ (fun i σ H' _ p => ⟨SqT.of (p.1 _ _ ha), SqT.of (p.1 _ _ hc)⟩) ?_ ?_⟩⟩
    · rintro i y σ H1 H2 hi ⟨s1, y', z', rfl⟩ ⟨t, x1, x2, rfl, hn, rfl, e1, e2⟩
      obtain ⟨n, hn', rfl⟩ := map_at e1
      obtain ⟨st, hst, rfl⟩ := map_at e2
      have hz := zip_at hn' hst
      have hrn := len_in hr0 hn'
      have es : (((ls.zip ss).map (reachF way)).take (i + 1)).sum = (((ls.zip ss).map (reachF way)).take i).sum + reachF way (n, st) := sum_take (by rw [List.getElem?_map, hz]; rfl)
      refine ⟨t, _, rfl, SqT.of upd_same, rfl, _, _, rfl, _, _, rfl, rfl, ?_⟩
      have s2 := s1.trans (Same.new (o := .tup [.int n, .int st]) hn)
      refine ⟨_, rfl, _, _, rfl, rfl, decide (n > 0), rfl, ?_⟩
      by_cases h1 : n > 0
      case neg =>
        rw [decide_eq_false h1]
        refine iteF (iteF ⟨s2, some (.int n), some (.int st), ?_⟩)
        rw [es, show reachF way (n, st) = 0 from if_neg (fun h => h1 h.1), Int.add_zero]; rfl
      rw [decide_eq_true h1]
      refine iteT ⟨_, rfl, _, rfl, _, _, rfl, rfl, .inr (by omega), _, _, rfl, rfl, decide (st * way > 0), rfl, ?_⟩
      by_cases h2 : st * way > 0
      · rw [decide_eq_true h2]
        refine iteT ⟨_, rfl, _, rfl, _, _, rfl, rfl, _, rfl, _, _, rfl, rfl, .inl (by omega), _, _, rfl, rfl, s2, some (.int n), some (.int st), ?_⟩
        rw [es, show reachF way (n, st) = (n - 1) * st from if_pos ⟨h1, h2⟩]; rfl
      · rw [decide_eq_false h2]
        refine iteF ⟨s2, some (.int n), some (.int st), ?_⟩
        rw [es, show reachF way (n, st) = 0 from if_neg (fun h => h2 h.2), Int.add_zero]; rfl
    · rintro σ H1 ⟨s1, y', z', rfl⟩
      refine ⟨_, rfl, ?_⟩
      rw [List.take_of_length_le (by rw [List.length_map, List.length_zip]; omega)]
      exact q H1 s1
end
section
variable {P : Program} {w : World} {K : PySem.W.Frag} {mg : Str → Option Value} {base : Heap}
def sp__law_cells : Sp := fun vs H Q _ => ∃ v u ls ss, ∃ b : Int, vs = [v, .int b, u] ∧ IT H v ls ∧ IT H u ss ∧ Lens ls ∧ ss.length = ls.length ∧ ∀ l H', H l = none → Same H H' → H' l = some (.lst ((cellsOf ls b ss).map V.int)) → Q (.ref l) H'
abbrev N__law_cells : List Str := ["_law_lengths_here", "_law_begin", "_law_steps_here", "_law_found", "_law_place", "_law_cell", "_law_number_here", "_law_step"]
theorem sc__law_cells : FnScope N__law_cells ["_law_lengths_here", "_law_begin", "_law_steps_here"] (defScope s__law_cells) := ⟨rfl, rfl, rfl, by decide +kernel, rfl, by decide +kernel, by decide +kernel⟩
theorem ok__law_cells (T : Txt K mg) : GF P w K mg base 2 "_law_cells" ["_law_lengths_here", "_law_begin", "_law_steps_here"] sp__law_cells := by
  have nd := sc__law_cells.nd
  refine gf_of T (d := d__law_cells) (x := "_law_cells") rfl rfl rfl (i := 62) rfl (by decide +kernel) sc__law_cells (fun _ _ _ _ _ _ us hl => match us, hl with | [_, _, _], _ => rfl) (fun vs H Q E h => ?_) (fun cdv A outer s H vs Q E hr h => ?_)
  · obtain ⟨v, u, ls, ss, b, rfl, _⟩ := h; rfl
  · refine ⟨_, (pss_cons (ps_set (i := 3) nd rfl (Or.inl rfl) (pe_lst pa_nil))
      (pss_cons (ps_for PassesOwn.never rfl (pi_list (pe_callG (ok__law_places T) (hr.mono (by decide)) rfl (pa_cons (pv 0) pa_nil))) (pg_name (i := 4) nd rfl (Or.inl rfl)) (pss_cons (ps_set (i := 5) nd rfl (Or.inl rfl) (pv 1))
      (pss_cons (ps_for PassesOwn.never rfl (pi_zipA rfl (T.free "zip") (pa_cons (pv 4) (pa_cons (pv 2) pa_nil))) (pg_tup rfl (pgs_cons (pg_name (i := 6) nd rfl (Or.inl rfl)) (pgs_cons (pg_name (i := 7) nd rfl (Or.inl rfl)) pgs_nil))) (pss_one (ps_set (i := 5) nd rfl (Or.inl rfl) (pe_op op_add (pv 5) (pe_op op_mul (pv 6) (pv 7))))))
      (pss_one (ps_expr (pe_bm PySem.F.plainAttrs_list PySem.F.slot_list_append PySem.F.type_list_append mt_append (pv 3) (pa_cons (pv 5) pa_nil)))))))
      (pss_one (ps_ret (pv 3))))), ?_⟩
    obtain ⟨v, u, ls, ss, b, rfl, hv, ⟨c, rfl, hc⟩, hL, hlen, q⟩ := h
    refine ⟨by show 0 ≤ sizeLine; decide, fun l hl => ?_⟩
    have s1 : Same H (upd H l (.lst [])) := Same.new hl
    refine ⟨_, rfl, v, ls, rfl, (mon_it (K := K)).up (.of s1) hv, hL, fun l2 H2 ys hl2 s2 e2 p2 => ⟨l2, rfl, ⟨_, SqL.of e2⟩, ?_⟩⟩
    have nl2 : l2 ≠ l := fun e => by rw [e, upd_same] at hl2; cases hl2
    have el2 := s2 _ _ (show (upd H l (.lst [])) l = some (.lst []) from upd_same)
    have hyl := Paired.len p2
    have h6 := places_len600 hL
    refine for_it walk_list (fun i σ H' => KT K H2 H' ∧ Same H H' ∧ H' l2 = some (.lst ys) ∧ H' l = some (.lst (((places ls).take i).map fun p => .int (b + dot p ss))) ∧ ∃ z4 z5 z6 z7, σ = [some v, some (.int b), some (.ref c), some (.ref l), z4, z5, z6, z7])
      ⟨.refl _, s1.trans s2, e2, el2, _, _, _, _, rfl⟩ (fun i σ H' _ p => SqL.of p.2.2.1) ?_ ?_
    · rintro i y σ H8 H3 hi ⟨k3, s3, e3, d3, z4, z5, z6, z7, rfl⟩ ⟨rfl, hy⟩
      obtain ⟨p, hp, t, rfl, ht⟩ := Paired.get p2 hy
      have ht3 := k3.tup _ _ ht
      have hpl : p.length = ls.length := by
        have := mem_places.mp (List.mem_of_getElem? hp)
        exact this.len
      refine ⟨_, rfl, _, rfl, _, rfl, t, c, _, _, rfl, .inr ⟨SqT.of ht3, SqT.of (s3 _ _ hc), for_it (walk_zipT (n := p.length) (by simp [hlen, hpl])) (fun j σ H' => Same H3 H' ∧ ∃ z6 z7, σ = [some v, some (.int b), some (.ref c), some (.ref l), some (.ref t), some (.int (b + dot (p.take j) ss)), z6, z7]) ⟨Same.refl _, z6, z7, by rw [List.take_zero, dot_nil, Int.add_zero]; rfl⟩ (fun j σ H' _ p => ⟨SqT.of (p.1 _ _ ht3), SqT.of (p.1 _ _ (s3 _ _ hc))⟩) ?_ ?_⟩⟩
      · rintro j x σ H9 H4 hj ⟨s4, z6, z7, rfl⟩ ⟨t5, x1, x2, rfl, hn, rfl, g1, g2⟩
        obtain ⟨n, hn', rfl⟩ := map_at g1
        obtain ⟨st, hst, rfl⟩ := map_at g2
        have hin := mem_places.mp (List.mem_of_getElem? hp)
        have hnb : 0 ≤ n ∧ n ≤ 600 := by
          have hjl : j < ls.length := by omega
          have h01 := InP.at hin (List.getElem?_eq_getElem hjl) hn'
          have := len_in hL.rng (List.getElem?_eq_getElem hjl)
          omega
        refine ⟨t5, _, rfl, SqT.of upd_same, rfl, _, _, rfl, _, _, rfl, rfl, ?_⟩
        refine ⟨_, rfl, _, rfl, _, rfl, _, _, rfl, rfl, .inl (by omega), _, _, rfl, rfl, s4.trans (Same.new hn), some (.int n), some (.int st), ?_⟩
        have ht : (p.take j).length = j := by rw [List.length_take]; omega
        rw [take_snoc hn', dot_snoc (by rw [ht]; exact hst), ← Int.add_assoc]; rfl
      · rintro σ H4 ⟨s4, z6, z7, rfl⟩
        rw [List.take_length]
        have d4 := s4 _ _ d3
        have k5 : KT K H4 (upd H4 l (.lst ((((places ls).take i).map fun p => .int (b + dot p ss)) ++ [.int (b + dot p ss)]))) := KT.lst d4
        refine ⟨_, rfl, .inl ⟨rfl, _, SqL.of d4⟩, _, rfl, l, _, _, rfl, rfl, d4, by rw [List.length_map, List.length_take, sizeLine_eq]; omega, ?_⟩
        refine ⟨(k3.trans (.of s4)).trans k5, Same.mut (s3.trans s4) hl, (upd_ne nl2).trans (s4 _ _ e3), ?_, _, _, _, _, rfl⟩
        rw [upd_same, take_snoc hp, List.map_append]; rfl
    · rintro σ H3 ⟨k3, s3, e3, d3, z4, z5, z6, z7, rfl⟩
      refine ⟨_, rfl, q l H3 hl s3 ?_⟩
      rw [d3, List.take_of_length_le (by omega)]
      unfold cellsOf; rw [List.map_map]; rfl
    
end
end Vg

namespace Vg
open PySem PySem.Spec PyProof.Rows L2 RZ RT
/-- the product of the sides that are not zero -/
def pmax (ls : List Int) : Int := prod (ls.map fun n => if n > 1 then n else 1)
theorem pmax_snoc (ls : List Int) (n : Int) : pmax (ls ++ [n]) = pmax ls * (if n > 1 then n else 1) := by
  unfold pmax; rw [List.map_append, prod_append]; rw [show prod (([n] : List Int).map fun n => if n > 1 then n else 1) = if n > 1 then n else 1 from Int.one_mul _]
theorem pmax_pos (ls : List Int) : 1 ≤ pmax ls := by
  refine prod_pos (fun n hn => ?_) (fun h => ?_)
  · obtain ⟨m, _, rfl⟩ := List.mem_map.mp hn; split <;> omega
  · obtain ⟨m, _, e⟩ := List.mem_map.mp (prod_zero.mp h); split at e <;> omega
theorem pmax_cons (n : Int) (ls : List Int) : pmax (n :: ls) = (if n > 1 then n else 1) * pmax ls := by
  unfold pmax; rw [List.map_cons, prod_cons]
theorem prod_le_pmax : ∀ {ls : List Int}, (∀ n ∈ ls, 0 ≤ n) → prod ls ≤ pmax ls
  | [], _ => Int.le_refl _
  | n :: r, h => by
    rw [prod_cons, pmax_cons]
    have h1 := prod_le_pmax fun m hm => h m (List.mem_cons_of_mem _ hm)
    have h2 := prod_nonneg fun m hm => h m (List.mem_cons_of_mem n hm)
    have h3 := h n (List.mem_cons_self ..)
    refine Int.mul_le_mul ?_ h1 h2 ?_ <;> split <;> omega
theorem two_at (a b : V) (k : Bool) : atI [a, b] (if k = true then (1 : Int) else 0) = some (if k = true then b else a) := by cases k <;> rfl
theorem ints_in {xs : List V} (ns : List Int) (e : xs = ns.map V.int) {lo hi : Int} (hb : ∀ n ∈ ns, lo ≤ n ∧ n ≤ hi) {m : Int} (h0 : 0 ≤ m) (h1 : m < ns.length) : ∃ p, atI xs m = some (.int p) ∧ lo ≤ p ∧ p ≤ hi := by
  obtain ⟨p, hp, e2⟩ := ints_at h0 h1
  exact ⟨p, by rw [e]; exact e2, hb p hp⟩
theorem PU.ne {H : Hp} {pa l : Addr} {k : Nat} (h : PU H pa k) (hl : H l = none) : l ≠ pa := by
  obtain ⟨d, s0, n, e, _⟩ := h
  exact fun c => by rw [c, e] at hl; cases hl
theorem PU.some {H : Hp} {pa : Addr} {k : Nat} (h : PU H pa k) : ∃ xs, H pa = some (.lst xs) := let ⟨_, _, _, e, _⟩ := h; ⟨_, e⟩
theorem one_mul_le {a b : Int} (ha : 1 ≤ a) (hb : 1 ≤ b) : 1 ≤ a * b := by
  have := Int.mul_le_mul ha hb (by decide) (by omega)
  omega
section
variable {P : Program} {w : World} {K : PySem.W.Frag} {mg : Str → Option Value} {base : Heap}
def sp__law_lengths : Sp := fun vs H Q _ => ∃ (pa : Addr) (k : Nat), vs = [.ref pa, .int 20] ∧ PU H pa k ∧ k ≤ 990000 ∧ ∀ v ls H', SX pa H H' → PU H' pa (k + 20) → IT H' v ls → ls.length ≤ 5 → (∀ n ∈ ls, 0 ≤ n ∧ n ≤ 20) → pmax ls ≤ 20 → Q v H'
abbrev N__law_lengths : List Str := ["_law_purse_here", "_law_most", "_law_found", "_law_size", "_law_turn", "_law_wide", "_law_length"]
theorem sc__law_lengths : FnScope N__law_lengths ["_law_purse_here", "_law_most"] (defScope s__law_lengths) := ⟨rfl, rfl, rfl, by decide +kernel, rfl, by decide +kernel, by decide +kernel⟩
theorem ok__law_lengths (T : Txt K mg) : GF P w K mg base 2 "_law_lengths" ["_law_purse_here", "_law_most"] sp__law_lengths := by
  have nd := sc__law_lengths.nd
  refine gf_of T (d := d__law_lengths) (x := "_law_lengths") rfl rfl rfl (i := 63) rfl (by decide +kernel) sc__law_lengths (fun _ _ _ _ _ _ us hl => match us, hl with | [_, _], _ => rfl) (fun vs H Q E h => ?_) (fun cdv A outer s H vs Q E hr h => ?_)
  · obtain ⟨pa, k, rfl, _⟩ := h; rfl
  · refine ⟨_, (pss_cons (ps_set (i := 2) nd rfl (Or.inl rfl) (pe_tup pa_nil))
      (pss_cons (ps_set (i := 3) nd rfl (Or.inl rfl) pe_int)
      (pss_cons (ps_for PassesOwn.never rfl (pi_range1 rfl (T.free "range") (pa_cons (pe_ix ix_list (pe_lst (pa_cons pe_int (pa_cons pe_int (pa_cons pe_int (pa_cons pe_int (pa_cons pe_int (pa_cons pe_int (pa_cons pe_int (pa_cons pe_int pa_nil))))))))) (pe_callG (ok__law_take T) (hr.mono (by decide)) rfl (pa_cons (pv 0) (pa_cons pe_int pa_nil))) (fun _ _ => rfl)) pa_nil)) (pg_name (i := 4) nd rfl (Or.inl rfl)) (pss_cons (ps_set (i := 5) nd rfl (Or.inl rfl) (pe_ix ix_list (pe_lst (pa_cons pe_int (pa_cons pe_int (pa_cons pe_int (pa_cons pe_int (pa_cons pe_int (pa_cons pe_int (pa_cons pe_int (pa_cons pe_int pa_nil))))))))) (pe_callG (ok__law_take T) (hr.mono (by decide)) rfl (pa_cons (pv 0) (pa_cons pe_int pa_nil))) (fun _ _ => rfl)))
      (pss_cons (ps_set (i := 6) nd rfl (Or.inl rfl) (pe_op op_add pe_int (pe_callG (ok__law_take T) (hr.mono (by decide)) rfl (pa_cons (pv 0) (pa_cons (pv 5) pa_nil)))))
      (pss_cons (ps_if (pt_cmpR op_gt (pe_op op_mul (pv 3) (pv 6)) (pv 1) (nomark _)) (pss_one (ps_set (i := 6) nd rfl (Or.inl rfl) pe_int)) pss_nil)
      (pss_cons (ps_set (i := 3) nd rfl (Or.inl rfl) (pe_op op_mul (pv 3) (pv 6)))
      (pss_one (ps_set (i := 2) nd rfl (Or.inl rfl) (pe_op op_catA (pv 2) (pe_tup (pa_cons (pe_ix ix_list (pe_lst (pa_cons (pv 6) (pa_cons pe_int pa_nil))) (pe_callTy call_int1 rfl (T.free "int") (by decide +kernel) (pa_cons (pe_cmpR op_eq (pe_callG (ok__law_take T) (hr.mono (by decide)) rfl (pa_cons (pv 0) (pa_cons pe_int pa_nil))) pe_int (nomark _)) pa_nil)) (fun _ _ => rfl)) pa_nil))))))))))
      (pss_one (ps_ret (pv 2)))))), ?_⟩
    obtain ⟨pa, k, rfl, hp, hk, q⟩ := h
    refine ⟨by show 0 ≤ sizeLine; decide, fun t0 ht0 => ?_⟩
    have hp0 := hp.same (Same.new (o := .tup []) ht0)
    have x0 : SX pa H (upd H t0 (.tup [])) := SX.of (Same.new ht0)
    have e0 : (upd H t0 (.tup [])) t0 = some (.tup []) := upd_same
    generalize upd H t0 (.tup []) = H0 at hp0 x0 e0
    have n0 : t0 ≠ pa := hp.ne ht0
    refine ⟨by show 8 ≤ sizeLine; decide, fun l hl => ?_⟩
    have hp1 := hp0.same (Same.new (o := .lst [V.int 4, V.int 1, V.int 2, V.int 3, V.int 3, V.int 2, V.int 0, V.int 5]) hl)
    refine ⟨_, rfl, pa, k, 8, rfl, hp1, by omega, by decide, by decide, fun r H1 r0 r1 x1 u1 => ?_⟩
    have hl1 := x1 l _ (hp0.ne hl) upd_same
    obtain ⟨m, em, m0, m1⟩ := ints_in [4, 1, 2, 3, 3, 2, 0, 5] rfl (lo := 0) (hi := 5) (by decide) r0 (by show r < 8; exact r1)
    have e1 := x1 t0 _ n0 ((Same.new (o := .lst [V.int 4, V.int 1, V.int 2, V.int 3, V.int 3, V.int 2, V.int 0, V.int 5]) hl) _ _ e0)
    have x01 := (x0.trans (SX.of (Same.new (o := .lst [V.int 4, V.int 1, V.int 2, V.int 3, V.int 3, V.int 2, V.int 0, V.int 5]) hl))).trans x1
    refine ⟨l, _, _, _, rfl, rfl, SqL.of hl1, em, m, rfl, by omega, by omega, ?_⟩
    refine for_it walk_range (fun i σ H' => SX pa H H' ∧ PU H' pa (k + 1 + 3 * i) ∧ ∃ (size : Int) (ls : List Int) (v : V) (z4 z5 z6 : Option V), σ = [some (.ref pa), some (.int 20), some v, some (.int size), z4, z5, z6] ∧ IT H' v ls ∧ ls.length = i ∧ (∀ n ∈ ls, 0 ≤ n ∧ n ≤ 20) ∧ 1 ≤ size ∧ size ≤ 20 ∧ pmax ls ≤ size)
      ⟨x01, u1, 1, [], .ref t0, _, _, _, rfl, ⟨t0, rfl, e1⟩, rfl, by decide, by decide, by decide, by decide⟩ (fun _ _ _ _ _ => trivial) ?_ ?_
    · rintro i x σ H8 H2 hi ⟨x2, u2, size, ls, v, z4, z5, z6, rfl, ⟨a, rfl, ha⟩, hlen, hb, s1, s2, hpm⟩ ⟨rfl, rfl⟩
      have na : a ≠ pa := fun c => by obtain ⟨ys, e⟩ := u2.some; rw [c, e] at ha; cases ha
      refine ⟨by show 8 ≤ sizeLine; decide, fun l2 hl2 => ?_⟩
      have x3 : SX pa H2 (upd H2 l2 (.lst ([6, 6, 6, 4, 3, 3, 2, 19].map V.int))) := SX.of (Same.new hl2)
      have u3 := u2.same (Same.new (o := .lst ([6, 6, 6, 4, 3, 3, 2, 19].map V.int)) hl2)
      refine ⟨_, rfl, pa, _, 8, rfl, u3, by omega, by decide, by decide, fun r H3 r0 r1 x4 u4 => ?_⟩
      obtain ⟨wd, ewd, w0, w1⟩ := ints_in [6, 6, 6, 4, 3, 3, 2, 19] rfl (lo := 2) (hi := 19) (by decide) r0 (by show r < 8; exact r1)
      refine ⟨l2, _, _, _, rfl, rfl, SqL.of (x4 l2 _ (u2.ne hl2) upd_same), ewd, ?_⟩
      refine ⟨_, rfl, _, rfl, pa, _, wd, rfl, u4, by omega, by omega, by omega, fun r2 H4 r20 r21 x5 u5 => ?_⟩
      have x45 := (x3.trans x4).trans x5
      refine ⟨_, _, rfl, rfl, ?_⟩
      refine ⟨_, rfl, _, rfl, _, _, rfl, rfl, .inl (by omega), _, rfl, _, _, rfl, rfl, decide ((20 : Int) < size * (1 + r2)), rfl, ?_⟩
      by_cases hgt : (20 : Int) < size * (1 + r2)
      · rw [decide_eq_true hgt]
        refine iteT ?_
        have l1 : (1 : Int) ≤ 1 := by decide
        have l2 : (1 : Int) ≤ 19 := by decide
        have l3 : size * 1 ≤ 20 := by omega
        have l4 : 1 ≤ size * 1 := one_mul_le s1 l1
        refine ⟨_, rfl, _, rfl, _, _, rfl, rfl, .inl (by omega), ?_⟩
        refine ⟨_, rfl, _, rfl, by show 2 ≤ sizeLine; decide, fun lq hlq => ?_⟩
        have x6 : SX pa H4 (upd H4 lq (.lst [.int (1), .int 0])) := SX.of (Same.new hlq)
        refine ⟨_, rfl, pa, _, 20, rfl, u5.same (Same.new hlq), by omega, by decide, by decide, fun r3 H5 r30 r31 x7 u7 => ?_⟩
        refine ⟨rfl, .inr ⟨_, rfl, lq, _, _, _, rfl, rfl, SqL.of (x7 lq _ (u5.ne hlq) upd_same), two_at _ _ _, by show 1 ≤ sizeLine; decide, fun t ht => ?_⟩⟩
        have x9 : SX pa H2 H5 := x45.trans (x6.trans x7)
        have ha5 := x9 a _ na ha
        have hn : ∃ n : Int, (if decide (V.int r3 = V.int 7) = true then V.int 0 else V.int (1)) = .int n ∧ 0 ≤ n ∧ n ≤ 1 := by
          split
          · exact ⟨0, rfl, by omega, by omega⟩
          · exact ⟨_, rfl, by omega, by omega⟩
        obtain ⟨n, en, n0, n1⟩ := hn
        refine catA_ok (Same.new ht _ _ ha5) upd_same (by rw [List.length_map]; simp; omega) fun c H6 s6 e6 => ?_
        have s57 := (Same.new ht).trans s6
        refine ⟨(x2.trans x9).trans (SX.of s57), (u7.same s57).le (by omega), size * (1), ls ++ [n], .ref c, _, _, _, rfl, ⟨c, rfl, ?_⟩, by rw [List.length_append]; simp; exact hlen, ?_, l4, l3, ?_⟩
        · rw [e6, List.map_append]
          rw [en]; rfl
        · intro z hz
          rcases List.mem_append.mp hz with hz | hz
          · exact hb z hz
          · rw [List.mem_singleton.mp hz]; omega
        · rw [pmax_snoc]
          exact Int.mul_le_mul hpm (by split <;> omega) (by split <;> omega) (by omega)
      · rw [decide_eq_false hgt]
        refine iteF ?_
        have l1 : 1 ≤ 1 + r2 := by omega
        have l2 : 1 + r2 ≤ 19 := by omega
        have l3 : size * (1 + r2) ≤ 20 := by omega
        have l4 : 1 ≤ size * (1 + r2) := one_mul_le s1 l1
        refine ⟨_, rfl, _, rfl, _, _, rfl, rfl, .inl (by omega), ?_⟩
        refine ⟨_, rfl, _, rfl, by show 2 ≤ sizeLine; decide, fun lq hlq => ?_⟩
        have x6 : SX pa H4 (upd H4 lq (.lst [.int (1 + r2), .int 0])) := SX.of (Same.new hlq)
        refine ⟨_, rfl, pa, _, 20, rfl, u5.same (Same.new hlq), by omega, by decide, by decide, fun r3 H5 r30 r31 x7 u7 => ?_⟩
        refine ⟨rfl, .inr ⟨_, rfl, lq, _, _, _, rfl, rfl, SqL.of (x7 lq _ (u5.ne hlq) upd_same), two_at _ _ _, by show 1 ≤ sizeLine; decide, fun t ht => ?_⟩⟩
        have x9 : SX pa H2 H5 := x45.trans (x6.trans x7)
        have ha5 := x9 a _ na ha
        have hn : ∃ n : Int, (if decide (V.int r3 = V.int 7) = true then V.int 0 else V.int (1 + r2)) = .int n ∧ 0 ≤ n ∧ n ≤ 1 + r2 := by
          split
          · exact ⟨0, rfl, by omega, by omega⟩
          · exact ⟨_, rfl, by omega, by omega⟩
        obtain ⟨n, en, n0, n1⟩ := hn
        refine catA_ok (Same.new ht _ _ ha5) upd_same (by rw [List.length_map]; simp; omega) fun c H6 s6 e6 => ?_
        have s57 := (Same.new ht).trans s6
        refine ⟨(x2.trans x9).trans (SX.of s57), (u7.same s57).le (by omega), size * (1 + r2), ls ++ [n], .ref c, _, _, _, rfl, ⟨c, rfl, ?_⟩, by rw [List.length_append]; simp; exact hlen, ?_, l4, l3, ?_⟩
        · rw [e6, List.map_append]
          rw [en]; rfl
        · intro z hz
          rcases List.mem_append.mp hz with hz | hz
          · exact hb z hz
          · rw [List.mem_singleton.mp hz]; omega
        · rw [pmax_snoc]
          exact Int.mul_le_mul hpm (by split <;> omega) (by split <;> omega) (by omega)
    · rintro σ H2 ⟨x2, u2, size, ls, v, z4, z5, z6, rfl, hv, hlen, hb, s1, s2, hpm⟩
      exact ⟨_, rfl, q v ls H2 x2 (u2.le (by omega)) hv (by omega) hb (by omega)⟩
    
end
end Vg

namespace Vg
open PySem PySem.Spec PyProof.Rows L2 RZ RT
theorem prod_erase : ∀ {ls : List Int} {k : Nat} {n : Int}, ls[k]? = some n → prod ls = n * prod (ls.eraseIdx k)
  | m :: r, 0, n, h => by
    simp at h; subst h; rw [prod_cons]; rfl
  | m :: r, k + 1, n, h => by
    rw [List.eraseIdx_cons_succ, prod_cons, prod_cons, prod_erase (ls := r) (k := k) (n := n) (by simpa using h), ← Int.mul_assoc, ← Int.mul_assoc, Int.mul_comm m n]
theorem map_erase {α β : Type} (f : α → β) : ∀ (l : List α) (k : Nat), (l.eraseIdx k).map f = (l.map f).eraseIdx k
  | [], _ => rfl
  | _ :: _, 0 => rfl
  | a :: r, k + 1 => by
    show f a :: _ = f a :: _
    rw [map_erase f r k]
theorem pmax_erase {ls : List Int} {k : Nat} {n : Int} (h : ls[k]? = some n) : pmax ls = (if n > 1 then n else 1) * pmax (ls.eraseIdx k) := by
  unfold pmax
  rw [prod_erase (n := if n > 1 then n else 1) (by rw [List.getElem?_map, h]; rfl), map_erase]
/-- the sides of the places still left -/
def leftL (ls : List Int) (left : List Nat) : List Int := left.map fun i => ls.getD i 0
theorem leftL_all (ls : List Int) : leftL ls (List.range ls.length) = ls := by
  unfold leftL
  refine List.ext_getElem? fun i => ?_
  rw [List.getElem?_map]
  by_cases h : i < ls.length
  · rw [List.getElem?_range h, List.getElem?_eq_getElem h]
    simp [List.getD_eq_getElem?_getD, List.getElem?_eq_getElem h]
  · rw [List.getElem?_eq_none (by simpa using h), List.getElem?_eq_none (by omega)]; rfl
def absI (n : Int) : Int := (n.natAbs : Int)
theorem step_ok {ls : List Int} {left : List Nat} {k at_ : Nat} {n step : Int} (hk : left[k]? = some at_) (hn : ls[at_]? = some n) (h : absI step * pmax (leftL ls left) ≤ 60) :
    absI (step * (if n > 1 then n else 1)) * pmax (leftL ls (left.eraseIdx k)) ≤ 60 := by
  have e : (leftL ls left)[k]? = some n := by
    unfold leftL; rw [List.getElem?_map, hk]
    show some (ls.getD at_ 0) = _
    rw [List.getD_eq_getElem?_getD, hn]; rfl
  rw [pmax_erase e] at h
  have e2 : leftL ls (left.eraseIdx k) = (leftL ls left).eraseIdx k := map_erase ..
  rw [e2]
  have e3 : absI (step * (if n > 1 then n else 1)) = absI step * (if n > 1 then n else 1) := by
    unfold absI
    rw [Int.natAbs_mul, Int.natCast_mul]
    congr 1
    split <;> omega
  rw [e3, Int.mul_assoc]; exact h
theorem step_le {step : Int} {xs : List Int} (h : absI step * pmax xs ≤ 60) : -60 ≤ step ∧ step ≤ 60 := by
  have h1 := pmax_pos xs
  have h2 : absI step * 1 ≤ absI step * pmax xs := Int.mul_le_mul_of_nonneg_left h1 (by unfold absI; omega)
  unfold absI at *; omega
theorem SX.free {pa l : Addr} {H H' : Hp} (s : SX pa H H') (h : H' l = none) (n : l ≠ pa) : H l = none := by
  cases e : H l with
  | none => rfl
  | some o => rw [s l o n e] at h; cases h
theorem PU.put {H : Hp} {pa l : Addr} {k : Nat} {o : HO} (h : PU H pa k) (n : l ≠ pa) : PU (upd H l o) pa k := let ⟨d, x, m, e, q⟩ := h; ⟨d, x, m, (upd_ne (Ne.symm n)).trans e, q⟩
section
variable {P : Program} {w : World} {K : PySem.W.Frag} {mg : Str → Option Value} {base : Heap}
def sp__law_steps : Sp := fun vs H Q _ => ∃ (pa : Addr) (k : Nat) (v : V) (ls : List Int), vs = [.ref pa, v] ∧ PU H pa k ∧ k ≤ 990000 ∧ IT H v ls ∧ ls.length ≤ 5 ∧ (∀ n ∈ ls, 0 ≤ n ∧ n ≤ 20) ∧ pmax ls ≤ 20 ∧ ∀ u ss H', SX pa H H' → PU H' pa (k + 20) → IT H' u ss → ss.length = ls.length → (∀ s ∈ ss, -64 ≤ s ∧ s ≤ 64) → Q u H'
abbrev N__law_steps : List Str := ["_law_purse_here", "_law_lengths_here", "_law_way", "_law_length", "_law_left", "_law_step", "_law_found", "_law_at"]
theorem sc__law_steps : FnScope N__law_steps ["_law_purse_here", "_law_lengths_here"] (defScope s__law_steps) := ⟨rfl, rfl, rfl, by decide +kernel, rfl, by decide +kernel, by decide +kernel⟩
theorem ok__law_steps (T : Txt K mg) : GF P w K mg base 2 "_law_steps" ["_law_purse_here", "_law_lengths_here"] sp__law_steps := by
  have nd := sc__law_steps.nd
  refine gf_of T (d := d__law_steps) (x := "_law_steps") rfl rfl rfl (i := 65) rfl (by decide +kernel) sc__law_steps (fun _ _ _ _ _ _ us hl => match us, hl with | [_, _], _ => rfl) (fun vs H Q E h => ?_) (fun cdv A outer s H vs Q E hr h => ?_)
  · obtain ⟨pa, k, v, ls, rfl, _⟩ := h; rfl
  · refine ⟨_, (pss_cons (ps_set (i := 2) nd rfl (Or.inl rfl) (pe_callG (ok__law_take T) (hr.mono (by decide)) rfl (pa_cons (pv 0) (pa_cons pe_int pa_nil))))
      (pss_cons (ps_if (pt_cmpR op_eq (pv 2) pe_int (nomark _)) (pss_one (ps_ret (pe_callTy call_tuple_of rfl (T.free "tuple") (by decide +kernel) (pa_cons (pe_lc (own := [("_law_length", 3)]) (g := (gName 3)) (tt := tYes) rfl nd (pi_tup (pv 1)) (blkOk_by (N := N__law_steps) (sc := defScope s__law_steps) (by decide +kernel)) (fun _ _ _ _ _ => (pg_name (i := 3) nd rfl (Or.inl rfl))) (fun _ _ _ _ _ => pts_nil) (fun _ _ _ _ _ => (pe_op op_sub (pe_callG (ok__law_take T) (hr.mono (by decide)) rfl (pa_cons (pv 0) (pa_cons pe_int pa_nil))) pe_int))) pa_nil)))) pss_nil)
      (pss_cons (ps_set (i := 4) nd rfl (Or.inl rfl) (pe_listRg rfl rfl (T.free "list") (prg_1 rfl (T.free "range") (pe_callB call_len_seq rfl (T.free "len") boot_len (pa_cons (pv 1) pa_nil)))))
      (pss_cons (ps_set (i := 5) nd rfl (Or.inl rfl) (pe_ix ix_list (pe_lst (pa_cons pe_int (pa_cons (pe_un un_neg pe_int) (pa_cons pe_int (pa_cons (pe_un un_neg pe_int) pa_nil))))) (pe_callG (ok__law_take T) (hr.mono (by decide)) rfl (pa_cons (pv 0) (pa_cons pe_int pa_nil))) (fun _ _ => rfl)))
      (pss_cons (ps_setLc (i := 6) (own := [("_law_length", 3)]) (g := (gName 3)) (tt := tYes) rfl nd rfl rfl (sw_true rfl rfl rfl (by decide +kernel)) (pi_tup (pv 1)) (blkOk_by (N := N__law_steps) (sc := defScope s__law_steps) (by decide +kernel)) (fun _ _ _ _ _ => (pg_name (i := 3) nd rfl (Or.inl rfl))) (fun _ _ _ _ _ => pts_nil) (fun _ _ _ _ _ => pe_int))
      (pss_cons (ps_while PassesOwn.never (pt_cmpR (op_neInts hr.units) (pv 4) (pe_lst pa_nil) (nomark _)) (pss_cons (ps_set (i := 7) nd rfl (Or.inl rfl) (pe_bm PySem.F.plainAttrs_list PySem.F.slot_list_pop PySem.F.type_list_pop mt_popAt (pv 4) (pa_cons (pe_ix ix_list (pe_lst (pa_cons (pe_op op_sub (pe_callB call_len_seq rfl (T.free "len") boot_len (pa_cons (pv 4) pa_nil)) pe_int) (pa_cons (pe_callG (ok__law_take T) (hr.mono (by decide)) rfl (pa_cons (pv 0) (pa_cons (pe_callB call_len_seq rfl (T.free "len") boot_len (pa_cons (pv 4) pa_nil)) pa_nil))) pa_nil))) (pe_callTy call_int1 rfl (T.free "int") (by decide +kernel) (pa_cons (pe_cmpR op_eq (pv 2) pe_int (nomark _)) pa_nil)) (fun _ _ => rfl)) pa_nil)))
      (pss_cons (ps_asg (pv 5) (pg_sub (pv 6) (pv 7) set_list))
      (pss_one (ps_set (i := 5) nd rfl (Or.inl rfl) (pe_op op_mul (pv 5) (pe_callB (call_max2 rfl) rfl (T.free "max") (by decide +kernel) (pa_cons pe_int (pa_cons (pe_ix ix_tup (pv 1) (pv 7) (fun _ _ => rfl)) pa_nil)))))))))
      (pss_cons (ps_if (PW.pt (pw_and (pt_cmpR op_eq (pv 2) pe_int (nomark _)) (pw_and1 (pt_cmpR op_gt (pe_callB call_len_seq rfl (T.free "len") boot_len (pa_cons (pv 6) pa_nil)) pe_int (nomark _))))) (pss_one (ps_asg (pe_op op_sub (pe_op op_add (pe_ix ix_list (pv 6) pe_int (fun _ _ => rfl)) (pe_callG (ok__law_take T) (hr.mono (by decide)) rfl (pa_cons (pv 0) (pa_cons pe_int pa_nil)))) pe_int) (pg_sub (pv 6) pe_int set_list))) pss_nil)
      (pss_one (ps_ret (pe_callTy call_tuple_of rfl (T.free "tuple") (by decide +kernel) (pa_cons (pv 6) pa_nil))))))))))), ?_⟩
    obtain ⟨pa, k, v, ls, rfl, hp, hk, ⟨a, rfl, ha⟩, hlen, hb, hpm, q⟩ := h
    have na : a ≠ pa := fun c => by obtain ⟨ys, e⟩ := hp.some; rw [c, e] at ha; cases ha
    refine ⟨_, rfl, pa, k, 4, rfl, hp, by omega, by decide, by decide, fun way H1 w0 w1 x1 u1 => ?_⟩
    have ha1 := x1 a _ na ha
    refine ⟨_, rfl, rfl, _, rfl, ?_⟩
    rw [dec_int]
    by_cases h3 : way = 3
    · rw [beq_iff_eq.mpr h3]
      refine iteT ⟨_, rfl, a, rfl, ⟨_, SqT.of ha1⟩, fun D hD => ?_⟩
      refine lc_it walk_tup (fun i H' => SX pa H H' ∧ PU H' pa (k + 1 + i) ∧ H' a = some (.tup (ls.map V.int)) ∧ D ≠ pa ∧ H' D ≠ none ∧ ∃ ss : List Int, H' D = some (.lst (ss.map V.int)) ∧ ss.length = i ∧ ∀ s ∈ ss, -64 ≤ s ∧ s ≤ 64)
        ⟨x1.trans (SX.of (Same.new hD)), u1.same (Same.new hD), Same.new hD _ _ ha1, u1.ne hD, by rw [upd_same]; simp, [], upd_same, rfl, by simp⟩ (fun i H' _ p => SqT.of p.2.2.1) ?_ ?_
      · rintro i y H2 H3 hi ⟨x2, u2, ha2, nD, _, ss, e2, l2, b2⟩ ⟨rfl, hy⟩
        rw [List.length_map] at hi
        refine ⟨rfl, yesT ⟨_, rfl, pa, _, 13, rfl, u2, by omega, by decide, by decide, fun r H4 r0 r1 x3 u3 => ⟨_, _, rfl, rfl, ?_⟩⟩⟩
        have e4 := x3 D _ nD e2
        refine ⟨_, e4, by rw [List.length_map, sizeLine_eq]; omega, SX.mut (x2.trans x3) (x1.free hD (u1.ne hD)), u3.put nD, (upd_ne (ne_of_none (x1 a _ na ha) hD)).trans (x3 a _ na ha2), nD, by rw [upd_same]; simp, ss ++ [r - 6], by rw [upd_same, List.map_append]; rfl, by simp; exact l2, ?_⟩
        intro s hs
        rcases List.mem_append.mp hs with hs | hs
        · exact b2 s hs
        · rw [List.mem_singleton.mp hs]; omega
      · rintro H2 ⟨x2, u2, ha2, nD, _, ss, e2, l2, b2⟩
        rw [List.length_map] at u2 l2
        refine ⟨D, _, rfl, .inl ⟨SqL.of e2, fun t ht => ?_⟩⟩
        exact q _ ss _ (x2.trans (SX.of (Same.new ht))) ((u2.same (Same.new ht)).le (by omega)) ⟨t, rfl, upd_same⟩ l2 b2
    rw [beq_eq_false_iff_ne.mpr h3]
    refine iteF ⟨_, rfl, a, _, rfl, .inr (SqT.of ha1), ls.length, by rw [List.length_map], RgOk.of_le (by decide) (by omega) (by decide) (by omega), fun l1 hl1 => ?_⟩
    have hl1' : l1 ≠ pa := u1.ne hl1
    have x2 := x1.trans (SX.of (Same.new (o := .lst (rgV 0 ls.length)) hl1))
    have u2 := u1.same (Same.new (o := .lst (rgV 0 ls.length)) hl1)
    have f1 : H l1 = none := x1.free hl1 hl1'
    have e2 : (upd H1 l1 (.lst (rgV 0 ls.length))) l1 = some (.lst ((List.range ls.length).map fun (i : Nat) => V.int i)) := by
      rw [upd_same]; unfold rgV; simp
    generalize upd H1 l1 (.lst (rgV 0 ls.length)) = H2 at x2 u2 e2
    refine ⟨_, rfl, _, rfl, by show 4 ≤ sizeLine; decide, fun l2 hl2 => ?_⟩
    refine ⟨_, rfl, pa, _, 4, rfl, u2.same (Same.new hl2), by omega, by decide, by decide, fun r H3 r0 r1 x3 u3 => ?_⟩
    obtain ⟨step, es, st0, st1⟩ := ints_in [1, -1, 2, -3] rfl (lo := -3) (hi := 3) (by decide) r0 (by show r < 4; exact r1)
    refine ⟨l2, _, _, _, rfl, rfl, SqL.of (x3 l2 _ (u2.ne hl2) upd_same), es, ?_⟩
    have x3' := (x2.trans (SX.of (Same.new hl2))).trans x3
    have e3 := x3 l1 _ hl1' (Same.new hl2 _ _ e2)
    have ha3 := x3' a _ na ha
    refine ⟨_, rfl, a, rfl, ⟨_, SqT.of ha3⟩, fun D hD => ?_⟩
    refine lc_map (K := K) (R := IntR) walk_tup mon_int (fun _ => (0 : Int)) (by rw [List.length_map]; omega) hD (fun H' s' => SqT.of (s' _ _ ha3)) ?_ ?_
    · rintro i y H4 H5 Kk hi s4 ⟨rfl, hy⟩ kk
      exact ⟨rfl, kk _ _ (Same.refl _) rfl⟩
    intro H4 acc s4 e4 p4
    rw [List.length_map] at p4
    have nDp : D ≠ pa := u3.ne hD
    have fD : H D = none := x3'.free hD nDp
    have nD1 : D ≠ l1 := fun c => by rw [c, e3] at hD; cases hD
    obtain ⟨zs, rfl, hzl, hzb⟩ : ∃ zs : List Int, acc = zs.map V.int ∧ zs.length = ls.length ∧ ∀ s ∈ zs, -60 ≤ s ∧ s ≤ 60 := by
      refine ⟨_, Paired.ints (Paired.mapP p4 fun _ _ h => h), by simp, fun s hs => ?_⟩
      obtain ⟨_, _, rfl⟩ := List.mem_map.mp hs; decide
    have x4 := x3'.trans (SX.of s4)
    have u4 := u3.same s4
    have e41 := s4 _ _ e3
    clear p4
    refine ⟨fun m σ H' => ∃ (left : List Nat) (step : Int) (zs : List Int) (z3 z7 : Option V), m = left.length ∧ σ = [some (.ref pa), some (.ref a), some (.int way), z3, some (.ref l1), some (.int step), some (.ref D), z7] ∧ SX pa H H' ∧ PU H' pa (k + 2 + (ls.length - left.length)) ∧ left.length ≤ ls.length ∧ (∀ i ∈ left, i < ls.length) ∧ H' l1 = some (.lst (left.map fun (i : Nat) => V.int i)) ∧ H' D = some (.lst (zs.map V.int)) ∧ zs.length = ls.length ∧ (∀ s ∈ zs, -60 ≤ s ∧ s ≤ 60) ∧ absI step * pmax (leftL ls left) ≤ 60,
      ⟨ls.length, List.range ls.length, step, zs, _, _, by simp, rfl, x4, u4.le (by omega), by simp, fun i hi => List.mem_range.mp hi, e41, e4, hzl, hzb, ?_⟩, ?_⟩
    · rw [leftL_all]
      have : absI step ≤ 3 := by unfold absI; omega
      have := pmax_pos ls
      have := Int.mul_le_mul ‹absI step ≤ 3› hpm (by omega) (by decide)
      omega
    clear hzb hzl e4 e41 u4 x4 s4 x3' e3 ha3 x3 u3 hD e2 x2 u2
    rintro m σ H4 ⟨left, step, zs, z3, z7, rfl, rfl, x4, u4, hll, hlr, e41, e4, hzl, hzb, hst⟩
    have sq : ∀ q0, H4 q0 = none → Same H4 (upd H4 q0 (.lst [])) := fun q0 h => Same.new h
    refine ⟨_, rfl, by show 0 ≤ sizeLine; decide, fun q0 hq0 => ?_⟩
    have s5 := sq q0 hq0
    refine ⟨l1, q0, left.map (fun (i : Nat) => (i : Int)), [], rfl, rfl, .inl ⟨SqL.of (by rw [List.map_map]; exact s5 _ _ e41), SqL.of upd_same⟩, decide (left ≠ []), congrArg V.bl (by simp), ?_⟩
    have x5 := x4.trans (SX.of s5)
    have u5 := u4.same s5
    have e51 := s5 _ _ e41
    have e5 := s5 _ _ e4
    generalize upd H4 q0 (.lst []) = H5 at x5 u5 e51 e5
    clear x4 u4 e41 e4 s5 hq0 sq
    by_cases h0 : left = []
    · subst h0
      rw [decide_eq_false (by simp)]
      refine iteF ⟨_, rfl, rfl, _, rfl, ?_⟩
      rw [dec_int]
      have ret : ∀ H6 (zs : List Int), SX pa H H6 → PU H6 pa (k + 3 + ls.length) → H6 D = some (.lst (zs.map V.int)) → zs.length = ls.length → (∀ s ∈ zs, -64 ≤ s ∧ s ≤ 64) → ∃ y : V, (some (some (V.ref D)) : Option (Option V)) = some (some y) ∧ ∃ p ys, [y] = [V.ref p] ∧ ((SqL K H6 p ys ∧ ∀ l, H6 l = none → Q (.ref l) (upd H6 l (.tup ys))) ∨ (SqT K H6 p ys ∧ Q (.ref p) H6)) := by
        intro H6 zs x6 u6 e6 hz hb6
        exact ⟨_, rfl, D, _, rfl, .inl ⟨SqL.of e6, fun t ht => q _ zs _ (x6.trans (SX.of (Same.new ht))) ((u6.same (Same.new ht)).le (by omega)) ⟨t, rfl, upd_same⟩ hz hb6⟩⟩
      have done := ret H5 zs x5 (u5.le (by simp)) e5 hzl fun s hs => by have := hzb s hs; omega
      by_cases hw : way = 1
      case neg =>
        rw [beq_eq_false_iff_ne.mpr hw]
        exact iteF (iteF done)
      rw [beq_iff_eq.mpr hw]
      refine iteT ⟨_, rfl, D, _, rfl, .inl (SqL.of e5), _, _, rfl, rfl, decide (((zs.map V.int).length : Int) > 1), rfl, ?_⟩
      by_cases hl : ((zs.map V.int).length : Int) > 1
      case neg => rw [decide_eq_false hl]; exact iteF done
      rw [decide_eq_true hl]
      rw [List.length_map] at hl
      have z0 : zs[0]? = some zs[0] := List.getElem?_eq_getElem (by omega)
      have zb := hzb _ (List.mem_of_getElem? z0)
      refine iteT ⟨_, rfl, D, _, _, _, rfl, rfl, SqL.of e5, at_of (j := 0) (v := .int zs[0]) rfl (by rw [List.getElem?_map, z0]; rfl), _, rfl, pa, _, 5, rfl, u5, by omega, by decide, by decide, fun r5 H6 r50 r51 x6 u6 => ?_⟩
      have e6 := x6 D _ nDp e5
      refine ⟨_, _, rfl, rfl, _, _, rfl, rfl, _, rfl, D, _, 0, 0, rfl, rfl, e6, ixN_at (j := 0) (by rw [List.length_map]; omega), ?_⟩
      refine ret _ (zs.set 0 (zs[0] + r5 - 1)) (SX.mut (x5.trans x6) fD) ((u6.put nDp).le (by simp; omega)) (by rw [upd_same, List.map_set]) (by simp; exact hzl) ?_
      intro s hs
      rcases List.mem_or_eq_of_mem_set hs with hs | rfl
      · have := hzb s hs; omega
      · omega
    have hpos : 0 < left.length := List.length_pos_iff.mpr h0
    rw [decide_eq_true h0]
    refine iteT ⟨fun σ' H' => ∃ m', m' < left.length ∧ ∃ (left : List Nat) (step : Int) (zs : List Int) (z3 z7 : Option V), m' = left.length ∧ σ' = [some (.ref pa), some (.ref a), some (.int way), z3, some (.ref l1), some (.int step), some (.ref D), z7] ∧ SX pa H H' ∧ PU H' pa (k + 2 + (ls.length - left.length)) ∧ left.length ≤ ls.length ∧ (∀ i ∈ left, i < ls.length) ∧ H' l1 = some (.lst (left.map fun (i : Nat) => V.int i)) ∧ H' D = some (.lst (zs.map V.int)) ∧ zs.length = ls.length ∧ (∀ s ∈ zs, -60 ≤ s ∧ s ≤ 60) ∧ absI step * pmax (leftL ls left) ≤ 60, fun _ _ h => h, ?_⟩
    refine ⟨_, rfl, .inl ⟨rfl, _, SqL.of e51⟩, _, rfl, l1, _, rfl, .inl (SqL.of e51), _, _, rfl, rfl, _, rfl, _, rfl, l1, _, rfl, .inl (SqL.of e51), pa, _, _, rfl, u5, by omega, by rw [List.length_map]; omega, by rw [List.length_map]; omega, fun r H6 r0 r1 x6 u6 => ?_⟩
    rw [List.length_map] at r1
    have hj : ∃ j : Nat, (if decide (V.int way = V.int 2) = true then V.int r else V.int (((left.map fun (i : Nat) => V.int i).length : Int) - 1)) = .int j ∧ j < left.length := by
      rw [List.length_map]
      split
      · exact ⟨r.toNat, by rw [Int.toNat_of_nonneg r0], by omega⟩
      · exact ⟨left.length - 1, congrArg V.int (by omega), by omega⟩
    obtain ⟨j, ej, hj⟩ := hj
    refine ⟨by show 2 ≤ sizeLine; decide, fun ql hql => ?_⟩
    have x7 := x6.trans (SX.of (Same.new (o := .lst [V.int (((left.map fun (i : Nat) => V.int i).length : Int) - 1), V.int r]) hql))
    have u7 := u6.same (Same.new (o := .lst [V.int (((left.map fun (i : Nat) => V.int i).length : Int) - 1), V.int r]) hql)
    have e71 := x7 l1 _ hl1' e51
    have e7 := x7 D _ nDp e5
    have hat : left[j]? = some left[j] := List.getElem?_eq_getElem hj
    generalize left[j] = at_ at hat
    have eql : (upd H6 ql (.lst [V.int (((left.map fun (i : Nat) => V.int i).length : Int) - 1), V.int r])) ql = some (.lst [V.int (((left.map fun (i : Nat) => V.int i).length : Int) - 1), V.int r]) := upd_same
    have hatl := hlr _ (List.mem_of_getElem? hat)
    refine ⟨_, rfl, rfl, .inr ⟨_, rfl, ql, _, _, _, rfl, rfl, SqL.of eql, (two_at _ _ _).trans (congrArg some ej), ?_⟩⟩
    refine ⟨l1, _, j, j, .int at_, rfl, rfl, e71, by omega, by omega, PySem.StrLaws.seqIndex_nonneg (i := (j : Int)) (by omega) (by rw [List.length_map]; omega), by rw [List.getElem?_map, hat]; rfl, ?_⟩
    have x8 : SX pa H (upd (upd H6 ql (.lst [V.int (((left.map fun (i : Nat) => V.int i).length : Int) - 1), V.int r])) l1 (.lst ((left.map fun (i : Nat) => V.int i).eraseIdx j))) := SX.mut (x5.trans x7) f1
    have u8 := u7.put (o := .lst ((left.map fun (i : Nat) => V.int i).eraseIdx j)) hl1'
    have e8 : (upd (upd H6 ql (.lst [V.int (((left.map fun (i : Nat) => V.int i).length : Int) - 1), V.int r])) l1 (.lst ((left.map fun (i : Nat) => V.int i).eraseIdx j))) D = some (.lst (zs.map V.int)) := (upd_ne nD1).trans e7
    have e81 : (upd (upd H6 ql (.lst [V.int (((left.map fun (i : Nat) => V.int i).length : Int) - 1), V.int r])) l1 (.lst ((left.map fun (i : Nat) => V.int i).eraseIdx j))) l1 = some (.lst ((left.eraseIdx j).map fun (i : Nat) => V.int i)) := by rw [upd_same, map_erase]
    generalize upd (upd H6 ql (.lst [V.int (((left.map fun (i : Nat) => V.int i).length : Int) - 1), V.int r])) l1 (.lst ((left.map fun (i : Nat) => V.int i).eraseIdx j)) = H7 at x8 u8 e8 e81
    refine ⟨_, rfl, _, rfl, _, rfl, D, _, at_, at_, rfl, rfl, e8, ixN_at (by rw [List.length_map]; omega), ?_⟩
    have hn : ls[at_]? = some ls[at_] := List.getElem?_eq_getElem hatl
    generalize ls[at_] = n at hn
    have x9 : SX pa H (upd H7 D (.lst ((zs.map V.int).set at_ (.int step)))) := SX.mut x8 fD
    have u9 := u8.put (o := .lst ((zs.map V.int).set at_ (.int step))) nDp
    have sb := step_le hst
    have hso := step_ok hat hn hst
    refine ⟨_, rfl, _, rfl, _, rfl, a, _, _, _, rfl, rfl, SqT.of (x9 a _ na ha), at_of (j := at_) (v := .int n) rfl (by rw [List.getElem?_map, hn]; rfl), _, _, rfl, _, _, rfl, rfl, .inl (by omega), ?_⟩
    have hel : (left.eraseIdx j).length = left.length - 1 := by rw [List.length_eraseIdx, if_pos hj]
    refine ⟨left.length - 1, by omega, left.eraseIdx j, _, zs.set at_ step, _, _, hel.symm, rfl, x9, u9.le (by omega), by omega, fun i hi => hlr i (List.mem_of_mem_eraseIdx hi), (upd_ne (Ne.symm nD1)).trans e81, by rw [upd_same, List.map_set], by rw [List.length_set]; exact hzl, ?_, hso⟩
    intro s hs
    rcases List.mem_or_eq_of_mem_set hs with hs | rfl
    · exact hzb s hs
    · omega
    
end
end Vg

namespace Vg
open PySem PySem.Spec PyProof.Rows L2 RZ RT
/-! ### the world of the law: what stays, the purse, the rooms -/
structure WD (K : PySem.W.Frag) (G H : Hp) (pa : Addr) (k : Nat) (ρ : List (Addr × List Int)) : Prop where
  rooms : Rooms K G H ρ
  pu : PU G pa k
section
variable {K : PySem.W.Frag} {G H H' : Hp} {pa : Addr} {k k' : Nat} {ρ : List (Addr × List Int)}
theorem WD.sm (W : WD K G H pa k ρ) : Same G H := W.rooms.sm
theorem WD.puH (W : WD K G H pa k ρ) : PU H pa k := W.pu.same W.sm
theorem WD.le (W : WD K G H pa k ρ) (h : k ≤ k') : WD K G H pa k' ρ := ⟨W.rooms, W.pu.le h⟩
/-- the rooms beside more, the purse paid -/
theorem WD.step (nRV : CRoom K ≠ CView K) (nVP : CView K ≠ CPage K) (W : WD K G H pa k ρ) (s : SX pa H H') (u : PU H' pa k') :
    ∃ G', SX pa G G' ∧ WD K G' H' pa k' ρ ∧ (∀ b xs, H' b = some (.tup xs) → G' b = some (.tup xs)) ∧ (∀ b dx fs, H' b = some (.ins (CView K) dx fs) → G' b = some (.ins (CView K) dx fs)) ∧ (∀ b o, H b = none → H' b = some o → G' b = some o) := by
  classical
  obtain ⟨⟨rs, pt, R, e⟩, p⟩ := W
  let kp : Addr → Prop := fun b => b = pa ∨ (∃ xs, H' b = some (.tup xs)) ∨ (∃ dx fs, H' b = some (.ins (CView K) dx fs)) ∨ H b = none
  let G' : Hp := fun b => if kp b then H' b else G b
  have g1 : ∀ b, kp b → G' b = H' b := fun b h => if_pos h
  have g2 : ∀ b, ¬ kp b → G' b = G b := fun b h => if_neg h
  have pn : ∀ b, G b = none → b ≠ pa := fun b h c => by obtain ⟨xs, ex⟩ := p.some; rw [c, ex] at h; cases h
  have sm' : Same G' H' := fun b o hb => by
    by_cases c : kp b
    · rw [← g1 b c]; exact hb
    · rw [g2 b c] at hb
      exact s b o (fun q => c (.inl q)) (R.sm _ _ hb)
  have keep : ∀ b o, G b = none → H b = some o → H' b = some o := fun b o h e => s b o (pn b h) e
  have out : ∀ b o, G b = none → H b = some o → (∀ xs, o ≠ .tup xs) → (∀ dx fs, o ≠ .ins (CView K) dx fs) → G' b = none := by
    intro b o h e n1 n2
    rw [g2 b, h]
    rintro (c | ⟨xs, c⟩ | ⟨dx, fs, c⟩ | c)
    · exact pn b h c
    · rw [keep b o h e] at c; exact n1 _ (Option.some.inj c)
    · rw [keep b o h e] at c; exact n2 _ _ (Option.some.inj c)
    · rw [e] at c; cases c
  refine ⟨G', fun b o n hb => ?_, ⟨⟨rs, pt, ⟨sm', fun r hr => ?_, fun r hr => ?_, fun r hr q hq => ?_, R.na, R.nl, R.ki, R.kp, R.hd⟩, e⟩, ?_⟩, fun b xs h => ?_, fun b dx fs h => ?_, fun b o h1 h2 => ?_⟩
  · by_cases c : kp b
    · rw [g1 b c]; exact s b o n (R.sm _ _ hb)
    · rw [g2 b c]; exact hb
  · have A := R.at_ r hr
    have ga := R.ga r hr
    refine A.keep (by rw [A.ob]; exact keep _ _ ga.1 A.ob) (by rw [A.ls]; exact keep _ _ ga.2 A.ls) fun q hq => ⟨⟨keep _ _ (R.gp r hr q hq).1 (A.pg q hq).1, keep _ _ (R.gp r hr q hq).2 (A.pg q hq).2⟩, rfl⟩
  · have A := R.at_ r hr
    have ga := R.ga r hr
    exact ⟨out _ _ ga.1 A.ob (fun _ h => by cases h) (fun _ _ h => by injection h with h1 _ _; exact nRV h1), out _ _ ga.2 A.ls (fun _ h => by cases h) (fun _ _ h => by cases h)⟩
  · have A := R.at_ r hr
    have ga := R.gp r hr q hq
    exact ⟨out _ _ ga.1 (A.pg q hq).1 (fun _ h => by cases h) (fun _ _ h => by injection h with h1 _ _; exact nVP h1.symm), out _ _ ga.2 (A.pg q hq).2 (fun _ h => by cases h) (fun _ _ h => by cases h)⟩
  · obtain ⟨d, x, n, e1, q⟩ := u
    exact ⟨d, x, n, (g1 pa (.inl rfl)).trans e1, q⟩
  · rw [g1 b (.inr (.inl ⟨xs, h⟩))]; exact h
  · rw [g1 b (.inr (.inr (.inl ⟨dx, fs, h⟩)))]; exact h
  · rw [g1 b (.inr (.inr (.inr h1)))]; exact h2
/-- the rooms' places and lengths stay -/
def RLe (ρ ρ' : List (Addr × List Int)) : Prop := ∀ (k : Nat) a xs, ρ[k]? = some (a, xs) → ∃ ys : List Int, ρ'[k]? = some (a, ys) ∧ ys.length = xs.length
theorem RLe.refl (ρ : List (Addr × List Int)) : RLe ρ ρ := fun _ _ xs h => ⟨xs, h, rfl⟩
theorem RLe.trans {ρ ρ1 ρ2 : List (Addr × List Int)} (a : RLe ρ ρ1) (b : RLe ρ1 ρ2) : RLe ρ ρ2 := fun k x xs h => by
  obtain ⟨ys, e, l⟩ := a k x xs h
  obtain ⟨zs, e2, l2⟩ := b k x ys e
  exact ⟨zs, e2, l2.trans l⟩
theorem RLe.app (ρ ρ2 : List (Addr × List Int)) : RLe ρ (ρ ++ ρ2) := fun k a xs h => ⟨xs, by
  obtain ⟨hk, e⟩ := List.getElem?_eq_some_iff.mp h
  rw [List.getElem?_append_left hk]; exact h, rfl⟩
theorem RLe.put {ρ : List (Addr × List Int)} {j i : Nat} {a : Addr} {xs : List Int} {n : Int} (h : ρ[j]? = some (a, xs)) : RLe ρ (ρ.set j (a, xs.set i n)) := fun k b ys hk => by
  rw [List.getElem?_set]
  by_cases e : j = k
  · subst e
    rw [if_pos rfl]
    rw [h] at hk
    cases hk
    obtain ⟨hj, _⟩ := List.getElem?_eq_some_iff.mp h
    rw [if_pos hj]
    exact ⟨_, rfl, by simp⟩
  · rw [if_neg e]; exact ⟨ys, hk, rfl⟩
theorem dot_told : ∀ {ls ss ps : List Int}, InP ls ps → ss.length = ls.length → dot ps ((ls.zip ss).map fun q => if q.1 = 1 then 0 else q.2) = dot ps ss
  | [], ss, ps, h, e => by
    cases ps with
    | nil => rw [dot_nil, dot_nil]
    | cons => exact h.elim
  | n :: ls, s :: ss, p :: ps, h, e => by
    have ih : dot ps ((ls.zip ss).map fun q => if q.1 = 1 then 0 else q.2) = dot ps ss := dot_told h.2 (by simpa using e)
    show dot (p :: ps) ((if n = 1 then 0 else s) :: ((ls.zip ss).map fun q => if q.1 = 1 then 0 else q.2)) = _
    rw [dot_cons, dot_cons, ih]
    by_cases c : n = 1
    · rw [if_pos c]
      have : p = 0 := by have := h.1; omega
      rw [this]; simp
    · rw [if_neg c]
  | _ :: _, [], _, _, e => by simp at e
  | _ :: _, _ :: _, [], h, _ => h.elim
theorem cells_told {ls ss : List Int} {b : Int} (e : ss.length = ls.length) : cellsOf ls (tb ls b) (tst ls ss) = cellsOf ls b ss := by
  unfold cellsOf
  by_cases h0 : prod ls = 0
  · unfold places; rw [if_pos h0]; rfl
  · unfold tb tst
    rw [if_neg h0, if_neg h0]
    exact List.map_congr_left fun p hp => by rw [dot_told (mem_places.mp hp) e]
/-- a view, its lengths and its cells, as the law keeps them -/
structure TabD (K : PySem.W.Frag) (G : Hp) (ρ : List (Addr × List Int)) (u lv : V) (c : Addr) (x : VW) : Prop where
  vw : VwR K G u x
  ok : VOK x
  ls : IT G lv x.ls
  cs : G c = some (.lst ((cellsOf x.ls x.b x.ss).map V.int))
  rm : ∃ (k : Nat) (xs : List Int), ρ[k]? = some (x.room, xs) ∧ ∀ z ∈ cellsOf x.ls x.b x.ss, 0 ≤ z ∧ z < (xs.length : Int)
theorem TabD.up {G' : Hp} {ρ' : List (Addr × List Int)} {u lv : V} {c : Addr} {x : VW} (t : TabD K G ρ u lv c x) (p : PU G pa k) (n : c ≠ pa) (s : SX pa G G') (r : RLe ρ ρ') : TabD K G' ρ' u lv c x := by
  have kt := p.kt (K := K) s
  obtain ⟨j, xs, h1, h2⟩ := t.rm
  obtain ⟨ys, h3, h4⟩ := r j _ _ h1
  exact ⟨mon_vw.up kt t.vw, t.ok, (mon_it (K := K)).up kt t.ls, s c _ n t.cs, j, ys, h3, by rw [h4]; exact h2⟩
end
end Vg

namespace Vg
open PySem PySem.Spec PyProof.Rows L2 RZ RT
section
variable {P : Program} {w : World} {K : PySem.W.Frag} {mg : Str → Option Value} {base : Heap}
def sp__law_room (K : PySem.W.Frag) : Sp := fun vs H Q _ => ∃ (G : Hp) (pa : Addr) (k many : Nat) (ρ : List (Addr × List Int)), vs = [.ref pa, .int many] ∧ WD K G H pa k ρ ∧ k ≤ 900000 ∧ many ≤ 700 ∧ ∀ a xs G' H', xs.length = many → SX pa G G' → WD K G' H' pa (k + 2000) (ρ ++ [(a, xs)]) → Q (.ref a) H'
abbrev N__law_room : List Str := ["_law_purse_here", "_law_many", "_law_k"]
theorem sc__law_room : FnScope N__law_room ["_law_purse_here", "_law_many"] (defScope s__law_room) := ⟨rfl, rfl, rfl, by decide +kernel, rfl, by decide +kernel, by decide +kernel⟩
theorem ok__law_room (T : Txt K mg) : GF P w K mg base 5 "_law_room" ["_law_purse_here", "_law_many"] (sp__law_room K) := by
  have nd := sc__law_room.nd
  refine gf_of T (d := d__law_room) (x := "_law_room") rfl rfl rfl (i := 67) rfl (by decide +kernel) sc__law_room (fun _ _ _ _ _ _ us hl => match us, hl with | [_, _], _ => rfl) (fun vs H Q E h => ?_) (fun cdv A outer s H vs Q E hr h => ?_)
  · obtain ⟨G, pa, k, many, ρ, rfl, _⟩ := h; rfl
  · refine ⟨_, (pss_one (ps_ret (pe_makeRoom T (fun fd F => ok_Room_init T F) (hr.mono (by decide)) rfl (pa_cons (pe_lc (own := [("_law_k", 2)]) (g := (gName 2)) (tt := tYes) rfl nd (pi_range1 rfl (T.free "range") (pa_cons (pv 1) pa_nil)) (blkOk_by (N := N__law_room) (sc := defScope s__law_room) (by decide +kernel)) (fun _ _ _ _ _ => (pg_name (i := 2) nd rfl (Or.inl rfl))) (fun _ _ _ _ _ => pts_nil) (fun _ _ _ _ _ => (pe_callG (ok__law_number T) (hr.mono (by decide)) rfl (pa_cons (pv 0) pa_nil)))) pa_nil) (pk_cons (pe_ix ix_list (pe_lst (pa_cons pe_int (pa_cons pe_int (pa_cons pe_int (pa_cons pe_int pa_nil))))) (pe_callG (ok__law_take T) (hr.mono (by decide)) rfl (pa_cons (pv 0) (pa_cons pe_int pa_nil))) (fun _ _ => rfl)) pk_nil)))), ?_⟩
    obtain ⟨G, pa, k, many, ρ, rfl, W, hk, hm, q⟩ := h
    refine ⟨_, rfl, many, rfl, by omega, by omega, fun D hD => ?_⟩
    have hp := W.puH
    have nD : D ≠ pa := hp.ne hD
    refine lc_it walk_range (fun i H' => SX pa H H' ∧ PU H' pa (k + 2 * i) ∧ ∃ xs : List Int, H' D = some (.lst (xs.map V.int)) ∧ xs.length = i)
      ⟨SX.of (Same.new hD), hp.same (Same.new hD), [], upd_same, rfl⟩ (fun _ _ _ _ => trivial) ?_ ?_
    · rintro i y H2 H3 hi ⟨x2, u2, xs, e2, l2⟩ ⟨rfl, rfl⟩
      refine ⟨rfl, yesT ⟨_, rfl, pa, _, rfl, u2, by omega, fun r H4 x3 u3 => ?_⟩⟩
      have e4 := x3 D _ nD e2
      exact ⟨_, e4, by rw [List.length_map, sizeLine_eq]; omega, SX.mut (x2.trans x3) hD, u3.put nD, xs ++ [r], by rw [upd_same, List.map_append]; rfl, by simp; exact l2⟩
    rintro H2 ⟨x2, u2, xs, e2, l2⟩
    refine ⟨by show 4 ≤ sizeLine; decide, fun l hl => ?_⟩
    have u3 := u2.same (Same.new (o := .lst ([8, 1, 3, 64].map V.int)) hl)
    refine ⟨_, rfl, pa, _, 4, rfl, u3, by omega, by decide, by decide, fun r H4 r0 r1 x4 u4 => ?_⟩
    obtain ⟨wd, ew, w0, w1⟩ := ints_in [8, 1, 3, 64] rfl (lo := 1) (hi := 64) (by decide) r0 (by show r < 4; exact r1)
    refine ⟨l, _, _, _, rfl, rfl, SqL.of (x4 l _ (u2.ne hl) upd_same), ew, ?_⟩
    have x24 := (x2.trans (SX.of (Same.new hl))).trans x4
    have e4 := x4 D _ nD (Same.new hl _ _ e2)
    refine ⟨rfl, rfl, ?_⟩
    rintro x dx hx hdx hne
    obtain ⟨G1, xG, W1, _⟩ := W.step T.nRV T.nVP x24 u4
    obtain ⟨⟨rs, pt, R, e⟩, pu1⟩ := W1
    obtain ⟨wn, rfl⟩ : ∃ wn : Nat, wd = wn := ⟨wd.toNat, (Int.toNat_of_nonneg (by omega)).symm⟩
    refine ⟨x, dx, D, wn, xs, rfl, upd_same, by omega, by omega, by omega, .inl ((upd_ne (ne_of_none e4 hx)).trans ((upd_ne (ne_of_none e4 hdx)).trans e4)), fun H5 r5 pt5 ra rx rw RA NR s5 => ⟨rfl, ?_⟩⟩
    subst ra rx
    have fr : ∀ b, (upd (upd H4 dx (.own r5.a)) r5.a (.ins (CRoom K) dx [])) b = none → H4 b = none := fun b h => by
      by_cases c : b = r5.a
      · rw [c]; exact hx
      · rw [upd_ne c] at h
        by_cases c2 : b = dx
        · rw [c2]; exact hdx
        · rwa [upd_ne c2] at h
    have s45 : Same H4 H5 := fun b o h => s5 b o (ne_of_none h hx) ((upd_ne (ne_of_none h hx)).trans ((upd_ne (ne_of_none h hdx)).trans h))
    have NR' : NewR H4 pt5 r5 := ⟨fr _ NR.pl, fun p hp => ⟨fr _ (NR.pg p hp).1, fr _ (NR.pg p hp).2.1, (NR.pg p hp).2.2⟩, NR.ki⟩
    exact q r5.a r5.xs G1 H5 l2 xG ⟨⟨rs ++ [r5], _, R.new RA NR' hx s45, by rw [e, List.map_append]; rfl⟩, pu1.le (by omega)⟩
    
end
end Vg

namespace Vg
open PySem PySem.Spec PyProof.Rows L2 RZ RT
theorem reach_nil (ss : List Int) (way : Int) : reachS [] ss way = 0 := by unfold reachS; simp
theorem reach_cons (n s : Int) (ls ss : List Int) (way : Int) : reachS (n :: ls) (s :: ss) way = reachF way (n, s) + reachS ls ss way := by unfold reachS; simp
theorem reachF_sign (n s : Int) : reachF (-1) (n, s) ≤ 0 ∧ 0 ≤ reachF 1 (n, s) := by
  unfold reachF
  dsimp only
  constructor
  · split
    · rename_i h
      have := Int.mul_nonneg (show 0 ≤ n - 1 by omega) (show 0 ≤ -s by omega)
      rw [Int.mul_neg] at this; omega
    · omega
  · split
    · rename_i h
      exact Int.mul_nonneg (show 0 ≤ n - 1 by omega) (show 0 ≤ s by omega)
    · omega
theorem reachF_in {n s p : Int} (h : 0 ≤ p ∧ p < n) : reachF (-1) (n, s) ≤ p * s ∧ p * s ≤ reachF 1 (n, s) := by
  have sg := reachF_sign n s
  unfold reachF at *
  dsimp only at *
  by_cases hs : 0 < s
  · have h1 : p * s ≤ (n - 1) * s := Int.mul_le_mul_of_nonneg_right (by omega) (by omega)
    have h2 := Int.mul_nonneg h.1 (show 0 ≤ s by omega)
    rw [if_pos (show n > 0 ∧ s * 1 > 0 by omega)]
    exact ⟨by omega, h1⟩
  · have h2 := Int.mul_nonneg h.1 (show 0 ≤ -s by omega)
    rw [Int.mul_neg] at h2
    refine ⟨?_, by omega⟩
    by_cases h0 : s = 0
    · subst h0; simp
    · have h1 : p * (-s) ≤ (n - 1) * (-s) := Int.mul_le_mul_of_nonneg_right (by omega) (by omega)
      rw [Int.mul_neg, Int.mul_neg] at h1
      rw [if_pos (show n > 0 ∧ s * -1 > 0 by omega)]; omega
theorem reach_in : ∀ {ls ss ps : List Int}, InP ls ps → ss.length = ls.length → reachS ls ss (-1) ≤ dot ps ss ∧ dot ps ss ≤ reachS ls ss 1
  | [], ss, ps, h, e => by
    cases ps with
    | nil => rw [dot_nil, reach_nil, reach_nil]; decide
    | cons => exact h.elim
  | n :: ls, s :: ss, p :: ps, h, e => by
    have ih := reach_in (ls := ls) (ss := ss) h.2 (by simpa using e)
    have h1 := reachF_in (s := s) h.1
    rw [dot_cons, reach_cons, reach_cons]; omega
  | _ :: _, [], _, _, e => by simp at e
  | _ :: _, _ :: _, [], h, _ => h.elim
theorem reach_sign : ∀ (ls ss : List Int), reachS ls ss (-1) ≤ 0 ∧ 0 ≤ reachS ls ss 1
  | [], ss => by rw [reach_nil, reach_nil]; decide
  | _ :: _, [] => by unfold reachS; simp
  | n :: ls, s :: ss => by
    have ih := reach_sign ls ss
    have h1 := reachF_sign n s
    rw [reach_cons, reach_cons]; omega
theorem reach_zero : ∀ (ls : List Int) (way : Int), reachS ls (ls.map fun _ => 0) way = 0
  | [], way => reach_nil _ _
  | n :: ls, way => by
    rw [List.map_cons, reach_cons, reach_zero ls way]
    unfold reachF; simp
theorem cells_in {ls ss : List Int} {b n : Int} (e : ss.length = ls.length) (h0 : 0 ≤ b + reachS ls ss (-1)) (h1 : b + reachS ls ss 1 < n) : ∀ c ∈ cellsOf ls b ss, 0 ≤ c ∧ c < n := by
  intro c hc
  obtain ⟨p, hp, rfl⟩ := List.mem_map.mp hc
  have := reach_in (mem_places.mp hp) e
  omega
theorem lens20 {ls : List Int} (h1 : ls.length ≤ 5) (h2 : ∀ n ∈ ls, 0 ≤ n ∧ n ≤ 20) (h3 : pmax ls ≤ 20) : Lens ls := by
  have := prod_le_pmax fun n hn => (h2 n hn).1
  exact ⟨h1, fun n hn => by have := h2 n hn; omega, by omega⟩
section
variable {P : Program} {w : World} {K : PySem.W.Frag} {mg : Str → Option Value} {base : Heap}
def sp__law_look (K : PySem.W.Frag) : Sp := fun vs H Q _ => ∃ (G : Hp) (pa : Addr) (k : Nat) (ρ : List (Addr × List Int)), vs = [.ref pa, .int 20] ∧ WD K G H pa k ρ ∧ k ≤ 800000 ∧
  ∀ t u lv c x G' H' ρ', SX pa G G' → RLe ρ ρ' → WD K G' H' pa (k + 2100) ρ' → G' t = some (.tup [.ref x.room, u, lv, .ref c]) → TabD K G' ρ' u lv c x → c ≠ pa → (∃ (j : Nat) (xs : List Int), ρ'[j]? = some (x.room, xs) ∧ 1 ≤ xs.length) → Q (.ref t) H'
abbrev N__law_look : List Str := ["_law_purse_here", "_law_most", "_law_lengths_here", "_law_steps_here", "_law_length", "_law_low", "_law_high", "_law_ahead", "_law_room_here", "_law_look_here"]
theorem sc__law_look : FnScope N__law_look ["_law_purse_here", "_law_most"] (defScope s__law_look) := ⟨rfl, rfl, rfl, by decide +kernel, rfl, by decide +kernel, by decide +kernel⟩
theorem ok__law_look (T : Txt K mg) : GF P w K mg base 6 "_law_look" ["_law_purse_here", "_law_most"] (sp__law_look K) := by
  have nd := sc__law_look.nd
  refine gf_of T (d := d__law_look) (x := "_law_look") rfl rfl rfl (i := 68) rfl (by decide +kernel) sc__law_look (fun _ _ _ _ _ _ us hl => match us, hl with | [_, _], _ => rfl) (fun vs H Q E h => ?_) (fun cdv A outer s H vs Q E hr h => ?_)
  · obtain ⟨G, pa, k, ρ, rfl, _⟩ := h; rfl
  · refine ⟨_, (pss_cons (ps_set (i := 2) nd rfl (Or.inl rfl) (pe_callG (ok__law_lengths T) (hr.mono (by decide)) rfl (pa_cons (pv 0) (pa_cons (pv 1) pa_nil))))
      (pss_cons (ps_set (i := 3) nd rfl (Or.inl rfl) (pe_callG (ok__law_steps T) (hr.mono (by decide)) rfl (pa_cons (pv 0) (pa_cons (pv 2) pa_nil))))
      (pss_cons (ps_if (pt_cmpR op_gt (pe_op op_sub (pe_callG (ok__law_reach T) (hr.mono (by decide)) rfl (pa_cons (pv 2) (pa_cons (pv 3) (pa_cons pe_int pa_nil)))) (pe_callG (ok__law_reach T) (hr.mono (by decide)) rfl (pa_cons (pv 2) (pa_cons (pv 3) (pa_cons (pe_un un_neg pe_int) pa_nil))))) pe_int (nomark _)) (pss_one (ps_set (i := 3) nd rfl (Or.inl rfl) (pe_callTy call_tuple_of rfl (T.free "tuple") (by decide +kernel) (pa_cons (pe_lc (own := [("_law_length", 4)]) (g := (gName 4)) (tt := tYes) rfl nd (pi_tup (pv 2)) (blkOk_by (N := N__law_look) (sc := defScope s__law_look) (by decide +kernel)) (fun _ _ _ _ _ => (pg_name (i := 4) nd rfl (Or.inl rfl))) (fun _ _ _ _ _ => pts_nil) (fun _ _ _ _ _ => pe_int)) pa_nil)))) pss_nil)
      (pss_cons (ps_par (i := 5) (j := 6) (by rfl) nd rfl rfl (by decide) rfl rfl (pa_cons (pe_callG (ok__law_reach T) (hr.mono (by decide)) rfl (pa_cons (pv 2) (pa_cons (pv 3) (pa_cons (pe_un un_neg pe_int) pa_nil)))) (pa_cons (pe_callG (ok__law_reach T) (hr.mono (by decide)) rfl (pa_cons (pv 2) (pa_cons (pv 3) (pa_cons pe_int pa_nil)))) pa_nil)) (by rfl))
      (pss_cons (ps_set (i := 7) nd rfl (Or.inl rfl) (pe_callG (ok__law_take T) (hr.mono (by decide)) rfl (pa_cons (pv 0) (pa_cons pe_int pa_nil))))
      (pss_cons (ps_set (i := 8) nd rfl (Or.inl rfl) (pe_callG (ok__law_room T) (hr.mono (by decide)) rfl (pa_cons (pv 0) (pa_cons (pe_op op_add (pe_op op_add (pe_op op_add (pe_op op_sub (pv 6) (pv 5)) pe_int) (pv 7)) (pe_callG (ok__law_take T) (hr.mono (by decide)) rfl (pa_cons (pv 0) (pa_cons pe_int pa_nil)))) pa_nil))))
      (pss_cons (ps_set (i := 9) nd rfl (Or.inl rfl) (pe_makeViewN T (fun fd F => ok_View_init T F) (hr.mono (by decide)) rfl (pa_cons (pv 8) (pa_cons (pv 2) pa_nil)) (pk_cons (pe_op op_sub (pv 7) (pv 5)) (pk_cons (pv 3) pk_nil))))
      (pss_one (ps_ret (pe_tup (pa_cons (pv 8) (pa_cons (pv 9) (pa_cons (pv 2) (pa_cons (pe_callG (ok__law_cells T) (hr.mono (by decide)) rfl (pa_cons (pv 2) (pa_cons (pe_op op_sub (pv 7) (pv 5)) (pa_cons (pv 3) pa_nil)))) pa_nil)))))))))))))), ?_⟩
    obtain ⟨G, pa, k, ρ, rfl, W, hk, q⟩ := h
    refine ⟨_, rfl, _, rfl, pa, k, rfl, W.puH, by omega, fun v ls H1 x1 u1 hv1 hl5 hb20 hpm => ?_⟩
    have hL := lens20 hl5 hb20 hpm
    have hr6 := hL.rng
    refine ⟨_, rfl, _, rfl, pa, _, v, ls, rfl, u1, by omega, hv1, hl5, hb20, hpm, fun u ss H2 x2 u2 hu2 hlen hsb => ?_⟩
    have hv2 := (mon_it (K := K)).up (u1.kt x2) hv1
    refine ⟨_, rfl, _, rfl, v, u, ls, ss, 1, rfl, hv2, hu2, hlen, hr6, .inl rfl, fun H3 s3 => ?_⟩
    have hv3 := (mon_it (K := K)).up (.of s3) hv2
    have hu3 := (mon_it (K := K)).up (.of s3) hu2
    refine ⟨_, rfl, _, rfl, _, rfl, v, u, ls, ss, -1, rfl, hv3, hu3, hlen, hr6, .inr rfl, fun H4 s4 => ?_⟩
    have hv4 := (mon_it (K := K)).up (.of s4) hv3
    have hu4 := (mon_it (K := K)).up (.of s4) hu3
    have x4 := (x1.trans x2).trans (SX.of (s3.trans s4))
    have u4 := (u2.same s3).same s4
    refine ⟨_, _, rfl, rfl, _, _, rfl, rfl, decide (reachS ls ss 1 - reachS ls ss (-1) > 590), rfl, ?_⟩
    by_cases hbig : reachS ls ss 1 - reachS ls ss (-1) > 590
    · rw [decide_eq_true hbig]
      obtain ⟨a0, rfl, ha0⟩ := hv4
      refine iteT ⟨_, rfl, a0, rfl, ⟨_, SqT.of ha0⟩, fun D hD => ?_⟩
      refine lc_map (K := K) (R := IntR) walk_tup mon_int (fun _ => (0 : Int)) (by rw [List.length_map]; omega) hD (fun H' s' => SqT.of (s' _ _ ha0)) ?_ ?_
      · rintro i y H5 H6 Kk hi s5 ⟨rfl, hy⟩ kk
        exact ⟨rfl, kk _ _ (Same.refl _) rfl⟩
      intro H5 acc s5 e5 p5
      have eac : acc = (ls.map fun _ => (0 : Int)).map V.int := by
        rw [Paired.ints (Paired.mapP p5 fun _ _ h => h), List.length_map]
        congr 1
        refine List.ext_getElem? fun i => ?_
        by_cases h : i < ls.length
        · simp [h]
        · simp [h]
      refine ⟨D, _, rfl, .inl ⟨SqL.of e5, fun tz htz => ?_⟩⟩
      rw [eac]
      have s6 : Same H4 (upd H5 tz (.tup ((ls.map fun _ => (0 : Int)).map V.int))) := s5.trans (Same.new htz)
      have hu6' : IT (upd H5 tz (.tup ((ls.map fun _ => (0 : Int)).map V.int))) (.ref tz) (ls.map fun _ => (0 : Int)) := ⟨tz, rfl, upd_same⟩
      have x4' := x4.trans (SX.of s6)
      have u4' := u4.same s6
      have hv4' : IT (upd H5 tz (.tup ((ls.map fun _ => (0 : Int)).map V.int))) (.ref a0) ls := ⟨a0, rfl, s6 _ _ ha0⟩
      clear hv1 hu2 hv2 hv3 hu3 hu4 hlen hsb x4 u4 ha0 hbig p5 e5 eac s5 s6 htz hD x1 x2 s3 s4 u1 u2
      generalize upd H5 tz (.tup ((ls.map fun _ => (0 : Int)).map V.int)) = H4 at hu6' x4' u4' hv4'
      have hR : reachS ls (ls.map fun _ => 0) 1 - reachS ls (ls.map fun _ => 0) (-1) ≤ 590 := by rw [reach_zero, reach_zero]; decide
      have hlen : (ls.map fun _ => (0 : Int)).length = ls.length := by simp
      have hsb : ∀ s ∈ (ls.map fun _ => (0 : Int)), -64 ≤ s ∧ s ≤ 64 := fun s hs => by obtain ⟨_, _, rfl⟩ := List.mem_map.mp hs; decide
      generalize (ls.map fun _ => (0 : Int)) = ss at hu6' hR hlen hsb
      have hu4 := hu6'
      have hv4 := hv4'
      have x4 := x4'
      have u4 := u4'
      clear hu6' hv4' x4' u4'
      generalize hVV : V.ref a0 = v at *
      generalize hUU : V.ref tz = u at *
      obtain ⟨sg1, sg2⟩ := reach_sign ls ss
      refine ⟨_, rfl, _, rfl, _, rfl, v, u, ls, ss, -1, rfl, hv4, hu4, hlen, hr6, .inr rfl, fun H5 s5 => ?_⟩
      refine ⟨_, rfl, _, rfl, v, u, ls, ss, 1, rfl, (mon_it (K := K)).up (.of s5) hv4, (mon_it (K := K)).up (.of s5) hu4, hlen, hr6, .inl rfl, fun H6 s6 => ?_⟩
      have s46 := s5.trans s6
      have u6 := u4.same s46
      have x6 := x4.trans (SX.of s46)
      have hv6 := (mon_it (K := K)).up (.of s46) hv4
      have hu6 := (mon_it (K := K)).up (.of s46) hu4
      clear hv4 hu4 s46 s5 s6 u4 x4
      generalize hlo : reachS ls ss (-1) = lo at *
      generalize hhi : reachS ls ss 1 = hi at *
      refine ⟨_, _, rfl, _, rfl, pa, _, 5, rfl, u6, by omega, by decide, by decide, fun ah H7 ah0 ah1 x7 u7 => ?_⟩
      have hv7 := (mon_it (K := K)).up (u6.kt x7) hv6
      have hu7 := (mon_it (K := K)).up (u6.kt x7) hu6
      refine ⟨_, rfl, _, rfl, _, rfl, _, _, rfl, rfl, _, _, rfl, rfl, _, rfl, _, _, rfl, rfl, _, rfl, pa, _, 4, rfl, u7, by omega, by decide, by decide, fun r8 H8 r80 r81 x8 u8 => ?_⟩
      have hv8 := (mon_it (K := K)).up (u7.kt x8) hv7
      have hu8 := (mon_it (K := K)).up (u7.kt x8) hu7
      obtain ⟨G1, xG1, W1, gt1, gv1, gn1⟩ := W.step T.nRV T.nVP ((x6.trans x7).trans x8) u8
      clear hv6 hu6 hv7 hu7 x6 x7 x8 u6 u7
      obtain ⟨many, hmany⟩ : ∃ many : Nat, hi - lo + 1 + ah + r8 = (many : Int) := ⟨(hi - lo + 1 + ah + r8).toNat, by omega⟩
      refine ⟨_, _, rfl, rfl, G1, pa, _, many, ρ, by rw [← hmany]; rfl, W1, by omega, by omega, fun a xs G2 H9 hxs xG2 W2 => ?_⟩
      have tupG : ∀ v ns, IT H8 v ns → IT G2 v ns := fun v ns ⟨b, e, h⟩ => (mon_it (K := K)).up (W1.pu.kt xG2) ⟨b, e, gt1 _ _ h⟩
      have hv9 := (mon_it (K := K)).up (.of W2.sm) (tupG _ _ hv8)
      have hu9 := (mon_it (K := K)).up (.of W2.sm) (tupG _ _ hu8)
      have hat : (ρ ++ [(a, xs)])[ρ.length]? = some (a, xs) := by simp
      obtain ⟨dr, pl, wd, cp, ha, hx7⟩ := W2.rooms.ins hat
      have hcin : ∀ c ∈ cellsOf ls (ah - lo) ss, 0 ≤ c ∧ c < (xs.length : Int) := cells_in hlen (by rw [hlo]; omega) (by rw [hhi]; omega)
      refine ⟨_, rfl, _, rfl, _, rfl, _, rfl, _, _, rfl, rfl, _, rfl, rfl, rfl, ?_⟩
      rintro x dx hx hdx hne
      have s9 : Same H9 (upd (upd H9 dx (.own x)) x (.ins (CView K) dx [])) := fun b o h => (upd_ne (ne_of_none h hx)).trans ((upd_ne (ne_of_none h hdx)).trans h)
      refine ⟨x, dx, a, dr, pl, xs.length, wd, cp, v, u, ls, ss, ah - lo, rfl, upd_same, s9 _ _ ha, hx7, (mon_it (K := K)).up (.of s9) hv9, hL, .inr ⟨(mon_it (K := K)).up (.of s9) hu9, hlen, fun s hs => by have := hsb s hs; omega, hcin⟩, fun H10 la sa e1 e2 ⟨ss', e3, e4⟩ s10 => ⟨rfl, ?_⟩⟩
      have hss : ss' = tst ls ss := by
        rcases e3 with e3 | ⟨e3, _⟩
        · exact e3
        · obtain ⟨b, e, _⟩ := hu9; rw [e] at e3; cases e3
      subst hss
      have s910 : Same H9 H10 := fun b o h => s10 b o (ne_of_none h hx) (s9 _ _ h)
      refine ⟨_, rfl, _, rfl, _, rfl, _, rfl, _, rfl, _, rfl, _, _, rfl, rfl, _, rfl, v, u, ls, ss, ah - lo, rfl, (mon_it (K := K)).up (.of s910) hv9, (mon_it (K := K)).up (.of s910) hu9, hL, hlen, fun c H11 hc s11 ec => ?_⟩
      refine ⟨by show 4 ≤ sizeLine; decide, fun t ht => ?_⟩
      have s12 : Same H11 (upd H11 t (.tup [.ref a, .ref x, v, .ref c])) := Same.new ht
      have s912 := s910.trans (s11.trans s12)
      have u12 := W2.puH.same s912
      obtain ⟨G3, xG3, W3, gt3, gv3, gn3⟩ := W2.step T.nRV T.nVP (SX.of s912) u12
      have s1012 := s11.trans s12
      have hb : -10000 ≤ ah - lo ∧ ah - lo ≤ 10000 := by omega
      have ct : cellsOf ls (tb ls (ah - lo)) (tst ls ss) = cellsOf ls (ah - lo) ss := cells_told hlen
      refine q t (.ref x) v c ⟨a, ls, tb ls (ah - lo), tst ls ss⟩ G3 _ _ ((xG1.trans xG2).trans xG3) (RLe.app ρ [(a, xs)]) (W3.le (by omega)) (gt3 _ _ upd_same) ?_ ((W2.puH.same s910).ne hc) ⟨ρ.length, xs, hat, by omega⟩
      have hcG : H9 c = none := s910.free hc
      exact ⟨⟨x, dx, la, sa, rfl, gv3 _ _ _ (s1012 _ _ e1), gt3 _ _ (s1012 _ _ e2), gt3 _ _ (s1012 _ _ e4)⟩, vok_of hL (.inr hlen) (.inr fun s hs => by have := hsb s hs; omega) hb, (mon_it (K := K)).up (W2.pu.kt xG3) (tupG _ _ hv8), by rw [ct]; exact gn3 _ _ hcG (s12 _ _ ec), ρ.length, xs, hat, by rw [ct]; exact hcin⟩
    · rw [decide_eq_false hbig]
      have hR : reachS ls ss 1 - reachS ls ss (-1) ≤ 590 := by omega
      refine iteF ?_
      obtain ⟨sg1, sg2⟩ := reach_sign ls ss
      refine ⟨_, rfl, _, rfl, _, rfl, v, u, ls, ss, -1, rfl, hv4, hu4, hlen, hr6, .inr rfl, fun H5 s5 => ?_⟩
      refine ⟨_, rfl, _, rfl, v, u, ls, ss, 1, rfl, (mon_it (K := K)).up (.of s5) hv4, (mon_it (K := K)).up (.of s5) hu4, hlen, hr6, .inl rfl, fun H6 s6 => ?_⟩
      have s46 := s5.trans s6
      have u6 := u4.same s46
      have x6 := x4.trans (SX.of s46)
      have hv6 := (mon_it (K := K)).up (.of s46) hv4
      have hu6 := (mon_it (K := K)).up (.of s46) hu4
      clear hv4 hu4 s46 s5 s6 u4 x4
      generalize hlo : reachS ls ss (-1) = lo at *
      generalize hhi : reachS ls ss 1 = hi at *
      refine ⟨_, _, rfl, _, rfl, pa, _, 5, rfl, u6, by omega, by decide, by decide, fun ah H7 ah0 ah1 x7 u7 => ?_⟩
      have hv7 := (mon_it (K := K)).up (u6.kt x7) hv6
      have hu7 := (mon_it (K := K)).up (u6.kt x7) hu6
      refine ⟨_, rfl, _, rfl, _, rfl, _, _, rfl, rfl, _, _, rfl, rfl, _, rfl, _, _, rfl, rfl, _, rfl, pa, _, 4, rfl, u7, by omega, by decide, by decide, fun r8 H8 r80 r81 x8 u8 => ?_⟩
      have hv8 := (mon_it (K := K)).up (u7.kt x8) hv7
      have hu8 := (mon_it (K := K)).up (u7.kt x8) hu7
      obtain ⟨G1, xG1, W1, gt1, gv1, gn1⟩ := W.step T.nRV T.nVP ((x6.trans x7).trans x8) u8
      clear hv6 hu6 hv7 hu7 x6 x7 x8 u6 u7
      obtain ⟨many, hmany⟩ : ∃ many : Nat, hi - lo + 1 + ah + r8 = (many : Int) := ⟨(hi - lo + 1 + ah + r8).toNat, by omega⟩
      refine ⟨_, _, rfl, rfl, G1, pa, _, many, ρ, by rw [← hmany]; rfl, W1, by omega, by omega, fun a xs G2 H9 hxs xG2 W2 => ?_⟩
      have tupG : ∀ v ns, IT H8 v ns → IT G2 v ns := fun v ns ⟨b, e, h⟩ => (mon_it (K := K)).up (W1.pu.kt xG2) ⟨b, e, gt1 _ _ h⟩
      have hv9 := (mon_it (K := K)).up (.of W2.sm) (tupG _ _ hv8)
      have hu9 := (mon_it (K := K)).up (.of W2.sm) (tupG _ _ hu8)
      have hat : (ρ ++ [(a, xs)])[ρ.length]? = some (a, xs) := by simp
      obtain ⟨dr, pl, wd, cp, ha, hx7⟩ := W2.rooms.ins hat
      have hcin : ∀ c ∈ cellsOf ls (ah - lo) ss, 0 ≤ c ∧ c < (xs.length : Int) := cells_in hlen (by rw [hlo]; omega) (by rw [hhi]; omega)
      refine ⟨_, rfl, _, rfl, _, rfl, _, rfl, _, _, rfl, rfl, _, rfl, rfl, rfl, ?_⟩
      rintro x dx hx hdx hne
      have s9 : Same H9 (upd (upd H9 dx (.own x)) x (.ins (CView K) dx [])) := fun b o h => (upd_ne (ne_of_none h hx)).trans ((upd_ne (ne_of_none h hdx)).trans h)
      refine ⟨x, dx, a, dr, pl, xs.length, wd, cp, v, u, ls, ss, ah - lo, rfl, upd_same, s9 _ _ ha, hx7, (mon_it (K := K)).up (.of s9) hv9, hL, .inr ⟨(mon_it (K := K)).up (.of s9) hu9, hlen, fun s hs => by have := hsb s hs; omega, hcin⟩, fun H10 la sa e1 e2 ⟨ss', e3, e4⟩ s10 => ⟨rfl, ?_⟩⟩
      have hss : ss' = tst ls ss := by
        rcases e3 with e3 | ⟨e3, _⟩
        · exact e3
        · obtain ⟨b, e, _⟩ := hu9; rw [e] at e3; cases e3
      subst hss
      have s910 : Same H9 H10 := fun b o h => s10 b o (ne_of_none h hx) (s9 _ _ h)
      refine ⟨_, rfl, _, rfl, _, rfl, _, rfl, _, rfl, _, rfl, _, _, rfl, rfl, _, rfl, v, u, ls, ss, ah - lo, rfl, (mon_it (K := K)).up (.of s910) hv9, (mon_it (K := K)).up (.of s910) hu9, hL, hlen, fun c H11 hc s11 ec => ?_⟩
      refine ⟨by show 4 ≤ sizeLine; decide, fun t ht => ?_⟩
      have s12 : Same H11 (upd H11 t (.tup [.ref a, .ref x, v, .ref c])) := Same.new ht
      have s912 := s910.trans (s11.trans s12)
      have u12 := W2.puH.same s912
      obtain ⟨G3, xG3, W3, gt3, gv3, gn3⟩ := W2.step T.nRV T.nVP (SX.of s912) u12
      have s1012 := s11.trans s12
      have hb : -10000 ≤ ah - lo ∧ ah - lo ≤ 10000 := by omega
      have ct : cellsOf ls (tb ls (ah - lo)) (tst ls ss) = cellsOf ls (ah - lo) ss := cells_told hlen
      refine q t (.ref x) v c ⟨a, ls, tb ls (ah - lo), tst ls ss⟩ G3 _ _ ((xG1.trans xG2).trans xG3) (RLe.app ρ [(a, xs)]) (W3.le (by omega)) (gt3 _ _ upd_same) ?_ ((W2.puH.same s910).ne hc) ⟨ρ.length, xs, hat, by omega⟩
      have hcG : H9 c = none := s910.free hc
      exact ⟨⟨x, dx, la, sa, rfl, gv3 _ _ _ (s1012 _ _ e1), gt3 _ _ (s1012 _ _ e2), gt3 _ _ (s1012 _ _ e4)⟩, vok_of hL (.inr hlen) (.inr fun s hs => by have := hsb s hs; omega) hb, (mon_it (K := K)).up (W2.pu.kt xG3) (tupG _ _ hv8), by rw [ct]; exact gn3 _ _ hcG (s12 _ _ ec), ρ.length, xs, hat, by rw [ct]; exact hcin⟩
    
end
end Vg

namespace Vg
open PySem PySem.Spec PyProof.Rows L2 RZ RT
def FourR (K : PySem.W.Frag) (G : Hp) (ρ : List (Addr × List Int)) (pa t : Addr) : Prop := ∃ (u lv : V) (c : Addr) (x : VW), G t = some (.tup [.ref x.room, u, lv, .ref c]) ∧ TabD K G ρ u lv c x ∧ c ≠ pa
theorem FourR.up {K : PySem.W.Frag} {G G' : Hp} {ρ ρ' : List (Addr × List Int)} {pa t : Addr} {k : Nat} (f : FourR K G ρ pa t) (p : PU G pa k) (s : SX pa G G') (r : RLe ρ ρ') : FourR K G' ρ' pa t := by
  obtain ⟨u, lv, c, x, h1, h2, h3⟩ := f
  exact ⟨u, lv, c, x, (p.kt (K := K) s).tup _ _ h1, h2.up p h3 s r, h3⟩
theorem reach_snoc : ∀ {ls ss : List Int} (n s way : Int), ss.length = ls.length → reachS (ls ++ [n]) (ss ++ [s]) way = reachS ls ss way + reachF way (n, s)
  | [], [], n, s, way, _ => by rw [List.nil_append, List.nil_append, reach_cons, reach_nil]; omega
  | m :: ls, t :: ss, n, s, way, h => by
    rw [List.cons_append, List.cons_append, reach_cons, reach_cons, reach_snoc n s way (by simpa using h)]; omega
  | [], _ :: _, _, _, _, h => by simp at h
  | _ :: _, [], _, _, _, h => by simp at h
theorem reach_fit {free step m fits n : Int} (h0 : 0 ≤ free) (hm : m = if (if step < 0 then -step else step) > 1 then (if step < 0 then -step else step) else 1) (hf : step = 0 ∨ fits = free / m + 1) (hn : n ≤ fits) :
    (step ≥ 0 → reachF 1 (n, step) ≤ free) ∧ (step ≤ 0 → -free ≤ reachF (-1) (n, step)) := by
  unfold reachF
  dsimp only
  constructor
  · intro hs
    split
    · rename_i c
      have hms : m = step := by rw [hm]; split <;> (split at *) <;> omega
      rcases hf with hf | hf
      · omega
      · have h1 : n - 1 ≤ free / m := by omega
        have h2 : (n - 1) * m ≤ free / m * m := Int.mul_le_mul_of_nonneg_right h1 (by omega)
        have h3 := Int.ediv_mul_le free (show m ≠ 0 by omega)
        rw [hms] at h2 h3; omega
    · exact h0
  · intro hs
    split
    · rename_i c
      have hms : m = -step := by rw [hm]; split <;> (split at *) <;> omega
      rcases hf with hf | hf
      · omega
      · have h1 : n - 1 ≤ free / m := by omega
        have h2 : (n - 1) * m ≤ free / m * m := Int.mul_le_mul_of_nonneg_right h1 (by omega)
        have h3 := Int.ediv_mul_le free (show m ≠ 0 by omega)
        rw [hms] at h2 h3; rw [Int.mul_neg] at h2; omega
    · omega
theorem size_fit {a size n : Int} (ha : 1 ≤ a) (h : a * size ≤ 20) (n1 : 1 ≤ n) (n2 : n ≤ size) : 1 ≤ size / n ∧ a * n * (size / n) ≤ 20 := by
  constructor
  · exact (Int.le_ediv_iff_mul_le (by omega)).mpr (by omega)
  · have h3 := Int.mul_ediv_self_le (x := size) (k := n) (by omega)
    have h4 : a * (n * (size / n)) ≤ a * size := Int.mul_le_mul_of_nonneg_left h3 (by omega)
    rw [Int.mul_assoc]; omega
theorem reachF_pos0 {n s : Int} (h : s ≤ 0) : reachF 1 (n, s) = 0 := if_neg (fun c => by have := c.2; dsimp only at this; omega)
theorem reachF_neg0 {n s : Int} (h : 0 ≤ s) : reachF (-1) (n, s) = 0 := if_neg (fun c => by have := c.2; dsimp only at this; omega)
section
variable {P : Program} {w : World} {K : PySem.W.Frag} {mg : Str → Option Value} {base : Heap}
def sp__law_pair (K : PySem.W.Frag) : Sp := fun vs H Q _ => ∃ (G : Hp) (pa : Addr) (k : Nat) (ρ : List (Addr × List Int)), vs = [.ref pa, .int 20] ∧ WD K G H pa k ρ ∧ k ≤ 700000 ∧
  ∀ l t1 t2 G' H' ρ', SX pa G G' → RLe ρ ρ' → WD K G' H' pa (k + 5000) ρ' → G' l = some (.lst [.ref t1, .ref t2]) → l ≠ pa → FourR K G' ρ' pa t1 → FourR K G' ρ' pa t2 → Q (.ref l) H'
abbrev N__law_pair : List Str := ["_law_purse_here", "_law_most", "_law_mine", "_law_way", "_law_many", "_law_found", "_law_begin", "_law_steps_here", "_law_size", "_law_turn", "_law_step", "_law_low", "_law_high", "_law_free", "_law_fits", "_law_length", "_law_look_here"]
theorem sc__law_pair : FnScope N__law_pair ["_law_purse_here", "_law_most"] (defScope s__law_pair) := ⟨rfl, rfl, rfl, by decide +kernel, rfl, by decide +kernel, by decide +kernel⟩
theorem ok__law_pair (T : Txt K mg) : GF P w K mg base 7 "_law_pair" ["_law_purse_here", "_law_most"] (sp__law_pair K) := by
  have nd := sc__law_pair.nd
  refine gf_of T (d := d__law_pair) (x := "_law_pair") rfl rfl rfl (i := 69) rfl (by decide +kernel) sc__law_pair (fun _ _ _ _ _ _ us hl => match us, hl with | [_, _], _ => rfl) (fun vs H Q E h => ?_) (fun cdv A outer s H vs Q E hr h => ?_)
  · obtain ⟨G, pa, k, ρ, rfl, _⟩ := h; rfl
  · refine ⟨_, (pss_cons (ps_set (i := 2) nd rfl (Or.inl rfl) (pe_callG (ok__law_look T) (hr.mono (by decide)) rfl (pa_cons (pv 0) (pa_cons (pv 1) pa_nil))))
      (pss_cons (ps_set (i := 3) nd rfl (Or.inl rfl) (pe_callG (ok__law_take T) (hr.mono (by decide)) rfl (pa_cons (pv 0) (pa_cons pe_int pa_nil))))
      (pss_cons (ps_if (pt_cmpR op_eq (pv 3) pe_int (nomark _)) (pss_one (ps_ret (pe_lst (pa_cons (pv 2) (pa_cons (pe_callG (ok__law_look T) (hr.mono (by decide)) rfl (pa_cons (pv 0) (pa_cons (pv 1) pa_nil))) pa_nil))))) pss_nil)
      (pss_cons (ps_set (i := 4) nd rfl (Or.inl rfl) (pe_callB (call_lenRoom T (hr.mono (by decide))) rfl (T.free "len") boot_len (pa_cons (pe_ix ix_tup (pv 2) pe_int (fun _ _ => rfl)) pa_nil)))
      (pss_cons (ps_par3 (i := 5) (j := 6) (l := 7) (by rfl) nd rfl rfl rfl (by decide) (by decide) (by decide) rfl rfl rfl (pa_cons (pe_tup pa_nil) (pa_cons (pe_callG (ok__law_take T) (hr.mono (by decide)) rfl (pa_cons (pv 0) (pa_cons (pv 4) pa_nil))) (pa_cons (pe_tup pa_nil) pa_nil))) (by rfl))
      (pss_cons (ps_set (i := 8) nd rfl (Or.inl rfl) (pv 1))
      (pss_cons (ps_for PassesOwn.never rfl (pi_range1 rfl (T.free "range") (pa_cons (pe_ix ix_list (pe_lst (pa_cons pe_int (pa_cons pe_int (pa_cons pe_int (pa_cons pe_int (pa_cons pe_int (pa_cons pe_int (pa_cons pe_int (pa_cons pe_int pa_nil))))))))) (pv 3) (fun _ _ => rfl)) pa_nil)) (pg_name (i := 9) nd rfl (Or.inl rfl)) (pss_cons (ps_set (i := 10) nd rfl (Or.inl rfl) (pe_op op_mul (pe_ix ix_list (pe_lst (pa_cons pe_int (pa_cons pe_int (pa_cons pe_int (pa_cons pe_int (pa_cons pe_int (pa_cons pe_int (pa_cons pe_int (pa_cons pe_int pa_nil))))))))) (pe_callG (ok__law_take T) (hr.mono (by decide)) rfl (pa_cons (pv 0) (pa_cons pe_int pa_nil))) (fun _ _ => rfl)) (pe_ix ix_list (pe_lst (pa_cons pe_int (pa_cons (pe_un un_neg pe_int) pa_nil))) (pe_callG (ok__law_take T) (hr.mono (by decide)) rfl (pa_cons (pv 0) (pa_cons pe_int pa_nil))) (fun _ _ => rfl))))
      (pss_cons (ps_set (i := 11) nd rfl (Or.inl rfl) (pe_op op_add (pe_callG (ok__law_reach T) (hr.mono (by decide)) rfl (pa_cons (pv 5) (pa_cons (pv 7) (pa_cons (pe_un un_neg pe_int) pa_nil)))) (pv 6)))
      (pss_cons (ps_set (i := 12) nd rfl (Or.inl rfl) (pe_op op_add (pe_callG (ok__law_reach T) (hr.mono (by decide)) rfl (pa_cons (pv 5) (pa_cons (pv 7) (pa_cons pe_int pa_nil)))) (pv 6)))
      (pss_cons (ps_set (i := 13) nd rfl (Or.inl rfl) (pe_ix ix_list (pe_lst (pa_cons (pe_op op_sub (pe_op op_sub (pv 4) pe_int) (pv 12)) (pa_cons (pv 11) pa_nil))) (pe_callTy call_int1 rfl (T.free "int") (by decide +kernel) (pa_cons (pe_cmpR op_lt (pv 10) pe_int (nomark _)) pa_nil)) (fun _ _ => rfl)))
      (pss_cons (ps_set (i := 14) nd rfl (Or.inl rfl) (pe_ix ix_list (pe_lst (pa_cons (pe_op op_add (pe_op op_fdivW (pv 13) (pe_callB (call_max2 rfl) rfl (T.free "max") (by decide +kernel) (pa_cons pe_int (pa_cons (pe_callB call_abs rfl (T.free "abs") (by decide +kernel) (pa_cons (pv 10) pa_nil)) pa_nil)))) pe_int) (pa_cons pe_int pa_nil))) (pe_callTy call_int1 rfl (T.free "int") (by decide +kernel) (pa_cons (pe_cmpR op_eq (pv 10) pe_int (nomark _)) pa_nil)) (fun _ _ => rfl)))
      (pss_cons (ps_set (i := 15) nd rfl (Or.inl rfl) (pe_op op_add pe_int (pe_callG (ok__law_take T) (hr.mono (by decide)) rfl (pa_cons (pv 0) (pa_cons (pe_callB (call_max2 rfl) rfl (T.free "max") (by decide +kernel) (pa_cons pe_int (pa_cons (pe_callB (call_min2 rfl) rfl (T.free "min") (by decide +kernel) (pa_cons (pv 8) (pa_cons (pv 14) pa_nil))) pa_nil))) pa_nil)))))
      (pss_cons (ps_set (i := 8) nd rfl (Or.inl rfl) (pe_op op_fdivW (pv 8) (pv 15)))
      (pss_cons (ps_set (i := 15) nd rfl (Or.inl rfl) (pe_ix ix_list (pe_lst (pa_cons (pv 15) (pa_cons pe_int pa_nil))) (pe_callTy call_int1 rfl (T.free "int") (by decide +kernel) (pa_cons (pe_cmpR op_eq (pe_callG (ok__law_take T) (hr.mono (by decide)) rfl (pa_cons (pv 0) (pa_cons pe_int pa_nil))) pe_int (nomark _)) pa_nil)) (fun _ _ => rfl)))
      (pss_one (ps_par (i := 5) (j := 7) (by rfl) nd rfl rfl (by decide) rfl rfl (pa_cons (pe_op op_catA (pv 5) (pe_tup (pa_cons (pv 15) pa_nil))) (pa_cons (pe_op op_catA (pv 7) (pe_tup (pa_cons (pv 10) pa_nil))) pa_nil)) (by rfl))))))))))))
      (pss_cons (ps_set (i := 16) nd rfl (Or.inl rfl) (pe_makeViewN T (fun fd F => ok_View_init T F) (hr.mono (by decide)) rfl (pa_cons (pe_ix ix_tup (pv 2) pe_int (fun _ _ => rfl)) (pa_cons (pv 5) pa_nil)) (pk_cons (pv 6) (pk_cons (pv 7) pk_nil))))
      (pss_one (ps_ret (pe_lst (pa_cons (pv 2) (pa_cons (pe_tup (pa_cons (pe_ix ix_tup (pv 2) pe_int (fun _ _ => rfl)) (pa_cons (pv 16) (pa_cons (pv 5) (pa_cons (pe_callG (ok__law_cells T) (hr.mono (by decide)) rfl (pa_cons (pv 5) (pa_cons (pv 6) (pa_cons (pv 7) pa_nil)))) pa_nil))))) pa_nil))))))))))))), ?_⟩
    obtain ⟨G, pa, k, ρ, rfl, W, hk, q⟩ := h
    refine ⟨_, rfl, _, rfl, G, pa, k, ρ, rfl, W, by omega, fun t u0 lv0 c0 x0 G1 H1 ρ1 xG1 rl1 W1 ht tab nc rm => ?_⟩
    have htH := W1.sm _ _ ht
    refine ⟨_, rfl, pa, _, 8, rfl, W1.puH, by omega, by decide, by decide, fun way H2 w0 w1 x2 u2 => ?_⟩
    refine ⟨_, rfl, rfl, _, rfl, ?_⟩
    rw [dec_int]
    obtain ⟨G2, xG2, W2, gt2, gv2, gn2⟩ := W1.step T.nRV T.nVP x2 u2
    have tab2 := tab.up W1.pu nc xG2 (RLe.refl _)
    have ht2 := (W1.pu.kt (K := K) xG2).tup _ _ ht
    have f2 : FourR K G2 ρ1 pa t := ⟨u0, lv0, c0, x0, ht2, tab2, nc⟩
    by_cases h0 : way = 0
    · rw [beq_iff_eq.mpr h0]
      refine iteT ⟨_, rfl, _, rfl, _, rfl, G2, pa, _, ρ1, rfl, W2, by omega, fun t3 u3 lv3 c3 x3 G3 H3 ρ3 xG3 rl3 W3 ht3 tab3 nc3 _ => ?_⟩
      refine ⟨by show 2 ≤ sizeLine; decide, fun l hl => ?_⟩
      obtain ⟨G4, xG4, W4, gt4, gv4, gn4⟩ := W3.step T.nRV T.nVP (SX.of (Same.new (o := .lst [.ref t, .ref t3]) hl)) (W3.puH.same (Same.new hl))
      exact q l t t3 G4 _ ρ3 ((xG1.trans xG2).trans (xG3.trans xG4)) (rl1.trans rl3) (W4.le (by omega)) (gn4 _ _ hl upd_same) (W3.puH.ne hl) ((f2.up W2.pu xG3 rl3).up W3.pu xG4 (RLe.refl _)) (FourR.up ⟨u3, lv3, c3, x3, ht3, tab3, nc3⟩ W3.pu xG4 (RLe.refl _))
    rw [beq_eq_false_iff_ne.mpr h0]
    clear tab ht htH
    obtain ⟨j, xs, hj, hx1⟩ := rm
    obtain ⟨dr, pl, wd, cp, ha, hx7⟩ := W2.rooms.ins hj
    refine iteF ⟨_, rfl, t, _, _, _, rfl, rfl, SqT.of (W2.sm _ _ ht2), at_of (j := 0) (v := .ref x0.room) rfl rfl, x0.room, dr, pl, xs.length, wd, cp, rfl, ha, by omega, ?_⟩
    refine ⟨by show 0 ≤ sizeLine; decide, fun ta hta => ?_⟩
    refine ⟨_, rfl, _, rfl, pa, _, _, rfl, u2.same (Same.new hta), by omega, by omega, by omega, fun bg H3 bg0 bg1 x3 u3 => ?_⟩
    refine ⟨by show 0 ≤ sizeLine; decide, fun tb_ htb => ?_⟩
    refine ⟨_, _, _, rfl, _, rfl, by show 8 ≤ sizeLine; decide, fun lr hlr => ?_⟩
    have x23 : SX pa H2 (upd (upd H3 tb_ (.tup [])) lr (.lst ([2, 2, 3, 4, 1, 0, 3, 3].map V.int))) := (((SX.of (Same.new hta)).trans x3).trans (SX.of (Same.new htb))).trans (SX.of (Same.new hlr))
    have u4 : PU (upd (upd H3 tb_ (.tup [])) lr (.lst ([2, 2, 3, 4, 1, 0, 3, 3].map V.int))) pa _ := (u3.same (Same.new htb)).same (Same.new hlr)
    have eb : (upd (upd H3 tb_ (.tup [])) lr (.lst ([2, 2, 3, 4, 1, 0, 3, 3].map V.int))) tb_ = some (.tup []) := Same.new hlr _ _ upd_same
    have ea : (upd (upd H3 tb_ (.tup [])) lr (.lst ([2, 2, 3, 4, 1, 0, 3, 3].map V.int))) ta = some (.tup []) := Same.new hlr _ _ (Same.new htb _ _ (x3 ta _ (u2.ne hta) upd_same))
    have el : (upd (upd H3 tb_ (.tup [])) lr (.lst ([2, 2, 3, 4, 1, 0, 3, 3].map V.int))) lr = some (.lst ([2, 2, 3, 4, 1, 0, 3, 3].map V.int)) := upd_same
    obtain ⟨m, em, m0, m1⟩ := ints_in [2, 2, 3, 4, 1, 0, 3, 3] rfl (lo := 0) (hi := 4) (by decide) w0 (by show way < 8; exact w1)
    refine ⟨_, rfl, lr, _, _, _, rfl, rfl, SqL.of el, em, m, rfl, by omega, by omega, ?_⟩
    have hpos : 0 ≤ bg ∧ bg ≤ (xs.length : Int) - 1 := by omega
    refine for_it walk_range (fun i σ H' => SX pa H2 H' ∧ PU H' pa (k + 2102 + 4 * i) ∧ ∃ (v u : V) (ls ss : List Int) (size : Int) (z9 z10 z11 z12 z13 z14 z15 z16 : Option V), σ = [some (.ref pa), some (.int 20), some (.ref t), some (.int way), some (.int xs.length), some v, some (.int bg), some u, some (.int size), z9, z10, z11, z12, z13, z14, z15, z16] ∧ IT H' v ls ∧ IT H' u ss ∧ ls.length = i ∧ ss.length = ls.length ∧ (∀ n ∈ ls, 0 ≤ n ∧ n ≤ 20) ∧ (∀ s ∈ ss, -64 ≤ s ∧ s ≤ 64) ∧ 1 ≤ size ∧ pmax ls * size ≤ 20 ∧ 0 ≤ bg + reachS ls ss (-1) ∧ bg + reachS ls ss 1 ≤ (xs.length : Int) - 1)
      ⟨x23, u4, .ref ta, .ref tb_, [], [], 20, _, _, _, _, _, _, _, _, rfl, ⟨ta, rfl, ea⟩, ⟨tb_, rfl, eb⟩, rfl, rfl, by simp, by simp, by decide, by decide, by rw [reach_nil]; omega, by rw [reach_nil]; omega⟩ (fun _ _ _ _ _ => trivial) ?_ ?_
    · rintro i y σ H8 H3 hi ⟨x3, u3, v, u, ls, ss, size, z9, z10, z11, z12, z13, z14, z15, z16, rfl, hv, hu, hl, hss, hb, hsb, sz1, hpm, hlo, hhi⟩ ⟨rfl, rfl⟩
      clear eb ea el em x23 u4
      refine ⟨by show 8 ≤ sizeLine; decide, fun l1 hl1 => ?_⟩
      refine ⟨_, rfl, pa, _, 8, rfl, u3.same (Same.new hl1), by omega, by decide, by decide, fun r1 H4 r10 r11 x4 u4 => ?_⟩
      obtain ⟨s1, es1, s10, s11⟩ := ints_in [1, 2, 3, 4, 6, 5, 7, 0] rfl (lo := 0) (hi := 7) (by decide) r10 (by show r1 < 8; exact r11)
      refine ⟨l1, _, _, _, rfl, rfl, SqL.of (x4 l1 _ (u3.ne hl1) upd_same), es1, ?_⟩
      refine ⟨_, rfl, by show 2 ≤ sizeLine; decide, fun l2 hl2 => ?_⟩
      refine ⟨_, rfl, pa, _, 2, rfl, u4.same (Same.new hl2), by omega, by decide, by decide, fun r2 H5 r20 r21 x5 u5 => ?_⟩
      obtain ⟨s2, es2, s20, s21⟩ := ints_in [1, -1] rfl (lo := -1) (hi := 1) (by decide) r20 (by show r2 < 2; exact r21)
      refine ⟨l2, _, _, _, rfl, rfl, SqL.of (x5 l2 _ (u4.ne hl2) upd_same), es2, _, _, rfl, rfl, .inl (by omega), ?_⟩
      have x35 : SX pa H3 H5 := (((SX.of (Same.new hl1)).trans x4).trans (SX.of (Same.new hl2))).trans x5
      have hst : -7 ≤ s1 * s2 ∧ s1 * s2 ≤ 7 := by
        have : s2 = -1 ∨ s2 = 0 ∨ s2 = 1 := by omega
        rcases this with rfl | rfl | rfl <;> omega
      have hv5 := (mon_it (K := K)).up (u3.kt x35) hv
      have hu5 := (mon_it (K := K)).up (u3.kt x35) hu
      have hr6 : ∀ n ∈ ls, 0 ≤ n ∧ n ≤ 600 := fun n hn => by have := hb n hn; omega
      refine ⟨_, rfl, _, rfl, _, rfl, v, u, ls, ss, -1, rfl, hv5, hu5, hss, hr6, .inr rfl, fun H6 s6 => ?_⟩
      refine ⟨_, rfl, _, _, rfl, rfl, ?_⟩
      refine ⟨_, rfl, _, rfl, v, u, ls, ss, 1, rfl, (mon_it (K := K)).up (.of s6) hv5, (mon_it (K := K)).up (.of s6) hu5, hss, hr6, .inl rfl, fun H7 s7 => ?_⟩
      refine ⟨_, rfl, _, _, rfl, rfl, ?_⟩
      have x37 := x35.trans (SX.of (s6.trans s7))
      have u7 := u5.same (s6.trans s7)
      clear hv5 hu5 x35 x4 x5 u4 u5 es1 es2
      refine ⟨_, rfl, _, _, rfl, rfl, _, rfl, _, _, rfl, rfl, _, rfl, by show 2 ≤ sizeLine; decide, fun l3 hl3 => ?_⟩
      have hfree : ∃ free : Int, (if decide ((s1 * s2) < 0) = true then V.int (reachS ls ss (-1) + bg) else V.int ((xs.length : Int) - 1 - (reachS ls ss 1 + bg))) = .int free ∧ 0 ≤ free ∧ (((s1 * s2) < 0 ∧ free = reachS ls ss (-1) + bg) ∨ (0 ≤ (s1 * s2) ∧ free = (xs.length : Int) - 1 - (reachS ls ss 1 + bg))) := by
        by_cases c : (s1 * s2) < 0
        · rw [decide_eq_true c]; exact ⟨_, rfl, by omega, .inl ⟨c, rfl⟩⟩
        · rw [decide_eq_false c]; exact ⟨_, rfl, by omega, .inr ⟨by omega, rfl⟩⟩
      obtain ⟨free, ef, fr0, frc⟩ := hfree
      refine ⟨_, rfl, _, _, rfl, rfl, .inr ⟨_, rfl, l3, _, _, _, rfl, rfl, SqL.of upd_same, (two_at _ _ _).trans (congrArg some ef), ?_⟩⟩
      have hm : ∃ m : Int, m = (if (if (s1 * s2) < 0 then -(s1 * s2) else (s1 * s2)) > 1 then (if (s1 * s2) < 0 then -(s1 * s2) else (s1 * s2)) else 1) ∧ 1 ≤ m ∧ m ≤ 7 := ⟨_, rfl, by split <;> omega, by split <;> (split <;> omega)⟩
      obtain ⟨mm, hmm, mm1, mm7⟩ := hm
      refine ⟨_, rfl, _, rfl, _, rfl, _, _, rfl, _, _, rfl, rfl, by rw [← hmm]; exact wide_div (b := 20) (by omega) (by omega) (by decide) (by decide), _, _, rfl, rfl, by show 2 ≤ sizeLine; decide, fun l4 hl4 => ?_⟩
      rw [← hmm]
      have hfits : ∃ fits : Int, (if decide (V.int (s1 * s2) = V.int 0) = true then V.int 3 else V.int (free / mm + 1)) = .int fits ∧ 1 ≤ fits ∧ fits ≤ 1000 ∧ ((s1 * s2) = 0 ∨ fits = free / mm + 1) := by
        have hd := Int.ediv_nonneg fr0 (show 0 ≤ mm by omega)
        have hd2 : free / mm ≤ free := Int.ediv_le_self _ fr0
        have sg := reach_sign ls ss
        by_cases c : (s1 * s2) = 0
        · exact ⟨3, by rw [decide_eq_true (by rw [c])]; rfl, by decide, by decide, .inl c⟩
        · exact ⟨free / mm + 1, by rw [decide_eq_false (fun e => c (by injection e))]; rfl, by omega, by omega, .inr rfl⟩
      obtain ⟨fits, eft, ft1, ft2, ftc⟩ := hfits
      refine ⟨_, rfl, rfl, .inr ⟨_, rfl, l4, _, _, _, rfl, rfl, SqL.of upd_same, (two_at _ _ _).trans (congrArg some eft), ?_⟩⟩
      have sz20 : size ≤ 20 := by have := Int.mul_le_mul_of_nonneg_right (pmax_pos ls) (show 0 ≤ size by omega); omega
      have hmx : ∃ mx : Int, (if (if fits < size then fits else size) > 1 then (if fits < size then fits else size) else 1) = mx ∧ 1 ≤ mx ∧ mx ≤ fits ∧ mx ≤ size := by
        by_cases c : fits < size
        · rw [if_pos c]; exact ⟨_, rfl, by split <;> omega, by split <;> omega, by split <;> omega⟩
        · rw [if_neg c]; exact ⟨_, rfl, by split <;> omega, by split <;> omega, by split <;> omega⟩
      obtain ⟨mx, emx, mx1, mx2, mx3⟩ := hmx
      have u8 := (u7.same (Same.new (o := .lst [V.int ((xs.length : Int) - 1 - (reachS ls ss 1 + bg)), V.int (reachS ls ss (-1) + bg)]) hl3)).same (Same.new (o := .lst [V.int (free / mm + 1), V.int 3]) hl4)
      refine ⟨_, rfl, _, rfl, _, rfl, _, _, rfl, _, _, rfl, pa, _, _, rfl, u8, by omega, by rw [emx]; omega, by rw [emx]; omega, fun r3 H9 r30 r31 x9 u9 => ?_⟩
      rw [emx] at r31
      refine ⟨_, _, rfl, rfl, _, rfl, _, rfl, _, _, rfl, rfl, wide_div (b := 20) (by omega) (by omega) (by decide) (by decide), ?_⟩
      refine ⟨_, rfl, by show 2 ≤ sizeLine; decide, fun l5 hl5 => ?_⟩
      refine ⟨_, rfl, pa, _, 40, rfl, u9.same (Same.new hl5), by omega, by decide, by decide, fun r4 H10 r40 r41 x10 u10 => ?_⟩
      have hn : ∃ n : Int, (if decide (V.int r4 = V.int 11) = true then V.int 0 else V.int (1 + r3)) = .int n ∧ (n = 0 ∨ n = 1 + r3) := by
        split
        · exact ⟨0, rfl, .inl rfl⟩
        · exact ⟨_, rfl, .inr rfl⟩
      obtain ⟨n, en, hn⟩ := hn
      refine ⟨rfl, .inr ⟨_, rfl, l5, _, _, _, rfl, rfl, SqL.of (x10 l5 _ (u9.ne hl5) upd_same), (two_at _ _ _).trans (congrArg some en), ?_⟩⟩
      have xA : SX pa H3 H10 := ((((x37.trans (SX.of (Same.new hl3))).trans (SX.of (Same.new hl4))).trans x9).trans (SX.of (Same.new hl5))).trans x10
      obtain ⟨a5, ea5, ha5⟩ := (mon_it (K := K)).up (u3.kt xA) hv
      obtain ⟨b5, eb5, hb5⟩ := (mon_it (K := K)).up (u3.kt xA) hu
      subst ea5 eb5
      refine ⟨_, rfl, _, rfl, by show 1 ≤ sizeLine; decide, fun t1 ht1 => ?_⟩
      refine catA_ok (Same.new ht1 _ _ ha5) upd_same (by rw [List.length_map]; simp; omega) fun c1 H11 s11 e11 => ?_
      have s11' := (Same.new ht1).trans s11
      refine ⟨_, rfl, _, rfl, by show 1 ≤ sizeLine; decide, fun t2 ht2 => ?_⟩
      refine catA_ok (Same.new ht2 _ _ (s11' _ _ hb5)) upd_same (by rw [List.length_map]; simp; omega) fun c2 H12 s12 e12 => ?_
      have s12' := (Same.new ht2).trans s12
      obtain ⟨z1, z2⟩ := size_fit (pmax_pos ls) hpm (show 1 ≤ 1 + r3 by omega) (show 1 + r3 ≤ size by omega)
      have hfit := reach_fit (n := n) fr0 hmm ftc (by omega)
      refine ⟨_, _, rfl, x3.trans (xA.trans (SX.of (s11'.trans s12'))), ((u10.same s11').same s12').le (by omega), .ref c1, .ref c2, ls ++ [n], ss ++ [s1 * s2], size / (1 + r3), _, _, _, _, _, _, _, _, rfl, ⟨c1, rfl, ?_⟩, ⟨c2, rfl, ?_⟩, by simp; exact hl, by simp; exact hss, ?_, ?_, z1, ?_, ?_, ?_⟩
      · exact s12' _ _ (by rw [e11, List.map_append]; rfl)
      · rw [e12, List.map_append]; rfl
      · intro z hz
        rcases List.mem_append.mp hz with hz | hz
        · exact hb z hz
        · rw [List.mem_singleton.mp hz]; omega
      · intro z hz
        rcases List.mem_append.mp hz with hz | hz
        · exact hsb z hz
        · rw [List.mem_singleton.mp hz]; omega
      · rw [pmax_snoc]
        refine Int.le_trans ?_ z2
        refine Int.mul_le_mul_of_nonneg_right (Int.mul_le_mul_of_nonneg_left ?_ (by have := pmax_pos ls; omega)) (by omega)
        split <;> omega
      · rw [reach_snoc _ _ _ hss]
        rcases frc with ⟨c, e⟩ | ⟨c, e⟩
        · have := hfit.2 (by omega); omega
        · have := reachF_neg0 (n := n) c; omega
      · rw [reach_snoc _ _ _ hss]
        rcases frc with ⟨c, e⟩ | ⟨c, e⟩
        · have := reachF_pos0 (n := n) (s := s1 * s2) (by omega); omega
        · have := hfit.1 c; omega
    · rintro σ H3 ⟨x3, u3, v, u, ls, ss, size, z9, z10, z11, z12, z13, z14, z15, z16, rfl, hv, hu, hl, hss, hb, hsb, sz1, hpm, hlo, hhi⟩
      have pm := pmax_pos ls
      have hp20 : pmax ls ≤ 20 := by have := Int.mul_le_mul_of_nonneg_left sz1 (show 0 ≤ pmax ls by omega); omega
      have hL := lens20 (by omega) hb hp20
      obtain ⟨G3, xG3, W3, gt3, gv3, gn3⟩ := W2.step T.nRV T.nVP x3 u3
      obtain ⟨dr3, pl3, wd3, cp3, ha3, _⟩ := W3.rooms.ins hj
      have tab3 := tab2.up W2.pu nc xG3 (RLe.refl _)
      have ht3 := (W2.pu.kt (K := K) xG3).tup _ _ ht2
      have hcin : ∀ c ∈ cellsOf ls bg ss, 0 ≤ c ∧ c < (xs.length : Int) := cells_in hss hlo (by omega)
      refine ⟨_, rfl, t, _, _, _, rfl, rfl, SqT.of (W3.sm _ _ ht3), at_of (j := 0) (v := .ref x0.room) rfl rfl, _, rfl, _, rfl, _, rfl, rfl, rfl, ?_⟩
      rintro x dx hx hdx hne
      have s9 : Same H3 (upd (upd H3 dx (.own x)) x (.ins (CView K) dx [])) := fun b o h => (upd_ne (ne_of_none h hx)).trans ((upd_ne (ne_of_none h hdx)).trans h)
      refine ⟨x, dx, x0.room, dr3, pl3, xs.length, wd3, cp3, v, u, ls, ss, bg, rfl, upd_same, s9 _ _ ha3, hx7, (mon_it (K := K)).up (.of s9) hv, hL, .inr ⟨(mon_it (K := K)).up (.of s9) hu, hss, fun s hs => by have := hsb s hs; omega, hcin⟩, fun H10 la sa e1 e2 ⟨ss', e3, e4⟩ s10 => ⟨rfl, ?_⟩⟩
      have hss' : ss' = tst ls ss := by
        rcases e3 with e3 | ⟨e3, _⟩
        · exact e3
        · obtain ⟨b, e, _⟩ := hu; rw [e] at e3; cases e3
      subst hss'
      have s910 : Same H3 H10 := fun b o h => s10 b o (ne_of_none h hx) (s9 _ _ h)
      refine ⟨_, rfl, _, rfl, t, _, _, _, rfl, rfl, SqT.of (s910 _ _ (W3.sm _ _ ht3)), at_of (j := 0) (v := .ref x0.room) rfl rfl, _, rfl, _, rfl, _, rfl, _, rfl, _, rfl, v, u, ls, ss, bg, rfl, (mon_it (K := K)).up (.of s910) hv, (mon_it (K := K)).up (.of s910) hu, hL, hss, fun c H11 hc s11 ec => ?_⟩
      refine ⟨by show 4 ≤ sizeLine; decide, fun t2 htt => ?_⟩
      refine ⟨by show 2 ≤ sizeLine; decide, fun l hll => ?_⟩
      have s12 : Same H11 (upd (upd H11 t2 (.tup [.ref x0.room, .ref x, v, .ref c])) l (.lst [.ref t, .ref t2])) := (Same.new htt).trans (Same.new hll)
      have et2 : (upd (upd H11 t2 (.tup [.ref x0.room, .ref x, v, .ref c])) l (.lst [.ref t, .ref t2])) t2 = some (.tup [.ref x0.room, .ref x, v, .ref c]) := Same.new hll _ _ upd_same
      have s912 := s910.trans (s11.trans s12)
      obtain ⟨G4, xG4, W4, gt4, gv4, gn4⟩ := W3.step T.nRV T.nVP (SX.of s912) (W3.puH.same s912)
      have s1012 := s11.trans s12
      have ct : cellsOf ls (tb ls bg) (tst ls ss) = cellsOf ls bg ss := cells_told hss
      have hcG : H3 c = none := s910.free hc
      have hlG : H3 l = none := s910.free (s11.free ((Same.new htt).free hll))
      refine q l t t2 G4 _ ρ1 (((xG1.trans xG2).trans xG3).trans xG4) rl1 (W4.le (by omega)) (gn4 _ _ hlG upd_same) (W3.puH.ne hlG) ⟨u0, lv0, c0, x0, (W3.pu.kt (K := K) xG4).tup _ _ ht3, tab3.up W3.pu nc xG4 (RLe.refl _), nc⟩
        ⟨.ref x, v, c, ⟨x0.room, ls, tb ls bg, tst ls ss⟩, gt4 _ _ et2, ⟨⟨x, dx, la, sa, rfl, gv4 _ _ _ (s1012 _ _ e1), gt4 _ _ (s1012 _ _ e2), gt4 _ _ (s1012 _ _ e4)⟩, vok_of hL (.inr hss) (.inr fun s hs => by have := hsb s hs; omega) (by omega), ?_, by rw [ct]; exact gn4 _ _ hcG (s12 _ _ ec), j, xs, hj, by rw [ct]; exact hcin⟩, W3.puH.ne hcG⟩
      obtain ⟨b, rfl, hbv⟩ := hv
      exact ⟨b, rfl, gt4 _ _ (s912 _ _ hbv)⟩
    
end
end Vg

namespace Vg
open PySem PySem.Spec PyProof.Rows L2 RZ RT
/-- a table: the view, its lengths, its cells -/
def TriR (K : PySem.W.Frag) (G : Hp) (ρ : List (Addr × List Int)) (pa t : Addr) : Prop := ∃ (u lv : V) (c : Addr) (x : VW), G t = some (.tup [u, lv, .ref c]) ∧ TabD K G ρ u lv c x ∧ c ≠ pa
theorem TriR.up {K : PySem.W.Frag} {G G' : Hp} {ρ ρ' : List (Addr × List Int)} {pa t : Addr} {k : Nat} (f : TriR K G ρ pa t) (p : PU G pa k) (s : SX pa G G') (r : RLe ρ ρ') : TriR K G' ρ' pa t := by
  obtain ⟨u, lv, c, x, h1, h2, h3⟩ := f
  exact ⟨u, lv, c, x, (p.kt (K := K) s).tup _ _ h1, h2.up p h3 s r, h3⟩
section
variable {P : Program} {w : World} {K : PySem.W.Frag} {mg : Str → Option Value} {base : Heap}
def sp__law_some (K : PySem.W.Frag) : Sp := fun vs H Q _ => ∃ (G : Hp) (pa : Addr) (k : Nat) (ρ : List (Addr × List Int)), vs = [.ref pa] ∧ WD K G H pa k ρ ∧ k ≤ 600000 ∧
  ∀ (l : Addr) (ts : List Addr) G' H' ρ', SX pa G G' → RLe ρ ρ' → WD K G' H' pa (k + 11000) ρ' → G' l = some (.lst (ts.map V.ref)) → l ≠ pa → ts.length = 5 → (∀ t ∈ ts, FourR K G' ρ' pa t ∨ TriR K G' ρ' pa t) → Q (.ref l) H'
abbrev N__law_some : List Str := ["_law_purse_here", "_law_found", "_law_room_here", "_law_look_here", "_law_lengths_here", "_law_cells_here"]
theorem sc__law_some : FnScope N__law_some ["_law_purse_here"] (defScope s__law_some) := ⟨rfl, rfl, rfl, by decide +kernel, rfl, by decide +kernel, by decide +kernel⟩
theorem ok__law_some (T : Txt K mg) : GF P w K mg base 8 "_law_some" ["_law_purse_here"] (sp__law_some K) := by
  have nd := sc__law_some.nd
  refine gf_of T (d := d__law_some) (x := "_law_some") rfl rfl rfl (i := 70) rfl (by decide +kernel) sc__law_some (fun _ _ _ _ _ _ us hl => match us, hl with | [_], _ => rfl) (fun vs H Q E h => ?_) (fun cdv A outer s H vs Q E hr h => ?_)
  · obtain ⟨G, pa, k, ρ, rfl, _⟩ := h; rfl
  · refine ⟨_, (pss_cons (ps_set (i := 1) nd rfl (Or.inl rfl) (pe_op op_cat (pe_callG (ok__law_pair T) (hr.mono (by decide)) rfl (pa_cons (pv 0) (pa_cons pe_int pa_nil))) (pe_callG (ok__law_pair T) (hr.mono (by decide)) rfl (pa_cons (pv 0) (pa_cons pe_int pa_nil)))))
      (pss_cons (ps_asg (pe_ix ix_list (pv 1) pe_int (fun _ _ => rfl)) (pg_tup rfl (pgs_cons (pg_name (i := 2) nd rfl (Or.inl rfl)) (pgs_cons (pg_name (i := 3) nd rfl (Or.inl rfl)) (pgs_cons (pg_name (i := 4) nd rfl (Or.inl rfl)) (pgs_cons (pg_name (i := 5) nd rfl (Or.inl rfl)) pgs_nil))))))
      (pss_one (ps_ret (pe_op op_cat (pv 1) (pe_lst (pa_cons (pe_tup (pa_cons (pe_methG0 (ok_View_twin T) (hr.mono (by decide)) (pv 3)) (pa_cons (pv 4) (pa_cons (pv 5) pa_nil)))) pa_nil))))))), ?_⟩
    obtain ⟨G, pa, k, ρ, rfl, W, hk, q⟩ := h
    refine ⟨_, rfl, G, pa, k, ρ, rfl, W, by omega, fun l1 t1 t2 G1 H1 ρ1 xG1 rl1 W1 el1 nl1 f1 f2 => ?_⟩
    refine ⟨_, rfl, G1, pa, _, ρ1, rfl, W1, by omega, fun l2 t3 t4 G2 H2 ρ2 xG2 rl2 W2 el2 nl2 f3 f4 => ?_⟩
    have el1' := xG2 l1 _ nl1 el1
    have f1 := f1.up W1.pu xG2 rl2
    have f2 := f2.up W1.pu xG2 rl2
    refine ⟨l1, l2, _, _, rfl, rfl, W2.sm _ _ el1', W2.sm _ _ el2, by show 4 ≤ sizeLine; decide, fun l hl => ?_⟩
    obtain ⟨G3, xG3, W3, gt3, gv3, gn3⟩ := W2.step T.nRV T.nVP (SX.of (Same.new (o := .lst ([.ref t1, .ref t2] ++ [.ref t3, .ref t4])) hl)) (W2.puH.same (Same.new hl))
    have ell := gn3 _ _ hl upd_same
    have nl := W2.puH.ne hl
    have f1 := f1.up W2.pu xG3 (RLe.refl _)
    have f2 := f2.up W2.pu xG3 (RLe.refl _)
    have f3 := f3.up W2.pu xG3 (RLe.refl _)
    have f4 := f4.up W2.pu xG3 (RLe.refl _)
    clear gn3 gv3 gt3 hl el1' el2 el1
    generalize upd H2 l (.lst ([.ref t1, .ref t2] ++ [.ref t3, .ref t4])) = H3 at W3
    have f1' := f1
    obtain ⟨u, lv, c, x, ht, tab, nc⟩ := f1'
    refine ⟨_, rfl, l, _, _, _, rfl, rfl, SqL.of (W3.sm _ _ ell), at_of (j := 0) (v := .ref t1) rfl rfl, t1, _, rfl, SqT.of (W3.sm _ _ ht), rfl, _, _, rfl, _, _, rfl, _, _, rfl, _, _, rfl, rfl, ?_⟩
    obtain ⟨j, xs, hj, hcin⟩ := tab.rm
    obtain ⟨va, dx, la, sa, rfl, e1, e2, e3⟩ := tab.vw
    refine ⟨_, rfl, _, rfl, va, dx, _, rfl, W3.sm _ _ e1, rfl, G3, ρ2, j, .ref va, x, xs, rfl, ⟨va, dx, la, sa, rfl, e1, e2, e3⟩, tab.ok, W3.rooms, hj, fun b z H4 hb R4 V4 => ?_⟩
    have W4 : WD K G3 H4 pa (k + 10000) (ρ2 ++ [(b, xs)]) := ⟨R4, W3.pu.le (by omega)⟩
    refine ⟨_, rfl, _, rfl, by show 3 ≤ sizeLine; decide, fun t5 ht5 => ⟨by show 1 ≤ sizeLine; decide, fun l5 hl5 => ?_⟩⟩
    have s5 : Same H4 (upd (upd H4 t5 (.tup [z, lv, .ref c])) l5 (.lst [.ref t5])) := (Same.new ht5).trans (Same.new hl5)
    refine ⟨l, l5, _, _, rfl, rfl, s5 _ _ (W4.sm _ _ ell), upd_same, by show 5 ≤ sizeLine; decide, fun l6 hl6 => ?_⟩
    have s6 := s5.trans (Same.new (o := .lst ([.ref t1, .ref t2] ++ [.ref t3, .ref t4] ++ [.ref t5])) hl6)
    have et5 : (upd (upd (upd H4 t5 (.tup [z, lv, .ref c])) l5 (.lst [.ref t5])) l6 (.lst ([.ref t1, .ref t2] ++ [.ref t3, .ref t4] ++ [.ref t5]))) t5 = some (.tup [z, lv, .ref c]) := Same.new hl6 _ _ (Same.new hl5 _ _ upd_same)
    obtain ⟨G5, xG5, W5, gt5, gv5, gn5⟩ := W4.step T.nRV T.nVP (SX.of s6) (W4.puH.same s6)
    have hl4 : H4 l6 = none := s5.free hl6
    have rl5 : RLe ρ2 (ρ2 ++ [(b, xs)]) := RLe.app _ _
    refine q l6 [t1, t2, t3, t4, t5] G5 _ _ (((xG1.trans xG2).trans xG3).trans xG5) ((rl1.trans rl2).trans rl5) (W5.le (by omega)) (gn5 _ _ hl4 upd_same) (W4.puH.ne hl4) rfl ?_
    have tab5 := tab.up W3.pu nc xG5 rl5
    intro t ht'
    simp only [List.mem_cons, List.not_mem_nil, or_false] at ht'
    rcases ht' with rfl | rfl | rfl | rfl | rfl
    · exact .inl (f1.up W3.pu xG5 rl5)
    · exact .inl (f2.up W3.pu xG5 rl5)
    · exact .inl (f3.up W3.pu xG5 rl5)
    · exact .inl (f4.up W3.pu xG5 rl5)
    · refine .inr ⟨z, lv, c, { x with room := b }, gt5 _ _ et5, ⟨?_, ⟨tab.ok.lens, tab.ok.len, tab.ok.str, tab.ok.bg, tab.ok.tb, tab.ok.ts⟩, tab5.ls, tab5.cs, ρ2.length, xs, by simp, hcin⟩, nc⟩
      obtain ⟨va', dx', la', sa', rfl, e1', e2', e3'⟩ := V4
      exact ⟨va', dx', la', sa', rfl, gv5 _ _ _ (s6 _ _ e1'), gt5 _ _ (s6 _ _ e2'), gt5 _ _ (s6 _ _ e3')⟩
end
section
variable {P : Program} {w : World} {K : PySem.W.Frag} {mg : Str → Option Value} {base : Heap}
def sp__law_table : Sp := fun vs H Q _ => ∃ (t : Addr) (xs : List V), vs = [.ref t] ∧ H t = some (.tup xs) ∧ (xs.length = 3 ∨ xs.length = 4) ∧ ∀ c H', Same H H' → H' c = some (.tup (if xs.length = 3 then xs else xs.drop 1)) → Q (.ref c) H'
abbrev N__law_table : List Str := ["_law_one"]
theorem sc__law_table : FnScope N__law_table ["_law_one"] (defScope s__law_table) := ⟨rfl, rfl, rfl, by decide +kernel, rfl, by decide +kernel, by decide +kernel⟩
theorem ok__law_table (T : Txt K mg) : GF P w K mg base 1 "_law_table" ["_law_one"] sp__law_table := by
  have nd := sc__law_table.nd
  refine gf_of T (d := d__law_table) (x := "_law_table") rfl rfl rfl (i := 71) rfl (by decide +kernel) sc__law_table (fun _ _ _ _ _ _ us hl => match us, hl with | [_], _ => rfl) (fun vs H Q E h => ?_) (fun cdv A outer s H vs Q E hr h => ?_)
  · obtain ⟨t, xs, rfl, _⟩ := h; rfl
  · refine ⟨_, (pss_cons (ps_if (pt_cmpR op_eq (pe_callB call_len_seq rfl (T.free "len") boot_len (pa_cons (pv 0) pa_nil)) pe_int (nomark _)) (pss_one (ps_ret (pv 0))) pss_nil)
      (pss_one (ps_ret (pe_slice sl_tupA (pv 0) (po_some pe_int) po_none)))), ?_⟩
    obtain ⟨t, xs, rfl, ht, hl, q⟩ := h
    refine ⟨_, rfl, t, _, rfl, .inr (SqT.of ht), rfl, _, rfl, ?_⟩
    rw [dec_int]
    by_cases h3 : xs.length = 3
    · rw [beq_iff_eq.mpr (by omega)]
      refine iteT ⟨_, rfl, q t H (Same.refl H) (by rw [if_pos h3]; exact ht)⟩
    · rw [beq_eq_false_iff_ne.mpr (by omega)]
      refine iteF ⟨_, rfl, 1, rfl, noPart (slA_ok ht fun c H1 s1 e1 => q c H1 s1 ?_)⟩
      rw [if_neg h3, e1]
      match xs, hl, h3 with
      | [_, _, _, _], _, _ => rfl
    
end
end Vg

namespace Vg
open PySem PySem.Spec PyProof.Rows L2 RZ RT
theorem in_int (m : Int) (ns : List Int) : inV (.int m) (ns.map V.int) = decide (m ∈ ns) := by
  induction ns with
  | nil => rfl
  | cons n r ih =>
    unfold inV at ih ⊢
    rw [List.map_cons, List.any_cons, ih]
    by_cases h : n = m
    · subst h; simp [eqV]
    · have : m ≠ n := fun e => h e.symm
      simp [eqV, h, this]
theorem flat_ints (ns : List Int) : (ns.map V.int).all flatV = true := by
  rw [List.all_eq_true]; intro z hz; obtain ⟨i, _, rfl⟩ := List.mem_map.mp hz; rfl
/-- the cells of a told view -/
def clsOf (x : VW) : List Int := cellsOf x.ls x.b x.ss
theorem cls_len {x : VW} (h : VOK x) : (clsOf x).length ≤ 600 := by
  unfold clsOf cellsOf; rw [List.length_map]; exact places_len600 h.lens
def meetB (x y : VW) : Bool := decide (x.room = y.room) && !decide ((clsOf x).filter (fun c => decide (c ∈ clsOf y)) = [])
theorem meetB_iff {x y : VW} : meetB x y = true ↔ x.room = y.room ∧ ∃ c, c ∈ clsOf x ∧ c ∈ clsOf y := by
  unfold meetB
  rw [Bool.and_eq_true, Bool.not_eq_true', decide_eq_true_eq, decide_eq_false_iff_not]
  refine and_congr Iff.rfl ⟨fun h => ?_, fun ⟨c, h1, h2⟩ e => ?_⟩
  · obtain ⟨c, hc⟩ := List.exists_mem_of_ne_nil _ h
    rw [List.mem_filter] at hc
    exact ⟨c, hc.1, by simpa using hc.2⟩
  · have : c ∈ (clsOf x).filter (fun c => decide (c ∈ clsOf y)) := List.mem_filter.mpr ⟨h1, by simpa using h2⟩
    rw [e] at this; cases this
section
variable {P : Program} {w : World} {K : PySem.W.Frag} {mg : Str → Option Value} {base : Heap}
def sp__law_meets (K : PySem.W.Frag) : Sp := fun vs H Q _ => ∃ (t1 t2 : Addr) (u1 lv1 : V) (c1 : Addr) (x1 : VW) (u2 lv2 : V) (c2 : Addr) (x2 : VW), vs = [.ref t1, .ref t2] ∧ H t1 = some (.tup [u1, lv1, .ref c1]) ∧ H t2 = some (.tup [u2, lv2, .ref c2]) ∧ VwR K H u1 x1 ∧ VwR K H u2 x2 ∧ VOK x1 ∧ VOK x2 ∧
  H c1 = some (.lst ((clsOf x1).map V.int)) ∧ H c2 = some (.lst ((clsOf x2).map V.int)) ∧ (∃ dx fs, H x1.room = some (.ins (CRoom K) dx fs)) ∧ (∃ dx fs, H x2.room = some (.ins (CRoom K) dx fs)) ∧ ∀ H', Same H H' → Q (.bl (meetB x1 x2)) H'
abbrev N__law_meets : List Str := ["_law_one", "_law_other", "_law_cell"]
theorem sc__law_meets : FnScope N__law_meets ["_law_one", "_law_other"] (defScope s__law_meets) := ⟨rfl, rfl, rfl, by decide +kernel, rfl, by decide +kernel, by decide +kernel⟩
theorem ok__law_meets (T : Txt K mg) : GF P w K mg base 2 "_law_meets" ["_law_one", "_law_other"] (sp__law_meets K) := by
  have nd := sc__law_meets.nd
  refine gf_of T (d := d__law_meets) (x := "_law_meets") rfl rfl rfl (i := 72) rfl (by decide +kernel) sc__law_meets (fun _ _ _ _ _ _ us hl => match us, hl with | [_, _], _ => rfl) (fun vs H Q E h => ?_) (fun cdv A outer s H vs Q E hr h => ?_)
  · obtain ⟨t1, t2, u1, lv1, c1, x1, u2, lv2, c2, x2, rfl, _⟩ := h; rfl
  · refine ⟨_, (pss_cons (ps_if (pt_cmpR (op_NeRoom T (hu_of hr)) (pe_methG0 (ok_View_room T) (hr.mono (by decide)) (pe_ix ix_tup (pv 0) pe_int (fun _ _ => rfl))) (pe_methG0 (ok_View_room T) (hr.mono (by decide)) (pe_ix ix_tup (pv 1) pe_int (fun _ _ => rfl))) (nomark _)) (pss_one (ps_ret pe_bl)) pss_nil)
      (pss_one (ps_ret (pe_cmpR (op_neInts hr.units) (pe_lc (own := [("_law_cell", 2)]) (g := (gName 2)) rfl nd (pi_list (pe_ix ix_tup (pv 0) pe_int (fun _ _ => rfl))) (blkOk_by (N := N__law_meets) (sc := defScope s__law_meets) (by decide +kernel)) (fun _ _ _ _ _ => (pg_name (i := 2) nd rfl (Or.inl rfl))) (fun _ _ _ _ _ => pts_one (pt_cmpR (op_in_seqK K) (pv 2) (pe_ix (ix_tupK K) (pv 1) pe_int (fun _ _ => rfl)) rfl)) (fun _ _ _ _ _ => (pv 2))) (pe_lst pa_nil) (nomark _))))), ?_⟩
    obtain ⟨t1, t2, u1, lv1, c1, x1, u2, lv2, c2, x2, rfl, ht1, ht2, ⟨v1, d1, la1, sa1, rfl, a1, a2, a3⟩, ⟨v2, d2, la2, sa2, rfl, b1, b2, b3⟩, ok1, ok2, hc1, hc2, ⟨dr1, fs1, hr1⟩, ⟨dr2, fs2, hr2⟩, q⟩ := h
    refine ⟨_, rfl, t1, _, _, _, rfl, rfl, SqT.of ht1, at_of (j := 0) (v := .ref v1) rfl rfl, v1, d1, _, rfl, a1, rfl, _, x1, rfl, ⟨v1, d1, la1, sa1, rfl, a1, a2, a3⟩, ?_⟩
    refine ⟨_, rfl, t2, _, _, _, rfl, rfl, SqT.of ht2, at_of (j := 0) (v := .ref v2) rfl rfl, v2, d2, _, rfl, b1, rfl, _, x2, rfl, ⟨v2, d2, la2, sa2, rfl, b1, b2, b3⟩, ?_⟩
    refine ⟨_, _, _, _, _, _, rfl, rfl, hr1, hr2, !decide (x1.room = x2.room), rfl, ?_⟩
    by_cases hr : x1.room = x2.room
    case neg =>
      rw [decide_eq_false hr]
      refine iteT ?_
      have e : meetB x1 x2 = false := by unfold meetB; rw [decide_eq_false hr]; rfl
      have := q H (Same.refl H)
      rw [e] at this; exact this
    rw [decide_eq_true hr]
    refine iteF ⟨_, rfl, t1, _, _, _, rfl, rfl, SqT.of ht1, at_of (j := 2) (v := .ref c1) rfl rfl, c1, rfl, ⟨_, SqL.of hc1⟩, fun D hD => ?_⟩
    have hl6 := cls_len ok1
    refine lc_it walk_list (fun i H' => Same H H' ∧ H' D = some (.lst ((((clsOf x1).take i).filter fun c => decide (c ∈ clsOf x2)).map V.int))) ⟨Same.new hD, upd_same⟩ (fun i H' _ p => SqL.of (p.1 _ _ hc1)) ?_ ?_
    · rintro i y H2 H3 hi ⟨s2, e2⟩ ⟨rfl, hy⟩
      obtain ⟨n, hn, rfl⟩ := map_at hy
      refine ⟨rfl, _, rfl, _, rfl, t2, _, _, _, rfl, rfl, SqT.of (s2 _ _ ht2), at_of (j := 2) (v := .ref c2) rfl rfl, c2, _, rfl, .inl (SqL.of (s2 _ _ hc2)), rfl, flat_ints _, decide (n ∈ clsOf x2), congrArg V.bl (in_int _ _), ?_⟩
      rw [take_snoc hn, List.filter_append, List.map_append]
      by_cases hm : n ∈ clsOf x2
      · rw [decide_eq_true hm]
        refine iteT ⟨_, rfl, _, e2, ?_, Same.mut s2 hD, ?_⟩
        · have := List.length_filter_le (fun c => decide (c ∈ clsOf x2)) ((clsOf x1).take i)
          rw [List.length_take] at this
          rw [List.length_map, sizeLine_eq]; omega
        · rw [upd_same, List.filter_cons_of_pos (by simpa using hm)]; rfl
      · rw [decide_eq_false hm]
        refine iteF ⟨s2, ?_⟩
        rw [e2, List.filter_cons_of_neg (by simpa using hm)]; simp
    · rintro H2 ⟨s2, e2⟩
      rw [List.length_map, List.take_length] at e2
      refine ⟨by show 0 ≤ sizeLine; decide, fun q0 hq0 => ?_⟩
      refine ⟨D, q0, _, [], rfl, rfl, .inl ⟨SqL.of ((Same.new hq0) _ _ e2), SqL.of upd_same⟩, ?_⟩
      have e : meetB x1 x2 = !decide ((clsOf x1).filter (fun c => decide (c ∈ clsOf x2)) = []) := by unfold meetB; rw [decide_eq_true hr]; rfl
      have := q _ (s2.trans (Same.new (o := .lst []) hq0))
      rw [e] at this; exact this
    
end
end Vg

namespace Vg
open PySem PySem.Spec PyProof.Rows L2 RZ RT
theorem cl_in {x : VW} {ps : List Int} (h : InP x.ls ps) : cl x ps ∈ clsOf x := by
  unfold clsOf cellsOf
  exact List.mem_map.mpr ⟨ps, mem_places.mpr h, rfl⟩
theorem TabD.insR {K : PySem.W.Frag} {G H : Hp} {ρ : List (Addr × List Int)} {u lv : V} {c : Addr} {x : VW} (t : TabD K G ρ u lv c x) (R : Rooms K G H ρ) : ∃ dx fs, H x.room = some (.ins (CRoom K) dx fs) := by
  obtain ⟨j, xs, hj, _⟩ := t.rm
  obtain ⟨dx, pl, w, cp, h, _⟩ := R.ins hj
  exact ⟨dx, _, h⟩
section
variable {P : Program} {w : World} {K : PySem.W.Frag} {mg : Str → Option Value} {base : Heap}
def sp__law_seen (K : PySem.W.Frag) : Sp := fun vs H Q _ => ∃ (G : Hp) (ρ : List (Addr × List Int)) (t1 t2 f : Addr) (u1 lv1 : V) (c1 : Addr) (x1 : VW) (u2 lv2 : V) (c2 : Addr) (x2 : VW) (p q : V) (ps qs : List Int), vs = [.ref t1, .ref t2, .ref f] ∧ G t1 = some (.tup [u1, lv1, .ref c1]) ∧ G t2 = some (.tup [u2, lv2, .ref c2]) ∧
  TabD K G ρ u1 lv1 c1 x1 ∧ TabD K G ρ u2 lv2 c2 x2 ∧ Rooms K G H ρ ∧ G f = some (.tup [.str "meet", p, q]) ∧ IT G p ps ∧ IT G q qs ∧ InP x1.ls ps ∧ InP x2.ls qs ∧ x1.room = x2.room ∧ cl x1 ps = cl x2 qs ∧ ∀ ρ' H', RLe ρ ρ' → Rooms K G H' ρ' → Q (.bl true) H'
abbrev N__law_seen : List Str := ["_law_one", "_law_other", "_law_found", "_law_number_here"]
theorem sc__law_seen : FnScope N__law_seen ["_law_one", "_law_other", "_law_found"] (defScope s__law_seen) := ⟨rfl, rfl, rfl, by decide +kernel, rfl, by decide +kernel, by decide +kernel⟩
theorem ok__law_seen (T : Txt K mg) : GF P w K mg base 6 "_law_seen" ["_law_one", "_law_other", "_law_found"] (sp__law_seen K) := by
  have nd := sc__law_seen.nd
  refine gf_of T (d := d__law_seen) (x := "_law_seen") rfl rfl rfl (i := 73) rfl (by decide +kernel) sc__law_seen (fun _ _ _ _ _ _ us hl => match us, hl with | [_, _, _], _ => rfl) (fun vs H Q E h => ?_) (fun cdv A outer s H vs Q E hr h => ?_)
  · obtain ⟨G, ρ, t1, t2, f, u1, lv1, c1, x1, u2, lv2, c2, x2, p, q, ps, qs, rfl, _⟩ := h; rfl
  · refine ⟨_, (pss_cons (ps_if (PW.pt (pw_or (pt_cmpR op_ne (pe_callB call_len_seq rfl (T.free "len") boot_len (pa_cons (pv 2) pa_nil)) pe_int (nomark _)) (pw_or1 (pt_cmpR op_ne (pe_ix ix_tup (pv 2) pe_int (fun _ _ => rfl)) pe_str (nomark _))))) (pss_one (ps_ret pe_bl)) pss_nil)
      (pss_cons (ps_set (i := 3) nd rfl (Or.inl rfl) (pe_op op_mod (pe_op op_add (pe_methG (ok_View_at T) (hr.mono (by decide)) (pe_ix ix_tup (pv 0) pe_int (fun _ _ => rfl)) (pa_cons (pe_ix ix_tup (pv 2) pe_int (fun _ _ => rfl)) pa_nil)) pe_int) (pe_op op_powW pe_int pe_int)))
      (pss_cons (ps_expr (pe_methG (ok_View_put T) (hr.mono (by decide)) (pe_ix ix_tup (pv 0) pe_int (fun _ _ => rfl)) (pa_cons (pe_ix ix_tup (pv 2) pe_int (fun _ _ => rfl)) (pa_cons (pv 3) pa_nil))))
      (pss_one (ps_ret (pe_cmpR op_eq (pe_methG (ok_View_at T) (hr.mono (by decide)) (pe_ix ix_tup (pv 1) pe_int (fun _ _ => rfl)) (pa_cons (pe_ix ix_tup (pv 2) pe_int (fun _ _ => rfl)) pa_nil)) (pv 3) (nomark _))))))), ?_⟩
    obtain ⟨G, ρ, t1, t2, f, u1, lv1, c1, x1, u2, lv2, c2, x2, p, pq, ps, qs, rfl, ht1, ht2, tab1, tab2, R, hf, hp, hq, ip, iq, hroom, hcl, q⟩ := h
    have sG := R.sm
    refine ⟨_, rfl, f, _, rfl, .inr (SqT.of (sG _ _ hf)), rfl, false, congrArg V.bl (by show (!decide (V.int 3 = V.int 3)) = false; decide), iteF ⟨_, rfl, f, _, _, _, rfl, rfl, SqT.of (sG _ _ hf), at_of (j := 0) (v := .str "meet") rfl rfl, rfl, false, congrArg V.bl (by show (!decide (V.str "meet" = V.str "meet")) = false; decide +kernel), iteF ?_⟩⟩
    obtain ⟨j, xs, hj, hcin⟩ := tab1.rm
    obtain ⟨v1, d1, la1, sa1, rfl, a1, a2, a3⟩ := id tab1.vw
    obtain ⟨v2, d2, la2, sa2, rfl, b1, b2, b3⟩ := id tab2.vw
    have hin := hcin _ (cl_in ip)
    obtain ⟨i, hi⟩ : ∃ i : Nat, cl x1 ps = i := ⟨(cl x1 ps).toNat, (Int.toNat_of_nonneg hin.1).symm⟩
    have hil : i < xs.length := by omega
    have vw1 : ∀ {H' : Hp}, Same G H' → VwR K H' (.ref v1) x1 := fun s => mon_vw.up (.of s) tab1.vw
    have vw2 : ∀ {H' : Hp}, Same G H' → VwR K H' (.ref v2) x2 := fun s => mon_vw.up (.of s) tab2.vw
    refine ⟨_, rfl, t1, _, _, _, rfl, rfl, SqT.of (sG _ _ ht1), at_of (j := 0) (v := .ref v1) rfl rfl, v1, d1, _, rfl, sG _ _ a1, rfl, _, rfl, f, _, _, _, rfl, rfl, SqT.of (sG _ _ hf), at_of (j := 1) (v := p) rfl rfl, ?_⟩
    refine ⟨G, ρ, j, i, .ref v1, p, x1, ps, xs, xs[i], rfl, vw1 sG, tab1.ok, (mon_it (K := K)).up (.of sG) hp, ip, R, hj, hi, List.getElem?_eq_getElem hil, fun H1 s1 => ?_⟩
    refine ⟨_, _, rfl, rfl, _, _, rfl, rfl, ⟨by decide, by decide +kernel⟩, _, _, rfl, rfl, by show (0 : Int) < (10 : Int) ^ (29 : Int).toNat; decide, ?_⟩
    have R1 := R.same s1
    have sG1 := R1.sm
    refine ⟨_, rfl, t1, _, _, _, rfl, rfl, SqT.of (sG1 _ _ ht1), at_of (j := 0) (v := .ref v1) rfl rfl, v1, d1, _, rfl, sG1 _ _ a1, rfl, _, rfl, f, _, _, _, rfl, rfl, SqT.of (sG1 _ _ hf), at_of (j := 1) (v := p) rfl rfl, _, rfl, ?_⟩
    refine ⟨G, ρ, j, i, .ref v1, p, x1, ps, xs, _, rfl, vw1 sG1, tab1.ok, (mon_it (K := K)).up (.of sG1) hp, ip, R1, hj, hi, hil, fun H2 R2 => ?_⟩
    have sG2 := R2.sm
    have hj2 : (ρ.set j (x1.room, xs.set i ((xs[i] + 1) % (10 : Int) ^ (29 : Int).toNat)))[j]? = some (x2.room, xs.set i ((xs[i] + 1) % (10 : Int) ^ (29 : Int).toNat)) := by
      obtain ⟨hjl, _⟩ := List.getElem?_eq_some_iff.mp hj
      rw [List.getElem?_set, if_pos rfl, if_pos hjl, hroom]
    refine ⟨_, rfl, t2, _, _, _, rfl, rfl, SqT.of (sG2 _ _ ht2), at_of (j := 0) (v := .ref v2) rfl rfl, v2, d2, _, rfl, sG2 _ _ b1, rfl, _, rfl, f, _, _, _, rfl, rfl, SqT.of (sG2 _ _ hf), at_of (j := 2) (v := pq) rfl rfl, ?_⟩
    refine ⟨G, _, j, i, .ref v2, pq, x2, qs, _, _, rfl, vw2 sG2, tab2.ok, (mon_it (K := K)).up (.of sG2) hq, iq, R2, hj2, (by rw [← hi, hcl]; rfl), (by rw [List.getElem?_set, if_pos rfl, if_pos hil]), fun H3 s3 => ?_⟩
    refine ⟨_, rfl, rfl, ?_⟩
    have := q _ H3 (RLe.put hj) (R2.same s3)
    rw [decide_eq_true rfl]
    exact this
    
end
end Vg

namespace Vg
open PySem PySem.Spec PyProof.Rows L2 RZ RT
theorem getD_set_ne {xs : List Int} {i j : Nat} {n : Int} (h : i ≠ j) : (xs.set i n).getD j 0 = xs.getD j 0 := by
  rw [List.getD_eq_getElem?_getD, List.getD_eq_getElem?_getD, List.getElem?_set, if_neg h]
theorem same_of_apart {xs : List Int} {cs : List Int} {i : Nat} {n : Int} (h : ∀ c ∈ cs, 0 ≤ c ∧ c < (xs.length : Int)) (hi : (i : Int) ∉ cs) : (cs.map fun c => (xs.set i n).getD c.toNat 0) = cs.map fun c => xs.getD c.toNat 0 :=
  List.map_congr_left fun c hc => getD_set_ne fun e => hi (by
    have := h c hc
    have e2 : (i : Int) = c := by omega
    rw [e2]; exact hc)
section
variable {P : Program} {w : World} {K : PySem.W.Frag} {mg : Str → Option Value} {base : Heap}
def sp__law_unseen (K : PySem.W.Frag) : Sp := fun vs H Q _ => ∃ (G : Hp) (pa : Addr) (k : Nat) (ρ : List (Addr × List Int)) (t1 t2 : Addr) (u1 lv1 : V) (c1 : Addr) (x1 : VW) (u2 lv2 : V) (c2 : Addr) (x2 : VW), vs = [.ref pa, .ref t1, .ref t2] ∧ WD K G H pa k ρ ∧ k ≤ 900000 ∧ G t1 = some (.tup [u1, lv1, .ref c1]) ∧ G t2 = some (.tup [u2, lv2, .ref c2]) ∧
  TabD K G ρ u1 lv1 c1 x1 ∧ TabD K G ρ u2 lv2 c2 x2 ∧ c1 ≠ pa ∧ c2 ≠ pa ∧ (x1.room = x2.room → ∀ c ∈ clsOf x1, c ∉ clsOf x2) ∧ ∀ G' ρ' H', SX pa G G' → RLe ρ ρ' → WD K G' H' pa (k + 10) ρ' → Q (.bl true) H'
abbrev N__law_unseen : List Str := ["_law_purse_here", "_law_one", "_law_other", "_law_kept", "_law_spot"]
theorem sc__law_unseen : FnScope N__law_unseen ["_law_purse_here", "_law_one", "_law_other"] (defScope s__law_unseen) := ⟨rfl, rfl, rfl, by decide +kernel, rfl, by decide +kernel, by decide +kernel⟩
theorem ok__law_unseen (T : Txt K mg) : GF P w K mg base 6 "_law_unseen" ["_law_purse_here", "_law_one", "_law_other"] (sp__law_unseen K) := by
  have nd := sc__law_unseen.nd
  refine gf_of T (d := d__law_unseen) (x := "_law_unseen") rfl rfl rfl (i := 74) rfl (by decide +kernel) sc__law_unseen (fun _ _ _ _ _ _ us hl => match us, hl with | [_, _, _], _ => rfl) (fun vs H Q E h => ?_) (fun cdv A outer s H vs Q E hr h => ?_)
  · obtain ⟨G, pa, k, ρ, t1, t2, u1, lv1, c1, x1, u2, lv2, c2, x2, rfl, _⟩ := h; rfl
  · refine ⟨_, (pss_cons (ps_set (i := 3) nd rfl (Or.inl rfl) (pe_methG0 (ok_View_numbers T) (hr.mono (by decide)) (pe_ix ix_tup (pv 2) pe_int (fun _ _ => rfl))))
      (pss_cons (ps_if (pt_cmpR (op_neInts hr.units) (pe_ix ix_tup (pv 1) pe_int (fun _ _ => rfl)) (pe_lst pa_nil) (nomark _)) (pss_cons (ps_set (i := 4) nd rfl (Or.inl rfl) (pe_callG (ok__law_take T) (hr.mono (by decide)) rfl (pa_cons (pv 0) (pa_cons (pe_callB call_len_seq rfl (T.free "len") boot_len (pa_cons (pe_ix ix_tup (pv 1) pe_int (fun _ _ => rfl)) pa_nil)) pa_nil))))
      (pss_one (ps_expr (pe_methG (ok_View_put T) (hr.mono (by decide)) (pe_ix ix_tup (pv 1) pe_int (fun _ _ => rfl)) (pa_cons (pe_ix ix_list (pe_callG (ok__law_places T) (hr.mono (by decide)) rfl (pa_cons (pe_ix ix_tup (pv 1) pe_int (fun _ _ => rfl)) pa_nil)) (pv 4) (fun _ _ => rfl)) (pa_cons (pe_callG (ok__law_number T) (hr.mono (by decide)) rfl (pa_cons (pv 0) pa_nil)) pa_nil)))))) pss_nil)
      (pss_one (ps_ret (pe_cmpR (op_eqInts hr.units) (pe_methG0 (ok_View_numbers T) (hr.mono (by decide)) (pe_ix ix_tup (pv 2) pe_int (fun _ _ => rfl))) (pv 3) (nomark _)))))), ?_⟩
    obtain ⟨G, pa, k, ρ, t1, t2, u1, lv1, c1, x1, u2, lv2, c2, x2, rfl, W, hk, ht1, ht2, tab1, tab2, nc1, nc2, hap, q⟩ := h
    have sG := W.sm
    obtain ⟨j1, xs1, hj1, hin1⟩ := tab1.rm
    obtain ⟨j2, xs, hj2, hin2⟩ := tab2.rm
    obtain ⟨v1, d1, la1, sa1, rfl, a1, a2, a3⟩ := id tab1.vw
    obtain ⟨v2, d2, la2, sa2, rfl, b1, b2, b3⟩ := id tab2.vw
    refine ⟨_, rfl, t2, _, _, _, rfl, rfl, SqT.of (sG _ _ ht2), at_of (j := 0) (v := .ref v2) rfl rfl, v2, d2, _, rfl, sG _ _ b1, rfl, G, ρ, j2, .ref v2, x2, xs, rfl, mon_vw.up (.of sG) tab2.vw, tab2.ok, W.rooms, hj2, hin2, fun l H1 hl s1 el => ?_⟩
    have sG1 := sG.trans s1
    refine ⟨_, rfl, t1, _, _, _, rfl, rfl, SqT.of (sG1 _ _ ht1), at_of (j := 2) (v := .ref c1) rfl rfl, by show 0 ≤ sizeLine; decide, fun q0 hq0 => ?_⟩
    have s2 : Same H (upd H1 q0 (.lst [])) := s1.trans (Same.new hq0)
    have el2 : (upd H1 q0 (.lst [])) l = some (.lst (((cellsOf x2.ls x2.b x2.ss).map fun c => xs.getD c.toNat 0).map V.int)) := Same.new hq0 _ _ el
    refine ⟨c1, q0, clsOf x1, [], rfl, rfl, .inl ⟨SqL.of (s2 _ _ (sG _ _ tab1.cs)), SqL.of upd_same⟩, decide (clsOf x1 ≠ []), congrArg V.bl (by simp), ?_⟩
    generalize upd H1 q0 (.lst []) = H2 at s2 el2
    have sG2 := sG.trans s2
    by_cases h0 : clsOf x1 = []
    · rw [decide_eq_false (fun h => h h0)]
      refine iteF ?_
      obtain ⟨G1, xG1, W6, gt1, gv1, gn1⟩ := W.step T.nRV T.nVP (SX.of s2) (W.puH.same s2)
      have W6 := W6.le (show k ≤ k + 10 by omega)
      have elG := gn1 _ _ hl el2
      have ht2' := (W.pu.kt (K := K) xG1).tup _ _ ht2
      have b1' := (W.pu.kt (K := K) xG1).vw _ _ _ b1
      have rl' := RLe.refl ρ
      have tab2' := tab2.up W.pu nc2 xG1 rl'
      have hj2' := hj2
      have hin2' := hin2
      have hsame : (cellsOf x2.ls x2.b x2.ss).map (fun c => xs.getD c.toNat 0) = (cellsOf x2.ls x2.b x2.ss).map (fun c => xs.getD c.toNat 0) := rfl
      have sG6 := W6.sm
      refine ⟨_, rfl, t2, _, _, _, rfl, rfl, SqT.of (sG6 _ _ ht2'), at_of (j := 0) (v := .ref v2) rfl rfl, v2, d2, _, rfl, sG6 _ _ b1', rfl, G1, _, j2, .ref v2, x2, xs, rfl, mon_vw.up (.of sG6) tab2'.vw, tab2'.ok, W6.rooms, hj2', hin2', fun l2 H7 hl2 s7 el2 => ?_⟩
      refine ⟨_, rfl, l2, l, _, _, rfl, rfl, .inl ⟨SqL.of el2, SqL.of (s7 _ _ (sG6 _ _ elG))⟩, ?_⟩
      have W7 : WD K G1 H7 pa (k + 10) _ := ⟨W6.rooms.same s7, W6.pu⟩
      have := q G1 _ H7 xG1 rl' W7
      rw [show (if false = true then !decide ((cellsOf x2.ls x2.b x2.ss).map (fun c => xs.getD c.toNat 0) = (cellsOf x2.ls x2.b x2.ss).map (fun c => xs.getD c.toNat 0)) else decide ((cellsOf x2.ls x2.b x2.ss).map (fun c => xs.getD c.toNat 0) = (cellsOf x2.ls x2.b x2.ss).map (fun c => xs.getD c.toNat 0))) = true from decide_eq_true hsame]
      exact this
    rw [decide_eq_true h0]
    have hpl : (clsOf x1).length = (places x1.ls).length := by unfold clsOf cellsOf; rw [List.length_map]
    have hpos : 0 < (clsOf x1).length := List.length_pos_iff.mpr h0
    have hl6 := cls_len tab1.ok
    refine iteT ⟨_, rfl, _, rfl, t1, _, _, _, rfl, rfl, SqT.of (sG2 _ _ ht1), at_of (j := 2) (v := .ref c1) rfl rfl, c1, _, rfl, .inl (SqL.of (sG2 _ _ tab1.cs)), pa, k, _, rfl, W.puH.same s2, by omega, by rw [List.length_map]; show 0 < (((clsOf x1).length : Nat) : Int); omega, by rw [List.length_map]; show (((clsOf x1).length : Nat) : Int) < 2 ^ 102; omega, fun r H3 r0 r1 x3 u3 => ?_⟩
    rw [List.length_map] at r1
    have r1' : r < (((clsOf x1).length : Nat) : Int) := r1
    obtain ⟨i, rfl⟩ : ∃ i : Nat, r = i := ⟨r.toNat, (Int.toNat_of_nonneg r0).symm⟩
    have x23 := (SX.of s2).trans x3
    have kt3 := W.puH.kt (K := K) x23
    refine ⟨_, rfl, t1, _, _, _, rfl, rfl, SqT.of (kt3.tup _ _ (sG _ _ ht1)), at_of (j := 0) (v := .ref v1) rfl rfl, v1, d1, _, rfl, kt3.vw _ _ _ (sG _ _ a1), rfl, ?_⟩
    refine ⟨_, rfl, t1, _, _, _, rfl, rfl, SqT.of (kt3.tup _ _ (sG _ _ ht1)), at_of (j := 1) (v := lv1) rfl rfl, lv1, x1.ls, rfl, (mon_it (K := K)).up ((KT.of sG).trans kt3) tab1.ls, tab1.ok.lens, fun lp H4 ys hlp s4 elp pp => ?_⟩
    have hpi : (places x1.ls)[i]? = some (places x1.ls)[i] := List.getElem?_eq_getElem (by omega)
    generalize (places x1.ls)[i] = ps at hpi
    obtain ⟨pv_, hpv, hips⟩ := Paired.get' pp hpi
    have hmem : InP x1.ls ps := mem_places.mp (List.mem_of_getElem? hpi)
    refine ⟨_, rfl, lp, _, _, _, rfl, rfl, SqL.of elp, at_of (j := i) (v := pv_) rfl hpv, ?_⟩
    refine ⟨_, rfl, pa, _, rfl, u3.same s4, by omega, fun nn H5 x5 u5 => ?_⟩
    have x25 := (x23.trans (SX.of s4)).trans x5
    obtain ⟨G1, xG1, W5, gt1, gv1, gn1⟩ := W.step T.nRV T.nVP x25 u5
    have W5 := W5.le (show k + 1 + 2 ≤ k + 10 by omega)
    have nl : l ≠ pa := (W.puH).ne hl
    have elG := gn1 _ _ hl (x5 l _ nl (s4 _ _ (x3 l _ nl el2)))
    have tab1' := tab1.up W.pu nc1 xG1 (RLe.refl ρ)
    have hcin := hin1 _ (cl_in hmem)
    obtain ⟨ci, hci⟩ : ∃ ci : Nat, cl x1 ps = ci := ⟨(cl x1 ps).toNat, (Int.toNat_of_nonneg hcin.1).symm⟩
    have hip5 : IT H5 pv_ ps := (mon_it (K := K)).up ((u3.same s4).kt x5) hips
    refine ⟨G1, ρ, j1, ci, .ref v1, pv_, x1, ps, xs1, nn, rfl, mon_vw.up (.of W5.sm) tab1'.vw, tab1.ok, hip5, hmem, W5.rooms, hj1, hci, by omega, fun H6 R6 => ?_⟩
    have W6 : WD K G1 H6 pa (k + 10) (ρ.set j1 (x1.room, xs1.set ci nn)) := ⟨R6, W5.pu⟩
    have ht2' := (W.pu.kt (K := K) xG1).tup _ _ ht2
    have b1' := (W.pu.kt (K := K) xG1).vw _ _ _ b1
    have rl' : RLe ρ (ρ.set j1 (x1.room, xs1.set ci nn)) := RLe.put hj1
    have tab2' := tab2.up W.pu nc2 xG1 rl'
    have key : ∃ xs' : List Int, (ρ.set j1 (x1.room, xs1.set ci nn))[j2]? = some (x2.room, xs') ∧ xs'.length = xs.length ∧ (cellsOf x2.ls x2.b x2.ss).map (fun c => xs'.getD c.toNat 0) = (cellsOf x2.ls x2.b x2.ss).map (fun c => xs.getD c.toNat 0) := by
      rw [List.getElem?_set]
      by_cases e : j1 = j2
      · subst e
        rw [hj1] at hj2
        obtain ⟨er, rfl⟩ : x1.room = x2.room ∧ xs1 = xs := by injection hj2 with hh; injection hh with h1 h2; exact ⟨h1, h2⟩
        obtain ⟨hjl, _⟩ := List.getElem?_eq_some_iff.mp hj1
        rw [if_pos rfl, if_pos hjl, er]
        refine ⟨_, rfl, by simp, same_of_apart hin2 fun hm => ?_⟩
        exact hap er _ (cl_in hmem) (by rw [hci]; exact hm)
      · rw [if_neg e]; exact ⟨xs, hj2, rfl, rfl⟩
    obtain ⟨xs', hj2', hxl, hsame⟩ := key
    have hin2' : ∀ c ∈ cellsOf x2.ls x2.b x2.ss, 0 ≤ c ∧ c < (xs'.length : Int) := by rw [hxl]; exact hin2
    have sG6 := W6.sm
    refine ⟨_, rfl, t2, _, _, _, rfl, rfl, SqT.of (sG6 _ _ ht2'), at_of (j := 0) (v := .ref v2) rfl rfl, v2, d2, _, rfl, sG6 _ _ b1', rfl, G1, _, j2, .ref v2, x2, xs', rfl, mon_vw.up (.of sG6) tab2'.vw, tab2'.ok, W6.rooms, hj2', hin2', fun l2 H7 hl2 s7 el2 => ?_⟩
    refine ⟨_, rfl, l2, l, _, _, rfl, rfl, .inl ⟨SqL.of el2, SqL.of (s7 _ _ (sG6 _ _ elG))⟩, ?_⟩
    have W7 : WD K G1 H7 pa (k + 10) _ := ⟨W6.rooms.same s7, W6.pu⟩
    have := q G1 _ H7 xG1 rl' W7
    rw [show (if false = true then !decide ((cellsOf x2.ls x2.b x2.ss).map (fun c => xs'.getD c.toNat 0) = (cellsOf x2.ls x2.b x2.ss).map (fun c => xs.getD c.toNat 0)) else decide ((cellsOf x2.ls x2.b x2.ss).map (fun c => xs'.getD c.toNat 0) = (cellsOf x2.ls x2.b x2.ss).map (fun c => xs.getD c.toNat 0))) = true from decide_eq_true hsame]
    exact this
    
end
end Vg

namespace Vg
open PySem PySem.Spec PyProof.Rows L2 RZ RT
def TriH (K : PySem.W.Frag) (H : Hp) (t : Addr) (x : VW) : Prop := ∃ (u lv : V) (c : Addr), H t = some (.tup [u, lv, .ref c]) ∧ VwR K H u x ∧ VOK x ∧ H c = some (.lst ((clsOf x).map V.int)) ∧ RmOk K H x.room
theorem TriH.same {K : PySem.W.Frag} {H H' : Hp} {t : Addr} {x : VW} (h : TriH K H t x) (s : Same H H') : TriH K H' t x := by
  obtain ⟨u, lv, c, h1, h2, h3, h4, h5⟩ := h
  exact ⟨u, lv, c, s _ _ h1, mon_vw.up (.of s) h2, h3, s _ _ h4, h5.same s⟩
def isM : Paper → Bool
  | .meet _ _ => true
  | .apart _ => false
def PapH (H : Hp) (f : Addr) : Paper → Prop
  | .meet p q => ∃ u w, H f = some (.tup [.str "meet", u, w]) ∧ IT H u p ∧ IT H w q ∧ p.length ≤ 1000 ∧ q.length ≤ 1000
  | .apart rows => ∃ l rvs, H f = some (.tup [.str "apart", .ref l]) ∧ H l = some (.lst rvs) ∧ Paired (RowR H) rvs rows ∧ rows ≠ [] ∧ rows.length ≤ 2000000
theorem PapH.same {H H' : Hp} {f : Addr} {pap : Paper} (K : PySem.W.Frag) (h : PapH H f pap) (s : Same H H') : PapH H' f pap := by
  cases pap with
  | meet p q =>
    obtain ⟨u, w, h1, h2, h3, h4, h5⟩ := h
    exact ⟨u, w, s _ _ h1, (mon_it (K := K)).up (.of s) h2, (mon_it (K := K)).up (.of s) h3, h4, h5⟩
  | apart rows =>
    obtain ⟨l, rvs, h1, h2, h3, h4, h5⟩ := h
    exact ⟨l, rvs, s _ _ h1, s _ _ h2, Paired.mapP h3 fun _ _ h => mon_row.up (K := K) (.of s) h, h4, h5⟩
theorem meet_told {x y : VW} {p q : List Int} (h1 : InP x.ls p) (h2 : InP y.ls q) (h3 : x.room = y.room) (h4 : cl x p = cl y q) : meetB x y = true :=
  meetB_iff.mpr ⟨h3, _, cl_in h1, by rw [h4]; exact cl_in h2⟩
theorem apart_told {x y : VW} {rows : List Row} (ox : VOK x) (oy : VOK y) (h : cutsB x y (wbox x.ls, wbox y.ls) rows = true) : meetB x y = false := by
  have ap := cuts_sound (p := (wbox x.ls, wbox y.ls)) (by rw [ox.len]; exact bb_wbox ox.lens.rng) (by rw [oy.len]; exact bb_wbox oy.lens.rng) h
  cases hm : meetB x y with
  | false => rfl
  | true =>
    obtain ⟨hr, c, h1, h2⟩ := meetB_iff.mp hm
    rcases ap with ap | ap
    · exact (ap hr).elim
    · obtain ⟨p, hp, e1⟩ := List.mem_map.mp h1
      obtain ⟨q, hq, e2⟩ := List.mem_map.mp h2
      exact (ap p q (inB_wbox.mpr (mem_places.mp hp)) (inB_wbox.mpr (mem_places.mp hq)) (e1.trans e2.symm)).elim
section
variable {K : PySem.W.Frag} {H : Hp} {v u : V} {x y : VW} {f : Addr} {Q : VK} {E : XK}
theorem sp_told {pap : Paper} (hv : VwR K H v x) (ox : VOK x) (hu : VwR K H u y) (oy : VOK y) (rx : RmOk K H x.room) (ry : RmOk K H y.room) (hp : PapH H f pap)
    (q : ∀ b H', Same H H' → (b = true → meetB x y = isM pap) → (PapOk x y pap → b = true) → Q (.bl b) H') : sp_cuts_hold K [v, u, .ref f] H Q E := by
  cases pap with
  | meet p pq =>
    obtain ⟨u1, u2, h1, h2, h3, h4, h5⟩ := hp
    exact ⟨v, u, x, y, f, "meet", [u1, u2], rfl, hv, ox, hu, oy, rx, ry, h1, .inl ⟨p, pq, u1, u2, rfl, rfl, h2, h3, h4, h5, fun b H' s e => q b H' s (fun hb => by obtain ⟨a1, a2, a3, a4⟩ := e.mp hb; exact meet_told a1 a2 a3 a4) (fun ok => e.mpr ⟨ok.2.1, ok.2.2.1, ok.1, ok.2.2.2⟩)⟩⟩
  | apart rows =>
    obtain ⟨l, rvs, h1, h2, h3, h4, h5⟩ := hp
    exact ⟨v, u, x, y, f, "apart", [.ref l], rfl, hv, ox, hu, oy, rx, ry, h1, .inr (.inl ⟨l, rvs, rows, rfl, rfl, h2, h3, h4, h5, fun H' s => q _ H' s (fun hb => apart_told ox oy hb) (fun ok => ok.1)⟩)⟩
/-- a strange paper -/
theorem sp_odd {s : Str} {rest : List V} (hv : VwR K H v x) (ox : VOK x) (hu : VwR K H u y) (oy : VOK y) (rx : RmOk K H x.room) (ry : RmOk K H y.room) (hf : H f = some (.tup (.str s :: rest)))
    (n1 : (decide (((rest.length + 1 : Nat) : Int) = 3) && decide (s = Str.ofString "meet")) = false) (n2 : (decide (((rest.length + 1 : Nat) : Int) = 2) && decide (s = Str.ofString "apart")) = false)
    (q : ∀ H', Same H H' → Q (.bl false) H') : sp_cuts_hold K [v, u, .ref f] H Q E :=
  ⟨v, u, x, y, f, s, rest, rfl, hv, ox, hu, oy, rx, ry, hf, .inr (.inr ⟨n1, n2, q⟩)⟩
end
def OwnH (H : Hp) (o : Addr) : Bool → Prop
  | true => ∃ l : Addr, H o = some (.tup [.str "unlike", .ref l])
  | false => ∃ u w : V, H o = some (.tup [.str "twice", u, w])
theorem OwnH.same {H H' : Hp} {o : Addr} {b : Bool} (h : OwnH H o b) (s : Same H H') : OwnH H' o b := by
  cases b with
  | true => obtain ⟨l, e⟩ := h; exact ⟨l, s _ _ e⟩
  | false => obtain ⟨u, w, e⟩ := h; exact ⟨u, w, s _ _ e⟩
theorem OwnH.odd {H : Hp} {o : Addr} {b : Bool} (h : OwnH H o b) : ∃ (s : Str) (rest : List V), H o = some (.tup (.str s :: rest)) ∧ (decide (((rest.length + 1 : Nat) : Int) = 3) && decide (s = Str.ofString "meet")) = false ∧ (decide (((rest.length + 1 : Nat) : Int) = 2) && decide (s = Str.ofString "apart")) = false := by
  cases b with
  | true => obtain ⟨l, e⟩ := h; exact ⟨"unlike", [.ref l], e, by show (decide ((2 : Int) = 3) && decide (("unlike" : Str) = Str.ofString "meet")) = false; decide +kernel, by show (decide ((2 : Int) = 2) && decide (("unlike" : Str) = Str.ofString "apart")) = false; decide +kernel⟩
  | false => obtain ⟨u, w, e⟩ := h; exact ⟨"twice", [u, w], e, by show (decide ((3 : Int) = 3) && decide (("twice" : Str) = Str.ofString "meet")) = false; decide +kernel, by show (decide ((3 : Int) = 2) && decide (("twice" : Str) = Str.ofString "apart")) = false; decide +kernel⟩
/-- the paper's words, and its words with one more -/
theorem PapH.words {H : Hp} {f : Addr} {pap : Paper} (h : PapH H f pap) : ∃ (s : Str) (rest : List V), H f = some (.tup (.str s :: rest)) ∧ rest.length ≤ 2 ∧ decide (V.str s = V.str "meet") = isM pap ∧
    (decide ((((rest ++ [V.str "x"]).length + 1 : Nat) : Int) = 3) && decide (s = Str.ofString "meet")) = false ∧ (decide ((((rest ++ [V.str "x"]).length + 1 : Nat) : Int) = 2) && decide (s = Str.ofString "apart")) = false := by
  cases pap with
  | meet p q =>
    obtain ⟨u, w, e, _⟩ := h
    exact ⟨"meet", [u, w], e, by show 2 ≤ 2; decide, by show decide (V.str "meet" = V.str "meet") = true; decide +kernel, by show (decide ((4 : Int) = 3) && decide (("meet" : Str) = Str.ofString "meet")) = false; decide +kernel, by show (decide ((4 : Int) = 2) && decide (("meet" : Str) = Str.ofString "apart")) = false; decide +kernel⟩
  | apart rows =>
    obtain ⟨l, rvs, e, _⟩ := h
    exact ⟨"apart", [.ref l], e, by show 1 ≤ 2; decide, by show decide (V.str "apart" = V.str "meet") = false; decide +kernel, by show (decide ((3 : Int) = 3) && decide (("apart" : Str) = Str.ofString "meet")) = false; decide +kernel, by show (decide ((3 : Int) = 2) && decide (("apart" : Str) = Str.ofString "apart")) = false; decide +kernel⟩

end Vg

namespace Vg
open PySem PySem.Spec PyProof.Rows L2 RZ RT
theorem scal_bl (a b : Bool) : scal (.bl a) (.bl b) = true := rfl
section
variable {P : Program} {w : World} {K : PySem.W.Frag} {mg : Str → Option Value} {base : Heap}
def sp__law_strange (K : PySem.W.Frag) : Sp := fun vs H Q _ => ∃ (l f o : Addr) (ts : List Addr) (pap : Paper) (ob : Bool), vs = [.ref l, .ref f, .ref o] ∧ H l = some (.lst (ts.map V.ref)) ∧ (∀ t ∈ ts, ∃ x, TriH K H t x) ∧ PapH H f pap ∧ OwnH H o ob ∧ ∀ H', Same H H' → Q (.bl true) H'
abbrev N__law_strange : List Str := ["_law_tables", "_law_found", "_law_own", "_law_one", "_law_other", "_law_told"]
theorem sc__law_strange : FnScope N__law_strange ["_law_tables", "_law_found", "_law_own"] (defScope s__law_strange) := ⟨rfl, rfl, rfl, by decide +kernel, rfl, by decide +kernel, by decide +kernel⟩
theorem ok__law_strange (T : Txt K mg) : GF P w K mg base 7 "_law_strange" ["_law_tables", "_law_found", "_law_own"] (sp__law_strange K) := by
  have nd := sc__law_strange.nd
  refine gf_of T (d := d__law_strange) (x := "_law_strange") rfl rfl rfl (i := 76) rfl (by decide +kernel) sc__law_strange (fun _ _ _ _ _ _ us hl => match us, hl with | [_, _, _], _ => rfl) (fun vs H Q E h => ?_) (fun cdv A outer s H vs Q E hr h => ?_)
  · obtain ⟨l, f, o, ts, pap, ob, rfl, _⟩ := h; rfl
  · refine ⟨_, (pss_cons (ps_for PassesOwn.never rfl (pi_list (pv 0)) (pg_name (i := 3) nd rfl (Or.inl rfl)) (pss_one (ps_for PassesOwn.never rfl (pi_list (pv 0)) (pg_name (i := 4) nd rfl (Or.inl rfl)) (pss_cons (ps_set (i := 5) nd rfl (Or.inl rfl) (pe_callG (ok_cuts_hold T) (hr.mono (by decide)) rfl (pa_cons (pe_ix ix_tup (pv 3) pe_int (fun _ _ => rfl)) (pa_cons (pe_ix ix_tup (pv 4) pe_int (fun _ _ => rfl)) (pa_cons (pv 1) pa_nil)))))
      (pss_cons (ps_if (PW.pt (pw_or (pt_not (pt_val (pe_callB call_isB rfl (T.free "isinstance") (by decide +kernel) (pa_cons (pv 5) (pa_cons (pe_bltn (v := .ty "bool") (u := .type "bool") rfl (T.free "bool") (by decide +kernel) rfl) pa_nil))))) (pw_or1 (PW.pt (pw_and (pt_val (pv 5)) (pw_and1 (pt_cmpR op_ne (pe_cmpR op_eq (pe_ix ix_tup (pv 1) pe_int (fun _ _ => rfl)) pe_str (nomark _)) (pe_callG (ok__law_meets T) (hr.mono (by decide)) rfl (pa_cons (pv 3) (pa_cons (pv 4) pa_nil))) (nomark _)))))))) (pss_one (ps_ret pe_bl)) pss_nil)
      (pss_one (ps_if (PW.pt (pw_or (pt_cmpR op_notBl (pe_callG (ok_cuts_hold T) (hr.mono (by decide)) rfl (pa_cons (pe_ix ix_tup (pv 3) pe_int (fun _ _ => rfl)) (pa_cons (pe_ix ix_tup (pv 4) pe_int (fun _ _ => rfl)) (pa_cons (pv 2) pa_nil)))) pe_bl (nomark _)) (pw_or1 (pt_val (pe_callG (ok_cuts_hold T) (hr.mono (by decide)) rfl (pa_cons (pe_ix ix_tup (pv 3) pe_int (fun _ _ => rfl)) (pa_cons (pe_ix ix_tup (pv 4) pe_int (fun _ _ => rfl)) (pa_cons (pe_op op_catA (pv 1) (pe_tup (pa_cons pe_str pa_nil))) pa_nil)))))))) (pss_one (ps_ret pe_bl)) pss_nil)))))))
      (pss_one (ps_ret pe_bl))), ?_⟩
    obtain ⟨l, f, o, ts, pap, ob, rfl, hl, hts, hp, ho, q⟩ := h
    have refAt : ∀ {i : Nat} {y : V}, (ts.map V.ref)[i]? = some y → ∃ t, t ∈ ts ∧ y = .ref t := by
      intro i y h
      rw [List.getElem?_map] at h
      cases e : ts[i]? with
      | none => rw [e] at h; cases h
      | some t => rw [e] at h; exact ⟨t, List.mem_of_getElem? e, (Option.some.inj h).symm⟩
    refine ⟨_, rfl, l, rfl, ⟨_, SqL.of hl⟩, for_it walk_list (fun i σ H' => Same H H' ∧ ∃ z3 z4 z5, σ = [some (.ref l), some (.ref f), some (.ref o), z3, z4, z5]) ⟨Same.refl _, _, _, _, rfl⟩ (fun i σ H' _ p => SqL.of (p.1 _ _ hl)) ?_ ?_⟩
    · rintro i y σ H9 H1 hi ⟨s1, z3, z4, z5, rfl⟩ ⟨rfl, hy⟩
      obtain ⟨t1, m1, rfl⟩ := refAt hy
      obtain ⟨x1, T1⟩ := hts t1 m1
      refine ⟨_, rfl, l, rfl, ⟨_, SqL.of (s1 _ _ hl)⟩, for_it walk_list (fun i σ H' => Same H H' ∧ ∃ z4 z5, σ = [some (.ref l), some (.ref f), some (.ref o), some (.ref t1), z4, z5]) ⟨s1, _, _, rfl⟩ (fun i σ H' _ p => SqL.of (p.1 _ _ hl)) ?_ ?_⟩
      · rintro i y σ H8 H2 hi ⟨s2, z4, z5, rfl⟩ ⟨rfl, hy⟩
        obtain ⟨t2, m2, rfl⟩ := refAt hy
        obtain ⟨x2, T2⟩ := hts t2 m2
        obtain ⟨u1, lv1, c1, a1, a2, a3, a4, a5⟩ := T1
        obtain ⟨u2, lv2, c2, b1, b2, b3, b4, b5⟩ := T2
        refine ⟨_, rfl, t1, _, _, _, rfl, rfl, SqT.of (s2 _ _ a1), at_of (j := 0) (v := u1) rfl rfl, _, rfl, t2, _, _, _, rfl, rfl, SqT.of (s2 _ _ b1), at_of (j := 0) (v := u2) rfl rfl, _, rfl, ?_⟩
        unfold tNil
        show sp_cuts_hold K [u1, u2, .ref f] H2 _ _
        refine sp_told (mon_vw.up (.of s2) a2) a3 (mon_vw.up (.of s2) b2) b3 (a5.same s2) (b5.same s2) (hp.same K s2) fun told H3 s3 htold _ => ?_
        have sH := s2.trans s3
        refine ⟨_, rfl, _, _, _, true, rfl, .bl _, by decide +kernel, true, rfl, iteF ⟨_, rfl, told, rfl, ?_⟩⟩
        by_cases hb : told = true
        · subst hb
          have hm := htold rfl
          obtain ⟨sw, rest, ew, hr2, hwm, hx1, hx2⟩ := PapH.words (hp.same K sH)
          refine iteT ⟨_, rfl, f, _, _, _, rfl, rfl, SqT.of ew, at_of (j := 0) (v := .str sw) rfl rfl, rfl, ?_⟩
          refine ⟨_, rfl, _, rfl, t1, t2, u1, lv1, c1, x1, u2, lv2, c2, x2, rfl, sH _ _ a1, sH _ _ b1, mon_vw.up (.of sH) a2, mon_vw.up (.of sH) b2, a3, b3, sH _ _ a4, sH _ _ b4, a5.same sH, b5.same sH, fun H4 s4 => ?_⟩
          refine ⟨rfl, false, congrArg V.bl ?_, iteF ?_⟩
          · show (!decide (V.bl (decide (V.str sw = V.str "meet")) = V.bl (meetB x1 x2))) = false
            rw [hwm, hm]; simp
          have sH := sH.trans s4
          clear ew hr2 hwm hx1 hx2
          refine ⟨_, rfl, t1, _, _, _, rfl, rfl, SqT.of (sH _ _ a1), at_of (j := 0) (v := u1) rfl rfl, _, rfl, t2, _, _, _, rfl, rfl, SqT.of (sH _ _ b1), at_of (j := 0) (v := u2) rfl rfl, _, rfl, ?_⟩
          try unfold tNil
          show sp_cuts_hold K [u1, u2, .ref o] _ _ _
          obtain ⟨so, ro, eo, no1, no2⟩ := (ho.same sH).odd
          refine sp_odd (mon_vw.up (.of sH) a2) a3 (mon_vw.up (.of sH) b2) b3 (a5.same sH) (b5.same sH) eo no1 no2 fun H5 s5 => ?_
          have sH5 := sH.trans s5
          obtain ⟨sw, rest, ew, hr2, hwm, hx1, hx2⟩ := PapH.words (hp.same K sH5)
          refine ⟨_, _, rfl, rfl, false, rfl, iteF ⟨_, rfl, t1, _, _, _, rfl, rfl, SqT.of (sH5 _ _ a1), at_of (j := 0) (v := u1) rfl rfl, _, rfl, t2, _, _, _, rfl, rfl, SqT.of (sH5 _ _ b1), at_of (j := 0) (v := u2) rfl rfl, _, rfl, by show 1 ≤ sizeLine; decide, fun tx htx => ?_⟩⟩
          refine catA_ok (Same.new htx _ _ ew) upd_same (by rw [List.length_cons]; simp; omega) fun c H6 s6 e6 => ?_
          have sH6 := sH5.trans ((Same.new htx).trans s6)
          try unfold tNil
          show sp_cuts_hold K [u1, u2, .ref c] _ _ _
          refine sp_odd (s := sw) (rest := rest ++ [V.str "x"]) (mon_vw.up (.of sH6) a2) a3 (mon_vw.up (.of sH6) b2) b3 (a5.same sH6) (b5.same sH6) e6 hx1 hx2 fun H7 s7 => ?_
          exact ⟨false, rfl, iteF ⟨sH6.trans s7, _, _, rfl⟩⟩
        · have hb := eq_false_of_ne_true hb
          subst hb
          refine iteF (iteF ?_)
          refine ⟨_, rfl, t1, _, _, _, rfl, rfl, SqT.of (sH _ _ a1), at_of (j := 0) (v := u1) rfl rfl, _, rfl, t2, _, _, _, rfl, rfl, SqT.of (sH _ _ b1), at_of (j := 0) (v := u2) rfl rfl, _, rfl, ?_⟩
          try unfold tNil
          show sp_cuts_hold K [u1, u2, .ref o] _ _ _
          obtain ⟨so, ro, eo, no1, no2⟩ := (ho.same sH).odd
          refine sp_odd (mon_vw.up (.of sH) a2) a3 (mon_vw.up (.of sH) b2) b3 (a5.same sH) (b5.same sH) eo no1 no2 fun H5 s5 => ?_
          have sH5 := sH.trans s5
          obtain ⟨sw, rest, ew, hr2, hwm, hx1, hx2⟩ := PapH.words (hp.same K sH5)
          refine ⟨_, _, rfl, rfl, false, rfl, iteF ⟨_, rfl, t1, _, _, _, rfl, rfl, SqT.of (sH5 _ _ a1), at_of (j := 0) (v := u1) rfl rfl, _, rfl, t2, _, _, _, rfl, rfl, SqT.of (sH5 _ _ b1), at_of (j := 0) (v := u2) rfl rfl, _, rfl, by show 1 ≤ sizeLine; decide, fun tx htx => ?_⟩⟩
          refine catA_ok (Same.new htx _ _ ew) upd_same (by rw [List.length_cons]; simp; omega) fun c H6 s6 e6 => ?_
          have sH6 := sH5.trans ((Same.new htx).trans s6)
          try unfold tNil
          show sp_cuts_hold K [u1, u2, .ref c] _ _ _
          refine sp_odd (s := sw) (rest := rest ++ [V.str "x"]) (mon_vw.up (.of sH6) a2) a3 (mon_vw.up (.of sH6) b2) b3 (a5.same sH6) (b5.same sH6) e6 hx1 hx2 fun H7 s7 => ?_
          exact ⟨false, rfl, iteF ⟨sH6.trans s7, _, _, rfl⟩⟩
      · rintro σ H2 ⟨s2, z4, z5, rfl⟩
        exact ⟨s2, _, _, _, rfl⟩
    · rintro σ H1 ⟨s1, z3, z4, z5, rfl⟩
      exact q H1 s1
    
end
end Vg

namespace Vg
open PySem PySem.Spec PyProof.Rows L2 RZ RT
theorem apart_of {x y : VW} (h : meetB x y = false) : x.room = y.room → ∀ c ∈ clsOf x, c ∉ clsOf y := fun hr c h1 h2 => by
  rw [meetB_iff.mpr ⟨hr, c, h1, h2⟩] at h; cases h
theorem meetB_comm (x y : VW) : meetB x y = meetB y x := by
  have : meetB x y = true ↔ meetB y x = true := by
    rw [meetB_iff, meetB_iff]
    exact ⟨fun ⟨a, c, h1, h2⟩ => ⟨a.symm, c, h2, h1⟩, fun ⟨a, c, h1, h2⟩ => ⟨a.symm, c, h2, h1⟩⟩
  cases h : meetB x y <;> cases h2 : meetB y x <;> simp_all
section
variable {P : Program} {w : World} {K : PySem.W.Frag} {mg : Str → Option Value} {base : Heap}
def sp__law_right (K : PySem.W.Frag) : Sp := fun vs H Q _ => ∃ (G : Hp) (pa : Addr) (k : Nat) (ρ : List (Addr × List Int)) (t1 t2 f : Addr) (u1 lv1 : V) (c1 : Addr) (x1 : VW) (u2 lv2 : V) (c2 : Addr) (x2 : VW) (pap : Paper), vs = [.ref pa, .ref t1, .ref t2, .ref f] ∧ WD K G H pa k ρ ∧ k ≤ 800000 ∧ G t1 = some (.tup [u1, lv1, .ref c1]) ∧ G t2 = some (.tup [u2, lv2, .ref c2]) ∧
  TabD K G ρ u1 lv1 c1 x1 ∧ TabD K G ρ u2 lv2 c2 x2 ∧ c1 ≠ pa ∧ c2 ≠ pa ∧ PapH G f pap ∧ PapOk x1 x2 pap ∧ ∀ G' ρ' H', SX pa G G' → RLe ρ ρ' → WD K G' H' pa (k + 20) ρ' → Q (.bl true) H'
abbrev N__law_right : List Str := ["_law_purse_here", "_law_one", "_law_other", "_law_found"]
theorem sc__law_right : FnScope N__law_right ["_law_purse_here", "_law_one", "_law_other", "_law_found"] (defScope s__law_right) := ⟨rfl, rfl, rfl, by decide +kernel, rfl, by decide +kernel, by decide +kernel⟩
theorem ok__law_right (T : Txt K mg) : GF P w K mg base 7 "_law_right" ["_law_purse_here", "_law_one", "_law_other", "_law_found"] (sp__law_right K) := by
  have nd := sc__law_right.nd
  refine gf_of T (d := d__law_right) (x := "_law_right") rfl rfl rfl (i := 75) rfl (by decide +kernel) sc__law_right (fun _ _ _ _ _ _ us hl => match us, hl with | [_, _, _, _], _ => rfl) (fun vs H Q E h => ?_) (fun cdv A outer s H vs Q E hr h => ?_)
  · obtain ⟨G, pa, k, ρ, t1, t2, f, u1, lv1, c1, x1, u2, lv2, c2, x2, pap, rfl, _⟩ := h; rfl
  · refine ⟨_, (pss_cons (ps_if (pt_cmpR op_notBl (pe_callG (ok_cuts_hold T) (hr.mono (by decide)) rfl (pa_cons (pe_ix ix_tup (pv 1) pe_int (fun _ _ => rfl)) (pa_cons (pe_ix ix_tup (pv 2) pe_int (fun _ _ => rfl)) (pa_cons (pv 3) pa_nil)))) pe_bl (nomark _)) (pss_one (ps_ret pe_bl)) pss_nil)
      (pss_cons (ps_if (pt_val (pe_callG (ok__law_meets T) (hr.mono (by decide)) rfl (pa_cons (pv 1) (pa_cons (pv 2) pa_nil)))) (pss_one (ps_ret (pe_callG (ok__law_seen T) (hr.mono (by decide)) rfl (pa_cons (pv 1) (pa_cons (pv 2) (pa_cons (pv 3) pa_nil)))))) pss_nil)
      (pss_one (ps_ret (pe_and (pe_cmpR op_eq (pe_ix ix_tup (pv 3) pe_int (fun _ _ => rfl)) pe_str (nomark _)) (pe_and (pe_callG (ok__law_unseen T) (hr.mono (by decide)) rfl (pa_cons (pv 0) (pa_cons (pv 1) (pa_cons (pv 2) pa_nil)))) (pe_one (pe_callG (ok__law_unseen T) (hr.mono (by decide)) rfl (pa_cons (pv 0) (pa_cons (pv 2) (pa_cons (pv 1) pa_nil))))))))))), ?_⟩
    obtain ⟨G, pa, k, ρ, t1, t2, f, u1, lv1, c1, x1, u2, lv2, c2, x2, pap, rfl, W, hk, ht1, ht2, tab1, tab2, nc1, nc2, hp, hok, q⟩ := h
    have sG := W.sm
    have r1 := tab1.insR W.rooms
    have r2 := tab2.insR W.rooms
    have vw1 : ∀ {H' : Hp}, Same G H' → VwR K H' u1 x1 := fun s => mon_vw.up (.of s) tab1.vw
    have vw2 : ∀ {H' : Hp}, Same G H' → VwR K H' u2 x2 := fun s => mon_vw.up (.of s) tab2.vw
    refine ⟨_, rfl, t1, _, _, _, rfl, rfl, SqT.of (sG _ _ ht1), at_of (j := 0) (v := u1) rfl rfl, _, rfl, t2, _, _, _, rfl, rfl, SqT.of (sG _ _ ht2), at_of (j := 0) (v := u2) rfl rfl, _, rfl, ?_⟩
    unfold tNil
    show sp_cuts_hold K [u1, u2, .ref f] _ _ _
    refine sp_told (vw1 sG) tab1.ok (vw2 sG) tab2.ok r1 r2 (hp.same K sG) fun b H1 s1 hb1 hb2 => ?_
    have hbt := hb2 hok
    subst hbt
    have hm := hb1 rfl
    refine ⟨_, _, rfl, rfl, false, rfl, iteF ?_⟩
    have W1 : WD K G H1 pa k ρ := ⟨W.rooms.same s1, W.pu⟩
    have sG1 := W1.sm
    refine ⟨_, rfl, _, rfl, t1, t2, u1, lv1, c1, x1, u2, lv2, c2, x2, rfl, sG1 _ _ ht1, sG1 _ _ ht2, vw1 sG1, vw2 sG1, tab1.ok, tab2.ok, sG1 _ _ tab1.cs, sG1 _ _ tab2.cs, RmOk.same r1 s1, RmOk.same r2 s1, fun H2 s2 => ⟨meetB x1 x2, rfl, ?_⟩⟩
    have W2 : WD K G H2 pa k ρ := ⟨W1.rooms.same s2, W.pu⟩
    have sG2 := W2.sm
    cases pap with
    | meet p pq =>
      rw [show meetB x1 x2 = true from hm]
      obtain ⟨w1, w2, e1, e2, e3, _, _⟩ := hp
      obtain ⟨o1, o2, o3, o4⟩ := hok
      refine iteT ⟨_, rfl, _, rfl, _, rfl, G, ρ, t1, t2, f, u1, lv1, c1, x1, u2, lv2, c2, x2, w1, w2, p, pq, rfl, ht1, ht2, tab1, tab2, W2.rooms, e1, e2, e3, o2, o3, o1, o4, fun ρ' H' rl R => ?_⟩
      exact q G ρ' H' (SX.refl _) rl ⟨R, W.pu.le (by omega)⟩
    | apart rows =>
      have hm0 : meetB x1 x2 = false := hm
      rw [hm0]
      obtain ⟨l, rvs, e1, _⟩ := hp
      refine iteF ⟨_, rfl, f, _, _, _, rfl, rfl, SqT.of (sG2 _ _ e1), at_of (j := 0) (v := .str "apart") rfl rfl, rfl, true, congrArg V.bl (by show decide (V.str "apart" = V.str "apart") = true; decide +kernel), iteT ?_⟩
      refine ⟨_, rfl, _, rfl, _, rfl, G, pa, k, ρ, t1, t2, u1, lv1, c1, x1, u2, lv2, c2, x2, rfl, W2, by omega, ht1, ht2, tab1, tab2, nc1, nc2, apart_of hm0, fun G3 ρ3 H3 xG3 rl3 W3 => ⟨true, rfl, iteT ?_⟩⟩
      have kt := W.pu.kt (K := K) xG3
      refine ⟨_, rfl, _, rfl, _, rfl, G3, pa, _, ρ3, t2, t1, u2, lv2, c2, x2, u1, lv1, c1, x1, rfl, W3, by omega, kt.tup _ _ ht2, kt.tup _ _ ht1, tab2.up W.pu nc2 xG3 rl3, tab1.up W.pu nc1 xG3 rl3, nc2, nc1, apart_of (by rw [meetB_comm]; exact hm0), fun G4 ρ4 H4 xG4 rl4 W4 => ?_⟩
      exact q G4 ρ4 H4 (xG3.trans xG4) (rl3.trans rl4) W4
    
end
end Vg

namespace Vg
open PySem PySem.Spec PyProof.Rows L2 RZ RT
theorem sql_keep {K : PySem.W.Frag} {H H1 H' : Hp} {s pa : Addr} {xs : List V} (h : SqL K H s xs) (hp : H pa = none) (s1 : Same H H1) (x : SX pa H1 H') : SqL K H' s xs := by
  rcases h with (h | ⟨o, h⟩) | h
  · exact .inl (.inl (x _ _ (ne_of_none h hp) (s1 _ _ h)))
  · exact .inl (.inr ⟨o, x _ _ (ne_of_none h hp) (s1 _ _ h)⟩)
  · exact .inr h
theorem wd_new {K : PySem.W.Frag} {H : Hp} {pa : Addr} {k : Nat} (u : PU H pa k) : WD K H H pa k [] :=
  ⟨⟨[], fun _ => ⟨0, 0, [], 0⟩, ⟨Same.refl H, (fun _ h => by cases h), (fun _ h => by cases h), (fun _ h => by cases h), (fun _ _ _ _ h => by simp at h), (fun _ _ _ _ h => by simp at h), (fun _ h => by cases h), (fun _ h => by cases h), (fun _ h => by cases h)⟩, rfl⟩, u⟩
/-- the paper of two views, wherever tuples and its list stay -/
theorem PapR.papH {K : PySem.W.Frag} {N : Addr → Prop} {H : Hp} {w : V} {x y : VW} {pap : Paper} (h : PapR N H w pap) (ok : PapOk x y pap) (fx : x.ls.length ≤ 1000) (fy : y.ls.length ≤ 1000) :
    ∃ f, w = .ref f ∧ ∀ H', KT K H H' → (∀ b o, N b → H b = some o → H' b = some o) → PapH H' f pap := by
  cases pap with
  | meet p q =>
    obtain ⟨a, u, w, rfl, h1, h2, h3⟩ := h
    obtain ⟨o1, o2, o3, o4⟩ := ok
    have l2 := o2.len
    have l3 := o3.len
    exact ⟨a, rfl, fun H' kt _ => ⟨u, w, kt.tup _ _ h1, (mon_it (K := K)).up kt h2, (mon_it (K := K)).up kt h3, by omega, by omega⟩⟩
  | apart rows =>
    obtain ⟨a, l, rvs, rfl, h1, hn, h2, h3⟩ := h
    refine ⟨a, rfl, fun H' kt kn => ⟨l, rvs, kt.tup _ _ h1, kn _ _ hn h2, Paired.mapP h3 fun _ _ h => mon_row.up (K := K) kt h, ?_, ok.2⟩⟩
    rintro rfl
    exact absurd ok.1 (by unfold cutsB; simp)
def unlB : UPaper → Bool
  | .unlike _ => true
  | .twice _ _ => false
theorem UPapR.own {K : PySem.W.Frag} {N : Addr → Prop} {H : Hp} {w : V} {pap : UPaper} (h : UPapR N H w pap) :
    ∃ (o : Addr) (s : Str) (rest : List V), w = .ref o ∧ H o = some (.tup (.str s :: rest)) ∧ decide (V.str s = V.str "unlike") = unlB pap ∧ ∀ H', KT K H H' → OwnH H' o (unlB pap) := by
  cases pap with
  | unlike rows =>
    obtain ⟨a, l, rvs, rfl, h1, _⟩ := h
    exact ⟨a, "unlike", _, rfl, h1, by show decide (V.str "unlike" = V.str "unlike") = true; decide +kernel, fun H' kt => ⟨l, kt.tup _ _ h1⟩⟩
  | twice p q =>
    obtain ⟨a, u, w, rfl, h1, _⟩ := h
    exact ⟨a, "twice", _, rfl, h1, by show decide (V.str "twice" = V.str "unlike") = false; decide +kernel, fun H' kt => ⟨u, w, kt.tup _ _ h1⟩⟩
theorem own_nodup {x : VW} {pap : UPaper} (ok : UPapOk x pap) : unlB pap = decide (clsOf x).Nodup := by
  cases pap with
  | unlike rows => exact (decide_eq_true (show (clsOf x).Nodup from ok.2.2)).symm
  | twice p q =>
    obtain ⟨h1, h2, h3, h4⟩ := ok
    exact (decide_eq_false fun nd : (clsOf x).Nodup => h3 (inj_wbox nd p q (inB_wbox.mpr h1) (inB_wbox.mpr h2) h4)).symm
theorem TabD.triH {K : PySem.W.Frag} {G H : Hp} {ρ : List (Addr × List Int)} {t : Addr} {u lv : V} {c : Addr} {x : VW} (ht : G t = some (.tup [u, lv, .ref c])) (tab : TabD K G ρ u lv c x) (R : Rooms K G H ρ) : TriH K H t x :=
  ⟨u, lv, c, R.sm _ _ ht, mon_vw.up (.of R.sm) tab.vw, tab.ok, R.sm _ _ tab.cs, tab.insR R⟩
/-- a table told at G1, its tuple anywhere -/
def TblR (K : PySem.W.Frag) (G1 : Hp) (ρ1 : List (Addr × List Int)) (pa : Addr) : Rep Unit := fun H v _ => ∃ (t : Addr) (u lv : V) (c : Addr) (x : VW), v = .ref t ∧ H t = some (.tup [u, lv, .ref c]) ∧ TabD K G1 ρ1 u lv c x ∧ c ≠ pa
theorem mon_tbl {K : PySem.W.Frag} {G1 : Hp} {ρ1 : List (Addr × List Int)} {pa : Addr} : Mon K (TblR K G1 ρ1 pa) := ⟨fun k ⟨t, u, lv, c, x, e, h, q⟩ => ⟨t, u, lv, c, x, e, k.tup _ _ h, q⟩⟩
theorem tbls_refs {K : PySem.W.Frag} {G1 H : Hp} {ρ1 : List (Addr × List Int)} {pa : Addr} : ∀ {vs : List V} {us : List Unit}, Paired (TblR K G1 ρ1 pa H) vs us →
    ∃ ts : List Addr, vs = ts.map V.ref ∧ ts.length = us.length ∧ ∀ t ∈ ts, ∃ (u lv : V) (c : Addr) (x : VW), H t = some (.tup [u, lv, .ref c]) ∧ TabD K G1 ρ1 u lv c x ∧ c ≠ pa
  | _, _, .nil => ⟨[], rfl, rfl, fun _ h => by cases h⟩
  | _, _, .cons ⟨t, u, lv, c, x, e, h, q⟩ r => by
    obtain ⟨ts, e1, l1, h1⟩ := tbls_refs r
    refine ⟨t :: ts, by rw [e, e1]; rfl, by rw [List.length_cons, List.length_cons, l1], fun z hz => ?_⟩
    rcases List.mem_cons.mp hz with rfl | hz
    · exact ⟨u, lv, c, x, h, q⟩
    · exact h1 z hz
section
variable {P : Program} {w : World} {K : PySem.W.Frag} {mg : Str → Option Value} {base : Heap}
def sp_law (K : PySem.W.Frag) : Sp := fun vs H Q _ => ∃ (s : Addr) (ns : List Int), vs = [.ref s] ∧ SqL K H s (ns.map V.int) ∧ ∀ H', Q (.bl true) H'
abbrev N_law : List Str := ["_law_script", "_law_k", "_law_purse_here", "_law_tables", "_law_one", "_law_own", "_law_other", "_law_found"]
theorem sc_law : FnScope N_law ["_law_script"] (defScope s_law) := ⟨rfl, rfl, rfl, by decide +kernel, rfl, by decide +kernel, by decide +kernel⟩
theorem ok_law (T : Txt K mg) {fd : FuncData} (F : FunD K d_law.name d_law.qual d_law.params d_law.body d_law.scope (d_law.dvs K) (d_law.kws K) (He.fAd K d_law.at_) fd) : FnOk P w K mg base CX0 9 (He.fAd K d_law.at_) fd ["_law_script"] (sp_law K) := by
  have nd := sc_law.nd
  refine F.ok sc_law (fun vs H Q E h => ?_) (fun cdv A outer s H vs Q E hr h => ?_)
  · obtain ⟨s, ns, rfl, _⟩ := h; rfl
  · refine nox_of ?_
    refine ⟨_, (pss_cons (ps_for PassesOwn.never rfl (pi_range1 rfl (T.free "range") (pa_cons (pe_callB (call_max2 rfl) rfl (T.free "max") (by decide +kernel) (pa_cons pe_int (pa_cons (pe_callB (call_min2 rfl) rfl (T.free "min") (by decide +kernel) (pa_cons pe_int (pa_cons (pe_callB call_len_seq rfl (T.free "len") boot_len (pa_cons (pv 0) pa_nil)) pa_nil))) pa_nil))) pa_nil)) (pg_name (i := 1) nd rfl (Or.inl rfl)) (pss_cons (ps_set (i := 2) nd rfl (Or.inl rfl) (pe_callG (ok__law_purse T) (hr.mono (by decide)) rfl (pa_cons (pv 0) (pa_cons (pv 1) pa_nil))))
      (pss_cons (ps_setLc (i := 3) (own := [("_law_one", 4)]) (g := (gName 4)) (tt := tYes) rfl nd rfl rfl (sw_true rfl rfl rfl (by decide +kernel)) (pi_list (pe_callG (ok__law_some T) (hr.mono (by decide)) rfl (pa_cons (pv 2) pa_nil))) (blkOk_by (N := N_law) (sc := defScope s_law) (by decide +kernel)) (fun _ _ _ _ _ => (pg_name (i := 4) nd rfl (Or.inl rfl))) (fun _ _ _ _ _ => pts_nil) (fun _ _ _ _ _ => (pe_callG (ok__law_table T) (hr.mono (by decide)) rfl (pa_cons (pv 4) pa_nil))))
      (pss_one (ps_for PassesOwn.never rfl (pi_list (pv 3)) (pg_name (i := 4) nd rfl (Or.inl rfl)) (pss_cons (ps_set (i := 5) nd rfl (Or.inl rfl) (pe_callG (ok_unlike_cells T) (hr.mono (by decide)) rfl (pa_cons (pe_ix ix_tup (pv 4) pe_int (fun _ _ => rfl)) pa_nil)))
      (pss_cons (ps_if (pt_cmpR op_notBl (pe_callG (ok_unlike_holds T) (hr.mono (by decide)) rfl (pa_cons (pe_ix ix_tup (pv 4) pe_int (fun _ _ => rfl)) (pa_cons (pv 5) pa_nil))) pe_bl (nomark _)) (pss_one (ps_ret pe_bl)) pss_nil)
      (pss_cons (ps_if (pt_cmpR op_ne (pe_cmpR op_eq (pe_ix ix_tup (pv 5) pe_int (fun _ _ => rfl)) pe_str (nomark _)) (pe_cmpR op_eq (pe_lenSet rfl (T.free "len") rfl (T.free "set") (pe_ix ix_tup (pv 4) pe_int (fun _ _ => rfl))) (pe_callB call_len_seq rfl (T.free "len") boot_len (pa_cons (pe_ix ix_tup (pv 4) pe_int (fun _ _ => rfl)) pa_nil)) (nomark _)) (nomark _)) (pss_one (ps_ret pe_bl)) pss_nil)
      (pss_cons (ps_set (i := 6) nd rfl (Or.inl rfl) (pe_ix ix_list (pv 3) (pe_callG (ok__law_take T) (hr.mono (by decide)) rfl (pa_cons (pv 2) (pa_cons (pe_callB call_len_seq rfl (T.free "len") boot_len (pa_cons (pv 3) pa_nil)) pa_nil))) (fun _ _ => rfl)))
      (pss_cons (ps_set (i := 7) nd rfl (Or.inl rfl) (pe_callG (ok_meeting T) (hr.mono (by decide)) rfl (pa_cons (pe_ix ix_tup (pv 4) pe_int (fun _ _ => rfl)) (pa_cons (pe_ix ix_tup (pv 6) pe_int (fun _ _ => rfl)) pa_nil))))
      (pss_one (ps_if (PW.pt (pw_or (pt_not (pt_val (pe_callG (ok__law_right T) (hr.mono (by decide)) rfl (pa_cons (pv 2) (pa_cons (pv 4) (pa_cons (pv 6) (pa_cons (pv 7) pa_nil))))))) (pw_or1 (pt_not (pt_val (pe_callG (ok__law_strange T) (hr.mono (by decide)) rfl (pa_cons (pv 3) (pa_cons (pv 7) (pa_cons (pv 5) pa_nil))))))))) (pss_one (ps_ret pe_bl)) pss_nil))))))))))))
      (pss_one (ps_ret pe_bl))), ?_⟩
    obtain ⟨s, ns, rfl, hs, q⟩ := h
    have refAt : ∀ {ts : List Addr} {i : Nat} {y : V}, (ts.map V.ref)[i]? = some y → ∃ t, t ∈ ts ∧ y = .ref t := by
      intro ts i y h
      rw [List.getElem?_map] at h
      cases e : ts[i]? with
      | none => rw [e] at h; cases h
      | some t => rw [e] at h; exact ⟨t, List.mem_of_getElem? e, (Option.some.inj h).symm⟩
    have hm : ∀ L : Int, 0 ≤ L → 1 ≤ (if (if L < 3 then L else 3) > 1 then (if L < 3 then L else 3) else 1) ∧ (if (if L < 3 then L else 3) > 1 then (if L < 3 then L else 3) else 1) ≤ 3 := by
      intro L h0
      constructor <;> (split <;> split <;> omega)
    have hm' := hm (((ns.map V.int).length : Nat) : Int) (by omega)
    refine ⟨_, rfl, s, _, rfl, .inl hs, _, _, rfl, _, _, rfl, _, rfl, by omega, by omega, ?_⟩
    refine for_it walk_range (fun i σ H' => SqL K H' s (ns.map V.int) ∧ ∃ z1 z2 z3 z4 z5 z6 z7, σ = [some (.ref s), z1, z2, z3, z4, z5, z6, z7])
      ⟨hs, _, _, _, _, _, _, _, rfl⟩ (fun _ _ _ _ _ => trivial) ?_ ?_
    case refine_2 =>
      rintro σ H1 ⟨_, z1, z2, z3, z4, z5, z6, z7, rfl⟩
      exact q H1
    rintro i y σ H8 H0 hi ⟨hs0, z1, z2, z3, z4, z5, z6, z7, rfl⟩ ⟨rfl, rfl⟩
    have hi2 : i ≤ 2 := by omega
    clear hi hm hm' hs
    refine ⟨_, rfl, _, rfl, s, ns, i, (by show [V.ref s, V.int (0 + (i : Int))] = [V.ref s, V.int i]; rw [Int.zero_add]), hs0, hi2, fun pa H1 hpa s1 u1 => ?_⟩
    refine ⟨_, rfl, H1, pa, 0, [], rfl, wd_new u1, by omega, fun l ts G2 H2 ρ2 xG2 rl2 W2 el2 nl2 hlen hts => ?_⟩
    refine ⟨l, rfl, ⟨_, SqL.of (W2.sm _ _ el2)⟩, fun D hD => ?_⟩
    refine lc_map (K := K) (R := TblR K G2 ρ2 pa) walk_list mon_tbl (fun _ => ()) (by rw [List.length_map]; omega) hD (fun H' s' => SqL.of (s' _ _ (W2.sm _ _ el2))) ?_ ?_
    · rintro j y H3 H4 Kk hj s3 ⟨rfl, hy⟩ kk
      obtain ⟨t, mt, rfl⟩ := refAt hy
      rcases hts t mt with ⟨u, lv, c, x, ht, tab, nc⟩ | ⟨u, lv, c, x, ht, tab, nc⟩
      · exact ⟨rfl, _, rfl, t, _, rfl, s3 _ _ (W2.sm _ _ ht), .inr rfl, fun cc H5 s5 ec => kk _ _ s5 ⟨cc, u, lv, c, x, rfl, ec, tab, nc⟩⟩
      · exact ⟨rfl, _, rfl, t, _, rfl, s3 _ _ (W2.sm _ _ ht), .inl rfl, fun cc H5 s5 ec => kk _ _ s5 ⟨cc, u, lv, c, x, rfl, ec, tab, nc⟩⟩
    intro H3 acc s3 e3 p3
    obtain ⟨tt, rfl, l5, htt⟩ := tbls_refs p3
    rw [List.length_map, List.length_range, List.length_map, hlen] at l5
    obtain ⟨G3, xG3, W3, gt3, gv3, gn3⟩ := W2.step T.nRV T.nVP (SX.of s3) (W2.puH.same s3)
    have eD := gn3 _ _ hD e3
    have x13 := xG2.trans xG3
    have hT3 : ∀ t ∈ tt, TriR K G3 ρ2 pa t := fun t ht => by
      obtain ⟨u, lv, c, x, h1, tab, nc⟩ := htt t ht
      exact ⟨u, lv, c, x, gt3 _ _ h1, tab.up W2.pu nc xG3 (RLe.refl _), nc⟩
    have nD : D ≠ pa := W2.puH.ne hD
    clear htt p3 gn3 gv3 gt3 xG3 hts el2 nl2 hlen rl2 xG2
    refine ⟨_, rfl, D, rfl, ⟨_, SqL.of e3⟩, ?_⟩
    clear e3 s3 hD W2
    refine for_it walk_list (fun j σ H' => ∃ (G : Hp) (ρ : List (Addr × List Int)) (z4 z5 z6 z7 : Option V), σ = [some (.ref s), some (.int (0 + i)), some (.ref pa), some (.ref D), z4, z5, z6, z7] ∧ WD K G H' pa (11000 + 100 * j) ρ ∧ SX pa H1 G ∧ G D = some (.lst (tt.map V.ref)) ∧ ∀ t ∈ tt, TriR K G ρ pa t)
      ⟨G3, ρ2, _, _, _, _, rfl, W3.le (by omega), x13, eD, hT3⟩ (fun j σ H' _ p => by obtain ⟨G, ρ, _, _, _, _, _, W, _, e, _⟩ := p; exact SqL.of (W.sm _ _ e)) ?_ ?_
    case refine_2 =>
      rintro σ H9 ⟨G, ρ, z4, z5, z6, z7, rfl, W, x, _, _⟩
      exact ⟨sql_keep hs0 hpa s1 (x.trans (SX.of W.sm)), _, _, _, _, _, _, _, rfl⟩
    clear eD x13 hT3 W3
    rintro j y σ H9 H5 hj ⟨G, ρ, z4, z5, z6, z7, rfl, W, xG, eD, hT⟩ ⟨rfl, hy⟩
    obtain ⟨t1, m1, rfl⟩ := refAt hy
    obtain ⟨u1, lv1, c1, vx, ht1, tab1, nc1⟩ := hT t1 m1
    rw [List.length_map, l5] at hj
    have vw1 : ∀ {H' : Hp}, Same H5 H' → VwR K H' u1 vx := fun s => mon_vw.up (.of (W.sm.trans s)) tab1.vw
    have rm1 : RmOk K H5 vx.room := tab1.insR W.rooms
    have et1 : H5 t1 = some (.tup [u1, lv1, .ref c1]) := W.sm _ _ ht1
    have ec1 : H5 c1 = some (.lst ((clsOf vx).map V.int)) := W.sm _ _ tab1.cs
    refine ⟨_, rfl, t1, _, _, _, rfl, rfl, SqT.of et1, at_of (j := 0) (v := u1) rfl rfl, u1, vx, rfl, vw1 (Same.refl _), tab1.ok, fun w H6 up s6 hup okup => ?_⟩
    refine ⟨_, rfl, t1, _, _, _, rfl, rfl, SqT.of (s6 _ _ et1), at_of (j := 0) (v := u1) rfl rfl, _, rfl, u1, w, vx, up, _, rfl, vw1 s6, tab1.ok, rm1.same s6, hup, okup, fun H7 s7 => ?_⟩
    have s57 := s6.trans s7
    refine ⟨_, _, rfl, rfl, false, rfl, iteF ?_⟩
    obtain ⟨o, sw, rest, rfl, ho, hsw, hown⟩ := UPapR.own (K := K) hup
    refine ⟨_, rfl, o, _, _, _, rfl, rfl, SqT.of (s7 _ _ ho), at_of (j := 0) (v := .str sw) rfl rfl, rfl, ?_⟩
    refine ⟨_, rfl, t1, _, _, _, rfl, rfl, SqT.of (s57 _ _ et1), at_of (j := 2) (v := .ref c1) rfl rfl, c1, clsOf vx, rfl, SqL.of (s57 _ _ ec1), by have := cls_len tab1.ok; omega, fun m hml hiff => ?_⟩
    refine ⟨_, rfl, t1, _, _, _, rfl, rfl, SqT.of (s57 _ _ et1), at_of (j := 2) (v := .ref c1) rfl rfl, c1, _, rfl, .inl (SqL.of (s57 _ _ ec1)), rfl, rfl, false, congrArg V.bl ?_, iteF ?_⟩
    · show (!decide (V.bl (decide (V.str sw = V.str "unlike")) = V.bl (decide (V.int m = V.int (((clsOf vx).map V.int).length : Nat))))) = false
      have e : decide (V.int m = V.int (((clsOf vx).map V.int).length : Nat)) = decide (clsOf vx).Nodup := by
        rw [List.length_map]
        refine decide_eq_decide.mpr (Iff.trans ⟨fun h => ?_, fun h => ?_⟩ hiff)
        · injection h with h; omega
        · rw [h]
      rw [hsw, own_nodup okup, e]; simp
    clear hsw hiff hml
    have uH7 := W.puH.same s57
    refine ⟨_, rfl, _, rfl, _, rfl, D, _, rfl, .inl (SqL.of (s57 _ _ (W.sm _ _ eD))), pa, _, _, rfl, uH7, by omega, by rw [List.length_map, l5]; decide, by rw [List.length_map, l5]; decide, fun r H8 r0 r1 x8 u8 => ?_⟩
    rw [List.length_map, l5] at r1
    obtain ⟨jr, rfl⟩ : ∃ jr : Nat, r = jr := ⟨r.toNat, (Int.toNat_of_nonneg r0).symm⟩
    have hjr : jr < tt.length := by omega
    have x58 := (SX.of s57).trans x8
    obtain ⟨G8, xG8, W8, gt8, gv8, gn8⟩ := W.step T.nRV T.nVP x58 u8
    have m2 : tt[jr] ∈ tt := List.getElem_mem hjr
    have e2 : (tt.map V.ref)[jr]? = some (.ref tt[jr]) := by rw [List.getElem?_map, List.getElem?_eq_getElem hjr]; rfl
    generalize tt[jr] = t2 at m2 e2
    have eD8 := xG8 _ _ nD eD
    have hT8 : ∀ t ∈ tt, TriR K G8 ρ pa t := fun t ht => (hT t ht).up W.pu xG8 (RLe.refl _)
    have tab1 := tab1.up W.pu nc1 xG8 (RLe.refl _)
    have ht1 := (W.pu.kt (K := K) xG8).tup _ _ ht1
    obtain ⟨u2, lv2, c2, vy, ht2, tab2, nc2⟩ := hT8 t2 m2
    have k68 : KT K H6 H8 := (KT.of s7).trans (uH7.kt x8)
    clear gn8 gv8 gt8 vw1 rm1 et1 ec1 ho
    refine ⟨D, _, _, _, rfl, rfl, SqL.of (W8.sm _ _ eD8), at_of (j := jr) (v := .ref t2) rfl e2, ?_⟩
    refine ⟨_, rfl, t1, _, _, _, rfl, rfl, SqT.of (W8.sm _ _ ht1), at_of (j := 0) (v := u1) rfl rfl, _, rfl, t2, _, _, _, rfl, rfl, SqT.of (W8.sm _ _ ht2), at_of (j := 0) (v := u2) rfl rfl, u1, u2, vx, vy, rfl, mon_vw.up (.of W8.sm) tab1.vw, tab1.ok, mon_vw.up (.of W8.sm) tab2.vw, tab2.ok, tab1.insR W8.rooms, tab2.insR W8.rooms, fun wv H9 pap s9 hpap okpap => ?_⟩
    have fx1 := tab1.ok.lens.few
    have fx2 := tab2.ok.lens.few
    obtain ⟨f, rfl, hf⟩ := hpap.papH (K := K) okpap (by omega) (by omega)
    obtain ⟨G9, xG9, W9, gt9, gv9, gn9⟩ := W8.step T.nRV T.nVP (SX.of s9) (W8.puH.same s9)
    have k99 : KT K H9 G9 := ⟨gt9, gv9⟩
    have pG9 := hf G9 k99 fun b o hb e => gn9 b o hb e
    have k89 := W8.pu.kt (K := K) xG9
    refine ⟨_, rfl, _, rfl, _, rfl, _, rfl, G9, pa, _, ρ, t1, t2, f, u1, lv1, c1, vx, u2, lv2, c2, vy, pap, rfl, W9, by omega, k89.tup _ _ ht1, k89.tup _ _ ht2, tab1.up W8.pu nc1 xG9 (RLe.refl _), tab2.up W8.pu nc2 xG9 (RLe.refl _), nc1, nc2, pG9, okpap, fun G10 ρ10 H10 xG10 rl10 W10 => ⟨true, rfl, iteF ?_⟩⟩
    have eD10 := xG10 _ _ nD (xG9 _ _ nD eD8)
    have k910 : KT K H9 H10 := (k99.trans (W9.pu.kt xG10)).trans (.of W10.sm)
    have hT10 : ∀ t ∈ tt, TriR K G10 ρ10 pa t := fun t ht => ((hT8 t ht).up W8.pu xG9 (RLe.refl _)).up W9.pu xG10 rl10
    have pH10 := hf H10 k910 fun b o hb e => W10.sm _ _ (xG10 _ _ (W8.puH.ne hb) (gn9 b o hb e))
    have oH10 := hown H10 ((k68.trans (.of s9)).trans k910)
    refine ⟨_, rfl, _, rfl, _, rfl, D, f, o, tt, pap, _, rfl, W10.sm _ _ eD10, fun t ht => ?_, pH10, oH10, fun H11 s11 => ⟨true, rfl, iteF ?_⟩⟩
    · obtain ⟨u, lv, c, x, h1, tab, nc⟩ := hT10 t ht
      exact ⟨x, TabD.triH h1 tab W10.rooms⟩
    exact ⟨G10, ρ10, _, _, _, _, rfl, WD.le ⟨W10.rooms.same s11, W10.pu⟩ (by omega), ((xG.trans xG8).trans xG9).trans xG10, eD10, hT10⟩
    
end
end Vg

namespace Vg
open PySem PySem.Spec PyProof.Rows L2
theorem cmp_of {K : PySem.W.Frag} {C : Addr} (c : cmpB K C = true) (h : Heap) (X : K.In h) : ∃ (nm q : Str) (N : Addr) (bs : List Value) (hdct : Bool) (sn : List Str) (sub : List Value) (ab : Bool) (col : Option Bool) (dd : Option Addr) (k0 k1 k2 k3 k5 : Option Value) (newId : String) (mN : Str → Option Value),
    h.get? C = some (excClassObj nm q C N bs [.type "object"] hdct sn sub ab col dd k0 k1 k2 k3 k5 newId) ∧ h.Ns N mN ∧ mN "__eq__" = none ∧ mN "__ne__" = none := by
  unfold cmpB at c
  split at c
  · rename_i dd cd sl ho
    split at c
    · rename_i C' k0 k1 k2 k3 n k5 hm hs
      obtain ⟨c1, c⟩ := He.ba c
      obtain ⟨c2, c⟩ := He.ba c
      obtain ⟨c3, c⟩ := He.ba c
      obtain ⟨c4, c5⟩ := He.ba c
      have e1 : C' = C := of_decide_eq_true c1
      subst e1
      obtain ⟨nm, bs, mro, ns, qn, hd, sn, sub, ab, col, del⟩ := cd
      dsimp only at hm c2 c3 c4 c5
      have e2 : del = false := by simpa using c2
      subst hm e2
      have hsl : sl = #[k0, k1, k2, k3, some (.builtin n), k5] := by
        obtain ⟨l⟩ := sl
        simp only at hs
        rw [hs]
      subst hsl
      exact ⟨nm, qn, ns, bs, hd, sn, sub, ab, col, dd, k0, k1, k2, k3, k5, n, _, X _ _ ho, .of_isNs (PySem.W.isNs_of_in X c3), PySem.W.nsMap_none_of_in X c3 (He.eqO_ok c4), PySem.W.nsMap_none_of_in X c3 (He.eqO_ok c5)⟩
    · cases c
  · cases c
theorem cls_ne {K : PySem.W.Frag} {C D f : Addr} {m : Str} (h : Meth K C m f) (n : NoAttr K D m) : C ≠ D := by
  rintro rfl
  have e := h.at_.symm.trans n
  cases e
theorem txt_of {K : PySem.W.Frag} {h : Heap} {mg : Str → Option Value} (X : K.In h) (G : h.Ns mainGlobals mg) (c : lookX K = (He.valD FN, true)) : Txt K mg := by
  have cD : He.SaysD FA FN K := congrArg Prod.fst c
  have cC : cmpB K (He.ga K "Room") = true := congrArg Prod.snd c
  have fa : ∀ f ∈ FA, f.ok K = true := fun f hf => by
    obtain ⟨i, hi⟩ := List.getElem?_of_mem hf
    exact cD.fact i hi
  have f1 : ∀ x ∈ GLO, (He.Fa.glo x).ok K = true := fun x hx => fa _ (List.mem_append_left _ (List.mem_map.mpr ⟨x, hx, rfl⟩))
  have f2 : ∀ x ∈ FREE, (He.Fa.free x).ok K = true := fun x hx => fa _ (List.mem_append_right _ (List.mem_append_left _ (List.mem_map.mpr ⟨x, hx, rfl⟩)))
  have f3 : ∀ p ∈ NOAT, (He.Fa.noat p.1 p.2).ok K = true := fun p hp => fa _ (List.mem_append_right _ (List.mem_append_right _ (List.mem_append_left _ (List.mem_map.mpr ⟨p, hp, rfl⟩))))
  have f4 : ∀ p ∈ METH, (He.Fa.meth p.1 p.2).ok K = true := fun p hp => fa _ (List.mem_append_right _ (List.mem_append_right _ (List.mem_append_right _ (List.mem_append_left _ (List.mem_map.mpr ⟨p, hp, rfl⟩)))))
  have f5 : ∀ f ∈ ([.int "MOST_SIDES" 5, .int "MOST_PLACES" 600, .int "PAGE" 8, .int "MOST_STRIDE" 600, .cls "Room", .cls "View", .cls "Page", .mkr "Room", .mkr "View", .mkr "Page", .noat "View" "need", .noat "Page" "need", .noat "Page" "tell"] : List He.Fa), f.ok K = true := fun f hf => fa _ (List.mem_append_right _ (List.mem_append_right _ (List.mem_append_right _ (List.mem_append_right _ hf))))
  have g : ∀ (i : Nat) {f : He.Fa}, ([.int "MOST_SIDES" 5, .int "MOST_PLACES" 600, .int "PAGE" 8, .int "MOST_STRIDE" 600, .cls "Room", .cls "View", .cls "Page", .mkr "Room", .mkr "View", .mkr "Page", .noat "View" "need", .noat "Page" "need", .noat "Page" "tell"] : List He.Fa)[i]? = some f → f.ok K = true := fun i f e => f5 f (List.mem_of_getElem? e)
  have mN : ∀ x, (("Room", x) : PySem.Str × PySem.Str) ∈ METH → Meth K (He.ga K "Room") x (He.ma K (He.ga K "Room") x) := fun x hx => He.meth_ok (f4 _ hx)
  have mV : ∀ x, (("View", x) : PySem.Str × PySem.Str) ∈ METH → Meth K (He.ga K "View") x (He.ma K (He.ga K "View") x) := fun x hx => He.meth_ok (f4 _ hx)
  refine { fn := fun d hd => ?_, glo := fun x hx => He.glo_ok X G (f1 x hx), fre := fun x hx => He.free_ok X G (f2 x hx), i_MOST_SIDES := He.int_ok X G (g 0 rfl), i_MOST_PLACES := He.int_ok X G (g 1 rfl), i_PAGE := He.int_ok X G (g 2 rfl), i_MOST_STRIDE := He.int_ok X G (g 3 rfl), clR := He.cls_ok (g 4 rfl), clV := He.cls_ok (g 5 rfl), clP := He.cls_ok (g 6 rfl), mkR := He.mkr_ok (g 7 rfl), mkV := He.mkr_ok (g 8 rfl), mkP := He.mkr_ok (g 9 rfl), nRV := cls_ne (mN "need" (by decide +kernel)) (He.noat_ok (g 10 rfl)), nRP := cls_ne (mN "need" (by decide +kernel)) (He.noat_ok (g 11 rfl)), nVP := cls_ne (mV "tell" (by decide +kernel)) (He.noat_ok (g 12 rfl)), noat := fun p hp => He.noat_ok (f3 p hp), meth := fun p hp => He.meth_ok (f4 p hp), cmpR := fun h X => cmp_of cC h X }
  obtain ⟨i, hi⟩ := List.getElem?_of_mem hd
  exact cD.def_ i hi
end Vg
open PySem PySem.W PySem.Calls PyProof.Rows
theorem PySem.Challenge.cw_viewgrid_k39_whole_meets_both_ways_holds : PySem.Challenge.rw_viewgrid_k39_whole_meets_both_ways.Holds := by
  w_on; o_law
  refine HandSHeadRun.head_any (r := OpenLaw.row PySem.Challenge.rw_viewgrid_k39_whole_meets_both_ways) (q := view (OpenLaw.row PySem.Challenge.rw_viewgrid_k39_whole_meets_both_ways).prog [79]) (H := Vg.hkX) (ob := Vg.ob) (M := 6000) (loose := Vg.loose) (d := HandSHeadRun.topDef (OpenLaw.row PySem.Challenge.rw_viewgrid_k39_whole_meets_both_ways).prog 79) (kwd := []) Vg.ob_eq
    (by kernel_rfl) (fun s => by kernel_rfl) Vg.run (by kernel_rfl) (by kernel_rfl) (by kernel_rfl) (by rfl) (by first | assumption | decide +kernel) (by decide +kernel) ⟨rfl, rfl, rfl, rfl, rfl, by decide +kernel⟩ ?hw ?hc
  case hw => w_witness2
  case hc =>
    refine L2.walk_ofE (l := PySem.Challenge.rw_viewgrid_k39_whole_meets_both_ways) (n := 63) (k := 9) (x := "_law_script") (CX := L2.CX0) rfl (by decide) (by kernel_rfl) ⟨rfl, by decide, by decide⟩ ?F (fun _ _ _ _ z => z)
    intro w mg fa h Y G hmg0
    obtain ⟨K, KX, c⟩ := Y
    have hmg : mg ("law" : PySem.Str) = some (.ref fa) := by
      have e : (HandSHeadRun.topDef (OpenLaw.row PySem.Challenge.rw_viewgrid_k39_whole_meets_both_ways).prog 79).name = ("law" : PySem.Str) := by kernel_rfl
      rw [← e]
      exact hmg0
    have T := Vg.txt_of KX G c
    obtain ⟨fd, F⟩ := T.fn Vg.d_law (by unfold Vg.FN; simp)
    have e := hmg.symm.trans (T.glo "law" (by decide +kernel))
    cases e
    have b := L2.FunD.bindsA (ps := ["_law_script"]) F fun _ _ _ _ _ _ us hl => match us, hl with | [_], _ => rfl
    exact ⟨K, fd, Vg.sp_law K, KX, fun s v => b s [v] rfl, fun H a ns hl _ hS => ⟨a, ns, rfl, hS, fun _ => rfl⟩, fun base _ _ => Vg.ok_law T F⟩

