import PyProof.Rows.All
import Wide.All
import OpenK.AllK
import Wide.FinOn
import KE.KStateDown
import HandS.ForMost
import HandS.Exc
import HandS.TryOnly
import HandS.ExcOwn
import HandS.WordsExc
import HandS.Lambda
import HandS.Nested
import HandS.Defaults
import HandS.More
import HandS.Head0
import HandS.Head1
import HandS.Head2
import HandS.HeadEnd
import HandS.HeadHook1
import HandS.HeadHook2
import HandS.HeadHook3
import HandS.HeadHook4
import HandS.HeadWalk
import PySem.Challenge.RW_bridgefind_k61_whole_desk_and_shelf
import HandS.SortInts
import HandS.SortRule
import HandS.Deep
import HandS.TupAny
import HandS.RaiseMore
import HandS.RevRange
import HandS.IsInst
import HandS.Conv
import HandS.Zip
import KE.GoesMore
import KE.GoesNew
import HandS.TupLe
import KE.IntTextLaws
import PyProof.Rows.StrMul
import PyProof.Rows.StrJoinRep
import Lean
set_option Elab.async false
set_option linter.all false
set_option maxRecDepth 100000
set_option maxHeartbeats 4000000
namespace BF
open PySem PySem.Spec PyProof.Rows L2
/-! the text by places -/
def top (i : Nat) : Stmt := PySem.Challenge.pw_bridgefind_k61_whole_desk_and_shelf.main.body.getD i (.Pass ⟨0, 0, 0, 0⟩)
abbrev s_is_key : Stmt := top 3
abbrev s_code : Stmt := top 4
abbrev s_put_between : Stmt := top 5
abbrev s_joined_up : Stmt := top 6
abbrev s_lowest_unlike : Stmt := top 9
abbrev s_turned : Stmt := top 10
abbrev s_labels : Stmt := top 11
abbrev s_neighbours_of : Stmt := top 13
abbrev s_colours : Stmt := top 14
abbrev s_marks : Stmt := top 15
abbrev s_handed : Stmt := top 16
abbrev s_is_whole : Stmt := top 31
abbrev s_is_knot : Stmt := top 32
abbrev s_tree_of : Stmt := top 33
abbrev s_children : Stmt := top 34
abbrev s_beneath : Stmt := top 35
abbrev s_is_way : Stmt := top 36
abbrev s_row_of : Stmt := top 39
abbrev s_stand_of : Stmt := top 40
abbrev s_own_entries : Stmt := top 41
abbrev s_full_rows : Stmt := top 42
abbrev s_weight_beneath : Stmt := top 43
abbrev s_weight : Stmt := top 44
abbrev s_owns_of : Stmt := top 46
abbrev s_behind_of : Stmt := top 47
abbrev s_starts_of : Stmt := top 48
abbrev s_bridges_of_fulls : Stmt := top 49
abbrev s_bridges : Stmt := top 50
abbrev s_first_place : Stmt := top 52
abbrev s_next_place : Stmt := top 53
abbrev s_start_in : Stmt := top 54
abbrev s_search : Stmt := top 55
abbrev s_ask_way : Stmt := top 57
abbrev s_found_places : Stmt := top 58
abbrev s_places : Stmt := top 60
abbrev s_parts_from : Stmt := top 61
abbrev s_who_has : Stmt := top 62
abbrev s_stretch : Stmt := top 63
abbrev s_above : Stmt := top 64
abbrev s_below : Stmt := top 65
abbrev s_less : Stmt := top 67
abbrev s_Shelf_init : Stmt := inClass (top 68) 0
abbrev s_Shelf_stand : Stmt := inClass (top 68) 1
abbrev s_Shelf_ask_knot : Stmt := inClass (top 68) 2
abbrev s_Shelf_full : Stmt := inClass (top 68) 3
abbrev s_Shelf_changed : Stmt := inClass (top 68) 4
abbrev s_Shelf_put : Stmt := inClass (top 68) 5
abbrev s_Shelf_out : Stmt := inClass (top 68) 6
abbrev s_Shelf_hang : Stmt := inClass (top 68) 7
abbrev s_show_stand : Stmt := top 74
abbrev s_number_read : Stmt := top 75
abbrev s_read_keys : Stmt := top 76
abbrev s_read_line : Stmt := top 77
abbrev s_read_stand : Stmt := top 78
abbrev s_with_blanks : Stmt := top 81
abbrev s_entry_text : Stmt := top 82
abbrev s_entry_or_none : Stmt := top 83
abbrev s_with_commas : Stmt := top 84
abbrev s_shape_of : Stmt := top 85
abbrev s_Desk_init : Stmt := inClass (top 86) 0
abbrev s_Desk_thing_of : Stmt := inClass (top 86) 1
abbrev s_Desk_deed_row : Stmt := inClass (top 86) 2
abbrev s_Desk_way_row : Stmt := inClass (top 86) 3
abbrev s_Desk_between_row : Stmt := inClass (top 86) 4
abbrev s_Desk_say : Stmt := inClass (top 86) 5
abbrev s_law_every : Stmt := top 88
abbrev s_law_begin : Stmt := top 89
abbrev s_law_mixed : Stmt := top 90
abbrev s_law_take : Stmt := top 91
abbrev s_law_key : Stmt := top 92
abbrev s_law_tree : Stmt := top 93
abbrev s_law_row : Stmt := top 94
abbrev s_law_rows : Stmt := top 95
abbrev s_law_children : Stmt := top 96
abbrev s_law_way : Stmt := top 97
abbrev s_law_small_stand : Stmt := top 98
abbrev s_law_text : Stmt := top 99
abbrev s_law_words : Stmt := top 100
abbrev s_law_entry_text : Stmt := top 101
abbrev s_law_key_near : Stmt := top 102
abbrev s_law_counted : Stmt := top 103
abbrev s_law_done : Stmt := top 104
abbrev s_law_said : Stmt := top 105
abbrev s_law_entry_or_none : Stmt := top 106
abbrev s_law_alike : Stmt := top 107
abbrev s_law : Stmt := top 108
end BF
set_option maxHeartbeats 0
namespace BF
open PySem PySem.Spec PyProof.Rows L2
def fa : List He.Fa := [.glo "is_key",
  .glo "code",
  .glo "put_between",
  .glo "joined_up",
  .glo "lowest_unlike",
  .glo "turned",
  .glo "labels",
  .glo "neighbours_of",
  .glo "colours",
  .glo "marks",
  .glo "handed",
  .glo "is_whole",
  .glo "is_knot",
  .glo "tree_of",
  .glo "children",
  .glo "beneath",
  .glo "is_way",
  .glo "row_of",
  .glo "stand_of",
  .glo "own_entries",
  .glo "full_rows",
  .glo "weight_beneath",
  .glo "weight",
  .glo "owns_of",
  .glo "behind_of",
  .glo "starts_of",
  .glo "bridges_of_fulls",
  .glo "bridges",
  .glo "first_place",
  .glo "next_place",
  .glo "start_in",
  .glo "search",
  .glo "ask_way",
  .glo "found_places",
  .glo "places",
  .glo "parts_from",
  .glo "who_has",
  .glo "stretch",
  .glo "above",
  .glo "below",
  .glo "less",
  .glo "show_stand",
  .glo "number_read",
  .glo "read_keys",
  .glo "read_line",
  .glo "read_stand",
  .glo "with_blanks",
  .glo "entry_text",
  .glo "entry_or_none",
  .glo "with_commas",
  .glo "shape_of",
  .glo "_law_every",
  .glo "_law_begin",
  .glo "_law_mixed",
  .glo "_law_take",
  .glo "_law_key",
  .glo "_law_tree",
  .glo "_law_row",
  .glo "_law_rows",
  .glo "_law_children",
  .glo "_law_way",
  .glo "_law_small_stand",
  .glo "_law_text",
  .glo "_law_words",
  .glo "_law_entry_text",
  .glo "_law_key_near",
  .glo "_law_counted",
  .glo "_law_done",
  .glo "_law_said",
  .glo "_law_entry_or_none",
  .glo "_law_alike",
  .glo "law",
  .free "isinstance",
  .free "int",
  .free "bool",
  .free "abs",
  .free "len",
  .free "list",
  .free "range",
  .free "enumerate",
  .free "max",
  .free "min",
  .free "any",
  .free "zip",
  .free "tuple",
  .free "all",
  .free "set",
  .free "sorted",
  .free "sum",
  .free "reversed",
  .free "str",
  .free "ValueError",
  .glo "BridgeError",
  .glo "NoTree",
  .glo "NoWay",
  .glo "NoStand",
  .glo "Twice",
  .glo "Missing",
  .glo "NoRoom",
  .glo "NoKnot",
  .glo "NoKey",
  .glo "NoRow",
  .glo "NoText",
  .glo "Shelf",
  .glo "Desk",
  .int "TOO_GREAT" (1000000000000000000000000000000000000000000000000000000000000),
  .int "KNOTS" (64),
  .int "ROUNDS" (5),
  .int "MOST_KNOTS_trees" (40),
  .int "MOST_KEYS_stands" (300),
  .int "MOST_FIGURES" (60),
  .int "MOST_KNOTS_texts" (40),
  .int "MOST_KEYS_texts" (300),
  .str "FIGURES" "0123456789",
  .glo "SHAPES",
  .cls "Shelf",
  .mkr "Shelf",
  .cls "Desk",
  .mkr "Desk",
  .noat "Shelf" "tree",
  .noat "Shelf" "rows",
  .noat "Shelf" "fulls",
  .noat "Desk" "shelf",
  .meth "Shelf" "stand",
  .meth "Shelf" "ask_knot",
  .meth "Shelf" "full",
  .meth "Shelf" "changed",
  .meth "Shelf" "put",
  .meth "Shelf" "out",
  .meth "Shelf" "hang",
  .meth "Desk" "thing_of",
  .meth "Desk" "deed_row",
  .meth "Desk" "way_row",
  .meth "Desk" "between_row",
  .meth "Desk" "say",
  .exc "Twice",
  .exm "Twice" "BridgeError" true,
  .exc "Missing",
  .exm "Missing" "BridgeError" true,
  .exc "NoRoom",
  .exm "NoRoom" "BridgeError" true,
  .exc "NoKnot",
  .exm "NoKnot" "BridgeError" true]
def d_is_key : He.DefD := ⟨("is_key", none), "is_key", "is_key", defArgs s_is_key, defBody s_is_key, defScope s_is_key, [], []⟩
def d_code : He.DefD := ⟨("code", none), "code", "code", defArgs s_code, defBody s_code, defScope s_code, [], []⟩
def d_put_between : He.DefD := ⟨("put_between", none), "put_between", "put_between", defArgs s_put_between, defBody s_put_between, defScope s_put_between, [], []⟩
def d_joined_up : He.DefD := ⟨("joined_up", none), "joined_up", "joined_up", defArgs s_joined_up, defBody s_joined_up, defScope s_joined_up, [], []⟩
def d_lowest_unlike : He.DefD := ⟨("lowest_unlike", none), "lowest_unlike", "lowest_unlike", defArgs s_lowest_unlike, defBody s_lowest_unlike, defScope s_lowest_unlike, [], []⟩
def d_turned : He.DefD := ⟨("turned", none), "turned", "turned", defArgs s_turned, defBody s_turned, defScope s_turned, [], []⟩
def d_labels : He.DefD := ⟨("labels", none), "labels", "labels", defArgs s_labels, defBody s_labels, defScope s_labels, [], []⟩
def d_neighbours_of : He.DefD := ⟨("neighbours_of", none), "neighbours_of", "neighbours_of", defArgs s_neighbours_of, defBody s_neighbours_of, defScope s_neighbours_of, [], []⟩
def d_colours : He.DefD := ⟨("colours", none), "colours", "colours", defArgs s_colours, defBody s_colours, defScope s_colours, [], []⟩
def d_marks : He.DefD := ⟨("marks", none), "marks", "marks", defArgs s_marks, defBody s_marks, defScope s_marks, [], []⟩
def d_handed : He.DefD := ⟨("handed", none), "handed", "handed", defArgs s_handed, defBody s_handed, defScope s_handed, [], []⟩
def d_is_whole : He.DefD := ⟨("is_whole", none), "is_whole", "is_whole", defArgs s_is_whole, defBody s_is_whole, defScope s_is_whole, [], []⟩
def d_is_knot : He.DefD := ⟨("is_knot", none), "is_knot", "is_knot", defArgs s_is_knot, defBody s_is_knot, defScope s_is_knot, [], []⟩
def d_tree_of : He.DefD := ⟨("tree_of", none), "tree_of", "tree_of", defArgs s_tree_of, defBody s_tree_of, defScope s_tree_of, [], []⟩
def d_children : He.DefD := ⟨("children", none), "children", "children", defArgs s_children, defBody s_children, defScope s_children, [], []⟩
def d_beneath : He.DefD := ⟨("beneath", none), "beneath", "beneath", defArgs s_beneath, defBody s_beneath, defScope s_beneath, [], []⟩
def d_is_way : He.DefD := ⟨("is_way", none), "is_way", "is_way", defArgs s_is_way, defBody s_is_way, defScope s_is_way, [], []⟩
def d_row_of : He.DefD := ⟨("row_of", none), "row_of", "row_of", defArgs s_row_of, defBody s_row_of, defScope s_row_of, [], []⟩
def d_stand_of : He.DefD := ⟨("stand_of", none), "stand_of", "stand_of", defArgs s_stand_of, defBody s_stand_of, defScope s_stand_of, [], []⟩
def d_own_entries : He.DefD := ⟨("own_entries", none), "own_entries", "own_entries", defArgs s_own_entries, defBody s_own_entries, defScope s_own_entries, [], []⟩
def d_full_rows : He.DefD := ⟨("full_rows", none), "full_rows", "full_rows", defArgs s_full_rows, defBody s_full_rows, defScope s_full_rows, [], []⟩
def d_weight_beneath : He.DefD := ⟨("weight_beneath", none), "weight_beneath", "weight_beneath", defArgs s_weight_beneath, defBody s_weight_beneath, defScope s_weight_beneath, [], []⟩
def d_weight : He.DefD := ⟨("weight", none), "weight", "weight", defArgs s_weight, defBody s_weight, defScope s_weight, [], []⟩
def d_owns_of : He.DefD := ⟨("owns_of", none), "owns_of", "owns_of", defArgs s_owns_of, defBody s_owns_of, defScope s_owns_of, [], []⟩
def d_behind_of : He.DefD := ⟨("behind_of", none), "behind_of", "behind_of", defArgs s_behind_of, defBody s_behind_of, defScope s_behind_of, [], []⟩
def d_starts_of : He.DefD := ⟨("starts_of", none), "starts_of", "starts_of", defArgs s_starts_of, defBody s_starts_of, defScope s_starts_of, [], []⟩
def d_bridges_of_fulls : He.DefD := ⟨("bridges_of_fulls", none), "bridges_of_fulls", "bridges_of_fulls", defArgs s_bridges_of_fulls, defBody s_bridges_of_fulls, defScope s_bridges_of_fulls, [], []⟩
def d_bridges : He.DefD := ⟨("bridges", none), "bridges", "bridges", defArgs s_bridges, defBody s_bridges, defScope s_bridges, [], []⟩
def d_first_place : He.DefD := ⟨("first_place", none), "first_place", "first_place", defArgs s_first_place, defBody s_first_place, defScope s_first_place, [], []⟩
def d_next_place : He.DefD := ⟨("next_place", none), "next_place", "next_place", defArgs s_next_place, defBody s_next_place, defScope s_next_place, [], []⟩
def d_start_in : He.DefD := ⟨("start_in", none), "start_in", "start_in", defArgs s_start_in, defBody s_start_in, defScope s_start_in, [], []⟩
def d_search : He.DefD := ⟨("search", none), "search", "search", defArgs s_search, defBody s_search, defScope s_search, [], []⟩
def d_ask_way : He.DefD := ⟨("ask_way", none), "ask_way", "ask_way", defArgs s_ask_way, defBody s_ask_way, defScope s_ask_way, [], []⟩
def d_found_places : He.DefD := ⟨("found_places", none), "found_places", "found_places", defArgs s_found_places, defBody s_found_places, defScope s_found_places, [], []⟩
def d_places : He.DefD := ⟨("places", none), "places", "places", defArgs s_places, defBody s_places, defScope s_places, [], []⟩
def d_parts_from : He.DefD := ⟨("parts_from", none), "parts_from", "parts_from", defArgs s_parts_from, defBody s_parts_from, defScope s_parts_from, [], []⟩
def d_who_has : He.DefD := ⟨("who_has", none), "who_has", "who_has", defArgs s_who_has, defBody s_who_has, defScope s_who_has, [], []⟩
def d_stretch : He.DefD := ⟨("stretch", none), "stretch", "stretch", defArgs s_stretch, defBody s_stretch, defScope s_stretch, [], []⟩
def d_above : He.DefD := ⟨("above", none), "above", "above", defArgs s_above, defBody s_above, defScope s_above, [], []⟩
def d_below : He.DefD := ⟨("below", none), "below", "below", defArgs s_below, defBody s_below, defScope s_below, [], []⟩
def d_less : He.DefD := ⟨("less", none), "less", "less", defArgs s_less, defBody s_less, defScope s_less, [], []⟩
def d_Shelf_init : He.DefD := ⟨("Shelf", some "__init__"), "__init__", "Shelf.__init__", defArgs s_Shelf_init, defBody s_Shelf_init, defScope s_Shelf_init, [], []⟩
def d_Shelf_stand : He.DefD := ⟨("Shelf", some "stand"), "stand", "Shelf.stand", defArgs s_Shelf_stand, defBody s_Shelf_stand, defScope s_Shelf_stand, [], []⟩
def d_Shelf_ask_knot : He.DefD := ⟨("Shelf", some "ask_knot"), "ask_knot", "Shelf.ask_knot", defArgs s_Shelf_ask_knot, defBody s_Shelf_ask_knot, defScope s_Shelf_ask_knot, [], []⟩
def d_Shelf_full : He.DefD := ⟨("Shelf", some "full"), "full", "Shelf.full", defArgs s_Shelf_full, defBody s_Shelf_full, defScope s_Shelf_full, [], []⟩
def d_Shelf_changed : He.DefD := ⟨("Shelf", some "changed"), "changed", "Shelf.changed", defArgs s_Shelf_changed, defBody s_Shelf_changed, defScope s_Shelf_changed, [], []⟩
def d_Shelf_put : He.DefD := ⟨("Shelf", some "put"), "put", "Shelf.put", defArgs s_Shelf_put, defBody s_Shelf_put, defScope s_Shelf_put, [], []⟩
def d_Shelf_out : He.DefD := ⟨("Shelf", some "out"), "out", "Shelf.out", defArgs s_Shelf_out, defBody s_Shelf_out, defScope s_Shelf_out, [], []⟩
def d_Shelf_hang : He.DefD := ⟨("Shelf", some "hang"), "hang", "Shelf.hang", defArgs s_Shelf_hang, defBody s_Shelf_hang, defScope s_Shelf_hang, [], []⟩
def d_show_stand : He.DefD := ⟨("show_stand", none), "show_stand", "show_stand", defArgs s_show_stand, defBody s_show_stand, defScope s_show_stand, [], []⟩
def d_number_read : He.DefD := ⟨("number_read", none), "number_read", "number_read", defArgs s_number_read, defBody s_number_read, defScope s_number_read, [], []⟩
def d_read_keys : He.DefD := ⟨("read_keys", none), "read_keys", "read_keys", defArgs s_read_keys, defBody s_read_keys, defScope s_read_keys, [], []⟩
def d_read_line : He.DefD := ⟨("read_line", none), "read_line", "read_line", defArgs s_read_line, defBody s_read_line, defScope s_read_line, [], []⟩
def d_read_stand : He.DefD := ⟨("read_stand", none), "read_stand", "read_stand", defArgs s_read_stand, defBody s_read_stand, defScope s_read_stand, [], []⟩
def d_with_blanks : He.DefD := ⟨("with_blanks", none), "with_blanks", "with_blanks", defArgs s_with_blanks, defBody s_with_blanks, defScope s_with_blanks, [], []⟩
def d_entry_text : He.DefD := ⟨("entry_text", none), "entry_text", "entry_text", defArgs s_entry_text, defBody s_entry_text, defScope s_entry_text, [], []⟩
def d_entry_or_none : He.DefD := ⟨("entry_or_none", none), "entry_or_none", "entry_or_none", defArgs s_entry_or_none, defBody s_entry_or_none, defScope s_entry_or_none, [], []⟩
def d_with_commas : He.DefD := ⟨("with_commas", none), "with_commas", "with_commas", defArgs s_with_commas, defBody s_with_commas, defScope s_with_commas, [], []⟩
def d_shape_of : He.DefD := ⟨("shape_of", none), "shape_of", "shape_of", defArgs s_shape_of, defBody s_shape_of, defScope s_shape_of, [], []⟩
def d_Desk_init : He.DefD := ⟨("Desk", some "__init__"), "__init__", "Desk.__init__", defArgs s_Desk_init, defBody s_Desk_init, defScope s_Desk_init, [], []⟩
def d_Desk_thing_of : He.DefD := ⟨("Desk", some "thing_of"), "thing_of", "Desk.thing_of", defArgs s_Desk_thing_of, defBody s_Desk_thing_of, defScope s_Desk_thing_of, [], []⟩
def d_Desk_deed_row : He.DefD := ⟨("Desk", some "deed_row"), "deed_row", "Desk.deed_row", defArgs s_Desk_deed_row, defBody s_Desk_deed_row, defScope s_Desk_deed_row, [], []⟩
def d_Desk_way_row : He.DefD := ⟨("Desk", some "way_row"), "way_row", "Desk.way_row", defArgs s_Desk_way_row, defBody s_Desk_way_row, defScope s_Desk_way_row, [], []⟩
def d_Desk_between_row : He.DefD := ⟨("Desk", some "between_row"), "between_row", "Desk.between_row", defArgs s_Desk_between_row, defBody s_Desk_between_row, defScope s_Desk_between_row, [], []⟩
def d_Desk_say : He.DefD := ⟨("Desk", some "say"), "say", "Desk.say", defArgs s_Desk_say, defBody s_Desk_say, defScope s_Desk_say, [], []⟩
def d_law_every : He.DefD := ⟨("_law_every", none), "_law_every", "_law_every", defArgs s_law_every, defBody s_law_every, defScope s_law_every, [], []⟩
def d_law_begin : He.DefD := ⟨("_law_begin", none), "_law_begin", "_law_begin", defArgs s_law_begin, defBody s_law_begin, defScope s_law_begin, [], []⟩
def d_law_mixed : He.DefD := ⟨("_law_mixed", none), "_law_mixed", "_law_mixed", defArgs s_law_mixed, defBody s_law_mixed, defScope s_law_mixed, [], []⟩
def d_law_take : He.DefD := ⟨("_law_take", none), "_law_take", "_law_take", defArgs s_law_take, defBody s_law_take, defScope s_law_take, [], []⟩
def d_law_key : He.DefD := ⟨("_law_key", none), "_law_key", "_law_key", defArgs s_law_key, defBody s_law_key, defScope s_law_key, [], []⟩
def d_law_tree : He.DefD := ⟨("_law_tree", none), "_law_tree", "_law_tree", defArgs s_law_tree, defBody s_law_tree, defScope s_law_tree, [], []⟩
def d_law_row : He.DefD := ⟨("_law_row", none), "_law_row", "_law_row", defArgs s_law_row, defBody s_law_row, defScope s_law_row, [], []⟩
def d_law_rows : He.DefD := ⟨("_law_rows", none), "_law_rows", "_law_rows", defArgs s_law_rows, defBody s_law_rows, defScope s_law_rows, [], []⟩
def d_law_children : He.DefD := ⟨("_law_children", none), "_law_children", "_law_children", defArgs s_law_children, defBody s_law_children, defScope s_law_children, [], []⟩
def d_law_way : He.DefD := ⟨("_law_way", none), "_law_way", "_law_way", defArgs s_law_way, defBody s_law_way, defScope s_law_way, [], []⟩
def d_law_small_stand : He.DefD := ⟨("_law_small_stand", none), "_law_small_stand", "_law_small_stand", defArgs s_law_small_stand, defBody s_law_small_stand, defScope s_law_small_stand, [], []⟩
def d_law_text : He.DefD := ⟨("_law_text", none), "_law_text", "_law_text", defArgs s_law_text, defBody s_law_text, defScope s_law_text, [], []⟩
def d_law_words : He.DefD := ⟨("_law_words", none), "_law_words", "_law_words", defArgs s_law_words, defBody s_law_words, defScope s_law_words, [], []⟩
def d_law_entry_text : He.DefD := ⟨("_law_entry_text", none), "_law_entry_text", "_law_entry_text", defArgs s_law_entry_text, defBody s_law_entry_text, defScope s_law_entry_text, [], []⟩
def d_law_key_near : He.DefD := ⟨("_law_key_near", none), "_law_key_near", "_law_key_near", defArgs s_law_key_near, defBody s_law_key_near, defScope s_law_key_near, [], []⟩
def d_law_counted : He.DefD := ⟨("_law_counted", none), "_law_counted", "_law_counted", defArgs s_law_counted, defBody s_law_counted, defScope s_law_counted, [], []⟩
def d_law_done : He.DefD := ⟨("_law_done", none), "_law_done", "_law_done", defArgs s_law_done, defBody s_law_done, defScope s_law_done, [], []⟩
def d_law_said : He.DefD := ⟨("_law_said", none), "_law_said", "_law_said", defArgs s_law_said, defBody s_law_said, defScope s_law_said, [], []⟩
def d_law_entry_or_none : He.DefD := ⟨("_law_entry_or_none", none), "_law_entry_or_none", "_law_entry_or_none", defArgs s_law_entry_or_none, defBody s_law_entry_or_none, defScope s_law_entry_or_none, [], []⟩
def d_law_alike : He.DefD := ⟨("_law_alike", none), "_law_alike", "_law_alike", defArgs s_law_alike, defBody s_law_alike, defScope s_law_alike, [], []⟩
def d_law : He.DefD := ⟨("law", none), "law", "law", defArgs s_law, defBody s_law, defScope s_law, [], []⟩
def fn : List He.DefD := [d_is_key, d_code, d_put_between, d_joined_up, d_lowest_unlike, d_turned, d_labels, d_neighbours_of, d_colours, d_marks, d_handed, d_is_whole, d_is_knot, d_tree_of, d_children, d_beneath, d_is_way, d_row_of, d_stand_of, d_own_entries, d_full_rows, d_weight_beneath, d_weight, d_owns_of, d_behind_of, d_starts_of, d_bridges_of_fulls, d_bridges, d_first_place, d_next_place, d_start_in, d_search, d_ask_way, d_found_places, d_places, d_parts_from, d_who_has, d_stretch, d_above, d_below, d_less, d_Shelf_init, d_Shelf_stand, d_Shelf_ask_knot, d_Shelf_full, d_Shelf_changed, d_Shelf_put, d_Shelf_out, d_Shelf_hang, d_show_stand, d_number_read, d_read_keys, d_read_line, d_read_stand, d_with_blanks, d_entry_text, d_entry_or_none, d_with_commas, d_shape_of, d_Desk_init, d_Desk_thing_of, d_Desk_deed_row, d_Desk_way_row, d_Desk_between_row, d_Desk_say, d_law_every, d_law_begin, d_law_mixed, d_law_take, d_law_key, d_law_tree, d_law_row, d_law_rows, d_law_children, d_law_way, d_law_small_stand, d_law_text, d_law_words, d_law_entry_text, d_law_key_near, d_law_counted, d_law_done, d_law_said, d_law_entry_or_none, d_law_alike, d_law]
def loose : List PySem.Str := (["TOO_GREAT", "KNOTS", "is_key", "code", "put_between", "joined_up", "ROUNDS", "lowest_unlike", "turned", "labels", "neighbours_of", "colours", "marks", "handed", "BridgeError", "NoTree", "NoWay", "NoStand", "Twice", "Missing"] : List PySem.Str) ++ (["NoRoom", "NoKnot", "NoKey", "NoRow", "NoText", "MOST_KNOTS_trees", "is_whole", "is_knot", "tree_of", "children", "beneath", "is_way", "MOST_KEYS_stands", "row_of", "stand_of", "own_entries", "full_rows", "weight_beneath", "weight", "owns_of"] : List PySem.Str) ++ (["behind_of", "starts_of", "bridges_of_fulls", "bridges", "first_place", "next_place", "start_in", "search", "ask_way", "found_places", "places", "parts_from", "who_has", "stretch", "above", "below", "less", "Shelf", "FIGURES", "MOST_FIGURES"] : List PySem.Str) ++ (["MOST_KNOTS_texts", "MOST_KEYS_texts", "show_stand", "number_read", "read_keys", "read_line", "read_stand", "SHAPES", "with_blanks", "entry_text", "entry_or_none", "with_commas", "shape_of", "Desk", "_law_every", "_law_begin", "_law_mixed", "_law_take", "_law_key", "_law_tree"] : List PySem.Str) ++ (["_law_row", "_law_rows", "_law_children", "_law_way", "_law_small_stand", "_law_text", "_law_words", "_law_entry_text", "_law_key_near", "_law_counted", "_law_done", "_law_said", "_law_entry_or_none", "_law_alike"] : List PySem.Str)
abbrev ROW : PySem.W.OpenRow := PySem.W.OpenLaw.row PySem.Challenge.rw_bridgefind_k61_whole_desk_and_shelf
def shapesAt (K : PySem.W.Frag) : Addr := He.ga K "SHAPES"
def ts : List He.Tab := [(shapesAt, ["show", "weight", "put", "out", "hang", "full", "find", "has", "above", "below", "between"])]
def tf : List He.Defn := [("found_places", none)]
def shapesKV : List (Str × He.Dv) := [("show", .str ""), ("weight", .str ""), ("put", .str "hk"), ("out", .str "hk"), ("hang", .str "h"), ("full", .str "h"), ("find", .str "kw"), ("has", .str "kw"), ("above", .str "kw"), ("below", .str "kw"), ("between", .str "kkw")]
def exB (K : PySem.W.Frag) : Bool := He.valsB K (shapesAt K) shapesKV
/-! what the module's names reach: their objects, the dicts and codes behind these, the methods, their codes -/
def nextOf (g : Addr → Option Obj) (a : Addr) : List Addr := match g a with
  | some o => He.refsD o
  | none => []
def nextIfDict (g : Addr → Option Obj) (a : Addr) : List Addr := match g a with
  | some ⟨_, _, .dict es n, _⟩ => He.refsD { cls := .none, data := .dict es n }
  | _ => []
def reach (g : Addr → Option Obj) : List Addr :=
  mainGlobals :: (nextOf g mainGlobals ++ ((nextOf g mainGlobals).flatMap (nextOf g) ++ (((nextOf g mainGlobals).flatMap (nextOf g)).flatMap (nextIfDict g) ++ (((nextOf g mainGlobals).flatMap (nextOf g)).flatMap (nextIfDict g)).flatMap (nextOf g))))
/-- no list: the law's argument is none of these -/
def noList : Obj → Bool
  | ⟨.type c, _, _, _⟩ => !decide (c = "list")
  | _ => true
def part (g : Addr → Option Obj) : PySem.W.Frag := (He.frT g (reach g)).filter fun q => noList q.2
theorem part_mem {g : Addr → Option Obj} {a : Addr} {o : Obj} (h : (part g).lookup a = some o) : g a = some o ∧ He.emptyTab o = false ∧ noList o = true := by
  obtain ⟨h1, h2⟩ := List.mem_filter.mp (He.lookup_mem h)
  obtain ⟨h3, h4⟩ := List.mem_filter.mp h1
  refine ⟨He.frG_mem h3, ?_, h2⟩
  have h5 : (!He.emptyTab o) = true := h4
  cases q : He.emptyTab o with
  | false => rfl
  | true => rw [q] at h5; cases h5
theorem part_in {h : Heap} : (part h.get?).In h := fun _ _ e => (part_mem e).1
theorem part_none {g : Addr → Option Obj} {a : Addr} {o : Obj} (h : g a = some o) (ht : He.emptyTab o = true) : (part g).lookup a = none := by
  cases e : (part g).lookup a with
  | none => rfl
  | some u =>
    obtain ⟨h1, h2, _⟩ := part_mem e
    rw [h] at h1
    rw [← Option.some.inj h1, ht] at h2
    cases h2
def look (g : Addr → Option Obj) : He.AlX := (He.obsT fa fn ts (part g), exB (part g) && He.tabsB g tf (part g))
theorem says_of {w : World} {h : Heap} (e : look h.get? = He.valX fn ts w) : He.SaysX fa fn ts tf exB w h (part h.get?) := by
  obtain ⟨eT, eB⟩ := Prod.mk.inj e
  obtain ⟨b1, b2⟩ := He.ba eB
  have all := List.all_eq_true.mp b2
  have tab : ∀ p ∈ tf, ∃ o, h.get? (He.cT (part h.get?) p).2 = some o ∧ He.emptyTab o = true := by
    intro p hp
    have z := (He.ba (all p hp)).2
    revert z
    cases h.get? (He.cT (part h.get?) p).2 with
    | none => intro z; cases z
    | some o => intro z; exact ⟨o, rfl, z⟩
  refine { t := eT, more := b1, hd := fun p hp => (He.ba (all p hp)).1, out := ?_, empty := ?_ }
  · intro p hp
    obtain ⟨o, eo, em⟩ := tab p hp
    exact part_none eo em
  · intro p hp
    obtain ⟨o, eo, em⟩ := tab p hp
    rw [eo, He.emptyTab_eq em]
def hk : PySem.W.Hook where
  α := He.AlX
  obs := fun s => look s.heap.get?
  val := fun w => He.valX fn ts w
  says := fun w h => ∃ K : PySem.W.Frag, K.In h ∧ He.SaysX fa fn ts tf exB w h K ∧ ∀ a o, K.lookup a = some o → noList o = true
  of := fun _ _ e => ⟨_, part_in, says_of e, fun a o h => (part_mem h).2.2⟩
  keeps := fun _ _ _ hK k => by
    obtain ⟨K, hi, c, nl⟩ := hK
    exact ⟨K, PySem.W.Frag.In.keeps hi k, { t := c.t, more := c.more, hd := c.hd, out := c.out, empty := fun p hp => k _ _ (c.empty p hp) }, nl⟩
def ob (s : PySem.W.SharedT) : He.AlX := look (HandSHeadRun.getT s)
theorem ob_eq (s : PySem.W.SharedT) : ob s = hk.obs s.abs := by
  have e : HandSHeadRun.getT s = s.abs.heap.get? := funext fun a => HandSHeadRun.getT_eq s a
  show look (HandSHeadRun.getT s) = look s.abs.heap.get?
  rw [e]
abbrev RUNS (w : World) : Prop := HandSHeadRun.RunEq ROW (PySem.W.view ROW.prog [108]) hk ob 20000 loose w
theorem run_no (w : World) : RUNS (w.withFollow "special-get-raises" false) := by
  intro os
  kernel_rfl
theorem run_yes (w : World) : RUNS (w.withFollow "special-get-raises" true) := by
  intro os
  kernel_rfl
theorem run (w : World) : RUNS w := PySem.W.byRow2 "special-get-raises" (P := RUNS) run_no run_yes w
end BF
set_option maxHeartbeats 4000000
/-! # The layer: typed data in the heap, and programs over typed environments -/
namespace BF
open PySem PySem.Spec PyProof.Rows L2

abbrev Sg := L2.St
/-! ## data -/
/-- how values of a Lean type lie in the heap -/
structure Rp (α : Type) where
  rel : α → Hp → V → Prop
  mono : ∀ {x : α} {F F' : Hp} {v : V}, Same F F' → rel x F v → rel x F' v
def rInt : Rp Int := ⟨fun x _ v => v = .int x, fun _ h => h⟩
def rBool : Rp Bool := ⟨fun x _ v => v = .bl x, fun _ h => h⟩
def rStr : Rp Str := ⟨fun x _ v => v = .str x, fun _ h => h⟩
def rNone : Rp Unit := ⟨fun _ _ v => v = .non, fun _ h => h⟩
/-- None, or a thing that is not None -/
def rOpt {α : Type} (R : Rp α) : Rp (Option α) := ⟨fun x F v => match x with
  | none => v = .non
  | some y => v ≠ .non ∧ R.rel y F v, fun {x F F' v} s h => by
    cases x with
    | none => exact h
    | some y => exact ⟨h.1, R.mono s h.2⟩⟩
/-- item by item -/
def RL {α : Type} (R : Rp α) (F : Hp) : List α → List V → Prop
  | [], [] => True
  | x :: xs, v :: vs => R.rel x F v ∧ RL R F xs vs
  | [], _ :: _ => False
  | _ :: _, [] => False
section
variable {α : Type} {R : Rp α} {F F' : Hp}
theorem RL.mono (s : Same F F') : ∀ {xs : List α} {vs : List V}, RL R F xs vs → RL R F' xs vs
  | [], [], _ => trivial
  | _ :: _, _ :: _, h => ⟨R.mono s h.1, RL.mono s h.2⟩
theorem RL.len : ∀ {xs : List α} {vs : List V}, RL R F xs vs → vs.length = xs.length
  | [], [], _ => rfl
  | _ :: xs, _ :: vs, h => congrArg Nat.succ (RL.len (xs := xs) (vs := vs) h.2)
theorem RL.get : ∀ {xs : List α} {vs : List V}, RL R F xs vs → ∀ {i : Nat} {x : α}, xs[i]? = some x → ∃ v, vs[i]? = some v ∧ R.rel x F v
  | [], [], _, i, x, e => by simp at e
  | x :: xs, v :: vs, h, 0, y, e => by
    simp at e; subst e; exact ⟨v, rfl, h.1⟩
  | x :: xs, v :: vs, h, i + 1, y, e => by
    obtain ⟨w, a, b⟩ := RL.get (xs := xs) (vs := vs) h.2 (i := i) (x := y) (by simpa using e)
    exact ⟨w, by simpa using a, b⟩
theorem RL.getV : ∀ {xs : List α} {vs : List V}, RL R F xs vs → ∀ {i : Nat} {v : V}, vs[i]? = some v → ∃ x, xs[i]? = some x ∧ R.rel x F v
  | [], [], _, i, x, e => by simp at e
  | x :: xs, v :: vs, h, 0, y, e => by
    simp at e; subst e; exact ⟨x, rfl, h.1⟩
  | x :: xs, v :: vs, h, i + 1, y, e => by
    obtain ⟨w, a, b⟩ := RL.getV (xs := xs) (vs := vs) h.2 (i := i) (v := y) (by simpa using e)
    exact ⟨w, by simpa using a, b⟩
theorem RL.app : ∀ {xs ys : List α} {vs ws : List V}, RL R F xs vs → RL R F ys ws → RL R F (xs ++ ys) (vs ++ ws)
  | [], _, [], _, _, k => k
  | _ :: _, _, _ :: _, _, h, k => ⟨h.1, RL.app h.2 k⟩
theorem RL.snoc {xs : List α} {vs : List V} {x : α} {v : V} (h : RL R F xs vs) (k : R.rel x F v) : RL R F (xs ++ [x]) (vs ++ [v]) := h.app ⟨k, trivial⟩
theorem RL.drop : ∀ {xs : List α} {vs : List V} (n : Nat), RL R F xs vs → RL R F (xs.drop n) (vs.drop n)
  | _, _, 0, h => h
  | [], [], _ + 1, h => h
  | _ :: _, _ :: _, n + 1, h => RL.drop n h.2
theorem RL.take : ∀ {xs : List α} {vs : List V} (n : Nat), RL R F xs vs → RL R F (xs.take n) (vs.take n)
  | _, _, 0, _ => trivial
  | [], [], _ + 1, h => h
  | _ :: _, _ :: _, n + 1, h => ⟨h.1, RL.take n h.2⟩
theorem RL.set : ∀ {xs : List α} {vs : List V} {x : α} {v : V} (i : Nat), RL R F xs vs → R.rel x F v → RL R F (xs.set i x) (vs.set i v)
  | [], [], _, _, _, h, _ => h
  | _ :: _, _ :: _, _, _, 0, h, k => ⟨k, h.2⟩
  | _ :: _, _ :: _, _, _, i + 1, h, k => ⟨h.1, RL.set i h.2 k⟩
theorem RL.map_int : ∀ {xs : List Int} {vs : List V}, RL rInt F xs vs ↔ vs = xs.map V.int
  | [], [] => by simp [RL]
  | [], _ :: _ => by simp [RL]
  | _ :: _, [] => by simp [RL]
  | x :: xs, v :: vs => by
    have ih := RL.map_int (xs := xs) (vs := vs)
    show (v = V.int x ∧ RL rInt F xs vs) ↔ v :: vs = V.int x :: xs.map V.int
    rw [ih, List.cons.injEq]
theorem RL.map_str : ∀ {xs : List Str} {vs : List V}, RL rStr F xs vs ↔ vs = xs.map V.str
  | [], [] => by simp [RL]
  | [], _ :: _ => by simp [RL]
  | _ :: _, [] => by simp [RL]
  | x :: xs, v :: vs => by
    have ih := RL.map_str (xs := xs) (vs := vs)
    show (v = V.str x ∧ RL rStr F xs vs) ↔ v :: vs = V.str x :: xs.map V.str
    rw [ih, List.cons.injEq]
theorem RL.map_bl : ∀ {xs : List Bool} {vs : List V}, RL rBool F xs vs ↔ vs = xs.map V.bl
  | [], [] => by simp [RL]
  | [], _ :: _ => by simp [RL]
  | _ :: _, [] => by simp [RL]
  | x :: xs, v :: vs => by
    have ih := RL.map_bl (xs := xs) (vs := vs)
    show (v = V.bl x ∧ RL rBool F xs vs) ↔ v :: vs = V.bl x :: xs.map V.bl
    rw [ih, List.cons.injEq]
end
/-- a list that nobody changes any more -/
def rLst {α : Type} (R : Rp α) : Rp (List α) := ⟨fun xs F v => ∃ a vs, v = .ref a ∧ F a = some (.lst vs) ∧ RL R F xs vs, fun s ⟨a, vs, e, h, r⟩ => ⟨a, vs, e, s _ _ h, r.mono s⟩⟩
/-- a tuple of one kind of items -/
def rTpl {α : Type} (R : Rp α) : Rp (List α) := ⟨fun xs F v => ∃ a vs, v = .ref a ∧ F a = some (.tup vs) ∧ RL R F xs vs, fun s ⟨a, vs, e, h, r⟩ => ⟨a, vs, e, s _ _ h, r.mono s⟩⟩
def rT2 {α β : Type} (R : Rp α) (S : Rp β) : Rp (α × β) := ⟨fun x F v => ∃ a u w, v = .ref a ∧ F a = some (.tup [u, w]) ∧ R.rel x.1 F u ∧ S.rel x.2 F w,
  fun s ⟨a, u, w, e, h, r1, r2⟩ => ⟨a, u, w, e, s _ _ h, R.mono s r1, S.mono s r2⟩⟩
def rT3 {α β γ : Type} (R : Rp α) (S : Rp β) (U : Rp γ) : Rp (α × β × γ) := ⟨fun x F v => ∃ a u w z, v = .ref a ∧ F a = some (.tup [u, w, z]) ∧ R.rel x.1 F u ∧ S.rel x.2.1 F w ∧ U.rel x.2.2 F z,
  fun s ⟨a, u, w, z, e, h, r1, r2, r3⟩ => ⟨a, u, w, z, e, s _ _ h, R.mono s r1, S.mono s r2, U.mono s r3⟩⟩
/-- an entry: (key, knot) -/
abbrev En := Int × Int
abbrev rEn : Rp En := rT2 rInt rInt

/-! ## how the heap grows -/
abbrev Tbs := List (Addr × Str)
/-- the tables of code objects: what they tell is known -/
def TabF (T : Tbs) (F H : Hp) : Prop := ∀ p ∈ T, ∃ ps : Array Value, H p.1 = some (.tbl ps) ∧ TriplesOk ps.toList ∧ ∀ (pos : Pos) (cv : Value), codeAmong pos ps.toList = some cv → ∃ c, cv = .ref c ∧ F c = some (LamX.CodeO c p.2)
theorem TabF.ext {T : Tbs} {F H F' H' : Hp} (t : TabF T F H) (s : Same F F') (e : ∀ a u, H a = some u → H' a = some u) : TabF T F' H' := fun p hp => by
  obtain ⟨ps, h1, h2, h3⟩ := t p hp
  refine ⟨ps, e _ _ h1, h2, fun pos cv hc => ?_⟩
  obtain ⟨c, e1, e2⟩ := h3 pos cv hc
  exact ⟨c, e1, s _ _ e2⟩
structure Ok (T : Tbs) (F H : Hp) : Prop where
  sub : Same F H
  nt : ∀ a ps, F a ≠ some (.tbl ps)
  tb : TabF T F H
/-- from (F, G) to (F', H'): the known part F has grown by new objects alone; what stood in G stands, but at Wr -/
structure Grow (T : Tbs) (Wr : Addr → Prop) (F G F' H' : Hp) : Prop where
  ok : Ok T F' H'
  ef : Same F F'
  new : ∀ a, F' a ≠ none → F a = none → G a = none
  eh : ∀ a o, ¬ Wr a → G a = some o → (∀ ps, o ≠ .tbl ps) → H' a = some o
  th : ∀ a, G a ≠ none → H' a ≠ none
abbrev nowhere : Addr → Prop := fun _ => False
section
variable {T : Tbs} {Wr Wr' : Addr → Prop} {F F1 F2 G H H1 H2 : Hp}
theorem Grow.refl (h : Ok T F H) : Grow T Wr F H F H := ⟨h, Same.refl _, fun a h1 h2 => absurd h2 h1, fun _ _ _ h _ => h, fun _ h => h⟩
theorem Grow.trans (a : Grow T Wr F G F1 H1) (b : Grow T Wr' F1 H1 F2 H2) (hw : ∀ x, Wr' x → Wr x ∨ G x = none) : Grow T Wr F G F2 H2 where
  ok := b.ok
  ef := a.ef.trans b.ef
  new := fun x h1 h2 => by
    by_cases h3 : F1 x = none
    · have h4 := b.new x h1 h3
      cases h5 : G x with
      | none => rfl
      | some o => exact absurd h4 (a.th x (by rw [h5]; simp))
    · exact a.new x h3 h2
  eh := fun x o nw h nt => b.eh x o (fun w => (hw x w).elim nw fun z => by rw [z] at h; cases h) (a.eh x o nw h nt) nt
  th := fun x h => b.th x (a.th x h)
theorem Grow.step (a : Grow T Wr F G F1 H1) (b : Grow T nowhere F1 H1 F2 H2) : Grow T Wr F G F2 H2 := a.trans b fun _ w => w.elim
theorem Grow.base (g : Grow T Wr F G H H1) : Grow T Wr H G H H1 := ⟨g.ok, Same.refl _, fun _ h1 h2 => absurd h2 h1, g.eh, g.th⟩
theorem Grow.rebase (a : Grow T Wr F G F1 H1) (b : Grow T Wr F1 G F2 H2) : Grow T Wr F G F2 H2 := ⟨b.ok, a.ef.trans b.ef, fun x h1 h2 => by
  by_cases h3 : F1 x = none
  · exact b.new x h1 h3
  · exact a.new x h3 h2, b.eh, b.th⟩
theorem Grow.weak (a : Grow T nowhere F G F1 H1) : Grow T Wr F G F1 H1 := ⟨a.ok, a.ef, a.new, fun x o _ h nt => a.eh x o (fun w => w) h nt, a.th⟩
/-- a new object, unknown yet -/
theorem Grow.made {p : Addr} {o : HO} (h : Ok T F H) (hp : H p = none) : Grow T Wr F H F (upd H p o) where
  ok := ⟨fun a u e => by rw [upd_ne (ne_of_none (h.sub a u e) hp)]; exact h.sub a u e, h.nt, h.tb.ext (Same.refl _) fun a u e => by rw [upd_ne (ne_of_none e hp)]; exact e⟩
  ef := Same.refl _
  new := fun _ h1 h2 => absurd h2 h1
  eh := fun a u _ e _ => by rw [upd_ne (ne_of_none e hp)]; exact e
  th := fun a e => by
    cases q : H a with
    | none => exact absurd q e
    | some u => rw [upd_ne (ne_of_none q hp), q]; simp
/-- a new object, known from now on -/
theorem Grow.laid {p : Addr} {o : HO} (h : Ok T F H) (hp : H p = none) (nt : ∀ ps, o ≠ .tbl ps) : Grow T Wr F H (upd F p o) (upd H p o) where
  ok := ⟨fun a u e => by
      by_cases q : a = p
      · subst q; rw [upd_same] at e ⊢; exact e
      · rw [upd_ne q] at e ⊢; exact h.sub a u e,
    fun a ps e => by
      by_cases q : a = p
      · subst q; rw [upd_same] at e; exact nt ps (Option.some.inj e)
      · rw [upd_ne q] at e; exact h.nt a ps e, h.tb.ext (fun a u e => by rw [upd_ne (ne_of_none (h.sub a u e) hp)]; exact e) fun a u e => by rw [upd_ne (ne_of_none e hp)]; exact e⟩
  ef := fun a u e => by rw [upd_ne (ne_of_none (h.sub a u e) hp)]; exact e
  new := fun a h1 h2 => by
    by_cases q : a = p
    · subst q; exact hp
    · rw [upd_ne q] at h1; exact absurd h2 h1
  eh := fun a u _ e _ => by rw [upd_ne (ne_of_none e hp)]; exact e
  th := fun a e => by
    cases q : H a with
    | none => exact absurd q e
    | some u => rw [upd_ne (ne_of_none q hp), q]; simp
theorem Ok.free {p : Addr} (h : Ok T F H) (hp : H p = none) : F p = none := by
  cases q : F p with
  | none => rfl
  | some u => rw [h.sub p u q] at hp; cases hp
end

/-! ## what a value is, lastingly -/
structure Pv where
  p : Hp → Hp → V → Prop
  keep : ∀ {T : Tbs} {F H F' H' : Hp} {v : V}, Grow T nowhere F H F' H' → p F H v → p F' H' v
def pd {α : Type} (R : Rp α) (x : α) : Pv := ⟨fun F _ v => R.rel x F v, fun g h => R.mono g.ef h⟩
/-- a list, or a tuple, that may be read now -/
def pl {α : Type} (R : Rp α) (xs : List α) : Pv := ⟨fun F H v => ∃ a vs, v = .ref a ∧ H a = some (.lst vs) ∧ RL R F xs vs,
  fun g ⟨a, vs, e, h, r⟩ => ⟨a, vs, e, g.eh a _ (fun w => w) h (by intro ps z; cases z), r.mono g.ef⟩⟩
def pt {α : Type} (R : Rp α) (xs : List α) : Pv := ⟨fun F H v => ∃ a vs, v = .ref a ∧ H a = some (.tup vs) ∧ RL R F xs vs,
  fun g ⟨a, vs, e, h, r⟩ => ⟨a, vs, e, g.eh a _ (fun w => w) h (by intro ps z; cases z), r.mono g.ef⟩⟩
def pAny : Pv := ⟨fun _ _ _ => True, fun _ _ => trivial⟩
theorem pl_of {α : Type} {R : Rp α} {xs : List α} {T : Tbs} {F H : Hp} {v : V} (k : Ok T F H) (h : (pd (rLst R) xs).p F H v) : (pl R xs).p F H v := by
  obtain ⟨a, vs, e, q, r⟩ := h
  exact ⟨a, vs, e, k.sub _ _ q, r⟩
theorem pt_of {α : Type} {R : Rp α} {xs : List α} {T : Tbs} {F H : Hp} {v : V} (k : Ok T F H) (h : (pd (rTpl R) xs).p F H v) : (pt R xs).p F H v := by
  obtain ⟨a, vs, e, q, r⟩ := h
  exact ⟨a, vs, e, k.sub _ _ q, r⟩

/-! ## typed environments -/
/-- an object (or several) that may be changed: x tells what it is, ft where its parts lie -/
structure Mp (α : Type) where
  /-- made in this def -/
  loc : Bool
  rel : α → Hp → Hp → List Addr → V → Prop
  mono : ∀ {x : α} {F F' H H' : Hp} {ft : List Addr} {v : V}, Same F F' → (∀ a ∈ ft, H' a = H a) → rel x F H ft v → rel x F' H' ft v
  there : ∀ {x : α} {F H : Hp} {ft : List Addr} {v : V}, rel x F H ft v → ∀ a ∈ ft, ∃ o, H a = some o ∧ ∀ ps, o ≠ .tbl ps
/-- a list of one's own -/
def mLst {α : Type} (R : Rp α) : Mp (List α) where
  loc := true
  rel := fun xs F H ft v => ∃ a vs, v = .ref a ∧ ft = [a] ∧ H a = some (.lst vs) ∧ RL R F xs vs
  mono := fun s k ⟨a, vs, e, f, h, r⟩ => ⟨a, vs, e, f, by rw [k a (by rw [f]; simp)]; exact h, r.mono s⟩
  there := fun ⟨a, vs, e, f, h, r⟩ b hb => by
    rw [f] at hb
    simp at hb
    subst hb
    exact ⟨_, h, by intro ps z; cases z⟩
inductive Sl : Type 1
  | un
  | da {α : Type} (R : Rp α) (x : α)
  | mu {α : Type} (M : Mp α) (x : α)
  /-- to be read alone -/
  | vw (P : Pv)
def Sl.isVw : Sl → Bool
  | .vw _ => true
  | _ => false
def SlOk (Wr : Addr → Prop) (F G H : Hp) : Sl → Option V → List Addr → Prop
  | .un, _, ft => ft = []
  | .da R x, ov, ft => ft = [] ∧ ∃ v, ov = some v ∧ R.rel x F v
  | .mu M x, ov, ft => (∃ v, ov = some v ∧ M.rel x F H ft v) ∧ ∀ a ∈ ft, F a = none ∧ (Wr a ∨ G a = none) ∧ (M.loc = true → G a = none)
  | .vw P, ov, ft => ft = [] ∧ ∃ v, ov = some v ∧ P.p F H v
structure Sat (Wr : Addr → Prop) (F G H : Hp) (Γ : List Sl) (σ : Sg) (fts : Nat → List Addr) : Prop where
  len : σ.length = Γ.length
  at_ : ∀ i s, Γ[i]? = some s → ∃ ov, σ[i]? = some ov ∧ SlOk Wr F G H s ov (fts i)
  apart : ∀ i j, i ≠ j → ∀ a ∈ fts i, a ∉ fts j
  out : ∀ i, Γ.length ≤ i → fts i = []
section
variable {T : Tbs} {Wr : Addr → Prop} {F G H F' H' : Hp} {Γ : List Sl} {σ : Sg} {fts : Nat → List Addr} {α : Type} {R : Rp α} {M : Mp α} {x : α} {i : Nat} {v : V}
theorem Sat.da (S : Sat Wr F G H Γ σ fts) (h : Γ[i]? = some (.da R x)) : ∃ v, σ[i]? = some (some v) ∧ R.rel x F v := by
  obtain ⟨ov, e, _, v, rfl, r⟩ := S.at_ i _ h
  exact ⟨v, e, r⟩
theorem Sat.mu (S : Sat Wr F G H Γ σ fts) (h : Γ[i]? = some (.mu M x)) : ∃ v, σ[i]? = some (some v) ∧ M.rel x F H (fts i) v ∧ ∀ a ∈ fts i, F a = none ∧ (Wr a ∨ G a = none) ∧ (M.loc = true → G a = none) := by
  obtain ⟨ov, e, ⟨v, rfl, r⟩, k⟩ := S.at_ i _ h
  exact ⟨v, e, r, k⟩
/-- all that is owned stands -/
theorem Sat.there (S : Sat Wr F G H Γ σ fts) {a : Addr} (h : a ∈ fts i) : F a = none ∧ (Wr a ∨ G a = none) ∧ ∃ o, H a = some o ∧ ∀ ps, o ≠ .tbl ps := by
  cases q : Γ[i]? with
  | none =>
    rw [S.out i (List.getElem?_eq_none_iff.mp q)] at h
    cases h
  | some s =>
    obtain ⟨ov, e, k⟩ := S.at_ i s q
    cases s with
    | un => rw [show fts i = [] from k] at h; cases h
    | da R x => rw [k.1] at h; cases h
    | mu M x =>
      obtain ⟨⟨v, _, r⟩, kk⟩ := k
      exact ⟨(kk a h).1, (kk a h).2.1, M.there r a h⟩
    | vw P => rw [k.1] at h; cases h
theorem SlOk.keep {s : Sl} {ov : Option V} {ft : List Addr} (h : SlOk Wr F G H s ov ft) (hv : s.isVw = true → ∃ T, Grow T nowhere F H F' H') (e : Same F F') (k : ∀ a ∈ ft, H' a = H a) (n : ∀ a ∈ ft, F' a = none) : SlOk Wr F' G H' s ov ft := by
  cases s with
  | un => exact h
  | da R x =>
    obtain ⟨f, v, a, r⟩ := h
    exact ⟨f, v, a, R.mono e r⟩
  | mu M x =>
    obtain ⟨⟨v, a, r⟩, q⟩ := h
    exact ⟨⟨v, a, M.mono e k r⟩, fun b hb => ⟨n b hb, (q b hb).2⟩⟩
  | vw P =>
    obtain ⟨f, v, a, r⟩ := h
    obtain ⟨T, g⟩ := hv rfl
    exact ⟨f, v, a, P.keep g r⟩
/-- behind a step that changes nothing that stood -/
theorem Sat.grow (S : Sat Wr F G H Γ σ fts) (g : Grow T nowhere F H F' H') : Sat Wr F' G H' Γ σ fts := by
  refine ⟨S.len, fun i s h => ?_, S.apart, S.out⟩
  obtain ⟨ov, e, k⟩ := S.at_ i s h
  refine ⟨ov, e, k.keep (fun _ => ⟨T, g⟩) g.ef (fun a ha => ?_) fun a ha => ?_⟩
  · obtain ⟨_, _, o, ho, nt⟩ := S.there ha
    rw [g.eh a o (fun w => w) ho nt, ho]
  · obtain ⟨f, _, o, ho, nt⟩ := S.there ha
    cases q : F' a with
    | none => rfl
    | some u =>
      have := g.new a (by rw [q]; simp) f
      rw [ho] at this
      cases this
/-- a slot takes a datum -/
theorem Sat.set (S : Sat Wr F G H Γ σ fts) (r : R.rel x F v) : Sat Wr F G H (Γ.set i (.da R x)) (σ.set i (some v)) (fun j => if j = i then [] else fts j) := by
  refine ⟨by simpa using S.len, fun j s h => ?_, fun j k n a ha => ?_, fun j hj => ?_⟩
  · by_cases q : j = i
    · subst q
      by_cases l : j < Γ.length
      · rw [List.getElem?_set_self l] at h
        cases h
        exact ⟨some v, by rw [List.getElem?_set_self (by rw [S.len]; exact l)], if_pos rfl, v, rfl, r⟩
      · rw [List.getElem?_eq_none (by simpa using l)] at h
        cases h
    · rw [List.getElem?_set_ne (Ne.symm q)] at h
      obtain ⟨ov, e, k⟩ := S.at_ j s h
      exact ⟨ov, by rw [List.getElem?_set_ne (Ne.symm q)]; exact e, by rw [if_neg q]; exact k⟩
  · have ha : a ∈ (if j = i then [] else fts j) := ha
    show a ∉ (if k = i then [] else fts k)
    by_cases q : j = i
    · rw [if_pos q] at ha; cases ha
    · rw [if_neg q] at ha
      by_cases q2 : k = i
      · rw [if_pos q2]; simp
      · rw [if_neg q2]; exact S.apart j k n a ha
  · show (if j = i then [] else fts j) = []
    by_cases q : j = i
    · rw [if_pos q]
    · rw [if_neg q]; exact S.out j (by simpa using hj)
/-- a slot forgotten -/
theorem Sat.drop (S : Sat Wr F G H Γ σ fts) {ov : Option V} : Sat Wr F G H (Γ.set i .un) (σ.set i ov) (fun j => if j = i then [] else fts j) := by
  refine ⟨by simpa using S.len, fun j s h => ?_, fun j k n a ha => ?_, fun j hj => ?_⟩
  · by_cases q : j = i
    · subst q
      by_cases l : j < Γ.length
      · rw [List.getElem?_set_self l] at h
        cases h
        exact ⟨ov, by rw [List.getElem?_set_self (by rw [S.len]; exact l)], if_pos rfl⟩
      · rw [List.getElem?_eq_none (by simpa using l)] at h
        cases h
    · rw [List.getElem?_set_ne (Ne.symm q)] at h
      obtain ⟨ow, e, k⟩ := S.at_ j s h
      exact ⟨ow, by rw [List.getElem?_set_ne (Ne.symm q)]; exact e, by rw [if_neg q]; exact k⟩
  · have ha : a ∈ (if j = i then [] else fts j) := ha
    show a ∉ (if k = i then [] else fts k)
    by_cases q : j = i
    · rw [if_pos q] at ha; cases ha
    · rw [if_neg q] at ha
      by_cases q2 : k = i
      · rw [if_pos q2]; simp
      · rw [if_neg q2]; exact S.apart j k n a ha
  · show (if j = i then [] else fts j) = []
    by_cases q : j = i
    · rw [if_pos q]
    · rw [if_neg q]; exact S.out j (by simpa using hj)
/-- a slot takes an object of one's own: its parts are the slot's parts up to now, or new -/
theorem Sat.own {β : Type} {M' : Mp β} {y : β} {ft : List Addr} (S : Sat Wr F G H Γ σ fts) (g : Grow T (fun a => a ∈ fts i) F H F' H') (hth : ∀ a, G a ≠ none → H a ≠ none) (r : M'.rel y F' H' ft v)
    (hn : ∀ a ∈ ft, F' a = none ∧ (a ∈ fts i ∨ H a = none)) (hlo : M'.loc = true → ∀ a ∈ ft, G a = none ∨ H a = none) (nv : ∀ s ∈ Γ, s.isVw = false) : Sat Wr F' G H' (Γ.set i (.mu M' y)) (σ.set i (some v)) (fun j => if j = i then (if i < Γ.length then ft else []) else fts j) := by
  have keep : ∀ j, j ≠ i → ∀ a ∈ fts j, H' a = H a ∧ F' a = none := fun j q a ha => by
    obtain ⟨f, _, o, ho, nt⟩ := S.there ha
    refine ⟨by rw [g.eh a o (S.apart j i q a ha) ho nt, ho], ?_⟩
    cases z : F' a with
    | none => rfl
    | some u =>
      have := g.new a (by rw [z]; simp) f
      rw [ho] at this
      cases this
  have ap : ∀ j, j ≠ i → ∀ a ∈ fts j, a ∉ ft := fun j q a ha hf => by
    rcases (hn a hf).2 with z | z
    · exact S.apart j i q a ha z
    · obtain ⟨_, _, o, ho, _⟩ := S.there ha
      rw [ho] at z; cases z
  refine ⟨by simpa using S.len, fun j s h => ?_, fun j k n a ha => ?_, fun j hj => ?_⟩
  · by_cases q : j = i
    · subst q
      by_cases l : j < Γ.length
      · rw [List.getElem?_set_self l] at h
        cases h
        refine ⟨some v, by rw [List.getElem?_set_self (by rw [S.len]; exact l)], ?_⟩
        rw [if_pos rfl, if_pos l]
        have gn : ∀ a, H a = none → G a = none := fun a z => by
          cases w : G a with
          | none => rfl
          | some o => exact absurd z (hth a (by rw [w]; simp))
        refine ⟨⟨v, rfl, r⟩, fun a ha => ⟨(hn a ha).1, ?_, fun lo => (hlo lo a ha).elim (fun z => z) (gn a)⟩⟩
        rcases (hn a ha).2 with z | z
        · exact (S.there z).2.1
        · refine Or.inr ?_
          cases w : G a with
          | none => rfl
          | some o => exact absurd z (hth a (by rw [w]; simp))
      · rw [List.getElem?_eq_none (by simpa using l)] at h
        cases h
    · rw [List.getElem?_set_ne (Ne.symm q)] at h
      obtain ⟨ov, e, k⟩ := S.at_ j s h
      refine ⟨ov, by rw [List.getElem?_set_ne (Ne.symm q)]; exact e, ?_⟩
      rw [if_neg q]
      exact k.keep (fun z => by rw [nv s (List.mem_of_getElem? h)] at z; cases z) g.ef (fun a ha => (keep j q a ha).1) fun a ha => (keep j q a ha).2
  · have ha : a ∈ (if j = i then (if i < Γ.length then ft else []) else fts j) := ha
    show a ∉ (if k = i then (if i < Γ.length then ft else []) else fts k)
    by_cases q : j = i
    · rw [if_pos q] at ha
      have q2 : k ≠ i := fun z => n (q.trans z.symm)
      rw [if_neg q2]
      by_cases l : i < Γ.length
      · rw [if_pos l] at ha
        exact fun z => ap k q2 a z ha
      · rw [if_neg l] at ha; cases ha
    · rw [if_neg q] at ha
      by_cases q2 : k = i
      · rw [if_pos q2]
        by_cases l : i < Γ.length
        · rw [if_pos l]; exact ap j q a ha
        · rw [if_neg l]; simp
      · rw [if_neg q2]; exact S.apart j k n a ha
  · have hj : Γ.length ≤ j := by simpa using hj
    show (if j = i then (if i < Γ.length then ft else []) else fts j) = []
    by_cases q : j = i
    · rw [if_pos q, if_neg (by omega)]
    · rw [if_neg q]; exact S.out j hj
end
end BF
set_option maxHeartbeats 4000000
namespace BF
open PySem PySem.Spec PyProof.Rows L2

/-! ## the text's world, a body's context -/
structure Zx where
  P : Program
  w : World
  K : PySem.W.Frag
  mg : Str → Option Value
  base : Heap
  T : Tbs
def visB (sc : Scope) (x : Str) : Bool := match sc.names.lookup x with
  | some .local => true
  | some .cell => true
  | some .free => true
  | _ => false
def locB (sc : Scope) (x : Str) : Bool := match sc.names.lookup x with
  | some .local => true
  | some .cell => true
  | _ => false
def glB (sc : Scope) (x : Str) : Bool := match sc.names.lookup x with
  | some .globalImplicit => true
  | _ => false
theorem visB_ok {sc : Scope} {x : Str} (h : visB sc x = true) : Vis sc x := by
  unfold visB at h
  split at h
  · exact Or.inl (by assumption)
  · exact Or.inr (Or.inl (by assumption))
  · exact Or.inr (Or.inr (by assumption))
  · cases h
theorem locB_ok {sc : Scope} {x : Str} (h : locB sc x = true) : Loc sc x := by
  unfold locB at h
  split at h
  · exact Or.inl (by assumption)
  · exact Or.inr (by assumption)
  · cases h
theorem glB_ok {sc : Scope} {x : Str} (h : glB sc x = true) : sc.names.lookup x = some .globalImplicit := by
  unfold glB at h
  split at h
  · assumption
  · cases h
def plainName (x : Str) : Bool := (x == ("__debug__" : Str)) == false && (x == ("__classdict__" : Str)) == false && decide (x ≠ "__name__")
/-- what a body's names are: N the slots, vs the visible ones, ws those that may be stored, gs the globals -/
structure Nm (N : List Str) (sc : Scope) (vs ws : List Nat) (gs : List Str) : Prop where
  nd : N.Nodup
  vis : ∀ i ∈ vs, ∀ x, N[i]? = some x → Vis sc x
  loc : ∀ i ∈ ws, ∀ x, N[i]? = some x → Loc sc x
  gl : ∀ x ∈ gs, sc.names.lookup x = some .globalImplicit
  pn : ∀ i ∈ vs, ∀ x, N[i]? = some x → plainName x = true
  pg : ∀ x ∈ gs, plainName x = true
def nmB (N : List Str) (sc : Scope) (vs ws : List Nat) (gs : List Str) : Bool :=
  decide N.Nodup && vs.all (fun i => match N[i]? with | some x => visB sc x && plainName x | none => false) && ws.all (fun i => match N[i]? with | some x => locB sc x | none => false) &&
    gs.all fun x => glB sc x && plainName x
theorem nm_by {N : List Str} {sc : Scope} {vs ws : List Nat} {gs : List Str} (h : nmB N sc vs ws gs = true) : Nm N sc vs ws gs := by
  unfold nmB at h
  simp only [Bool.and_eq_true, decide_eq_true_eq, List.all_eq_true] at h
  obtain ⟨⟨⟨h1, h2⟩, h3⟩, h4⟩ := h
  refine ⟨h1, fun i hi x e => ?_, fun i hi x e => ?_, fun x hx => glB_ok (h4 x hx).1, fun i hi x e => ?_, fun x hx => (h4 x hx).2⟩
  · have q := h2 i hi
    rw [e] at q
    simp only [Bool.and_eq_true] at q
    exact visB_ok q.1
  · have q := h3 i hi
    rw [e] at q
    exact locB_ok q
  · have q := h2 i hi
    rw [e] at q
    simp only [Bool.and_eq_true] at q
    exact q.2
theorem plainName_ok {x : Str} (h : plainName x = true) : (x == ("__debug__" : Str)) = false ∧ (x == ("__classdict__" : Str)) = false ∧ x ≠ "__name__" := by
  unfold plainName at h
  simp only [Bool.and_eq_true, beq_iff_eq, decide_eq_true_eq] at h
  exact ⟨h.1.1, h.1.2, h.2⟩
structure Bd (Z : Zx) (X : Cx) (N : List Str) (sc : Scope) (vs ws : List Nat) (gs : List Str) (k : Nat) : Prop where
  nm : Nm N sc vs ws gs
  prog : X.prog = Z.P
  w : X.w = Z.w
  K : X.K = Z.K
  mg : X.mg = Z.mg
  base : X.base = Z.base
  eN : X.N = N
  eSc : X.env.scope = sc
  calm : X.calm = true
  room : Room k X.A
  st : ∀ i ∈ ws, ∀ x, N[i]? = some x → X.fn x = true ∨ sc.names.lookup x = some .local
  po : PassesOwn (model X.prog X.w) X.A X.env X.xe
section
variable {Z : Zx} {X : Cx} {N : List Str} {sc : Scope} {vs ws : List Nat} {gs : List Str} {k : Nat}
theorem Bd.gx (B : Bd Z X N sc vs ws gs k) {x : Str} (h : x ∈ gs) : Gl X x := by
  show X.env.scope.names.lookup x = _
  rw [B.eSc]
  exact B.nm.gl x h
theorem Bd.hu (B : Bd Z X N sc vs ws gs k) : X.A.units + 64 < cLine := B.room.units
end

/-! ## expressions -/
def EV (Z : Zx) (X : Cx) (e : Expr) (Γ : List Sl) (P : Pv) : Prop :=
  ∀ (pins : List (Addr × Obj)) (s : Shared) (σ : Sg) (F G H : Hp) (Wr : Addr → Prop) (fts : Nat → List Addr) (Q : VK), Inv X pins σ H s → Ok Z.T F H → Sat Wr F G H Γ σ fts →
    (∀ v F' H', Grow Z.T nowhere F H F' H' → P.p F' H' v → Q v H') → wpAny (model X.prog X.w) X.A (eval e X.env) (EP X pins σ Q) X.xe s
def tE (Z : Zx) (Γ : List Sl) (P : Pv) : TE := fun σ H Q => ∃ (F G : Hp) (Wr : Addr → Prop) (fts : Nat → List Addr), Ok Z.T F H ∧ Sat Wr F G H Γ σ fts ∧ ∀ v F' H', Grow Z.T nowhere F H F' H' → P.p F' H' v → Q v H'
section
variable {Z : Zx} {X : Cx} {e e1 e2 : Expr} {Γ : List Sl} {P P1 P2 S : Pv} {N : List Str} {sc : Scope} {vs ws : List Nat} {gs : List Str} {k : Nat} {pos : Pos}
theorem EV.pe (h : EV Z X e Γ P) : PE X e (tE Z Γ P) := ⟨fun pins s σ H Q I ⟨F, G, Wr, fts, o, S, q⟩ => h pins s σ F G H Wr fts Q I o S q⟩
theorem EV.of {te : TE} (h : PE X e te) (hr : ∀ (σ : Sg) (F G H : Hp) (Wr : Addr → Prop) (fts : Nat → List Addr) (Q : VK), Ok Z.T F H → Sat Wr F G H Γ σ fts → (∀ v F' H', Grow Z.T nowhere F H F' H' → P.p F' H' v → Q v H') → te σ H Q) : EV Z X e Γ P :=
  fun pins s σ F G H Wr fts Q I o S q => h.run pins s σ H Q I (hr σ F G H Wr fts Q o S q)
theorem EV.imp (h : EV Z X e Γ P) (hp : ∀ F H v, Ok Z.T F H → P.p F H v → S.p F H v) : EV Z X e Γ S :=
  fun pins s σ F G H Wr fts Q I o S q => h pins s σ F G H Wr fts Q I o S fun v F' H' g p => q v F' H' g (hp F' H' v g.ok p)
theorem EV.l {α : Type} {R : Rp α} {xs : List α} (h : EV Z X e Γ (pd (rLst R) xs)) : EV Z X e Γ (pl R xs) := h.imp fun _ _ _ o p => pl_of o p
theorem EV.t {α : Type} {R : Rp α} {xs : List α} (h : EV Z X e Γ (pd (rTpl R) xs)) : EV Z X e Γ (pt R xs) := h.imp fun _ _ _ o p => pt_of o p
theorem EV.as {α : Type} {R : Rp α} {x y : α} (h : EV Z X e Γ (pd R x)) (q : x = y) : EV Z X e Γ (pd R y) := q ▸ h

/-- a slot's datum -/
theorem ev_var (B : Bd Z X N sc vs ws gs k) (i : Nat) {n : Str} {α : Type} {R : Rp α} {x : α} (hi : N[i]? = some n := by rfl) (hv : i ∈ vs := by decide) (hΓ : Γ[i]? = some (.da R x) := by rfl) : EV Z X (.Name n pos) Γ (pd R x) := by
  obtain ⟨d1, d2, _⟩ := plainName_ok (B.nm.pn i hv n hi)
  refine EV.of (pe_var (i := i) (by rw [B.eN]; exact hi) (by rw [B.eSc]; exact B.nm.vis i hv n hi) d1 d2) fun σ F G H Wr fts Q o S q => ?_
  obtain ⟨v, e, r⟩ := S.da hΓ
  exact ⟨v, e, q v F H (Grow.refl o) r⟩
/-- a list of one's own, to be read -/
theorem ev_own (B : Bd Z X N sc vs ws gs k) (i : Nat) {n : Str} {α : Type} {R : Rp α} {xs : List α} (hi : N[i]? = some n := by rfl) (hv : i ∈ vs := by decide) (hΓ : Γ[i]? = some (.mu (mLst R) xs) := by rfl) : EV Z X (.Name n pos) Γ (pl R xs) := by
  obtain ⟨d1, d2, _⟩ := plainName_ok (B.nm.pn i hv n hi)
  refine EV.of (pe_var (i := i) (by rw [B.eN]; exact hi) (by rw [B.eSc]; exact B.nm.vis i hv n hi) d1 d2) fun σ F G H Wr fts Q o S q => ?_
  obtain ⟨v, e, ⟨a, vs', ea, _, h, r⟩, _⟩ := S.mu hΓ
  exact ⟨v, e, q v F H (Grow.refl o) ⟨a, vs', ea, h, r⟩⟩
theorem ev_vw (B : Bd Z X N sc vs ws gs k) (i : Nat) {n : Str} (hi : N[i]? = some n := by rfl) (hv : i ∈ vs := by decide) (hΓ : Γ[i]? = some (.vw P) := by rfl) : EV Z X (.Name n pos) Γ P := by
  obtain ⟨d1, d2, _⟩ := plainName_ok (B.nm.pn i hv n hi)
  refine EV.of (pe_var (i := i) (by rw [B.eN]; exact hi) (by rw [B.eSc]; exact B.nm.vis i hv n hi) d1 d2) fun σ F G H Wr fts Q o S q => ?_
  obtain ⟨ov, e, _, v, rfl, r⟩ := S.at_ i _ hΓ
  exact ⟨v, e, q v F H (Grow.refl o) r⟩
theorem ev_int {i : Int} {j : Nat} : EV Z X (.Constant (.int i) j pos) Γ (pd rInt i) := EV.of pe_int fun _ F _ H _ _ _ o _ q => q _ F H (Grow.refl o) rfl
theorem ev_str {x : Str} {j : Nat} : EV Z X (.Constant (.str x) j pos) Γ (pd rStr x) := EV.of pe_str fun _ F _ H _ _ _ o _ q => q _ F H (Grow.refl o) rfl
theorem ev_bl {b : Bool} {j : Nat} : EV Z X (.Constant (.bool b) j pos) Γ (pd rBool b) := EV.of pe_bl fun _ F _ H _ _ _ o _ q => q _ F H (Grow.refl o) rfl
theorem ev_non {j : Nat} : EV Z X (.Constant .none j pos) Γ (pd rNone ()) := EV.of pe_non fun _ F _ H _ _ _ o _ q => q _ F H (Grow.refl o) rfl
theorem ev_nonO {j : Nat} {α : Type} {R : Rp α} : EV Z X (.Constant .none j pos) Γ (pd (rOpt R) none) := EV.of pe_non fun _ F _ H _ _ _ o _ q => q _ F H (Grow.refl o) rfl
theorem ev_gint (B : Bd Z X N sc vs ws gs k) {n : Str} {i : Int} (hm : ∃ t, Z.mg n = some (.int i t)) (hg : n ∈ gs := by decide +kernel) : EV Z X (.Name n pos) Γ (pd rInt i) := by
  obtain ⟨t, e⟩ := hm
  exact EV.of (pe_glob (v := .int i) (B.gx hg) (by rw [B.mg]; exact e) ⟨t, rfl⟩ (plainName_ok (B.nm.pg n hg)).1) fun _ F _ H _ _ _ o _ q => q _ F H (Grow.refl o) rfl
theorem ev_gstr (B : Bd Z X N sc vs ws gs k) {n x : Str} (hm : ∃ t, Z.mg n = some (.str x t)) (hg : n ∈ gs := by decide +kernel) : EV Z X (.Name n pos) Γ (pd rStr x) := by
  obtain ⟨t, e⟩ := hm
  exact EV.of (pe_glob (v := .str x) (B.gx hg) (by rw [B.mg]; exact e) ⟨t, rfl⟩ (plainName_ok (B.nm.pg n hg)).1) fun _ F _ H _ _ _ o _ q => q _ F H (Grow.refl o) rfl
/-- a value that is not None, where None might be -/
theorem EV.some {α : Type} {R : Rp α} {x : α} (h : EV Z X e Γ (pd R x)) (hn : ∀ F v, R.rel x F v → v ≠ .non) : EV Z X e Γ (pd (rOpt R) (some x)) := h.imp fun F _ v _ p => ⟨hn F v p, p⟩

/-! ### operators -/
structure OD (Z : Zx) (X : Cx) (f : Value → Value → Sem Value) (P1 P2 S : Pv) : Prop where
  ex : ∃ r : R2, OpR X f r ∧ ∀ (F H : Hp) (v w : V), Ok Z.T F H → P1.p F H v → P2.p F H w → ∀ Q : VK, (∀ u F' H', Grow Z.T nowhere F H F' H' → S.p F' H' u → Q u H') → r v w H Q
theorem two_run (a : EV Z X e1 Γ P1) (b : EV Z X e2 Γ P2) {r : R2} (hr : ∀ (F H : Hp) (v w : V), Ok Z.T F H → P1.p F H v → P2.p F H w → ∀ Q : VK, (∀ u F' H', Grow Z.T nowhere F H F' H' → S.p F' H' u → Q u H') → r v w H Q)
    (σ : Sg) (F G H : Hp) (Wr : Addr → Prop) (fts : Nat → List Addr) (Q : VK) (o : Ok Z.T F H) (S' : Sat Wr F G H Γ σ fts) (q : ∀ v F' H', Grow Z.T nowhere F H F' H' → S.p F' H' v → Q v H') : tOp r (tE Z Γ P1) (tE Z Γ P2) σ H Q := by
  refine ⟨F, G, Wr, fts, o, S', fun v F1 H1 g1 p1 => ?_⟩
  refine ⟨F1, G, Wr, fts, g1.ok, S'.grow g1, fun w F2 H2 g2 p2 => ?_⟩
  exact hr F2 H2 v w g2.ok (P1.keep g2 p1) p2 Q fun u F3 H3 g3 p3 => q u F3 H3 ((g1.step g2).step g3) p3
theorem ev_bin {op : Operator} (a : EV Z X e1 Γ P1) (b : EV Z X e2 Γ P2) (o : OD Z X (binaryOp op) P1 P2 S) : EV Z X (.BinOp e1 op e2 pos) Γ S := by
  obtain ⟨r, hr, hs⟩ := o.ex
  exact EV.of (pe_op hr a.pe b.pe) fun σ F G H Wr fts Q o S' q => two_run a b hs σ F G H Wr fts Q o S' q
theorem ev_cmp {op : CmpOp} (a : EV Z X e1 Γ P1) (b : EV Z X e2 Γ P2) (o : OD Z X (compareOp op) P1 P2 S) (hm : behindInMarks op e2 = false := by first | exact nomark _ | rfl) : EV Z X (.Compare e1 [op] [e2] pos) Γ S := by
  obtain ⟨r, hr, hs⟩ := o.ex
  exact EV.of (pe_cmpR hr a.pe b.pe hm) fun σ F G H Wr fts Q o S' q => two_run a b hs σ F G H Wr fts Q o S' q
theorem OD.v {f : Value → Value → Sem Value} {r : R2} (h : OpR X f r) (hr : ∀ (F H : Hp) (v w : V), Ok Z.T F H → P1.p F H v → P2.p F H w → ∀ Q : VK, (∀ u F' H', Grow Z.T nowhere F H F' H' → S.p F' H' u → Q u H') → r v w H Q) : OD Z X f P1 P2 S := ⟨r, h, hr⟩
variable {i j : Int}
theorem od_add : OD Z X (binaryOp .Add) (pd rInt i) (pd rInt j) (pd rInt (i + j)) := .v op_add fun F H v w o hv hw Q q => ⟨i, j, hv, hw, q _ F H (Grow.refl o) rfl⟩
theorem od_sub : OD Z X (binaryOp .Sub) (pd rInt i) (pd rInt j) (pd rInt (i - j)) := .v op_sub fun F H v w o hv hw Q q => ⟨i, j, hv, hw, q _ F H (Grow.refl o) rfl⟩
theorem od_mul (h : CMul i j) : OD Z X (binaryOp .Mult) (pd rInt i) (pd rInt j) (pd rInt (i * j)) := .v op_mul fun F H v w o hv hw Q q => ⟨i, j, hv, hw, h, q _ F H (Grow.refl o) rfl⟩
theorem od_div (h : 0 < j ∧ j < 1073741824) : OD Z X (binaryOp .FloorDiv) (pd rInt i) (pd rInt j) (pd rInt (i / j)) := .v op_fdiv fun F H v w o hv hw Q q => ⟨i, j, hv, hw, h, q _ F H (Grow.refl o) rfl⟩
theorem od_mod (h : 0 < j) : OD Z X (binaryOp .Mod) (pd rInt i) (pd rInt j) (pd rInt (i % j)) := .v op_mod fun F H v w o hv hw Q q => ⟨i, j, hv, hw, h, q _ F H (Grow.refl o) rfl⟩
theorem od_pow (h : CPow i j) : OD Z X (binaryOp .Pow) (pd rInt i) (pd rInt j) (pd rInt (i ^ j.toNat)) := .v op_pow fun F H v w o hv hw Q q => ⟨i, j, hv, hw, h, q _ F H (Grow.refl o) rfl⟩
theorem od_shr (h : 0 ≤ j) : OD Z X (binaryOp .RShift) (pd rInt i) (pd rInt j) (pd rInt (i / 2 ^ j.toNat)) := .v op_shr fun F H v w o hv hw Q q => ⟨i, j, hv, hw, h, q _ F H (Grow.refl o) rfl⟩
theorem od_lt : OD Z X (compareOp .Lt) (pd rInt i) (pd rInt j) (pd rBool (decide (i < j))) := .v op_lt fun F H v w o hv hw Q q => ⟨i, j, hv, hw, q _ F H (Grow.refl o) rfl⟩
theorem od_le : OD Z X (compareOp .LtE) (pd rInt i) (pd rInt j) (pd rBool (decide (i ≤ j))) := .v op_le fun F H v w o hv hw Q q => ⟨i, j, hv, hw, q _ F H (Grow.refl o) rfl⟩
theorem od_gt : OD Z X (compareOp .Gt) (pd rInt i) (pd rInt j) (pd rBool (decide (j < i))) := .v op_gt fun F H v w o hv hw Q q => ⟨i, j, hv, hw, q _ F H (Grow.refl o) rfl⟩
theorem od_ge : OD Z X (compareOp .GtE) (pd rInt i) (pd rInt j) (pd rBool (decide (j ≤ i))) := .v op_ge fun F H v w o hv hw Q q => ⟨i, j, hv, hw, q _ F H (Grow.refl o) rfl⟩
/-- == of scalars: two ints, two texts, two truths, an int or None and an int .. -/
structure Sc {α β : Type} (R : Rp α) (S : Rp β) (x : α) (y : β) (b : Bool) : Prop where
  ok : ∀ F v w, R.rel x F v → S.rel y F w → scal v w = true ∧ decide (v = w) = b
theorem sc_int {x y : Int} : Sc rInt rInt x y (decide (x = y)) := ⟨fun F v w hv hw => by
  obtain rfl : v = V.int x := hv
  obtain rfl : w = V.int y := hw
  exact ⟨rfl, by simp⟩⟩
theorem sc_str {x y : Str} : Sc rStr rStr x y (decide (x = y)) := ⟨fun F v w hv hw => by
  obtain rfl : v = V.str x := hv
  obtain rfl : w = V.str y := hw
  exact ⟨rfl, by simp⟩⟩
theorem sc_optI {x : Option Int} {y : Int} : Sc (rOpt rInt) rInt x y (decide (x = some y)) := ⟨fun F v w hv hw => by
  obtain rfl : w = V.int y := hw
  cases x with
  | none => obtain rfl : v = V.non := hv; exact ⟨rfl, by simp⟩
  | some z => obtain rfl : v = V.int z := hv.2; exact ⟨rfl, by simp⟩⟩
theorem sc_optS {x y : Option Str} : Sc (rOpt rStr) (rOpt rStr) x y (decide (x = y)) := ⟨fun F v w hv hw => by
  cases x with
  | none =>
    obtain rfl : v = V.non := hv
    cases y with
    | none => obtain rfl : w = V.non := hw; exact ⟨rfl, by simp⟩
    | some z => obtain rfl : w = V.str z := hw.2; exact ⟨rfl, by simp⟩
  | some u =>
    obtain rfl : v = V.str u := hv.2
    cases y with
    | none => obtain rfl : w = V.non := hw; exact ⟨rfl, by simp⟩
    | some z => obtain rfl : w = V.str z := hw.2; exact ⟨rfl, by simp⟩⟩
theorem od_eq {α β : Type} {R : Rp α} {S : Rp β} {x : α} {y : β} {b : Bool} (h : Sc R S x y b) : OD Z X (compareOp .Eq) (pd R x) (pd S y) (pd rBool b) := .v op_eq fun F H v w o hv hw Q q => by
  obtain ⟨a, c⟩ := h.ok F v w hv hw
  exact ⟨a, q _ F H (Grow.refl o) (congrArg V.bl c)⟩
theorem od_ne {α β : Type} {R : Rp α} {S : Rp β} {x : α} {y : β} {b : Bool} (h : Sc R S x y b) : OD Z X (compareOp .NotEq) (pd R x) (pd S y) (pd rBool (!b)) := .v op_ne fun F H v w o hv hw Q q => by
  obtain ⟨a, c⟩ := h.ok F v w hv hw
  exact ⟨a, q _ F H (Grow.refl o) (congrArg (fun z => V.bl (!z)) c)⟩
theorem opt_non {α : Type} {R : Rp α} {x : Option α} {F : Hp} {v : V} (h : (rOpt R).rel x F v) : decide (v = .non) = x.isNone := by
  cases x with
  | none => obtain rfl : v = V.non := h; rfl
  | some y => exact decide_eq_false h.1
theorem od_isN {α : Type} {R : Rp α} {x : Option α} : OD Z X (compareOp .Is) (pd (rOpt R) x) (pd rNone ()) (pd rBool x.isNone) := .v op_isN fun F H v w o hv hw Q q => ⟨hw, q _ F H (Grow.refl o) (congrArg V.bl (opt_non hv))⟩
theorem od_notN {α : Type} {R : Rp α} {x : Option α} : OD Z X (compareOp .IsNot) (pd (rOpt R) x) (pd rNone ()) (pd rBool x.isSome) := .v op_notN fun F H v w o hv hw Q q => ⟨hw, q _ F H (Grow.refl o) (congrArg V.bl (by rw [opt_non hv]; cases x <;> rfl))⟩
theorem od_adds {x y : Str} (h : x.length + y.length ≤ sizeLine) : OD Z X (binaryOp .Add) (pd rStr x) (pd rStr y) (pd rStr (x ++ y)) := .v op_add_str fun F H v w o hv hw Q q => ⟨x, y, hv, hw, h, q _ F H (Grow.refl o) rfl⟩
theorem od_cat {α : Type} {R : Rp α} {xs ys : List α} (h : xs.length + ys.length ≤ sizeLine) : OD Z X (binaryOp .Add) (pl R xs) (pl R ys) (pd (rLst R) (xs ++ ys)) := .v op_cat fun F H v w o hv hw Q q => by
  obtain ⟨a, vs, e1, h1, r1⟩ := hv
  obtain ⟨b, ws, e2, h2, r2⟩ := hw
  refine ⟨a, b, vs, ws, e1, e2, h1, h2, by rw [r1.len, r2.len]; exact h, fun p hp => ?_⟩
  have g : Grow Z.T nowhere F H (upd F p (.lst (vs ++ ws))) (upd H p (.lst (vs ++ ws))) := Grow.laid o hp (by intro ps z; cases z)
  exact q _ _ _ g ⟨p, _, rfl, upd_same, (r1.app r2).mono g.ef⟩
theorem ev_neg (a : EV Z X e Γ (pd rInt i)) : EV Z X (.UnaryOp .USub e pos) Γ (pd rInt (-i)) := EV.of (pe_un un_neg a.pe) fun σ F G H Wr fts Q o S q =>
  ⟨F, G, Wr, fts, o, S, fun v F1 H1 g1 p1 => ⟨i, p1, q _ F1 H1 g1 rfl⟩⟩
end

/-! ## tests -/
def ET (Z : Zx) (X : Cx) (e : Expr) (Γ : List Sl) (b : Bool) : Prop :=
  ∀ (pins : List (Addr × Obj)) (s : Shared) (σ : Sg) (F G H : Hp) (Wr : Addr → Prop) (fts : Nat → List Addr) (Q : Bool → Hp → Prop), Inv X pins σ H s → Ok Z.T F H → Sat Wr F G H Γ σ fts →
    (∀ F' H', Grow Z.T nowhere F H F' H' → Q b H') → wpAny (model X.prog X.w) X.A (isTrue e X.env (eval e X.env)) (TP X pins σ Q) X.xe s
def tTs (Z : Zx) (Γ : List Sl) (b : Bool) : TT := fun σ H Q => ∃ (F G : Hp) (Wr : Addr → Prop) (fts : Nat → List Addr), Ok Z.T F H ∧ Sat Wr F G H Γ σ fts ∧ ∀ F' H', Grow Z.T nowhere F H F' H' → Q b H'
section
variable {Z : Zx} {X : Cx} {e e1 e2 e3 : Expr} {Γ : List Sl} {P P1 P2 S : Pv} {pos : Pos} {a b c : Bool}
theorem pt_no : PT X e (fun _ _ _ => False) := ⟨fun _ _ _ _ _ _ h => h.elim⟩
theorem ET.pt (h : ET Z X e Γ b) : PT X e (tTs Z Γ b) := ⟨fun pins s σ H Q I ⟨F, G, Wr, fts, o, S, q⟩ => h pins s σ F G H Wr fts Q I o S q⟩
theorem ET.of {te : TT} (h : PT X e te) (hr : ∀ (σ : Sg) (F G H : Hp) (Wr : Addr → Prop) (fts : Nat → List Addr) (Q : Bool → Hp → Prop), Ok Z.T F H → Sat Wr F G H Γ σ fts → (∀ F' H', Grow Z.T nowhere F H F' H' → Q b H') → te σ H Q) : ET Z X e Γ b :=
  fun pins s σ F G H Wr fts Q I o S q => h.run pins s σ H Q I (hr σ F G H Wr fts Q o S q)
theorem ET.as (h : ET Z X e Γ a) (q : a = b) : ET Z X e Γ b := q ▸ h
/-- a name, a call .. that is a truth -/
theorem et_val (h : EV Z X e Γ (pd rBool b)) (he : ∀ whole, isTrue e X.env whole = (do let v ← whole; standAt e.pos; holding [v] (truthy v)) := by intro _; rfl) : ET Z X e Γ b :=
  ET.of (pt_val h.pe he) fun σ F G H Wr fts Q o S q => ⟨F, G, Wr, fts, o, S, fun v F1 H1 g p => ⟨b, p, q F1 H1 g⟩⟩
theorem et_cmp {op : CmpOp} (x : EV Z X e1 Γ P1) (y : EV Z X e2 Γ P2) (o : OD Z X (compareOp op) P1 P2 (pd rBool b)) (hm : behindInMarks op e2 = false := by first | exact nomark _ | rfl) : ET Z X (.Compare e1 [op] [e2] pos) Γ b := by
  obtain ⟨r, hr, hs⟩ := o.ex
  exact ET.of (pt_cmpR hr x.pe y.pe hm) fun σ F G H Wr fts Q o S' q => two_run (S := pd rBool b) x y hs σ F G H Wr fts _ o S' fun v F1 H1 g p => ⟨b, p, q F1 H1 g⟩
theorem et_not (h : ET Z X e Γ b) : ET Z X (.UnaryOp .Not e pos) Γ (!b) := ET.of (pt_not h.pt) fun σ F G H Wr fts Q o S q => ⟨F, G, Wr, fts, o, S, fun F1 H1 g => q F1 H1 g⟩
theorem et_and2 (x : ET Z X e1 Γ a) (y : a = true → ET Z X e2 Γ b) : ET Z X (.BoolOp .And [e1, e2] pos) Γ (a && b) := by
  cases a with
  | true => exact ET.of (PW.pt (pw_and x.pt (pw_and1 (y rfl).pt))) fun σ F G H Wr fts Q o S q => ⟨F, G, Wr, fts, o, S, fun F1 H1 g => iteT ⟨F1, G, Wr, fts, g.ok, S.grow g, fun F2 H2 g2 => q F2 H2 (g.step g2)⟩⟩
  | false => exact ET.of (PW.pt (pw_and x.pt (pw_and1 pt_no))) fun σ F G H Wr fts Q o S q => ⟨F, G, Wr, fts, o, S, fun F1 H1 g => iteF (q F1 H1 g)⟩
theorem et_or2 (x : ET Z X e1 Γ a) (y : a = false → ET Z X e2 Γ b) : ET Z X (.BoolOp .Or [e1, e2] pos) Γ (a || b) := by
  cases a with
  | false => exact ET.of (PW.pt (pw_or x.pt (pw_or1 (y rfl).pt))) fun σ F G H Wr fts Q o S q => ⟨F, G, Wr, fts, o, S, fun F1 H1 g => iteF ⟨F1, G, Wr, fts, g.ok, S.grow g, fun F2 H2 g2 => q F2 H2 (g.step g2)⟩⟩
  | true => exact ET.of (PW.pt (pw_or x.pt (pw_or1 pt_no))) fun σ F G H Wr fts Q o S q => ⟨F, G, Wr, fts, o, S, fun F1 H1 g => iteT (q F1 H1 g)⟩
end
end BF
set_option maxHeartbeats 4000000
namespace BF
open PySem PySem.Spec PyProof.Rows L2
/-! ## and, or -/
def EW (Z : Zx) (X : Cx) (e : Expr) (Γ : List Sl) (b : Bool) : Prop := PW X e (tTs Z Γ b)
section
variable {Z : Zx} {X : Cx} {e e1 e2 e3 : Expr} {es : List Expr} {Γ : List Sl} {P P1 P2 S : Pv} {pos : Pos} {a b c : Bool}
theorem et_w (h : EW Z X e Γ b) : ET Z X e Γ b := fun pins s σ F G H Wr fts Q I o S q => (PW.pt h).run pins s σ H Q I ⟨F, G, Wr, fts, o, S, q⟩
theorem PW.re {t u : TT} (h : PW X e t) (hr : ∀ σ H Q, u σ H Q → t σ H Q) : PW X e u := ⟨fun wh pins s σ H Q I q => h.run wh pins s σ H Q I (hr σ H Q q)⟩
theorem ew_and1 (x : ET Z X e1 Γ a) : EW Z X (.BoolOp .And [e1] pos) Γ a := pw_and1 x.pt
theorem ew_or1 (x : ET Z X e1 Γ a) : EW Z X (.BoolOp .Or [e1] pos) Γ a := pw_or1 x.pt
theorem pw_no : PW X e (fun _ _ _ => False) := ⟨fun _ _ _ _ _ _ _ h => h.elim⟩
theorem ew_and (x : ET Z X e1 Γ a) (y : a = true → EW Z X (.BoolOp .And (e2 :: es) pos) Γ b) : EW Z X (.BoolOp .And (e1 :: e2 :: es) pos) Γ (a && b) := by
  cases a with
  | true => exact PW.re (pw_and x.pt (y rfl)) fun σ H Q ⟨F, G, Wr, fts, o, S, q⟩ => ⟨F, G, Wr, fts, o, S, fun F1 H1 g => iteT ⟨F1, G, Wr, fts, g.ok, S.grow g, fun F2 H2 g2 => q F2 H2 (g.step g2)⟩⟩
  | false => exact PW.re (pw_and x.pt pw_no) fun σ H Q ⟨F, G, Wr, fts, o, S, q⟩ => ⟨F, G, Wr, fts, o, S, fun F1 H1 g => iteF (q F1 H1 g)⟩
theorem ew_or (x : ET Z X e1 Γ a) (y : a = false → EW Z X (.BoolOp .Or (e2 :: es) pos) Γ b) : EW Z X (.BoolOp .Or (e1 :: e2 :: es) pos) Γ (a || b) := by
  cases a with
  | false => exact PW.re (pw_or x.pt (y rfl)) fun σ H Q ⟨F, G, Wr, fts, o, S, q⟩ => ⟨F, G, Wr, fts, o, S, fun F1 H1 g => iteF ⟨F1, G, Wr, fts, g.ok, S.grow g, fun F2 H2 g2 => q F2 H2 (g.step g2)⟩⟩
  | true => exact PW.re (pw_or x.pt pw_no) fun σ H Q ⟨F, G, Wr, fts, o, S, q⟩ => ⟨F, G, Wr, fts, o, S, fun F1 H1 g => iteT (q F1 H1 g)⟩
/-! as values -/
theorem pe_no : PE X e (fun _ _ _ => False) := ⟨fun _ _ _ _ _ _ h => h.elim⟩
theorem ev_one {op : BoolOp} (x : EV Z X e1 Γ P) : EV Z X (.BoolOp op [e1] pos) Γ P := EV.of (pe_one x.pe) fun σ F G H Wr fts Q o S q => ⟨F, G, Wr, fts, o, S, q⟩
theorem ev_and (x : EV Z X e1 Γ (pd rBool a)) (y : a = true → EV Z X (.BoolOp .And (e2 :: es) pos) Γ (pd rBool b)) : EV Z X (.BoolOp .And (e1 :: e2 :: es) pos) Γ (pd rBool (a && b)) := by
  cases a with
  | true => exact EV.of (pe_and x.pe (y rfl).pe) fun σ F G H Wr fts Q o S q => ⟨F, G, Wr, fts, o, S, fun v F1 H1 g p => ⟨true, p, iteT ⟨F1, G, Wr, fts, g.ok, S.grow g, fun w F2 H2 g2 p2 => q w F2 H2 (g.step g2) p2⟩⟩⟩
  | false => exact EV.of (pe_and x.pe pe_no) fun σ F G H Wr fts Q o S q => ⟨F, G, Wr, fts, o, S, fun v F1 H1 g p => ⟨false, p, iteF (q _ F1 H1 g rfl)⟩⟩
theorem ev_or (x : EV Z X e1 Γ (pd rBool a)) (y : a = false → EV Z X (.BoolOp .Or (e2 :: es) pos) Γ (pd rBool b)) : EV Z X (.BoolOp .Or (e1 :: e2 :: es) pos) Γ (pd rBool (a || b)) := by
  cases a with
  | false => exact EV.of (pe_or x.pe (y rfl).pe) fun σ F G H Wr fts Q o S q => ⟨F, G, Wr, fts, o, S, fun v F1 H1 g p => ⟨false, p, iteF ⟨F1, G, Wr, fts, g.ok, S.grow g, fun w F2 H2 g2 p2 => q w F2 H2 (g.step g2) p2⟩⟩⟩
  | true => exact EV.of (pe_or x.pe pe_no) fun σ F G H Wr fts Q o S q => ⟨F, G, Wr, fts, o, S, fun v F1 H1 g p => ⟨true, p, iteT (q _ F1 H1 g rfl)⟩⟩
theorem ev_not (x : EV Z X e Γ (pd rBool a)) : EV Z X (.UnaryOp .Not e pos) Γ (pd rBool (!a)) := EV.of (pe_not x.pe) fun σ F G H Wr fts Q o S q => ⟨F, G, Wr, fts, o, S, fun v F1 H1 g p => ⟨a, p, q _ F1 H1 g rfl⟩⟩
end

/-! ## arguments and calls -/
def AllP : List Pv → Hp → Hp → List V → Prop
  | [], _, _, [] => True
  | P :: Ps, F, H, v :: vs => P.p F H v ∧ AllP Ps F H vs
  | [], _, _, _ :: _ => False
  | _ :: _, _, _, [] => False
def EA (Z : Zx) (X : Cx) (es : List Expr) (Γ : List Sl) (Ps : List Pv) : Prop :=
  ∀ (pos : Pos) (pins : List (Addr × Obj)) (s : Shared) (σ : Sg) (F G H : Hp) (Wr : Addr → Prop) (fts : Nat → List Addr) (Q : List V → Hp → Prop), Inv X pins σ H s → Ok Z.T F H → Sat Wr F G H Γ σ fts →
    (∀ vs F' H', Grow Z.T nowhere F H F' H' → AllP Ps F' H' vs → Q vs H') → wpAny (model X.prog X.w) X.A (spliced (backTo pos (starEach es X.env))) (AP X pins σ Q) X.xe s
def tA (Z : Zx) (Γ : List Sl) (Ps : List Pv) : TA := fun σ H Q => ∃ (F G : Hp) (Wr : Addr → Prop) (fts : Nat → List Addr), Ok Z.T F H ∧ Sat Wr F G H Γ σ fts ∧ ∀ vs F' H', Grow Z.T nowhere F H F' H' → AllP Ps F' H' vs → Q vs H'
structure CD (Z : Zx) (X : Cx) (f : Value) (Ps : List Pv) (S : Pv) : Prop where
  ex : ∃ r, CallR X f r ∧ ∀ (F H : Hp) (vs : List V), Ok Z.T F H → AllP Ps F H vs → ∀ Q : VK, (∀ u F' H', Grow Z.T nowhere F H F' H' → S.p F' H' u → Q u H') → r vs H Q
section
variable {Z : Zx} {X : Cx} {e e1 e2 : Expr} {es : List Expr} {Γ : List Sl} {P P1 P2 P3 P4 S : Pv} {Ps : List Pv} {N : List Str} {sc : Scope} {vs ws : List Nat} {gs : List Str} {k : Nat} {pos p : Pos}
theorem AllP.keep {T : Tbs} {F H F' H' : Hp} (g : Grow T nowhere F H F' H') : ∀ {Ps : List Pv} {vs : List V}, AllP Ps F H vs → AllP Ps F' H' vs
  | [], [], _ => trivial
  | P :: _, _ :: _, h => ⟨P.keep g h.1, AllP.keep g h.2⟩
theorem EA.pa (h : EA Z X es Γ Ps) : PA X es (tA Z Γ Ps) := ⟨fun pos pins s σ H Q I ⟨F, G, Wr, fts, o, S, q⟩ => h pos pins s σ F G H Wr fts Q I o S q⟩
theorem EA.of {te : TA} (h : PA X es te) (hr : ∀ (σ : Sg) (F G H : Hp) (Wr : Addr → Prop) (fts : Nat → List Addr) (Q : List V → Hp → Prop), Ok Z.T F H → Sat Wr F G H Γ σ fts → (∀ vs F' H', Grow Z.T nowhere F H F' H' → AllP Ps F' H' vs → Q vs H') → te σ H Q) : EA Z X es Γ Ps :=
  fun pos pins s σ F G H Wr fts Q I o S q => h.run pos pins s σ H Q I (hr σ F G H Wr fts Q o S q)
theorem ea_nil : EA Z X [] Γ [] := EA.of pa_nil fun σ F G H Wr fts Q o S q => q [] F H (Grow.refl o) trivial
theorem ea_cons (a : EV Z X e Γ P) (r : EA Z X es Γ Ps) (hs : starEach (e :: es) X.env = (false, eval e X.env) :: starEach es X.env := by rfl) : EA Z X (e :: es) Γ (P :: Ps) :=
  EA.of (pa_cons a.pe r.pa hs) fun σ F G H Wr fts Q o S q => ⟨F, G, Wr, fts, o, S, fun v F1 H1 g1 p1 => ⟨F1, G, Wr, fts, g1.ok, S.grow g1, fun vs F2 H2 g2 p2 => q _ F2 H2 (g1.step g2) ⟨P.keep g2 p1, p2⟩⟩⟩
theorem ea1 (a : EV Z X e Γ P) (hs : starEach (e :: []) X.env = (false, eval e X.env) :: starEach [] X.env := by rfl) : EA Z X [e] Γ [P] := ea_cons a ea_nil hs
theorem ea2 (a : EV Z X e1 Γ P1) (b : EV Z X e2 Γ P2) (hs : starEach (e1 :: [e2]) X.env = (false, eval e1 X.env) :: starEach [e2] X.env := by rfl) (hs2 : starEach (e2 :: []) X.env = (false, eval e2 X.env) :: starEach [] X.env := by rfl) : EA Z X [e1, e2] Γ [P1, P2] := ea_cons a (ea1 b hs2) hs
/-- a built-in function, a built-in class -/
theorem ev_callB (B : Bd Z X N sc vs ws gs k) {x : Str} {id : String} (c : CD Z X (.builtin id) Ps S) (hm : Z.mg x = none) (hv : bootBuiltins x = some (.builtin id)) (a : EA Z X (e :: es) Γ Ps) (hg : x ∈ gs)
    (he : starEach (e :: es) X.env = (false, eval e X.env) :: starEach es X.env := by rfl) (hpl : (backTo pos (starEach es X.env)).any (·.1) = false := by rfl) : EV Z X (.Call (.Name x p) (e :: es) [] pos) Γ S := by
  obtain ⟨r, hr, hs⟩ := c.ex
  obtain ⟨d1, d2, d3⟩ := plainName_ok (B.nm.pg x hg)
  exact EV.of (pe_callB hr (B.gx hg) (by rw [B.mg]; exact hm) hv a.pa d3 d1 he hpl) fun σ F G H Wr fts Q o S' q => ⟨F, G, Wr, fts, o, S', fun us F1 H1 g1 p1 => hs F1 H1 us g1.ok p1 Q fun u F2 H2 g2 p2 => q u F2 H2 (g1.step g2) p2⟩
theorem ev_callT (B : Bd Z X N sc vs ws gs k) {x : Str} {id : String} (c : CD Z X (.type id) Ps S) (hm : Z.mg x = none) (hv : bootBuiltins x = some (.type id)) (a : EA Z X (e :: es) Γ Ps) (hg : x ∈ gs)
    (he : starEach (e :: es) X.env = (false, eval e X.env) :: starEach es X.env := by rfl) (hpl : (backTo pos (starEach es X.env)).any (·.1) = false := by rfl) : EV Z X (.Call (.Name x p) (e :: es) [] pos) Γ S := by
  obtain ⟨r, hr, hs⟩ := c.ex
  obtain ⟨d1, d2, d3⟩ := plainName_ok (B.nm.pg x hg)
  exact EV.of (pe_callTy hr (B.gx hg) (by rw [B.mg]; exact hm) hv a.pa d3 d1 he hpl) fun σ F G H Wr fts Q o S' q => ⟨F, G, Wr, fts, o, S', fun us F1 H1 g1 p1 => hs F1 H1 us g1.ok p1 Q fun u F2 H2 g2 p2 => q u F2 H2 (g1.step g2) p2⟩
end

/-! ### promises of the text's own defs that change nothing -/
def Ret (T : Tbs) (S : Pv) (F H : Hp) (Q : VK) : Prop := ∀ v F' H', Grow T nowhere F H F' H' → S.p F' H' v → Q v H'
def sp1 {α : Type} (T : Tbs) (A : α → Pv) (pre : α → Prop) (R : α → Pv) : Sp := fun us H Q _ => ∃ (x : α) (F : Hp), Ok T F H ∧ AllP [A x] F H us ∧ pre x ∧ Ret T (R x) F H Q
def sp2 {α β : Type} (T : Tbs) (A : α → Pv) (B : β → Pv) (pre : α → β → Prop) (R : α → β → Pv) : Sp := fun us H Q _ => ∃ (x : α) (y : β) (F : Hp), Ok T F H ∧ AllP [A x, B y] F H us ∧ pre x y ∧ Ret T (R x y) F H Q
def sp3 {α β γ : Type} (T : Tbs) (A : α → Pv) (B : β → Pv) (C : γ → Pv) (pre : α → β → γ → Prop) (R : α → β → γ → Pv) : Sp := fun us H Q _ => ∃ (x : α) (y : β) (z : γ) (F : Hp), Ok T F H ∧ AllP [A x, B y, C z] F H us ∧ pre x y z ∧ Ret T (R x y z) F H Q
def sp4 {α β γ δ : Type} (T : Tbs) (A : α → Pv) (B : β → Pv) (C : γ → Pv) (D : δ → Pv) (pre : α → β → γ → δ → Prop) (R : α → β → γ → δ → Pv) : Sp := fun us H Q _ => ∃ (x : α) (y : β) (z : γ) (u : δ) (F : Hp), Ok T F H ∧ AllP [A x, B y, C z, D u] F H us ∧ pre x y z u ∧ Ret T (R x y z u) F H Q
/-- the module's name x is a def that keeps the promise sp -/
structure Cal (Z : Zx) (x : Str) (k : Nat) (sp : Sp) : Prop where
  ex : ∃ (f : Addr) (fd : FuncData) (ps : List Str), Z.mg x = some (.ref f) ∧ PySem.W.keepIn Z.K (.ref f) = true ∧ Binds Z.K fd ps [] ∧ FnOk Z.P Z.w Z.K Z.mg Z.base CX0 k f fd ps sp
section
variable {Z : Zx} {X : Cx} {e e1 e2 e3 e4 : Expr} {es : List Expr} {Γ : List Sl} {P P1 P2 P3 P4 S : Pv} {Ps : List Pv} {N : List Str} {sc : Scope} {vs ws : List Nat} {gs : List Str} {k j : Nat} {pos p : Pos} {α β γ δ : Type}
theorem AllP.len {F H : Hp} : ∀ {Ps : List Pv} {us : List V}, AllP Ps F H us → us.length = Ps.length
  | [], [], _ => rfl
  | _ :: Ps, _ :: us, h => congrArg Nat.succ (AllP.len (Ps := Ps) (us := us) h.2)
theorem ev_cal (B : Bd Z X N sc vs ws gs k) {x : Str} {sp : Sp} (c : Cal Z x j sp) (hj : j ≤ k) (a : EA Z X (e :: es) Γ Ps) (hg : x ∈ gs)
    (hs : ∀ (F H : Hp) (us : List V) (Q : VK), Ok Z.T F H → AllP Ps F H us → Ret Z.T S F H Q → sp us H Q E0)
    (he : starEach (e :: es) X.env = (false, eval e X.env) :: starEach es X.env := by rfl) (hpl : (backTo pos (starEach es X.env)).any (·.1) = false := by rfl) : EV Z X (.Call (.Name x p) (e :: es) [] pos) Γ S := by
  obtain ⟨f, fd, ps, hm, hk, hb, G⟩ := c.ex
  obtain ⟨d1, d2, d3⟩ := plainName_ok (B.nm.pg x hg)
  have G2 : FnOk X.prog X.w X.K X.mg X.base CX0 j f fd ps sp := by rw [B.prog, B.w, B.K, B.mg, B.base]; exact G
  refine EV.of (pe_call (ds := []) (dvs := []) G2 (B.room.mono hj) (B.gx hg) (by rw [B.mg]; exact hm) (by rw [B.K]; exact hk) (by rw [B.K]; exact hb) .nil pass0 a.pa d1 he hpl) fun σ F G H Wr fts Q o S' q => ⟨F, G, Wr, fts, o, S', fun us F1 H1 g1 p1 => ?_⟩
  show sp (us ++ []) H1 Q E0
  rw [List.append_nil]
  exact hs F1 H1 us Q g1.ok p1 fun u F2 H2 g2 p2 => q u F2 H2 (g1.step g2) p2
theorem ev_call1 (B : Bd Z X N sc vs ws gs k) {x : Str} {A : α → Pv} {pre : α → Prop} {R : α → Pv} {u : α} (c : Cal Z x j (sp1 Z.T A pre R)) (a : EV Z X e Γ (A u)) (h : pre u) (hS : R u = S := by rfl) (hj : j ≤ k := by decide) (hg : x ∈ gs := by decide +kernel)
    (he : starEach (e :: []) X.env = (false, eval e X.env) :: starEach [] X.env := by rfl) (hpl : (backTo pos (starEach [] X.env)).any (·.1) = false := by rfl) : EV Z X (.Call (.Name x p) [e] [] pos) Γ S :=
  hS ▸ ev_cal B c hj (ea1 a he) hg (fun F H us Q o p r => ⟨u, F, o, p, h, r⟩) he hpl
theorem ev_call2 (B : Bd Z X N sc vs ws gs k) {x : Str} {A : α → Pv} {A2 : β → Pv} {pre : α → β → Prop} {R : α → β → Pv} {u : α} {w : β} (c : Cal Z x j (sp2 Z.T A A2 pre R)) (a : EV Z X e1 Γ (A u)) (b : EV Z X e2 Γ (A2 w)) (h : pre u w) (hS : R u w = S := by rfl) (hj : j ≤ k := by decide) (hg : x ∈ gs := by decide +kernel)
    (he : starEach (e1 :: [e2]) X.env = (false, eval e1 X.env) :: starEach [e2] X.env := by rfl) (he2 : starEach (e2 :: []) X.env = (false, eval e2 X.env) :: starEach [] X.env := by rfl) (hpl : (backTo pos (starEach [e2] X.env)).any (·.1) = false := by rfl) : EV Z X (.Call (.Name x p) [e1, e2] [] pos) Γ S :=
  hS ▸ ev_cal B c hj (ea_cons a (ea1 b he2) he) hg (fun F H us Q o p r => ⟨u, w, F, o, p, h, r⟩) he hpl
theorem ev_call3 (B : Bd Z X N sc vs ws gs k) {x : Str} {A : α → Pv} {A2 : β → Pv} {A3 : γ → Pv} {pre : α → β → γ → Prop} {R : α → β → γ → Pv} {u : α} {w : β} {z : γ} (c : Cal Z x j (sp3 Z.T A A2 A3 pre R)) (a : EV Z X e1 Γ (A u)) (b : EV Z X e2 Γ (A2 w)) (d : EV Z X e3 Γ (A3 z)) (h : pre u w z) (hS : R u w z = S := by rfl) (hj : j ≤ k := by decide) (hg : x ∈ gs := by decide +kernel)
    (he : starEach (e1 :: [e2, e3]) X.env = (false, eval e1 X.env) :: starEach [e2, e3] X.env := by rfl) (he2 : starEach (e2 :: [e3]) X.env = (false, eval e2 X.env) :: starEach [e3] X.env := by rfl) (he3 : starEach (e3 :: []) X.env = (false, eval e3 X.env) :: starEach [] X.env := by rfl) (hpl : (backTo pos (starEach [e2, e3] X.env)).any (·.1) = false := by rfl) : EV Z X (.Call (.Name x p) [e1, e2, e3] [] pos) Γ S :=
  hS ▸ ev_cal B c hj (ea_cons a (ea_cons b (ea1 d he3) he2) he) hg (fun F H us Q o p r => ⟨u, w, z, F, o, p, h, r⟩) he hpl
theorem ev_call4 (B : Bd Z X N sc vs ws gs k) {x : Str} {A : α → Pv} {A2 : β → Pv} {A3 : γ → Pv} {A4 : δ → Pv} {pre : α → β → γ → δ → Prop} {R : α → β → γ → δ → Pv} {u : α} {w : β} {z : γ} {y : δ} (c : Cal Z x j (sp4 Z.T A A2 A3 A4 pre R)) (a : EV Z X e1 Γ (A u)) (b : EV Z X e2 Γ (A2 w)) (d : EV Z X e3 Γ (A3 z)) (f : EV Z X e4 Γ (A4 y)) (h : pre u w z y) (hS : R u w z y = S := by rfl) (hj : j ≤ k := by decide) (hg : x ∈ gs := by decide +kernel)
    (he : starEach (e1 :: [e2, e3, e4]) X.env = (false, eval e1 X.env) :: starEach [e2, e3, e4] X.env := by rfl) (he2 : starEach (e2 :: [e3, e4]) X.env = (false, eval e2 X.env) :: starEach [e3, e4] X.env := by rfl) (he3 : starEach (e3 :: [e4]) X.env = (false, eval e3 X.env) :: starEach [e4] X.env := by rfl) (he4 : starEach (e4 :: []) X.env = (false, eval e4 X.env) :: starEach [] X.env := by rfl) (hpl : (backTo pos (starEach [e2, e3, e4] X.env)).any (·.1) = false := by rfl) : EV Z X (.Call (.Name x p) [e1, e2, e3, e4] [] pos) Γ S :=
  hS ▸ ev_cal B c hj (ea_cons a (ea_cons b (ea_cons d (ea1 f he4) he3) he2) he) hg (fun F H us Q o p r => ⟨u, w, z, y, F, o, p, h, r⟩) he hpl
end
end BF
set_option maxHeartbeats 4000000
namespace BF
open PySem PySem.Spec PyProof.Rows L2
/-! ## statements -/
def noVw (Γ : List Sl) : Bool := Γ.all fun s => !s.isVw
theorem noVw_ok {Γ : List Sl} (h : noVw Γ = true) : ∀ s ∈ Γ, s.isVw = false := fun s hs => by
  have := List.all_eq_true.mp h s hs
  simpa using this
/-- what is wanted behind a statement: nx next, rt a return of such a value, bk break, ct continue, ex an exception of such a class -/
structure Fin : Type 1 where
  nx : List Sl → Prop
  rt : (Hp → Pv) → List Sl → Prop := fun _ _ => False
  bk : List Sl → Prop := fun _ => False
  ct : List Sl → Prop := fun _ => False
  ex : Value → List Sl → Prop := fun _ _ => False
def Fin.ends (T : Tbs) (Wr : Addr → Prop) (F0 G : Hp) (D : Fin) : Ends where
  nx := fun σ H => ∃ (F : Hp) (Γ : List Sl) (fts : Nat → List Addr), Grow T Wr F0 G F H ∧ Sat Wr F G H Γ σ fts ∧ D.nx Γ
  rt := fun v H => ∃ (F : Hp) (Γ : List Sl) (σ : Sg) (fts : Nat → List Addr) (P : Hp → Pv), Grow T Wr F0 G F H ∧ Sat Wr F G H Γ σ fts ∧ (P G).p F H v ∧ D.rt P Γ
  bk := fun σ H => ∃ (F : Hp) (Γ : List Sl) (fts : Nat → List Addr), Grow T Wr F0 G F H ∧ Sat Wr F G H Γ σ fts ∧ D.bk Γ
  ct := fun σ H => ∃ (F : Hp) (Γ : List Sl) (fts : Nat → List Addr), Grow T Wr F0 G F H ∧ Sat Wr F G H Γ σ fts ∧ D.ct Γ
def Fin.wish (T : Tbs) (Wr : Addr → Prop) (F0 G : Hp) (D : Fin) : WX := fun cls d σ H => d = none ∧ ∃ (F : Hp) (Γ : List Sl) (fts : Nat → List Addr), Grow T Wr F0 G F H ∧ Sat Wr F G H Γ σ fts ∧ D.ex cls Γ
def DO (Z : Zx) (X : Cx) (st : Stmt) (Γ : List Sl) (D : Fin) : Prop :=
  ∀ (pins : List (Addr × Obj)) (s : Shared) (σ : Sg) (F0 G F H : Hp) (Wr : Addr → Prop) (fts : Nat → List Addr), Inv X pins σ H s → Grow Z.T Wr F0 G F H → Sat Wr F G H Γ σ fts → Takes X (D.wish Z.T Wr F0 G) →
    wpAny (model X.prog X.w) X.A (exec st X.env) (SP X pins (D.ends Z.T Wr F0 G)) X.xe s
def DOs (Z : Zx) (X : Cx) (st : List Stmt) (Γ : List Sl) (D : Fin) : Prop :=
  ∀ (pins : List (Addr × Obj)) (s : Shared) (σ : Sg) (F0 G F H : Hp) (Wr : Addr → Prop) (fts : Nat → List Addr), Inv X pins σ H s → Grow Z.T Wr F0 G F H → Sat Wr F G H Γ σ fts → Takes X (D.wish Z.T Wr F0 G) →
    wpAny (model X.prog X.w) X.A (execs st X.env) (SP X pins (D.ends Z.T Wr F0 G)) X.xe s
section
variable {Z : Zx} {X : Cx} {e e1 e2 : Expr} {st : Stmt} {sts rest : List Stmt} {Γ : List Sl} {P P1 P2 S : Pv} {N : List Str} {sc : Scope} {vs ws : List Nat} {gs : List Str} {k : Nat} {pos p pos' : Pos} {D : Fin} {α β γ : Type} {R : Rp α}
theorem SP.mono {pins : List (Addr × Obj)} {E E' : Ends} {f : Flow} {s' : Shared} (h : SP X pins E f s') (h1 : ∀ σ H, E.nx σ H → E'.nx σ H) (h2 : ∀ v H, E.rt v H → E'.rt v H) (h3 : ∀ σ H, E.bk σ H → E'.bk σ H) (h4 : ∀ σ H, E.ct σ H → E'.ct σ H) : SP X pins E' f s' := by
  cases f with
  | next => obtain ⟨σ, H, I, q⟩ := h; exact ⟨σ, H, I, h1 _ _ q⟩
  | brk => obtain ⟨σ, H, I, q⟩ := h; exact ⟨σ, H, I, h3 _ _ q⟩
  | cont => obtain ⟨σ, H, I, q⟩ := h; exact ⟨σ, H, I, h4 _ _ q⟩
  | ret u => obtain ⟨v, σ, H, I, r, q⟩ := h; exact ⟨v, σ, H, I, r, h2 _ _ q⟩
/-- a statement, by a rule of the layer below -/
theorem DO.of {t : TS} (h : PS X st t) (hr : ∀ (σ : Sg) (F0 G F H : Hp) (Wr : Addr → Prop) (fts : Nat → List Addr), Grow Z.T Wr F0 G F H → Sat Wr F G H Γ σ fts → t (D.ends Z.T Wr F0 G) σ H) : DO Z X st Γ D :=
  fun pins s σ F0 G F H Wr fts I g S tk => h.run pins s σ H _ I (hr σ F0 G F H Wr fts g S)
theorem dos_nil (h : D.nx Γ) : DOs Z X [] Γ D := fun pins s σ F0 G F H Wr fts I g S tk => wpAny_execs_nil ⟨σ, H, I, F, Γ, fts, g, S, h⟩
theorem dos_cons (h : DO Z X st Γ { D with nx := fun Γ' => DOs Z X rest Γ' D }) : DOs Z X (st :: rest) Γ D := fun pins s σ F0 G F H Wr fts I g S tk => by
  refine wpAny_execs_cons (thn (h pins s σ F0 G F H Wr fts I g S tk) fun f s1 q => ?_)
  cases f with
  | next =>
    obtain ⟨σ1, H1, I1, F1, Γ1, fts1, g1, S1, q1⟩ := q
    exact q1 pins s1 σ1 F0 G F1 H1 Wr fts1 I1 g1 S1 tk
  | ret v => exact q
  | brk => exact q
  | cont => exact q
/-- the last statement -/
theorem dos_one (h : DO Z X st Γ D) : DOs Z X [st] Γ D := fun pins s σ F0 G F H Wr fts I g S tk => by
  refine wpAny_execs_cons (thn (h pins s σ F0 G F H Wr fts I g S tk) fun f s1 q => ?_)
  cases f with
  | next => exact wpAny_execs_nil q
  | ret v => exact q
  | brk => exact q
  | cont => exact q
theorem do_pass (h : D.nx Γ) : DO Z X (.Pass pos) Γ D := DO.of ps_pass fun σ F0 G F H Wr fts g S => ⟨F, Γ, fts, g, S, h⟩
theorem do_ret (a : EV Z X e Γ P) (h : D.rt (fun _ => P) Γ) : DO Z X (.Return (some e) pos) Γ D := DO.of (ps_ret a.pe) fun σ F0 G F H Wr fts g S =>
  ⟨F, G, Wr, fts, g.ok, S, fun v F1 H1 g1 p1 => ⟨F1, Γ, σ, fts, fun _ => P, g.step g1, S.grow g1, p1, h⟩⟩
theorem do_if {c : Expr} {b : Bool} {th el : List Stmt} (a : ET Z X c Γ b) (h1 : b = true → DOs Z X th Γ D) (h2 : b = false → DOs Z X el Γ D) : DO Z X (.If c th el pos) Γ D := fun pins s σ F0 G F H Wr fts I g S tk => by
  refine wpAny_If (thn (a pins s σ F G H Wr fts (fun b' H' => b' = b ∧ ∃ F', Grow Z.T nowhere F H F' H') I g.ok S fun F1 H1 g1 => ⟨rfl, F1, g1⟩) fun d s1 ⟨H1, I1, e1, F1, g1⟩ => ?_)
  subst e1
  cases d with
  | true => exact h1 rfl pins s1 σ F0 G F1 H1 Wr fts I1 (g.step g1) (S.grow g1) tk
  | false => exact h2 rfl pins s1 σ F0 G F1 H1 Wr fts I1 (g.step g1) (S.grow g1) tk
/-- name = datum -/
theorem do_set (B : Bd Z X N sc vs ws gs k) (i : Nat) {n : Str} {x : α} (a : EV Z X e Γ (pd R x)) (h : D.nx (Γ.set i (.da R x))) (hi : N[i]? = some n := by rfl) (hw : i ∈ ws := by decide)
    (hs : swapsWith e (some (.Name n pos')) pos.line X.env = pure false := by rfl) : DO Z X (.Assign [.Name n pos'] e pos) Γ D :=
  DO.of (ps_set (i := i) (by rw [B.eN]; exact B.nm.nd) (by rw [B.eN]; exact hi) (by rw [B.eSc]; exact B.nm.loc i hw n hi) a.pe hs (by rw [B.eSc]; exact B.st i hw n hi)) fun σ F0 G F H Wr fts g S =>
    ⟨F, G, Wr, fts, g.ok, S, fun v F1 H1 g1 p1 => ⟨F1, _, _, g.step g1, (S.grow g1).set p1, h⟩⟩
/-- name = a value that nobody asks for -/
theorem do_setU (B : Bd Z X N sc vs ws gs k) (i : Nat) {n : Str} (a : EV Z X e Γ P) (h : D.nx (Γ.set i .un)) (hi : N[i]? = some n := by rfl) (hw : i ∈ ws := by decide)
    (hs : swapsWith e (some (.Name n pos')) pos.line X.env = pure false := by rfl) : DO Z X (.Assign [.Name n pos'] e pos) Γ D :=
  DO.of (ps_set (i := i) (by rw [B.eN]; exact B.nm.nd) (by rw [B.eN]; exact hi) (by rw [B.eSc]; exact B.nm.loc i hw n hi) a.pe hs (by rw [B.eSc]; exact B.st i hw n hi)) fun σ F0 G F H Wr fts g S =>
    ⟨F, G, Wr, fts, g.ok, S, fun v F1 H1 g1 p1 => ⟨F1, _, _, g.step g1, (S.grow g1).drop, h⟩⟩
theorem set_ends {σ : Sg} {F0 G F H F1 H1 : Hp} {Wr : Addr → Prop} {fts : Nat → List Addr} {M : Mp β} {y : β} {i : Nat} {v : V} {ft : List Addr} (g : Grow Z.T Wr F0 G F H) (S : Sat Wr F G H Γ σ fts) (hl : i < Γ.length) (g1 : Grow Z.T (fun a => a ∈ fts i) F H F1 H1) (r : M.rel y F1 H1 ft v)
    (hn : ∀ a ∈ ft, F1 a = none ∧ (a ∈ fts i ∨ H a = none)) (hlo : M.loc = true → ∀ a ∈ ft, G a = none ∨ H a = none) (nv : noVw Γ = true) : ∃ fts', Grow Z.T Wr F0 G F1 H1 ∧ Sat Wr F1 G H1 (Γ.set i (.mu M y)) (σ.set i (some v)) fts' :=
  ⟨_, g.trans g1 (fun a ha => (S.there ha).2.1), S.own g1 (fun a h => g.th a h) r hn hlo (noVw_ok nv)⟩
theorem lt_of_isSome {α : Type 1} {l : List α} {i : Nat} (h : (l[i]?).isSome = true) : i < l.length := by
  by_cases q : i < l.length
  · exact q
  · rw [List.getElem?_eq_none (by omega)] at h; cases h
theorem do_new (B : Bd Z X N sc vs ws gs k) (i : Nat) (R : Rp α) {n : Str} (h : D.nx (Γ.set i (.mu (mLst R) []))) (hi : N[i]? = some n := by rfl) (hw : i ∈ ws := by decide) (hl0 : (Γ[i]?).isSome = true := by rfl) (nv : noVw Γ = true := by rfl)
    (hs : swapsWith (.List [] p) (some (.Name n pos')) pos.line X.env = pure false := by rfl) : DO Z X (.Assign [.Name n pos'] (.List [] p) pos) Γ D :=
  DO.of (ps_set (i := i) (by rw [B.eN]; exact B.nm.nd) (by rw [B.eN]; exact hi) (by rw [B.eSc]; exact B.nm.loc i hw n hi) (pe_lst pa_nil) hs (by rw [B.eSc]; exact B.st i hw n hi)) fun σ F0 G F H Wr fts g S => by
    refine ⟨Nat.zero_le _, fun q hq => ?_⟩
    have g1 : Grow Z.T (fun a => a ∈ fts i) F H F (upd H q (.lst [])) := Grow.made g.ok hq
    obtain ⟨fts', a, b⟩ := set_ends (M := mLst R) (y := []) (v := .ref q) (ft := [q]) g S (lt_of_isSome hl0) g1 ⟨q, [], rfl, rfl, upd_same, trivial⟩ (fun a ha => by
      simp at ha; subst ha; exact ⟨g.ok.free hq, .inr hq⟩) (fun _ a ha => by simp at ha; subst ha; exact .inr hq) nv
    exact ⟨F, _, fts', a, b, h⟩
/-- x.append(e) -/
theorem do_app (B : Bd Z X N sc vs ws gs k) (i : Nat) {n : Str} {xs : List α} {x : α} {ap : Pos} (a : EV Z X e Γ (pd R x)) (hz : xs.length < sizeLine) (h : D.nx (Γ.set i (.mu (mLst R) (xs ++ [x])))) (hi : N[i]? = some n := by rfl) (hv : i ∈ vs := by decide) (hΓ : Γ[i]? = some (.mu (mLst R) xs) := by rfl)
    (nv : noVw Γ = true := by rfl) (hst : starEach (e :: []) X.env = (false, eval e X.env) :: starEach [] X.env := by rfl)
    (hfew : (((backTo pos' (starEach (e :: []) X.env)).all fun x => !x.1) && ((backToKw pos' (keywordEach [] X.env)).all fun x => x.1.isSome) && decide (([e].length + ([] : List Keyword).length + if ([] : List Keyword).isEmpty = true then 0 else 1) < 30)) = true := by rfl)
    (hline : (ap.endLine == pos'.line) = true := by rfl) : DO Z X (.Expr (.Call (.Attribute (.Name n p) "append" ap) [e] [] pos') pos) Γ D := by
  obtain ⟨d1, d2, _⟩ := plainName_ok (B.nm.pn i hv n hi)
  have pn : PE X (.Name n p) (tVar i) := pe_var (i := i) (by rw [B.eN]; exact hi) (by rw [B.eSc]; exact B.nm.vis i hv n hi) d1 d2
  refine DO.of (ps_expr (pe_bm PySem.F.plainAttrs_list PySem.F.slot_list_append PySem.F.type_list_append mt_append pn (pa_cons a.pe pa_nil hst) (hs := hst) (hfew := hfew) (hline := hline))) fun σ F0 G F H Wr fts g S => ?_
  obtain ⟨v, ev, ⟨l, us, rfl, ef, hl, r⟩, mk⟩ := S.mu hΓ
  refine ⟨_, ev, .inl ⟨rfl, _, SqL.of hl⟩, ⟨F, G, Wr, fts, g.ok, S, fun w F1 H1 g1 p1 => ?_⟩⟩
  have S1 := S.grow g1
  have hl1 : H1 l = some (.lst us) := g1.eh l _ (fun w => w) hl (by intro ps z; cases z)
  refine ⟨l, us, w, rfl, rfl, hl1, by rw [r.len]; exact hz, ?_⟩
  have hm : l ∈ fts i := by rw [ef]; simp
  have g2 : Grow Z.T (fun a => a ∈ fts i) F1 H1 F1 (upd H1 l (.lst (us ++ [w]))) := by
    have fl := (S1.there hm).1
    refine ⟨⟨fun b o q => ?_, g1.ok.nt, fun b hb => ?_⟩, Same.refl _, fun b h1 h2 => absurd h2 h1, fun b o nw q nt => ?_, fun b q => ?_⟩
    · by_cases z : b = l
      · rw [z, fl] at q; cases q
      · rw [upd_ne z]; exact g1.ok.sub b o q
    · obtain ⟨ps, h1, h2, h3⟩ := g1.ok.tb b hb
      have ne : b.1 ≠ l := fun z => by rw [z, hl1] at h1; cases h1
      exact ⟨ps, by rw [upd_ne ne]; exact h1, h2, h3⟩
    · by_cases z : b = l
      · exact absurd (by rw [z]; exact hm) nw
      · rw [upd_ne z]; exact q
    · by_cases z : b = l
      · rw [z, upd_same]; simp
      · rw [upd_ne z]; exact q
  have hi' : i < Γ.length := (List.getElem?_eq_some_iff.mp hΓ).1
  obtain ⟨fts', x1, x2⟩ := set_ends (M := mLst R) (y := xs ++ [x]) (v := .ref l) (ft := [l]) (g.step g1) S1 hi' g2 ⟨l, _, rfl, rfl, upd_same, (r.mono g1.ef).snoc p1⟩ (fun b hb => by
    simp at hb; subst hb; exact ⟨(S1.there hm).1, .inl hm⟩) (fun _ b hb => by simp at hb; rw [hb]; exact .inl ((mk l hm).2.2 rfl)) nv
  have eσ : σ.set i (some (V.ref l)) = σ := by
    apply List.ext_getElem?
    intro j
    by_cases q : j = i
    · subst q
      rw [List.getElem?_set_self (by have := S.len; omega), ev]
    · rw [List.getElem?_set_ne (Ne.symm q)]
  rw [eσ] at x2
  exact ⟨F1, _, fts', x1, x2, h⟩
/-- a return of just this datum is wanted -/
theorem rt_eq {x y : α} (h : x = y) : ∀ (G : Hp) (T : Tbs) (F H : Hp) (v : V), Ok T F H → (pd R x).p F H v → (pd R y).p F H v := fun _ _ _ _ _ _ p => h ▸ p
end
end BF
set_option maxHeartbeats 4000000
namespace BF
open PySem PySem.Spec PyProof.Rows L2
/-! ## targets, loops, comprehensions -/
def GA {α : Type} (Z : Zx) (X : Cx) (tg : Expr) (R : Rp α) (own : List Nat) (up : α → List Sl → List Sl) : Prop :=
  ∀ (pins : List (Addr × Obj)) (s : Shared) (σ : Sg) (F G H : Hp) (Wr : Addr → Prop) (fts : Nat → List Addr) (v : V) (u : Value) (x : α) (Γ : List Sl) (Q : Sg → Hp → Prop), Inv X pins σ H s → RelV v u → Ok Z.T F H → Sat Wr F G H Γ σ fts → R.rel x F v →
    (∀ σ' fts', Sat Wr F G H (up x Γ) σ' fts' → σ'.length = σ.length → (∀ j, j ∉ own → σ'[j]? = σ[j]?) → Q σ' H) →
    wpAny (model X.prog X.w) X.A (assign tg X.env u) (fun _ s' => ∃ σ' H', Inv X pins σ' H' s' ∧ Q σ' H') X.xe s
def tG {α : Type} (Z : Zx) (R : Rp α) (own : List Nat) (up : α → List Sl → List Sl) : TG := fun v σ H Q => ∃ (F G : Hp) (Wr : Addr → Prop) (fts : Nat → List Addr) (x : α) (Γ : List Sl), Ok Z.T F H ∧ Sat Wr F G H Γ σ fts ∧ R.rel x F v ∧
  ∀ σ' fts', Sat Wr F G H (up x Γ) σ' fts' → σ'.length = σ.length → (∀ j, j ∉ own → σ'[j]? = σ[j]?) → Q σ' H
/-- what a loop walks: the items xs, each a datum. fz: from an object that nobody changes any more -/
def Walk {α : Type} (T : Tbs) (fz : Bool) (J : It) (F1 H1 : Hp) (R : Rp α) (xs : List α) : Prop :=
  ∀ (i : Nat) (F2 H2 : Hp), Ok T F2 H2 → Same F1 F2 → (fz = false → ∀ a o, H1 a = some o → (∀ ps, o ≠ .tbl ps) → H2 a = some o) →
    (∀ x, xs[i]? = some x → J.go i H2 ∧ ∀ v H', J.yld i H2 v H' → ∃ F', Grow T nowhere F2 H2 F' H' ∧ R.rel x F' v) ∧ (i = xs.length → J.stop i H2)
def GI {α : Type} (Z : Zx) (X : Cx) (tg iter : Expr) (Γ : List Sl) (fz : Bool) (R : Rp α) (xs : List α) : Prop :=
  ∃ wi : TI, PI X tg iter wi ∧ ∀ (σ : Sg) (F G H : Hp) (Wr : Addr → Prop) (fts : Nat → List Addr) (Rk : It → Hp → Prop), Ok Z.T F H → Sat Wr F G H Γ σ fts →
    (∀ J F1 H1, Grow Z.T nowhere F H F1 H1 → Walk Z.T fz J F1 H1 R xs → Rk J H1) → wi σ H Rk
structure Imp (E E' : Ends) : Prop where
  nx : ∀ σ H, E.nx σ H → E'.nx σ H
  rt : ∀ v H, E.rt v H → E'.rt v H
  bk : ∀ σ H, E.bk σ H → E'.bk σ H
  ct : ∀ σ H, E.ct σ H → E'.ct σ H
def tDs (Z : Zx) (X : Cx) (body : List Stmt) : TS := fun E σ H => ∃ (F0 G F : Hp) (Wr : Addr → Prop) (fts : Nat → List Addr) (Γ : List Sl) (D : Fin), Grow Z.T Wr F0 G F H ∧ Sat Wr F G H Γ σ fts ∧ Takes X (D.wish Z.T Wr F0 G) ∧ DOs Z X body Γ D ∧ Imp (D.ends Z.T Wr F0 G) E
section
variable {Z : Zx} {X : Cx} {e e1 e2 e3 tg iter : Expr} {st : Stmt} {sts rest body : List Stmt} {Γ : List Sl} {P P1 P2 S : Pv} {N : List Str} {sc : Scope} {vs ws : List Nat} {gs : List Str} {k : Nat} {pos p pos' : Pos} {D : Fin} {α β γ : Type} {R : Rp α} {R2 : Rp β} {R3 : Rp γ}
theorem pss_ds : PSs X body (tDs Z X body) := ⟨fun pins s σ H E I ⟨F0, G, F, Wr, fts, Γ, D, g, S, tk, h, im⟩ => thn (h pins s σ F0 G F H Wr fts I g S tk) fun f s' q => SP.mono q im.nx im.rt im.bk im.ct⟩
theorem GA.pg {own : List Nat} {up : α → List Sl → List Sl} (h : GA Z X tg R own up) : PG X tg (tG Z R own up) := ⟨fun pins s σ H v u Q I r ⟨F, G, Wr, fts, x, Γ, o, S, rx, q⟩ => h pins s σ F G H Wr fts v u x Γ Q I r o S rx q⟩
theorem GA.of {own : List Nat} {up : α → List Sl → List Sl} {g : TG} (h : PG X tg g) (hr : ∀ (σ : Sg) (F G H : Hp) (Wr : Addr → Prop) (fts : Nat → List Addr) (v : V) (x : α) (Γ : List Sl) (Q : Sg → Hp → Prop), Ok Z.T F H → Sat Wr F G H Γ σ fts → R.rel x F v →
    (∀ σ' fts', Sat Wr F G H (up x Γ) σ' fts' → σ'.length = σ.length → (∀ j, j ∉ own → σ'[j]? = σ[j]?) → Q σ' H) → g v σ H Q) : GA Z X tg R own up :=
  fun pins s σ F G H Wr fts v u x Γ Q I r o S rx q => h.run pins s σ H v u Q I r (hr σ F G H Wr fts v x Γ Q o S rx q)
theorem ga_name (B : Bd Z X N sc vs ws gs k) (i : Nat) {n : Str} (hi : N[i]? = some n := by rfl) (hw : i ∈ ws := by decide) : GA Z X (.Name n pos) R [i] (fun x Γ => Γ.set i (.da R x)) :=
  GA.of (pg_name (i := i) (by rw [B.eN]; exact B.nm.nd) (by rw [B.eN]; exact hi) (by rw [B.eSc]; exact B.nm.loc i hw n hi) (by rw [B.eSc]; exact B.st i hw n hi)) fun σ F G H Wr fts v x Γ Q o S r q =>
    q _ _ (S.set r) (by simp) fun j hj => List.getElem?_set_ne (by simp at hj; exact fun z => hj z.symm)
theorem ga_t2 (B : Bd Z X N sc vs ws gs k) {o1 o2 : List Nat} {u1 : α → List Sl → List Sl} {u2 : β → List Sl → List Sl} {kk : Nat} (a : GA Z X e1 R o1 u1) (b : GA Z X e2 R2 o2 u2)
    (h1 : (assignEach (e1 :: [e2]) X.env).map (·.2) = assign e1 X.env :: (assignEach [e2] X.env).map (·.2) := by rfl) (h2 : (assignEach (e2 :: []) X.env).map (·.2) = assign e2 X.env :: (assignEach [] X.env).map (·.2) := by rfl)
    (hn : (assignEach [e1, e2] X.env).length = 2 := by rfl) (hst : (assignEach [e1, e2] X.env).findIdx? (·.1) = none := by rfl) : GA Z X (.Tuple [e1, e2] kk pos) (rT2 R R2) (o1 ++ o2) (fun x Γ => u2 x.2 (u1 x.1 Γ)) :=
  GA.of (pg_tup B.calm (pgs_cons a.pg (pgs_cons b.pg pgs_nil h2) h1) hn hst) fun σ F G H Wr fts v x Γ Q o S ⟨t, u, w, ev, ht, r1, r2⟩ q =>
    ⟨t, [u, w], ev, SqT.of (o.sub _ _ ht), rfl, u, [w], rfl, F, G, Wr, fts, x.1, Γ, o, S, r1, fun σ1 ft1 S1 l1 k1 => ⟨w, [], rfl, F, G, Wr, ft1, x.2, u1 x.1 Γ, o, S1, r2, fun σ2 ft2 S2 l2 k2 => ⟨rfl, q σ2 ft2 S2 (l2.trans l1) fun j hj => by
      rw [k2 j (fun z => hj (List.mem_append_right _ z)), k1 j (fun z => hj (List.mem_append_left _ z))]⟩⟩⟩
theorem ga_t3 (B : Bd Z X N sc vs ws gs k) {o1 o2 o3 : List Nat} {u1 : α → List Sl → List Sl} {u2 : β → List Sl → List Sl} {u3 : γ → List Sl → List Sl} {kk : Nat} (a : GA Z X e1 R o1 u1) (b : GA Z X e2 R2 o2 u2) (c : GA Z X e3 R3 o3 u3)
    (h1 : (assignEach (e1 :: [e2, e3]) X.env).map (·.2) = assign e1 X.env :: (assignEach [e2, e3] X.env).map (·.2) := by rfl) (h2 : (assignEach (e2 :: [e3]) X.env).map (·.2) = assign e2 X.env :: (assignEach [e3] X.env).map (·.2) := by rfl) (h3 : (assignEach (e3 :: []) X.env).map (·.2) = assign e3 X.env :: (assignEach [] X.env).map (·.2) := by rfl)
    (hn : (assignEach [e1, e2, e3] X.env).length = 3 := by rfl) (hst : (assignEach [e1, e2, e3] X.env).findIdx? (·.1) = none := by rfl) : GA Z X (.Tuple [e1, e2, e3] kk pos) (rT3 R R2 R3) (o1 ++ (o2 ++ o3)) (fun x Γ => u3 x.2.2 (u2 x.2.1 (u1 x.1 Γ))) :=
  GA.of (pg_tup B.calm (pgs_cons a.pg (pgs_cons b.pg (pgs_cons c.pg pgs_nil h3) h2) h1) hn hst) fun σ F G H Wr fts v x Γ Q o S ⟨t, u, w, z, ev, ht, r1, r2, r3⟩ q =>
    ⟨t, [u, w, z], ev, SqT.of (o.sub _ _ ht), rfl, u, [w, z], rfl, F, G, Wr, fts, x.1, Γ, o, S, r1, fun σ1 ft1 S1 l1 k1 => ⟨w, [z], rfl, F, G, Wr, ft1, x.2.1, u1 x.1 Γ, o, S1, r2, fun σ2 ft2 S2 l2 k2 =>
      ⟨z, [], rfl, F, G, Wr, ft2, x.2.2, u2 x.2.1 (u1 x.1 Γ), o, S2, r3, fun σ3 ft3 S3 l3 k3 => ⟨rfl, q σ3 ft3 S3 (l3.trans (l2.trans l1)) fun j hj => by
        rw [k3 j (fun z => hj (List.mem_append_right _ (List.mem_append_right _ z))), k2 j (fun z => hj (List.mem_append_right _ (List.mem_append_left _ z))), k1 j (fun z => hj (List.mem_append_left _ z))]⟩⟩⟩⟩
/-- a, b = e -/
theorem do_asg {own : List Nat} {up : α → List Sl → List Sl} {x : α} (a : EV Z X e Γ (pd R x)) (g : GA Z X tg R own up) (h : D.nx (up x Γ)) (hs : swapsWithSole [tg] e pos.line X.env = pure false := by rfl) (hw : swappedStores [tg] e X.env = pure none := by rfl)
    (h1 : (assignEach [tg] X.env).map (·.2) = [assign tg X.env] := by rfl) : DO Z X (.Assign [tg] e pos) Γ D :=
  DO.of (ps_asg a.pe g.pg hs hw h1) fun σ F0 G F H Wr fts gr S => ⟨F, G, Wr, fts, gr.ok, S, fun v F1 H1 g1 p1 => ⟨F1, G, Wr, fts, x, Γ, g1.ok, S.grow g1, p1, fun σ' fts' S' _ _ => ⟨F1, _, fts', gr.step g1, S', h⟩⟩⟩

/-! ### what is walked -/
theorem extN_of {T : Tbs} {F H F' H' : Hp} (g : Grow T nowhere F H F' H') : ∀ a o, H a = some o → (∀ ps, o ≠ .tbl ps) → H' a = some o := fun a o h nt => g.eh a o (fun w => w) h nt
theorem gi_pl {xs : List α} (a : EV Z X iter Γ (pl R xs)) : GI Z X tg iter Γ false R xs := by
  refine ⟨_, pi_list a.pe, fun σ F G H Wr fts Rk o S q => ⟨F, G, Wr, fts, o, S, fun v F1 H1 g1 ⟨l, us, ev, hl, r⟩ => ⟨l, ev, ⟨us, SqL.of hl⟩, q _ F1 H1 g1 fun i F2 H2 o2 s2 k2 => ⟨fun x hx => ?_, fun hi => ?_⟩⟩⟩⟩
  · have hl2 := k2 rfl l _ hl (by intro ps z; cases z)
    obtain ⟨w, hw, rw'⟩ := r.get hx
    refine ⟨⟨us, w, SqL.of hl2, hw⟩, fun v' H' y => ?_⟩
    obtain ⟨e', y⟩ := y
    subst e'
    have := y us (SqL.of hl2)
    rw [hw] at this
    cases this
    exact ⟨F2, Grow.refl o2, R.mono s2 rw'⟩
  · exact ⟨us, SqL.of (k2 rfl l _ hl (by intro ps z; cases z)), by rw [r.len, hi]; exact Nat.le_refl _⟩
theorem gi_l {xs : List α} (a : EV Z X iter Γ (pd (rLst R) xs)) : GI Z X tg iter Γ true R xs := by
  refine ⟨_, pi_list a.pe, fun σ F G H Wr fts Rk o S q => ⟨F, G, Wr, fts, o, S, fun v F1 H1 g1 ⟨l, us, ev, hl, r⟩ => ⟨l, ev, ⟨us, SqL.of (g1.ok.sub _ _ hl)⟩, q _ F1 H1 g1 fun i F2 H2 o2 s2 k2 => ⟨fun x hx => ?_, fun hi => ?_⟩⟩⟩⟩
  · have hl2 := o2.sub _ _ (s2 _ _ hl)
    obtain ⟨w, hw, rw'⟩ := r.get hx
    refine ⟨⟨us, w, SqL.of hl2, hw⟩, fun v' H' y => ?_⟩
    obtain ⟨e', y⟩ := y
    subst e'
    have := y us (SqL.of hl2)
    rw [hw] at this
    cases this
    exact ⟨F2, Grow.refl o2, R.mono s2 rw'⟩
  · exact ⟨us, SqL.of (o2.sub _ _ (s2 _ _ hl)), by rw [r.len, hi]; exact Nat.le_refl _⟩
theorem gi_t {xs : List α} (a : EV Z X iter Γ (pd (rTpl R) xs)) : GI Z X tg iter Γ true R xs := by
  refine ⟨_, pi_tup a.pe, fun σ F G H Wr fts Rk o S q => ⟨F, G, Wr, fts, o, S, fun v F1 H1 g1 ⟨l, us, ev, hl, r⟩ => ⟨l, ev, ⟨us, SqT.of (g1.ok.sub _ _ hl)⟩, q _ F1 H1 g1 fun i F2 H2 o2 s2 k2 => ⟨fun x hx => ?_, fun hi => ?_⟩⟩⟩⟩
  · have hl2 := o2.sub _ _ (s2 _ _ hl)
    obtain ⟨w, hw, rw'⟩ := r.get hx
    refine ⟨⟨us, w, SqT.of hl2, hw⟩, fun v' H' y => ?_⟩
    obtain ⟨e', y⟩ := y
    subst e'
    have := y us (SqT.of hl2)
    rw [hw] at this
    cases this
    exact ⟨F2, Grow.refl o2, R.mono s2 rw'⟩
  · exact ⟨us, SqT.of (o2.sub _ _ (s2 _ _ hl)), by rw [r.len, hi]; exact Nat.le_refl _⟩
/-- lo, lo + 1, .. below hi -/
def rg (lo hi : Int) : List Int := (List.range (hi - lo).toNat).map fun (i : Nat) => lo + (i : Int)
theorem rg_at {lo hi : Int} {i : Nat} {x : Int} (h : (rg lo hi)[i]? = some x) : x = lo + i ∧ (i : Int) < hi - lo := by
  unfold rg at h
  rw [List.getElem?_map] at h
  cases q : (List.range (hi - lo).toNat)[i]? with
  | none => rw [q] at h; cases h
  | some j =>
    rw [q] at h
    obtain ⟨l, e⟩ := List.getElem?_eq_some_iff.mp q
    rw [List.length_range] at l
    rw [List.getElem_range] at e
    subst e
    refine ⟨(Option.some.inj h).symm, ?_⟩
    omega
theorem rg_len (lo hi : Int) : (rg lo hi).length = (hi - lo).toNat := by unfold rg; rw [List.length_map, List.length_range]
theorem walk_rg {T : Tbs} {fz : Bool} {F1 H1 : Hp} (lo hi : Int) : Walk T fz (Itr lo (hi - lo).toNat) F1 H1 rInt (rg lo hi) := fun i F2 H2 o2 s2 k2 => by
  refine ⟨fun x hx => ?_, fun h => ?_⟩
  · obtain ⟨e, l⟩ := rg_at hx
    refine ⟨?_, fun v H' y => ?_⟩
    · show i < (hi - lo).toNat
      omega
    · obtain ⟨e1, e2⟩ := y
      subst e1
      exact ⟨F2, Grow.refl o2, by rw [e2, e]; rfl⟩
  · show (hi - lo).toNat ≤ i
    rw [h, rg_len]
    exact Nat.le_refl _
def small62 (n : Int) : Prop := -(2 ^ 62) ≤ n ∧ n < 2 ^ 62
theorem gi_range1 (B : Bd Z X N sc vs ws gs k) {n : Int} (hm : Z.mg "range" = none) (a : EV Z X e Γ (pd rInt n)) (h : small62 n) (hg : ("range" : Str) ∈ gs := by decide +kernel) (hs : starEach [e] X.env = [(false, eval e X.env)] := by rfl) (hs2 : starEach (e :: []) X.env = (false, eval e X.env) :: starEach [] X.env := by rfl) :
    GI Z X tg (.Call (.Name "range" p) [e] [] pos) Γ true rInt (rg 0 n) :=
  ⟨_, pi_range1 (B.gx hg) (by rw [B.mg]; exact hm) (ea1 a hs2).pa hs, fun σ F G H Wr fts Rk o S q => ⟨F, G, Wr, fts, o, S, fun us F1 H1 g1 p1 => by
    match us, p1 with
    | [v], ⟨p1, _⟩ =>
      obtain rfl : v = V.int n := p1
      refine ⟨n, rfl, h.1, h.2, ?_⟩
      have := walk_rg (T := Z.T) (fz := true) (F1 := F1) (H1 := H1) 0 n
      rw [Int.sub_zero] at this
      exact q _ F1 H1 g1 this⟩⟩
theorem gi_range2 (B : Bd Z X N sc vs ws gs k) {lo hi : Int} (hm : Z.mg "range" = none) (a : EV Z X e1 Γ (pd rInt lo)) (b : EV Z X e2 Γ (pd rInt hi)) (h : small62 lo) (h' : small62 hi) (hg : ("range" : Str) ∈ gs := by decide +kernel)
    (hs : starEach [e1, e2] X.env = [(false, eval e1 X.env), (false, eval e2 X.env)] := by rfl) (hs2 : starEach [e2] X.env = [(false, eval e2 X.env)] := by rfl)
    (hs3 : starEach (e1 :: [e2]) X.env = (false, eval e1 X.env) :: starEach [e2] X.env := by rfl) (hs4 : starEach (e2 :: []) X.env = (false, eval e2 X.env) :: starEach [] X.env := by rfl) :
    GI Z X tg (.Call (.Name "range" p) [e1, e2] [] pos) Γ true rInt (rg lo hi) :=
  ⟨_, pi_range2 (B.gx hg) (by rw [B.mg]; exact hm) (ea2 a b hs3 hs4).pa hs hs2, fun σ F G H Wr fts Rk o S q => ⟨F, G, Wr, fts, o, S, fun us F1 H1 g1 p1 => by
    match us, p1 with
    | [v, w], ⟨p1, p2, _⟩ =>
      obtain rfl : v = V.int lo := p1
      obtain rfl : w = V.int hi := p2
      exact ⟨lo, hi, rfl, ⟨h.1, h.2, h'.1, h'.2⟩, q _ F1 H1 g1 (walk_rg lo hi)⟩⟩⟩

/-! ### for -/
theorem do_for {own : List Nat} {up : α → List Sl → List Sl} {xs : List α} (B : Bd Z X N sc vs ws gs k) (gi : GI Z X tg iter Γ true R xs) (ga : GA Z X tg R own up) (I : Nat → List Sl → Prop) (h0 : I 0 Γ)
    (hs : ∀ (i : Nat) (x : α) (Γ' : List Sl), xs[i]? = some x → I i Γ' → DOs Z X body (up x Γ') { nx := I (i + 1), ct := I (i + 1), bk := D.nx, rt := D.rt, ex := D.ex }) (hd : ∀ Γ', I xs.length Γ' → D.nx Γ')
    (hf : ∀ x, foldedSetIterable iter X.env x = pure x := by intro _; rfl) : DO Z X (.For tg iter body [] pos) Γ D := by
  intro pins s σ F0 G F H Wr fts In g S tk
  obtain ⟨wi, hp, hw⟩ := gi
  refine (ps_for B.po B.calm hp ga.pg (pss_ds (Z := Z)) hf).run pins s σ H _ In ?_
  refine hw σ F G H Wr fts _ g.ok S fun J F1 H1 g1 wk => ?_
  refine ⟨fun i m σ' H' => m = xs.length - i ∧ i ≤ xs.length ∧ ∃ (F' : Hp) (Γ' : List Sl) (fts' : Nat → List Addr), Grow Z.T Wr F0 G F' H' ∧ Same F1 F' ∧ Sat Wr F' G H' Γ' σ' fts' ∧ I i Γ',
    ⟨xs.length, rfl, Nat.zero_le _, F1, Γ, fts, g.step g1, Same.refl _, S.grow g1, h0⟩, ?_⟩
  rintro i m σ' H' ⟨rfl, hi, F', Γ', fts', g', s', S', hI⟩
  obtain ⟨w1, w2⟩ := wk i F' H' g'.ok s' (by intro z; cases z)
  by_cases hlt : i < xs.length
  · obtain ⟨go, st⟩ := w1 xs[i] (List.getElem?_eq_getElem hlt)
    refine .inr ⟨go, fun σ2 H2 => ∃ (F2 : Hp) (Γ2 : List Sl) (fts2 : Nat → List Addr), Grow Z.T Wr F0 G F2 H2 ∧ Same F1 F2 ∧ Sat Wr F2 G H2 Γ2 σ2 fts2 ∧ I (i + 1) Γ2, fun σ2 H2 ⟨F2, Γ2, fts2, a, b, c, d⟩ => ⟨xs.length - (i + 1), by omega, rfl, hlt, F2, Γ2, fts2, a, b, c, d⟩, fun v H2 y => ?_⟩
    obtain ⟨F2, g2, r⟩ := st v H2 y
    refine ⟨F2, G, Wr, fts', xs[i], Γ', g2.ok, S'.grow g2, r, fun σ3 fts3 S3 _ _ => ?_⟩
    have gb : Grow Z.T Wr F0 G F2 H2 := g'.step g2
    -- the body, from F2 on as its own beginning
    refine ⟨F2, G, F2, Wr, fts3, up xs[i] Γ', { nx := I (i + 1), ct := I (i + 1), bk := D.nx, rt := D.rt, ex := D.ex }, gb.base, S3, tk.imp fun c d σ'' H'' => ?_, hs i xs[i] Γ' (List.getElem?_eq_getElem hlt) hI, ?_, ?_, ?_, ?_⟩
    · rintro ⟨e0, F3, Γ3, fts4, g3, S4, q⟩
      exact ⟨e0, F3, Γ3, fts4, gb.rebase g3, S4, q⟩
    · rintro σ4 H4 ⟨F3, Γ3, fts4, g3, S4, q⟩
      exact ⟨F3, Γ3, fts4, gb.rebase g3, (s'.trans g2.ef).trans g3.ef, S4, q⟩
    · rintro v4 H4 ⟨F3, Γ3, σ4, fts4, P4, g3, S4, p4, q⟩
      exact ⟨F3, Γ3, σ4, fts4, P4, gb.rebase g3, S4, p4, q⟩
    · rintro σ4 H4 ⟨F3, Γ3, fts4, g3, S4, q⟩
      exact ⟨F3, Γ3, fts4, gb.rebase g3, S4, q⟩
    · rintro σ4 H4 ⟨F3, Γ3, fts4, g3, S4, q⟩
      exact ⟨F3, Γ3, fts4, gb.rebase g3, (s'.trans g2.ef).trans g3.ef, S4, q⟩
  · have e : i = xs.length := by omega
    subst e
    exact .inl ⟨w2 rfl, F', Γ', fts', g', S', hd Γ' hI⟩
end
end BF
set_option maxHeartbeats 4000000
namespace BF
open PySem PySem.Spec PyProof.Rows L2
/-! ## comprehensions -/
section
variable {T : Tbs} {Wr : Addr → Prop} {F G F1 H1 H H' : Hp} {D : Addr} {us us' : List V}
theorem tabs_upd {o o' : HO} {l : Addr} (t : TabF T F H) (hl : H l = some o) (nt : ∀ ps, o ≠ .tbl ps) (nc : ∀ q, o ≠ LamX.CodeO l q) : TabF T F (upd H l o') := fun b hb => by
  obtain ⟨ps, h1, h2, h3⟩ := t b hb
  have ne : b.1 ≠ l := fun z => by rw [z, hl] at h1; exact nt ps (Option.some.inj h1)
  exact ⟨ps, by rw [upd_ne ne]; exact h1, h2, h3⟩
/-- an object that is one's own changes -/
theorem Grow.mut {o o' : HO} {l : Addr} (g : Grow T Wr F G F1 H1) (hl : H1 l = some o) (nt : ∀ ps, o ≠ .tbl ps) (nc : ∀ q, o ≠ LamX.CodeO l q) (fl : F1 l = none) (hw : Wr l ∨ G l = none) : Grow T Wr F G F1 (upd H1 l o') where
  ok := ⟨fun b u q => by
      by_cases z : b = l
      · rw [z, fl] at q; cases q
      · rw [upd_ne z]; exact g.ok.sub b u q, g.ok.nt, tabs_upd g.ok.tb hl nt nc⟩
  ef := g.ef
  new := g.new
  eh := fun b u nw q nt' => by
    by_cases z : b = l
    · rcases hw with w | w
      · exact absurd (by rw [z]; exact w) nw
      · rw [z, w] at q; cases q
    · rw [upd_ne z]; exact g.eh b u nw q nt'
  th := fun b q => by
    by_cases z : b = l
    · rw [z, upd_same]; simp
    · rw [upd_ne z]; exact g.th b q
/-- an object of one's own, made here, is known from now on -/
theorem Grow.freeze {o : HO} {l : Addr} (g : Grow T Wr F G F1 H1) (hl : H1 l = some o) (nt : ∀ ps, o ≠ .tbl ps) (fl : F1 l = none) (hg : G l = none) : Grow T Wr F G (upd F1 l o) H1 where
  ok := ⟨fun b u q => by
      by_cases z : b = l
      · rw [z, upd_same] at q; rw [z, hl]; exact q
      · rw [upd_ne z] at q; exact g.ok.sub b u q,
    fun b ps q => by
      by_cases z : b = l
      · rw [z, upd_same] at q; exact nt ps (Option.some.inj q)
      · rw [upd_ne z] at q; exact g.ok.nt b ps q, g.ok.tb.ext (fun a u e => by rw [upd_ne (ne_of_none e fl)]; exact e) fun _ _ e => e⟩
  ef := fun b u q => by
    have q2 := g.ef b u q
    rw [upd_ne (ne_of_none q2 fl)]
    exact q2
  new := fun b h1 h2 => by
    by_cases z : b = l
    · rw [z]; exact hg
    · rw [upd_ne z] at h1; exact g.new b h1 h2
  eh := g.eh
  th := g.th
theorem Grow.freezeO {o : HO} {l : Addr} (g : Grow T Wr F G F1 H1) (hl : H1 l = some o) (nt : ∀ ps, o ≠ .tbl ps) (fl : F1 l = none) : Ok T (upd F1 l o) H1 := ⟨fun b u q => by
      by_cases z : b = l
      · rw [z, upd_same] at q; rw [z, hl]; exact q
      · rw [upd_ne z] at q; exact g.ok.sub b u q,
    fun b ps q => by
      by_cases z : b = l
      · rw [z, upd_same] at q; exact nt ps (Option.some.inj q)
      · rw [upd_ne z] at q; exact g.ok.nt b ps q, g.ok.tb.ext (fun a u e => by rw [upd_ne (ne_of_none e fl)]; exact e) fun _ _ e => e⟩
theorem lst_nt {xs : List V} : ∀ ps, HO.lst xs ≠ .tbl ps := fun ps z => by cases z
theorem lst_nc {xs : List V} {l : Addr} : ∀ q, HO.lst xs ≠ LamX.CodeO l q := fun q z => by unfold LamX.CodeO at z; cases z
end
structure CompNm (N : List Str) (sc cs : Scope) (own : List (Str × Nat)) (vs : List Nat) (gs : List Str) : Prop where
  blk : BlkOk N sc cs own
  nm : Nm N (relS cs sc) vs (own.map (·.2)) gs
  st : ∀ p ∈ own, Loc cs p.1
def compB (N : List Str) (sc cs : Scope) (own : List (Str × Nat)) (vs : List Nat) (gs : List Str) : Bool := blkC N sc cs own && nmB N (relS cs sc) vs (own.map (·.2)) gs && own.all fun p => locB cs p.1
theorem comp_by {N : List Str} {sc cs : Scope} {own : List (Str × Nat)} {vs : List Nat} {gs : List Str} (h : compB N sc cs own vs gs = true) : CompNm N sc cs own vs gs := by
  unfold compB at h
  simp only [Bool.and_eq_true, List.all_eq_true] at h
  exact ⟨blkOk_by h.1.1, nm_by h.1.2, fun p hp => locB_ok (h.2 p hp)⟩
def wG (Γ : List Sl) : List Nat → List Sl
  | [] => Γ
  | v :: vs => (wG Γ vs).set v .un
theorem wipe_at {σ : Sg} : ∀ {vs : List Nat} {j : Nat}, j ∉ vs → (wipe σ vs)[j]? = σ[j]?
  | [], _, _ => rfl
  | v :: vs, j, h => by
    unfold wipe
    rw [List.getElem?_set_ne (fun z => h (by rw [z]; exact List.mem_cons_self))]
    exact wipe_at fun z => h (List.mem_cons_of_mem _ z)
theorem wipe_in {σ : Sg} : ∀ {vs : List Nat} {j : Nat}, j ∈ vs → j < σ.length → (wipe σ vs)[j]? = some none
  | v :: vs, j, h, l => by
    unfold wipe
    by_cases z : v = j
    · rw [z, List.getElem?_set_self (by rw [wipe_length]; exact l)]
    · rw [List.getElem?_set_ne z]
      rcases List.mem_cons.mp h with q | q
      · exact absurd q.symm z
      · exact wipe_in q l
theorem wipe_agree {σ τ : Sg} {vs : List Nat} (l : σ.length = τ.length) (h : ∀ j, j ∉ vs → σ[j]? = τ[j]?) : wipe σ vs = wipe τ vs := by
  apply List.ext_getElem?
  intro j
  by_cases q : j ∈ vs
  · by_cases lt : j < σ.length
    · rw [wipe_in q lt, wipe_in q (by rw [← l]; exact lt)]
    · rw [List.getElem?_eq_none (by rw [wipe_length]; omega), List.getElem?_eq_none (by rw [wipe_length]; omega)]
  · rw [wipe_at q, wipe_at q]
    exact h j q
section
variable {Z : Zx} {X : Cx} {elt tg iter c : Expr} {Γ : List Sl} {P P1 P2 S : Pv} {N : List Str} {sc cs : Scope} {vs ws vs' : List Nat} {gs gs' : List Str} {k : Nat} {pos p pos' : Pos} {α β γ : Type} {R : Rp α} {R2 : Rp β} {own : List (Str × Nat)}
theorem Sat.wipe {Wr : Addr → Prop} {F G H : Hp} {σ : Sg} {fts : Nat → List Addr} (S : Sat Wr F G H Γ σ fts) : ∀ vs : List Nat, ∃ fts', Sat Wr F G H (wG Γ vs) (L2.wipe σ vs) fts'
  | [] => ⟨fts, S⟩
  | v :: vs => by
    obtain ⟨f, S'⟩ := Sat.wipe S vs
    exact ⟨_, S'.drop⟩
theorem Bd.blk (B : Bd Z X N sc vs ws gs k) (cn : CompNm N sc cs own vs' gs') (s : Shared) (H : Hp) (C : Addr) (cl : List (Str × Addr)) (fp : List Addr) : Bd Z (X.blk s H cs (compEnvC cs cl C X.env) fp) N (relS cs sc) vs' (own.map (·.2)) gs' k where
  nm := cn.nm
  prog := B.prog
  w := B.w
  K := B.K
  mg := B.mg
  base := B.base
  eN := B.eN
  eSc := by
    show relS cs X.env.scope = relS cs sc
    rw [B.eSc]
  calm := B.calm
  room := B.room
  st := fun i hi x hx => by
    obtain ⟨q, hq, e⟩ := List.mem_map.mp hi
    have h1 := cn.blk.ix q hq
    have e : q.2 = i := e
    rw [e, hx] at h1
    have h1 := Option.some.inj h1
    rcases cn.st q hq with z | z
    · refine .inr ?_
      rw [h1]
      exact lookup_relS_keep (by decide) z
    · refine .inl ?_
      show (cs.names.lookup x == some .cell) = true
      rw [h1, z]
      rfl
  po := PassesOwn.never
/-- the test of a comprehension -/
def tTx {α : Type} (Z : Zx) (xs : List α) (Δ : α → List Sl) (b : α → Bool) : TT := fun σ H Q => ∃ (F G : Hp) (Wr : Addr → Prop) (fts : Nat → List Addr) (x : α), x ∈ xs ∧ Ok Z.T F H ∧ Sat Wr F G H (Δ x) σ fts ∧ ∀ F' H', Grow Z.T nowhere F H F' H' → Q (b x) H'
def tEx {α β : Type} (Z : Zx) (xs : List α) (Δ : α → List Sl) (b : α → Bool) (S : Rp β) (f : α → β) : TE := fun σ H Q => ∃ (F G : Hp) (Wr : Addr → Prop) (fts : Nat → List Addr) (x : α), x ∈ xs ∧ b x = true ∧ Ok Z.T F H ∧ Sat Wr F G H (Δ x) σ fts ∧ ∀ v F' H', Grow Z.T nowhere F H F' H' → S.rel (f x) F' v → Q v H'
theorem lc_read0 {fz : Bool} {xs : List α} {up : α → List Sl → List Sl} {b : α → Bool} {S : Rp β} {f : α → β} {ow : List Nat} {tt : TT} {J : It}
    (ht : ∀ (σ : Sg) (F G H : Hp) (Wr : Addr → Prop) (fts : Nat → List Addr) (x : α) (Q : Bool → Hp → Prop), x ∈ xs → Ok Z.T F H → Sat Wr F G H (up x (wG Γ ow)) σ fts → (∀ F' H', Grow Z.T nowhere F H F' H' → Q (b x) H') → tt σ H Q)
    (hz : xs.length ≤ 1000000) (σ : Sg) (F1 G H1 : Hp) (Wr : Addr → Prop) (fts : Nat → List Addr) (Q : VK) (o : Ok Z.T F1 H1) (Sa : Sat Wr F1 G H1 Γ σ fts) (wk : Walk Z.T fz J F1 H1 R xs) (q : ∀ v F' H', Grow Z.T nowhere F1 H1 F' H' → (pd (rLst S) ((xs.filter b).map f)).p F' H' v → Q v H') :
    tLc (fun _ H Rk => Rk J H) (tG Z R ow up) tt (tEx Z xs (fun x => up x (wG Γ ow)) b S f) ow σ H1 Q := by
  have g1 : Grow Z.T nowhere F1 H1 F1 H1 := Grow.refl o
  intro D hD
  have fD : F1 D = none := g1.ok.free hD
  refine ⟨fun i m H' => m = xs.length - i ∧ i ≤ xs.length ∧ ∃ (F' : Hp) (us : List V), Grow Z.T nowhere F1 H1 F' H' ∧ H' D = some (.lst us) ∧ F' D = none ∧ RL S F' (((xs.take i).filter b).map f) us,
    ⟨xs.length, rfl, Nat.zero_le _, F1, [], Grow.made g1.ok hD, upd_same, fD, trivial⟩, ?_⟩
  rintro i m H' ⟨rfl, hi, F', us, g', hl, fl, rl⟩
  obtain ⟨w1, w2⟩ := wk i F' H' g'.ok g'.ef (fun _ => extN_of g')
  by_cases hlt : i < xs.length
  · have hx : xs[i]? = some xs[i] := List.getElem?_eq_getElem hlt
    have hmem : xs[i] ∈ xs := List.getElem_mem hlt
    obtain ⟨go, st⟩ := w1 xs[i] hx
    have tk : xs.take (i + 1) = xs.take i ++ [xs[i]] := by rw [List.take_succ, hx]; rfl
    refine .inr ⟨go, fun H2 => ∃ (F2 : Hp) (us2 : List V), Grow Z.T nowhere F1 H1 F2 H2 ∧ H2 D = some (.lst us2) ∧ F2 D = none ∧ RL S F2 (((xs.take (i + 1)).filter b).map f) us2, fun H2 ⟨F2, us2, a1, a2, a3, a4⟩ => ⟨xs.length - (i + 1), by omega, rfl, hlt, F2, us2, a1, a2, a3, a4⟩, fun v H2 y => ?_⟩
    obtain ⟨F2, g2, r⟩ := st v H2 y
    have keepD : ∀ {Fa Ha Fb Hb : Hp} {ys : List V}, Grow Z.T nowhere Fa Ha Fb Hb → Ha D = some (.lst ys) → Fa D = none → Hb D = some (.lst ys) ∧ Fb D = none := fun {Fa Ha Fb Hb ys} gg e1 e2 => by
      refine ⟨gg.eh D _ (fun w => w) e1 lst_nt, ?_⟩
      cases z : Fb D with
      | none => rfl
      | some u =>
        have := gg.new D (by rw [z]; simp) e2
        rw [e1] at this; cases this
    obtain ⟨hl2, fl2⟩ := keepD g2 hl fl
    have S2 : Sat Wr F2 G H2 Γ σ fts := Sa.grow ((g1.step g').step g2)
    obtain ⟨fts2, S2w⟩ := S2.wipe ow
    refine ⟨F2, G, Wr, fts2, xs[i], wG Γ ow, g2.ok, S2w, r, fun σ3 fts3 S3 ln ag => ⟨?_, ?_⟩⟩
    · have e1 : L2.wipe σ3 ow = L2.wipe (L2.wipe σ ow) ow := wipe_agree ln ag
      rw [e1]
      exact wipe_agree (wipe_length σ ow) fun j hj => wipe_at hj
    · refine ht σ3 F2 G H2 Wr fts3 xs[i] _ hmem g2.ok S3 fun F3 H3 g3 => ?_
      obtain ⟨hl3, fl3⟩ := keepD g3 hl2 fl2
      cases hb : b xs[i] with
      | false =>
        refine iteF ⟨F3, us, (g'.step g2).step g3, hl3, fl3, ?_⟩
        rw [tk, List.filter_append, List.filter_cons_of_neg (by rw [hb]; decide)]
        show RL S F3 (((xs.take i).filter b ++ []).map f) us
        rw [List.append_nil]
        exact (rl.mono g2.ef).mono g3.ef
      | true =>
        refine iteT ⟨F3, G, Wr, fts3, xs[i], hmem, hb, g3.ok, S3.grow g3, fun y F4 H4 g4 r4 => ?_⟩
        obtain ⟨hl4, fl4⟩ := keepD g4 hl3 fl3
        have ln : us.length ≤ i := by
          rw [rl.len, List.length_map]
          exact Nat.le_trans (List.length_filter_le _ _) (by rw [List.length_take]; omega)
        refine ⟨us, hl4, by rw [sizeLine_eq]; omega, F4, us ++ [y], ?_, upd_same, fl4, ?_⟩
        · exact (((g'.step g2).step g3).step g4).mut hl4 lst_nt lst_nc fl4 (.inr hD)
        · rw [tk, List.filter_append, List.filter_cons_of_pos hb, List.map_append]
          exact (((rl.mono g2.ef).mono g3.ef).mono g4.ef).snoc r4
  · have e : i = xs.length := by omega
    subst e
    refine .inl ⟨w2 rfl, ?_⟩
    rw [List.take_length] at rl
    have g2 := (g1.step g').freeze hl lst_nt fl hD
    refine q _ _ _ g2 ⟨D, us, rfl, upd_same, rl.mono fun a u ea => ?_⟩
    rw [upd_ne (ne_of_none ea fl)]
    exact ea
theorem lc_read {wi : TI} {fz : Bool} {xs : List α} {up : α → List Sl → List Sl} {b : α → Bool} {S : Rp β} {f : α → β} {ow : List Nat} {tt : TT}
    (hw : ∀ (σ : Sg) (F G H : Hp) (Wr : Addr → Prop) (fts : Nat → List Addr) (Rk : It → Hp → Prop), Ok Z.T F H → Sat Wr F G H Γ σ fts → (∀ J F1 H1, Grow Z.T nowhere F H F1 H1 → Walk Z.T fz J F1 H1 R xs → Rk J H1) → wi σ H Rk)
    (ht : ∀ (σ : Sg) (F G H : Hp) (Wr : Addr → Prop) (fts : Nat → List Addr) (x : α) (Q : Bool → Hp → Prop), x ∈ xs → Ok Z.T F H → Sat Wr F G H (up x (wG Γ ow)) σ fts → (∀ F' H', Grow Z.T nowhere F H F' H' → Q (b x) H') → tt σ H Q)
    (hz : xs.length ≤ 1000000) (σ : Sg) (F G H : Hp) (Wr : Addr → Prop) (fts : Nat → List Addr) (Q : VK) (o : Ok Z.T F H) (Sa : Sat Wr F G H Γ σ fts) (q : ∀ v F' H', Grow Z.T nowhere F H F' H' → (pd (rLst S) ((xs.filter b).map f)).p F' H' v → Q v H') :
    tLc wi (tG Z R ow up) tt (tEx Z xs (fun x => up x (wG Γ ow)) b S f) ow σ H Q := by
  exact hw σ F G H Wr fts _ o Sa fun J F1 H1 g1 wk => lc_read0 ht hz σ F1 G H1 Wr fts Q g1.ok (Sa.grow g1) wk fun v F' H' g' p => q v F' H' (g1.step g') p
/-- [elt for tg in iter] -/
theorem ev_lc {fz : Bool} {xs : List α} {up : α → List Sl → List Sl} {S : Rp β} {f : α → β} (B : Bd Z X N sc vs ws gs k) (own : List (Str × Nat)) (vs' : List Nat) (gs' : List Str) (gi : GI Z X tg iter Γ fz R xs) (hz : xs.length ≤ 1000000)
    (ga : ∀ X', Bd Z X' N (relS cs sc) vs' (own.map (·.2)) gs' k → GA Z X' tg R (own.map (·.2)) up)
    (he : ∀ X', Bd Z X' N (relS cs sc) vs' (own.map (·.2)) gs' k → ∀ x, x ∈ xs → EV Z X' elt (up x (wG Γ (own.map (·.2)))) (pd S (f x)))
    (cn : compB N sc cs own vs' gs' = true := by decide +kernel) (hs : ∀ x, foldedSetIterable iter X.env x = pure x := by intro _; rfl) : EV Z X (.ListComp elt [⟨tg, iter, [], 0⟩] cs pos) Γ (pd (rLst S) (xs.map f)) := by
  obtain ⟨wi, hp, hw⟩ := gi
  have c := comp_by cn
  have e0 : (xs.filter fun _ => true) = xs := List.filter_eq_self.mpr fun _ _ => rfl
  refine EV.of (pe_lc (own := own) B.calm (by rw [B.eN]; exact B.nm.nd) hp (by rw [B.eN, B.eSc]; exact c.blk) (fun s H C cl fp => (ga _ (B.blk c s H C cl fp)).pg) (fun s H C cl fp => pts_nil)
    (fun s H C cl fp => (⟨fun pins s' σ H' Q I ⟨F, G, Wr, fts, x, hx, _, o, Sa, q⟩ => he _ (B.blk c s H C cl fp) x hx pins s' σ F G H' Wr fts Q I o Sa fun v F1 H1 g1 p1 => q v F1 H1 g1 p1⟩ : PE _ elt (tEx Z xs (fun x => up x (wG Γ (own.map (·.2)))) (fun _ => true) S f))) hs) fun σ F G H Wr fts Q o Sa q => ?_
  refine lc_read (b := fun _ => true) (S := S) (f := f) hw (fun σ F G H Wr fts x Q hx o S q => q F H (Grow.refl o)) hz σ F G H Wr fts Q o Sa ?_
  rw [e0]
  exact q
/-- [elt for tg in iter if c] -/
theorem ev_lcIf {fz : Bool} {xs : List α} {up : α → List Sl → List Sl} {S : Rp β} {f : α → β} {b : α → Bool} (B : Bd Z X N sc vs ws gs k) (own : List (Str × Nat)) (vs' : List Nat) (gs' : List Str) (gi : GI Z X tg iter Γ fz R xs) (hz : xs.length ≤ 1000000)
    (ga : ∀ X', Bd Z X' N (relS cs sc) vs' (own.map (·.2)) gs' k → GA Z X' tg R (own.map (·.2)) up)
    (hb : ∀ X', Bd Z X' N (relS cs sc) vs' (own.map (·.2)) gs' k → ∀ x, x ∈ xs → ET Z X' c (up x (wG Γ (own.map (·.2)))) (b x))
    (he : ∀ X', Bd Z X' N (relS cs sc) vs' (own.map (·.2)) gs' k → ∀ x, x ∈ xs → b x = true → EV Z X' elt (up x (wG Γ (own.map (·.2)))) (pd S (f x)))
    (cn : compB N sc cs own vs' gs' = true := by decide +kernel) (hs : ∀ x, foldedSetIterable iter X.env x = pure x := by intro _; rfl) : EV Z X (.ListComp elt [⟨tg, iter, [c], 0⟩] cs pos) Γ (pd (rLst S) ((xs.filter b).map f)) := by
  obtain ⟨wi, hp, hw⟩ := gi
  have cc := comp_by cn
  refine EV.of (pe_lc (own := own) B.calm (by rw [B.eN]; exact B.nm.nd) hp (by rw [B.eN, B.eSc]; exact cc.blk) (fun s H C cl fp => (ga _ (B.blk cc s H C cl fp)).pg)
    (fun s H C cl fp => pts_one (⟨fun pins s' σ H' Q I ⟨F, G, Wr, fts, x, hx, o, Sa, q⟩ => hb _ (B.blk cc s H C cl fp) x hx pins s' σ F G H' Wr fts Q I o Sa q⟩ : PT _ c (tTx Z xs (fun x => up x (wG Γ (own.map (·.2)))) b)))
    (fun s H C cl fp => (⟨fun pins s' σ H' Q I ⟨F, G, Wr, fts, x, hx, hbx, o, Sa, q⟩ => he _ (B.blk cc s H C cl fp) x hx hbx pins s' σ F G H' Wr fts Q I o Sa fun v F1 H1 g1 p1 => q v F1 H1 g1 p1⟩ : PE _ elt (tEx Z xs (fun x => up x (wG Γ (own.map (·.2)))) b S f))) hs) fun σ F G H Wr fts Q o Sa q => ?_
  exact lc_read (b := b) (S := S) (f := f) hw (fun σ F G H Wr fts x Q hx o S q => ⟨F, G, Wr, fts, x, hx, o, S, q⟩) hz σ F G H Wr fts Q o Sa q
end
end BF
set_option maxHeartbeats 4000000
namespace BF
open PySem PySem.Spec PyProof.Rows L2
/-! ## defs -/
structure Df (Z : Zx) (x : Str) (st : Stmt) : Prop where
  ex : ∃ (f : Addr) (fd : FuncData), Z.mg x = some (.ref f) ∧ FunD Z.K x x (defArgs st) (defBody st) (defScope st) [] [] f fd
def fscB (N ps : List Str) (sc : Scope) : Bool :=
  (match sc.kind with | .function => true | _ => false) && !sc.isCoroutine && !sc.isGenerator && decide N.Nodup && decide (N.take ps.length = ps) && ps.all (fun x => locB sc x) && sc.names.all fun y => decide (y.2 ≠ .free)
theorem fsc_by {N ps : List Str} {sc : Scope} (h : fscB N ps sc = true) : FnScope N ps sc := by
  unfold fscB at h
  simp only [Bool.and_eq_true, Bool.not_eq_true', decide_eq_true_eq, List.all_eq_true] at h
  obtain ⟨⟨⟨⟨⟨⟨h1, h2⟩, h3⟩, h4⟩, h5⟩, h6⟩, h7⟩ := h
  refine ⟨?_, h2, h3, h4, h5, fun x hx => locB_ok (h6 x hx), h7⟩
  split at h1
  · assumption
  · cases h1
def dfB (N ps : List Str) (sc : Scope) (vs : List Nat) (gs : List Str) : Bool := fscB N ps sc && nmB N sc vs vs gs
abbrev BindOk (x qual : Str) (st : Stmt) (ps : List Str) : Prop := ∀ (kV doc pm : Value) (an : Option Addr) (cdv ct : Value) (us : List Value), us.length = ps.length → bindArgs (PySem.W.fnOf x qual (defArgs st) (defBody st) (defScope st) .none kV doc pm an cdv ct) ⟨us, []⟩ = pure (ps.zip us)
/-- a datum's slot at the entry -/
theorem sat_entry {F H : Hp} {Γ : List Sl} {σ : Sg} (hl : σ.length = Γ.length) (h : ∀ (i : Nat) (s : Sl), Γ[i]? = some s → ∃ ov, σ[i]? = some ov ∧ SlOk nowhere F H H s ov []) : Sat nowhere F H H Γ σ (fun _ => []) :=
  ⟨hl, h, fun _ _ _ a ha => (by cases ha), fun _ _ => rfl⟩
theorem takes_no {X : Cx} {T : Tbs} {Wr : Addr → Prop} {F0 G : Hp} {D : Fin} (h : ∀ c Γ, ¬ D.ex c Γ) : Takes X (D.wish T Wr F0 G) := L2.takes0.imp fun c d σ H ⟨_, F, Γ, fts, _, _, q⟩ => h c Γ q
section
variable {Z : Zx} {x : Str} {st : Stmt} {N ps : List Str} {gs : List Str} {k : Nat} {sp : Sp} {α β γ δ : Type} {vs : List Nat}
/-- a def that changes nothing, by its body -/
theorem cal_gen (d : Df Z x st) (S : FnScope N ps (defScope st)) (nm : Nm N (defScope st) vs vs gs) (hb : BindOk x x st ps) (len : ∀ us H Q E, sp us H Q E → us.length = ps.length)
    (entry : ∀ us H Q, sp us H Q E0 → ∃ (F : Hp) (Γ : List Sl) (R : Pv), Ok Z.T F H ∧ Sat nowhere F H H Γ (L2.start N us) (fun _ => []) ∧ Ret Z.T R F H Q ∧
      ∀ X, Bd Z X N (defScope st) vs vs gs k → DOs Z X (defBody st) Γ { nx := fun _ => ∀ F H, R.p F H .non, rt := fun P _ => ∀ G F H v, Ok Z.T F H → (P G).p F H v → R.p F H v })
    (hE : ∀ us H Q E, sp us H Q E → sp us H Q E0) : Cal Z x (k + 1) sp := by
  obtain ⟨f, fd, hm, FD⟩ := d.ex
  refine ⟨f, fd, ps, hm, FD.kp, FD.bindsN hb, FD.ok S len fun cdv A outer s H us Q E hr h => ?_⟩
  obtain ⟨F, Γ, R, o, Sa, ret, body⟩ := entry us H Q (hE us H Q E h)
  have B : Bd Z (cxOf CX0 Z.P Z.w Z.K Z.mg Z.base N x (defScope st) f cdv A outer s H E).nox N (defScope st) vs vs gs k :=
    { nm := nm, prog := rfl, w := rfl, K := rfl, mg := rfl, base := rfl, eN := rfl, eSc := rfl, calm := rfl, room := hr, st := fun _ _ _ _ => .inl rfl, po := PassesOwn.never }
  refine ⟨_, PSs.nox (pss_ds (Z := Z)), F, H, F, nowhere, fun _ => [], Γ, _, Grow.refl o, Sa, takes_no (fun _ _ z => z), body _ B, ⟨?_, ?_, ?_, ?_⟩⟩
  · rintro σ' H' ⟨F', Γ', fts', g, _, q⟩
    exact ret _ F' H' g (q F' H')
  · rintro v H' ⟨F', Γ', σ', fts', P, g, _, p, q⟩
    exact ret v F' H' g (q _ F' H' v g.ok p)
  · rintro σ' H' ⟨F', Γ', fts', g, _, q⟩
    exact q
  · rintro σ' H' ⟨F', Γ', fts', g, _, q⟩
    exact q
def uns (n : Nat) : List Sl := List.replicate n .un
theorem dfB_ok {N ps : List Str} {sc : Scope} {vs : List Nat} {gs : List Str} (h : dfB N ps sc vs gs = true) : FnScope N ps sc ∧ Nm N sc vs vs gs := by
  unfold dfB at h
  rw [Bool.and_eq_true] at h
  exact ⟨fsc_by h.1, nm_by h.2⟩
theorem start_at {N : List Str} {us : List V} {i : Nat} : (us.length ≤ i → i < N.length → (L2.start N us)[i]? = some none) ∧ (∀ v, us[i]? = some v → (L2.start N us)[i]? = some (some v)) := by
  unfold L2.start
  refine ⟨fun h1 h2 => ?_, fun v h => ?_⟩
  · rw [List.getElem?_append_right (by simpa using h1), List.length_map, List.getElem?_replicate, if_pos (by omega)]
  · have hl := (List.getElem?_eq_some_iff.mp h).1
    rw [List.getElem?_append_left (by simpa using hl), List.getElem?_map, h]
    rfl
/-- the slots at the entry: the arguments' data, the others unset -/
theorem entry_sat {F H : Hp} {N : List Str} {us : List V} {Δ : List Sl} {n : Nat} (hn : N.length = us.length + n) (hl : Δ.length = us.length) (h : ∀ (i : Nat) (s : Sl), Δ[i]? = some s → ∃ v, us[i]? = some v ∧ SlOk nowhere F H H s (some v) []) :
    Sat nowhere F H H (Δ ++ uns n) (L2.start N us) (fun _ => []) := by
  refine sat_entry ?_ fun i s e => ?_
  · unfold L2.start uns
    simp only [List.length_append, List.length_map, List.length_replicate]
    omega
  · by_cases q : i < Δ.length
    · rw [List.getElem?_append_left q] at e
      obtain ⟨v, a, b⟩ := h i s e
      exact ⟨some v, start_at.2 v a, b⟩
    · rw [List.getElem?_append_right (by omega)] at e
      unfold uns at e
      rw [List.getElem?_replicate] at e
      split at e
      · cases e
        exact ⟨none, start_at.1 (by omega) (by omega), rfl⟩
      · cases e
abbrev dR (R : Pv) : Fin := { nx := fun _ => ∀ F H, R.p F H .non, rt := fun P _ => ∀ (G : Hp) (T : Tbs) F H v, Ok T F H → (P G).p F H v → R.p F H v }
theorem dR_ok {X : Cx} {st : List Stmt} {Γ : List Sl} {R : Pv} (h : DOs Z X st Γ (dR R)) : DOs Z X st Γ { nx := fun _ => ∀ F H, R.p F H .non, rt := fun P _ => ∀ G F H v, Ok Z.T F H → (P G).p F H v → R.p F H v } := by
  intro pins s σ F0 G F H Wr fts I g S tk
  refine thn (h pins s σ F0 G F H Wr fts I g S (takes_no fun _ _ z => z)) fun f s' q => SP.mono q (fun _ _ z => z) ?_ (fun _ _ z => z) (fun _ _ z => z)
  rintro v H' ⟨F', Γ', σ', fts', P, a, b, c, d⟩
  exact ⟨F', Γ', σ', fts', P, a, b, c, fun G F H v => d G Z.T F H v⟩
abbrev Wm (N : List Str) : List Nat := List.range N.length
theorem cal1 (N : List Str) (vs : List Nat) (gs : List Str) (n : Nat) {a : Str} {A : Rp α} {pre : α → Prop} {R : α → Pv} (d : Df Z x st) (hb : BindOk x x st [a]) (body : ∀ X, Bd Z X N (defScope st) vs vs gs k → ∀ u, pre u → DOs Z X (defBody st) (.da A u :: uns n) (dR (R u)))
    (c : dfB N [a] (defScope st) vs gs = true := by decide +kernel) (hn : N.length = 1 + n := by rfl) : Cal Z x (k + 1) (sp1 Z.T (pd A) pre R) := by
  obtain ⟨S, nm⟩ := dfB_ok c
  refine cal_gen d S nm hb (fun us H Q E ⟨u, F, o, p, h, r⟩ => p.len) (fun us H Q ⟨u, F, o, p, h, r⟩ => ?_) fun us H Q E z => z
  match us, p with
  | [v], ⟨p, _⟩ =>
    refine ⟨F, .da A u :: uns n, R u, o, entry_sat (Δ := [.da A u]) hn rfl fun i s e => ?_, r, fun X B => dR_ok (body X B u h)⟩
    match i, e with
    | 0, e => cases e; exact ⟨v, rfl, rfl, v, rfl, p⟩
    | i + 1, e => simp at e
theorem cal2 (N : List Str) (vs : List Nat) (gs : List Str) (n : Nat) {a b : Str} {A : Rp α} {A2 : Rp β} {pre : α → β → Prop} {R : α → β → Pv} (d : Df Z x st) (hb : BindOk x x st [a, b]) (body : ∀ X, Bd Z X N (defScope st) vs vs gs k → ∀ u w, pre u w → DOs Z X (defBody st) (.da A u :: .da A2 w :: uns n) (dR (R u w)))
    (c : dfB N [a, b] (defScope st) vs gs = true := by decide +kernel) (hn : N.length = 2 + n := by rfl) : Cal Z x (k + 1) (sp2 Z.T (pd A) (pd A2) pre R) := by
  obtain ⟨S, nm⟩ := dfB_ok c
  refine cal_gen d S nm hb (fun us H Q E ⟨u, w, F, o, p, h, r⟩ => p.len) (fun us H Q ⟨u, w, F, o, p, h, r⟩ => ?_) fun us H Q E z => z
  match us, p with
  | [v, v2], ⟨p, p2, _⟩ =>
    refine ⟨F, .da A u :: .da A2 w :: uns n, R u w, o, entry_sat (Δ := [.da A u, .da A2 w]) hn rfl fun i s e => ?_, r, fun X B => dR_ok (body X B u w h)⟩
    match i, e with
    | 0, e => cases e; exact ⟨v, rfl, rfl, v, rfl, p⟩
    | 1, e => cases e; exact ⟨v2, rfl, rfl, v2, rfl, p2⟩
    | i + 2, e => simp at e
theorem cal3 (N : List Str) (vs : List Nat) (gs : List Str) (n : Nat) {a b c0 : Str} {A : Rp α} {A2 : Rp β} {A3 : Rp γ} {pre : α → β → γ → Prop} {R : α → β → γ → Pv} (d : Df Z x st) (hb : BindOk x x st [a, b, c0]) (body : ∀ X, Bd Z X N (defScope st) vs vs gs k → ∀ u w z, pre u w z → DOs Z X (defBody st) (.da A u :: .da A2 w :: .da A3 z :: uns n) (dR (R u w z)))
    (c : dfB N [a, b, c0] (defScope st) vs gs = true := by decide +kernel) (hn : N.length = 3 + n := by rfl) : Cal Z x (k + 1) (sp3 Z.T (pd A) (pd A2) (pd A3) pre R) := by
  obtain ⟨S, nm⟩ := dfB_ok c
  refine cal_gen d S nm hb (fun us H Q E ⟨u, w, z, F, o, p, h, r⟩ => p.len) (fun us H Q ⟨u, w, z, F, o, p, h, r⟩ => ?_) fun us H Q E z => z
  match us, p with
  | [v, v2, v3], ⟨p, p2, p3, _⟩ =>
    refine ⟨F, .da A u :: .da A2 w :: .da A3 z :: uns n, R u w z, o, entry_sat (Δ := [.da A u, .da A2 w, .da A3 z]) hn rfl fun i s e => ?_, r, fun X B => dR_ok (body X B u w z h)⟩
    match i, e with
    | 0, e => cases e; exact ⟨v, rfl, rfl, v, rfl, p⟩
    | 1, e => cases e; exact ⟨v2, rfl, rfl, v2, rfl, p2⟩
    | 2, e => cases e; exact ⟨v3, rfl, rfl, v3, rfl, p3⟩
    | i + 3, e => simp at e
theorem cal4 (N : List Str) (vs : List Nat) (gs : List Str) (n : Nat) {a b c0 d0 : Str} {A : Rp α} {A2 : Rp β} {A3 : Rp γ} {A4 : Rp δ} {pre : α → β → γ → δ → Prop} {R : α → β → γ → δ → Pv} (d : Df Z x st) (hb : BindOk x x st [a, b, c0, d0]) (body : ∀ X, Bd Z X N (defScope st) vs vs gs k → ∀ u w z y, pre u w z y → DOs Z X (defBody st) (.da A u :: .da A2 w :: .da A3 z :: .da A4 y :: uns n) (dR (R u w z y)))
    (c : dfB N [a, b, c0, d0] (defScope st) vs gs = true := by decide +kernel) (hn : N.length = 4 + n := by rfl) : Cal Z x (k + 1) (sp4 Z.T (pd A) (pd A2) (pd A3) (pd A4) pre R) := by
  obtain ⟨S, nm⟩ := dfB_ok c
  refine cal_gen d S nm hb (fun us H Q E ⟨u, w, z, y, F, o, p, h, r⟩ => p.len) (fun us H Q ⟨u, w, z, y, F, o, p, h, r⟩ => ?_) fun us H Q E z => z
  match us, p with
  | [v, v2, v3, v4], ⟨p, p2, p3, p4, _⟩ =>
    refine ⟨F, .da A u :: .da A2 w :: .da A3 z :: .da A4 y :: uns n, R u w z y, o, entry_sat (Δ := [.da A u, .da A2 w, .da A3 z, .da A4 y]) hn rfl fun i s e => ?_, r, fun X B => dR_ok (body X B u w z y h)⟩
    match i, e with
    | 0, e => cases e; exact ⟨v, rfl, rfl, v, rfl, p⟩
    | 1, e => cases e; exact ⟨v2, rfl, rfl, v2, rfl, p2⟩
    | 2, e => cases e; exact ⟨v3, rfl, rfl, v3, rfl, p3⟩
    | 3, e => cases e; exact ⟨v4, rfl, rfl, v4, rfl, p4⟩
    | i + 4, e => simp at e
end
/-! ## what the text's top holds -/
def blts : List Str := ["isinstance", "int", "bool", "abs", "len", "list", "range", "enumerate", "max", "min", "any", "zip", "tuple", "all", "set", "sorted", "sum", "reversed", "str"]
structure Top (Z : Zx) : Prop where
  fr : ∀ x ∈ blts, Z.mg x = none
  tooGreat : ∃ t, Z.mg "TOO_GREAT" = some (.int (10 ^ 60) t)
  knots : ∃ t, Z.mg "KNOTS" = some (.int 64 t)
  rounds : ∃ t, Z.mg "ROUNDS" = some (.int 5 t)
  mkT : ∃ t, Z.mg "MOST_KNOTS_trees" = some (.int 40 t)
  meS : ∃ t, Z.mg "MOST_KEYS_stands" = some (.int 300 t)
  mf : ∃ t, Z.mg "MOST_FIGURES" = some (.int 60 t)
  mkX : ∃ t, Z.mg "MOST_KNOTS_texts" = some (.int 40 t)
  meX : ∃ t, Z.mg "MOST_KEYS_texts" = some (.int 300 t)
  figs : ∃ t, Z.mg "FIGURES" = some (.str "0123456789" t)
theorem Top.f {Z : Zx} (E : Top Z) (x : Str) (h : x ∈ blts := by decide +kernel) : Z.mg x = none := E.fr x h
end BF
set_option maxHeartbeats 4000000
namespace BF
open PySem PySem.Spec PyProof.Rows L2
section
variable {Z : Zx} {X : Cx} {e e1 e2 e3 tg iter c : Expr} {st : Stmt} {sts rest body : List Stmt} {Γ : List Sl} {P P1 P2 S : Pv} {N : List Str} {sc : Scope} {vs ws : List Nat} {gs : List Str} {k : Nat} {pos p pos' : Pos} {D : Fin} {α β γ : Type} {R : Rp α} {R2 : Rp β} {R3 : Rp γ}
/-! ## while -/
theorem do_while (B : Bd Z X N sc vs ws gs k) (I : Nat → List Sl → Prop) (m0 : Nat) (h0 : I m0 Γ)
    (hs : ∀ m Γ', I m Γ' → ∃ b, ET Z X c Γ' b ∧ (b = true → DOs Z X body Γ' { nx := fun Δ => ∃ m', m' < m ∧ I m' Δ, ct := fun Δ => ∃ m', m' < m ∧ I m' Δ, bk := D.nx, rt := D.rt, ex := D.ex }) ∧ (b = false → D.nx Γ')) : DO Z X (.While c body [] pos) Γ D := by
  intro pins s σ F0 G F H Wr fts In g S tk
  have pc : PT X c (fun σ H Q => ∃ (F G : Hp) (Wr : Addr → Prop) (fts : Nat → List Addr) (Δ : List Sl) (b : Bool), Ok Z.T F H ∧ Sat Wr F G H Δ σ fts ∧ ET Z X c Δ b ∧ ∀ F' H', Grow Z.T nowhere F H F' H' → Q b H') :=
    ⟨fun pins s σ H Q I ⟨F, G, Wr, fts, Δ, b, o, S, t, q⟩ => t pins s σ F G H Wr fts Q I o S q⟩
  refine (ps_while B.po pc (pss_ds (Z := Z))).run pins s σ H _ In ?_
  refine ⟨fun m σ' H' => ∃ (F' : Hp) (Γ' : List Sl) (fts' : Nat → List Addr), Grow Z.T Wr F0 G F' H' ∧ Sat Wr F' G H' Γ' σ' fts' ∧ I m Γ', ⟨m0, F, Γ, fts, g, S, h0⟩, ?_⟩
  rintro m σ' H' ⟨F', Γ', fts', g', S', hI⟩
  obtain ⟨b, ht, h1, h2⟩ := hs m Γ' hI
  refine ⟨F', G, Wr, fts', Γ', b, g'.ok, S', ht, fun F1 H1 g1 => ?_⟩
  cases b with
  | true =>
    refine iteT ⟨fun σ2 H2 => ∃ m', m' < m ∧ ∃ (F2 : Hp) (Γ2 : List Sl) (fts2 : Nat → List Addr), Grow Z.T Wr F0 G F2 H2 ∧ Sat Wr F2 G H2 Γ2 σ2 fts2 ∧ I m' Γ2, fun σ2 H2 q => q, ?_⟩
    refine ⟨F0, G, F1, Wr, fts', Γ', _, g'.step g1, S'.grow g1, ?_, h1 rfl, ?_, ?_, ?_, ?_⟩
    · exact tk.imp fun cc d σ'' H'' z => z
    · rintro σ4 H4 ⟨F3, Γ3, fts4, g3, S4, m', lt, q⟩
      exact ⟨m', lt, F3, Γ3, fts4, g3, S4, q⟩
    · rintro v4 H4 z
      exact z
    · rintro σ4 H4 z
      exact z
    · rintro σ4 H4 ⟨F3, Γ3, fts4, g3, S4, m', lt, q⟩
      exact ⟨m', lt, F3, Γ3, fts4, g3, S4, q⟩
  | false => exact iteF ⟨F1, Γ', fts', g'.step g1, S'.grow g1, h2 rfl⟩

/-! ## items -/
theorem ev_ixL {xs : List α} {x : α} {i : Int} (a : EV Z X e1 Γ (pl R xs)) (b : EV Z X e2 Γ (pd rInt i)) (h : 0 ≤ i) (hx : xs[i.toNat]? = some x) (hp : PlainIx e2 := by exact fun _ _ => rfl) : EV Z X (.Subscript e1 e2 pos) Γ (pd R x) :=
  EV.of (pe_ix ix_list a.pe b.pe hp) fun σ F G H Wr fts Q o S q => ⟨F, G, Wr, fts, o, S, fun v F1 H1 g1 p1 => ⟨F1, G, Wr, fts, g1.ok, S.grow g1, fun w F2 H2 g2 p2 => by
    obtain ⟨l, us, ev, hl, r⟩ := (pl R xs).keep g2 p1
    obtain ⟨u, hu, ru⟩ := r.get hx
    exact ⟨l, us, i, u, ev, p2, SqL.of hl, at_of (j := i.toNat) (by omega) hu, q u F2 H2 (g1.step g2) ru⟩⟩⟩
theorem ev_ixT {xs : List α} {x : α} {i : Int} (a : EV Z X e1 Γ (pt R xs)) (b : EV Z X e2 Γ (pd rInt i)) (h : 0 ≤ i) (hx : xs[i.toNat]? = some x) (hp : PlainIx e2 := by exact fun _ _ => rfl) : EV Z X (.Subscript e1 e2 pos) Γ (pd R x) :=
  EV.of (pe_ix ix_tup a.pe b.pe hp) fun σ F G H Wr fts Q o S q => ⟨F, G, Wr, fts, o, S, fun v F1 H1 g1 p1 => ⟨F1, G, Wr, fts, g1.ok, S.grow g1, fun w F2 H2 g2 p2 => by
    obtain ⟨l, us, ev, hl, r⟩ := (pt R xs).keep g2 p1
    obtain ⟨u, hu, ru⟩ := r.get hx
    exact ⟨l, us, i, u, ev, p2, SqT.of hl, at_of (j := i.toNat) (by omega) hu, q u F2 H2 (g1.step g2) ru⟩⟩⟩
theorem atI_neg1 {α : Type} {xs : List α} {x : α} (h : xs.getLast? = some x) : atI xs (-1) = some x := by
  obtain ⟨ys, e⟩ : ∃ ys, xs = ys ++ [x] := by
    cases q : xs with
    | nil => rw [q] at h; cases h
    | cons a r =>
      refine ⟨xs.dropLast, ?_⟩
      rw [← q]
      have hne : xs ≠ [] := by rw [q]; simp
      rw [List.getLast?_eq_some_getLast hne] at h
      have h := Option.some.inj h
      rw [← h]
      exact (List.dropLast_concat_getLast hne).symm
  rw [e]
  exact atI_last ys x
/-- xs[-1] -/
theorem ev_last {xs : List α} {x : α} (a : EV Z X e1 Γ (pl R xs)) (b : EV Z X e2 Γ (pd rInt (-1))) (hx : xs.getLast? = some x) (hp : PlainIx e2 := by exact fun _ _ => rfl) : EV Z X (.Subscript e1 e2 pos) Γ (pd R x) :=
  EV.of (pe_ix ix_list a.pe b.pe hp) fun σ F G H Wr fts Q o S q => ⟨F, G, Wr, fts, o, S, fun v F1 H1 g1 p1 => ⟨F1, G, Wr, fts, g1.ok, S.grow g1, fun w F2 H2 g2 p2 => by
    obtain ⟨l, us, ev, hl, r⟩ := (pl R xs).keep g2 p1
    obtain ⟨ys, e⟩ : ∃ ys, xs = ys ++ [x] := by
      have hne : xs ≠ [] := by intro z; rw [z] at hx; cases hx
      rw [List.getLast?_eq_some_getLast hne] at hx
      have h := Option.some.inj hx
      exact ⟨xs.dropLast, by rw [← h]; exact (List.dropLast_concat_getLast hne).symm⟩
    have hx2 : xs[ys.length]? = some x := by rw [e]; simp
    obtain ⟨u, hu, ru⟩ := r.get hx2
    have hlu : us.getLast? = some u := by
      rw [List.getLast?_eq_getElem?, r.len, e]
      simpa using hu
    exact ⟨l, us, -1, u, ev, p2, SqL.of hl, atI_neg1 hlu, q u F2 H2 (g1.step g2) ru⟩⟩⟩
theorem ev_fst {x : α × β} {j : Nat} {p2 : Pos} (a : EV Z X e1 Γ (pd (rT2 R R2) x)) : EV Z X (.Subscript e1 (.Constant (.int 0) j p2) pos) Γ (pd R x.1) :=
  EV.of (pe_ix ix_tup a.pe pe_int (fun _ _ => rfl)) fun σ F G H Wr fts Q o S q => ⟨F, G, Wr, fts, o, S, fun v F1 H1 g1 ⟨l, u, w, ev, hl, r1, r2⟩ => ⟨l, [u, w], 0, u, ev, rfl, SqT.of (g1.ok.sub _ _ hl), rfl, q u F1 H1 g1 r1⟩⟩
theorem ev_snd {x : α × β} {j : Nat} {p2 : Pos} (a : EV Z X e1 Γ (pd (rT2 R R2) x)) : EV Z X (.Subscript e1 (.Constant (.int 1) j p2) pos) Γ (pd R2 x.2) :=
  EV.of (pe_ix ix_tup a.pe pe_int (fun _ _ => rfl)) fun σ F G H Wr fts Q o S q => ⟨F, G, Wr, fts, o, S, fun v F1 H1 g1 ⟨l, u, w, ev, hl, r1, r2⟩ => ⟨l, [u, w], 1, w, ev, rfl, SqT.of (g1.ok.sub _ _ hl), rfl, q w F1 H1 g1 r2⟩⟩
theorem ev_third {x : α × β × γ} {j : Nat} {p2 : Pos} (a : EV Z X e1 Γ (pd (rT3 R R2 R3) x)) : EV Z X (.Subscript e1 (.Constant (.int 2) j p2) pos) Γ (pd R3 x.2.2) :=
  EV.of (pe_ix ix_tup a.pe pe_int (fun _ _ => rfl)) fun σ F G H Wr fts Q o S q => ⟨F, G, Wr, fts, o, S, fun v F1 H1 g1 ⟨l, u, w, z, ev, hl, r1, r2, r3⟩ => ⟨l, [u, w, z], 2, z, ev, rfl, SqT.of (g1.ok.sub _ _ hl), rfl, q z F1 H1 g1 r3⟩⟩
/-- xs[i] = e, a list of one's own -/
theorem do_store (B : Bd Z X N sc vs ws gs k) (i : Nat) {n : Str} {xs : List α} {x : α} {ix : Int} (a : EV Z X e Γ (pd R x)) (b : EV Z X e2 Γ (pd rInt ix)) (hx : 0 ≤ ix ∧ ix < xs.length) (h : D.nx (Γ.set i (.mu (mLst R) (xs.set ix.toNat x)))) (hi : N[i]? = some n := by rfl) (hv : i ∈ vs := by decide) (hΓ : Γ[i]? = some (.mu (mLst R) xs) := by rfl)
    (nv : noVw Γ = true := by rfl) (hs : swapsWithSole [.Subscript (.Name n p) e2 pos'] e pos.line X.env = pure false := by rfl) (hw : swappedStores [.Subscript (.Name n p) e2 pos'] e X.env = pure none := by rfl) (h1 : (assignEach [.Subscript (.Name n p) e2 pos'] X.env).map (·.2) = [assign (.Subscript (.Name n p) e2 pos') X.env] := by rfl)
    (ha : ∀ v, assign (.Subscript (.Name n p) e2 pos') X.env v = (do
      let ov ← holding [v] (eval (.Name n p) X.env)
      let iv ← holding [v, ov] (eval e2 X.env)
      standAt pos'
      holding [v, ov, iv] (setItem ov iv v)
      release [v, ov, iv] []) := by intro _; rfl) : DO Z X (.Assign [.Subscript (.Name n p) e2 pos'] e pos) Γ D := by
  obtain ⟨d1, d2, _⟩ := plainName_ok (B.nm.pn i hv n hi)
  have pn : PE X (.Name n p) (tVar i) := pe_var (i := i) (by rw [B.eN]; exact hi) (by rw [B.eSc]; exact B.nm.vis i hv n hi) d1 d2
  refine DO.of (ps_asg a.pe (pg_sub pn b.pe set_list ha) hs hw h1) fun σ F0 G F H Wr fts g S => ⟨F, G, Wr, fts, g.ok, S, fun v F1 H1 g1 p1 => ?_⟩
  have S1 := S.grow g1
  obtain ⟨_, ev, ⟨l, us, rfl, ef, hl, r⟩, mk⟩ := S1.mu hΓ
  refine ⟨_, ev, F1, G, Wr, fts, g1.ok, S1, fun w F2 H2 g2 p2 => ?_⟩
  have S2 := S1.grow g2
  have hl2 : H2 l = some (.lst us) := g2.eh l _ (fun w => w) hl lst_nt
  have hm : l ∈ fts i := by rw [ef]; simp
  refine ⟨l, us, ix, ix.toNat, rfl, p2, hl2, ?_, ?_⟩
  · unfold ixN
    rw [if_pos hx.1, if_pos (by rw [r.len]; exact hx.2)]
  · have hi' : i < Γ.length := (List.getElem?_eq_some_iff.mp hΓ).1
    have g3 : Grow Z.T (fun a => a ∈ fts i) F2 H2 F2 (upd H2 l (.lst (us.set ix.toNat v))) := (Grow.refl g2.ok).mut hl2 lst_nt lst_nc (S2.there hm).1 (.inl hm)
    obtain ⟨fts', x1, x2⟩ := set_ends (M := mLst R) (y := xs.set ix.toNat x) (v := .ref l) (ft := [l]) ((g.step g1).step g2) S2 hi' g3 ⟨l, _, rfl, rfl, upd_same, (r.mono g2.ef).set _ (R.mono g2.ef p1)⟩ (fun b hb => by
      simp at hb; subst hb; exact ⟨(S2.there hm).1, .inl hm⟩) (fun _ b hb => by simp at hb; rw [hb]; exact .inl ((mk l hm).2.2 rfl)) nv
    have eσ : σ.set i (some (V.ref l)) = σ := by
      apply List.ext_getElem?
      intro j
      by_cases q : j = i
      · subst q
        rw [List.getElem?_set_self (by have := S.len; omega), ev]
      · rw [List.getElem?_set_ne (Ne.symm q)]
    rw [eσ] at x2
    exact ⟨F2, _, fts', x1, x2, h⟩
/-- an object of one's own, made here, is not changed any more -/
theorem dos_freeze {M : Mp β} {x : β} {y : α} (i : Nat) (hΓ : Γ[i]? = some (.mu M x)) (lo : M.loc = true) (fz : ∀ (F H : Hp) (ft : List Addr) (v : V), M.rel x F H ft v → (∀ a ∈ ft, F a = none) → ∃ F', (∀ T, Ok T F H → Ok T F' H) ∧ Same F F' ∧ (∀ a, F' a ≠ none → F a = none → a ∈ ft) ∧ R.rel y F' v)
    (h : DOs Z X sts (Γ.set i (.da R y)) D) (nv : noVw Γ = true := by rfl) : DOs Z X sts Γ D := by
  intro pins s σ F0 G F H Wr fts I g S tk
  obtain ⟨v, ev, r, mk⟩ := S.mu hΓ
  obtain ⟨F', k1, k2, k3, k4⟩ := fz F H (fts i) v r fun a ha => (mk a ha).1
  have il : i < Γ.length := (List.getElem?_eq_some_iff.mp hΓ).1
  have g' : Grow Z.T Wr F0 G F' H := ⟨k1 _ g.ok, g.ef.trans k2, fun a h1 h2 => by
    by_cases z : F a = none
    · exact (mk a (k3 a h1 z)).2.2 lo
    · exact g.new a z h2, g.eh, g.th⟩
  have eσ : σ.set i (some v) = σ := by
    apply List.ext_getElem?
    intro j
    by_cases q : j = i
    · subst q
      rw [List.getElem?_set_self (by have := S.len; omega), ev]
    · rw [List.getElem?_set_ne (Ne.symm q)]
  have S' : Sat Wr F' G H (Γ.set i (.da R y)) σ (fun j => if j = i then [] else fts j) := by
    refine ⟨by simpa using S.len, fun j s hj => ?_, fun j m n a ha => ?_, fun j hj => ?_⟩
    · by_cases q : j = i
      · subst q
        rw [List.getElem?_set_self il] at hj
        cases hj
        exact ⟨some v, ev, if_pos rfl, v, rfl, k4⟩
      · rw [List.getElem?_set_ne (Ne.symm q)] at hj
        obtain ⟨ov, e, kk⟩ := S.at_ j s hj
        refine ⟨ov, e, ?_⟩
        rw [if_neg q]
        refine kk.keep (fun z => by rw [noVw_ok nv s (List.mem_of_getElem? hj)] at z; cases z) k2 (fun _ _ => rfl) fun a ha => ?_
        cases z : F' a with
        | none => rfl
        | some u => exact absurd (k3 a (by rw [z]; simp) (S.there ha).1) (S.apart j i q a ha)
    · have ha : a ∈ (if j = i then [] else fts j) := ha
      show a ∉ (if m = i then [] else fts m)
      by_cases q : j = i
      · rw [if_pos q] at ha; cases ha
      · rw [if_neg q] at ha
        by_cases q2 : m = i
        · rw [if_pos q2]; simp
        · rw [if_neg q2]; exact S.apart j m n a ha
    · show (if j = i then [] else fts j) = []
      by_cases q : j = i
      · rw [if_pos q]
      · rw [if_neg q]; exact S.out j (by simpa using hj)
  exact h pins s σ F0 G F' H Wr _ I g' S' tk
theorem dos_fzL {xs : List α} (i : Nat) (h : DOs Z X sts (Γ.set i (.da (rLst R) xs)) D) (hΓ : Γ[i]? = some (.mu (mLst R) xs) := by rfl) (nv : noVw Γ = true := by rfl) : DOs Z X sts Γ D :=
  dos_freeze (R := rLst R) (y := xs) i hΓ rfl (fun F H ft v ⟨l, us, ev, ef, hl, r⟩ hf => ⟨upd F l (.lst us), fun T o => ((Grow.refl (Wr := fun _ => True) o).freezeO hl lst_nt (hf l (by rw [ef]; simp))), fun a u q => by rw [upd_ne (ne_of_none q (hf l (by rw [ef]; simp)))]; exact q, fun a h1 h2 => by
    by_cases z : a = l
    · rw [z, ef]; simp
    · rw [upd_ne z] at h1; exact absurd h2 h1, ⟨l, us, ev, upd_same, r.mono fun a u q => by rw [upd_ne (ne_of_none q (hf l (by rw [ef]; simp)))]; exact q⟩⟩) h nv
end
end BF
set_option maxHeartbeats 4000000
namespace BF
open PySem PySem.Spec PyProof.Rows L2
/-! ## data that == compares -/
structure PyR {α : Type} (R : Rp α) (n : Nat) (f : α → PyData) (okx : α → Prop) : Prop where
  dp : ∀ (K : PySem.W.Frag) (F H : Hp) (v : V) (x : α), Same F H → R.rel x F v → Dp K H v (f x)
  lay : ∀ x, okx x → (f x).canLay0 = true
  dep : ∀ x, (f x).depth ≤ n
  eqv : ∀ x y, (PyData.eqv (f x) (f y) = true ↔ x = y)
theorem py_int : PyR rInt 0 (fun i => .int i) (fun _ => True) := ⟨fun K F H v x s r => (show v = V.int x from r) ▸ .int x, fun x _ => by simp [PyData.canLay0], fun x => by simp [PyData.depth], fun x y => by simp [PyData.eqv]⟩
theorem py_str : PyR rStr 0 (fun i => .str i) (fun x => PyData.strOk x = true) := ⟨fun K F H v x s r => (show v = V.str x from r) ▸ .str x, fun x h => by simp [PyData.canLay0, h], fun x => by simp [PyData.depth], fun x y => by simp [PyData.eqv]⟩
section
variable {α β : Type} {R : Rp α} {R2 : Rp β} {f : α → PyData} {g : β → PyData} {n m : Nat} {okx : α → Prop} {oky : β → Prop}
theorem py_all (h : PyR R n f okx) {K : PySem.W.Frag} {F H : Hp} (s : Same F H) : ∀ {xs : List α} {vs : List V}, RL R F xs vs → DpAll K H vs (xs.map f)
  | [], [], _ => .nil
  | x :: xs, v :: vs, r => .cons (h.dp K F H v x s r.1) (py_all h s r.2)
theorem py_lays (h : PyR R n f okx) : ∀ xs : List α, (∀ x ∈ xs, okx x) → PyData.canLayAll0 (xs.map f) = true
  | [], _ => by simp [PyData.canLayAll0]
  | x :: xs, k => by
    have ih := py_lays h xs fun y hy => k y (List.mem_cons_of_mem _ hy)
    simp [PyData.canLayAll0, h.lay x (k x List.mem_cons_self), ih]
theorem py_deps (h : PyR R n f okx) : ∀ xs : List α, PyData.depthAll (xs.map f) ≤ n
  | [] => by simp [PyData.depthAll]
  | x :: xs => by
    have ih := py_deps h xs
    have := h.dep x
    simp [PyData.depthAll]
    omega
theorem py_eqs (h : PyR R n f okx) : ∀ xs ys : List α, (PyData.eqvAll (xs.map f) (ys.map f) = true ↔ xs = ys)
  | [], [] => by simp [PyData.eqvAll]
  | [], _ :: _ => by simp [PyData.eqvAll]
  | _ :: _, [] => by simp [PyData.eqvAll]
  | x :: xs, y :: ys => by
    have ih := py_eqs h xs ys
    simp [PyData.eqvAll, h.eqv x y, ih]
theorem py_lst (h : PyR R n f okx) : PyR (rLst R) (n + 1) (fun xs => .list (xs.map f)) (fun xs => ∀ x ∈ xs, okx x) := ⟨fun K F H v xs s ⟨a, vs, e, hl, r⟩ => e ▸ .lst (SqL.of (s _ _ hl)) (py_all h s r),
  fun xs k => by simp [PyData.canLay0, py_lays h xs k], fun xs => by have := py_deps h xs; simp [PyData.depth]; omega, fun xs ys => by rw [PyData.eqv]; exact py_eqs h xs ys⟩
theorem py_t2 (h : PyR R n f okx) (k : PyR R2 n g oky) : PyR (rT2 R R2) (n + 1) (fun x => .tuple [f x.1, g x.2]) (fun x => okx x.1 ∧ oky x.2) := ⟨fun K F H v x s ⟨a, u, w, e, hl, r1, r2⟩ => e ▸ .tup (SqT.of (s _ _ hl)) (.cons (h.dp K F H u _ s r1) (.cons (k.dp K F H w _ s r2) .nil)),
  fun x z => by simp [PyData.canLay0, PyData.canLayAll0, h.lay x.1 z.1, k.lay x.2 z.2], fun x => by have := h.dep x.1; have := k.dep x.2; simp [PyData.depth, PyData.depthAll]; omega, fun x y => by
    obtain ⟨a, b⟩ := x
    obtain ⟨c, d⟩ := y
    simp [PyData.eqv, PyData.eqvAll, h.eqv a c, k.eqv b d]⟩
theorem py_en : PyR rEn 1 (fun x => .tuple [.int x.1, .int x.2]) (fun _ => True ∧ True) := py_t2 py_int py_int
/-- a list as it lies now -/
theorem pl_dp (h : PyR R n f okx) {K : PySem.W.Frag} {T : Tbs} {F H : Hp} {v : V} {xs : List α} (o : Ok T F H) (p : (pl R xs).p F H v) : Dp K H v (.list (xs.map f)) := by
  obtain ⟨a, vs, e, hl, r⟩ := p
  exact e ▸ .lst (SqL.of hl) (py_all h o.sub r)
theorem shaped_l (h : PyR R n f okx) (hn : n ≤ 60) (xs : List α) (hx : ∀ x ∈ xs, okx x) : SeqAt.shaped (.list (xs.map f)) = true := by
  have a := (py_lst h).lay xs hx
  have b := (py_lst h).dep xs
  unfold SeqAt.shaped
  rw [a, Bool.true_and]
  exact decide_eq_true (Nat.le_trans b (by omega))
theorem shaped_x (h : PyR R n f okx) (hn : n ≤ 60) (x : α) (hx : okx x) : SeqAt.shaped (f x) = true := by
  have a := h.lay x hx
  have b := h.dep x
  unfold SeqAt.shaped
  rw [a, Bool.true_and]
  exact decide_eq_true (Nat.le_trans b (by omega))
theorem eqv_dec (h : PyR R n f okx) [DecidableEq α] (xs ys : List α) : PyData.eqv (.list (xs.map f)) (.list (ys.map f)) = decide (xs = ys) := by
  rw [Bool.eq_iff_iff, decide_eq_true_iff]
  exact (py_lst h).eqv xs ys
end
section
variable {Z : Zx} {X : Cx} {e e1 e2 e3 tg iter c : Expr} {es : List Expr} {st : Stmt} {Γ : List Sl} {P P1 P2 S : Pv} {N : List Str} {sc : Scope} {vs ws : List Nat} {gs : List Str} {k : Nat} {pos p pos' : Pos} {α β γ : Type} {R : Rp α} {R2 : Rp β} {R3 : Rp γ} {f : α → PyData} {n : Nat} {okx : α → Prop}
theorem od_eqL [DecidableEq α] (B : Bd Z X N sc vs ws gs k) (h : PyR R n f okx) {xs ys : List α} (ox : ∀ x ∈ xs, okx x) (oy : ∀ y ∈ ys, okx y) (hn : n ≤ 60 := by decide) : OD Z X (compareOp .Eq) (pl R xs) (pl R ys) (pd rBool (decide (xs = ys))) :=
  .v (op_eqD B.hu) fun F H v w o hv hw Q q => ⟨_, _, pl_dp h o hv, pl_dp h o hw, shaped_l h hn xs ox, shaped_l h hn ys oy, q _ F H (Grow.refl o) (by rw [eqv_dec h]; rfl)⟩
theorem od_neL [DecidableEq α] (B : Bd Z X N sc vs ws gs k) (h : PyR R n f okx) {xs ys : List α} (ox : ∀ x ∈ xs, okx x) (oy : ∀ y ∈ ys, okx y) (hn : n ≤ 60 := by decide) : OD Z X (compareOp .NotEq) (pl R xs) (pl R ys) (pd rBool (!decide (xs = ys))) :=
  .v (op_neD B.hu) fun F H v w o hv hw Q q => ⟨_, _, pl_dp h o hv, pl_dp h o hw, shaped_l h hn xs ox, shaped_l h hn ys oy, q _ F H (Grow.refl o) (by rw [eqv_dec h]; rfl)⟩
/-- x in xs, whatever data -/
theorem any_mem [DecidableEq α] (h : PyR R n f okx) (x : α) (xs : List α) : ((xs.map f).any fun z => PyData.eqv z (f x)) = decide (x ∈ xs) := by
  rw [Bool.eq_iff_iff, decide_eq_true_iff, List.any_eq_true]
  constructor
  · rintro ⟨z, hz, e⟩
    obtain ⟨y, hy, rfl⟩ := List.mem_map.mp hz
    rw [h.eqv] at e
    exact e ▸ hy
  · intro hx
    exact ⟨f x, List.mem_map.mpr ⟨x, hx, rfl⟩, (h.eqv x x).mpr rfl⟩
theorem hu65 (B : Bd Z X N sc vs ws gs (k + 1)) : X.A.units + 65 < cLine := by
  have := B.room.un
  omega
theorem od_in [DecidableEq α] (B : Bd Z X N sc vs ws gs (k + 1)) (h : PyR R n f okx) {x : α} {xs : List α} (ox : okx x) (oy : ∀ y ∈ xs, okx y) (hn : n ≤ 60 := by decide) : OD Z X (compareOp .In) (pd R x) (pl R xs) (pd rBool (decide (x ∈ xs))) :=
  .v (op_inD (hu65 B)) fun F H v w o hv hw Q q => ⟨_, _, h.dp _ F H v x o.sub hv, pl_dp h o hw, shaped_x h hn x ox, shaped_l h hn xs oy, q _ F H (Grow.refl o) (by rw [any_mem h]; rfl)⟩
theorem od_notIn [DecidableEq α] (B : Bd Z X N sc vs ws gs (k + 1)) (h : PyR R n f okx) {x : α} {xs : List α} (ox : okx x) (oy : ∀ y ∈ xs, okx y) (hn : n ≤ 60 := by decide) : OD Z X (compareOp .NotIn) (pd R x) (pl R xs) (pd rBool (!decide (x ∈ xs))) :=
  .v (op_notInD (hu65 B)) fun F H v w o hv hw Q q => ⟨_, _, h.dp _ F H v x o.sub hv, pl_dp h o hw, shaped_x h hn x ox, shaped_l h hn xs oy, q _ F H (Grow.refl o) (by rw [any_mem h]; rfl)⟩
/-- an int, or None, in ints -/
theorem od_inO (B : Bd Z X N sc vs ws gs k) {x : Option Int} {xs : List Int} : OD Z X (compareOp .In) (pd (rOpt rInt) x) (pl rInt xs) (pd rBool (match x with | none => false | some y => decide (y ∈ xs))) :=
  .v op_in_seq fun F H v w o hv hw Q q => by
    obtain ⟨a, us, e, hl, r⟩ := hw
    rw [RL.map_int] at r
    subst r
    have fl : ∀ zs : List Int, (zs.map V.int).all flatV = true := fun zs => by
      rw [List.all_eq_true]
      intro z hz
      obtain ⟨i, _, rfl⟩ := List.mem_map.mp hz
      rfl
    cases x with
    | none =>
      obtain rfl : v = V.non := hv
      refine ⟨a, _, e, .inl (SqL.of hl), rfl, fl xs, q _ F H (Grow.refl o) ?_⟩
      show V.bl (inV .non (xs.map V.int)) = V.bl false
      have : inV .non (xs.map V.int) = false := by
        unfold inV
        rw [List.any_eq_false]
        intro z hz
        obtain ⟨i, _, rfl⟩ := List.mem_map.mp hz
        simp [eqV]
      rw [this]
    | some y =>
      obtain rfl : v = V.int y := hv.2
      refine ⟨a, _, e, .inl (SqL.of hl), rfl, fl xs, q _ F H (Grow.refl o) ?_⟩
      show V.bl (inV (.int y) (xs.map V.int)) = V.bl (decide (y ∈ xs))
      have : inV (.int y) (xs.map V.int) = decide (y ∈ xs) := by
        unfold inV
        rw [Bool.eq_iff_iff, List.any_eq_true, decide_eq_true_iff]
        constructor
        · rintro ⟨z, hz, ez⟩
          obtain ⟨i, hi, rfl⟩ := List.mem_map.mp hz
          have : i = y := by simpa [eqV] using ez
          exact this ▸ hi
        · intro hy
          exact ⟨V.int y, List.mem_map.mpr ⟨y, hy, rfl⟩, by simp [eqV]⟩
      rw [this]
/-- two entries in order -/
def enLt (x y : En) : Bool := if x.1 = y.1 then decide (x.2 < y.2) else decide (x.1 < y.1)
theorem od_ltE (B : Bd Z X N sc vs ws gs k) {x y : En} : OD Z X (compareOp .Lt) (pd rEn x) (pd rEn y) (pd rBool (enLt x y)) :=
  .v (op_ltT (by have := B.hu; omega)) fun F H v w o ⟨a, u1, u2, e1, h1, r1, r2⟩ ⟨b, w1, w2, e3, h2, r3, r4⟩ Q q => by
    obtain rfl : u1 = V.int x.1 := r1
    obtain rfl : u2 = V.int x.2 := r2
    obtain rfl : w1 = V.int y.1 := r3
    obtain rfl : w2 = V.int y.2 := r4
    refine ⟨a, b, [x.1, x.2], [y.1, y.2], e1, e3, SqT.of (o.sub _ _ h1), SqT.of (o.sub _ _ h2), q _ F H (Grow.refl o) ?_⟩
    show V.bl (HT.lexLt [x.1, x.2] [y.1, y.2]) = V.bl (enLt x y)
    rw [HT.lexLt_cons, HT.lexLt_cons, HT.lexLt_nil_nil]
    unfold enLt
    by_cases h : x.1 = y.1
    · rw [if_pos h, if_pos h]
      by_cases h' : x.2 = y.2
      · rw [if_pos h', h']; simp
      · rw [if_neg h']
    · rw [if_neg h, if_neg h]

/-! ## displays, slices, lengths, copies -/
inductive EAL (Z : Zx) (X : Cx) {α : Type} (R : Rp α) (Γ : List Sl) : List Expr → List α → Prop
  | nil : EAL Z X R Γ [] []
  | cons {e : Expr} {es : List Expr} {x : α} {xs : List α} (a : EV Z X e Γ (pd R x)) (r : EAL Z X R Γ es xs) (hs : starEach (e :: es) X.env = (false, eval e X.env) :: starEach es X.env := by rfl) : EAL Z X R Γ (e :: es) (x :: xs)
theorem EAL.ea {xs : List α} (h : EAL Z X R Γ es xs) : EA Z X es Γ (xs.map (pd R)) := by
  induction h with
  | nil => exact ea_nil
  | cons a r hs ih => exact ea_cons a ih hs
theorem allp_rl {F H : Hp} : ∀ {xs : List α} {us : List V}, AllP (xs.map (pd R)) F H us → RL R F xs us
  | [], [], _ => trivial
  | _ :: _, _ :: _, h => ⟨h.1, allp_rl h.2⟩
theorem ev_list {xs : List α} (a : EAL Z X R Γ es xs) (hz : xs.length ≤ 1000000 := by first | decide | exact Nat.le_of_ble_eq_true rfl) : EV Z X (.List es pos) Γ (pd (rLst R) xs) :=
  EV.of (pe_lst a.ea.pa) fun σ F G H Wr fts Q o S q => ⟨F, G, Wr, fts, o, S, fun us F1 H1 g1 p1 => by
    have r := allp_rl p1
    refine ⟨by rw [r.len, sizeLine_eq]; omega, fun l hl => ?_⟩
    have g2 : Grow Z.T nowhere F1 H1 (upd F1 l (.lst us)) (upd H1 l (.lst us)) := Grow.laid g1.ok hl lst_nt
    exact q _ _ _ (g1.step g2) ⟨l, us, rfl, upd_same, r.mono g2.ef⟩⟩
theorem tup_nt {xs : List V} : ∀ ps, HO.tup xs ≠ .tbl ps := fun ps z => by cases z
theorem ev_tup {xs : List α} {kk : Nat} (a : EAL Z X R Γ es xs) (hz : xs.length ≤ 1000000 := by first | decide | exact Nat.le_of_ble_eq_true rfl) : EV Z X (.Tuple es kk pos) Γ (pd (rTpl R) xs) :=
  EV.of (pe_tup a.ea.pa) fun σ F G H Wr fts Q o S q => ⟨F, G, Wr, fts, o, S, fun us F1 H1 g1 p1 => by
    have r := allp_rl p1
    refine ⟨by rw [r.len, sizeLine_eq]; omega, fun l hl => ?_⟩
    have g2 : Grow Z.T nowhere F1 H1 (upd F1 l (.tup us)) (upd H1 l (.tup us)) := Grow.laid g1.ok hl tup_nt
    exact q _ _ _ (g1.step g2) ⟨l, us, rfl, upd_same, r.mono g2.ef⟩⟩
theorem ev_t2 {x : α} {y : β} {kk : Nat} (a : EV Z X e1 Γ (pd R x)) (b : EV Z X e2 Γ (pd R2 y)) (hs : starEach (e1 :: [e2]) X.env = (false, eval e1 X.env) :: starEach [e2] X.env := by rfl) (hs2 : starEach (e2 :: []) X.env = (false, eval e2 X.env) :: starEach [] X.env := by rfl) : EV Z X (.Tuple [e1, e2] kk pos) Γ (pd (rT2 R R2) (x, y)) :=
  EV.of (pe_tup (ea2 a b hs hs2).pa) fun σ F G H Wr fts Q o S q => ⟨F, G, Wr, fts, o, S, fun us F1 H1 g1 p1 => by
    match us, p1 with
    | [u, w], ⟨r1, r2, _⟩ =>
      refine ⟨by rw [sizeLine_eq]; simp, fun l hl => ?_⟩
      have g2 : Grow Z.T nowhere F1 H1 (upd F1 l (.tup [u, w])) (upd H1 l (.tup [u, w])) := Grow.laid g1.ok hl tup_nt
      exact q _ _ _ (g1.step g2) ⟨l, u, w, rfl, upd_same, R.mono g2.ef r1, R2.mono g2.ef r2⟩⟩
theorem ev_t3 {x : α} {y : β} {z : γ} {kk : Nat} (a : EV Z X e1 Γ (pd R x)) (b : EV Z X e2 Γ (pd R2 y)) (c : EV Z X e3 Γ (pd R3 z)) (hs : starEach (e1 :: [e2, e3]) X.env = (false, eval e1 X.env) :: starEach [e2, e3] X.env := by rfl) (hs2 : starEach (e2 :: [e3]) X.env = (false, eval e2 X.env) :: starEach [e3] X.env := by rfl) (hs3 : starEach (e3 :: []) X.env = (false, eval e3 X.env) :: starEach [] X.env := by rfl) : EV Z X (.Tuple [e1, e2, e3] kk pos) Γ (pd (rT3 R R2 R3) (x, y, z)) :=
  EV.of (pe_tup (ea_cons a (ea2 b c hs2 hs3) hs).pa) fun σ F G H Wr fts Q o S q => ⟨F, G, Wr, fts, o, S, fun us F1 H1 g1 p1 => by
    match us, p1 with
    | [u, w, t], ⟨r1, r2, r3, _⟩ =>
      refine ⟨by rw [sizeLine_eq]; simp, fun l hl => ?_⟩
      have g2 : Grow Z.T nowhere F1 H1 (upd F1 l (.tup [u, w, t])) (upd H1 l (.tup [u, w, t])) := Grow.laid g1.ok hl tup_nt
      exact q _ _ _ (g1.step g2) ⟨l, u, w, t, rfl, upd_same, R.mono g2.ef r1, R2.mono g2.ef r2, R3.mono g2.ef r3⟩⟩
/-- a part of a slice -/
structure EO (Z : Zx) (X : Cx) (oe : Option Expr) (Γ : List Sl) (o : Option Int) : Prop where
  ex : ∃ to : TO, PO X oe to ∧ ∀ (σ : Sg) (F G H : Hp) (Wr : Addr → Prop) (fts : Nat → List Addr) (Q : Option Int → Hp → Prop), Ok Z.T F H → Sat Wr F G H Γ σ fts → (∀ F' H', Grow Z.T nowhere F H F' H' → Q o H') → to σ H Q
theorem eo_no : EO Z X none Γ none := ⟨_, po_none, fun σ F G H Wr fts Q o S q => q F H (Grow.refl o)⟩
theorem eo_so {i : Int} (a : EV Z X e Γ (pd rInt i)) : EO Z X (some e) Γ (some i) := ⟨_, po_some a.pe, fun σ F G H Wr fts Q o S q => ⟨F, G, Wr, fts, o, S, fun v F1 H1 g1 p1 => ⟨i, p1, q F1 H1 g1⟩⟩⟩
def cut {α : Type} (xs : List α) (lo hi : Option Int) : List α := (xs.drop (HT.sIx xs.length 0 lo)).take (HT.sIx xs.length xs.length hi - HT.sIx xs.length 0 lo)
theorem RL.cut {F : Hp} {xs : List α} {us : List V} (r : RL R F xs us) (lo hi : Option Int) : RL R F (BF.cut xs lo hi) (cutV us lo hi) := by
  unfold BF.cut cutV
  rw [r.len]
  exact (r.drop _).take _
theorem ev_slL {oa ob : Option Expr} {lo hi : Option Int} {p2 : Pos} {xs : List α} (a : EV Z X e Γ (pl R xs)) (l : EO Z X oa Γ lo) (h : EO Z X ob Γ hi) : EV Z X (.Subscript e (.Slice oa ob none p2) pos) Γ (pd (rLst R) (cut xs lo hi)) := by
  obtain ⟨tl, pl', hl⟩ := l.ex
  obtain ⟨th, ph, hh⟩ := h.ex
  refine EV.of (pe_slice sl_list a.pe pl' ph) fun σ F G H Wr fts Q o S q => ⟨F, G, Wr, fts, o, S, fun v F1 H1 g1 p1 => ?_⟩
  refine hl σ F1 G H1 Wr fts _ g1.ok (S.grow g1) fun F2 H2 g2 => ?_
  refine hh σ F2 G H2 Wr fts _ g2.ok ((S.grow g1).grow g2) fun F3 H3 g3 => ?_
  obtain ⟨t, us, ev, ht, r⟩ := (pl R xs).keep g3 ((pl R xs).keep g2 p1)
  refine ⟨t, us, ev, SqL.of ht, fun q' hq => ?_⟩
  have g4 : Grow Z.T nowhere F3 H3 (upd F3 q' (.lst (cutV us lo hi))) (upd H3 q' (.lst (cutV us lo hi))) := Grow.laid g3.ok hq lst_nt
  exact q _ _ _ (((g1.step g2).step g3).step g4) ⟨q', _, rfl, upd_same, (r.cut lo hi).mono g4.ef⟩
theorem ev_slT {oa ob : Option Expr} {lo hi : Option Int} {p2 : Pos} {xs : List α} (a : EV Z X e Γ (pd (rTpl R) xs)) (l : EO Z X oa Γ lo) (h : EO Z X ob Γ hi) : EV Z X (.Subscript e (.Slice oa ob none p2) pos) Γ (pd (rTpl R) (cut xs lo hi)) := by
  obtain ⟨tl, pl', hl⟩ := l.ex
  obtain ⟨th, ph, hh⟩ := h.ex
  refine EV.of (pe_slice sl_tupA a.pe pl' ph) fun σ F G H Wr fts Q o S q => ⟨F, G, Wr, fts, o, S, fun v F1 H1 g1 p1 => ?_⟩
  refine hl σ F1 G H1 Wr fts _ g1.ok (S.grow g1) fun F2 H2 g2 => ?_
  refine hh σ F2 G H2 Wr fts _ g2.ok ((S.grow g1).grow g2) fun F3 H3 g3 => ?_
  obtain ⟨t, us, ev, ht, r⟩ := (rTpl R).mono g3.ef ((rTpl R).mono g2.ef p1)
  have hn := r.len
  refine ⟨t, us, ev, SqT.of (g3.ok.sub _ _ ht), fun hw => ?_, fun _ q' hq => ?_⟩
  · refine q _ _ _ ((g1.step g2).step g3) ⟨t, us, rfl, ht, ?_⟩
    have e0 : cut xs lo hi = xs := by
      unfold cut
      rw [← hn, hw.1, hw.2]
      simp [hn]
    rw [e0]
    exact r
  · have g4 : Grow Z.T nowhere F3 H3 (upd F3 q' (.tup (cutV us lo hi))) (upd H3 q' (.tup (cutV us lo hi))) := Grow.laid g3.ok hq tup_nt
    exact q _ _ _ (((g1.step g2).step g3).step g4) ⟨q', _, rfl, upd_same, (r.cut lo hi).mono g4.ef⟩
end
end BF
set_option maxHeartbeats 4000000
namespace BF
open PySem PySem.Spec PyProof.Rows L2
/-! ## built-ins -/
section
variable {Z : Zx} {X : Cx} {e e1 e2 e3 tg iter c : Expr} {es : List Expr} {st : Stmt} {Γ : List Sl} {P P1 P2 S : Pv} {N : List Str} {sc : Scope} {vs ws : List Nat} {gs : List Str} {k : Nat} {pos p pos' : Pos} {α β γ : Type} {R : Rp α} {R2 : Rp β} {R3 : Rp γ} {f : α → PyData} {n : Nat} {okx : α → Prop}
theorem CD.v {f : Value} {Ps : List Pv} {r : List V → Hp → VK → Prop} (h : CallR X f r) (hr : ∀ (F H : Hp) (vs : List V), Ok Z.T F H → AllP Ps F H vs → ∀ Q : VK, (∀ u F' H', Grow Z.T nowhere F H F' H' → S.p F' H' u → Q u H') → r vs H Q) : CD Z X f Ps S := ⟨r, h, hr⟩
theorem CD.v1 {f : Value} {r : List V → Hp → VK → Prop} (h : CallR X f r) (hr : ∀ (F H : Hp) (v : V), Ok Z.T F H → P.p F H v → ∀ Q : VK, (∀ u F' H', Grow Z.T nowhere F H F' H' → S.p F' H' u → Q u H') → r [v] H Q) : CD Z X f [P] S := .v h fun F H vs o p Q q => by
  match vs, p with
  | [v], ⟨p, _⟩ => exact hr F H v o p Q q
theorem CD.v2 {f : Value} {r : List V → Hp → VK → Prop} (h : CallR X f r) (hr : ∀ (F H : Hp) (v w : V), Ok Z.T F H → P1.p F H v → P2.p F H w → ∀ Q : VK, (∀ u F' H', Grow Z.T nowhere F H F' H' → S.p F' H' u → Q u H') → r [v, w] H Q) : CD Z X f [P1, P2] S := .v h fun F H vs o p Q q => by
  match vs, p with
  | [v, w], ⟨p, p2, _⟩ => exact hr F H v w o p p2 Q q
theorem b1 (B : Bd Z X N sc vs ws gs k) (E : Top Z) {x : Str} {id : String} (c : CD Z X (.builtin id) [P] S) (hv : bootBuiltins x = some (.builtin id)) (a : EV Z X e Γ P) (hg : x ∈ gs) (hx : x ∈ blts) (he : starEach (e :: []) X.env = (false, eval e X.env) :: starEach [] X.env) : EV Z X (.Call (.Name x p) [e] [] pos) Γ S :=
  ev_callB B c (E.fr x hx) hv (ea1 a he) hg he rfl
theorem t1 (B : Bd Z X N sc vs ws gs k) (E : Top Z) {x : Str} {id : String} (c : CD Z X (.type id) [P] S) (hv : bootBuiltins x = some (.type id)) (a : EV Z X e Γ P) (hg : x ∈ gs) (hx : x ∈ blts) (he : starEach (e :: []) X.env = (false, eval e X.env) :: starEach [] X.env) : EV Z X (.Call (.Name x p) [e] [] pos) Γ S :=
  ev_callT B c (E.fr x hx) hv (ea1 a he) hg he rfl
theorem ev_lenL (B : Bd Z X N sc vs ws gs k) (E : Top Z) {xs : List α} (a : EV Z X e Γ (pl R xs)) (hg : ("len" : Str) ∈ gs := by decide +kernel) (he : starEach (e :: []) X.env = (false, eval e X.env) :: starEach [] X.env := by rfl) : EV Z X (.Call (.Name "len" p) [e] [] pos) Γ (pd rInt (xs.length : Int)) :=
  b1 B E (.v1 (P := pl R xs) call_len_seq fun F H v o ⟨l, us, ev, hl, r⟩ Q q => ⟨l, us, by rw [ev], .inl (SqL.of hl), by rw [r.len]; exact q _ F H (Grow.refl o) rfl⟩) PySem.boot_len a hg (by decide +kernel) he
theorem ev_lenT (B : Bd Z X N sc vs ws gs k) (E : Top Z) {xs : List α} (a : EV Z X e Γ (pt R xs)) (hg : ("len" : Str) ∈ gs := by decide +kernel) (he : starEach (e :: []) X.env = (false, eval e X.env) :: starEach [] X.env := by rfl) : EV Z X (.Call (.Name "len" p) [e] [] pos) Γ (pd rInt (xs.length : Int)) :=
  b1 B E (.v1 (P := pt R xs) call_len_seq fun F H v o ⟨l, us, ev, hl, r⟩ Q q => ⟨l, us, by rw [ev], .inr (SqT.of hl), by rw [r.len]; exact q _ F H (Grow.refl o) rfl⟩) PySem.boot_len a hg (by decide +kernel) he
theorem ev_lenS (B : Bd Z X N sc vs ws gs k) (E : Top Z) {x : Str} (a : EV Z X e Γ (pd rStr x)) (h : x.length ≤ sizeLine) (hg : ("len" : Str) ∈ gs := by decide +kernel) (he : starEach (e :: []) X.env = (false, eval e X.env) :: starEach [] X.env := by rfl) : EV Z X (.Call (.Name "len" p) [e] [] pos) Γ (pd rInt (x.length : Int)) :=
  b1 B E (.v1 call_len_str fun F H v o pv Q q => ⟨x, by rw [show v = V.str x from pv], h, q _ F H (Grow.refl o) rfl⟩) PySem.boot_len a hg (by decide +kernel) he
theorem ev_listL (B : Bd Z X N sc vs ws gs k) (E : Top Z) {xs : List α} (a : EV Z X e Γ (pl R xs)) (hg : ("list" : Str) ∈ gs := by decide +kernel) (he : starEach (e :: []) X.env = (false, eval e X.env) :: starEach [] X.env := by rfl) : EV Z X (.Call (.Name "list" p) [e] [] pos) Γ (pd (rLst R) xs) :=
  t1 B E (.v1 (P := pl R xs) call_list_of fun F H v o ⟨l, us, ev, hl, r⟩ Q q => ⟨l, us, by rw [ev], .inl (SqL.of hl), fun d hd => by
    have g : Grow Z.T nowhere F H (upd F d (.lst us)) (upd H d (.lst us)) := Grow.laid o hd lst_nt
    exact q _ _ _ g ⟨d, us, rfl, upd_same, r.mono g.ef⟩⟩) (by decide +kernel) a hg (by decide +kernel) he
theorem ev_listT (B : Bd Z X N sc vs ws gs k) (E : Top Z) {xs : List α} (a : EV Z X e Γ (pt R xs)) (hg : ("list" : Str) ∈ gs := by decide +kernel) (he : starEach (e :: []) X.env = (false, eval e X.env) :: starEach [] X.env := by rfl) : EV Z X (.Call (.Name "list" p) [e] [] pos) Γ (pd (rLst R) xs) :=
  t1 B E (.v1 (P := pt R xs) call_list_of fun F H v o ⟨l, us, ev, hl, r⟩ Q q => ⟨l, us, by rw [ev], .inr (SqT.of hl), fun d hd => by
    have g : Grow Z.T nowhere F H (upd F d (.lst us)) (upd H d (.lst us)) := Grow.laid o hd lst_nt
    exact q _ _ _ g ⟨d, us, rfl, upd_same, r.mono g.ef⟩⟩) (by decide +kernel) a hg (by decide +kernel) he
/-- list of a pair -/
theorem ev_listT2 (B : Bd Z X N sc vs ws gs k) (E : Top Z) {x : α × α} (a : EV Z X e Γ (pd (rT2 R R) x)) (hg : ("list" : Str) ∈ gs := by decide +kernel) (he : starEach (e :: []) X.env = (false, eval e X.env) :: starEach [] X.env := by rfl) : EV Z X (.Call (.Name "list" p) [e] [] pos) Γ (pd (rLst R) [x.1, x.2]) :=
  ev_listT B E (a.imp fun F H v o ⟨l, u, w, ev, hl, r1, r2⟩ => ⟨l, [u, w], ev, o.sub _ _ hl, r1, r2, trivial⟩) hg he
theorem ev_tupleL (B : Bd Z X N sc vs ws gs k) (E : Top Z) {xs : List α} (a : EV Z X e Γ (pl R xs)) (hg : ("tuple" : Str) ∈ gs := by decide +kernel) (he : starEach (e :: []) X.env = (false, eval e X.env) :: starEach [] X.env := by rfl) : EV Z X (.Call (.Name "tuple" p) [e] [] pos) Γ (pd (rTpl R) xs) :=
  t1 B E (.v1 (P := pl R xs) call_tuple_of fun F H v o ⟨l, us, ev, hl, r⟩ Q q => ⟨l, us, by rw [ev], .inl ⟨SqL.of hl, fun d hd => by
    have g : Grow Z.T nowhere F H (upd F d (.tup us)) (upd H d (.tup us)) := Grow.laid o hd tup_nt
    exact q _ _ _ g ⟨d, us, rfl, upd_same, r.mono g.ef⟩⟩⟩) (by decide +kernel) a hg (by decide +kernel) he
theorem ev_abs (B : Bd Z X N sc vs ws gs k) (E : Top Z) {i : Int} (a : EV Z X e Γ (pd rInt i)) (hg : ("abs" : Str) ∈ gs := by decide +kernel) (he : starEach (e :: []) X.env = (false, eval e X.env) :: starEach [] X.env := by rfl) : EV Z X (.Call (.Name "abs" p) [e] [] pos) Γ (pd rInt (i.natAbs : Int)) :=
  b1 B E (.v1 call_abs fun F H v o pv Q q => ⟨i, by rw [show v = V.int i from pv], q _ F H (Grow.refl o) (congrArg V.int (by split <;> omega))⟩) (by decide +kernel) a hg (by decide +kernel) he
theorem ev_intB (B : Bd Z X N sc vs ws gs k) (E : Top Z) {b : Bool} (a : EV Z X e Γ (pd rBool b)) (hg : ("int" : Str) ∈ gs := by decide +kernel) (he : starEach (e :: []) X.env = (false, eval e X.env) :: starEach [] X.env := by rfl) : EV Z X (.Call (.Name "int" p) [e] [] pos) Γ (pd rInt (if b then 1 else 0)) :=
  t1 B E (.v1 call_int1 fun F H v o pv Q q => .inr ⟨b, by rw [show v = V.bl b from pv], q _ F H (Grow.refl o) rfl⟩) (by decide +kernel) a hg (by decide +kernel) he
theorem ev_intS (B : Bd Z X N sc vs ws gs k) (E : Top Z) {x : Str} {i : Int} (a : EV Z X e Γ (pd rStr x)) (h : PySem.intText? x = some i) (hz : x.length ≤ 640) (hg : ("int" : Str) ∈ gs := by decide +kernel) (he : starEach (e :: []) X.env = (false, eval e X.env) :: starEach [] X.env := by rfl) : EV Z X (.Call (.Name "int" p) [e] [] pos) Γ (pd rInt i) :=
  t1 B E (.v1 call_int_str fun F H v o pv Q q => ⟨x, i, by rw [show v = V.str x from pv], h, hz, q _ F H (Grow.refl o) rfl⟩) (by decide +kernel) a hg (by decide +kernel) he
/-- a number as a text -/
def sI (i : Int) : Str := (toString i : String)
theorem ev_strI (B : Bd Z X N sc vs ws gs k) (E : Top Z) {i : Int} (a : EV Z X e Γ (pd rInt i)) (h : i.natAbs.log2 < 1920) (hg : ("str" : Str) ∈ gs := by decide +kernel) (he : starEach (e :: []) X.env = (false, eval e X.env) :: starEach [] X.env := by rfl) : EV Z X (.Call (.Name "str" p) [e] [] pos) Γ (pd rStr (sI i)) :=
  t1 B E (.v1 call_str_int fun F H v o pv Q q => ⟨i, by rw [show v = V.int i from pv], h, q _ F H (Grow.refl o) rfl⟩) (by decide +kernel) a hg (by decide +kernel) he
theorem ev_strS (B : Bd Z X N sc vs ws gs k) (E : Top Z) {x : Str} (a : EV Z X e Γ (pd rStr x)) (hg : ("str" : Str) ∈ gs := by decide +kernel) (he : starEach (e :: []) X.env = (false, eval e X.env) :: starEach [] X.env := by rfl) : EV Z X (.Call (.Name "str" p) [e] [] pos) Γ (pd rStr x) :=
  t1 B E (.v1 SkE.call_str_str fun F H v o pv Q q => ⟨x, by rw [show v = V.str x from pv], q _ F H (Grow.refl o) rfl⟩) (by decide +kernel) a hg (by decide +kernel) he
theorem ev_sum (B : Bd Z X N sc vs ws gs k) (E : Top Z) {xs : List Int} (a : EV Z X e Γ (pl rInt xs)) (hg : ("sum" : Str) ∈ gs := by decide +kernel) (he : starEach (e :: []) X.env = (false, eval e X.env) :: starEach [] X.env := by rfl) : EV Z X (.Call (.Name "sum" p) [e] [] pos) Γ (pd rInt xs.sum) :=
  b1 B E (.v1 (P := pl rInt xs) (cr_sum B.calm) fun F H v o ⟨l, us, ev, hl, r⟩ Q q => ⟨l, xs, by rw [ev], SqL.of (by rw [RL.map_int.mp r] at hl; exact hl), q _ F H (Grow.refl o) rfl⟩) (by decide +kernel) a hg (by decide +kernel) he
theorem ev_any (B : Bd Z X N sc vs ws gs k) (E : Top Z) {xs : List Bool} (a : EV Z X e Γ (pl rBool xs)) (hg : ("any" : Str) ∈ gs := by decide +kernel) (he : starEach (e :: []) X.env = (false, eval e X.env) :: starEach [] X.env := by rfl) : EV Z X (.Call (.Name "any" p) [e] [] pos) Γ (pd rBool (xs.any id)) :=
  b1 B E (.v1 (P := pl rBool xs) (cr_any B.calm) fun F H v o ⟨l, us, ev, hl, r⟩ Q q => ⟨l, xs, by rw [ev], SqL.of (by rw [RL.map_bl.mp r] at hl; exact hl), q _ F H (Grow.refl o) rfl⟩) (by decide +kernel) a hg (by decide +kernel) he
theorem ev_all (B : Bd Z X N sc vs ws gs k) (E : Top Z) {xs : List Bool} (a : EV Z X e Γ (pl rBool xs)) (hg : ("all" : Str) ∈ gs := by decide +kernel) (he : starEach (e :: []) X.env = (false, eval e X.env) :: starEach [] X.env := by rfl) : EV Z X (.Call (.Name "all" p) [e] [] pos) Γ (pd rBool (xs.all id)) :=
  b1 B E (.v1 (P := pl rBool xs) (cr_all B.calm) fun F H v o ⟨l, us, ev, hl, r⟩ Q q => ⟨l, xs, by rw [ev], SqL.of (by rw [RL.map_bl.mp r] at hl; exact hl), q _ F H (Grow.refl o) rfl⟩) (by decide +kernel) a hg (by decide +kernel) he
theorem ev_min (B : Bd Z X N sc vs ws gs k) (E : Top Z) {xs : List Int} {m : Int} (a : EV Z X e Γ (pl rInt xs)) (h : m ∈ xs ∧ ∀ y ∈ xs, m ≤ y) (hg : ("min" : Str) ∈ gs := by decide +kernel) (he : starEach (e :: []) X.env = (false, eval e X.env) :: starEach [] X.env := by rfl) : EV Z X (.Call (.Name "min" p) [e] [] pos) Γ (pd rInt m) :=
  b1 B E (.v1 (P := pl rInt xs) (cr_min B.calm) fun F H v o ⟨l, us, ev, hl, r⟩ Q q => ⟨l, xs, by rw [ev], SqL.of (by rw [RL.map_int.mp r] at hl; exact hl), List.length_pos_of_mem h.1, fun m' h1 h2 => by
    have : m' = m := by
      have a1 := h2 m h.1
      have a2 := h.2 m' h1
      omega
    exact q _ F H (Grow.refl o) (congrArg V.int this)⟩) (by decide +kernel) a hg (by decide +kernel) he
theorem ev_max2 (B : Bd Z X N sc vs ws gs k) (E : Top Z) {i j : Int} (a : EV Z X e1 Γ (pd rInt i)) (b : EV Z X e2 Γ (pd rInt j)) (hg : ("max" : Str) ∈ gs := by decide +kernel) (he : starEach (e1 :: [e2]) X.env = (false, eval e1 X.env) :: starEach [e2] X.env := by rfl) (he2 : starEach (e2 :: []) X.env = (false, eval e2 X.env) :: starEach [] X.env := by rfl) (hpl : (backTo pos (starEach [e2] X.env)).any (·.1) = false := by rfl) : EV Z X (.Call (.Name "max" p) [e1, e2] [] pos) Γ (pd rInt (max i j)) :=
  ev_callB B (.v2 (P1 := pd rInt i) (P2 := pd rInt j) (call_max2 B.calm) fun F H v w o pv pw Q q => ⟨i, j, by rw [show v = V.int i from pv, show w = V.int j from pw], q _ F H (Grow.refl o) (congrArg V.int (by split <;> omega))⟩) (E.f "max") (by decide +kernel) (ea2 a b he he2) hg he hpl
theorem ev_min2 (B : Bd Z X N sc vs ws gs k) (E : Top Z) {i j : Int} (a : EV Z X e1 Γ (pd rInt i)) (b : EV Z X e2 Γ (pd rInt j)) (hg : ("min" : Str) ∈ gs := by decide +kernel) (he : starEach (e1 :: [e2]) X.env = (false, eval e1 X.env) :: starEach [e2] X.env := by rfl) (he2 : starEach (e2 :: []) X.env = (false, eval e2 X.env) :: starEach [] X.env := by rfl) (hpl : (backTo pos (starEach [e2] X.env)).any (·.1) = false := by rfl) : EV Z X (.Call (.Name "min" p) [e1, e2] [] pos) Γ (pd rInt (min i j)) :=
  ev_callB B (.v2 (P1 := pd rInt i) (P2 := pd rInt j) (call_min2 B.calm) fun F H v w o pv pw Q q => ⟨i, j, by rw [show v = V.int i from pv, show w = V.int j from pw], q _ F H (Grow.refl o) (congrArg V.int (by split <;> omega))⟩) (E.f "min") (by decide +kernel) (ea2 a b he he2) hg he hpl
/-- sorted(ints): the list ys is that -/
theorem perm_sorted_eq : ∀ {xs ys : List Int}, xs.Perm ys → xs.Pairwise (· ≤ ·) → ys.Pairwise (· ≤ ·) → xs = ys
  | [], ys, h, _, _ => (List.Perm.nil_eq h)
  | x :: xs, [], h, _, _ => by have := h.length_eq; simp at this
  | x :: xs, y :: ys, h, h1, h2 => by
    have hx : x ∈ y :: ys := h.subset List.mem_cons_self
    have hy : y ∈ x :: xs := h.symm.subset List.mem_cons_self
    have a : y ≤ x := by
      rcases List.mem_cons.mp hx with e | e
      · omega
      · exact (List.pairwise_cons.mp h2).1 x e
    have b : x ≤ y := by
      rcases List.mem_cons.mp hy with e | e
      · omega
      · exact (List.pairwise_cons.mp h1).1 y e
    have e : x = y := by omega
    subst e
    rw [perm_sorted_eq (List.Perm.cons_inv h) (List.pairwise_cons.mp h1).2 (List.pairwise_cons.mp h2).2]
theorem ev_sortedI (B : Bd Z X N sc vs ws gs k) (E : Top Z) {xs ys : List Int} (a : EV Z X e Γ (pl rInt xs)) (h1 : ys.Perm xs) (h2 : ys.Pairwise (· ≤ ·)) (hg : ("sorted" : Str) ∈ gs := by decide +kernel) (he : starEach (e :: []) X.env = (false, eval e X.env) :: starEach [] X.env := by rfl) : EV Z X (.Call (.Name "sorted" p) [e] [] pos) Γ (pd (rLst rInt) ys) :=
  b1 B E (.v1 (P := pl rInt xs) cr_sortedI fun F H v o ⟨l, us, ev, hl, r⟩ Q q => ⟨l, xs, by rw [ev], SqL.of (by rw [RL.map_int.mp r] at hl; exact hl), fun zs d hp hs hd => by
    have e0 : zs = ys := perm_sorted_eq (hp.trans h1.symm) hs h2
    subst e0
    have g : Grow Z.T nowhere F H (upd F d (.lst (zs.map V.int))) (upd H d (.lst (zs.map V.int))) := Grow.laid o hd lst_nt
    exact q _ _ _ g ⟨d, _, rfl, upd_same, RL.map_int.mpr rfl⟩⟩) (by decide +kernel) a hg (by decide +kernel) he
/-! ### texts -/
theorem ev_split (B : Bd Z X N sc vs ws gs k) {x y : Str} {ap : Pos} (a : EV Z X e1 Γ (pd rStr x)) (b : EV Z X e2 Γ (pd rStr y)) (hy : (y.length == 0) = false) (hx : x.length + 2 ≤ sizeLine) (hs : starEach [e2] X.env = [(false, eval e2 X.env)] := by rfl) (hbase : attributeBase e1 "split" X.env (eval e1 X.env) = eval e1 X.env := by rfl) (hline : (ap.endLine == pos.line) = true := by rfl) :
    EV Z X (.Call (.Attribute e1 "split" ap) [e2] [] pos) Γ (pd (rLst rStr) (Txt.split x y)) :=
  EV.of (pe_split a.pe b.pe hs hbase hline) fun σ F G H Wr fts Q o S q => ⟨F, G, Wr, fts, o, S, fun v F1 H1 g1 p1 => ⟨⟨x, p1⟩, F1, G, Wr, fts, g1.ok, S.grow g1, fun w F2 H2 g2 p2 => ⟨x, y, p1, by rw [show w = V.str y from p2], hy, hx, fun d hd => by
    have g3 : Grow Z.T nowhere F2 H2 (upd F2 d (.lst ((Txt.split x y).map V.str))) (upd H2 d (.lst ((Txt.split x y).map V.str))) := Grow.laid g2.ok hd lst_nt
    exact q _ _ _ ((g1.step g2).step g3) ⟨d, _, rfl, upd_same, RL.map_str.mpr rfl⟩⟩⟩⟩
theorem ev_join (B : Bd Z X N sc vs ws gs k) {x : Str} {ys : List Str} {ap : Pos} (a : EV Z X e1 Γ (pd rStr x)) (b : EV Z X e2 Γ (pl rStr ys)) (hz : (ys.map (·.length)).sum + ys.length * x.length ≤ 16777216) (hs : starEach [e2] X.env = [(false, eval e2 X.env)] := by rfl) (hbase : attributeBase e1 "join" X.env (eval e1 X.env) = eval e1 X.env := by rfl) (hline : (ap.endLine == pos.line) = true := by rfl) :
    EV Z X (.Call (.Attribute e1 "join" ap) [e2] [] pos) Γ (pd rStr (Txt.join x ys)) :=
  EV.of (pe_join a.pe b.pe hs hbase hline) fun σ F G H Wr fts Q o S q => ⟨F, G, Wr, fts, o, S, fun v F1 H1 g1 p1 => ⟨⟨x, p1⟩, F1, G, Wr, fts, g1.ok, S.grow g1, fun w F2 H2 g2 ⟨l, us, ev, hl, r⟩ => ⟨x, l, ys, p1, by rw [ev], .inl (SqL.of (by rw [RL.map_str.mp r] at hl; exact hl)), hz, q _ F2 H2 (g1.step g2) rfl⟩⟩⟩
theorem ev_slS {oa ob : Option Expr} {lo hi : Option Int} {p2 : Pos} {x : Str} (a : EV Z X e Γ (pd rStr x)) (l : EO Z X oa Γ lo) (h : EO Z X ob Γ hi) (hz : x.length ≤ sizeLine) : EV Z X (.Subscript e (.Slice oa ob none p2) pos) Γ (pd rStr (cutS x lo hi)) := by
  obtain ⟨tl, pl', hl⟩ := l.ex
  obtain ⟨th, ph, hh⟩ := h.ex
  refine EV.of (pe_slice sl_str a.pe pl' ph) fun σ F G H Wr fts Q o S q => ⟨F, G, Wr, fts, o, S, fun v F1 H1 g1 p1 => ?_⟩
  refine hl σ F1 G H1 Wr fts _ g1.ok (S.grow g1) fun F2 H2 g2 => ?_
  refine hh σ F2 G H2 Wr fts _ g2.ok ((S.grow g1).grow g2) fun F3 H3 g3 => ?_
  exact ⟨x, p1, hz, q _ F3 H3 ((g1.step g2).step g3) rfl⟩
theorem ev_ixS {x : Str} {i : Int} {cc : Nat} (a : EV Z X e1 Γ (pd rStr x)) (b : EV Z X e2 Γ (pd rInt i)) (hz : x.length ≤ sizeLine) (hx : atI x.cps.toList i = some cc) (hp : PlainIx e2 := by exact fun _ _ => rfl) : EV Z X (.Subscript e1 e2 pos) Γ (pd rStr ⟨#[cc]⟩) :=
  EV.of (pe_ix ix_str a.pe b.pe hp) fun σ F G H Wr fts Q o S q => ⟨F, G, Wr, fts, o, S, fun v F1 H1 g1 p1 => ⟨F1, G, Wr, fts, g1.ok, S.grow g1, fun w F2 H2 g2 p2 => ⟨x, i, cc, p1, p2, hz, hx, q _ F2 H2 (g1.step g2) rfl⟩⟩⟩
theorem od_notInS {cc : Nat} {x : Str} : OD Z X (compareOp .NotIn) (pd rStr ⟨#[cc]⟩) (pd rStr x) (pd rBool (!decide (cc ∈ x.cps.toList))) :=
  .v op_notIn_sign fun F H v w o hv hw Q q => ⟨cc, x, hv, hw, q _ F H (Grow.refl o) rfl⟩
/-! ### isinstance -/
inductive ET0 (Z : Zx) (X : Cx) (Γ : List Sl) : Expr → String → Prop
  | mk {x : Str} {pos : Pos} {t : String} (h : EV Z X (.Name x pos) Γ ⟨fun _ _ v => v = .ty t, fun _ h => h⟩) : ET0 Z X Γ (.Name x pos) t
theorem ev_ty (B : Bd Z X N sc vs ws gs k) (E : Top Z) {x : Str} {t : String} (hv : bootBuiltins x = some (.type t) := by decide +kernel) (hg : x ∈ gs := by decide +kernel) (hx : x ∈ blts := by decide +kernel) : EV Z X (.Name x pos) Γ ⟨fun _ _ v => v = .ty t, fun _ h => h⟩ := by
  obtain ⟨d1, d2, d3⟩ := plainName_ok (B.nm.pg x hg)
  exact EV.of (pe_bltn (v := .ty t) (B.gx hg) (by rw [B.mg]; exact E.fr x hx) hv rfl d3 d1) fun σ F G H Wr fts Q o S q => q _ F H (Grow.refl o) rfl
/-- what a value's class is -/
structure TyP (P : Pv) (t : String) : Prop where
  ok : ∀ (K : PySem.W.Frag) (T : Tbs) (F H : Hp) (v : V), Ok T F H → P.p F H v → TyX K H v (.type t)
theorem ev_isi (B : Bd Z X N sc vs ws gs k) (E : Top Z) {x : Str} {t u : String} {b : Bool} {p2 : Pos} (a : EV Z X e Γ P) (h : TyP P t) (hk : kitB t u = some b) (hv : bootBuiltins x = some (.type u) := by decide +kernel) (hg : ("isinstance" : Str) ∈ gs := by decide +kernel) (hg2 : x ∈ gs := by decide +kernel) (hx : x ∈ blts := by decide +kernel)
    (he : starEach (e :: [.Name x p2]) X.env = (false, eval e X.env) :: starEach [.Name x p2] X.env := by rfl) : EV Z X (.Call (.Name "isinstance" p) [e, .Name x p2] [] pos) Γ (pd rBool b) :=
  ev_callB B (.v2 (P1 := P) (P2 := ⟨fun _ _ v => v = .ty u, fun _ h => h⟩) call_isi fun F H v w o pv pw Q q => ⟨v, w, .type t, .type u, b, rfl, (show w = V.ty u from pw) ▸ .ty u, h.ok _ Z.T F H v o pv, kit_ty hk, q _ F H (Grow.refl o) rfl⟩) (E.f "isinstance") (by decide +kernel) (ea2 a (ev_ty B E hv hg2 hx) he rfl) hg he rfl
theorem ty_int {i : Int} : TyP (pd rInt i) "int" := ⟨fun K T F H v o pv => (show v = V.int i from pv) ▸ .base (.int i)⟩
theorem ty_str {i : Str} : TyP (pd rStr i) "str" := ⟨fun K T F H v o pv => (show v = V.str i from pv) ▸ .base (.str i)⟩
theorem ty_lst {xs : List α} : TyP (pl R xs) "list" := ⟨fun K T F H v o ⟨a, us, e, hl, r⟩ => e ▸ .base (.lst hl)⟩
theorem ty_tup {xs : List α} : TyP (pt R xs) "tuple" := ⟨fun K T F H v o ⟨a, us, e, hl, r⟩ => e ▸ .base (.tup hl)⟩
end
end BF
set_option maxHeartbeats 4000000
namespace BF
open PySem PySem.Spec PyProof.Rows L2
section
variable {Z : Zx} {X : Cx} {e e1 e2 e3 tg iter c : Expr} {st : Stmt} {sts rest body : List Stmt} {Γ : List Sl} {P P1 P2 S : Pv} {N : List Str} {sc : Scope} {vs ws : List Nat} {gs : List Str} {k : Nat} {pos p pos' : Pos} {D : Fin} {α β γ : Type} {R : Rp α} {R2 : Rp β} {R3 : Rp γ}
/-! ## enumerate, zip, reversed -/
def enumI {α : Type} (xs : List α) : List (Int × α) := xs.zipIdx.map fun p => ((p.2 : Int), p.1)
theorem enumI_at {xs : List α} {i : Nat} {y : Int × α} (h : (enumI xs)[i]? = some y) : y.1 = i ∧ xs[i]? = some y.2 := by
  unfold enumI at h
  rw [List.getElem?_map, List.getElem?_zipIdx] at h
  cases q : xs[i]? with
  | none => rw [q] at h; cases h
  | some x => rw [q] at h; simp at h; rw [← h]; exact ⟨rfl, rfl⟩
theorem enumI_len (xs : List α) : (enumI xs).length = xs.length := by unfold enumI; simp
theorem laid2 {F H : Hp} {T : Tbs} {a : Addr} {u w : V} {x : α} {y : β} (o : Ok T F H) (ha : H a = none) (r1 : R.rel x F u) (r2 : R2.rel y F w) : ∃ F', Grow T nowhere F H F' (upd H a (.tup [u, w])) ∧ (rT2 R R2).rel (x, y) F' (.ref a) := by
  have g : Grow T nowhere F H (upd F a (.tup [u, w])) (upd H a (.tup [u, w])) := Grow.laid o ha tup_nt
  exact ⟨_, g, a, u, w, rfl, upd_same, R.mono g.ef r1, R2.mono g.ef r2⟩
theorem gi_enum {elts : List Expr} {kk : Nat} {tpos : Pos} (B : Bd Z X N sc vs ws gs k) (E : Top Z) {xs : List α} (a : EV Z X e Γ (pd (rLst R) xs)) (hg : ("enumerate" : Str) ∈ gs := by decide +kernel) (hs : starEach [e] X.env = [(false, eval e X.env)] := by rfl) (hs2 : starEach (e :: []) X.env = (false, eval e X.env) :: starEach [] X.env := by rfl) :
    GI Z X (.Tuple elts kk tpos) (.Call (.Name "enumerate" p) [e] [] pos) Γ true (rT2 rInt R) (enumI xs) :=
  ⟨_, pi_enum (B.gx hg) (by rw [B.mg]; exact E.f "enumerate") (ea1 a hs2).pa hs, fun σ F G H Wr fts Rk o S q => ⟨F, G, Wr, fts, o, S, fun us F1 H1 g1 p1 => by
    match us, p1 with
    | [v], ⟨⟨l, us, ev, hl, r⟩, _⟩ =>
      refine ⟨l, us, by rw [ev], SqL.of (g1.ok.sub _ _ hl), q _ F1 H1 g1 fun i F2 H2 o2 s2 k2 => ?_⟩
      have hl2 := o2.sub _ _ (s2 _ _ hl)
      refine ⟨fun y hy => ?_, fun hi => ⟨us, SqL.of hl2, by rw [r.len, hi, enumI_len]; exact Nat.le_refl _⟩⟩
      obtain ⟨e1, e2⟩ := enumI_at hy
      obtain ⟨w, hw, rw'⟩ := r.get e2
      refine ⟨⟨us, w, SqL.of hl2, hw⟩, fun v' H' y' => ?_⟩
      obtain ⟨a, x, ev', ha, eH, f⟩ := y'
      have := f us (SqL.of hl2)
      rw [hw] at this
      cases this
      subst ev' eH
      obtain ⟨F', g', r'⟩ := laid2 (R := rInt) (R2 := R) (x := y.1) (y := y.2) o2 ha (u := .int (i : Nat)) (by rw [e1]; rfl) (R.mono s2 rw')
      exact ⟨F', g', r'⟩⟩⟩
theorem zip_at {xs : List α} {ys : List β} {i : Nat} {y : α × β} (h : (xs.zip ys)[i]? = some y) : xs[i]? = some y.1 ∧ ys[i]? = some y.2 := by
  rw [List.getElem?_zip_eq_some] at h
  exact h
theorem gi_zipL {elts : List Expr} {kk : Nat} {tpos : Pos} (B : Bd Z X N sc vs ws gs k) (E : Top Z) {xs : List α} {ys : List β} (a : EV Z X e Γ (pd (rLst R) xs)) (b : EV Z X e2 Γ (pd (rLst R2) ys)) (hg : ("zip" : Str) ∈ gs := by decide +kernel) (hs : starEach (e :: [e2]) X.env = (false, eval e X.env) :: starEach [e2] X.env := by rfl) (hs2 : starEach (e2 :: []) X.env = (false, eval e2 X.env) :: starEach [] X.env := by rfl) (hpl : (backTo pos (starEach [e2] X.env)).any (·.1) = false := by rfl) :
    GI Z X (.Tuple elts kk tpos) (.Call (.Name "zip" p) [e, e2] [] pos) Γ true (rT2 R R2) (xs.zip ys) :=
  ⟨_, RZ.pi_zipA (B.gx hg) (by rw [B.mg]; exact E.f "zip") (ea2 a b hs hs2).pa hs hpl, fun σ F G H Wr fts Rk o S q => ⟨F, G, Wr, fts, o, S, fun us F1 H1 g1 p1 => by
    match us, p1 with
    | [v, w], ⟨⟨l, us, ev, hl, r⟩, ⟨m, ts, ew, hm, rm⟩, _⟩ =>
      refine ⟨l, m, us, ts, by rw [ev, ew], .inl ⟨SqL.of (g1.ok.sub _ _ hl), SqL.of (g1.ok.sub _ _ hm), q _ F1 H1 g1 fun i F2 H2 o2 s2 k2 => ?_⟩⟩
      have hl2 := o2.sub _ _ (s2 _ _ hl)
      have hm2 := o2.sub _ _ (s2 _ _ hm)
      refine ⟨fun y hy => ?_, fun hi => ⟨us, ts, SqL.of hl2, SqL.of hm2, by rw [r.len, rm.len, hi, List.length_zip]; omega⟩⟩
      obtain ⟨q1, q2⟩ := zip_at hy
      obtain ⟨w1, hw1, rw1⟩ := r.get q1
      obtain ⟨w2, hw2, rw2⟩ := rm.get q2
      refine ⟨⟨us, ts, w1, w2, SqL.of hl2, SqL.of hm2, hw1, hw2⟩, fun v' H' y' => ?_⟩
      obtain ⟨a, x1, x2, ev', ha, eH, f1, f2⟩ := y'
      have h1 := f1 us (SqL.of hl2)
      have h2 := f2 ts (SqL.of hm2)
      rw [hw1] at h1
      rw [hw2] at h2
      cases h1
      cases h2
      subst ev' eH
      obtain ⟨F', g', r'⟩ := laid2 (R := R) (R2 := R2) (x := y.1) (y := y.2) o2 ha (R.mono s2 rw1) (R2.mono s2 rw2)
      exact ⟨F', g', r'⟩⟩⟩
theorem gi_zipT {elts : List Expr} {kk : Nat} {tpos : Pos} (B : Bd Z X N sc vs ws gs k) (E : Top Z) {xs : List α} {ys : List β} (a : EV Z X e Γ (pd (rTpl R) xs)) (b : EV Z X e2 Γ (pd (rTpl R2) ys)) (hg : ("zip" : Str) ∈ gs := by decide +kernel) (hs : starEach (e :: [e2]) X.env = (false, eval e X.env) :: starEach [e2] X.env := by rfl) (hs2 : starEach (e2 :: []) X.env = (false, eval e2 X.env) :: starEach [] X.env := by rfl) (hpl : (backTo pos (starEach [e2] X.env)).any (·.1) = false := by rfl) :
    GI Z X (.Tuple elts kk tpos) (.Call (.Name "zip" p) [e, e2] [] pos) Γ true (rT2 R R2) (xs.zip ys) :=
  ⟨_, RZ.pi_zipA (B.gx hg) (by rw [B.mg]; exact E.f "zip") (ea2 a b hs hs2).pa hs hpl, fun σ F G H Wr fts Rk o S q => ⟨F, G, Wr, fts, o, S, fun us F1 H1 g1 p1 => by
    match us, p1 with
    | [v, w], ⟨⟨l, us, ev, hl, r⟩, ⟨m, ts, ew, hm, rm⟩, _⟩ =>
      refine ⟨l, m, us, ts, by rw [ev, ew], .inr ⟨SqT.of (g1.ok.sub _ _ hl), SqT.of (g1.ok.sub _ _ hm), q _ F1 H1 g1 fun i F2 H2 o2 s2 k2 => ?_⟩⟩
      have hl2 := o2.sub _ _ (s2 _ _ hl)
      have hm2 := o2.sub _ _ (s2 _ _ hm)
      refine ⟨fun y hy => ?_, fun hi => ⟨us, ts, SqT.of hl2, SqT.of hm2, by rw [r.len, rm.len, hi, List.length_zip]; omega⟩⟩
      obtain ⟨q1, q2⟩ := zip_at hy
      obtain ⟨w1, hw1, rw1⟩ := r.get q1
      obtain ⟨w2, hw2, rw2⟩ := rm.get q2
      refine ⟨⟨us, ts, w1, w2, SqT.of hl2, SqT.of hm2, hw1, hw2⟩, fun v' H' y' => ?_⟩
      obtain ⟨a, x1, x2, ev', ha, eH, f1, f2⟩ := y'
      have h1 := f1 us (SqT.of hl2)
      have h2 := f2 ts (SqT.of hm2)
      rw [hw1] at h1
      rw [hw2] at h2
      cases h1
      cases h2
      subst ev' eH
      obtain ⟨F', g', r'⟩ := laid2 (R := R) (R2 := R2) (x := y.1) (y := y.2) o2 ha (R.mono s2 rw1) (R2.mono s2 rw2)
      exact ⟨F', g', r'⟩⟩⟩
/-- reversed(range(n)) -/
theorem gi_rev (B : Bd Z X N sc vs ws gs k) (E : Top Z) {n : Int} {p2 p3 : Pos} (a : EV Z X e Γ (pd rInt n)) (h : small62 n) (hg : ("range" : Str) ∈ gs := by decide +kernel) (hg2 : ("reversed" : Str) ∈ gs := by decide +kernel) (hs : starEach (e :: []) X.env = (false, eval e X.env) :: starEach [] X.env := by rfl) (hs2 : starEach (.Call (.Name "range" p) [e] [] pos :: []) X.env = (false, eval (.Call (.Name "range" p) [e] [] pos) X.env) :: starEach [] X.env := by rfl) :
    GI Z X tg (.Call (.Name "reversed" p2) [.Call (.Name "range" p) [e] [] pos] [] p3) Γ true rInt (rg 0 n).reverse :=
  ⟨_, pi_revR (B.gx hg2) (by rw [B.mg]; exact E.f "reversed") (prg_1 (B.gx hg) (by rw [B.mg]; exact E.f "range") a.pe hs) hs2, fun σ F G H Wr fts Rk o S q => ⟨F, G, Wr, fts, o, S, fun v F1 H1 g1 p1 => ⟨n, p1, by decide, by decide, h.1, h.2, q _ F1 H1 g1 fun i F2 H2 o2 s2 k2 => by
    rw [Int.sub_zero]
    have hl : ((rg 0 n).reverse).length = n.toNat := by rw [List.length_reverse, rg_len, Int.sub_zero]
    refine ⟨fun x hx => ?_, fun hi => by rw [hi, hl]; exact Nat.le_refl _⟩
    have hlt : i < ((rg 0 n).reverse).length := (List.getElem?_eq_some_iff.mp hx).1
    rw [hl] at hlt
    rw [List.getElem?_reverse (by rw [rg_len, Int.sub_zero]; exact hlt)] at hx
    obtain ⟨ex, _⟩ := rg_at hx
    refine ⟨hlt, fun v' H' y => ?_⟩
    obtain ⟨e1, e2⟩ := y
    subst e1
    refine ⟨F2, Grow.refl o2, ?_⟩
    show v' = V.int x
    rw [e2, ex, rg_len]
    congr 1
    simp only [Int.sub_zero]
    omega⟩⟩⟩
end
end BF
set_option maxHeartbeats 4000000
namespace BF
open PySem PySem.Spec PyProof.Rows L2
section
variable {Z : Zx} {X : Cx} {e e1 e2 e3 tg iter c elt : Expr} {st : Stmt} {sts rest body : List Stmt} {Γ : List Sl} {P P1 P2 P3 S : Pv} {N : List Str} {sc cs : Scope} {vs ws vs' : List Nat} {gs gs' : List Str} {k : Nat} {pos p pos' spos py : Pos} {D : Fin} {α β γ : Type} {R : Rp α} {R2 : Rp β} {R3 : Rp γ}
/-! ## a op b op c -/
structure OR (X : Cx) (Z : Zx) (op : CmpOp) (P1 P2 : Pv) (b : Bool) : Prop where
  ex : ∃ r, OpR X (compareOp op) r ∧ ∀ (F H : Hp) (v w : V), Ok Z.T F H → P1.p F H v → P2.p F H w → ∀ Q : VK, (∀ u F' H', Grow Z.T nowhere F H F' H' → (pd rBool b).p F' H' u → Q u H') → r v w H Q
theorem et_chain {op op' : CmpOp} {i j l : Int} {a b : Bool} (x : EV Z X e1 Γ (pd rInt i)) (y : EV Z X e2 Γ (pd rInt j)) (z : EV Z X e3 Γ (pd rInt l)) (o : OD Z X (compareOp op) (pd rInt i) (pd rInt j) (pd rBool a)) (o' : OD Z X (compareOp op') (pd rInt j) (pd rInt l) (pd rBool b))
    (hm : lastMarks [op, op'] [e2, e3] = false := by with_unfolding_all rfl) : ET Z X (.Compare e1 [op, op'] [e2, e3] pos) Γ (a && b) := by
  obtain ⟨r, hr, h1⟩ := o
  obtain ⟨r', hr', h2⟩ := o'
  refine ET.of (pt_chain hr hr' x.pe y.pe z.pe hm) fun σ F G H Wr fts Q o S q => ⟨F, G, Wr, fts, o, S, fun v F1 H1 g1 p1 => ⟨F1, G, Wr, fts, g1.ok, S.grow g1, fun w F2 H2 g2 p2 => ?_⟩⟩
  refine h1 F2 H2 v w g2.ok (show v = V.int i from p1) p2 _ fun u F3 H3 g3 p3 => ⟨a, p3, ?_⟩
  have S3 := ((S.grow g1).grow g2).grow g3
  cases a with
  | true =>
    rw [if_pos rfl]
    refine ⟨F3, G, Wr, fts, g3.ok, S3, fun w' F4 H4 g4 p4 => ?_⟩
    refine h2 F4 H4 w w' g4.ok (show w = V.int j from p2) p4 _ fun u F5 H5 g5 p5 => ⟨b, p5, q F5 H5 ((((g1.step g2).step g3).step g4).step g5)⟩
  | false =>
    rw [if_neg (by decide)]
    exact ⟨false, rfl, q F3 H3 ((g1.step g2).step g3)⟩
theorem ev_chain {op op' : CmpOp} {i j l : Int} {a b : Bool} (x : EV Z X e1 Γ (pd rInt i)) (y : EV Z X e2 Γ (pd rInt j)) (z : EV Z X e3 Γ (pd rInt l)) (o : OD Z X (compareOp op) (pd rInt i) (pd rInt j) (pd rBool a)) (o' : OD Z X (compareOp op') (pd rInt j) (pd rInt l) (pd rBool b))
    (hm : lastMarks [op, op'] [e2, e3] = false := by with_unfolding_all rfl) : EV Z X (.Compare e1 [op, op'] [e2, e3] pos) Γ (pd rBool (a && b)) := by
  obtain ⟨r, hr, h1⟩ := o
  obtain ⟨r', hr', h2⟩ := o'
  refine EV.of (pe_chain hr hr' x.pe y.pe z.pe hm) fun σ F G H Wr fts Q o S q => ⟨F, G, Wr, fts, o, S, fun v F1 H1 g1 p1 => ⟨F1, G, Wr, fts, g1.ok, S.grow g1, fun w F2 H2 g2 p2 => ?_⟩⟩
  refine h1 F2 H2 v w g2.ok (show v = V.int i from p1) p2 _ fun u F3 H3 g3 p3 => ⟨a, p3, ?_⟩
  have S3 := ((S.grow g1).grow g2).grow g3
  cases a with
  | true =>
    rw [if_pos rfl]
    refine ⟨F3, G, Wr, fts, g3.ok, S3, fun w' F4 H4 g4 p4 => ?_⟩
    refine h2 F4 H4 w w' g4.ok (show w = V.int j from p2) p4 _ fun u F5 H5 g5 p5 => q u F5 H5 ((((g1.step g2).step g3).step g4).step g5) p5
  | false =>
    rw [if_neg (by decide)]
    exact q _ F3 H3 ((g1.step g2).step g3) rfl
/-! ## the signs of a text -/
def signs (x : Str) : List Str := x.cps.toList.map fun c => ⟨#[c]⟩
theorem gi_str {x : Str} (a : EV Z X iter Γ (pd rStr x)) : GI Z X tg iter Γ true rStr (signs x) :=
  ⟨_, pi_str a.pe, fun σ F G H Wr fts Rk o S q => ⟨F, G, Wr, fts, o, S, fun v F1 H1 g1 p1 => ⟨x, p1, q _ F1 H1 g1 fun i F2 H2 o2 s2 k2 => by
    have hl : (signs x).length = x.cps.size := by unfold signs; simp
    refine ⟨fun y hy => ?_, fun hi => by rw [hi, hl]; exact Nat.le_refl _⟩
    have hlt := (List.getElem?_eq_some_iff.mp hy).1
    rw [hl] at hlt
    refine ⟨hlt, fun v' H' ⟨e1, cc, hc, e2⟩ => ?_⟩
    subst e1
    refine ⟨F2, Grow.refl o2, ?_⟩
    unfold signs at hy
    rw [List.getElem?_map, Array.getElem?_toList, hc] at hy
    show v' = V.str y
    rw [e2, ← Option.some.inj hy]⟩⟩⟩
/-! ## name = [..] on one line -/
theorem do_setLc {fz : Bool} {xs : List α} {up : α → List Sl → List Sl} {S : Rp β} {f : α → β} (B : Bd Z X N sc vs ws gs k) (i : Nat) {n : Str} (own : List (Str × Nat)) (vs' : List Nat) (gs' : List Str) (gi : GI Z X tg iter Γ fz R xs) (hz : xs.length ≤ 1000000)
    (ga : ∀ X', Bd Z X' N (relS cs sc) vs' (own.map (·.2)) gs' k → GA Z X' tg R (own.map (·.2)) up)
    (he : ∀ X', Bd Z X' N (relS cs sc) vs' (own.map (·.2)) gs' k → ∀ x, x ∈ xs → EV Z X' elt (up x (wG Γ (own.map (·.2)))) (pd S (f x)))
    (h : D.nx (Γ.set i (.da (rLst S) (xs.map f)))) (cn : compB N sc cs own vs' gs' = true := by decide +kernel) (hs : ∀ x, foldedSetIterable iter X.env x = pure x := by intro _; rfl) (hi : N[i]? = some n := by rfl)
    (hk : sc.kind = .function := by rfl) (hy : sc.names.lookup n = some .local := by rfl) (hl : (py.line == pos.line) = true := by rfl) (hn : (cs.names.any fun (m, kd) => m == n && (kd == .local || kd == .cell)) = false := by rfl) : DO Z X (.Assign [.Name n py] (.ListComp elt [⟨tg, iter, [], 0⟩] cs pos) spos) Γ D := by
  obtain ⟨wi, hp, hw⟩ := gi
  have c := comp_by cn
  have e0 : (xs.filter fun _ => true) = xs := List.filter_eq_self.mpr fun _ _ => rfl
  refine DO.of (ps_setLc (i := i) (own := own) B.calm (by rw [B.eN]; exact B.nm.nd) (by rw [B.eN]; exact hi) (by rw [B.eSc]; exact hy) (sw_true (by rw [B.eSc]; exact hk) (by rw [B.eSc]; exact hy) hl hn) hp (by rw [B.eN, B.eSc]; exact c.blk) (fun s H C cl fp => (ga _ (B.blk c s H C cl fp)).pg) (fun s H C cl fp => pts_nil)
    (fun s H C cl fp => (⟨fun pins s' σ H' Q I ⟨F, G, Wr, fts, x, hx, _, o, Sa, q⟩ => he _ (B.blk c s H C cl fp) x hx pins s' σ F G H' Wr fts Q I o Sa fun v F1 H1 g1 p1 => q v F1 H1 g1 p1⟩ : PE _ elt (tEx Z xs (fun x => up x (wG Γ (own.map (·.2)))) (fun _ => true) S f))) hs) fun σ F0 G F H Wr fts gr Sa => ?_
  refine lc_read (b := fun _ => true) (S := S) (f := f) hw (fun σ F G H Wr fts x Q hx o S q => q F H (Grow.refl o)) hz σ F G H Wr fts _ gr.ok Sa ?_
  rw [e0]
  intro v F1 H1 g1 p1
  exact ⟨F1, _, _, gr.step g1, (Sa.grow g1).set p1, h⟩
theorem do_setLcIf {fz : Bool} {xs : List α} {up : α → List Sl → List Sl} {S : Rp β} {f : α → β} {b : α → Bool} (B : Bd Z X N sc vs ws gs k) (i : Nat) {n : Str} (own : List (Str × Nat)) (vs' : List Nat) (gs' : List Str) (gi : GI Z X tg iter Γ fz R xs) (hz : xs.length ≤ 1000000)
    (ga : ∀ X', Bd Z X' N (relS cs sc) vs' (own.map (·.2)) gs' k → GA Z X' tg R (own.map (·.2)) up)
    (hb : ∀ X', Bd Z X' N (relS cs sc) vs' (own.map (·.2)) gs' k → ∀ x, x ∈ xs → ET Z X' c (up x (wG Γ (own.map (·.2)))) (b x))
    (he : ∀ X', Bd Z X' N (relS cs sc) vs' (own.map (·.2)) gs' k → ∀ x, x ∈ xs → b x = true → EV Z X' elt (up x (wG Γ (own.map (·.2)))) (pd S (f x)))
    (h : D.nx (Γ.set i (.da (rLst S) ((xs.filter b).map f)))) (cn : compB N sc cs own vs' gs' = true := by decide +kernel) (hs : ∀ x, foldedSetIterable iter X.env x = pure x := by intro _; rfl) (hi : N[i]? = some n := by rfl)
    (hk : sc.kind = .function := by rfl) (hy : sc.names.lookup n = some .local := by rfl) (hl : (py.line == pos.line) = true := by rfl) (hn : (cs.names.any fun (m, kd) => m == n && (kd == .local || kd == .cell)) = false := by rfl) : DO Z X (.Assign [.Name n py] (.ListComp elt [⟨tg, iter, [c], 0⟩] cs pos) spos) Γ D := by
  obtain ⟨wi, hp, hw⟩ := gi
  have cc := comp_by cn
  refine DO.of (ps_setLc (i := i) (own := own) B.calm (by rw [B.eN]; exact B.nm.nd) (by rw [B.eN]; exact hi) (by rw [B.eSc]; exact hy) (sw_true (by rw [B.eSc]; exact hk) (by rw [B.eSc]; exact hy) hl hn) hp (by rw [B.eN, B.eSc]; exact cc.blk) (fun s H C cl fp => (ga _ (B.blk cc s H C cl fp)).pg)
    (fun s H C cl fp => pts_one (⟨fun pins s' σ H' Q I ⟨F, G, Wr, fts, x, hx, o, Sa, q⟩ => hb _ (B.blk cc s H C cl fp) x hx pins s' σ F G H' Wr fts Q I o Sa q⟩ : PT _ c (tTx Z xs (fun x => up x (wG Γ (own.map (·.2)))) b)))
    (fun s H C cl fp => (⟨fun pins s' σ H' Q I ⟨F, G, Wr, fts, x, hx, hbx, o, Sa, q⟩ => he _ (B.blk cc s H C cl fp) x hx hbx pins s' σ F G H' Wr fts Q I o Sa fun v F1 H1 g1 p1 => q v F1 H1 g1 p1⟩ : PE _ elt (tEx Z xs (fun x => up x (wG Γ (own.map (·.2)))) b S f))) hs) fun σ F0 G F H Wr fts gr Sa => ?_
  refine lc_read (b := b) (S := S) (f := f) hw (fun σ F G H Wr fts x Q hx o S q => ⟨F, G, Wr, fts, x, hx, o, S, q⟩) hz σ F G H Wr fts _ gr.ok Sa ?_
  intro v F1 H1 g1 p1
  exact ⟨F1, _, _, gr.step g1, (Sa.grow g1).set p1, h⟩
/-! ## len(set(ints)), isinstance(x, (list, tuple)) -/
theorem ev_lenSet (B : Bd Z X N sc vs ws gs k) (E : Top Z) {xs : List Int} {p2 q2 : Pos} (a : EV Z X e Γ (pl rInt xs)) (hn : xs.Nodup) (hz : xs.length ≤ 4000) (hg : ("len" : Str) ∈ gs := by decide +kernel) (hg2 : ("set" : Str) ∈ gs := by decide +kernel) (na : starEach [e] X.env = (false, eval e X.env) :: starEach [] X.env := by rfl) :
    EV Z X (.Call (.Name "len" p) [.Call (.Name "set" p2) [e] [] q2] [] pos) Γ (pd rInt (xs.length : Int)) :=
  EV.of (RZ.pe_lenSetI (B.gx hg) (by rw [B.mg]; exact E.f "len") (B.gx hg2) (by rw [B.mg]; exact E.f "set") a.pe B.calm na) fun σ F G H Wr fts Q o S q => ⟨F, G, Wr, fts, o, S, fun v F1 H1 g1 ⟨l, us, ev, hl, r⟩ => ⟨l, xs, ev, SqL.of (by rw [RL.map_int.mp r] at hl; exact hl), hn, hz, q _ F1 H1 g1 rfl⟩⟩
theorem ev_isi2 (B : Bd Z X N sc vs ws gs k) (E : Top Z) {x y : Str} {t u u2 : String} {b : Bool} {kk : Nat} {p2 p3 q2 : Pos} (a : EV Z X e Γ P) (h : TyP P t) (hk : (∃ b1 b2, kitB t u = some b1 ∧ kitB t u2 = some b2 ∧ b = (b1 || b2))) (hv : bootBuiltins x = some (.type u) := by decide +kernel) (hv2 : bootBuiltins y = some (.type u2) := by decide +kernel) (hg : ("isinstance" : Str) ∈ gs := by decide +kernel) (hg2 : x ∈ gs := by decide +kernel) (hx : x ∈ blts := by decide +kernel) (hg3 : y ∈ gs := by decide +kernel) (hy : y ∈ blts := by decide +kernel)
    (he : starEach (e :: [.Tuple [.Name x p2, .Name y p3] kk q2]) X.env = (false, eval e X.env) :: starEach [.Tuple [.Name x p2, .Name y p3] kk q2] X.env := by rfl) : EV Z X (.Call (.Name "isinstance" p) [e, .Tuple [.Name x p2, .Name y p3] kk q2] [] pos) Γ (pd rBool b) := by
  obtain ⟨b1, b2, k1, k2, hb⟩ := hk
  let PT : Pv := ⟨fun F H v => ∃ l, v = .ref l ∧ F l = some (.tup [.ty u, .ty u2]), fun g ⟨l, ev, hl⟩ => ⟨l, ev, g.ef _ _ hl⟩⟩
  have ht : EV Z X (.Tuple [.Name x p2, .Name y p3] kk q2) Γ PT := EV.of (pe_tup (ea2 (ev_ty B E hv hg2 hx) (ev_ty B E hv2 hg3 hy) rfl rfl).pa) fun σ F G H Wr fts Q o S q => ⟨F, G, Wr, fts, o, S, fun us F1 H1 g1 p1 => by
    match us, p1 with
    | [v, w], ⟨pv, pw, _⟩ =>
      obtain rfl : v = V.ty u := pv
      obtain rfl : w = V.ty u2 := pw
      refine ⟨(by show 2 ≤ sizeLine; decide), fun d hd => ?_⟩
      have g : Grow Z.T nowhere F1 H1 (upd F1 d (.tup [.ty u, .ty u2])) (upd H1 d (.tup [.ty u, .ty u2])) := Grow.laid g1.ok hd tup_nt
      exact q _ _ _ (g1.step g) ⟨d, rfl, upd_same⟩⟩
  refine ev_callB B (.v2 (P1 := P) (P2 := PT) call_isiT fun F H v w o pv ⟨l, ew, hl⟩ Q q => ⟨v, l, [.ty u, .ty u2], .type t, [.type u, .type u2], b, by rw [ew], o.sub _ _ hl, .cons (.ty u) (.cons (.ty u2) .nil), h.ok _ Z.T F H v o pv, ?_, q _ F H (Grow.refl o) rfl⟩) (E.f "isinstance") (by decide +kernel) (ea2 a ht he rfl) hg he rfl
  refine kitAny_cons (kit_ty k1) (fun e1 => kitAny_cons (kit_ty k2) (fun e2 => ?_) fun e2 => ?_) fun e1 => ?_
  · rw [kitAny_nil, hb, e1, e2]; rfl
  · rw [hb, e2]; simp
  · rw [hb, e1]; rfl
end
end BF
set_option maxHeartbeats 4000000
namespace BF
open PySem PySem.Spec PyProof.Rows L2
/-! ## new objects of one's own -/
def EN {β : Type} (Z : Zx) (X : Cx) (e : Expr) (Γ : List Sl) (M : Mp β) (y : β) : Prop :=
  ∃ te : TE, PE X e te ∧ ∀ (σ : Sg) (F G H : Hp) (Wr : Addr → Prop) (fts : Nat → List Addr) (Q : VK), Ok Z.T F H → Sat Wr F G H Γ σ fts →
    (∀ v F' H' ft, Grow Z.T nowhere F H F' H' → M.rel y F' H' ft v → (∀ a ∈ ft, F' a = none ∧ H a = none) → Q v H') → te σ H Q
section
variable {Z : Zx} {X : Cx} {e e1 e2 e3 tg iter c elt : Expr} {st : Stmt} {sts rest body : List Stmt} {Γ : List Sl} {P P1 P2 P3 S : Pv} {N : List Str} {sc cs : Scope} {vs ws vs' : List Nat} {gs gs' : List Str} {k : Nat} {pos p pos' spos py : Pos} {D : Fin} {α β γ : Type} {R : Rp α} {R2 : Rp β} {R3 : Rp γ}
theorem do_setN (B : Bd Z X N sc vs ws gs k) (i : Nat) {n : Str} {M : Mp β} {y : β} (a : EN Z X e Γ M y) (h : D.nx (Γ.set i (.mu M y))) (hi : N[i]? = some n := by rfl) (hw : i ∈ ws := by decide) (hl0 : (Γ[i]?).isSome = true := by rfl) (nv : noVw Γ = true := by rfl)
    (hs : swapsWith e (some (.Name n pos')) pos.line X.env = pure false := by rfl) : DO Z X (.Assign [.Name n pos'] e pos) Γ D := by
  obtain ⟨te, he, hr⟩ := a
  refine DO.of (ps_set (i := i) (by rw [B.eN]; exact B.nm.nd) (by rw [B.eN]; exact hi) (by rw [B.eSc]; exact B.nm.loc i hw n hi) he hs (by rw [B.eSc]; exact B.st i hw n hi)) fun σ F0 G F H Wr fts g S => ?_
  refine hr σ F G H Wr fts _ g.ok S fun v F1 H1 ft g1 r hn => ?_
  obtain ⟨fts', x1, x2⟩ := set_ends (M := M) (y := y) (v := v) (ft := ft) g S (lt_of_isSome hl0) (g1.weak) r (fun a ha => ⟨(hn a ha).1, .inr (hn a ha).2⟩) (fun _ a ha => .inr (hn a ha).2) nv
  exact ⟨F1, _, fts', x1, x2, h⟩
theorem en_listL (B : Bd Z X N sc vs ws gs k) (E : Top Z) {xs : List α} (a : EV Z X e Γ (pl R xs)) (hg : ("list" : Str) ∈ gs := by decide +kernel) (he : starEach (e :: []) X.env = (false, eval e X.env) :: starEach [] X.env := by rfl) : EN Z X (.Call (.Name "list" p) [e] [] pos) Γ (mLst R) xs := by
  obtain ⟨d1, d2, d3⟩ := plainName_ok (B.nm.pg _ hg)
  refine ⟨_, pe_callTy call_list_of (B.gx hg) (by rw [B.mg]; exact E.f "list") (by decide +kernel) (ea1 a he).pa d3 d1 he rfl, fun σ F G H Wr fts Q o S q => ⟨F, G, Wr, fts, o, S, fun us F1 H1 g1 p1 => ?_⟩⟩
  match us, p1 with
  | [v], ⟨⟨l, us, ev, hl, r⟩, _⟩ =>
    refine ⟨l, us, by rw [ev], .inl (SqL.of hl), fun d hd => ?_⟩
    have fD : F1 d = none := g1.ok.free hd
    have hD : H d = none := by
      cases z : H d with
      | none => rfl
      | some u => exact absurd hd (g1.th d (by rw [z]; simp))
    exact q _ F1 _ [d] (g1.step (Grow.made g1.ok hd)) ⟨d, us, rfl, rfl, upd_same, r⟩ fun b hb => by
      simp at hb; subst hb; exact ⟨fD, hD⟩
/-- the loop of a comprehension, its list not frozen -/
theorem lc_raw {wi : TI} {fz : Bool} {xs : List α} {up : α → List Sl → List Sl} {b : α → Bool} {S : Rp β} {f : α → β} {ow : List Nat} {tt : TT}
    (hw : ∀ (σ : Sg) (F G H : Hp) (Wr : Addr → Prop) (fts : Nat → List Addr) (Rk : It → Hp → Prop), Ok Z.T F H → Sat Wr F G H Γ σ fts → (∀ J F1 H1, Grow Z.T nowhere F H F1 H1 → Walk Z.T fz J F1 H1 R xs → Rk J H1) → wi σ H Rk)
    (ht : ∀ (σ : Sg) (F G H : Hp) (Wr : Addr → Prop) (fts : Nat → List Addr) (x : α) (Q : Bool → Hp → Prop), x ∈ xs → Ok Z.T F H → Sat Wr F G H (up x (wG Γ ow)) σ fts → (∀ F' H', Grow Z.T nowhere F H F' H' → Q (b x) H') → tt σ H Q)
    (hz : xs.length ≤ 1000000) (σ : Sg) (F G H : Hp) (Wr : Addr → Prop) (fts : Nat → List Addr) (Q : VK) (o : Ok Z.T F H) (Sa : Sat Wr F G H Γ σ fts)
    (q : ∀ l us F' H', Grow Z.T nowhere F H F' H' → H' l = some (.lst us) → F' l = none → H l = none → RL S F' ((xs.filter b).map f) us → Q (.ref l) H') :
    tLc wi (tG Z R ow up) tt (tEx Z xs (fun x => up x (wG Γ ow)) b S f) ow σ H Q := by
  refine hw σ F G H Wr fts _ o Sa fun J F1 H1 g1 wk => ?_
  intro D hD
  have fD : F1 D = none := g1.ok.free hD
  refine ⟨fun i m H' => m = xs.length - i ∧ i ≤ xs.length ∧ ∃ (F' : Hp) (us : List V), Grow Z.T nowhere F1 H1 F' H' ∧ H' D = some (.lst us) ∧ F' D = none ∧ RL S F' (((xs.take i).filter b).map f) us,
    ⟨xs.length, rfl, Nat.zero_le _, F1, [], Grow.made g1.ok hD, upd_same, fD, trivial⟩, ?_⟩
  rintro i m H' ⟨rfl, hi, F', us, g', hl, fl, rl⟩
  obtain ⟨w1, w2⟩ := wk i F' H' g'.ok g'.ef (fun _ => extN_of g')
  by_cases hlt : i < xs.length
  · have hx : xs[i]? = some xs[i] := List.getElem?_eq_getElem hlt
    have hmem : xs[i] ∈ xs := List.getElem_mem hlt
    obtain ⟨go, st⟩ := w1 xs[i] hx
    have tk : xs.take (i + 1) = xs.take i ++ [xs[i]] := by rw [List.take_succ, hx]; rfl
    refine .inr ⟨go, fun H2 => ∃ (F2 : Hp) (us2 : List V), Grow Z.T nowhere F1 H1 F2 H2 ∧ H2 D = some (.lst us2) ∧ F2 D = none ∧ RL S F2 (((xs.take (i + 1)).filter b).map f) us2, fun H2 ⟨F2, us2, a1, a2, a3, a4⟩ => ⟨xs.length - (i + 1), by omega, rfl, hlt, F2, us2, a1, a2, a3, a4⟩, fun v H2 y => ?_⟩
    obtain ⟨F2, g2, r⟩ := st v H2 y
    have keepD : ∀ {Fa Ha Fb Hb : Hp} {ys : List V}, Grow Z.T nowhere Fa Ha Fb Hb → Ha D = some (.lst ys) → Fa D = none → Hb D = some (.lst ys) ∧ Fb D = none := fun {Fa Ha Fb Hb ys} gg e1 e2 => by
      refine ⟨gg.eh D _ (fun w => w) e1 lst_nt, ?_⟩
      cases z : Fb D with
      | none => rfl
      | some u =>
        have := gg.new D (by rw [z]; simp) e2
        rw [e1] at this; cases this
    obtain ⟨hl2, fl2⟩ := keepD g2 hl fl
    have S2 : Sat Wr F2 G H2 Γ σ fts := Sa.grow ((g1.step g').step g2)
    obtain ⟨fts2, S2w⟩ := S2.wipe ow
    refine ⟨F2, G, Wr, fts2, xs[i], wG Γ ow, g2.ok, S2w, r, fun σ3 fts3 S3 ln ag => ⟨?_, ?_⟩⟩
    · have e1 : L2.wipe σ3 ow = L2.wipe (L2.wipe σ ow) ow := wipe_agree ln ag
      rw [e1]
      exact wipe_agree (wipe_length σ ow) fun j hj => wipe_at hj
    · refine ht σ3 F2 G H2 Wr fts3 xs[i] _ hmem g2.ok S3 fun F3 H3 g3 => ?_
      obtain ⟨hl3, fl3⟩ := keepD g3 hl2 fl2
      cases hb : b xs[i] with
      | false =>
        refine iteF ⟨F3, us, (g'.step g2).step g3, hl3, fl3, ?_⟩
        rw [tk, List.filter_append, List.filter_cons_of_neg (by rw [hb]; decide)]
        show RL S F3 (((xs.take i).filter b ++ []).map f) us
        rw [List.append_nil]
        exact (rl.mono g2.ef).mono g3.ef
      | true =>
        refine iteT ⟨F3, G, Wr, fts3, xs[i], hmem, hb, g3.ok, S3.grow g3, fun y F4 H4 g4 r4 => ?_⟩
        obtain ⟨hl4, fl4⟩ := keepD g4 hl3 fl3
        have ln : us.length ≤ i := by
          rw [rl.len, List.length_map]
          exact Nat.le_trans (List.length_filter_le _ _) (by rw [List.length_take]; omega)
        refine ⟨us, hl4, by rw [sizeLine_eq]; omega, F4, us ++ [y], ?_, upd_same, fl4, ?_⟩
        · exact (((g'.step g2).step g3).step g4).mut hl4 lst_nt lst_nc fl4 (.inr hD)
        · rw [tk, List.filter_append, List.filter_cons_of_pos hb, List.map_append]
          exact (((rl.mono g2.ef).mono g3.ef).mono g4.ef).snoc r4
  · have e : i = xs.length := by omega
    subst e
    refine .inl ⟨w2 rfl, ?_⟩
    rw [List.take_length] at rl
    have hD0 : H D = none := by
      cases z : H D with
      | none => rfl
      | some u => exact absurd hD (g1.th D (by rw [z]; simp))
    exact q D us F' H' (g1.step g') hl fl hD0 rl
/-- name = [..] on one line, to be changed later -/
theorem do_setLcN {fz : Bool} {xs : List α} {up : α → List Sl → List Sl} {S : Rp β} {f : α → β} (B : Bd Z X N sc vs ws gs k) (i : Nat) {n : Str} (own : List (Str × Nat)) (vs' : List Nat) (gs' : List Str) (gi : GI Z X tg iter Γ fz R xs) (hz : xs.length ≤ 1000000)
    (ga : ∀ X', Bd Z X' N (relS cs sc) vs' (own.map (·.2)) gs' k → GA Z X' tg R (own.map (·.2)) up)
    (he : ∀ X', Bd Z X' N (relS cs sc) vs' (own.map (·.2)) gs' k → ∀ x, x ∈ xs → EV Z X' elt (up x (wG Γ (own.map (·.2)))) (pd S (f x)))
    (h : D.nx (Γ.set i (.mu (mLst S) (xs.map f)))) (cn : compB N sc cs own vs' gs' = true := by decide +kernel) (hs : ∀ x, foldedSetIterable iter X.env x = pure x := by intro _; rfl) (hi : N[i]? = some n := by rfl)
    (hk : sc.kind = .function := by rfl) (hy : sc.names.lookup n = some .local := by rfl) (hl : (py.line == pos.line) = true := by rfl) (hn : (cs.names.any fun (m, kd) => m == n && (kd == .local || kd == .cell)) = false := by rfl) (hl0 : (Γ[i]?).isSome = true := by rfl) (nv : noVw Γ = true := by rfl) : DO Z X (.Assign [.Name n py] (.ListComp elt [⟨tg, iter, [], 0⟩] cs pos) spos) Γ D := by
  obtain ⟨wi, hp, hw⟩ := gi
  have c := comp_by cn
  have e0 : (xs.filter fun _ => true) = xs := List.filter_eq_self.mpr fun _ _ => rfl
  refine DO.of (ps_setLc (i := i) (own := own) B.calm (by rw [B.eN]; exact B.nm.nd) (by rw [B.eN]; exact hi) (by rw [B.eSc]; exact hy) (sw_true (by rw [B.eSc]; exact hk) (by rw [B.eSc]; exact hy) hl hn) hp (by rw [B.eN, B.eSc]; exact c.blk) (fun s H C cl fp => (ga _ (B.blk c s H C cl fp)).pg) (fun s H C cl fp => pts_nil)
    (fun s H C cl fp => (⟨fun pins s' σ H' Q I ⟨F, G, Wr, fts, x, hx, _, o, Sa, q⟩ => he _ (B.blk c s H C cl fp) x hx pins s' σ F G H' Wr fts Q I o Sa fun v F1 H1 g1 p1 => q v F1 H1 g1 p1⟩ : PE _ elt (tEx Z xs (fun x => up x (wG Γ (own.map (·.2)))) (fun _ => true) S f))) hs) fun σ F0 G F H Wr fts gr Sa => ?_
  refine lc_raw (b := fun _ => true) (S := S) (f := f) hw (fun σ F G H Wr fts x Q hx o S q => q F H (Grow.refl o)) hz σ F G H Wr fts _ gr.ok Sa fun l us F1 H1 g1 hl1 fl1 hn0 r1 => ?_
  rw [e0] at r1
  obtain ⟨fts', x1, x2⟩ := set_ends (M := mLst S) (y := xs.map f) (v := .ref l) (ft := [l]) gr Sa (lt_of_isSome hl0) (g1.weak) ⟨l, us, rfl, rfl, hl1, r1⟩ (fun a ha => by simp at ha; subst ha; exact ⟨fl1, .inr hn0⟩) (fun _ a ha => by simp at ha; subst ha; exact .inr hn0) nv
  exact ⟨F1, _, fts', x1, x2, h⟩
/-! ## forgetting, a middle -/
theorem dos_un (i : Nat) (h : DOs Z X sts (Γ.set i .un) D) : DOs Z X sts Γ D := fun pins s σ F0 G F H Wr fts I g S tk => by
  by_cases hl : i < Γ.length
  · obtain ⟨ov, e, _⟩ := S.at_ i _ (List.getElem?_eq_getElem hl)
    have S' := S.drop (i := i) (ov := ov)
    have eσ : σ.set i ov = σ := by
      apply List.ext_getElem?
      intro j
      by_cases q : j = i
      · subst q
        rw [List.getElem?_set_self (by have := S.len; omega), e]
      · rw [List.getElem?_set_ne (Ne.symm q)]
    rw [eσ] at S'
    exact h pins s σ F0 G F H Wr _ I g S' tk
  · rw [List.set_eq_of_length_le (by omega)] at h
    exact h pins s σ F0 G F H Wr fts I g S tk
theorem DO.mono {nx' : List Sl → Prop} (h : DO Z X st Γ { D with nx := nx' }) (hn : ∀ Γ', nx' Γ' → D.nx Γ') : DO Z X st Γ D := fun pins s σ F0 G F H Wr fts I g S tk =>
  thn (h pins s σ F0 G F H Wr fts I g S tk) fun f s' q => SP.mono q (fun _ _ ⟨F', Γ', fts', a, b, c⟩ => ⟨F', Γ', fts', a, b, hn Γ' c⟩) (fun _ _ z => z) (fun _ _ z => z) (fun _ _ z => z)
/-- what stands between two statements -/
theorem dos_mid (Γ' : List Sl) (h : DO Z X st Γ { D with nx := fun Δ => Δ = Γ' }) (r : DOs Z X rest Γ' D) : DOs Z X (st :: rest) Γ D :=
  dos_cons (DO.mono (D := { D with nx := fun Γ' => DOs Z X rest Γ' D }) h fun Δ e => e ▸ r)
/-- the same, a fact of plain Lean known from it -/
theorem dos_midP (M : List Sl → Prop) (h : DO Z X st Γ { D with nx := M }) (r : ∀ Γ', M Γ' → DOs Z X rest Γ' D) : DOs Z X (st :: rest) Γ D :=
  dos_cons (DO.mono (D := { D with nx := fun Γ' => DOs Z X rest Γ' D }) h r)
/-! ## a def whose first argument may be a list that still changes -/
theorem cal2v {x : Str} {β : Type} {A2 : Rp β} (N : List Str) (vs : List Nat) (gs : List Str) (n : Nat) {a b : Str} {pre : List α → β → Prop} {Q : List α → β → Pv} (d : Df Z x st) (hb : BindOk x x st [a, b]) (body : ∀ X, Bd Z X N (defScope st) vs vs gs k → ∀ u w, pre u w → DOs Z X (defBody st) (.vw (pl R u) :: .da A2 w :: uns n) (dR (Q u w)))
    (c : dfB N [a, b] (defScope st) vs gs = true := by decide +kernel) (hn : N.length = 2 + n := by rfl) : Cal Z x (k + 1) (sp2 Z.T (pl R) (pd A2) pre Q) := by
  obtain ⟨S, nm⟩ := dfB_ok c
  refine cal_gen d S nm hb (fun us H Q E ⟨u, w, F, o, p, h, r⟩ => p.len) (fun us H Q' ⟨u, w, F, o, p, h, r⟩ => ?_) fun us H Q E z => z
  match us, p with
  | [v, v2], ⟨p, p2, _⟩ =>
    refine ⟨F, .vw (pl R u) :: .da A2 w :: uns n, Q u w, o, entry_sat (Δ := [.vw (pl R u), .da A2 w]) hn rfl fun i s e => ?_, r, fun X B => dR_ok (body X B u w h)⟩
    match i, e with
    | 0, e => cases e; exact ⟨v, rfl, rfl, v, rfl, p⟩
    | 1, e => cases e; exact ⟨v2, rfl, rfl, v2, rfl, p2⟩
    | i + 2, e => simp at e
end
end BF
set_option maxHeartbeats 4000000
namespace BF
open PySem PySem.Spec PyProof.Rows L2
/-! ## dicts -/
theorem dK_nt {us : List (Key × V)} : ∀ ps, HO.dK us ≠ .tbl ps := fun ps z => by cases z
theorem dK_nc {us : List (Key × V)} {l : Addr} : ∀ q, HO.dK us ≠ LamX.CodeO l q := fun q z => by unfold LamX.CodeO at z; cases z
theorem dT_nt {us : List (List Key × V)} : ∀ ps, HO.dT us ≠ .tbl ps := fun ps z => by cases z
theorem dT_nc {us : List (List Key × V)} {l : Addr} : ∀ q, HO.dT us ≠ LamX.CodeO l q := fun q z => by unfold LamX.CodeO at z; cases z
theorem putK_le {κ : Type} [DecidableEq κ] (us : List (κ × V)) (k : κ) (v : V) : (putK us k v).length ≤ us.length + 1 := by
  unfold putK
  split <;> simp
/-- a dict of one's own, its keys ints: those in dom are there -/
def mDI {α : Type} (R : Rp α) : Mp (List Int × (Int → α)) where
  loc := true
  rel := fun x F H ft v => ∃ l us, v = .ref l ∧ ft = [l] ∧ H l = some (.dK us) ∧ us.length ≤ x.1.length ∧ ∀ k ∈ x.1, ∃ w, valV us (.inl k) = some w ∧ R.rel (x.2 k) F w
  mono := fun s k ⟨l, us, e, f, h, hn, r⟩ => ⟨l, us, e, f, by rw [k l (by rw [f]; simp)]; exact h, hn, fun k hk => let ⟨w, a, b⟩ := r k hk; ⟨w, a, R.mono s b⟩⟩
  there := fun ⟨l, us, e, f, h, hn, r⟩ b hb => by
    rw [f] at hb
    simp at hb
    subst hb
    exact ⟨_, h, dK_nt⟩
def enK (e : En) : List Key := [.inl e.1, .inl e.2]
theorem enK_inj {a b : En} (h : enK a = enK b) : a = b := by
  unfold enK at h
  simp at h
  exact Prod.ext h.1 h.2
/-- a dict of one's own from entries to ints -/
def mDT : Mp (Nat × (En → Option Int)) where
  loc := true
  rel := fun x F H ft v => ∃ l us, v = .ref l ∧ ft = [l] ∧ H l = some (.dT us) ∧ us.length ≤ x.1 ∧ ∀ e, valV us (enK e) = (x.2 e).map V.int
  mono := fun s k ⟨l, us, e, f, h, hn, r⟩ => ⟨l, us, e, f, by rw [k l (by rw [f]; simp)]; exact h, hn, r⟩
  there := fun ⟨l, us, e, f, h, hn, r⟩ b hb => by
    rw [f] at hb
    simp at hb
    subst hb
    exact ⟨_, h, dT_nt⟩
def rDT : Rp (En → Option Int) := ⟨fun f F v => ∃ l us, v = .ref l ∧ F l = some (.dT us) ∧ ∀ e, valV us (enK e) = (f e).map V.int, fun s ⟨l, us, e, h, r⟩ => ⟨l, us, e, s _ _ h, r⟩⟩
section
variable {Z : Zx} {X : Cx} {e e1 e2 e3 tg iter c elt : Expr} {st : Stmt} {sts rest body : List Stmt} {Γ : List Sl} {P P1 P2 P3 S : Pv} {N : List Str} {sc cs : Scope} {vs ws vs' : List Nat} {gs gs' : List Str} {k : Nat} {pos p pos' spos py : Pos} {D : Fin} {α β γ : Type} {R : Rp α} {R2 : Rp β} {R3 : Rp γ}
/-- what is not None -/
theorem EV.so {o : Option α} {x : α} (a : EV Z X e Γ (pd (rOpt R) o)) (h : o = Option.some x) : EV Z X e Γ (pd R x) := by
  subst h
  exact a.imp fun F H v _ p => p.2
theorem EV.opI {x : Int} (a : EV Z X e Γ (pd rInt x)) : EV Z X e Γ (pd (rOpt rInt) (Option.some x)) := a.imp fun F H v _ p => ⟨(by rw [show v = V.int x from p]; intro z; cases z), p⟩
theorem en_dI (B : Bd Z X N sc vs ws gs k) (R : Rp α) (f : Int → α) : EN Z X (.Dict [] [] pos) Γ (mDI R) ([], f) :=
  ⟨_, pe_dnewK, fun σ F G H Wr fts Q o S q => fun d hd => q _ F _ [d] (Grow.made o hd) ⟨d, [], rfl, rfl, upd_same, Nat.le_refl _, fun k hk => nomatch hk⟩ fun b hb => by
    simp at hb; subst hb; exact ⟨o.free hd, hd⟩⟩
theorem en_dT (B : Bd Z X N sc vs ws gs k) : EN Z X (.Dict [] [] pos) Γ mDT (0, fun _ => none) :=
  ⟨_, pe_dnewT, fun σ F G H Wr fts Q o S q => fun d hd => q _ F _ [d] (Grow.made o hd) ⟨d, [], rfl, rfl, upd_same, Nat.le_refl _, fun e => rfl⟩ fun b hb => by
    simp at hb; subst hb; exact ⟨o.free hd, hd⟩⟩
theorem hu1 (B : Bd Z X N sc vs ws gs k) : X.A.units + 1 < cLine := by have := B.hu; omega
/-- d[k] -/
theorem ev_dgetI (B : Bd Z X N sc vs ws gs k) (i : Nat) {n : Str} {x : List Int × (Int → α)} {j : Int} {y : α} (b : EV Z X e2 Γ (pd rInt j)) (hi : N[i]? = some n := by rfl) (hv : i ∈ vs := by decide) (hΓ : Γ[i]? = some (.mu (mDI R) x) := by rfl) (h : j ∈ x.1) (hS : x.2 j = y := by rfl) (hs : NoSl e2 := by exact fun _ _ => rfl) : EV Z X (.Subscript (.Name n p) e2 pos) Γ (pd R y) := by
  subst hS
  obtain ⟨d1, d2, _⟩ := plainName_ok (B.nm.pn i hv n hi)
  have pn : PE X (.Name n p) (tVar i) := pe_var (i := i) (by rw [B.eN]; exact hi) (by rw [B.eSc]; exact B.nm.vis i hv n hi) d1 d2
  refine EV.of (pe_dget (hu1 B) pn b.pe hs) fun σ F G H Wr fts Q o S q => ?_
  obtain ⟨v, ev, ⟨l, us, rfl, ef, hl, hn, r⟩, mk⟩ := S.mu hΓ
  refine ⟨_, ev, F, G, Wr, fts, o, S, fun w F1 H1 g1 p1 => ?_⟩
  obtain rfl : w = V.int j := p1
  have hl1 : H1 l = some (.dK us) := g1.eh l _ (fun w => w) hl dK_nt
  obtain ⟨u, hu, ru⟩ := r j h
  refine ⟨l, u, rfl, ?_, q u F1 H1 g1 (R.mono g1.ef ru)⟩
  have := DGet.k (k := .inl j) hl1
  rw [hu] at this
  exact this
/-- a new state of an object of one's own -/
theorem own_ends {σ : Sg} {F0 G F H H1 : Hp} {Wr : Addr → Prop} {fts : Nat → List Addr} {M : Mp β} {x y : β} {i : Nat} {v : V} {l : Addr} (g : Grow Z.T Wr F0 G F H) (S : Sat Wr F G H Γ σ fts) (hΓ : Γ[i]? = some (.mu M x)) (ev : σ[i]? = some (some v)) (ef : fts i = [l])
    (g1 : Grow Z.T (fun a => a ∈ fts i) F H F H1) (r : M.rel y F H1 [l] v) (lo : M.loc = true) (nv : noVw Γ = true) : ∃ fts', Grow Z.T Wr F0 G F H1 ∧ Sat Wr F G H1 (Γ.set i (.mu M y)) σ fts' := by
  have hi' : i < Γ.length := (List.getElem?_eq_some_iff.mp hΓ).1
  have hm : l ∈ fts i := by rw [ef]; simp
  obtain ⟨_, _, _, mk⟩ := S.mu hΓ
  obtain ⟨fts', x1, x2⟩ := set_ends (M := M) (y := y) (v := v) (ft := [l]) g S hi' g1 r (fun b hb => by
    simp at hb; subst hb; exact ⟨(S.there hm).1, .inl hm⟩) (fun _ b hb => by simp at hb; rw [hb]; exact .inl ((mk l hm).2.2 lo)) nv
  have eσ : σ.set i (some v) = σ := by
    apply List.ext_getElem?
    intro j
    by_cases q : j = i
    · subst q
      rw [List.getElem?_set_self (by have := S.len; omega), ev]
    · rw [List.getElem?_set_ne (Ne.symm q)]
  rw [eσ] at x2
  exact ⟨_, x1, x2⟩
/-- d[k] = e -/
theorem do_dputI (B : Bd Z X N sc vs ws gs k) (i : Nat) {n : Str} {x : List Int × (Int → α)} {j : Int} {y : α} (a : EV Z X e Γ (pd R y)) (b : EV Z X e2 Γ (pd rInt j)) (hz : x.1.length ≤ 1000000) (h : D.nx (Γ.set i (.mu (mDI R) (j :: x.1, fun m => if m = j then y else x.2 m)))) (hi : N[i]? = some n := by rfl) (hv : i ∈ vs := by decide) (hΓ : Γ[i]? = some (.mu (mDI R) x) := by rfl)
    (nv : noVw Γ = true := by rfl) (hs : swapsWith e (some (.Subscript (.Name n p) e2 pos')) pos.line X.env = pure false := by rfl) : DO Z X (.Assign [.Subscript (.Name n p) e2 pos'] e pos) Γ D := by
  obtain ⟨d1, d2, _⟩ := plainName_ok (B.nm.pn i hv n hi)
  have pn : PE X (.Name n p) (tVar i) := pe_var (i := i) (by rw [B.eN]; exact hi) (by rw [B.eSc]; exact B.nm.vis i hv n hi) d1 d2
  refine DO.of (ps_dput (hu1 B) pn b.pe a.pe hs) fun σ F0 G F H Wr fts g S => ⟨F, G, Wr, fts, g.ok, S, fun v F1 H1 g1 p1 => ?_⟩
  have S1 := S.grow g1
  obtain ⟨_, ev, _, _⟩ := S1.mu hΓ
  refine ⟨_, ev, F1, G, Wr, fts, g1.ok, S1, fun w F2 H2 g2 p2 => ?_⟩
  obtain rfl : w = V.int j := p2
  have S2 := S1.grow g2
  obtain ⟨v2, ev2, ⟨l, us, rfl, ef, hl, hn, r⟩, mk⟩ := S2.mu hΓ
  rw [ev] at ev2
  cases ev2
  have hm : l ∈ fts i := by rw [ef]; simp
  refine ⟨l, _, rfl, DPut.k (k := .inl j) hl (by rw [sizeLine_eq]; omega), ?_⟩
  have g3 : Grow Z.T (fun a => a ∈ fts i) F2 H2 F2 (upd H2 l (.dK (putK us (.inl j) v))) := (Grow.refl g2.ok).mut hl dK_nt dK_nc (S2.there hm).1 (.inl hm)
  have rr : (mDI R).rel (j :: x.1, fun m => if m = j then y else x.2 m) F2 (upd H2 l (.dK (putK us (.inl j) v))) [l] (.ref l) := by
   refine ⟨l, _, rfl, rfl, upd_same, ?_, ?_⟩
   · have := putK_le us (.inl j) v
     simp only [List.length_cons]
     omega
   · intro m hm'
     rw [valV_put]
     by_cases q : m = j
     · subst q
       exact ⟨v, by simp, by simp only [if_true]; exact R.mono g2.ef p1⟩
     · rw [if_neg (by intro z; cases z; exact q rfl)]
       simp only [if_neg q]
       exact r m (by simpa [q] using hm')
  obtain ⟨fts', x1, x2⟩ := own_ends (y := (j :: x.1, fun m => if m = j then y else x.2 m)) ((g.step g1).step g2) S2 hΓ ev ef g3 rr rfl nv
  exact ⟨F2, _, fts', x1, x2, h⟩
/-- d[(a, b)] = i -/
theorem do_dputT (B : Bd Z X N sc vs ws gs k) (i : Nat) {n : Str} {x : Nat × (En → Option Int)} {j : En} {y : Int} (a : EV Z X e Γ (pd rInt y)) (b : EV Z X e2 Γ (pd rEn j)) (hz : x.1 ≤ 1000000) (h : D.nx (Γ.set i (.mu mDT (x.1 + 1, fun m => if m = j then some y else x.2 m)))) (hi : N[i]? = some n := by rfl) (hv : i ∈ vs := by decide) (hΓ : Γ[i]? = some (.mu mDT x) := by rfl)
    (nv : noVw Γ = true := by rfl) (hs : swapsWith e (some (.Subscript (.Name n p) e2 pos')) pos.line X.env = pure false := by rfl) : DO Z X (.Assign [.Subscript (.Name n p) e2 pos'] e pos) Γ D := by
  obtain ⟨d1, d2, _⟩ := plainName_ok (B.nm.pn i hv n hi)
  have pn : PE X (.Name n p) (tVar i) := pe_var (i := i) (by rw [B.eN]; exact hi) (by rw [B.eSc]; exact B.nm.vis i hv n hi) d1 d2
  refine DO.of (ps_dput (hu1 B) pn b.pe a.pe hs) fun σ F0 G F H Wr fts g S => ⟨F, G, Wr, fts, g.ok, S, fun v F1 H1 g1 p1 => ?_⟩
  have S1 := S.grow g1
  obtain ⟨_, ev, _, _⟩ := S1.mu hΓ
  refine ⟨_, ev, F1, G, Wr, fts, g1.ok, S1, fun w F2 H2 g2 p2 => ?_⟩
  obtain ⟨t, u1, u2, rfl, ht, r1, r2⟩ := p2
  obtain rfl : u1 = V.int j.1 := r1
  obtain rfl : u2 = V.int j.2 := r2
  obtain rfl : v = V.int y := p1
  have S2 := S1.grow g2
  obtain ⟨v2, ev2, ⟨l, us, rfl, ef, hl, hn, r⟩, mk⟩ := S2.mu hΓ
  rw [ev] at ev2
  cases ev2
  have hm : l ∈ fts i := by rw [ef]; simp
  refine ⟨l, _, rfl, DPut.t (k := enK j) hl (g2.ok.sub _ _ ht) (by rw [sizeLine_eq]; omega), ?_⟩
  have g3 : Grow Z.T (fun a => a ∈ fts i) F2 H2 F2 (upd H2 l (.dT (putK us (enK j) (V.int y)))) := (Grow.refl g2.ok).mut hl dT_nt dT_nc (S2.there hm).1 (.inl hm)
  have rr : mDT.rel (x.1 + 1, fun m => if m = j then some y else x.2 m) F2 (upd H2 l (.dT (putK us (enK j) (V.int y)))) [l] (.ref l) := by
   refine ⟨l, _, rfl, rfl, upd_same, ?_, ?_⟩
   · have := putK_le us (enK j) (V.int y)
     show _ ≤ x.1 + 1
     omega
   · intro m
     rw [valV_put]
     by_cases q : m = j
     · subst q
       simp
     · rw [if_neg (fun z => q (enK_inj z))]
       simp only [if_neg q]
       exact r m
  obtain ⟨fts', x1, x2⟩ := own_ends (y := (x.1 + 1, fun m => if m = j then some y else x.2 m)) ((g.step g1).step g2) S2 hΓ ev ef g3 rr rfl nv
  exact ⟨F2, _, fts', x1, x2, h⟩
theorem dos_fzT {x : Nat × (En → Option Int)} (i : Nat) (h : DOs Z X sts (Γ.set i (.da rDT x.2)) D) (hΓ : Γ[i]? = some (.mu mDT x) := by rfl) (nv : noVw Γ = true := by rfl) : DOs Z X sts Γ D :=
  dos_freeze (R := rDT) (y := x.2) i hΓ rfl (fun F H ft v ⟨l, us, ev, ef, hl, hn, r⟩ hf => ⟨upd F l (.dT us), fun T o => ((Grow.refl (Wr := fun _ => True) o).freezeO hl dT_nt (hf l (by rw [ef]; simp))), fun a u q => by rw [upd_ne (ne_of_none q (hf l (by rw [ef]; simp)))]; exact q, fun a h1 h2 => by
    by_cases z : a = l
    · rw [z, ef]; simp
    · rw [upd_ne z] at h1; exact absurd h2 h1, ⟨l, us, ev, upd_same, r⟩⟩) h nv
/-- d.get(e, x) -/
theorem ev_dgetT (B : Bd Z X N sc vs ws gs k) {f : En → Option Int} {y : En} {x : Int} {ap : Pos} (a : EV Z X e1 Γ (pd rDT f)) (b : EV Z X e2 Γ (pd rEn y)) (c : EV Z X e3 Γ (pd rInt x)) (m : M2 X e1 "get" ap e2 e3 pos := by exact ⟨rfl, rfl, rfl, rfl⟩) : EV Z X (.Call (.Attribute e1 "get" ap) [e2, e3] [] pos) Γ (pd rInt ((f y).getD x)) :=
  EV.of (pe_dget2 (hu1 B) a.pe b.pe c.pe m) fun σ F G H Wr fts Q o S q => ⟨F, G, Wr, fts, o, S, fun v F1 H1 g1 ⟨l, us, ev, hl, r⟩ => ⟨l, ev, .inr ⟨us, .inl (g1.ok.sub _ _ hl)⟩, F1, G, Wr, fts, g1.ok, S.grow g1, fun w F2 H2 g2 ⟨t, u1, u2, ew, ht, r1, r2⟩ => ⟨F2, G, Wr, fts, g2.ok, (S.grow g1).grow g2, fun z F3 H3 g3 p3 => by
    obtain rfl : u1 = V.int y.1 := r1
    obtain rfl : u2 = V.int y.2 := r2
    obtain rfl : z = V.int x := p3
    refine ⟨_, ew ▸ DGet.t (k := enK y) (g3.ok.sub _ _ (g3.ef _ _ (g2.ef _ _ hl))) (g3.ok.sub _ _ (g3.ef _ _ ht)), ?_⟩
    rw [r y]
    refine q _ F3 H3 ((g1.step g2).step g3) ?_
    cases f y <;> rfl⟩⟩⟩
end
end BF
set_option maxHeartbeats 4000000
namespace BF
open PySem PySem.Spec PyProof.Rows L2
/-! ## zip of three lists; zip of a text and a list -/
def Itz3 (K : PySem.W.Frag) (a b c : Addr) : It :=
  ⟨fun i H => ∃ (xs ys zs : List V) (x y z : V), SqL K H a xs ∧ SqL K H b ys ∧ SqL K H c zs ∧ xs[i]? = some x ∧ ys[i]? = some y ∧ zs[i]? = some z,
    fun i H v H' => ∃ T x y z, v = .ref T ∧ H T = none ∧ H' = upd H T (.tup [x, y, z]) ∧ (∀ xs, SqL K H a xs → xs[i]? = some x) ∧ (∀ ys, SqL K H b ys → ys[i]? = some y) ∧ ∀ zs, SqL K H c zs → zs[i]? = some z,
    fun i H => ∃ xs ys zs : List V, SqL K H a xs ∧ SqL K H b ys ∧ SqL K H c zs ∧ i = min (min xs.length ys.length) zs.length⟩
def ItzS (K : PySem.W.Frag) (x : Str) (b : Addr) : It :=
  ⟨fun i H => ∃ (ys : List V) (y : V), SqL K H b ys ∧ i < x.cps.size ∧ ys[i]? = some y,
    fun i H v H' => ∃ T cc y, v = .ref T ∧ H T = none ∧ H' = upd H T (.tup [.str ⟨#[cc]⟩, y]) ∧ x.cps[i]? = some cc ∧ ∀ ys, SqL K H b ys → ys[i]? = some y,
    fun i H => ∃ ys : List V, SqL K H b ys ∧ i = min x.cps.size ys.length⟩
theorem turn_zip3 {P : Program} {w : World} {K : PySem.W.Frag} {elts : List Expr} {kk : Nat} {tpos : Pos} {a b c z TI TO i1 i2 i3 : Addr} (S : ZipSep3 z TI TO i1 i2 i3 [i1, a] [i2, b] [i3, c]) (n1 : a ≠ i1) (n2 : b ≠ i2) (n3 : c ≠ i3) :
    Turn P w K (.Tuple elts kk tpos) (Itz3 K a b c) [z, TI, TO, i1, i2, i3] z (fun i h => IsZip h z TI TO .none ∧ IsTupOf3 h TI (.ref i1) (.ref i2) (.ref i3) ∧ (∃ x y u, IsTupOf3 h TO x y u) ∧ h.IsListIter i1 a i ∧ h.IsListIter i2 b i ∧ h.IsListIter i3 c i) where
  mem := by simp
  obj := fun i h st c hc => by
    obtain ⟨hz, hTI, ⟨x, y, u, hTO⟩, ⟨o1, e1, _, d1⟩, ⟨o2, e2, _, d2⟩, ⟨o3, e3, _, d3⟩⟩ := st
    have e' : c = z ∨ c = TI ∨ c = TO ∨ c = i1 ∨ c = i2 ∨ c = i3 := by simpa using hc
    rcases e' with q | q | q | q | q | q
    · rw [q]; exact ⟨_, hz, fun v q => nomatch q⟩
    · rw [q]; exact ⟨_, hTI, fun v q => nomatch q⟩
    · rw [q]; exact ⟨_, hTO, fun v q => nomatch q⟩
    · rw [q]; exact ⟨o1, e1, fun v q => by rw [d1] at q; cases q⟩
    · rw [q]; exact ⟨o2, e2, fun v q => by rw [d2] at q; cases q⟩
    · rw [q]; exact ⟨o3, e3, fun v q => by rw [d3] at q; cases q⟩
  keep := fun i h h' st k => by
    obtain ⟨hz, hTI, ⟨x, y, u, hTO⟩, h1, h2, h3⟩ := st
    exact ⟨k z (by simp) _ hz, k TI (by simp) _ hTI, ⟨x, y, u, k TO (by simp) _ hTO⟩, h1.at fun o q => k i1 (by simp) o q, h2.at fun o q => k i2 (by simp) o q, h3.at fun o q => k i3 (by simp) o q⟩
  item := by
    intro X hP hw hK hc i pins s σ H E I hf st hg
    subst hP hw hK
    obtain ⟨hz, hTI, hTO, h1, h2, h3⟩ := st
    obtain ⟨xs, ys, zs, x, y, z', hqx, hqy, hqz, hx, hy, hz'⟩ := hg
    obtain ⟨its, rv, p, _⟩ := I.list hqx
    obtain ⟨its2, rv2, p2, _⟩ := I.list hqy
    obtain ⟨its3, rv3, p3, _⟩ := I.list hqz
    have hh := I.ok.hd hc
    have l1 := rv.length
    have l2 := rv2.length
    have l3 := rv3.length
    have b1 := (List.getElem?_eq_some_iff.mp hx).1
    have b2 := (List.getElem?_eq_some_iff.mp hy).1
    have b3 := (List.getElem?_eq_some_iff.mp hz').1
    have W := GoesN.zip3 (elts := elts) (x1 := kk) (pos := tpos) S (Draws.list (prog := X.prog) (w := X.w) (A := X.A.in1) hh i1 a n1 its.toArray) (Draws.list (prog := X.prog) (w := X.w) (A := X.A.in1) hh i2 b n2 its2.toArray) (Draws.list (prog := X.prog) (w := X.w) (A := X.A.in1) hh i3 c n3 its3.toArray)
    refine W.goes i s _ E (by simp only [List.size_toArray]; omega) ⟨hz, hTI, hTO, ⟨h1, p.isList⟩, ⟨h2, p2.isList⟩, ⟨h3, p3.isList⟩⟩ fun v h' tk hY st' hk htk => ?_
    obtain ⟨T, u1, u2, u3, rfl, hT, q1, q2, q3, hTT⟩ := hY
    obtain ⟨kz, kTI, kTO, k1, k2, k3⟩ := st'
    obtain ⟨w1, hw1, ru1⟩ := rv.get hx
    obtain ⟨w2, hw2, ru2⟩ := rv2.get hy
    obtain ⟨w3, hw3, ru3⟩ := rv3.get hz'
    have e1 : w1 = u1 := by
      have : its.toArray[i]? = some w1 := by simpa using hw1
      rw [this] at q1; exact Option.some.inj q1
    have e2 : w2 = u2 := by
      have : its2.toArray[i]? = some w2 := by simpa using hw2
      rw [this] at q2; exact Option.some.inj q2
    have e3 : w3 = u3 := by
      have : its3.toArray[i]? = some w3 := by simpa using hw3
      rw [this] at q3; exact Option.some.inj q3
    subst e1 e2 e3
    obtain ⟨o, ho, hcl, n, hd⟩ := hTT
    have new : ObjOk X.prog X.w (upd H T (.tup [x, y, z'])) h' T (.tup [x, y, z']) :=
      ⟨by show 3 ≤ sizeLine; decide, [w1, w2, w3], .cons ru1 (.cons ru2 (.cons ru3 .nil)), ⟨o, ho, hcl, n, hd⟩⟩
    refine ⟨.ref T, _, I.turnedNew (t' := tk) (ch := [z, TI, TO, i1, i2, i3]) (fun b o hb e => hk b o (fun m => hb (by
      simp at m
      simp
      rcases m with q | q | q | q | q <;> simp [q])) e) hf hT new, rfl, ⟨T, x, y, z', rfl, I.hok.fresh hT, rfl, fun l hl => by rw [I.list_inj hl hqx]; exact hx, fun l hl => by rw [I.list_inj hl hqy]; exact hy, fun l hl => by rw [I.list_inj hl hqz]; exact hz'⟩, ⟨kz, kTI, kTO, k1.1, k2.1, k3.1⟩, fun b hb => ?_⟩
    have hlt : b ≠ T := fun e => by
      have hn := (hf b hb).1
      have hlt : b < s.heap.objs.size := by
        have e' : b = z ∨ b = TI ∨ b = TO ∨ b = i1 ∨ b = i2 ∨ b = i3 := by simpa using hb
        obtain ⟨x0, y0, u0, hTO⟩ := hTO
        rcases e' with q | q | q | q | q | q
        · rw [q]; exact Heap.lt_size hz
        · rw [q]; exact Heap.lt_size hTI
        · rw [q]; exact Heap.lt_size hTO
        · rw [q]; obtain ⟨_, e1, _⟩ := h1; exact Heap.lt_size e1
        · rw [q]; obtain ⟨_, e2, _⟩ := h2; exact Heap.lt_size e2
        · rw [q]; obtain ⟨_, e3, _⟩ := h3; exact Heap.lt_size e3
      rw [e] at hlt
      exact absurd hlt (Nat.not_lt.mpr hT)
    rw [upd_ne hlt]
    exact (hf b hb).1
  done := by
    intro X hP hw hK hc i pins s σ H E I hf st hg
    subst hP hw hK
    obtain ⟨hz, hTI, hTO, h1, h2, h3⟩ := st
    obtain ⟨xs, ys, zs, hqx, hqy, hqz, hend⟩ := hg
    obtain ⟨its, rv, p, _⟩ := I.list hqx
    obtain ⟨its2, rv2, p2, _⟩ := I.list hqy
    obtain ⟨its3, rv3, p3, _⟩ := I.list hqz
    have hh := I.ok.hd hc
    have l1 := rv.length
    have l2 := rv2.length
    have l3 := rv3.length
    have W := GoesN.zip3 (elts := elts) (x1 := kk) (pos := tpos) S (Draws.list (prog := X.prog) (w := X.w) (A := X.A.in1) hh i1 a n1 its.toArray) (Draws.list (prog := X.prog) (w := X.w) (A := X.A.in1) hh i2 b n2 its2.toArray) (Draws.list (prog := X.prog) (w := X.w) (A := X.A.in1) hh i3 c n3 its3.toArray)
    have ei : i = min (min its.toArray.size its2.toArray.size) its3.toArray.size := by simp only [List.size_toArray]; omega
    refine W.stops s _ E (ei ▸ ⟨hz, hTI, hTO, ⟨h1, p.isList⟩, ⟨h2, p2.isList⟩, ⟨h3, p3.isList⟩⟩) fun h' tk hk htk => ?_
    exact I.turnedL (t' := tk) (ch := [z, TI, TO, i1, i2, i3]) (fun b o hb q => hk b o (fun m => hb (by
      simp at m
      simp
      rcases m with q | q | q | q | q <;> simp [q])) q) hf
  self := fun A i s Q E st h => wpAny_pyIter_zip st.1 h
theorem turn_zipS {P : Program} {w : World} {K : PySem.W.Frag} {elts : List Expr} {kk : Nat} {tpos : Pos} {x : Str} {t : Tok} {b z TI TO i1 i2 : Addr} (S : ZipSep2 z TI TO i1 i2 [i1] [i2, b]) (n2 : b ≠ i2) :
    Turn P w K (.Tuple elts kk tpos) (ItzS K x b) [z, TI, TO, i1, i2] z (fun i h => IsZip h z TI TO .none ∧ IsTupOf2 h TI (.ref i1) (.ref i2) ∧ (∃ x y, IsTupOf2 h TO x y) ∧ h.IsStrIter i1 (strIterType x) x t i ∧ h.IsListIter i2 b i) where
  mem := by simp
  obj := fun i h st c hc => by
    obtain ⟨hz, hTI, ⟨x, y, hTO⟩, ⟨o1, e1, _, d1⟩, ⟨o2, e2, _, d2⟩⟩ := st
    have e' : c = z ∨ c = TI ∨ c = TO ∨ c = i1 ∨ c = i2 := by simpa using hc
    rcases e' with q | q | q | q | q
    · rw [q]; exact ⟨_, hz, fun v q => nomatch q⟩
    · rw [q]; exact ⟨_, hTI, fun v q => nomatch q⟩
    · rw [q]; exact ⟨_, hTO, fun v q => nomatch q⟩
    · rw [q]; exact ⟨o1, e1, fun v q => by rw [d1] at q; cases q⟩
    · rw [q]; exact ⟨o2, e2, fun v q => by rw [d2] at q; cases q⟩
  keep := fun i h h' st k => by
    obtain ⟨hz, hTI, ⟨x, y, hTO⟩, ⟨o1, e1, r1⟩, h2⟩ := st
    exact ⟨k z (by simp) _ hz, k TI (by simp) _ hTI, ⟨x, y, k TO (by simp) _ hTO⟩, ⟨o1, k i1 (by simp) o1 e1, r1⟩, h2.at fun o q => k i2 (by simp) o q⟩
  item := by
    intro X hP hw hK hc i pins s σ H E I hf st hg
    subst hP hw hK
    obtain ⟨hz, hTI, hTO, h1, h2⟩ := st
    obtain ⟨ys, y, hqy, hx, hy⟩ := hg
    obtain ⟨its2, rv2, p2, _⟩ := I.list hqy
    have hh := I.ok.hd hc
    have l2 := rv2.length
    have b2 := (List.getElem?_eq_some_iff.mp hy).1
    have W := GoesN.zip2 (elts := elts) (x1 := kk) (pos := tpos) S (Draws.text (prog := X.prog) (w := X.w) (A := X.A.in1) hh i1 x t) (Draws.list (prog := X.prog) (w := X.w) (A := X.A.in1) hh i2 b n2 its2.toArray)
    refine W.goes i s _ E (by simp only [List.size_toArray]; omega) ⟨hz, hTI, hTO, h1, ⟨h2, p2.isList⟩⟩ fun v h' tk hY st' hk htk => ?_
    obtain ⟨T, u1, u2, rfl, hT, q1, q2, hTT⟩ := hY
    obtain ⟨kz, kTI, kTO, k1, k2⟩ := st'
    obtain ⟨w2, hw2, ru2⟩ := rv2.get hy
    have e2 : w2 = u2 := by
      have : its2.toArray[i]? = some w2 := by simpa using hw2
      rw [this] at q2; exact Option.some.inj q2
    subst e2
    obtain ⟨cc, tk1, hcc, rfl⟩ := q1
    obtain ⟨o, ho, hcl, n, hd⟩ := hTT
    have new : ObjOk X.prog X.w (upd H T (.tup [.str ⟨#[cc]⟩, y])) h' T (.tup [.str ⟨#[cc]⟩, y]) :=
      ⟨by show 2 ≤ sizeLine; decide, [.str ⟨#[cc]⟩ tk1, w2], .cons ⟨tk1, rfl⟩ (.cons ru2 .nil), ⟨o, ho, hcl, n, hd⟩⟩
    refine ⟨.ref T, _, I.turnedNew (t' := tk) (ch := [z, TI, TO, i1, i2]) (fun b o hb e => hk b o (fun m => hb (by
      simp at m
      simp
      rcases m with q | q | q | q <;> simp [q])) e) hf hT new, rfl, ⟨T, cc, y, rfl, I.hok.fresh hT, rfl, hcc, fun l hl => by rw [I.list_inj hl hqy]; exact hy⟩, ⟨kz, kTI, kTO, k1, k2.1⟩, fun b hb => ?_⟩
    have hlt : b ≠ T := fun e => by
      have hlt : b < s.heap.objs.size := by
        have e' : b = z ∨ b = TI ∨ b = TO ∨ b = i1 ∨ b = i2 := by simpa using hb
        obtain ⟨x0, y0, hTO⟩ := hTO
        rcases e' with q | q | q | q | q
        · rw [q]; exact Heap.lt_size hz
        · rw [q]; exact Heap.lt_size hTI
        · rw [q]; exact Heap.lt_size hTO
        · rw [q]; obtain ⟨_, e1, _⟩ := h1; exact Heap.lt_size e1
        · rw [q]; obtain ⟨_, e2, _⟩ := h2; exact Heap.lt_size e2
      rw [e] at hlt
      exact absurd hlt (Nat.not_lt.mpr hT)
    rw [upd_ne hlt]
    exact (hf b hb).1
  done := by
    intro X hP hw hK hc i pins s σ H E I hf st hg
    subst hP hw hK
    obtain ⟨hz, hTI, hTO, h1, h2⟩ := st
    obtain ⟨ys, hqy, hend⟩ := hg
    obtain ⟨its2, rv2, p2, _⟩ := I.list hqy
    have hh := I.ok.hd hc
    have l2 := rv2.length
    have W := GoesN.zip2 (elts := elts) (x1 := kk) (pos := tpos) S (Draws.text (prog := X.prog) (w := X.w) (A := X.A.in1) hh i1 x t) (Draws.list (prog := X.prog) (w := X.w) (A := X.A.in1) hh i2 b n2 its2.toArray)
    have ei : i = min x.cps.size its2.toArray.size := by simp only [List.size_toArray]; omega
    refine W.stops s _ E (ei ▸ ⟨hz, hTI, hTO, h1, ⟨h2, p2.isList⟩⟩) fun h' tk hk htk => ?_
    exact I.turnedL (t' := tk) (ch := [z, TI, TO, i1, i2]) (fun b o hb q => hk b o (fun m => hb (by
      simp at m
      simp
      rcases m with q | q | q | q <;> simp [q])) q) hf
  self := fun A i s Q E st h => wpAny_pyIter_zip st.1 h
end BF
set_option maxHeartbeats 4000000
namespace BF
open PySem PySem.Spec PyProof.Rows L2
def iZip3 (K : PySem.W.Frag) (ta : TA) : TI := fun σ H R => ta σ H fun vs H1 => ∃ a b c xs ys zs, vs = [.ref a, .ref b, .ref c] ∧ SqL K H1 a xs ∧ SqL K H1 b ys ∧ SqL K H1 c zs ∧ R (Itz3 K a b c) H1
theorem pi_zip3 {X : Cx} {e e2 e3 : Expr} {ta : TA} {p pos tpos : Pos} {elts : List Expr} {kk : Nat} (hg : Gl X "zip") (hm : X.mg "zip" = none) (ha : PA X [e, e2, e3] ta)
    (hs : starEach (e :: [e2, e3]) X.env = (false, eval e X.env) :: starEach [e2, e3] X.env := by rfl) (hpl : (backTo pos (starEach [e2, e3] X.env)).any (·.1) = false := by rfl) :
    PI X (.Tuple elts kk tpos) (.Call (.Name "zip" p) [e, e2, e3] [] pos) (iZip3 X.K ta) := by
  refine ⟨fun pins s σ H R I h => ?_⟩
  refine Call_ (ld_blt I hg hm PyProof.Rows.boot_zip (PyProof.Rows.callWith_type1 (thn (ha.run pos pins s σ H _ I h) fun us s1 ⟨vs, H1, I1, r1, q1⟩ => ?_) hs hpl))
  obtain ⟨a, b, c, xs, ys, zs, ex, hqx, hqy, hqz, q⟩ := q1
  subst ex
  cases r1 with
  | cons r rr =>
   cases rr with
   | cons r' rr =>
    cases rr with
    | cons r'' rr =>
      cases rr
      cases r
      cases r'
      cases r''
      obtain ⟨its, rv, p1, _⟩ := I1.list hqx
      obtain ⟨its2, rv2, p2, _⟩ := I1.list hqy
      obtain ⟨its3, rv3, p3, _⟩ := I1.list hqz
      refine zip_begins3 (begins_list a its.toArray) (begins_list b its2.toArray) (begins_list c its3.toArray) p1.isList p2.isList p3.isList fun h' hz hTI hTO h1 h2 h3 hsz hk => wpAny_pyIter_zip hz ?_
      have I2 : Inv X pins σ H1 { s1 with heap := h' } := I1.kept (t' := s1.toks) hk
      have la : a < s1.heap.objs.size := p1.lt
      have lb : b < s1.heap.objs.size := p2.lt
      have lc : c < s1.heap.objs.size := p3.lt
      refine ⟨s1.heap.objs.size + 5, [s1.heap.objs.size + 5, s1.heap.objs.size + 3, s1.heap.objs.size + 4, s1.heap.objs.size, s1.heap.objs.size + 1, s1.heap.objs.size + 2], _, _, H1, rfl, I2,
        turn_zip3 (zip_sep3 (N := s1.heap.objs.size) (fp1 := [a]) (fp2 := [b]) (fp3 := [c]) (by simpa using la) (by simpa using lb) (by simpa using lc)) (Nat.ne_of_lt la) (Nat.ne_of_lt (Nat.lt_succ_of_lt lb)) (Nat.ne_of_lt (Nat.lt_succ_of_lt (Nat.lt_succ_of_lt lc))),
        ⟨hz, hTI, ⟨_, _, _, hTO⟩, ⟨_, h1, rfl, rfl⟩, ⟨_, h2, rfl, rfl⟩, ⟨_, h3, rfl, rfl⟩⟩, fun d hd => ?_, q⟩
      have hle : s1.heap.objs.size ≤ d := by
        have e' : d = s1.heap.objs.size + 5 ∨ d = s1.heap.objs.size + 3 ∨ d = s1.heap.objs.size + 4 ∨ d = s1.heap.objs.size ∨ d = s1.heap.objs.size + 1 ∨ d = s1.heap.objs.size + 2 := by simpa using hd
        rcases e' with z | z | z | z | z | z
        · rw [z]; exact Nat.le_add_right _ _
        · rw [z]; exact Nat.le_add_right _ _
        · rw [z]; exact Nat.le_add_right _ _
        · rw [z]; exact Nat.le_refl _
        · rw [z]; exact Nat.le_add_right _ _
        · rw [z]; exact Nat.le_add_right _ _
      exact I1.fpOk hle (I1.hok.fresh hle)
def iZipS (K : PySem.W.Frag) (ta : TA) : TI := fun σ H R => ta σ H fun vs H1 => ∃ x b ys, vs = [.str x, .ref b] ∧ SqL K H1 b ys ∧ R (ItzS K x b) H1
theorem pi_zipS {X : Cx} {e e2 : Expr} {ta : TA} {p pos tpos : Pos} {elts : List Expr} {kk : Nat} (hg : Gl X "zip") (hm : X.mg "zip" = none) (ha : PA X [e, e2] ta)
    (hs : starEach (e :: [e2]) X.env = (false, eval e X.env) :: starEach [e2] X.env := by rfl) (hpl : (backTo pos (starEach [e2] X.env)).any (·.1) = false := by rfl) :
    PI X (.Tuple elts kk tpos) (.Call (.Name "zip" p) [e, e2] [] pos) (iZipS X.K ta) := by
  refine ⟨fun pins s σ H R I h => ?_⟩
  refine Call_ (ld_blt I hg hm PyProof.Rows.boot_zip (PyProof.Rows.callWith_type1 (thn (ha.run pos pins s σ H _ I h) fun us s1 ⟨vs, H1, I1, r1, q1⟩ => ?_) hs hpl))
  obtain ⟨x, b, ys, ex, hqy, q⟩ := q1
  subst ex
  cases r1 with
  | cons r rr =>
   cases rr with
   | cons r' rr =>
      cases rr
      obtain ⟨t, rfl⟩ := r
      cases r'
      obtain ⟨its2, rv2, p2, _⟩ := I1.list hqy
      refine zip_begins2 (begins_text x t) (begins_list b its2.toArray) trivial p2.isList fun h' hz hTI hTO h1 h2 hsz hk => wpAny_pyIter_zip hz ?_
      have I2 : Inv X pins σ H1 { s1 with heap := h' } := I1.kept (t' := s1.toks) hk
      have lb : b < s1.heap.objs.size := p2.lt
      refine ⟨s1.heap.objs.size + 4, [s1.heap.objs.size + 4, s1.heap.objs.size + 2, s1.heap.objs.size + 3, s1.heap.objs.size, s1.heap.objs.size + 1], _, _, H1, rfl, I2,
        turn_zipS (t := t) (zip_sep2 (N := s1.heap.objs.size) (fp1 := []) (fp2 := [b]) (by simp) (by simpa using lb)) (Nat.ne_of_lt (Nat.lt_succ_of_lt lb)),
        ⟨hz, hTI, ⟨_, _, hTO⟩, ⟨_, h1, rfl, rfl⟩, ⟨_, h2, rfl, rfl⟩⟩, fun d hd => ?_, q⟩
      have hle : s1.heap.objs.size ≤ d := by
        have e' : d = s1.heap.objs.size + 4 ∨ d = s1.heap.objs.size + 2 ∨ d = s1.heap.objs.size + 3 ∨ d = s1.heap.objs.size ∨ d = s1.heap.objs.size + 1 := by simpa using hd
        rcases e' with z | z | z | z | z
        · rw [z]; exact Nat.le_add_right _ _
        · rw [z]; exact Nat.le_add_right _ _
        · rw [z]; exact Nat.le_add_right _ _
        · rw [z]; exact Nat.le_refl _
        · rw [z]; exact Nat.le_add_right _ _
      exact I1.fpOk hle (I1.hok.fresh hle)
section
variable {Z : Zx} {X : Cx} {e e1 e2 e3 tg iter c elt : Expr} {Γ : List Sl} {N : List Str} {sc cs : Scope} {vs ws vs' : List Nat} {gs gs' : List Str} {k : Nat} {pos p pos' : Pos} {α β γ : Type} {R : Rp α} {R2 : Rp β} {R3 : Rp γ}
theorem laid3 {F H : Hp} {T : Tbs} {a : Addr} {u w z : V} {x : α} {y : β} {x3 : γ} (o : Ok T F H) (ha : H a = none) (r1 : R.rel x F u) (r2 : R2.rel y F w) (r3 : R3.rel x3 F z) : ∃ F', Grow T nowhere F H F' (upd H a (.tup [u, w, z])) ∧ (rT3 R R2 R3).rel (x, y, x3) F' (.ref a) := by
  have g : Grow T nowhere F H (upd F a (.tup [u, w, z])) (upd H a (.tup [u, w, z])) := Grow.laid o ha tup_nt
  exact ⟨_, g, a, u, w, z, rfl, upd_same, R.mono g.ef r1, R2.mono g.ef r2, R3.mono g.ef r3⟩
theorem gi_zip3 {elts : List Expr} {kk : Nat} {tpos : Pos} (B : Bd Z X N sc vs ws gs k) (E : Top Z) {xs : List α} {ys : List β} {zs : List γ} (a : EV Z X e Γ (pd (rLst R) xs)) (b : EV Z X e2 Γ (pd (rLst R2) ys)) (c : EV Z X e3 Γ (pd (rLst R3) zs)) (hg : ("zip" : Str) ∈ gs := by decide +kernel) (hs : starEach (e :: [e2, e3]) X.env = (false, eval e X.env) :: starEach [e2, e3] X.env := by rfl) (hs2 : starEach (e2 :: [e3]) X.env = (false, eval e2 X.env) :: starEach [e3] X.env := by rfl) (hs3 : starEach (e3 :: []) X.env = (false, eval e3 X.env) :: starEach [] X.env := by rfl) (hpl : (backTo pos (starEach [e2, e3] X.env)).any (·.1) = false := by rfl) :
    GI Z X (.Tuple elts kk tpos) (.Call (.Name "zip" p) [e, e2, e3] [] pos) Γ true (rT3 R R2 R3) (xs.zip (ys.zip zs)) :=
  ⟨_, pi_zip3 (B.gx hg) (by rw [B.mg]; exact E.f "zip") (ea_cons a (ea2 b c hs2 hs3) hs).pa hs hpl, fun σ F G H Wr fts Rk o S q => ⟨F, G, Wr, fts, o, S, fun us F1 H1 g1 p1 => by
    match us, p1 with
    | [v, w, z], ⟨⟨l, us, ev, hl, r⟩, ⟨m, ts, ew, hm, rm⟩, ⟨n, ws, ez, hn, rn⟩, _⟩ =>
      refine ⟨l, m, n, us, ts, ws, by rw [ev, ew, ez], SqL.of (g1.ok.sub _ _ hl), SqL.of (g1.ok.sub _ _ hm), SqL.of (g1.ok.sub _ _ hn), q _ F1 H1 g1 fun i F2 H2 o2 s2 k2 => ?_⟩
      have hl2 := o2.sub _ _ (s2 _ _ hl)
      have hm2 := o2.sub _ _ (s2 _ _ hm)
      have hn2 := o2.sub _ _ (s2 _ _ hn)
      refine ⟨fun y hy => ?_, fun hi => ⟨us, ts, ws, SqL.of hl2, SqL.of hm2, SqL.of hn2, by rw [r.len, rm.len, rn.len, hi, List.length_zip, List.length_zip]; omega⟩⟩
      obtain ⟨q1, q2⟩ := zip_at hy
      obtain ⟨q2, q3⟩ := zip_at q2
      obtain ⟨w1, hw1, rw1⟩ := r.get q1
      obtain ⟨w2, hw2, rw2⟩ := rm.get q2
      obtain ⟨w3, hw3, rw3⟩ := rn.get q3
      refine ⟨⟨us, ts, ws, w1, w2, w3, SqL.of hl2, SqL.of hm2, SqL.of hn2, hw1, hw2, hw3⟩, fun v' H' y' => ?_⟩
      obtain ⟨a, x1, x2, x3, ev', ha, eH, f1, f2, f3⟩ := y'
      have h1 := f1 us (SqL.of hl2)
      have h2 := f2 ts (SqL.of hm2)
      have h3 := f3 ws (SqL.of hn2)
      rw [hw1] at h1
      rw [hw2] at h2
      rw [hw3] at h3
      cases h1
      cases h2
      cases h3
      subst ev' eH
      obtain ⟨F', g', r'⟩ := laid3 (R := R) (R2 := R2) (R3 := R3) (x := y.1) (y := y.2.1) (x3 := y.2.2) o2 ha (R.mono s2 rw1) (R2.mono s2 rw2) (R3.mono s2 rw3)
      exact ⟨F', g', r'⟩⟩⟩
theorem gi_zipS {elts : List Expr} {kk : Nat} {tpos : Pos} (B : Bd Z X N sc vs ws gs k) (E : Top Z) {x : Str} {ys : List β} (a : EV Z X e Γ (pd rStr x)) (b : EV Z X e2 Γ (pd (rLst R2) ys)) (hg : ("zip" : Str) ∈ gs := by decide +kernel) (hs : starEach (e :: [e2]) X.env = (false, eval e X.env) :: starEach [e2] X.env := by rfl) (hs2 : starEach (e2 :: []) X.env = (false, eval e2 X.env) :: starEach [] X.env := by rfl) (hpl : (backTo pos (starEach [e2] X.env)).any (·.1) = false := by rfl) :
    GI Z X (.Tuple elts kk tpos) (.Call (.Name "zip" p) [e, e2] [] pos) Γ true (rT2 rStr R2) ((signs x).zip ys) :=
  ⟨_, pi_zipS (B.gx hg) (by rw [B.mg]; exact E.f "zip") (ea2 a b hs hs2).pa hs hpl, fun σ F G H Wr fts Rk o S q => ⟨F, G, Wr, fts, o, S, fun us F1 H1 g1 p1 => by
    match us, p1 with
    | [v, w], ⟨pv, ⟨m, ts, ew, hm, rm⟩, _⟩ =>
      obtain rfl : v = V.str x := pv
      refine ⟨x, m, ts, by rw [ew], SqL.of (g1.ok.sub _ _ hm), q _ F1 H1 g1 fun i F2 H2 o2 s2 k2 => ?_⟩
      have hm2 := o2.sub _ _ (s2 _ _ hm)
      have hsl : (signs x).length = x.cps.size := by unfold signs; simp
      refine ⟨fun y hy => ?_, fun hi => ⟨ts, SqL.of hm2, by rw [rm.len, hi, List.length_zip, hsl]⟩⟩
      obtain ⟨q1, q2⟩ := zip_at hy
      obtain ⟨w2, hw2, rw2⟩ := rm.get q2
      have hlt := (List.getElem?_eq_some_iff.mp q1).1
      rw [hsl] at hlt
      refine ⟨⟨ts, w2, SqL.of hm2, hlt, hw2⟩, fun v' H' y' => ?_⟩
      obtain ⟨a, cc, x2, ev', ha, eH, f1, f2⟩ := y'
      have h2 := f2 ts (SqL.of hm2)
      rw [hw2] at h2
      cases h2
      subst ev' eH
      unfold signs at q1
      rw [List.getElem?_map, Array.getElem?_toList, f1] at q1
      obtain ⟨F', g', r'⟩ := laid2 (R := rStr) (R2 := R2) (x := y.1) (y := y.2) o2 ha (u := .str ⟨#[cc]⟩) (by rw [← Option.some.inj q1]; rfl) (R2.mono s2 rw2)
      exact ⟨F', g', r'⟩⟩⟩
end
end BF
set_option maxHeartbeats 4000000
namespace BF
open PySem PySem.Spec PyProof.Rows L2
theorem sw_cell {elt : Expr} {gs : List Comprehension} {scope : Scope} {pos py : Pos} {y : Str} {l : Nat} {env : Env} (hy : env.scope.names.lookup y = some .cell) : swapsWith (.ListComp elt gs scope pos) (some (.Name y py)) l env = pure false := by
  have ky : env.kindOf y = some .cell := hy
  have e : (some NameKind.cell == some NameKind.local) = false := rfl
  unfold swapsWith
  simp only [ky, e, Bool.and_false, Bool.false_and]
section
variable {Z : Zx} {X : Cx} {e e1 e2 e3 tg iter c elt : Expr} {es : List Expr} {Γ : List Sl} {N : List Str} {sc cs : Scope} {vs ws vs' : List Nat} {gs gs' : List Str} {k : Nat} {pos p pos' : Pos} {α β γ : Type} {R : Rp α} {R2 : Rp β} {R3 : Rp γ}
theorem en_list {xs : List α} (a : EAL Z X R Γ es xs) (hz : xs.length ≤ 1000000 := by first | decide | exact Nat.le_of_ble_eq_true rfl) : EN Z X (.List es pos) Γ (mLst R) xs :=
  ⟨_, pe_lst a.ea.pa, fun σ F G H Wr fts Q o S q => ⟨F, G, Wr, fts, o, S, fun us F1 H1 g1 p1 => by
    have r := allp_rl p1
    refine ⟨by rw [r.len, sizeLine_eq]; omega, fun d hd => ?_⟩
    have fD : F1 d = none := g1.ok.free hd
    have hD : H d = none := by
      cases z : H d with
      | none => rfl
      | some u => exact absurd hd (g1.th d (by rw [z]; simp))
    exact q _ F1 _ [d] (g1.step (Grow.made g1.ok hd)) ⟨d, us, rfl, rfl, upd_same, r⟩ fun b hb => by
      simp at hb; subst hb; exact ⟨fD, hD⟩⟩⟩
end
end BF
namespace BF
open PySem PySem.Spec PyProof.Rows L2
/-- the defs of the text -/
structure Ds (Z : Zx) : Prop where
  is_key : Df Z "is_key" s_is_key
  code : Df Z "code" s_code
  put_between : Df Z "put_between" s_put_between
  joined_up : Df Z "joined_up" s_joined_up
  lowest_unlike : Df Z "lowest_unlike" s_lowest_unlike
  turned : Df Z "turned" s_turned
  labels : Df Z "labels" s_labels
  neighbours_of : Df Z "neighbours_of" s_neighbours_of
  colours : Df Z "colours" s_colours
  marks : Df Z "marks" s_marks
  handed : Df Z "handed" s_handed
  is_whole : Df Z "is_whole" s_is_whole
  is_knot : Df Z "is_knot" s_is_knot
  tree_of : Df Z "tree_of" s_tree_of
  children : Df Z "children" s_children
  beneath : Df Z "beneath" s_beneath
  is_way : Df Z "is_way" s_is_way
  row_of : Df Z "row_of" s_row_of
  stand_of : Df Z "stand_of" s_stand_of
  own_entries : Df Z "own_entries" s_own_entries
  full_rows : Df Z "full_rows" s_full_rows
  weight_beneath : Df Z "weight_beneath" s_weight_beneath
  weight : Df Z "weight" s_weight
  owns_of : Df Z "owns_of" s_owns_of
  behind_of : Df Z "behind_of" s_behind_of
  starts_of : Df Z "starts_of" s_starts_of
  bridges_of_fulls : Df Z "bridges_of_fulls" s_bridges_of_fulls
  bridges : Df Z "bridges" s_bridges
  first_place : Df Z "first_place" s_first_place
  next_place : Df Z "next_place" s_next_place
  start_in : Df Z "start_in" s_start_in
  search : Df Z "search" s_search
  ask_way : Df Z "ask_way" s_ask_way
  found_places : Df Z "found_places" s_found_places
  places : Df Z "places" s_places
  parts_from : Df Z "parts_from" s_parts_from
  who_has : Df Z "who_has" s_who_has
  stretch : Df Z "stretch" s_stretch
  above : Df Z "above" s_above
  below : Df Z "below" s_below
  less : Df Z "less" s_less
  show_stand : Df Z "show_stand" s_show_stand
  number_read : Df Z "number_read" s_number_read
  read_keys : Df Z "read_keys" s_read_keys
  read_line : Df Z "read_line" s_read_line
  read_stand : Df Z "read_stand" s_read_stand
  with_blanks : Df Z "with_blanks" s_with_blanks
  entry_text : Df Z "entry_text" s_entry_text
  entry_or_none : Df Z "entry_or_none" s_entry_or_none
  with_commas : Df Z "with_commas" s_with_commas
  shape_of : Df Z "shape_of" s_shape_of
  law_every : Df Z "_law_every" s_law_every
  law_begin : Df Z "_law_begin" s_law_begin
  law_mixed : Df Z "_law_mixed" s_law_mixed
  law_take : Df Z "_law_take" s_law_take
  law_key : Df Z "_law_key" s_law_key
  law_tree : Df Z "_law_tree" s_law_tree
  law_row : Df Z "_law_row" s_law_row
  law_rows : Df Z "_law_rows" s_law_rows
  law_children : Df Z "_law_children" s_law_children
  law_way : Df Z "_law_way" s_law_way
  law_small_stand : Df Z "_law_small_stand" s_law_small_stand
  law_text : Df Z "_law_text" s_law_text
  law_words : Df Z "_law_words" s_law_words
  law_entry_text : Df Z "_law_entry_text" s_law_entry_text
  law_key_near : Df Z "_law_key_near" s_law_key_near
  law_counted : Df Z "_law_counted" s_law_counted
  law_done : Df Z "_law_done" s_law_done
  law_said : Df Z "_law_said" s_law_said
  law_entry_or_none : Df Z "_law_entry_or_none" s_law_entry_or_none
  law_alike : Df Z "_law_alike" s_law_alike
  law : Df Z "law" s_law
end BF
set_option maxHeartbeats 4000000
namespace BF
open PySem PySem.Spec PyProof.Rows L2
/-! ## plain lists -/
theorem fold_step {α β : Type} {xs : List α} {i : Nat} {x : α} (f : β → α → β) (a : β) (h : xs[i]? = some x) : (xs.take (i + 1)).foldl f a = f ((xs.take i).foldl f a) x := by
  rw [List.take_succ, h, List.foldl_append]; rfl
theorem map_step {α β : Type} {xs : List α} {i : Nat} {x : α} (f : α → β) (h : xs[i]? = some x) : (xs.take (i + 1)).map f = (xs.take i).map f ++ [f x] := by
  rw [List.take_succ, h, List.map_append]; rfl
theorem drop_step {α : Type} {xs : List α} {i : Nat} {x : α} (h : xs[i]? = some x) : xs.drop i = x :: xs.drop (i + 1) := by
  obtain ⟨l, e⟩ := List.getElem?_eq_some_iff.mp h
  rw [← e]
  exact List.drop_eq_getElem_cons l
theorem sIx_some {n : Nat} {d : Nat} {i : Int} (h : 0 ≤ i) : HT.sIx n d (some i) = min i.toNat n := by
  show (if i < 0 then (i + (n : Int)).toNat else min i.toNat n) = min i.toNat n
  rw [if_neg (by omega)]
theorem cut_nn {α : Type} (xs : List α) {lo hi : Int} (h1 : 0 ≤ lo) (h2 : 0 ≤ hi) : cut xs (some lo) (some hi) = (xs.drop lo.toNat).take (hi.toNat - lo.toNat) := by
  unfold cut
  rw [sIx_some h1, sIx_some h2]
  by_cases q : lo.toNat ≤ xs.length
  · rw [Nat.min_eq_left q]
    by_cases q2 : hi.toNat ≤ xs.length
    · rw [Nat.min_eq_left q2]
    · rw [Nat.min_eq_right (by omega), List.take_of_length_le (by rw [List.length_drop]; omega), List.take_of_length_le (by rw [List.length_drop]; omega)]
  · rw [List.drop_eq_nil_of_le (show xs.length ≤ lo.toNat by omega), Nat.min_eq_right (show xs.length ≤ lo.toNat by omega), List.drop_length]
    simp
theorem cut_from {α : Type} (xs : List α) {lo : Int} (h1 : 0 ≤ lo) : cut xs (some lo) none = xs.drop lo.toNat := by
  unfold cut
  rw [sIx_some h1]
  show (xs.drop (min lo.toNat xs.length)).take (xs.length - min lo.toNat xs.length) = _
  rw [List.take_of_length_le (by rw [List.length_drop]; omega)]
  by_cases q : lo.toNat ≤ xs.length
  · rw [Nat.min_eq_left q]
  · rw [Nat.min_eq_right (by omega), List.drop_length, List.drop_eq_nil_of_le (by omega)]
theorem cut_to {α : Type} (xs : List α) {hi : Int} (h1 : 0 ≤ hi) : cut xs none (some hi) = xs.take hi.toNat := by
  unfold cut
  rw [sIx_some h1]
  show (xs.drop 0).take (min hi.toNat xs.length - 0) = _
  rw [List.drop_zero, Nat.sub_zero]
  by_cases q : hi.toNat ≤ xs.length
  · rw [Nat.min_eq_left q]
  · rw [Nat.min_eq_right (by omega), List.take_length, List.take_of_length_le (by omega)]
/-! ## the text's own functions, plain -/
def is_keyM (i : Int) : Bool := decide ((i.natAbs : Int) < 10 ^ 60)
def codeM (e : En) : Int := if e.1 < 0 then 64 * (-2 * e.1 - 1) + e.2 else 64 * 2 * e.1 + e.2
def pbM : List En → List En → List En
  | [], other => other
  | e :: one, other => other.takeWhile (enLt · e) ++ e :: pbM one (other.dropWhile (enLt · e))
theorem pbM_len : ∀ one other, (pbM one other).length = one.length + other.length
  | [], other => by simp [pbM]
  | e :: one, other => by
    have h := congrArg List.length (List.takeWhile_append_dropWhile (p := (enLt · e)) (l := other))
    rw [List.length_append] at h
    simp only [pbM, List.length_append, List.length_cons, pbM_len one]
    omega
def joined_upM (ls : List (List En)) : List En := ls.foldl pbM []
def luF : Nat → Int → Int → Int
  | 0, _, _ => 0
  | n + 1, a, b => if a % 2 = b % 2 then 1 + luF n (a / 2) (b / 2) else 0
def luM (a b : Int) : Int := luF ((a + b).toNat + 1) a b
theorem luF_nn : ∀ n a b, 0 ≤ luF n a b
  | 0, _, _ => by simp [luF]
  | n + 1, a, b => by
    unfold luF
    split
    · have := luF_nn n (a / 2) (b / 2); omega
    · omega
def tnM (xs : List Int) (k : Nat) : Int := if k = 0 then xs.getD k 0 % 2 else 2 * luM (xs.getD k 0) (xs.getD (k - 1) 0) + xs.getD k 0 / 2 ^ (luM (xs.getD k 0) (xs.getD (k - 1) 0)).toNat % 2
def turnedM (xs : List Int) : List Int := (List.range xs.length).map (tnM xs)
structure UL (xs : List Int) : Prop where
  nn : ∀ i, i < xs.length → 0 ≤ xs.getD i 0
  un : ∀ i, i + 1 < xs.length → xs.getD (i + 1) 0 ≠ xs.getD i 0
def rounds : Nat → List Int → List Int
  | 0, xs => xs
  | n + 1, xs => turnedM (rounds n xs)
def labelsM (es : List En) : List Int := rounds 5 (es.map codeM)
theorem rounds_len : ∀ n xs, (rounds n xs).length = xs.length
  | 0, _ => rfl
  | n + 1, xs => by simp [rounds, turnedM, rounds_len n xs]
theorem labelsM_len (es : List En) : (labelsM es).length = es.length := by unfold labelsM; rw [rounds_len, List.length_map]
def nbM {α : Type} (xs : List α) (k : Int) : List α := cut xs (some (max 0 (k - 1))) (some k) ++ cut xs (some (k + 1)) (some (k + 2))
def lowc (near : List Int) : Int := if 0 ∈ near then (if 1 ∈ near then 2 else 1) else 0
def colS (high : Int) (xs : List Int) (k : Int) : List Int := if xs.getD k.toNat 0 = high then xs.set k.toNat (lowc (nbM xs k)) else xs
def colH (xs : List Int) (high : Int) : List Int := (rg 0 xs.length).foldl (colS high) xs
def coloursM (xs : List Int) : List Int := [3, 4, 5].foldl colH xs
theorem colS_len (h : Int) (xs : List Int) (k : Int) : (colS h xs k).length = xs.length := by unfold colS; split <;> simp
theorem foldl_len {α β : Type} {f : List α → β → List α} (h : ∀ xs k, (f xs k).length = xs.length) : ∀ (ks : List β) (xs : List α), (ks.foldl f xs).length = xs.length
  | [], _ => rfl
  | k :: ks, xs => by rw [List.foldl_cons, foldl_len h ks, h]
theorem colH_len (xs : List Int) (h : Int) : (colH xs h).length = xs.length := foldl_len (colS_len h) _ _
theorem coloursM_len (xs : List Int) : (coloursM xs).length = xs.length := foldl_len colH_len _ _
def mkS (sh : List Int) (s : Int) (fs : List Bool) (k : Int) : List Bool := if sh.getD k.toNat 0 = s ∧ (nbM fs k).any id = false then fs.set k.toNat true else fs
theorem mkS_len (sh : List Int) (s : Int) (fs : List Bool) (k : Int) : (mkS sh s fs k).length = fs.length := by unfold mkS; split <;> simp
def mkH (n : Nat) (sh : List Int) (fs : List Bool) (s : Int) : List Bool := (rg 1 n).foldl (mkS sh s) fs
theorem mkH_len (n : Nat) (sh : List Int) (fs : List Bool) (s : Int) : (mkH n sh fs s).length = fs.length := foldl_len (mkS_len sh s) _ _
def marksM (es : List En) : List Bool := [2, 1, 0].foldl (mkH es.length (coloursM (labelsM es))) (es.map fun _ => false)
theorem marksM_len (es : List En) : (marksM es).length = es.length := by unfold marksM; rw [foldl_len (mkH_len _ _), List.length_map]
def handedM (es : List En) : List En := ((es.zip (marksM es)).filter (·.2)).map (·.1)
/-- what may be coded -/
structure EnOk (es : List En) : Prop where
  ul : UL (es.map codeM)
  sz : es.length ≤ 100000
end BF
set_option maxHeartbeats 4000000
namespace BF
open PySem PySem.Spec PyProof.Rows L2
theorem getD_at {α : Type} {xs : List α} {i : Nat} {x d : α} (h : xs[i]? = some x) : xs.getD i d = x := by rw [List.getD_eq_getElem?_getD, h]; rfl
theorem at_getD {α : Type} {xs : List α} {i : Nat} (d : α) (h : i < xs.length) : xs[i]? = some (xs.getD i d) := by rw [List.getD_eq_getElem?_getD, List.getElem?_eq_getElem h]; rfl
theorem nb_len {α : Type} (xs : List α) {k : Int} (h : 0 ≤ k) : (nbM xs k).length ≤ 2 := by
  unfold nbM
  rw [cut_nn xs (by omega) h, cut_nn xs (by omega) (by omega)]
  simp only [List.length_append, List.length_take, List.length_drop]
  omega
theorem lowc_ok {near : List Int} (h : near.length ≤ 2) : lowc near ∈ (rg 0 3).filter (fun c => !decide (c ∈ near)) ∧ ∀ y ∈ (rg 0 3).filter (fun c => !decide (c ∈ near)), lowc near ≤ y := by
  have e : rg 0 3 = [0, 1, 2] := by decide
  rw [e]
  unfold lowc
  by_cases h0 : (0 : Int) ∈ near
  · rw [if_pos h0]
    by_cases h1 : (1 : Int) ∈ near
    · rw [if_pos h1]
      have h2 : (2 : Int) ∉ near := fun h2 => by
        have := List.Nodup.length_le_of_subset (l₁ := [0, 1, 2]) (l₂ := near) (by decide) (by
          intro x hx
          simp at hx
          rcases hx with rfl | rfl | rfl <;> assumption)
        simp at this
        omega
      refine ⟨by simp [h2], ?_⟩
      simp [h0, h1]
    · rw [if_neg h1]
      refine ⟨by simp [h1], ?_⟩
      simp only [List.mem_filter, List.mem_cons, List.not_mem_nil, or_false]
      rintro y ⟨rfl | rfl | rfl, q⟩
      · simp [h0] at q
      · omega
      · omega
  · rw [if_neg h0]
    refine ⟨by simp [h0], ?_⟩
    simp only [List.mem_filter, List.mem_cons, List.not_mem_nil, or_false]
    rintro y ⟨rfl | rfl | rfl, q⟩ <;> omega
theorem tnM_nn {xs : List Int} (u : UL xs) {k : Nat} (h : k < xs.length) : 0 ≤ tnM xs k := by
  unfold tnM
  split
  · have := Int.emod_nonneg (xs.getD k 0) (show (2 : Int) ≠ 0 by decide); exact this
  · have h1 := luF_nn ((xs.getD k 0 + xs.getD (k - 1) 0).toNat + 1) (xs.getD k 0) (xs.getD (k - 1) 0)
    have h2 := Int.emod_nonneg (xs.getD k 0 / 2 ^ (luM (xs.getD k 0) (xs.getD (k - 1) 0)).toNat) (show (2 : Int) ≠ 0 by decide)
    unfold luM at *
    omega
/-- where they part -/
theorem luF_part : ∀ (n : Nat) (a b : Int), 0 ≤ a → 0 ≤ b → a ≠ b → (a + b).toNat < n → (∀ j : Nat, (j : Int) < luF n a b → a / 2 ^ j % 2 = b / 2 ^ j % 2) ∧ a / 2 ^ (luF n a b).toNat % 2 ≠ b / 2 ^ (luF n a b).toNat % 2
  | 0, a, b, _, _, _, h => by omega
  | n + 1, a, b, ha, hb, hne, h => by
    unfold luF
    by_cases q : a % 2 = b % 2
    · rw [if_pos q]
      obtain ⟨i1, i2⟩ := luF_part n (a / 2) (b / 2) (by omega) (by omega) (by omega) (by omega)
      have nn := luF_nn n (a / 2) (b / 2)
      have ex : ∀ (x : Int) (j : Nat), x / 2 ^ (j + 1) = x / 2 / 2 ^ j := fun x j => by
        rw [Int.pow_succ, Int.mul_comm, ← Int.ediv_ediv_of_nonneg (by decide)]
      refine ⟨fun j hj => ?_, ?_⟩
      · cases j with
        | zero => simpa using q
        | succ j => rw [ex, ex]; exact i1 j (by omega)
      · have e : (1 + luF n (a / 2) (b / 2)).toNat = (luF n (a / 2) (b / 2)).toNat + 1 := by omega
        rw [e, ex, ex]
        exact i2
    · rw [if_neg q]
      refine ⟨fun j hj => by omega, ?_⟩
      simpa using q
theorem luM_part {a b : Int} (ha : 0 ≤ a) (hb : 0 ≤ b) (hne : a ≠ b) : (∀ j : Nat, (j : Int) < luM a b → a / 2 ^ j % 2 = b / 2 ^ j % 2) ∧ a / 2 ^ (luM a b).toNat % 2 ≠ b / 2 ^ (luM a b).toNat % 2 :=
  luF_part _ a b ha hb hne (by omega)
theorem luM_nn (a b : Int) : 0 ≤ luM a b := luF_nn _ a b
theorem turned_at {xs : List Int} {k : Nat} (h : k < xs.length) : (turnedM xs).getD k 0 = tnM xs k := by
  unfold turnedM
  refine getD_at ?_
  rw [List.getElem?_map, List.getElem?_range h]; rfl
theorem turned_UL {xs : List Int} (u : UL xs) : UL (turnedM xs) := by
  have hl : (turnedM xs).length = xs.length := by unfold turnedM; simp
  refine ⟨fun i hi => ?_, fun i hi => ?_⟩
  · rw [turned_at (by omega)]
    exact tnM_nn u (by omega)
  · rw [hl] at hi
    rw [turned_at hi, turned_at (by omega)]
    -- the one ahead
    have h0 := u.nn i (by omega)
    have h1 := u.nn (i + 1) hi
    have hp := luM_part h1 h0 (u.un i hi)
    have e1 : tnM xs (i + 1) = 2 * luM (xs.getD (i + 1) 0) (xs.getD i 0) + xs.getD (i + 1) 0 / 2 ^ (luM (xs.getD (i + 1) 0) (xs.getD i 0)).toNat % 2 := by
      unfold tnM
      rw [if_neg (by omega)]
      rfl
    have n1 := luM_nn (xs.getD (i + 1) 0) (xs.getD i 0)
    have r1 := Int.emod_nonneg (xs.getD (i + 1) 0 / 2 ^ (luM (xs.getD (i + 1) 0) (xs.getD i 0)).toNat) (show (2 : Int) ≠ 0 by decide)
    have r2 := Int.emod_lt_of_pos (xs.getD (i + 1) 0 / 2 ^ (luM (xs.getD (i + 1) 0) (xs.getD i 0)).toNat) (show (0 : Int) < 2 by decide)
    rw [e1]
    intro z
    cases i with
    | zero =>
      have e0 : tnM xs 0 = xs.getD 0 0 % 2 := by unfold tnM; rw [if_pos rfl]
      rw [e0] at z
      have r3 := Int.emod_nonneg (xs.getD 0 0) (show (2 : Int) ≠ 0 by decide)
      have r4 := Int.emod_lt_of_pos (xs.getD 0 0) (show (0 : Int) < 2 by decide)
      have l0 : luM (xs.getD (0 + 1) 0) (xs.getD 0 0) = 0 := by omega
      rw [l0] at z hp
      have := hp.2
      simp at this z
      omega
    | succ j =>
      have e0 : tnM xs (j + 1) = 2 * luM (xs.getD (j + 1) 0) (xs.getD j 0) + xs.getD (j + 1) 0 / 2 ^ (luM (xs.getD (j + 1) 0) (xs.getD j 0)).toNat % 2 := by
        unfold tnM
        rw [if_neg (by omega)]
        rfl
      rw [e0] at z
      have n2 := luM_nn (xs.getD (j + 1) 0) (xs.getD j 0)
      have r3 := Int.emod_nonneg (xs.getD (j + 1) 0 / 2 ^ (luM (xs.getD (j + 1) 0) (xs.getD j 0)).toNat) (show (2 : Int) ≠ 0 by decide)
      have r4 := Int.emod_lt_of_pos (xs.getD (j + 1) 0 / 2 ^ (luM (xs.getD (j + 1) 0) (xs.getD j 0)).toNat) (show (0 : Int) < 2 by decide)
      have le : luM (xs.getD (j + 1 + 1) 0) (xs.getD (j + 1) 0) = luM (xs.getD (j + 1) 0) (xs.getD j 0) := by omega
      rw [le] at z hp
      have := hp.2
      omega
theorem rounds_UL {xs : List Int} (u : UL xs) : ∀ n, UL (rounds n xs)
  | 0 => u
  | n + 1 => turned_UL (rounds_UL u n)
end BF
set_option maxHeartbeats 4000000
namespace BF
open PySem PySem.Spec PyProof.Rows L2
theorem sz_le {n : Nat} (h : n ≤ 1000000) : n ≤ sizeLine := by rw [sizeLine_eq]; omega
theorem sz_lt {n : Nat} (h : n ≤ 1000000) : n < sizeLine := by rw [sizeLine_eq]; omega
theorem sm62 {n : Nat} (h : n ≤ 1000000) : small62 (n : Int) := by constructor <;> omega
section
variable {Z : Zx}
theorem c_is_key (E : Top Z) (D : Ds Z) : Cal Z "is_key" 2 (sp1 Z.T (pd rInt) (fun _ => True) (fun thing => pd rBool (is_keyM thing))) :=
  cal1 ["thing"] [0] ["isinstance", "int", "bool", "abs", "TOO_GREAT"] 0 D.is_key (fun _ _ _ _ _ _ us hl => match us, hl with | [_], _ => rfl) fun X B thing hp => by
    refine dos_one (do_ret (ev_and (ev_isi (u := "int") (b := true) B E (ev_var B 0) ty_int (by decide +kernel)) fun h1 => (ev_and (ev_not (ev_isi (u := "bool") (b := false) B E (ev_var B 0) ty_int (by decide +kernel))) fun h2 => (ev_one (ev_cmp (ev_abs B E (ev_var B 0)) (ev_gint B E.tooGreat) od_lt)))) (rt_eq ?_))
    rw [Bool.true_and, Bool.not_false, Bool.true_and]; rfl
theorem c_code (E : Top Z) (D : Ds Z) : Cal Z "code" 1 (sp1 Z.T (pd rEn) (fun _ => True) (fun entry => pd rInt (codeM entry))) :=
  cal1 ["entry", "key", "knot"] [0, 1, 2] ["KNOTS"] 2 D.code (fun _ _ _ _ _ _ us hl => match us, hl with | [_], _ => rfl) fun X B entry hp => by
    refine dos_cons (do_asg (ev_var B 0) (ga_t2 B (ga_name B 1) (ga_name B 2)) ?_)
    refine dos_cons (do_if (et_cmp (ev_var B 1) ev_int od_lt) (fun h1 => ?_) (fun h1 => ?_))
    · refine dos_one (do_ret (ev_bin (ev_bin (ev_gint B E.knots) (ev_bin (ev_bin (ev_neg ev_int) (ev_var B 1) (od_mul (.inl ⟨by decide, by decide⟩))) ev_int od_sub) (od_mul (.inl ⟨by decide, by decide⟩))) (ev_var B 2) od_add) (rt_eq ?_))
      unfold codeM; rw [if_pos (of_decide_eq_true h1)]
    · refine dos_nil ?_
      refine dos_one (do_ret (ev_bin (ev_bin (ev_bin (ev_gint B E.knots) ev_int (od_mul (.inl ⟨by decide, by decide⟩))) (ev_var B 1) (od_mul (.inl ⟨by decide, by decide⟩))) (ev_var B 2) od_add) (rt_eq ?_))
      unfold codeM; rw [if_neg (of_decide_eq_false h1)]
theorem c_put_between (E : Top Z) (D : Ds Z) : Cal Z "put_between" 1 (sp2 Z.T (pd (rLst rEn)) (pd (rLst rEn)) (fun one other => one.length ≤ 100000 ∧ other.length ≤ 100000) (fun one other => pd (rLst rEn) (pbM one other))) :=
  cal2 ["one", "other", "found", "at", "entry"] [0, 1, 2, 3, 4] ["len"] 3 D.put_between (fun _ _ _ _ _ _ us hl => match us, hl with | [_, _], _ => rfl) fun X B one other hp => by
    refine dos_cons (do_new B 2 rEn ?_)
    refine dos_cons (do_set B 3 ev_int ?_)
    refine dos_cons (do_for B (gi_l (ev_var B 0)) (ga_name B 4) (fun i Γ => ∃ (fs : List En) (a : Nat), fs ++ pbM (one.drop i) (other.drop a) = pbM one other ∧ a ≤ other.length ∧ fs.length ≤ i + a ∧ i ≤ one.length ∧ Γ = [.da (rLst rEn) one, .da (rLst rEn) other, .mu (mLst rEn) fs, .da rInt (a : Int), .un]) ⟨[], 0, rfl, Nat.zero_le _, Nat.zero_le _, Nat.zero_le _, rfl⟩ (fun i x Γ' hx hI => ?_) (fun Γ' hI => ?_))
    · obtain ⟨fs, a, hf, ha, hl, hi, rfl⟩ := hI
      have hi' : i < one.length := (List.getElem?_eq_some_iff.mp hx).1
      refine dos_midP (fun Γ => ∃ (fs : List En) (a : Nat), fs ++ pbM (one.drop i) (other.drop a) = pbM one other ∧ a ≤ other.length ∧ fs.length ≤ i + a ∧ (other.drop a).takeWhile (enLt · x) = [] ∧ Γ = [.da (rLst rEn) one, .da (rLst rEn) other, .mu (mLst rEn) fs, .da rInt (a : Int), .da rEn x]) ?_ fun Γ' hI => ?_
      · refine do_while B (fun m Γ => ∃ (fs : List En) (a : Nat), m = other.length - a ∧ fs ++ pbM (one.drop i) (other.drop a) = pbM one other ∧ a ≤ other.length ∧ fs.length ≤ i + a ∧ Γ = [.da (rLst rEn) one, .da (rLst rEn) other, .mu (mLst rEn) fs, .da rInt (a : Int), .da rEn x]) (other.length - a) ⟨fs, a, rfl, hf, ha, hl, rfl⟩ (fun m Γ' hI => ?_)
        obtain ⟨fs, a, rfl, hf, ha, hl, rfl⟩ := hI
        refine ⟨decide ((a : Int) < other.length) && (if h : a < other.length then enLt other[a] x else true), et_and2 (et_cmp (ev_var B 3) (ev_lenL B E ((ev_var B 1)).l) od_lt) (fun h1 => ?_), fun h => ?_, fun h => ?_⟩
        · have h1 := of_decide_eq_true h1
          have h1 : a < other.length := by omega
          rw [dif_pos h1]
          exact et_cmp (ev_ixL ((ev_var B 1)).l (ev_var B 3) (by omega) (by simp [h1])) (ev_var B 4) (od_ltE B)
        · rw [Bool.and_eq_true] at h
          have h1 := of_decide_eq_true h.1
          have h1 : a < other.length := by omega
          have h2 := h.2
          rw [dif_pos h1] at h2
          refine dos_cons (do_app B 2 (ev_ixL ((ev_var B 1)).l (ev_var B 3) (by omega) (List.getElem?_eq_getElem (by simpa using h1))) ?_ ?_)
          · exact sz_lt (by omega)
          refine dos_cons (do_set B 3 (ev_bin (ev_var B 3) ev_int od_add) ?_)
          refine dos_nil ⟨_, by omega, fs ++ [other[a]], a + 1, rfl, ?_, by omega, by simp; omega, rfl⟩
          rw [← hf, drop_step hx, drop_step (List.getElem?_eq_getElem h1), List.append_assoc]
          congr 1
          simp only [pbM, List.takeWhile_cons, List.dropWhile_cons, h2, if_true, List.cons_append, List.nil_append]
        · refine ⟨fs, a, hf, ha, hl, ?_, rfl⟩
          by_cases h1 : a < other.length
          · rw [dif_pos h1, decide_eq_true (by omega)] at h
            have h : enLt other[a] x = false := by simpa using h
            rw [List.drop_eq_getElem_cons h1, List.takeWhile_cons]
            simp only [h]
            rfl
          · rw [List.drop_eq_nil_of_le (by omega)]; rfl
      · obtain ⟨fs, a, hf, ha, hl, hw, rfl⟩ := hI
        refine dos_cons (do_app B 2 (ev_var B 4) ?_ ?_)
        · exact sz_lt (by omega)
        refine dos_un 4 (dos_nil ⟨fs ++ [x], a, ?_, ha, by simp; omega, by omega, rfl⟩)
        rw [← hf, drop_step hx, List.append_assoc]
        congr 1
        have := List.takeWhile_append_dropWhile (p := (enLt · x)) (l := other.drop a)
        rw [hw, List.nil_append] at this
        simp only [pbM, hw, this]
        rfl
    · obtain ⟨fs, a, hf, ha, hl, hi, rfl⟩ := hI
      rw [List.drop_length] at hf
      refine dos_one (do_ret (ev_bin (ev_own B 2) ((ev_slL ((ev_var B 1)).l (eo_so (ev_var B 3)) eo_no)).l (od_cat ?_)) (rt_eq ?_))
      · rw [cut_from _ (by omega)]
        refine sz_le ?_
        simp
        omega
      · rw [cut_from _ (by omega), ← hf]; rfl
theorem c_joined_up (E : Top Z) (D : Ds Z) : Cal Z "joined_up" 2 (sp1 Z.T (pd (rLst (rLst rEn))) (fun lists => (lists.map (·.length)).sum ≤ 100000) (fun lists => pd (rLst rEn) (joined_upM lists))) :=
  cal1 ["lists", "found", "entries"] [0, 1, 2] ["put_between", "list"] 2 D.joined_up (fun _ _ _ _ _ _ us hl => match us, hl with | [_], _ => rfl) fun X B lists hp => by
    refine dos_cons (do_set B 1 (ev_list (R := rEn) .nil) ?_)
    refine dos_cons (do_for B (gi_l (ev_var B 0)) (ga_name B 2) (fun i Γ => ((lists.take i).foldl pbM []).length = ((lists.take i).map (·.length)).sum ∧ Γ = [.da (rLst (rLst rEn)) lists, .da (rLst rEn) ((lists.take i).foldl pbM []), .un]) ⟨rfl, rfl⟩ (fun i x Γ' hx hI => ?_) (fun Γ' hI => ?_))
    · obtain ⟨hl, rfl⟩ := hI
      have hs : ((lists.take (i + 1)).map (·.length)).sum ≤ (lists.map (·.length)).sum := by
        conv => rhs; rw [← List.take_append_drop (i + 1) lists]
        rw [List.map_append, List.sum_append]
        omega
      have h2 : ((lists.take (i + 1)).map (·.length)).sum = ((lists.take i).map (·.length)).sum + x.length := by
        rw [map_step _ hx, List.sum_append]; simp
      refine dos_cons (do_set B 1 (ev_call2 B (c_put_between E D) (ev_var B 1) (ev_listL B E ((ev_var B 2)).l) ⟨by omega, by omega⟩) ?_)
      refine dos_un 2 (dos_nil ⟨?_, ?_⟩)
      · rw [fold_step _ _ hx, pbM_len, h2, hl]
      · rw [fold_step _ _ hx]; rfl
    · obtain ⟨hl, rfl⟩ := hI
      rw [List.take_length]
      exact dos_one (do_ret (ev_var B 1) (rt_eq rfl))
theorem c_lowest_unlike (E : Top Z) (D : Ds Z) : Cal Z "lowest_unlike" 1 (sp2 Z.T (pd rInt) (pd rInt) (fun one other => 0 ≤ one ∧ 0 ≤ other ∧ one ≠ other) (fun one other => pd rInt (luM one other))) :=
  cal2 ["one", "other", "at"] [0, 1, 2] [] 1 D.lowest_unlike (fun _ _ _ _ _ _ us hl => match us, hl with | [_, _], _ => rfl) fun X B one other hp => by
    refine dos_cons (do_set B 2 ev_int ?_)
    refine dos_cons (do_while B (fun m Γ => ∃ a b c : Int, 0 ≤ a ∧ 0 ≤ b ∧ a ≠ b ∧ (a + b).toNat < m ∧ c + luF m a b = luM one other ∧ Γ = [.da rInt a, .da rInt b, .da rInt c]) ((one + other).toNat + 1) ⟨one, other, 0, hp.1, hp.2.1, hp.2.2, by omega, by rw [Int.zero_add]; rfl, rfl⟩ (fun m Γ' hI => ?_))
    obtain ⟨a, b, c, ha, hb, hne, hm, he, rfl⟩ := hI
    refine ⟨_, (et_cmp (ev_bin (ev_var B 0) ev_int (od_mod (by decide))) (ev_bin (ev_var B 1) ev_int (od_mod (by decide))) (od_eq sc_int)), fun h => ?_, fun h => ?_⟩
    · have h := of_decide_eq_true h
      refine dos_cons (do_set B 0 (ev_bin (ev_var B 0) ev_int (od_div ⟨by decide, by decide⟩)) ?_)
      refine dos_cons (do_set B 1 (ev_bin (ev_var B 1) ev_int (od_div ⟨by decide, by decide⟩)) ?_)
      refine dos_cons (do_set B 2 (ev_bin (ev_var B 2) ev_int od_add) ?_)
      obtain ⟨n, rfl⟩ : ∃ n, m = n + 1 := ⟨m - 1, by omega⟩
      refine dos_nil ⟨n, by omega, a / 2, b / 2, c + 1, by omega, by omega, by omega, by omega, ?_, rfl⟩
      rw [← he]
      conv => rhs; unfold luF
      rw [if_pos h]
      omega
    · have h := of_decide_eq_false h
      refine dos_one (do_ret (ev_var B 2) (rt_eq ?_))
      obtain ⟨n, rfl⟩ : ∃ n, m = n + 1 := ⟨m - 1, by omega⟩
      unfold luF at he
      rw [if_neg h] at he
      omega
theorem c_turned (E : Top Z) (D : Ds Z) : Cal Z "turned" 2 (sp1 Z.T (pd (rLst rInt)) (fun numbers => UL numbers ∧ numbers.length ≤ 100000) (fun numbers => pd (rLst rInt) (turnedM numbers))) :=
  cal1 ["numbers", "found", "k", "number", "at"] [0, 1, 2, 3, 4] ["enumerate", "lowest_unlike"] 4 D.turned (fun _ _ _ _ _ _ us hl => match us, hl with | [_], _ => rfl) fun X B numbers hp => by
    refine dos_cons (do_new B 1 rInt ?_)
    refine dos_cons (do_for B (gi_enum B E (ev_var B 0)) (ga_t2 B (ga_name B 2) (ga_name B 3)) (fun i Γ => i ≤ numbers.length ∧ Γ = [.da (rLst rInt) numbers, .mu (mLst rInt) ((List.range i).map (tnM numbers)), .un, .un, .un]) ⟨Nat.zero_le _, rfl⟩ (fun i x Γ' hx hI => ?_) (fun Γ' hI => ?_))
    · obtain ⟨hi, rfl⟩ := hI
      obtain ⟨e1, e2⟩ := enumI_at hx
      have hlt : i < numbers.length := (List.getElem?_eq_some_iff.mp e2).1
      have hg : numbers.getD i 0 = x.2 := getD_at e2
      have hln : ((List.range i).map (tnM numbers)).length ≤ 1000000 := by simp; omega
      refine dos_one (do_if (et_cmp (ev_var B 2) ev_int (od_eq sc_int)) (fun h1 => ?_) (fun h1 => ?_))
      · have h1 := of_decide_eq_true h1
        have hi0 : i = 0 := by omega
        refine dos_cons (do_app B 1 (ev_bin (ev_var B 3) ev_int (od_mod (by decide))) ?_ ?_)
        · exact sz_lt hln
        refine dos_un 2 (dos_un 3 (dos_nil ⟨by omega, ?_⟩))
        rw [List.range_succ, List.map_append]
        have : tnM numbers i = x.2 % 2 := by unfold tnM; rw [if_pos hi0, hg]
        simp only [List.map_cons, List.map_nil, this]
        rfl
      · have h1 := of_decide_eq_false h1
        have hi0 : i ≠ 0 := by omega
        have hpv : numbers[(x.1 - 1).toNat]? = some (numbers.getD (i - 1) 0) := by
          have : (x.1 - 1).toNat = i - 1 := by omega
          rw [this]; exact at_getD 0 (by omega)
        have hun : x.2 ≠ numbers.getD (i - 1) 0 := by
          have := hp.1.un (i - 1) (by omega)
          rw [show i - 1 + 1 = i by omega, hg] at this
          exact this
        refine dos_cons (do_set B 4 (ev_call2 B (c_lowest_unlike E D) (ev_var B 3) (ev_ixL ((ev_var B 0)).l (ev_bin (ev_var B 2) ev_int od_sub) (by omega) hpv) ⟨by rw [← hg]; exact hp.1.nn i hlt, hp.1.nn (i - 1) (by omega), hun⟩) ?_)
        refine dos_cons (do_app B 1 (ev_bin (ev_bin ev_int (ev_var B 4) (od_mul (.inl ⟨by decide, by decide⟩))) (ev_bin (ev_bin (ev_var B 3) (ev_var B 4) (od_shr (luM_nn _ _))) ev_int (od_mod (by decide))) od_add) ?_ ?_)
        · exact sz_lt hln
        refine dos_un 2 (dos_un 3 (dos_un 4 (dos_nil ⟨by omega, ?_⟩)))
        rw [List.range_succ, List.map_append]
        have : tnM numbers i = 2 * luM x.2 (numbers.getD (i - 1) 0) + x.2 / 2 ^ (luM x.2 (numbers.getD (i - 1) 0)).toNat % 2 := by unfold tnM; rw [if_neg hi0, hg]
        simp only [List.map_cons, List.map_nil, this]
        rfl
    · obtain ⟨hi, rfl⟩ := hI
      refine dos_fzL 1 ?_
      refine dos_one (do_ret (ev_var B 1) (rt_eq ?_))
      rw [enumI_len]; rfl
theorem c_labels (E : Top Z) (D : Ds Z) : Cal Z "labels" 3 (sp1 Z.T (pd (rLst rEn)) EnOk (fun entries => pd (rLst rInt) (labelsM entries))) :=
  cal1 ["entries", "numbers", "k", "entry"] [0, 1, 2] ["range", "ROUNDS", "turned"] 3 D.labels (fun _ _ _ _ _ _ us hl => match us, hl with | [_], _ => rfl) fun X B entries hp => by
    refine dos_cons (do_setLc B 1 [("entry", 3)] [3] ["code"] (gi_l (ev_var B 0)) (by have := hp.sz; omega) (fun X' B' => (ga_name B' 3)) (fun X' B' x hx => (ev_call1 B' (c_code E D) (ev_var B' 3) trivial)) ?_)
    refine dos_cons (do_for B (gi_range1 B (E.f "range") (ev_gint B E.rounds) ⟨by decide, by decide⟩) (ga_name B 2) (fun i Γ => Γ = [.da (rLst rEn) entries, .da (rLst rInt) (rounds i (entries.map codeM)), .un, .un]) rfl (fun i x Γ' hx hI => ?_) (fun Γ' hI => ?_))
    · subst hI
      refine dos_cons (do_set B 1 (ev_call1 B (c_turned E D) (ev_var B 1) ⟨rounds_UL hp.ul i, by rw [rounds_len, List.length_map]; exact hp.sz⟩) ?_)
      exact dos_un 2 (dos_nil rfl)
    · subst hI
      exact dos_one (do_ret (ev_var B 1) (rt_eq rfl))
theorem c_neighbours_of {α : Type} {R : Rp α} (E : Top Z) (D : Ds Z) : Cal Z "neighbours_of" 1 (sp2 Z.T (pl R) (pd rInt) (fun things at' => things.length ≤ 100000 ∧ 0 ≤ at') (fun things at' => pd (rLst R) (nbM things at'))) :=
  cal2v ["things", "at"] [0, 1] ["max"] 0 D.neighbours_of (fun _ _ _ _ _ _ us hl => match us, hl with | [_, _], _ => rfl) fun X B things at' hp => by
    refine dos_one (do_ret (ev_bin ((ev_slL (ev_vw B 0) (eo_so (ev_max2 B E ev_int (ev_bin (ev_var B 1) ev_int od_sub))) (eo_so (ev_var B 1)))).l ((ev_slL (ev_vw B 0) (eo_so (ev_bin (ev_var B 1) ev_int od_add)) (eo_so (ev_bin (ev_var B 1) ev_int od_add)))).l (od_cat ?_)) (rt_eq rfl))
    have := nb_len things hp.2
    unfold nbM at this
    rw [List.length_append] at this
    exact sz_le (by omega)
theorem c_colours (E : Top Z) (D : Ds Z) : Cal Z "colours" 2 (sp1 Z.T (pd (rLst rInt)) (fun numbers => numbers.length ≤ 100000) (fun numbers => pd (rLst rInt) (coloursM numbers))) :=
  cal1 ["numbers", "found", "high", "at", "near_ones", "colour"] [0, 1, 2, 3, 4] ["list", "range", "len", "neighbours_of", "min"] 5 D.colours (fun _ _ _ _ _ _ us hl => match us, hl with | [_], _ => rfl) fun X B numbers hp => by
    refine dos_cons (do_setN B 1 (en_listL B E ((ev_var B 0)).l) ?_)
    refine dos_cons (do_for B (gi_t (ev_tup (.cons ev_int (.cons ev_int (.cons ev_int .nil))))) (ga_name B 2) (fun i Γ => Γ = [.da (rLst rInt) numbers, .mu (mLst rInt) ((([3, 4, 5] : List Int).take i).foldl colH numbers), .un, .un, .un, .un]) rfl (fun i high Γ' hx hI => ?_) (fun Γ' hI => ?_))
    · subst hI
      have hl : ((([3, 4, 5] : List Int).take i).foldl colH numbers).length = numbers.length := foldl_len colH_len _ _
      generalize hf : (([3, 4, 5] : List Int).take i).foldl colH numbers = fs at hl
      refine dos_cons (do_for B (gi_range1 B (E.f "range") (ev_lenL B E (ev_own B 1)) (sm62 (by omega))) (ga_name B 3) (fun i Γ => Γ = [.da (rLst rInt) numbers, .mu (mLst rInt) (((rg 0 fs.length).take i).foldl (colS high) fs), .da rInt high, .un, .un, .un]) rfl (fun j at' Γ' hy hI => ?_) (fun Γ' hI => ?_))
      · subst hI
        obtain ⟨ea, hj⟩ := rg_at hy
        have hl2 : (((rg 0 fs.length).take j).foldl (colS high) fs).length = fs.length := foldl_len (colS_len high) _ _
        have fe := fold_step (colS high) fs hy
        generalize hg : ((rg 0 fs.length).take j).foldl (colS high) fs = gs at hl2 fe
        have hlt : at'.toNat < gs.length := by omega
        have hat : 0 ≤ at' := by omega
        refine dos_one (do_if (et_cmp (ev_ixL (ev_own B 1) (ev_var B 3) hat (at_getD 0 hlt)) (ev_var B 2) (od_eq sc_int)) (fun h1 => ?_) (fun h1 => ?_))
        · have h1 := of_decide_eq_true h1
          refine dos_cons (do_set B 4 (ev_call2 B (c_neighbours_of E D) (ev_own B 1) (ev_var B 3) ⟨by omega, hat⟩) ?_)
          refine dos_cons (do_store B 1 (ev_min B E ((ev_lcIf B [("colour", 5)] [4, 5] [] (gi_range1 B (E.f "range") ev_int ⟨by decide, by decide⟩) (by decide) (fun X' B' => (ga_name B' 5)) (fun X' B' x hx => (et_cmp (ev_var B' 5) ((ev_var B' 4)).l (od_notIn B' py_int trivial (fun _ _ => trivial)))) (fun X' B' x hx hb => (ev_var B' 5)))).l (by rw [List.map_id']; exact lowc_ok (nb_len gs hat))) (ev_var B 3) ?_ ?_)
          · exact ⟨hat, by omega⟩
          refine dos_un 3 (dos_un 4 (dos_nil ?_))
          rw [fe]
          unfold colS
          rw [if_pos h1]
          rfl
        · have h1 := of_decide_eq_false h1
          refine dos_un 3 (dos_nil ?_)
          rw [fe]
          unfold colS
          rw [if_neg h1]
          rfl
      · subst hI
        refine dos_un 2 (dos_nil ?_)
        rw [fold_step _ _ hx, hf, List.take_length]
        rfl
    · subst hI
      refine dos_fzL 1 ?_
      exact dos_one (do_ret (ev_var B 1) (rt_eq rfl))
end
end BF
set_option maxHeartbeats 4000000
namespace BF
open PySem PySem.Spec PyProof.Rows L2
section
variable {Z : Zx}
theorem c_marks (E : Top Z) (D : Ds Z) : Cal Z "marks" 4 (sp1 Z.T (pd (rLst rEn)) EnOk (fun entries => pd (rLst rBool) (marksM entries))) :=
  cal1 ["entries", "shades", "found", "shade", "at", "entry"] [0, 1, 2, 3, 4] ["colours", "labels", "range", "len", "any", "neighbours_of"] 5 D.marks (fun _ _ _ _ _ _ us hl => match us, hl with | [_], _ => rfl) fun X B entries hp => by
    have hz := hp.sz
    have hcl : (coloursM (labelsM entries)).length = entries.length := by rw [coloursM_len, labelsM_len]
    refine dos_cons (do_set B 1 (ev_call1 B (c_colours E D) (ev_call1 B (c_labels E D) (ev_var B 0) hp) (by rw [labelsM_len]; exact hz)) ?_)
    refine dos_cons (do_setLcN B 2 [("entry", 5)] [5] [] (gi_l (ev_var B 0)) (by omega) (fun X' B' => (ga_name B' 5)) (fun X' B' x hx => ev_bl) ?_)
    refine dos_cons (do_for B (gi_t (ev_tup (.cons ev_int (.cons ev_int (.cons ev_int .nil))))) (ga_name B 3) (fun i Γ => Γ = [.da (rLst rEn) entries, .da (rLst rInt) (coloursM (labelsM entries)), .mu (mLst rBool) ((([2, 1, 0] : List Int).take i).foldl (mkH entries.length (coloursM (labelsM entries))) (entries.map fun _ => false)), .un, .un, .un]) rfl (fun i shade Γ' hx hI => ?_) (fun Γ' hI => ?_))
    · subst hI
      have hl : ((([2, 1, 0] : List Int).take i).foldl (mkH entries.length (coloursM (labelsM entries))) (entries.map fun _ => false)).length = entries.length := by rw [foldl_len (mkH_len _ _), List.length_map]
      generalize hf : (([2, 1, 0] : List Int).take i).foldl (mkH entries.length (coloursM (labelsM entries))) (entries.map fun _ => false) = fs at hl
      refine dos_cons (do_for B (gi_range2 B (E.f "range") ev_int (ev_lenL B E ((ev_var B 0)).l) ⟨by decide, by decide⟩ (sm62 (by omega))) (ga_name B 4) (fun i Γ => Γ = [.da (rLst rEn) entries, .da (rLst rInt) (coloursM (labelsM entries)), .mu (mLst rBool) (((rg 1 entries.length).take i).foldl (mkS (coloursM (labelsM entries)) shade) fs), .da rInt shade, .un, .un]) rfl (fun j at' Γ' hy hI => ?_) (fun Γ' hI => ?_))
      · subst hI
        obtain ⟨ea, hj⟩ := rg_at hy
        have hl2 : (((rg 1 entries.length).take j).foldl (mkS (coloursM (labelsM entries)) shade) fs).length = fs.length := foldl_len (mkS_len _ shade) _ _
        have fe := fold_step (mkS (coloursM (labelsM entries)) shade) fs hy
        generalize hg : ((rg 1 entries.length).take j).foldl (mkS (coloursM (labelsM entries)) shade) fs = gs at hl2 fe
        have hat : 0 ≤ at' := by omega
        have hlt : at'.toNat < (coloursM (labelsM entries)).length := by omega
        refine dos_one (do_if (et_and2 (et_cmp (ev_ixL ((ev_var B 1)).l (ev_var B 4) hat (at_getD 0 hlt)) (ev_var B 3) (od_eq sc_int)) fun h1 => (et_not (et_val (ev_any B E ((ev_call2 B (c_neighbours_of (R := rBool) E D) (ev_own B 2) (ev_var B 4) ⟨by omega, hat⟩)).l)))) (fun h2 => ?_) (fun h2 => ?_))
        · rw [Bool.and_eq_true, decide_eq_true_iff, Bool.not_eq_true'] at h2
          refine dos_cons (do_store B 2 ev_bl (ev_var B 4) ?_ ?_)
          · exact ⟨hat, by omega⟩
          refine dos_un 4 (dos_nil ?_)
          rw [fe]
          unfold mkS
          rw [if_pos h2]
          rfl
        · refine dos_un 4 (dos_nil ?_)
          rw [fe]
          unfold mkS
          rw [if_neg (fun z => by rw [decide_eq_true z.1, z.2] at h2; cases h2)]
          rfl
      · subst hI
        refine dos_un 3 (dos_nil ?_)
        rw [fold_step _ _ hx, hf, List.take_length]
        rfl
    · subst hI
      refine dos_fzL 2 ?_
      exact dos_one (do_ret (ev_var B 2) (rt_eq rfl))
theorem c_handed (E : Top Z) (D : Ds Z) : Cal Z "handed" 5 (sp1 Z.T (pd (rLst rEn)) EnOk (fun entries => pd (rLst rEn) (handedM entries))) :=
  cal1 ["entries", "entry", "is_on"] [0] ["zip", "marks"] 2 D.handed (fun _ _ _ _ _ _ us hl => match us, hl with | [_], _ => rfl) fun X B entries hp => by
    have hz := hp.sz
    refine dos_one (do_ret (ev_lcIf (b := fun x => x.2) (f := fun x => x.1) B [("entry", 1), ("is_on", 2)] [1, 2] [] (gi_zipL B E (ev_var B 0) (ev_call1 B (c_marks E D) (ev_var B 0) hp)) (by rw [List.length_zip]; omega) (fun X' B' => (ga_t2 B' (ga_name B' 1) (ga_name B' 2))) (fun X' B' x hx => (et_val (ev_var B' 2))) (fun X' B' x hx hb => (ev_var B' 1))) (rt_eq rfl))
end
end BF
set_option maxHeartbeats 4000000
namespace BF
open PySem PySem.Spec PyProof.Rows L2
abbrev Tr := List (Option Int)
abbrev Sd := Tr × List (List Int)
structure TreeOk (t : Tr) : Prop where
  l1 : 1 ≤ t.length
  l2 : t.length ≤ 40
  root : t.getD 0 none = none
  up : ∀ k, 1 ≤ k → k < t.length → ∃ p : Int, t.getD k none = some p ∧ 0 ≤ p ∧ p < k
structure StandOk (st : Sd) : Prop where
  tree : TreeOk st.1
  len : st.2.length = st.1.length
  rows : ∀ r ∈ st.2, r.Pairwise (· < ·) ∧ ∀ key ∈ r, is_keyM key = true
  tot : (st.2.map (·.length)).sum ≤ 300
def kidsM (t : Tr) (k : Int) : List Int := (rg 1 t.length).filter fun j => decide (t.getD j.toNat none = some k)
def bnB (t : Tr) (fs : List Int) (j : Int) : Bool := match t.getD j.toNat none with | none => false | some y => decide (y ∈ fs)
def bnS (t : Tr) (fs : List Int) (j : Int) : List Int := if bnB t fs j = true then fs ++ [j] else fs
def beneathM (t : Tr) (k : Int) : List Int := (rg (k + 1) t.length).foldl (bnS t) [k]
def ownM (st : Sd) (k : Int) : List En := (st.2.getD k.toNat []).map fun key => (key, k)
def fullF (st : Sd) : Nat → Int → List En
  | 0, _ => []
  | n + 1, k => joined_upM (ownM st k :: (kidsM st.1 k).map fun c => handedM (fullF st n c))
def fullM (st : Sd) (k : Int) : List En := fullF st st.1.length k
theorem rg_mem {lo hi x : Int} : x ∈ rg lo hi ↔ lo ≤ x ∧ x < hi := by
  unfold rg
  rw [List.mem_map]
  constructor
  · rintro ⟨i, hi, rfl⟩
    rw [List.mem_range] at hi
    omega
  · rintro ⟨h1, h2⟩
    exact ⟨(x - lo).toNat, by rw [List.mem_range]; omega, by omega⟩
theorem kids_mem {t : Tr} {k c : Int} : c ∈ kidsM t k ↔ 1 ≤ c ∧ c < t.length ∧ t.getD c.toNat none = some k := by
  unfold kidsM
  rw [List.mem_filter, rg_mem, decide_eq_true_iff]
  constructor
  · rintro ⟨⟨a, b⟩, c⟩; exact ⟨a, b, c⟩
  · rintro ⟨a, b, c⟩; exact ⟨⟨a, b⟩, c⟩
theorem kids_lt {t : Tr} (h : TreeOk t) {k c : Int} (hc : c ∈ kidsM t k) : k < c ∧ 0 ≤ k ∧ 0 ≤ c := by
  obtain ⟨h1, h2, h3⟩ := kids_mem.mp hc
  obtain ⟨p, e, l0, l⟩ := h.up c.toNat (by omega) (by omega)
  rw [h3] at e
  cases e
  omega
theorem full_fuel {st : Sd} (h : TreeOk st.1) : ∀ (n m : Nat) (k : Int), (st.1.length : Int) - k ≤ n → (st.1.length : Int) - k ≤ m → k < st.1.length → fullF st n k = fullF st m k
  | 0, m, k, h1, h2, h3 => by omega
  | n + 1, 0, k, h1, h2, h3 => by omega
  | n + 1, m + 1, k, h1, h2, h3 => by
    unfold fullF
    congr 2
    refine List.map_congr_left fun c hc => ?_
    obtain ⟨l, _, _⟩ := kids_lt h hc
    obtain ⟨_, l2, _⟩ := kids_mem.mp hc
    rw [full_fuel h n m c (by omega) (by omega) l2]
theorem full_eq {st : Sd} (h : TreeOk st.1) {k : Int} (h0 : 0 ≤ k) (hk : k < st.1.length) : fullM st k = joined_upM (ownM st k :: (kidsM st.1 k).map fun c => handedM (fullM st c)) := by
  have e : fullM st k = fullF st (st.1.length + 1) k := full_fuel h _ _ k (by omega) (by omega) hk
  rw [e]
  rfl
theorem joined_len (ls : List (List En)) : (joined_upM ls).length = (ls.map (·.length)).sum := by
  have : ∀ (ls : List (List En)) (a : List En), (ls.foldl pbM a).length = a.length + (ls.map (·.length)).sum := fun ls => by
    induction ls with
    | nil => intro a; simp
    | cons x xs ih => intro a; simp only [List.foldl_cons, List.map_cons, List.sum_cons, ih, pbM_len]; omega
  unfold joined_upM
  rw [this]; simp
def full_rowsM (st : Sd) : List (List En) := (rg 0 st.1.length).map (fullM st)
/-- what is asked of a stand whose full rows are wanted -/
structure FrOk (st : Sd) : Prop where
  sd : StandOk st
  en : ∀ k : Int, 0 ≤ k → k < st.1.length → EnOk (fullM st k)
  ow : ∀ k : Int, 0 ≤ k → k < st.1.length → ((fullM st k).filter fun e => decide (e.2 = k)).length ≤ (st.2.getD k.toNat []).length
theorem rg_len0 (n : Nat) : (rg 0 (n : Int)).length = n := by rw [rg_len]; omega
theorem full_rows_len (st : Sd) : (full_rowsM st).length = st.1.length := by unfold full_rowsM; rw [List.length_map, rg_len0]
theorem full_rows_at (st : Sd) {k : Int} (h0 : 0 ≤ k) (h : k < st.1.length) : (full_rowsM st)[k.toNat]? = some (fullM st k) := by
  unfold full_rowsM
  rw [List.getElem?_map]
  have : (rg 0 (st.1.length : Int))[k.toNat]? = some k := by
    unfold rg
    rw [List.getElem?_map, List.getElem?_range (by omega)]
    show some (0 + (k.toNat : Int)) = some k
    congr 1
    omega
  rw [this]; rfl
theorem row_at {st : Sd} (h : StandOk st) {k : Int} (h0 : 0 ≤ k) (hk : k < st.1.length) : st.2[k.toNat]? = some (st.2.getD k.toNat []) := at_getD [] (by have := h.len; omega)
theorem le_sum : ∀ {xs : List Nat} {x : Nat}, x ∈ xs → x ≤ xs.sum
  | y :: ys, x, h => by
    rcases List.mem_cons.mp h with q | q
    · rw [List.sum_cons]; omega
    · have := le_sum q; rw [List.sum_cons]; omega
theorem sum_at {rows : List (List Int)} {k : Nat} {r : List Int} (h : rows[k]? = some r) : r.length ≤ (rows.map (·.length)).sum := by
  have : r.length ∈ rows.map (·.length) := List.mem_map.mpr ⟨r, List.mem_of_getElem? h, rfl⟩
  exact le_sum this
theorem row_len {st : Sd} (h : StandOk st) {k : Int} (h0 : 0 ≤ k) (hk : k < st.1.length) : (st.2.getD k.toNat []).length ≤ 300 := Nat.le_trans (sum_at (row_at h h0 hk)) h.tot
theorem own_len {st : Sd} (h : StandOk st) {k : Int} (h0 : 0 ≤ k) (hk : k < st.1.length) : (ownM st k).length ≤ 300 := by
  unfold ownM; rw [List.length_map]; exact row_len h h0 hk
def is_knotM (t : Tr) (k : Int) : Bool := decide (0 ≤ k) && decide (k < t.length)
/-- a way down -/
structure WayOk (t : Tr) (w : List Int) : Prop where
  ne : w ≠ []
  kn : ∀ i, i < w.length → 0 ≤ w.getD i 0 ∧ w.getD i 0 < t.length
  dn : ∀ i, i + 1 < w.length → t.getD (w.getD (i + 1) 0).toNat none = some (w.getD i 0)
  sz : w.length ≤ 100
def weightM (st : Sd) : Int × Int := (((beneathM st.1 0).map fun k => ((st.2.getD k.toNat []).length : Int)).sum, ((beneathM st.1 0).map fun k => ((fullM st k).length : Int)).sum)
theorem bn_mem {t : Tr} {k : Int} : ∀ (ks : List Int) (fs : List Int) {x : Int}, x ∈ ks.foldl (bnS t) fs → x ∈ fs ∨ x ∈ ks
  | [], _, _, h => .inl h
  | j :: ks, fs, x, h => by
    rcases bn_mem (k := k) ks _ h with q | q
    · unfold bnS at q
      split at q
      · rw [List.mem_append] at q
        rcases q with q | q
        · exact .inl q
        · exact .inr (by simp at q; simp [q])
      · exact .inl q
    · exact .inr (List.mem_cons_of_mem _ q)
theorem bn_len {t : Tr} : ∀ (ks : List Int) (fs : List Int), (ks.foldl (bnS t) fs).length ≤ fs.length + ks.length
  | [], _ => by simp
  | j :: ks, fs => by
    have := bn_len (t := t) ks (bnS t fs j)
    have h2 : (bnS t fs j).length ≤ fs.length + 1 := by unfold bnS; split <;> simp
    rw [List.foldl_cons, List.length_cons]
    omega
theorem beneath_mem {t : Tr} (h : 1 ≤ t.length) {x : Int} (hx : x ∈ beneathM t 0) : 0 ≤ x ∧ x < t.length := by
  unfold beneathM at hx
  rcases bn_mem (k := 0) _ _ hx with q | q
  · simp at q; omega
  · rw [rg_mem] at q; omega
theorem beneath_len {t : Tr} (h : TreeOk t) : (beneathM t 0).length ≤ 100 := by
  have := bn_len (t := t) (rg (0 + 1) t.length) [0]
  rw [rg_len] at this
  have := h.l2
  unfold beneathM
  simp at *
  omega
end BF
set_option maxHeartbeats 4000000
namespace BF
open PySem PySem.Spec PyProof.Rows L2
abbrev rTr : Rp Tr := rTpl (rOpt rInt)
abbrev rSd : Rp Sd := rT2 rTr (rTpl (rTpl rInt))
theorem rows_of_sum {rows : List (List Int)} {r : List Int} (hr : r ∈ rows) (h : (rows.map (·.length)).sum ≤ 300) : r.length ≤ 300 := Nat.le_trans (le_sum (List.mem_map.mpr ⟨r, hr, rfl⟩)) h
theorem nodup_lt {r : List Int} (h : r.Pairwise (· < ·)) : r.Nodup := h.imp fun a => by omega
theorem natsum (xs : List Nat) : (xs.map fun (n : Nat) => (n : Int)).sum = (xs.sum : Nat) := by
  induction xs with
  | nil => rfl
  | cons x xs ih => simp only [List.map_cons, List.sum_cons, ih]; omega
section
variable {Z : Zx}
theorem c_is_whole (E : Top Z) (D : Ds Z) : Cal Z "is_whole" 2 (sp1 Z.T (pd rInt) (fun _ => True) (fun thing => pd rBool true)) :=
  cal1 ["thing"] [0] ["isinstance", "int", "bool"] 0 D.is_whole (fun _ _ _ _ _ _ us hl => match us, hl with | [_], _ => rfl) fun X B thing hp => by
    refine dos_one (do_ret (ev_and (ev_isi (u := "int") (b := true) B E (ev_var B 0) ty_int (by decide +kernel)) fun h1 => (ev_one (ev_not (ev_isi (u := "bool") (b := false) B E (ev_var B 0) ty_int (by decide +kernel))))) (rt_eq rfl))
theorem c_is_knot (E : Top Z) (D : Ds Z) : Cal Z "is_knot" 3 (sp2 Z.T (pd rTr) (pd rInt) (fun _ _ => True) (fun tree thing => pd rBool (is_knotM tree thing))) :=
  cal2 ["tree", "thing"] [0, 1] ["is_whole", "len"] 0 D.is_knot (fun _ _ _ _ _ _ us hl => match us, hl with | [_, _], _ => rfl) fun X B tree thing hp => by
    refine dos_one (do_ret (ev_and (ev_call1 B (c_is_whole E D) (ev_var B 1) trivial) fun h1 => (ev_one (ev_chain ev_int (ev_var B 1) (ev_lenT B E (ev_var B 0).t) od_le od_lt))) (rt_eq ?_))
    rw [Bool.true_and]; rfl
theorem c_tree_of (E : Top Z) (D : Ds Z) : Cal Z "tree_of" 3 (sp1 Z.T (pd (rLst (rOpt rInt))) TreeOk (fun parents => pd rTr parents)) :=
  cal1 ["parents", "knot"] [0, 1] ["isinstance", "list", "tuple", "len", "MOST_KNOTS_trees", "NoTree", "range", "is_whole"] 1 D.tree_of (fun _ _ _ _ _ _ us hl => match us, hl with | [_], _ => rfl) fun X B parents hp => by
    have l1 := hp.l1
    have l2 := hp.l2
    refine dos_cons (do_if (et_w (ew_or (et_not (et_val (ev_isi2 (u := "list") (u2 := "tuple") (b := true) B E ((ev_var B 0)).l ty_lst ⟨true, false, by decide +kernel, by decide +kernel, rfl⟩))) fun h1 => (ew_or (et_not (et_chain ev_int (ev_lenL B E ((ev_var B 0)).l) (ev_gint B E.mkT) od_le od_le)) fun h2 => (ew_or1 (et_cmp (ev_ixL ((ev_var B 0)).l ev_int (by decide) (at_getD none (by show 0 < _; omega))) ev_non od_notN))))) (fun h3 => ?_) (fun h3 => ?_))
    · exfalso
      rw [show (Int.toNat 0) = 0 from rfl, hp.root] at h3
      rw [decide_eq_true (show (1 : Int) ≤ (parents.length : Int) by omega), decide_eq_true (show (parents.length : Int) ≤ 40 by omega)] at h3
      exact absurd h3 (by decide)
    refine dos_nil ?_
    refine dos_cons (do_for B (gi_range2 B (E.f "range") ev_int (ev_lenL B E ((ev_var B 0)).l) ⟨by decide, by decide⟩ (sm62 (by omega))) (ga_name B 1) (fun i Γ => Γ = [.da (rLst (rOpt rInt)) parents, .un]) rfl (fun i x Γ' hx hI => ?_) (fun Γ' hI => ?_))
    · subst hI
      obtain ⟨ex, hx'⟩ := rg_at hx
      obtain ⟨p, e, p0, pl⟩ := hp.up x.toNat (by omega) (by omega)
      have hix := at_getD none (show x.toNat < parents.length by omega)
      refine dos_one (do_if (et_or2 (et_not (et_val (ev_call1 B (c_is_whole E D) ((ev_ixL ((ev_var B 0)).l (ev_var B 1) (by omega) hix).so e) trivial))) fun h4 => (et_not (et_chain ev_int ((ev_ixL ((ev_var B 0)).l (ev_var B 1) (by omega) hix).so e) (ev_var B 1) od_le od_lt))) (fun h5 => ?_) (fun h5 => ?_))
      · exfalso
        rw [decide_eq_true (show (0 : Int) ≤ p by omega), decide_eq_true (show p < x by omega)] at h5
        exact absurd h5 (by decide)
      · exact dos_un 1 (dos_nil rfl)
    subst hI
    refine dos_one (do_ret (ev_tupleL B E ((ev_var B 0)).l) (rt_eq rfl))
theorem c_children (E : Top Z) (D : Ds Z) : Cal Z "children" 1 (sp2 Z.T (pd rTr) (pd rInt) (fun tree knot => tree.length ≤ 1000) (fun tree knot => pd (rLst rInt) (kidsM tree knot))) :=
  cal2 ["tree", "knot", "other"] [0, 1] ["range", "len"] 1 D.children (fun _ _ _ _ _ _ us hl => match us, hl with | [_, _], _ => rfl) fun X B tree knot hp => by
    refine dos_one (do_ret (ev_lcIf (b := fun j => decide (tree.getD j.toNat none = some knot)) (f := fun j => j) B [("other", 2)] [0, 1, 2] [] (gi_range2 B (E.f "range") ev_int (ev_lenT B E (ev_var B 0).t) ⟨by decide, by decide⟩ (sm62 (by omega))) (by rw [rg_len]; omega) (fun X' B' => (ga_name B' 2)) (fun X' B' x hx => (et_cmp (ev_ixT ((ev_var B' 0)).t (ev_var B' 2) ?_ ?_) (ev_var B' 1) (od_eq sc_optI))) (fun X' B' x hx hb => (ev_var B' 2))) (rt_eq (by rw [List.map_id']; rfl)))
    · rw [rg_mem] at hx; omega
    · rw [rg_mem] at hx; exact at_getD none (by omega)
theorem c_beneath (E : Top Z) (D : Ds Z) : Cal Z "beneath" 1 (sp2 Z.T (pd rTr) (pd rInt) (fun tree knot => tree.length ≤ 1000 ∧ 0 ≤ knot ∧ knot ≤ 1000) (fun tree knot => pd (rLst rInt) (beneathM tree knot))) :=
  cal2 ["tree", "knot", "found", "other"] [0, 1, 2, 3] ["range", "len"] 2 D.beneath (fun _ _ _ _ _ _ us hl => match us, hl with | [_, _], _ => rfl) fun X B tree knot hp => by
    refine dos_cons (do_setN B 2 (en_list (.cons (ev_var B 1) .nil)) ?_)
    refine dos_cons (do_for B (gi_range2 B (E.f "range") (ev_bin (ev_var B 1) ev_int od_add) (ev_lenT B E (ev_var B 0).t) (by constructor <;> omega) (sm62 (by omega))) (ga_name B 3) (fun i Γ => Γ = [.da rTr tree, .da rInt knot, .mu (mLst rInt) (((rg (knot + 1) tree.length).take i).foldl (bnS tree) [knot]), .un]) rfl (fun i x Γ' hx hI => ?_) (fun Γ' hI => ?_))
    · subst hI
      obtain ⟨ex, hx'⟩ := rg_at hx
      have fe := fold_step (bnS tree) [knot] hx
      have hl := bn_len (t := tree) ((rg (knot + 1) tree.length).take i) [knot]
      rw [List.length_take, rg_len] at hl
      generalize hg : ((rg (knot + 1) tree.length).take i).foldl (bnS tree) [knot] = fs at fe hl
      refine dos_one (do_if (et_cmp (ev_ixT ((ev_var B 0)).t (ev_var B 3) (by omega) (at_getD none (by omega))) (ev_own B 2) (od_inO B)) (fun h1 => ?_) (fun h1 => ?_))
      · refine dos_cons (do_app B 2 (ev_var B 3) ?_ ?_)
        · refine sz_lt ?_
          simp at hl
          omega
        refine dos_un 3 (dos_nil ?_)
        rw [fe]
        have h1' : bnB tree fs x = true := h1
        unfold bnS
        rw [if_pos h1']
        rfl
      · refine dos_un 3 (dos_nil ?_)
        rw [fe]
        have h1' : bnB tree fs x = false := h1
        unfold bnS
        rw [if_neg (by rw [h1']; decide)]
        rfl
    subst hI
    rw [List.take_length]
    refine dos_fzL 2 ?_
    exact dos_one (do_ret (ev_var B 2) (rt_eq rfl))
theorem c_is_way (E : Top Z) (D : Ds Z) : Cal Z "is_way" 4 (sp2 Z.T (pd rTr) (pd (rLst rInt)) WayOk (fun tree thing => pd rBool true)) :=
  cal2 ["tree", "thing", "at"] [0, 1, 2] ["isinstance", "list", "len", "range", "is_knot"] 1 D.is_way (fun _ _ _ _ _ _ us hl => match us, hl with | [_, _], _ => rfl) fun X B tree thing hp => by
    have hne : 1 ≤ thing.length := by
      have := hp.ne
      cases thing with
      | nil => exact absurd rfl this
      | cons a b => simp
    have hz := hp.sz
    refine dos_cons (do_if (et_or2 (et_not (et_val (ev_isi (u := "list") (b := true) B E ((ev_var B 1)).l ty_lst (by decide +kernel)))) fun h1 => (et_cmp (ev_lenL B E ((ev_var B 1)).l) ev_int (od_eq sc_int))) (fun h2 => ?_) (fun h2 => ?_))
    · exfalso
      rw [decide_eq_false (show ¬ (thing.length : Int) = 0 by omega)] at h2
      exact absurd h2 (by decide)
    refine dos_nil ?_
    refine dos_cons (do_for B (gi_range1 B (E.f "range") (ev_lenL B E ((ev_var B 1)).l) (sm62 (by omega))) (ga_name B 2) (fun i Γ => Γ = [.da rTr tree, .da (rLst rInt) thing, .un]) rfl (fun i x Γ' hx hI => ?_) (fun Γ' hI => ?_))
    · subst hI
      obtain ⟨ex, hx'⟩ := rg_at hx
      have hix := at_getD 0 (show x.toNat < thing.length by omega)
      have hk := hp.kn x.toNat (by omega)
      refine dos_cons (do_if (et_not (et_val (ev_call2 B (c_is_knot E D) (ev_var B 0) (ev_ixL ((ev_var B 1)).l (ev_var B 2) (by omega) hix) trivial))) (fun h3 => ?_) (fun h3 => ?_))
      · exfalso
        unfold is_knotM at h3
        rw [decide_eq_true hk.1, decide_eq_true hk.2] at h3
        exact absurd h3 (by decide)
      refine dos_nil ?_
      refine dos_one (do_if (et_and2 (et_cmp (ev_var B 2) ev_int od_gt) fun h4 => (et_cmp (ev_ixT ((ev_var B 0)).t (ev_ixL ((ev_var B 1)).l (ev_var B 2) (by omega) hix) hk.1 (at_getD none (by omega))) (ev_ixL ((ev_var B 1)).l (ev_bin (ev_var B 2) ev_int od_sub) (by have := of_decide_eq_true h4; omega) (at_getD 0 (by omega))) (od_ne sc_optI))) (fun h5 => ?_) (fun h5 => ?_))
      · exfalso
        rw [Bool.and_eq_true] at h5
        have h6 := of_decide_eq_true h5.1
        have hd := hp.dn (x.toNat - 1) (by omega)
        rw [show x.toNat - 1 + 1 = x.toNat by omega] at hd
        have e1 : (x - 1).toNat = x.toNat - 1 := by omega
        rw [e1, hd] at h5
        have := h5.2
        simp at this
      · exact dos_un 2 (dos_nil rfl)
    subst hI
    exact dos_one (do_ret ev_bl (rt_eq rfl))
theorem c_row_of (E : Top Z) (D : Ds Z) : Cal Z "row_of" 3 (sp1 Z.T (pd (rLst rInt)) (fun thing => thing.Pairwise (· < ·) ∧ (∀ key ∈ thing, is_keyM key = true) ∧ thing.length ≤ 300) (fun thing => pd (rTpl rInt) thing)) :=
  cal1 ["thing", "key"] [0] ["isinstance", "list", "tuple", "all", "NoStand", "len", "set", "sorted"] 1 D.row_of (fun _ _ _ _ _ _ us hl => match us, hl with | [_], _ => rfl) fun X B thing hp => by
    obtain ⟨hs, hk, hz⟩ := hp
    refine dos_cons (do_if (et_or2 (et_not (et_val (ev_isi2 (u := "list") (u2 := "tuple") (b := true) B E ((ev_var B 0)).l ty_lst ⟨true, false, by decide +kernel, by decide +kernel, rfl⟩))) fun h1 => (et_not (et_val (ev_all B E ((ev_lc (f := is_keyM) B [("key", 1)] [1] ["is_key"] (gi_l (ev_var B 0)) (by omega) (fun X' B' => (ga_name B' 1)) (fun X' B' x hx => (ev_call1 B' (c_is_key E D) (ev_var B' 1) trivial)))).l)))) (fun h2 => ?_) (fun h2 => ?_))
    · exfalso
      have : (thing.map is_keyM).all id = true := by
        rw [List.all_eq_true]
        intro b hb
        obtain ⟨x, hx, e⟩ := List.mem_map.mp hb
        rw [← e, id_eq]
        exact hk x hx
      rw [this] at h2
      cases h2
    refine dos_nil ?_
    refine dos_cons (do_if (et_cmp (ev_lenSet B E ((ev_var B 0)).l (nodup_lt hs) (by omega)) (ev_lenL B E ((ev_var B 0)).l) (od_ne sc_int)) (fun h3 => ?_) (fun h3 => ?_))
    · simp at h3
    refine dos_nil ?_
    exact dos_one (do_ret (ev_tupleL B E ((ev_sortedI B E ((ev_var B 0)).l (List.Perm.refl _) (hs.imp fun a => by omega))).l) (rt_eq rfl))
theorem c_stand_of (E : Top Z) (D : Ds Z) : Cal Z "stand_of" 4 (sp2 Z.T (pd rTr) (pd (rLst (rLst rInt))) (fun tree rows => StandOk (tree, rows)) (fun tree rows => pd rSd (tree, rows))) :=
  cal2 ["tree", "rows", "found", "row"] [0, 1, 2] ["isinstance", "list", "tuple", "len", "NoStand", "sum", "MOST_KEYS_stands"] 2 D.stand_of (fun _ _ _ _ _ _ us hl => match us, hl with | [_, _], _ => rfl) fun X B tree rows hp => by
    have hlen : rows.length = tree.length := hp.len
    have hl2 : tree.length ≤ 40 := hp.tree.l2
    refine dos_cons (do_if (et_or2 (et_not (et_val (ev_isi2 (u := "list") (u2 := "tuple") (b := true) B E ((ev_var B 1)).l ty_lst ⟨true, false, by decide +kernel, by decide +kernel, rfl⟩))) fun h1 => (et_cmp (ev_lenL B E ((ev_var B 1)).l) (ev_lenT B E (ev_var B 0).t) (od_ne sc_int))) (fun h2 => ?_) (fun h2 => ?_))
    · exfalso
      rw [hlen] at h2
      simp at h2
    refine dos_nil ?_
    refine dos_cons (do_set B 2 (ev_tupleL B E ((ev_lc (f := fun r => r) B [("row", 3)] [3] ["row_of"] (gi_l (ev_var B 1)) (show rows.length ≤ 1000000 by omega) (fun X' B' => (ga_name B' 3)) (fun X' B' x hx => (ev_call1 B' (c_row_of E D) (ev_var B' 3) ⟨(hp.rows x hx).1, (hp.rows x hx).2, rows_of_sum hx hp.tot⟩)))).l) ?_)
    rw [List.map_id']
    refine dos_cons (do_if (et_cmp (ev_sum B E ((ev_lc (f := fun (r : List Int) => (r.length : Int)) B [("row", 3)] [3] ["len"] (gi_t (ev_var B 2)) (show rows.length ≤ 1000000 by omega) (fun X' B' => (ga_name B' 3)) (fun X' B' x hx => (ev_lenT B' E (ev_var B' 3).t)))).l) (ev_gint B E.meS) od_gt) (fun h3 => ?_) (fun h3 => ?_))
    · exfalso
      have h3 := of_decide_eq_true h3
      have := hp.tot
      have e : (rows.map fun (r : List Int) => (r.length : Int)).sum = ((rows.map (·.length)).sum : Nat) := by
        rw [← natsum, List.map_map]; rfl
      rw [e] at h3
      simp only at this
      omega
    refine dos_nil ?_
    exact dos_one (do_ret (ev_t2 (ev_var B 0) (ev_var B 2)) (rt_eq rfl))
theorem c_own_entries (E : Top Z) (D : Ds Z) : Cal Z "own_entries" 1 (sp2 Z.T (pd rSd) (pd rInt) (fun stand knot => StandOk stand ∧ 0 ≤ knot ∧ knot < stand.1.length) (fun stand knot => pd (rLst rEn) (ownM stand knot))) :=
  cal2 ["stand", "knot", "key"] [0, 1] [] 1 D.own_entries (fun _ _ _ _ _ _ us hl => match us, hl with | [_, _], _ => rfl) fun X B stand knot hp => by
    refine dos_one (do_ret (ev_lc (f := fun key => (key, knot)) B [("key", 2)] [1, 2] [] (gi_t (ev_ixT ((ev_snd (ev_var B 0))).t (ev_var B 1) hp.2.1 (row_at hp.1 hp.2.1 hp.2.2))) (by have := row_len hp.1 hp.2.1 hp.2.2; omega) (fun X' B' => (ga_name B' 2)) (fun X' B' x hx => (ev_t2 (ev_var B' 2) (ev_var B' 1)))) (rt_eq rfl))
theorem c_full_rows (E : Top Z) (D : Ds Z) : Cal Z "full_rows" 6 (sp1 Z.T (pd rSd) FrOk (fun stand => pd (rLst (rLst rEn)) (full_rowsM stand))) :=
  cal1 ["stand", "tree", "found", "knot", "come", "child"] [0, 1, 2, 3, 4] ["reversed", "range", "len", "children", "joined_up", "own_entries"] 5 D.full_rows (fun _ _ _ _ _ _ us hl => match us, hl with | [_], _ => rfl) fun X B stand hp => by
    have ht := hp.sd.tree
    have hl1 := ht.l1
    have hl2 := ht.l2
    refine dos_cons (do_set B 1 (ev_fst (ev_var B 0)) ?_)
    refine dos_cons (do_setN B 2 (en_dI B (rLst rEn) (fullM stand)) ?_)
    refine dos_cons (do_for B (gi_rev B E (ev_lenT B E (ev_var B 1).t) (sm62 (by omega))) (ga_name B 3) (fun i Γ => ∃ dom : List Int, dom.length ≤ i ∧ (∀ j : Int, (stand.1.length : Int) - i ≤ j → j < stand.1.length → j ∈ dom) ∧ Γ = [.da rSd stand, .da rTr stand.1, .mu (mDI (rLst rEn)) (dom, fullM stand), .un, .un, .un]) ⟨[], by simp, fun j h1 h2 => by omega, rfl⟩ (fun i x Γ' hx hI => ?_) (fun Γ' hI => ?_))
    · obtain ⟨dom, hdl, hdom, rfl⟩ := hI
      have hi := (List.getElem?_eq_some_iff.mp hx).1
      rw [List.length_reverse, rg_len0] at hi
      rw [List.getElem?_reverse (by rw [rg_len0]; exact hi), rg_len0] at hx
      obtain ⟨ex, hx'⟩ := rg_at hx
      have x0 : 0 ≤ x := by omega
      have xl : x < stand.1.length := by omega
      have hkl : (kidsM stand.1 x).length ≤ 1000 := Nat.le_trans (List.length_filter_le _ _) (by rw [rg_len]; omega)
      refine dos_cons (do_setLc (f := fun c => handedM (fullM stand c)) B 4 [("child", 5)] [2, 5] ["handed"] (gi_l (ev_call2 B (c_children E D) (ev_var B 1) (ev_var B 3) (by omega))) (by omega) (fun X' B' => (ga_name B' 5)) (fun X' B' c hc => (ev_call1 B' (c_handed E D) (ev_dgetI B' 2 (ev_var B' 5) (h := hdom c (by have := (kids_lt ht hc).1; omega) (kids_mem.mp hc).2.1)) (hp.en c (kids_lt ht hc).2.2 (kids_mem.mp hc).2.1))) ?_)
      have hj := full_eq ht x0 xl
      have hsz := (hp.en x x0 xl).sz
      refine dos_cons (do_dputI B 2 (ev_call1 B (c_joined_up E D) (ev_bin ((ev_list (.cons (ev_call2 B (c_own_entries E D) (ev_var B 0) (ev_var B 3) ⟨hp.sd, x0, xl⟩) .nil))).l ((ev_var B 4)).l (od_cat ?_)) ?_) (ev_var B 3) ?_ ?_)
      · refine sz_le ?_
        simp
        omega
      · rw [← joined_len]
        show (joined_upM (ownM stand x :: (kidsM stand.1 x).map fun c => handedM (fullM stand c))).length ≤ _
        rw [← hj]
        exact hsz
      · show dom.length ≤ _
        omega
      refine dos_un 3 (dos_un 4 (dos_nil ⟨x :: dom, by simp; omega, fun j h1 h2 => ?_, ?_⟩))
      · by_cases q : j = x
        · rw [q]; exact List.mem_cons_self
        · exact List.mem_cons_of_mem _ (hdom j (by omega) h2)
      · have : (fun m => if m = x then joined_upM ([ownM stand x] ++ (kidsM stand.1 x).map fun c => handedM (fullM stand c)) else fullM stand m) = fullM stand := by
          funext m
          by_cases q : m = x
          · subst q; rw [if_pos rfl]; exact hj.symm
          · rw [if_neg q]
        exact congrArg (fun g => [Sl.da rSd stand, .da rTr stand.1, .mu (mDI (rLst rEn)) (x :: dom, g), .un, .un, .un]) this
    obtain ⟨dom, hdl, hdom, rfl⟩ := hI
    rw [List.length_reverse, rg_len0] at hdom
    exact dos_one (do_ret (ev_lc (f := fullM stand) B [("knot", 3)] [2, 3] [] (gi_range1 B (E.f "range") (ev_lenT B E (ev_var B 1).t) (sm62 (by omega))) (by rw [rg_len0]; omega) (fun X' B' => (ga_name B' 3)) (fun X' B' x hx => (ev_dgetI B' 2 (ev_var B' 3) (h := hdom x (by rw [rg_mem] at hx; omega) (rg_mem.mp hx).2)))) (rt_eq rfl))
theorem c_weight_beneath (E : Top Z) (D : Ds Z) : Cal Z "weight_beneath" 7 (sp2 Z.T (pd rSd) (pd rInt) (fun stand knot => FrOk stand ∧ knot = 0) (fun stand knot => pd rEn (weightM stand))) :=
  cal2 ["stand", "knot", "fulls", "knots", "one"] [0, 1, 2, 3] ["full_rows", "beneath", "sum"] 3 D.weight_beneath (fun _ _ _ _ _ _ us hl => match us, hl with | [_, _], _ => rfl) fun X B stand knot hp => by
    obtain ⟨hp, rfl⟩ := hp
    have ht := hp.sd.tree
    have hl1 := ht.l1
    have hl2 := ht.l2
    have hbl := beneath_len ht
    refine dos_cons (do_set B 2 (ev_call1 B (c_full_rows E D) (ev_var B 0) hp) ?_)
    refine dos_cons (do_set B 3 (ev_call2 B (c_beneath E D) (ev_fst (ev_var B 0)) (ev_var B 1) ⟨by omega, by decide, by decide⟩) ?_)
    exact dos_one (do_ret (ev_t2 (ev_sum B E ((ev_lc (f := fun k => ((stand.2.getD k.toNat []).length : Int)) B [("one", 4)] [0, 4] ["len"] (gi_l (ev_var B 3)) (by omega) (fun X' B' => (ga_name B' 4)) (fun X' B' x hx => (ev_lenT B' E (ev_ixT ((ev_snd (ev_var B' 0))).t (ev_var B' 4) (beneath_mem hl1 hx).1 (row_at hp.sd (beneath_mem hl1 hx).1 (beneath_mem hl1 hx).2)).t)))).l) (ev_sum B E ((ev_lc (f := fun k => ((fullM stand k).length : Int)) B [("one", 4)] [2, 4] ["len"] (gi_l (ev_var B 3)) (by omega) (fun X' B' => (ga_name B' 4)) (fun X' B' x hx => (ev_lenL B' E ((ev_ixL ((ev_var B' 2)).l (ev_var B' 4) (beneath_mem hl1 hx).1 (full_rows_at stand (beneath_mem hl1 hx).1 (beneath_mem hl1 hx).2))).l)))).l)) (rt_eq rfl))
theorem c_weight (E : Top Z) (D : Ds Z) : Cal Z "weight" 8 (sp1 Z.T (pd rSd) FrOk (fun stand => pd rEn (weightM stand))) :=
  cal1 ["stand"] [0] ["weight_beneath"] 0 D.weight (fun _ _ _ _ _ _ us hl => match us, hl with | [_], _ => rfl) fun X B stand hp => by
    exact dos_one (do_ret (ev_call2 B (c_weight_beneath E D) (ev_var B 0) ev_int ⟨hp, rfl⟩) (rt_eq rfl))
end
end BF
set_option maxHeartbeats 4000000
namespace BF
open PySem PySem.Spec PyProof.Rows L2
/-! ## objects that are known while a call runs, and not tracked about it -/
abbrev Kn (o : Obj) (a : Addr) : HO := .frz o (.own a)
abbrev Dm := Addr → Option Obj
def addK (H : Hp) (d : Dm) : Hp := fun b => match d b with
  | some o => some (Kn o b)
  | none => H b
def remK (H : Hp) (d : Dm) : Hp := fun b => match d b with
  | some _ => none
  | none => H b
section
variable {H F : Hp} {d : Dm} {b : Addr} {o : Obj}
theorem addK_in (h : d b = some o) : addK H d b = some (Kn o b) := by unfold addK; rw [h]
theorem addK_out (h : d b = none) : addK H d b = H b := by unfold addK; rw [h]
theorem remK_in (h : d b = some o) : remK H d b = none := by unfold remK; rw [h]
theorem remK_out (h : d b = none) : remK H d b = H b := by unfold remK; rw [h]
variable {P : Program} {w : World} {h : Heap} {outer : List Env} {s s' : Shared} {Q Q2 : VK} {u : Value} {K : PySem.W.Frag} {mg : Str → Option Value} {base : Heap} {A : Around}
theorem hok_addK (x : HOk P w H h) (hd : ∀ b o, d b = some o → H b = none ∧ h.get? b = some o) : HOk P w (addK H d) h := fun b v e => by
  cases q : d b with
  | some o =>
    rw [addK_in q] at e
    cases e
    exact ⟨(hd b o q).2, o, (hd b o q).2⟩
  | none =>
    rw [addK_out q] at e
    have out : ∀ c, H c ≠ none → d c = none := fun c hc => by
      cases z : d c with
      | none => rfl
      | some o => exact absurd (hd c o z).1 hc
    exact (x b v e).stay (fun _ _ _ r => r) (fun c r => by rw [addK_out (out c (by rw [r]; simp))]; exact r) fun c xs r => by rw [addK_out (out c (by rw [r]; simp))]; exact r
theorem hok_remK (x : HOk P w H h) (hd : ∀ b o, d b = some o → H b = some (Kn o b)) : HOk P w (remK H d) h := fun b v e => by
  cases q : d b with
  | some o => rw [remK_in q] at e; cases e
  | none =>
    rw [remK_out q] at e
    have out : ∀ c v, H c = some v → (∀ o, v ≠ Kn o c) → d c = none := fun c v hc hn => by
      cases z : d c with
      | none => rfl
      | some o => rw [hd c o z] at hc; exact absurd (Option.some.inj hc).symm (hn o)
    exact (x b v e).stay (fun _ _ _ r => r) (fun c r => by rw [remK_out (out c _ r (fun o z => by cases z))]; exact r) fun c xs r => by rw [remK_out (out c _ r (fun o z => by cases z))]; exact r
theorem env0_addK (e : Env0 P w K mg base A outer s H) (hd : ∀ b o, d b = some o → H b = none ∧ s.heap.get? b = some o) (hb : ∀ b o, base.get? b = some o → d b = none) (hf : ∀ b ∈ frs outer, d b = none) : Env0 P w K mg base A outer s (addK H d) :=
  ⟨e.frames, e.mod, fun b o q => ⟨(e.bs b o q).1, by rw [addK_out (hb b o q)]; exact (e.bs b o q).2⟩, e.bsz, e.funs, fun b q => by rw [addK_out (hf b q)]; exact e.frf b q, hok_addK e.hok hd, e.bare⟩
theorem env0_remK (e : Env0 P w K mg base A outer s H) (hd : ∀ b o, d b = some o → H b = some (Kn o b)) : Env0 P w K mg base A outer s (remK H d) :=
  ⟨e.frames, e.mod, fun b o q => ⟨(e.bs b o q).1, by
    cases z : d b with
    | some o => exact remK_in z
    | none => rw [remK_out z]; exact (e.bs b o q).2⟩, e.bsz, e.funs, fun b q => by
    cases z : d b with
    | some o => exact remK_in z
    | none => rw [remK_out z]; exact e.frf b q, hok_remK e.hok hd, e.bare⟩
/-- a call that ran with them known -/
theorem ce_drop (hd : ∀ b o, d b = some o → H b = none ∧ s.heap.get? b = some o) (c : CE outer P w (addK H d) s Q u s') (hq : ∀ v H', Q v H' → (∀ b o, d b = some o → H' b = some (Kn o b)) → Q2 v (remK H' d)) : CE outer P w H s Q2 u s' := by
  obtain ⟨v, H2, os, bare, un, hok, r, q⟩ := c
  have kn : ∀ b o, d b = some o → H2 b = some (Kn o b) := fun b o z => un.frzs b o _ (addK_in z)
  have at_ : ∀ b o, d b = some o → s'.heap.get? b = some o := fun b o z => by
    have := hok b _ (kn b o z)
    exact this.1
  have out : ∀ c, H c ≠ none → d c = none := fun c hc => by
    cases z : d c with
    | none => rfl
    | some o => exact absurd (hd c o z).1 hc
  refine ⟨v, remK H2 d, os, bare, ⟨fun b o e n hb hx => ?_, fun b o e n hb hx => ?_, fun b o e n hx => ?_, fun b o e hx => un.there b o e hx, fun b xs e => ?_, fun b o u e => ?_, fun b ps e => ?_⟩, hok_remK hok kn, r, hq v H2 q kn⟩
  · cases z : d b with
    | none => exact un.keep b o e (by rw [addK_out z]; exact n) hb hx
    | some o2 =>
      have := (hd b o2 z).2
      rw [e] at this
      cases this
      exact at_ b _ z
  · cases z : d b with
    | none => exact un.slot b o e (by rw [addK_out z]; exact n) hb hx
    | some o2 =>
      have := (hd b o2 z).2
      rw [e] at this
      cases this
      exact ⟨o.slots, at_ b _ z⟩
  · cases z : d b with
    | none => rw [remK_out z]; exact un.free b o e (by rw [addK_out z]; exact n) hx
    | some o2 => exact remK_in z
  · have z := out b (by rw [e]; simp)
    rw [remK_out z]; exact un.tups b xs (by rw [addK_out z]; exact e)
  · have z := out b (by rw [e]; simp)
    rw [remK_out z]; exact un.frzs b o u (by rw [addK_out z]; exact e)
  · have z := out b (by rw [e]; simp)
    rw [remK_out z]; exact un.tbls b ps (by rw [addK_out z]; exact e)
/-- a call that ran with them not tracked -/
theorem ce_add (hd : ∀ b o, d b = some o → H b = some (Kn o b)) (hs : HOk P w H s.heap) (hf : ∀ b ∈ frs outer, H b = none) (c : CE outer P w (remK H d) s Q u s') (hq : ∀ v H', Q v H' → (∀ b o, d b = some o → H' b = none) → Q2 v (addK H' d)) : CE outer P w H s Q2 u s' := by
  obtain ⟨v, H2, os, bare, un, hok, r, q⟩ := c
  have s0 : ∀ b o, d b = some o → s.heap.get? b = some o := fun b o z => (hs b _ (hd b o z)).1
  have nf : ∀ b o, d b = some o → b ∉ frs outer := fun b o z m => by
    have := hf b m
    rw [hd b o z] at this; cases this
  have no : ∀ b o, d b = some o → H2 b = none := fun b o z => un.free b o (s0 b o z) (remK_in z) (by simp)
  have at_ : ∀ b o, d b = some o → s'.heap.get? b = some o := fun b o z => un.keep b o (s0 b o z) (remK_in z) (nf b o z) (by simp)
  have out : ∀ c v, H c = some v → (∀ o, v ≠ Kn o c) → d c = none := fun c v hc hn => by
    cases z : d c with
    | none => rfl
    | some o => rw [hd c o z] at hc; exact absurd (Option.some.inj hc).symm (hn o)
  have nn : ∀ c, H c = none → d c = none := fun c hc => by
    cases z : d c with
    | none => rfl
    | some o => rw [hd c o z] at hc; cases hc
  refine ⟨v, addK H2 d, os, bare, ⟨fun b o e n hb hx => un.keep b o e (by rw [remK_out (nn b n)]; exact n) hb hx, fun b o e n hb hx => un.slot b o e (by rw [remK_out (nn b n)]; exact n) hb hx, fun b o e n hx => ?_, fun b o e hx => un.there b o e hx, fun b xs e => ?_, fun b o u e => ?_, fun b ps e => ?_⟩, hok_addK hok fun b o z => ⟨no b o z, at_ b o z⟩, r, hq v H2 q no⟩
  · rw [addK_out (nn b n)]; exact un.free b o e (by rw [remK_out (nn b n)]; exact n) hx
  · have z := out b _ e (fun o z => by cases z)
    rw [addK_out z]; exact un.tups b xs (by rw [remK_out z]; exact e)
  · cases z : d b with
    | some o2 =>
      rw [hd b o2 z] at e
      cases e
      exact addK_in z
    | none => rw [addK_out z]; exact un.frzs b o u (by rw [remK_out z]; exact e)
  · have z := out b _ e (fun o z => by cases z)
    rw [addK_out z]; exact un.tbls b ps (by rw [remK_out z]; exact e)
end
section
variable {T : Tbs} {F H F1 H1 : Hp} {d : Dm}
theorem ok_addK (o : Ok T F H) (hd : ∀ b x, d b = some x → H b = none) : Ok T (addK F d) (addK H d) := by
  have out : ∀ c, H c ≠ none → d c = none := fun c hc => by
    cases z : d c with
    | none => rfl
    | some o => exact absurd (hd c o z) hc
  refine ⟨fun b u e => ?_, fun b ps e => ?_, fun p hp => ?_⟩
  · cases z : d b with
    | some x => rw [addK_in z] at e ⊢; exact e
    | none => rw [addK_out z] at e ⊢; exact o.sub b u e
  · cases z : d b with
    | some x => rw [addK_in z] at e; cases e
    | none => rw [addK_out z] at e; exact o.nt b ps e
  · obtain ⟨ps, h1, h2, h3⟩ := o.tb p hp
    refine ⟨ps, by rw [addK_out (out _ (by rw [h1]; simp))]; exact h1, h2, fun pos cv hc => ?_⟩
    obtain ⟨c, e1, e2⟩ := h3 pos cv hc
    exact ⟨c, e1, by rw [addK_out (out _ (by rw [o.sub _ _ e2]; simp))]; exact e2⟩
theorem ok_remK (o : Ok T F H) (hd : ∀ b x, d b = some x → H b = some (Kn x b)) : Ok T (remK F d) (remK H d) := by
  have out : ∀ c v, H c = some v → (∀ o, v ≠ Kn o c) → d c = none := fun c v hc hn => by
    cases z : d c with
    | none => rfl
    | some o => rw [hd c o z] at hc; exact absurd (Option.some.inj hc).symm (hn o)
  refine ⟨fun b u e => ?_, fun b ps e => ?_, fun p hp => ?_⟩
  · cases z : d b with
    | some x => rw [remK_in z] at e; cases e
    | none => rw [remK_out z] at e ⊢; exact o.sub b u e
  · cases z : d b with
    | some x => rw [remK_in z] at e; cases e
    | none => rw [remK_out z] at e; exact o.nt b ps e
  · obtain ⟨ps, h1, h2, h3⟩ := o.tb p hp
    refine ⟨ps, by rw [remK_out (out _ _ h1 (fun o z => by cases z))]; exact h1, h2, fun pos cv hc => ?_⟩
    obtain ⟨c, e1, e2⟩ := h3 pos cv hc
    exact ⟨c, e1, by rw [remK_out (out _ _ (o.sub _ _ e2) (fun o z => by unfold LamX.CodeO at z; cases z))]; exact e2⟩
theorem grow_drop (o : Ok T F H) (hd : ∀ b x, d b = some x → H b = none) (g : Grow T nowhere (addK F d) (addK H d) F1 H1) (h1 : ∀ b x, d b = some x → H1 b = some (Kn x b)) : Grow T nowhere F H (remK F1 d) (remK H1 d) := by
  have out : ∀ c, H c ≠ none → d c = none := fun c hc => by
    cases z : d c with
    | none => rfl
    | some o => exact absurd (hd c o z) hc
  refine ⟨ok_remK g.ok h1, fun b u e => ?_, fun b n1 n2 => ?_, fun b u nw e nt => ?_, fun b n => ?_⟩
  · have z := out b (by rw [o.sub _ _ e]; simp)
    rw [remK_out z]; exact g.ef b u (by rw [addK_out z]; exact e)
  · cases z : d b with
    | some x => exact hd b x z
    | none =>
      rw [remK_out z] at n1
      have := g.new b n1 (by rw [addK_out z]; exact n2)
      rw [addK_out z] at this; exact this
  · have z := out b (by rw [e]; simp)
    rw [remK_out z]; exact g.eh b u nw (by rw [addK_out z]; exact e) nt
  · have z := out b n
    rw [remK_out z]; exact g.th b (by rw [addK_out z]; exact n)
theorem grow_add (o : Ok T F H) (hF : ∀ b x, d b = some x → F b = some (Kn x b)) (g : Grow T nowhere (remK F d) (remK H d) F1 H1) (h1 : ∀ b x, d b = some x → H1 b = none) : Grow T nowhere F H (addK F1 d) (addK H1 d) := by
  have hH : ∀ b x, d b = some x → H b = some (Kn x b) := fun b x z => o.sub _ _ (hF b x z)
  refine ⟨ok_addK g.ok h1, fun b u e => ?_, fun b n1 n2 => ?_, fun b u nw e nt => ?_, fun b n => ?_⟩
  · cases z : d b with
    | some x =>
      rw [hF b x z] at e
      rw [addK_in z]; exact e
    | none => rw [addK_out z]; exact g.ef b u (by rw [remK_out z]; exact e)
  · cases z : d b with
    | some x => rw [hF b x z] at n2; cases n2
    | none =>
      rw [addK_out z] at n1
      have := g.new b n1 (by rw [remK_out z]; exact n2)
      rw [remK_out z] at this; exact this
  · cases z : d b with
    | some x =>
      rw [hH b x z] at e
      rw [addK_in z]; exact e
    | none => rw [addK_out z]; exact g.eh b u nw (by rw [remK_out z]; exact e) nt
  · cases z : d b with
    | some x => rw [addK_in z]; simp
    | none => rw [addK_out z]; exact g.th b (by rw [remK_out z]; exact n)
end
/-! ### data that lean on no such object -/
structure Rp.Nf {α : Type} (R : Rp α) : Prop where
  rem : ∀ {F : Hp} {d : Dm} {x : α} {v : V}, (∀ b o, d b = some o → F b = some (Kn o b)) → R.rel x F v → R.rel x (remK F d) v
theorem remK_keep {F : Hp} {d : Dm} {a : Addr} {u : HO} (hd : ∀ b o, d b = some o → F b = some (Kn o b)) (e : F a = some u) (hn : ∀ o, u ≠ Kn o a) : remK F d a = some u := by
  cases z : d a with
  | none => rw [remK_out z]; exact e
  | some o => rw [hd a o z] at e; exact absurd (Option.some.inj e).symm (hn o)
theorem nf_int : rInt.Nf := ⟨fun _ h => h⟩
theorem rl_rem {α : Type} {R : Rp α} (n : R.Nf) {F : Hp} {d : Dm} (hd : ∀ b o, d b = some o → F b = some (Kn o b)) : ∀ {xs : List α} {vs : List V}, RL R F xs vs → RL R (remK F d) xs vs
  | [], [], _ => trivial
  | _ :: _, _ :: _, ⟨a, b⟩ => ⟨n.rem hd a, rl_rem n hd b⟩
theorem nf_lst {α : Type} {R : Rp α} (n : R.Nf) : (rLst R).Nf := ⟨fun hd ⟨a, vs, e, h, r⟩ => ⟨a, vs, e, remK_keep hd h (fun o z => by cases z), rl_rem n hd r⟩⟩
theorem nf_t2 {α β : Type} {R : Rp α} {S : Rp β} (n : R.Nf) (m : S.Nf) : (rT2 R S).Nf := ⟨fun hd ⟨a, u, w, e, h, r1, r2⟩ => ⟨a, u, w, e, remK_keep hd h (fun o z => by cases z), n.rem hd r1, m.rem hd r2⟩⟩
end BF
set_option maxHeartbeats 4000000
namespace BF
open PySem PySem.Spec PyProof.Rows L2
/-! ## the lambda of found_places -/
def lamE : Expr := match defBody s_found_places with
  | [_, _, .Return (some (.Call _ [_, _, l] _ _)) _] => l
  | _ => .Constant .none 0 ⟨0, 0, 0, 0⟩
def lamParams : Arguments := match lamE with
  | .Lambda p _ _ _ => p
  | _ => defArgs s_found_places
def lamBody : Expr := match lamE with
  | .Lambda _ b _ _ => b
  | e => e
def lamScope : Scope := match lamE with
  | .Lambda _ _ s _ => s
  | _ => defScope s_found_places
abbrev lamQ : Str := "found_places.<locals>.<lambda>"
abbrev Lx := List (List En) × Int
structure LamV (x : Lx) (F : Hp) (f : Addr) (of : Obj) (pm ctv : Value) (c' cf ck lf : Addr) (ocf ock : Obj) (cl : List (Str × Addr)) (t : Tok) : Prop where
  fo : of = PySem.W.kla_obj "<lambda>" lamQ lamParams lamBody lamScope cl pm c' ctv
  ff : F f = some (Kn of f)
  fc : F c' = some (LamX.CodeO c' lamQ)
  l1 : cl.lookup ("fulls" : Str) = some cf
  l2 : cl.lookup ("key" : Str) = some ck
  only : ∀ y c, cl.lookup y = some c → (y = "fulls" ∧ c = cf) ∨ (y = "key" ∧ c = ck)
  ne : cf ≠ ck
  fF : F cf = some (Kn ocf cf)
  dF : ocf.data = .cell (some (.ref lf))
  rF : (rLst (rLst rEn)).rel x.1 F (.ref lf)
  fK : F ck = some (Kn ock ck)
  dK : ock.data = .cell (some (.int x.2 t))
def rLam : Rp Lx := ⟨fun x F v => ∃ f of pm ctv c' cf ck lf ocf ock cl t, v = .ref f ∧ LamV x F f of pm ctv c' cf ck lf ocf ock cl t, fun s ⟨f, of, pm, ctv, c', cf, ck, lf, ocf, ock, cl, t, e, L⟩ =>
  ⟨f, of, pm, ctv, c', cf, ck, lf, ocf, ock, cl, t, e, L.fo, s _ _ L.ff, s _ _ L.fc, L.l1, L.l2, L.only, L.ne, s _ _ L.fF, L.dF, (rLst (rLst rEn)).mono s L.rF, s _ _ L.fK, L.dK⟩⟩
abbrev lamN : List Str := ["knot", "at", "fulls", "key"]
theorem lam_scope : NdefX.NScope lamN ["knot", "at"] ["fulls", "key"] lamScope := NdefX.nscope_by (by decide +kernel)
theorem lam_nm : Nm lamN lamScope [0, 1, 2, 3] [] [] := nm_by (by decide +kernel)
theorem lam_bind (cl : List (Str × Addr)) (pm cv ctv : Value) (us : List Value) (hl : us.length = 2) : bindArgs (PySem.W.kla_fn "<lambda>" lamQ lamParams lamBody lamScope cl pm cv ctv) ⟨us, []⟩ = pure ((["knot", "at"] : List Str).zip us) :=
  match us, hl with
  | [_, _], _ => rfl
section
variable {Z : Zx}
theorem lam_body {X : Cx} {k : Nat} (B : Bd Z X lamN lamScope [0, 1, 2, 3] [] [] k) {x : Lx} {a b : Int} {es : List En} {e : En} (ha : 0 ≤ a) (hb : 0 ≤ b) (h1 : x.1[a.toNat]? = some es) (h2 : es[b.toNat]? = some e) :
    EV Z X lamBody [.da rInt a, .da rInt b, .da (rLst (rLst rEn)) x.1, .da rInt x.2] (pd rBool (decide (e.1 < x.2))) :=
  ev_cmp (ev_fst (ev_ixL (ev_ixL (ev_var B 2).l (ev_var B 0) ha h1).l (ev_var B 1) hb h2)) (ev_var B 3) od_lt
theorem lam_run {k : Nat} {x : Lx} {F H : Hp} {f : Addr} {of : Obj} {pm ctv : Value} {c' cf ck lf : Addr} {ocf ock : Obj} {cl : List (Str × Addr)} {t : Tok} (L : LamV x F f of pm ctv c' cf ck lf ocf ock cl t) (o : Ok Z.T F H) {A : Around} {outer : List Env} {s : Shared} {us : List Value} {Q : VK} {a b : Int} {es : List En} {e : En}
    (hr : Room (k + 1) A) (e0 : Env0 Z.P Z.w Z.K Z.mg Z.base A outer s H) (r : Vals [.int a, .int b] us) (ha : 0 ≤ a) (hb : 0 ≤ b) (h1 : x.1[a.toNat]? = some es) (h2 : es[b.toNat]? = some e) (q : ∀ F' H', Grow Z.T nowhere F H F' H' → Q (.bl (decide (e.1 < x.2))) H') :
    codeAny (model Z.P Z.w) A (.call (.ref f) ⟨us, []⟩) (CR CX0 outer Z.P Z.w H s Q E0) s := by
  let d : Dm := fun b => if b = cf then some ocf else if b = ck then some ock else none
  have hdF : ∀ b z, d b = some z → F b = some (Kn z b) := fun b z hz => by
    by_cases q1 : b = cf
    · have hz : (if b = cf then some ocf else if b = ck then some ock else none) = some z := hz
      rw [if_pos q1] at hz
      cases hz
      rw [q1]; exact L.fF
    · have hz : (if b = cf then some ocf else if b = ck then some ock else none) = some z := hz
      rw [if_neg q1] at hz
      by_cases q2 : b = ck
      · rw [if_pos q2] at hz
        cases hz
        rw [q2]; exact L.fK
      · rw [if_neg q2] at hz; cases hz
  have hdH : ∀ b z, d b = some z → H b = some (Kn z b) := fun b z hz => o.sub _ _ (hdF b z hz)
  have dcf : d cf = some ocf := if_pos rfl
  have dck : d ck = some ock := by
    show (if ck = cf then some ocf else if ck = ck then some ock else none) = some ock
    rw [if_neg (fun z => L.ne z.symm), if_pos rfl]
  have at_ : ∀ b z, d b = some z → s.heap.get? b = some z := fun b z hz => (e0.hok b _ (hdH b z hz)).1
  have e1 : Env0 Z.P Z.w Z.K Z.mg Z.base A outer s (remK H d) := env0_remK e0 hdH
  have o1 : Ok Z.T (remK F d) (remK H d) := ok_remK o hdH
  let NFv : NdefX.NF := ⟨"<lambda>", lamQ, lamParams, [], lamScope, cl, c'⟩
  have C : NdefX.CellsAt cl ["fulls", "key"] [some (.ref lf), some (.int x.2)] s.heap (remK H d) := by
    refine ⟨rfl, fun y c hc => ?_, fun y z c hy hz => ?_, fun i y hi => ?_⟩
    · rcases L.only y c hc with ⟨_, e⟩ | ⟨_, e⟩
      · rw [e]; exact ⟨remK_in dcf, _, ocf, at_ _ _ dcf, L.dF⟩
      · rw [e]; exact ⟨remK_in dck, _, ock, at_ _ _ dck, L.dK⟩
    · rcases L.only y c hy with ⟨e, e'⟩ | ⟨e, e'⟩ <;> rcases L.only z c hz with ⟨e2, e2'⟩ | ⟨e2, e2'⟩
      · rw [e, e2]
      · exact absurd (e'.symm.trans e2') L.ne
      · exact absurd (e2'.symm.trans e') L.ne
      · rw [e, e2]
    · match i, hi with
      | 0, hi =>
        cases hi
        refine ⟨cf, L.l1, fun v hv => ?_⟩
        cases hv
        exact ⟨.ref lf, rfl, ocf, at_ _ _ dcf, L.dF⟩
      | 1, hi =>
        cases hi
        refine ⟨ck, L.l2, fun v hv => ?_⟩
        cases hv
        exact ⟨.int x.2 t, ⟨t, rfl⟩, ock, at_ _ _ dck, L.dK⟩
      | i + 2, hi => simp at hi
  have of1 : s.heap.get? f = some of := (e0.hok f _ (o.sub _ _ L.ff)).1
  rw [L.fo] at of1
  have hc : s.heap.CodeRec (.ref c') lamQ := NdefX.codeO_at e0.hok (o.sub _ _ L.fc)
  have lim : s.heap.NoLimit := e0.mod.nolimit.keeps fun b o e => (e0.bs b o e).1
  have hl : us.length = 2 := r.length.symm
  have main : codeAny (model Z.P Z.w) A (.call (.ref f) ⟨us, []⟩) (CR CX0 outer Z.P Z.w (remK H d) s (fun v H' => v = .bl (decide (e.1 < x.2)) ∧ ∃ F', Grow Z.T nowhere (remK F d) (remK H d) F' H') E0) s := by
    refine PySem.W.kla_callFunE hr.depth of1 rfl lam_scope.co lam_scope.gen rfl hc ?_
    rw [lam_bind cl pm (.ref c') ctv us hl]
    refine wpAny_pure (wpAny_newFunctionEnv lam_scope.nocell (fun ⟨n, _⟩ hy => lam_scope.par n (List.of_mem_zip hy).1) (fun h₁ hns hsb => ⟨lim.fresh _ hsb, ?_⟩) lam_scope.kind)
    show codeAny _ _ (.expr lamBody (NdefX.envF NFv f s.heap.objs.size)) _ _
    have kp : ∀ b o, s.heap.get? b = some o → h₁.get? b = some o := fun b o e => hsb.extBut b o (Nat.ne_of_lt (Heap.lt_size e)) (Heap.get?_push_of_some _ e)
    have I : Inv (NdefX.ncx CX0 Z.P Z.w Z.K Z.mg Z.base lamN NFv f A outer s (remK H d) E0) [] (NdefX.startF lamN [.int a, .int b] [some (.ref lf), some (.int x.2)]) (remK H d) { s with heap := h₁, toks := s.toks + ((["knot", "at"] : List Str).zip us).length } := NdefX.inv_startN lam_scope hr.hd e1 rfl r C hns kp
    have B : Bd Z (NdefX.ncx CX0 Z.P Z.w Z.K Z.mg Z.base lamN NFv f A outer s (remK H d) E0).nox lamN lamScope [0, 1, 2, 3] [] [] k :=
      { nm := lam_nm, prog := rfl, w := rfl, K := rfl, mg := rfl, base := rfl, eN := rfl, eSc := rfl, calm := rfl, room := hr.deeper _, st := fun i hi => (nomatch hi), po := PassesOwn.never }
    have S : Sat nowhere (remK F d) (remK H d) (remK H d) [.da rInt a, .da rInt b, .da (rLst (rLst rEn)) x.1, .da rInt x.2] (NdefX.startF lamN [.int a, .int b] [some (.ref lf), some (.int x.2)]) (fun _ => []) := sat_entry rfl fun i z hz => by
      match i, hz with
      | 0, hz => cases hz; exact ⟨_, rfl, rfl, _, rfl, rfl⟩
      | 1, hz => cases hz; exact ⟨_, rfl, rfl, _, rfl, rfl⟩
      | 2, hz => cases hz; exact ⟨_, rfl, rfl, _, rfl, (nf_lst (nf_lst (nf_t2 nf_int nf_int))).rem hdF L.rF⟩
      | 3, hz => cases hz; exact ⟨_, rfl, rfl, _, rfl, rfl⟩
      | i + 4, hz => simp at hz
    refine PySem.W.kla_codeExpr (wpAny_mono ((PE.nox (lam_body B ha hb h1 h2).pe).run [] _ _ (remK H d) (fun v H' => v = .bl (decide (e.1 < x.2)) ∧ ∃ F', Grow Z.T nowhere (remK F d) (remK H d) F' H') I ⟨remK F d, remK H d, nowhere, _, o1, S, fun v F' H' g p => ⟨p, F', g⟩⟩) (fun v s' hq => ?_) fun e s' hq => hq)
    obtain ⟨w', H', J', rv, q'⟩ := hq
    exact ⟨w', H', J'.os, J'.bare, J'.base, J'.hok, rv, q'⟩
  refine codeAny_mono main fun rr s' hq => ?_
  cases rr with
  | error e => exact hq
  | ok fl =>
    cases fl with
    | ret u =>
      refine ce_add hdH e0.hok e0.frf hq fun v H' ⟨ev, F', g⟩ no => ?_
      rw [ev]
      exact q _ _ (grow_add o hdF g no)
    | next => exact False.elim hq
    | brk => exact False.elim hq
    | cont => exact False.elim hq
variable {X : Cx} {e1 e2 : Expr} {Γ : List Sl} {N : List Str} {sc : Scope} {vs ws : List Nat} {gs : List Str} {k : Nat} {pos p : Pos}
/-- is_below(knot, at) -/
theorem ev_lam (B : Bd Z X N sc vs ws gs (k + 1)) (i : Nat) {n : Str} {x : Lx} {a b : Int} {es : List En} {e : En} (ea : EV Z X e1 Γ (pd rInt a)) (eb : EV Z X e2 Γ (pd rInt b)) (hi : N[i]? = some n := by rfl) (hv : i ∈ vs := by decide) (hΓ : Γ[i]? = some (.da rLam x) := by rfl) (ha : 0 ≤ a) (hb : 0 ≤ b) (h1 : x.1[a.toNat]? = some es) (h2 : es[b.toNat]? = some e)
    (he : starEach (e1 :: [e2]) X.env = (false, eval e1 X.env) :: starEach [e2] X.env := by rfl) (he2 : starEach (e2 :: []) X.env = (false, eval e2 X.env) :: starEach [] X.env := by rfl) (hpl : (backTo pos (starEach [e2] X.env)).any (·.1) = false := by rfl) : EV Z X (.Call (.Name n p) [e1, e2] [] pos) Γ (pd rBool (decide (e.1 < x.2))) := by
  obtain ⟨d1, d2, _⟩ := plainName_ok (B.nm.pn i hv n hi)
  intro pins s σ F G H Wr fts Q I o S q
  obtain ⟨v, ev, f, of, pm, ctv, c', cf, ck, lf, ocf, ock, cl, t, rfl, L⟩ := S.da hΓ
  refine wpAny_Call_Name_kw (thn ((pe_var (pos := p) (i := i) (by rw [B.eN]; exact hi) (by rw [B.eSc]; exact B.nm.vis i hv n hi) d1 d2).run pins s σ H (fun v H1 => v = .ref f ∧ H1 = H) I ⟨_, ev, rfl, rfl⟩) fun u s1 ⟨v, H1, I1, r1, q1⟩ => ?_)
  obtain ⟨ev', eH⟩ := q1
  subst ev'
  rw [eH] at I1
  obtain rfl : u = Value.ref f := r1
  have fat : ∀ {H2 : Hp} {s2 : Shared}, Inv X pins σ H2 s2 → H2 f = some (Kn of f) → PySem.W.FnAt f s2.heap := fun {H2 s2} J hf => by
    have := (J.hok f _ hf).1
    rw [L.fo] at this
    exact ⟨_, _, _, _, this⟩
  refine PySem.W.callWith_F (first := []) (fat I1 (o.sub _ _ L.ff)) (thn ((ea2 ea eb he he2).pa.run pos pins s1 σ H (fun vs H2 => vs = [.int a, .int b] ∧ ∃ F2, Grow Z.T nowhere F H F2 H2) I1 ⟨F, G, Wr, fts, o, S, fun vs F1 H1 g1 p1 => ?_⟩) fun us s2 ⟨vs, H2, I2, r, q2⟩ => ?_) he hpl
  · match vs, p1 with
    | [v, w], ⟨p1, p2, _⟩ => exact ⟨by rw [show v = V.int a from p1, show w = V.int b from p2], F1, g1⟩
  · obtain ⟨ev2, F2, g2⟩ := q2
    subst ev2
    refine ⟨fat I2 (g2.ok.sub _ _ (g2.ef _ _ L.ff)), ?_⟩
    show wpAny _ _ (call (.ref f) us) _ _ _
    have L2' : LamV x F2 f of pm ctv c' cf ck lf ocf ock cl t := ⟨L.fo, g2.ef _ _ L.ff, g2.ef _ _ L.fc, L.l1, L.l2, L.only, L.ne, g2.ef _ _ L.fF, L.dF, (rLst (rLst rEn)).mono g2.ef L.rF, g2.ef _ _ L.fK, L.dK⟩
    have e0 := I2.env0
    rw [B.prog, B.w, B.K, B.mg, B.base] at e0
    rw [B.prog, B.w]
    refine wpAny_call (codeAny_mono (lam_run L2' g2.ok B.room e0 r ha hb h1 h2 (Q := Q) fun F' H' g => q _ F' H' (g2.step g) rfl) fun rr s' hq => ?_)
    cases rr with
    | error e => exact False.elim hq
    | ok fl =>
      cases fl with
      | ret u =>
        rw [← B.prog, ← B.w] at hq
        exact I2.after hq
      | next => exact False.elim hq
      | brk => exact False.elim hq
      | cont => exact False.elim hq
end
end BF
set_option maxHeartbeats 4000000
namespace BF
open PySem PySem.Spec PyProof.Rows L2
/-! ## the lambda is made, and handed on -/
section
variable {X : Cx} {pins : List (Addr × Obj)} {σ : Sg} {H F : Hp} {s : Shared}
theorem lam_make3 {T : Tbs} {q : Str} {c P : Addr} {params : Arguments} {body : Expr} {scope : Scope} {pos : Pos} {E : Value → Shared → Prop} {Q : Value → Shared → Prop} (I : Inv X pins σ H s) (o : Ok T F H) (TB : LamX.TabB X.base X.mg c P) (hcode : X.env.code = .ref c) (hT : T = [(P, q)]) (hq : X.env.qual ++ "<lambda>" = q)
    (hdef : defaultsOf params X.env = ([], [])) (hfree : ∀ y ∈ scope.names, y.2 = .free → ∃ c, X.env.cells.lookup y.1 = some c)
    (h : ∀ (f c' : Addr) (pm ctv : Value) (F1 H1 : Hp) (s' : Shared), Inv X pins σ H1 s' → Grow T nowhere F H F1 H1 → F1 c' = some (LamX.CodeO c' q) →
      s'.heap.get? f = some (PySem.W.kla_obj "<lambda>" q params body scope (cloFrom X.env.cells scope.names []) pm c' ctv) → H1 f = none → s.heap.objs.size ≤ f → f ∉ frs X.stack → Q (.ref f) s') :
    wpAny (model X.prog X.w) X.A (eval (.Lambda params body scope pos) X.env) Q E s := by
  obtain ⟨ps, hP, ht, ha⟩ := o.tb (P, q) (by rw [hT]; simp)
  refine PySem.W.kla_eval hdef ?_
  have bP : s.heap.BuiltinsAt X.mg P := TB.bm.keeps I.bk
  have hP' : s.heap.get? P = some { cls := .none, data := .fields ps } := I.hok P _ hP
  have nofr : ∀ f, s.heap.objs.size ≤ f → f ∉ frs X.stack := fun f hf z => by
    rcases List.mem_cons.mp (I.stkSub _ z) with e | e
    · have h1 := I.lt
      rw [← e] at h1
      exact Nat.lt_irrefl _ (Nat.lt_of_lt_of_le h1 hf)
    · exact I.nofs hf e
  cases hc : codeAmong pos ps.toList with
  | none =>
    refine PySem.W.kla_makeFunction (mg := X.mg) (c := c) (P := P) (ps := ps) (closure_ok hfree) I.ok.glob (I.mod.glob.keeps I.bk) hcode (TB.code.keeps I.bk) hP' ht hc TB.gP bP fun c' ctv h' tk hx hge hlt hrec htb => ?_
    obtain ⟨c2, oc, vs, t, e2, hoc, hd, hv⟩ := hrec
    cases e2
    rw [hq] at hv
    rw [hq]
    have hsz : s.heap.objs.size ≤ h'.objs.size := Nat.le_trans hge (Nat.le_of_lt hlt)
    have nC : H c' = none := I.hok.fresh hge
    have nF : F c' = none := o.free nC
    have nP : ∀ b, F b ≠ none → b ≠ P := fun b hb z => by
      cases w : F b with
      | none => exact hb w
      | some u =>
        have := o.sub b u w
        rw [z, hP] at this
        rw [z] at w
        exact o.nt P ps (by rw [w, ← this])
    have I1 := LamX.inv_table (q := q) (t' := tk) (more := #[rawInt pos.line, rawInt pos.col, .ref c']) (h' := h'.push (PySem.W.kla_obj "<lambda>" q params body scope (cloFrom X.env.cells scope.names []) ((X.mg "__name__").getD .none) c' ctv)) I hP
      (fun b o hb e => Heap.get?_push_of_some _ (hx b o hb e)) (Heap.get?_push_of_some _ htb) hge ⟨oc, vs, t, Heap.get?_push_of_some _ hoc, hd, hv⟩
    have eL : (ps ++ #[rawInt pos.line, rawInt pos.col, .ref c']).toList = ps.toList ++ [rawInt pos.line, rawInt pos.col, .ref c'] := by simp
    have g : Grow T nowhere F H (upd F c' (LamX.CodeO c' q)) (upd (upd H P (.tbl (ps ++ #[rawInt pos.line, rawInt pos.col, .ref c']))) c' (LamX.CodeO c' q)) := by
      refine ⟨⟨fun b u e => ?_, fun b qs e => ?_, fun p hp => ?_⟩, fun b u e => ?_, fun b n1 n2 => ?_, fun b u _ e nt => ?_, fun b n => ?_⟩
      · by_cases z : b = c'
        · rw [z, upd_same] at e ⊢; exact e
        · rw [upd_ne z] at e ⊢
          rw [upd_ne (nP b (by rw [e]; simp))]
          exact o.sub b u e
      · by_cases z : b = c'
        · rw [z, upd_same] at e; exact LamX.codeO_ne qs (Option.some.inj e)
        · rw [upd_ne z] at e; exact o.nt b qs e
      · rw [hT] at hp
        simp at hp
        subst hp
        refine ⟨_, by rw [upd_ne (ne_of_none hP nC), upd_same], by rw [eL]; exact PySem.TriplesOk_snoc _ _ _ _ ht, fun p' cv hcv => ?_⟩
        rw [eL] at hcv
        rcases LamX.among_app _ ht hcv with z | z
        · obtain ⟨c0, e1, e2⟩ := ha p' cv z
          exact ⟨c0, e1, by rw [upd_ne (ne_of_none e2 nF)]; exact e2⟩
        · exact ⟨c', z, upd_same⟩
      · rw [upd_ne (ne_of_none e nF)]; exact e
      · by_cases z : b = c'
        · rw [z]; exact nC
        · rw [upd_ne z] at n1; exact absurd n2 n1
      · rw [upd_ne (ne_of_none e nC), upd_ne (fun z => nt ps (Option.some.inj (e.symm.trans (by rw [z]; exact hP))))]
        exact e
      · cases w : H b with
        | none => exact absurd w n
        | some u =>
          rw [upd_ne (ne_of_none w nC)]
          by_cases z : b = P
          · rw [z, upd_same]; simp
          · rw [upd_ne z, w]; simp
    refine h h'.objs.size c' ((X.mg "__name__").getD .none) ctv _ _ _ I1 g upd_same (Heap.get?_push_size _ rfl) ?_ hsz (nofr _ hsz)
    have n1 : h'.objs.size ≠ c' := Nat.ne_of_gt hlt
    have n2 : h'.objs.size ≠ P := Nat.ne_of_gt (Nat.lt_of_lt_of_le (Heap.lt_size hP') hsz)
    rw [upd_ne n1, upd_ne n2]
    exact I.hok.fresh hsz
  | some cv =>
    obtain ⟨c', e, hco⟩ := ha pos cv hc
    subst e
    refine PySem.W.kla_makeFunctionHit (mg := X.mg) (c := c) (P := P) (ps := ps) (closure_ok hfree) I.ok.glob (I.mod.glob.keeps I.bk) hcode (TB.code.keeps I.bk) hP' ht hc bP fun ctv h' tk hx hsz => ?_
    rw [hq]
    have I1 : Inv X pins σ H { s with heap := h'.push (PySem.W.kla_obj "<lambda>" q params body scope (cloFrom X.env.cells scope.names []) ((X.mg "__name__").getD .none) c' ctv), toks := tk } := I.kept fun b o e => Heap.get?_push_of_some _ (hx b o e)
    exact h h'.objs.size c' ((X.mg "__name__").getD .none) ctv F H _ I1 (Grow.refl o) hco (Heap.get?_push_size _ rfl) (I.hok.fresh hsz) hsz (nofr _ hsz)
end
theorem lam_def {env : Env} : defaultsOf lamParams env = ([], []) := rfl
section
variable {Z : Zx} {X : Cx} {e1 e2 : Expr} {Γ : List Sl} {N : List Str} {sc : Scope} {vs ws : List Nat} {gs : List Str} {k j : Nat} {pos p lpos : Pos} {α β γ : Type}
/-- x(e1, e2, lambda) in the def that holds fulls and key -/
theorem ev_lamcall (B : Bd Z X N sc vs ws gs k) {c P : Addr} (TB : LamX.TabB Z.base Z.mg c P) (hcode : X.env.code = .ref c) (hqual : X.env.qual = "found_places.<locals>.") (hT : Z.T = [(P, lamQ)])
    {x : Str} {A1 : Rp α} {A2 : Rp β} {pre : α → β → Lx → Prop} {RR : Rp γ} {R : α → β → Lx → γ} {u : α} {w : β} {fl : List (List En)} {ky : Int} (i1 i2 : Nat) (cl : Cal Z x j (sp3 Z.T (pd A1) (pd A2) (pd rLam) pre (fun a b l => pd RR (R a b l)))) (hj : j ≤ k) (a : EV Z X e1 Γ (pd A1 u)) (b : EV Z X e2 Γ (pd A2 w)) (h : pre u w (fl, ky)) (nf : RR.Nf)
    (hn1 : N[i1]? = some "fulls" := by rfl) (hn2 : N[i2]? = some "key" := by rfl) (hv1 : i1 ∈ ws := by decide) (hv2 : i2 ∈ ws := by decide) (hΓ1 : Γ[i1]? = some (.da (rLst (rLst rEn)) fl) := by rfl) (hΓ2 : Γ[i2]? = some (.da rInt ky) := by rfl) (hs1 : sc.names.lookup ("fulls" : Str) = some .cell := by rfl) (hs2 : sc.names.lookup ("key" : Str) = some .cell := by rfl)
    (hg : x ∈ gs := by decide +kernel) (he : starEach (e1 :: [e2, .Lambda lamParams lamBody lamScope lpos]) X.env = (false, eval e1 X.env) :: starEach [e2, .Lambda lamParams lamBody lamScope lpos] X.env := by rfl)
    (hs : spliced (backTo pos (starEach (e1 :: [e2, .Lambda lamParams lamBody lamScope lpos]) X.env)) = spliced [(false, eval e1 X.env), (false, eval e2 X.env), (false, eval (.Lambda lamParams lamBody lamScope lpos) X.env)] := by rfl)
    (hpl : (backTo pos (starEach [e2, .Lambda lamParams lamBody lamScope lpos] X.env)).any (·.1) = false := by rfl) : EV Z X (.Call (.Name x p) [e1, e2, .Lambda lamParams lamBody lamScope lpos] [] pos) Γ (pd RR (R u w (fl, ky))) := by
  obtain ⟨f, fd, ps, hm, hk, hb, G0⟩ := cl.ex
  obtain ⟨d1, d2, d3⟩ := plainName_ok (B.nm.pg x hg)
  have TBX : LamX.TabB X.base X.mg c P := by rw [B.base, B.mg]; exact TB
  have hfr : ∀ y ∈ lamScope.names, y.2 = .free → X.env.scope.names.lookup y.1 = some .cell ∨ X.env.scope.names.lookup y.1 = some .free := fun y hy e => by
    have : y.1 = "fulls" ∨ y.1 = "key" := by
      have hall : (lamScope.names.all fun y => !decide (y.2 = .free) || decide (y.1 = "fulls") || decide (y.1 = "key")) = true := by decide +kernel
      have := List.all_eq_true.mp hall y hy
      simp only [Bool.or_eq_true, Bool.not_eq_true', decide_eq_true_eq, decide_eq_false_iff_not] at this
      rcases this with (z | z) | z
      · exact absurd e z
      · exact .inl z
      · exact .inr z
    rw [B.eSc]
    rcases this with z | z
    · rw [z]; exact .inl hs1
    · rw [z]; exact .inl hs2
  intro pins s σ F G H Wr fts Q I o S q
  refine wpAny_Call_Name_kw (ld_glob I (B.gx hg) (by rw [B.mg]; exact hm) ?_ d1)
  refine PySem.W.callWith_K (h₀ := X.base) I.ok.mod.kin (by rw [B.K]; exact hk) ?_ he hpl
  rw [hs]
  refine Calls.spliced_cons (thn (a.pe.run pins s σ H (fun v H1 => ∃ F1, Grow Z.T nowhere F H F1 H1 ∧ (pd A1 u).p F1 H1 v) I ⟨F, G, Wr, fts, o, S, fun v F1 H1 g1 p1 => ⟨F1, g1, p1⟩⟩) fun u1 s1 ⟨v1, H1, I1, r1, F1, g1, p1⟩ => ?_)
  refine Calls.spliced_cons (thn (b.pe.run pins s1 σ H1 (fun v H2 => ∃ F2, Grow Z.T nowhere F1 H1 F2 H2 ∧ (pd A2 w).p F2 H2 v) I1 ⟨F1, G, Wr, fts, g1.ok, S.grow g1, fun v F2 H2 g2 p2 => ⟨F2, g2, p2⟩⟩) fun u2 s2 ⟨v2, H2, I2, r2, F2, g2, p2⟩ => ?_)
  have hfree : ∀ y ∈ lamScope.names, y.2 = .free → ∃ c, X.env.cells.lookup y.1 = some c := fun y hy e => (hfr y hy e).elim (fun z => I.ok.has _ (.inl z)) fun z => I.ok.has _ (.inr z)
  refine Calls.spliced_cons (lam_make3 I2 g2.ok TBX hcode hT (by rw [hqual]; rfl) lam_def hfree fun fo c' pm ctv F3 H3 s3 I3 g3 hco hfo nfo lfo nfr => ?_)
  refine Calls.spliced_nil ⟨I3.kIn, ?_⟩
  -- the cells
  have S3 : Sat Wr F3 G H3 Γ σ fts := ((S.grow g1).grow g2).grow g3
  have cp : NdefX.Caps X (cloFrom X.env.cells lamScope.names []) ["fulls", "key"] [i1, i2] := NdefX.Caps.made I3.ok hfr (by decide +kernel) (by rw [B.eN]; simp [hn1, hn2])
  have C := NdefX.cells_of I3 cp
  obtain ⟨w1, ew1, rw1⟩ := S3.da hΓ1
  obtain ⟨w2, ew2, rw2⟩ := S3.da hΓ2
  obtain rfl : w2 = V.int ky := rw2
  obtain ⟨cf, lcf, hcf⟩ := C.has 0 "fulls" rfl
  obtain ⟨ck, lck, hck⟩ := C.has 1 "key" rfl
  obtain ⟨uf, ruf, ocf, hocf, docf⟩ := hcf w1 (by show some (NdefX.slotAt σ i1) = _; rw [NdefX.slotAt_of ew1])
  obtain ⟨uk, ruk, ock, hock, dock⟩ := hck (V.int ky) (by show some (NdefX.slotAt σ i2) = _; rw [NdefX.slotAt_of ew2])
  obtain ⟨lf, hlf⟩ : ∃ lf, w1 = .ref lf := by obtain ⟨lf, _, e, _⟩ := rw1; exact ⟨lf, e⟩
  subst hlf
  obtain rfl : uf = Value.ref lf := ruf
  obtain ⟨tk, rfl⟩ := ruk
  have ncf : H3 cf = none := (C.all _ _ lcf).1
  have nck : H3 ck = none := (C.all _ _ lck).1
  have hne : cf ≠ ck := fun z => by
    have := C.inj _ _ _ lcf (z ▸ lck)
    exact absurd this (by decide +kernel)
  have only : ∀ y c, (cloFrom X.env.cells lamScope.names []).lookup y = some c → (y = "fulls" ∧ c = cf) ∨ (y = "key" ∧ c = ck) := fun y c hc => by
    rcases cloFrom_mem (PySem.mem_of_lookup hc) with hm | ⟨h1, _⟩
    · cases hm
    · have hall : (lamScope.names.all fun y => !decide (y.2 = .free) || decide (y.1 = "fulls") || decide (y.1 = "key")) = true := by decide +kernel
      have := List.all_eq_true.mp hall _ h1
      simp only [Bool.or_eq_true, Bool.not_eq_true', decide_eq_true_eq, decide_eq_false_iff_not] at this
      rcases this with (z | z) | z
      · exact absurd trivial z
      · subst z; rw [lcf] at hc; exact .inl ⟨rfl, (Option.some.inj hc).symm⟩
      · subst z; rw [lck] at hc; exact .inr ⟨rfl, (Option.some.inj hc).symm⟩
  have nfo1 : fo ≠ cf := fun z => by
    rw [z, hocf] at hfo
    have := congrArg Obj.data (Option.some.inj hfo)
    rw [docf] at this; cases this
  have nfo2 : fo ≠ ck := fun z => by
    rw [z, hock] at hfo
    have := congrArg Obj.data (Option.some.inj hfo)
    rw [dock] at this; cases this
  let of := PySem.W.kla_obj "<lambda>" lamQ lamParams lamBody lamScope (cloFrom X.env.cells lamScope.names []) pm c' ctv
  let d : Dm := fun b => if b = fo then some of else if b = cf then some ocf else if b = ck then some ock else none
  have dfo : d fo = some of := if_pos rfl
  have dcf : d cf = some ocf := by
    show (if cf = fo then some of else if cf = cf then some ocf else if cf = ck then some ock else none) = _
    rw [if_neg (Ne.symm nfo1), if_pos rfl]
  have dck : d ck = some ock := by
    show (if ck = fo then some of else if ck = cf then some ocf else if ck = ck then some ock else none) = _
    rw [if_neg (Ne.symm nfo2), if_neg (Ne.symm hne), if_pos rfl]
  have dcase : ∀ b z, d b = some z → (b = fo ∧ z = of) ∨ (b = cf ∧ z = ocf) ∨ (b = ck ∧ z = ock) := fun b z hz => by
    have hz : (if b = fo then some of else if b = cf then some ocf else if b = ck then some ock else none) = some z := hz
    by_cases q1 : b = fo
    · rw [if_pos q1] at hz; exact .inl ⟨q1, (Option.some.inj hz).symm⟩
    · rw [if_neg q1] at hz
      by_cases q2 : b = cf
      · rw [if_pos q2] at hz; exact .inr (.inl ⟨q2, (Option.some.inj hz).symm⟩)
      · rw [if_neg q2] at hz
        by_cases q3 : b = ck
        · rw [if_pos q3] at hz; exact .inr (.inr ⟨q3, (Option.some.inj hz).symm⟩)
        · rw [if_neg q3] at hz; cases hz
  have hd : ∀ b z, d b = some z → H3 b = none ∧ s3.heap.get? b = some z := fun b z hz => by
    rcases dcase b z hz with ⟨e, e'⟩ | ⟨e, e'⟩ | ⟨e, e'⟩
    · rw [e, e']; exact ⟨nfo, hfo⟩
    · rw [e, e']; exact ⟨ncf, hocf⟩
    · rw [e, e']; exact ⟨nck, hock⟩
  have hdn : ∀ b z, d b = some z → H3 b = none := fun b z hz => (hd b z hz).1
  have fcell : ∀ (y : Str) (c : Addr) (i : Nat), N[i]? = some y → i ∈ ws → sc.names.lookup y = some .cell → X.env.cells.lookup y = some c → X.s_0.heap.objs.size ≤ c := fun y c i hi hw hsc hc => by
    refine I3.ok.cab y c ?_ hc
    rcases B.st i hw y hi with z | z
    · exact z
    · rw [hsc] at z; cases z
  have gcf : X.s_0.heap.objs.size ≤ cf := fcell _ _ i1 hn1 hv1 hs1 (cp.sub _ _ lcf)
  have gck : X.s_0.heap.objs.size ≤ ck := fcell _ _ i2 hn2 hv2 hs2 (cp.sub _ _ lck)
  have gfo : X.s_0.heap.objs.size ≤ fo := Nat.le_trans I2.sz lfo
  have dge : ∀ b z, d b = some z → X.s_0.heap.objs.size ≤ b := fun b z hz => by
    rcases dcase b z hz with ⟨e, _⟩ | ⟨e, _⟩ | ⟨e, _⟩ <;> rw [e] <;> assumption
  have dbase : ∀ b z, X.base.get? b = some z → d b = none := fun b z hz => by
    cases y : d b with
    | none => rfl
    | some z2 => exact absurd (Nat.lt_of_lt_of_le (Heap.lt_size hz) (Nat.le_trans I3.ok.bsz (dge b z2 y))) (Nat.lt_irrefl _)
  have dfrs : ∀ b ∈ frs X.stack, d b = none := fun b hb => by
    cases y : d b with
    | none => rfl
    | some z2 =>
      rcases List.mem_cons.mp (I3.stkSub b hb) with e | e
      · rcases dcase b z2 y with ⟨e', _⟩ | ⟨e', _⟩ | ⟨e', _⟩
        · rw [← e'] at nfr; exact absurd hb nfr
        · exact absurd (e'.symm.trans e) (I3.cne _ _ (cp.sub _ _ lcf))
        · exact absurd (e'.symm.trans e) (I3.cne _ _ (cp.sub _ _ lck))
      · obtain ⟨_, o2, ho2, _⟩ := I3.ok.funs.mem e
        exact absurd (Nat.lt_of_lt_of_le (Heap.lt_size ho2) (dge b z2 y)) (Nat.lt_irrefl _)
  have e0 : Env0 X.prog X.w X.K X.mg X.base X.A X.stack s3 (addK H3 d) := env0_addK I3.env0 hd dbase dfrs
  rw [B.prog, B.w, B.K, B.mg, B.base] at e0
  have o3 : Ok Z.T (addK F3 d) (addK H3 d) := ok_addK g3.ok hdn
  have sF : Same F3 (addK F3 d) := fun b z hz => by
    rw [addK_out]
    · exact hz
    · cases y : d b with
      | none => rfl
      | some z2 =>
        have := hdn b z2 y
        rw [g3.ok.sub b z hz] at this; cases this
  have LV : LamV (fl, ky) (addK F3 d) fo of pm ctv c' cf ck lf ocf ock (cloFrom X.env.cells lamScope.names []) tk :=
    ⟨rfl, addK_in dfo, sF _ _ hco, lcf, lck, only, hne, addK_in dcf, docf, (rLst (rLst rEn)).mono sF rw1, addK_in dck, dock⟩
  have gg : Grow Z.T nowhere F H F3 H3 := (g1.step g2).step g3
  have pA1 : (pd A1 u).p (addK F3 d) (addK H3 d) v1 := A1.mono sF (A1.mono g3.ef (A1.mono g2.ef p1))
  have pA2 : (pd A2 w).p (addK F3 d) (addK H3 d) v2 := A2.mono sF (A2.mono g3.ef p2)
  have r3 : Vals [v1, v2, .ref fo] [u1, u2, .ref fo] := .cons r1 (.cons r2 (.cons rfl .nil))
  have hlen := G0.len [v1, v2, .ref fo] (addK H3 d) (fun v H' => ∃ F', Grow Z.T nowhere (addK F3 d) (addK H3 d) F' H' ∧ RR.rel (R u w (fl, ky)) F' v) E0 ⟨u, w, (fl, ky), addK F3 d, o3, ⟨pA1, pA2, ⟨fo, of, pm, ctv, c', cf, ck, lf, ocf, ock, _, tk, rfl, LV⟩, trivial⟩, h, fun v F' H' g p => ⟨F', g, p⟩⟩
  have bnd := hb s3 [u1, u2, .ref fo] (by have := I3.kIn; rw [B.K] at this; exact this) (by rw [List.append_nil]; exact hlen)
  rw [List.append_nil] at bnd
  have run := G0.run X.A X.stack s3 (addK H3 d) ⟨[u1, u2, .ref fo], []⟩ [u1, u2, .ref fo] [v1, v2, .ref fo] (fun v H' => ∃ F', Grow Z.T nowhere (addK F3 d) (addK H3 d) F' H' ∧ RR.rel (R u w (fl, ky)) F' v) E0 (B.room.mono hj) e0 bnd r3
    ⟨u, w, (fl, ky), addK F3 d, o3, ⟨pA1, pA2, ⟨fo, of, pm, ctv, c', cf, ck, lf, ocf, ock, _, tk, rfl, LV⟩, trivial⟩, h, fun v F' H' g p => ⟨F', g, p⟩⟩
  rw [← B.prog, ← B.w] at run
  refine wpAny_call (codeAny_mono run fun rr s' hq => ?_)
  cases rr with
  | error e => exact False.elim hq
  | ok fl' =>
    cases fl' with
    | ret u' =>
      refine I3.after (ce_drop hd hq fun v H' ⟨F', g, rl⟩ kn => ?_)
      have knF : ∀ b z, d b = some z → F' b = some (Kn z b) := fun b z hz => g.ef b _ (addK_in hz)
      exact q v _ _ (gg.step (grow_drop g3.ok hdn g kn)) (nf.rem knF rl)
    | next => exact False.elim hq
    | brk => exact False.elim hq
    | cont => exact False.elim hq
end
/-! ## the def that makes it -/
structure DfL (Z : Zx) (x : Str) (st : Stmt) (c : Addr) : Prop where
  ex : ∃ (f : Addr) (fd : FuncData), Z.mg x = some (.ref f) ∧ FunD Z.K x x (defArgs st) (defBody st) (defScope st) [] [] f fd ∧ fd.code = .ref c
section
variable {Z : Zx} {x : Str} {st : Stmt} {k : Nat} {α β γ : Type} {vs : List Nat}
theorem cal3L (N : List Str) (vs : List Nat) (gs : List Str) (n : Nat) {a b c0 : Str} {c : Addr} {A : Rp α} {A2 : Rp β} {A3 : Rp γ} {pre : α → β → γ → Prop} {R : α → β → γ → Pv} (d : DfL Z x st c) (hb : BindOk x x st [a, b, c0])
    (body : ∀ X, Bd Z X N (defScope st) vs vs gs k → X.env.code = .ref c → X.env.qual = x ++ ".<locals>." → ∀ u w z, pre u w z → DOs Z X (defBody st) (.da A u :: .da A2 w :: .da A3 z :: uns n) (dR (R u w z)))
    (cc : dfB N [a, b, c0] (defScope st) vs gs = true := by decide +kernel) (hn : N.length = 3 + n := by rfl) : Cal Z x (k + 1) (sp3 Z.T (pd A) (pd A2) (pd A3) pre R) := by
  obtain ⟨S, nm⟩ := dfB_ok cc
  obtain ⟨f, fd, hm, FD, hcode⟩ := d.ex
  obtain ⟨oc, od, dV, kV, doc, pm, an, cdv, ct, osl, rfl, lk, hcd, hdf, hkw⟩ := FD.ex
  refine ⟨f, _, [a, b, c0], hm, FD.kp, FD.bindsN hb, fn_of lk hcd S (fun us H Q E ⟨u, w, z, F, o, p, h, r⟩ => p.len) fun A' outer s H us Q E hr ⟨u, w, z, F, o, p, h, ret⟩ => ?_⟩
  have hcode : cdv = .ref c := hcode
  subst hcode
  have B : Bd Z (cxOf CX0 Z.P Z.w Z.K Z.mg Z.base N x (defScope st) f (.ref c) A' outer s H E).nox N (defScope st) vs vs gs k :=
    { nm := nm, prog := rfl, w := rfl, K := rfl, mg := rfl, base := rfl, eN := rfl, eSc := rfl, calm := rfl, room := hr, st := fun _ _ _ _ => .inl rfl, po := PassesOwn.never }
  match us, p with
  | [v, v2, v3], ⟨p, p2, p3, _⟩ =>
    have Sa : Sat nowhere F H H (.da A u :: .da A2 w :: .da A3 z :: uns n) (L2.start N [v, v2, v3]) (fun _ => []) := entry_sat (Δ := [.da A u, .da A2 w, .da A3 z]) hn rfl fun i s e => by
      match i, e with
      | 0, e => cases e; exact ⟨v, rfl, rfl, v, rfl, p⟩
      | 1, e => cases e; exact ⟨v2, rfl, rfl, v2, rfl, p2⟩
      | 2, e => cases e; exact ⟨v3, rfl, rfl, v3, rfl, p3⟩
      | i + 3, e => simp at e
    refine ⟨_, PSs.nox (pss_ds (Z := Z)), F, H, F, nowhere, fun _ => [], _, _, Grow.refl o, Sa, takes_no (fun _ _ z => z), dR_ok (body _ B rfl rfl u w z h), ⟨?_, ?_, ?_, ?_⟩⟩
    · rintro σ' H' ⟨F', Γ', fts', g, _, q⟩
      exact ret _ F' H' g (q F' H')
    · rintro v H' ⟨F', Γ', σ', fts', P, g, _, p, q⟩
      exact ret v F' H' g (q _ F' H' v g.ok p)
    · rintro σ' H' ⟨F', Γ', fts', g, _, q⟩
      exact q
    · rintro σ' H' ⟨F', Γ', fts', g, _, q⟩
      exact q
end
end BF
set_option maxHeartbeats 4000000
namespace BF
open PySem PySem.Spec PyProof.Rows L2
def ownsM (es : List En) (k : Int) : List Int := (List.range (es.length + 1)).map fun i => (((es.take i).filter fun e => decide (e.2 = k)).length : Int)
def bhS (es : List En) (f : En → Option Int) (p : Int × Bool) : En → Option Int := if p.2 = true then (fun m => if m = es.getD p.1.toNat (0, 0) then some (p.1 + 1) else f m) else f
def behindM (es : List En) : En → Option Int := (enumI (marksM es)).foldl (bhS es) (fun _ => none)
def stM (f : En → Option Int) (es : List En) (i : Nat) : Int := (es.take i).foldl (fun a e => (f e).getD a) 0
def startsM (es : List En) (f : En → Option Int) : List Int := (List.range (es.length + 1)).map (stM f es)
abbrev Br := Int × List Int × List (Int × List Int)
def brM (fulls : List (List En)) (t : Tr) (k : Int) : Br := ((fulls.getD k.toNat []).length, ownsM (fulls.getD k.toNat []) k, (kidsM t k).map fun c => (c, startsM (fulls.getD k.toNat []) (behindM (fulls.getD c.toNat []))))
def bridgesM (t : Tr) (fulls : List (List En)) : List Br := (rg 0 t.length).map (brM fulls t)
/-- values told of entries -/
theorem bh_fold (es : List En) (n : Nat) : ∀ (ps : List (Int × Bool)) (f : En → Option Int), (∀ p ∈ ps, 0 ≤ p.1 ∧ p.1 < n) → (∀ e v, f e = some v → 0 ≤ v ∧ v ≤ n) → ∀ e v, ps.foldl (bhS es) f e = some v → 0 ≤ v ∧ v ≤ n
  | [], f, _, h, e, v, hv => h e v hv
  | p :: ps, f, hp, h, e, v, hv => by
    refine bh_fold es n ps _ (fun q hq => hp q (List.mem_cons_of_mem _ hq)) (fun e v hv => ?_) e v hv
    have := hp p List.mem_cons_self
    unfold bhS at hv
    split at hv
    · have hv : (if e = es.getD p.1.toNat (0, 0) then some (p.1 + 1) else f e) = some v := hv
      split at hv
      · cases hv; omega
      · exact h e v hv
    · exact h e v hv
theorem behind_b {es : List En} {e : En} {v : Int} (h : behindM es e = some v) : 0 ≤ v ∧ v ≤ es.length := by
  refine bh_fold es es.length _ _ (fun p hp => ?_) (fun e v hv => by cases hv) e v h
  obtain ⟨i, hi⟩ := List.mem_iff_getElem?.mp hp
  obtain ⟨e1, e2⟩ := enumI_at hi
  have := (List.getElem?_eq_some_iff.mp e2).1
  rw [marksM_len] at this
  omega
theorem stM_b {f : En → Option Int} {n : Nat} (hf : ∀ e v, f e = some v → 0 ≤ v ∧ v ≤ n) (es : List En) (i : Nat) : 0 ≤ stM f es i ∧ stM f es i ≤ n := by
  have : ∀ (xs : List En) (a : Int), 0 ≤ a ∧ a ≤ n → 0 ≤ xs.foldl (fun a e => (f e).getD a) a ∧ xs.foldl (fun a e => (f e).getD a) a ≤ n := fun xs => by
    induction xs with
    | nil => intro a h; exact h
    | cons x xs ih =>
      intro a h
      rw [List.foldl_cons]
      refine ih _ ?_
      cases q : f x with
      | none => exact h
      | some v => exact hf x v q
  exact this _ 0 (by omega)
/-! ### the search -/
def blw (x : Lx) (k a : Int) : Bool := decide (((x.1.getD k.toNat []).getD a.toNat (0, 0)).1 < x.2)
def fpF (p : Int → Bool) : Nat → Int → Int → Int
  | 0, lo, _ => lo
  | n + 1, lo, hi => if lo < hi then (if p ((lo + hi) / 2) = true then fpF p n ((lo + hi) / 2 + 1) hi else fpF p n lo ((lo + hi) / 2)) else lo
def fpM (p : Int → Bool) (len : Int) : Int := fpF p (len.toNat + 1) 0 len
theorem fpF_b {p : Int → Bool} : ∀ n lo hi, lo ≤ hi → lo ≤ fpF p n lo hi ∧ fpF p n lo hi ≤ hi
  | 0, lo, hi, h => by simp [fpF]; omega
  | n + 1, lo, hi, h => by
    unfold fpF
    split
    · split
      · have := fpF_b (p := p) n ((lo + hi) / 2 + 1) hi (by omega); omega
      · have := fpF_b (p := p) n lo ((lo + hi) / 2) (by omega); omega
    · omega
def npF (p : Int → Bool) (lim : Int) : Nat → Int → Int
  | 0, a => a
  | n + 1, a => if a < lim ∧ p a = true then npF p lim n (a + 1) else a
def npM (p : Int → Bool) (len start : Int) : Int := npF p (min len (start + 2)) 3 start
theorem npF_b {p : Int → Bool} {lim : Int} : ∀ n a, a ≤ npF p lim n a ∧ npF p lim n a ≤ max a lim
  | 0, a => by simp [npF]; omega
  | n + 1, a => by
    unfold npF
    split
    · have := npF_b (p := p) (lim := lim) n (a + 1); omega
    · omega
def siM (js : List (Int × List Int)) (c place : Int) : Int := match js.find? (fun j => decide (j.1 = c)) with
  | some j => j.2.getD place.toNat 0
  | none => 0
def bsAt (bs : List Br) (k : Int) : Br := bs.getD k.toNat (0, [], [])
def plM (bs : List Br) (w : List Int) (x : Lx) : Nat → Int
  | 0 => fpM (blw x (w.getD 0 0)) (bsAt bs (w.getD 0 0)).1
  | i + 1 => npM (blw x (w.getD (i + 1) 0)) (bsAt bs (w.getD (i + 1) 0)).1 (siM (bsAt bs (w.getD i 0)).2.2 (w.getD (i + 1) 0) (plM bs w x i))
def spM (bs : List Br) (w : List Int) (x : Lx) (i : Nat) : Int × Int := (plM bs w x i, (bsAt bs (w.getD i 0)).2.1.getD (plM bs w x i).toNat 0)
def searchM (bs : List Br) (w : List Int) (x : Lx) : List (Int × Int) := (List.range w.length).map (spM bs w x)
structure SrOk (bs : List Br) (w : List Int) (x : Lx) : Prop where
  kn : ∀ i, i < w.length → 0 ≤ w.getD i 0 ∧ (w.getD i 0).toNat < bs.length ∧ (w.getD i 0).toNat < x.1.length
  ln : ∀ i, i < w.length → (bsAt bs (w.getD i 0)).1 = ((x.1.getD (w.getD i 0).toNat []).length : Int)
  sz : ∀ i, i < w.length → (x.1.getD (w.getD i 0).toNat []).length ≤ 100000
  ow : ∀ i, i < w.length → (bsAt bs (w.getD i 0)).2.1.length = (x.1.getD (w.getD i 0).toNat []).length + 1
  st : ∀ i, i + 1 < w.length → ∀ j ∈ (bsAt bs (w.getD i 0)).2.2, j.1 = w.getD (i + 1) 0 → j.2.length = (x.1.getD (w.getD i 0).toNat []).length + 1 ∧ ∀ v ∈ j.2, 0 ≤ v ∧ v ≤ (x.1.getD (w.getD (i + 1) 0).toNat []).length
  wz : w.length ≤ 100000
theorem siM_b {js : List (Int × List Int)} {c place : Int} {n m : Nat} (h : ∀ j ∈ js, j.1 = c → j.2.length = m + 1 ∧ ∀ v ∈ j.2, 0 ≤ v ∧ v ≤ n) (h0 : 0 ≤ place) (hp : place ≤ m) : 0 ≤ siM js c place ∧ siM js c place ≤ n := by
  unfold siM
  cases q : js.find? (fun j => decide (j.1 = c)) with
  | none => simp only []; omega
  | some j =>
    have hm := List.mem_of_find?_eq_some q
    have hc : j.1 = c := by have := List.find?_some q; exact of_decide_eq_true this
    obtain ⟨l, hv⟩ := h j hm hc
    exact hv _ (by show j.2.getD place.toNat 0 ∈ j.2; rw [List.getD_eq_getElem?_getD, List.getElem?_eq_getElem (show place.toNat < j.2.length by omega)]; exact List.getElem_mem _)
theorem pl_b {bs : List Br} {w : List Int} {x : Lx} (h : SrOk bs w x) : ∀ i, i < w.length → 0 ≤ plM bs w x i ∧ plM bs w x i ≤ (x.1.getD (w.getD i 0).toNat []).length
  | 0, hi => by
    have l := h.ln 0 hi
    unfold plM fpM
    rw [l]
    have := fpF_b (p := blw x (w.getD 0 0)) (((x.1.getD (w.getD 0 0).toNat []).length : Int).toNat + 1) 0 ((x.1.getD (w.getD 0 0).toNat []).length : Int) (by omega)
    omega
  | i + 1, hi => by
    have l := h.ln (i + 1) hi
    have ih := pl_b h i (by omega)
    have s := siM_b (c := w.getD (i + 1) 0) (h.st i hi) ih.1 ih.2
    unfold plM npM
    rw [l]
    have := npF_b (p := blw x (w.getD (i + 1) 0)) (lim := min ((x.1.getD (w.getD (i + 1) 0).toNat []).length : Int) (siM (bsAt bs (w.getD i 0)).2.2 (w.getD (i + 1) 0) (plM bs w x i) + 2)) 3 (siM (bsAt bs (w.getD i 0)).2.2 (w.getD (i + 1) 0) (plM bs w x i))
    omega
theorem fulls_getD {st : Sd} {k : Int} (h0 : 0 ≤ k) (h : k < st.1.length) : (full_rowsM st).getD k.toNat [] = fullM st k := getD_at (full_rows_at st h0 h)
theorem bridges_at {t : Tr} {fulls : List (List En)} {k : Int} (h0 : 0 ≤ k) (h : k < t.length) : bsAt (bridgesM t fulls) k = brM fulls t k := by
  unfold bsAt bridgesM
  refine getD_at ?_
  rw [List.getElem?_map]
  have : (rg 0 (t.length : Int))[k.toNat]? = some k := by
    unfold rg
    rw [List.getElem?_map, List.getElem?_range (by omega)]
    show some (0 + (k.toNat : Int)) = some k
    congr 1
    omega
  rw [this]; rfl
theorem bridges_len (t : Tr) (fulls : List (List En)) : (bridgesM t fulls).length = t.length := by unfold bridgesM; rw [List.length_map, rg_len0]
theorem sr_ok {st : Sd} (h : FrOk st) {w : List Int} (hw : WayOk st.1 w) (key : Int) : SrOk (bridgesM st.1 (full_rowsM st)) w (full_rowsM st, key) := by
  refine ⟨fun i hi => ?_, fun i hi => ?_, fun i hi => ?_, fun i hi => ?_, fun i hi => ?_, Nat.le_trans hw.sz (by decide)⟩
  · have := hw.kn i hi
    rw [bridges_len, full_rows_len]
    omega
  · have := hw.kn i hi
    rw [bridges_at this.1 this.2]; rfl
  · have := hw.kn i hi
    show ((full_rowsM st).getD _ []).length ≤ _
    rw [fulls_getD this.1 this.2]
    exact (h.en _ this.1 this.2).sz
  · have := hw.kn i hi
    rw [bridges_at this.1 this.2]
    show (ownsM _ _).length = _
    unfold ownsM
    simp
  · intro j hj e
    have a := hw.kn i (by omega)
    have b := hw.kn (i + 1) hi
    rw [bridges_at a.1 a.2] at hj
    obtain ⟨c, hc, rfl⟩ := List.mem_map.mp (show j ∈ (kidsM st.1 (w.getD i 0)).map _ from hj)
    simp only at e
    subst e
    refine ⟨by simp [startsM], fun v hv => ?_⟩
    obtain ⟨q, hq, rfl⟩ := List.mem_map.mp hv
    have := stM_b (f := behindM ((full_rowsM st).getD (w.getD (i + 1) 0).toNat [])) (n := ((full_rowsM st).getD (w.getD (i + 1) 0).toNat []).length) (fun e v h => behind_b h) ((full_rowsM st).getD (w.getD i 0).toNat []) q
    exact this
/-! ### the asks -/
def placesM (st : Sd) (w : List Int) (key : Int) : List Int := (searchM (bridgesM st.1 (full_rowsM st)) w (full_rowsM st, key)).map (·.2)
def rowM (st : Sd) (k : Int) : List Int := st.2.getD k.toNat []
def parts_fromM (st : Sd) (w : List Int) (key : Int) : List (List Int) := (w.zip (placesM st w key)).map fun p => cut (rowM st p.1) (some p.2) none
def who_hasM (st : Sd) (w : List Int) (key : Int) : List Int := ((w.zip (parts_fromM st w key)).filter fun p => decide (cut p.2 none (some 1) = [key])).map (·.1)
def stretchM (st : Sd) (w : List Int) (low high : Int) : List (List Int) := (w.zip ((placesM st w low).zip (placesM st w high))).map fun p => cut (rowM st p.1) (some p.2.1) (some p.2.2)
theorem places_len (st : Sd) (w : List Int) (key : Int) : (placesM st w key).length = w.length := by simp [placesM, searchM]
end BF
set_option maxHeartbeats 4000000
namespace BF
open PySem PySem.Spec PyProof.Rows L2
abbrev rBr : Rp Br := rT3 rInt (rLst rInt) (rLst (rT2 rInt (rLst rInt)))
theorem range_step {α : Type} (f : Nat → α) (i : Nat) : (List.range (i + 1)).map f = (List.range i).map f ++ [f i] := by rw [List.range_succ, List.map_append]; rfl
theorem last_range {α : Type} (f : Nat → α) (i : Nat) : ((List.range (i + 1)).map f).getLast? = some (f i) := by rw [range_step]; simp
section
variable {Z : Zx}
theorem c_owns_of (E : Top Z) (D : Ds Z) : Cal Z "owns_of" 1 (sp2 Z.T (pd (rLst rEn)) (pd rInt) (fun entries knot => entries.length ≤ 100000) (fun entries knot => pd (rLst rInt) (ownsM entries knot))) :=
  cal2 ["entries", "knot", "found", "entry"] [0, 1, 2, 3] ["int"] 2 D.owns_of (fun _ _ _ _ _ _ us hl => match us, hl with | [_, _], _ => rfl) fun X B entries knot hp => by
    refine dos_cons (do_setN B 2 (en_list (.cons ev_int .nil)) ?_)
    refine dos_cons (do_for B (gi_l (ev_var B 0)) (ga_name B 3) (fun i Γ => i ≤ entries.length ∧ Γ = [.da (rLst rEn) entries, .da rInt knot, .mu (mLst rInt) ((List.range (i + 1)).map fun i => (((entries.take i).filter fun e => decide (e.2 = knot)).length : Int)), .un]) ⟨Nat.zero_le _, rfl⟩ (fun i x Γ' hx hI => ?_) (fun Γ' hI => ?_))
    · obtain ⟨hi, rfl⟩ := hI
      have hi' := (List.getElem?_eq_some_iff.mp hx).1
      refine dos_cons (do_app B 2 (ev_bin (ev_last (ev_own B 2) (ev_neg ev_int) (last_range _ i)) (ev_intB B E (ev_cmp (ev_snd (ev_var B 3)) (ev_var B 1) (od_eq sc_int))) od_add) ?_ ?_)
      · exact sz_lt (by simp; omega)
      refine dos_un 3 (dos_nil ⟨hi', ?_⟩)
      rw [range_step _ (i + 1)]
      have : (((entries.take (i + 1)).filter fun e => decide (e.2 = knot)).length : Int) = (((entries.take i).filter fun e => decide (e.2 = knot)).length : Int) + (if decide (x.2 = knot) = true then 1 else 0) := by
        rw [List.take_succ, hx, List.filter_append]
        by_cases q : x.2 = knot
        · simp [q]
        · simp [q]
      rw [this]
      rfl
    obtain ⟨hi, rfl⟩ := hI
    refine dos_fzL 2 ?_
    exact dos_one (do_ret (ev_var B 2) (rt_eq rfl))
theorem c_behind_of (E : Top Z) (D : Ds Z) : Cal Z "behind_of" 5 (sp1 Z.T (pd (rLst rEn)) EnOk (fun entries => pd rDT (behindM entries))) :=
  cal1 ["entries", "found", "at", "mark"] [0, 1, 2, 3] ["enumerate", "marks"] 3 D.behind_of (fun _ _ _ _ _ _ us hl => match us, hl with | [_], _ => rfl) fun X B entries hp => by
    have hz := hp.sz
    refine dos_cons (do_setN B 1 (en_dT B) ?_)
    refine dos_cons (do_for B (gi_enum B E (ev_call1 B (c_marks E D) (ev_var B 0) hp)) (ga_t2 B (ga_name B 2) (ga_name B 3)) (fun i Γ => ∃ n, n ≤ i ∧ Γ = [.da (rLst rEn) entries, .mu mDT (n, ((enumI (marksM entries)).take i).foldl (bhS entries) (fun _ => none)), .un, .un]) ⟨0, Nat.le_refl _, rfl⟩ (fun i x Γ' hx hI => ?_) (fun Γ' hI => ?_))
    · obtain ⟨n, hn, rfl⟩ := hI
      obtain ⟨e1, e2⟩ := enumI_at hx
      have hi' := (List.getElem?_eq_some_iff.mp e2).1
      rw [marksM_len] at hi'
      have fe := fold_step (bhS entries) (fun _ => none) hx
      generalize hg : ((enumI (marksM entries)).take i).foldl (bhS entries) (fun _ => none) = f at fe
      refine dos_one (do_if (et_val (ev_var B 3)) (fun h1 => ?_) (fun h1 => ?_))
      · refine dos_cons (do_dputT B 1 (ev_bin (ev_var B 2) ev_int od_add) (ev_ixL ((ev_var B 0)).l (ev_var B 2) (by omega) (at_getD (0, 0) (by omega))) ?_ ?_)
        · show n ≤ _
          omega
        refine dos_un 2 (dos_un 3 (dos_nil ⟨n + 1, by omega, ?_⟩))
        rw [fe]
        unfold bhS
        rw [if_pos h1]
        rfl
      · refine dos_un 2 (dos_un 3 (dos_nil ⟨n, by omega, ?_⟩))
        rw [fe]
        unfold bhS
        rw [if_neg (by rw [h1]; decide)]
        rfl
    obtain ⟨n, hn, rfl⟩ := hI
    rw [List.take_length]
    refine dos_fzT 1 ?_
    exact dos_one (do_ret (ev_var B 1) (rt_eq rfl))
theorem c_starts_of (E : Top Z) (D : Ds Z) : Cal Z "starts_of" 1 (sp2 Z.T (pd (rLst rEn)) (pd rDT) (fun entries behind => entries.length ≤ 100000) (fun entries behind => pd (rLst rInt) (startsM entries behind))) :=
  cal2 ["entries", "behind", "found", "entry"] [0, 1, 2, 3] [] 2 D.starts_of (fun _ _ _ _ _ _ us hl => match us, hl with | [_, _], _ => rfl) fun X B entries behind hp => by
    refine dos_cons (do_setN B 2 (en_list (.cons ev_int .nil)) ?_)
    refine dos_cons (do_for B (gi_l (ev_var B 0)) (ga_name B 3) (fun i Γ => i ≤ entries.length ∧ Γ = [.da (rLst rEn) entries, .da rDT behind, .mu (mLst rInt) ((List.range (i + 1)).map (stM behind entries)), .un]) ⟨Nat.zero_le _, rfl⟩ (fun i x Γ' hx hI => ?_) (fun Γ' hI => ?_))
    · obtain ⟨hi, rfl⟩ := hI
      have hi' := (List.getElem?_eq_some_iff.mp hx).1
      refine dos_cons (do_app B 2 (ev_dgetT B (ev_var B 1) (ev_var B 3) (ev_last (ev_own B 2) (ev_neg ev_int) (last_range _ i))) ?_ ?_)
      · exact sz_lt (by simp; omega)
      refine dos_un 3 (dos_nil ⟨hi', ?_⟩)
      rw [range_step _ (i + 1)]
      have : stM behind entries (i + 1) = (behind x).getD (stM behind entries i) := fold_step (fun a e => (behind e).getD a) 0 hx
      rw [this]
      rfl
    obtain ⟨hi, rfl⟩ := hI
    refine dos_fzL 2 ?_
    exact dos_one (do_ret (ev_var B 2) (rt_eq rfl))
theorem c_bridges_of_fulls (E : Top Z) (D : Ds Z) : Cal Z "bridges_of_fulls" 6 (sp2 Z.T (pd rTr) (pd (rLst (rLst rEn))) (fun tree fulls => TreeOk tree ∧ fulls.length = tree.length ∧ ∀ es ∈ fulls, EnOk es) (fun tree fulls => pd (rLst rBr) (bridgesM tree fulls))) :=
  cal2 ["tree", "fulls", "behind", "found", "knot", "jumps", "entries", "child"] [0, 1, 2, 3, 4, 5] ["range", "len", "children", "owns_of"] 6 D.bridges_of_fulls (fun _ _ _ _ _ _ us hl => match us, hl with | [_, _], _ => rfl) fun X B tree fulls hp => by
    obtain ⟨ht, hl, hen⟩ := hp
    have hl1 := ht.l1
    have hl2 := ht.l2
    refine dos_cons (do_set B 2 (ev_lc (f := behindM) B [("entries", 6)] [6] ["behind_of"] (gi_l (ev_var B 1)) (by omega) (fun X' B' => (ga_name B' 6)) (fun X' B' x hx => (ev_call1 B' (c_behind_of E D) (ev_var B' 6) (hen x hx)))) ?_ (hs := sw_cell (by rw [B.eSc]; rfl)))
    refine dos_cons (do_new B 3 rBr ?_)
    refine dos_cons (do_for B (gi_range1 B (E.f "range") (ev_lenT B E (ev_var B 0).t) (sm62 (by omega))) (ga_name B 4) (fun i Γ => i ≤ tree.length ∧ Γ = [.da rTr tree, .da (rLst (rLst rEn)) fulls, .da (rLst rDT) (fulls.map behindM), .mu (mLst rBr) (((rg 0 tree.length).take i).map (brM fulls tree)), .un, .un, .un, .un]) ⟨Nat.zero_le _, rfl⟩ (fun i x Γ' hx hI => ?_) (fun Γ' hI => ?_))
    · obtain ⟨hi, rfl⟩ := hI
      obtain ⟨ex, hx'⟩ := rg_at hx
      have hx0 : x.toNat < fulls.length := by omega
      have hfx := at_getD [] hx0
      have hmem : fulls.getD x.toNat [] ∈ fulls := List.mem_of_getElem? hfx
      have hkl : (kidsM tree x).length ≤ 1000 := Nat.le_trans (List.length_filter_le _ _) (by rw [rg_len]; omega)
      refine dos_cons (do_setLc (f := fun (c : Int) => (c, startsM (fulls.getD x.toNat []) (behindM (fulls.getD c.toNat [])))) B 5 [("child", 7)] [1, 2, 4, 7] ["starts_of"] (gi_l (ev_call2 B (c_children E D) (ev_var B 0) (ev_var B 4) (by omega))) (by omega) (fun X' B' => (ga_name B' 7)) (fun X' B' c hc => (ev_t2 (ev_var B' 7) (ev_call2 B' (c_starts_of E D) (ev_ixL ((ev_var B' 1)).l (ev_var B' 4) (by omega) hfx) (ev_ixL ((ev_var B' 2)).l (ev_var B' 7) (by have := kids_mem.mp hc; omega) (by have := kids_mem.mp hc; rw [List.getElem?_map, at_getD [] (show c.toNat < fulls.length by omega)]; rfl)) (hen _ hmem).sz))) ?_)
      refine dos_cons (do_app B 3 (ev_t3 (ev_lenL B E ((ev_ixL ((ev_var B 1)).l (ev_var B 4) (by omega) hfx)).l) (ev_call2 B (c_owns_of E D) (ev_ixL ((ev_var B 1)).l (ev_var B 4) (by omega) hfx) (ev_var B 4) (hen _ hmem).sz) (ev_var B 5)) ?_ ?_)
      · refine sz_lt ?_
        rw [List.length_map]
        have := List.length_take_le i (rg 0 (tree.length : Int))
        omega
      refine dos_un 4 (dos_un 5 (dos_nil ⟨by omega, ?_⟩))
      rw [map_step _ hx]
      rfl
    obtain ⟨hi, rfl⟩ := hI
    rw [List.take_length]
    refine dos_fzL 3 ?_
    exact dos_one (do_ret (ev_var B 3) (rt_eq rfl))
theorem fulls_en {st : Sd} (h : FrOk st) : ∀ es ∈ full_rowsM st, EnOk es := fun es he => by
  obtain ⟨k, hk, rfl⟩ := List.mem_map.mp he
  rw [rg_mem] at hk
  exact h.en k hk.1 hk.2
theorem c_bridges (E : Top Z) (D : Ds Z) : Cal Z "bridges" 7 (sp1 Z.T (pd rSd) FrOk (fun stand => pd (rLst rBr) (bridgesM stand.1 (full_rowsM stand)))) :=
  cal1 ["stand"] [0] ["bridges_of_fulls", "full_rows"] 0 D.bridges (fun _ _ _ _ _ _ us hl => match us, hl with | [_], _ => rfl) fun X B stand hp => by
    exact dos_one (do_ret (ev_call2 B (c_bridges_of_fulls E D) (ev_fst (ev_var B 0)) (ev_call1 B (c_full_rows E D) (ev_var B 0) hp) ⟨hp.sd.tree, full_rows_len stand, fulls_en hp⟩) (rt_eq rfl))
theorem c_first_place (E : Top Z) (D : Ds Z) : Cal Z "first_place" 3 (sp3 Z.T (pd rInt) (pd rInt) (pd rLam) (fun length knot x => 0 ≤ knot ∧ knot.toNat < x.1.length ∧ length = ((x.1.getD knot.toNat []).length : Int) ∧ length ≤ 100000) (fun length knot x => pd rInt (fpM (blw x knot) length))) :=
  cal3 ["length", "knot", "is_below", "low", "high", "middle"] [0, 1, 2, 3, 4, 5] [] 3 D.first_place (fun _ _ _ _ _ _ us hl => match us, hl with | [_, _, _], _ => rfl) fun X B length knot x hp => by
    obtain ⟨k0, kl, el, lz⟩ := hp
    have hfx := at_getD [] kl
    refine dos_cons (do_set B 3 ev_int ?_)
    refine dos_cons (do_set B 4 (ev_var B 0) ?_)
    refine dos_cons (do_while B (fun m Γ => ∃ lo hi : Int, 0 ≤ lo ∧ lo ≤ hi ∧ hi ≤ length ∧ (hi - lo).toNat < m ∧ fpF (blw x knot) m lo hi = fpM (blw x knot) length ∧ Γ = [.da rInt length, .da rInt knot, .da rLam x, .da rInt lo, .da rInt hi, .un]) (length.toNat + 1) ⟨0, length, by omega, by omega, by omega, by omega, rfl, rfl⟩ (fun m Γ' hI => ?_))
    obtain ⟨lo, hi, h0, h1, h2, hm, he, rfl⟩ := hI
    obtain ⟨m, rfl⟩ : ∃ n, m = n + 1 := ⟨m - 1, by omega⟩
    refine ⟨_, (et_cmp (ev_var B 3) (ev_var B 4) od_lt), fun h => ?_, fun h => ?_⟩
    · have h := of_decide_eq_true h
      refine dos_cons (do_set B 5 (ev_bin (ev_bin (ev_var B 3) (ev_var B 4) od_add) ev_int (od_div ⟨by decide, by decide⟩)) ?_)
      have hix : ((lo + hi) / 2).toNat < (x.1.getD knot.toNat []).length := by omega
      unfold fpF at he
      rw [if_pos h] at he
      refine dos_one (do_if (et_val (ev_lam B 2 (ev_var B 1) (ev_var B 5) (ha := k0) (hb := by omega) (h1 := hfx) (h2 := at_getD (0, 0) hix))) (fun h3 => ?_) (fun h3 => ?_))
      · have h3' : blw x knot ((lo + hi) / 2) = true := h3
        rw [if_pos h3'] at he
        refine dos_cons (do_set B 3 (ev_bin (ev_var B 5) ev_int od_add) ?_)
        exact dos_un 5 (dos_nil ⟨m, by omega, _, _, by omega, by omega, by omega, by omega, he, rfl⟩)
      · have h3' : blw x knot ((lo + hi) / 2) = false := h3
        rw [if_neg (by rw [h3']; decide)] at he
        refine dos_cons (do_set B 4 (ev_var B 5) ?_)
        exact dos_un 5 (dos_nil ⟨m, by omega, _, _, by omega, by omega, by omega, by omega, he, rfl⟩)
    · have h := of_decide_eq_false h
      refine dos_one (do_ret (ev_var B 3) (rt_eq ?_))
      unfold fpF at he
      rw [if_neg h] at he
      exact he
theorem c_next_place (E : Top Z) (D : Ds Z) : Cal Z "next_place" 3 (sp4 Z.T (pd rInt) (pd rInt) (pd rInt) (pd rLam) (fun length knot start x => 0 ≤ knot ∧ knot.toNat < x.1.length ∧ length = ((x.1.getD knot.toNat []).length : Int) ∧ 0 ≤ start) (fun length knot start x => pd rInt (npM (blw x knot) length start))) :=
  cal4 ["length", "knot", "start", "is_below", "place"] [0, 1, 2, 3, 4] ["min"] 1 D.next_place (fun _ _ _ _ _ _ us hl => match us, hl with | [_, _, _, _], _ => rfl) fun X B length knot start x hp => by
    obtain ⟨k0, kl, el, s0⟩ := hp
    have hfx := at_getD [] kl
    refine dos_cons (do_set B 4 (ev_var B 2) ?_)
    refine dos_cons (do_while B (fun m Γ => ∃ a : Int, 0 ≤ a ∧ (min length (start + 2) - a).toNat < m ∧ npF (blw x knot) (min length (start + 2)) m a = npM (blw x knot) length start ∧ Γ = [.da rInt length, .da rInt knot, .da rInt start, .da rLam x, .da rInt a]) 3 ⟨start, by omega, by omega, rfl, rfl⟩ (fun m Γ' hI => ?_))
    obtain ⟨a, h0, hm, he, rfl⟩ := hI
    obtain ⟨m, rfl⟩ : ∃ n, m = n + 1 := ⟨m - 1, by omega⟩
    refine ⟨decide (a < min length (start + 2)) && blw x knot a, (et_and2 (et_cmp (ev_var B 4) (ev_min2 B E (ev_var B 0) (ev_bin (ev_var B 2) ev_int od_add)) od_lt) fun h1 => (et_val (ev_lam B 3 (ev_var B 1) (ev_var B 4) (ha := k0) (hb := h0) (h1 := hfx) (h2 := at_getD (0, 0) (by have := of_decide_eq_true h1; omega))))), fun h => ?_, fun h => ?_⟩
    · rw [Bool.and_eq_true] at h
      have h1 := of_decide_eq_true h.1
      unfold npF at he
      rw [if_pos ⟨h1, h.2⟩] at he
      refine dos_cons (do_set B 4 (ev_bin (ev_var B 4) ev_int od_add) ?_)
      exact dos_nil ⟨m, by omega, _, by omega, by omega, he, rfl⟩
    · refine dos_one (do_ret (ev_var B 4) (rt_eq ?_))
      unfold npF at he
      rw [if_neg (fun z => by rw [decide_eq_true z.1, z.2] at h; cases h)] at he
      exact he
theorem c_start_in (E : Top Z) (D : Ds Z) : Cal Z "start_in" 1 (sp3 Z.T (pd rBr) (pd rInt) (pd rInt) (fun bridge child place => 0 ≤ place ∧ ∀ j ∈ bridge.2.2, j.1 = child → place < j.2.length) (fun bridge child place => pd rInt (siM bridge.2.2 child place))) :=
  cal3 ["bridge", "child", "place", "other", "starts"] [0, 1, 2, 3, 4] [] 2 D.start_in (fun _ _ _ _ _ _ us hl => match us, hl with | [_, _, _], _ => rfl) fun X B bridge child place hp => by
    refine dos_cons (do_for B (gi_l (ev_third (ev_var B 0))) (ga_t2 B (ga_name B 3) (ga_name B 4)) (fun i Γ => (∀ j ∈ bridge.2.2.take i, j.1 ≠ child) ∧ Γ = [.da rBr bridge, .da rInt child, .da rInt place, .un, .un]) ⟨by simp, rfl⟩ (fun i x Γ' hx hI => ?_) (fun Γ' hI => ?_))
    · obtain ⟨hn, rfl⟩ := hI
      have hmem := List.mem_of_getElem? hx
      refine dos_one (do_if (et_cmp (ev_var B 3) (ev_var B 1) (od_eq sc_int)) (fun h1 => ?_) (fun h1 => ?_))
      · have h1 := of_decide_eq_true h1
        have hpl := hp.2 x hmem h1
        refine dos_one (do_ret (ev_ixL ((ev_var B 4)).l (ev_var B 2) hp.1 (at_getD 0 (by omega))) (rt_eq ?_))
        unfold siM
        have : bridge.2.2.find? (fun j => decide (j.1 = child)) = some x := by
          rw [← List.take_append_drop i bridge.2.2, List.find?_append, drop_step hx, List.find?_eq_none.mpr (fun j hj => by simpa using hn j hj)]
          simp [h1]
        rw [this]
      · have h1 := of_decide_eq_false h1
        refine dos_un 3 (dos_un 4 (dos_nil ⟨fun j hj => ?_, rfl⟩))
        rw [List.take_succ, hx, List.mem_append] at hj
        rcases hj with hj | hj
        · exact hn j hj
        · simp at hj; rw [hj]; exact h1
    obtain ⟨hn, rfl⟩ := hI
    rw [List.take_length] at hn
    refine dos_one (do_ret ev_int (rt_eq ?_))
    unfold siM
    rw [List.find?_eq_none.mpr (fun j hj => by simpa using hn j hj)]
theorem c_search (E : Top Z) (D : Ds Z) : Cal Z "search" 4 (sp3 Z.T (pd (rLst rBr)) (pd (rLst rInt)) (pd rLam) SrOk (fun bs way x => pd (rLst rEn) (searchM bs way x))) :=
  cal3 ["bridges", "way", "is_below", "found", "at", "knot", "length", "owns", "jumps", "place", "start"] [0, 1, 2, 3, 4, 5, 6, 7, 8, 9, 10] ["enumerate", "first_place", "start_in", "next_place"] 8 D.search (fun _ _ _ _ _ _ us hl => match us, hl with | [_, _, _], _ => rfl) fun X B bs way x hp => by
    have wz := hp.wz
    refine dos_cons (do_new B 3 rEn ?_)
    refine dos_cons (do_for B (gi_enum B E (ev_var B 1)) (ga_t2 B (ga_name B 4) (ga_name B 5)) (fun i Γ => i ≤ way.length ∧ Γ = [.da (rLst rBr) bs, .da (rLst rInt) way, .da rLam x, .mu (mLst rEn) ((List.range i).map (spM bs way x)), .un, .un, .un, .un, .un, .un, .un]) ⟨Nat.zero_le _, rfl⟩ (fun i y Γ' hy hI => ?_) (fun Γ' hI => ?_))
    · obtain ⟨hi, rfl⟩ := hI
      obtain ⟨e1, e2⟩ := enumI_at hy
      have hlt := (List.getElem?_eq_some_iff.mp e2).1
      have hg : way.getD i 0 = y.2 := getD_at e2
      have hk := hp.kn i hlt
      have hln := hp.ln i hlt
      have hsz := hp.sz i hlt
      have how := hp.ow i hlt
      have hpb := pl_b hp i hlt
      rw [hg] at hk hln hsz how hpb
      have hbr : bs[y.2.toNat]? = some (bsAt bs y.2) := at_getD _ hk.2.1
      refine dos_cons (do_asg (ev_ixL ((ev_var B 0)).l (ev_var B 5) hk.1 hbr) (ga_t3 B (ga_name B 6) (ga_name B 7) (ga_name B 8)) ?_)
      refine dos_mid [.da (rLst rBr) bs, .da (rLst rInt) way, .da rLam x, .mu (mLst rEn) ((List.range i).map (spM bs way x)), .da rInt y.1, .da rInt y.2, .da rInt (bsAt bs y.2).1, .da (rLst rInt) (bsAt bs y.2).2.1, .da (rLst (rT2 rInt (rLst rInt))) (bsAt bs y.2).2.2, .da rInt (plM bs way x i), .un] ?_ ?_
      · refine do_if (et_cmp (ev_var B 4) ev_int (od_eq sc_int)) (fun h1 => ?_) (fun h1 => ?_)
        · have h1 := of_decide_eq_true h1
          have i0 : i = 0 := by omega
          subst i0
          refine dos_cons (do_set B 9 (ev_call3 B (c_first_place E D) (ev_var B 6) (ev_var B 5) (ev_var B 2) ⟨hk.1, hk.2.2, hln, by omega⟩) ?_)
          refine dos_nil ?_
          have : plM bs way x 0 = fpM (blw x y.2) (bsAt bs y.2).1 := by unfold plM; rw [hg]
          rw [this]
          rfl
        · have h1 := of_decide_eq_false h1
          obtain ⟨j, rfl⟩ : ∃ j, i = j + 1 := ⟨i - 1, by omega⟩
          have hkp := hp.kn j (by omega)
          have hpp := pl_b hp j (by omega)
          have hst := hp.st j hlt
          rw [hg] at hst
          have hwj : way[(y.1 - 1).toNat]? = some (way.getD j 0) := by rw [show (y.1 - 1).toNat = j by omega]; exact at_getD 0 (by omega)
          have hbp : bs[(way.getD j 0).toNat]? = some (bsAt bs (way.getD j 0)) := at_getD _ hkp.2.1
          refine dos_cons (do_set B 10 (ev_call3 B (c_start_in E D) (ev_ixL ((ev_var B 0)).l (ev_ixL ((ev_var B 1)).l (ev_bin (ev_var B 4) ev_int od_sub) (by omega) hwj) hkp.1 hbp) (ev_var B 5) (ev_fst (ev_last (ev_own B 3) (ev_neg ev_int) (last_range _ j))) ⟨hpp.1, fun q hq e => by
            have := (hst q hq e).1
            show plM bs way x j < _
            omega⟩) ?_)
          have hsi := siM_b (c := y.2) hst hpp.1 hpp.2
          refine dos_cons (do_set B 9 (ev_call4 B (c_next_place E D) (ev_var B 6) (ev_var B 5) (ev_var B 10) (ev_var B 2) ⟨hk.1, hk.2.2, hln, hsi.1⟩) ?_)
          refine dos_un 10 (dos_nil ?_)
          have : plM bs way x (j + 1) = npM (blw x y.2) (bsAt bs y.2).1 (siM (bsAt bs (way.getD j 0)).2.2 y.2 (plM bs way x j)) := by
            conv => lhs; unfold plM
            rw [hg]
          rw [this]
          rfl
      · have hix : (plM bs way x i).toNat < (bsAt bs y.2).2.1.length := by omega
        refine dos_cons (do_app B 3 (ev_t2 (ev_var B 9) (ev_ixL ((ev_var B 7)).l (ev_var B 9) hpb.1 (at_getD 0 hix))) ?_ ?_)
        · exact sz_lt (by simp; omega)
        refine dos_un 4 (dos_un 5 (dos_un 6 (dos_un 7 (dos_un 8 (dos_un 9 (dos_nil ⟨hlt, ?_⟩))))))
        rw [range_step]
        have : spM bs way x i = (plM bs way x i, (bsAt bs y.2).2.1.getD (plM bs way x i).toNat 0) := by unfold spM; rw [hg]
        rw [this]
        rfl
    obtain ⟨hi, rfl⟩ := hI
    refine dos_fzL 3 ?_
    refine dos_one (do_ret (ev_var B 3) (rt_eq ?_))
    rw [enumI_len]
    rfl
end
end BF
set_option maxHeartbeats 5000000
namespace BF
open L2 PySem PySem.Spec PyProof.Rows
section
variable {Z : Zx} {X : Cx} {e : Expr} {Γ : List Sl} {P : Pv} {pos : Pos} {D : Fin}
theorem do_expr (a : EV Z X e Γ P) (h : D.nx Γ) (hs : swapsWith e none pos.line X.env = pure false := by rfl) : DO Z X (.Expr e pos) Γ D :=
  DO.of (ps_expr a.pe hs) fun σ F0 G F H Wr fts g S => ⟨F, G, Wr, fts, g.ok, S, fun v F1 H1 g1 p1 => ⟨F1, Γ, fts, g.step g1, S.grow g1, h⟩⟩
end
def lessM (es gone : List En) : List En := es.filter fun e => !decide (e ∈ gone)
theorem enI_ok {xs : List Int} : ∀ x ∈ xs, (fun _ : Int => True) x := fun _ _ => trivial
theorem enE_ok {xs : List En} : ∀ x ∈ xs, (fun _ : En => True ∧ True) x := fun _ _ => ⟨trivial, trivial⟩
/-- what the makers of places ask -/
structure LamK (Z : Zx) : Prop where
  ex : ∃ c P, LamX.TabB Z.base Z.mg c P ∧ Z.T = [(P, lamQ)] ∧ DfL Z "found_places" s_found_places c
section
variable {Z : Zx}
theorem c_less (E : Top Z) (D : Ds Z) : Cal Z "less" 2 (sp2 Z.T (pd (rLst rEn)) (pd (rLst rEn)) (fun entries gone => entries.length ≤ 100000) (fun entries gone => pd (rLst rEn) (lessM entries gone))) :=
  cal2 ["entries", "gone", "entry"] [0, 1] [] 1 D.less (fun _ _ _ _ _ _ us hl => match us, hl with | [_, _], _ => rfl) fun X B entries gone hp => by
    exact dos_one (do_ret (ev_lcIf (b := fun e => !decide (e ∈ gone)) (f := fun e => e) B [("entry", 2)] [1, 2] [] (gi_l (ev_var B 0)) (by omega) (fun X' B' => (ga_name B' 2)) (fun X' B' x hx => ET.as (et_cmp (ev_var B' 2) ((ev_var B' 1)).l (od_notIn B' py_en ⟨trivial, trivial⟩ (fun _ _ => ⟨trivial, trivial⟩))) (congrArg (!·) (decide_eq_decide.mpr Iff.rfl))) (fun X' B' x hx hb => (ev_var B' 2))) (rt_eq (by rw [List.map_id']; rfl)))
theorem c_ask_way (E : Top Z) (D : Ds Z) : Cal Z "ask_way" 5 (sp2 Z.T (pd rSd) (pd (rLst rInt)) (fun stand way => WayOk stand.1 way) (fun stand way => pd rNone ())) :=
  cal2 ["stand", "way"] [0, 1] ["is_way", "NoWay"] 0 D.ask_way (fun _ _ _ _ _ _ us hl => match us, hl with | [_, _], _ => rfl) fun X B stand way hp => by
    refine dos_one (do_if (et_not (et_val (ev_call2 B (c_is_way E D) (ev_fst (ev_var B 0)) (ev_var B 1) hp))) (fun h1 => ?_) (fun h1 => ?_))
    · cases h1
    · exact dos_nil fun F H => rfl
theorem c_found_places (E : Top Z) (D : Ds Z) (K : LamK Z) : Cal Z "found_places" 8 (sp3 Z.T (pd rSd) (pd (rLst rInt)) (pd rInt) (fun stand way key => FrOk stand ∧ WayOk stand.1 way) (fun stand way key => pd (rLst rEn) (searchM (bridgesM stand.1 (full_rowsM stand)) way (full_rowsM stand, key)))) := by
  obtain ⟨c, P, TB, hT, dl⟩ := K.ex
  refine cal3L ["stand", "way", "key", "fulls"] [0, 1, 2, 3] ["ask_way", "full_rows", "search", "bridges"] 1 dl (fun _ _ _ _ _ _ us hl => match us, hl with | [_, _, _], _ => rfl) fun X B hcode hqual stand way key hp => ?_
  refine dos_cons (do_expr (ev_call2 B (c_ask_way E D) (ev_var B 0) (ev_var B 1) hp.2) ?_)
  refine dos_cons (do_set B 3 (ev_call1 B (c_full_rows E D) (ev_var B 0) hp.1) ?_)
  exact dos_one (do_ret (ev_lamcall (RR := rLst rEn) (R := fun bs w x => searchM bs w x) B TB hcode (hqual.trans (by decide +kernel)) hT 3 2 (c_search E D) (by decide) (ev_call1 B (c_bridges E D) (ev_var B 0) hp.1) (ev_var B 1) (sr_ok hp.1 hp.2 key) (nf_lst (nf_t2 nf_int nf_int))) (rt_eq rfl))
theorem c_places (E : Top Z) (D : Ds Z) (K : LamK Z) : Cal Z "places" 9 (sp3 Z.T (pd rSd) (pd (rLst rInt)) (pd rInt) (fun stand way key => FrOk stand ∧ WayOk stand.1 way) (fun stand way key => pd (rLst rInt) (placesM stand way key))) :=
  cal3 ["stand", "way", "key", "spot", "own"] [0, 1, 2] ["found_places"] 2 D.places (fun _ _ _ _ _ _ us hl => match us, hl with | [_, _, _], _ => rfl) fun X B stand way key hp => by
    have hz := hp.2.sz
    exact dos_one (do_ret (ev_lc (f := fun (p : En) => p.2) B [("spot", 3), ("own", 4)] [3, 4] [] (gi_l (ev_call3 B (c_found_places E D K) (ev_var B 0) (ev_var B 1) (ev_var B 2) hp)) (by simp [searchM]; omega) (fun X' B' => (ga_t2 B' (ga_name B' 3) (ga_name B' 4))) (fun X' B' x hx => (ev_var B' 4))) (rt_eq rfl))
theorem way_mem {t : Tr} {w : List Int} (hw : WayOk t w) {k : Int} (h : k ∈ w) : 0 ≤ k ∧ k < t.length := by
  obtain ⟨i, hi⟩ := List.mem_iff_getElem?.mp h
  have := hw.kn i (List.getElem?_eq_some_iff.mp hi).1
  rw [getD_at hi] at this
  exact this
theorem zip_fst {α β : Type} {xs : List α} {ys : List β} {p : α × β} (h : p ∈ xs.zip ys) : p.1 ∈ xs := (List.of_mem_zip h).1
theorem c_parts_from (E : Top Z) (D : Ds Z) (K : LamK Z) : Cal Z "parts_from" 10 (sp3 Z.T (pd rSd) (pd (rLst rInt)) (pd rInt) (fun stand way key => FrOk stand ∧ WayOk stand.1 way) (fun stand way key => pd (rLst (rLst rInt)) (parts_fromM stand way key))) :=
  cal3 ["stand", "way", "key", "knot", "own"] [0, 1, 2] ["zip", "places"] 2 D.parts_from (fun _ _ _ _ _ _ us hl => match us, hl with | [_, _, _], _ => rfl) fun X B stand way key hp => by
    have hz := hp.2.sz
    exact dos_one (do_ret (ev_lc (f := fun (p : Int × Int) => cut (rowM stand p.1) (some p.2) none) B [("knot", 3), ("own", 4)] [0, 3, 4] ["list"] (gi_zipL B E (ev_var B 1) (ev_call3 B (c_places E D K) (ev_var B 0) (ev_var B 1) (ev_var B 2) hp)) (by rw [List.length_zip]; omega) (fun X' B' => (ga_t2 B' (ga_name B' 3) (ga_name B' 4))) (fun X' B' x hx => (ev_listT B' E (ev_slT (ev_ixT ((ev_snd (ev_var B' 0))).t (ev_var B' 3) (way_mem hp.2 (zip_fst hx)).1 (row_at hp.1.sd (way_mem hp.2 (zip_fst hx)).1 (way_mem hp.2 (zip_fst hx)).2)) (eo_so (ev_var B' 4)) eo_no).t))) (rt_eq rfl))
theorem c_who_has (E : Top Z) (D : Ds Z) (K : LamK Z) : Cal Z "who_has" 11 (sp3 Z.T (pd rSd) (pd (rLst rInt)) (pd rInt) (fun stand way key => FrOk stand ∧ WayOk stand.1 way) (fun stand way key => pd (rLst rInt) (who_hasM stand way key))) :=
  cal3 ["stand", "way", "key", "knot", "keys"] [0, 1, 2] ["zip", "parts_from"] 2 D.who_has (fun _ _ _ _ _ _ us hl => match us, hl with | [_, _, _], _ => rfl) fun X B stand way key hp => by
    have hz := hp.2.sz
    exact dos_one (do_ret (ev_lcIf (b := fun (p : Int × List Int) => decide (cut p.2 none (some 1) = [key])) (f := fun p => p.1) B [("knot", 3), ("keys", 4)] [2, 3, 4] [] (gi_zipL B E (ev_var B 1) (ev_call3 B (c_parts_from E D K) (ev_var B 0) (ev_var B 1) (ev_var B 2) hp)) (by rw [List.length_zip]; omega) (fun X' B' => (ga_t2 B' (ga_name B' 3) (ga_name B' 4))) (fun X' B' x hx => (et_cmp ((ev_slL ((ev_var B' 4)).l eo_no (eo_so ev_int))).l ((ev_list (.cons (ev_var B' 2) .nil))).l (od_eqL B' py_int (fun _ _ => trivial) (fun _ _ => trivial)))) (fun X' B' x hx hb => (ev_var B' 3))) (rt_eq rfl))
theorem c_stretch (E : Top Z) (D : Ds Z) (K : LamK Z) : Cal Z "stretch" 10 (sp4 Z.T (pd rSd) (pd (rLst rInt)) (pd rInt) (pd rInt) (fun stand way low high => FrOk stand ∧ WayOk stand.1 way) (fun stand way low high => pd (rLst (rLst rInt)) (stretchM stand way low high))) :=
  cal4 ["stand", "way", "low", "high", "starts", "ends", "knot", "start", "end"] [0, 1, 2, 3, 4, 5] ["places", "zip"] 5 D.stretch (fun _ _ _ _ _ _ us hl => match us, hl with | [_, _, _, _], _ => rfl) fun X B stand way low high hp => by
    have hz := hp.2.sz
    refine dos_cons (do_set B 4 (ev_call3 B (c_places E D K) (ev_var B 0) (ev_var B 1) (ev_var B 2) hp) ?_)
    refine dos_cons (do_set B 5 (ev_call3 B (c_places E D K) (ev_var B 0) (ev_var B 1) (ev_var B 3) hp) ?_)
    exact dos_one (do_ret (ev_lc (f := fun (p : Int × Int × Int) => cut (rowM stand p.1) (some p.2.1) (some p.2.2)) B [("knot", 6), ("start", 7), ("end", 8)] [0, 6, 7, 8] ["list"] (gi_zip3 B E (ev_var B 1) (ev_var B 4) (ev_var B 5)) (by rw [List.length_zip]; omega) (fun X' B' => (ga_t3 B' (ga_name B' 6) (ga_name B' 7) (ga_name B' 8))) (fun X' B' x hx => (ev_listT B' E (ev_slT (ev_ixT ((ev_snd (ev_var B' 0))).t (ev_var B' 6) (way_mem hp.2 (zip_fst hx)).1 (row_at hp.1.sd (way_mem hp.2 (zip_fst hx)).1 (way_mem hp.2 (zip_fst hx)).2)) (eo_so (ev_var B' 7)) (eo_so (ev_var B' 8))).t))) (rt_eq rfl))
end
end BF
set_option maxHeartbeats 5000000
/-! min and max of a list of pairs of ints -/
namespace BF
open L2 PySem PySem.Spec PyProof.Rows

section
variable {prog : Program} {w : World} {A : Around} {R : Result → Shared → Prop} {I : Addr} {fp wr : List Addr} {n : Nat} {P : Nat → Value → Prop} {St : Nat → Heap → Prop} {C : Heap → Prop}
/-- the turns of min, the things compared told of by C -/
theorem min_turnsC (W : Walks prog w A.in1 I fp wr n P St) (bt : Nat → Nat → Bool) (M : Addr) (free : M ∉ fp) (keepC : ∀ g g', C g → (∀ b o, b ∉ wr → b ≠ M → g.get? b = some o → g'.get? b = some o) → C g')
    (cmp : ∀ i j vi vj (s : Shared) (Q : Value → Shared → Prop) (E : Value → Shared → Prop), C s.heap → P i vi → P j vj → Q (.bool (bt i j)) s → wpAny (model prog w) A.in1 (richCompare .Lt vi vj) Q E s) :
    ∀ (k j : Nat) (s : Shared) (best : Value) (c : Nat), n - (j + 1) = k → j + 1 ≤ n → St (j + 1) s.heap → C s.heap → P (argBest bt j) best →
    s.heap.get? M = some { cls := .type "list", dict := none, data := .seq #[best, best] c, slots := #[] } →
    (∀ v g tk, P (argBest bt (n - 1)) v → (∀ b o, b ∉ wr → b ≠ M → s.heap.get? b = some o → g.get? b = some o) → R (.ok (.ret v)) { s with heap := g, toks := tk }) →
    codeAny (model prog w) A (.builtin "min.loop" ⟨[.ref I, .none, .ref M], []⟩) R s := by
  have Mw : M ∉ wr := fun h => free (W.sub _ h)
  have nm : (toString "min" ++ toString ".loop" : String) = "min.loop" := by decide
  intro k
  induction k with
  | zero =>
    intro j s best c hk hj at_ cC pb hM done
    have last : j + 1 = n := by omega
    refine codeAny_builtin F.entry_min_loop (?_ : wpAny _ _ _ _ _ _)
    rw [Around.under_plainId F.plain_min_loop (_ : Args)]
    show wpAny (model prog w) A.in1 (seqItems? (.ref M) >>= _) _ _ s
    refine wpAny_bind (wpAny_seqItems hM rfl (?_ : wpAny _ _ _ _ _ _))
    show wpAny (model prog w) A.in1 (tryCatch (pyNext (.ref I)) _ >>= _) _ _ s
    refine wpAny_bind (wpAny_tryCatch (W.done s _ _ (last ▸ at_) fun g tk old => ?_))
    have hM2 := old M _ Mw hM
    show wpAny (model prog w) A.in1 (updateSeq M (fun _ => #[]) >>= _) _ _ _
    refine wpAny_bind (wpAny_updateSeq hM2 rfl (wpAny_bind (wpAny_letGo (wpAny_pure ?_))))
    exact done best _ tk (by rw [← last]; exact pb) fun b o q1 q2 e => (Heap.get?_update_other _ _ (Ne.symm q2)).trans (old b o q1 e)
  | succ k ih =>
    intro j s best c hk hj at_ cC pb hM done
    have more : j + 1 < n := by omega
    refine codeAny_builtin F.entry_min_loop (?_ : wpAny _ _ _ _ _ _)
    rw [Around.under_plainId F.plain_min_loop (_ : Args)]
    show wpAny (model prog w) A.in1 (seqItems? (.ref M) >>= _) _ _ s
    refine wpAny_bind (wpAny_seqItems hM rfl (?_ : wpAny _ _ _ _ _ _))
    show wpAny (model prog w) A.in1 (tryCatch (pyNext (.ref I)) _ >>= _) _ _ s
    refine wpAny_bind (wpAny_tryCatch (W.item (j + 1) s _ _ more at_ fun v g tk pv at2 old => ?_))
    have hM2 := old M _ Mw hM
    have cC2 : C g := keepC _ _ cC fun b o q1 _ e => old b o q1 e
    show wpAny (model prog w) A.in1 (tryCatch (holding [v, v] (richCompare .Lt v best >>= _)) _ >>= _) _ _ _
    refine wpAny_bind (wpAny_tryCatch (wpAny_holding (wpAny_bind (cmp (j + 1) (argBest bt j) v best _ _ _ cC2 pv pb ?_))))
    refine wpAny_bind (wpAny_holding (wpAny_truthy_bool (?_ : wpAny _ _ _ _ _ _)))
    refine wpAny_bind (wpAny_letGo (wpAny_pure (?_ : wpAny _ _ _ _ _ _)))
    cases hb : bt (j + 1) (argBest bt j) with
    | true =>
      simp only [if_true]
      refine wpAny_bind (wpAny_updateSeq hM2 rfl (wpAny_bind (wpAny_letGo (?_ : wpAny _ _ _ _ _ _))))
      rw [nm]
      refine wpAny_pure ⟨plainId_quiet F.plain_min_loop (_ : Args), ih (j + 1) _ v _ (by omega) more (W.frame _ _ _ at2 fun b hm o e => ?_) (keepC _ _ cC2 fun b o _ q2 e => (Heap.get?_update_other _ _ (Ne.symm q2)).trans e) (by simp only [argBest, hb, if_true]; exact pv) (Heap.get?_update_self _ hM2 rfl)
        fun v' g' tk' pv' old' => ?_⟩
      · exact (Heap.get?_update_other _ _ (fun h : M = b => free (by rw [h]; exact hm))).trans e
      · exact done v' g' tk' pv' fun b o q1 q2 e => old' b o q1 q2 ((Heap.get?_update_other _ _ (Ne.symm q2)).trans (old b o q1 e))
    | false =>
      simp only [Bool.false_eq_true, if_false]
      refine wpAny_bind (wpAny_letGo (?_ : wpAny _ _ _ _ _ _))
      rw [nm]
      refine wpAny_pure ⟨plainId_quiet F.plain_min_loop (_ : Args), ih (j + 1) _ best c (by omega) more at2 cC2 (by simp only [argBest, hb, Bool.false_eq_true, if_false]; exact pb) hM2 fun v' g' tk' pv' old' => ?_⟩
      exact done v' g' tk' pv' fun b o q1 q2 e => old' b o q1 q2 (old b o q1 e)
theorem min_firstC (W : Walks prog w A.in1 I fp wr n P St) (bt : Nat → Nat → Bool) (M : Addr) (free : M ∉ fp) (keepC : ∀ g g', C g → (∀ b o, b ∉ wr → b ≠ M → g.get? b = some o → g'.get? b = some o) → C g')
    (cmp : ∀ i j vi vj (s : Shared) (Q : Value → Shared → Prop) (E : Value → Shared → Prop), C s.heap → P i vi → P j vj → Q (.bool (bt i j)) s → wpAny (model prog w) A.in1 (richCompare .Lt vi vj) Q E s) (some_ : 0 < n) {s : Shared} {c : Nat} (at_ : St 0 s.heap) (cC : C s.heap)
    (hM : s.heap.get? M = some { cls := .type "list", dict := none, data := .seq #[] c, slots := #[] })
    (done : ∀ v g tk, P (argBest bt (n - 1)) v → (∀ b o, b ∉ wr → b ≠ M → s.heap.get? b = some o → g.get? b = some o) → R (.ok (.ret v)) { s with heap := g, toks := tk }) :
    codeAny (model prog w) A (.builtin "min.loop" ⟨[.ref I, .none, .ref M], []⟩) R s := by
  have Mw : M ∉ wr := fun h => free (W.sub _ h)
  have nm : (toString "min" ++ toString ".loop" : String) = "min.loop" := by decide
  refine codeAny_builtin F.entry_min_loop (?_ : wpAny _ _ _ _ _ _)
  rw [Around.under_plainId F.plain_min_loop (_ : Args)]
  show wpAny (model prog w) A.in1 (seqItems? (.ref M) >>= _) _ _ s
  refine wpAny_bind (wpAny_seqItems hM rfl (?_ : wpAny _ _ _ _ _ _))
  show wpAny (model prog w) A.in1 (tryCatch (pyNext (.ref I)) _ >>= _) _ _ s
  refine wpAny_bind (wpAny_tryCatch (W.item 0 s _ _ some_ at_ fun v g tk pv at2 old => ?_))
  have hM2 := old M _ Mw hM
  have cC2 : C g := keepC _ _ cC fun b o q1 _ e => old b o q1 e
  show wpAny (model prog w) A.in1 (updateSeq M (fun _ => #[v, v]) >>= _) _ _ _
  refine wpAny_bind (wpAny_updateSeq hM2 rfl (?_ : wpAny _ _ _ _ _ _))
  rw [nm]
  refine wpAny_pure ⟨plainId_quiet F.plain_min_loop (_ : Args), min_turnsC W bt M free keepC cmp _ 0 _ v _ rfl some_ (W.frame _ _ _ at2 fun b hm o e => ?_) (keepC _ _ cC2 fun b o _ q2 e => (Heap.get?_update_other _ _ (Ne.symm q2)).trans e) pv (Heap.get?_update_self _ hM2 rfl) fun v' g' tk' pv' old' => ?_⟩
  · exact (Heap.get?_update_other _ _ (fun h : M = b => free (by rw [h]; exact hm))).trans e
  · exact done v' g' tk' pv' fun b o q1 q2 e => old' b o q1 q2 ((Heap.get?_update_other _ _ (Ne.symm q2)).trans (old b o q1 e))
end
section
variable {prog : Program} {w : World} {A : Around} {E : Value → Shared → Prop} {s : Shared}
theorem call_minC {l : Addr} {its : Array Value} {C : Heap → Prop} {bt : Nat → Nat → Bool} {Q : Value → Shared → Prop} (hh : A.handled = none) (hl : s.heap.IsList l its) (ne : 0 < its.size) (cC : C s.heap)
    (keepC : ∀ g g', C g → (∀ b o, b < s.heap.objs.size → g.get? b = some o → g'.get? b = some o) → C g')
    (cmp : ∀ i j vi vj (s : Shared) (Q : Value → Shared → Prop) (E : Value → Shared → Prop), C s.heap → its[i]? = some vi → its[j]? = some vj → Q (.bool (bt i j)) s → wpAny (model prog w) A.in1 (richCompare .Lt vi vj) Q E s)
    (done : ∀ v g tk, its[argBest bt (its.size - 1)]? = some v → (∀ b o, s.heap.get? b = some o → g.get? b = some o) → Q v { s with heap := g, toks := tk }) :
    wpAny (model prog w) A (call (.builtin "min") [.ref l]) Q E s := by
  have nm : (toString "min" ++ toString ".loop" : String) = "min.loop" := by decide
  have ll : l < s.heap.objs.size := by obtain ⟨_, q, _⟩ := hl; exact Heap.lt_size q
  refine call_function_tree F.kind_min F.plain_min F.entry_min (F.args_min1 (.ref l)) ?_
  show wpAny (model prog w) A.in1 (Builtin.Builtins.bindParams "min" ["key", "default"] 0 ⟨[], []⟩ >>= _) _ _ s
  refine wpAny_bind (wpAny_of_eq (show Builtin.Builtins.bindParams "min" ["key", "default"] 0 ⟨[], []⟩ = pure [none, none] from rfl) (?_ : wpAny _ _ _ _ _ _))
  refine wpAny_bind (wpAny_pure (?_ : wpAny _ _ _ _ _ _))
  refine wpAny_bind (wpAny_pyIter_list hl ?_)
  refine wpAny_bind (wpAny_newObj_type (?_ : wpAny _ _ _ _ _ _))
  rw [nm]
  let s1 : Heap := s.heap.push { cls := .type "list_iterator", data := .fields #[.ref l, .int 0 0] }
  have z1 : s1.objs.size = s.heap.objs.size + 1 := Heap.size_push _ _
  have free : s1.objs.size ∉ [s.heap.objs.size, l] := fun m => by
    rcases List.mem_cons.mp m with q | m
    · rw [z1] at q; exact Nat.succ_ne_self _ q
    · have e := List.mem_singleton.mp m
      rw [← e, z1] at ll; exact absurd ll (Nat.not_lt.mpr (Nat.le_succ _))
  refine wpAny_pure ⟨plainId_quiet F.plain_min_loop (_ : Args), min_firstC (C := C) (St := fun i h => h.IsListIter s.heap.objs.size l i ∧ h.IsList l its) (Walks.list (A := A.in1) hh s.heap.objs.size l (Nat.ne_of_lt ll) its) bt s1.objs.size free (fun g g' c k => keepC g g' c fun b o hb e => k b o ?_ ?_ e) cmp ne
    ⟨⟨_, Heap.get?_push_of_some _ (Heap.get?_push_size _ rfl), rfl, rfl⟩, hl.at fun o e => Heap.get?_push_of_some _ (Heap.get?_push_of_some _ e)⟩ (keepC _ _ cC fun b o _ e => Heap.get?_push_of_some _ (Heap.get?_push_of_some _ e)) (Heap.get?_push_size _ rfl) fun v g tk pv old => ?_⟩
  · intro m
    rw [List.mem_singleton.mp m] at hb
    exact Nat.lt_irrefl _ hb
  · intro q
    rw [q, z1] at hb; exact absurd hb (Nat.not_lt.mpr (Nat.le_succ _))
  · refine done v g tk pv fun b o e => old b o ?_ ?_ (Heap.get?_push_of_some _ (Heap.get?_push_of_some _ e))
    · intro m
      have := Heap.lt_size e
      rw [List.mem_singleton.mp m] at this
      exact Nat.lt_irrefl _ this
    · intro q
      have := Heap.lt_size e
      rw [q, z1] at this; exact absurd this (Nat.not_lt.mpr (Nat.le_succ _))
end

section
variable {prog : Program} {w : World} {A : Around} {R : Result → Shared → Prop} {I : Addr} {fp wr : List Addr} {n : Nat} {P : Nat → Value → Prop} {St : Nat → Heap → Prop} {C : Heap → Prop}
/-- the turns of max, the things compared told of by C -/
theorem max_turnsC (W : Walks prog w A.in1 I fp wr n P St) (bt : Nat → Nat → Bool) (M : Addr) (free : M ∉ fp) (keepC : ∀ g g', C g → (∀ b o, b ∉ wr → b ≠ M → g.get? b = some o → g'.get? b = some o) → C g')
    (cmp : ∀ i j vi vj (s : Shared) (Q : Value → Shared → Prop) (E : Value → Shared → Prop), C s.heap → P i vi → P j vj → Q (.bool (bt i j)) s → wpAny (model prog w) A.in1 (richCompare .Gt vi vj) Q E s) :
    ∀ (k j : Nat) (s : Shared) (best : Value) (c : Nat), n - (j + 1) = k → j + 1 ≤ n → St (j + 1) s.heap → C s.heap → P (argBest bt j) best →
    s.heap.get? M = some { cls := .type "list", dict := none, data := .seq #[best, best] c, slots := #[] } →
    (∀ v g tk, P (argBest bt (n - 1)) v → (∀ b o, b ∉ wr → b ≠ M → s.heap.get? b = some o → g.get? b = some o) → R (.ok (.ret v)) { s with heap := g, toks := tk }) →
    codeAny (model prog w) A (.builtin "max.loop" ⟨[.ref I, .none, .ref M], []⟩) R s := by
  have Mw : M ∉ wr := fun h => free (W.sub _ h)
  have nm : (toString "max" ++ toString ".loop" : String) = "max.loop" := by decide
  intro k
  induction k with
  | zero =>
    intro j s best c hk hj at_ cC pb hM done
    have last : j + 1 = n := by omega
    refine codeAny_builtin F.entry_max_loop (?_ : wpAny _ _ _ _ _ _)
    rw [Around.under_plainId F.plain_max_loop (_ : Args)]
    show wpAny (model prog w) A.in1 (seqItems? (.ref M) >>= _) _ _ s
    refine wpAny_bind (wpAny_seqItems hM rfl (?_ : wpAny _ _ _ _ _ _))
    show wpAny (model prog w) A.in1 (tryCatch (pyNext (.ref I)) _ >>= _) _ _ s
    refine wpAny_bind (wpAny_tryCatch (W.done s _ _ (last ▸ at_) fun g tk old => ?_))
    have hM2 := old M _ Mw hM
    show wpAny (model prog w) A.in1 (updateSeq M (fun _ => #[]) >>= _) _ _ _
    refine wpAny_bind (wpAny_updateSeq hM2 rfl (wpAny_bind (wpAny_letGo (wpAny_pure ?_))))
    exact done best _ tk (by rw [← last]; exact pb) fun b o q1 q2 e => (Heap.get?_update_other _ _ (Ne.symm q2)).trans (old b o q1 e)
  | succ k ih =>
    intro j s best c hk hj at_ cC pb hM done
    have more : j + 1 < n := by omega
    refine codeAny_builtin F.entry_max_loop (?_ : wpAny _ _ _ _ _ _)
    rw [Around.under_plainId F.plain_max_loop (_ : Args)]
    show wpAny (model prog w) A.in1 (seqItems? (.ref M) >>= _) _ _ s
    refine wpAny_bind (wpAny_seqItems hM rfl (?_ : wpAny _ _ _ _ _ _))
    show wpAny (model prog w) A.in1 (tryCatch (pyNext (.ref I)) _ >>= _) _ _ s
    refine wpAny_bind (wpAny_tryCatch (W.item (j + 1) s _ _ more at_ fun v g tk pv at2 old => ?_))
    have hM2 := old M _ Mw hM
    have cC2 : C g := keepC _ _ cC fun b o q1 _ e => old b o q1 e
    show wpAny (model prog w) A.in1 (tryCatch (holding [v, v] (richCompare .Gt v best >>= _)) _ >>= _) _ _ _
    refine wpAny_bind (wpAny_tryCatch (wpAny_holding (wpAny_bind (cmp (j + 1) (argBest bt j) v best _ _ _ cC2 pv pb ?_))))
    refine wpAny_bind (wpAny_holding (wpAny_truthy_bool (?_ : wpAny _ _ _ _ _ _)))
    refine wpAny_bind (wpAny_letGo (wpAny_pure (?_ : wpAny _ _ _ _ _ _)))
    cases hb : bt (j + 1) (argBest bt j) with
    | true =>
      simp only [if_true]
      refine wpAny_bind (wpAny_updateSeq hM2 rfl (wpAny_bind (wpAny_letGo (?_ : wpAny _ _ _ _ _ _))))
      rw [nm]
      refine wpAny_pure ⟨plainId_quiet F.plain_max_loop (_ : Args), ih (j + 1) _ v _ (by omega) more (W.frame _ _ _ at2 fun b hm o e => ?_) (keepC _ _ cC2 fun b o _ q2 e => (Heap.get?_update_other _ _ (Ne.symm q2)).trans e) (by simp only [argBest, hb, if_true]; exact pv) (Heap.get?_update_self _ hM2 rfl)
        fun v' g' tk' pv' old' => ?_⟩
      · exact (Heap.get?_update_other _ _ (fun h : M = b => free (by rw [h]; exact hm))).trans e
      · exact done v' g' tk' pv' fun b o q1 q2 e => old' b o q1 q2 ((Heap.get?_update_other _ _ (Ne.symm q2)).trans (old b o q1 e))
    | false =>
      simp only [Bool.false_eq_true, if_false]
      refine wpAny_bind (wpAny_letGo (?_ : wpAny _ _ _ _ _ _))
      rw [nm]
      refine wpAny_pure ⟨plainId_quiet F.plain_max_loop (_ : Args), ih (j + 1) _ best c (by omega) more at2 cC2 (by simp only [argBest, hb, Bool.false_eq_true, if_false]; exact pb) hM2 fun v' g' tk' pv' old' => ?_⟩
      exact done v' g' tk' pv' fun b o q1 q2 e => old' b o q1 q2 (old b o q1 e)
theorem max_firstC (W : Walks prog w A.in1 I fp wr n P St) (bt : Nat → Nat → Bool) (M : Addr) (free : M ∉ fp) (keepC : ∀ g g', C g → (∀ b o, b ∉ wr → b ≠ M → g.get? b = some o → g'.get? b = some o) → C g')
    (cmp : ∀ i j vi vj (s : Shared) (Q : Value → Shared → Prop) (E : Value → Shared → Prop), C s.heap → P i vi → P j vj → Q (.bool (bt i j)) s → wpAny (model prog w) A.in1 (richCompare .Gt vi vj) Q E s) (some_ : 0 < n) {s : Shared} {c : Nat} (at_ : St 0 s.heap) (cC : C s.heap)
    (hM : s.heap.get? M = some { cls := .type "list", dict := none, data := .seq #[] c, slots := #[] })
    (done : ∀ v g tk, P (argBest bt (n - 1)) v → (∀ b o, b ∉ wr → b ≠ M → s.heap.get? b = some o → g.get? b = some o) → R (.ok (.ret v)) { s with heap := g, toks := tk }) :
    codeAny (model prog w) A (.builtin "max.loop" ⟨[.ref I, .none, .ref M], []⟩) R s := by
  have Mw : M ∉ wr := fun h => free (W.sub _ h)
  have nm : (toString "max" ++ toString ".loop" : String) = "max.loop" := by decide
  refine codeAny_builtin F.entry_max_loop (?_ : wpAny _ _ _ _ _ _)
  rw [Around.under_plainId F.plain_max_loop (_ : Args)]
  show wpAny (model prog w) A.in1 (seqItems? (.ref M) >>= _) _ _ s
  refine wpAny_bind (wpAny_seqItems hM rfl (?_ : wpAny _ _ _ _ _ _))
  show wpAny (model prog w) A.in1 (tryCatch (pyNext (.ref I)) _ >>= _) _ _ s
  refine wpAny_bind (wpAny_tryCatch (W.item 0 s _ _ some_ at_ fun v g tk pv at2 old => ?_))
  have hM2 := old M _ Mw hM
  have cC2 : C g := keepC _ _ cC fun b o q1 _ e => old b o q1 e
  show wpAny (model prog w) A.in1 (updateSeq M (fun _ => #[v, v]) >>= _) _ _ _
  refine wpAny_bind (wpAny_updateSeq hM2 rfl (?_ : wpAny _ _ _ _ _ _))
  rw [nm]
  refine wpAny_pure ⟨plainId_quiet F.plain_max_loop (_ : Args), max_turnsC W bt M free keepC cmp _ 0 _ v _ rfl some_ (W.frame _ _ _ at2 fun b hm o e => ?_) (keepC _ _ cC2 fun b o _ q2 e => (Heap.get?_update_other _ _ (Ne.symm q2)).trans e) pv (Heap.get?_update_self _ hM2 rfl) fun v' g' tk' pv' old' => ?_⟩
  · exact (Heap.get?_update_other _ _ (fun h : M = b => free (by rw [h]; exact hm))).trans e
  · exact done v' g' tk' pv' fun b o q1 q2 e => old' b o q1 q2 ((Heap.get?_update_other _ _ (Ne.symm q2)).trans (old b o q1 e))
end
section
variable {prog : Program} {w : World} {A : Around} {E : Value → Shared → Prop} {s : Shared}
theorem call_maxC {l : Addr} {its : Array Value} {C : Heap → Prop} {bt : Nat → Nat → Bool} {Q : Value → Shared → Prop} (hh : A.handled = none) (hl : s.heap.IsList l its) (ne : 0 < its.size) (cC : C s.heap)
    (keepC : ∀ g g', C g → (∀ b o, b < s.heap.objs.size → g.get? b = some o → g'.get? b = some o) → C g')
    (cmp : ∀ i j vi vj (s : Shared) (Q : Value → Shared → Prop) (E : Value → Shared → Prop), C s.heap → its[i]? = some vi → its[j]? = some vj → Q (.bool (bt i j)) s → wpAny (model prog w) A.in1 (richCompare .Gt vi vj) Q E s)
    (done : ∀ v g tk, its[argBest bt (its.size - 1)]? = some v → (∀ b o, s.heap.get? b = some o → g.get? b = some o) → Q v { s with heap := g, toks := tk }) :
    wpAny (model prog w) A (call (.builtin "max") [.ref l]) Q E s := by
  have nm : (toString "max" ++ toString ".loop" : String) = "max.loop" := by decide
  have ll : l < s.heap.objs.size := by obtain ⟨_, q, _⟩ := hl; exact Heap.lt_size q
  refine call_function_tree F.kind_max F.plain_max F.entry_max (F.args_max1 (.ref l)) ?_
  show wpAny (model prog w) A.in1 (Builtin.Builtins.bindParams "max" ["key", "default"] 0 ⟨[], []⟩ >>= _) _ _ s
  refine wpAny_bind (wpAny_of_eq (show Builtin.Builtins.bindParams "max" ["key", "default"] 0 ⟨[], []⟩ = pure [none, none] from rfl) (?_ : wpAny _ _ _ _ _ _))
  refine wpAny_bind (wpAny_pure (?_ : wpAny _ _ _ _ _ _))
  refine wpAny_bind (wpAny_pyIter_list hl ?_)
  refine wpAny_bind (wpAny_newObj_type (?_ : wpAny _ _ _ _ _ _))
  rw [nm]
  let s1 : Heap := s.heap.push { cls := .type "list_iterator", data := .fields #[.ref l, .int 0 0] }
  have z1 : s1.objs.size = s.heap.objs.size + 1 := Heap.size_push _ _
  have free : s1.objs.size ∉ [s.heap.objs.size, l] := fun m => by
    rcases List.mem_cons.mp m with q | m
    · rw [z1] at q; exact Nat.succ_ne_self _ q
    · have e := List.mem_singleton.mp m
      rw [← e, z1] at ll; exact absurd ll (Nat.not_lt.mpr (Nat.le_succ _))
  refine wpAny_pure ⟨plainId_quiet F.plain_max_loop (_ : Args), max_firstC (C := C) (St := fun i h => h.IsListIter s.heap.objs.size l i ∧ h.IsList l its) (Walks.list (A := A.in1) hh s.heap.objs.size l (Nat.ne_of_lt ll) its) bt s1.objs.size free (fun g g' c k => keepC g g' c fun b o hb e => k b o ?_ ?_ e) cmp ne
    ⟨⟨_, Heap.get?_push_of_some _ (Heap.get?_push_size _ rfl), rfl, rfl⟩, hl.at fun o e => Heap.get?_push_of_some _ (Heap.get?_push_of_some _ e)⟩ (keepC _ _ cC fun b o _ e => Heap.get?_push_of_some _ (Heap.get?_push_of_some _ e)) (Heap.get?_push_size _ rfl) fun v g tk pv old => ?_⟩
  · intro m
    rw [List.mem_singleton.mp m] at hb
    exact Nat.lt_irrefl _ hb
  · intro q
    rw [q, z1] at hb; exact absurd hb (Nat.not_lt.mpr (Nat.le_succ _))
  · refine done v g tk pv fun b o e => old b o ?_ ?_ (Heap.get?_push_of_some _ (Heap.get?_push_of_some _ e))
    · intro m
      have := Heap.lt_size e
      rw [List.mem_singleton.mp m] at this
      exact Nat.lt_irrefl _ this
    · intro q
      have := Heap.lt_size e
      rw [q, z1] at this; exact absurd this (Nat.not_lt.mpr (Nat.le_succ _))
end
end BF
set_option maxHeartbeats 5000000
namespace BF
open L2 PySem PySem.Spec PyProof.Rows
def minE (xs : List En) : En := xs.getD (argBest (fun i j => enLt (xs.getD i (0, 0)) (xs.getD j (0, 0))) (xs.length - 1)) (0, 0)
def maxE (xs : List En) : En := xs.getD (argBest (fun i j => enLt (xs.getD j (0, 0)) (xs.getD i (0, 0))) (xs.length - 1)) (0, 0)
theorem best_lt (bt : Nat → Nat → Bool) : ∀ k, argBest bt k ≤ k
  | 0 => Nat.le_refl _
  | k + 1 => by
    have := best_lt bt k
    unfold argBest
    split <;> omega
/-- the pairs as they lie -/
def PairsAt (N : Nat) (its : Array Value) (xs : List En) (h : Heap) : Prop := ∀ i v, its[i]? = some v → ∃ (t : Addr) (t1 t2 : Tok), v = .ref t ∧ t < N ∧ IsTup h t #[.int (xs.getD i (0, 0)).1 t1, .int (xs.getD i (0, 0)).2 t2]
theorem PairsAt.keep {N : Nat} {its : Array Value} {xs : List En} {g g' : Heap} (c : PairsAt N its xs g) (k : ∀ b o, b < N → g.get? b = some o → g'.get? b = some o) : PairsAt N its xs g' := fun i v hv => by
  obtain ⟨t, t1, t2, e, l, o, ho, r⟩ := c i v hv
  exact ⟨t, t1, t2, e, l, o, k t o l ho, r⟩
theorem lexLt2 (x y : En) : HT.lexLt [x.1, x.2] [y.1, y.2] = enLt x y := by
  unfold enLt
  rw [HT.lexLt_cons]
  by_cases q : x.1 = y.1
  · rw [if_pos q, if_pos q, HT.lexLt_cons]
    by_cases q2 : x.2 = y.2
    · rw [if_pos q2, HT.lexLt_nil_nil, q2]; simp
    · rw [if_neg q2]
  · rw [if_neg q, if_neg q]
section
variable {prog : Program} {w : World} {A : Around}
theorem cmp_lt {N : Nat} {its : Array Value} {xs : List En} (hu : A.units < cLine) (i j : Nat) (vi vj : Value) (s : Shared) (Q : Value → Shared → Prop) (E : Value → Shared → Prop) (c : PairsAt N its xs s.heap) (hi : its[i]? = some vi) (hj : its[j]? = some vj) (q : Q (.bool (enLt (xs.getD i (0, 0)) (xs.getD j (0, 0)))) s) : wpAny (model prog w) A (richCompare .Lt vi vj) Q E s := by
  obtain ⟨a, t1, t2, rfl, _, h1⟩ := c i vi hi
  obtain ⟨b, t3, t4, rfl, _, h2⟩ := c j vj hj
  have := HT.lt_tupInts (prog := prog) (w := w) (A := A) (E := E) (Q := Q) (ns := [(xs.getD i (0, 0)).1, (xs.getD i (0, 0)).2]) (ms := [(xs.getD j (0, 0)).1, (xs.getD j (0, 0)).2]) h1 h2 (.cons _ _ (.cons _ _ .nil)) (.cons _ _ (.cons _ _ .nil)) hu (by rw [lexLt2]; exact q)
  exact this
theorem cmp_gt {N : Nat} {its : Array Value} {xs : List En} (hu : A.units < cLine) (i j : Nat) (vi vj : Value) (s : Shared) (Q : Value → Shared → Prop) (E : Value → Shared → Prop) (c : PairsAt N its xs s.heap) (hi : its[i]? = some vi) (hj : its[j]? = some vj) (q : Q (.bool (enLt (xs.getD j (0, 0)) (xs.getD i (0, 0)))) s) : wpAny (model prog w) A (richCompare .Gt vi vj) Q E s := by
  obtain ⟨a, t1, t2, rfl, _, h1⟩ := c i vi hi
  obtain ⟨b, t3, t4, rfl, _, h2⟩ := c j vj hj
  generalize hx : xs.getD i (0, 0) = x at *
  generalize hy : xs.getD j (0, 0) = y at *
  let e : Nat → Bool := fun k => if k = 0 then (x.1 == y.1) else (x.2 == y.2)
  let r : Nat → Bool := fun k => if k = 0 then decide (y.1 < x.1) else decide (y.2 < x.2)
  have main : Ob.RcOp .Gt A s (.ref a) (.ref b) (Ob.lexAt e r (decide ((#[Value.int x.1 t1, Value.int x.2 t2] : Array Value).size > (#[Value.int y.1 t3, Value.int y.2 t4] : Array Value).size)) 0 2) := by
    refine Ob.RcOp.tuples_gt (e := e) (r := r) h1 h2 hu (fun k k1 k2 => ?_) (fun k k1 k2 _ => ?_)
    · match k, k1 with
      | 0, _ => exact SeqAt.EqAt.int_int x.1 t1 y.1 t3
      | 1, _ => exact SeqAt.EqAt.int_int x.2 t2 y.2 t4
      | k + 2, k1 => exact absurd k1 (by simp)
    · match k, k1 with
      | 0, _ => exact Ob.RcOp.gt_int x.1 y.1 t1 t3
      | 1, _ => exact Ob.RcOp.gt_int x.2 y.2 t2 t4
      | k + 2, k1 => exact absurd k1 (by simp)
  refine main prog w E Q ?_
  have ev : Ob.lexAt e r (decide ((#[Value.int x.1 t1, Value.int x.2 t2] : Array Value).size > (#[Value.int y.1 t3, Value.int y.2 t4] : Array Value).size)) 0 2 = enLt y x := by
    unfold enLt
    rw [Ob.lexAt_succ, Ob.lexAt_succ, Ob.lexAt_zero]
    show (if (x.1 == y.1) = true then (if (x.2 == y.2) = true then false else decide (y.2 < x.2)) else decide (y.1 < x.1)) = _
    by_cases q1 : x.1 = y.1
    · rw [if_pos (by simp [q1]), if_pos q1.symm]
      by_cases q2 : x.2 = y.2
      · rw [if_pos (by simp [q2]), q2]; simp
      · rw [if_neg (by simpa using q2)]
    · rw [if_neg (by simpa using q1), if_neg (fun z => q1 z.symm)]
  rw [ev]
  exact q
end
section
variable {Z : Zx} {X : Cx} {e : Expr} {Γ : List Sl} {N : List Str} {sc : Scope} {vs ws : List Nat} {gs : List Str} {k : Nat} {pos p : Pos}
def rExt (j : List En → Nat) : List V → Hp → VK → Prop := fun vs H Q => ∃ (a : Addr) (us : List V) (xs : List En), vs = [.ref a] ∧ H a = some (.lst us) ∧ us.length = xs.length ∧ 0 < xs.length ∧ (∀ i u, us[i]? = some u → ∃ t, u = .ref t ∧ H t = some (.tup [.int (xs.getD i (0, 0)).1, .int (xs.getD i (0, 0)).2])) ∧ ∀ u, us[j xs]? = some u → Q u H
theorem pairs_at {pins : List (Addr × Obj)} {σ : Sg} {H : Hp} {s : Shared} {us : List V} {its : List Value} {xs : List En} (I : Inv X pins σ H s) (rv : Vals us its) (h : ∀ i u, us[i]? = some u → ∃ t, u = .ref t ∧ H t = some (.tup [.int (xs.getD i (0, 0)).1, .int (xs.getD i (0, 0)).2])) : PairsAt s.heap.objs.size its.toArray xs s.heap := fun i v hv => by
  have hv : its[i]? = some v := by simpa using hv
  have hl := (List.getElem?_eq_some_iff.mp hv).1
  have hl2 : i < us.length := by rw [rv.length]; exact hl
  obtain ⟨t, eu, ht⟩ := h i us[i] (List.getElem?_eq_getElem hl2)
  obtain ⟨w, hw, rw_⟩ := rv.get (List.getElem?_eq_getElem hl2)
  rw [hv] at hw
  cases hw
  rw [eu] at rw_
  obtain rfl : v = Value.ref t := rw_
  obtain ⟨_, its2, r2, o, ho, hc, n, hd⟩ := I.hok t _ ht
  obtain ⟨u1, u2, rfl, ri, rj⟩ := vals2 r2
  obtain ⟨t1, rfl⟩ := ri
  obtain ⟨t2, rfl⟩ := rj
  exact ⟨t, t1, t2, rfl, Heap.lt_size ho, o, ho, hc, n, hd⟩
theorem cr_minE (hc : X.calm = true) (hu : X.A.units + 64 < cLine) : CallR X (.builtin "min") (rExt fun xs => argBest (fun i j => enLt (xs.getD i (0, 0)) (xs.getD j (0, 0))) (xs.length - 1)) := by
  intro pins s σ H vs us Q I r h
  obtain ⟨a, ws, xs, rfl, ha, hl, h0, hx, q⟩ := h
  obtain ⟨its, rv, lp, _⟩ := I.list (.inl (.inl ha))
  rw [Vals.ref1 r]
  have sz : its.toArray.size = xs.length := by rw [List.size_toArray, ← rv.length, hl]
  refine call_minC (C := PairsAt s.heap.objs.size its.toArray xs) (bt := fun i j => enLt (xs.getD i (0, 0)) (xs.getD j (0, 0))) (I.ok.hd hc) lp.isList (by omega) (pairs_at I rv hx) (fun g g' c k => c.keep k) (fun i j vi vj s Q E c hi hj q => cmp_lt (by show X.A.units + 1 < cLine; omega) i j vi vj s Q E c hi hj q) fun v g tk pv old => ?_
  rw [sz] at pv
  have pv : its[argBest (fun i j => enLt (xs.getD i (0, 0)) (xs.getD j (0, 0))) (xs.length - 1)]? = some v := by simpa using pv
  have lt : argBest (fun i j => enLt (xs.getD i (0, 0)) (xs.getD j (0, 0))) (xs.length - 1) < ws.length := by have := best_lt (fun i j => enLt (xs.getD i (0, 0)) (xs.getD j (0, 0))) (xs.length - 1); omega
  obtain ⟨u, hu', ru⟩ := rv.get (List.getElem?_eq_getElem lt)
  rw [pv] at hu'
  cases hu'
  exact ⟨_, H, I.kept (t' := tk) old, ru, q _ (List.getElem?_eq_getElem lt)⟩
theorem cr_maxE (hc : X.calm = true) (hu : X.A.units + 64 < cLine) : CallR X (.builtin "max") (rExt fun xs => argBest (fun i j => enLt (xs.getD j (0, 0)) (xs.getD i (0, 0))) (xs.length - 1)) := by
  intro pins s σ H vs us Q I r h
  obtain ⟨a, ws, xs, rfl, ha, hl, h0, hx, q⟩ := h
  obtain ⟨its, rv, lp, _⟩ := I.list (.inl (.inl ha))
  rw [Vals.ref1 r]
  have sz : its.toArray.size = xs.length := by rw [List.size_toArray, ← rv.length, hl]
  refine call_maxC (C := PairsAt s.heap.objs.size its.toArray xs) (bt := fun i j => enLt (xs.getD j (0, 0)) (xs.getD i (0, 0))) (I.ok.hd hc) lp.isList (by omega) (pairs_at I rv hx) (fun g g' c k => c.keep k) (fun i j vi vj s Q E c hi hj q => cmp_gt (by show X.A.units + 1 < cLine; omega) i j vi vj s Q E c hi hj q) fun v g tk pv old => ?_
  rw [sz] at pv
  have pv : its[argBest (fun i j => enLt (xs.getD j (0, 0)) (xs.getD i (0, 0))) (xs.length - 1)]? = some v := by simpa using pv
  have lt : argBest (fun i j => enLt (xs.getD j (0, 0)) (xs.getD i (0, 0))) (xs.length - 1) < ws.length := by have := best_lt (fun i j => enLt (xs.getD j (0, 0)) (xs.getD i (0, 0))) (xs.length - 1); omega
  obtain ⟨u, hu', ru⟩ := rv.get (List.getElem?_eq_getElem lt)
  rw [pv] at hu'
  cases hu'
  exact ⟨_, H, I.kept (t' := tk) old, ru, q _ (List.getElem?_eq_getElem lt)⟩
theorem pl_ext {T : Tbs} {j : List En → Nat} {F H : Hp} {xs : List En} {v : V} {Q : VK} (o : Ok T F H) (p : (pl rEn xs).p F H v) (h0 : 0 < xs.length) (q : ∀ u, rEn.rel (xs.getD (j xs) (0, 0)) F u → Q u H) : rExt j [v] H Q := by
  obtain ⟨a, us, ev, hl, r⟩ := p
  refine ⟨a, us, xs, by rw [ev], hl, r.len, h0, fun i u hu => ?_, fun u hu => ?_⟩
  · obtain ⟨x, hx, t, u1, u2, e, ht, r1, r2⟩ := r.getV hu
    rw [getD_at hx]
    exact ⟨t, e, by rw [o.sub _ _ ht, show u1 = V.int x.1 from r1, show u2 = V.int x.2 from r2]⟩
  · obtain ⟨x, hx, rx⟩ := r.getV hu
    exact q u (by rw [getD_at hx]; exact rx)
theorem ev_minE (B : Bd Z X N sc vs ws gs k) (E : Top Z) {xs : List En} (a : EV Z X e Γ (pl rEn xs)) (h : 0 < xs.length) (hg : ("min" : Str) ∈ gs := by decide +kernel) (he : starEach (e :: []) X.env = (false, eval e X.env) :: starEach [] X.env := by rfl) : EV Z X (.Call (.Name "min" p) [e] [] pos) Γ (pd rEn (minE xs)) :=
  b1 B E (.v1 (P := pl rEn xs) (cr_minE B.calm B.hu) fun F H v o pv Q q => pl_ext o pv h fun u r => q u F H (Grow.refl o) r) (by decide +kernel) a hg (by decide +kernel) he
theorem ev_maxE (B : Bd Z X N sc vs ws gs k) (E : Top Z) {xs : List En} (a : EV Z X e Γ (pl rEn xs)) (h : 0 < xs.length) (hg : ("max" : Str) ∈ gs := by decide +kernel) (he : starEach (e :: []) X.env = (false, eval e X.env) :: starEach [] X.env := by rfl) : EV Z X (.Call (.Name "max" p) [e] [] pos) Γ (pd rEn (maxE xs)) :=
  b1 B E (.v1 (P := pl rEn xs) (cr_maxE B.calm B.hu) fun F H v o pv Q q => pl_ext o pv h fun u r => q u F H (Grow.refl o) r) (by decide +kernel) a hg (by decide +kernel) he
end
end BF
set_option maxHeartbeats 5000000
namespace BF
open L2 PySem PySem.Spec PyProof.Rows
def abL (st : Sd) (w : List Int) (key : Int) : List En := ((w.zip (parts_fromM st w key)).filter fun p => !decide (p.2 = [])).map fun p => (p.2.getD 0 0, p.1)
def aboveM (st : Sd) (w : List Int) (key : Int) : Option En := if abL st w key = [] then none else some (minE (abL st w key))
def beL (st : Sd) (w : List Int) (key : Int) : List En := ((w.zip (placesM st w key)).filter fun p => decide (0 < p.2)).map fun p => ((rowM st p.1).getD (p.2 - 1).toNat 0, p.1)
def belowM (st : Sd) (w : List Int) (key : Int) : Option En := if beL st w key = [] then none else some (maxE (beL st w key))
theorem ownsM_b {es : List En} {k : Int} {n : Nat} (h : (es.filter fun e => decide (e.2 = k)).length ≤ n) {v : Int} (hv : v ∈ ownsM es k) : 0 ≤ v ∧ v ≤ n := by
  obtain ⟨i, hi, rfl⟩ := List.mem_map.mp hv
  have := List.Sublist.length_le ((List.take_sublist i es).filter fun e => decide (e.2 = k))
  omega
/-- how many own keys stand ahead of a place -/
theorem places_b {st : Sd} (h : FrOk st) {w : List Int} (hw : WayOk st.1 w) (key : Int) {p : Int × Int} (hp : p ∈ w.zip (placesM st w key)) : 0 ≤ p.2 ∧ p.2 ≤ (rowM st p.1).length := by
  obtain ⟨i, hi⟩ := List.mem_iff_getElem?.mp hp
  obtain ⟨h1, h2⟩ := zip_at hi
  have hlt := (List.getElem?_eq_some_iff.mp h1).1
  have hk := hw.kn i hlt
  have sr := sr_ok h hw key
  have pb := pl_b sr i hlt
  have ob := sr.ow i hlt
  unfold placesM searchM at h2
  rw [List.getElem?_map, List.getElem?_map, List.getElem?_range hlt] at h2
  have e2 : (spM (bridgesM st.1 (full_rowsM st)) w (full_rowsM st, key) i).2 = p.2 := Option.some.inj h2
  unfold spM at e2
  simp only at e2
  rw [getD_at h1] at hk e2 pb ob
  rw [bridges_at hk.1 hk.2] at e2 ob
  have ow : (brM (full_rowsM st) st.1 p.1).2.1 = ownsM (fullM st p.1) p.1 := by
    show ownsM ((full_rowsM st).getD p.1.toNat []) p.1 = _
    rw [fulls_getD hk.1 hk.2]
  have hmem : p.2 ∈ ownsM (fullM st p.1) p.1 := by
    rw [← ow, ← e2]
    refine List.mem_of_getElem? (at_getD 0 ?_)
    rw [ob]
    omega
  exact ownsM_b (h.ow p.1 hk.1 hk.2) hmem
section
variable {Z : Zx}
theorem c_above (E : Top Z) (D : Ds Z) (K : LamK Z) : Cal Z "above" 11 (sp3 Z.T (pd rSd) (pd (rLst rInt)) (pd rInt) (fun stand way key => FrOk stand ∧ WayOk stand.1 way) (fun stand way key => pd (rOpt rEn) (aboveM stand way key))) :=
  cal3 ["stand", "way", "key", "found", "knot", "keys"] [0, 1, 2, 3] ["zip", "parts_from", "min"] 3 D.above (fun _ _ _ _ _ _ us hl => match us, hl with | [_, _, _], _ => rfl) fun X B stand way key hp => by
    have hz := hp.2.sz
    refine dos_cons (do_setLcIf (b := fun (p : Int × List Int) => !decide (p.2 = [])) (f := fun p => (p.2.getD 0 0, p.1)) B 3 [("knot", 4), ("keys", 5)] [4, 5] [] (gi_zipL B E (ev_var B 1) (ev_call3 B (c_parts_from E D K) (ev_var B 0) (ev_var B 1) (ev_var B 2) hp)) (by rw [List.length_zip]; omega) (fun X' B' => (ga_t2 B' (ga_name B' 4) (ga_name B' 5))) (fun X' B' x hx => (et_cmp ((ev_var B' 5)).l ((ev_list (R := rInt) .nil)).l (od_neL B' py_int (fun _ _ => trivial) (fun _ _ => trivial)))) (fun X' B' x hx hb => (ev_t2 (ev_ixL ((ev_var B' 5)).l ev_int (by decide) (at_getD 0 (by
      have hb : (!decide (x.2 = [])) = true := hb
      rcases q : x.2 with _ | ⟨a, b⟩
      · rw [q] at hb; simp at hb
      · simp))) (ev_var B' 4))) ?_)
    refine dos_cons (do_if (et_cmp ((ev_var B 3)).l ((ev_list (R := rEn) .nil)).l (od_eqL B py_en (fun _ _ => ⟨trivial, trivial⟩) (fun _ _ => ⟨trivial, trivial⟩))) (fun h1 => ?_) (fun h1 => ?_))
    · have h1 : abL stand way key = [] := of_decide_eq_true h1
      refine dos_one (do_ret ev_nonO (rt_eq ?_))
      unfold aboveM; rw [if_pos h1]
    · have h1 : abL stand way key ≠ [] := of_decide_eq_false h1
      refine dos_nil ?_
      refine dos_one (do_ret ((ev_minE B E ((ev_var B 3)).l (List.length_pos_iff.mpr h1)).some (fun F v ⟨a, _, _, e, _⟩ => by rw [e]; intro z; cases z)) (rt_eq ?_))
      unfold aboveM; rw [if_neg h1]
theorem c_below (E : Top Z) (D : Ds Z) (K : LamK Z) : Cal Z "below" 10 (sp3 Z.T (pd rSd) (pd (rLst rInt)) (pd rInt) (fun stand way key => FrOk stand ∧ WayOk stand.1 way) (fun stand way key => pd (rOpt rEn) (belowM stand way key))) :=
  cal3 ["stand", "way", "key", "found", "knot", "own"] [0, 1, 2, 3, 4, 5] ["zip", "places", "max"] 3 D.below (fun _ _ _ _ _ _ us hl => match us, hl with | [_, _, _], _ => rfl) fun X B stand way key hp => by
    have hz := hp.2.sz
    refine dos_cons (do_new B 3 rEn ?_)
    refine dos_cons (do_for B (gi_zipL B E (ev_var B 1) (ev_call3 B (c_places E D K) (ev_var B 0) (ev_var B 1) (ev_var B 2) hp)) (ga_t2 B (ga_name B 4) (ga_name B 5)) (fun i Γ => i ≤ (way.zip (placesM stand way key)).length ∧ Γ = [.da rSd stand, .da (rLst rInt) way, .da rInt key, .mu (mLst rEn) ((((way.zip (placesM stand way key)).take i).filter fun p => decide (0 < p.2)).map fun p => ((rowM stand p.1).getD (p.2 - 1).toNat 0, p.1)), .un, .un]) ⟨Nat.zero_le _, rfl⟩ (fun i x Γ' hx hI => ?_) (fun Γ' hI => ?_))
    · obtain ⟨hi, rfl⟩ := hI
      have hm := List.mem_of_getElem? hx
      have hb := places_b hp.1 hp.2 key hm
      have hw := way_mem hp.2 (zip_fst hm)
      have hlt := (List.getElem?_eq_some_iff.mp hx).1
      rw [List.length_zip] at hlt
      refine dos_one (do_if (et_cmp (ev_var B 5) ev_int od_gt) (fun h1 => ?_) (fun h1 => ?_))
      · have h1' := of_decide_eq_true h1
        refine dos_cons (do_app B 3 (ev_t2 (ev_ixT ((ev_ixT ((ev_snd (ev_var B 0))).t (ev_var B 4) hw.1 (row_at hp.1.sd hw.1 hw.2))).t (ev_bin (ev_var B 5) ev_int od_sub) (by omega) (at_getD 0 (by show (x.2 - 1).toNat < (rowM stand x.1).length; omega))) (ev_var B 4)) ?_ ?_)
        · refine sz_lt ?_
          rw [List.length_map]
          have := List.length_filter_le (fun p : Int × Int => decide (0 < p.2)) ((way.zip (placesM stand way key)).take i)
          have := List.length_take_le i (way.zip (placesM stand way key))
          omega
        refine dos_un 4 (dos_un 5 (dos_nil ⟨by rw [List.length_zip]; omega, ?_⟩))
        rw [List.take_succ, hx, List.filter_append, List.map_append]
        have : (List.filter (fun p : Int × Int => decide (0 < p.2)) (some x).toList) = [x] := by simp [h1']
        rw [this]
        rfl
      · have h1' := of_decide_eq_false h1
        refine dos_un 4 (dos_un 5 (dos_nil ⟨by rw [List.length_zip]; omega, ?_⟩))
        rw [List.take_succ, hx, List.filter_append, List.map_append]
        have : (List.filter (fun p : Int × Int => decide (0 < p.2)) (some x).toList) = [] := by simp; omega
        rw [this, List.map_nil, List.append_nil]
        rfl
    obtain ⟨hi, rfl⟩ := hI
    rw [List.take_length]
    refine dos_cons (do_if (et_cmp (ev_own B 3) ((ev_list (R := rEn) .nil)).l (od_eqL B py_en (fun _ _ => ⟨trivial, trivial⟩) (fun _ _ => ⟨trivial, trivial⟩))) (fun h1 => ?_) (fun h1 => ?_))
    · have h1 : beL stand way key = [] := of_decide_eq_true h1
      refine dos_one (do_ret ev_nonO (rt_eq ?_))
      unfold belowM; rw [if_pos h1]
    · have h1 : beL stand way key ≠ [] := of_decide_eq_false h1
      refine dos_nil ?_
      refine dos_one (do_ret ((ev_maxE B E (ev_own B 3) (List.length_pos_iff.mpr h1)).some (fun F v ⟨a, _, _, e, _⟩ => by rw [e]; intro z; cases z)) (rt_eq ?_))
      unfold belowM; rw [if_neg h1]
end
end BF
set_option maxHeartbeats 5000000
namespace BF
open L2 PySem PySem.Spec PyProof.Rows
/-! ## numbers as texts -/
abbrev sg (x : Str) : List Nat := x.cps.toList
theorem sI_nat (n : Nat) : sg (sI (n : Int)) = TL.numL n := TL.tl_num n
theorem sI_neg (n : Nat) : sg (sI (Int.negSucc n)) = 45 :: TL.numL (n + 1) := by
  show sg (Str.ofString (toString (Int.negSucc n))) = _
  have h1 : (toString (Int.negSucc n) : String) = "-" ++ toString (n + 1) := rfl
  rw [h1]
  have h2 := TL.tl_num (n + 1)
  have h3 : (toString (((n + 1 : Nat) : Nat) : Int) : String) = toString (n + 1) := rfl
  rw [h3] at h2
  rw [TL.tl_ofString] at h2
  show TL.tl (Str.ofString ("-" ++ toString (n + 1))) = _
  rw [TL.tl_ofString, ← h2, String.toList_append]
  rfl
/-- a key, or a knot -/
def Small (i : Int) : Prop := (i.natAbs : Int) < 10 ^ 60
theorem small_of_key {i : Int} (h : is_keyM i = true) : Small i := by
  unfold is_keyM at h
  show (i.natAbs : Int) < 10 ^ 60
  exact of_decide_eq_true h
theorem small_abs {i : Int} (h : Small i) : i.natAbs < 10 ^ 60 := by
  unfold Small at h
  exact_mod_cast h
theorem small_of_lt {i : Int} {n : Nat} (h0 : 0 ≤ i) (h : i < n) (hn : n ≤ 1000000) : Small i := by
  unfold Small
  have : (1000000 : Int) ≤ 10 ^ 60 := by decide +kernel
  omega
theorem numL_le {n : Nat} (h : n < 10 ^ 60) : (TL.numL n).length ≤ 60 := TL.numL_len (by decide) h
theorem sI_len {i : Int} (h : Small i) : (sI i).length ≤ 61 := by
  have ha := small_abs h
  rw [TL.len_tl]
  cases i with
  | ofNat n =>
    have := numL_le (n := n) ha
    rw [show TL.tl (sI (Int.ofNat n)) = TL.numL n from sI_nat n]
    omega
  | negSucc n =>
    have := numL_le (n := n + 1) ha
    rw [show TL.tl (sI (Int.negSucc n)) = _ from sI_neg n, List.length_cons]
    omega
theorem sI_ne (i : Int) : sg (sI i) ≠ [] := by
  cases i with
  | ofNat n => rw [show sg (sI (Int.ofNat n)) = TL.numL n from sI_nat n]; exact TL.numL_ne n
  | negSucc n => rw [sI_neg]; simp
theorem sI_free {k : Nat} (hk : k ≠ 45 ∧ (k < 48 ∨ 57 < k)) (i : Int) : k ∉ sg (sI i) := int_text_free' k hk i
theorem numL_head (n : Nat) : ∃ c r, TL.numL n = c :: r ∧ (c = 48 → r = [] ∧ n = 0) := by
  induction n using Nat.strongRecOn with
  | _ n ih =>
    by_cases h : n < 10
    · exact ⟨48 + n, [], TL.numL_lt h, fun e => ⟨rfl, by omega⟩⟩
    · obtain ⟨c, r, e, z⟩ := ih (n / 10) (by omega)
      refine ⟨c, r ++ [48 + n % 10], by rw [TL.numL_step (by omega), e]; rfl, fun q => ?_⟩
      have := (z q).2
      omega
theorem sI_read {i : Int} (h : Small i) : PySem.intText? (sI i) = some i := by
  have ha := small_abs h
  cases i with
  | ofNat n => exact TL.int_num (by have := numL_le (n := n) ha; omega)
  | negSucc n =>
    have l := numL_le (n := n + 1) ha
    have e := PySem.intText_neg (x := sI (Int.negSucc n)) (sI_neg n) (TL.numL_digits (n + 1)) (TL.numL_ne (n + 1)) (by have := sI_len h; omega)
    rw [e, TL.numL_val]
    rfl
end BF
set_option maxHeartbeats 5000000
namespace BF
open L2 PySem PySem.Spec PyProof.Rows
/-! ## the texts, plain -/
theorem ext_sg {x y : Str} (h : sg x = sg y) : x = y := TL.ext_tl h
theorem sg_join (y : Str) (ws : List Str) : sg (Txt.join y ws) = TL.joinL (sg y) (ws.map sg) := by rw [TL.join_eq]; exact TL.tl_join y ws
theorem joinL_free {s : Nat} {S : List Nat} (hS : s ∉ S) : ∀ {ps : List (List Nat)}, (∀ p ∈ ps, s ∉ p) → s ∉ TL.joinL S ps
  | [], _ => by simp [TL.joinL]
  | [p], h => h p (by simp)
  | p :: q :: r, h => by
    have ih := joinL_free hS (ps := q :: r) fun z hz => h z (List.mem_cons_of_mem _ hz)
    have h0 := h p (by simp)
    show s ∉ p ++ (S ++ TL.joinL S (q :: r))
    simp only [List.mem_append, not_or]
    exact ⟨h0, hS, ih⟩
theorem joinL_len (S : List Nat) : ∀ ps : List (List Nat), (TL.joinL S ps).length ≤ (ps.map (·.length)).sum + ps.length * S.length
  | [] => by simp [TL.joinL]
  | [p] => by simp [TL.joinL]
  | p :: q :: r => by
    have ih := joinL_len S (q :: r)
    show (p ++ (S ++ TL.joinL S (q :: r))).length ≤ _
    simp only [List.length_append, List.map_cons, List.sum_cons, List.length_cons, Nat.succ_mul] at ih ⊢
    omega
theorem join_len (y : Str) (ws : List Str) : (Txt.join y ws).length ≤ (ws.map (·.length)).sum + ws.length * y.length := by
  rw [TL.len_tl]
  show (sg (Txt.join y ws)).length ≤ _
  rw [sg_join]
  refine Nat.le_trans (joinL_len _ _) ?_
  rw [List.map_map, List.length_map, TL.len_tl y]
  refine Nat.add_le_add (Nat.le_of_eq ?_) (Nat.le_refl _)
  congr 1
theorem sum_le_mul {α : Type} {f : α → Nat} {c : Nat} : ∀ {ys : List α}, (∀ y ∈ ys, f y ≤ c) → (ys.map f).sum ≤ ys.length * c
  | [], _ => by simp
  | y :: ys, h => by
    have := sum_le_mul (ys := ys) fun z hz => h z (List.mem_cons_of_mem _ hz)
    have h0 := h y List.mem_cons_self
    simp only [List.map_cons, List.sum_cons, List.length_cons, Nat.succ_mul]
    omega
def headW (p : Option Int) : List Str := match p with
  | none => ["root"]
  | some q => ["under", sI q]
def lineW (p : Option Int) (ks : List Int) : List Str := headW p ++ ks.map sI
def lineM (p : Option Int) (ks : List Int) : Str := Txt.join " " (lineW p ks)
def linesM (st : Sd) : List Str := (st.1.zip st.2).map fun x => lineM x.1 x.2
def textM (st : Sd) : Str := Txt.join "\n" (linesM st)
theorem sg_sp : sg (" " : Str) = [32] := by decide
theorem sg_nl : sg ("\n" : Str) = [10] := by decide
theorem split_sp {ws : List Str} (hne : ws ≠ []) (h : ∀ w ∈ ws, 32 ∉ sg w) : Txt.split (Txt.join " " ws) " " = ws := TL.split_join sg_sp (by decide +kernel) hne h
theorem split_nl {ws : List Str} (hne : ws ≠ []) (h : ∀ w ∈ ws, 10 ∉ sg w) : Txt.split (Txt.join "\n" ws) "\n" = ws := TL.split_join sg_nl (by decide +kernel) hne h
theorem headW_free {s : Nat} (hs : s = 32 ∨ s = 10) (p : Option Int) : ∀ w ∈ headW p, s ∉ sg w := by
  intro w hw
  cases p with
  | none =>
    rw [List.mem_singleton.mp (show w ∈ ([("root" : Str)]) from hw)]
    rcases hs with e | e <;> subst e <;> decide
  | some q =>
    rcases List.mem_cons.mp (show w ∈ [("under" : Str), sI q] from hw) with e | e
    · rw [e]; rcases hs with e | e <;> subst e <;> decide
    · rw [List.mem_singleton.mp e]
      exact sI_free (by rcases hs with e | e <;> subst e <;> decide) q
theorem lineW_free {s : Nat} (hs : s = 32 ∨ s = 10) (p : Option Int) (ks : List Int) : ∀ w ∈ lineW p ks, s ∉ sg w := by
  intro w hw
  rcases List.mem_append.mp hw with q | q
  · exact headW_free hs p w q
  · obtain ⟨k, _, rfl⟩ := List.mem_map.mp q
    exact sI_free (by rcases hs with e | e <;> subst e <;> decide) k
theorem lineW_ne (p : Option Int) (ks : List Int) : lineW p ks ≠ [] := by unfold lineW headW; cases p <;> simp
theorem line_split (p : Option Int) (ks : List Int) : Txt.split (lineM p ks) " " = lineW p ks := split_sp (lineW_ne p ks) (lineW_free (.inl rfl) p ks)
theorem line_free (p : Option Int) (ks : List Int) : 10 ∉ sg (lineM p ks) := by
  unfold lineM
  rw [sg_join, sg_sp]
  refine joinL_free (by decide) fun q hq => ?_
  obtain ⟨w, hw, rfl⟩ := List.mem_map.mp hq
  exact lineW_free (.inr rfl) p ks w hw
theorem text_split {st : Sd} (h : linesM st ≠ []) : Txt.split (textM st) "\n" = linesM st := split_nl h fun w hw => by
  obtain ⟨x, _, rfl⟩ := List.mem_map.mp hw
  exact line_free _ _
/-- what a row may hold -/
structure RowOk (ks : List Int) : Prop where
  so : ks.Pairwise (· < ·)
  ky : ∀ k ∈ ks, is_keyM k = true
  sz : ks.length ≤ 300
theorem key_len {ks : List Int} (h : RowOk ks) : ∀ w ∈ ks.map sI, w.length ≤ 61 := fun w hw => by
  obtain ⟨k, hk, rfl⟩ := List.mem_map.mp hw
  exact sI_len (small_of_key (h.ky k hk))
theorem headW_len {p : Option Int} (h : ∀ q, p = some q → Small q) : ∀ w ∈ headW p, w.length ≤ 61 := fun w hw => by
  cases p with
  | none => rw [List.mem_singleton.mp (show w ∈ ([("root" : Str)]) from hw)]; decide
  | some q =>
    rcases List.mem_cons.mp (show w ∈ [("under" : Str), sI q] from hw) with e | e
    · rw [e]; decide
    · rw [List.mem_singleton.mp e]; exact sI_len (h q rfl)
theorem lineW_le {p : Option Int} (h : ∀ q, p = some q → Small q) {ks : List Int} (hk : RowOk ks) : ∀ w ∈ lineW p ks, w.length ≤ 61 := fun w hw => by
  rcases List.mem_append.mp hw with q | q
  · exact headW_len h w q
  · exact key_len hk w q
theorem lineW_cnt (p : Option Int) {ks : List Int} (hk : RowOk ks) : (lineW p ks).length ≤ 302 := by
  have := hk.sz
  unfold lineW headW
  rw [List.length_append, List.length_map]
  cases p <;> simp <;> omega
theorem line_size {p : Option Int} (h : ∀ q, p = some q → Small q) {ks : List Int} (hk : RowOk ks) : ((lineW p ks).map (·.length)).sum + (lineW p ks).length * (" " : Str).length ≤ 20000 := by
  have a := sum_le_mul (f := fun w : Str => w.length) (lineW_le h hk)
  have b := lineW_cnt p hk
  have c : (" " : Str).length = 1 := by decide
  rw [c]
  have : (lineW p ks).length * 61 ≤ 302 * 61 := Nat.mul_le_mul_right _ b
  omega
theorem line_len {p : Option Int} (h : ∀ q, p = some q → Small q) {ks : List Int} (hk : RowOk ks) : (lineM p ks).length ≤ 20000 := Nat.le_trans (join_len _ _) (line_size h hk)
theorem row_ok {st : Sd} (h : StandOk st) {r : List Int} (hr : r ∈ st.2) : RowOk r := ⟨(h.rows r hr).1, (h.rows r hr).2, Nat.le_trans (le_sum (List.mem_map.mpr ⟨r, hr, rfl⟩)) h.tot⟩
theorem par_small {t : Tr} (h : TreeOk t) {p : Option Int} (hp : p ∈ t) : ∀ q, p = some q → Small q ∧ 0 ≤ q := fun q e => by
  obtain ⟨i, hi⟩ := List.mem_iff_getElem?.mp hp
  have hl := (List.getElem?_eq_some_iff.mp hi).1
  have hg := getD_at (d := none) hi
  by_cases z : i = 0
  · rw [z, h.root] at hg; rw [e] at hg; cases hg
  · obtain ⟨q', e', h0, hlt⟩ := h.up i (by omega) hl
    rw [hg, e] at e'
    cases e'
    exact ⟨small_of_lt h0 hlt (by have := h.l2; omega), h0⟩
theorem zip_mem2 {α β : Type} {xs : List α} {ys : List β} {p : α × β} (h : p ∈ xs.zip ys) : p.1 ∈ xs ∧ p.2 ∈ ys := List.of_mem_zip h
theorem text_size {st : Sd} (h : StandOk st) : ((linesM st).map (·.length)).sum + (linesM st).length * ("\n" : Str).length ≤ 1000000 := by
  have a := sum_le_mul (f := fun w : Str => w.length) (c := 20000) (ys := linesM st) fun w hw => by
    obtain ⟨x, hx, rfl⟩ := List.mem_map.mp hw
    exact line_len (fun q e => (par_small h.tree (zip_mem2 hx).1 q e).1) (row_ok h (zip_mem2 hx).2)
  have b : (linesM st).length ≤ 40 := by
    unfold linesM
    rw [List.length_map, List.length_zip]
    have := h.tree.l2
    omega
  have c : ("\n" : Str).length = 1 := by decide
  rw [c]
  have : (linesM st).length * 20000 ≤ 40 * 20000 := Nat.mul_le_mul_right _ b
  omega
theorem text_len {st : Sd} (h : StandOk st) : (textM st).length ≤ 1000000 := Nat.le_trans (join_len _ _) (text_size h)
theorem lines_ne {st : Sd} (h : StandOk st) : linesM st ≠ [] := fun z => by
  have := congrArg List.length z
  unfold linesM at this
  rw [List.length_map, List.length_zip, h.len, List.length_nil] at this
  have := h.tree.l1
  omega
end BF
set_option maxHeartbeats 5000000
namespace BF
open L2 PySem PySem.Spec PyProof.Rows
/-- a number, written -/
def rSI : Rp Int := ⟨fun n _ v => v = .str (sI n), fun _ h => h⟩
/-- a row of a stand, written -/
def rLine : Rp (Option Int × List Int) := ⟨fun x _ v => v = .str (lineM x.1 x.2), fun _ h => h⟩
/-- a stand, written -/
def rText : Rp Sd := ⟨fun st _ v => v = .str (textM st), fun _ h => h⟩
theorem rl_SI {F : Hp} : ∀ {ks : List Int} {vs : List V}, RL rStr F (ks.map sI) vs → RL rSI F ks vs
  | [], [], _ => trivial
  | [], _ :: _, h => h
  | _ :: _, [], h => h
  | _ :: _, _ :: _, ⟨a, b⟩ => ⟨a, rl_SI b⟩
theorem rl_line {F : Hp} : ∀ {xs : List (Option Int × List Int)} {vs : List V}, RL rStr F (xs.map fun x => lineM x.1 x.2) vs → RL rLine F xs vs
  | [], [], _ => trivial
  | [], _ :: _, h => h
  | _ :: _, [], h => h
  | _ :: _, _ :: _, ⟨a, b⟩ => ⟨a, rl_line b⟩
section
variable {Z : Zx} {X : Cx} {e : Expr} {Γ : List Sl}
theorem EV.si {n : Int} (a : EV Z X e Γ (pd rSI n)) : EV Z X e Γ (pd rStr (sI n)) := a.imp fun _ _ _ _ p => p
theorem EV.is {n : Int} (a : EV Z X e Γ (pd rStr (sI n))) : EV Z X e Γ (pd rSI n) := a.imp fun _ _ _ _ p => p
theorem EV.sis {xs : List Str} {ks : List Int} (a : EV Z X e Γ (pd (rLst rStr) xs)) (h : xs = ks.map sI) : EV Z X e Γ (pd (rLst rSI) ks) := by
  subst h
  exact a.imp fun _ _ _ _ ⟨l, us, ev, hl, r⟩ => ⟨l, us, ev, hl, rl_SI r⟩
theorem EV.lns {ys : List Str} {xs : List (Option Int × List Int)} (a : EV Z X e Γ (pd (rLst rStr) ys)) (h : ys = xs.map fun x => lineM x.1 x.2) : EV Z X e Γ (pd (rLst rLine) xs) := by
  subst h
  exact a.imp fun _ _ _ _ ⟨l, us, ev, hl, r⟩ => ⟨l, us, ev, hl, rl_line r⟩
theorem EV.ln {x : Option Int × List Int} (a : EV Z X e Γ (pd rLine x)) : EV Z X e Γ (pd rStr (lineM x.1 x.2)) := a.imp fun _ _ _ _ p => p
theorem EV.tx {st : Sd} (a : EV Z X e Γ (pd rText st)) : EV Z X e Γ (pd rStr (textM st)) := a.imp fun _ _ _ _ p => p
end
theorem strlen {n : Int} (h : Small n) : n.natAbs.log2 < 1920 := by
  have ha := small_abs h
  by_cases z : n.natAbs = 0
  · rw [z]; decide
  · rw [Nat.log2_lt z]
    exact Nat.lt_trans ha (by decide +kernel)
theorem sg_cut (x : Str) (lo hi : Option Int) : sg (cutS x lo hi) = cut (sg x) lo hi := by
  unfold cutS cut
  rw [TL.len_tl x]
def figsM (n : Int) : Str := if n < 0 then cutS (sI n) (some 1) none else sI n
theorem figs_sg (n : Int) : sg (figsM n) = TL.numL n.natAbs := by
  unfold figsM
  cases n with
  | ofNat n =>
    rw [if_neg (by simp)]
    exact sI_nat n
  | negSucc n =>
    rw [if_pos (Int.negSucc_lt_zero n), sg_cut, sI_neg, cut_from _ (by decide)]
    rfl
theorem signs_mem {x y : Str} (h : y ∈ signs x) : ∃ c ∈ sg x, y = ⟨#[c]⟩ := by
  obtain ⟨c, hc, rfl⟩ := List.mem_map.mp h
  exact ⟨c, hc, rfl⟩
def outB (y : Str) : Bool := !decide (y.cps.toList.headD 0 ∈ (("0123456789" : Str)).cps.toList)
theorem first_neg (n : Int) : (cutS (sI n) none (some 1) = "-") ↔ n < 0 := by
  have e : sg ("-" : Str) = [45] := by decide
  constructor
  · intro h
    have := congrArg sg h
    rw [sg_cut, cut_to _ (by decide), e] at this
    cases n with
    | ofNat n =>
      exfalso
      rw [show sg (sI (Int.ofNat n)) = TL.numL n from sI_nat n] at this
      obtain ⟨c, r, ec, _⟩ := numL_head n
      rw [ec] at this
      have hc := TL.numL_digits n c (by rw [ec]; simp)
      simp at this
      omega
    | negSucc n => exact Int.negSucc_lt_zero n
  · intro h
    apply ext_sg
    rw [sg_cut, cut_to _ (by decide), e]
    cases n with
    | ofNat n => exact absurd (show (n : Int) < 0 from h) (by omega)
    | negSucc n => rw [sI_neg]; rfl
theorem digit_in {c : Nat} (h : 48 ≤ c ∧ c ≤ 57) : c ∈ (("0123456789" : Str)).cps.toList := by
  have e : (("0123456789" : Str)).cps.toList = [48, 49, 50, 51, 52, 53, 54, 55, 56, 57] := by decide +kernel
  rw [e]
  obtain ⟨h1, h2⟩ := h
  simp only [List.mem_cons, List.not_mem_nil, or_false]
  omega
section
variable {Z : Zx}
theorem c_number_read (E : Top Z) (D : Ds Z) : Cal Z "number_read" 2 (sp1 Z.T (pd rSI) Small (fun n => pd (rOpt rInt) (some n))) :=
  cal1 ["word", "figures", "sign"] [0, 1] ["len", "MOST_FIGURES", "int"] 2 D.number_read (fun _ _ _ _ _ _ us hl => match us, hl with | [_], _ => rfl) fun X B n hp => by
    have hl := sI_len hp
    have hfl : (figsM n).length ≤ 60 := by rw [TL.len_tl, show TL.tl (figsM n) = _ from figs_sg n]; exact numL_le (small_abs hp)
    refine dos_cons (do_set B 1 (ev_var B 0).si ?_)
    refine dos_mid [.da rSI n, .da rStr (figsM n), .un] ?_ ?_
    · refine do_if (et_cmp (ev_slS (ev_var B 0).si eo_no (eo_so ev_int) (sz_le (by omega))) ev_str (od_eq sc_str)) (fun h1 => ?_) (fun h1 => ?_)
      · have h1 := (first_neg n).mp (of_decide_eq_true h1)
        refine dos_cons (do_set B 1 (ev_slS (ev_var B 0).si (eo_so ev_int) eo_no (sz_le (by omega))) ?_)
        refine dos_nil ?_
        unfold figsM
        rw [if_pos h1]
        rfl
      · have h1 : ¬ n < 0 := fun z => of_decide_eq_false h1 ((first_neg n).mpr z)
        refine dos_nil ?_
        unfold figsM
        rw [if_neg h1]
        rfl
    obtain ⟨c, r, ec, hz⟩ := numL_head n.natAbs
    have hfs : sg (figsM n) = c :: r := (figs_sg n).trans ec
    have hix : atI (figsM n).cps.toList 0 = some c := by
      show atI (sg (figsM n)) 0 = some c
      rw [hfs]; unfold atI ixN; simp
    refine dos_cons (do_if (et_or2 (et_cmp (ev_var B 1) ev_str (od_eq sc_str)) fun h2 => (et_and2 (et_cmp (ev_ixS (ev_var B 1) ev_int (sz_le (by omega)) hix) ev_str (od_eq sc_str)) fun h3 => (et_cmp (ev_var B 0).si ev_str (od_ne sc_str)))) (fun h4 => ?_) (fun h4 => ?_))
    · exfalso
      rw [Bool.or_eq_true, Bool.and_eq_true] at h4
      rcases h4 with h4 | ⟨h4, h5⟩
      · have := congrArg sg (of_decide_eq_true h4)
        rw [hfs] at this
        rw [show sg ("" : Str) = [] by decide] at this
        cases this
      · have h6 : (⟨#[c]⟩ : Str) = "0" := of_decide_eq_true h4
        have h7 := congrArg sg h6
        have e0 : sg ("0" : Str) = [48] := by decide
        rw [e0] at h7
        have h7 : [c] = [48] := h7
        have hc : c = 48 := by simpa using h7
        have n0 := (hz hc).2
        have : n = 0 := by omega
        subst this
        simp only [Bool.not_eq_true', decide_eq_false_iff_not] at h5
        exact h5 (by decide +kernel)
    refine dos_nil ?_
    refine dos_cons (do_if (et_or2 (et_cmp (ev_lenS B E (ev_var B 1) (sz_le (by omega))) (ev_gint B E.mf) od_gt) fun h5 => (et_cmp (ev_lenL B E ((ev_lcIf (b := outB) (f := fun x => x) B [("sign", 2)] [2] ["FIGURES"] (gi_str (ev_var B 1)) (by unfold signs; rw [List.length_map]; rw [TL.len_tl] at hfl; have : (figsM n).cps.toList.length ≤ 60 := hfl; omega) (fun X' B' => (ga_name B' 2)) (fun X' B' x hx => by
        obtain ⟨c, _, rfl⟩ := signs_mem hx
        exact et_cmp (ev_var B' 2) (ev_gstr B' E.figs) od_notInS) (fun X' B' x hx hb => (ev_var B' 2)))).l) ev_int od_gt)) (fun h6 => ?_) (fun h6 => ?_))
    · exfalso
      rw [Bool.or_eq_true] at h6
      rcases h6 with h6 | h6
      · have := of_decide_eq_true h6
        omega
      · have h7 := of_decide_eq_true h6
        have : (signs (figsM n)).filter outB = [] := by
          rw [List.filter_eq_nil_iff]
          intro y hy
          obtain ⟨c, hc, rfl⟩ := signs_mem hy
          rw [figs_sg] at hc
          have hd := TL.numL_digits _ c hc
          have := digit_in (c := c) (by omega)
          unfold outB
          simp only [List.headD_cons, Bool.not_eq_true', decide_eq_false_iff_not]
          intro z
          exact of_decide_eq_false z this
        rw [this] at h7
        simp at h7
    refine dos_nil ?_
    exact dos_one (do_ret ((ev_intS B E (ev_var B 0).si (sI_read hp) (by omega)).some (fun F v e => by rw [show v = V.int n from e]; intro z; cases z)) (rt_eq rfl))
theorem c_read_keys (E : Top Z) (D : Ds Z) : Cal Z "read_keys" 3 (sp1 Z.T (pd (rLst rSI)) RowOk (fun ks => pd (rOpt (rLst rInt)) (some ks))) :=
  cal1 ["words", "found", "word", "key"] [0, 1, 2, 3] ["number_read", "len"] 3 D.read_keys (fun _ _ _ _ _ _ us hl => match us, hl with | [_], _ => rfl) fun X B ks hp => by
    have hz := hp.sz
    refine dos_cons (do_new B 1 rInt ?_)
    refine dos_cons (do_for B (gi_l (ev_var B 0)) (ga_name B 2) (fun i Γ => i ≤ ks.length ∧ Γ = [.da (rLst rSI) ks, .mu (mLst rInt) (ks.take i), .un, .un]) ⟨Nat.zero_le _, rfl⟩ (fun i x Γ' hx hI => ?_) (fun Γ' hI => ?_))
    · obtain ⟨hi, rfl⟩ := hI
      have hlt := (List.getElem?_eq_some_iff.mp hx).1
      have hm := List.mem_of_getElem? hx
      refine dos_cons (do_set B 3 (ev_call1 B (c_number_read E D) (ev_var B 2) (small_of_key (hp.ky x hm))) ?_)
      refine dos_cons (do_if (et_or2 (et_cmp (ev_var B 3) ev_non od_isN) fun h1 => (et_and2 (et_cmp (ev_lenL B E (ev_own B 1)) ev_int od_gt) fun h2 => (et_cmp ((ev_var B 3).so rfl) (ev_last (x := (ks.take i).getLastD 0) (ev_own B 1) (ev_neg ev_int) (by
        have h2 := of_decide_eq_true h2
        have hne : ks.take i ≠ [] := fun z => by rw [z] at h2; simp at h2
        rw [List.getLast?_eq_some_getLast hne, List.getLastD_eq_getLast?, List.getLast?_eq_some_getLast hne]; rfl)) od_le))) (fun h3 => ?_) (fun h3 => ?_))
      · exfalso
        rw [Bool.or_eq_true, Bool.and_eq_true] at h3
        rcases h3 with h3 | ⟨h3, h4⟩
        · cases h3
        · have h3 := of_decide_eq_true h3
          have h4 := of_decide_eq_true h4
          have hi0 : 0 < i := by
            rw [List.length_take] at h3; omega
          have hla : (ks.take i).getLastD 0 = ks[i - 1] := by
            have hne : ks.take i ≠ [] := fun z => by rw [z] at h3; simp at h3
            rw [List.getLastD_eq_getLast?, List.getLast?_eq_getElem?, List.length_take, List.getElem?_take_of_lt (by omega), show min i ks.length - 1 = i - 1 by omega, List.getElem?_eq_getElem (by omega)]
            rfl
          rw [hla] at h4
          have hxe : ks[i] = x := (List.getElem?_eq_some_iff.mp hx).2
          have := List.pairwise_iff_getElem.mp hp.so (i - 1) i (by omega) hlt (by omega)
          rw [hxe] at this
          omega
      refine dos_nil ?_
      refine dos_cons (do_app B 1 ((ev_var B 3).so rfl) ?_ ?_)
      · exact sz_lt (by rw [List.length_take]; omega)
      refine dos_un 2 (dos_un 3 (dos_nil ⟨hlt, ?_⟩))
      rw [List.take_succ, hx]
      rfl
    obtain ⟨hi, rfl⟩ := hI
    rw [List.take_length]
    refine dos_fzL 1 ?_
    exact dos_one (do_ret (EV.some (R := rLst rInt) (ev_var B 1) (fun F v ⟨a, _, e, _⟩ => by rw [e]; intro z; cases z)) (rt_eq rfl))
end
end BF
set_option maxHeartbeats 5000000
namespace BF
open L2 PySem PySem.Spec PyProof.Rows
theorem drop1_line (ks : List Int) : cut (lineW none ks) (some 1) none = ks.map sI := by
  rw [cut_from _ (by decide)]; rfl
theorem drop2_line (q : Int) (ks : List Int) : cut (lineW (some q) ks) (some 2) none = ks.map sI := by
  rw [cut_from _ (by decide)]; rfl
theorem t2_some {α β : Type} {R : Rp α} {S : Rp β} {x : α × β} : ∀ F v, (rT2 R S).rel x F v → v ≠ .non := fun F v ⟨a, _, _, e, _⟩ => by rw [e]; intro z; cases z
theorem len_sum_take {rows : List (List Int)} {i : Nat} {r : List Int} (h : rows[i]? = some r) : ((rows.take (i + 1)).map (·.length)).sum = ((rows.take i).map (·.length)).sum + r.length := by
  rw [map_step _ h, List.sum_append]; simp
theorem sum_take_le (rows : List (List Int)) (i : Nat) : ((rows.take i).map (·.length)).sum ≤ (rows.map (·.length)).sum := by
  conv => rhs; rw [← List.take_append_drop i rows]
  rw [List.map_append, List.sum_append]
  omega
theorem take_step {α : Type} {xs : List α} {i : Nat} {x : α} (h : xs[i]? = some x) : xs.take (i + 1) = xs.take i ++ [x] := by rw [List.take_succ, h]; rfl
section
variable {Z : Zx}
theorem c_read_line (E : Top Z) (D : Ds Z) : Cal Z "read_line" 4 (sp2 Z.T (pd rLine) (pd rInt) (fun x a => RowOk x.2 ∧ (a = 0 → x.1 = none) ∧ (a ≠ 0 → ∃ q, x.1 = some q ∧ 0 ≤ q ∧ q < a ∧ Small q)) (fun x a => pd (rOpt (rT2 (rOpt rInt) (rLst rInt))) (some x))) :=
  cal2 ["line", "at", "words", "parent", "keys"] [0, 1, 2, 3, 4] ["read_keys", "len", "number_read"] 3 D.read_line (fun _ _ _ _ _ _ us hl => match us, hl with | [_, _], _ => rfl) fun X B x a hp => by
    obtain ⟨p, ks⟩ := x
    obtain ⟨hr, h0, h1⟩ := hp
    have hsm : ∀ q, p = some q → Small q := fun q e => by
      by_cases z : a = 0
      · have := h0 z
        simp only at this
        rw [this] at e; cases e
      · obtain ⟨q', e', _, _, hs⟩ := h1 z
        simp only at e'
        rw [e] at e'; cases e'; exact hs
    have hll : (lineM p ks).length ≤ 20000 := line_len hsm hr
    refine dos_cons (do_set B 2 ((ev_split B (ev_var B 0).ln ev_str (by decide +kernel) (by show (lineM p ks).length + 2 ≤ _; rw [sizeLine_eq]; omega)).as (line_split p ks)) ?_)
    refine dos_mid [.da rLine (p, ks), .da rInt a, .da (rLst rStr) (lineW p ks), .da (rOpt rInt) p, .da (rOpt (rLst rInt)) (some ks)] ?_ ?_
    · refine do_if (et_cmp (ev_var B 1) ev_int (od_eq sc_int)) (fun h => ?_) (fun h => ?_)
      · have hpn : p = none := h0 (of_decide_eq_true h)
        subst hpn
        refine dos_cons (do_set B 3 (ev_nonO (R := rInt)) ?_)
        refine dos_cons (do_if (et_cmp (ev_ixL (x := ("root" : Str)) ((ev_var B 2)).l ev_int (by decide) rfl) ev_str (od_ne sc_str)) (fun h2 => ?_) (fun h2 => ?_))
        · simp at h2
        refine dos_nil ?_
        refine dos_cons (do_set B 4 (ev_call1 B (c_read_keys E D) ((ev_slL ((ev_var B 2)).l (eo_so ev_int) eo_no).sis (drop1_line ks)) hr) ?_)
        exact dos_nil rfl
      · obtain ⟨q, e, q0, ql, qs⟩ := h1 (of_decide_eq_false h)
        simp only at e
        subst e
        refine dos_cons (do_if (et_or2 (et_cmp (ev_ixL (x := ("under" : Str)) ((ev_var B 2)).l ev_int (by decide) rfl) ev_str (od_ne sc_str)) fun h3 => (et_cmp (ev_lenL B E ((ev_var B 2)).l) ev_int od_lt)) (fun h4 => ?_) (fun h4 => ?_))
        · exfalso
          rw [Bool.or_eq_true] at h4
          rcases h4 with h4 | h4
          · simp at h4
          · have := of_decide_eq_true h4
            simp [lineW, headW] at this
            omega
        refine dos_nil ?_
        refine dos_cons (do_set B 3 (ev_call1 B (c_number_read E D) (ev_ixL (x := sI q) ((ev_var B 2)).l ev_int (by decide) rfl).is qs) ?_)
        refine dos_cons (do_if (et_or2 (et_cmp (ev_var B 3) ev_non od_isN) fun h5 => (et_not (et_chain ev_int ((ev_var B 3).so rfl) (ev_var B 1) od_le od_lt))) (fun h6 => ?_) (fun h6 => ?_))
        · exfalso
          rw [decide_eq_true q0, decide_eq_true ql] at h6
          cases h6
        refine dos_nil ?_
        refine dos_cons (do_set B 4 (ev_call1 B (c_read_keys E D) ((ev_slL ((ev_var B 2)).l (eo_so ev_int) eo_no).sis (drop2_line q ks)) hr) ?_)
        exact dos_nil rfl
    refine dos_cons (do_if (et_cmp (ev_var B 4) ev_non od_isN) (fun h7 => ?_) (fun h7 => ?_))
    · cases h7
    refine dos_nil ?_
    exact dos_one (do_ret (EV.some (ev_t2 (ev_var B 3) ((ev_var B 4).so rfl)) t2_some) (rt_eq rfl))
theorem c_read_stand (E : Top Z) (D : Ds Z) : Cal Z "read_stand" 5 (sp1 Z.T (pd rText) StandOk (fun st => pd rSd st)) :=
  cal1 ["text", "parents", "rows", "total", "at", "line", "read"] [0, 1, 2, 3, 4, 5, 6] ["isinstance", "str", "NoText", "enumerate", "read_line", "MOST_KNOTS_texts", "len", "MOST_KEYS_texts", "stand_of", "tree_of"] 6 D.read_stand (fun _ _ _ _ _ _ us hl => match us, hl with | [_], _ => rfl) fun X B st hp => by
    have hl2 := hp.tree.l2
    have hlen := hp.len
    have htl := text_len hp
    refine dos_cons (do_if (et_not (et_val (ev_isi (u := "str") (b := true) B E (ev_var B 0).tx ty_str (by decide +kernel)))) (fun h1 => ?_) (fun h1 => ?_))
    · cases h1
    refine dos_nil ?_
    refine dos_cons (do_new B 1 (rOpt rInt) ?_)
    refine dos_cons (do_new B 2 (rLst rInt) ?_)
    refine dos_cons (do_set B 3 ev_int ?_)
    refine dos_cons (do_for B (gi_enum B E ((ev_split B (ev_var B 0).tx ev_str (by decide +kernel) (by rw [sizeLine_eq]; omega)).lns (text_split (lines_ne hp)))) (ga_t2 B (ga_name B 4) (ga_name B 5)) (fun i Γ => i ≤ st.1.length ∧ Γ = [.da rText st, .mu (mLst (rOpt rInt)) (st.1.take i), .mu (mLst (rLst rInt)) (st.2.take i), .da rInt (((st.2.take i).map (·.length)).sum : Nat), .un, .un, .un]) ⟨Nat.zero_le _, rfl⟩ (fun i x Γ' hx hI => ?_) (fun Γ' hI => ?_))
    · obtain ⟨hi, rfl⟩ := hI
      obtain ⟨e1, e2⟩ := enumI_at hx
      obtain ⟨f1, f2⟩ := zip_at e2
      have hlt := (List.getElem?_eq_some_iff.mp f1).1
      have hrow := row_ok hp (List.mem_of_getElem? f2)
      have hg := getD_at (d := none) f1
      have hs1 := len_sum_take f2
      have hs2 := sum_take_le st.2 (i + 1)
      have htot := hp.tot
      refine dos_cons (do_set B 6 (ev_call2 B (c_read_line E D) (ev_var B 5) (ev_var B 4) ⟨hrow, fun z => ?_, fun z => ?_⟩) ?_)
      · have : i = 0 := by omega
        rw [this, hp.tree.root] at hg
        exact hg.symm
      · obtain ⟨q, e, q0, ql⟩ := hp.tree.up i (by omega) hlt
        rw [hg] at e
        exact ⟨q, e, q0, by omega, small_of_lt q0 ql (by omega)⟩
      refine dos_cons (do_if (et_w (ew_or (et_cmp (ev_var B 6) ev_non od_isN) fun h2 => (ew_or (et_cmp (ev_var B 4) (ev_gint B E.mkX) od_ge) fun h3 => (ew_or1 (et_cmp (ev_bin (ev_var B 3) (ev_lenL B E ((ev_snd ((ev_var B 6).so rfl))).l) od_add) (ev_gint B E.meX) od_gt))))) (fun h4 => ?_) (fun h4 => ?_))
      · exfalso
        rw [Bool.or_eq_true, Bool.or_eq_true] at h4
        rcases h4 with h4 | h4 | h4
        · cases h4
        · have := of_decide_eq_true h4; omega
        · have := of_decide_eq_true h4; omega
      refine dos_nil ?_
      refine dos_cons (do_app B 1 (ev_fst ((ev_var B 6).so rfl)) ?_ ?_)
      · exact sz_lt (by rw [List.length_take]; omega)
      refine dos_cons (do_app B 2 (ev_snd ((ev_var B 6).so rfl)) ?_ ?_)
      · exact sz_lt (by rw [List.length_take]; omega)
      refine dos_cons (do_set B 3 (ev_bin (ev_var B 3) (ev_lenL B E ((ev_snd ((ev_var B 6).so rfl))).l) od_add) ?_)
      refine dos_un 4 (dos_un 5 (dos_un 6 (dos_nil ⟨hlt, ?_⟩)))
      rw [hs1, take_step f1, take_step f2, Int.natCast_add]
      rfl
    obtain ⟨hi, rfl⟩ := hI
    rw [enumI_len, List.length_zip, hlen, Nat.min_self, List.take_length]
    have ht2 : st.2.take st.1.length = st.2 := by rw [← hlen, List.take_length]
    rw [ht2]
    refine dos_fzL 1 (dos_fzL 2 ?_)
    exact dos_one (do_ret (ev_call2 B (c_stand_of E D) (ev_call1 B (c_tree_of E D) (ev_var B 1) hp.tree) (ev_var B 2) hp) (rt_eq rfl))
theorem c_show_stand (E : Top Z) (D : Ds Z) : Cal Z "show_stand" 1 (sp1 Z.T (pd rSd) StandOk (fun st => pd rStr (textM st))) :=
  cal1 ["stand", "lines", "parent", "row", "words", "key"] [0, 1, 2, 3, 4] ["zip", "str"] 5 D.show_stand (fun _ _ _ _ _ _ us hl => match us, hl with | [_], _ => rfl) fun X B st hp => by
    have hl2 := hp.tree.l2
    refine dos_cons (do_new B 1 rStr ?_)
    refine dos_cons (do_for B (gi_zipT B E (ev_fst (ev_var B 0)) (ev_snd (ev_var B 0))) (ga_t2 B (ga_name B 2) (ga_name B 3)) (fun i Γ => i ≤ (st.1.zip st.2).length ∧ Γ = [.da rSd st, .mu (mLst rStr) (((st.1.zip st.2).take i).map fun x => lineM x.1 x.2), .un, .un, .un, .un]) ⟨Nat.zero_le _, rfl⟩ (fun i x Γ' hx hI => ?_) (fun Γ' hI => ?_))
    · obtain ⟨hi, rfl⟩ := hI
      have hlt := (List.getElem?_eq_some_iff.mp hx).1
      have hm := List.mem_of_getElem? hx
      obtain ⟨m1, m2⟩ := zip_mem2 hm
      have hrow := row_ok hp m2
      have hsm : ∀ q, x.1 = some q → Small q := fun q e => (par_small hp.tree m1 q e).1
      have hsz := line_size hsm hrow
      have hcnt := lineW_cnt x.1 hrow
      have rz := hrow.sz
      rw [List.length_zip] at hlt
      refine dos_cons (do_set B 4 (ev_list (.cons ev_str .nil)) ?_)
      refine dos_mid [.da rSd st, .mu (mLst rStr) (((st.1.zip st.2).take i).map fun x => lineM x.1 x.2), .da (rOpt rInt) x.1, .da (rTpl rInt) x.2, .da (rLst rStr) (headW x.1), .un] ?_ ?_
      · refine do_if (et_cmp (ev_var B 2) ev_non od_notN) (fun h1 => ?_) (fun h1 => ?_)
        · obtain ⟨q, e⟩ := Option.isSome_iff_exists.mp h1
          refine dos_cons (do_set B 4 (ev_list (.cons ev_str (.cons (ev_strI B E ((ev_var B 2).so e) (strlen (hsm q e))) .nil))) ?_)
          refine dos_nil ?_
          rw [e]
          rfl
        · have e : x.1 = none := by
            cases z : x.1 with
            | none => rfl
            | some q => rw [z] at h1; cases h1
          refine dos_nil ?_
          rw [e]
          rfl
      refine dos_cons (do_app B 1 (ev_join B ev_str ((ev_bin ((ev_var B 4)).l ((ev_lc (f := sI) B [("key", 5)] [5] ["str"] (gi_t (ev_var B 3)) (by omega) (fun X' B' => (ga_name B' 5)) (fun X' B' k hk => (ev_strI B' E (ev_var B' 5) (strlen (small_of_key (hrow.ky k hk))))))).l (od_cat (sz_le (by
          have := hcnt
          unfold lineW at this
          rw [List.length_append] at this
          omega))))).l (show ((lineW x.1 x.2).map (·.length)).sum + (lineW x.1 x.2).length * (" " : Str).length ≤ _ by omega)) ?_ ?_)
      · refine sz_lt ?_
        rw [List.length_map]
        have := List.length_take_le i (st.1.zip st.2)
        omega
      refine dos_un 2 (dos_un 3 (dos_un 4 (dos_nil ⟨by rw [List.length_zip]; omega, ?_⟩)))
      rw [map_step _ hx]
      rfl
    obtain ⟨hi, rfl⟩ := hI
    rw [List.take_length]
    exact dos_one (do_ret (ev_join B ev_str (ev_own B 1) (show ((linesM st).map (·.length)).sum + (linesM st).length * ("\n" : Str).length ≤ _ by have := text_size hp; omega)) (rt_eq rfl))
end
end BF
set_option maxHeartbeats 5000000
namespace BF
open L2 PySem PySem.Spec PyProof.Rows
section
variable {Z : Zx} {X : Cx} {e e1 e2 : Expr} {Γ : List Sl} {P P1 P2 : Pv} {N : List Str} {sc : Scope} {vs ws : List Nat} {gs : List Str} {k : Nat} {pos p : Pos}
/-- a sign, some times -/
theorem od_mulS {c : Nat} {i : Int} (h : i ≤ 1000) (hl : -(2 ^ 63 : Int) ≤ i) : OD Z X (binaryOp .Mult) (pd rStr ⟨#[c]⟩) (pd rInt i) (pd rStr ⟨(List.replicate i.toNat c).toArray⟩) := by
  refine .v (r := fun x y H Q => x = .str ⟨#[c]⟩ ∧ y = .int i ∧ Q (.str ⟨(List.replicate i.toNat c).toArray⟩) H) ?_ fun F H v w o hv hw Q q => ⟨hv, hw, q _ F H (Grow.refl o) rfl⟩
  intro pins s σ H x y v u Q I rx ry h
  obtain ⟨rfl, rfl, q⟩ := h
  obtain ⟨t, rfl⟩ := rx
  obtain ⟨t2, rfl⟩ := ry
  have e : Txt.mul ⟨#[c]⟩ i = ⟨(List.replicate i.toNat c).toArray⟩ := TL.ext_tl (by rw [show TL.tl (Txt.mul ⟨#[c]⟩ i) = _ from mul_one_list c i])
  refine PySem.SB.mul (mulOk_of 1 1000 (Nat.le_refl 1) (by omega) hl (by decide) (by decide)) fun t' k => ⟨.str ⟨(List.replicate i.toNat c).toArray⟩, H, I.tok _, ⟨t', by rw [e]⟩, q⟩
/-- a global that refers -/
abbrev pRef (a : Addr) : Pv := ⟨fun _ _ v => v = .ref a, fun _ h => h⟩
theorem ev_gref (B : Bd Z X N sc vs ws gs k) {n : Str} {a : Addr} (hm : Z.mg n = some (.ref a)) (hg : n ∈ gs := by decide +kernel) : EV Z X (.Name n pos) Γ (pRef a) :=
  EV.of (pe_glob (v := .ref a) (B.gx hg) (by rw [B.mg]; exact hm) rfl (plainName_ok (B.nm.pg n hg)).1) fun _ F _ H _ _ _ o _ q => q _ F H (Grow.refl o) rfl
def shapesL : List (Str × Str) := [("show", ""), ("weight", ""), ("put", "hk"), ("out", "hk"), ("hang", "h"), ("full", "h"), ("find", "kw"), ("has", "kw"), ("above", "kw"), ("below", "kw"), ("between", "kkw")]
/-- the table of the rows' shapes -/
structure Shp (Z : Zx) (d : Addr) : Prop where
  mg : Z.mg "SHAPES" = some (.ref d)
  kd : ∃ es n, KDict Z.K Z.w d es n
  at_ : ∀ q ∈ shapesL, ∃ u, PySem.W.nsIn Z.K d q.1 = some (some u) ∧ RelV (.str q.2) u
theorem od_notSh (B : Bd Z X N sc vs ws gs k) {d : Addr} (S : Shp Z d) {q : Str × Str} (hq : q ∈ shapesL) : OD Z X (compareOp .NotIn) (pd rStr q.1) (pRef d) (pd rBool false) := by
  obtain ⟨es, n, D⟩ := S.kd
  have D2 : KDict X.K X.w d es n := by rw [B.K, B.w]; exact D
  obtain ⟨u, hu, _⟩ := S.at_ q hq
  exact .v (op_notIn_kd D2) fun F H v w o hv hw Q q' => ⟨q.1, some u, hv, hw, by rw [B.K]; exact hu, q' _ F H (Grow.refl o) rfl⟩
theorem ev_shape (B : Bd Z X N sc vs ws gs k) {d : Addr} (S : Shp Z d) {q : Str × Str} (hq : q ∈ shapesL) (a : EV Z X e1 Γ (pRef d)) (b : EV Z X e2 Γ (pd rStr q.1)) (hs : NoSl e2 := by exact fun _ _ => rfl) : EV Z X (.Subscript e1 e2 pos) Γ (pd rStr q.2) := by
  obtain ⟨es, n, D⟩ := S.kd
  have D2 : KDict X.K X.w d es n := by rw [B.K, B.w]; exact D
  obtain ⟨u, hu, ru⟩ := S.at_ q hq
  intro pins s σ F G H Wr fts Q I o Sa q'
  refine subD_of PySem.F.slot_dict_getitem.lookup hs (thn (a.pe.run pins s σ H (fun v H1 => ∃ F1, Grow Z.T nowhere F H F1 H1 ∧ v = .ref d) I ⟨F, G, Wr, fts, o, Sa, fun v F1 H1 g1 p1 => ⟨F1, g1, p1⟩⟩) fun v1 s1 ⟨x, H1, I1, r1, F1, g1, ex⟩ => thn (b.pe.run pins s1 σ H1 (fun v H2 => ∃ F2, Grow Z.T nowhere F1 H1 F2 H2 ∧ v = .str q.1) I1 ⟨F1, G, Wr, fts, g1.ok, Sa.grow g1, fun v F2 H2 g2 p2 => ⟨F2, g2, p2⟩⟩) fun v2 s2 ⟨y, H2, I2, r2, F2, g2, ey⟩ => ?_)
  subst ex ey
  obtain rfl : v1 = Value.ref d := r1
  exact ⟨kd_type D2 I2, op_item_kd D2 pins s2 σ H2 (.ref d) (.str q.1) _ _ Q I2 rfl r2 ⟨q.1, u, .str q.2, rfl, rfl, by rw [B.K]; exact hu, ru, q' _ F2 H2 (g1.step g2) rfl⟩⟩
end
end BF
set_option maxHeartbeats 5000000
namespace BF
open L2 PySem PySem.Spec PyProof.Rows
/-! ## the answers' texts -/
def Asc (x : Str) : Prop := ∀ c ∈ sg x, c < 128
theorem asc_ok {x : Str} (h : Asc x) : PyData.strOk x = true := by
  unfold PyData.strOk
  rw [Array.all_eq_true_iff_forall_mem]
  intro c hc
  have := h c (Array.mem_toList_iff.mpr hc)
  exact decide_eq_true (by omega)
theorem asc_lit {x : Str} (h : (sg x).all (fun c => decide (c < 128)) = true) : Asc x := fun c hc => of_decide_eq_true (List.all_eq_true.mp h c hc)
theorem asc_num (n : Nat) : ∀ c ∈ TL.numL n, c < 128 := fun c hc => by have := TL.numL_digits n c hc; omega
theorem asc_sI (i : Int) : Asc (sI i) := by
  intro c hc
  cases i with
  | ofNat n => rw [show sg (sI (Int.ofNat n)) = TL.numL n from sI_nat n] at hc; exact asc_num n c hc
  | negSucc n =>
    rw [sI_neg] at hc
    rcases List.mem_cons.mp hc with e | e
    · omega
    · exact asc_num _ c e
theorem asc_app {x y : Str} (hx : Asc x) (hy : Asc y) : Asc (x ++ y) := by
  intro c hc
  rw [show sg (x ++ y) = sg x ++ sg y from TL.tl_append x y] at hc
  rcases List.mem_append.mp hc with q | q
  · exact hx c q
  · exact hy c q
theorem asc_join {y : Str} (hy : Asc y) {ws : List Str} (h : ∀ w ∈ ws, Asc w) : Asc (Txt.join y ws) := by
  have : ∀ (S : List Nat) (ps : List (List Nat)), (∀ c ∈ S, c < 128) → (∀ p ∈ ps, ∀ c ∈ p, c < 128) → ∀ c ∈ TL.joinL S ps, c < 128 := by
    intro S ps hS
    induction ps with
    | nil => intro _ c hc; simp [TL.joinL] at hc
    | cons p r ih =>
      intro hp c hc
      cases r with
      | nil => exact hp p (by simp) c hc
      | cons q r =>
        rcases List.mem_append.mp (show c ∈ p ++ (S ++ TL.joinL S (q :: r)) from hc) with z | z
        · exact hp p (by simp) c z
        · rcases List.mem_append.mp z with z | z
          · exact hS c z
          · exact ih (fun p' h' => hp p' (List.mem_cons_of_mem _ h')) c z
  intro c hc
  rw [sg_join] at hc
  refine this (sg y) (ws.map sg) hy (fun p hp => ?_) c hc
  obtain ⟨w, hw, rfl⟩ := List.mem_map.mp hp
  exact h w hw
def joinI (y : Str) (xs : List Int) : Str := Txt.join y (xs.map sI)
def wbI (xs : List Int) (no : Str) : Str := if xs = [] then no else joinI " " xs
def wbS (xs : List Str) (no : Str) : Str := if xs = [] then no else Txt.join " " xs
def entT (e : En) : Str := sI e.1 ++ ":" ++ sI e.2
def eoN (o : Option En) : Str := match o with
  | none => "none"
  | some e => entT e
def wcM (ks : List Int) : Str := if ks = [] then "-" else joinI "," ks
structure IsOk (xs : List Int) : Prop where
  sm : ∀ x ∈ xs, Small x
  sz : xs.length ≤ 1000
structure StOk (xs : List Str) : Prop where
  ln : (xs.map (·.length)).sum + xs.length ≤ 16777216
  as : ∀ x ∈ xs, Asc x
  sz : xs.length ≤ 1000
def EnS (e : En) : Prop := Small e.1 ∧ Small e.2
theorem joinI_size {xs : List Int} (h : IsOk xs) {y : Str} (hy : y.length = 1) : ((xs.map sI).map (·.length)).sum + (xs.map sI).length * y.length ≤ 70000 := by
  have a := sum_le_mul (f := fun w : Str => w.length) (c := 61) (ys := xs.map sI) fun w hw => by
    obtain ⟨x, hx, rfl⟩ := List.mem_map.mp hw
    exact sI_len (h.sm x hx)
  have b := h.sz
  rw [hy]
  rw [List.length_map] at a ⊢
  have : xs.length * 61 ≤ 1000 * 61 := Nat.mul_le_mul_right _ b
  omega
theorem joinI_len {xs : List Int} (h : IsOk xs) {y : Str} (hy : y.length = 1) : (joinI y xs).length ≤ 70000 := Nat.le_trans (join_len _ _) (joinI_size h hy)
theorem joinS_size {xs : List Str} (h : StOk xs) {y : Str} (hy : y.length = 1) : (xs.map (·.length)).sum + xs.length * y.length ≤ 16777216 := by
  have a := h.ln
  rw [hy]
  omega
theorem stOk_by {xs : List Str} {c n : Nat} (h1 : ∀ x ∈ xs, x.length ≤ c) (h2 : ∀ x ∈ xs, Asc x) (h3 : xs.length ≤ n) (h4 : n * c + n ≤ 16777216) (h5 : n ≤ 1000) : StOk xs := by
  have a := sum_le_mul (f := fun w : Str => w.length) h1
  have b : xs.length * c ≤ n * c := Nat.mul_le_mul_right _ h3
  exact ⟨by omega, h2, by omega⟩
theorem entT_len {e : En} (h : EnS e) : (entT e).length ≤ 200 := by
  have a := sI_len h.1
  have b := sI_len h.2
  unfold entT
  rw [TL.len_tl, TL.tl_append, TL.tl_append, List.length_append, List.length_append, ← TL.len_tl, ← TL.len_tl, ← TL.len_tl]
  have c : (":" : Str).length = 1 := by decide
  omega
theorem entT_asc (e : En) : Asc (entT e) := asc_app (asc_app (asc_sI _) (asc_lit (by decide +kernel))) (asc_sI _)
theorem wc_len {ks : List Int} (h : IsOk ks) : (wcM ks).length ≤ 70000 := by
  unfold wcM
  split
  · decide
  · exact joinI_len h (by decide)
theorem wc_asc (ks : List Int) : Asc (wcM ks) := by
  unfold wcM
  split
  · exact asc_lit (by decide +kernel)
  · exact asc_join (asc_lit (by decide +kernel)) fun w hw => by
      obtain ⟨k, _, rfl⟩ := List.mem_map.mp hw
      exact asc_sI k
theorem len_app (x y : Str) : (x ++ y).length = x.length + y.length := by
  rw [TL.len_tl, TL.tl_append, List.length_append, ← TL.len_tl, ← TL.len_tl]
section
variable {Z : Zx} {X : Cx} {N : List Str} {sc : Scope} {vs ws : List Nat} {gs : List Str} {k : Nat} {α : Type} {R : Rp α}
/-- a pair is no list -/
theorem od_eqTL (B : Bd Z X N sc vs ws gs k) {x : Int × Int} {xs : List Int} : OD Z X (compareOp .Eq) (pd (rT2 rInt rInt) x) (pl rInt xs) (pd rBool false) :=
  .v (op_eqD B.hu) fun F H v w o hv hw Q q => ⟨_, _, py_en.dp _ F H v x o.sub hv, pl_dp py_int o hw, shaped_x py_en (by decide) x ⟨trivial, trivial⟩, shaped_l py_int (by decide) xs (fun _ _ => trivial), q _ F H (Grow.refl o) (by simp [PyData.eqv]; rfl)⟩
end
theorem EV.t2t {Z : Zx} {X : Cx} {e : Expr} {Γ : List Sl} {α : Type} {R : Rp α} {x : α × α} (a : EV Z X e Γ (pd (rT2 R R) x)) : EV Z X e Γ (pd (rTpl R) [x.1, x.2]) := a.imp fun _ _ _ _ ⟨l, u, w, ev, hl, r1, r2⟩ => ⟨l, [u, w], ev, hl, r1, r2, trivial⟩
section
variable {Z : Zx}
theorem c_with_blanksI (E : Top Z) (D : Ds Z) : Cal Z "with_blanks" 1 (sp1 Z.T (pd (rLst rInt)) IsOk (fun xs => pd rStr (wbI xs "none"))) :=
  cal1 ["words", "word"] [0] [] 1 D.with_blanks (fun _ _ _ _ _ _ us hl => match us, hl with | [_], _ => rfl) fun X B xs hp => by
    have hz := hp.sz
    refine dos_cons (do_if (et_cmp ((ev_var B 0)).l ((ev_list (R := rInt) .nil)).l (od_eqL B py_int (fun _ _ => trivial) (fun _ _ => trivial))) (fun h1 => ?_) (fun h1 => ?_))
    · refine dos_one (do_ret ev_str (rt_eq ?_))
      unfold wbI; rw [if_pos (of_decide_eq_true h1)]
    · refine dos_nil ?_
      refine dos_one (do_ret (ev_join B ev_str ((ev_lc (f := sI) B [("word", 1)] [1] ["str"] (gi_l (ev_var B 0)) (by omega) (fun X' B' => (ga_name B' 1)) (fun X' B' x hx => (ev_strI B' E (ev_var B' 1) (strlen (hp.sm x hx)))))).l (Nat.le_trans (joinI_size hp (by decide)) (by decide))) (rt_eq ?_))
      unfold wbI; rw [if_neg (of_decide_eq_false h1)]; rfl
theorem c_with_blanksS (E : Top Z) (D : Ds Z) : Cal Z "with_blanks" 1 (sp1 Z.T (pd (rLst rStr)) StOk (fun xs => pd rStr (wbS xs "none"))) :=
  cal1 ["words", "word"] [0] [] 1 D.with_blanks (fun _ _ _ _ _ _ us hl => match us, hl with | [_], _ => rfl) fun X B xs hp => by
    have hz := hp.sz
    refine dos_cons (do_if (et_cmp ((ev_var B 0)).l ((ev_list (R := rStr) .nil)).l (od_eqL B py_str (fun x hx => asc_ok (hp.as x hx)) (fun x hx => nomatch hx))) (fun h1 => ?_) (fun h1 => ?_))
    · refine dos_one (do_ret ev_str (rt_eq ?_))
      unfold wbS; rw [if_pos (of_decide_eq_true h1)]
    · refine dos_nil ?_
      refine dos_one (do_ret (ev_join B ev_str (((ev_lc (f := fun x => x) B [("word", 1)] [1] ["str"] (gi_l (ev_var B 0)) (by omega) (fun X' B' => (ga_name B' 1)) (fun X' B' x hx => (ev_strS B' E (ev_var B' 1)))).as (List.map_id' _)).l) (joinS_size hp (by decide))) (rt_eq ?_))
      unfold wbS; rw [if_neg (of_decide_eq_false h1)]
theorem c_with_blanksT (E : Top Z) (D : Ds Z) : Cal Z "with_blanks" 1 (sp1 Z.T (pd (rT2 rInt rInt)) (fun x => IsOk [x.1, x.2]) (fun x => pd rStr (joinI " " [x.1, x.2]))) :=
  cal1 ["words", "word"] [0] [] 1 D.with_blanks (fun _ _ _ _ _ _ us hl => match us, hl with | [_], _ => rfl) fun X B x hp => by
    refine dos_cons (do_if (et_cmp (ev_var B 0) ((ev_list (R := rInt) .nil)).l (od_eqTL B)) (fun h1 => ?_) (fun h1 => ?_))
    · cases h1
    · refine dos_nil ?_
      exact dos_one (do_ret (ev_join B ev_str ((ev_lc (f := sI) B [("word", 1)] [1] ["str"] (gi_t (EV.t2t (ev_var B 0))) (show [x.1, x.2].length ≤ 1000000 by simp) (fun X' B' => (ga_name B' 1)) (fun X' B' x hx => (ev_strI B' E (ev_var B' 1) (strlen (hp.sm x hx)))))).l (Nat.le_trans (joinI_size hp (by decide)) (by decide))) (rt_eq rfl))
theorem c_entry_text (E : Top Z) (D : Ds Z) : Cal Z "entry_text" 1 (sp1 Z.T (pd rEn) EnS (fun e => pd rStr (entT e))) :=
  cal1 ["entry"] [0] ["str"] 0 D.entry_text (fun _ _ _ _ _ _ us hl => match us, hl with | [_], _ => rfl) fun X B e hp => by
    have a := sI_len hp.1
    have b := sI_len hp.2
    have c : (":" : Str).length = 1 := by decide
    exact dos_one (do_ret (ev_bin (ev_bin (ev_strI B E (ev_fst (ev_var B 0)) (strlen hp.1)) ev_str (od_adds (sz_le (by omega)))) (ev_strI B E (ev_snd (ev_var B 0)) (strlen hp.2)) (od_adds (sz_le (by rw [len_app]; omega)))) (rt_eq rfl))
theorem c_entry_or_none (E : Top Z) (D : Ds Z) : Cal Z "entry_or_none" 2 (sp1 Z.T (pd (rOpt rEn)) (fun o => ∀ e, o = some e → EnS e) (fun o => pd rStr (eoN o))) :=
  cal1 ["entry"] [0] ["entry_text"] 0 D.entry_or_none (fun _ _ _ _ _ _ us hl => match us, hl with | [_], _ => rfl) fun X B o hp => by
    refine dos_cons (do_if (et_cmp (ev_var B 0) ev_non od_isN) (fun h1 => ?_) (fun h1 => ?_))
    · refine dos_one (do_ret ev_str (rt_eq ?_))
      cases o with
      | none => rfl
      | some e => cases h1
    · refine dos_nil ?_
      cases o with
      | none => cases h1
      | some e => exact dos_one (do_ret (ev_call1 B (c_entry_text E D) ((ev_var B 0).so rfl) (hp e rfl)) (rt_eq rfl))
theorem c_with_commas (E : Top Z) (D : Ds Z) : Cal Z "with_commas" 1 (sp1 Z.T (pd (rLst rInt)) IsOk (fun xs => pd rStr (wcM xs))) :=
  cal1 ["keys", "key"] [0] [] 1 D.with_commas (fun _ _ _ _ _ _ us hl => match us, hl with | [_], _ => rfl) fun X B xs hp => by
    have hz := hp.sz
    refine dos_cons (do_if (et_cmp ((ev_var B 0)).l ((ev_list (R := rInt) .nil)).l (od_eqL B py_int (fun _ _ => trivial) (fun _ _ => trivial))) (fun h1 => ?_) (fun h1 => ?_))
    · refine dos_one (do_ret ev_str (rt_eq ?_))
      unfold wcM; rw [if_pos (of_decide_eq_true h1)]
    · refine dos_nil ?_
      refine dos_one (do_ret (ev_join B ev_str ((ev_lc (f := sI) B [("key", 1)] [1] ["str"] (gi_l (ev_var B 0)) (by omega) (fun X' B' => (ga_name B' 1)) (fun X' B' x hx => (ev_strI B' E (ev_var B' 1) (strlen (hp.sm x hx)))))).l (Nat.le_trans (joinI_size hp (by decide)) (by decide))) (rt_eq ?_))
      unfold wcM; rw [if_neg (of_decide_eq_false h1)]; rfl
/-! ### the law's own -/
theorem c_law_wordsI (E : Top Z) (D : Ds Z) : Cal Z "_law_words" 1 (sp2 Z.T (pd (rLst rInt)) (pd rStr) (fun xs no => IsOk xs) (fun xs no => pd rStr (wbI xs no))) :=
  cal2 ["_law_some", "_law_none", "_law_one"] [0, 1] [] 1 D.law_words (fun _ _ _ _ _ _ us hl => match us, hl with | [_, _], _ => rfl) fun X B xs no hp => by
    have hz := hp.sz
    refine dos_cons (do_if (et_cmp ((ev_var B 0)).l ((ev_list (R := rInt) .nil)).l (od_eqL B py_int (fun _ _ => trivial) (fun _ _ => trivial))) (fun h1 => ?_) (fun h1 => ?_))
    · refine dos_one (do_ret (ev_var B 1) (rt_eq ?_))
      unfold wbI; rw [if_pos (of_decide_eq_true h1)]
    · refine dos_nil ?_
      refine dos_one (do_ret (ev_join B ev_str ((ev_lc (f := sI) B [("_law_one", 2)] [2] ["str"] (gi_l (ev_var B 0)) (by omega) (fun X' B' => (ga_name B' 2)) (fun X' B' x hx => (ev_strI B' E (ev_var B' 2) (strlen (hp.sm x hx)))))).l (Nat.le_trans (joinI_size hp (by decide)) (by decide))) (rt_eq ?_))
      unfold wbI; rw [if_neg (of_decide_eq_false h1)]; rfl
theorem c_law_wordsS (E : Top Z) (D : Ds Z) : Cal Z "_law_words" 1 (sp2 Z.T (pd (rLst rStr)) (pd rStr) (fun xs no => StOk xs) (fun xs no => pd rStr (wbS xs no))) :=
  cal2 ["_law_some", "_law_none", "_law_one"] [0, 1] [] 1 D.law_words (fun _ _ _ _ _ _ us hl => match us, hl with | [_, _], _ => rfl) fun X B xs no hp => by
    have hz := hp.sz
    refine dos_cons (do_if (et_cmp ((ev_var B 0)).l ((ev_list (R := rStr) .nil)).l (od_eqL B py_str (fun x hx => asc_ok (hp.as x hx)) (fun x hx => nomatch hx))) (fun h1 => ?_) (fun h1 => ?_))
    · refine dos_one (do_ret (ev_var B 1) (rt_eq ?_))
      unfold wbS; rw [if_pos (of_decide_eq_true h1)]
    · refine dos_nil ?_
      refine dos_one (do_ret (ev_join B ev_str (((ev_lc (f := fun x => x) B [("_law_one", 2)] [2] ["str"] (gi_l (ev_var B 0)) (by omega) (fun X' B' => (ga_name B' 2)) (fun X' B' x hx => (ev_strS B' E (ev_var B' 2)))).as (List.map_id' _)).l) (joinS_size hp (by decide))) (rt_eq ?_))
      unfold wbS; rw [if_neg (of_decide_eq_false h1)]
theorem c_law_entry_text (E : Top Z) (D : Ds Z) : Cal Z "_law_entry_text" 1 (sp1 Z.T (pd rEn) EnS (fun e => pd rStr (entT e))) :=
  cal1 ["_law_entry"] [0] ["str"] 0 D.law_entry_text (fun _ _ _ _ _ _ us hl => match us, hl with | [_], _ => rfl) fun X B e hp => by
    have a := sI_len hp.1
    have b := sI_len hp.2
    have c : (":" : Str).length = 1 := by decide
    exact dos_one (do_ret (ev_bin (ev_bin (ev_strI B E (ev_fst (ev_var B 0)) (strlen hp.1)) ev_str (od_adds (sz_le (by omega)))) (ev_strI B E (ev_snd (ev_var B 0)) (strlen hp.2)) (od_adds (sz_le (by rw [len_app]; omega)))) (rt_eq rfl))
theorem c_law_entry_or_none (E : Top Z) (D : Ds Z) : Cal Z "_law_entry_or_none" 2 (sp1 Z.T (pd (rOpt rEn)) (fun o => ∀ e, o = some e → EnS e) (fun o => pd rStr (eoN o))) :=
  cal1 ["_law_entry"] [0] ["_law_entry_text"] 0 D.law_entry_or_none (fun _ _ _ _ _ _ us hl => match us, hl with | [_], _ => rfl) fun X B o hp => by
    refine dos_cons (do_if (et_cmp (ev_var B 0) ev_non od_isN) (fun h1 => ?_) (fun h1 => ?_))
    · refine dos_one (do_ret ev_str (rt_eq ?_))
      cases o with
      | none => rfl
      | some e => cases h1
    · refine dos_nil ?_
      cases o with
      | none => cases h1
      | some e => exact dos_one (do_ret (ev_call1 B (c_law_entry_text E D) ((ev_var B 0).so rfl) (hp e rfl)) (rt_eq rfl))
def everyM (rows : List (List Int)) : List Int := rows.flatten
theorem c_law_every (E : Top Z) (D : Ds Z) : Cal Z "_law_every" 1 (sp1 Z.T (pd (rTpl (rTpl rInt))) (fun rows => (rows.map (·.length)).sum ≤ 100000) (fun rows => pd (rLst rInt) (everyM rows))) :=
  cal1 ["_law_rows_here", "_law_found", "_law_row_here"] [0, 1, 2] ["list"] 2 D.law_every (fun _ _ _ _ _ _ us hl => match us, hl with | [_], _ => rfl) fun X B rows hp => by
    refine dos_cons (do_set B 1 (ev_list (R := rInt) .nil) ?_)
    refine dos_cons (do_for B (gi_t (ev_var B 0)) (ga_name B 2) (fun i Γ => Γ = [.da (rTpl (rTpl rInt)) rows, .da (rLst rInt) ((rows.take i).flatten), .un]) rfl (fun i x Γ' hx hI => ?_) (fun Γ' hI => ?_))
    · subst hI
      have h1 := len_sum_take hx
      have h2 := sum_take_le rows (i + 1)
      refine dos_cons (do_set B 1 (ev_bin ((ev_var B 1)).l ((ev_listT B E (ev_var B 2).t)).l (od_cat (sz_le (by rw [List.length_flatten]; show ((rows.take i).map fun x => x.length).sum + x.length ≤ 1000000; omega)))) ?_)
      refine dos_un 2 (dos_nil ?_)
      rw [take_step hx, List.flatten_append]
      simp only [List.flatten_cons, List.flatten_nil, List.append_nil]
      rfl
    subst hI
    rw [List.take_length]
    exact dos_one (do_ret (ev_var B 1) (rt_eq rfl))
def lkidsM (t : Tr) (k : Int) : List Int := (rg 0 t.length).filter fun j => decide (t.getD j.toNat none = some k)
theorem c_law_children (E : Top Z) (D : Ds Z) : Cal Z "_law_children" 1 (sp2 Z.T (pd rTr) (pd rInt) (fun tree knot => tree.length ≤ 1000) (fun tree knot => pd (rLst rInt) (lkidsM tree knot))) :=
  cal2 ["_law_tree_here", "_law_knot", "_law_k"] [0, 1] ["range", "len"] 1 D.law_children (fun _ _ _ _ _ _ us hl => match us, hl with | [_, _], _ => rfl) fun X B tree knot hp => by
    refine dos_one (do_ret (ev_lcIf (b := fun j => decide (tree.getD j.toNat none = some knot)) (f := fun j => j) B [("_law_k", 2)] [0, 1, 2] [] (gi_range1 B (E.f "range") (ev_lenT B E (ev_var B 0).t) (sm62 (by omega))) (by rw [rg_len]; omega) (fun X' B' => (ga_name B' 2)) (fun X' B' x hx => (et_cmp (ev_ixT ((ev_var B' 0)).t (ev_var B' 2) ?_ ?_) (ev_var B' 1) (od_eq sc_optI))) (fun X' B' x hx hb => (ev_var B' 2))) (rt_eq (by rw [List.map_id']; rfl)))
    · rw [rg_mem] at hx; omega
    · rw [rg_mem] at hx; exact at_getD none (by omega)
end
end BF
set_option maxHeartbeats 5000000
namespace BF
open L2 PySem PySem.Spec PyProof.Rows
/-! ## new things handed back -/
/-- an object that did not stand in G, unknown yet -/
def pNew {β : Type} (M : Mp β) (y : β) (G : Hp) : Pv := ⟨fun F H v => ∃ ft, M.rel y F H ft v ∧ ∀ a ∈ ft, F a = none ∧ G a = none, fun {T F H F' H' v} g ⟨ft, r, hn⟩ => by
  have th := M.there r
  refine ⟨ft, M.mono g.ef (fun a ha => ?_) r, fun a ha => ⟨?_, (hn a ha).2⟩⟩
  · obtain ⟨o, ho, nt⟩ := th a ha
    rw [ho, g.eh a o (fun w => w) ho nt]
  · obtain ⟨o, ho, _⟩ := th a ha
    cases z : F' a with
    | none => rfl
    | some u =>
      have := g.new a (by rw [z]; simp) (hn a ha).1
      rw [ho] at this; cases this⟩
abbrev dRN (R : Hp → Pv) : Fin := { nx := fun _ => False, rt := fun P _ => ∀ (G : Hp) (T : Tbs) F H v, Ok T F H → (P G).p F H v → (R G).p F H v }
def sp1N {α β : Type} (T : Tbs) (A : α → Pv) (pre : α → Prop) (M : Mp β) (f : α → β) : Sp := fun us H Q _ => ∃ (x : α) (F : Hp), Ok T F H ∧ AllP [A x] F H us ∧ pre x ∧ Ret T (pNew M (f x) H) F H Q
section
variable {Z : Zx} {X : Cx} {x : Str} {st : Stmt} {e : Expr} {k j : Nat} {α β : Type} {A : Rp α} {vs ws : List Nat} {Γ : List Sl} {N : List Str} {sc : Scope} {gs : List Str} {pos p : Pos} {D : Fin}
theorem do_retN {M : Mp β} {y : β} (a : EN Z X e Γ M y) (h : D.rt (pNew M y) Γ) : DO Z X (.Return (some e) pos) Γ D := by
  obtain ⟨te, he, hr⟩ := a
  refine DO.of (ps_ret he) fun σ F0 G F H Wr fts g S => hr σ F G H Wr fts _ g.ok S fun v F1 H1 ft g1 r hn => ⟨F1, Γ, σ, fts, pNew M y, g.step g1, S.grow g1, ⟨ft, r, fun a ha => ⟨(hn a ha).1, ?_⟩⟩, h⟩
  cases z : G a with
  | none => rfl
  | some u => exact absurd (hn a ha).2 (g.th a (by rw [z]; simp))
theorem cal1N (N : List Str) (vs : List Nat) (gs : List Str) (n : Nat) {a : Str} {pre : α → Prop} {M : Mp β} {f : α → β} (d : Df Z x st) (hb : BindOk x x st [a]) (body : ∀ X, Bd Z X N (defScope st) vs vs gs k → ∀ u, pre u → DOs Z X (defBody st) (.da A u :: uns n) (dRN (pNew M (f u))))
    (c : dfB N [a] (defScope st) vs gs = true := by decide +kernel) (hn : N.length = 1 + n := by rfl) : Cal Z x (k + 1) (sp1N Z.T (pd A) pre M f) := by
  obtain ⟨S, nm⟩ := dfB_ok c
  obtain ⟨f0, fd, hm, FD⟩ := d.ex
  refine ⟨f0, fd, [a], hm, FD.kp, FD.bindsN hb, FD.ok S (fun us H Q E ⟨u, F, o, p, h, r⟩ => p.len) fun cdv A' outer s H us Q E hr ⟨u, F, o, p, h, ret⟩ => ?_⟩
  have B : Bd Z (cxOf CX0 Z.P Z.w Z.K Z.mg Z.base N x (defScope st) f0 cdv A' outer s H E).nox N (defScope st) vs vs gs k :=
    { nm := nm, prog := rfl, w := rfl, K := rfl, mg := rfl, base := rfl, eN := rfl, eSc := rfl, calm := rfl, room := hr, st := fun _ _ _ _ => .inl rfl, po := PassesOwn.never }
  match us, p with
  | [v], ⟨p, _⟩ =>
    have Sa : Sat nowhere F H H (.da A u :: uns n) (L2.start N [v]) (fun _ => []) := entry_sat (Δ := [.da A u]) hn rfl fun i s e => by
      match i, e with
      | 0, e => cases e; exact ⟨v, rfl, rfl, v, rfl, p⟩
      | i + 1, e => simp at e
    refine ⟨_, PSs.nox (pss_ds (Z := Z)), F, H, F, nowhere, fun _ => [], _, _, Grow.refl o, Sa, takes_no (fun _ _ z => z), body _ B u h, ⟨?_, ?_, ?_, ?_⟩⟩
    · rintro σ' H' ⟨F', Γ', fts', g, _, q⟩
      exact q.elim
    · rintro v H' ⟨F', Γ', σ', fts', P, g, _, p, q⟩
      exact ret v F' H' g (q H Z.T F' H' v g.ok p)
    · rintro σ' H' ⟨F', Γ', fts', g, _, q⟩
      exact q
    · rintro σ' H' ⟨F', Γ', fts', g, _, q⟩
      exact q
/-- a call that hands back a new object -/
theorem en_call1 (B : Bd Z X N sc vs ws gs k) {x : Str} {A : α → Pv} {pre : α → Prop} {M : Mp β} {f : α → β} {u : α} (c : Cal Z x j (sp1N Z.T A pre M f)) (a : EV Z X e Γ (A u)) (h : pre u) (hj : j ≤ k := by decide) (hg : x ∈ gs := by decide +kernel)
    (he : starEach (e :: []) X.env = (false, eval e X.env) :: starEach [] X.env := by rfl) (hpl : (backTo pos (starEach [] X.env)).any (·.1) = false := by rfl) : EN Z X (.Call (.Name x p) [e] [] pos) Γ M (f u) := by
  obtain ⟨f0, fd, ps, hm, hk, hb, G⟩ := c.ex
  obtain ⟨d1, d2, d3⟩ := plainName_ok (B.nm.pg x hg)
  have G2 : FnOk X.prog X.w X.K X.mg X.base CX0 j f0 fd ps (sp1N Z.T A pre M f) := by rw [B.prog, B.w, B.K, B.mg, B.base]; exact G
  refine ⟨_, pe_call (ds := []) (dvs := []) G2 (B.room.mono hj) (B.gx hg) (by rw [B.mg]; exact hm) (by rw [B.K]; exact hk) (by rw [B.K]; exact hb) .nil pass0 (ea1 a he).pa d1 he hpl, fun σ F G H Wr fts Q o S' q => ⟨F, G, Wr, fts, o, S', fun us F1 H1 g1 p1 => ?_⟩⟩
  show sp1N Z.T A pre M f (us ++ []) H1 Q E0
  rw [List.append_nil]
  refine ⟨u, F1, g1.ok, p1, h, fun v F2 H2 g2 ⟨ft, r, hn⟩ => q v F2 H2 ft (g1.step g2) r fun a ha => ⟨(hn a ha).1, ?_⟩⟩
  cases z : H a with
  | none => rfl
  | some w => exact absurd (hn a ha).2 (g1.th a (by rw [z]; simp))
end
end BF
set_option maxHeartbeats 5000000
namespace BF
open L2 PySem PySem.Spec PyProof.Rows
section
variable {Z : Zx} {X : Cx} {elt tg iter : Expr} {Γ : List Sl} {N : List Str} {sc cs : Scope} {vs ws vs' : List Nat} {gs gs' : List Str} {k : Nat} {pos : Pos} {α β : Type} {R : Rp α}
/-- [elt for tg in iter], to be changed later -/
theorem en_lc {fz : Bool} {xs : List α} {up : α → List Sl → List Sl} {S : Rp β} {f : α → β} (B : Bd Z X N sc vs ws gs k) (own : List (Str × Nat)) (vs' : List Nat) (gs' : List Str) (gi : GI Z X tg iter Γ fz R xs) (hz : xs.length ≤ 1000000)
    (ga : ∀ X', Bd Z X' N (relS cs sc) vs' (own.map (·.2)) gs' k → GA Z X' tg R (own.map (·.2)) up)
    (he : ∀ X', Bd Z X' N (relS cs sc) vs' (own.map (·.2)) gs' k → ∀ x, x ∈ xs → EV Z X' elt (up x (wG Γ (own.map (·.2)))) (pd S (f x)))
    (cn : compB N sc cs own vs' gs' = true := by decide +kernel) (hs : ∀ x, foldedSetIterable iter X.env x = pure x := by intro _; rfl) : EN Z X (.ListComp elt [⟨tg, iter, [], 0⟩] cs pos) Γ (mLst S) (xs.map f) := by
  obtain ⟨wi, hp, hw⟩ := gi
  have c := comp_by cn
  have e0 : (xs.filter fun _ => true) = xs := List.filter_eq_self.mpr fun _ _ => rfl
  refine ⟨_, pe_lc (own := own) B.calm (by rw [B.eN]; exact B.nm.nd) hp (by rw [B.eN, B.eSc]; exact c.blk) (fun s H C cl fp => (ga _ (B.blk c s H C cl fp)).pg) (fun s H C cl fp => pts_nil)
    (fun s H C cl fp => (⟨fun pins s' σ H' Q I ⟨F, G, Wr, fts, x, hx, _, o, Sa, q⟩ => he _ (B.blk c s H C cl fp) x hx pins s' σ F G H' Wr fts Q I o Sa fun v F1 H1 g1 p1 => q v F1 H1 g1 p1⟩ : PE _ elt (tEx Z xs (fun x => up x (wG Γ (own.map (·.2)))) (fun _ => true) S f))) hs, fun σ F G H Wr fts Q o Sa q => ?_⟩
  refine lc_raw (b := fun _ => true) (S := S) (f := f) hw (fun σ F G H Wr fts x Q hx o S q => q F H (Grow.refl o)) hz σ F G H Wr fts Q o Sa fun l us F1 H1 g1 hl1 fl1 hn0 r1 => ?_
  rw [e0] at r1
  exact q _ F1 H1 [l] g1 ⟨l, us, rfl, rfl, hl1, r1⟩ fun a ha => by
    simp at ha; subst ha; exact ⟨fl1, hn0⟩
end
section
variable {Z : Zx}
theorem c_full_rowsN (E : Top Z) (D : Ds Z) : Cal Z "full_rows" 6 (sp1N Z.T (pd rSd) FrOk (mLst (rLst rEn)) full_rowsM) :=
  cal1N ["stand", "tree", "found", "knot", "come", "child"] [0, 1, 2, 3, 4] ["reversed", "range", "len", "children", "joined_up", "own_entries"] 5 D.full_rows (fun _ _ _ _ _ _ us hl => match us, hl with | [_], _ => rfl) fun X B stand hp => by
    have ht := hp.sd.tree
    have hl1 := ht.l1
    have hl2 := ht.l2
    refine dos_cons (do_set B 1 (ev_fst (ev_var B 0)) ?_)
    refine dos_cons (do_setN B 2 (en_dI B (rLst rEn) (fullM stand)) ?_)
    refine dos_cons (do_for B (gi_rev B E (ev_lenT B E (ev_var B 1).t) (sm62 (by omega))) (ga_name B 3) (fun i Γ => ∃ dom : List Int, dom.length ≤ i ∧ (∀ j : Int, (stand.1.length : Int) - i ≤ j → j < stand.1.length → j ∈ dom) ∧ Γ = [.da rSd stand, .da rTr stand.1, .mu (mDI (rLst rEn)) (dom, fullM stand), .un, .un, .un]) ⟨[], by simp, fun j h1 h2 => by omega, rfl⟩ (fun i x Γ' hx hI => ?_) (fun Γ' hI => ?_))
    · obtain ⟨dom, hdl, hdom, rfl⟩ := hI
      have hi := (List.getElem?_eq_some_iff.mp hx).1
      rw [List.length_reverse, rg_len0] at hi
      rw [List.getElem?_reverse (by rw [rg_len0]; exact hi), rg_len0] at hx
      obtain ⟨ex, hx'⟩ := rg_at hx
      have x0 : 0 ≤ x := by omega
      have xl : x < stand.1.length := by omega
      have hkl : (kidsM stand.1 x).length ≤ 1000 := Nat.le_trans (List.length_filter_le _ _) (by rw [rg_len]; omega)
      refine dos_cons (do_setLc (f := fun c => handedM (fullM stand c)) B 4 [("child", 5)] [2, 5] ["handed"] (gi_l (ev_call2 B (c_children E D) (ev_var B 1) (ev_var B 3) (by omega))) (by omega) (fun X' B' => (ga_name B' 5)) (fun X' B' c hc => (ev_call1 B' (c_handed E D) (ev_dgetI B' 2 (ev_var B' 5) (h := hdom c (by have := (kids_lt ht hc).1; omega) (kids_mem.mp hc).2.1)) (hp.en c (kids_lt ht hc).2.2 (kids_mem.mp hc).2.1))) ?_)
      have hj := full_eq ht x0 xl
      have hsz := (hp.en x x0 xl).sz
      refine dos_cons (do_dputI B 2 (ev_call1 B (c_joined_up E D) (ev_bin ((ev_list (.cons (ev_call2 B (c_own_entries E D) (ev_var B 0) (ev_var B 3) ⟨hp.sd, x0, xl⟩) .nil))).l ((ev_var B 4)).l (od_cat ?_)) ?_) (ev_var B 3) ?_ ?_)
      · refine sz_le ?_
        simp
        omega
      · rw [← joined_len]
        show (joined_upM (ownM stand x :: (kidsM stand.1 x).map fun c => handedM (fullM stand c))).length ≤ _
        rw [← hj]
        exact hsz
      · show dom.length ≤ _
        omega
      refine dos_un 3 (dos_un 4 (dos_nil ⟨x :: dom, by simp; omega, fun j h1 h2 => ?_, ?_⟩))
      · by_cases q : j = x
        · rw [q]; exact List.mem_cons_self
        · exact List.mem_cons_of_mem _ (hdom j (by omega) h2)
      · have : (fun m => if m = x then joined_upM ([ownM stand x] ++ (kidsM stand.1 x).map fun c => handedM (fullM stand c)) else fullM stand m) = fullM stand := by
          funext m
          by_cases q : m = x
          · subst q; rw [if_pos rfl]; exact hj.symm
          · rw [if_neg q]
        exact congrArg (fun g => [Sl.da rSd stand, .da rTr stand.1, .mu (mDI (rLst rEn)) (x :: dom, g), .un, .un, .un]) this
    obtain ⟨dom, hdl, hdom, rfl⟩ := hI
    rw [List.length_reverse, rg_len0] at hdom
    exact dos_one (do_retN (en_lc (f := fullM stand) B [("knot", 3)] [2, 3] [] (gi_range1 B (E.f "range") (ev_lenT B E (ev_var B 1).t) (sm62 (by omega))) (by rw [rg_len0]; omega) (fun X' B' => (ga_name B' 3)) (fun X' B' x hx => (ev_dgetI B' 2 (ev_var B' 3) (h := hdom x (by rw [rg_mem] at hx; omega) (rg_mem.mp hx).2)))) (fun G T F H v o p => p))
end
end BF
set_option maxHeartbeats 5000000
namespace BF
open L2 PySem PySem.Spec PyProof.Rows
/-! ## the shelf, as it lies -/
structure Sh where
  tree : Tr
  rows : List (List Int)
  fulls : List (List En)
/-- where its parts lie -/
structure SA where
  a : Addr
  dx : Addr
  lt : Addr
  lr : Addr
  lf : Addr
abbrev shN : List Str := ["tree", "rows", "fulls"]
structure ShAt (C : Addr) (s : SA) (st : Sh) (F H : Hp) : Prop where
  ob : ∃ fs, H s.a = some (.ins C s.dx fs) ∧ fs.length ≤ 10 ∧ fs.lookup ("tree" : Str) = some (.ref s.lt) ∧ fs.lookup ("rows" : Str) = some (.ref s.lr) ∧ fs.lookup ("fulls" : Str) = some (.ref s.lf) ∧ ∀ m : Str, m ∉ shN → fs.lookup m = none
  tr : ∃ vs, H s.lt = some (.lst vs) ∧ RL (rOpt rInt) F st.tree vs
  rw_ : ∃ vs, H s.lr = some (.lst vs) ∧ RL (rLst rInt) F st.rows vs
  fu : ∃ vs, H s.lf = some (.lst vs) ∧ RL (rLst rEn) F st.fulls vs
  nd : [s.a, s.lt, s.lr, s.lf].Nodup
abbrev SA.ft (s : SA) : List Addr := [s.a, s.lt, s.lr, s.lf]
theorem ShAt.mono {C : Addr} {s : SA} {st : Sh} {F H F' H' : Hp} (e : Same F F') (k : ∀ a ∈ s.ft, H' a = H a) (x : ShAt C s st F H) : ShAt C s st F' H' := by
  obtain ⟨⟨fs, h1, h2⟩, ⟨v1, h3, r1⟩, ⟨v2, h4, r2⟩, ⟨v3, h5, r3⟩, nd⟩ := x
  exact ⟨⟨fs, by rw [k s.a (by simp)]; exact h1, h2⟩, ⟨v1, by rw [k s.lt (by simp)]; exact h3, r1.mono e⟩, ⟨v2, by rw [k s.lr (by simp)]; exact h4, r2.mono e⟩, ⟨v3, by rw [k s.lf (by simp)]; exact h5, r3.mono e⟩, nd⟩
theorem ShAt.there {C : Addr} {s : SA} {st : Sh} {F H : Hp} (x : ShAt C s st F H) : ∀ a ∈ s.ft, ∃ o, H a = some o ∧ ∀ ps, o ≠ .tbl ps := by
  obtain ⟨⟨fs, h1, h2⟩, ⟨v1, h3, r1⟩, ⟨v2, h4, r2⟩, ⟨v3, h5, r3⟩, nd⟩ := x
  intro a ha
  rcases List.mem_cons.mp ha with e | ha
  · rw [e]; exact ⟨_, h1, fun ps z => by cases z⟩
  rcases List.mem_cons.mp ha with e | ha
  · rw [e]; exact ⟨_, h3, lst_nt⟩
  rcases List.mem_cons.mp ha with e | ha
  · rw [e]; exact ⟨_, h4, lst_nt⟩
  · rw [List.mem_singleton.mp ha]; exact ⟨_, h5, lst_nt⟩
def mSh (C : Addr) (s : SA) : Mp Sh where
  loc := false
  rel := fun st F H ft v => v = .ref s.a ∧ ft = s.ft ∧ ShAt C s st F H
  mono := fun e k ⟨h1, h2, x⟩ => ⟨h1, h2, x.mono e (h2 ▸ k)⟩
  there := fun ⟨h1, h2, x⟩ => h2 ▸ x.there
/-- a shelf, to be read -/
def pSh (C : Addr) (st : Sh) : Pv := ⟨fun F H v => ∃ s : SA, v = .ref s.a ∧ ShAt C s st F H, fun {T F H F' H' v} g ⟨s, e, x⟩ => ⟨s, e, x.mono g.ef fun a ha => by
  obtain ⟨o, ho, nt⟩ := x.there a ha
  rw [ho, g.eh a o (fun w => w) ho nt]⟩⟩
/-! ## the desk -/
structure DsA where
  a : Addr
  dx : Addr
  s : SA
structure DkAt (CD C : Addr) (d : DsA) (st : Sh) (F H : Hp) : Prop where
  ob : ∃ fs, H d.a = some (.ins CD d.dx fs) ∧ fs.length ≤ 10 ∧ fs.lookup ("shelf" : Str) = some (.ref d.s.a) ∧ ∀ m : Str, m ≠ "shelf" → fs.lookup m = none
  sh : ShAt C d.s st F H
  nd : d.a ∉ d.s.ft
abbrev DsA.ft (d : DsA) : List Addr := d.a :: d.s.ft
theorem DkAt.mono {CD C : Addr} {d : DsA} {st : Sh} {F H F' H' : Hp} (e : Same F F') (k : ∀ a ∈ d.ft, H' a = H a) (x : DkAt CD C d st F H) : DkAt CD C d st F' H' := by
  obtain ⟨⟨fs, h1, h2⟩, sh, nd⟩ := x
  exact ⟨⟨fs, by rw [k d.a (by simp)]; exact h1, h2⟩, sh.mono e fun a ha => k a (List.mem_cons_of_mem _ ha), nd⟩
theorem DkAt.there {CD C : Addr} {d : DsA} {st : Sh} {F H : Hp} (x : DkAt CD C d st F H) : ∀ a ∈ d.ft, ∃ o, H a = some o ∧ ∀ ps, o ≠ .tbl ps := by
  obtain ⟨⟨fs, h1, h2⟩, sh, nd⟩ := x
  intro a ha
  rcases List.mem_cons.mp ha with e | ha
  · rw [e]; exact ⟨_, h1, fun ps z => by cases z⟩
  · exact sh.there a ha
def mDk (CD C : Addr) (d : DsA) : Mp Sh where
  loc := false
  rel := fun st F H ft v => v = .ref d.a ∧ ft = d.ft ∧ DkAt CD C d st F H
  mono := fun e k ⟨h1, h2, x⟩ => ⟨h1, h2, x.mono e (h2 ▸ k)⟩
  there := fun ⟨h1, h2, x⟩ => h2 ▸ x.there
def pDk (CD C : Addr) (st : Sh) : Pv := ⟨fun F H v => ∃ d : DsA, v = .ref d.a ∧ DkAt CD C d st F H, fun {T F H F' H' v} g ⟨d, e, x⟩ => ⟨d, e, x.mono g.ef fun a ha => by
  obtain ⟨o, ho, nt⟩ := x.there a ha
  rw [ho, g.eh a o (fun w => w) ho nt]⟩⟩
section
variable {Z : Zx} {X : Cx} {e : Expr} {Γ : List Sl} {N : List Str} {sc : Scope} {vs ws : List Nat} {gs : List Str} {k : Nat} {pos p : Pos}
theorem ev_shv (B : Bd Z X N sc vs ws gs k) (i : Nat) {n : Str} {C : Addr} {s : SA} {st : Sh} (hi : N[i]? = some n := by rfl) (hv : i ∈ vs := by decide) (hΓ : Γ[i]? = some (.mu (mSh C s) st) := by rfl) : EV Z X (.Name n pos) Γ (pSh C st) := by
  obtain ⟨d1, d2, _⟩ := plainName_ok (B.nm.pn i hv n hi)
  exact EV.of (pe_var (i := i) (by rw [B.eN]; exact hi) (by rw [B.eSc]; exact B.nm.vis i hv n hi) d1 d2) fun σ F G H Wr fts Q o S q => by
    obtain ⟨v, ev, ⟨rfl, ef, x⟩, mk⟩ := S.mu hΓ
    exact ⟨_, ev, q _ F H (Grow.refl o) ⟨s, rfl, x⟩⟩
theorem ev_dkv (B : Bd Z X N sc vs ws gs k) (i : Nat) {n : Str} {CD C : Addr} {s : DsA} {st : Sh} (hi : N[i]? = some n := by rfl) (hv : i ∈ vs := by decide) (hΓ : Γ[i]? = some (.mu (mDk CD C s) st) := by rfl) : EV Z X (.Name n pos) Γ (pDk CD C st) := by
  obtain ⟨d1, d2, _⟩ := plainName_ok (B.nm.pn i hv n hi)
  exact EV.of (pe_var (i := i) (by rw [B.eN]; exact hi) (by rw [B.eSc]; exact B.nm.vis i hv n hi) d1 d2) fun σ F G H Wr fts Q o S q => by
    obtain ⟨v, ev, ⟨rfl, ef, x⟩, mk⟩ := S.mu hΓ
    exact ⟨_, ev, q _ F H (Grow.refl o) ⟨s, rfl, x⟩⟩
/-- what is known of the classes -/
structure ClsOk (K : PySem.W.Frag) (C : Addr) (ns : List Str) : Prop where
  c : Cls K C
  na : ∀ n ∈ ns, NoAttr K C n
theorem ev_tree (B : Bd Z X N sc vs ws gs k) {C : Addr} {st : Sh} (K : ClsOk Z.K C shN) (a : EV Z X e Γ (pSh C st)) (hb : attributeBase e "tree" X.env (eval e X.env) = eval e X.env := by rfl) : EV Z X (.Attribute e "tree" pos) Γ (pl (rOpt rInt) st.tree) :=
  EV.of (pe_fld a.pe hb) fun σ F G H Wr fts Q o S q => ⟨F, G, Wr, fts, o, S, fun v F1 H1 g1 ⟨s, ev, x⟩ => by
    obtain ⟨fs, h1, h2, h3, h4, h5, h6⟩ := x.ob
    obtain ⟨us, h7, r⟩ := x.tr
    exact ⟨s.a, C, s.dx, fs, .ref s.lt, ev, h1, by rw [B.K]; exact K.c, by rw [B.K]; exact K.na _ (by simp), h3, q _ F1 H1 g1 ⟨s.lt, us, rfl, h7, r⟩⟩⟩
theorem ev_rows (B : Bd Z X N sc vs ws gs k) {C : Addr} {st : Sh} (K : ClsOk Z.K C shN) (a : EV Z X e Γ (pSh C st)) (hb : attributeBase e "rows" X.env (eval e X.env) = eval e X.env := by rfl) : EV Z X (.Attribute e "rows" pos) Γ (pl (rLst rInt) st.rows) :=
  EV.of (pe_fld a.pe hb) fun σ F G H Wr fts Q o S q => ⟨F, G, Wr, fts, o, S, fun v F1 H1 g1 ⟨s, ev, x⟩ => by
    obtain ⟨fs, h1, h2, h3, h4, h5, h6⟩ := x.ob
    obtain ⟨us, h7, r⟩ := x.rw_
    exact ⟨s.a, C, s.dx, fs, .ref s.lr, ev, h1, by rw [B.K]; exact K.c, by rw [B.K]; exact K.na _ (by simp), h4, q _ F1 H1 g1 ⟨s.lr, us, rfl, h7, r⟩⟩⟩
theorem ev_fulls (B : Bd Z X N sc vs ws gs k) {C : Addr} {st : Sh} (K : ClsOk Z.K C shN) (a : EV Z X e Γ (pSh C st)) (hb : attributeBase e "fulls" X.env (eval e X.env) = eval e X.env := by rfl) : EV Z X (.Attribute e "fulls" pos) Γ (pl (rLst rEn) st.fulls) :=
  EV.of (pe_fld a.pe hb) fun σ F G H Wr fts Q o S q => ⟨F, G, Wr, fts, o, S, fun v F1 H1 g1 ⟨s, ev, x⟩ => by
    obtain ⟨fs, h1, h2, h3, h4, h5, h6⟩ := x.ob
    obtain ⟨us, h7, r⟩ := x.fu
    exact ⟨s.a, C, s.dx, fs, .ref s.lf, ev, h1, by rw [B.K]; exact K.c, by rw [B.K]; exact K.na _ (by simp), h5, q _ F1 H1 g1 ⟨s.lf, us, rfl, h7, r⟩⟩⟩
theorem ev_shelf (B : Bd Z X N sc vs ws gs k) {CD C : Addr} {st : Sh} (K : ClsOk Z.K CD ["shelf"]) (a : EV Z X e Γ (pDk CD C st)) (hb : attributeBase e "shelf" X.env (eval e X.env) = eval e X.env := by rfl) : EV Z X (.Attribute e "shelf" pos) Γ (pSh C st) :=
  EV.of (pe_fld a.pe hb) fun σ F G H Wr fts Q o S q => ⟨F, G, Wr, fts, o, S, fun v F1 H1 g1 ⟨d, ev, x⟩ => by
    obtain ⟨fs, h1, h2, h3, h4⟩ := x.ob
    exact ⟨d.a, CD, d.dx, fs, .ref d.s.a, ev, h1, by rw [B.K]; exact K.c, by rw [B.K]; exact K.na _ (by simp), h3, q _ F1 H1 g1 ⟨d.s, rfl, x.sh⟩⟩⟩
end
end BF
set_option maxHeartbeats 5000000
namespace BF
open L2 PySem PySem.Spec PyProof.Rows
/-! ## methods that change nothing -/
structure DfM (Z : Zx) (C : Addr) (m qual : Str) (st : Stmt) : Prop where
  ex : ∃ (f : Addr) (fd : FuncData), Meth Z.K C m f ∧ FunD Z.K m qual (defArgs st) (defBody st) (defScope st) [] [] f fd
/-- the class's m keeps the promise sp -/
structure MCal (Z : Zx) (C : Addr) (m : Str) (CX : CXT) (k : Nat) (sp : Sp) : Prop where
  ex : ∃ (f : Addr) (fd : FuncData) (ps : List Str), Meth Z.K C m f ∧ Binds Z.K fd ps [] ∧ FnOk Z.P Z.w Z.K Z.mg Z.base CX k f fd ps sp
abbrev BindM (m qual : Str) (st : Stmt) (ps : List Str) : Prop := ∀ (kV doc pm : Value) (an : Option Addr) (cdv ct : Value) (us : List Value), us.length = ps.length → bindArgs (PySem.W.fnOf m qual (defArgs st) (defBody st) (defScope st) .none kV doc pm an cdv ct) ⟨us, []⟩ = pure (ps.zip us)
section
variable {Z : Zx} {C : Addr} {m qual : Str} {st : Stmt} {N ps : List Str} {gs : List Str} {k : Nat} {sp : Sp} {vs : List Nat}
theorem mcal_gen (d : DfM Z C m qual st) (S : FnScope N ps (defScope st)) (nm : Nm N (defScope st) vs vs gs) (hb : BindM m qual st ps) (len : ∀ us H Q E, sp us H Q E → us.length = ps.length)
    (entry : ∀ us H Q, sp us H Q E0 → ∃ (F : Hp) (Γ : List Sl) (R : Pv), Ok Z.T F H ∧ Sat nowhere F H H Γ (L2.start N us) (fun _ => []) ∧ Ret Z.T R F H Q ∧
      ∀ X, Bd Z X N (defScope st) vs vs gs k → DOs Z X (defBody st) Γ { nx := fun _ => ∀ F H, R.p F H .non, rt := fun P _ => ∀ G F H v, Ok Z.T F H → (P G).p F H v → R.p F H v })
    (hE : ∀ us H Q E, sp us H Q E → sp us H Q E0) : MCal Z C m CX0 (k + 1) sp := by
  obtain ⟨f, fd, hm, FD⟩ := d.ex
  refine ⟨f, fd, ps, hm, FD.bindsN hb, FD.ok S len fun cdv A outer s H us Q E hr h => ?_⟩
  obtain ⟨F, Γ, R, o, Sa, ret, body⟩ := entry us H Q (hE us H Q E h)
  have B : Bd Z (cxOf CX0 Z.P Z.w Z.K Z.mg Z.base N qual (defScope st) f cdv A outer s H E).nox N (defScope st) vs vs gs k :=
    { nm := nm, prog := rfl, w := rfl, K := rfl, mg := rfl, base := rfl, eN := rfl, eSc := rfl, calm := rfl, room := hr, st := fun _ _ _ _ => .inl rfl, po := PassesOwn.never }
  refine ⟨_, PSs.nox (pss_ds (Z := Z)), F, H, F, nowhere, fun _ => [], Γ, _, Grow.refl o, Sa, takes_no (fun _ _ z => z), body _ B, ⟨?_, ?_, ?_, ?_⟩⟩
  · rintro σ' H' ⟨F', Γ', fts', g, _, q⟩
    exact ret _ F' H' g (q F' H')
  · rintro v H' ⟨F', Γ', σ', fts', P, g, _, p, q⟩
    exact ret v F' H' g (q _ F' H' v g.ok p)
  · rintro σ' H' ⟨F', Γ', fts', g, _, q⟩
    exact q
  · rintro σ' H' ⟨F', Γ', fts', g, _, q⟩
    exact q
variable {α β γ : Type}
theorem mcal1 (N : List Str) (vs : List Nat) (gs : List Str) (n : Nat) {a : Str} {A : α → Pv} {pre : α → Prop} {R : α → Pv} (d : DfM Z C m qual st) (hb : BindM m qual st [a]) (body : ∀ X, Bd Z X N (defScope st) vs vs gs k → ∀ u, pre u → DOs Z X (defBody st) (.vw (A u) :: uns n) (dR (R u)))
    (c : dfB N [a] (defScope st) vs gs = true := by decide +kernel) (hn : N.length = 1 + n := by rfl) : MCal Z C m CX0 (k + 1) (sp1 Z.T A pre R) := by
  obtain ⟨S, nm⟩ := dfB_ok c
  refine mcal_gen d S nm hb (fun us H Q E ⟨u, F, o, p, h, r⟩ => p.len) (fun us H Q ⟨u, F, o, p, h, r⟩ => ?_) fun us H Q E z => z
  match us, p with
  | [v], ⟨p, _⟩ =>
    refine ⟨F, .vw (A u) :: uns n, R u, o, entry_sat (Δ := [.vw (A u)]) hn rfl fun i s e => ?_, r, fun X B => dR_ok (body X B u h)⟩
    match i, e with
    | 0, e => cases e; exact ⟨v, rfl, rfl, v, rfl, p⟩
    | i + 1, e => simp at e
theorem mcal2 (N : List Str) (vs : List Nat) (gs : List Str) (n : Nat) {a b : Str} {A : α → Pv} {A2 : Rp β} {pre : α → β → Prop} {R : α → β → Pv} (d : DfM Z C m qual st) (hb : BindM m qual st [a, b]) (body : ∀ X, Bd Z X N (defScope st) vs vs gs k → ∀ u w, pre u w → DOs Z X (defBody st) (.vw (A u) :: .da A2 w :: uns n) (dR (R u w)))
    (c : dfB N [a, b] (defScope st) vs gs = true := by decide +kernel) (hn : N.length = 2 + n := by rfl) : MCal Z C m CX0 (k + 1) (sp2 Z.T A (pd A2) pre R) := by
  obtain ⟨S, nm⟩ := dfB_ok c
  refine mcal_gen d S nm hb (fun us H Q E ⟨u, w, F, o, p, h, r⟩ => p.len) (fun us H Q ⟨u, w, F, o, p, h, r⟩ => ?_) fun us H Q E z => z
  match us, p with
  | [v, v2], ⟨p, p2, _⟩ =>
    refine ⟨F, .vw (A u) :: .da A2 w :: uns n, R u w, o, entry_sat (Δ := [.vw (A u), .da A2 w]) hn rfl fun i s e => ?_, r, fun X B => dR_ok (body X B u w h)⟩
    match i, e with
    | 0, e => cases e; exact ⟨v, rfl, rfl, v, rfl, p⟩
    | 1, e => cases e; exact ⟨v2, rfl, rfl, v2, rfl, p2⟩
    | i + 2, e => simp at e
end
/-- a thing that is an instance of the class, with no such name of its own -/
structure InsP (P : Pv) (C : Addr) (m : Str) : Prop where
  ok : ∀ F H v, P.p F H v → ∃ a dx fs, v = .ref a ∧ H a = some (.ins C dx fs) ∧ fs.lookup m = none
theorem ins_sh {C : Addr} {st : Sh} {m : Str} (h : m ∉ shN) : InsP (pSh C st) C m := ⟨fun F H v ⟨s, e, x⟩ => by
  obtain ⟨fs, h1, h2, h3, h4, h5, h6⟩ := x.ob
  exact ⟨_, _, fs, e, h1, h6 m h⟩⟩
theorem ins_dk {CD C : Addr} {st : Sh} {m : Str} (h : m ≠ "shelf") : InsP (pDk CD C st) CD m := ⟨fun F H v ⟨d, e, x⟩ => by
  obtain ⟨fs, h1, h2, h3, h4⟩ := x.ob
  exact ⟨_, _, fs, e, h1, h4 m h⟩⟩
section
variable {Z : Zx} {X : Cx} {o e e1 e2 : Expr} {Γ : List Sl} {S : Pv} {N : List Str} {sc : Scope} {vs ws : List Nat} {gs : List Str} {k j : Nat} {pos apos : Pos} {C : Addr} {m : Str} {α β γ : Type}
theorem ev_meth0 (B : Bd Z X N sc vs ws gs k) {A : α → Pv} {pre : α → Prop} {R : α → Pv} {u : α} (K : Cls Z.K C) (c : MCal Z C m CX0 j (sp1 Z.T A pre R)) (a : EV Z X o Γ (A u)) (ip : InsP (A u) C m) (h : pre u) (hS : R u = S := by rfl) (hj : j ≤ k := by decide)
    {pl : Sem Bool} (ht : eval (.Call (.Attribute o m apos) [] [] pos) X.env = (do
      let ov ← eval o X.env
      standAt apos.atName
      let (f, first) ← holding [ov] (getMethod ov m pl)
      callWith pos f first (backTo pos (starEach [] X.env)) (backToKw pos (keywordEach [] X.env))) := by rfl) : EV Z X (.Call (.Attribute o m apos) [] [] pos) Γ S := by
  subst hS
  obtain ⟨f, fd, ps, hm, hb, G⟩ := c.ex
  have G2 : FnOk X.prog X.w X.K X.mg X.base CX0 j f fd ps (sp1 Z.T A pre R) := by rw [B.prog, B.w, B.K, B.mg, B.base]; exact G
  refine EV.of (pe_meth0 (pl := pl) (ds := []) (dvs := []) a.pe (by rw [B.K]; exact K) (by rw [B.K]; exact hm) G2 (B.room.mono hj) (by rw [B.K]; exact hb) .nil pass0 ht) fun σ F G H Wr fts Q o' S' q => ⟨F, G, Wr, fts, o', S', fun v F1 H1 g1 p1 => ?_⟩
  obtain ⟨a', dx, fs, ev, hi, hl⟩ := ip.ok F1 H1 v p1
  exact ⟨a', dx, fs, ev, hi, hl, ⟨u, F1, g1.ok, ⟨p1, trivial⟩, h, fun w F2 H2 g2 p2 => q w F2 H2 (g1.step g2) p2⟩⟩
theorem ev_meth1 (B : Bd Z X N sc vs ws gs k) {A : α → Pv} {A2 : β → Pv} {pre : α → β → Prop} {R : α → β → Pv} {u : α} {w : β} (K : Cls Z.K C) (c : MCal Z C m CX0 j (sp2 Z.T A A2 pre R)) (a : EV Z X o Γ (A u)) (ip : InsP (A u) C m) (b : EV Z X e1 Γ (A2 w)) (h : pre u w) (hS : R u w = S := by rfl) (hj : j ≤ k := by decide)
    (he : starEach (e1 :: []) X.env = (false, eval e1 X.env) :: starEach [] X.env := by rfl) (hpl : (backTo pos (starEach [] X.env)).any (·.1) = false := by rfl)
    {pl : Sem Bool} (ht : eval (.Call (.Attribute o m apos) [e1] [] pos) X.env = (do
      let ov ← eval o X.env
      standAt apos.atName
      let (f, first) ← holding [ov] (getMethod ov m pl)
      callWith pos f first (backTo pos (starEach [e1] X.env)) (backToKw pos (keywordEach [] X.env))) := by rfl) : EV Z X (.Call (.Attribute o m apos) [e1] [] pos) Γ S := by
  subst hS
  obtain ⟨f, fd, ps, hm, hb, G⟩ := c.ex
  have G2 : FnOk X.prog X.w X.K X.mg X.base CX0 j f fd ps (sp2 Z.T A A2 pre R) := by rw [B.prog, B.w, B.K, B.mg, B.base]; exact G
  refine EV.of (pe_meth (pl := pl) (ds := []) (dvs := []) a.pe (by rw [B.K]; exact K) (by rw [B.K]; exact hm) G2 (B.room.mono hj) (by rw [B.K]; exact hb) .nil pass0 (ea1 b he).pa he hpl ht) fun σ F G H Wr fts Q o' S' q => ⟨F, G, Wr, fts, o', S', fun v F1 H1 g1 p1 => ?_⟩
  obtain ⟨a', dx, fs, ev, hi, hl⟩ := ip.ok F1 H1 v p1
  refine ⟨a', dx, fs, ev, hi, hl, F1, G, Wr, fts, g1.ok, S'.grow g1, fun us F2 H2 g2 p2 => ?_⟩
  match us, p2 with
  | [v2], ⟨p2, _⟩ =>
    show sp2 Z.T A A2 pre R (v :: ([v2] ++ [])) H2 Q E0
    exact ⟨u, w, F2, g2.ok, ⟨(A u).keep g2 p1, p2, trivial⟩, h, fun w F3 H3 g3 p3 => q w F3 H3 ((g1.step g2).step g3) p3⟩
end
end BF
set_option maxHeartbeats 5000000
namespace BF
open L2 PySem PySem.Spec PyProof.Rows
/-- the two classes -/
structure Kl (Z : Zx) (C CD : Addr) : Prop where
  sh : ClsOk Z.K C shN
  dk : ClsOk Z.K CD ["shelf"]
  stand : DfM Z C "stand" "Shelf.stand" s_Shelf_stand
  ask_knot : DfM Z C "ask_knot" "Shelf.ask_knot" s_Shelf_ask_knot
  full : DfM Z C "full" "Shelf.full" s_Shelf_full
  changed : DfM Z C "changed" "Shelf.changed" s_Shelf_changed
  put : DfM Z C "put" "Shelf.put" s_Shelf_put
  out : DfM Z C "out" "Shelf.out" s_Shelf_out
  hang : DfM Z C "hang" "Shelf.hang" s_Shelf_hang
  thing_of : DfM Z CD "thing_of" "Desk.thing_of" s_Desk_thing_of
  deed_row : DfM Z CD "deed_row" "Desk.deed_row" s_Desk_deed_row
  way_row : DfM Z CD "way_row" "Desk.way_row" s_Desk_way_row
  between_row : DfM Z CD "between_row" "Desk.between_row" s_Desk_between_row
  say : DfM Z CD "say" "Desk.say" s_Desk_say
section
variable {Z : Zx} {C CD : Addr}
abbrev Sh.sd (st : Sh) : Sd := (st.tree, st.rows)
/-- the sizes -/
structure ShZ (st : Sh) : Prop where
  tree : st.tree.length ≤ 100000
  rows : st.rows.length ≤ 100000
theorem c_Shelf_stand (E : Top Z) (K : Kl Z C CD) : MCal Z C "stand" CX0 1 (sp1 Z.T (pSh C) ShZ (fun st => pd rSd st.sd)) :=
  mcal1 ["self", "row"] [0] ["tuple"] 1 K.stand (fun _ _ _ _ _ _ us hl => match us, hl with | [_], _ => rfl) fun X B st hp => by
    have hr := hp.rows
    exact dos_one (do_ret (ev_t2 (ev_tupleL B E (ev_tree B K.sh (ev_vw B 0))) (ev_tupleL B E ((ev_lc (f := fun r => r) (S := rTpl rInt) B [("row", 1)] [1] ["tuple"] (gi_pl (ev_rows B K.sh (ev_vw B 0))) (by omega) (fun X' B' => (ga_name B' 1)) (fun X' B' x hx => (ev_tupleL B' E (ev_var B' 1).l))).as (List.map_id' _)).l)) (rt_eq rfl))
theorem c_Shelf_ask_knot (E : Top Z) (K : Kl Z C CD) : MCal Z C "ask_knot" CX0 1 (sp2 Z.T (pSh C) (pd rInt) (fun st k => 0 ≤ k ∧ k < st.tree.length) (fun st k => pd rNone ())) :=
  mcal2 ["self", "knot"] [0, 1] ["isinstance", "int", "bool", "len", "NoKnot"] 0 K.ask_knot (fun _ _ _ _ _ _ us hl => match us, hl with | [_, _], _ => rfl) fun X B st k hp => by
    refine dos_one (do_if (et_w (ew_or (et_not (et_val (ev_isi (u := "int") (b := true) B E (ev_var B 1) ty_int (by decide +kernel)))) fun h1 => (ew_or (et_val (ev_isi (u := "bool") (b := false) B E (ev_var B 1) ty_int (by decide +kernel))) fun h2 => (ew_or1 (et_not (et_chain ev_int (ev_var B 1) (ev_lenL B E (ev_tree B K.sh (ev_vw B 0))) od_le od_lt)))))) (fun h3 => ?_) (fun h3 => ?_))
    · exfalso
      rw [decide_eq_true hp.1, decide_eq_true hp.2] at h3
      cases h3
    · exact dos_nil fun F H => rfl
theorem c_Shelf_full (E : Top Z) (K : Kl Z C CD) : MCal Z C "full" CX0 2 (sp2 Z.T (pSh C) (pd rInt) (fun st k => 0 ≤ k ∧ k < st.tree.length ∧ st.fulls.length = st.tree.length) (fun st k => pd (rLst rEn) (st.fulls.getD k.toNat []))) :=
  mcal2 ["self", "knot"] [0, 1] ["list"] 0 K.full (fun _ _ _ _ _ _ us hl => match us, hl with | [_, _], _ => rfl) fun X B st k hp => by
    refine dos_cons (do_expr (ev_meth1 B K.sh.c (c_Shelf_ask_knot E K) (ev_vw B 0) (ins_sh (by decide)) (ev_var B 1) ⟨hp.1, hp.2.1⟩) ?_)
    exact dos_one (do_ret (ev_listL B E (ev_ixL (ev_fulls B K.sh (ev_vw B 0)) (ev_var B 1) hp.1 (at_getD [] (by omega))).l) (rt_eq rfl))
end
end BF
set_option maxHeartbeats 5000000
namespace BF
open L2 PySem PySem.Spec PyProof.Rows
/-- the kinds of a row's words -/
def shapeM (s : Str) (n : Nat) : Str := if cutS s (some (-1)) none = "w" then s ++ ⟨(List.replicate ((n : Int) - s.length).toNat 119).toArray⟩ else s
def kindsM : List Str → Str
  | [] => ""
  | w :: r => match shapesL.lookup w with
    | some s => shapeM s r.length
    | none => ""
structure RowW (ws : List Str) : Prop where
  ex : ∃ q ∈ shapesL, ∃ r, ws = q.1 :: r ∧ shapesL.lookup q.1 = some q.2
  fit : ws.length = 1 + (kindsM ws).length
  sz : ws.length ≤ 500
theorem shapes_len : ∀ q ∈ shapesL, q.2.length ≤ 3 := by decide +kernel
variable {Z : Zx}
theorem c_shape_of (E : Top Z) (D : Ds Z) {d : Addr} (S : Shp Z d) : Cal Z "shape_of" 1 (sp1 Z.T (pd (rLst rStr)) RowW (fun ws => pd rStr (kindsM ws))) :=
  cal1 ["words", "shape"] [0, 1] ["SHAPES", "len", "NoRow"] 1 D.shape_of (fun _ _ _ _ _ _ us hl => match us, hl with | [_], _ => rfl) fun X B ws hp => by
    obtain ⟨⟨q, hq, r, rfl, hlk⟩, hl, hz⟩ := hp
    have h3 := shapes_len q hq
    have hk : kindsM (q.1 :: r) = shapeM q.2 r.length := by
      show (match shapesL.lookup q.1 with | some s => shapeM s r.length | none => "") = _
      rw [hlk]
    rw [hk] at hl
    have hr : r.length ≤ 500 := by simp at hz; omega
    refine dos_cons (do_if (et_cmp (ev_ixL (ev_var B 0).l ev_int (by decide) rfl) (ev_gref B S.mg) (od_notSh B S hq)) (fun h1 => ?_) (fun h1 => ?_))
    · cases h1
    refine dos_nil ?_
    refine dos_cons (do_set B 1 (ev_shape B S hq (ev_gref B S.mg) (ev_ixL (ev_var B 0).l ev_int (by decide) rfl)) ?_)
    have hls : (shapeM q.2 r.length).length ≤ 500 := by simp at hz hl; omega
    have hfin : ∀ s2 : Str, s2 = shapeM q.2 r.length → DOs Z X (((defBody s_shape_of).drop 3)) [.da (rLst rStr) (q.1 :: r), .da rStr s2] (dR (pd rStr (kindsM (q.1 :: r)))) := fun s2 e => by
      subst e
      refine dos_cons (do_if (et_cmp (ev_lenL B E (ev_var B 0).l) (ev_bin ev_int (ev_lenS B E (ev_var B 1) ?_) od_add) (od_ne sc_int)) (fun h => ?_) (fun h => ?_))
      · exact sz_le (by omega)
      · exfalso
        simp at h hl; omega
      refine dos_nil ?_
      exact dos_one (do_ret (ev_var B 1) (rt_eq hk.symm))
    refine dos_cons (do_if (et_cmp (ev_slS (ev_var B 1) (eo_so (ev_neg ev_int)) eo_no ?_) ev_str (od_eq sc_str)) (fun h => ?_) (fun h => ?_))
    · exact sz_le (by omega)
    · refine dos_cons (do_set B 1 (ev_bin (ev_var B 1) (ev_bin ev_str (ev_bin (ev_bin (ev_lenL B E (ev_var B 0).l) ev_int od_sub) (ev_lenS B E (ev_var B 1) ?_) od_sub) (od_mulS (c := 119) ?_ ?_)) (od_adds ?_)) (dos_nil ?_))
      · exact sz_le (by omega)
      · simp only [List.length_cons]; omega
      · omega
      · refine sz_le ?_
        rw [← len_app]
        have := hls
        unfold shapeM at this
        rw [if_pos (of_decide_eq_true h)] at this
        refine Nat.le_trans (Nat.le_of_eq ?_) (Nat.le_trans this (by decide))
        simp only [List.length_cons]
        congr 5
        omega
      · refine hfin _ ?_
        unfold shapeM
        rw [if_pos (of_decide_eq_true h)]
        simp only [List.length_cons]
        congr 5
        omega
    · refine dos_nil (hfin _ ?_)
      unfold shapeM
      rw [if_neg (of_decide_eq_false h)]
end BF
set_option maxHeartbeats 5000000
namespace BF
open L2 PySem PySem.Spec PyProof.Rows
/-- a deed's told changes -/
abbrev Told := List (Int × List En × List En)
abbrev rTold : Rp Told := rLst (rT3 rInt (rLst rEn) (rLst rEn))
def goneN (d : Told) : Int := (d.map fun q => (q.2.1.length : Int)).sum
def comeN (d : Told) : Int := (d.map fun q => (q.2.2.length : Int)).sum
def countM (d : Told) : Str := sI (goneN d) ++ " " ++ sI (comeN d)
structure ToldOk (d : Told) : Prop where
  sz : d.length ≤ 1000
  g : Small (goneN d)
  c : Small (comeN d)
variable {Z : Zx}
theorem c_law_counted (E : Top Z) (D : Ds Z) : Cal Z "_law_counted" 1 (sp1 Z.T (pd rTold) ToldOk (fun d => pd rStr (countM d))) :=
  cal1 ["_law_deeds", "_law_gone", "_law_knot", "_law_left", "_law_come"] [0, 1] ["sum", "str"] 4 D.law_counted (fun _ _ _ _ _ _ us hl => match us, hl with | [_], _ => rfl) fun X B d hp => by
    have hz := hp.sz
    have a := sI_len hp.g
    have b := sI_len hp.c
    have c : (" " : Str).length = 1 := by decide
    refine dos_cons (do_set B 1 (ev_sum B E ((ev_lc (f := fun (q : Int × List En × List En) => (q.2.1.length : Int)) B [("_law_knot", 2), ("_law_left", 3), ("_law_come", 4)] [2, 3, 4] ["len"] (gi_l (ev_var B 0)) (by omega) (fun X' B' => (ga_t3 B' (ga_name B' 2) (ga_name B' 3) (ga_name B' 4))) (fun X' B' x hx => (ev_lenL B' E ((ev_var B' 3)).l)))).l) ?_)
    refine dos_one (do_ret (ev_bin (ev_bin (ev_strI B E (ev_var B 1) (strlen hp.g)) ev_str (od_adds (sz_le (by omega)))) (ev_strI B E (ev_sum B E ((ev_lc (f := fun (q : Int × List En × List En) => (q.2.2.length : Int)) B [("_law_knot", 2), ("_law_left", 3), ("_law_come", 4)] [2, 3, 4] ["len"] (gi_l (ev_var B 0)) (by omega) (fun X' B' => (ga_t3 B' (ga_name B' 2) (ga_name B' 3) (ga_name B' 4))) (fun X' B' x hx => (ev_lenL B' E ((ev_var B' 4)).l)))).l) (strlen hp.c)) (od_adds (sz_le (by rw [len_app]; unfold comeN at b; omega)))) (rt_eq rfl))
end BF
set_option maxHeartbeats 5000000
namespace BF
open L2 PySem PySem.Spec PyProof.Rows
variable {Z : Zx}
theorem lineAt {st : Sd} (h : StandOk st) {i : Nat} (hi : i < st.1.length) : (st.1.zip st.2)[i]? = some (st.1.getD i none, st.2.getD i []) := by
  have h2 : i < st.2.length := by rw [h.len]; exact hi
  rw [List.getElem?_zip_eq_some]
  exact ⟨at_getD none hi, at_getD [] h2⟩
theorem c_law_text (E : Top Z) (D : Ds Z) : Cal Z "_law_text" 1 (sp2 Z.T (pd (rLst (rOpt rInt))) (pd (rLst (rLst rInt))) (fun t rows => StandOk (t, rows)) (fun t rows => pd rText (t, rows))) :=
  cal2 ["_law_tree_here", "_law_rows_here", "_law_lines", "_law_knot", "_law_words_here", "_law_key_here"] [0, 1, 2, 3, 4] ["range", "len", "str"] 4 D.law_text (fun _ _ _ _ _ _ us hl => match us, hl with | [_, _], _ => rfl) fun X B t rows hp => by
    have hl2 : t.length ≤ 40 := hp.tree.l2
    have hlen : rows.length = t.length := hp.len
    refine dos_cons (do_new B 2 rStr ?_)
    refine dos_cons (do_for B (gi_range1 B (E.f "range") (ev_lenL B E ((ev_var B 0)).l) (sm62 (by omega))) (ga_name B 3) (fun i Γ => Γ = [.da (rLst (rOpt rInt)) t, .da (rLst (rLst rInt)) rows, .mu (mLst rStr) (((t.zip rows).take i).map fun x => lineM x.1 x.2), .un, .un, .un]) rfl (fun i x Γ' hx hI => ?_) (fun Γ' hI => ?_))
    · subst hI
      have hx2 := rg_at hx
      obtain ⟨hx1, hx3⟩ := hx2
      have hi : i < t.length := by omega
      have hxi : x = (i : Int) := by omega
      subst hxi
      have hat : (t.zip rows)[i]? = some (t.getD i none, rows.getD i []) := lineAt hp hi
      have hm := List.mem_of_getElem? hat
      obtain ⟨m1, m2⟩ := zip_mem2 hm
      have hrow : RowOk (rows.getD i []) := row_ok hp m2
      have hsm : ∀ q, t.getD i none = some q → Small q := fun q e => (par_small hp.tree m1 q e).1
      have hsz := line_size hsm hrow
      have hcnt := lineW_cnt (t.getD i none) hrow
      have rz := hrow.sz
      refine dos_cons (do_set B 4 (ev_list (.cons ev_str .nil)) ?_)
      refine dos_mid [.da (rLst (rOpt rInt)) t, .da (rLst (rLst rInt)) rows, .mu (mLst rStr) (((t.zip rows).take i).map fun x => lineM x.1 x.2), .da rInt i, .da (rLst rStr) (headW (t.getD i none)), .un] ?_ ?_
      · refine do_if (et_cmp (ev_var B 3) ev_int od_gt) (fun h1 => ?_) (fun h1 => ?_)
        · have h0 : 1 ≤ i := by have := of_decide_eq_true h1; omega
          obtain ⟨q, e, hq⟩ := hp.tree.up i h0 hi
          refine dos_cons (do_set B 4 (ev_list (.cons ev_str (.cons (ev_strI B E ((ev_ixL (x := t.getD i none) ((ev_var B 0)).l (ev_var B 3) (by omega) (at_getD none (by omega))).so e) (strlen (hsm q e))) .nil))) ?_)
          refine dos_nil ?_
          rw [show t.getD i none = some q from e]
          rfl
        · have h0 : i = 0 := by have := of_decide_eq_false h1; omega
          subst h0
          refine dos_nil ?_
          rw [show t.getD 0 none = none from hp.tree.root]
          rfl
      refine dos_cons (do_app B 2 (ev_join B ev_str ((ev_bin ((ev_var B 4)).l ((ev_lc (f := sI) B [("_law_key_here", 5)] [5] ["str"] (gi_l (ev_ixL (x := rows.getD i []) ((ev_var B 1)).l (ev_var B 3) (by omega) (show rows[i]? = some (rows.getD i []) from at_getD [] (by omega)))) (by omega) (fun X' B' => (ga_name B' 5)) (fun X' B' k hk => (ev_strI B' E (ev_var B' 5) (strlen (small_of_key (hrow.ky k hk))))))).l (od_cat (sz_le (by
          have := hcnt
          unfold lineW at this
          rw [List.length_append] at this
          omega))))).l (show ((lineW (t.getD i none) (rows.getD i [])).map (·.length)).sum + (lineW (t.getD i none) (rows.getD i [])).length * (" " : Str).length ≤ _ by omega)) ?_ ?_)
      · refine sz_lt ?_
        rw [List.length_map]
        have := List.length_take_le i (t.zip rows)
        omega
      refine dos_un 3 (dos_un 4 (dos_nil ?_))
      rw [map_step _ hat]
      rfl
    subst hI
    rw [show (rg 0 (t.length : Int)).length = (t.zip rows).length by rw [rg_len, List.length_zip]; omega, List.take_length]
    exact dos_one (do_ret (ev_join B ev_str (ev_own B 2) (show ((linesM (t, rows)).map (·.length)).sum + (linesM (t, rows)).length * ("\n" : Str).length ≤ _ by have := text_size hp; omega)) (rt_eq rfl))
end BF
set_option maxHeartbeats 5000000
namespace BF
open L2 PySem PySem.Spec PyProof.Rows
variable {Z : Zx}
def mix1 (c k : Int) : Int := ((c % 2147483629 + 40503 * k + 12345) * 48271) % 2147483647
def mix2 (c k : Int) : Int := (mix1 c k * mix1 c k + 69621 * mix1 c k + k) % 2147483629
def mixM (c k : Int) : Int := ((mix2 c k * mix2 c k + 16807 * mix2 c k + 31 * k) % 1073741789) / 3
theorem mixM_0 (c k : Int) : 0 ≤ mixM c k := by unfold mixM; omega
theorem c_law_mixed (E : Top Z) (D : Ds Z) : Cal Z "_law_mixed" 1 (sp2 Z.T (pd rInt) (pd rInt) (fun _ _ => True) (fun c k => pd rInt (mixM c k))) :=
  cal2 ["_law_cell", "_law_k", "_law_one", "_law_two"] [0, 1, 2, 3] [] 2 D.law_mixed (fun _ _ _ _ _ _ us hl => match us, hl with | [_, _], _ => rfl) fun X B c k hp => by
    have h1 : 0 ≤ mix1 c k ∧ mix1 c k < 2147483647 := by unfold mix1; omega
    have h2 : 0 ≤ mix2 c k ∧ mix2 c k < 2147483647 := by unfold mix2; omega
    refine dos_cons (do_set B 2 (x := mix1 c k) (ev_bin (ev_bin (ev_bin (ev_bin (ev_bin (ev_var B 0) ev_int (od_mod (by decide))) (ev_bin ev_int (ev_var B 1) (od_mul (.inl ⟨?_, ?_⟩))) od_add) ev_int od_add) ev_int (od_mul (.inr ⟨?_, ?_⟩))) ev_int (od_mod (by decide))) ?_)
    · decide
    · decide
    · decide
    · decide
    refine dos_cons (do_set B 3 (x := mix2 c k) (ev_bin (ev_bin (ev_bin (ev_bin (ev_var B 2) (ev_var B 2) (od_mul (.inl ⟨?_, ?_⟩))) (ev_bin ev_int (ev_var B 2) (od_mul (.inl ⟨?_, ?_⟩))) od_add) (ev_var B 1) od_add) ev_int (od_mod (by decide))) ?_)
    · omega
    · omega
    · decide
    · decide
    refine dos_one (do_ret (ev_bin (ev_bin (ev_bin (ev_bin (ev_bin (ev_var B 3) (ev_var B 3) (od_mul (.inl ⟨?_, ?_⟩))) (ev_bin ev_int (ev_var B 3) (od_mul (.inl ⟨?_, ?_⟩))) od_add) (ev_bin ev_int (ev_var B 1) (od_mul (.inl ⟨?_, ?_⟩))) od_add) ev_int (od_mod (by decide))) ev_int (od_div (by decide))) (rt_eq rfl))
    · omega
    · omega
    · decide
    · decide
    · decide
    · decide
end BF
set_option maxHeartbeats 5000000
namespace BF
open L2 PySem PySem.Spec PyProof.Rows
section
variable {Z : Zx} {X : Cx} {e e1 e2 : Expr} {Γ : List Sl} {N : List Str} {sc : Scope} {vs ws : List Nat} {gs : List Str} {k : Nat} {pos p pos' p3 : Pos} {D : Fin}
theorem set_same {σ : Sg} {Γ : List Sl} {i : Nat} {v : V} (hl : σ.length = Γ.length) (hi : i < Γ.length) (ev : σ[i]? = some (some v)) : σ.set i (some v) = σ := by
  apply List.ext_getElem?
  intro j
  by_cases q : j = i
  · subst q
    rw [List.getElem?_set_self (by omega), ev]
  · rw [List.getElem?_set_ne (Ne.symm q)]
theorem SA.ne {s : SA} (nd : [s.a, s.lt, s.lr, s.lf].Nodup) : (s.a ≠ s.lt ∧ s.a ≠ s.lr ∧ s.a ≠ s.lf) ∧ (s.lt ≠ s.lr ∧ s.lt ≠ s.lf) ∧ s.lr ≠ s.lf := by simpa using nd
theorem ShAt.updF {C : Addr} {s : SA} {st : Sh} {F H : Hp} {us : List V} {y : List (List En)} (x : ShAt C s st F H) (r : RL (rLst rEn) F y us) : ShAt C s { st with fulls := y } F (upd H s.lf (.lst us)) := by
  obtain ⟨⟨fs, h1, h2⟩, ⟨v1, h3, r1⟩, ⟨v2, h4, r2⟩, ⟨v3, h5, r3⟩, nd⟩ := x
  obtain ⟨⟨m1, m2, m3⟩, ⟨m4, m5⟩, m6⟩ := SA.ne nd
  exact ⟨⟨fs, by rw [upd_ne m3]; exact h1, h2⟩, ⟨v1, by rw [upd_ne m5]; exact h3, r1⟩, ⟨v2, by rw [upd_ne m6]; exact h4, r2⟩, ⟨us, upd_same, r⟩, nd⟩
theorem ShAt.updR {C : Addr} {s : SA} {st : Sh} {F H : Hp} {us : List V} {y : List (List Int)} (x : ShAt C s st F H) (r : RL (rLst rInt) F y us) : ShAt C s { st with rows := y } F (upd H s.lr (.lst us)) := by
  obtain ⟨⟨fs, h1, h2⟩, ⟨v1, h3, r1⟩, ⟨v2, h4, r2⟩, ⟨v3, h5, r3⟩, nd⟩ := x
  obtain ⟨⟨m1, m2, m3⟩, ⟨m4, m5⟩, m6⟩ := SA.ne nd
  exact ⟨⟨fs, by rw [upd_ne m2]; exact h1, h2⟩, ⟨v1, by rw [upd_ne m4]; exact h3, r1⟩, ⟨us, upd_same, r⟩, ⟨v3, by rw [upd_ne (Ne.symm m6)]; exact h5, r3⟩, nd⟩
theorem ShAt.updT {C : Addr} {s : SA} {st : Sh} {F H : Hp} {us : List V} {y : Tr} (x : ShAt C s st F H) (r : RL (rOpt rInt) F y us) : ShAt C s { st with tree := y } F (upd H s.lt (.lst us)) := by
  obtain ⟨⟨fs, h1, h2⟩, ⟨v1, h3, r1⟩, ⟨v2, h4, r2⟩, ⟨v3, h5, r3⟩, nd⟩ := x
  obtain ⟨⟨m1, m2, m3⟩, ⟨m4, m5⟩, m6⟩ := SA.ne nd
  exact ⟨⟨fs, by rw [upd_ne m1]; exact h1, h2⟩, ⟨us, upd_same, r⟩, ⟨v2, by rw [upd_ne (Ne.symm m4)]; exact h4, r2⟩, ⟨v3, by rw [upd_ne (Ne.symm m5)]; exact h5, r3⟩, nd⟩
/-- self.fulls[ix] = e -/
theorem do_stF (B : Bd Z X N sc vs ws gs k) (i : Nat) {n : Str} {C : Addr} {s : SA} {st : Sh} {x : List En} {ix : Int} (K : ClsOk Z.K C shN) (a : EV Z X e Γ (pd (rLst rEn) x)) (b : EV Z X e2 Γ (pd rInt ix)) (hx : 0 ≤ ix ∧ ix < st.fulls.length) (h : D.nx (Γ.set i (.mu (mSh C s) { st with fulls := st.fulls.set ix.toNat x }))) (hi : N[i]? = some n := by rfl) (hv : i ∈ vs := by decide) (hΓ : Γ[i]? = some (.mu (mSh C s) st) := by rfl)
    (nv : noVw Γ = true := by rfl) (hb : attributeBase (.Name n p) "fulls" X.env (eval (.Name n p) X.env) = eval (.Name n p) X.env := by rfl) (hs : swapsWithSole [.Subscript (.Attribute (.Name n p) "fulls" p3) e2 pos'] e pos.line X.env = pure false := by rfl) (hw : swappedStores [.Subscript (.Attribute (.Name n p) "fulls" p3) e2 pos'] e X.env = pure none := by rfl) (h1 : (assignEach [.Subscript (.Attribute (.Name n p) "fulls" p3) e2 pos'] X.env).map (·.2) = [assign (.Subscript (.Attribute (.Name n p) "fulls" p3) e2 pos') X.env] := by rfl)
    (ha : ∀ v, assign (.Subscript (.Attribute (.Name n p) "fulls" p3) e2 pos') X.env v = (do
      let ov ← holding [v] (eval (.Attribute (.Name n p) "fulls" p3) X.env)
      let iv ← holding [v, ov] (eval e2 X.env)
      standAt pos'
      holding [v, ov, iv] (setItem ov iv v)
      release [v, ov, iv] []) := by intro _; rfl) : DO Z X (.Assign [.Subscript (.Attribute (.Name n p) "fulls" p3) e2 pos'] e pos) Γ D := by
  obtain ⟨d1, d2, _⟩ := plainName_ok (B.nm.pn i hv n hi)
  have pn : PE X (.Name n p) (tVar i) := pe_var (i := i) (by rw [B.eN]; exact hi) (by rw [B.eSc]; exact B.nm.vis i hv n hi) d1 d2
  refine DO.of (ps_asg a.pe (pg_sub (pe_fld pn hb) b.pe set_list ha) hs hw h1) fun σ F0 G F H Wr fts g S => ⟨F, G, Wr, fts, g.ok, S, fun v F1 H1 g1 p1 => ?_⟩
  have S1 := S.grow g1
  obtain ⟨_, ev, ⟨rfl, ef, x1⟩, mk⟩ := S1.mu hΓ
  obtain ⟨fs, h2, h3, h4, h5, h6, h7⟩ := x1.ob
  obtain ⟨us, hl, r⟩ := x1.fu
  refine ⟨_, ev, s.a, C, s.dx, fs, .ref s.lf, rfl, h2, by rw [B.K]; exact K.c, by rw [B.K]; exact K.na _ (by simp), h6, F1, G, Wr, fts, g1.ok, S1, fun w F2 H2 g2 p2 => ?_⟩
  have S2 := S1.grow g2
  have hl2 : H2 s.lf = some (.lst us) := g2.eh _ _ (fun w => w) hl lst_nt
  have hm : s.lf ∈ fts i := by rw [ef]; simp
  refine ⟨s.lf, us, ix, ix.toNat, rfl, p2, hl2, ?_, ?_⟩
  · unfold ixN
    rw [if_pos hx.1, if_pos (by rw [r.len]; exact hx.2)]
  · have hi' : i < Γ.length := (List.getElem?_eq_some_iff.mp hΓ).1
    have g3 : Grow Z.T (fun a => a ∈ fts i) F2 H2 F2 (upd H2 s.lf (.lst (us.set ix.toNat v))) := (Grow.refl g2.ok).mut hl2 lst_nt lst_nc (S2.there hm).1 (.inl hm)
    have x2 : ShAt C s { st with fulls := st.fulls.set ix.toNat x } F2 (upd H2 s.lf (.lst (us.set ix.toNat v))) := (x1.mono g2.ef fun a ha => by
      obtain ⟨o, ho, nt⟩ := x1.there a ha
      rw [ho, g2.eh a o (fun w => w) ho nt]).updF ((r.mono g2.ef).set _ ((rLst rEn).mono g2.ef p1))
    obtain ⟨fts', y1, y2⟩ := set_ends (M := mSh C s) (y := { st with fulls := st.fulls.set ix.toNat x }) (v := .ref s.a) (ft := s.ft) ((g.step g1).step g2) S2 hi' g3 ⟨rfl, rfl, x2⟩ (fun b hb => by
      rw [← ef] at hb; exact ⟨(S2.there hb).1, .inl hb⟩) (fun z => nomatch z) nv
    have eσ : σ.set i (some (V.ref s.a)) = σ := set_same S.len hi' ev
    rw [eσ] at y2
    exact ⟨F2, _, fts', y1, y2, h⟩
/-- self.rows[ix] = e -/
theorem do_stR (B : Bd Z X N sc vs ws gs k) (i : Nat) {n : Str} {C : Addr} {s : SA} {st : Sh} {x : List Int} {ix : Int} (K : ClsOk Z.K C shN) (a : EV Z X e Γ (pd (rLst rInt) x)) (b : EV Z X e2 Γ (pd rInt ix)) (hx : 0 ≤ ix ∧ ix < st.rows.length) (h : D.nx (Γ.set i (.mu (mSh C s) { st with rows := st.rows.set ix.toNat x }))) (hi : N[i]? = some n := by rfl) (hv : i ∈ vs := by decide) (hΓ : Γ[i]? = some (.mu (mSh C s) st) := by rfl)
    (nv : noVw Γ = true := by rfl) (hb : attributeBase (.Name n p) "rows" X.env (eval (.Name n p) X.env) = eval (.Name n p) X.env := by rfl) (hs : swapsWithSole [.Subscript (.Attribute (.Name n p) "rows" p3) e2 pos'] e pos.line X.env = pure false := by rfl) (hw : swappedStores [.Subscript (.Attribute (.Name n p) "rows" p3) e2 pos'] e X.env = pure none := by rfl) (h1 : (assignEach [.Subscript (.Attribute (.Name n p) "rows" p3) e2 pos'] X.env).map (·.2) = [assign (.Subscript (.Attribute (.Name n p) "rows" p3) e2 pos') X.env] := by rfl)
    (ha : ∀ v, assign (.Subscript (.Attribute (.Name n p) "rows" p3) e2 pos') X.env v = (do
      let ov ← holding [v] (eval (.Attribute (.Name n p) "rows" p3) X.env)
      let iv ← holding [v, ov] (eval e2 X.env)
      standAt pos'
      holding [v, ov, iv] (setItem ov iv v)
      release [v, ov, iv] []) := by intro _; rfl) : DO Z X (.Assign [.Subscript (.Attribute (.Name n p) "rows" p3) e2 pos'] e pos) Γ D := by
  obtain ⟨d1, d2, _⟩ := plainName_ok (B.nm.pn i hv n hi)
  have pn : PE X (.Name n p) (tVar i) := pe_var (i := i) (by rw [B.eN]; exact hi) (by rw [B.eSc]; exact B.nm.vis i hv n hi) d1 d2
  refine DO.of (ps_asg a.pe (pg_sub (pe_fld pn hb) b.pe set_list ha) hs hw h1) fun σ F0 G F H Wr fts g S => ⟨F, G, Wr, fts, g.ok, S, fun v F1 H1 g1 p1 => ?_⟩
  have S1 := S.grow g1
  obtain ⟨_, ev, ⟨rfl, ef, x1⟩, mk⟩ := S1.mu hΓ
  obtain ⟨fs, h2, h3, h4, h5, h6, h7⟩ := x1.ob
  obtain ⟨us, hl, r⟩ := x1.rw_
  refine ⟨_, ev, s.a, C, s.dx, fs, .ref s.lr, rfl, h2, by rw [B.K]; exact K.c, by rw [B.K]; exact K.na _ (by simp), h5, F1, G, Wr, fts, g1.ok, S1, fun w F2 H2 g2 p2 => ?_⟩
  have S2 := S1.grow g2
  have hl2 : H2 s.lr = some (.lst us) := g2.eh _ _ (fun w => w) hl lst_nt
  have hm : s.lr ∈ fts i := by rw [ef]; simp
  refine ⟨s.lr, us, ix, ix.toNat, rfl, p2, hl2, ?_, ?_⟩
  · unfold ixN
    rw [if_pos hx.1, if_pos (by rw [r.len]; exact hx.2)]
  · have hi' : i < Γ.length := (List.getElem?_eq_some_iff.mp hΓ).1
    have g3 : Grow Z.T (fun a => a ∈ fts i) F2 H2 F2 (upd H2 s.lr (.lst (us.set ix.toNat v))) := (Grow.refl g2.ok).mut hl2 lst_nt lst_nc (S2.there hm).1 (.inl hm)
    have x2 : ShAt C s { st with rows := st.rows.set ix.toNat x } F2 (upd H2 s.lr (.lst (us.set ix.toNat v))) := (x1.mono g2.ef fun a ha => by
      obtain ⟨o, ho, nt⟩ := x1.there a ha
      rw [ho, g2.eh a o (fun w => w) ho nt]).updR ((r.mono g2.ef).set _ ((rLst rInt).mono g2.ef p1))
    obtain ⟨fts', y1, y2⟩ := set_ends (M := mSh C s) (y := { st with rows := st.rows.set ix.toNat x }) (v := .ref s.a) (ft := s.ft) ((g.step g1).step g2) S2 hi' g3 ⟨rfl, rfl, x2⟩ (fun b hb => by
      rw [← ef] at hb; exact ⟨(S2.there hb).1, .inl hb⟩) (fun z => nomatch z) nv
    have eσ : σ.set i (some (V.ref s.a)) = σ := set_same S.len hi' ev
    rw [eσ] at y2
    exact ⟨F2, _, fts', y1, y2, h⟩
end
end BF
set_option maxHeartbeats 5000000
namespace BF
open L2 PySem PySem.Spec PyProof.Rows
section
variable {Z : Zx} {X : Cx} {e e1 e2 : Expr} {Γ : List Sl} {N : List Str} {sc : Scope} {vs ws : List Nat} {gs : List Str} {k : Nat} {pos p pos' p3 : Pos} {D : Fin}
/-- self.tree.append(e) -/
theorem do_apT (B : Bd Z X N sc vs ws gs k) (i : Nat) {n : Str} {C : Addr} {s : SA} {st : Sh} {x : Option Int} {ap : Pos} (K : ClsOk Z.K C shN) (a : EV Z X e Γ (pd (rOpt rInt) x)) (hz : st.tree.length < sizeLine) (h : D.nx (Γ.set i (.mu (mSh C s) { st with tree := st.tree ++ [x] }))) (hi : N[i]? = some n := by rfl) (hv : i ∈ vs := by decide) (hΓ : Γ[i]? = some (.mu (mSh C s) st) := by rfl)
    (nv : noVw Γ = true := by rfl) (hb : attributeBase (.Name n p) "tree" X.env (eval (.Name n p) X.env) = eval (.Name n p) X.env := by rfl) (hst : starEach (e :: []) X.env = (false, eval e X.env) :: starEach [] X.env := by rfl)
    (hfew : (((backTo pos' (starEach (e :: []) X.env)).all fun x => !x.1) && ((backToKw pos' (keywordEach [] X.env)).all fun x => x.1.isSome) && decide (([e].length + ([] : List Keyword).length + if ([] : List Keyword).isEmpty = true then 0 else 1) < 30)) = true := by rfl)
    (hline : (ap.endLine == pos'.line) = true := by rfl) : DO Z X (.Expr (.Call (.Attribute (.Attribute (.Name n p) "tree" p3) "append" ap) [e] [] pos') pos) Γ D := by
  obtain ⟨d1, d2, _⟩ := plainName_ok (B.nm.pn i hv n hi)
  have pn : PE X (.Name n p) (tVar i) := pe_var (i := i) (by rw [B.eN]; exact hi) (by rw [B.eSc]; exact B.nm.vis i hv n hi) d1 d2
  refine DO.of (ps_expr (pe_bm PySem.F.plainAttrs_list PySem.F.slot_list_append PySem.F.type_list_append mt_append (pe_fld pn hb) (pa_cons a.pe pa_nil hst) (hs := hst) (hfew := hfew) (hline := hline))) fun σ F0 G F H Wr fts g S => ?_
  obtain ⟨v, ev, ⟨rfl, ef, x1⟩, mk⟩ := S.mu hΓ
  obtain ⟨fs, h2, h3, h4, h5, h6, h7⟩ := x1.ob
  obtain ⟨us, hl, r⟩ := x1.tr
  refine ⟨_, ev, s.a, C, s.dx, fs, .ref s.lt, rfl, h2, by rw [B.K]; exact K.c, by rw [B.K]; exact K.na _ (by simp), h4, .inl ⟨rfl, _, SqL.of hl⟩, ⟨F, G, Wr, fts, g.ok, S, fun w F1 H1 g1 p1 => ?_⟩⟩
  have S1 := S.grow g1
  have hl1 : H1 s.lt = some (.lst us) := g1.eh _ _ (fun w => w) hl lst_nt
  refine ⟨s.lt, us, w, rfl, rfl, hl1, by rw [r.len]; exact hz, ?_⟩
  have hm : s.lt ∈ fts i := by rw [ef]; simp
  have hi' : i < Γ.length := (List.getElem?_eq_some_iff.mp hΓ).1
  have g3 : Grow Z.T (fun a => a ∈ fts i) F1 H1 F1 (upd H1 s.lt (.lst (us ++ [w]))) := (Grow.refl g1.ok).mut hl1 lst_nt lst_nc (S1.there hm).1 (.inl hm)
  have x2 : ShAt C s { st with tree := st.tree ++ [x] } F1 (upd H1 s.lt (.lst (us ++ [w]))) := (x1.mono g1.ef fun a ha => by
      obtain ⟨o, ho, nt⟩ := x1.there a ha
      rw [ho, g1.eh a o (fun w => w) ho nt]).updT ((r.mono g1.ef).snoc p1)
  obtain ⟨fts', y1, y2⟩ := set_ends (M := mSh C s) (y := { st with tree := st.tree ++ [x] }) (v := .ref s.a) (ft := s.ft) (g.step g1) S1 hi' g3 ⟨rfl, rfl, x2⟩ (fun b hb => by
      rw [← ef] at hb; exact ⟨(S1.there hb).1, .inl hb⟩) (fun z => nomatch z) nv
  have eσ : σ.set i (some (V.ref s.a)) = σ := set_same S.len hi' ev
  rw [eσ] at y2
  exact ⟨F1, _, fts', y1, y2, h⟩
/-- self.rows.append(e) -/
theorem do_apR (B : Bd Z X N sc vs ws gs k) (i : Nat) {n : Str} {C : Addr} {s : SA} {st : Sh} {x : List Int} {ap : Pos} (K : ClsOk Z.K C shN) (a : EV Z X e Γ (pd (rLst rInt) x)) (hz : st.rows.length < sizeLine) (h : D.nx (Γ.set i (.mu (mSh C s) { st with rows := st.rows ++ [x] }))) (hi : N[i]? = some n := by rfl) (hv : i ∈ vs := by decide) (hΓ : Γ[i]? = some (.mu (mSh C s) st) := by rfl)
    (nv : noVw Γ = true := by rfl) (hb : attributeBase (.Name n p) "rows" X.env (eval (.Name n p) X.env) = eval (.Name n p) X.env := by rfl) (hst : starEach (e :: []) X.env = (false, eval e X.env) :: starEach [] X.env := by rfl)
    (hfew : (((backTo pos' (starEach (e :: []) X.env)).all fun x => !x.1) && ((backToKw pos' (keywordEach [] X.env)).all fun x => x.1.isSome) && decide (([e].length + ([] : List Keyword).length + if ([] : List Keyword).isEmpty = true then 0 else 1) < 30)) = true := by rfl)
    (hline : (ap.endLine == pos'.line) = true := by rfl) : DO Z X (.Expr (.Call (.Attribute (.Attribute (.Name n p) "rows" p3) "append" ap) [e] [] pos') pos) Γ D := by
  obtain ⟨d1, d2, _⟩ := plainName_ok (B.nm.pn i hv n hi)
  have pn : PE X (.Name n p) (tVar i) := pe_var (i := i) (by rw [B.eN]; exact hi) (by rw [B.eSc]; exact B.nm.vis i hv n hi) d1 d2
  refine DO.of (ps_expr (pe_bm PySem.F.plainAttrs_list PySem.F.slot_list_append PySem.F.type_list_append mt_append (pe_fld pn hb) (pa_cons a.pe pa_nil hst) (hs := hst) (hfew := hfew) (hline := hline))) fun σ F0 G F H Wr fts g S => ?_
  obtain ⟨v, ev, ⟨rfl, ef, x1⟩, mk⟩ := S.mu hΓ
  obtain ⟨fs, h2, h3, h4, h5, h6, h7⟩ := x1.ob
  obtain ⟨us, hl, r⟩ := x1.rw_
  refine ⟨_, ev, s.a, C, s.dx, fs, .ref s.lr, rfl, h2, by rw [B.K]; exact K.c, by rw [B.K]; exact K.na _ (by simp), h5, .inl ⟨rfl, _, SqL.of hl⟩, ⟨F, G, Wr, fts, g.ok, S, fun w F1 H1 g1 p1 => ?_⟩⟩
  have S1 := S.grow g1
  have hl1 : H1 s.lr = some (.lst us) := g1.eh _ _ (fun w => w) hl lst_nt
  refine ⟨s.lr, us, w, rfl, rfl, hl1, by rw [r.len]; exact hz, ?_⟩
  have hm : s.lr ∈ fts i := by rw [ef]; simp
  have hi' : i < Γ.length := (List.getElem?_eq_some_iff.mp hΓ).1
  have g3 : Grow Z.T (fun a => a ∈ fts i) F1 H1 F1 (upd H1 s.lr (.lst (us ++ [w]))) := (Grow.refl g1.ok).mut hl1 lst_nt lst_nc (S1.there hm).1 (.inl hm)
  have x2 : ShAt C s { st with rows := st.rows ++ [x] } F1 (upd H1 s.lr (.lst (us ++ [w]))) := (x1.mono g1.ef fun a ha => by
      obtain ⟨o, ho, nt⟩ := x1.there a ha
      rw [ho, g1.eh a o (fun w => w) ho nt]).updR ((r.mono g1.ef).snoc p1)
  obtain ⟨fts', y1, y2⟩ := set_ends (M := mSh C s) (y := { st with rows := st.rows ++ [x] }) (v := .ref s.a) (ft := s.ft) (g.step g1) S1 hi' g3 ⟨rfl, rfl, x2⟩ (fun b hb => by
      rw [← ef] at hb; exact ⟨(S1.there hb).1, .inl hb⟩) (fun z => nomatch z) nv
  have eσ : σ.set i (some (V.ref s.a)) = σ := set_same S.len hi' ev
  rw [eσ] at y2
  exact ⟨F1, _, fts', y1, y2, h⟩
/-- self.fulls.append(e) -/
theorem do_apF (B : Bd Z X N sc vs ws gs k) (i : Nat) {n : Str} {C : Addr} {s : SA} {st : Sh} {x : List En} {ap : Pos} (K : ClsOk Z.K C shN) (a : EV Z X e Γ (pd (rLst rEn) x)) (hz : st.fulls.length < sizeLine) (h : D.nx (Γ.set i (.mu (mSh C s) { st with fulls := st.fulls ++ [x] }))) (hi : N[i]? = some n := by rfl) (hv : i ∈ vs := by decide) (hΓ : Γ[i]? = some (.mu (mSh C s) st) := by rfl)
    (nv : noVw Γ = true := by rfl) (hb : attributeBase (.Name n p) "fulls" X.env (eval (.Name n p) X.env) = eval (.Name n p) X.env := by rfl) (hst : starEach (e :: []) X.env = (false, eval e X.env) :: starEach [] X.env := by rfl)
    (hfew : (((backTo pos' (starEach (e :: []) X.env)).all fun x => !x.1) && ((backToKw pos' (keywordEach [] X.env)).all fun x => x.1.isSome) && decide (([e].length + ([] : List Keyword).length + if ([] : List Keyword).isEmpty = true then 0 else 1) < 30)) = true := by rfl)
    (hline : (ap.endLine == pos'.line) = true := by rfl) : DO Z X (.Expr (.Call (.Attribute (.Attribute (.Name n p) "fulls" p3) "append" ap) [e] [] pos') pos) Γ D := by
  obtain ⟨d1, d2, _⟩ := plainName_ok (B.nm.pn i hv n hi)
  have pn : PE X (.Name n p) (tVar i) := pe_var (i := i) (by rw [B.eN]; exact hi) (by rw [B.eSc]; exact B.nm.vis i hv n hi) d1 d2
  refine DO.of (ps_expr (pe_bm PySem.F.plainAttrs_list PySem.F.slot_list_append PySem.F.type_list_append mt_append (pe_fld pn hb) (pa_cons a.pe pa_nil hst) (hs := hst) (hfew := hfew) (hline := hline))) fun σ F0 G F H Wr fts g S => ?_
  obtain ⟨v, ev, ⟨rfl, ef, x1⟩, mk⟩ := S.mu hΓ
  obtain ⟨fs, h2, h3, h4, h5, h6, h7⟩ := x1.ob
  obtain ⟨us, hl, r⟩ := x1.fu
  refine ⟨_, ev, s.a, C, s.dx, fs, .ref s.lf, rfl, h2, by rw [B.K]; exact K.c, by rw [B.K]; exact K.na _ (by simp), h6, .inl ⟨rfl, _, SqL.of hl⟩, ⟨F, G, Wr, fts, g.ok, S, fun w F1 H1 g1 p1 => ?_⟩⟩
  have S1 := S.grow g1
  have hl1 : H1 s.lf = some (.lst us) := g1.eh _ _ (fun w => w) hl lst_nt
  refine ⟨s.lf, us, w, rfl, rfl, hl1, by rw [r.len]; exact hz, ?_⟩
  have hm : s.lf ∈ fts i := by rw [ef]; simp
  have hi' : i < Γ.length := (List.getElem?_eq_some_iff.mp hΓ).1
  have g3 : Grow Z.T (fun a => a ∈ fts i) F1 H1 F1 (upd H1 s.lf (.lst (us ++ [w]))) := (Grow.refl g1.ok).mut hl1 lst_nt lst_nc (S1.there hm).1 (.inl hm)
  have x2 : ShAt C s { st with fulls := st.fulls ++ [x] } F1 (upd H1 s.lf (.lst (us ++ [w]))) := (x1.mono g1.ef fun a ha => by
      obtain ⟨o, ho, nt⟩ := x1.there a ha
      rw [ho, g1.eh a o (fun w => w) ho nt]).updF ((r.mono g1.ef).snoc p1)
  obtain ⟨fts', y1, y2⟩ := set_ends (M := mSh C s) (y := { st with fulls := st.fulls ++ [x] }) (v := .ref s.a) (ft := s.ft) (g.step g1) S1 hi' g3 ⟨rfl, rfl, x2⟩ (fun b hb => by
      rw [← ef] at hb; exact ⟨(S1.there hb).1, .inl hb⟩) (fun z => nomatch z) nv
  have eσ : σ.set i (some (V.ref s.a)) = σ := set_same S.len hi' ev
  rw [eσ] at y2
  exact ⟨F1, _, fts', y1, y2, h⟩
end
end BF
set_option maxHeartbeats 5000000
namespace BF
open L2 PySem PySem.Spec PyProof.Rows
/-! ## pairs in their order -/
def kOf (F : Hp) : V → Int × Int
  | .ref t => match F t with
    | some (.tup [.int i, .int j]) => (i, j)
    | _ => (0, 0)
  | _ => (0, 0)
theorem kOf_rel {F : Hp} {x : En} {u : V} (h : rEn.rel x F u) : kOf F u = x ∧ ∃ t, u = .ref t ∧ F t = some (.tup [.int x.1, .int x.2]) := by
  obtain ⟨t, a, b, rfl, hf, ha, hb⟩ := h
  cases ha
  cases hb
  refine ⟨?_, t, rfl, hf⟩
  show (match F t with | some (.tup [.int i, .int j]) => (i, j) | _ => (0, 0)) = x
  rw [hf]
theorem kOf_map {F : Hp} : ∀ {xs : List En} {us : List V}, RL rEn F xs us → us.map (kOf F) = xs ∧ ∀ u ∈ us, rEn.rel (kOf F u) F u
  | [], [], _ => ⟨rfl, fun _ h => nomatch h⟩
  | x :: xs, u :: us, ⟨h, r⟩ => by
    obtain ⟨e, _⟩ := kOf_rel h
    obtain ⟨e2, q⟩ := kOf_map r
    refine ⟨by rw [List.map_cons, e, e2], fun w hw => ?_⟩
    rcases List.mem_cons.mp hw with z | z
    · rw [z, e]; exact h
    · exact q w z
theorem kOf_back {F : Hp} : ∀ {us : List V}, (∀ u ∈ us, rEn.rel (kOf F u) F u) → RL rEn F (us.map (kOf F)) us
  | [], _ => trivial
  | u :: us, h => ⟨h u List.mem_cons_self, kOf_back fun w hw => h w (List.mem_cons_of_mem _ hw)⟩
abbrev Srt (xs : List En) : Prop := xs.Pairwise fun x y => SrtO.lexB y x = false
theorem srt_eq : ∀ {xs ys : List En}, xs.Perm ys → Srt xs → Srt ys → xs = ys
  | [], ys, h, _, _ => (List.nil_perm.mp h).symm
  | x :: xs, [], h, _, _ => nomatch h.length_eq
  | x :: xs, y :: ys, h, h1, h2 => by
    have a : SrtO.lexB x y = false := by
      rcases List.mem_cons.mp (h.mem_iff.mp List.mem_cons_self) with e | e
      · rw [e]; exact SrtO.lexB_no.mpr (by omega)
      · exact (List.pairwise_cons.mp h2).1 x e
    have b : SrtO.lexB y x = false := by
      rcases List.mem_cons.mp (h.mem_iff.mpr List.mem_cons_self) with e | e
      · rw [e]; exact SrtO.lexB_no.mpr (by omega)
      · exact (List.pairwise_cons.mp h1).1 y e
    have e : x = y := by
      have a := SrtO.lexB_no.mp a
      have b := SrtO.lexB_no.mp b
      exact Prod.ext (by omega) (by omega)
    subst e
    rw [srt_eq (List.Perm.cons_inv h) (List.pairwise_cons.mp h1).2 (List.pairwise_cons.mp h2).2]
section
variable {Z : Zx} {X : Cx} {e : Expr} {Γ : List Sl} {N : List Str} {sc : Scope} {vs ws : List Nat} {gs : List Str} {k : Nat} {pos p : Pos}
theorem ev_sortedP (B : Bd Z X N sc vs ws gs k) (E : Top Z) {xs ys : List En} (a : EV Z X e Γ (pl rEn xs)) (h1 : ys.Perm xs) (h2 : Srt ys) (hg : ("sorted" : Str) ∈ gs := by decide +kernel) (he : starEach (e :: []) X.env = (false, eval e X.env) :: starEach [] X.env := by rfl) : EV Z X (.Call (.Name "sorted" p) [e] [] pos) Γ (pd (rLst rEn) ys) :=
  b1 B E (.v1 (P := pl rEn xs) cr_sortedPO fun F H v o ⟨l, us, ev, hl, r⟩ Q q => by
    obtain ⟨e1, hk⟩ := kOf_map r
    refine ⟨l, us, kOf F, by rw [ev], SqL.of hl, fun u hu => ?_, fun ws d hs hp hd => ?_⟩
    · obtain ⟨_, t, e, hf⟩ := kOf_rel (hk u hu)
      exact ⟨t, e, o.sub _ _ hf⟩
    · have rw_ : RL rEn F (ws.map (kOf F)) ws := kOf_back fun u hu => hk u (hp.perm.mem_iff.mp hu)
      have e0 : ws.map (kOf F) = ys := srt_eq ((hp.perm.map (kOf F)).trans (by rw [e1]; exact h1.symm)) (List.pairwise_map.mpr hs) h2
      rw [e0] at rw_
      have g : Grow Z.T nowhere F H (upd F d (.lst ws)) (upd H d (.lst ws)) := Grow.laid o hd lst_nt
      exact q _ _ _ g ⟨d, _, rfl, upd_same, rw_.mono g.ef⟩) (by decide +kernel) a hg (by decide +kernel) he
end
end BF
set_option maxHeartbeats 5000000
namespace BF
open L2 PySem PySem.Spec PyProof.Rows
/-! ## what the full rows are -/
theorem enLt_iff {x y : En} : enLt x y = true ↔ x.1 < y.1 ∨ (x.1 = y.1 ∧ x.2 < y.2) := by
  unfold enLt
  split
  · rw [decide_eq_true_iff]; omega
  · rw [decide_eq_true_iff]; omega
/-- one after the other, all unlike -/
abbrev Inc (xs : List En) : Prop := xs.Pairwise fun x y => enLt x y = true
theorem pbM_mem : ∀ (xs ys : List En) (e : En), e ∈ pbM xs ys ↔ e ∈ xs ∨ e ∈ ys
  | [], ys, e => by simp [pbM]
  | x :: xs, ys, e => by
    have h := congrArg (e ∈ ·) (List.takeWhile_append_dropWhile (p := (enLt · x)) (l := ys))
    simp only [List.mem_append, eq_iff_iff] at h
    simp only [pbM, List.mem_append, List.mem_cons, pbM_mem xs, ← h]
    constructor
    · rintro (a | a | a | a)
      · exact .inr (.inl a)
      · exact .inl (.inl a)
      · exact .inl (.inr a)
      · exact .inr (.inr a)
    · rintro ((a | a) | a | a)
      · exact .inr (.inl a)
      · exact .inr (.inr (.inl a))
      · exact .inl a
      · exact .inr (.inr (.inr a))
theorem drop_ge {x : En} : ∀ {ys : List En}, Inc ys → ∀ y ∈ ys.dropWhile (enLt · x), enLt y x = false
  | [], _, y, h => nomatch h
  | z :: ys, hi, y, h => by
    rw [List.dropWhile_cons] at h
    cases hz : enLt z x with
    | true =>
      rw [if_pos hz] at h
      exact drop_ge (List.pairwise_cons.mp hi).2 y h
    | false =>
      rw [if_neg (by rw [hz]; decide)] at h
      rcases List.mem_cons.mp h with e | e
      · rw [e]; exact hz
      · have a := enLt_iff.mp ((List.pairwise_cons.mp hi).1 y e)
        cases hy : enLt y x with
        | false => rfl
        | true =>
          have b := enLt_iff.mp hy
          have : enLt z x = true := enLt_iff.mpr (by omega)
          rw [hz] at this; cases this
theorem take_lt {x : En} : ∀ {ys : List En}, ∀ y ∈ ys.takeWhile (enLt · x), enLt y x = true
  | [], y, h => nomatch h
  | z :: ys, y, h => by
    rw [List.takeWhile_cons] at h
    split at h
    · rename_i hz
      rcases List.mem_cons.mp h with e | e
      · rw [e]; exact hz
      · exact take_lt y e
    · cases h
theorem enLt_ne {x y : En} (h : enLt y x = false) (n : y ≠ x) : enLt x y = true := by
  refine enLt_iff.mpr ?_
  have a : ¬ (y.1 < x.1 ∨ (y.1 = x.1 ∧ y.2 < x.2)) := fun z => by rw [enLt_iff.mpr z] at h; cases h
  have b : ¬ (y.1 = x.1 ∧ y.2 = x.2) := fun ⟨z, w⟩ => n (Prod.ext z w)
  omega
theorem pbM_inc : ∀ {xs ys : List En}, Inc xs → Inc ys → (∀ x ∈ xs, x ∉ ys) → Inc (pbM xs ys)
  | [], ys, _, h, _ => by simpa [pbM] using h
  | x :: xs, ys, h1, h2, hd => by
    have hs := List.takeWhile_append_dropWhile (p := (enLt · x)) (l := ys)
    have hx := List.pairwise_cons.mp h1
    have h2' := h2
    rw [← hs] at h2'
    obtain ⟨i1, i2, i3⟩ := List.pairwise_append.mp h2'
    have md : ∀ y ∈ ys.dropWhile (enLt · x), y ∈ ys := fun y hy => by rw [← hs]; exact List.mem_append_right _ hy
    have ih := pbM_inc (xs := xs) (ys := ys.dropWhile (enLt · x)) hx.2 i2 fun y hy z => hd y (List.mem_cons_of_mem _ hy) (md y z)
    simp only [pbM]
    refine List.pairwise_append.mpr ⟨i1, List.pairwise_cons.mpr ⟨fun y hy => ?_, ih⟩, fun a ha b hb => ?_⟩
    · rcases (pbM_mem _ _ _).mp hy with z | z
      · exact hx.1 y z
      · exact enLt_ne (drop_ge h2 y z) fun e => hd x List.mem_cons_self (e ▸ md y z)
    · have ax := take_lt a ha
      rcases List.mem_cons.mp hb with e | e
      · rw [e]; exact ax
      · rcases (pbM_mem _ _ _).mp e with z | z
        · have := enLt_iff.mp ax
          have := enLt_iff.mp (hx.1 b z)
          exact enLt_iff.mpr (by omega)
        · exact i3 a ha b z
end BF
set_option maxHeartbeats 5000000
namespace BF
open L2 PySem PySem.Spec PyProof.Rows
/-- j hangs at k, or beneath it -/
inductive Blw (t : Tr) (k : Int) : Int → Prop
  | here : Blw t k k
  | up {j p : Int} (h0 : 0 ≤ j) (h1 : j < t.length) (e : t.getD j.toNat none = some p) (r : Blw t k p) : Blw t k j
theorem up_lt {t : Tr} (h : TreeOk t) {j p : Int} (h0 : 0 ≤ j) (h1 : j < t.length) (e : t.getD j.toNat none = some p) : 0 ≤ p ∧ p < j := by
  by_cases z : j = 0
  · subst z
    rw [show t.getD (0 : Int).toNat none = none from h.root] at e
    cases e
  · obtain ⟨q, e2, a, b⟩ := h.up j.toNat (by omega) (by omega)
    rw [e2] at e; cases e
    omega
theorem Blw.le {t : Tr} (h : TreeOk t) {k j : Int} (r : Blw t k j) : k ≤ j := by
  induction r with
  | here => exact Int.le_refl _
  | up h0 h1 e r ih => have := up_lt h h0 h1 e; omega
theorem Blw.lt_len {t : Tr} {k j : Int} (r : Blw t k j) (hk : k < t.length) : j < t.length := by
  cases r with
  | here => exact hk
  | up h0 h1 e r => exact h1
theorem Blw.trans {t : Tr} {a b c : Int} (r : Blw t a b) (s : Blw t b c) : Blw t a c := by
  induction s with
  | here => exact r
  | up h0 h1 e s ih => exact .up h0 h1 e ih
theorem Blw.chain {t : Tr} {a b j : Int} (r : Blw t a j) (s : Blw t b j) : Blw t a b ∨ Blw t b a := by
  induction r with
  | here => exact .inr s
  | up h0 h1 e r ih =>
    cases s with
    | here => exact .inl (.up h0 h1 e r)
    | up _ _ e2 s => rw [e] at e2; cases e2; exact ih s
theorem Blw.sib {t : Tr} (h : TreeOk t) {k a b j : Int} (ha : a ∈ kidsM t k) (hb : b ∈ kidsM t k) (r : Blw t a j) (s : Blw t b j) : a = b := by
  have key : ∀ {a b : Int}, a ∈ kidsM t k → b ∈ kidsM t k → Blw t a b → a = b := fun {a b} ha hb r => by
    cases r with
    | here => rfl
    | up h0 h1 e r =>
      obtain ⟨_, _, e2⟩ := kids_mem.mp hb
      rw [e2] at e; cases e
      have := r.le h
      have := kids_lt h ha
      omega
  rcases r.chain s with z | z
  · exact key ha hb z
  · exact (key hb ha z).symm
theorem Blw.kid {t : Tr} {k c : Int} (hc : c ∈ kidsM t k) : Blw t k c := by
  obtain ⟨a, b, e⟩ := kids_mem.mp hc
  exact .up (by omega) b e .here
/-- what a full row is -/
structure FulOk (st : Sd) (k : Int) (es : List En) : Prop where
  inc : Inc es
  mem : ∀ e ∈ es, Blw st.1 k e.2 ∧ e.1 ∈ st.2.getD e.2.toNat []
theorem handed_sub (es : List En) : (handedM es).Sublist es := by
  unfold handedM
  have a := (List.filter_sublist (p := (·.2)) (l := es.zip (marksM es))).map (·.1)
  refine a.trans ?_
  have : (es.zip (marksM es)).map (·.1) = es := List.map_fst_zip (Nat.le_of_eq (marksM_len es).symm)
  rw [this]
  exact List.Sublist.refl _
theorem FulOk.handed {st : Sd} {k : Int} {es : List En} (h : FulOk st k es) : FulOk st k (handedM es) :=
  ⟨h.inc.sublist (handed_sub es), fun e he => h.mem e ((handed_sub es).subset he)⟩
theorem own_ful {st : Sd} (h : StandOk st) {k : Int} (h0 : 0 ≤ k) (hk : k < st.1.length) : Inc (ownM st k) ∧ ∀ e ∈ ownM st k, e.2 = k ∧ e.1 ∈ st.2.getD e.2.toNat [] := by
  unfold ownM
  constructor
  · refine List.pairwise_map.mpr (((h.rows _ (List.mem_of_getElem? (row_at h h0 hk))).1).imp fun {a b} l => enLt_iff.mpr (.inl l))
  · intro e he
    obtain ⟨key, hm, rfl⟩ := List.mem_map.mp he
    exact ⟨rfl, hm⟩
/-- joined up, nothing twice -/
theorem joined_inc : ∀ (ls : List (List En)) (a : List En), Inc a → (∀ l ∈ ls, Inc l) → (∀ l ∈ ls, ∀ x ∈ a, x ∉ l) → ls.Pairwise (fun l m => ∀ x ∈ l, x ∉ m) → Inc (ls.foldl pbM a)
  | [], a, h, _, _, _ => h
  | l :: ls, a, h, h1, h2, h3 => by
    obtain ⟨p1, p2⟩ := List.pairwise_cons.mp h3
    refine joined_inc ls _ (pbM_inc h (h1 l List.mem_cons_self) (h2 l List.mem_cons_self)) (fun m hm => h1 m (List.mem_cons_of_mem _ hm)) (fun m hm x hx => ?_) p2
    rcases (pbM_mem _ _ _).mp hx with z | z
    · exact h2 m (List.mem_cons_of_mem _ hm) x z
    · exact p1 m hm x z
theorem joined_mem : ∀ (ls : List (List En)) (a : List En) (e : En), e ∈ ls.foldl pbM a ↔ e ∈ a ∨ ∃ l ∈ ls, e ∈ l
  | [], a, e => by simp
  | l :: ls, a, e => by
    rw [List.foldl_cons, joined_mem ls, pbM_mem]
    simp only [List.mem_cons, exists_eq_or_imp, or_assoc]
theorem kids_nodup (t : Tr) (k : Int) : (kidsM t k).Nodup := by
  unfold kidsM rg
  refine List.Pairwise.sublist List.filter_sublist (List.pairwise_map.mpr (List.nodup_range.imp fun {a b} n => ?_))
  omega
theorem full_ok {st : Sd} (h : StandOk st) : ∀ (n : Nat) {k : Int}, 0 ≤ k → k < st.1.length → (st.1.length : Int) - k ≤ n → FulOk st k (fullM st k)
  | 0, k, h0, h1, h2 => by omega
  | n + 1, k, h0, h1, h2 => by
    have ih : ∀ c ∈ kidsM st.1 k, FulOk st c (handedM (fullM st c)) := fun c hc => by
      obtain ⟨a, b, _⟩ := kids_mem.mp hc
      have l := kids_lt h.tree hc
      exact (full_ok h n (by omega) b (by omega)).handed
    obtain ⟨o1, o2⟩ := own_ful h h0 h1
    rw [full_eq h.tree h0 h1]
    constructor
    · unfold joined_upM
      refine joined_inc _ [] List.Pairwise.nil (fun l hl => ?_) (fun l hl x hx => nomatch hx) (List.pairwise_cons.mpr ⟨fun m hm x hx hx2 => ?_, List.pairwise_map.mpr ?_⟩)
      · rcases List.mem_cons.mp hl with e | e
        · rw [e]; exact o1
        · obtain ⟨c, hc, rfl⟩ := List.mem_map.mp e
          exact (ih c hc).inc
      · obtain ⟨c, hc, rfl⟩ := List.mem_map.mp hm
        have a := ((ih c hc).mem x hx2).1.le h.tree
        have b := (o2 x hx).1
        have := kids_lt h.tree hc
        omega
      · refine (kids_nodup st.1 k).imp_of_mem fun {a b} ha hb ne x hx hx2 => ne ?_
        exact Blw.sib h.tree ha hb ((ih a ha).mem x hx).1 ((ih b hb).mem x hx2).1
    · intro e he
      unfold joined_upM at he
      rcases (joined_mem _ _ _).mp he with z | ⟨l, hl, z⟩
      · cases z
      · rcases List.mem_cons.mp hl with q | q
        · subst q
          obtain ⟨a, b⟩ := o2 e z
          exact ⟨a ▸ .here, b⟩
        · obtain ⟨c, hc, rfl⟩ := List.mem_map.mp q
          obtain ⟨a, b⟩ := (ih c hc).mem e z
          exact ⟨(Blw.kid hc).trans a, b⟩
end BF
set_option maxHeartbeats 5000000
namespace BF
open L2 PySem PySem.Spec PyProof.Rows
/-! ## a stand's full rows may be coded -/
theorem inc_ne {x y : En} (h : enLt x y = true) : x ≠ y := fun e => by
  subst e
  have := enLt_iff.mp h
  omega
theorem inc_nodup {xs : List En} (h : Inc xs) : xs.Nodup := h.imp inc_ne
theorem inc_srt {xs : List En} (h : Inc xs) : Srt xs := h.imp fun {x y} a => SrtO.lexB_no.mpr (by have := enLt_iff.mp a; omega)
theorem nodup_le {α : Type} [DecidableEq α] : ∀ {xs ys : List α}, xs.Nodup → (∀ x ∈ xs, x ∈ ys) → xs.length ≤ ys.length
  | [], _, _, _ => Nat.zero_le _
  | x :: xs, ys, h, hs => by
    obtain ⟨h1, h2⟩ := List.nodup_cons.mp h
    have hx := hs x List.mem_cons_self
    have a := nodup_le (xs := xs) (ys := ys.erase x) h2 fun y hy => (List.mem_erase_of_ne (fun (e : y = x) => h1 (e ▸ hy))).mpr (hs y (List.mem_cons_of_mem _ hy))
    have b := List.length_erase_of_mem hx
    have c := List.length_pos_of_mem hx
    rw [List.length_cons]; omega
theorem perm_mem {α : Type} [DecidableEq α] : ∀ {xs ys : List α}, xs.Nodup → ys.Nodup → (∀ e, e ∈ xs ↔ e ∈ ys) → xs.Perm ys
  | [], [], _, _, _ => List.Perm.nil
  | [], y :: ys, _, _, h => nomatch (h y).mpr List.mem_cons_self
  | x :: xs, ys, h1, h2, h => by
    obtain ⟨a, b⟩ := List.nodup_cons.mp h1
    have hx : x ∈ ys := (h x).mp List.mem_cons_self
    refine (List.Perm.cons x (perm_mem b (h2.erase x) fun e => ?_)).trans (List.perm_cons_erase hx).symm
    rw [h2.mem_erase_iff]
    constructor
    · intro he
      exact ⟨fun z => a (z ▸ he), (h e).mp (List.mem_cons_of_mem _ he)⟩
    · rintro ⟨n, he⟩
      rcases List.mem_cons.mp ((h e).mpr he) with z | z
      · exact absurd z n
      · exact z
theorem inc_eq {xs ys : List En} (h1 : Inc xs) (h2 : Inc ys) (h : ∀ e, e ∈ xs ↔ e ∈ ys) : xs = ys := srt_eq (perm_mem (inc_nodup h1) (inc_nodup h2) h) (inc_srt h1) (inc_srt h2)
theorem range_getD {α β : Type} (f : α → β) (d : α) (xs : List α) : (List.range xs.length).map (fun i => f (xs.getD i d)) = xs.map f := by
  refine List.ext_getElem (by simp) fun i h1 h2 => ?_
  rw [List.getElem_map, List.getElem_map, List.getElem_range]
  congr 1
  have h3 : i < xs.length := by simpa using h2
  rw [List.getD_eq_getElem?_getD, List.getElem?_eq_getElem h3]
  rfl
/-- all entries of a stand -/
def allE (st : Sd) : List En := (rg 0 st.1.length).flatMap (ownM st)
theorem allE_len {st : Sd} (h : StandOk st) : (allE st).length ≤ 300 := by
  refine Nat.le_trans (Nat.le_of_eq ?_) h.tot
  unfold allE rg
  rw [List.length_flatMap, List.map_map]
  have e : (((st.1.length : Nat) : Int) - 0).toNat = st.2.length := by rw [h.len]; omega
  rw [e, ← range_getD (fun r : List Int => r.length) [] st.2]
  congr 1
  refine List.map_congr_left fun i hi => ?_
  show (ownM st (0 + (i : Int))).length = _
  unfold ownM
  rw [List.length_map, show (0 + (i : Int)).toNat = i by omega]
theorem own_mem {st : Sd} {k : Int} {e : En} : e ∈ ownM st k ↔ e.2 = k ∧ e.1 ∈ st.2.getD k.toNat [] := by
  unfold ownM
  rw [List.mem_map]
  constructor
  · rintro ⟨key, h, rfl⟩; exact ⟨rfl, h⟩
  · rintro ⟨a, b⟩
    exact ⟨e.1, b, by rw [← a]⟩
theorem ful_all {st : Sd} (h : StandOk st) {k : Int} (h0 : 0 ≤ k) (hk : k < st.1.length) {es : List En} (f : FulOk st k es) : ∀ e ∈ es, e ∈ allE st := fun e he => by
  obtain ⟨a, b⟩ := f.mem e he
  have := a.le h.tree
  have := a.lt_len hk
  exact List.mem_flatMap.mpr ⟨e.2, rg_mem.mpr ⟨by omega, by omega⟩, own_mem.mpr ⟨rfl, b⟩⟩
theorem ful_len {st : Sd} (h : StandOk st) {k : Int} (h0 : 0 ≤ k) (hk : k < st.1.length) {es : List En} (f : FulOk st k es) : es.length ≤ 300 :=
  Nat.le_trans (nodup_le (inc_nodup f.inc) (ful_all h h0 hk f)) (allE_len h)
theorem full_ful {st : Sd} (h : StandOk st) {k : Int} (h0 : 0 ≤ k) (hk : k < st.1.length) : FulOk st k (fullM st k) := full_ok h st.1.length h0 hk (by omega)
theorem code_inj {a b : En} (h : codeM a = codeM b) (a0 : 0 ≤ a.2) (a1 : a.2 < 64) (b0 : 0 ≤ b.2) (b1 : b.2 < 64) : a = b := by
  unfold codeM at h
  split at h <;> split at h <;> exact Prod.ext (by omega) (by omega)
theorem code_nn {a : En} (a0 : 0 ≤ a.2) : 0 ≤ codeM a := by
  unfold codeM
  split <;> omega
theorem map_getD {α β : Type} (f : α → β) {xs : List α} {i : Nat} (h : i < xs.length) (d : β) : (xs.map f).getD i d = f xs[i] := by
  rw [List.getD_eq_getElem?_getD, List.getElem?_map, List.getElem?_eq_getElem h]; rfl
theorem en_ok {st : Sd} (h : StandOk st) {k : Int} (h0 : 0 ≤ k) (hk : k < st.1.length) {es : List En} (f : FulOk st k es) : EnOk es := by
  have rng : ∀ e ∈ es, 0 ≤ e.2 ∧ e.2 < 64 := fun e he => by
    have := (f.mem e he).1.le h.tree
    have := (f.mem e he).1.lt_len hk
    have := h.tree.l2
    omega
  refine ⟨⟨fun i hi => ?_, fun i hi => ?_⟩, by have := ful_len h h0 hk f; omega⟩
  · rw [List.length_map] at hi
    rw [map_getD _ hi]
    exact code_nn (rng _ (List.getElem_mem hi)).1
  · rw [List.length_map] at hi
    rw [map_getD _ hi, map_getD _ (by omega : i < es.length)]
    intro e
    have a := rng _ (List.getElem_mem hi)
    have b := rng _ (List.getElem_mem (by omega : i < es.length))
    have z := code_inj e a.1 a.2 b.1 b.2
    exact inc_ne (List.pairwise_iff_getElem.mp f.inc i (i + 1) (by omega) hi (by omega)) z.symm
theorem fr_ok {st : Sd} (h : StandOk st) : FrOk st where
  sd := h
  en := fun k h0 hk => en_ok h h0 hk (full_ful h h0 hk)
  ow := fun k h0 hk => by
    have f := full_ful h h0 hk
    have : ((fullM st k).filter fun e => decide (e.2 = k)).length ≤ (ownM st k).length := nodup_le ((inc_nodup f.inc).filter _) fun e he => by
      obtain ⟨a, b⟩ := List.mem_filter.mp he
      have b := of_decide_eq_true b
      have c := (f.mem e a).2
      rw [b] at c
      exact own_mem.mpr ⟨b, c⟩
    unfold ownM at this
    rwa [List.length_map] at this
end BF
set_option maxHeartbeats 5000000
namespace BF
open L2 PySem PySem.Spec PyProof.Rows
/-! ## what a change of one row brings -/
/-- rows alike but at d -/
structure ButAt (st st' : Sd) (d : Int) : Prop where
  ok : StandOk st
  ok' : StandOk st'
  tree : st'.1 = st.1
  d0 : 0 ≤ d
  dl : d < st.1.length
  rows : ∀ j : Int, 0 ≤ j → j ≠ d → st'.2.getD j.toNat [] = st.2.getD j.toNat []
variable {st st' : Sd} {d : Int}
theorem ButAt.own (h : ButAt st st' d) {j : Int} (h0 : 0 ≤ j) (n : j ≠ d) : ownM st' j = ownM st j := by
  unfold ownM
  rw [h.rows j h0 n]
theorem far_same (h : ButAt st st' d) : ∀ (n : Nat) {j : Int}, 0 ≤ j → j < st.1.length → (st.1.length : Int) - j ≤ n → ¬ Blw st.1 j d → fullM st' j = fullM st j
  | 0, j, h0, h1, h2, _ => by omega
  | n + 1, j, h0, h1, h2, nb => by
    rw [full_eq h.ok.tree h0 h1, full_eq h.ok'.tree h0 (by rw [h.tree]; exact h1), h.tree, h.own h0 fun e => nb (e ▸ .here)]
    congr 2
    refine List.map_congr_left fun c hc => ?_
    have l := kids_lt h.ok.tree hc
    rw [far_same h n (by omega) (kids_mem.mp hc).2.1 (by omega) fun z => nb ((Blw.kid hc).trans z)]
theorem far_eq (h : ButAt st st' d) {j : Int} (h0 : 0 ≤ j) (h1 : j < st.1.length) (nb : ¬ Blw st.1 j d) : fullM st' j = fullM st j := far_same h st.1.length h0 h1 (by omega) nb
theorem up_same (h : ButAt st st' d) {c : Int} (hc : Blw st.1 c d) (e : fullM st' c = fullM st c) : ∀ (n : Nat) {j : Int}, 0 ≤ j → j < st.1.length → (st.1.length : Int) - j ≤ n → Blw st.1 j c → fullM st' j = fullM st j
  | 0, j, h0, h1, h2, _ => by omega
  | n + 1, j, h0, h1, h2, b => by
    by_cases q : j = c
    · rw [q]; exact e
    have l1 := b.le h.ok.tree
    have l2 := hc.le h.ok.tree
    rw [full_eq h.ok.tree h0 h1, full_eq h.ok'.tree h0 (by rw [h.tree]; exact h1), h.tree, h.own h0 (by omega)]
    congr 2
    refine List.map_congr_left fun k hk => ?_
    have l := kids_lt h.ok.tree hk
    obtain ⟨k1, k2, k3⟩ := kids_mem.mp hk
    by_cases z : Blw st.1 k c
    · rw [up_same h hc e n (by omega) k2 (by omega) z]
    · rw [far_eq h (by omega) k2 fun w => ?_]
      rcases Blw.chain w hc with y | y
      · exact z y
      · cases y with
        | here => exact z .here
        | up h0' h1' e' r =>
          rw [k3] at e'
          cases e'
          have := r.le h.ok.tree
          omega
theorem full_mem (h : StandOk st) {p : Int} (h0 : 0 ≤ p) (h1 : p < st.1.length) {e : En} : e ∈ fullM st p ↔ e ∈ ownM st p ∨ ∃ k ∈ kidsM st.1 p, e ∈ handedM (fullM st k) := by
  rw [full_eq h.tree h0 h1]
  unfold joined_upM
  rw [joined_mem]
  constructor
  · rintro (z | ⟨l, hl, z⟩)
    · cases z
    · rcases List.mem_cons.mp hl with q | q
      · exact .inl (q ▸ z)
      · obtain ⟨k, hk, rfl⟩ := List.mem_map.mp q
        exact .inr ⟨k, hk, z⟩
  · rintro (z | ⟨k, hk, z⟩)
    · exact .inr ⟨_, List.mem_cons_self, z⟩
    · exact .inr ⟨_, List.mem_cons_of_mem _ (List.mem_map.mpr ⟨k, hk, rfl⟩), z⟩
theorem less_mem {xs ys : List En} {e : En} : e ∈ lessM xs ys ↔ e ∈ xs ∧ e ∉ ys := by
  unfold lessM
  rw [List.mem_filter]
  simp
theorem ButAt.len (h : ButAt st st' d) : st'.1.length = st.1.length := by rw [h.tree]
theorem hand_blw (h : StandOk st) {c : Int} (h0 : 0 ≤ c) (h1 : c < st.1.length) {e : En} (he : e ∈ handedM (fullM st c)) : Blw st.1 c e.2 := ((full_ful h h0 h1).handed.mem e he).1
/-- what is gone, what has come, a knot higher -/
theorem up_mem (h : ButAt st st' d) {c p : Int} (hc : Blw st.1 c d) (hp : c ∈ kidsM st.1 p) (p0 : 0 ≤ p) (p1 : p < st.1.length) :
    (∀ e, e ∈ fullM st' p ↔ (e ∈ fullM st p ∧ e ∉ lessM (handedM (fullM st c)) (handedM (fullM st' c))) ∨ e ∈ lessM (handedM (fullM st' c)) (handedM (fullM st c))) ∧
      ∀ e ∈ lessM (handedM (fullM st' c)) (handedM (fullM st c)), e ∉ fullM st p := by
  obtain ⟨c1, c2, c3⟩ := kids_mem.mp hp
  have l := kids_lt h.ok.tree hp
  have l2 := hc.le h.ok.tree
  have c0 : 0 ≤ c := by omega
  have eo : ownM st' p = ownM st p := h.own p0 (by omega)
  have bo : ∀ {e}, e ∈ handedM (fullM st c) → Blw st.1 c e.2 := fun he => hand_blw h.ok c0 c2 he
  have bn : ∀ {e}, e ∈ handedM (fullM st' c) → Blw st.1 c e.2 := fun he => by
    have := hand_blw h.ok' c0 (by rw [h.tree]; exact c2) he
    rwa [h.tree] at this
  have nown : ∀ {e}, e ∈ ownM st p → ¬ Blw st.1 c e.2 := fun he b => by
    have := (own_mem.mp he).1
    have := b.le h.ok.tree
    omega
  have sib : ∀ {k e}, k ∈ kidsM st.1 p → k ≠ c → e ∈ handedM (fullM st k) → ¬ Blw st.1 c e.2 := fun {k e} hk n he b =>
    n (Blw.sib h.ok.tree hk hp (hand_blw h.ok (by have := kids_lt h.ok.tree hk; omega) (kids_mem.mp hk).2.1 he) b)
  have same : ∀ {k}, k ∈ kidsM st.1 p → k ≠ c → fullM st' k = fullM st k := fun {k} hk n =>
    far_eq h (by have := kids_lt h.ok.tree hk; omega) (kids_mem.mp hk).2.1 fun z => n (Blw.sib h.ok.tree hk hp z hc)
  have mn : ∀ {e}, e ∈ fullM st' p ↔ e ∈ ownM st' p ∨ ∃ k ∈ kidsM st'.1 p, e ∈ handedM (fullM st' k) := full_mem h.ok' p0 (by rw [h.tree]; exact p1)
  have mo : ∀ {e}, e ∈ fullM st p ↔ e ∈ ownM st p ∨ ∃ k ∈ kidsM st.1 p, e ∈ handedM (fullM st k) := full_mem h.ok p0 p1
  constructor
  · intro e
    rw [mn, h.tree, eo, less_mem, less_mem]
    constructor
    · rintro (z | ⟨k, hk, z⟩)
      · exact .inl ⟨mo.mpr (.inl z), fun w => nown z (bo w.1)⟩
      · by_cases q : k = c
        · subst q
          by_cases w : e ∈ handedM (fullM st k)
          · exact .inl ⟨mo.mpr (.inr ⟨k, hk, w⟩), fun y => y.2 z⟩
          · exact .inr ⟨z, w⟩
        · rw [same hk q] at z
          exact .inl ⟨mo.mpr (.inr ⟨k, hk, z⟩), fun w => sib hk q z (bo w.1)⟩
    · rintro (⟨z, w⟩ | ⟨z, w⟩)
      · rcases mo.mp z with y | ⟨k, hk, y⟩
        · exact .inl y
        · by_cases q : k = c
          · subst q
            exact .inr ⟨k, hk, Classical.byContradiction fun x => w ⟨y, x⟩⟩
          · exact .inr ⟨k, hk, by rw [same hk q]; exact y⟩
      · exact .inr ⟨c, hp, z⟩
  · intro e he z
    obtain ⟨a, b⟩ := less_mem.mp he
    rcases mo.mp z with y | ⟨k, hk, y⟩
    · exact nown y (bn a)
    · by_cases q : k = c
      · subst q; exact b y
      · exact sib hk q y (bn a)
theorem less_len (xs ys : List En) : (lessM xs ys).length ≤ xs.length := List.length_filter_le _ _
theorem less_nodup {xs ys : List En} (h : xs.Nodup) : (lessM xs ys).Nodup := h.filter _
/-- what is known where the loop stands -/
structure ChI (st st' : Sd) (d : Int) (fs : List (List En)) (cur : Option Int) (g m : List En) : Prop where
  len : fs.length = st.1.length
  no : cur = none → ∀ j : Int, 0 ≤ j → j < st.1.length → fs.getD j.toNat [] = fullM st' j
  rg : ∀ c, cur = some c → 0 ≤ c ∧ c < st.1.length ∧ Blw st.1 c d
  old : ∀ c, cur = some c → ∀ j : Int, 0 ≤ j → j < st.1.length → Blw st.1 j c → fs.getD j.toNat [] = fullM st j
  new : ∀ c, cur = some c → ∀ j : Int, 0 ≤ j → j < st.1.length → ¬ Blw st.1 j c → fs.getD j.toNat [] = fullM st' j
  mem : ∀ c, cur = some c → ∀ e, e ∈ fullM st' c ↔ (e ∈ fullM st c ∧ e ∉ g) ∨ e ∈ m
  fr : ∀ c, cur = some c → ∀ e ∈ m, e ∉ fullM st c
  nd : m.Nodup
  gl : g.length ≤ 300
  ml : m.length ≤ 300
theorem fulls_by {fs : List (List En)} (hl : fs.length = st.1.length) (h : ∀ j : Int, 0 ≤ j → j < st.1.length → fs.getD j.toNat [] = fullM st j) : fs = full_rowsM st := by
  refine List.ext_getElem (by rw [hl, full_rows_len]) fun i h1 h2 => ?_
  have a := h (i : Int) (by omega) (by omega)
  rw [show ((i : Int)).toNat = i by omega, List.getD_eq_getElem?_getD, List.getElem?_eq_getElem h1] at a
  have b := full_rows_at st (k := (i : Int)) (by omega) (by omega)
  rw [show ((i : Int)).toNat = i by omega, List.getElem?_eq_getElem h2] at b
  rw [Option.some.inj b]
  exact a
theorem ChI.done (h : ButAt st st' d) {fs : List (List En)} {cur : Option Int} {g m : List En} (x : ChI st st' d fs cur g m) (e : cur = none ∨ (g = [] ∧ m = [])) : fs = full_rowsM st' := by
  refine fulls_by (by rw [x.len, h.len]) fun j h0 h1 => ?_
  rw [h.len] at h1
  cases cur with
  | none => exact x.no rfl j h0 h1
  | some c =>
    obtain ⟨rfl, rfl⟩ := e.resolve_left (fun z => nomatch z)
    obtain ⟨c0, c1, cd⟩ := x.rg c rfl
    have ec : fullM st' c = fullM st c := inc_eq (full_ful h.ok' c0 (by rw [h.tree]; exact c1)).inc (full_ful h.ok c0 c1).inc fun e => by
      rw [x.mem c rfl]
      simp
    by_cases b : Blw st.1 j c
    · rw [x.old c rfl j h0 h1 b, up_same h cd ec st.1.length h0 h1 (by omega) b]
    · exact x.new c rfl j h0 h1 b
theorem ChI.perm (h : ButAt st st' d) {fs : List (List En)} {c : Int} {g m : List En} (x : ChI st st' d fs (some c) g m) : (fullM st' c).Perm (lessM (fs.getD c.toNat []) g ++ m) ∧ fs.getD c.toNat [] = fullM st c := by
  obtain ⟨c0, c1, cd⟩ := x.rg c rfl
  have e := x.old c rfl c c0 c1 .here
  refine ⟨?_, e⟩
  rw [e]
  have f := full_ful h.ok c0 c1
  refine perm_mem (inc_nodup (full_ful h.ok' c0 (by rw [h.tree]; exact c1)).inc) (List.nodup_append.mpr ⟨less_nodup (inc_nodup f.inc), x.nd, fun a ha b hb z => ?_⟩) fun e => ?_
  · subst z
    exact x.fr c rfl a hb (less_mem.mp ha).1
  · rw [x.mem c rfl, List.mem_append, less_mem]
theorem set_getD {α : Type} (xs : List α) {i j : Nat} (y d : α) (h : i < xs.length) : (xs.set i y).getD j d = if j = i then y else xs.getD j d := by
  rw [List.getD_eq_getElem?_getD, List.getElem?_set]
  by_cases q : i = j
  · subst q
    rw [if_pos rfl, if_pos h, if_pos rfl]; rfl
  · rw [if_neg q, if_neg (Ne.symm q)]; rfl
theorem ChI.step (h : ButAt st st' d) {fs : List (List En)} {c : Int} {g m : List En} (x : ChI st st' d fs (some c) g m) :
    ChI st st' d (fs.set c.toNat (fullM st' c)) (st.1.getD c.toNat none) (lessM (handedM (fullM st c)) (handedM (fullM st' c))) (lessM (handedM (fullM st' c)) (handedM (fullM st c))) := by
  obtain ⟨c0, c1, cd⟩ := x.rg c rfl
  have f := full_ful h.ok c0 c1
  have f' := full_ful h.ok' c0 (by rw [h.tree]; exact c1)
  have hl := x.len
  have at_ : ∀ j : Int, 0 ≤ j → (fs.set c.toNat (fullM st' c)).getD j.toNat [] = if j = c then fullM st' c else fs.getD j.toNat [] := fun j h0 => by
    rw [set_getD _ _ _ (by omega)]
    by_cases q : j = c
    · rw [if_pos (by omega), if_pos q]
    · rw [if_neg (by omega), if_neg q]
  have up : ∀ p, st.1.getD c.toNat none = some p → 0 ≤ p ∧ p < c ∧ c ∈ kidsM st.1 p := fun p e => by
    obtain ⟨a, b⟩ := up_lt h.ok.tree c0 c1 e
    exact ⟨a, b, kids_mem.mpr ⟨by omega, c1, e⟩⟩
  refine ⟨by rw [List.length_set, hl], fun e j h0 h1 => ?_, fun p e => ?_, fun p e j h0 h1 b => ?_, fun p e j h0 h1 b => ?_, fun p e => ?_, fun p e => ?_, less_nodup (inc_nodup f'.handed.inc), ?_, ?_⟩
  · rw [at_ j h0]
    have cz : c = 0 := by
      by_cases q : c = 0
      · exact q
      · obtain ⟨p, z, _⟩ := h.ok.tree.up c.toNat (by omega) (by omega)
        rw [e] at z; cases z
    by_cases q : j = c
    · rw [if_pos q, q]
    · rw [if_neg q]
      refine x.new c rfl j h0 h1 fun b => ?_
      have := b.le h.ok.tree
      omega
  · obtain ⟨a, b, k⟩ := up p e
    exact ⟨a, by omega, (Blw.kid k).trans cd⟩
  · obtain ⟨a, b2, k⟩ := up p e
    have := b.le h.ok.tree
    rw [at_ j h0, if_neg (by omega)]
    exact x.old c rfl j h0 h1 (b.trans (Blw.kid k))
  · obtain ⟨a, b2, k⟩ := up p e
    rw [at_ j h0]
    by_cases q : j = c
    · rw [if_pos q, q]
    · rw [if_neg q]
      refine x.new c rfl j h0 h1 fun z => b ?_
      cases z with
      | here => exact absurd rfl q
      | up y0 y1 y2 r =>
        rw [e] at y2
        cases y2
        exact r
  · obtain ⟨a, b, k⟩ := up p e
    exact (up_mem h cd k a (by omega)).1
  · obtain ⟨a, b, k⟩ := up p e
    exact (up_mem h cd k a (by omega)).2
  · exact Nat.le_trans (less_len _ _) (ful_len h.ok c0 c1 f.handed)
  · exact Nat.le_trans (less_len _ _) (ful_len h.ok' c0 (by rw [h.tree]; exact c1) f'.handed)
/-- what is told of a change -/
def toldF (st st' : Sd) : Nat → Option Int → List En → List En → Told
  | 0, _, _, _ => []
  | n + 1, none, _, _ => []
  | n + 1, some c, g, m => if g = [] ∧ m = [] then [] else (c, g, m) :: toldF st st' n (st.1.getD c.toNat none) (lessM (handedM (fullM st c)) (handedM (fullM st' c))) (lessM (handedM (fullM st' c)) (handedM (fullM st c)))
theorem told_len : ∀ n cur g m, (toldF st st' n cur g m).length ≤ n
  | 0, _, _, _ => by simp [toldF]
  | n + 1, none, _, _ => by simp [toldF]
  | n + 1, some c, g, m => by
    unfold toldF
    split
    · simp
    · rw [List.length_cons]
      have := told_len n (st.1.getD c.toNat none) (lessM (handedM (fullM st c)) (handedM (fullM st' c))) (lessM (handedM (fullM st' c)) (handedM (fullM st c)))
      omega
theorem told_b (h : ButAt st st' d) : ∀ n {fs : List (List En)} {cur : Option Int} {g m : List En}, ChI st st' d fs cur g m → ∀ q ∈ toldF st st' n cur g m, q.2.1.length ≤ 300 ∧ q.2.2.length ≤ 300
  | 0, _, _, _, _, _, q, hq => by simp [toldF] at hq
  | n + 1, _, none, _, _, _, q, hq => by simp [toldF] at hq
  | n + 1, fs, some c, g, m, x, q, hq => by
    unfold toldF at hq
    split at hq
    · cases hq
    · rcases List.mem_cons.mp hq with e | e
      · rw [e]; exact ⟨x.gl, x.ml⟩
      · exact told_b h n (x.step h) q e
theorem isum_le {xs : List (Int × List En × List En)} {f : (Int × List En × List En) → List En} {c : Nat} : (∀ q ∈ xs, (f q).length ≤ c) → 0 ≤ (xs.map fun q => ((f q).length : Int)).sum ∧ (xs.map fun q => ((f q).length : Int)).sum ≤ xs.length * c := by
  induction xs with
  | nil => intro _; simp
  | cons x xs ih =>
    intro h
    obtain ⟨a, b⟩ := ih fun q hq => h q (List.mem_cons_of_mem _ hq)
    have := h x List.mem_cons_self
    simp only [List.map_cons, List.sum_cons, List.length_cons, Nat.add_mul, Nat.one_mul]
    push_cast at *
    rw [Int.add_mul]
    omega
theorem told_ok (h : ButAt st st' d) {n : Nat} (hn : n ≤ 100) {fs : List (List En)} {cur : Option Int} {g m : List En} (x : ChI st st' d fs cur g m) : ToldOk (toldF st st' n cur g m) := by
  have hl := told_len (st := st) (st' := st') n cur g m
  have hb := told_b h n x
  have a := isum_le (f := fun q => q.2.1) (c := 300) fun q hq => (hb q hq).1
  have b := isum_le (f := fun q => q.2.2) (c := 300) fun q hq => (hb q hq).2
  refine ⟨by omega, ?_, ?_⟩
  · unfold goneN
    exact small_of_lt (n := 1000000) a.1 (by omega) (by omega)
  · unfold comeN
    exact small_of_lt (n := 1000000) b.1 (by omega) (by omega)
end BF
set_option maxHeartbeats 5000000
namespace BF
open L2 PySem PySem.Spec PyProof.Rows
/-! ## the deeds, plain -/
def insK (key : Int) : List Int → List Int
  | [] => [key]
  | x :: xs => if key < x then key :: x :: xs else x :: insK key xs
theorem insK_perm (key : Int) : ∀ xs : List Int, (insK key xs).Perm (xs ++ [key])
  | [] => List.Perm.refl _
  | x :: xs => by
    unfold insK
    split
    · exact (List.perm_append_singleton key (x :: xs)).symm
    · exact (insK_perm key xs).cons x
theorem insK_mem {key y : Int} {xs : List Int} : y ∈ insK key xs ↔ y = key ∨ y ∈ xs := by
  rw [(insK_perm key xs).mem_iff, List.mem_append, List.mem_singleton, Or.comm]
theorem insK_len (key : Int) (xs : List Int) : (insK key xs).length = xs.length + 1 := by
  rw [(insK_perm key xs).length_eq]; simp
theorem insK_sorted {key : Int} : ∀ {xs : List Int}, xs.Pairwise (· < ·) → key ∉ xs → (insK key xs).Pairwise (· < ·)
  | [], _, _ => by simp [insK]
  | x :: xs, h, n => by
    obtain ⟨h1, h2⟩ := List.pairwise_cons.mp h
    unfold insK
    split
    · rename_i l
      refine List.pairwise_cons.mpr ⟨fun y hy => ?_, h⟩
      rcases List.mem_cons.mp hy with e | e
      · omega
      · have := h1 y e; omega
    · rename_i l
      refine List.pairwise_cons.mpr ⟨fun y hy => ?_, insK_sorted h2 fun z => n (List.mem_cons_of_mem _ z)⟩
      rcases insK_mem.mp hy with e | e
      · have : key ≠ x := fun z => n (z ▸ List.mem_cons_self)
        omega
      · exact h1 y e
def lessI (xs gone : List Int) : List Int := xs.filter fun e => !decide (e ∈ gone)
def putS (st : Sd) (d key : Int) : Sd := (st.1, st.2.set d.toNat (insK key (rowM st d)))
def outS (st : Sd) (d key : Int) : Sd := (st.1, st.2.set d.toNat (lessI (rowM st d) [key]))
def hangS (st : Sd) (p : Int) : Sd := (st.1 ++ [some p], st.2 ++ [[]])
def totM (st : Sd) : Nat := (st.2.map (·.length)).sum
theorem sum_set : ∀ {rows : List (List Int)} {i : Nat} {r : List Int}, i < rows.length → ((rows.set i r).map (·.length)).sum + (rows.getD i []).length = (rows.map (·.length)).sum + r.length
  | x :: xs, 0, r, _ => by simp; omega
  | x :: xs, i + 1, r, h => by
    have := sum_set (rows := xs) (i := i) (r := r) (by simpa using h)
    simp only [List.set_cons_succ, List.map_cons, List.sum_cons, List.getD_cons_succ]
    omega
section
variable {st : Sd} {d key : Int}
theorem but_set (h : StandOk st) (h0 : 0 ≤ d) (h1 : d < st.1.length) {r : List Int} (hr : r.Pairwise (· < ·) ∧ ∀ k ∈ r, is_keyM k = true) (ht : totM st + r.length ≤ 300 + (rowM st d).length) : ButAt st (st.1, st.2.set d.toNat r) d := by
  have hl := h.len
  have hd : d.toNat < st.2.length := by omega
  refine ⟨h, ⟨h.tree, by rw [List.length_set]; exact hl, fun x hx => ?_, ?_⟩, rfl, h0, h1, fun j j0 n => ?_⟩
  · rcases List.mem_or_eq_of_mem_set hx with e | e
    · exact h.rows x e
    · rw [e]; exact hr
  · have := sum_set (r := r) hd
    unfold totM rowM at ht
    show ((st.2.set d.toNat r).map (·.length)).sum ≤ 300
    omega
  · show (st.2.set d.toNat r).getD j.toNat [] = _
    rw [set_getD _ _ _ hd, if_neg (by omega)]
theorem chi_start {st' : Sd} (h : ButAt st st' d) {g m : List En} (mem : ∀ e, e ∈ ownM st' d ↔ (e ∈ ownM st d ∧ e ∉ g) ∨ e ∈ m) (gk : ∀ e ∈ g, e.2 = d) (fr : ∀ e ∈ m, e ∉ fullM st d) (nd : m.Nodup) (gl : g.length ≤ 300) (ml : m.length ≤ 300) : ChI st st' d (full_rowsM st) (some d) g m := by
  refine ⟨full_rows_len st, fun e => (nomatch e), fun c e => ?_, fun c e j h0 h1 b => fulls_getD h0 h1, fun c e j h0 h1 b => ?_, fun c e x => ?_, fun c e => ?_, nd, gl, ml⟩
  · cases e; exact ⟨h.d0, h.dl, .here⟩
  · cases e
    rw [fulls_getD h0 h1, far_eq h h0 h1 b]
  · cases e
    have k1 : ∀ k ∈ kidsM st.1 d, fullM st' k = fullM st k := fun k hk => by
      have l := kids_lt h.ok.tree hk
      refine far_eq h (by omega) (kids_mem.mp hk).2.1 fun z => ?_
      have := z.le h.ok.tree
      omega
    have k2 : ∀ k ∈ kidsM st.1 d, x ∈ handedM (fullM st k) → x ∉ g := fun k hk hx hg => by
      have l := kids_lt h.ok.tree hk
      have := (hand_blw h.ok (by omega) (kids_mem.mp hk).2.1 hx).le h.ok.tree
      have := gk x hg
      omega
    rw [full_mem h.ok' h.d0 (by rw [h.tree]; exact h.dl), full_mem h.ok h.d0 h.dl, h.tree, mem]
    constructor
    · rintro ((⟨a, b⟩ | a) | ⟨k, hk, a⟩)
      · exact .inl ⟨.inl a, b⟩
      · exact .inr a
      · rw [k1 k hk] at a
        exact .inl ⟨.inr ⟨k, hk, a⟩, k2 k hk a⟩
    · rintro (⟨a | ⟨k, hk, a⟩, b⟩ | a)
      · exact .inl (.inl ⟨a, b⟩)
      · exact .inr ⟨k, hk, by rw [k1 k hk]; exact a⟩
      · exact .inl (.inr a)
  · cases e; exact fr
theorem row_set (h : StandOk st) (h0 : 0 ≤ d) (h1 : d < st.1.length) (r : List Int) : (st.2.set d.toNat r).getD d.toNat [] = r := by
  rw [set_getD _ _ _ (by have := h.len; omega), if_pos rfl]
theorem row_okM (h : StandOk st) (h0 : 0 ≤ d) (h1 : d < st.1.length) : (rowM st d).Pairwise (· < ·) ∧ ∀ k ∈ rowM st d, is_keyM k = true := h.rows _ (List.mem_of_getElem? (row_at h h0 h1))
theorem but_put (h : StandOk st) (h0 : 0 ≤ d) (h1 : d < st.1.length) (hk : is_keyM key = true) (n : key ∉ rowM st d) (t : totM st < 300) : ButAt st (putS st d key) d := by
  obtain ⟨a, b⟩ := row_okM h h0 h1
  refine but_set h h0 h1 ⟨insK_sorted a n, fun k hk' => ?_⟩ (by rw [insK_len]; omega)
  rcases insK_mem.mp hk' with e | e
  · rw [e]; exact hk
  · exact b k e
theorem chi_put (h : StandOk st) (h0 : 0 ≤ d) (h1 : d < st.1.length) (hk : is_keyM key = true) (n : key ∉ rowM st d) (t : totM st < 300) : ChI st (putS st d key) d (full_rowsM st) (some d) [] [(key, d)] := by
  refine chi_start (but_put h h0 h1 hk n t) (fun e => ?_) (fun e he => (nomatch he)) (fun e he z => ?_) (by simp) (by simp) (by simp)
  · rw [own_mem, own_mem, List.mem_singleton]
    show e.2 = d ∧ e.1 ∈ (st.2.set d.toNat (insK key (rowM st d))).getD d.toNat [] ↔ _
    rw [row_set h h0 h1, insK_mem]
    constructor
    · rintro ⟨a, b | b⟩
      · exact .inr (Prod.ext b a)
      · exact .inl ⟨⟨a, b⟩, fun z => nomatch z⟩
    · rintro (⟨⟨a, b⟩, _⟩ | rfl)
      · exact ⟨a, .inr b⟩
      · exact ⟨rfl, .inl rfl⟩
  · rw [List.mem_singleton] at he
    subst he
    exact n ((full_ful h h0 h1).mem _ z).2
theorem lessI_mem {xs ys : List Int} {e : Int} : e ∈ lessI xs ys ↔ e ∈ xs ∧ e ∉ ys := by
  unfold lessI
  rw [List.mem_filter]
  simp
theorem but_out (h : StandOk st) (h0 : 0 ≤ d) (h1 : d < st.1.length) : ButAt st (outS st d key) d := by
  obtain ⟨a, b⟩ := row_okM h h0 h1
  refine but_set h h0 h1 ⟨a.filter _, fun k hk => b k (lessI_mem.mp hk).1⟩ ?_
  have : (lessI (rowM st d) [key]).length ≤ (rowM st d).length := List.length_filter_le _ _
  have := h.tot
  unfold totM
  omega
theorem chi_out (h : StandOk st) (h0 : 0 ≤ d) (h1 : d < st.1.length) : ChI st (outS st d key) d (full_rowsM st) (some d) [(key, d)] [] := by
  refine chi_start (but_out h h0 h1) (fun e => ?_) (fun e he => ?_) (fun e he => nomatch he) (by simp) (by simp) (by simp)
  · rw [own_mem, own_mem, List.mem_singleton]
    show e.2 = d ∧ e.1 ∈ (st.2.set d.toNat (lessI (rowM st d) [key])).getD d.toNat [] ↔ _
    rw [row_set h h0 h1, lessI_mem, List.mem_singleton]
    constructor
    · rintro ⟨a, b, c⟩
      exact .inl ⟨⟨a, b⟩, fun z => c (by rw [z])⟩
    · rintro (⟨⟨a, b⟩, c⟩ | z)
      · exact ⟨a, b, fun z => c (Prod.ext z a)⟩
      · cases z
  · rw [List.mem_singleton] at he
    rw [he]
end
/-! ### a knot hung -/
theorem getD_app {α : Type} (xs ys : List α) (d : α) {i : Nat} (h : i < xs.length) : (xs ++ ys).getD i d = xs.getD i d := by
  rw [List.getD_eq_getElem?_getD, List.getD_eq_getElem?_getD, List.getElem?_append_left h]
theorem getD_end {α : Type} (xs : List α) (x d : α) : (xs ++ [x]).getD xs.length d = x := by
  rw [List.getD_eq_getElem?_getD, List.getElem?_append_right (Nat.le_refl _)]; simp
section
variable {st : Sd} {p : Int}
theorem hang_ok (h : StandOk st) (p0 : 0 ≤ p) (p1 : p < st.1.length) (hl : st.1.length < 40) : StandOk (hangS st p) := by
  have l1 := h.tree.l1
  have e : (hangS st p).1 = st.1 ++ [some p] := rfl
  refine ⟨⟨by rw [e]; simp, by rw [e]; simp; omega, ?_, fun k h0 h1 => ?_⟩, ?_, fun r hr => ?_, ?_⟩
  · rw [e, getD_app _ _ _ (by omega)]; exact h.tree.root
  · rw [e, List.length_append, List.length_singleton] at h1
    rw [e]
    by_cases q : k = st.1.length
    · subst q
      rw [getD_end]
      exact ⟨p, rfl, p0, p1⟩
    · rw [getD_app _ _ _ (by omega)]
      exact h.tree.up k h0 (by omega)
  · show (st.2 ++ [[]]).length = (st.1 ++ [some p]).length
    rw [List.length_append, List.length_append, h.len]; rfl
  · rcases List.mem_append.mp (show r ∈ st.2 ++ [[]] from hr) with z | z
    · exact h.rows r z
    · rw [List.mem_singleton.mp z]
      exact ⟨List.Pairwise.nil, fun k hk => nomatch hk⟩
  · show ((st.2 ++ [([] : List Int)]).map (fun r : List Int => r.length)).sum ≤ 300
    have := h.tot
    simp only [List.map_append, List.sum_append]
    simpa using this
theorem hang_len : (hangS st p).1.length = st.1.length + 1 := by show (st.1 ++ [some p]).length = _; simp
theorem hang_own (h : StandOk st) {j : Int} (h0 : 0 ≤ j) (h1 : j < st.1.length) : ownM (hangS st p) j = ownM st j := by
  unfold ownM
  rw [show (hangS st p).2.getD j.toNat [] = st.2.getD j.toNat [] from getD_app _ _ _ (by have := h.len; omega)]
theorem hang_new (h : StandOk st) (p0 : 0 ≤ p) (p1 : p < st.1.length) (hl : st.1.length < 40) : fullM (hangS st p) (st.1.length : Int) = [] := by
  have h' := hang_ok h p0 p1 hl
  refine List.eq_nil_iff_forall_not_mem.mpr fun e he => ?_
  rcases (full_mem h' (by omega) (by rw [hang_len]; omega)).mp he with z | ⟨k, hk, z⟩
  · have w := (own_mem.mp z).2
    rw [show (hangS st p).2.getD ((st.1.length : Int)).toNat [] = [] from by rw [show ((st.1.length : Int)).toNat = st.2.length by rw [h.len]; omega]; exact getD_end _ _ _] at w
    cases w
  · have a := kids_lt h'.tree hk
    have b := (kids_mem.mp hk).2.1
    rw [hang_len] at b
    omega
theorem hang_par {k : Int} (k0 : 0 ≤ k) (k1 : k < st.1.length) : (hangS st p).1.getD k.toNat none = st.1.getD k.toNat none := getD_app _ _ _ (by omega)
theorem hang_same (h : StandOk st) (p0 : 0 ≤ p) (p1 : p < st.1.length) (hl : st.1.length < 40) : ∀ (n : Nat) {j : Int}, 0 ≤ j → j < st.1.length → (st.1.length : Int) - j ≤ n → fullM (hangS st p) j = fullM st j
  | 0, j, h0, h1, h2 => by omega
  | n + 1, j, h0, h1, h2 => by
    have h' := hang_ok h p0 p1 hl
    have hl' : j < (hangS st p).1.length := by rw [hang_len]; omega
    refine inc_eq (full_ful h' h0 hl').inc (full_ful h h0 h1).inc fun e => ?_
    rw [full_mem h' h0 hl', full_mem h h0 h1, hang_own h h0 h1]
    constructor
    · rintro (z | ⟨k, hk, z⟩)
      · exact .inl z
      · obtain ⟨k1, k2, k3⟩ := kids_mem.mp hk
        have l := kids_lt h'.tree hk
        rw [hang_len] at k2
        by_cases q : k = st.1.length
        · rw [q, hang_new h p0 p1 hl] at z
          exact absurd ((handed_sub []).subset z) (by simp)
        · rw [hang_same h p0 p1 hl n (by omega) (by omega) (by omega)] at z
          rw [hang_par (by omega) (by omega)] at k3
          exact .inr ⟨k, kids_mem.mpr ⟨k1, by omega, k3⟩, z⟩
    · rintro (z | ⟨k, hk, z⟩)
      · exact .inl z
      · obtain ⟨k1, k2, k3⟩ := kids_mem.mp hk
        have l := kids_lt h.tree hk
        refine .inr ⟨k, kids_mem.mpr ⟨k1, by rw [hang_len]; omega, by rw [hang_par (by omega) (by omega)]; exact k3⟩, ?_⟩
        rw [hang_same h p0 p1 hl n (by omega) (by omega) (by omega)]
        exact z
theorem hang_fulls (h : StandOk st) (p0 : 0 ≤ p) (p1 : p < st.1.length) (hl : st.1.length < 40) : full_rowsM st ++ [[]] = full_rowsM (hangS st p) := by
  refine fulls_by (by rw [List.length_append, full_rows_len, hang_len]; rfl) fun j h0 h1 => ?_
  rw [hang_len] at h1
  by_cases q : j = st.1.length
  · subst q
    rw [hang_new h p0 p1 hl]
    have := getD_end (full_rowsM st) ([] : List En) []
    rw [full_rows_len] at this
    rw [show ((st.1.length : Int)).toNat = st.1.length by omega]
    exact this
  · rw [getD_app _ _ _ (by rw [full_rows_len]; omega), fulls_getD h0 (by omega), hang_same h p0 p1 hl st.1.length h0 (by omega) (by omega)]
end
end BF
set_option maxHeartbeats 5000000
namespace BF
open L2 PySem PySem.Spec PyProof.Rows
/-! ## expressions with effects -/
abbrev XC := Value → List Sl → Prop
abbrev noX : XC := fun _ _ => False
def xw (T : Tbs) (Wr : Addr → Prop) (F0 G : Hp) (ψ : XC) : WX := fun cls d σ H => d = none ∧ ∃ (F : Hp) (Γ : List Sl) (fts : Nat → List Addr), Grow T Wr F0 G F H ∧ Sat Wr F G H Γ σ fts ∧ ψ cls Γ
theorem takes_noX {X : Cx} {T : Tbs} {Wr : Addr → Prop} {F0 G : Hp} : Takes X (xw T Wr F0 G noX) := L2.takes0.imp fun c d σ H ⟨_, F, Γ, fts, _, _, q⟩ => q
/-- a datum comes out, the slots' things may have changed -/
def EE {α : Type} (Z : Zx) (X : Cx) (e : Expr) (Γ : List Sl) (R : Rp α) (φ : α → List Sl → Prop) (ψ : XC) : Prop :=
  ∀ (pins : List (Addr × Obj)) (s : Shared) (σ : Sg) (F0 G F H : Hp) (Wr : Addr → Prop) (fts : Nat → List Addr) (Q : VK), Inv X pins σ H s → Grow Z.T Wr F0 G F H → Sat Wr F G H Γ σ fts → Takes X (xw Z.T Wr F0 G ψ) →
    (∀ v F' H' fts' Γ' x, Grow Z.T Wr F0 G F' H' → Same F F' → Sat Wr F' G H' Γ' σ fts' → R.rel x F' v → φ x Γ' → Q v H') → wpAny (model X.prog X.w) X.A (eval e X.env) (EP X pins σ Q) X.xe s
def tEE (Z : Zx) (X : Cx) (e : Expr) : TE := fun σ H Q => ∃ (α : Type) (R : Rp α) (φ : α → List Sl → Prop) (ψ : XC) (Γ : List Sl) (F0 G F : Hp) (Wr : Addr → Prop) (fts : Nat → List Addr), EE Z X e Γ R φ ψ ∧ Grow Z.T Wr F0 G F H ∧ Sat Wr F G H Γ σ fts ∧ Takes X (xw Z.T Wr F0 G ψ) ∧
  ∀ v F' H' fts' Γ' x, Grow Z.T Wr F0 G F' H' → Same F F' → Sat Wr F' G H' Γ' σ fts' → R.rel x F' v → φ x Γ' → Q v H'
/-- a test with effects -/
def EB (Z : Zx) (X : Cx) (e : Expr) (Γ : List Sl) (φ : Bool → List Sl → Prop) (ψ : XC) : Prop :=
  ∀ (pins : List (Addr × Obj)) (s : Shared) (σ : Sg) (F0 G F H : Hp) (Wr : Addr → Prop) (fts : Nat → List Addr) (Q : Bool → Hp → Prop), Inv X pins σ H s → Grow Z.T Wr F0 G F H → Sat Wr F G H Γ σ fts → Takes X (xw Z.T Wr F0 G ψ) →
    (∀ b F' H' fts' Γ', Grow Z.T Wr F0 G F' H' → Same F F' → Sat Wr F' G H' Γ' σ fts' → φ b Γ' → Q b H') → wpAny (model X.prog X.w) X.A (isTrue e X.env (eval e X.env)) (TP X pins σ Q) X.xe s
def tEB (Z : Zx) (X : Cx) (e : Expr) : TT := fun σ H Q => ∃ (φ : Bool → List Sl → Prop) (ψ : XC) (Γ : List Sl) (F0 G F : Hp) (Wr : Addr → Prop) (fts : Nat → List Addr), EB Z X e Γ φ ψ ∧ Grow Z.T Wr F0 G F H ∧ Sat Wr F G H Γ σ fts ∧ Takes X (xw Z.T Wr F0 G ψ) ∧
  ∀ b F' H' fts' Γ', Grow Z.T Wr F0 G F' H' → Same F F' → Sat Wr F' G H' Γ' σ fts' → φ b Γ' → Q b H'
section
variable {Z : Zx} {X : Cx} {e e1 e2 e3 : Expr} {es : List Expr} {Γ : List Sl} {P P1 P2 S : Pv} {N : List Str} {sc : Scope} {vs ws : List Nat} {gs : List Str} {k : Nat} {pos p pos' : Pos} {D : Fin} {α β γ : Type} {R : Rp α} {R1 : Rp β} {R2 : Rp γ} {ψ : XC}
theorem pe_ee : PE X e (tEE Z X e) := ⟨fun pins s σ H Q I ⟨α, R, φ, ψ, Γ, F0, G, F, Wr, fts, h, g, S, tk, q⟩ => h pins s σ F0 G F H Wr fts Q I g S tk q⟩
theorem pt_eb : PT X e (tEB Z X e) := ⟨fun pins s σ H Q I ⟨φ, ψ, Γ, F0, G, F, Wr, fts, h, g, S, tk, q⟩ => h pins s σ F0 G F H Wr fts Q I g S tk q⟩
theorem EE.of {te : TE} {φ : α → List Sl → Prop} (h : PE X e te) (hr : ∀ (σ : Sg) (F0 G F H : Hp) (Wr : Addr → Prop) (fts : Nat → List Addr) (Q : VK), Grow Z.T Wr F0 G F H → Sat Wr F G H Γ σ fts → Takes X (xw Z.T Wr F0 G ψ) →
    (∀ v F' H' fts' Γ' x, Grow Z.T Wr F0 G F' H' → Same F F' → Sat Wr F' G H' Γ' σ fts' → R.rel x F' v → φ x Γ' → Q v H') → te σ H Q) : EE Z X e Γ R φ ψ :=
  fun pins s σ F0 G F H Wr fts Q I g S tk q => h.run pins s σ H Q I (hr σ F0 G F H Wr fts Q g S tk q)
theorem EB.of {te : TT} {φ : Bool → List Sl → Prop} (h : PT X e te) (hr : ∀ (σ : Sg) (F0 G F H : Hp) (Wr : Addr → Prop) (fts : Nat → List Addr) (Q : Bool → Hp → Prop), Grow Z.T Wr F0 G F H → Sat Wr F G H Γ σ fts → Takes X (xw Z.T Wr F0 G ψ) →
    (∀ b F' H' fts' Γ', Grow Z.T Wr F0 G F' H' → Same F F' → Sat Wr F' G H' Γ' σ fts' → φ b Γ' → Q b H') → te σ H Q) : EB Z X e Γ φ ψ :=
  fun pins s σ F0 G F H Wr fts Q I g S tk q => h.run pins s σ H Q I (hr σ F0 G F H Wr fts Q g S tk q)
theorem ee_ev {x : α} {φ : α → List Sl → Prop} (h : EV Z X e Γ (pd R x)) (hφ : φ x Γ) : EE Z X e Γ R φ ψ :=
  fun pins s σ F0 G F H Wr fts Q I g S tk q => h pins s σ F G H Wr fts Q I g.ok S fun v F1 H1 g1 p1 => q v F1 H1 fts Γ x (g.step g1) g1.ef (S.grow g1) p1 hφ
theorem eb_et {b : Bool} {φ : Bool → List Sl → Prop} (h : ET Z X e Γ b) (hφ : φ b Γ) : EB Z X e Γ φ ψ :=
  fun pins s σ F0 G F H Wr fts Q I g S tk q => h pins s σ F G H Wr fts Q I g.ok S fun F1 H1 g1 => q b F1 H1 fts Γ (g.step g1) g1.ef (S.grow g1) hφ
theorem EE.imp {φ φ' : α → List Sl → Prop} (h : EE Z X e Γ R φ ψ) (hi : ∀ x Γ', φ x Γ' → φ' x Γ') : EE Z X e Γ R φ' ψ :=
  fun pins s σ F0 G F H Wr fts Q I g S tk q => h pins s σ F0 G F H Wr fts Q I g S tk fun v F' H' fts' Γ' x a b c d e => q v F' H' fts' Γ' x a b c d (hi x Γ' e)
theorem EE.as {φ : α → List Sl → Prop} {φ' : β → List Sl → Prop} (h : EE Z X e Γ R φ ψ) (hi : ∀ x Γ', φ x Γ' → ∃ y, φ' y Γ' ∧ ∀ F v, R.rel x F v → R1.rel y F v) : EE Z X e Γ R1 φ' ψ :=
  fun pins s σ F0 G F H Wr fts Q I g S tk q => h pins s σ F0 G F H Wr fts Q I g S tk fun v F' H' fts' Γ' x a b c d e => by
    obtain ⟨y, h1, h2⟩ := hi x Γ' e
    exact q v F' H' fts' Γ' y a b c (h2 F' v d) h1
theorem xw_imp {T : Tbs} {Wr : Addr → Prop} {F0 G : Hp} {ψ ψ' : XC} (h : ∀ c Γ, ψ' c Γ → ψ c Γ) (tk : Takes X (xw T Wr F0 G ψ)) : Takes X (xw T Wr F0 G ψ') := tk.imp fun c d σ H ⟨e, F, Γ, fts, a, b, q⟩ => ⟨e, F, Γ, fts, a, b, h c Γ q⟩
theorem EE.ex {φ : α → List Sl → Prop} {ψ' : XC} (h : EE Z X e Γ R φ ψ') (hi : ∀ c Γ', ψ' c Γ' → ψ c Γ') : EE Z X e Γ R φ ψ :=
  fun pins s σ F0 G F H Wr fts Q I g S tk q => h pins s σ F0 G F H Wr fts Q I g S (xw_imp hi tk) q
/-- two, one behind the other -/
theorem two_ee {φ1 : β → List Sl → Prop} {φ2 : β → γ → List Sl → Prop} {φ : α → List Sl → Prop} {f : Value → Value → Sem Value} (a : EE Z X e1 Γ R1 φ1 ψ) (b : ∀ x Γ1, φ1 x Γ1 → EE Z X e2 Γ1 R2 (φ2 x) ψ)
    (o : ∀ x y Γ2, φ2 x y Γ2 → ∃ z, φ z Γ2 ∧ OD Z X f (pd R1 x) (pd R2 y) (pd R z)) (σ : Sg) (F0 G F H : Hp) (Wr : Addr → Prop) (fts : Nat → List Addr) (Q : VK) (g : Grow Z.T Wr F0 G F H) (S : Sat Wr F G H Γ σ fts) (tk : Takes X (xw Z.T Wr F0 G ψ))
    (q : ∀ v F' H' fts' Γ' x, Grow Z.T Wr F0 G F' H' → Same F F' → Sat Wr F' G H' Γ' σ fts' → R.rel x F' v → φ x Γ' → Q v H') : tOp (fun v w H Q => ∃ r, OpR X f r ∧ r v w H Q) (tEE Z X e1) (tEE Z X e2) σ H Q := by
  refine ⟨_, R1, φ1, ψ, Γ, F0, G, F, Wr, fts, a, g, S, tk, fun v F1 H1 ft1 Γ1 x g1 s1 S1 r1 h1 => ?_⟩
  refine ⟨_, R2, φ2 x, ψ, Γ1, F0, G, F1, Wr, ft1, b x Γ1 h1, g1, S1, tk, fun w F2 H2 ft2 Γ2 y g2 s2 S2 r2 h2 => ?_⟩
  obtain ⟨z, h3, r, hr, hs⟩ := o x y Γ2 h2
  exact ⟨r, hr, hs F2 H2 v w g2.ok (R1.mono s2 r1) r2 Q fun u F3 H3 g3 p3 => q u F3 H3 ft2 Γ2 z (g2.step g3) ((s1.trans s2).trans g3.ef) (S2.grow g3) p3 h3⟩
theorem opr_any {f : Value → Value → Sem Value} : OpR X f (fun v w H Q => ∃ r, OpR X f r ∧ r v w H Q) := fun pins s σ H x y v u Q I r1 r2 ⟨r, hr, q⟩ => hr pins s σ H x y v u Q I r1 r2 q
theorem ee_bin {op : Operator} {φ1 : β → List Sl → Prop} {φ2 : β → γ → List Sl → Prop} {φ : α → List Sl → Prop} (a : EE Z X e1 Γ R1 φ1 ψ) (b : ∀ x Γ1, φ1 x Γ1 → EE Z X e2 Γ1 R2 (φ2 x) ψ)
    (o : ∀ x y Γ2, φ2 x y Γ2 → ∃ z, φ z Γ2 ∧ OD Z X (binaryOp op) (pd R1 x) (pd R2 y) (pd R z)) : EE Z X (.BinOp e1 op e2 pos) Γ R φ ψ :=
  EE.of (pe_op opr_any pe_ee pe_ee) fun σ F0 G F H Wr fts Q g S tk q => two_ee a b o σ F0 G F H Wr fts Q g S tk q
theorem eb_cmp {op : CmpOp} {φ1 : β → List Sl → Prop} {φ2 : β → γ → List Sl → Prop} {φ : Bool → List Sl → Prop} (a : EE Z X e1 Γ R1 φ1 ψ) (b : ∀ x Γ1, φ1 x Γ1 → EE Z X e2 Γ1 R2 (φ2 x) ψ)
    (o : ∀ x y Γ2, φ2 x y Γ2 → ∃ z, φ z Γ2 ∧ OD Z X (compareOp op) (pd R1 x) (pd R2 y) (pd rBool z)) (hm : behindInMarks op e2 = false := by first | exact nomark _ | rfl) : EB Z X (.Compare e1 [op] [e2] pos) Γ φ ψ :=
  EB.of (pt_cmpR opr_any pe_ee pe_ee hm) fun σ F0 G F H Wr fts Q g S tk q => two_ee (R := rBool) a b o σ F0 G F H Wr fts _ g S tk fun v F1 H1 ft1 Γ1 z g1 s1 S1 r1 h1 => ⟨z, r1, q z F1 H1 ft1 Γ1 g1 s1 S1 h1⟩
/-! ### and, or -/
def EBW (Z : Zx) (X : Cx) (e : Expr) : Prop := PW X e (tEB Z X e)
theorem eb_pt {te : TT} {φ : Bool → List Sl → Prop} (h : PW X e te) (hr : ∀ (σ : Sg) (F0 G F H : Hp) (Wr : Addr → Prop) (fts : Nat → List Addr) (Q : Bool → Hp → Prop), Grow Z.T Wr F0 G F H → Sat Wr F G H Γ σ fts → Takes X (xw Z.T Wr F0 G ψ) →
    (∀ b F' H' fts' Γ', Grow Z.T Wr F0 G F' H' → Same F F' → Sat Wr F' G H' Γ' σ fts' → φ b Γ' → Q b H') → te σ H Q) : EB Z X e Γ φ ψ := EB.of (PW.pt h) hr
theorem eb_and2 {φ1 φ : Bool → List Sl → Prop} (a : EB Z X e1 Γ φ1 ψ) (hf : ∀ Γ1, φ1 false Γ1 → φ false Γ1) (b : ∀ Γ1, φ1 true Γ1 → EB Z X e2 Γ1 φ ψ) : EB Z X (.BoolOp .And [e1, e2] pos) Γ φ ψ :=
  eb_pt (pw_and pt_eb (pw_and1 pt_eb)) fun σ F0 G F H Wr fts Q g S tk q => ⟨φ1, ψ, Γ, F0, G, F, Wr, fts, a, g, S, tk, fun b1 F1 H1 ft1 Γ1 g1 s1 S1 h1 => by
    cases b1 with
    | true => exact iteT ⟨φ, ψ, Γ1, F0, G, F1, Wr, ft1, b Γ1 h1, g1, S1, tk, fun b2 F2 H2 ft2 Γ2 g2 s2 S2 h2 => q b2 F2 H2 ft2 Γ2 g2 (s1.trans s2) S2 h2⟩
    | false => exact iteF (q false F1 H1 ft1 Γ1 g1 s1 S1 (hf Γ1 h1))⟩
theorem eb_or2 {φ1 φ : Bool → List Sl → Prop} (a : EB Z X e1 Γ φ1 ψ) (hf : ∀ Γ1, φ1 true Γ1 → φ true Γ1) (b : ∀ Γ1, φ1 false Γ1 → EB Z X e2 Γ1 φ ψ) : EB Z X (.BoolOp .Or [e1, e2] pos) Γ φ ψ :=
  eb_pt (pw_or pt_eb (pw_or1 pt_eb)) fun σ F0 G F H Wr fts Q g S tk q => ⟨φ1, ψ, Γ, F0, G, F, Wr, fts, a, g, S, tk, fun b1 F1 H1 ft1 Γ1 g1 s1 S1 h1 => by
    cases b1 with
    | false => exact iteF ⟨φ, ψ, Γ1, F0, G, F1, Wr, ft1, b Γ1 h1, g1, S1, tk, fun b2 F2 H2 ft2 Γ2 g2 s2 S2 h2 => q b2 F2 H2 ft2 Γ2 g2 (s1.trans s2) S2 h2⟩
    | true => exact iteT (q true F1 H1 ft1 Γ1 g1 s1 S1 (hf Γ1 h1))⟩
/-! ### statements -/
theorem do_ifB {c : Expr} {φ : Bool → List Sl → Prop} {th el : List Stmt} (a : EB Z X c Γ φ D.ex) (h1 : ∀ Γ1, φ true Γ1 → DOs Z X th Γ1 D) (h2 : ∀ Γ1, φ false Γ1 → DOs Z X el Γ1 D) : DO Z X (.If c th el pos) Γ D := fun pins s σ F0 G F H Wr fts I g S tk => by
  refine wpAny_If (thn (a pins s σ F0 G F H Wr fts (fun b' H' => ∃ F' Γ' fts', Grow Z.T Wr F0 G F' H' ∧ Sat Wr F' G H' Γ' σ fts' ∧ φ b' Γ') I g S tk fun b F1 H1 ft1 Γ1 g1 s1 S1 q1 => ⟨F1, Γ1, ft1, g1, S1, q1⟩) fun d s1 ⟨H1, I1, F1, Γ1, ft1, g1, S1, q1⟩ => ?_)
  cases d with
  | true => exact h1 Γ1 q1 pins s1 σ F0 G F1 H1 Wr ft1 I1 g1 S1 tk
  | false => exact h2 Γ1 q1 pins s1 σ F0 G F1 H1 Wr ft1 I1 g1 S1 tk
/-- a statement, by a rule of the layer below; exceptions are taken -/
theorem DO.ofX {st : Stmt} {t : TS} (h : PS X st t) (hr : ∀ (σ : Sg) (F0 G F H : Hp) (Wr : Addr → Prop) (fts : Nat → List Addr), Grow Z.T Wr F0 G F H → Sat Wr F G H Γ σ fts → Takes X (D.wish Z.T Wr F0 G) → t (D.ends Z.T Wr F0 G) σ H) : DO Z X st Γ D :=
  fun pins s σ F0 G F H Wr fts I g S tk => h.run pins s σ H _ I (hr σ F0 G F H Wr fts g S tk)
theorem do_setE {φ : α → List Sl → Prop} (B : Bd Z X N sc vs ws gs k) (i : Nat) {n : Str} (a : EE Z X e Γ R φ D.ex) (h : ∀ x Γ1, φ x Γ1 → D.nx (Γ1.set i (.da R x))) (hi : N[i]? = some n := by rfl) (hw : i ∈ ws := by decide)
    (hs : swapsWith e (some (.Name n pos')) pos.line X.env = pure false := by rfl) : DO Z X (.Assign [.Name n pos'] e pos) Γ D :=
  DO.ofX (ps_set (i := i) (by rw [B.eN]; exact B.nm.nd) (by rw [B.eN]; exact hi) (by rw [B.eSc]; exact B.nm.loc i hw n hi) pe_ee hs (by rw [B.eSc]; exact B.st i hw n hi)) fun σ F0 G F H Wr fts g S tk =>
    ⟨_, R, φ, D.ex, Γ, F0, G, F, Wr, fts, a, g, S, tk, fun v F1 H1 ft1 Γ1 x g1 s1 S1 p1 q1 => ⟨F1, _, _, g1, S1.set p1, h x Γ1 q1⟩⟩
theorem do_retE {φ : α → List Sl → Prop} (a : EE Z X e Γ R φ D.ex) (h : ∀ x Γ1, φ x Γ1 → D.rt (fun _ => pd R x) Γ1) : DO Z X (.Return (some e) pos) Γ D :=
  DO.ofX (ps_ret pe_ee) fun σ F0 G F H Wr fts g S tk =>
    ⟨_, R, φ, D.ex, Γ, F0, G, F, Wr, fts, a, g, S, tk, fun v F1 H1 ft1 Γ1 x g1 s1 S1 p1 q1 => ⟨F1, Γ1, σ, ft1, fun _ => pd R x, g1, S1, p1, h x Γ1 q1⟩⟩
theorem do_exprE {φ : α → List Sl → Prop} (a : EE Z X e Γ R φ D.ex) (h : ∀ x Γ1, φ x Γ1 → D.nx Γ1) (hs : swapsWith e none pos.line X.env = pure false := by rfl) : DO Z X (.Expr e pos) Γ D :=
  DO.ofX (ps_expr pe_ee hs) fun σ F0 G F H Wr fts g S tk =>
    ⟨_, R, φ, D.ex, Γ, F0, G, F, Wr, fts, a, g, S, tk, fun v F1 H1 ft1 Γ1 x g1 s1 S1 p1 q1 => ⟨F1, Γ1, ft1, g1, S1, h x Γ1 q1⟩⟩
end
end BF
set_option maxHeartbeats 5000000
namespace BF
open L2 PySem PySem.Spec PyProof.Rows
/-! ## promises with an effect on the first argument -/
structure Pin {β : Type} (M : Mp β) (a : Addr) (L : List Addr) : Prop where
  ok : ∀ {x : β} {F H : Hp} {ft : List Addr} {v : V}, M.rel x F H ft v → v = .ref a ∧ ft = L
  lo : M.loc = false
/-- M' at a' is a part of M -/
structure Part {β γ : Type} (M : Mp β) (x : β) (M' : Mp γ) (x' : γ) (a' : Addr) (L' : List Addr) (pu : γ → β) : Prop where
  ok : ∀ {F H : Hp} {ft : List Addr} {v : V}, M.rel x F H ft v → M'.rel x' F H L' (.ref a') ∧ (∀ b ∈ L', b ∈ ft) ∧ ∀ (y : γ) (F' H' : Hp), Same F F' → (∀ b ∈ ft, b ∉ L' → H' b = H b) → M'.rel y F' H' L' (.ref a') → M.rel (pu y) F' H' ft v
theorem part_self {β : Type} {M : Mp β} {x : β} {a : Addr} {L : List Addr} (p : Pin M a L) : Part M x M x a L id := ⟨fun {F H ft v} r => by
  obtain ⟨rfl, rfl⟩ := p.ok r
  exact ⟨r, fun b hb => hb, fun y F' H' _ _ r' => r'⟩⟩
def pvOf : Sl → Pv
  | .da R x => pd R x
  | .vw P => P
  | _ => pAny
def isDa : Sl → Bool
  | .da _ _ => true
  | _ => false
structure EfS (ι α β : Type) where
  M : ι → Mp β
  a : ι → Addr
  L : ι → List Addr
  x : ι → β
  Ds : ι → List Sl
  pre : ι → Prop
  R : Rp α
  rt : ι → α → β → Prop
  ex : ι → Value → β → Prop := fun _ _ _ => False
section
variable {ι α β : Type}
def spEf (T : Tbs) (S : EfS ι α β) : Sp := fun us H Q E => ∃ (u : ι) (F : Hp), Ok T F H ∧ S.pre u ∧ (∃ vs, us = .ref (S.a u) :: vs ∧ AllP ((S.Ds u).map pvOf) F H vs) ∧ (S.M u).rel (S.x u) F H (S.L u) (.ref (S.a u)) ∧ (∀ b ∈ S.L u, F b = none) ∧
  (∀ v F' H' x y, Grow T (fun b => b ∈ S.L u) F H F' H' → (S.M u).rel y F' H' (S.L u) (.ref (S.a u)) → (∀ b ∈ S.L u, F' b = none) → S.R.rel x F' v → S.rt u x y → Q v H') ∧
  (∀ cls F' H' y, Grow T (fun b => b ∈ S.L u) F H F' H' → (S.M u).rel y F' H' (S.L u) (.ref (S.a u)) → (∀ b ∈ S.L u, F' b = none) → S.ex u cls y → E cls none H')
theorem allp_at {F H : Hp} : ∀ {Ps : List Pv} {vs : List V} {i : Nat} {P : Pv}, AllP Ps F H vs → Ps[i]? = some P → ∃ v, vs[i]? = some v ∧ P.p F H v
  | [], [], i, P, _, e => by simp at e
  | P :: Ps, v :: vs, 0, P', h, e => by
    simp at e; subst e; exact ⟨v, rfl, h.1⟩
  | P :: Ps, v :: vs, i + 1, P', h, e => by
    obtain ⟨w, a, b⟩ := allp_at (i := i) h.2 (by simpa using e)
    exact ⟨w, by simpa using a, b⟩
abbrev dE (S : EfS ι α β) (u : ι) : Fin := { nx := fun Γ => ∃ x y, Γ[0]? = some (.mu (S.M u) y) ∧ S.rt u x y ∧ ∀ F, S.R.rel x F .non, rt := fun P Γ => ∃ x y, Γ[0]? = some (.mu (S.M u) y) ∧ S.rt u x y ∧ ∀ (G : Hp) (T : Tbs) (F H : Hp) (v : V), Ok T F H → (P G).p F H v → S.R.rel x F v, ex := fun c Γ => ∃ y, Γ[0]? = some (.mu (S.M u) y) ∧ S.ex u c y }
variable {Z : Zx} {x qual : Str} {st : Stmt} {f : Addr} {fd : FuncData} {N ps : List Str} {gs : List Str} {vs : List Nat} {k n : Nat}
/-- a def's own frame -/
abbrev Own (X : Cx) : Prop := X.stack = X.env :: X.outer ∧ X.env.frame = some X.env.locals
theorem fn_effO (FD : FunD Z.K x qual (defArgs st) (defBody st) (defScope st) [] [] f fd) (S : EfS ι α β) (hS : FnScope N ps (defScope st)) (nm : Nm N (defScope st) vs vs gs) (pin : ∀ u, Pin (S.M u) (S.a u) (S.L u)) (da : ∀ u, (S.Ds u).all isDa = true)
    (hl : ∀ u, (S.Ds u).length + 1 = ps.length) (hn : N.length = ps.length + n) (body : ∀ X, Own X → Bd Z X N (defScope st) vs vs gs k → ∀ u, S.pre u → DOs Z X (defBody st) (.mu (S.M u) (S.x u) :: (S.Ds u ++ uns n)) (dE S u)) :
    FnOk Z.P Z.w Z.K Z.mg Z.base (L2.CX Z.P Z.w) (k + 1) f fd ps (spEf Z.T S) := by
  have len : ∀ us H Q E, spEf Z.T S us H Q E → us.length = ps.length := fun us H Q E ⟨u, F, o, hp, ⟨ws, e, al⟩, _⟩ => by
    rw [e, ← hl u, List.length_cons, al.len, List.length_map]
  refine FD.ok hS len fun cdv A outer s H us Q E hr ⟨u, F, o, hp, ⟨ws, e, al⟩, r0, fn, ret, exc⟩ => ?_
  have B : Bd Z (cxOf (L2.CX Z.P Z.w) Z.P Z.w Z.K Z.mg Z.base N qual (defScope st) f cdv A outer s H E) N (defScope st) vs vs gs k :=
    { nm := nm, prog := rfl, w := rfl, K := rfl, mg := rfl, base := rfl, eN := rfl, eSc := rfl, calm := rfl, room := hr, st := fun _ _ _ _ => .inl rfl, po := passes_of rfl }
  have lw : ws.length = (S.Ds u).length := by rw [al.len, List.length_map]
  have lu : us.length = ps.length := by rw [e, ← hl u, List.length_cons, lw]
  have tk := takes_of (X := cxOf (L2.CX Z.P Z.w) Z.P Z.w Z.K Z.mg Z.base N qual (defScope st) f cdv A outer s H E) (E := E) rfl rfl rfl rfl
  have Sa : Sat (fun b => b ∈ S.L u) F H H (.mu (S.M u) (S.x u) :: (S.Ds u ++ uns n)) (L2.start N us) (fun i => if i = 0 then S.L u else []) := by
    refine ⟨?_, fun i s q => ?_, fun i j ne b hb hc => ?_, fun i hi => ?_⟩
    · unfold L2.start uns
      simp only [List.length_append, List.length_map, List.length_replicate, List.length_cons]
      have := hl u
      omega
    · cases i with
      | zero =>
        simp at q
        subst q
        exact ⟨some (.ref (S.a u)), start_at.2 _ (by rw [e]; rfl), ⟨_, rfl, r0⟩, fun b hb => ⟨fn b hb, .inl hb, fun z => by rw [(pin u).lo] at z; cases z⟩⟩
      | succ i =>
        have q : (S.Ds u ++ uns n)[i]? = some s := by simpa using q
        show ∃ ov, (L2.start N us)[i + 1]? = some ov ∧ SlOk _ F H H s ov []
        by_cases hi : i < (S.Ds u).length
        · rw [List.getElem?_append_left hi] at q
          obtain ⟨v, hv, pv⟩ := allp_at al (i := i) (P := pvOf s) (by rw [List.getElem?_map, q]; rfl)
          have d := List.all_eq_true.mp (da u) s (List.mem_of_getElem? q)
          refine ⟨some v, start_at.2 _ (by rw [e]; simpa using hv), ?_⟩
          cases s with
          | da R x => exact ⟨rfl, v, rfl, pv⟩
          | un => cases d
          | mu M x => cases d
          | vw P => cases d
        · rw [List.getElem?_append_right (by omega)] at q
          unfold uns at q
          rw [List.getElem?_replicate] at q
          have h9 := hl u
          split at q
          · cases q
            exact ⟨none, start_at.1 (by omega) (by omega), rfl⟩
          · cases q
    · have hb : b ∈ (if i = 0 then S.L u else []) := hb
      have hc : b ∈ (if j = 0 then S.L u else []) := hc
      by_cases z : i = 0
      · rw [if_neg (fun w => ne (z.trans w.symm))] at hc; cases hc
      · rw [if_neg z] at hb; cases hb
    · exact if_neg (by simp at hi; omega)
  have back : ∀ {F' H' : Hp} {Γ' : List Sl} {σ' : Sg} {fts' : Nat → List Addr} {y : β}, Sat (fun b => b ∈ S.L u) F' H H' Γ' σ' fts' → Γ'[0]? = some (.mu (S.M u) y) → (S.M u).rel y F' H' (S.L u) (.ref (S.a u)) ∧ ∀ b ∈ S.L u, F' b = none := fun {F' H' Γ' σ' fts' y} S' q => by
    obtain ⟨v, _, r, mk⟩ := S'.mu q
    obtain ⟨rfl, e⟩ := (pin u).ok r
    rw [e] at r mk
    exact ⟨r, fun b hb => (mk b hb).1⟩
  refine ⟨_, pss_ds (Z := Z), F, H, F, (fun b => b ∈ S.L u), _, _, dE S u, Grow.refl o, Sa, tk.imp fun c d σ' H' => ?_, body _ ⟨rfl, rfl⟩ B u hp, ⟨?_, ?_, ?_, ?_⟩⟩
  · rintro ⟨rfl, F', Γ', fts', g, S', y, q, hx⟩
    obtain ⟨r', fn'⟩ := back S' q
    exact exc c F' H' y g r' fn' hx
  · rintro σ' H' ⟨F', Γ', fts', g, S', x, y, q, hx, hn⟩
    obtain ⟨r', fn'⟩ := back S' q
    exact ret _ F' H' x y g r' fn' (hn F') hx
  · rintro v H' ⟨F', Γ', σ', fts', P, g, S', pv, x, y, q, hx, hn⟩
    obtain ⟨r', fn'⟩ := back S' q
    exact ret _ F' H' x y g r' fn' (hn H Z.T F' H' v g.ok pv) hx
  · rintro σ' H' ⟨F', Γ', fts', g, _, q⟩
    exact q
  · rintro σ' H' ⟨F', Γ', fts', g, _, q⟩
    exact q
/-- a def, a method, that may raise -/
structure CalX (Z : Zx) (x : Str) (k : Nat) (sp : Sp) : Prop where
  ex : ∃ (f : Addr) (fd : FuncData) (ps : List Str), Z.mg x = some (.ref f) ∧ PySem.W.keepIn Z.K (.ref f) = true ∧ Binds Z.K fd ps [] ∧ FnOk Z.P Z.w Z.K Z.mg Z.base (L2.CX Z.P Z.w) k f fd ps sp
abbrev MCalX (Z : Zx) (C : Addr) (m : Str) (k : Nat) (sp : Sp) : Prop := MCal Z C m (L2.CX Z.P Z.w) k sp
theorem calx_effO (N : List Str) (vs : List Nat) (gs : List Str) (n : Nat) (d : Df Z x st) (hb : BindOk x x st ps) (S : EfS ι α β) (body : ∀ X, Own X → Bd Z X N (defScope st) vs vs gs k → ∀ u, S.pre u → DOs Z X (defBody st) (.mu (S.M u) (S.x u) :: (S.Ds u ++ uns n)) (dE S u))
    (pin : ∀ u, Pin (S.M u) (S.a u) (S.L u)) (c : dfB N ps (defScope st) vs gs = true := by decide +kernel) (da : ∀ u, (S.Ds u).all isDa = true := by intro _; rfl) (hl : ∀ u, (S.Ds u).length + 1 = ps.length := by intro _; rfl) (hn : N.length = ps.length + n := by rfl) : CalX Z x (k + 1) (spEf Z.T S) := by
  obtain ⟨hS, nm⟩ := dfB_ok c
  obtain ⟨f, fd, hm, FD⟩ := d.ex
  exact ⟨f, fd, ps, hm, FD.kp, FD.bindsN hb, fn_effO FD S hS nm pin da hl hn body⟩
theorem mcalx_effO {C : Addr} {m : Str} (N : List Str) (vs : List Nat) (gs : List Str) (n : Nat) (d : DfM Z C m qual st) (hb : BindM m qual st ps) (S : EfS ι α β) (body : ∀ X, Own X → Bd Z X N (defScope st) vs vs gs k → ∀ u, S.pre u → DOs Z X (defBody st) (.mu (S.M u) (S.x u) :: (S.Ds u ++ uns n)) (dE S u))
    (pin : ∀ u, Pin (S.M u) (S.a u) (S.L u)) (c : dfB N ps (defScope st) vs gs = true := by decide +kernel) (da : ∀ u, (S.Ds u).all isDa = true := by intro _; rfl) (hl : ∀ u, (S.Ds u).length + 1 = ps.length := by intro _; rfl) (hn : N.length = ps.length + n := by rfl) : MCalX Z C m (k + 1) (spEf Z.T S) := by
  obtain ⟨hS, nm⟩ := dfB_ok c
  obtain ⟨f, fd, hm, FD⟩ := d.ex
  exact ⟨f, fd, ps, hm, FD.bindsN hb, fn_effO FD S hS nm pin da hl hn body⟩
theorem calx_eff (N : List Str) (vs : List Nat) (gs : List Str) (n : Nat) (d : Df Z x st) (hb : BindOk x x st ps) (S : EfS ι α β) (body : ∀ X, Bd Z X N (defScope st) vs vs gs k → ∀ u, S.pre u → DOs Z X (defBody st) (.mu (S.M u) (S.x u) :: (S.Ds u ++ uns n)) (dE S u))
    (pin : ∀ u, Pin (S.M u) (S.a u) (S.L u)) (c : dfB N ps (defScope st) vs gs = true := by decide +kernel) (da : ∀ u, (S.Ds u).all isDa = true := by intro _; rfl) (hl : ∀ u, (S.Ds u).length + 1 = ps.length := by intro _; rfl) (hn : N.length = ps.length + n := by rfl) : CalX Z x (k + 1) (spEf Z.T S) := calx_effO N vs gs n d hb S (fun X _ => body X) pin c da hl hn
theorem mcalx_eff {C : Addr} {m : Str} (N : List Str) (vs : List Nat) (gs : List Str) (n : Nat) (d : DfM Z C m qual st) (hb : BindM m qual st ps) (S : EfS ι α β) (body : ∀ X, Bd Z X N (defScope st) vs vs gs k → ∀ u, S.pre u → DOs Z X (defBody st) (.mu (S.M u) (S.x u) :: (S.Ds u ++ uns n)) (dE S u))
    (pin : ∀ u, Pin (S.M u) (S.a u) (S.L u)) (c : dfB N ps (defScope st) vs gs = true := by decide +kernel) (da : ∀ u, (S.Ds u).all isDa = true := by intro _; rfl) (hl : ∀ u, (S.Ds u).length + 1 = ps.length := by intro _; rfl) (hn : N.length = ps.length + n := by rfl) : MCalX Z C m (k + 1) (spEf Z.T S) := mcalx_effO N vs gs n d hb S (fun X _ => body X) pin c da hl hn
end
/-! ### calls -/
theorem Grow.sub {T : Tbs} {Wr Wr' : Addr → Prop} {F G F1 H1 : Hp} (g : Grow T Wr F G F1 H1) (h : ∀ a, Wr a → Wr' a) : Grow T Wr' F G F1 H1 := ⟨g.ok, g.ef, g.new, fun x o n => g.eh x o fun w => n (h x w), g.th⟩
section
variable {ι α β δ : Type} {Z : Zx} {X : Cx} {o e e1 e2 : Expr} {es : List Expr} {Γ : List Sl} {N : List Str} {sc : Scope} {vs ws : List Nat} {gs : List Str} {k j i : Nat} {pos p apos : Pos} {C : Addr} {m x : Str} {M : Mp δ} {y : δ} {S : EfS ι α β} {u : ι} {pu : β → δ}
/-- what stands behind such a call -/
theorem eff_ends {σ : Sg} {F0 G F H F' H' : Hp} {Wr : Addr → Prop} {fts : Nat → List Addr} (g : Grow Z.T Wr F0 G F H) (Sa : Sat Wr F G H Γ σ fts) (hΓ : Γ[i]? = some (.mu M y)) (pt : Part M y (S.M u) (S.x u) (S.a u) (S.L u) pu) (nv : noVw Γ = true)
    (g' : Grow Z.T (fun b => b ∈ S.L u) F H F' H') {z : β} (r' : (S.M u).rel z F' H' (S.L u) (.ref (S.a u))) : ∃ fts', Grow Z.T Wr F0 G F' H' ∧ Sat Wr F' G H' (Γ.set i (.mu M (pu z))) σ fts' := by
  obtain ⟨v, ev, r, mk⟩ := Sa.mu hΓ
  obtain ⟨p1, p2, p3⟩ := pt.ok r
  have hi : i < Γ.length := (List.getElem?_eq_some_iff.mp hΓ).1
  have keep : ∀ b ∈ fts i, b ∉ S.L u → H' b = H b := fun b hb n => by
    obtain ⟨_, _, o, ho, nt⟩ := Sa.there hb
    rw [ho, g'.eh b o n ho nt]
  have fr : ∀ b ∈ fts i, F' b = none := fun b hb => by
    obtain ⟨f, _, o, ho, nt⟩ := Sa.there hb
    cases q : F' b with
    | none => rfl
    | some w =>
      have := g'.new b (by rw [q]; simp) f
      rw [ho] at this; cases this
  obtain ⟨fts', a, b⟩ := set_ends (M := M) (y := pu z) (v := v) (ft := fts i) g Sa hi (g'.sub fun b hb => p2 b hb) (p3 z F' H' g'.ef keep r') (fun b hb => ⟨fr b hb, .inl hb⟩) (fun lo b hb => .inl ((mk b hb).2.2 lo)) nv
  rw [set_same Sa.len hi ev] at b
  exact ⟨fts', a, b⟩
theorem eff_start {σ : Sg} {F G H : Hp} {Wr : Addr → Prop} {fts : Nat → List Addr} (Sa : Sat Wr F G H Γ σ fts) (hΓ : Γ[i]? = some (.mu M y)) (pt : Part M y (S.M u) (S.x u) (S.a u) (S.L u) pu) : (S.M u).rel (S.x u) F H (S.L u) (.ref (S.a u)) ∧ ∀ b ∈ S.L u, F b = none := by
  obtain ⟨v, ev, r, mk⟩ := Sa.mu hΓ
  obtain ⟨p1, p2, p3⟩ := pt.ok r
  exact ⟨p1, fun b hb => (mk b (p2 b hb)).1⟩
abbrev efQ (S : EfS ι α β) (u : ι) (M : Mp δ) (pu : β → δ) (i : Nat) (Γ : List Sl) : α → List Sl → Prop := fun z Γ' => ∃ w, S.rt u z w ∧ Γ' = Γ.set i (.mu M (pu w))
abbrev efX (S : EfS ι α β) (u : ι) (M : Mp δ) (pu : β → δ) (i : Nat) (Γ : List Sl) : XC := fun c Γ' => ∃ w, S.ex u c w ∧ Γ' = Γ.set i (.mu M (pu w))
theorem eff_sp {σ : Sg} {F0 G F H F1 H1 : Hp} {Wr : Addr → Prop} {fts : Nat → List Addr} {Q : VK} {us : List V} (g : Grow Z.T Wr F0 G F H) (Sa : Sat Wr F G H Γ σ fts) (g1 : Grow Z.T nowhere F H F1 H1) (hΓ : Γ[i]? = some (.mu M y)) (pt : Part M y (S.M u) (S.x u) (S.a u) (S.L u) pu) (nv : noVw Γ = true) (hp : S.pre u)
    (al : AllP ((S.Ds u).map pvOf) F1 H1 us) (q : ∀ v F' H' fts' Γ' x, Grow Z.T Wr F0 G F' H' → Same F F' → Sat Wr F' G H' Γ' σ fts' → S.R.rel x F' v → efQ S u M pu i Γ x Γ' → Q v H') : spEf Z.T S (.ref (S.a u) :: us) H1 Q (WE (xw Z.T Wr F0 G (efX S u M pu i Γ)) σ) := by
  have S1 := Sa.grow g1
  obtain ⟨r0, fn⟩ := eff_start S1 hΓ pt
  refine ⟨u, F1, g1.ok, hp, ⟨us, rfl, al⟩, r0, fn, fun v F' H' x z g' r' fn' rx hrt => ?_, fun cls F' H' z g' r' fn' hx => ?_⟩
  · obtain ⟨fts', a, b⟩ := eff_ends (g.step g1) S1 hΓ pt nv g' r'
    exact q v F' H' fts' _ x a (g1.ef.trans g'.ef) b rx ⟨z, hrt, rfl⟩
  · obtain ⟨fts', a, b⟩ := eff_ends (g.step g1) S1 hΓ pt nv g' r'
    exact ⟨rfl, F', _, fts', a, b, z, hx, rfl⟩
/-- f(thing, ..) -/
theorem ee_callM (B : Bd Z X N sc vs ws gs k) (c : CalX Z x j (spEf Z.T S)) (i : Nat) (u : ι) (pu : β → δ) (ea : EA Z X (e :: es) Γ (pRef (S.a u) :: (S.Ds u).map pvOf)) (hΓ : Γ[i]? = some (.mu M y)) (pt : Part M y (S.M u) (S.x u) (S.a u) (S.L u) pu) (hp : S.pre u) (nv : noVw Γ = true := by rfl) (hj : j ≤ k := by decide) (hg : x ∈ gs := by decide +kernel)
    (he : starEach (e :: es) X.env = (false, eval e X.env) :: starEach es X.env := by rfl) (hpl : (backTo pos (starEach es X.env)).any (·.1) = false := by rfl) : EE Z X (.Call (.Name x p) (e :: es) [] pos) Γ S.R (efQ S u M pu i Γ) (efX S u M pu i Γ) := by
  obtain ⟨f, fd, ps, hm, hk, hb, G0⟩ := c.ex
  obtain ⟨d1, d2, d3⟩ := plainName_ok (B.nm.pg x hg)
  have G2 : FnOk X.prog X.w X.K X.mg X.base (L2.CX X.prog X.w) j f fd ps (spEf Z.T S) := by rw [B.prog, B.w, B.K, B.mg, B.base]; exact G0
  intro pins s σ F0 G F H Wr fts Q I g Sa tk q
  refine (pe_callS (E := WE (xw Z.T Wr F0 G (efX S u M pu i Γ))) G2 (B.room.mono hj) (B.gx hg) (by rw [B.mg]; exact hm) (by rw [B.K]; exact hk) (by rw [B.K]; exact hb) (fun σ => passAt tk σ) ea.pa d1 he hpl).run pins s σ H Q I ⟨F, G, Wr, fts, g.ok, Sa, fun us F1 H1 g1 p1 => ?_⟩
  match us, p1 with
  | v :: us, ⟨p0, p1⟩ =>
    obtain rfl : v = .ref (S.a u) := p0
    exact eff_sp g Sa g1 hΓ pt nv hp p1 q
end
end BF
set_option maxHeartbeats 5000000
namespace BF
open L2 PySem PySem.Spec PyProof.Rows
section
variable {X : Cx} {CX : CXT} {k : Nat} {f C : Addr} {fd : FuncData} {ps : List Str} {sp : Sp} {E : Sg → XK} {m : Str} {pos apos : Pos} {e o : Expr} {es : List Expr} {ta : TE} {t : TA}
def tMethW (C : Addr) (m : Str) (sp : Sp) (E : Sg → XK) (ta : TE) (t : TA) : TE := fun σ H Q => ta σ H fun w G => ∃ a dx fs, w = .ref a ∧ G a = some (.ins C dx fs) ∧ fs.lookup m = none ∧ t σ G fun vs G2 => sp (w :: vs) G2 Q (E σ)
/-- o.m(e, ..), what is wished of an exception may name the slots -/
theorem pe_methW {pl : Sem Bool} (ho : PE X o ta) (cl : Cls X.K C) (mt : Meth X.K C m f) (Fo : FnOk X.prog X.w X.K X.mg X.base CX k f fd ps sp) (ro : Room k X.A) (bd : Binds X.K fd ps []) (px : ∀ σ, PassesAt CX X σ (E σ)) (ar : PA X (e :: es) t)
    (he : starEach (e :: es) X.env = (false, eval e X.env) :: starEach es X.env := by rfl) (hpl : (backTo pos (starEach es X.env)).any (·.1) = false := by rfl)
    (ht : eval (.Call (.Attribute o m apos) (e :: es) [] pos) X.env = (do
      let ov ← eval o X.env
      standAt apos.atName
      let (f, first) ← holding [ov] (getMethod ov m pl)
      callWith pos f first (backTo pos (starEach (e :: es) X.env)) (backToKw pos (keywordEach [] X.env))) := by rfl) : PE X (.Call (.Attribute o m apos) (e :: es) [] pos) (tMethW C m sp E ta t) := ⟨fun pins s σ H Q I hw => by
  refine PySem.W.methodCall_KW (pl := pl) (thn (ho.run pins s σ H _ I hw) fun u s2 ⟨w, G, J, rw_, a, dx, fs, ew, ea, lk, q⟩ => ?_) ht
  subst ew
  obtain rfl : u = Value.ref a := rw_
  refine getmeth_ok J ea cl mt lk ?_
  refine PySem.W.callWith_K (first := [.ref a]) (h₀ := X.base) J.ok.mod.kin mt.kp (thn (ar.run pos pins s2 σ G _ J q) fun us s3 ⟨vs, G2, J2, rv, q2⟩ => ⟨J2.kIn, ?_⟩) he hpl
  exact run_fnS (us := .ref a :: us) (vs := .ref a :: vs) Fo ro bd (px σ) J2 (.cons rfl rv) q2⟩
end
section
variable {ι α β δ : Type} {Z : Zx} {X : Cx} {o e e1 e2 : Expr} {es : List Expr} {Γ : List Sl} {N : List Str} {sc : Scope} {vs ws : List Nat} {gs : List Str} {k j i : Nat} {pos p apos : Pos} {C : Addr} {m x : Str} {M : Mp δ} {y : δ} {S : EfS ι α β} {u : ι} {pu : β → δ} {D : Fin}
/-- what a call of a method looks at -/
def InsM (S : EfS ι α β) (u : ι) (C : Addr) (m : Str) : Prop := ∀ F H, (S.M u).rel (S.x u) F H (S.L u) (.ref (S.a u)) → ∃ dx fs, H (S.a u) = some (.ins C dx fs) ∧ fs.lookup m = none
/-- o.m(e, ..) -/
theorem ee_methM (B : Bd Z X N sc vs ws gs k) (K : Cls Z.K C) (c : MCalX Z C m j (spEf Z.T S)) (i : Nat) (u : ι) (pu : β → δ) (eo : EV Z X o Γ (pRef (S.a u))) (ea : EA Z X (e :: es) Γ ((S.Ds u).map pvOf)) (hΓ : Γ[i]? = some (.mu M y)) (pt : Part M y (S.M u) (S.x u) (S.a u) (S.L u) pu) (im : InsM S u C m) (hp : S.pre u) (nv : noVw Γ = true := by rfl) (hj : j ≤ k := by decide)
    (he : starEach (e :: es) X.env = (false, eval e X.env) :: starEach es X.env := by rfl) (hpl : (backTo pos (starEach es X.env)).any (·.1) = false := by rfl)
    {pl : Sem Bool} (ht : eval (.Call (.Attribute o m apos) (e :: es) [] pos) X.env = (do
      let ov ← eval o X.env
      standAt apos.atName
      let (f, first) ← holding [ov] (getMethod ov m pl)
      callWith pos f first (backTo pos (starEach (e :: es) X.env)) (backToKw pos (keywordEach [] X.env))) := by rfl) : EE Z X (.Call (.Attribute o m apos) (e :: es) [] pos) Γ S.R (efQ S u M pu i Γ) (efX S u M pu i Γ) := by
  obtain ⟨f, fd, ps, hm, hb, G0⟩ := c.ex
  have G2 : FnOk X.prog X.w X.K X.mg X.base (L2.CX X.prog X.w) j f fd ps (spEf Z.T S) := by rw [B.prog, B.w, B.K, B.mg, B.base]; exact G0
  intro pins s σ F0 G F H Wr fts Q I g Sa tk q
  refine (pe_methW (pl := pl) (E := WE (xw Z.T Wr F0 G (efX S u M pu i Γ))) eo.pe (by rw [B.K]; exact K) (by rw [B.K]; exact hm) G2 (B.room.mono hj) (by rw [B.K]; exact hb) (fun σ => passAt tk σ) ea.pa he hpl ht).run pins s σ H Q I ⟨F, G, Wr, fts, g.ok, Sa, fun v F1 H1 g1 p1 => ?_⟩
  obtain rfl : v = .ref (S.a u) := p1
  have S1 := Sa.grow g1
  obtain ⟨dx, fs, h1, h2⟩ := im F1 H1 (eff_start S1 hΓ pt).1
  exact ⟨_, dx, fs, rfl, h1, h2, F1, G, Wr, fts, g1.ok, S1, fun us F2 H2 g2 p2 => eff_sp g Sa (g1.step g2) hΓ pt nv hp p2 q⟩
/-- the value of a slot's thing -/
theorem ev_pin (B : Bd Z X N sc vs ws gs k) (i : Nat) {n : Str} {a : Addr} {L : List Addr} (pn : Pin M a L) (hi : N[i]? = some n := by rfl) (hv : i ∈ vs := by decide) (hΓ : Γ[i]? = some (.mu M y) := by rfl) : EV Z X (.Name n pos) Γ (pRef a) := by
  obtain ⟨d1, d2, _⟩ := plainName_ok (B.nm.pn i hv n hi)
  exact EV.of (pe_var (i := i) (by rw [B.eN]; exact hi) (by rw [B.eSc]; exact B.nm.vis i hv n hi) d1 d2) fun σ F G H Wr fts Q o S q => by
    obtain ⟨v, ev, r, mk⟩ := S.mu hΓ
    obtain ⟨rfl, _⟩ := pn.ok r
    exact ⟨_, ev, q _ F H (Grow.refl o) rfl⟩
/-! ### raise -/
abbrev vE : List Value := [.type "ValueError", .type "Exception", .type "BaseException", .type "object"]
/-- a class of refusals, told by the module's name x -/
structure XcK (Z : Zx) (CB : Addr) (x : Str) (C : Addr) : Prop where
  mg : Z.mg x = some (.ref C)
  kp : PySem.W.keepIn Z.K (.ref C) = true
  ex : PySem.W.excIn Z.K C vE "ValueError.__new__" = true
  sub : PySem.W.subIn Z.K (.ref C) (.type "BaseException") = some true
  ty : PySem.W.typeIn Z.K (.ref C) = some (.type "type")
  one : PySem.W.exmOne Z.K (.ref C) (.ref CB) = some true
theorem do_raise {CB : Addr} {x t : Str} {jj : Nat} {p2 pos2 : Pos} (B : Bd Z X N sc vs ws gs k) (K : XcK Z CB x C) (h : D.ex (.ref C) Γ) (hg : x ∈ gs := by decide +kernel) : DO Z X (.Raise (some (.Call (.Name x p) [.Constant (.str t) jj p2] [] pos2)) none pos) Γ D := fun pins s σ F0 G F H Wr fts I g S tk => by
  obtain ⟨d1, d2, d3⟩ := plainName_ok (B.nm.pg x hg)
  exact (ps_raise B.calm tk (pmk_own PySem.F.excBase_ValueError (by rw [B.K]; exact K.ex) (by rw [B.mg]; exact K.mg) (by rw [B.K]; exact K.kp) (raises_own (by rw [B.K]; exact K.sub) (by rw [B.K]; exact K.ty)) (B.gx hg) d1)).run pins s σ H _ I ⟨rfl, F, Γ, fts, g, S, h⟩
end
end BF
set_option maxHeartbeats 5000000
namespace BF
open L2 PySem PySem.Spec PyProof.Rows
/-! ## the shelf's deeds -/
/-- a refusal -/
abbrev Ref (Z : Zx) (CB : Addr) (c : Value) : Prop := PySem.W.exmOne Z.K c (.ref CB) = some true
structure XKs (Z : Zx) (CB : Addr) : Prop where
  noKnot : ∃ C, XcK Z CB "NoKnot" C
  noRoom : ∃ C, XcK Z CB "NoRoom" C
  twice : ∃ C, XcK Z CB "Twice" C
  missing : ∃ C, XcK Z CB "Missing" C
theorem pin_sh {C : Addr} {s : SA} : Pin (mSh C s) s.a s.ft := ⟨fun r => ⟨r.1, r.2.1⟩, rfl⟩
abbrev shOf (sd : Sd) : Sh := ⟨sd.1, sd.2, full_rowsM sd⟩
def KnotOk (t : Tr) (k : Int) : Prop := 0 ≤ k ∧ k < t.length
def putOk (sd : Sd) (d key : Int) : Prop := KnotOk sd.1 d ∧ key ∉ rowM sd d ∧ totM sd < 300
def outOk (sd : Sd) (d key : Int) : Prop := KnotOk sd.1 d ∧ key ∈ rowM sd d
def hangOk (sd : Sd) (p : Int) : Prop := KnotOk sd.1 p ∧ sd.1.length < 40
abbrev S_ask (Z : Zx) (C CB : Addr) : EfS (SA × Sh × Int) Unit Sh := { M := fun u => mSh C u.1, a := fun u => u.1.a, L := fun u => u.1.ft, x := fun u => u.2.1, Ds := fun u => [.da rInt u.2.2], pre := fun _ => True, R := rNone, rt := fun u _ y => y = u.2.1 ∧ KnotOk u.2.1.tree u.2.2, ex := fun u c y => y = u.2.1 ∧ Ref Z CB c ∧ ¬ KnotOk u.2.1.tree u.2.2 }
abbrev S_chg (Z : Zx) (C : Addr) : EfS (SA × Sd × Sd × Int × List En × List En) Told Sh := { M := fun u => mSh C u.1, a := fun u => u.1.a, L := fun u => u.1.ft, x := fun u => ⟨u.2.2.1.1, u.2.2.1.2, full_rowsM u.2.1⟩, Ds := fun u => [.da (rOpt rInt) (some u.2.2.2.1), .da (rLst rEn) u.2.2.2.2.1, .da (rLst rEn) u.2.2.2.2.2], pre := fun u => ButAt u.2.1 u.2.2.1 u.2.2.2.1 ∧ ChI u.2.1 u.2.2.1 u.2.2.2.1 (full_rowsM u.2.1) (some u.2.2.2.1) u.2.2.2.2.1 u.2.2.2.2.2, R := rTold, rt := fun u z y => y = shOf u.2.2.1 ∧ z = toldF u.2.1 u.2.2.1 100 (some u.2.2.2.1) u.2.2.2.2.1 u.2.2.2.2.2 }
abbrev S_put (Z : Zx) (C CB : Addr) : EfS (SA × Sd × Int × Int) Told Sh := { M := fun u => mSh C u.1, a := fun u => u.1.a, L := fun u => u.1.ft, x := fun u => shOf u.2.1, Ds := fun u => [.da rInt u.2.2.1, .da rInt u.2.2.2], pre := fun u => StandOk u.2.1 ∧ is_keyM u.2.2.2 = true, R := rTold, rt := fun u z y => putOk u.2.1 u.2.2.1 u.2.2.2 ∧ y = shOf (putS u.2.1 u.2.2.1 u.2.2.2) ∧ z = toldF u.2.1 (putS u.2.1 u.2.2.1 u.2.2.2) 100 (some u.2.2.1) [] [(u.2.2.2, u.2.2.1)], ex := fun u c y => y = shOf u.2.1 ∧ Ref Z CB c ∧ ¬ putOk u.2.1 u.2.2.1 u.2.2.2 }
abbrev S_out (Z : Zx) (C CB : Addr) : EfS (SA × Sd × Int × Int) Told Sh := { M := fun u => mSh C u.1, a := fun u => u.1.a, L := fun u => u.1.ft, x := fun u => shOf u.2.1, Ds := fun u => [.da rInt u.2.2.1, .da rInt u.2.2.2], pre := fun u => StandOk u.2.1 ∧ is_keyM u.2.2.2 = true, R := rTold, rt := fun u z y => outOk u.2.1 u.2.2.1 u.2.2.2 ∧ y = shOf (outS u.2.1 u.2.2.1 u.2.2.2) ∧ z = toldF u.2.1 (outS u.2.1 u.2.2.1 u.2.2.2) 100 (some u.2.2.1) [(u.2.2.2, u.2.2.1)] [], ex := fun u c y => y = shOf u.2.1 ∧ Ref Z CB c ∧ ¬ outOk u.2.1 u.2.2.1 u.2.2.2 }
abbrev S_hang (Z : Zx) (C CB : Addr) : EfS (SA × Sd × Int) Int Sh := { M := fun u => mSh C u.1, a := fun u => u.1.a, L := fun u => u.1.ft, x := fun u => shOf u.2.1, Ds := fun u => [.da rInt u.2.2], pre := fun u => StandOk u.2.1, R := rInt, rt := fun u z y => hangOk u.2.1 u.2.2 ∧ y = shOf (hangS u.2.1 u.2.2) ∧ z = u.2.1.1.length, ex := fun u c y => y = shOf u.2.1 ∧ Ref Z CB c ∧ ¬ hangOk u.2.1 u.2.2 }
section
variable {Z : Zx} {C CD CB : Addr}
theorem ins_shM {C : Addr} {s : SA} {st : Sh} {m : Str} (h : m ∉ shN) (F H : Hp) (r : (mSh C s).rel st F H s.ft (.ref s.a)) : ∃ dx fs, H s.a = some (.ins C dx fs) ∧ fs.lookup m = none := by
  obtain ⟨fs, h1, h2, h3, h4, h5, h6⟩ := r.2.2.ob
  exact ⟨_, fs, h1, h6 m h⟩
theorem c_Shelf_askX (E : Top Z) (K : Kl Z C CD) (XX : XKs Z CB) : MCalX Z C "ask_knot" 1 (spEf Z.T (S_ask Z C CB)) :=
  mcalx_eff (ps := ["self", "knot"]) ["self", "knot"] [0, 1] ["isinstance", "int", "bool", "len", "NoKnot"] 0 K.ask_knot (fun _ _ _ _ _ _ us hl => match us, hl with | [_, _], _ => rfl) (S_ask Z C CB) (fun X B u _ => by
    obtain ⟨s, st, k⟩ := u
    obtain ⟨CN, xc⟩ := XX.noKnot
    refine dos_one (do_if (et_w (ew_or (et_not (et_val (ev_isi (u := "int") (b := true) B E (ev_var B 1) ty_int (by decide +kernel)))) fun h1 => (ew_or (et_val (ev_isi (u := "bool") (b := false) B E (ev_var B 1) ty_int (by decide +kernel))) fun h2 => (ew_or1 (et_not (et_chain ev_int (ev_var B 1) (ev_lenL B E (ev_tree B K.sh (ev_shv B 0))) od_le od_lt)))))) (fun h3 => ?_) (fun h3 => ?_))
    · refine dos_one (do_raise B xc ⟨st, rfl, rfl, xc.one, fun z => ?_⟩)
      have z : 0 ≤ k ∧ k < st.tree.length := z
      rw [decide_eq_true z.1, decide_eq_true z.2] at h3
      cases h3
    · refine dos_nil ⟨(), st, rfl, ⟨rfl, ?_⟩, fun F => rfl⟩
      simp only [Bool.not_true, Bool.false_or, Bool.not_eq_false', Bool.and_eq_true, decide_eq_true_eq] at h3
      exact h3) fun u => pin_sh
theorem c_Shelf_changed (E : Top Z) (D : Ds Z) (K : Kl Z C CD) : MCalX Z C "changed" 6 (spEf Z.T (S_chg Z C)) :=
  mcalx_eff (ps := ["self", "knot", "gone", "come"]) ["self", "knot", "gone", "come", "told", "before", "behind"] [0, 1, 2, 3, 4, 5, 6] ["handed", "sorted", "less"] 3 K.changed (fun _ _ _ _ _ _ us hl => match us, hl with | [_, _, _, _], _ => rfl) (S_chg Z C) (fun X B u hu => by
    obtain ⟨s, st, st', d, g0, m0⟩ := u
    obtain ⟨hb, hc⟩ := hu
    have hb : ButAt st st' d := hb
    have hc : ChI st st' d (full_rowsM st) (some d) g0 m0 := hc
    have hd2 := hb.ok.tree.l2
    have hdl := hb.dl
    refine dos_cons (do_new B 4 (rT3 rInt (rLst rEn) (rLst rEn)) ?_)
    refine dos_cons (do_while B (fun n Γ => ∃ (fs : List (List En)) (cur : Option Int) (g m : List En) (t : Told), Γ = [.mu (mSh C s) ⟨st'.1, st'.2, fs⟩, .da (rOpt rInt) cur, .da (rLst rEn) g, .da (rLst rEn) m, .mu (mLst (rT3 rInt (rLst rEn) (rLst rEn))) t, .un, .un] ∧ ChI st st' d fs cur g m ∧ (∀ c, cur = some c → c + 1 ≤ n) ∧ t.length + n = 100 ∧ t ++ toldF st st' n cur g m = toldF st st' 100 (some d) g0 m0) 100 ⟨full_rowsM st, some d, g0, m0, [], rfl, hc, fun c e => by cases e; omega, rfl, rfl⟩ fun n Γ' hI => ?_)
    obtain ⟨fs, cur, g, m, t, rfl, hI, hn, htn, ht⟩ := hI
    refine ⟨_, et_w (ew_and (et_cmp (ev_var B 1) ev_non od_notN) fun h => ew_and1 (et_w (ew_or (et_cmp (ev_var B 2).l (ev_list .nil).l (od_neL B py_en enE_ok enE_ok)) fun h2 => ew_or1 (et_cmp (ev_var B 3).l (ev_list .nil).l (od_neL B py_en enE_ok enE_ok))))), fun hT => ?_, fun hF => ?_⟩
    · cases cur with
      | none => cases hT
      | some c =>
        have hgm : ¬ (g = [] ∧ m = []) := by
          rintro ⟨rfl, rfl⟩
          cases hT
        obtain ⟨n, rfl⟩ : ∃ n', n = n' + 1 := ⟨n - 1, by have := hn c rfl; have := (hI.rg c rfl).1; omega⟩
        obtain ⟨c0, c1, cd⟩ := hI.rg c rfl
        obtain ⟨pm, efs⟩ := hI.perm hb
        have hlen := hI.len
        have f := full_ful hb.ok c0 c1
        have f' := full_ful hb.ok' c0 (by rw [hb.tree]; exact c1)
        have hat : fs[c.toNat]? = some (fullM st c) := by rw [← efs]; exact at_getD [] (by omega)
        have fl := ful_len hb.ok c0 c1 f
        have fl' := ful_len hb.ok' c0 (by rw [hb.tree]; exact c1) f'
        have hm3 := hI.ml
        have l1 := less_len (fullM st c) g
        have l2 := f.handed
        have l3 := ful_len hb.ok c0 c1 l2
        have l4 := ful_len hb.ok' c0 (by rw [hb.tree]; exact c1) f'.handed
        rw [efs] at pm
        refine dos_cons (do_app B 4 (ev_t3 ((ev_var B 1).so rfl) (ev_var B 2) (ev_var B 3)) ?_ ?_)
        · exact sz_lt (by omega)
        refine dos_cons (do_set B 5 (ev_call1 B (c_handed E D) (ev_ixL (ev_fulls B K.sh (ev_shv B 0)) ((ev_var B 1).so rfl) c0 hat) (en_ok hb.ok c0 c1 f)) ?_)
        refine dos_cons (do_stF B 0 K.sh (ev_sortedP B E (ev_bin (ev_call2 B (c_less E D) (ev_ixL (ev_fulls B K.sh (ev_shv B 0)) ((ev_var B 1).so rfl) c0 hat) (ev_var B 2) (by omega)).l (ev_var B 3).l (od_cat (sz_le (by omega)))).l pm (inc_srt f'.inc)) ((ev_var B 1).so rfl) ⟨c0, ?_⟩ ?_)
        · show c < fs.length
          omega
        refine dos_cons (do_set B 6 (ev_call1 B (c_handed E D) (ev_ixL (x := fullM st' c) (ev_fulls B K.sh (ev_shv B 0)) ((ev_var B 1).so rfl) c0 (List.getElem?_set_self ?_)) (en_ok hb.ok' c0 (by rw [hb.tree]; exact c1) f')) ?_)
        · show c.toNat < fs.length
          omega
        refine dos_cons (do_set B 2 (ev_call2 B (c_less E D) (ev_var B 5) (ev_var B 6) (by omega)) ?_)
        refine dos_cons (do_set B 3 (ev_call2 B (c_less E D) (ev_var B 6) (ev_var B 5) (by omega)) ?_)
        refine dos_cons (do_set B 1 (ev_ixL (x := st.1.getD c.toNat none) (ev_tree B K.sh (ev_shv B 0)) ((ev_var B 1).so rfl) c0 (by show st'.1[c.toNat]? = _; rw [hb.tree]; exact at_getD none (by omega))) ?_)
        refine dos_un 5 (dos_un 6 (dos_nil ⟨n, Nat.lt_succ_self n, _, _, _, _, _, rfl, hI.step hb, fun p e => ?_, ?_, ?_⟩))
        · have := up_lt hb.ok.tree c0 c1 e
          have := hn c rfl
          omega
        · rw [List.length_append]; simp only [List.length_cons, List.length_nil]; omega
        · rw [← ht, List.append_assoc]
          congr 1
          show _ = (if g = [] ∧ m = [] then [] else _)
          rw [if_neg hgm]
          rfl
    · have hdone : cur = none ∨ (g = [] ∧ m = []) := by
        cases cur with
        | none => exact .inl rfl
        | some c =>
          simp only [Option.isSome_some, Bool.true_and, Bool.or_eq_false_iff, Bool.not_eq_false', decide_eq_true_eq] at hF
          exact .inr hF
      have e1 := hI.done hb hdone
      have e2 : toldF st st' n cur g m = [] := by
        cases n with
        | zero => rfl
        | succ n =>
          cases cur with
          | none => rfl
          | some c =>
            unfold toldF
            exact if_pos (hdone.resolve_left fun z => nomatch z)
      rw [e2, List.append_nil] at ht
      subst e1
      subst ht
      refine dos_fzL 4 (dos_one (do_ret (ev_var B 4) ?_))
      exact ⟨_, _, rfl, ⟨rfl, rfl⟩, fun G T F H v o p => p⟩) fun u => pin_sh
end
end BF
set_option maxHeartbeats 5000000
namespace BF
open L2 PySem PySem.Spec PyProof.Rows
section
variable {Z : Zx} {C CD CB : Addr}
theorem c_lessI (E : Top Z) (D : Ds Z) : Cal Z "less" 2 (sp2 Z.T (pd (rLst rInt)) (pd (rLst rInt)) (fun entries gone => entries.length ≤ 100000) (fun entries gone => pd (rLst rInt) (lessI entries gone))) :=
  cal2 ["entries", "gone", "entry"] [0, 1] [] 1 D.less (fun _ _ _ _ _ _ us hl => match us, hl with | [_, _], _ => rfl) fun X B entries gone hp => by
    exact dos_one (do_ret (ev_lcIf (b := fun e => !decide (e ∈ gone)) (f := fun e => e) B [("entry", 2)] [1, 2] [] (gi_l (ev_var B 0)) (by omega) (fun X' B' => (ga_name B' 2)) (fun X' B' x hx => ET.as (et_cmp (ev_var B' 2) ((ev_var B' 1)).l (od_notIn B' py_int trivial (fun _ _ => trivial))) (congrArg (!·) (decide_eq_decide.mpr Iff.rfl))) (fun X' B' x hx hb => (ev_var B' 2))) (rt_eq (by rw [List.map_id']; rfl)))
theorem totI (sd : Sd) : (sd.2.map fun r : List Int => (r.length : Int)).sum = (totM sd : Int) := by
  have := natsum (sd.2.map fun r : List Int => r.length)
  rw [List.map_map] at this
  exact this
theorem insK_le {key : Int} {xs : List Int} (h : xs.Pairwise (· < ·)) (n : key ∉ xs) : (insK key xs).Pairwise (· ≤ ·) := (insK_sorted h n).imp fun a => by omega
theorem c_Shelf_put (E : Top Z) (D : Ds Z) (K : Kl Z C CD) (XX : XKs Z CB) : MCalX Z C "put" 7 (spEf Z.T (S_put Z C CB)) :=
  mcalx_eff (ps := ["self", "knot", "key"]) ["self", "knot", "key", "row"] [0, 1, 2] ["is_key", "NoKey", "Twice", "sum", "MOST_KEYS_stands", "NoRoom", "sorted"] 1 K.put (fun _ _ _ _ _ _ us hl => match us, hl with | [_, _, _], _ => rfl) (S_put Z C CB) (fun X B u hu => by
    obtain ⟨s, sd, d, key⟩ := u
    obtain ⟨hs, hk⟩ := hu
    have hs : StandOk sd := hs
    have hk : is_keyM key = true := hk
    obtain ⟨CT, xt⟩ := XX.twice
    obtain ⟨CR, xr⟩ := XX.noRoom
    refine dos_cons (do_exprE ((ee_methM B K.sh.c (c_Shelf_askX E K XX) 0 (s, shOf sd, d) id (ev_pin B 0 pin_sh) (ea1 (ev_var B 1)) rfl (part_self pin_sh) (ins_shM (by decide)) trivial).ex fun c Γ' ⟨w, h, e⟩ => ?_) fun x Γ' ⟨w, h, e⟩ => ?_)
    · subst e
      exact ⟨w, rfl, h.1, h.2.1, fun z => h.2.2 z.1⟩
    subst e
    obtain ⟨rfl, hkn⟩ := h
    have hkn : KnotOk sd.1 d := hkn
    obtain ⟨d0, d1⟩ := hkn
    have hl := hs.len
    have hl2 := hs.tree.l2
    have hrow : sd.2[d.toNat]? = some (rowM sd d) := row_at hs d0 d1
    have hrl : (rowM sd d).length ≤ 300 := row_len hs d0 d1
    obtain ⟨r1, r2⟩ := row_okM hs d0 d1
    refine dos_cons (do_if (et_not (et_val (ev_call1 B (c_is_key E D) (ev_var B 2) trivial))) (fun h => ?_) (fun _ => dos_nil ?_))
    · rw [hk] at h; cases h
    refine dos_cons (do_if (et_cmp (ev_var B 2) (ev_ixL (ev_rows B K.sh (ev_shv B 0)) (ev_var B 1) d0 hrow).l (od_in B py_int trivial fun _ _ => trivial)) (fun h => ?_) (fun h => dos_nil ?_))
    · exact dos_one (do_raise B xt ⟨_, rfl, rfl, xt.one, fun z => z.2.1 (of_decide_eq_true h)⟩)
    have hnk : key ∉ rowM sd d := of_decide_eq_false h
    refine dos_cons (do_if (et_cmp (ev_sum B E (ev_lc (f := fun r : List Int => (r.length : Int)) B [("row", 3)] [3] ["len"] (gi_pl (ev_rows B K.sh (ev_shv B 0))) (show sd.2.length ≤ 1000000 by omega) (fun X' B' => (ga_name B' 3)) (fun X' B' x hx => (ev_lenL B' E (ev_var B' 3).l))).l) (ev_gint B E.meS) od_ge) (fun h => ?_) (fun h => dos_nil ?_))
    · have h : (300 : Int) ≤ (sd.2.map fun r : List Int => (r.length : Int)).sum := of_decide_eq_true h
      rw [totI] at h
      exact dos_one (do_raise B xr ⟨_, rfl, rfl, xr.one, fun z => by have y : totM sd < 300 := z.2.2; omega⟩)
    have h : ¬ (300 : Int) ≤ (sd.2.map fun r : List Int => (r.length : Int)).sum := of_decide_eq_false h
    rw [totI] at h
    have ht : totM sd < 300 := by omega
    refine dos_cons (do_stR B 0 K.sh (ev_sortedI B E (ev_bin (ev_ixL (ev_rows B K.sh (ev_shv B 0)) (ev_var B 1) d0 hrow).l (ev_list (.cons (ev_var B 2) .nil)).l (od_cat ?_)).l (insK_perm key (rowM sd d)) (insK_le r1 hnk)) (ev_var B 1) ⟨d0, ?_⟩ ?_)
    · exact sz_le (by simp only [List.length_cons, List.length_nil]; omega)
    · show d < sd.2.length
      omega
    refine dos_one (do_retE ((ee_methM (S := S_chg Z C) B K.sh.c (c_Shelf_changed E D K) 0 (s, sd, putS sd d key, d, [], [(key, d)]) id (ev_pin B 0 pin_sh) (ea_cons (ev_var B 1).opI (ea2 (ev_list .nil) (ev_list (.cons (ev_t2 (ev_var B 2) (ev_var B 1)) .nil)))) rfl (part_self pin_sh) (ins_shM (by decide)) ⟨but_put hs d0 d1 hk hnk ht, chi_put hs d0 d1 hk hnk ht⟩).ex fun c Γ' ⟨w, h, e⟩ => h.elim) fun x Γ' ⟨w, h, e⟩ => ?_)
    subst e
    obtain ⟨rfl, rfl⟩ := h
    exact ⟨_, _, rfl, ⟨⟨⟨d0, d1⟩, hnk, ht⟩, rfl, rfl⟩, fun G T F H v o p => p⟩) fun u => pin_sh
theorem c_Shelf_out (E : Top Z) (D : Ds Z) (K : Kl Z C CD) (XX : XKs Z CB) : MCalX Z C "out" 7 (spEf Z.T (S_out Z C CB)) :=
  mcalx_eff (ps := ["self", "knot", "key"]) ["self", "knot", "key"] [0, 1, 2] ["is_key", "NoKey", "Missing", "less"] 0 K.out (fun _ _ _ _ _ _ us hl => match us, hl with | [_, _, _], _ => rfl) (S_out Z C CB) (fun X B u hu => by
    obtain ⟨s, sd, d, key⟩ := u
    obtain ⟨hs, hk⟩ := hu
    have hs : StandOk sd := hs
    have hk : is_keyM key = true := hk
    obtain ⟨CT, xt⟩ := XX.missing
    refine dos_cons (do_exprE ((ee_methM B K.sh.c (c_Shelf_askX E K XX) 0 (s, shOf sd, d) id (ev_pin B 0 pin_sh) (ea1 (ev_var B 1)) rfl (part_self pin_sh) (ins_shM (by decide)) trivial).ex fun c Γ' ⟨w, h, e⟩ => ?_) fun x Γ' ⟨w, h, e⟩ => ?_)
    · subst e
      exact ⟨w, rfl, h.1, h.2.1, fun z => h.2.2 z.1⟩
    subst e
    obtain ⟨rfl, hkn⟩ := h
    have hkn : KnotOk sd.1 d := hkn
    obtain ⟨d0, d1⟩ := hkn
    have hl := hs.len
    have hl2 := hs.tree.l2
    have hrow : sd.2[d.toNat]? = some (rowM sd d) := row_at hs d0 d1
    have hrl : (rowM sd d).length ≤ 300 := row_len hs d0 d1
    refine dos_cons (do_if (et_not (et_val (ev_call1 B (c_is_key E D) (ev_var B 2) trivial))) (fun h => ?_) (fun _ => dos_nil ?_))
    · rw [hk] at h; cases h
    refine dos_cons (do_if (et_cmp (ev_var B 2) (ev_ixL (ev_rows B K.sh (ev_shv B 0)) (ev_var B 1) d0 hrow).l (od_notIn B py_int trivial fun _ _ => trivial)) (fun h => ?_) (fun h => dos_nil ?_))
    · exact dos_one (do_raise B xt ⟨_, rfl, rfl, xt.one, fun z => by
        rw [show decide (key ∈ rowM sd d) = true from decide_eq_true z.2] at h
        cases h⟩)
    have hnk : key ∈ rowM sd d := by
      rw [Bool.not_eq_false'] at h
      exact of_decide_eq_true h
    refine dos_cons (do_stR B 0 K.sh (ev_call2 B (c_lessI E D) (ev_ixL (ev_rows B K.sh (ev_shv B 0)) (ev_var B 1) d0 hrow) (ev_list (.cons (ev_var B 2) .nil)) (by omega)) (ev_var B 1) ⟨d0, ?_⟩ ?_)
    · show d < sd.2.length
      omega
    refine dos_one (do_retE ((ee_methM (S := S_chg Z C) B K.sh.c (c_Shelf_changed E D K) 0 (s, sd, outS sd d key, d, [(key, d)], []) id (ev_pin B 0 pin_sh) (ea_cons (ev_var B 1).opI (ea2 (ev_list (.cons (ev_t2 (ev_var B 2) (ev_var B 1)) .nil)) (ev_list .nil))) rfl (part_self pin_sh) (ins_shM (by decide)) ⟨but_out hs d0 d1, chi_out hs d0 d1⟩).ex fun c Γ' ⟨w, h, e⟩ => h.elim) fun x Γ' ⟨w, h, e⟩ => ?_)
    subst e
    obtain ⟨rfl, rfl⟩ := h
    exact ⟨_, _, rfl, ⟨⟨⟨d0, d1⟩, hnk⟩, rfl, rfl⟩, fun G T F H v o p => p⟩) fun u => pin_sh
theorem c_Shelf_hang (E : Top Z) (D : Ds Z) (K : Kl Z C CD) (XX : XKs Z CB) : MCalX Z C "hang" 2 (spEf Z.T (S_hang Z C CB)) :=
  mcalx_eff (ps := ["self", "parent"]) ["self", "parent"] [0, 1] ["len", "MOST_KNOTS_trees", "NoRoom"] 0 K.hang (fun _ _ _ _ _ _ us hl => match us, hl with | [_, _], _ => rfl) (S_hang Z C CB) (fun X B u hu => by
    obtain ⟨s, sd, d⟩ := u
    have hs : StandOk sd := hu
    obtain ⟨CR, xr⟩ := XX.noRoom
    refine dos_cons (do_exprE ((ee_methM B K.sh.c (c_Shelf_askX E K XX) 0 (s, shOf sd, d) id (ev_pin B 0 pin_sh) (ea1 (ev_var B 1)) rfl (part_self pin_sh) (ins_shM (by decide)) trivial).ex fun c Γ' ⟨w, h, e⟩ => ?_) fun x Γ' ⟨w, h, e⟩ => ?_)
    · subst e
      exact ⟨w, rfl, h.1, h.2.1, fun z => h.2.2 z.1⟩
    subst e
    obtain ⟨rfl, hkn⟩ := h
    have hkn : KnotOk sd.1 d := hkn
    obtain ⟨d0, d1⟩ := hkn
    have hl := hs.len
    have hl2 := hs.tree.l2
    have hfl := full_rows_len sd
    refine dos_cons (do_if (et_cmp (ev_lenL B E (ev_tree B K.sh (ev_shv B 0))) (ev_gint B E.mkT) od_ge) (fun h => ?_) (fun h => dos_nil ?_))
    · have h : (40 : Int) ≤ sd.1.length := of_decide_eq_true h
      exact dos_one (do_raise B xr ⟨_, rfl, rfl, xr.one, fun z => by have y : sd.1.length < 40 := z.2; omega⟩)
    have h : ¬ (40 : Int) ≤ sd.1.length := of_decide_eq_false h
    have hlt : sd.1.length < 40 := by omega
    refine dos_cons (do_apT B 0 K.sh (ev_var B 1).opI ?_ ?_)
    · exact sz_lt (by show sd.1.length ≤ _; omega)
    refine dos_cons (do_apR B 0 K.sh (ev_list .nil) ?_ ?_)
    · exact sz_lt (by show sd.2.length ≤ _; omega)
    refine dos_cons (do_apF B 0 K.sh (ev_list .nil) ?_ ?_)
    · exact sz_lt (by show (full_rowsM sd).length ≤ _; omega)
    refine dos_one (do_ret (ev_bin (ev_lenL B E (ev_tree B K.sh (ev_shv B 0))) ev_int od_sub) ?_)
    refine ⟨(sd.1.length : Int), _, rfl, ⟨⟨⟨d0, d1⟩, hlt⟩, ?_, rfl⟩, fun G T F H v o p => ?_⟩
    · show (⟨sd.1 ++ [some d], sd.2 ++ [[]], full_rowsM sd ++ [[]]⟩ : Sh) = _
      rw [hang_fulls hs d0 d1 hlt]
      rfl
    · have e : (((sd.1 ++ [some d]).length : Int) - 1) = sd.1.length := by rw [List.length_append]; simp
      rw [← e]
      exact p) fun u => pin_sh
end
end BF
set_option maxHeartbeats 5000000
namespace BF
open L2 PySem PySem.Spec PyProof.Rows
/-! ## a comprehension whose first turn raises -/
/-- what is asked at the end of such a block -/
def rzPost (M : Model) (A : Around) (E : Value → Shared → Prop) (ce : Env) : Result → Shared → Prop
  | .ok _, _ => False
  | .error x, t => ∃ m, t.heap.Ns ce.locals m ∧ ∀ h2, Heap.SameBut ce.locals t.heap h2 → wpAny M A (passOn "comprehension.variables-let-go" x ce : Sem Value) (fun _ _ => False) E { t with heap := h2 }
section
variable {M : Model} {A : Around} {E : Value → Shared → Prop} {s : Shared} {env : Env}
theorem comp_rz {e : Expr} {scope : Scope} {pos : Pos} {newAcc first : Sem Value} {c1 : Comprehension} {cs : List Comprehension} {cl : List (Str × Addr)} {use : Option (Value → Sem Unit)} {Q : Value → Shared → Prop}
    (hcl : clausesOf e = c1 :: cs) (hs : ∀ x, foldedSetIterable c1.iter env x = pure x) (hclos : closureFor scope env = pure cl) (hkind : scope.kind = .function) (hnames : ∀ x ∈ scope.names, x.2 = .local → scope.names.lookup x.1 = some .local)
    (h : wpAny M A first (fun x t1 => wpAny M A (pyIter x) (fun it t2 => wpAny M A newAcc (fun acc t3 => wpAny M A (newFunctionEnv scope env.globals cl [] env.qual none .none (some env)) (fun ce t4 =>
      codeAny M A (.compStart e 0 it acc { ce with scope := relabel scope env }) (rzPost M A E { ce with scope := relabel scope env }) t4) E t3) E t2) E t1) E s) :
    wpAny M A (comprehension e scope env pos newAcc false first use) Q E s := by
  unfold comprehension
  rw [hclos, hcl]
  refine wpAny_bind (wpAny_mono h (fun x t1 k1 => wpAny_bind (wpAny_standAt (wpAny_bind (wpAny_of_eq (hs x) (wpAny_bind (wpAny_holding (wpAny_mono k1 (fun it t2 k2 => ?_) fun _ _ z => z))))))) fun _ _ z => z)
  refine wpAny_standIf (wpAny_bind (wpAny_mono k2 (fun acc t3 k3 => wpAny_bind (wpAny_pure (wpAny_bind (wpAny_mono k3 (fun ce t4 k4 => ?_) fun _ _ z => z)))) fun _ _ z => z))
  dsimp only
  have hv : ∀ x ∈ (scope.names.filter fun x => (x.2 == .local || x.2 == .cell) && x.1 != (".0" : Str)).reverse.drop 1 ++ (scope.names.filter fun x => (x.2 == .local || x.2 == .cell) && x.1 != (".0" : Str)).reverse.take 1,
      x.2 = .local → Env.kindOf { ce with scope := relabel scope env } x.1 = some .local := fun x hx hl => by
    have q : x ∈ (scope.names.filter fun x => (x.2 == .local || x.2 == .cell) && x.1 != (".0" : Str)).reverse := (List.mem_append.mp hx).elim List.mem_of_mem_drop List.mem_of_mem_take
    exact lookup_relabel_local (hnames x (List.mem_filter.mp (List.mem_reverse.mp q)).1 hl)
  have hv1 : ∀ x ∈ (scope.names.filter fun x => (x.2 == .local || x.2 == .cell) && x.1 != (".0" : Str)).reverse,
      x.2 = .local → Env.kindOf { ce with scope := relabel scope env } x.1 = some .local := fun x hx hl => lookup_relabel_local (hnames x (List.mem_filter.mp (List.mem_reverse.mp hx)).1 hl)
  refine wpAny_holding (wpAny_bind (wpAny_attempt (wpAny_holding (wpAny_run (codeAny_mono k4 fun r t5 hr => ?_)))))
  cases r with
  | ok f => exact hr.elim
  | error x =>
    obtain ⟨m, hn, hr⟩ := hr
    exact wpAny_bind (wpAny_holding (wpAny_comp_letGo (cenv := { ce with scope := relabel scope env }) hkind _ t5 m hv1 hn fun h' m' _ sb => wpAny_mono (hr h' sb) (fun _ _ f => f.elim) fun _ _ z => z))
end
theorem note_eq {ce env : Env} {e : Value} (h : ce.frame = env.frame) : noteFrame e ce = noteFrame e env := by
  unfold noteFrame PySem.frameOf
  rw [h]
theorem ff_keep {h h' base B : Heap} : ∀ {l : List Env}, h.FunFrames base l → (∀ L ∈ frs l, ∀ o, h.get? L = some o → h'.get? L = some o) → (∀ L ∈ frs l, B.get? L = none) → h'.FunFrames B l
  | [], _, _, _ => trivial
  | env :: l, ⟨hk, ⟨L, o, hf, _, ho, hd⟩, hr⟩, k, n => by
    have m0 : L ∈ frs (env :: l) := List.mem_filterMap.mpr ⟨env, List.mem_cons_self, hf⟩
    have sub : ∀ b ∈ frs l, b ∈ frs (env :: l) := fun b hb => by
      obtain ⟨e, he, q⟩ := List.mem_filterMap.mp hb
      exact List.mem_filterMap.mpr ⟨e, List.mem_cons_of_mem _ he, q⟩
    exact ⟨hk, ⟨L, o, hf, n L m0, k L m0 o ho, hd⟩, ff_keep hr (fun b hb => k b (sub b hb)) fun b hb => n b (sub b hb)⟩
section
variable {X : Cx}
/-- the block's context, what a call in it lets out being told -/
abbrev blkX (X : Cx) (s : Shared) (H : Hp) (scope : Scope) (ce : Env) (fp : List Addr) (E : XK) : Cx :=
  (X.blk s H scope ce fp).wish fun u t => ∃ pins σ H0 t0, Inv (X.blk s H scope ce fp) pins σ H0 t0 ∧ L2.CX X.prog X.w X.stack H0 t0 E u t
theorem blkX_takes {s : Shared} {H : Hp} {scope : Scope} {ce : Env} {fp : List Addr} {E : XK} (σ : Sg) : PassesAt (L2.CX X.prog X.w) (blkX X s H scope ce fp E) σ E := fun pins H0 t0 e t I c => ⟨pins, σ, H0, t0, I.unwish, c⟩
/-- a call's exception leaves the block -/
theorem rz_leave {W : WX} {E : XK} {pins : List (Addr × Obj)} {σ : Sg} {H3 : Hp} {s3 t : Shared} {scope : Scope} {ce : Env} {fp : List Addr} {u : Value} {E1 : Value → Shared → Prop} (tk : Takes X W) (hst : X.stack = X.env :: X.outer) (hf : X.env.frame = some X.env.locals) (hW : ∀ cls d H', E cls d H' → W cls d σ H')
    (I3 : Inv X pins σ H3 s3) (cL : ce.locals = s3.heap.objs.size) (cF : ce.frame = X.env.frame) (f3 : ∀ b ∈ fp, FpOk X pins H3 b) (x : (blkX X s3 H3 scope ce fp E).xe u t) :
    wpAny (model X.prog X.w) X.A (noteFrame u ce) (fun _ t2 => rzPost (model X.prog X.w) X.A X.xe ce (.error u) t2) E1 t := by
  obtain ⟨pins', σ', H0, t0, I8, c⟩ := x
  obtain ⟨a0, B0, H0', cls0, d0, ua, fl0, _⟩ := id c
  have c : L2.CX (X.blk s3 H3 scope ce fp).prog (X.blk s3 H3 scope ce fp).w (X.blk s3 H3 scope ce fp).stack H0 t0 E u t := c
  obtain ⟨a, B, sI, p1, σ1, H1, cls, d, rfl, J, nb, up, sky, na, os, ag, hE⟩ := XE.of_call (W := fun cls d _ H => E cls d H) I8 (fun _ _ _ z => z) c
  obtain rfl : a = a0 := by cases ua; rfl
  have nb : ∀ b o, sI.heap.get? b = some o → b ∉ frs X.stack → B.get? b = some o := nb
  have fl : HandSPX.FlyingZ B X.stack a (Zc cls d) t.heap := by
    obtain ⟨_, _, _, oe0, vs0, T0, oT0, ts0, he0, _, hd0, h10, _, _, hT0, hdT0, h30⟩ := fl0
    rcases sky with ⟨_, _, _, oe, vs, he, _, hd, h1⟩ | fl | ⟨_, _, _, oe, vs, T, oT, ts, he, _, hd, h1, _, _, hT, hdT, h3⟩
    · rw [he0] at he
      cases he
      rw [hd0] at hd
      cases hd
      rw [h10] at h1
      cases h1
    · exact fl
    · rw [he0] at he
      cases he
      rw [hd0] at hd
      cases hd
      rw [h10] at h1
      cases h1
      rw [hT0] at hT
      cases hT
      rw [hdT0] at hdT
      cases hdT
      rw [h30] at h3
      cases h3
  have J9 : Inv X pins σ H1 sI := I3.call' (ch := fp) J.os J.base J.hok J.bare fun b hb => ⟨(f3 b hb).2.2.2.1, (f3 b hb).2.1, (f3 b hb).2.2.2.2.1, (f3 b hb).2.2.2.2.2⟩
  have nC : H1 ce.locals = none := J.free
  obtain ⟨f0, f1, f2, f4, f5, f6⟩ := I3.fpOk (H' := H1) (b := ce.locals) (by rw [cL]; exact Nat.le_refl _) nC
  obtain ⟨m, hn, _⟩ := J.loc
  have hn : sI.heap.Ns ce.locals m := hn
  have hCf : ce.locals ∉ frs X.stack := fun z => by
    rcases List.mem_cons.mp (J9.stkSub _ z) with y | y
    · exact f1 y
    · exact f2 y
  have hfr : X.A.frames = some (X.env :: X.outer) := by rw [J9.ok.frames, hst]
  rw [note_eq cF]
  rw [hst] at fl
  refine HandSPX.looks_onZ Zc.steady hfr hf fl fun h1 held up1 => ?_
  obtain ⟨k1, k2, k3, k4⟩ := held
  obtain ⟨oC, es, ep, eC, dC, kC, nC2⟩ := hn
  have eC1 : h1.get? ce.locals = some oC := k1 _ _ (nb _ _ eC hCf)
  refine ⟨m, ⟨oC, es, ep, eC1, dC, kC, nC2⟩, fun h2 sb => ?_⟩
  obtain ⟨oe, vs, T, oT, ts, he, hz, hd, hv1, hnT, hTe, hT, hdT, h3⟩ := k4
  have aC : a ≠ ce.locals := fun z => by
    rw [← z, he] at eC1
    cases eC1
    rw [hd] at dC; cases dC
  have TC : T ≠ ce.locals := fun z => by
    rw [← z, hT] at eC1
    cases eC1
    rw [hdT] at dC; cases dC
  have he2 : h2.get? a = some oe := (sb.2 a aC).trans he
  have bB : ∀ b o, (PySem.W.hideAll B [ce.locals]).get? b = some o → B.get? b = some o ∧ b ≠ ce.locals := fun b o q => ⟨PySem.W.of_hideAll _ q, fun z => by
    rw [PySem.W.hideAll_none _ (by rw [z]; simp)] at q; cases q⟩
  have st2 : (PySem.W.hideAll B [ce.locals]).StaysIn h2 := fun b o q => (sb.2 b (bB b o q).2).trans (k1 b o (bB b o q).1)
  have frB : ∀ L ∈ frs (X.env :: X.outer), B.get? L = none := fun L hL => (k3.mem hL).1
  have hid : ∀ b, B.get? b = none → (PySem.W.hideAll B [ce.locals]).get? b = none := fun b hb => by
    cases q : (PySem.W.hideAll B [ce.locals]).get? b with
    | none => rfl
    | some o => have := (bB b o q).1; rw [hb] at this; cases this
  have ff2 : h2.FunFrames (PySem.W.hideAll B [ce.locals]) (X.env :: X.outer) :=
    ff_keep k3 (fun L hL o q => (sb.2 L (fun z => hCf (by rw [hst, ← z]; exact hL))).trans q) fun L hL => hid L (frB L hL)
  have tr2 : HandSPX.TracedZ h2 (PySem.W.hideAll B [ce.locals]) a (Zc cls d) (rawInt X.env.locals) := ⟨oe, vs, T, oT, ts, he2, hz, hd, hv1, hid T hnT, hTe, (sb.2 T TC).trans hT, hdT, h3⟩
  unfold PySem.passOn
  refine wpAny_bind (wpAny_field he2 hd hv1 ?_)
  rw [if_neg (show ¬ ((Value.ref T == Value.none) = true) from by simp)]
  have J10 : Inv X pins σ H1 { sI with heap := PySem.W.hideAll sI.heap [ce.locals] } := J9.turned (t' := sI.toks) (it := ce.locals) (fun b o hb e => PySem.W.hideAll_get _ e (by simpa using hb)) f0 f1 f4 f5 f6
  have fin : wpAny (model X.prog X.w) X.A (setFlight (.ref a) ce.frame) (fun _ t4 => wpAny (model X.prog X.w) X.A (throw (.ref a) : Sem Value) (fun _ _ => False) X.xe t4) X.xe { ({ t with heap := h1 } : Shared) with heap := h2 } := by
    refine HandSPX.setFlight_anyZ st2 ff2 tr2 fun h3 y1 y2 y3 y4 => wpAny_throw (tk _ _ ?_)
    refine ⟨a, PySem.W.hideAll B [ce.locals], _, pins, σ, H1, cls, d, rfl, J10, fun b o q hb => ?_, fun b o q hnf => ?_, .inr (.inr ⟨y1, ?_, by rw [hst]; exact y2, ?_⟩), na, os, ag, hW _ _ _ hE⟩
    · have q1 : sI.heap.get? b = some o := PySem.W.of_hideAll _ q
      exact PySem.W.hideAll_get _ (nb b o q1 hb) fun z => by rw [PySem.W.hideAll_none _ z] at q; cases q
    · have q1 : sI.heap.get? b = some o := PySem.W.of_hideAll _ q
      have q2 : b ≠ ce.locals := fun z => by rw [PySem.W.hideAll_none _ (by rw [z]; simp)] at q; cases q
      obtain ⟨sl1, r1⟩ := (up.trans up1) b o q1 hnf
      obtain ⟨sl2, r2⟩ := y4 b _ ((sb.2 b q2).trans r1) hnf
      exact ⟨sl2, r2⟩
    · exact hid a k2
    · rw [cF, hf] at y3
      exact y3
  first
    | exact wpAny_bind (wpAny_pure (wpAny_bind fin))
    | exact wpAny_bind fin
end
end BF
set_option maxHeartbeats 5000000
namespace BF
open L2 PySem PySem.Spec PyProof.Rows
section
variable {X : Cx}
theorem rz_core {pins : List (Addr × Obj)} {s : Shared} {σ : Sg} {H : Hp} {elt tg iter : Expr} {scope : Scope} {own : List (Str × Nat)} {pos pos' : Pos} {wi : TI} {g : TG} {te : TE} {W : WX} {E : XK} {use : Option (Value → Sem Unit)} {Qf : Value → Shared → Prop}
    (hc : X.calm = true) (hN : X.N.Nodup) (I : Inv X pins σ H s) (hi : PI X tg iter wi) (ok : BlkOk X.N X.env.scope scope own) (tk : Takes X W) (hst : X.stack = X.env :: X.outer) (hf : X.env.frame = some X.env.locals) (hW : ∀ cls d H', E cls d H' → W cls d σ H')
    (hg : ∀ (s : Shared) (H : Hp) (C : Addr) (cl : List (Str × Addr)) (fp : List Addr), PG (X.blk s H scope (compEnvC scope cl C X.env) fp) tg g)
    (he : ∀ (s : Shared) (H : Hp) (C : Addr) (cl : List (Str × Addr)) (fp : List Addr), PE (blkX X s H scope (compEnvC scope cl C X.env) fp E) elt te) (hs : ∀ x, foldedSetIterable iter X.env x = pure x)
    (h : wi σ H fun J H1 => ∀ D, H1 D = none → J.go 0 (upd H1 D (.lst [])) ∧ ∀ x H', J.yld 0 (upd H1 D (.lst [])) x H' → g x (wipe σ (own.map (·.2))) H' fun σ2 H2 => te σ2 H2 fun _ _ => False) :
    wpAny (model X.prog X.w) X.A (comprehension (.ListComp elt [⟨tg, iter, [], 0⟩] scope pos) scope X.env pos' (newList []) false (eval iter X.env) use) Qf X.xe s := by
  have hfr : ∀ y ∈ scope.names, y.2 = .free → ∃ c, X.env.cells.lookup y.1 = some c := fun y hy e => (ok.free y hy e).elim (fun k => I.ok.has _ (.inl k)) fun k => I.ok.has _ (.inr k)
  refine comp_rz (use := use) rfl hs (closure_ok hfr) ok.kind (fun y hy e => by rw [ok.uniq y hy, e]) (thn (hi.run pins s σ H _ I h) fun xv t1 hx => thn hx fun itv t2 k2 => ?_)
  obtain ⟨it, fp, tn, J, H2, e, I2, T, st2, f2, q⟩ := k2
  subst e
  refine wpAny_newObj_type (newEnv_comp ?_) (by show 0 ≤ sizeLine; decide)
  generalize hD : t2.heap.objs.size = D
  have hDn : H2 D = none := I2.hok.fresh (Nat.le_of_eq hD)
  obtain ⟨go0, step⟩ := q D hDn
  generalize hs3 : ({ t2 with heap := t2.heap.push { cls := .type "list", data := .seq ([] : List Value).toArray } } : Shared) = t3
  have I3 : Inv X pins σ (upd H2 D (.lst [])) t3 := by
    rw [← hs3]
    refine I2.laid (t' := t2.toks) (fun b o e => Heap.get?_push_of_some _ e) (Nat.le_of_eq hD) ⟨Nat.zero_le _, [], 0, .nil, ?_⟩
    rw [← hD]
    exact Heap.get?_push_size _ rfl
  have e3 : t3.heap = t2.heap.push { cls := .type "list", data := .seq ([] : List Value).toArray } := by rw [← hs3]
  have f3 : ∀ b ∈ fp, FpOk X pins (upd H2 D (.lst [])) b ∧ b < t3.heap.objs.size := fun b hb => by
    obtain ⟨o, eo, _⟩ := T.obj _ _ st2 b hb
    have hlt := Heap.lt_size eo
    refine ⟨⟨?_, (f2 b hb).2⟩, by rw [e3, Heap.size_push]; exact Nat.lt_succ_of_lt hlt⟩
    rw [upd_ne (by rw [← hD]; exact Nat.ne_of_lt hlt)]
    exact (f2 b hb).1
  have st3 : tn 0 t3.heap := T.keep _ _ _ st2 fun b _ o e => by rw [e3]; exact Heap.get?_push_of_some _ e
  have I4 := block_start I3 ok hN f3
  have pg := hg t3 (upd H2 D (.lst [])) t3.heap.objs.size (cellsFrom (t3.heap.objs.size + 1) scope.names (cloFrom X.env.cells scope.names [])) fp
  have pe := he t3 (upd H2 D (.lst [])) t3.heap.objs.size (cellsFrom (t3.heap.objs.size + 1) scope.names (cloFrom X.env.cells scope.names [])) fp
  show codeAny _ _ (.compStart (.ListComp elt [⟨tg, iter, [], 0⟩] scope pos) 0 (.ref it) (.ref D) (compEnvC scope (cellsFrom (t3.heap.objs.size + 1) scope.names (cloFrom X.env.cells scope.names [])) t3.heap.objs.size X.env)) (rzPost (model X.prog X.w) X.A X.xe (compEnvC scope (cellsFrom (t3.heap.objs.size + 1) scope.names (cloFrom X.env.cells scope.names [])) t3.heap.objs.size X.env)) { t3 with heap := pushCells (t3.heap.push { cls := .type "dict", data := .dict #[] }) scope.names }
  have nfp : ∀ b ∈ fp, (upd H2 D (.lst [])) b = none := fun b hb => (f3 b hb).1.1
  generalize hce : compEnvC scope (cellsFrom (t3.heap.objs.size + 1) scope.names (cloFrom X.env.cells scope.names [])) t3.heap.objs.size X.env = ce at I4 pg pe ⊢
  have cL : ce.locals = t3.heap.objs.size := by subst hce; rfl
  have cF : ce.frame = X.env.frame := by subst hce; rfl
  generalize hH3 : upd H2 D (.lst []) = H3 at I3 I4 pg pe go0 step nfp f3
  generalize hs4 : ({ t3 with heap := pushCells (t3.heap.push { cls := .type "dict", data := .dict #[] }) scope.names } : Shared) = t4 at I4 ⊢
  have st4 : tn 0 t4.heap := T.keep _ _ _ st3 fun b _ o e => by rw [← hs4]; exact pushCells_keeps _ _ _ _ (Heap.get?_push_of_some _ e)
  have stat : ∀ {σ' : Sg} {H' : Hp} {s' : Shared}, Inv (X.blk t3 H3 scope ce fp) [] σ' H' s' → (∀ b ∈ fp, H' b = none) → ∀ b ∈ fp, FpOk (X.blk t3 H3 scope ce fp) [] H' b := fun {σ' H' s'} I' hn b hb =>
    ⟨hn b hb, (I'.ok.exf b hb).1, I'.ok.exfs b hb, .inl hb, fun x c e => (I'.ok.exf b hb).2 x c e, fun p hp => absurd (show p ∈ ([] : List (Addr × Obj)) ++ [] from hp) (by simp)⟩
  have loop : codeAny (model X.prog X.w) X.A (.compLoop (.ListComp elt [⟨tg, iter, [], 0⟩] scope pos) 0 (.ref it) (.ref D) ce) (rzPost (model X.prog X.w) X.A X.xe ce) t4 := by
    refine compLoop_any (fun n t => Inv (X.blk t3 H3 scope ce fp) [] (wipe σ (own.map (·.2))) H3 t ∧ tn 0 t.heap) ?_ 0 ⟨I4, st4⟩
    rintro n t5 ⟨I5, st5⟩
    have ti := T.item (X.blk t3 H3 scope ce fp) rfl rfl rfl hc 0 [] t5 _ H3 (fun _ _ => False) I5 (stat I5 nfp) st5 go0
    refine thnF ti fun r t6 ⟨u, hr, k6⟩ => ?_
    subst hr
    refine thnF k6 fun _ t7 ⟨x, H7, I7, r7, y7, st7, n7⟩ => ?_
    have I7' := I7.pinned (stat I7 n7) (T.obj _ _ st7)
    refine thnF (pg.run _ t7 _ H7 x u _ I7' r7 (step x H7 y7)) fun _ t8 ⟨σ8, H8, I8, q8⟩ => ?_
    refine thnF ((pts_nil (X := X.blk t3 H3 scope ce fp)).run _ t8 σ8 H8 (fun b H' => b = true ∧ te σ8 H' fun _ _ => False) I8 ⟨rfl, q8⟩) fun b t9 ⟨H9, I9, eb, q9⟩ => ?_
    subst eb
    simp only [if_true]
    exact wpAny_mono (pe.run _ t9 σ8 H9 _ (I9.wish _) q9) (fun z t10 ⟨_, _, _, _, hF⟩ => hF.elim) fun e t10 hx => rz_leave tk hst hf hW I3 cL cF (fun b hb => (f3 b hb).1) hx
  exact codeAny_compStart_list loop (T.self X.A 0 _ _ _ st4 loop)
end
section
variable {α : Type} {Z : Zx} {X : Cx} {elt tg iter : Expr} {Γ : List Sl} {N : List Str} {sc cs : Scope} {vs ws : List Nat} {gs : List Str} {k : Nat} {pos spos py : Pos} {D : Fin} {R : Rp α}
/-- such an item: a call of it raises -/
def tRz (Z : Zx) (Δ : List Sl) (Rf : Value → Prop) (E : XK) : TE := fun σ H Q => ∃ (F G : Hp) (Wr : Addr → Prop) (fts : Nat → List Addr), Ok Z.T F H ∧ Sat Wr F G H Δ σ fts ∧ ∀ cls F' H', Grow Z.T nowhere F H F' H' → Rf cls → E cls none H'
/-- name = [..], the first item raises -/
theorem do_rz {fz : Bool} {xs : List α} {x0 : α} {up : α → List Sl → List Sl} {n : Str} {Rf : Value → Prop} (B : Bd Z X N sc vs ws gs k) (hX : X.stack = X.env :: X.outer ∧ X.env.frame = some X.env.locals) (own : List (Str × Nat)) (vs' : List Nat) (gs' : List Str) (gi : GI Z X tg iter Γ fz R xs) (h0 : xs[0]? = some x0)
    (ga : ∀ X', Bd Z X' N (relS cs sc) vs' (own.map (·.2)) gs' k → GA Z X' tg R (own.map (·.2)) up)
    (he : ∀ (X' : Cx) (E : (Value → Shared → Prop) × XK), Bd Z X' N (relS cs sc) vs' (own.map (·.2)) gs' k → (∀ σ, PassesAt (L2.CX X.prog X.w) (X'.wish E.1) σ E.2) → PE (X'.wish E.1) elt (tRz Z (up x0 (wG Γ (own.map (·.2)))) Rf E.2))
    (hD : ∀ c, Rf c → D.ex c Γ) (cn : compB N sc cs own vs' gs' = true := by decide +kernel) (hs : ∀ x, foldedSetIterable iter X.env x = pure x := by intro _; rfl)
    (hk : sc.kind = .function := by rfl) (hy : sc.names.lookup n = some .local := by rfl) (hl : (py.line == pos.line) = true := by rfl) (hn : (cs.names.any fun (m, kd) => m == n && (kd == .local || kd == .cell)) = false := by rfl) : DO Z X (.Assign [.Name n py] (.ListComp elt [⟨tg, iter, [], 0⟩] cs pos) spos) Γ D := by
  intro pins s σ F0 G F H Wr fts I g S tk
  obtain ⟨wi, hp, hw⟩ := gi
  have c := comp_by cn
  rw [exec_Assign_Name_used _ _ _ _ (sw_true (by rw [B.eSc]; exact hk) (by rw [B.eSc]; exact hy) hl hn)]
  refine wpAny_bind (wpAny_standAt (wpAny_bind ?_))
  show wpAny _ X.A (do let _ ← comprehension (.ListComp elt [⟨tg, iter, [], 0⟩] cs pos) cs X.env (firstIterPos [⟨tg, iter, [], 0⟩] pos) (newList []) false (eval iter X.env) (some (assign (.Name n py) X.env))) _ _ s
  refine wpAny_bind (wpAny_mono (Q := fun _ _ => False) ?_ (fun _ _ z => False.elim z) fun _ _ z => z)
  refine rz_core (E := fun cls d H' => D.wish Z.T Wr F0 G cls d σ H') (te := tRz Z (up x0 (wG Γ (own.map (·.2)))) Rf (fun cls d H' => D.wish Z.T Wr F0 G cls d σ H')) B.calm (by rw [B.eN]; exact B.nm.nd) I hp (by rw [B.eN, B.eSc]; exact c.blk) tk hX.1 hX.2 (fun _ _ _ z => z) (fun s H C cl fp => (ga _ (B.blk c s H C cl fp)).pg)
    (fun s H C cl fp => he (X.blk s H cs (compEnvC cs cl C X.env) fp) (_, fun cls d H' => D.wish Z.T Wr F0 G cls d σ H') (B.blk c s H C cl fp) fun σ' => blkX_takes σ') hs ?_
  refine hw σ F G H Wr fts _ g.ok S fun J F1 H1 g1 wk D' hD' => ?_
  have g2 : Grow Z.T nowhere F1 H1 F1 (upd H1 D' (.lst [])) := Grow.made g1.ok hD'
  obtain ⟨w1, w2⟩ := wk 0 F1 (upd H1 D' (.lst [])) g2.ok (Same.refl _) (fun _ a o ho nt => by rw [upd_ne (ne_of_none ho hD')]; exact ho)
  obtain ⟨go, st⟩ := w1 x0 h0
  refine ⟨go, fun x H' y => ?_⟩
  obtain ⟨F3, g3, r3⟩ := st x H' y
  have S3 := ((S.grow g1).grow g2).grow g3
  obtain ⟨fts', S4⟩ := S3.wipe (own.map (·.2))
  refine ⟨F3, G, Wr, fts', x0, _, g3.ok, S4, r3, fun σ' fts2 S5 _ _ => ⟨F3, G, Wr, fts2, g3.ok, S5, fun cls F4 H4 g4 hr => ?_⟩⟩
  exact ⟨rfl, F4, Γ, fts, (((g.step g1).step g2).step g3).step g4, S3.grow g4, hD cls hr⟩
end
end BF
set_option maxHeartbeats 5000000
namespace BF
open L2 PySem PySem.Spec PyProof.Rows
/-! ## the answers are small enough -/
theorem small_i {i : Int} (h0 : 0 ≤ i) (h : i ≤ 900000) : Small i := small_of_lt (n := 1000000) h0 (by omega) (by omega)
theorem mem_cut {α : Type} {xs : List α} {lo hi : Option Int} {x : α} (h : x ∈ cut xs lo hi) : x ∈ xs := List.mem_of_mem_drop (List.mem_of_mem_take h)
section
variable {st : Sd} {w : List Int} {key : Int}
theorem row_small (h : StandOk st) {k : Int} (h0 : 0 ≤ k) (h1 : k < st.1.length) {x : Int} (hx : x ∈ rowM st k) : Small x := small_of_key ((row_okM h h0 h1).2 x hx)
theorem way_small (h : StandOk st) (hw : WayOk st.1 w) {k : Int} (hk : k ∈ w) : Small k := by
  have := way_mem hw hk
  have := h.tree.l2
  exact small_i (by omega) (by omega)
theorem isok_way (h : StandOk st) (hw : WayOk st.1 w) : IsOk w := ⟨fun x hx => way_small h hw hx, by have := hw.sz; omega⟩
theorem isok_places (h : StandOk st) (hw : WayOk st.1 w) : IsOk (placesM st w key) := by
  have hl := places_len st w key
  refine ⟨fun x hx => ?_, by have := hw.sz; omega⟩
  obtain ⟨i, hi⟩ := List.mem_iff_getElem?.mp hx
  have hlt := (List.getElem?_eq_some_iff.mp hi).1
  have hz : (w.zip (placesM st w key))[i]? = some (w[i], x) := by
    rw [List.getElem?_zip_eq_some]
    exact ⟨List.getElem?_eq_getElem (by omega), hi⟩
  have b := places_b (fr_ok h) hw key (List.mem_of_getElem? hz)
  have wm := way_mem hw (List.getElem_mem (by omega : i < w.length))
  have rl : (rowM st w[i]).length ≤ 300 := row_len h wm.1 wm.2
  exact small_i (by simpa using b.1) (by have := b.2; simp only at this; omega)
theorem isok_has (h : StandOk st) (hw : WayOk st.1 w) : IsOk (who_hasM st w key) := by
  refine ⟨fun x hx => ?_, ?_⟩
  · obtain ⟨p, hp, rfl⟩ := List.mem_map.mp hx
    exact way_small h hw (zip_fst (List.mem_filter.mp hp).1)
  · unfold who_hasM
    rw [List.length_map]
    refine Nat.le_trans (List.length_filter_le _ _) ?_
    rw [List.length_zip]
    have := hw.sz
    omega
theorem min_mem {xs : List En} (h : xs ≠ []) {i : Nat} (hi : i < xs.length) : xs.getD i (0, 0) ∈ xs := List.mem_of_getElem? (at_getD (0, 0) hi)
theorem minE_mem {xs : List En} (h : xs ≠ []) : minE xs ∈ xs ∨ minE xs = (0, 0) := by
  unfold minE
  generalize argBest _ _ = i
  by_cases hi : i < xs.length
  · exact .inl (min_mem h hi)
  · refine .inr ?_
    rw [List.getD_eq_getElem?_getD, List.getElem?_eq_none (by omega)]; rfl
theorem maxE_mem {xs : List En} (h : xs ≠ []) : maxE xs ∈ xs ∨ maxE xs = (0, 0) := by
  unfold maxE
  generalize argBest _ _ = i
  by_cases hi : i < xs.length
  · exact .inl (min_mem h hi)
  · refine .inr ?_
    rw [List.getD_eq_getElem?_getD, List.getElem?_eq_none (by omega)]; rfl
theorem small_0 : Small 0 := small_i (by decide) (by decide)
theorem parts_row {p : Int × List Int} (hp : p ∈ w.zip (parts_fromM st w key)) : p.1 ∈ w ∧ ∃ k ∈ w, ∀ x ∈ p.2, x ∈ rowM st p.1 := by
  obtain ⟨i, hi⟩ := List.mem_iff_getElem?.mp hp
  obtain ⟨h1, h2⟩ := zip_at hi
  unfold parts_fromM at h2
  rw [List.getElem?_map] at h2
  cases q : (w.zip (placesM st w key))[i]? with
  | none => rw [q] at h2; cases h2
  | some r =>
    rw [q] at h2
    have e := Option.some.inj h2
    obtain ⟨r1, r2⟩ := zip_at q
    rw [h1] at r1
    have e1 : p.1 = r.1 := Option.some.inj r1
    refine ⟨List.mem_of_getElem? h1, p.1, List.mem_of_getElem? h1, fun x hx => ?_⟩
    rw [← e] at hx
    rw [e1]
    exact mem_cut hx
theorem ens_above (h : StandOk st) (hw : WayOk st.1 w) : ∀ e, aboveM st w key = some e → EnS e := fun e he => by
  unfold aboveM at he
  split at he
  · cases he
  · rename_i hne
    cases he
    rcases minE_mem hne with z | z
    · obtain ⟨p, hp, hq⟩ := List.mem_map.mp z
      obtain ⟨hp1, hp2⟩ := List.mem_filter.mp hp
      obtain ⟨a, _, _, b⟩ := parts_row hp1
      have wm := way_mem hw a
      rw [← hq]
      refine ⟨row_small h wm.1 wm.2 (b _ ?_), way_small h hw a⟩
      rcases q : p.2 with _ | ⟨y, ys⟩
      · rw [q] at hp2; simp at hp2
      · simp
    · rw [z]; exact ⟨small_0, small_0⟩
theorem ens_below (h : StandOk st) (hw : WayOk st.1 w) : ∀ e, belowM st w key = some e → EnS e := fun e he => by
  unfold belowM at he
  split at he
  · cases he
  · rename_i hne
    cases he
    rcases maxE_mem hne with z | z
    · obtain ⟨p, hp, hq⟩ := List.mem_map.mp z
      obtain ⟨hp1, hp2⟩ := List.mem_filter.mp hp
      have hp2 : 0 < p.2 := of_decide_eq_true hp2
      have b := places_b (fr_ok h) hw key hp1
      have a := zip_fst hp1
      have wm := way_mem hw a
      rw [← hq]
      exact ⟨row_small h wm.1 wm.2 (List.mem_of_getElem? (at_getD 0 (by omega))), way_small h hw a⟩
    · rw [z]; exact ⟨small_0, small_0⟩
variable {low high : Int}
theorem cut_len {α : Type} (xs : List α) (lo hi : Option Int) : (cut xs lo hi).length ≤ xs.length := by
  unfold cut
  rw [List.length_take, List.length_drop]
  omega
theorem isok_part (h : StandOk st) (hw : WayOk st.1 w) : ∀ ks ∈ stretchM st w low high, IsOk ks := fun ks hk => by
  obtain ⟨p, hp, rfl⟩ := List.mem_map.mp hk
  have wm := way_mem hw (zip_fst hp)
  have rl : (rowM st p.1).length ≤ 300 := row_len h wm.1 wm.2
  exact ⟨fun x hx => row_small h wm.1 wm.2 (mem_cut hx), by have := cut_len (rowM st p.1) (some p.2.1) (some p.2.2); omega⟩
theorem stretch_len : (stretchM st w low high).length = w.length := by
  unfold stretchM
  rw [List.length_map, List.length_zip, List.length_zip, places_len, places_len]
  omega
theorem stok_stretch (h : StandOk st) (hw : WayOk st.1 w) : StOk ((stretchM st w low high).map wcM) := by
  refine stOk_by (c := 70000) (n := 100) (fun x hx => ?_) (fun x hx => ?_) (by rw [List.length_map, stretch_len]; exact hw.sz) (by decide) (by decide)
  · obtain ⟨ks, hk, rfl⟩ := List.mem_map.mp hx
    exact wc_len (isok_part h hw ks hk)
  · obtain ⟨ks, hk, rfl⟩ := List.mem_map.mp hx
    exact wc_asc ks
theorem ens_full (h : StandOk st) {k : Int} (h0 : 0 ≤ k) (h1 : k < st.1.length) : ∀ e ∈ fullM st k, EnS e := fun e he => by
  obtain ⟨a, b⟩ := (full_ful h h0 h1).mem e he
  have l1 := a.le h.tree
  have l2 := a.lt_len h1
  have l3 := h.tree.l2
  exact ⟨row_small h (by omega) l2 b, small_i (by omega) (by omega)⟩
theorem stok_full (h : StandOk st) {k : Int} (h0 : 0 ≤ k) (h1 : k < st.1.length) : StOk ((fullM st k).map entT) := by
  refine stOk_by (c := 200) (n := 300) (fun x hx => ?_) (fun x hx => ?_) (by rw [List.length_map]; exact ful_len h h0 h1 (full_ful h h0 h1)) (by decide) (by decide)
  · obtain ⟨e, he, rfl⟩ := List.mem_map.mp hx
    exact entT_len (ens_full h h0 h1 e he)
  · obtain ⟨e, he, rfl⟩ := List.mem_map.mp hx
    exact entT_asc e
theorem ksum_le {f : Int → Nat} {c : Nat} : ∀ {ks : List Int}, (∀ k ∈ ks, f k ≤ c) → 0 ≤ (ks.map fun k => (f k : Int)).sum ∧ (ks.map fun k => (f k : Int)).sum ≤ ks.length * c
  | [], _ => by simp
  | k :: ks, h => by
    obtain ⟨a, b⟩ := ksum_le (ks := ks) fun q hq => h q (List.mem_cons_of_mem _ hq)
    have := h k List.mem_cons_self
    simp only [List.map_cons, List.sum_cons, List.length_cons]
    push_cast
    rw [Int.add_mul]
    omega
theorem isok_weight (h : StandOk st) : IsOk [(weightM st).1, (weightM st).2] := by
  have hl := beneath_len h.tree
  have a := ksum_le (f := fun k => (st.2.getD k.toNat []).length) (c := 300) (ks := beneathM st.1 0) fun k hk => by
    have := beneath_mem h.tree.l1 hk
    exact row_len h this.1 this.2
  have b := ksum_le (f := fun k => (fullM st k).length) (c := 300) (ks := beneathM st.1 0) fun k hk => by
    have := beneath_mem h.tree.l1 hk
    exact ful_len h this.1 this.2 (full_ful h this.1 this.2)
  refine ⟨fun x hx => ?_, by simp⟩
  rcases List.mem_cons.mp hx with e | e
  · rw [e]; exact small_i a.1 (by have := a.2; show (weightM st).1 ≤ _; unfold weightM; simp only; omega)
  · rw [List.mem_singleton.mp e]; exact small_i b.1 (by have := b.2; show (weightM st).2 ≤ _; unfold weightM; simp only; omega)
end
end BF
set_option maxHeartbeats 5000000
namespace BF
open L2 PySem PySem.Spec PyProof.Rows
/-! ## methods that read, of any arguments -/
structure RdS (ι : Type) where
  A : ι → Pv
  Ds : ι → List Sl
  pre : ι → Prop
  R : ι → Pv
section
variable {ι : Type}
def spRd (T : Tbs) (S : RdS ι) : Sp := fun us H Q _ => ∃ (u : ι) (F : Hp), Ok T F H ∧ AllP (S.A u :: (S.Ds u).map pvOf) F H us ∧ S.pre u ∧ Ret T (S.R u) F H Q
/-- it raises -/
def spBad (T : Tbs) (S : RdS ι) (Rf : Value → Prop) : Sp := fun us H _ E => ∃ (u : ι) (F : Hp), Ok T F H ∧ AllP (S.A u :: (S.Ds u).map pvOf) F H us ∧ S.pre u ∧ ∀ cls F' H', Grow T nowhere F H F' H' → Rf cls → E cls none H'
variable {Z : Zx} {C : Addr} {m qual : Str} {st : Stmt} {N ps : List Str} {gs : List Str} {k : Nat} {vs : List Nat} {S : RdS ι}
theorem rd_sat {F H : Hp} {us : List V} {n : Nat} {u : ι} (al : AllP (S.A u :: (S.Ds u).map pvOf) F H us) (da : (S.Ds u).all isDa = true) (hl : (S.Ds u).length + 1 = ps.length) (hn : N.length = ps.length + n) : Sat nowhere F H H (.vw (S.A u) :: (S.Ds u ++ uns n)) (L2.start N us) (fun _ => []) := by
  have lu : us.length = (S.Ds u).length + 1 := by rw [al.len]; simp
  refine entry_sat (Δ := .vw (S.A u) :: S.Ds u) (by omega) (by simpa using lu.symm) fun i s e => ?_
  have hP : ((S.A u :: (S.Ds u).map pvOf))[i]? = some (pvOf s) := by
    cases i with
    | zero => simp at e; subst e; rfl
    | succ i =>
      have e : (S.Ds u)[i]? = some s := by simpa using e
      show ((S.Ds u).map pvOf)[i]? = _
      rw [List.getElem?_map, e]; rfl
  obtain ⟨v, hv, pv⟩ := allp_at al hP
  refine ⟨v, hv, ?_⟩
  cases i with
  | zero => simp at e; subst e; exact ⟨rfl, v, rfl, pv⟩
  | succ i =>
    have e : (S.Ds u)[i]? = some s := by simpa using e
    have d := List.all_eq_true.mp da s (List.mem_of_getElem? e)
    cases s with
    | da R x => exact ⟨rfl, v, rfl, pv⟩
    | un => cases d
    | mu M x => cases d
    | vw P => cases d
theorem mcal_rd (N : List Str) (vs : List Nat) (gs : List Str) (n : Nat) (d : DfM Z C m qual st) (hb : BindM m qual st ps) (S : RdS ι) (body : ∀ X, Bd Z X N (defScope st) vs vs gs k → ∀ u, S.pre u → DOs Z X (defBody st) (.vw (S.A u) :: (S.Ds u ++ uns n)) (dR (S.R u)))
    (c : dfB N ps (defScope st) vs gs = true := by decide +kernel) (da : ∀ u, (S.Ds u).all isDa = true := by intro _; rfl) (hl : ∀ u, (S.Ds u).length + 1 = ps.length := by intro _; rfl) (hn : N.length = ps.length + n := by rfl) : MCal Z C m CX0 (k + 1) (spRd Z.T S) := by
  obtain ⟨hS, nm⟩ := dfB_ok c
  refine mcal_gen d hS nm hb (fun us H Q E ⟨u, F, o, p, h, r⟩ => by rw [p.len, ← hl u]; simp) (fun us H Q ⟨u, F, o, p, h, r⟩ => ?_) fun us H Q E z => z
  exact ⟨F, _, S.R u, o, rd_sat p (da u) (hl u) hn, r, fun X B => dR_ok (body X B u h)⟩
/-- by its body: it raises -/
theorem mcal_bad (N : List Str) (vs : List Nat) (gs : List Str) (n : Nat) (Rf : Value → Prop) (d : DfM Z C m qual st) (hb : BindM m qual st ps) (S : RdS ι) (body : ∀ X, Bd Z X N (defScope st) vs vs gs k → ∀ u, S.pre u → DOs Z X (defBody st) (.vw (S.A u) :: (S.Ds u ++ uns n)) { nx := fun _ => False, ex := fun c _ => Rf c })
    (c : dfB N ps (defScope st) vs gs = true := by decide +kernel) (da : ∀ u, (S.Ds u).all isDa = true := by intro _; rfl) (hl : ∀ u, (S.Ds u).length + 1 = ps.length := by intro _; rfl) (hn : N.length = ps.length + n := by rfl) : MCalX Z C m (k + 1) (spBad Z.T S Rf) := by
  obtain ⟨hS, nm⟩ := dfB_ok c
  obtain ⟨f, fd, hm, FD⟩ := d.ex
  refine ⟨f, fd, ps, hm, FD.bindsN hb, FD.ok hS (fun us H Q E ⟨u, F, o, p, h, r⟩ => by rw [p.len, ← hl u]; simp) fun cdv A outer s H us Q E hr ⟨u, F, o, p, h, r⟩ => ?_⟩
  have B : Bd Z (cxOf (L2.CX Z.P Z.w) Z.P Z.w Z.K Z.mg Z.base N qual (defScope st) f cdv A outer s H E) N (defScope st) vs vs gs k :=
    { nm := nm, prog := rfl, w := rfl, K := rfl, mg := rfl, base := rfl, eN := rfl, eSc := rfl, calm := rfl, room := hr, st := fun _ _ _ _ => .inl rfl, po := passes_of rfl }
  have tk := takes_of (X := cxOf (L2.CX Z.P Z.w) Z.P Z.w Z.K Z.mg Z.base N qual (defScope st) f cdv A outer s H E) (E := E) rfl rfl rfl rfl
  refine ⟨_, pss_ds (Z := Z), F, H, F, nowhere, _, _, _, Grow.refl o, rd_sat p (da u) (hl u) hn, tk.imp fun c d σ' H' => ?_, body _ B u h, ⟨?_, ?_, ?_, ?_⟩⟩
  · rintro ⟨rfl, F', Γ', fts', g, S', hx⟩
    exact r c F' H' g hx
  · rintro σ' H' ⟨F', Γ', fts', g, _, q⟩
    exact q.elim
  · rintro v H' ⟨F', Γ', σ', fts', P, g, _, pv, q⟩
    exact q.elim
  · rintro σ' H' ⟨F', Γ', fts', g, _, q⟩
    exact q
  · rintro σ' H' ⟨F', Γ', fts', g, _, q⟩
    exact q
end
theorem Bd.nox {Z : Zx} {X : Cx} {N : List Str} {sc : Scope} {vs ws : List Nat} {gs : List Str} {k : Nat} (B : Bd Z X N sc vs ws gs k) : Bd Z X.nox N sc vs ws gs k := { B with po := PassesOwn.never }
section
variable {ι : Type} {Z : Zx} {X : Cx} {o e e1 e2 : Expr} {es : List Expr} {Γ : List Sl} {N : List Str} {sc : Scope} {vs ws : List Nat} {gs : List Str} {k j : Nat} {pos apos : Pos} {C : Addr} {m : Str} {S : RdS ι}
theorem ev_methR (B : Bd Z X N sc vs ws gs k) (K : Cls Z.K C) (c : MCal Z C m CX0 j (spRd Z.T S)) (u : ι) (a : EV Z X o Γ (S.A u)) (ip : InsP (S.A u) C m) (b : EA Z X (e :: es) Γ ((S.Ds u).map pvOf)) (h : S.pre u) (hj : j ≤ k := by decide)
    (he : starEach (e :: es) X.env = (false, eval e X.env) :: starEach es X.env := by rfl) (hpl : (backTo pos (starEach es X.env)).any (·.1) = false := by rfl)
    {pl : Sem Bool} (ht : eval (.Call (.Attribute o m apos) (e :: es) [] pos) X.env = (do
      let ov ← eval o X.env
      standAt apos.atName
      let (f, first) ← holding [ov] (getMethod ov m pl)
      callWith pos f first (backTo pos (starEach (e :: es) X.env)) (backToKw pos (keywordEach [] X.env))) := by rfl) : EV Z X (.Call (.Attribute o m apos) (e :: es) [] pos) Γ (S.R u) := by
  obtain ⟨f, fd, ps, hm, hb, G⟩ := c.ex
  have G2 : FnOk X.prog X.w X.K X.mg X.base CX0 j f fd ps (spRd Z.T S) := by rw [B.prog, B.w, B.K, B.mg, B.base]; exact G
  refine EV.of (pe_meth (pl := pl) (ds := []) (dvs := []) a.pe (by rw [B.K]; exact K) (by rw [B.K]; exact hm) G2 (B.room.mono hj) (by rw [B.K]; exact hb) .nil pass0 b.pa he hpl ht) fun σ F G H Wr fts Q o' S' q => ⟨F, G, Wr, fts, o', S', fun v F1 H1 g1 p1 => ?_⟩
  obtain ⟨a', dx, fs, ev, hi, hl⟩ := ip.ok F1 H1 v p1
  refine ⟨a', dx, fs, ev, hi, hl, F1, G, Wr, fts, g1.ok, S'.grow g1, fun us F2 H2 g2 p2 => ?_⟩
  show spRd Z.T S (v :: (us ++ [])) H2 Q E0
  rw [List.append_nil]
  exact ⟨u, F2, g2.ok, ⟨(S.A u).keep g2 p1, p2⟩, h, fun w F3 H3 g3 p3 => q w F3 H3 ((g1.step g2).step g3) p3⟩
/-- such a call, in a block, raises -/
theorem rz_meth {E1 : Value → Shared → Prop} {E : XK} {Rf : Value → Prop} {P : Program} {w : World} (B : Bd Z X N sc vs ws gs k) (hP : P = Z.P ∧ w = Z.w) (px : ∀ σ, PassesAt (L2.CX P w) (X.wish E1) σ E) (K : Cls Z.K C) (c : MCalX Z C m j (spBad Z.T S Rf)) (u : ι) (a : Bd Z X.nox N sc vs ws gs k → EV Z X.nox o Γ (S.A u)) (ip : InsP (S.A u) C m) (b : Bd Z X.nox N sc vs ws gs k → EA Z X.nox (e :: es) Γ ((S.Ds u).map pvOf)) (h : S.pre u) (hj : j ≤ k := by decide)
    (he : starEach (e :: es) X.env = (false, eval e X.env) :: starEach es X.env := by rfl) (hpl : (backTo pos (starEach es X.env)).any (·.1) = false := by rfl)
    {pl : Sem Bool} (ht : eval (.Call (.Attribute o m apos) (e :: es) [] pos) X.env = (do
      let ov ← eval o X.env
      standAt apos.atName
      let (f, first) ← holding [ov] (getMethod ov m pl)
      callWith pos f first (backTo pos (starEach (e :: es) X.env)) (backToKw pos (keywordEach [] X.env))) := by rfl) : PE (X.wish E1) (.Call (.Attribute o m apos) (e :: es) [] pos) (tRz Z Γ Rf E) := by
  obtain ⟨f, fd, ps, hm, hb, G⟩ := c.ex
  obtain ⟨rfl, rfl⟩ := hP
  have G2 : FnOk X.prog X.w X.K X.mg X.base (L2.CX Z.P Z.w) j f fd ps (spBad Z.T S Rf) := by rw [B.prog, B.w, B.K, B.mg, B.base]; exact G
  have ho : PE (X.wish E1) o (tE Z Γ (S.A u)) := PE.nox (X := X.wish E1) (a B.nox).pe
  have hb2 : PA (X.wish E1) (e :: es) (tA Z Γ ((S.Ds u).map pvOf)) := ⟨fun pos pins s σ H Q I hw => wpAny_mono ((b B.nox).pa.run pos pins s σ H Q (I.wish _) hw) (fun _ _ ⟨v, H', I', r, q⟩ => ⟨v, H', I'.unwish.wish _, r, q⟩) fun _ _ z => False.elim z⟩
  refine ⟨fun pins s σ H Q I ⟨F, G0, Wr, fts, o', S', q⟩ => (pe_methW (pl := pl) (X := X.wish E1) (E := fun _ => E) ho (by show Cls X.K C; rw [B.K]; exact K) (by show Meth X.K C m f; rw [B.K]; exact hm) G2 (show Room j X.A from B.room.mono hj) (by show Binds X.K fd ps []; rw [B.K]; exact hb) px hb2 he hpl ht).run pins s σ H Q I ⟨F, G0, Wr, fts, o', S', fun v F1 H1 g1 p1 => ?_⟩⟩
  obtain ⟨a', dx, fs, ev, hi, hl⟩ := ip.ok F1 H1 v p1
  refine ⟨a', dx, fs, ev, hi, hl, F1, G0, Wr, fts, g1.ok, S'.grow g1, fun us F2 H2 g2 p2 => ?_⟩
  exact ⟨u, F2, g2.ok, ⟨(S.A u).keep g2 p1, p2⟩, h, fun cls F3 H3 g3 hr => q cls F3 H3 ((g1.step g2).step g3) hr⟩
end
end BF
set_option maxHeartbeats 5000000
namespace BF
open L2 PySem PySem.Spec PyProof.Rows
/-! ## the desk's parts -/
def ThingOk (st : Sh) (kind : Str) (n : Int) : Prop := Small n ∧ (if kind = "k" then is_keyM n = true else KnotOk st.tree n)
def wayA (sd : Sd) (word : Str) (key : Int) (way : List Int) : Str := if word = "find" then wbI (placesM sd way key) "none" else if word = "has" then wbI (who_hasM sd way key) "none" else if word = "above" then eoN (aboveM sd way key) else eoN (belowM sd way key)
theorem shz_of {sd : Sd} (h : StandOk sd) : ShZ (shOf sd) := ⟨by have := h.tree.l2; show sd.1.length ≤ _; omega, by have := h.tree.l2; have := h.len; show sd.2.length ≤ _; omega⟩
abbrev S_thing (C CD : Addr) : RdS (Sh × Str × Int) := { A := fun u => pDk CD C u.1, Ds := fun u => [.da rStr u.2.1, .da rSI u.2.2], pre := fun u => ShZ u.1 ∧ ThingOk u.1 u.2.1 u.2.2, R := fun u => pd rInt u.2.2 }
abbrev S_thingB (C CD : Addr) : RdS (Sh × Str × Int) := { A := fun u => pDk CD C u.1, Ds := fun u => [.da rStr u.2.1, .da rSI u.2.2], pre := fun u => ShZ u.1 ∧ Small u.2.2 ∧ u.2.1 ≠ "k" ∧ ¬ KnotOk u.1.tree u.2.2, R := fun u => pd rInt u.2.2 }
abbrev S_way (C CD : Addr) : RdS (Sd × Str × Int × List Int) := { A := fun u => pDk CD C (shOf u.1), Ds := fun u => [.da rStr u.2.1, .da rInt u.2.2.1, .da (rLst rInt) u.2.2.2], pre := fun u => StandOk u.1 ∧ WayOk u.1.1 u.2.2.2, R := fun u => pd rStr (wayA u.1 u.2.1 u.2.2.1 u.2.2.2) }
abbrev S_btw (C CD : Addr) : RdS (Sd × Int × Int × List Int) := { A := fun u => pDk CD C (shOf u.1), Ds := fun u => [.da rInt u.2.1, .da rInt u.2.2.1, .da (rLst rInt) u.2.2.2], pre := fun u => StandOk u.1 ∧ WayOk u.1.1 u.2.2.2, R := fun u => pd rStr (wbS ((stretchM u.1 u.2.2.2 u.2.1 u.2.2.1).map wcM) "none") }
section
variable {Z : Zx} {C CD CB : Addr}
theorem c_Desk_thing (E : Top Z) (D : Ds Z) (K : Kl Z C CD) : MCal Z CD "thing_of" CX0 3 (spRd Z.T (S_thing C CD)) :=
  mcal_rd (ps := ["self", "kind", "word"]) ["self", "kind", "word", "number"] [0, 1, 2, 3] ["number_read", "is_key", "len", "NoKey", "NoKnot"] 1 K.thing_of (fun _ _ _ _ _ _ us hl => match us, hl with | [_, _, _], _ => rfl) (S_thing C CD) fun X B u hu => by
    obtain ⟨st, kind, n⟩ := u
    obtain ⟨hz, hs, ht⟩ := hu
    have hz : ShZ st := hz
    have hs : Small n := hs
    have ht : if kind = "k" then is_keyM n = true else KnotOk st.tree n := ht
    refine dos_cons (do_set B 3 (ev_call1 B (c_number_read E D) (ev_var B 2) hs) ?_)
    refine dos_cons (do_if (et_cmp (ev_var B 1) ev_str (od_eq sc_str)) (fun h1 => ?_) (fun h1 => ?_))
    · have h1 : kind = "k" := of_decide_eq_true h1
      rw [if_pos h1] at ht
      refine dos_one (do_if (et_not (et_val (ev_call1 B (c_is_key E D) ((ev_var B 3).so rfl) trivial))) (fun h => ?_) (fun _ => dos_nil ?_))
      · rw [ht] at h; cases h
      exact dos_one (do_ret ((ev_var B 3).so rfl) (rt_eq rfl))
    · have h1 : kind ≠ "k" := of_decide_eq_false h1
      rw [if_neg h1] at ht
      refine dos_one (do_if (et_or2 (et_cmp (ev_var B 3) ev_non od_isN) fun _ => et_not (et_chain ev_int ((ev_var B 3).so rfl) (ev_lenT B E (ev_fst (ev_meth0 B K.sh.c (c_Shelf_stand E K) (ev_shelf B K.dk (ev_vw B 0)) (ins_sh (by decide)) hz)).t) od_le od_lt)) (fun h => ?_) (fun _ => dos_nil ?_))
      · exfalso
        have h : ((some n : Option Int).isNone || !(decide (0 ≤ n) && decide (n < (st.tree.length : Int)))) = true := h
        rw [decide_eq_true ht.1, decide_eq_true ht.2] at h
        cases h
      exact dos_one (do_ret ((ev_var B 3).so rfl) (rt_eq rfl))
theorem c_Desk_thingB (E : Top Z) (D : Ds Z) (K : Kl Z C CD) (XX : XKs Z CB) : MCalX Z CD "thing_of" 3 (spBad Z.T (S_thingB C CD) (Ref Z CB)) :=
  mcal_bad (ps := ["self", "kind", "word"]) ["self", "kind", "word", "number"] [0, 1, 2, 3] ["number_read", "is_key", "len", "NoKey", "NoKnot"] 1 (Ref Z CB) K.thing_of (fun _ _ _ _ _ _ us hl => match us, hl with | [_, _, _], _ => rfl) (S_thingB C CD) fun X B u hu => by
    obtain ⟨st, kind, n⟩ := u
    obtain ⟨hz, hs, hk, ht⟩ := hu
    have hz : ShZ st := hz
    have hs : Small n := hs
    have hk : kind ≠ "k" := hk
    have ht : ¬ KnotOk st.tree n := ht
    obtain ⟨CN, xc⟩ := XX.noKnot
    refine dos_cons (do_set B 3 (ev_call1 B (c_number_read E D) (ev_var B 2) hs) ?_)
    refine dos_cons (do_if (et_cmp (ev_var B 1) ev_str (od_eq sc_str)) (fun h1 => ?_) (fun h1 => ?_))
    · exact absurd (of_decide_eq_true h1) hk
    · refine dos_one (do_if (et_or2 (et_cmp (ev_var B 3) ev_non od_isN) fun _ => et_not (et_chain ev_int ((ev_var B 3).so rfl) (ev_lenT B E (ev_fst (ev_meth0 B K.sh.c (c_Shelf_stand E K) (ev_shelf B K.dk (ev_vw B 0)) (ins_sh (by decide)) hz)).t) od_le od_lt)) (fun h => ?_) (fun h => ?_))
      · exact dos_one (do_raise B xc xc.one)
      · exfalso
        have h : ((some n : Option Int).isNone || !(decide (0 ≤ n) && decide (n < (st.tree.length : Int)))) = false := h
        simp only [Option.isNone_some, Bool.false_or, Bool.not_eq_false', Bool.and_eq_true, decide_eq_true_eq] at h
        exact ht h
theorem c_Desk_way (E : Top Z) (D : Ds Z) (L : LamK Z) (K : Kl Z C CD) : MCal Z CD "way_row" CX0 12 (spRd Z.T (S_way C CD)) :=
  mcal_rd (ps := ["self", "word", "key", "way"]) ["self", "word", "key", "way", "stand"] [0, 1, 2, 3, 4] ["with_blanks", "places", "who_has", "entry_or_none", "above", "below"] 1 K.way_row (fun _ _ _ _ _ _ us hl => match us, hl with | [_, _, _, _], _ => rfl) (S_way C CD) fun X B u hu => by
    obtain ⟨sd, word, key, way⟩ := u
    obtain ⟨hs, hw⟩ := hu
    have hs : StandOk sd := hs
    have hw : WayOk sd.1 way := hw
    have hf := fr_ok hs
    refine dos_cons (do_set B 4 (R := rSd) (x := sd) (ev_meth0 B K.sh.c (c_Shelf_stand E K) (ev_shelf B K.dk (ev_vw B 0)) (ins_sh (by decide)) (shz_of hs)) ?_)
    refine dos_cons (do_if (et_cmp (ev_var B 1) ev_str (od_eq sc_str)) (fun h => ?_) (fun h1 => dos_nil ?_))
    · have h : word = "find" := of_decide_eq_true h
      exact dos_one (do_ret (ev_call1 B (c_with_blanksI E D) (ev_call3 B (c_places E D L) (ev_var B 4) (ev_var B 3) (ev_var B 2) ⟨hf, hw⟩) (isok_places hs hw)) (rt_eq (by show _ = wayA sd word key way; unfold wayA; rw [if_pos h])))
    have h1 : word ≠ "find" := of_decide_eq_false h1
    refine dos_cons (do_if (et_cmp (ev_var B 1) ev_str (od_eq sc_str)) (fun h => ?_) (fun h2 => dos_nil ?_))
    · have h : word = "has" := of_decide_eq_true h
      exact dos_one (do_ret (ev_call1 B (c_with_blanksI E D) (ev_call3 B (c_who_has E D L) (ev_var B 4) (ev_var B 3) (ev_var B 2) ⟨hf, hw⟩) (isok_has hs hw)) (rt_eq (by show _ = wayA sd word key way; unfold wayA; rw [if_neg h1, if_pos h])))
    have h2 : word ≠ "has" := of_decide_eq_false h2
    refine dos_cons (do_if (et_cmp (ev_var B 1) ev_str (od_eq sc_str)) (fun h => ?_) (fun h3 => dos_nil ?_))
    · have h : word = "above" := of_decide_eq_true h
      exact dos_one (do_ret (ev_call1 B (c_entry_or_none E D) (ev_call3 B (c_above E D L) (ev_var B 4) (ev_var B 3) (ev_var B 2) ⟨hf, hw⟩) (ens_above hs hw)) (rt_eq (by show _ = wayA sd word key way; unfold wayA; rw [if_neg h1, if_neg h2, if_pos h])))
    have h3 : word ≠ "above" := of_decide_eq_false h3
    exact dos_one (do_ret (ev_call1 B (c_entry_or_none E D) (ev_call3 B (c_below E D L) (ev_var B 4) (ev_var B 3) (ev_var B 2) ⟨hf, hw⟩) (ens_below hs hw)) (rt_eq (by show _ = wayA sd word key way; unfold wayA; rw [if_neg h1, if_neg h2, if_neg h3])))
theorem c_Desk_between (E : Top Z) (D : Ds Z) (L : LamK Z) (K : Kl Z C CD) : MCal Z CD "between_row" CX0 11 (spRd Z.T (S_btw C CD)) :=
  mcal_rd (ps := ["self", "low", "high", "way"]) ["self", "low", "high", "way", "keys"] [0, 1, 2, 3] ["with_blanks", "stretch"] 1 K.between_row (fun _ _ _ _ _ _ us hl => match us, hl with | [_, _, _, _], _ => rfl) (S_btw C CD) fun X B u hu => by
    obtain ⟨sd, low, high, way⟩ := u
    obtain ⟨hs, hw⟩ := hu
    have hs : StandOk sd := hs
    have hw : WayOk sd.1 way := hw
    have hf := fr_ok hs
    have hz := hw.sz
    have sl := stretch_len (st := sd) (w := way) (low := low) (high := high)
    exact dos_one (do_ret (ev_call1 B (c_with_blanksS E D) (ev_lc (f := wcM) B [("keys", 4)] [4] ["with_commas"] (gi_l (ev_call4 B (c_stretch E D L) (ev_meth0 B K.sh.c (c_Shelf_stand E K) (ev_shelf B K.dk (ev_vw B 0)) (ins_sh (by decide)) (shz_of hs)) (ev_var B 3) (ev_var B 1) (ev_var B 2) (show FrOk sd ∧ WayOk sd.1 way from ⟨hf, hw⟩))) (show (stretchM sd way low high).length ≤ 1000000 by omega) (fun X' B' => (ga_name B' 4)) (fun X' B' x hx => (ev_call1 B' (c_with_commas E D) (ev_var B' 4) (isok_part hs hw x hx)))) (stok_stretch hs hw)) (rt_eq rfl))
end
end BF
set_option maxHeartbeats 5000000
namespace BF
open L2 PySem PySem.Spec PyProof.Rows
/-! ## more with effects -/
section
variable {Z : Zx} {X : Cx} {e e1 e2 : Expr} {es : List Expr} {Γ : List Sl} {P S : Pv} {N : List Str} {sc : Scope} {vs ws : List Nat} {gs : List Str} {k j i : Nat} {pos p : Pos} {α β γ : Type} {R : Rp α} {R1 : Rp β} {ψ : XC}
theorem ee_strI {φ : Int → List Sl → Prop} (B : Bd Z X N sc vs ws gs k) (E : Top Z) (a : EE Z X e Γ rInt φ ψ) (h : ∀ i Γ', φ i Γ' → i.natAbs.log2 < 1920) (hg : ("str" : Str) ∈ gs := by decide +kernel) (he : starEach (e :: []) X.env = (false, eval e X.env) :: starEach [] X.env := by rfl) : EE Z X (.Call (.Name "str" p) [e] [] pos) Γ rStr (fun z Γ' => ∃ i, φ i Γ' ∧ z = sI i) ψ :=
  EE.of (pe_callTy call_str_int (B.gx hg) (by rw [B.mg]; exact E.f "str") (by decide +kernel) (pa_cons pe_ee pa_nil he) (by decide +kernel) (by decide +kernel) he rfl) fun σ F0 G F H Wr fts Q g Sa tk q =>
    ⟨_, rInt, φ, ψ, Γ, F0, G, F, Wr, fts, a, g, Sa, tk, fun v F1 H1 ft1 Γ1 x g1 s1 S1 r1 h1 => ⟨x, by rw [show v = V.int x from r1], h x Γ1 h1, q _ F1 H1 ft1 Γ1 (sI x) g1 s1 S1 rfl ⟨x, h1, rfl⟩⟩⟩
/-- f(..) of what comes with an effect, f changing nothing -/
theorem ee_cal1 {x : Str} {A : Rp α} {pre : α → Prop} {f : α → β} {φ : α → List Sl → Prop} (B : Bd Z X N sc vs ws gs k) (c : Cal Z x j (sp1 Z.T (pd A) pre (fun u => pd R1 (f u)))) (a : EE Z X e Γ A φ ψ) (h : ∀ u Γ', φ u Γ' → pre u) (hj : j ≤ k := by decide) (hg : x ∈ gs := by decide +kernel)
    (he : starEach (e :: []) X.env = (false, eval e X.env) :: starEach [] X.env := by rfl) (hpl : (backTo pos (starEach [] X.env)).any (·.1) = false := by rfl) : EE Z X (.Call (.Name x p) [e] [] pos) Γ R1 (fun z Γ' => ∃ u, φ u Γ' ∧ z = f u) ψ := by
  obtain ⟨f0, fd, ps, hm, hk, hb, G0⟩ := c.ex
  obtain ⟨d1, d2, d3⟩ := plainName_ok (B.nm.pg x hg)
  have G2 : FnOk X.prog X.w X.K X.mg X.base CX0 j f0 fd ps (sp1 Z.T (pd A) pre (fun u => pd R1 (f u))) := by rw [B.prog, B.w, B.K, B.mg, B.base]; exact G0
  exact EE.of (pe_call (ds := []) (dvs := []) G2 (B.room.mono hj) (B.gx hg) (by rw [B.mg]; exact hm) (by rw [B.K]; exact hk) (by rw [B.K]; exact hb) .nil pass0 (pa_cons pe_ee pa_nil he) d1 he hpl) fun σ F0 G F H Wr fts Q g Sa tk q =>
    ⟨_, A, φ, ψ, Γ, F0, G, F, Wr, fts, a, g, Sa, tk, fun v F1 H1 ft1 Γ1 u g1 s1 S1 r1 h1 => ⟨u, F1, g1.ok, ⟨r1, trivial⟩, h u Γ1 h1, fun w F2 H2 g2 p2 => q w F2 H2 ft1 Γ1 (f u) (g1.step g2) (s1.trans g2.ef) (S1.grow g2) p2 ⟨u, h1, rfl⟩⟩⟩
/-- a text in texts -/
theorem od_inTS (B : Bd Z X N sc vs ws gs k) {x : Str} {xs : List Str} : OD Z X (compareOp .In) (pd rStr x) (pt rStr xs) (pd rBool (decide (x ∈ xs))) :=
  .v op_in_seq fun F H v w o hv hw Q q => by
    obtain ⟨a, us, e, hl, r⟩ := hw
    rw [RL.map_str] at r
    subst r
    obtain rfl : v = V.str x := hv
    have fl : (xs.map V.str).all flatV = true := by
      rw [List.all_eq_true]
      intro z hz
      obtain ⟨i, _, rfl⟩ := List.mem_map.mp hz
      rfl
    have iv : inV (.str x) (xs.map V.str) = decide (x ∈ xs) := by
      unfold inV
      rw [Bool.eq_iff_iff, List.any_eq_true, decide_eq_true_iff]
      constructor
      · rintro ⟨z, hz, ez⟩
        obtain ⟨i, hi, rfl⟩ := List.mem_map.mp hz
        have : i = x := by simpa [eqV] using ez
        exact this ▸ hi
      · intro hx
        exact ⟨_, List.mem_map.mpr ⟨x, hx, rfl⟩, by simp [eqV]⟩
    exact ⟨a, _, e, .inr (SqT.of hl), rfl, fl, by rw [if_neg (by decide), iv]; exact q _ F H (Grow.refl o) rfl⟩
end
/-! ## the desk and its shelf -/
theorem pin_dk {CD C : Addr} {d : DsA} : Pin (mDk CD C d) d.a d.ft := ⟨fun r => ⟨r.1, r.2.1⟩, rfl⟩
theorem part_dk {CD C : Addr} {d : DsA} {st : Sh} : Part (mDk CD C d) st (mSh C d.s) st d.s.a d.s.ft (fun y => y) := ⟨fun {F H ft v} r => by
  obtain ⟨rfl, rfl, x⟩ := r
  refine ⟨⟨rfl, rfl, x.sh⟩, fun b hb => List.mem_cons_of_mem _ hb, fun y F' H' e k r' => ⟨rfl, rfl, ?_⟩⟩
  obtain ⟨fs, h1, h2⟩ := x.ob
  exact ⟨⟨fs, by rw [k d.a List.mem_cons_self x.nd]; exact h1, h2⟩, r'.2.2, x.nd⟩⟩
section
variable {Z : Zx} {X : Cx} {e : Expr} {Γ : List Sl} {N : List Str} {sc : Scope} {vs ws : List Nat} {gs : List Str} {k : Nat} {pos p : Pos}
/-- self.shelf, of a desk in a slot -/
theorem ev_shelfR (B : Bd Z X N sc vs ws gs k) (i : Nat) {n : Str} {CD C : Addr} {d : DsA} {st : Sh} (K : ClsOk Z.K CD ["shelf"]) (hi : N[i]? = some n := by rfl) (hv : i ∈ vs := by decide) (hΓ : Γ[i]? = some (.mu (mDk CD C d) st) := by rfl) (hb : attributeBase (.Name n p) "shelf" X.env (eval (.Name n p) X.env) = eval (.Name n p) X.env := by rfl) : EV Z X (.Attribute (.Name n p) "shelf" pos) Γ (pRef d.s.a) := by
  obtain ⟨d1, d2, _⟩ := plainName_ok (B.nm.pn i hv n hi)
  exact EV.of (pe_fld (pe_var (i := i) (by rw [B.eN]; exact hi) (by rw [B.eSc]; exact B.nm.vis i hv n hi) d1 d2) hb) fun σ F G H Wr fts Q o S q => by
    obtain ⟨v, ev, ⟨rfl, ef, x⟩, mk⟩ := S.mu hΓ
    obtain ⟨fs, h1, h2, h3, h4⟩ := x.ob
    exact ⟨_, ev, d.a, CD, d.dx, fs, .ref d.s.a, rfl, h1, by rw [B.K]; exact K.c, by rw [B.K]; exact K.na _ (by simp), h3, q _ F H (Grow.refl o) rfl⟩
end
/-! ## deeds -/
inductive Deed
  | put (d key : Int)
  | out (d key : Int)
  | hang (d : Int)
def Deed.ok (sd : Sd) : Deed → Prop
  | .put d key => putOk sd d key
  | .out d key => outOk sd d key
  | .hang d => hangOk sd d
def Deed.next (sd : Sd) : Deed → Sd
  | .put d key => putS sd d key
  | .out d key => outS sd d key
  | .hang d => hangS sd d
def Deed.ans (sd : Sd) : Deed → Str
  | .put d key => countM (toldF sd (putS sd d key) 100 (some d) [] [(key, d)])
  | .out d key => countM (toldF sd (outS sd d key) 100 (some d) [(key, d)] [])
  | .hang _ => sI (sd.1.length : Int)
def Deed.word : Deed → Str
  | .put _ _ => "put"
  | .out _ _ => "out"
  | .hang _ => "hang"
def Deed.knot : Deed → Int
  | .put d _ => d
  | .out d _ => d
  | .hang d => d
def Deed.nums : Deed → List Int
  | .put d key => [d, key]
  | .out d key => [d, key]
  | .hang d => [d]
def Deed.keyOk : Deed → Prop
  | .put _ key => is_keyM key = true
  | .out _ key => is_keyM key = true
  | .hang _ => True
def pOf (b : Bool) (d key : Int) : Deed := if b = true then .put d key else .out d key
theorem deed_next (sd : Sd) (h : StandOk sd) : ∀ (dd : Deed), dd.keyOk → dd.ok sd → StandOk (dd.next sd)
  | .put d key, hk, ho => (but_put h ho.1.1 ho.1.2 hk ho.2.1 ho.2.2).ok'
  | .out d key, hk, ho => (but_out h ho.1.1 ho.1.2).ok'
  | .hang d, _, ho => hang_ok h ho.1.1 ho.1.2 ho.2
abbrev S_drow (Z : Zx) (C CD CB : Addr) : EfS (DsA × Sd × Bool × Int × Int) Str Sh := { M := fun u => mDk CD C u.1, a := fun u => u.1.a, L := fun u => u.1.ft, x := fun u => shOf u.2.1, Ds := fun u => [.da rStr (if u.2.2.1 = true then "put" else "out"), .da rInt u.2.2.2.1, .da rInt u.2.2.2.2], pre := fun u => StandOk u.2.1 ∧ is_keyM u.2.2.2.2 = true, R := rStr, rt := fun u z y => (pOf u.2.2.1 u.2.2.2.1 u.2.2.2.2).ok u.2.1 ∧ y = shOf ((pOf u.2.2.1 u.2.2.2.1 u.2.2.2.2).next u.2.1) ∧ z = (pOf u.2.2.1 u.2.2.2.1 u.2.2.2.2).ans u.2.1, ex := fun u c y => y = shOf u.2.1 ∧ Ref Z CB c ∧ ¬ (pOf u.2.2.1 u.2.2.2.1 u.2.2.2.2).ok u.2.1 }
section
variable {Z : Zx} {C CD CB : Addr}
theorem ins_dkM {CD C : Addr} {d : DsA} {st : Sh} {m : Str} (h : m ≠ "shelf") (F H : Hp) (r : (mDk CD C d).rel st F H d.ft (.ref d.a)) : ∃ dx fs, H d.a = some (.ins CD dx fs) ∧ fs.lookup m = none := by
  obtain ⟨fs, h1, h2, h3, h4⟩ := r.2.2.ob
  exact ⟨_, fs, h1, h4 m h⟩
theorem told_put {sd : Sd} {d key : Int} (h : StandOk sd) (hk : is_keyM key = true) (ho : putOk sd d key) : ToldOk (toldF sd (putS sd d key) 100 (some d) [] [(key, d)]) :=
  told_ok (but_put h ho.1.1 ho.1.2 hk ho.2.1 ho.2.2) (by decide) (chi_put h ho.1.1 ho.1.2 hk ho.2.1 ho.2.2)
theorem told_out {sd : Sd} {d key : Int} (h : StandOk sd) (ho : outOk sd d key) : ToldOk (toldF sd (outS sd d key) 100 (some d) [(key, d)] []) :=
  told_ok (but_out h ho.1.1 ho.1.2) (by decide) (chi_out h ho.1.1 ho.1.2)
theorem c_Desk_deed (E : Top Z) (D : Ds Z) (K : Kl Z C CD) (XX : XKs Z CB) : MCalX Z CD "deed_row" 8 (spEf Z.T (S_drow Z C CD CB)) :=
  mcalx_eff (ps := ["self", "word", "knot", "key"]) ["self", "word", "knot", "key", "found", "gone", "one", "left", "come"] [0, 1, 2, 3, 4, 5] ["sum", "str"] 5 K.deed_row (fun _ _ _ _ _ _ us hl => match us, hl with | [_, _, _, _], _ => rfl) (S_drow Z C CD CB) (fun X B u hu => by
    obtain ⟨d, sd, b, kn, key⟩ := u
    obtain ⟨hs, hk⟩ := hu
    have hs : StandOk sd := hs
    have hk : is_keyM key = true := hk
    have fin : ∀ (t : Told) (y : Sh) (Γ : List Sl), ToldOk t → (pOf b kn key).ok sd → y = shOf ((pOf b kn key).next sd) → countM t = (pOf b kn key).ans sd → Γ = [.mu (mDk CD C d) y, .da rStr (if b = true then "put" else "out"), .da rInt kn, .da rInt key, .da rTold t, .un, .un, .un, .un] → DOs Z X ((defBody s_Desk_deed_row).drop 1) Γ (dE (S_drow Z C CD CB) (d, sd, b, kn, key)) := fun t y Γ ht ho hy ha hΓ => by
      subst hΓ
      have hz := ht.sz
      have a := sI_len ht.g
      have b2 := sI_len ht.c
      have c : (" " : Str).length = 1 := by decide
      refine dos_cons (do_set B 5 (ev_sum B E ((ev_lc (f := fun (q : Int × List En × List En) => (q.2.1.length : Int)) B [("one", 6), ("left", 7), ("come", 8)] [6, 7, 8] ["len"] (gi_l (ev_var B 4)) (by omega) (fun X' B' => (ga_t3 B' (ga_name B' 6) (ga_name B' 7) (ga_name B' 8))) (fun X' B' x hx => (ev_lenL B' E ((ev_var B' 7)).l)))).l) ?_)
      refine dos_one (do_ret (ev_bin (ev_bin (ev_strI B E (ev_var B 5) (strlen ht.g)) ev_str (od_adds (sz_le (by omega)))) (ev_strI B E (ev_sum B E ((ev_lc (f := fun (q : Int × List En × List En) => (q.2.2.length : Int)) B [("one", 6), ("left", 7), ("come", 8)] [6, 7, 8] ["len"] (gi_l (ev_var B 4)) (by omega) (fun X' B' => (ga_t3 B' (ga_name B' 6) (ga_name B' 7) (ga_name B' 8))) (fun X' B' x hx => (ev_lenL B' E ((ev_var B' 8)).l)))).l) (strlen ht.c)) (od_adds (sz_le (by rw [len_app]; unfold comeN at b2; omega)))) ?_)
      exact ⟨countM t, y, rfl, ⟨ho, hy, ha⟩, fun G T F H v o p => p⟩
    refine dos_cons (do_if (et_cmp (ev_var B 1) ev_str (od_eq sc_str)) (fun h => ?_) (fun h => ?_))
    · have h : (if b = true then ("put" : Str) else "out") = "put" := of_decide_eq_true h
      have hb : b = true := by
        cases b with
        | true => rfl
        | false => exact absurd h (by decide +kernel)
      subst hb
      refine dos_one (do_setE B 4 ((ee_methM (S := S_put Z C CB) B K.sh.c (c_Shelf_put E D K XX) 0 (d.s, sd, kn, key) (fun y => y) (ev_shelfR B 0 K.dk) (ea2 (ev_var B 2) (ev_var B 3)) rfl part_dk (ins_shM (by decide)) ⟨hs, hk⟩).ex fun c Γ' ⟨w, hx, e⟩ => ?_) fun z Γ' ⟨w, hx, e⟩ => ?_)
      · subst e
        exact ⟨w, rfl, hx⟩
      · subst e
        obtain ⟨ho, rfl, rfl⟩ := hx
        exact fin _ _ _ (told_put hs hk ho) ho rfl rfl rfl
    · have h : (if b = true then ("put" : Str) else "out") ≠ "put" := of_decide_eq_false h
      have hb : b = false := by
        cases b with
        | true => exact absurd rfl h
        | false => rfl
      subst hb
      refine dos_one (do_setE B 4 ((ee_methM (S := S_out Z C CB) B K.sh.c (c_Shelf_out E D K XX) 0 (d.s, sd, kn, key) (fun y => y) (ev_shelfR B 0 K.dk) (ea2 (ev_var B 2) (ev_var B 3)) rfl part_dk (ins_shM (by decide)) ⟨hs, hk⟩).ex fun c Γ' ⟨w, hx, e⟩ => ?_) fun z Γ' ⟨w, hx, e⟩ => ?_)
      · subst e
        exact ⟨w, rfl, hx⟩
      · subst e
        obtain ⟨ho, rfl, rfl⟩ := hx
        exact fin _ _ _ (told_out hs ho) ho rfl rfl rfl) fun u => pin_dk
end
end BF
set_option maxHeartbeats 5000000
namespace BF
open L2 PySem PySem.Spec PyProof.Rows
/-! ## rows told to a desk -/
def rowW (w : Str) (ns : List Int) : List Str := w :: ns.map sI
def rowT (w : Str) (ns : List Int) : Str := Txt.join " " (rowW w ns)
/-- a row's word and numbers are written well -/
structure WrOk (w : Str) (ns : List Int) : Prop where
  w1 : 32 ∉ sg w
  w2 : w.length ≤ 10
  sm : ∀ n ∈ ns, Small n
  sz : ns.length ≤ 302
theorem row_split {w : Str} {ns : List Int} (h : WrOk w ns) : Txt.split (rowT w ns) " " = rowW w ns := split_sp (by unfold rowW; simp) fun x hx => by
  rcases List.mem_cons.mp hx with e | e
  · rw [e]; exact h.w1
  · obtain ⟨n, _, rfl⟩ := List.mem_map.mp e
    exact sI_free (by decide) n
theorem row_sz {w : Str} {ns : List Int} (h : WrOk w ns) : (rowT w ns).length ≤ 20000 := by
  have a := join_len " " (rowW w ns)
  have b := sum_le_mul (f := fun x : Str => x.length) (c := 61) (ys := rowW w ns) fun x hx => by
    rcases List.mem_cons.mp hx with e | e
    · rw [e]; have := h.w2; omega
    · obtain ⟨n, hn, rfl⟩ := List.mem_map.mp e
      exact sI_len (h.sm n hn)
  have c : (rowW w ns).length ≤ 303 := by
    unfold rowW
    have := h.sz
    simp only [List.length_cons, List.length_map]
    omega
  have d : (" " : Str).length = 1 := by decide
  rw [d] at a
  have e : (rowW w ns).length * 61 ≤ 303 * 61 := Nat.mul_le_mul_right _ c
  unfold rowT
  omega
theorem kinds_of {w s : Str} {r : List Str} (h : shapesL.lookup w = some s) : kindsM (w :: r) = shapeM s r.length := by
  show (match shapesL.lookup w with | some s => shapeM s r.length | none => "") = _
  rw [h]
theorem shape_plain {s : Str} {n : Nat} (h : cutS s (some (-1)) none ≠ "w") : shapeM s n = s := by
  unfold shapeM
  rw [if_neg h]
theorem signs_len (x : Str) : (signs x).length = x.length := by unfold signs; rw [List.length_map, Array.length_toList]; rfl
theorem row_zip {w : Str} {ns : List Int} (h : RowW (rowW w ns)) : ((signs (kindsM (rowW w ns))).zip ns).map (fun p : Str × Int => p.2) = ns := by
  refine List.map_snd_zip ?_
  have a := h.fit
  unfold rowW at a
  rw [signs_len]
  simp only [List.length_cons, List.length_map] at a
  unfold rowW
  omega
/-- a thing that is told to be a desk -/
def SelfOk (Z : Zx) (CD C : Addr) (st : Sh) (s0 : Sl) : Prop := ∀ {X : Cx} {N : List Str} {sc : Scope} {vs ws : List Nat} {gs : List Str} {k : Nat} {n : Str} {Γ : List Sl} {pos : Pos}, Bd Z X N sc vs ws gs k → N[0]? = some n → 0 ∈ vs → Γ[0]? = some s0 → EV Z X (.Name n pos) Γ (pDk CD C st)
theorem self_vw {Z : Zx} {CD C : Addr} {st : Sh} : SelfOk Z CD C st (.vw (pDk CD C st)) := fun B hi hv hΓ => ev_vw B 0 hi hv hΓ
theorem self_mu {Z : Zx} {CD C : Addr} {d : DsA} {st : Sh} : SelfOk Z CD C st (.mu (mDk CD C d) st) := fun B hi hv hΓ => ev_dkv B 0 hi hv hΓ
abbrev sayN : List Str := ["self", "row", "words", "things", "kind", "word", "entry"]
abbrev sayG : List Str := ["isinstance", "str", "zip", "shape_of", "show_stand", "with_blanks", "weight"]
section
variable {Z : Zx} {C CD CB : Addr} {X : Cx} {k : Nat} {D1 : Fin} {s0 : Sl} {w : Str} {ns : List Int}
abbrev sayΓ (s0 : Sl) (w : Str) (ns : List Int) : List Sl := [s0, .da rStr (rowT w ns), .da (rLst rStr) (rowW w ns), .da (rLst rInt) ns, .un, .un, .un]
theorem say_skip (B : Bd Z X sayN (defScope s_Desk_say) [0, 1, 2, 3] [0, 1, 2, 3] sayG k) {lit : Str} {j : Nat} {p1 p2 p3 p4 p5 pos : Pos} {body rest : List Stmt} (hne : w ≠ lit) (h : DOs Z X rest (sayΓ s0 w ns) D1) : DOs Z X (.If (.Compare (.Subscript (.Name "words" p1) (.Constant (.int 0) 0 p2) p3) [.Eq] [.Constant (.str lit) j p4] p5) body [] pos :: rest) (sayΓ s0 w ns) D1 :=
  dos_cons (do_if (et_cmp (ev_ixL (x := w) (ev_var B 2).l ev_int (by decide) rfl) ev_str (od_eq sc_str)) (fun z => absurd (of_decide_eq_true z) hne) fun _ => dos_nil h)
theorem say_take (B : Bd Z X sayN (defScope s_Desk_say) [0, 1, 2, 3] [0, 1, 2, 3] sayG k) {lit : Str} {j : Nat} {p1 p2 p3 p4 p5 pos : Pos} {st : Stmt} {rest : List Stmt} (he : w = lit) (h : DO Z X st (sayΓ s0 w ns) { D1 with nx := fun _ => False }) : DOs Z X (.If (.Compare (.Subscript (.Name "words" p1) (.Constant (.int 0) 0 p2) p3) [.Eq] [.Constant (.str lit) j p4] p5) [st] [] pos :: rest) (sayΓ s0 w ns) D1 :=
  dos_cons (do_if (et_cmp (ev_ixL (x := w) (ev_var B 2).l ev_int (by decide) rfl) ev_str (od_eq sc_str)) (fun _ => dos_one (DO.mono (D := { D1 with nx := _ }) h fun _ z => z.elim)) fun z => absurd he (of_decide_eq_false z))
theorem say_in (B : Bd Z X sayN (defScope s_Desk_say) [0, 1, 2, 3] [0, 1, 2, 3] sayG k) {l1 l2 : Str} {j1 j2 kk : Nat} {p1 p2 p3 p4 p5 p6 p7 pos : Pos} {st : Stmt} {rest : List Stmt} (he : w = l1 ∨ w = l2) (h : DO Z X st (sayΓ s0 w ns) { D1 with nx := fun _ => False }) : DOs Z X (.If (.Compare (.Subscript (.Name "words" p1) (.Constant (.int 0) 0 p2) p3) [.In] [.Tuple [.Constant (.str l1) j1 p4, .Constant (.str l2) j2 p5] kk p6] p7) [st] [] pos :: rest) (sayΓ s0 w ns) D1 :=
  dos_cons (do_if (et_cmp (ev_ixL (x := w) (ev_var B 2).l ev_int (by decide) rfl) (ev_tup (.cons ev_str (.cons ev_str .nil))).t (od_inTS B)) (fun _ => dos_one (DO.mono (D := { D1 with nx := _ }) h fun _ z => z.elim)) fun z => absurd (of_decide_eq_false z) (fun n => n (by simpa using he)))
theorem say_out (B : Bd Z X sayN (defScope s_Desk_say) [0, 1, 2, 3] [0, 1, 2, 3] sayG k) {l1 l2 : Str} {j1 j2 kk : Nat} {p1 p2 p3 p4 p5 p6 p7 pos : Pos} {body rest : List Stmt} (he : w ≠ l1 ∧ w ≠ l2) (h : DOs Z X rest (sayΓ s0 w ns) D1) : DOs Z X (.If (.Compare (.Subscript (.Name "words" p1) (.Constant (.int 0) 0 p2) p3) [.In] [.Tuple [.Constant (.str l1) j1 p4, .Constant (.str l2) j2 p5] kk p6] p7) body [] pos :: rest) (sayΓ s0 w ns) D1 :=
  dos_cons (do_if (et_cmp (ev_ixL (x := w) (ev_var B 2).l ev_int (by decide) rfl) (ev_tup (.cons ev_str (.cons ev_str .nil))).t (od_inTS B)) (fun z => absurd (of_decide_eq_true z) (by simpa using he)) fun _ => dos_nil h)
/-- the row's words -/
theorem say_words (E : Top Z) (B : Bd Z X sayN (defScope s_Desk_say) [0, 1, 2, 3] [0, 1, 2, 3] sayG k) (wr : WrOk w ns) (h : DOs Z X ((defBody s_Desk_say).drop 2) [s0, .da rStr (rowT w ns), .da (rLst rStr) (rowW w ns), .un, .un, .un, .un] D1) : DOs Z X (defBody s_Desk_say) [s0, .da rStr (rowT w ns), .un, .un, .un, .un, .un] D1 := by
  have hz := row_sz wr
  refine dos_cons (do_if (et_not (et_val (ev_isi (u := "str") (b := true) B E (ev_var B 1) ty_str (by decide +kernel)))) (fun h => ?_) (fun _ => dos_nil ?_))
  · cases h
  refine dos_cons (do_set B 2 ((ev_split B (ev_var B 1) ev_str (by decide) ?_).as (row_split wr)) ?_)
  · exact sz_le (by omega)
  exact h
/-- the row's things -/
theorem say_things (E : Top Z) (D : Ds Z) (K : Kl Z C CD) {dS : Addr} (SH : Shp Z dS) {st : Sh} (so : SelfOk Z CD C st s0) (hz : ShZ st) (B : Bd Z X sayN (defScope s_Desk_say) [0, 1, 2, 3] [0, 1, 2, 3] sayG k) (hk : 3 ≤ k) (wr : WrOk w ns) (rw_ : RowW (rowW w ns))
    (th : ∀ p ∈ (signs (kindsM (rowW w ns))).zip ns, ThingOk st p.1 p.2) (h : DOs Z X ((defBody s_Desk_say).drop 3) (sayΓ s0 w ns) D1) : DOs Z X (defBody s_Desk_say) [s0, .da rStr (rowT w ns), .un, .un, .un, .un, .un] D1 := by
  refine say_words E B wr ?_
  have hcut : cut (rowW w ns) (some 1) none = ns.map sI := by rw [cut_from _ (by decide)]; rfl
  have hn := wr.sz
  refine dos_cons (do_setLc (f := fun p : Str × Int => p.2) (S := rInt) B 3 [("kind", 4), ("word", 5)] [0, 4, 5] [] (gi_zipS B E (ev_call1 B (c_shape_of E D SH) (ev_var B 2) rw_ (hj := by omega)) ((ev_slL (ev_var B 2).l (eo_so ev_int) eo_no).sis hcut)) ?_ (fun X' B' => (ga_t2 B' (ga_name B' 4) (ga_name B' 5))) (fun X' B' x hx => (ev_methR (S := S_thing C CD) B' K.dk.c (c_Desk_thing E D K) (st, x.1, x.2) (so B' rfl (by decide) rfl) (ins_dk (by decide +kernel)) (ea2 (ev_var B' 4) (ev_var B' 5)) ⟨hz, th x hx⟩ (hj := hk))) ?_)
  · rw [List.length_zip]
    omega
  rw [row_zip rw_]
  exact h
end
/-! ### deeds -/
abbrev S_say (Z : Zx) (C CD CB : Addr) : EfS (DsA × Sd × Deed) Str Sh := { M := fun u => mDk CD C u.1, a := fun u => u.1.a, L := fun u => u.1.ft, x := fun u => shOf u.2.1, Ds := fun u => [.da rStr (rowT u.2.2.word u.2.2.nums)], pre := fun u => StandOk u.2.1 ∧ u.2.2.keyOk ∧ Small u.2.2.knot, R := rStr, rt := fun u z y => u.2.2.ok u.2.1 ∧ y = shOf (u.2.2.next u.2.1) ∧ z = u.2.2.ans u.2.1, ex := fun u c y => y = shOf u.2.1 ∧ Ref Z CB c ∧ ¬ u.2.2.ok u.2.1 }
theorem kinds_hk {w : Str} {ns : List Int} (h : shapesL.lookup w = some "hk") : kindsM (rowW w ns) = "hk" := (kinds_of h).trans (shape_plain (by decide +kernel))
theorem kinds_h {w : Str} {ns : List Int} (h : shapesL.lookup w = some "h") : kindsM (rowW w ns) = "h" := (kinds_of h).trans (shape_plain (by decide +kernel))
theorem signs_hk : signs "hk" = [("h" : Str), ("k" : Str)] := by decide +kernel
theorem signs_h : signs "h" = [("h" : Str)] := by decide +kernel
theorem sk_hk {w : Str} {ns : List Int} (h : shapesL.lookup w = some "hk") : ∃ r, signs (kindsM (rowW w ns)) = ("h" : Str) :: r := ⟨_, by rw [kinds_hk h, signs_hk]⟩
theorem sk_h {w : Str} {ns : List Int} (h : shapesL.lookup w = some "h") : ∃ r, signs (kindsM (rowW w ns)) = ("h" : Str) :: r := ⟨_, by rw [kinds_h h, signs_h]⟩
theorem ne_hk : ("h" : Str) ≠ "k" := by decide +kernel
theorem roww_hk {w : Str} (a b : Int) (h : shapesL.lookup w = some "hk") (hm : (w, ("hk" : Str)) ∈ shapesL) : RowW (rowW w [a, b]) := ⟨⟨(w, "hk"), hm, _, rfl, h⟩, by rw [kinds_hk h]; rfl, by simp [rowW]⟩
theorem roww_h {w : Str} (a : Int) (h : shapesL.lookup w = some "h") (hm : (w, ("h" : Str)) ∈ shapesL) : RowW (rowW w [a]) := ⟨⟨(w, "h"), hm, _, rfl, h⟩, by rw [kinds_h h]; rfl, by simp [rowW]⟩
theorem wr_hk {w : Str} {a b : Int} (h1 : 32 ∉ sg w) (h2 : w.length ≤ 10) (ha : Small a) (hb : Small b) : WrOk w [a, b] := ⟨h1, h2, fun n hn => by
  rcases List.mem_cons.mp hn with e | e
  · rw [e]; exact ha
  · rw [List.mem_singleton.mp e]; exact hb, by simp⟩
theorem wr_h {w : Str} {a : Int} (h1 : 32 ∉ sg w) (h2 : w.length ≤ 10) (ha : Small a) : WrOk w [a] := ⟨h1, h2, fun n hn => by rw [List.mem_singleton.mp hn]; exact ha, by simp⟩
theorem th_hk {st : Sh} {w : Str} {a b : Int} (h : shapesL.lookup w = some "hk") (ha : Small a) (ka : KnotOk st.tree a) (hb : is_keyM b = true) : ∀ p ∈ (signs (kindsM (rowW w [a, b]))).zip [a, b], ThingOk st p.1 p.2 := fun p hp => by
  rw [kinds_hk h, signs_hk] at hp
  rcases List.mem_cons.mp hp with e | e
  · rw [e]; exact ⟨ha, by rw [if_neg ne_hk]; exact ka⟩
  · rw [List.mem_singleton.mp e]; exact ⟨small_of_key hb, by rw [if_pos rfl]; exact hb⟩
theorem th_h {st : Sh} {w : Str} {a : Int} (h : shapesL.lookup w = some "h") (ha : Small a) (ka : KnotOk st.tree a) : ∀ p ∈ (signs (kindsM (rowW w [a]))).zip [a], ThingOk st p.1 p.2 := fun p hp => by
  rw [kinds_h h, signs_h] at hp
  rw [List.mem_singleton.mp hp]
  exact ⟨ha, by rw [if_neg ne_hk]; exact ka⟩
section
variable {Z : Zx} {C CD CB : Addr} {X : Cx} {k : Nat} {D1 : Fin}
/-- the first word tells no knot -/
theorem say_bad (E : Top Z) (D : Ds Z) (K : Kl Z C CD) (XX : XKs Z CB) {dS : Addr} (SH : Shp Z dS) {d : DsA} {st : Sh} {w : Str} {n : Int} {ns : List Int} (hX : Own X) (hz : ShZ st) (B : Bd Z X sayN (defScope s_Desk_say) [0, 1, 2, 3] [0, 1, 2, 3] sayG k) (hk : 3 ≤ k) (wr : WrOk w (n :: ns)) (rw_ : RowW (rowW w (n :: ns))) (hs : ∃ r, signs (kindsM (rowW w (n :: ns))) = ("h" : Str) :: r) (bad : ¬ KnotOk st.tree n)
    (hD : ∀ c, Ref Z CB c → D1.ex c [.mu (mDk CD C d) st, .da rStr (rowT w (n :: ns)), .da (rLst rStr) (rowW w (n :: ns)), .un, .un, .un, .un]) : DOs Z X (defBody s_Desk_say) [.mu (mDk CD C d) st, .da rStr (rowT w (n :: ns)), .un, .un, .un, .un, .un] D1 := by
  refine say_words E B wr ?_
  have hcut : cut (rowW w (n :: ns)) (some 1) none = (n :: ns).map sI := by rw [cut_from _ (by decide)]; rfl
  obtain ⟨r, hr⟩ := hs
  exact dos_cons (DO.mono (D := { D1 with nx := _ }) (nx' := fun _ => False) (do_rz (Rf := Ref Z CB) (x0 := (("h" : Str), n)) B hX [("kind", 4), ("word", 5)] [0, 4, 5] [] (gi_zipS B E (ev_call1 B (c_shape_of E D SH) (ev_var B 2) rw_ (hj := by omega)) ((ev_slL (ev_var B 2).l (eo_so ev_int) eo_no).sis hcut)) (by rw [hr]; rfl) (fun X' B' => (ga_t2 B' (ga_name B' 4) (ga_name B' 5)))
    (fun X' E1 B' px => rz_meth (S := S_thingB C CD) B' ⟨B.prog, B.w⟩ px K.dk.c (c_Desk_thingB E D K XX) (st, "h", n) (fun B2 => ev_dkv B2 0) (ins_dk (by decide +kernel)) (fun B2 => ea2 (ev_var B2 4) (ev_var B2 5)) ⟨hz, wr.sm n List.mem_cons_self, ne_hk, bad⟩ (hj := hk)) hD) fun _ z => z.elim)
end
section
variable {Z : Zx} {C CD CB : Addr}
theorem c_Desk_sayX (E : Top Z) (D : Ds Z) (K : Kl Z C CD) (XX : XKs Z CB) {dS : Addr} (SH : Shp Z dS) : MCalX Z CD "say" 9 (spEf Z.T (S_say Z C CD CB)) :=
  mcalx_effO (ps := ["self", "row"]) sayN [0, 1, 2, 3] sayG 5 K.say (fun _ _ _ _ _ _ us hl => match us, hl with | [_, _], _ => rfl) (S_say Z C CD CB) (fun X hX B u hu => by
    obtain ⟨d, sd, dd⟩ := u
    obtain ⟨hs, hk, hsm⟩ := hu
    have hs : StandOk sd := hs
    have hk : dd.keyOk := hk
    have hsm : Small dd.knot := hsm
    have hz := shz_of hs
    have drow : ∀ (b : Bool) (kn key : Int) (w : Str), is_keyM key = true → w = (if b = true then ("put" : Str) else "out") → (∀ z y, (pOf b kn key).ok sd ∧ y = shOf ((pOf b kn key).next sd) ∧ z = (pOf b kn key).ans sd → (S_say Z C CD CB).rt (d, sd, dd) z y) → (∀ c y, y = shOf sd ∧ Ref Z CB c ∧ ¬ (pOf b kn key).ok sd → (S_say Z C CD CB).ex (d, sd, dd) c y) →
        DOs Z X ((defBody s_Desk_say).drop 5) (sayΓ (.mu (mDk CD C d) (shOf sd)) w [kn, key]) (dE (S_say Z C CD CB) (d, sd, dd)) := fun b kn key w hkey hw h1 h2 => by
      subst hw
      refine say_in B (by cases b <;> simp) (do_retE ((ee_methM (S := S_drow Z C CD CB) B K.dk.c (c_Desk_deed E D K XX) 0 (d, sd, b, kn, key) id (ev_pin B 0 pin_dk) (ea_cons (ev_ixL (x := (if b = true then ("put" : Str) else "out")) (ev_var B 2).l ev_int (by decide) rfl) (ea2 (ev_ixL (x := kn) (ev_var B 3).l ev_int (by decide) rfl) (ev_ixL (x := key) (ev_var B 3).l ev_int (by decide) rfl))) rfl (part_self pin_dk) (ins_dkM (by decide +kernel)) ⟨hs, hkey⟩).ex fun c Γ' ⟨w, hx, e2⟩ => ?_) fun z Γ' ⟨w, hx, e2⟩ => ?_)
      · subst e2
        exact ⟨w, rfl, h2 c w hx⟩
      · subst e2
        exact ⟨z, w, rfl, h1 z w hx, fun G T F H v o p => p⟩
    cases dd with
    | put kn key =>
      have wr : WrOk "put" [kn, key] := wr_hk (by decide +kernel) (by decide) hsm (small_of_key hk)
      have rw_ := roww_hk (w := "put") kn key (by decide +kernel) (by decide +kernel)
      by_cases hkn : KnotOk sd.1 kn
      · refine say_things E D K SH self_mu hz B (by decide) wr rw_ (th_hk (by decide +kernel : shapesL.lookup ("put" : Str) = some ("hk" : Str)) hsm hkn hk) ?_
        exact say_skip B (by decide +kernel : ("put" : Str) ≠ "show") (say_skip B (by decide +kernel : ("put" : Str) ≠ "weight") (drow true kn key "put" hk rfl (fun z y h => h) fun c y h => h))
      · exact say_bad E D K XX SH hX hz B (by decide) wr rw_ (sk_hk (by decide +kernel : shapesL.lookup ("put" : Str) = some ("hk" : Str))) hkn fun c hc => ⟨_, rfl, rfl, hc, fun z => hkn z.1⟩
    | out kn key =>
      have wr : WrOk "out" [kn, key] := wr_hk (by decide +kernel) (by decide) hsm (small_of_key hk)
      have rw_ := roww_hk (w := "out") kn key (by decide +kernel) (by decide +kernel)
      by_cases hkn : KnotOk sd.1 kn
      · refine say_things E D K SH self_mu hz B (by decide) wr rw_ (th_hk (by decide +kernel : shapesL.lookup ("out" : Str) = some ("hk" : Str)) hsm hkn hk) ?_
        exact say_skip B (by decide +kernel : ("out" : Str) ≠ "show") (say_skip B (by decide +kernel : ("out" : Str) ≠ "weight") (drow false kn key "out" hk rfl (fun z y h => h) fun c y h => h))
      · exact say_bad E D K XX SH hX hz B (by decide) wr rw_ (sk_hk (by decide +kernel : shapesL.lookup ("out" : Str) = some ("hk" : Str))) hkn fun c hc => ⟨_, rfl, rfl, hc, fun z => hkn z.1⟩
    | hang kn =>
      have wr : WrOk "hang" [kn] := wr_h (by decide +kernel) (by decide) hsm
      have rw_ := roww_h (w := "hang") kn (by decide +kernel) (by decide +kernel)
      by_cases hkn : KnotOk sd.1 kn
      · refine say_things E D K SH self_mu hz B (by decide) wr rw_ (th_h (by decide +kernel : shapesL.lookup ("hang" : Str) = some ("h" : Str)) hsm hkn) ?_
        refine say_skip B (by decide +kernel : ("hang" : Str) ≠ "show") (say_skip B (by decide +kernel : ("hang" : Str) ≠ "weight") (say_out B ⟨(by decide +kernel : ("hang" : Str) ≠ "put"), (by decide +kernel : ("hang" : Str) ≠ "out")⟩ (say_take B rfl (do_retE (ee_strI B E ((ee_methM (S := S_hang Z C CB) B K.sh.c (c_Shelf_hang E D K XX) 0 (d.s, sd, kn) (fun y => y) (ev_shelfR B 0 K.dk) (ea1 (ev_ixL (x := kn) (ev_var B 3).l ev_int (by decide) rfl)) rfl part_dk (ins_shM (by decide)) hs).ex fun c Γ' ⟨w, hx, e2⟩ => ?_) fun i Γ' ⟨w, hx, e2⟩ => ?_) fun z Γ' ⟨i, ⟨w, hx, e2⟩, ez⟩ => ?_))))
        · subst e2
          exact ⟨w, rfl, hx⟩
        · have l40 : sd.1.length ≤ 40 := hs.tree.l2
          rw [hx.2.2]
          exact strlen (small_i (by omega) (by show (sd.1.length : Int) ≤ _; omega))
        · subst e2 ez
          obtain ⟨ho, rfl, rfl⟩ := hx
          exact ⟨_, _, rfl, ⟨ho, rfl, rfl⟩, fun G T F H v o p => p⟩
      · exact say_bad E D K XX SH hX hz B (by decide) wr rw_ (sk_h (by decide +kernel : shapesL.lookup ("hang" : Str) = some ("h" : Str))) hkn fun c hc => ⟨_, rfl, rfl, hc, fun z => hkn z.1⟩) fun u => pin_dk
end
end BF
set_option maxHeartbeats 5000000
namespace BF
open L2 PySem PySem.Spec PyProof.Rows
/-! ## rows that ask -/
inductive Rq
  | show_
  | wgt
  | ful (k : Int)
  | wy (w : Str) (key : Int) (way : List Int)
  | btw (low high : Int) (way : List Int)
def wayWs : List Str := ["find", "has", "above", "below"]
def Rq.word : Rq → Str
  | .show_ => "show"
  | .wgt => "weight"
  | .ful _ => "full"
  | .wy w _ _ => w
  | .btw _ _ _ => "between"
def Rq.nums : Rq → List Int
  | .show_ => []
  | .wgt => []
  | .ful k => [k]
  | .wy _ key way => key :: way
  | .btw low high way => low :: high :: way
def Rq.ok (sd : Sd) : Rq → Prop
  | .show_ => True
  | .wgt => True
  | .ful k => KnotOk sd.1 k
  | .wy w key way => w ∈ wayWs ∧ is_keyM key = true ∧ WayOk sd.1 way
  | .btw low high way => is_keyM low = true ∧ is_keyM high = true ∧ WayOk sd.1 way
def Rq.ans (sd : Sd) : Rq → Str
  | .show_ => textM sd
  | .wgt => joinI " " [(weightM sd).1, (weightM sd).2]
  | .ful k => wbS ((fullM sd k).map entT) "none"
  | .wy w key way => wayA sd w key way
  | .btw low high way => wbS ((stretchM sd way low high).map wcM) "none"
theorem signs_app (x y : Str) : signs (x ++ y) = signs x ++ signs y := by
  unfold signs
  rw [← List.map_append]
  congr 1
  exact TL.tl_append x y
theorem signs_rep (c n : Nat) : signs ⟨(List.replicate n c).toArray⟩ = List.replicate n ⟨#[c]⟩ := by
  unfold signs
  simp
theorem kinds_w {w : Str} {n : Int} {ns : List Int} (h : shapesL.lookup w = some "kw") (hn : ns ≠ []) : signs (kindsM (rowW w (n :: ns))) = ("k" : Str) :: List.replicate ns.length ("w" : Str) := by
  have e : kindsM (rowW w (n :: ns)) = shapeM "kw" ((n :: ns).map sI).length := kinds_of h
  rw [e]
  unfold shapeM
  rw [if_pos (by decide +kernel), signs_app, signs_rep, show signs "kw" = [("k" : Str), ("w" : Str)] from by decide +kernel]
  have hl : 0 < ns.length := List.length_pos_iff.mpr hn
  have e2 : (((((n :: ns).map sI).length : Nat) : Int) - (("kw" : Str).length : Int)).toNat + 1 = ns.length := by
    rw [List.length_map, List.length_cons, show ("kw" : Str).length = 2 from by decide +kernel]
    omega
  rw [← e2, List.replicate_succ]
  rfl
theorem kinds_ww {w : Str} {m n : Int} {ns : List Int} (h : shapesL.lookup w = some "kkw") (hn : ns ≠ []) : signs (kindsM (rowW w (m :: n :: ns))) = ("k" : Str) :: ("k" : Str) :: List.replicate ns.length ("w" : Str) := by
  have e : kindsM (rowW w (m :: n :: ns)) = shapeM "kkw" ((m :: n :: ns).map sI).length := kinds_of h
  rw [e]
  unfold shapeM
  rw [if_pos (by decide +kernel), signs_app, signs_rep, show signs "kkw" = [("k" : Str), ("k" : Str), ("w" : Str)] from by decide +kernel]
  have hl : 0 < ns.length := List.length_pos_iff.mpr hn
  have e2 : (((((m :: n :: ns).map sI).length : Nat) : Int) - (("kkw" : Str).length : Int)).toNat + 1 = ns.length := by
    rw [List.length_map, List.length_cons, List.length_cons, show ("kkw" : Str).length = 3 from by decide +kernel]
    omega
  rw [← e2, List.replicate_succ]
  rfl
theorem lk_way {w : Str} (h : w ∈ wayWs) : shapesL.lookup w = some "kw" ∧ (w, ("kw" : Str)) ∈ shapesL ∧ 32 ∉ sg w ∧ w.length ≤ 10 := by
  unfold wayWs at h
  rcases List.mem_cons.mp h with rfl | h
  · exact ⟨by decide +kernel, by decide +kernel, by decide +kernel, by decide +kernel⟩
  rcases List.mem_cons.mp h with rfl | h
  · exact ⟨by decide +kernel, by decide +kernel, by decide +kernel, by decide +kernel⟩
  rcases List.mem_cons.mp h with rfl | h
  · exact ⟨by decide +kernel, by decide +kernel, by decide +kernel, by decide +kernel⟩
  · rw [List.mem_singleton.mp h]
    exact ⟨by decide +kernel, by decide +kernel, by decide +kernel, by decide +kernel⟩
theorem fit_of {w : Str} {ns : List Int} (h : (signs (kindsM (rowW w ns))).length = ns.length) : (rowW w ns).length = 1 + (kindsM (rowW w ns)).length := by
  rw [signs_len] at h
  rw [h]
  unfold rowW
  simp only [List.length_cons, List.length_map]
  omega
theorem th_ws {st : Sh} {ns : List Int} (h : ∀ n ∈ ns, KnotOk st.tree n ∧ Small n) : ∀ p ∈ (List.replicate ns.length ("w" : Str)).zip ns, ThingOk st p.1 p.2 := fun p hp => by
  obtain ⟨a, b⟩ := zip_mem2 hp
  have := (List.mem_replicate.mp a).2
  exact ⟨(h p.2 b).2, by rw [this, if_neg (by decide +kernel)]; exact (h p.2 b).1⟩
theorem th_k {st : Sh} {n : Int} (h : is_keyM n = true) : ThingOk st "k" n := ⟨small_of_key h, by rw [if_pos rfl]; exact h⟩
/-- all that is asked of such a row -/
theorem rq_row {sd : Sd} (hs : StandOk sd) {q : Rq} (h : q.ok sd) : WrOk q.word q.nums ∧ RowW (rowW q.word q.nums) ∧ ∀ p ∈ (signs (kindsM (rowW q.word q.nums))).zip q.nums, ThingOk (shOf sd) p.1 p.2 := by
  cases q with
  | show_ =>
    have lk : shapesL.lookup ("show" : Str) = some ("" : Str) := by decide +kernel
    have ks : kindsM (rowW ("show" : Str) []) = "" := (kinds_of lk).trans (shape_plain (by decide +kernel))
    exact ⟨⟨by decide +kernel, by decide +kernel, fun n hn => (nomatch hn), by decide +kernel⟩, ⟨⟨("show", ""), by decide +kernel, _, rfl, lk⟩, by show (rowW ("show" : Str) []).length = 1 + (kindsM (rowW ("show" : Str) [])).length; rw [ks]; rfl, by decide +kernel⟩, fun p hp => by
      have hp : p ∈ (signs (kindsM (rowW ("show" : Str) []))).zip ([] : List Int) := hp
      rw [List.zip_nil_right] at hp; cases hp⟩
  | wgt =>
    have lk : shapesL.lookup ("weight" : Str) = some ("" : Str) := by decide +kernel
    have ks : kindsM (rowW ("weight" : Str) []) = "" := (kinds_of lk).trans (shape_plain (by decide +kernel))
    exact ⟨⟨by decide +kernel, by decide +kernel, fun n hn => (nomatch hn), by decide +kernel⟩, ⟨⟨("weight", ""), by decide +kernel, _, rfl, lk⟩, by show (rowW ("weight" : Str) []).length = 1 + (kindsM (rowW ("weight" : Str) [])).length; rw [ks]; rfl, by decide +kernel⟩, fun p hp => by
      have hp : p ∈ (signs (kindsM (rowW ("weight" : Str) []))).zip ([] : List Int) := hp
      rw [List.zip_nil_right] at hp; cases hp⟩
  | ful k =>
    have hk : KnotOk sd.1 k := h
    have l40 := hs.tree.l2
    have sm : Small k := small_i hk.1 (by have := hk.2; omega)
    have lk : shapesL.lookup ("full" : Str) = some ("h" : Str) := by decide +kernel
    exact ⟨wr_h (w := "full") (by decide +kernel) (by decide +kernel) sm, roww_h k lk (by decide +kernel : (("full" : Str), ("h" : Str)) ∈ shapesL), th_h (st := shOf sd) lk sm hk⟩
  | wy w key way =>
    obtain ⟨hw, hk, hy⟩ := h
    obtain ⟨lk, hm, w1, w2⟩ := lk_way hw
    have ks := kinds_w (n := key) lk hy.ne
    have sz := hy.sz
    refine ⟨⟨w1, w2, fun n hn => ?_, by show (key :: way).length ≤ 302; simp; omega⟩, ⟨⟨(w, "kw"), hm, _, rfl, lk⟩, fit_of (by show (signs (kindsM (rowW w (key :: way)))).length = (key :: way).length; rw [ks]; simp), by show (rowW w (key :: way)).length ≤ 500; unfold rowW; simp; omega⟩, fun p hp => ?_⟩
    · rcases List.mem_cons.mp hn with e | e
      · rw [e]; exact small_of_key hk
      · exact way_small hs hy e
    · have hp : p ∈ (signs (kindsM (rowW w (key :: way)))).zip (key :: way) := hp
      rw [ks, List.zip_cons_cons] at hp
      rcases List.mem_cons.mp hp with e | e
      · rw [e]; exact th_k hk
      · exact th_ws (st := shOf sd) (fun n hn => ⟨way_mem hy hn, way_small hs hy hn⟩) p e
  | btw low high way =>
    obtain ⟨hl, hh, hy⟩ := h
    have lk : shapesL.lookup ("between" : Str) = some ("kkw" : Str) := by decide +kernel
    have ks := kinds_ww (m := low) (n := high) lk hy.ne
    have sz := hy.sz
    refine ⟨⟨(by decide +kernel : 32 ∉ sg ("between" : Str)), (by decide +kernel : ("between" : Str).length ≤ 10), fun n hn => ?_, by show (low :: high :: way).length ≤ 302; simp; omega⟩, ⟨⟨("between", "kkw"), by decide +kernel, _, rfl, lk⟩, fit_of (by show (signs (kindsM (rowW "between" (low :: high :: way)))).length = (low :: high :: way).length; rw [ks]; simp), by show (rowW ("between" : Str) (low :: high :: way)).length ≤ 500; unfold rowW; simp; omega⟩, fun p hp => ?_⟩
    · rcases List.mem_cons.mp hn with e | e
      · rw [e]; exact small_of_key hl
      rcases List.mem_cons.mp e with e | e
      · rw [e]; exact small_of_key hh
      · exact way_small hs hy e
    · have hp : p ∈ (signs (kindsM (rowW "between" (low :: high :: way)))).zip (low :: high :: way) := hp
      rw [ks, List.zip_cons_cons, List.zip_cons_cons] at hp
      rcases List.mem_cons.mp hp with e | e
      · rw [e]; exact th_k hl
      rcases List.mem_cons.mp e with e | e
      · rw [e]; exact th_k hh
      · exact th_ws (st := shOf sd) (fun n hn => ⟨way_mem hy hn, way_small hs hy hn⟩) p e
abbrev S_rq (C CD : Addr) : RdS (Sd × Rq) := { A := fun u => pDk CD C (shOf u.1), Ds := fun u => [.da rStr (rowT u.2.word u.2.nums)], pre := fun u => StandOk u.1 ∧ u.2.ok u.1, R := fun u => pd rStr (u.2.ans u.1) }
theorem ne_ways {w : Str} (h : w ∈ wayWs) : w ≠ "show" ∧ w ≠ "weight" ∧ w ≠ "put" ∧ w ≠ "out" ∧ w ≠ "hang" ∧ w ≠ "full" ∧ w ≠ "between" := by
  unfold wayWs at h
  rcases List.mem_cons.mp h with rfl | h
  · decide +kernel
  rcases List.mem_cons.mp h with rfl | h
  · decide +kernel
  rcases List.mem_cons.mp h with rfl | h
  · decide +kernel
  · rw [List.mem_singleton.mp h]
    decide +kernel
section
variable {Z : Zx} {C CD CB : Addr}
theorem c_Desk_sayQ (E : Top Z) (D : Ds Z) (L : LamK Z) (K : Kl Z C CD) {dS : Addr} (SH : Shp Z dS) : MCal Z CD "say" CX0 13 (spRd Z.T (S_rq C CD)) :=
  mcal_rd (ps := ["self", "row"]) sayN [0, 1, 2, 3] sayG 5 K.say (fun _ _ _ _ _ _ us hl => match us, hl with | [_, _], _ => rfl) (S_rq C CD) (fun X B u hu => by
    obtain ⟨sd, q⟩ := u
    obtain ⟨hs, hq⟩ := hu
    have hs : StandOk sd := hs
    have hq : q.ok sd := hq
    have hz := shz_of hs
    have hf := fr_ok hs
    obtain ⟨wr, rw_, th⟩ := rq_row hs hq
    refine say_things E D K SH self_vw hz B (by decide) wr rw_ th ?_
    cases q with
    | show_ => exact say_take B (he := (rfl : ("show" : Str) = "show")) (do_ret (ev_call1 B (c_show_stand E D) (ev_meth0 B K.sh.c (c_Shelf_stand E K) (ev_shelf B K.dk (ev_vw B 0)) (ins_sh (by decide)) hz) hs) (rt_eq rfl))
    | wgt =>
      refine say_skip B (by decide +kernel : ("weight" : Str) ≠ "show") (say_take B (rfl : ("weight" : Str) = "weight") (do_ret (ev_call1 B (c_with_blanksT E D) (ev_call1 B (c_weight E D) (ev_meth0 B K.sh.c (c_Shelf_stand E K) (ev_shelf B K.dk (ev_vw B 0)) (ins_sh (by decide)) hz) hf) (isok_weight hs)) (rt_eq rfl)))
    | ful k =>
      have hk : KnotOk sd.1 k := hq
      have fl : (fullM sd k).length ≤ 300 := ful_len hs hk.1 hk.2 (full_ful hs hk.1 hk.2)
      have ef : (full_rowsM sd).getD k.toNat [] = fullM sd k := fulls_getD hk.1 hk.2
      refine say_skip B (by decide +kernel : ("full" : Str) ≠ "show") (say_skip B (by decide +kernel : ("full" : Str) ≠ "weight") (say_out B (by decide +kernel : ("full" : Str) ≠ "put" ∧ ("full" : Str) ≠ "out") (say_skip B (by decide +kernel : ("full" : Str) ≠ "hang") (say_take B (rfl : ("full" : Str) = "full") (do_ret (ev_call1 B (c_with_blanksS E D) (ev_lc (f := entT) (xs := fullM sd k) B [("entry", 6)] [6] ["entry_text"] (gi_l ((ev_meth1 B K.sh.c (c_Shelf_full E K) (ev_shelf B K.dk (ev_vw B 0)) (ins_sh (by decide)) (ev_ixL (x := k) (ev_var B 3).l ev_int (by decide) rfl) ⟨hk.1, hk.2, full_rows_len sd⟩).as ef)) (show (fullM sd k).length ≤ 1000000 by omega) (fun X' B' => (ga_name B' 6)) (fun X' B' x hx => ev_call1 B' (c_entry_text E D) (ev_var B' 6) (ens_full hs hk.1 hk.2 x hx))) (stok_full hs hk.1 hk.2)) (rt_eq rfl))))))
    | wy w key way =>
      obtain ⟨hw, hk, hy⟩ := hq
      obtain ⟨n1, n2, n3, n4, n5, n6, n7⟩ := ne_ways hw
      refine say_skip B n1 (say_skip B n2 (say_out B ⟨n3, n4⟩ (say_skip B n5 (say_skip B n6 (say_skip B n7 (dos_one (do_ret (ev_methR (S := S_way C CD) B K.dk.c (c_Desk_way E D L K) (sd, w, key, way) (ev_vw B 0) (ins_dk (by decide +kernel)) (ea_cons (ev_ixL (x := w) (ev_var B 2).l ev_int (by decide) rfl) (ea2 (ev_ixL (x := key) (ev_var B 3).l ev_int (by decide) rfl) ((ev_slL (ev_var B 3).l (eo_so ev_int) eo_no).as (by rw [cut_from _ (by decide)]; rfl)))) ⟨hs, hy⟩) (rt_eq rfl))))))))
    | btw low high way =>
      obtain ⟨hl, hh, hy⟩ := hq
      refine say_skip B (by decide +kernel : ("between" : Str) ≠ "show") (say_skip B (by decide +kernel : ("between" : Str) ≠ "weight") (say_out B (by decide +kernel : ("between" : Str) ≠ "put" ∧ ("between" : Str) ≠ "out") (say_skip B (by decide +kernel : ("between" : Str) ≠ "hang") (say_skip B (by decide +kernel : ("between" : Str) ≠ "full") (say_take B (rfl : ("between" : Str) = "between") (do_ret (ev_methR (S := S_btw C CD) B K.dk.c (c_Desk_between E D L K) (sd, low, high, way) (ev_vw B 0) (ins_dk (by decide +kernel)) (ea_cons (ev_ixL (x := low) (ev_var B 3).l ev_int (by decide) rfl) (ea2 (ev_ixL (x := high) (ev_var B 3).l ev_int (by decide) rfl) ((ev_slL (ev_var B 3).l (eo_so ev_int) eo_no).as (by rw [cut_from _ (by decide)]; rfl)))) ⟨hs, hy⟩) (rt_eq rfl))))))))
end
end BF
set_option maxHeartbeats 5000000
namespace BF
open L2 PySem PySem.Spec PyProof.Rows
/-! ## a shelf, a desk, made -/
inductive ShP
  | tree (t : Tr)
  | rows (r : List (List Int))
  | fulls (f : List (List En))
def ShP.n : ShP → Str
  | .tree _ => "tree"
  | .rows _ => "rows"
  | .fulls _ => "fulls"
def ShP.rl (F : Hp) (vs : List V) : ShP → Prop
  | .tree t => RL (rOpt rInt) F t vs
  | .rows r => RL (rLst rInt) F r vs
  | .fulls f => RL (rLst rEn) F f vs
theorem ShP.mono {F F' : Hp} (s : Same F F') {vs : List V} : ∀ {p : ShP}, p.rl F vs → p.rl F' vs
  | .tree _, h => RL.mono s h
  | .rows _, h => RL.mono s h
  | .fulls _, h => RL.mono s h
def PtsAt (F H : Hp) (fs : List (Str × V)) : List ShP → List Addr → Prop
  | [], [] => True
  | p :: ps, a :: as => fs.lookup p.n = some (.ref a) ∧ (∃ vs, H a = some (.lst vs) ∧ p.rl F vs) ∧ PtsAt F H fs ps as
  | [], _ :: _ => False
  | _ :: _, [] => False
theorem PtsAt.mono {F F' H H' : Hp} {fs : List (Str × V)} (s : Same F F') : ∀ {ps : List ShP} {as : List Addr}, (∀ a ∈ as, H' a = H a) → PtsAt F H fs ps as → PtsAt F' H' fs ps as
  | [], [], _, _ => trivial
  | p :: ps, a :: as, k, ⟨h1, ⟨vs, h2, h3⟩, h4⟩ => ⟨h1, ⟨vs, by rw [k a List.mem_cons_self]; exact h2, ShP.mono s h3⟩, PtsAt.mono s (fun b hb => k b (List.mem_cons_of_mem _ hb)) h4⟩
theorem PtsAt.fs {F H : Hp} {fs fs' : List (Str × V)} : ∀ {ps : List ShP} {as : List Addr}, (∀ p ∈ ps, fs'.lookup p.n = fs.lookup p.n) → PtsAt F H fs ps as → PtsAt F H fs' ps as
  | [], [], _, _ => trivial
  | p :: ps, a :: as, k, ⟨h1, h2, h4⟩ => ⟨by rw [k p List.mem_cons_self]; exact h1, h2, PtsAt.fs (fun q hq => k q (List.mem_cons_of_mem _ hq)) h4⟩
theorem PtsAt.there {F H : Hp} {fs : List (Str × V)} : ∀ {ps : List ShP} {as : List Addr}, PtsAt F H fs ps as → ∀ a ∈ as, ∃ vs, H a = some (.lst vs)
  | [], [], _, a, ha => nomatch ha
  | p :: ps, b :: as, ⟨_, ⟨vs, h, _⟩, r⟩, a, ha => by
    rcases List.mem_cons.mp ha with e | e
    · rw [e]; exact ⟨vs, h⟩
    · exact PtsAt.there r a e
theorem PtsAt.snoc {F H : Hp} {fs : List (Str × V)} {q : ShP} {l : Addr} (h1 : fs.lookup q.n = some (.ref l)) (h2 : ∃ vs, H l = some (.lst vs) ∧ q.rl F vs) : ∀ {ps : List ShP} {as : List Addr}, PtsAt F H fs ps as → PtsAt F H fs (ps ++ [q]) (as ++ [l])
  | [], [], _ => ⟨h1, h2, trivial⟩
  | p :: ps, a :: as, ⟨a1, a2, a3⟩ => ⟨a1, a2, PtsAt.snoc h1 h2 a3⟩
def mBld (C x : Addr) : Mp (List ShP) where
  loc := false
  rel := fun ps F H ft v => ∃ dx fs as, v = .ref x ∧ H x = some (.ins C dx fs) ∧ fs.length ≤ ps.length ∧ ft = x :: as ∧ (x :: as).Nodup ∧ PtsAt F H fs ps as ∧ ∀ m, m ∉ ps.map ShP.n → fs.lookup m = none
  mono := fun s k ⟨dx, fs, as, h1, h2, h3, h4, h5, h6, h7⟩ => ⟨dx, fs, as, h1, by rw [k x (by rw [h4]; simp)]; exact h2, h3, h4, h5, h6.mono s (fun a ha => k a (by rw [h4]; exact List.mem_cons_of_mem _ ha)), h7⟩
  there := fun ⟨dx, fs, as, h1, h2, h3, h4, h5, h6, h7⟩ a ha => by
    rw [h4] at ha
    rcases List.mem_cons.mp ha with e | e
    · rw [e]; exact ⟨_, h2, fun ps z => by cases z⟩
    · obtain ⟨vs, h⟩ := h6.there a e
      exact ⟨_, h, lst_nt⟩
/-- a shelf, a desk, anywhere -/
def mShX (C : Addr) : Mp Sh where
  loc := false
  rel := fun st F H ft v => ∃ s : SA, (mSh C s).rel st F H ft v
  mono := fun e k ⟨s, h⟩ => ⟨s, (mSh C s).mono e k h⟩
  there := fun ⟨s, h⟩ => (mSh C s).there h
def mDkX (CD C : Addr) : Mp Sh where
  loc := false
  rel := fun st F H ft v => ∃ s : DsA, (mDk CD C s).rel st F H ft v
  mono := fun e k ⟨s, h⟩ => ⟨s, (mDk CD C s).mono e k h⟩
  there := fun ⟨s, h⟩ => (mDk CD C s).there h
section
variable {Z : Zx} {X : Cx} {e e1 : Expr} {Γ : List Sl} {N : List Str} {sc : Scope} {vs ws : List Nat} {gs : List Str} {k : Nat} {pos p pos' : Pos} {D : Fin} {α β : Type} {R : Rp α}
theorem en_listT (B : Bd Z X N sc vs ws gs k) (E : Top Z) {xs : List α} (a : EV Z X e Γ (pt R xs)) (hg : ("list" : Str) ∈ gs := by decide +kernel) (he : starEach (e :: []) X.env = (false, eval e X.env) :: starEach [] X.env := by rfl) : EN Z X (.Call (.Name "list" p) [e] [] pos) Γ (mLst R) xs := by
  obtain ⟨d1, d2, d3⟩ := plainName_ok (B.nm.pg _ hg)
  refine ⟨_, pe_callTy call_list_of (B.gx hg) (by rw [B.mg]; exact E.f "list") (by decide +kernel) (ea1 a he).pa d3 d1 he rfl, fun σ F G H Wr fts Q o S q => ⟨F, G, Wr, fts, o, S, fun us F1 H1 g1 p1 => ?_⟩⟩
  match us, p1 with
  | [v], ⟨⟨l, us, ev, hl, r⟩, _⟩ =>
    refine ⟨l, us, by rw [ev], .inr (SqT.of hl), fun d hd => ?_⟩
    have fD : F1 d = none := g1.ok.free hd
    have hD : H d = none := by
      cases z : H d with
      | none => rfl
      | some u => exact absurd hd (g1.th d (by rw [z]; simp))
    exact q _ F1 _ [d] (g1.step (Grow.made g1.ok hd)) ⟨d, us, rfl, rfl, upd_same, r⟩ fun b hb => by
      simp at hb; subst hb; exact ⟨fD, hD⟩
theorem ins_nt {C dx : Addr} {fs : List (Str × V)} : ∀ ps, HO.ins C dx fs ≠ .tbl ps := fun ps z => by cases z
theorem ins_nc {C dx : Addr} {fs : List (Str × V)} {l : Addr} : ∀ q, HO.ins C dx fs ≠ LamX.CodeO l q := fun q z => by unfold LamX.CodeO at z; cases z
/-- self.name = a new list -/
theorem do_attrP (B : Bd Z X N sc vs ws gs k) (i : Nat) {n nm : Str} {C x : Addr} (q : ShP) {ps : List ShP} {xs : List α} (K : ClsOk Z.K C shN) (a : EN Z X e Γ (mLst R) xs) (hq : ∀ F us, RL R F xs us → q.rl F us) (hm : nm = q.n) (hnew : q.n ∉ ps.map ShP.n) (hz : ps.length ≤ 5) (h : D.nx (Γ.set i (.mu (mBld C x) (ps ++ [q])))) (hi : N[i]? = some n := by rfl) (hv : i ∈ vs := by decide) (hΓ : Γ[i]? = some (.mu (mBld C x) ps) := by rfl) (nv : noVw Γ = true := by rfl)
    (hs : swapsWith e (some (.Attribute (.Name n p) nm pos')) pos.line X.env = pure false := by rfl) : DO Z X (.Assign [.Attribute (.Name n p) nm pos'] e pos) Γ D := by
  subst hm
  obtain ⟨d1, d2, _⟩ := plainName_ok (B.nm.pn i hv n hi)
  have pn : PE X (.Name n p) (tVar i) := pe_var (i := i) (by rw [B.eN]; exact hi) (by rw [B.eSc]; exact B.nm.vis i hv n hi) d1 d2
  obtain ⟨te, he, hr⟩ := a
  refine DO.of (ps_fld pn he hs) fun σ F0 G F H Wr fts g S => hr σ F G H Wr fts _ g.ok S fun v F1 H1 ft1 g1 r1 hn1 => ?_
  have S1 := S.grow g1
  obtain ⟨_, ev, ⟨dx, fs, as, rfl, h2, h3, h4, h5, h6, h7⟩, mk⟩ := S1.mu hΓ
  obtain ⟨l, us, rfl, rfl, hl, rl⟩ := r1
  have xin : x ∈ fts i := by rw [h4]; simp
  have hi' : i < Γ.length := (List.getElem?_eq_some_iff.mp hΓ).1
  have lnew := hn1 l (by simp)
  have lx : l ≠ x := fun z => by
    obtain ⟨_, _, o, ho, _⟩ := S.there xin
    rw [← z, lnew.2] at ho; cases ho
  have las : l ∉ x :: as := fun z => by
    rw [← h4] at z
    obtain ⟨_, _, o, ho, _⟩ := S.there z
    rw [lnew.2] at ho; cases ho
  have hN : q.n ∈ shN := by cases q <;> simp [ShP.n]
  refine ⟨_, ev, x, C, dx, fs, rfl, h2, by rw [B.K]; exact K.c, by rw [B.K]; exact K.na _ hN, by omega, ?_⟩
  have g3 : Grow Z.T (fun a => a ∈ fts i) F H F1 (upd H1 x (.ins C dx (putF q.n (.ref l) fs))) := (Grow.weak g1).mut h2 ins_nt ins_nc (S1.there xin).1 (.inl xin)
  obtain ⟨y1, y2, y3⟩ := (⟨h5, trivial, trivial⟩ : (x :: as).Nodup ∧ True ∧ True)
  have xas := (List.nodup_cons.mp h5).1
  have r3 : (mBld C x).rel (ps ++ [q]) F1 (upd H1 x (.ins C dx (putF q.n (.ref l) fs))) (x :: (as ++ [l])) (.ref x) := by
    refine ⟨dx, _, as ++ [l], rfl, upd_same, ?_, rfl, ?_, PtsAt.snoc (by rw [lookup_putF, if_pos rfl]) ⟨us, by rw [upd_ne lx]; exact hl, hq F1 us rl⟩ ?_, fun m hm => ?_⟩
    · have := length_putF q.n (.ref l) fs
      simp only [List.length_append, List.length_singleton]
      omega
    · have y2 := (List.nodup_cons.mp h5).2
      refine List.nodup_cons.mpr ⟨fun z => ?_, List.nodup_append.mpr ⟨y2, by simp, fun b hb c hc e => ?_⟩⟩
      · rcases List.mem_append.mp z with w | w
        · exact xas w
        · exact lx (List.mem_singleton.mp w).symm
      · rw [List.mem_singleton.mp hc] at e
        exact las (List.mem_cons_of_mem _ (e ▸ hb))
    · refine PtsAt.fs (fs := fs) (fun p hp => ?_) (h6.mono (Same.refl _) fun b hb => upd_ne fun z => xas (z ▸ hb))
      rw [lookup_putF, if_neg fun z => hnew (List.mem_map.mpr ⟨p, hp, z⟩)]
    · rw [List.map_append] at hm
      rw [lookup_putF, if_neg (fun z : m = q.n => hm (List.mem_append_right _ (by rw [z]; simp)))]
      exact h7 m fun z => hm (List.mem_append_left _ z)
  obtain ⟨fts', z1, z2⟩ := set_ends (M := mBld C x) (y := ps ++ [q]) (v := .ref x) (ft := x :: (as ++ [l])) g S hi' g3 r3 (fun b hb => by
    rcases List.mem_cons.mp hb with e | e
    · rw [e]; exact ⟨(S1.there xin).1, .inl xin⟩
    rcases List.mem_append.mp e with e | e
    · have m : b ∈ fts i := by rw [h4]; exact List.mem_cons_of_mem _ e
      exact ⟨(S1.there m).1, .inl m⟩
    · rw [List.mem_singleton.mp e]; exact ⟨lnew.1, .inr lnew.2⟩) (fun z => nomatch z) nv
  rw [set_same S.len hi' ev] at z2
  exact ⟨F1, _, fts', z1, z2, h⟩
end
/-! ### promises of __init__ -/
structure InS (ι β : Type) where
  C : Addr
  Ds : ι → List Sl
  pre : ι → Prop
  M : Mp β
  y : ι → β
section
variable {ι β : Type}
def spIn (T : Tbs) (S : InS ι β) : Sp := fun us H Q _ => ∃ (u : ι) (x : Addr) (F : Hp) (dx : Addr), Ok T F H ∧ S.pre u ∧ (∃ vs, us = .ref x :: vs ∧ AllP ((S.Ds u).map pvOf) F H vs) ∧ H x = some (.ins S.C dx []) ∧ F x = none ∧
  ∀ F' H' ft, Grow T (fun b => b = x) F H F' H' → S.M.rel (S.y u) F' H' ft (.ref x) → (∀ b ∈ ft, F' b = none ∧ (b = x ∨ H b = none)) → Q .non H'
variable {Z : Zx} {x qual : Str} {st : Stmt} {f : Addr} {fd : FuncData} {N ps : List Str} {gs : List Str} {vs : List Nat} {k n : Nat}
theorem fn_init (FD : FunD Z.K x qual (defArgs st) (defBody st) (defScope st) [] [] f fd) (S : InS ι β) (hS : FnScope N ps (defScope st)) (nm : Nm N (defScope st) vs vs gs) (da : ∀ u, (S.Ds u).all isDa = true)
    (hl : ∀ u, (S.Ds u).length + 1 = ps.length) (hn : N.length = ps.length + n) (body : ∀ X, Bd Z X N (defScope st) vs vs gs k → ∀ u a, S.pre u → DOs Z X (defBody st) (.mu (mBld S.C a) [] :: (S.Ds u ++ uns n)) { nx := fun Γ => ∃ (γ : Type) (M' : Mp γ) (y : γ), Γ[0]? = some (.mu M' y) ∧ ∀ F H ft v, M'.rel y F H ft v → v = .ref a ∧ S.M.rel (S.y u) F H ft v }) :
    FnOk Z.P Z.w Z.K Z.mg Z.base CX0 (k + 1) f fd ps (spIn Z.T S) := by
  have len : ∀ us H Q E, spIn Z.T S us H Q E → us.length = ps.length := fun us H Q E ⟨u, a, F, dx, o, hp, ⟨ws, e, al⟩, _⟩ => by
    rw [e, ← hl u, List.length_cons, al.len, List.length_map]
  refine FD.ok hS len fun cdv A outer s H us Q E hr ⟨u, a, F, dx, o, hp, ⟨ws, e, al⟩, r0, fn, ret⟩ => ?_
  have B : Bd Z (cxOf CX0 Z.P Z.w Z.K Z.mg Z.base N qual (defScope st) f cdv A outer s H E).nox N (defScope st) vs vs gs k :=
    { nm := nm, prog := rfl, w := rfl, K := rfl, mg := rfl, base := rfl, eN := rfl, eSc := rfl, calm := rfl, room := hr, st := fun _ _ _ _ => .inl rfl, po := PassesOwn.never }
  have lw : ws.length = (S.Ds u).length := by rw [al.len, List.length_map]
  have lu : us.length = ps.length := by rw [e, ← hl u, List.length_cons, lw]
  have Sa : Sat (fun b => b = a) F H H (.mu (mBld S.C a) [] :: (S.Ds u ++ uns n)) (L2.start N us) (fun i => if i = 0 then [a] else []) := by
    refine ⟨?_, fun i s q => ?_, fun i j ne b hb hc => ?_, fun i hi => ?_⟩
    · unfold L2.start uns
      simp only [List.length_append, List.length_map, List.length_replicate, List.length_cons]
      have := hl u
      omega
    · cases i with
      | zero =>
        simp at q
        subst q
        exact ⟨some (.ref a), start_at.2 _ (by rw [e]; rfl), ⟨_, rfl, dx, [], [], rfl, r0, Nat.le_refl _, rfl, by simp, trivial, fun _ _ => rfl⟩, fun b hb => by
          have hb : b ∈ [a] := hb
          rw [List.mem_singleton.mp hb]
          exact ⟨fn, .inl rfl, fun z => by cases z⟩⟩
      | succ i =>
        have q : (S.Ds u ++ uns n)[i]? = some s := by simpa using q
        show ∃ ov, (L2.start N us)[i + 1]? = some ov ∧ SlOk _ F H H s ov []
        by_cases hi : i < (S.Ds u).length
        · rw [List.getElem?_append_left hi] at q
          obtain ⟨v, hv, pv⟩ := allp_at al (i := i) (P := pvOf s) (by rw [List.getElem?_map, q]; rfl)
          have d := List.all_eq_true.mp (da u) s (List.mem_of_getElem? q)
          refine ⟨some v, start_at.2 _ (by rw [e]; simpa using hv), ?_⟩
          cases s with
          | da R x => exact ⟨rfl, v, rfl, pv⟩
          | un => cases d
          | mu M x => cases d
          | vw P => cases d
        · rw [List.getElem?_append_right (by omega)] at q
          unfold uns at q
          rw [List.getElem?_replicate] at q
          have h9 := hl u
          split at q
          · cases q
            exact ⟨none, start_at.1 (by omega) (by omega), rfl⟩
          · cases q
    · have hb : b ∈ (if i = 0 then [a] else []) := hb
      have hc : b ∈ (if j = 0 then [a] else []) := hc
      by_cases z : i = 0
      · rw [if_neg (fun w => ne (z.trans w.symm))] at hc; cases hc
      · rw [if_neg z] at hb; cases hb
    · exact if_neg (by simp at hi; omega)
  refine ⟨_, PSs.nox (pss_ds (Z := Z)), F, H, F, (fun b => b = a), _, _, _, Grow.refl o, Sa, takes_no (fun _ _ z => z), body _ B u a hp, ⟨?_, ?_, ?_, ?_⟩⟩
  · rintro σ' H' ⟨F', Γ', fts', g, S', γ, M', y, q, hM⟩
    obtain ⟨v, _, r, mk⟩ := S'.mu q
    obtain ⟨rfl, r'⟩ := hM F' H' _ v r
    exact ret F' H' _ g r' fun b hb => ⟨(mk b hb).1, (mk b hb).2.1⟩
  · rintro v H' ⟨F', Γ', σ', fts', P, g, S', pv, q⟩
    exact q.elim
  · rintro σ' H' ⟨F', Γ', fts', g, _, q⟩
    exact q
  · rintro σ' H' ⟨F', Γ', fts', g, _, q⟩
    exact q
/-- the module's name x is a class that is made so -/
structure MakX (Z : Zx) (x : Str) (C : Addr) (k : Nat) (sp : Sp) : Prop where
  ex : ∃ (f : Addr) (fd : FuncData) (ps : List Str), Mk Z.K C f ∧ Z.mg x = some (.ref C) ∧ Binds Z.K fd ps [] ∧ FnOk Z.P Z.w Z.K Z.mg Z.base CX0 k f fd ps sp
/-- C(e) -/
theorem en_make {X : Cx} {Γ : List Sl} {sc : Scope} {ws : List Nat} {j : Nat} {e : Expr} {es : List Expr} {p pos : Pos} {S : InS ι β} (B : Bd Z X N sc vs ws gs k) (c : MakX Z x S.C j (spIn Z.T S)) (u : ι) (ea : EA Z X (e :: es) Γ ((S.Ds u).map pvOf)) (hp : S.pre u) (hj : j + 1 ≤ k := by decide) (hg : x ∈ gs := by decide +kernel)
    (he : starEach (e :: es) X.env = (false, eval e X.env) :: starEach es X.env := by rfl) (hpl : (backTo pos (starEach es X.env)).any (·.1) = false := by rfl) : EN Z X (.Call (.Name x p) (e :: es) [] pos) Γ S.M (S.y u) := by
  obtain ⟨f, fd, ps, hM, hm, hb, G⟩ := c.ex
  obtain ⟨d1, d2, d3⟩ := plainName_ok (B.nm.pg x hg)
  have G2 : FnOk X.prog X.w X.K X.mg X.base CX0 j f fd ps (spIn Z.T S) := by rw [B.prog, B.w, B.K, B.mg, B.base]; exact G
  refine ⟨_, pe_make (ds := []) (dvs := []) (E := E0) (by rw [B.K]; exact hM) G2 (B.room.mono hj) (B.gx hg) (by rw [B.mg]; exact hm) (by rw [B.K]; exact hb) .nil pass0 ea.pa d1 he hpl, fun σ F G H Wr fts Q o Sa q => ⟨F, G, Wr, fts, o, Sa, fun us F1 H1 g1 p1 => ?_⟩⟩
  intro a dx ha hdx nd
  have g2 : Grow Z.T nowhere F1 H1 F1 (upd H1 dx (.own a)) := Grow.made g1.ok hdx
  have ha2 : upd H1 dx (.own a) a = none := by rw [upd_ne (Ne.symm nd)]; exact ha
  have g3 : Grow Z.T nowhere F1 (upd H1 dx (.own a)) F1 (upd (upd H1 dx (.own a)) a (.ins S.C dx [])) := Grow.made g2.ok ha2
  have gg := (g1.step g2).step g3
  have back : ∀ {b : Addr}, upd (upd H1 dx (.own a)) a (.ins S.C dx []) b = none → H b = none := fun {b} z => by
    cases w : H b with
    | none => rfl
    | some o => exact absurd z (gg.th b (by rw [w]; simp))
  have aH : H a = none := by
    cases w : H a with
    | none => rfl
    | some o => exact absurd ha (g1.th a (by rw [w]; simp))
  show spIn Z.T S (.ref a :: (us ++ [])) _ _ E0
  rw [List.append_nil]
  refine ⟨u, a, F1, dx, g3.ok, hp, ⟨us, rfl, ?_⟩, upd_same, g1.ok.free ha, fun F' H' ft g4 r4 hn4 => ⟨rfl, ?_⟩⟩
  · exact AllP.keep (g2.step g3) p1
  · have gT : Grow Z.T nowhere F H F' H' := gg.trans g4 fun b hb => .inr (by rw [hb]; exact aH)
    refine q _ F' H' ft gT r4 fun b hb => ⟨(hn4 b hb).1, ?_⟩
    rcases (hn4 b hb).2 with z | z
    · rw [z]; exact aH
    · exact back z
end
end BF
set_option maxHeartbeats 5000000
namespace BF
open L2 PySem PySem.Spec PyProof.Rows
abbrev S_shI (C : Addr) : InS Sd Sh := { C := C, Ds := fun sd => [.da rSd sd], pre := StandOk, M := mShX C, y := fun sd => shOf sd }
abbrev S_dkI (C CD : Addr) : InS Sd Sh := { C := CD, Ds := fun sd => [.da rText sd], pre := StandOk, M := mDkX CD C, y := fun sd => shOf sd }
def mDkA (CD C a : Addr) : Mp Sh where
  loc := false
  rel := fun st F H ft v => ∃ s : DsA, s.a = a ∧ (mDk CD C s).rel st F H ft v
  mono := fun e k ⟨s, ea, h⟩ => ⟨s, ea, (mDk CD C s).mono e k h⟩
  there := fun ⟨s, ea, h⟩ => (mDk CD C s).there h
/-- the makers of the two classes -/
structure Ki (Z : Zx) (C CD : Addr) : Prop where
  shI : ∃ f fd, Mk Z.K C f ∧ Z.mg "Shelf" = some (.ref C) ∧ FunD Z.K "__init__" "Shelf.__init__" (defArgs s_Shelf_init) (defBody s_Shelf_init) (defScope s_Shelf_init) [] [] f fd
  dkI : ∃ f fd, Mk Z.K CD f ∧ Z.mg "Desk" = some (.ref CD) ∧ FunD Z.K "__init__" "Desk.__init__" (defArgs s_Desk_init) (defBody s_Desk_init) (defScope s_Desk_init) [] [] f fd
section
variable {Z : Zx} {X : Cx} {e : Expr} {Γ : List Sl} {N : List Str} {sc : Scope} {vs ws : List Nat} {gs : List Str} {k : Nat} {pos p pos' : Pos} {D : Fin} {C CD : Addr}
theorem bld_sh {x : Addr} {sd : Sd} {F H : Hp} {ft : List Addr} {v : V} (r : (mBld C x).rel [.tree sd.1, .rows sd.2, .fulls (full_rowsM sd)] F H ft v) : v = .ref x ∧ (mShX C).rel (shOf sd) F H ft v := by
  obtain ⟨dx, fs, as, rfl, h2, h3, h4, h5, h6, h7⟩ := r
  match as, h6 with
  | [a1, a2, a3], ⟨k1, ⟨v1, m1, r1⟩, k2, ⟨v2, m2, r2⟩, k3, ⟨v3, m3, r3⟩, _⟩ =>
    subst h4
    exact ⟨rfl, ⟨x, dx, a1, a2, a3⟩, rfl, rfl, ⟨⟨fs, h2, by simp at h3; omega, k1, k2, k3, fun m hm => h7 m hm⟩, ⟨v1, m1, r1⟩, ⟨v2, m2, r2⟩, ⟨v3, m3, r3⟩, h5⟩⟩
theorem c_Shelf_init (E : Top Z) (DD : Ds Z) (K : Kl Z C CD) (KI : Ki Z C CD) : MakX Z "Shelf" C 7 (spIn Z.T (S_shI C)) := by
  obtain ⟨f, fd, hM, hm, FD⟩ := KI.shI
  obtain ⟨hS, nm⟩ := dfB_ok (N := ["self", "stand", "row"]) (ps := ["self", "stand"]) (sc := defScope s_Shelf_init) (vs := [0, 1]) (gs := ["list", "full_rows"]) (by decide +kernel)
  refine ⟨f, fd, ["self", "stand"], hM, hm, FD.bindsN (fun _ _ _ _ _ _ us hl => match us, hl with | [_, _], _ => rfl), fn_init (n := 1) FD (S_shI C) hS nm (fun _ => rfl) (fun _ => rfl) rfl fun X B sd a hs => ?_⟩
  have hs : StandOk sd := hs
  have l40 := hs.tree.l2
  have hl := hs.len
  refine dos_cons (do_attrP (ps := []) B 0 (.tree sd.1) K.sh (en_listT B E (ev_fst (ev_var B 1)).t) (fun F us r => r) rfl (by simp) (by decide) ?_)
  refine dos_cons (do_attrP (ps := [.tree sd.1]) B 0 (.rows sd.2) K.sh (en_lc (f := fun r => r) (S := rLst rInt) B [("row", 2)] [2] ["list"] (gi_t (ev_snd (ev_var B 1))) (show sd.2.length ≤ 1000000 by omega) (fun X' B' => (ga_name B' 2)) (fun X' B' x hx => (ev_listT B' E (ev_var B' 2).t))) (fun F us r => by rw [List.map_id'] at r; exact r) rfl (by show ("rows" : Str) ∉ [("tree" : Str)]; decide +kernel) (by simp) ?_)
  refine dos_one (do_attrP (ps := [.tree sd.1, .rows sd.2]) B 0 (.fulls (full_rowsM sd)) K.sh (en_call1 B (c_full_rowsN E DD) (ev_var B 1) (fr_ok hs)) (fun F us r => r) rfl (by show ("fulls" : Str) ∉ [("tree" : Str), ("rows" : Str)]; decide +kernel) (by simp) ?_)
  exact ⟨_, _, _, rfl, fun F H ft v r => bld_sh r⟩
/-- self.shelf = a new shelf -/
theorem do_attrS (B : Bd Z X N sc vs ws gs k) (i : Nat) {n : Str} {x : Addr} {st : Sh} (K : ClsOk Z.K CD ["shelf"]) (a : EN Z X e Γ (mShX C) st) (h : D.nx (Γ.set i (.mu (mDkA CD C x) st))) (hi : N[i]? = some n := by rfl) (hv : i ∈ vs := by decide) (hΓ : Γ[i]? = some (.mu (mBld CD x) []) := by rfl) (nv : noVw Γ = true := by rfl)
    (hs : swapsWith e (some (.Attribute (.Name n p) "shelf" pos')) pos.line X.env = pure false := by rfl) : DO Z X (.Assign [.Attribute (.Name n p) "shelf" pos'] e pos) Γ D := by
  obtain ⟨d1, d2, _⟩ := plainName_ok (B.nm.pn i hv n hi)
  have pn : PE X (.Name n p) (tVar i) := pe_var (i := i) (by rw [B.eN]; exact hi) (by rw [B.eSc]; exact B.nm.vis i hv n hi) d1 d2
  obtain ⟨te, he, hr⟩ := a
  refine DO.of (ps_fld pn he hs) fun σ F0 G F H Wr fts g S => hr σ F G H Wr fts _ g.ok S fun v F1 H1 ft1 g1 r1 hn1 => ?_
  have S1 := S.grow g1
  obtain ⟨_, ev, ⟨dx, fs, as, rfl, h2, h3, h4, h5, h6, h7⟩, mk⟩ := S1.mu hΓ
  match as, h6 with
  | [], _ =>
    obtain ⟨s, rfl, rfl, xs⟩ := r1
    have xin : x ∈ fts i := by rw [h4]; simp
    have hi' : i < Γ.length := (List.getElem?_eq_some_iff.mp hΓ).1
    have hfs : fs = [] := List.length_eq_zero_iff.mp (by simpa using h3)
    subst hfs
    have las : x ∉ s.ft := fun z => by
      obtain ⟨_, _, o, ho, _⟩ := S.there xin
      rw [(hn1 x z).2] at ho; cases ho
    refine ⟨_, ev, x, CD, dx, [], rfl, h2, by rw [B.K]; exact K.c, by rw [B.K]; exact K.na _ (by simp), by simp, ?_⟩
    have g3 : Grow Z.T (fun a => a ∈ fts i) F H F1 (upd H1 x (.ins CD dx (putF "shelf" (.ref s.a) []))) := (Grow.weak g1).mut h2 ins_nt ins_nc (S1.there xin).1 (.inl xin)
    have xs2 : ShAt C s st F1 (upd H1 x (.ins CD dx (putF "shelf" (.ref s.a) []))) := xs.mono (Same.refl _) fun b hb => upd_ne fun z => las (z ▸ hb)
    have r3 : (mDkA CD C x).rel st F1 (upd H1 x (.ins CD dx (putF "shelf" (.ref s.a) []))) (x :: s.ft) (.ref x) :=
      ⟨⟨x, dx, s⟩, rfl, rfl, rfl, ⟨⟨_, upd_same, by simp [putF], by rw [lookup_putF, if_pos rfl], fun m hm => by rw [lookup_putF, if_neg hm]; rfl⟩, xs2, las⟩⟩
    obtain ⟨fts', z1, z2⟩ := set_ends (M := mDkA CD C x) (y := st) (v := .ref x) (ft := x :: s.ft) g S hi' g3 r3 (fun b hb => by
      rcases List.mem_cons.mp hb with e | e
      · rw [e]; exact ⟨(S1.there xin).1, .inl xin⟩
      · exact ⟨(hn1 b e).1, .inr (hn1 b e).2⟩) (fun z => nomatch z) nv
    rw [set_same S.len hi' ev] at z2
    exact ⟨F1, _, fts', z1, z2, h⟩
theorem c_Desk_init (E : Top Z) (DD : Ds Z) (K : Kl Z C CD) (KI : Ki Z C CD) : MakX Z "Desk" CD 9 (spIn Z.T (S_dkI C CD)) := by
  obtain ⟨f, fd, hM, hm, FD⟩ := KI.dkI
  obtain ⟨hS, nm⟩ := dfB_ok (N := ["self", "text"]) (ps := ["self", "text"]) (sc := defScope s_Desk_init) (vs := [0, 1]) (gs := ["Shelf", "read_stand"]) (by decide +kernel)
  refine ⟨f, fd, ["self", "text"], hM, hm, FD.bindsN (fun _ _ _ _ _ _ us hl => match us, hl with | [_, _], _ => rfl), fn_init (n := 0) FD (S_dkI C CD) hS nm (fun _ => rfl) (fun _ => rfl) rfl fun X B sd a hs => ?_⟩
  have hs : StandOk sd := hs
  refine dos_one (do_attrS B 0 K.dk (en_make (S := S_shI C) B (c_Shelf_init E DD K KI) sd (ea1 (ev_call1 B (c_read_stand E DD) (ev_var B 1) hs)) hs) ?_)
  exact ⟨_, _, _, rfl, fun F H ft v ⟨s, ea, h⟩ => ⟨by rw [h.1, ea], s, h⟩⟩
end
end BF
set_option maxHeartbeats 5000000
namespace BF
open L2 PySem PySem.Spec PyProof.Rows
/-! ## the law's script: a list that nobody changes, known whole or frozen -/
def rScr : Rp (List Int) := ⟨fun xs F v => ∃ l, v = .ref l ∧ Rd F l (.lst (xs.map V.int)), fun s ⟨l, e, h⟩ => ⟨l, e, h.elim (fun h => .inl (s _ _ h)) fun ⟨o, h⟩ => .inr ⟨o, s _ _ h⟩⟩⟩
theorem scr_sq {T : Tbs} {K : PySem.W.Frag} {F H : Hp} {l : Addr} {xs : List Int} (o : Ok T F H) (h : Rd F l (.lst (xs.map V.int))) : SqL K H l (xs.map V.int) := .inl (h.elim (fun h => .inl (o.sub _ _ h)) fun ⟨u, h⟩ => .inr ⟨u, o.sub _ _ h⟩)
section
variable {Z : Zx} {X : Cx} {e e1 e2 : Expr} {Γ : List Sl} {N : List Str} {sc : Scope} {vs ws : List Nat} {gs : List Str} {k : Nat} {pos p : Pos}
theorem ev_lenC (B : Bd Z X N sc vs ws gs k) (E : Top Z) {xs : List Int} (a : EV Z X e Γ (pd rScr xs)) (hg : ("len" : Str) ∈ gs := by decide +kernel) (he : starEach (e :: []) X.env = (false, eval e X.env) :: starEach [] X.env := by rfl) : EV Z X (.Call (.Name "len" p) [e] [] pos) Γ (pd rInt (xs.length : Int)) :=
  b1 B E (.v1 (P := pd rScr xs) call_len_seq fun F H v o ⟨l, ev, hl⟩ Q q => ⟨l, xs.map V.int, by rw [ev], .inl (scr_sq o hl), by rw [List.length_map]; exact q _ F H (Grow.refl o) rfl⟩) PySem.boot_len a hg (by decide +kernel) he
theorem ev_ixC {xs : List Int} {x i : Int} (a : EV Z X e1 Γ (pd rScr xs)) (b : EV Z X e2 Γ (pd rInt i)) (h : 0 ≤ i) (hx : xs[i.toNat]? = some x) (hp : PlainIx e2 := by exact fun _ _ => rfl) : EV Z X (.Subscript e1 e2 pos) Γ (pd rInt x) :=
  EV.of (pe_ix ix_list a.pe b.pe hp) fun σ F G H Wr fts Q o S q => ⟨F, G, Wr, fts, o, S, fun v F1 H1 g1 p1 => ⟨F1, G, Wr, fts, g1.ok, S.grow g1, fun w F2 H2 g2 p2 => by
    obtain ⟨l, ev, hl⟩ := rScr.mono g2.ef p1
    exact ⟨l, xs.map V.int, i, V.int x, ev, p2, scr_sq g2.ok hl, at_of (j := i.toNat) (by omega) (by rw [List.getElem?_map, hx]; rfl), q (V.int x) F2 H2 (g1.step g2) rfl⟩⟩⟩
end
/-! ## the law's state -/
structure LSt where
  scr : List Int
  at_ : Int
  left : Int
def LsOk (y : LSt) : Prop := 0 ≤ y.at_ ∧ 0 ≤ y.left
abbrev lsU (sv : V) (a l : Int) : List (Key × V) := [(.inr "script", sv), (.inr "at", .int a), (.inr "left", .int l)]
theorem ls_n1 : ("script" : Str) ≠ "at" := by decide +kernel
theorem ls_n2 : ("script" : Str) ≠ "left" := by decide +kernel
theorem ls_n3 : ("at" : Str) ≠ "left" := by decide +kernel
theorem ls_v1 (sv : V) (a l : Int) : valV (lsU sv a l) (.inr "script") = some sv := by simp [valV]
theorem ls_v2 (sv : V) (a l : Int) : valV (lsU sv a l) (.inr "at") = some (.int a) := by simp [valV, ls_n1]
theorem ls_v3 (sv : V) (a l : Int) : valV (lsU sv a l) (.inr "left") = some (.int l) := by simp [valV, ls_n2, ls_n3]
theorem ls_p2 (sv : V) (a l b : Int) : putK (lsU sv a l) (.inr "at") (.int b) = lsU sv b l := by simp [putK, ls_n1, Ne.symm ls_n3]
theorem ls_p3 (sv : V) (a l b : Int) : putK (lsU sv a l) (.inr "left") (.int b) = lsU sv a b := by simp [putK, ls_n2, ls_n3]
def mLs (a : Addr) : Mp LSt where
  loc := false
  rel := fun st F H ft v => v = .ref a ∧ ft = [a] ∧ ∃ sv, H a = some (.dK (lsU sv st.at_ st.left)) ∧ rScr.rel st.scr F sv
  mono := fun s k ⟨h1, h2, sv, h3, h4⟩ => ⟨h1, h2, sv, by rw [k a (by rw [h2]; simp)]; exact h3, rScr.mono s h4⟩
  there := fun ⟨h1, h2, sv, h3, h4⟩ b hb => by
    rw [h2] at hb
    rw [List.mem_singleton.mp hb]
    exact ⟨_, h3, dK_nt⟩
theorem pin_ls {a : Addr} : Pin (mLs a) a [a] := ⟨fun r => ⟨r.1, r.2.1⟩, rfl⟩
section
variable {Z : Zx} {X : Cx} {e : Expr} {Γ : List Sl} {N : List Str} {sc : Scope} {vs ws : List Nat} {gs : List Str} {k : Nat} {pos p pos' : Pos} {D : Fin} {α : Type} {R : Rp α}
/-- state[key] -/
theorem ev_ls (B : Bd Z X N sc vs ws gs k) (i : Nat) {n key : Str} {jj : Nat} {p2 : Pos} {a : Addr} {st : LSt} {x : α} (hval : ∀ sv F, rScr.rel st.scr F sv → ∃ u, valV (lsU sv st.at_ st.left) (.inr key) = some u ∧ R.rel x F u) (hi : N[i]? = some n := by rfl) (hv : i ∈ vs := by decide) (hΓ : Γ[i]? = some (.mu (mLs a) st) := by rfl) (hs : NoSl (.Constant (.str key) jj p2) := by exact fun _ _ => rfl) : EV Z X (.Subscript (.Name n p) (.Constant (.str key) jj p2) pos) Γ (pd R x) := by
  obtain ⟨d1, d2, _⟩ := plainName_ok (B.nm.pn i hv n hi)
  have pn : PE X (.Name n p) (tVar i) := pe_var (i := i) (by rw [B.eN]; exact hi) (by rw [B.eSc]; exact B.nm.vis i hv n hi) d1 d2
  refine EV.of (pe_dget (hu1 B) pn (ev_str (Z := Z) (Γ := Γ)).pe hs) fun σ F G H Wr fts Q o S q => ?_
  obtain ⟨v, ev, ⟨rfl, ef, sv, hl, r⟩, mk⟩ := S.mu hΓ
  refine ⟨_, ev, F, G, Wr, fts, o, S, fun w F1 H1 g1 p1 => ?_⟩
  obtain rfl : w = V.str key := p1
  have hl1 : H1 a = some (.dK (lsU sv st.at_ st.left)) := g1.eh a _ (fun w => w) hl dK_nt
  obtain ⟨u, hu, ru⟩ := hval sv F1 (rScr.mono g1.ef r)
  refine ⟨a, u, rfl, ?_, q u F1 H1 g1 ru⟩
  have := DGet.k (k := .inr key) hl1
  rw [hu] at this
  exact this
/-- state[key] = e -/
theorem do_ls (B : Bd Z X N sc vs ws gs k) (i : Nat) {n key : Str} {jj : Nat} {p2 : Pos} {a : Addr} (st st' : LSt) {y : Int} (ea : EV Z X e Γ (pd rInt y)) (hput : ∀ sv, putK (lsU sv st.at_ st.left) (.inr key) (.int y) = lsU sv st'.at_ st'.left) (hscr : st'.scr = st.scr) (h : D.nx (Γ.set i (.mu (mLs a) st'))) (hi : N[i]? = some n := by rfl) (hv : i ∈ vs := by decide) (hΓ : Γ[i]? = some (.mu (mLs a) st) := by rfl)
    (nv : noVw Γ = true := by rfl) (hs : swapsWith e (some (.Subscript (.Name n p) (.Constant (.str key) jj p2) pos')) pos.line X.env = pure false := by rfl) : DO Z X (.Assign [.Subscript (.Name n p) (.Constant (.str key) jj p2) pos'] e pos) Γ D := by
  obtain ⟨d1, d2, _⟩ := plainName_ok (B.nm.pn i hv n hi)
  have pn : PE X (.Name n p) (tVar i) := pe_var (i := i) (by rw [B.eN]; exact hi) (by rw [B.eSc]; exact B.nm.vis i hv n hi) d1 d2
  refine DO.of (ps_dput (hu1 B) pn (ev_str (Z := Z) (Γ := Γ)).pe ea.pe hs) fun σ F0 G F H Wr fts g S => ⟨F, G, Wr, fts, g.ok, S, fun v F1 H1 g1 p1 => ?_⟩
  obtain rfl : v = V.int y := p1
  have S1 := S.grow g1
  obtain ⟨_, ev, _, _⟩ := S1.mu hΓ
  refine ⟨_, ev, F1, G, Wr, fts, g1.ok, S1, fun w F2 H2 g2 p2 => ?_⟩
  obtain rfl : w = V.str key := p2
  have S2 := S1.grow g2
  obtain ⟨v2, ev2, ⟨rfl, ef, sv, hl, r⟩, mk⟩ := S2.mu hΓ
  rw [ev] at ev2
  cases ev2
  have hm : a ∈ fts i := by rw [ef]; simp
  have hi' : i < Γ.length := (List.getElem?_eq_some_iff.mp hΓ).1
  refine ⟨a, _, rfl, DPut.k (k := .inr key) hl (by rw [sizeLine_eq]; simp), ?_⟩
  rw [hput]
  have g3 : Grow Z.T (fun a => a ∈ fts i) F2 H2 F2 (upd H2 a (.dK (lsU sv st'.at_ st'.left))) := (Grow.refl g2.ok).mut hl dK_nt dK_nc (S2.there hm).1 (.inl hm)
  obtain ⟨fts', x1, x2⟩ := set_ends (M := mLs a) (y := st') (v := .ref a) (ft := [a]) ((g.step g1).step g2) S2 hi' g3 ⟨rfl, rfl, sv, upd_same, by rw [hscr]; exact r⟩ (fun b hb => by
    rw [← ef] at hb; exact ⟨(S2.there hb).1, .inl hb⟩) (fun z => nomatch z) nv
  rw [set_same S2.len hi' ev] at x2
  exact ⟨F2, _, fts', x1, x2, h⟩
end
abbrev S_take : EfS (Addr × LSt × Int) Int LSt := { M := fun u => mLs u.1, a := fun u => u.1, L := fun u => [u.1], x := fun u => u.2.1, Ds := fun u => [.da rInt u.2.2], pre := fun u => LsOk u.2.1 ∧ 0 < u.2.2 ∧ u.2.2 < 1073741824, R := rInt, rt := fun u z y => LsOk y ∧ 0 ≤ z ∧ z < u.2.2 }
section
variable {Z : Zx}
theorem c_law_take (E : Top Z) (D : Ds Z) : CalX Z "_law_take" 2 (spEf Z.T S_take) :=
  calx_eff (ps := ["_law_state", "_law_most"]) ["_law_state", "_law_most", "_law_k", "_law_script", "_law_cell", "_law_found"] [0, 1, 2, 3, 4, 5] ["len", "abs", "_law_mixed"] 4 D.law_take (fun _ _ _ _ _ _ us hl => match us, hl with | [_, _], _ => rfl) S_take (fun X B u hu => by
    obtain ⟨a, st, most⟩ := u
    obtain ⟨ok, m0, m1⟩ := hu
    have ok : LsOk st := ok
    have m0 : 0 < most := m0
    have m1 : most < 1073741824 := m1
    obtain ⟨ok1, ok2⟩ := ok
    have fin : ∀ (st2 : LSt) (Γ : List Sl) (s4 : Sl), LsOk st2 → noVw [s4] = true → Γ = [.mu (mLs a) st2, .da rInt most, .da rInt st.at_, .da rScr st.scr, s4, .un] → DOs Z X ((defBody s_law_take).drop 3) Γ (dE S_take (a, st, most)) := fun st2 Γ s4 ok' hs4 hΓ => by
      subst hΓ
      have nv : noVw [.mu (mLs a) st2, .da rInt most, .da rInt st.at_, .da rScr st.scr, s4, .da rInt (st2.left % most)] = true := by
        simp only [noVw, List.all_cons, List.all_nil, Bool.and_true] at hs4 ⊢
        rw [hs4]; rfl
      refine dos_cons (do_set B 5 (ev_bin (ev_ls (R := rInt) (x := st2.left) B 0 (fun sv F _ => ⟨_, ls_v3 _ _ _, rfl⟩)) (ev_var B 1) (od_mod m0)) ?_)
      refine dos_cons (do_ls B 0 st2 ⟨st2.scr, st2.at_, st2.left / most⟩ (ev_bin (ev_ls (R := rInt) (x := st2.left) B 0 (fun sv F _ => ⟨_, ls_v3 _ _ _, rfl⟩)) (ev_var B 1) (od_div ⟨m0, m1⟩)) (fun sv => ls_p3 _ _ _ _) rfl ?_ (nv := nv))
      refine dos_one (do_ret (ev_var B 5) ?_)
      exact ⟨_, _, rfl, ⟨⟨ok'.1, Int.ediv_nonneg ok'.2 (Int.le_of_lt m0)⟩, Int.emod_nonneg _ (by omega), Int.emod_lt_of_pos _ m0⟩, fun G T F H v o p => p⟩
    refine dos_cons (do_set B 2 (ev_ls (R := rInt) (x := st.at_) B 0 (fun sv F _ => ⟨_, ls_v2 _ _ _, rfl⟩)) ?_)
    refine dos_cons (do_set B 3 (ev_ls (R := rScr) (x := st.scr) B 0 (fun sv F h => ⟨_, ls_v1 _ _ _, h⟩)) ?_)
    refine dos_cons (do_if (et_cmp (ev_ls (R := rInt) (x := st.left) B 0 (fun sv F _ => ⟨_, ls_v3 _ _ _, rfl⟩)) ev_int (od_eq sc_int)) (fun h => ?_) (fun h => dos_nil (fin st _ .un ⟨ok1, ok2⟩ rfl rfl)))
    refine dos_cons (do_ls B 0 st ⟨st.scr, st.at_ + 1, st.left⟩ (ev_bin (ev_var B 2) ev_int od_add) (fun sv => ls_p2 _ _ _ _) rfl ?_)
    refine dos_cons (do_set B 4 ev_int ?_)
    refine dos_midP (fun Γ' => ∃ c : Int, Γ' = [.mu (mLs a) ⟨st.scr, st.at_ + 1, st.left⟩, .da rInt most, .da rInt st.at_, .da rScr st.scr, .da rInt c, .un]) ?_ fun Γ' hΓ => ?_
    · refine do_if (et_cmp (ev_lenC B E (ev_var B 3)) ev_int od_gt) (fun h2 => ?_) (fun _ => dos_nil ⟨0, rfl⟩)
      have h2 := of_decide_eq_true h2
      have hlt := Int.emod_lt_of_pos st.at_ h2
      have hge := Int.emod_nonneg st.at_ (show (st.scr.length : Int) ≠ 0 by omega)
      exact dos_one (do_set B 4 (ev_ixC (x := st.scr.getD (st.at_ % st.scr.length).toNat 0) (ev_var B 3) (ev_bin (ev_var B 2) (ev_lenC B E (ev_var B 3)) (od_mod h2)) hge (at_getD 0 (by omega))) ⟨_, rfl⟩)
    obtain ⟨c, rfl⟩ := hΓ
    refine dos_cons (do_if (et_or2 (et_cmp (ev_var B 2) (ev_lenC B E (ev_var B 3)) od_ge) fun _ => et_cmp (ev_abs B E (ev_var B 4)) (ev_bin ev_int ev_int (od_pow ⟨by decide, by decide, by decide⟩)) od_lt) (fun _ => ?_) (fun _ => dos_nil ?_))
    · exact dos_one (do_ret (ev_bin (ev_call2 B (c_law_mixed E D) (ev_var B 4) (ev_var B 2) trivial) (ev_var B 1) (od_mod m0)) ⟨_, _, rfl, ⟨⟨by show 0 ≤ st.at_ + 1; omega, ok2⟩, Int.emod_nonneg _ (by omega), Int.emod_lt_of_pos _ m0⟩, fun G T F H v o p => p⟩)
    refine dos_cons (do_ls B 0 ⟨st.scr, st.at_ + 1, st.left⟩ ⟨st.scr, st.at_ + 1, (c.natAbs : Int)⟩ (ev_abs B E (ev_var B 4)) (fun sv => ls_p3 _ _ _ _) rfl (dos_nil ?_))
    exact fin _ _ (.da rInt c) ⟨by show 0 ≤ st.at_ + 1; omega, by show (0 : Int) ≤ (c.natAbs : Int); omega⟩ rfl rfl) fun u => pin_ls
end
end BF
set_option maxHeartbeats 5000000
namespace BF
open L2 PySem PySem.Spec PyProof.Rows
/-! ## more rules with effects -/
/-- arguments that may have effects -/
def EEA {α : Type} (Z : Zx) (X : Cx) (es : List Expr) (Γ : List Sl) (R : Rp α) (Φ : List α → List Sl → Prop) (ψ : XC) : Prop :=
  ∀ (pos : Pos) (pins : List (Addr × Obj)) (s : Shared) (σ : Sg) (F0 G F H : Hp) (Wr : Addr → Prop) (fts : Nat → List Addr) (Q : List V → Hp → Prop), Inv X pins σ H s → Grow Z.T Wr F0 G F H → Sat Wr F G H Γ σ fts → Takes X (xw Z.T Wr F0 G ψ) →
    (∀ us F' H' fts' Γ' xs, Grow Z.T Wr F0 G F' H' → Same F F' → Sat Wr F' G H' Γ' σ fts' → RL R F' xs us → Φ xs Γ' → Q us H') → wpAny (model X.prog X.w) X.A (spliced (backTo pos (starEach es X.env))) (AP X pins σ Q) X.xe s
def tEEA (Z : Zx) (X : Cx) (es : List Expr) : TA := fun σ H Q => ∃ (α : Type) (R : Rp α) (Φ : List α → List Sl → Prop) (ψ : XC) (Γ : List Sl) (F0 G F : Hp) (Wr : Addr → Prop) (fts : Nat → List Addr), EEA Z X es Γ R Φ ψ ∧ Grow Z.T Wr F0 G F H ∧ Sat Wr F G H Γ σ fts ∧ Takes X (xw Z.T Wr F0 G ψ) ∧
  ∀ us F' H' fts' Γ' xs, Grow Z.T Wr F0 G F' H' → Same F F' → Sat Wr F' G H' Γ' σ fts' → RL R F' xs us → Φ xs Γ' → Q us H'
section
variable {Z : Zx} {X : Cx} {e e1 e2 e3 tg iter : Expr} {es : List Expr} {body : List Stmt} {Γ : List Sl} {P P1 P2 S : Pv} {N : List Str} {sc : Scope} {vs ws : List Nat} {gs : List Str} {k j i : Nat} {pos p pos' : Pos} {D : Fin} {α β γ : Type} {R : Rp α} {R1 : Rp β} {R2 : Rp γ} {ψ : XC}
theorem pa_eea : PA X es (tEEA Z X es) := ⟨fun pos pins s σ H Q I ⟨α, R, Φ, ψ, Γ, F0, G, F, Wr, fts, h, g, S, tk, q⟩ => h pos pins s σ F0 G F H Wr fts Q I g S tk q⟩
theorem eea_nil {Φ : List α → List Sl → Prop} (h : Φ [] Γ) : EEA Z X [] Γ R Φ ψ := fun pos pins s σ F0 G F H Wr fts Q I g S tk q => (pa_nil (X := X)).run pos pins s σ H Q I (q [] F H fts Γ [] g (Same.refl _) S trivial h)
theorem eea_cons {φ : α → List Sl → Prop} {Φ : List α → List Sl → Prop} (a : EE Z X e Γ R φ ψ) (r : ∀ x Γ1, φ x Γ1 → EEA Z X es Γ1 R (fun xs Γ' => Φ (x :: xs) Γ') ψ) (hs : starEach (e :: es) X.env = (false, eval e X.env) :: starEach es X.env := by rfl) : EEA Z X (e :: es) Γ R Φ ψ :=
  fun pos pins s σ F0 G F H Wr fts Q I g S tk q => (pa_cons (pe_ee (Z := Z)) (pa_eea (Z := Z)) hs).run pos pins s σ H Q I ⟨_, R, φ, ψ, Γ, F0, G, F, Wr, fts, a, g, S, tk, fun v F1 H1 ft1 Γ1 x g1 s1 S1 r1 h1 =>
    ⟨_, R, _, ψ, Γ1, F0, G, F1, Wr, ft1, r x Γ1 h1, g1, S1, tk, fun us F2 H2 ft2 Γ2 xs g2 s2 S2 r2 h2 => q (v :: us) F2 H2 ft2 Γ2 (x :: xs) g2 (s1.trans s2) S2 ⟨R.mono s2 r1, r2⟩ h2⟩⟩
/-- [..] -/
theorem ee_list {Φ : List α → List Sl → Prop} (a : EEA Z X es Γ R Φ ψ) (hz : ∀ xs Γ', Φ xs Γ' → xs.length ≤ 1000000) : EE Z X (.List es pos) Γ (rLst R) Φ ψ :=
  EE.of (pe_lst pa_eea) fun σ F0 G F H Wr fts Q g S tk q => ⟨_, R, Φ, ψ, Γ, F0, G, F, Wr, fts, a, g, S, tk, fun us F1 H1 ft1 Γ1 xs g1 s1 S1 r1 h1 => by
    have hz' := hz xs Γ1 h1
    refine ⟨by rw [r1.len, sizeLine_eq]; omega, fun l hl => ?_⟩
    have g2 : Grow Z.T nowhere F1 H1 (upd F1 l (.lst us)) (upd H1 l (.lst us)) := Grow.laid g1.ok hl lst_nt
    exact q _ _ _ ft1 Γ1 xs (g1.step g2) (s1.trans g2.ef) (S1.grow g2) ⟨l, us, rfl, upd_same, r1.mono g2.ef⟩ h1⟩
/-- max(a, b) -/
theorem ee_max2 {φ : Int → List Sl → Prop} (B : Bd Z X N sc vs ws gs k) (E : Top Z) (a : EEA Z X [e1, e2] Γ rInt (fun xs Γ' => ∃ i j, xs = [i, j] ∧ φ (max i j) Γ') ψ) (hg : ("max" : Str) ∈ gs := by decide +kernel) (he : starEach (e1 :: [e2]) X.env = (false, eval e1 X.env) :: starEach [e2] X.env := by rfl) (hpl : (backTo pos (starEach [e2] X.env)).any (·.1) = false := by rfl) : EE Z X (.Call (.Name "max" p) [e1, e2] [] pos) Γ rInt φ ψ :=
  EE.of (pe_callB (call_max2 B.calm) (B.gx hg) (by rw [B.mg]; exact E.f "max") (by decide +kernel) pa_eea (by decide +kernel) (by decide +kernel) he hpl) fun σ F0 G F H Wr fts Q g S tk q => ⟨_, rInt, _, ψ, Γ, F0, G, F, Wr, fts, a, g, S, tk, fun us F1 H1 ft1 Γ1 xs g1 s1 S1 r1 ⟨i, j, e, h1⟩ => by
    subst e
    match us, r1 with
    | [v, w], ⟨rv, rw_, _⟩ => exact ⟨i, j, by rw [show v = V.int i from rv, show w = V.int j from rw_], q _ F1 H1 ft1 Γ1 (max i j) g1 s1 S1 (congrArg V.int (by split <;> omega)) h1⟩⟩
/-- xs[i] -/
theorem ee_ix {φ1 : List α → List Sl → Prop} {φ2 : List α → Int → List Sl → Prop} {φ : α → List Sl → Prop} (a : EE Z X e1 Γ (rLst R) φ1 ψ) (b : ∀ xs Γ1, φ1 xs Γ1 → EE Z X e2 Γ1 rInt (φ2 xs) ψ) (h : ∀ xs i Γ2, φ2 xs i Γ2 → 0 ≤ i ∧ ∃ x, xs[i.toNat]? = some x ∧ φ x Γ2) (hp : PlainIx e2 := by exact fun _ _ => rfl) : EE Z X (.Subscript e1 e2 pos) Γ R φ ψ :=
  EE.of (pe_ix ix_list pe_ee pe_ee hp) fun σ F0 G F H Wr fts Q g S tk q => ⟨_, rLst R, φ1, ψ, Γ, F0, G, F, Wr, fts, a, g, S, tk, fun v F1 H1 ft1 Γ1 xs g1 s1 S1 r1 h1 =>
    ⟨_, rInt, φ2 xs, ψ, Γ1, F0, G, F1, Wr, ft1, b xs Γ1 h1, g1, S1, tk, fun w F2 H2 ft2 Γ2 i g2 s2 S2 r2 h2 => by
      obtain ⟨i0, x, hx, h3⟩ := h xs i Γ2 h2
      obtain ⟨l, us, ev, hl, r⟩ := (rLst R).mono s2 r1
      obtain ⟨u, hu, ru⟩ := r.get hx
      exact ⟨l, us, i, u, ev, r2, SqL.of (g2.ok.sub _ _ hl), at_of (j := i.toNat) (by omega) hu, q u F2 H2 ft2 Γ2 x g2 (s1.trans s2) S2 ru h3⟩⟩⟩
/-- (a, b) -/
theorem ee_t2 {φ1 : α → List Sl → Prop} {φ2 : α → β → List Sl → Prop} {kk : Nat} (a : EE Z X e1 Γ R φ1 ψ) (b : ∀ x Γ1, φ1 x Γ1 → EE Z X e2 Γ1 R1 (φ2 x) ψ) (hs : starEach (e1 :: [e2]) X.env = (false, eval e1 X.env) :: starEach [e2] X.env := by rfl) (hs2 : starEach (e2 :: []) X.env = (false, eval e2 X.env) :: starEach [] X.env := by rfl) : EE Z X (.Tuple [e1, e2] kk pos) Γ (rT2 R R1) (fun x Γ' => φ2 x.1 x.2 Γ') ψ :=
  EE.of (pe_tup (pa_cons pe_ee (pa_cons pe_ee pa_nil hs2) hs)) fun σ F0 G F H Wr fts Q g S tk q => ⟨_, R, φ1, ψ, Γ, F0, G, F, Wr, fts, a, g, S, tk, fun v F1 H1 ft1 Γ1 x g1 s1 S1 r1 h1 =>
    ⟨_, R1, φ2 x, ψ, Γ1, F0, G, F1, Wr, ft1, b x Γ1 h1, g1, S1, tk, fun w F2 H2 ft2 Γ2 y g2 s2 S2 r2 h2 => by
      refine ⟨by rw [sizeLine_eq]; simp, fun l hl => ?_⟩
      have g3 : Grow Z.T nowhere F2 H2 (upd F2 l (.tup [v, w])) (upd H2 l (.tup [v, w])) := Grow.laid g2.ok hl tup_nt
      exact q _ _ _ ft2 Γ2 (x, y) (g2.step g3) ((s1.trans s2).trans g3.ef) (S2.grow g3) ⟨l, v, w, rfl, upd_same, R.mono g3.ef (R.mono s2 r1), R1.mono g3.ef r2⟩ h2⟩⟩
/-- a, b = e -/
theorem do_asgE {own : List Nat} {up : α → List Sl → List Sl} {φ : α → List Sl → Prop} (a : EE Z X e Γ R φ D.ex) (g : GA Z X tg R own up) (h : ∀ x Γ1, φ x Γ1 → D.nx (up x Γ1)) (hs : swapsWithSole [tg] e pos.line X.env = pure false := by rfl) (hw : swappedStores [tg] e X.env = pure none := by rfl)
    (h1 : (assignEach [tg] X.env).map (·.2) = [assign tg X.env] := by rfl) : DO Z X (.Assign [tg] e pos) Γ D :=
  DO.ofX (ps_asg pe_ee g.pg hs hw h1) fun σ F0 G F H Wr fts gr S tk => ⟨_, R, φ, D.ex, Γ, F0, G, F, Wr, fts, a, gr, S, tk, fun v F1 H1 ft1 Γ1 x g1 s1 S1 p1 q1 => ⟨F1, G, Wr, ft1, x, Γ1, g1.ok, S1, p1, fun σ' fts' S' _ _ => ⟨F1, _, fts', g1, S', h x Γ1 q1⟩⟩⟩
/-- x.append(e) -/
theorem do_appE (B : Bd Z X N sc vs ws gs k) (i : Nat) {n : Str} {xs : List α} {ap : Pos} {φ : α → List Sl → Prop} (a : EE Z X e Γ R φ D.ex) (hz : xs.length < sizeLine) (hk : ∀ x Γ1, φ x Γ1 → Γ1[i]? = some (.mu (mLst R) xs) ∧ noVw Γ1 = true) (h : ∀ x Γ1, φ x Γ1 → D.nx (Γ1.set i (.mu (mLst R) (xs ++ [x])))) (hi : N[i]? = some n := by rfl) (hv : i ∈ vs := by decide) (hΓ : Γ[i]? = some (.mu (mLst R) xs) := by rfl)
    (hst : starEach (e :: []) X.env = (false, eval e X.env) :: starEach [] X.env := by rfl)
    (hfew : (((backTo pos' (starEach (e :: []) X.env)).all fun x => !x.1) && ((backToKw pos' (keywordEach [] X.env)).all fun x => x.1.isSome) && decide (([e].length + ([] : List Keyword).length + if ([] : List Keyword).isEmpty = true then 0 else 1) < 30)) = true := by rfl)
    (hline : (ap.endLine == pos'.line) = true := by rfl) : DO Z X (.Expr (.Call (.Attribute (.Name n p) "append" ap) [e] [] pos') pos) Γ D := by
  obtain ⟨d1, d2, _⟩ := plainName_ok (B.nm.pn i hv n hi)
  have pn : PE X (.Name n p) (tVar i) := pe_var (i := i) (by rw [B.eN]; exact hi) (by rw [B.eSc]; exact B.nm.vis i hv n hi) d1 d2
  refine DO.ofX (ps_expr (pe_bm PySem.F.plainAttrs_list PySem.F.slot_list_append PySem.F.type_list_append mt_append pn (pa_cons (pe_ee (Z := Z)) pa_nil hst) (hs := hst) (hfew := hfew) (hline := hline))) fun σ F0 G F H Wr fts g S tk => ?_
  obtain ⟨v, ev, ⟨l, us, rfl, ef, hl, r⟩, mk⟩ := S.mu hΓ
  refine ⟨_, ev, .inl ⟨rfl, _, SqL.of hl⟩, ⟨_, R, φ, D.ex, Γ, F0, G, F, Wr, fts, a, g, S, tk, fun w F1 H1 ft1 Γ1 x g1 s1 S1 p1 q1 => ?_⟩⟩
  obtain ⟨k1, nv⟩ := hk x Γ1 q1
  obtain ⟨v2, ev2, ⟨l2, us2, ee, ef2, hl2, r2⟩, mk2⟩ := S1.mu k1
  rw [ev] at ev2
  cases ev2
  cases ee
  refine ⟨l, us2, w, rfl, rfl, hl2, by rw [r2.len]; exact hz, ?_⟩
  have hm : l ∈ ft1 i := by rw [ef2]; simp
  have hi' : i < Γ1.length := (List.getElem?_eq_some_iff.mp k1).1
  have g2 : Grow Z.T (fun a => a ∈ ft1 i) F1 H1 F1 (upd H1 l (.lst (us2 ++ [w]))) := (Grow.refl g1.ok).mut hl2 lst_nt lst_nc (S1.there hm).1 (.inl hm)
  obtain ⟨fts', x1, x2⟩ := set_ends (M := mLst R) (y := xs ++ [x]) (v := .ref l) (ft := [l]) g1 S1 hi' g2 ⟨l, _, rfl, rfl, upd_same, r2.snoc p1⟩ (fun b hb => by
    simp at hb; subst hb; exact ⟨(S1.there hm).1, .inl hm⟩) (fun _ b hb => by simp at hb; rw [hb]; exact .inl ((mk2 l hm).2.2 rfl)) nv
  rw [set_same S1.len hi' ev] at x2
  exact ⟨F1, _, fts', x1, x2, h x Γ1 q1⟩
/-! ### loops -/
def GIE {α : Type} (Z : Zx) (X : Cx) (tg iter : Expr) (Γ : List Sl) (R : Rp α) (φ : List α → List Sl → Prop) (ψ : XC) : Prop :=
  ∃ wi : TI, PI X tg iter wi ∧ ∀ (σ : Sg) (F0 G F H : Hp) (Wr : Addr → Prop) (fts : Nat → List Addr) (Rk : It → Hp → Prop), Grow Z.T Wr F0 G F H → Sat Wr F G H Γ σ fts → Takes X (xw Z.T Wr F0 G ψ) →
    (∀ J F1 H1 fts1 Γ1 xs, Grow Z.T Wr F0 G F1 H1 → Same F F1 → Sat Wr F1 G H1 Γ1 σ fts1 → Walk Z.T true J F1 H1 R xs → φ xs Γ1 → Rk J H1) → wi σ H Rk
theorem gie_range1 {φ : List Int → List Sl → Prop} {φ0 : Int → List Sl → Prop} (B : Bd Z X N sc vs ws gs k) (E : Top Z) (a : EE Z X e Γ rInt φ0 ψ) (h : ∀ n Γ', φ0 n Γ' → small62 n ∧ φ (rg 0 n) Γ') (hg : ("range" : Str) ∈ gs := by decide +kernel) (hs : starEach [e] X.env = [(false, eval e X.env)] := by rfl) (hs2 : starEach (e :: []) X.env = (false, eval e X.env) :: starEach [] X.env := by rfl) :
    GIE Z X tg (.Call (.Name "range" p) [e] [] pos) Γ rInt φ ψ :=
  ⟨_, pi_range1 (B.gx hg) (by rw [B.mg]; exact E.f "range") (pa_cons pe_ee pa_nil hs2) hs, fun σ F0 G F H Wr fts Rk g S tk q => ⟨_, rInt, φ0, ψ, Γ, F0, G, F, Wr, fts, a, g, S, tk, fun v F1 H1 ft1 Γ1 n g1 s1 S1 r1 h1 => by
    obtain ⟨hs, hφ⟩ := h n Γ1 h1
    obtain rfl : v = V.int n := r1
    refine ⟨n, rfl, hs.1, hs.2, ?_⟩
    have := walk_rg (T := Z.T) (fz := true) (F1 := F1) (H1 := H1) 0 n
    rw [Int.sub_zero] at this
    exact q _ F1 H1 ft1 Γ1 _ g1 s1 S1 this hφ⟩⟩
theorem gie_range2 {φ : List Int → List Sl → Prop} {φ1 : Int → List Sl → Prop} {φ2 : Int → Int → List Sl → Prop} (B : Bd Z X N sc vs ws gs k) (E : Top Z) (a : EE Z X e1 Γ rInt φ1 ψ) (b : ∀ lo Γ1, φ1 lo Γ1 → EE Z X e2 Γ1 rInt (φ2 lo) ψ) (h : ∀ lo hi Γ', φ2 lo hi Γ' → small62 lo ∧ small62 hi ∧ φ (rg lo hi) Γ') (hg : ("range" : Str) ∈ gs := by decide +kernel)
    (hs : starEach [e1, e2] X.env = [(false, eval e1 X.env), (false, eval e2 X.env)] := by rfl) (hs2 : starEach [e2] X.env = [(false, eval e2 X.env)] := by rfl)
    (hs3 : starEach (e1 :: [e2]) X.env = (false, eval e1 X.env) :: starEach [e2] X.env := by rfl) (hs4 : starEach (e2 :: []) X.env = (false, eval e2 X.env) :: starEach [] X.env := by rfl) :
    GIE Z X tg (.Call (.Name "range" p) [e1, e2] [] pos) Γ rInt φ ψ :=
  ⟨_, pi_range2 (B.gx hg) (by rw [B.mg]; exact E.f "range") (pa_cons pe_ee (pa_cons pe_ee pa_nil hs4) hs3) hs hs2, fun σ F0 G F H Wr fts Rk g S tk q => ⟨_, rInt, φ1, ψ, Γ, F0, G, F, Wr, fts, a, g, S, tk, fun v F1 H1 ft1 Γ1 lo g1 s1 S1 r1 h1 =>
    ⟨_, rInt, φ2 lo, ψ, Γ1, F0, G, F1, Wr, ft1, b lo Γ1 h1, g1, S1, tk, fun w F2 H2 ft2 Γ2 hi g2 s2 S2 r2 h2 => by
      obtain ⟨z1, z2, hφ⟩ := h lo hi Γ2 h2
      obtain rfl : v = V.int lo := r1
      obtain rfl : w = V.int hi := r2
      exact ⟨lo, hi, rfl, ⟨z1.1, z1.2, z2.1, z2.2⟩, q _ F2 H2 ft2 Γ2 _ g2 (s1.trans s2) S2 (walk_rg lo hi) hφ⟩⟩⟩⟩
theorem gie_t {φ : List α → List Sl → Prop} (a : EE Z X iter Γ (rTpl R) φ ψ) : GIE Z X tg iter Γ R φ ψ :=
  ⟨_, pi_tup pe_ee, fun σ F0 G F H Wr fts Rk g S tk q => ⟨_, rTpl R, φ, ψ, Γ, F0, G, F, Wr, fts, a, g, S, tk, fun v F1 H1 ft1 Γ1 xs g1 s1 S1 ⟨l, us, ev, hl, r⟩ h1 => ⟨l, ev, ⟨us, SqT.of (g1.ok.sub _ _ hl)⟩, q _ F1 H1 ft1 Γ1 xs g1 s1 S1 (fun i F2 H2 o2 s2 k2 => by
    have hl2 := o2.sub _ _ (s2 _ _ hl)
    refine ⟨fun x hx => ?_, fun hi => ⟨us, SqT.of hl2, by rw [r.len, hi]; exact Nat.le_refl _⟩⟩
    obtain ⟨u, hu, ru⟩ := r.get hx
    refine ⟨⟨us, u, SqT.of hl2, hu⟩, fun v' H' y => ?_⟩
    obtain ⟨e', y⟩ := y
    subst e'
    have := y us (SqT.of hl2)
    rw [hu] at this
    cases this
    exact ⟨F2, Grow.refl o2, R.mono s2 ru⟩) h1⟩⟩⟩
/-- for, over what comes with an effect -/
theorem do_forE {own : List Nat} {up : α → List Sl → List Sl} {φ : List α → List Sl → Prop} (B : Bd Z X N sc vs ws gs k) (gi : GIE Z X tg iter Γ R φ D.ex) (ga : GA Z X tg R own up) (I : List α → Nat → List Sl → Prop) (h0 : ∀ xs Γ1, φ xs Γ1 → I xs 0 Γ1)
    (hs : ∀ (xs : List α) (i : Nat) (x : α) (Γ' : List Sl), xs[i]? = some x → I xs i Γ' → DOs Z X body (up x Γ') { nx := I xs (i + 1), ct := I xs (i + 1), bk := D.nx, rt := D.rt, ex := D.ex }) (hd : ∀ xs Γ', I xs xs.length Γ' → D.nx Γ')
    (hf : ∀ x, foldedSetIterable iter X.env x = pure x := by intro _; rfl) : DO Z X (.For tg iter body [] pos) Γ D := by
  intro pins s σ F0 G F H Wr fts In g S tk
  obtain ⟨wi, hp, hw⟩ := gi
  refine (ps_for B.po B.calm hp ga.pg (pss_ds (Z := Z)) hf).run pins s σ H _ In ?_
  refine hw σ F0 G F H Wr fts _ g S tk fun J F1 H1 ft1 Γ1 xs g1 sm1 S1 wk hφ => ?_
  refine ⟨fun i m σ' H' => m = xs.length - i ∧ i ≤ xs.length ∧ ∃ (F' : Hp) (Γ' : List Sl) (fts' : Nat → List Addr), Grow Z.T Wr F0 G F' H' ∧ Same F1 F' ∧ Sat Wr F' G H' Γ' σ' fts' ∧ I xs i Γ',
    ⟨xs.length, rfl, Nat.zero_le _, F1, Γ1, ft1, g1, Same.refl _, S1, h0 xs Γ1 hφ⟩, ?_⟩
  rintro i m σ' H' ⟨rfl, hi, F', Γ', fts', g', s', S', hI⟩
  obtain ⟨w1, w2⟩ := wk i F' H' g'.ok s' (fun z => nomatch z)
  by_cases hlt : i < xs.length
  · obtain ⟨go, st⟩ := w1 xs[i] (List.getElem?_eq_getElem hlt)
    refine .inr ⟨go, fun σ2 H2 => ∃ (F2 : Hp) (Γ2 : List Sl) (fts2 : Nat → List Addr), Grow Z.T Wr F0 G F2 H2 ∧ Same F1 F2 ∧ Sat Wr F2 G H2 Γ2 σ2 fts2 ∧ I xs (i + 1) Γ2, fun σ2 H2 ⟨F2, Γ2, fts2, a, b, c, d⟩ => ⟨xs.length - (i + 1), by omega, rfl, hlt, F2, Γ2, fts2, a, b, c, d⟩, fun v H2 y => ?_⟩
    obtain ⟨F2, g2, r⟩ := st v H2 y
    refine ⟨F2, G, Wr, fts', xs[i], Γ', g2.ok, S'.grow g2, r, fun σ3 fts3 S3 _ _ => ?_⟩
    have gb : Grow Z.T Wr F0 G F2 H2 := g'.step g2
    refine ⟨F2, G, F2, Wr, fts3, up xs[i] Γ', { nx := I xs (i + 1), ct := I xs (i + 1), bk := D.nx, rt := D.rt, ex := D.ex }, gb.base, S3, tk.imp fun c d σ'' H'' => ?_, hs xs i xs[i] Γ' (List.getElem?_eq_getElem hlt) hI, ?_, ?_, ?_, ?_⟩
    · rintro ⟨e0, F3, Γ3, fts4, g3, S4, q⟩
      exact ⟨e0, F3, Γ3, fts4, gb.rebase g3, S4, q⟩
    · rintro σ4 H4 ⟨F3, Γ3, fts4, g3, S4, q⟩
      exact ⟨F3, Γ3, fts4, gb.rebase g3, (s'.trans g2.ef).trans g3.ef, S4, q⟩
    · rintro v4 H4 ⟨F3, Γ3, σ4, fts4, P4, g3, S4, p4, q⟩
      exact ⟨F3, Γ3, σ4, fts4, P4, gb.rebase g3, S4, p4, q⟩
    · rintro σ4 H4 ⟨F3, Γ3, fts4, g3, S4, q⟩
      exact ⟨F3, Γ3, fts4, gb.rebase g3, S4, q⟩
    · rintro σ4 H4 ⟨F3, Γ3, fts4, g3, S4, q⟩
      exact ⟨F3, Γ3, fts4, gb.rebase g3, (s'.trans g2.ef).trans g3.ef, S4, q⟩
  · have e : i = xs.length := by omega
    subst e
    exact .inl ⟨w2 rfl, F', Γ', fts', g', S', hd xs Γ' hI⟩
/-- while, its test with an effect -/
theorem do_whileB {c : Expr} (B : Bd Z X N sc vs ws gs k) (I : Nat → List Sl → Prop) (m0 : Nat) (h0 : I m0 Γ)
    (hs : ∀ m Γ', I m Γ' → ∃ φ, EB Z X c Γ' φ D.ex ∧ (∀ Γ1, φ true Γ1 → DOs Z X body Γ1 { nx := fun Δ => ∃ m', m' < m ∧ I m' Δ, ct := fun Δ => ∃ m', m' < m ∧ I m' Δ, bk := D.nx, rt := D.rt, ex := D.ex }) ∧ ∀ Γ1, φ false Γ1 → D.nx Γ1) : DO Z X (.While c body [] pos) Γ D := by
  intro pins s σ F0 G F H Wr fts In g S tk
  refine (ps_while B.po (pt_eb (Z := Z)) (pss_ds (Z := Z))).run pins s σ H _ In ?_
  refine ⟨fun m σ' H' => ∃ (F' : Hp) (Γ' : List Sl) (fts' : Nat → List Addr), Grow Z.T Wr F0 G F' H' ∧ Sat Wr F' G H' Γ' σ' fts' ∧ I m Γ', ⟨m0, F, Γ, fts, g, S, h0⟩, ?_⟩
  rintro m σ' H' ⟨F', Γ', fts', g', S', hI⟩
  obtain ⟨φ, ht, h1, h2⟩ := hs m Γ' hI
  refine ⟨φ, D.ex, Γ', F0, G, F', Wr, fts', ht, g', S', tk, fun b F1 H1 ft1 Γ1 g1 s1 S1 q1 => ?_⟩
  cases b with
  | true =>
    refine iteT ⟨fun σ2 H2 => ∃ m', m' < m ∧ ∃ (F2 : Hp) (Γ2 : List Sl) (fts2 : Nat → List Addr), Grow Z.T Wr F0 G F2 H2 ∧ Sat Wr F2 G H2 Γ2 σ2 fts2 ∧ I m' Γ2, fun σ2 H2 q => q, ?_⟩
    refine ⟨F0, G, F1, Wr, ft1, Γ1, _, g1, S1, ?_, h1 Γ1 q1, ?_, ?_, ?_, ?_⟩
    · exact tk.imp fun cc d σ'' H'' z => z
    · rintro σ4 H4 ⟨F3, Γ3, fts4, g3, S4, m', lt, q⟩
      exact ⟨m', lt, F3, Γ3, fts4, g3, S4, q⟩
    · rintro v4 H4 z
      exact z
    · rintro σ4 H4 z
      exact z
    · rintro σ4 H4 ⟨F3, Γ3, fts4, g3, S4, m', lt, q⟩
      exact ⟨m', lt, F3, Γ3, fts4, g3, S4, q⟩
  | false => exact iteF ⟨F1, Γ1, ft1, g1, S1, h2 Γ1 q1⟩
/-- [elt for tg in iter], the iter with an effect -/
theorem ee_lc {elt : Expr} {cs : Scope} {up : α → List Sl → List Sl} {S : Rp β} {f : α → β} {φ : List α → List Sl → Prop} (B : Bd Z X N sc vs ws gs k) (own : List (Str × Nat)) (vs' : List Nat) (gs' : List Str) (gi : GIE Z X tg iter Γ R φ ψ) (hz : ∀ xs Γ1, φ xs Γ1 → xs.length ≤ 1000000)
    (ga : ∀ X', Bd Z X' N (relS cs sc) vs' (own.map (·.2)) gs' k → GA Z X' tg R (own.map (·.2)) up)
    (he : ∀ X' xs Γ1, Bd Z X' N (relS cs sc) vs' (own.map (·.2)) gs' k → φ xs Γ1 → ∀ x, x ∈ xs → EV Z X' elt (up x (wG Γ1 (own.map (·.2)))) (pd S (f x)))
    (cn : compB N sc cs own vs' gs' = true := by decide +kernel) (hs : ∀ x, foldedSetIterable iter X.env x = pure x := by intro _; rfl) : EE Z X (.ListComp elt [⟨tg, iter, [], 0⟩] cs pos) Γ (rLst S) (fun ys Γ' => ∃ xs, φ xs Γ' ∧ ys = xs.map f) ψ := by
  obtain ⟨wi, hp, hw⟩ := gi
  have c := comp_by cn
  have e0 : ∀ xs : List α, (xs.filter fun _ => true) = xs := fun xs => List.filter_eq_self.mpr fun _ _ => rfl
  refine EE.of (pe_lc (own := own) (te := fun σ H Q => ∃ (xs : List α) (Γ1 : List Sl), φ xs Γ1 ∧ tEx Z xs (fun x => up x (wG Γ1 (own.map (·.2)))) (fun _ => true) S f σ H Q) B.calm (by rw [B.eN]; exact B.nm.nd) hp (by rw [B.eN, B.eSc]; exact c.blk) (fun s H C cl fp => (ga _ (B.blk c s H C cl fp)).pg) (fun s H C cl fp => pts_nil)
    (fun s H C cl fp => ⟨fun pins s' σ H' Q I ⟨xs, Γ1, hφ, F, G, Wr, fts, x, hx, _, o, Sa, q⟩ => he _ xs Γ1 (B.blk c s H C cl fp) hφ x hx pins s' σ F G H' Wr fts Q I o Sa fun v F1 H1 g1 p1 => q v F1 H1 g1 p1⟩) hs) fun σ F0 G F H Wr fts Q g Sa tk q => ?_
  refine hw σ F0 G F H Wr fts _ g Sa tk fun J F1 H1 ft1 Γ1 xs g1 s1 S1 wk hφ => ?_
  have core := lc_read0 (Z := Z) (Γ := Γ1) (J := J) (fz := true) (xs := xs) (up := up) (b := fun _ => true) (S := S) (f := f) (ow := own.map (·.2)) (tt := fun σ H Q => Q true H) (R := R)
    (fun σ F G H Wr fts x Q hx o S q => q F H (Grow.refl o)) (hz xs Γ1 hφ) σ F1 G H1 Wr ft1 Q g1.ok S1 wk fun v F2 H2 g2 p2 => q v F2 H2 ft1 Γ1 (xs.map f) (g1.step g2) (s1.trans g2.ef) (S1.grow g2) (by rw [e0 xs] at p2; exact p2) ⟨xs, hφ, rfl⟩
  intro D hD
  obtain ⟨W, w0, turn⟩ := core D hD
  refine ⟨W, w0, fun i m H2 w => ?_⟩
  rcases turn i m H2 w with a | ⟨go, Nx, n1, n2⟩
  · exact .inl a
  · refine .inr ⟨go, Nx, n1, fun x H3 y => ?_⟩
    obtain ⟨F4, G4, Wr4, ft4, x4, Γ4, o4, S4, r4, k4⟩ := n2 x H3 y
    refine ⟨F4, G4, Wr4, ft4, x4, Γ4, o4, S4, r4, fun σ' fts' S' l a => ?_⟩
    obtain ⟨e, t⟩ := k4 σ' fts' S' l a
    refine ⟨e, ?_⟩
    simp only [if_true] at t ⊢
    exact ⟨xs, Γ1, hφ, t⟩
end
end BF
set_option maxHeartbeats 5000000
namespace BF
open L2 PySem PySem.Spec PyProof.Rows
section
variable {Z : Zx} {X : Cx} {e e1 e2 : Expr} {es : List Expr} {Γ : List Sl} {N : List Str} {sc : Scope} {vs ws : List Nat} {gs : List Str} {k j : Nat} {pos p p1 pos' : Pos} {D : Fin} {α : Type} {R : Rp α} {ψ : XC}
/-- a number below most -/
theorem ee_take (E : Top Z) (DD : Ds Z) (B : Bd Z X N sc vs ws gs k) (i : Nat) (a : Addr) {n : Str} {st : LSt} {most : Int} (b : EV Z X e Γ (pd rInt most)) (ok : LsOk st) (m0 : 0 < most) (m1 : most < 1073741824) (hi : N[i]? = some n := by rfl) (hv : i ∈ vs := by decide) (hΓ : Γ[i]? = some (.mu (mLs a) st) := by rfl) (nv : noVw Γ = true := by rfl) (hj : 2 ≤ k := by decide) (hg : ("_law_take" : Str) ∈ gs := by decide +kernel)
    (he : starEach (.Name n p1 :: [e]) X.env = (false, eval (.Name n p1) X.env) :: starEach [e] X.env := by rfl) (he2 : starEach (e :: []) X.env = (false, eval e X.env) :: starEach [] X.env := by rfl) (hpl : (backTo pos (starEach [e] X.env)).any (·.1) = false := by rfl) : EE Z X (.Call (.Name "_law_take" p) [.Name n p1, e] [] pos) Γ rInt (fun z Γ' => ∃ y, LsOk y ∧ 0 ≤ z ∧ z < most ∧ Γ' = Γ.set i (.mu (mLs a) y)) ψ :=
  ((ee_callM (S := S_take) B (c_law_take E DD) i (a, st, most) id (ea2 (ev_pin B i pin_ls hi hv hΓ) b he he2) hΓ (part_self pin_ls) ⟨ok, m0, m1⟩ nv hj hg he hpl).imp fun z Γ' ⟨w, h, e⟩ => ⟨w, h.1, h.2.1, h.2.2, e⟩).ex fun c Γ' ⟨w, h, e⟩ => h.elim
/-- name = [..], of one's own, with effects -/
theorem do_newE {Φ : List α → List Sl → Prop} (B : Bd Z X N sc vs ws gs k) (i : Nat) {n : Str} (a : EEA Z X es Γ R Φ D.ex) (hz : ∀ xs Γ', Φ xs Γ' → xs.length ≤ 1000000 ∧ noVw Γ' = true ∧ (Γ'[i]?).isSome = true) (h : ∀ xs Γ', Φ xs Γ' → D.nx (Γ'.set i (.mu (mLst R) xs))) (hi : N[i]? = some n := by rfl) (hw : i ∈ ws := by decide)
    (hs : swapsWith (.List es p) (some (.Name n pos')) pos.line X.env = pure false := by rfl) : DO Z X (.Assign [.Name n pos'] (.List es p) pos) Γ D :=
  DO.ofX (ps_set (i := i) (by rw [B.eN]; exact B.nm.nd) (by rw [B.eN]; exact hi) (by rw [B.eSc]; exact B.nm.loc i hw n hi) (pe_lst (pa_eea (Z := Z))) hs (by rw [B.eSc]; exact B.st i hw n hi)) fun σ F0 G F H Wr fts g S tk =>
    ⟨_, R, Φ, D.ex, Γ, F0, G, F, Wr, fts, a, g, S, tk, fun us F1 H1 ft1 Γ1 xs g1 s1 S1 r1 h1 => by
      obtain ⟨z1, z2, z3⟩ := hz xs Γ1 h1
      refine ⟨by rw [r1.len, sizeLine_eq]; omega, fun l hl => ?_⟩
      have g2 : Grow Z.T (fun a => a ∈ ft1 i) F1 H1 F1 (upd H1 l (.lst us)) := Grow.made g1.ok hl
      obtain ⟨fts', x1, x2⟩ := set_ends (M := mLst R) (y := xs) (v := .ref l) (ft := [l]) g1 S1 (lt_of_isSome z3) g2 ⟨l, us, rfl, rfl, upd_same, r1⟩ (fun b hb => by
        simp at hb; subst hb; exact ⟨g1.ok.free hl, .inr hl⟩) (fun _ b hb => by simp at hb; subst hb; exact .inr hl) z2
      exact ⟨F1, _, fts', x1, x2, h xs Γ1 h1⟩⟩
/-! ### a dict whose keys alone are asked for -/
def mKS : Mp (List Int) where
  loc := true
  rel := fun ks F H ft v => ∃ l us, v = .ref l ∧ ft = [l] ∧ H l = some (.dK us) ∧ us.map (·.1) = ks.map fun i => (Sum.inl i : Key)
  mono := fun s k ⟨l, us, e, f, h, r⟩ => ⟨l, us, e, f, by rw [k l (by rw [f]; simp)]; exact h, r⟩
  there := fun ⟨l, us, e, f, h, r⟩ b hb => by
    rw [f] at hb
    rw [List.mem_singleton.mp hb]
    exact ⟨_, h, dK_nt⟩
theorem en_ks (B : Bd Z X N sc vs ws gs k) : EN Z X (.Dict [] [] pos) Γ mKS [] :=
  ⟨_, pe_dnewK, fun σ F G H Wr fts Q o S q => fun d hd => q _ F _ [d] (Grow.made o hd) ⟨d, [], rfl, rfl, upd_same, rfl⟩ fun b hb => by
    rw [List.mem_singleton.mp hb]; exact ⟨o.free hd, hd⟩⟩
def addKs (ks : List Int) (x : Int) : List Int := if x ∈ ks then ks else ks ++ [x]
theorem put_keys {us : List (Key × V)} {ks : List Int} {x : Int} {v : V} (h : us.map (·.1) = ks.map fun i => (Sum.inl i : Key)) : (putK us (.inl x) v).map (·.1) = (addKs ks x).map fun i => (Sum.inl i : Key) := by
  have hm : (us.any fun kv => decide (kv.1 = (Sum.inl x : Key))) = true ↔ x ∈ ks := by
    rw [List.any_eq_true]
    constructor
    · rintro ⟨kv, h1, h2⟩
      have h2 := of_decide_eq_true h2
      have : (Sum.inl x : Key) ∈ us.map (·.1) := List.mem_map.mpr ⟨kv, h1, h2⟩
      rw [h] at this
      obtain ⟨i, hi, e⟩ := List.mem_map.mp this
      cases e; exact hi
    · intro hx
      have : (Sum.inl x : Key) ∈ us.map (·.1) := by rw [h]; exact List.mem_map.mpr ⟨x, hx, rfl⟩
      obtain ⟨kv, h1, h2⟩ := List.mem_map.mp this
      exact ⟨kv, h1, decide_eq_true h2⟩
  unfold putK addKs
  by_cases hx : x ∈ ks
  · rw [if_pos (hm.mpr hx), if_pos hx, List.map_map, ← h]
    refine List.map_congr_left fun kv _ => ?_
    show (if kv.1 = Sum.inl x then (kv.1, v) else kv).1 = kv.1
    split <;> rfl
  · rw [if_neg (fun z => hx (hm.mp z)), if_neg hx, List.map_append, h, List.map_append]
    rfl
/-- d[e2] = e, the key with an effect -/
theorem do_dputE {φ : Int → List Sl → Prop} (B : Bd Z X N sc vs ws gs k) (i : Nat) {n : Str} {ks : List Int} {P : Pv} (a : EV Z X e Γ P) (b : EE Z X e2 Γ rInt φ D.ex) (hz : ks.length ≤ 1000000) (hk : ∀ x Γ1, φ x Γ1 → Γ1[i]? = some (.mu mKS ks) ∧ noVw Γ1 = true) (h : ∀ x Γ1, φ x Γ1 → D.nx (Γ1.set i (.mu mKS (addKs ks x)))) (hi : N[i]? = some n := by rfl) (hv : i ∈ vs := by decide) (hΓ : Γ[i]? = some (.mu mKS ks) := by rfl)
    (hs : swapsWith e (some (.Subscript (.Name n p) e2 pos')) pos.line X.env = pure false := by rfl) : DO Z X (.Assign [.Subscript (.Name n p) e2 pos'] e pos) Γ D := by
  obtain ⟨d1, d2, _⟩ := plainName_ok (B.nm.pn i hv n hi)
  have pn : PE X (.Name n p) (tVar i) := pe_var (i := i) (by rw [B.eN]; exact hi) (by rw [B.eSc]; exact B.nm.vis i hv n hi) d1 d2
  refine DO.ofX (ps_dput (hu1 B) pn (pe_ee (Z := Z)) a.pe hs) fun σ F0 G F H Wr fts g S tk => ⟨F, G, Wr, fts, g.ok, S, fun v F1 H1 g1 p1 => ?_⟩
  have S1 := S.grow g1
  obtain ⟨_, ev, _, _⟩ := S1.mu hΓ
  refine ⟨_, ev, _, rInt, φ, D.ex, Γ, F0, G, F1, Wr, fts, b, g.step g1, S1, tk, fun w F2 H2 ft2 Γ2 x g2 s2 S2 p2 q2 => ?_⟩
  obtain rfl : w = V.int x := p2
  obtain ⟨k1, nv⟩ := hk x Γ2 q2
  obtain ⟨v2, ev2, ⟨l, us, rfl, ef, hl, r⟩, mk⟩ := S2.mu k1
  rw [ev] at ev2
  cases ev2
  have hm : l ∈ ft2 i := by rw [ef]; simp
  have hi' : i < Γ2.length := (List.getElem?_eq_some_iff.mp k1).1
  have hul : us.length = ks.length := by have := congrArg List.length r; simpa using this
  refine ⟨l, _, rfl, DPut.k (k := .inl x) hl (by rw [sizeLine_eq]; omega), ?_⟩
  have g3 : Grow Z.T (fun a => a ∈ ft2 i) F2 H2 F2 (upd H2 l (.dK (putK us (.inl x) v))) := (Grow.refl g2.ok).mut hl dK_nt dK_nc (S2.there hm).1 (.inl hm)
  obtain ⟨fts', x1, x2⟩ := set_ends (M := mKS) (y := addKs ks x) (v := .ref l) (ft := [l]) g2 S2 hi' g3 ⟨l, _, rfl, rfl, upd_same, put_keys r⟩ (fun b hb => by
    simp at hb; subst hb; exact ⟨(S2.there hm).1, .inl hm⟩) (fun _ b hb => by simp at hb; rw [hb]; exact .inl ((mk l hm).2.2 rfl)) nv
  rw [set_same S2.len hi' ev] at x2
  exact ⟨F2, _, fts', x1, x2, h x Γ2 q2⟩
/-- list(d) -/
theorem ev_listD (B : Bd Z X N sc vs ws gs k) (E : Top Z) (i : Nat) {n : Str} {ks : List Int} (hi : N[i]? = some n := by rfl) (hv : i ∈ vs := by decide) (hΓ : Γ[i]? = some (.mu mKS ks) := by rfl) (hg : ("list" : Str) ∈ gs := by decide +kernel) (he : starEach (.Name n p1 :: []) X.env = (false, eval (.Name n p1) X.env) :: starEach [] X.env := by rfl) : EV Z X (.Call (.Name "list" p) [.Name n p1] [] pos) Γ (pd (rLst rInt) ks) := by
  obtain ⟨d1, d2, _⟩ := plainName_ok (B.nm.pn i hv n hi)
  have pn : PE X (.Name n p1) (tVar i) := pe_var (i := i) (by rw [B.eN]; exact hi) (by rw [B.eSc]; exact B.nm.vis i hv n hi) d1 d2
  refine EV.of (pe_callTy (call_list_dK B.calm) (B.gx hg) (by rw [B.mg]; exact E.f "list") (by decide +kernel) (pa_cons pn pa_nil he) (by decide +kernel) (by decide +kernel) he rfl) fun σ F G H Wr fts Q o S q => ?_
  obtain ⟨v, ev, ⟨l, us, rfl, ef, hl, r⟩, mk⟩ := S.mu hΓ
  refine ⟨_, ev, l, us, rfl, hl, fun d hd => ?_⟩
  have g : Grow Z.T nowhere F H (upd F d (.lst (us.map fun kv => kV kv.1))) (upd H d (.lst (us.map fun kv => kV kv.1))) := Grow.laid o hd lst_nt
  refine q _ _ _ g ⟨d, _, rfl, upd_same, RL.map_int.mpr ?_⟩
  have : (us.map fun kv => kV kv.1) = (us.map (·.1)).map kV := by rw [List.map_map]; rfl
  rw [this, r, List.map_map]
  rfl
end
theorem addKs_nodup {ks : List Int} {x : Int} (h : ks.Nodup) : (addKs ks x).Nodup := by
  unfold addKs
  split
  · exact h
  · rename_i hx
    exact List.nodup_append.mpr ⟨h, by simp, fun a ha b hb e => hx (by rw [List.mem_singleton.mp hb] at e; exact e ▸ ha)⟩
theorem addKs_mem {ks : List Int} {x y : Int} : y ∈ addKs ks x ↔ y ∈ ks ∨ y = x := by
  unfold addKs
  split
  · rename_i hx
    constructor
    · exact .inl
    · rintro (h | rfl)
      · exact h
      · exact hx
  · simp
theorem addKs_len (ks : List Int) (x : Int) : (addKs ks x).length ≤ ks.length + 1 := by
  unfold addKs
  split <;> simp
def sortK (ks : List Int) : List Int := ks.foldr insK []
theorem sortK_perm : ∀ ks : List Int, (sortK ks).Perm ks
  | [] => List.Perm.nil
  | x :: xs => ((insK_perm x (sortK xs)).trans (List.perm_append_singleton x _)).trans ((sortK_perm xs).cons x)
theorem sortK_lt : ∀ {ks : List Int}, ks.Nodup → (sortK ks).Pairwise (· < ·)
  | [], _ => List.Pairwise.nil
  | x :: xs, h => insK_sorted (sortK_lt (List.nodup_cons.mp h).2) fun z => (List.nodup_cons.mp h).1 ((sortK_perm xs).mem_iff.mp z)
end BF
set_option maxHeartbeats 5000000
namespace BF
open L2 PySem PySem.Spec PyProof.Rows
theorem key_of {z : Int} (h : z.natAbs < 10 ^ 60) : is_keyM z = true := decide_eq_true (by
  have : ((z.natAbs : Nat) : Int) < ((10 ^ 60 : Nat) : Int) := Int.ofNat_lt.mpr h
  exact this)
theorem key_small {z : Int} (h : z.natAbs ≤ 1000) : is_keyM z = true := key_of (Nat.lt_of_le_of_lt h (by decide +kernel))
theorem key_mul {a b : Int} (ha : a.natAbs ≤ 999) (hb : b.natAbs ≤ 10 ^ 57) : is_keyM (a * b) = true := key_of (by
  rw [Int.natAbs_mul]
  exact Nat.lt_of_le_of_lt (Nat.mul_le_mul ha hb) (by decide +kernel))
abbrev S_key : EfS (Addr × LSt) Int LSt := { M := fun u => mLs u.1, a := fun u => u.1, L := fun u => [u.1], x := fun u => u.2, Ds := fun u => [], pre := fun u => LsOk u.2, R := rInt, rt := fun u z y => LsOk y ∧ is_keyM z = true }
abbrev S_tree : EfS (Addr × LSt × Int) Tr LSt := { M := fun u => mLs u.1, a := fun u => u.1, L := fun u => [u.1], x := fun u => u.2.1, Ds := fun u => [.da rInt u.2.2], pre := fun u => LsOk u.2.1 ∧ 1 ≤ u.2.2 ∧ u.2.2 ≤ 40, R := rTpl (rOpt rInt), rt := fun u z y => LsOk y ∧ TreeOk z ∧ (z.length : Int) ≤ u.2.2 }
/-- a row of at most so many keys -/
def RowG (most : Int) (r : List Int) : Prop := r.Pairwise (· < ·) ∧ (∀ k ∈ r, is_keyM k = true) ∧ (r.length : Int) ≤ most
abbrev S_row : EfS (Addr × LSt × Int) (List Int) LSt := { M := fun u => mLs u.1, a := fun u => u.1, L := fun u => [u.1], x := fun u => u.2.1, Ds := fun u => [.da rInt u.2.2], pre := fun u => LsOk u.2.1 ∧ 0 ≤ u.2.2 ∧ u.2.2 ≤ 1000, R := rTpl rInt, rt := fun u z y => LsOk y ∧ RowG u.2.2 z }
abbrev S_rows : EfS (Addr × LSt × Int × Int) (List (List Int)) LSt := { M := fun u => mLs u.1, a := fun u => u.1, L := fun u => [u.1], x := fun u => u.2.1, Ds := fun u => [.da rInt u.2.2.1, .da rInt u.2.2.2], pre := fun u => LsOk u.2.1 ∧ 0 ≤ u.2.2.1 ∧ u.2.2.1 ≤ 1000 ∧ 0 ≤ u.2.2.2 ∧ u.2.2.2 ≤ 1000, R := rTpl (rTpl rInt), rt := fun u z y => LsOk y ∧ (z.length : Int) = u.2.2.1 ∧ ∀ r ∈ z, RowG u.2.2.2 r }
section
variable {Z : Zx}
theorem c_law_key (E : Top Z) (D : Ds Z) : CalX Z "_law_key" 3 (spEf Z.T S_key) :=
  calx_eff (ps := ["_law_state"]) ["_law_state", "_law_way_here"] [0, 1] ["_law_take"] 1 D.law_key (fun _ _ _ _ _ _ us hl => match us, hl with | [_], _ => rfl) S_key (fun X B u hu => by
    obtain ⟨a, st⟩ := u
    have ok : LsOk st := hu
    refine dos_cons (do_setE B 1 (ee_take E D B 0 a ev_int ok (by decide) (by decide)) fun x Γ1 ⟨y, ok, h2, h3, e⟩ => ?_)
    subst e
    refine dos_cons (do_if (et_cmp (ev_var B 1) ev_int od_lt) (fun _ => ?_) (fun _ => dos_nil ?_))
    · refine dos_one (do_retE (ee_take E D B 0 a ev_int ok (by decide) (by decide)) fun z Γ1 ⟨y, ok, h2, h3, e⟩ => ?_)
      subst e
      exact ⟨z, y, rfl, ⟨ok, key_small (by omega)⟩, fun G T F H v o p => p⟩
    refine dos_cons (do_if (et_cmp (ev_var B 1) ev_int od_lt) (fun _ => ?_) (fun _ => dos_nil ?_))
    · refine dos_one (do_retE (φ := fun z Γ' => ∃ y, LsOk y ∧ z.natAbs ≤ 1000 ∧ Γ'[0]? = some (.mu (mLs a) y)) (ee_bin (φ2 := fun x w Γ' => w = 30 ∧ ∃ y, LsOk y ∧ 0 ≤ x ∧ x < 60 ∧ Γ'[0]? = some (.mu (mLs a) y)) (ee_take E D B 0 a ev_int ok (by decide) (by decide)) (fun x Γ1 ⟨y, ok, h2, h3, e⟩ => ee_ev ev_int ⟨rfl, y, ok, h2, h3, by rw [e]; rfl⟩) fun x w Γ2 ⟨ew, y, ok, h2, h3, e⟩ => ⟨x - w, ⟨y, ok, by omega, e⟩, od_sub⟩) fun z Γ1 ⟨y, ok, h2, e⟩ => ?_)
      exact ⟨z, y, e, ⟨ok, key_small h2⟩, fun G T F H v o p => p⟩
    refine dos_cons (do_if (et_cmp (ev_var B 1) ev_int (od_eq sc_int)) (fun _ => ?_) (fun _ => dos_nil ?_))
    · refine dos_one (do_retE (φ := fun z Γ' => ∃ y, LsOk y ∧ is_keyM z = true ∧ Γ'[0]? = some (.mu (mLs a) y))
        (ee_bin (φ1 := fun z Γ' => ∃ y w, LsOk y ∧ z.natAbs ≤ 999 ∧ Γ' = [.mu (mLs a) y, .da rInt w]) (φ2 := fun x w Γ' => x.natAbs ≤ 999 ∧ w.natAbs ≤ 10 ^ 57 ∧ ∃ y, LsOk y ∧ Γ'[0]? = some (.mu (mLs a) y))
          (ee_bin (φ2 := fun x w Γ' => w = 999 ∧ 0 ≤ x ∧ x < 1999 ∧ ∃ y w, LsOk y ∧ Γ' = [.mu (mLs a) y, .da rInt w]) (ee_take E D B 0 a ev_int ok (by decide) (by decide)) (fun x Γ1 ⟨y, ok, h2, h3, e⟩ => ee_ev ev_int ⟨rfl, h2, h3, y, _, ok, e⟩) fun x w Γ2 ⟨ew, h2, h3, y, w', ok, e⟩ => ⟨x - w, ⟨y, w', ok, by omega, e⟩, od_sub⟩)
          (fun x Γ1 ⟨y, w, ok, hx, e⟩ => by
            subst e
            exact ee_ix (φ1 := fun xs Γ' => xs = [1, (10 : Int) ^ ((19 : Int)).toNat, (10 : Int) ^ ((38 : Int)).toNat, (10 : Int) ^ ((57 : Int)).toNat] ∧ Γ' = [.mu (mLs a) y, .da rInt w]) (φ2 := fun xs i Γ' => xs = [1, (10 : Int) ^ ((19 : Int)).toNat, (10 : Int) ^ ((38 : Int)).toNat, (10 : Int) ^ ((57 : Int)).toNat] ∧ 0 ≤ i ∧ i < 4 ∧ ∃ y, LsOk y ∧ Γ'[0]? = some (.mu (mLs a) y))
              (ee_ev (ev_list (.cons ev_int (.cons (ev_bin ev_int ev_int (od_pow ⟨by decide, by decide, by decide⟩)) (.cons (ev_bin ev_int ev_int (od_pow ⟨by decide, by decide, by decide⟩)) (.cons (ev_bin ev_int ev_int (od_pow ⟨by decide, by decide, by decide⟩)) .nil))))) ⟨rfl, rfl⟩)
              (fun xs Γ1 ⟨exs, e⟩ => by
                subst e
                exact (ee_take E D B 0 a ev_int ok (by decide) (by decide)).imp fun z Γ' ⟨y, ok, h2, h3, e⟩ => ⟨exs, h2, h3, y, ok, by rw [e]; rfl⟩)
              fun xs i Γ2 ⟨exs, h2, h3, y, ok, e⟩ => by
                subst exs
                refine ⟨h2, ?_⟩
                have hi : i = 0 ∨ i = 1 ∨ i = 2 ∨ i = 3 := by omega
                rcases hi with rfl | rfl | rfl | rfl
                · exact ⟨_, rfl, hx, by decide +kernel, y, ok, e⟩
                · exact ⟨_, rfl, hx, by decide +kernel, y, ok, e⟩
                · exact ⟨_, rfl, hx, by decide +kernel, y, ok, e⟩
                · exact ⟨_, rfl, hx, by decide +kernel, y, ok, e⟩)
          fun x w Γ2 ⟨hx, hw, y, ok, e⟩ => ⟨x * w, ⟨y, ok, key_mul hx hw, e⟩, od_mul (.inl ⟨by omega, by omega⟩)⟩) fun z Γ1 ⟨y, ok, h2, e⟩ => ?_)
      exact ⟨z, y, e, ⟨ok, h2⟩, fun G T F H v o p => p⟩
    refine dos_one (do_retE (φ := fun z Γ' => ∃ y, LsOk y ∧ is_keyM z = true ∧ Γ'[0]? = some (.mu (mLs a) y))
      (ee_bin (φ1 := fun z Γ' => z.natAbs = 1 ∧ ∃ y w, LsOk y ∧ Γ' = [.mu (mLs a) y, .da rInt w]) (φ2 := fun x t Γ' => x.natAbs = 1 ∧ t.natAbs < 10 ^ 60 ∧ ∃ y, LsOk y ∧ Γ'[0]? = some (.mu (mLs a) y))
        (ee_ix (φ1 := fun xs Γ' => xs = [1, -1] ∧ ∃ y w, LsOk y ∧ Γ' = [.mu (mLs a) y, .da rInt w]) (φ2 := fun xs i Γ' => xs = [1, -1] ∧ 0 ≤ i ∧ i < 2 ∧ ∃ y w, LsOk y ∧ Γ' = [.mu (mLs a) y, .da rInt w]) (ee_ev (ev_list (.cons ev_int (.cons (ev_neg ev_int) .nil))) ⟨rfl, _, _, ok, rfl⟩)
          (fun xs Γ1 ⟨exs, y, w, ok, e⟩ => by
            subst e
            exact (ee_take E D B 0 a ev_int ok (by decide) (by decide)).imp fun z Γ' ⟨y, ok, h2, h3, e⟩ => ⟨exs, h2, h3, y, _, ok, e⟩)
          fun xs i Γ2 ⟨exs, h2, h3, r⟩ => by
            subst exs
            refine ⟨h2, ?_⟩
            have hi : i = 0 ∨ i = 1 := by omega
            rcases hi with rfl | rfl
            · exact ⟨_, rfl, rfl, r⟩
            · exact ⟨_, rfl, rfl, r⟩)
        (fun x Γ1 ⟨hx, y, w, ok, e⟩ => by
          subst e
          exact ee_bin (φ1 := fun (z : Int) Γ' => z = (10 : Int) ^ ((60 : Int)).toNat - 1 ∧ Γ' = [.mu (mLs a) y, .da rInt w]) (φ2 := fun (z t : Int) Γ' => z = (10 : Int) ^ ((60 : Int)).toNat - 1 ∧ 0 ≤ t ∧ t < 3 ∧ ∃ y, LsOk y ∧ Γ'[0]? = some (.mu (mLs a) y)) (ee_ev (ev_bin (ev_bin ev_int ev_int (od_pow ⟨by decide, by decide, by decide⟩)) ev_int od_sub) ⟨rfl, rfl⟩)
            (fun z Γ1 ⟨ez, e⟩ => by
              subst e
              exact EE.imp (ee_take E D B 0 a ev_int ok (by decide) (by decide)) fun t Γ' ⟨y, ok, h2, h3, e⟩ => ⟨ez, h2, h3, y, ok, by rw [e]; rfl⟩)
            fun z t Γ2 ⟨ez, h2, h3, r⟩ => ⟨z - t, ⟨hx, by
              have p : (10 : Int) ^ ((60 : Int)).toNat = 1000000000000000000000000000000000000000000000000000000000000 := by decide +kernel
              have p2 : (10 : Nat) ^ 60 = 1000000000000000000000000000000000000000000000000000000000000 := by decide +kernel
              rw [p] at ez
              rw [p2]
              omega, r⟩, od_sub⟩)
        fun x w Γ2 ⟨hx, hw, y, ok, e⟩ => ⟨x * w, ⟨y, ok, key_of (by rw [Int.natAbs_mul, hx, Nat.one_mul]; exact hw), e⟩, od_mul (.inl ⟨by omega, by omega⟩)⟩) fun z Γ1 ⟨y, ok, h2, e⟩ => ?_)
    exact ⟨z, y, e, ⟨ok, h2⟩, fun G T F H v o p => p⟩) fun u => pin_ls
end
end BF
set_option maxHeartbeats 5000000
namespace BF
open L2 PySem PySem.Spec PyProof.Rows
/-- a tree begun: so many knots -/
structure TPart (t : Tr) (n : Nat) : Prop where
  len : t.length = n + 1
  root : t.getD 0 none = none
  up : ∀ k, 1 ≤ k → k < n + 1 → ∃ p : Int, t.getD k none = some p ∧ 0 ≤ p ∧ p < k
theorem tpart_add {t : Tr} {n : Nat} (h : TPart t n) {p : Int} (p0 : 0 ≤ p) (p1 : p < (n : Int) + 1) : TPart (t ++ [some p]) (n + 1) := by
  have hl := h.len
  refine ⟨by rw [List.length_append, hl]; rfl, by rw [getD_app _ _ _ (by omega)]; exact h.root, fun k k0 k1 => ?_⟩
  by_cases q : k = n + 1
  · subst q
    have : (t ++ [some p]).getD (n + 1) none = some p := by rw [← hl]; exact getD_end _ _ _
    exact ⟨p, this, p0, by omega⟩
  · rw [getD_app _ _ _ (by omega)]
    exact h.up k k0 (by omega)
theorem tpart_ok {t : Tr} {n : Nat} (h : TPart t n) (hn : n < 40) : TreeOk t := ⟨by rw [h.len]; omega, by rw [h.len]; omega, h.root, fun k k0 k1 => h.up k k0 (by rw [h.len] at k1; exact k1)⟩
section
variable {Z : Zx}
theorem c_law_tree (E : Top Z) (D : Ds Z) : CalX Z "_law_tree" 3 (spEf Z.T S_tree) :=
  calx_eff (ps := ["_law_state", "_law_most"]) ["_law_state", "_law_most", "_law_way_here", "_law_parents", "_law_k"] [0, 1, 2, 3, 4] ["_law_take", "range", "max", "tuple"] 3 D.law_tree (fun _ _ _ _ _ _ us hl => match us, hl with | [_, _], _ => rfl) S_tree (fun X B u hu => by
    obtain ⟨a, st, most⟩ := u
    obtain ⟨ok, m1, m2⟩ := hu
    have ok : LsOk st := ok
    have m1 : 1 ≤ most := m1
    have m2 : most ≤ 40 := m2
    refine dos_cons (do_setE B 2 (ee_take E D B 0 a ev_int ok (by decide) (by decide)) fun wy Γ1 ⟨y, ok, h2, h3, e⟩ => ?_)
    subst e
    refine dos_cons (do_setN B 3 (en_list (R := rOpt rInt) (.cons ev_nonO .nil)) ?_)
    refine dos_cons (do_forE (φ := fun xs Γ' => ∃ (y : LSt) (n : Int), LsOk y ∧ 0 ≤ n ∧ n < most ∧ xs = rg 1 (1 + n) ∧ Γ' = [.mu (mLs a) y, .da rInt most, .da rInt wy, .mu (mLst (rOpt rInt)) [none], .un]) B
      (gie_range2 (φ1 := fun (lo : Int) Γ' => lo = 1 ∧ Γ' = [.mu (mLs a) y, .da rInt most, .da rInt wy, .mu (mLst (rOpt rInt)) [none], .un]) (φ2 := fun (lo hi : Int) Γ' => lo = 1 ∧ ∃ (y : LSt) (n : Int), LsOk y ∧ 0 ≤ n ∧ n < most ∧ hi = 1 + n ∧ Γ' = [.mu (mLs a) y, .da rInt most, .da rInt wy, .mu (mLst (rOpt rInt)) [none], .un]) B E (ee_ev ev_int ⟨rfl, rfl⟩)
        (fun lo Γ1 ⟨el, e⟩ => by
          subst e
          exact ee_bin (φ1 := fun (x : Int) Γ' => x = 1 ∧ Γ' = [.mu (mLs a) y, .da rInt most, .da rInt wy, .mu (mLst (rOpt rInt)) [none], .un]) (φ2 := fun (x n : Int) Γ' => x = 1 ∧ 0 ≤ n ∧ n < most ∧ ∃ y : LSt, LsOk y ∧ Γ' = [.mu (mLs a) y, .da rInt most, .da rInt wy, .mu (mLst (rOpt rInt)) [none], .un]) (ee_ev ev_int ⟨rfl, rfl⟩)
            (fun x Γ1 ⟨ex, e⟩ => by
              subst e
              exact (ee_take E D B 0 a (ev_var B 1) ok (by omega) (by omega)).imp fun n Γ' ⟨y, ok, h2, h3, e⟩ => ⟨ex, h2, h3, y, ok, e⟩)
            fun x n Γ2 ⟨ex, n0, n1, y, ok, e⟩ => ⟨x + n, ⟨el, y, n, ok, n0, n1, by rw [ex], e⟩, od_add⟩)
        fun lo hi Γ' ⟨el, y, n, ok, n0, n1, eh, e⟩ => ⟨by subst el; constructor <;> omega, by subst eh; constructor <;> omega, y, n, ok, n0, n1, by rw [el, eh], e⟩)
      (ga_name B 4) (fun xs i Γ' => i ≤ xs.length ∧ (xs.length : Int) < most ∧ (∃ n, xs = rg 1 (1 + n)) ∧ ∃ (y : LSt) (t : Tr), LsOk y ∧ TPart t i ∧ Γ' = [.mu (mLs a) y, .da rInt most, .da rInt wy, .mu (mLst (rOpt rInt)) t, .un])
      (fun xs Γ1 ⟨y, n, ok, n0, n1, ex, e⟩ => ⟨Nat.zero_le _, by rw [ex, rg_len]; omega, ⟨n, ex⟩, y, [none], ok, ⟨rfl, rfl, fun k k0 k1 => by omega⟩, e⟩) (fun xs i x Γ' hx hI => ?_) (fun xs Γ' hI => ?_))
    · obtain ⟨hi, hm, ⟨n, ex⟩, y, t, ok, tp, e⟩ := hI
      subst e
      have hlt := (List.getElem?_eq_some_iff.mp hx).1
      rw [ex] at hx
      obtain ⟨exi, hxi⟩ := rg_at hx
      have hz := tp.len
      have k1 : 1 ≤ x := by omega
      have kb : x < 1073741824 := by omega
      refine dos_cons (do_appE (R := rOpt rInt) (φ := fun (o : Option Int) Γ' => ∃ (y : LSt) (p : Int), o = some p ∧ LsOk y ∧ 0 ≤ p ∧ p < x ∧ Γ' = [.mu (mLs a) y, .da rInt most, .da rInt wy, .mu (mLst (rOpt rInt)) t, .da rInt x]) B 3
        (EE.as (R := rInt) (φ := fun p Γ' => ∃ y : LSt, LsOk y ∧ 0 ≤ p ∧ p < x ∧ Γ' = [.mu (mLs a) y, .da rInt most, .da rInt wy, .mu (mLst (rOpt rInt)) t, .da rInt x])
          (ee_ix (φ1 := fun xs Γ' => (xs.length = 4 ∧ ∀ p ∈ xs, 0 ≤ p ∧ p < x) ∧ ∃ y : LSt, LsOk y ∧ Γ' = [.mu (mLs a) y, .da rInt most, .da rInt wy, .mu (mLst (rOpt rInt)) t, .da rInt x]) (φ2 := fun xs i Γ' => i = wy ∧ (xs.length = 4 ∧ ∀ p ∈ xs, 0 ≤ p ∧ p < x) ∧ ∃ y : LSt, LsOk y ∧ Γ' = [.mu (mLs a) y, .da rInt most, .da rInt wy, .mu (mLst (rOpt rInt)) t, .da rInt x])
            (ee_list (eea_cons (φ := fun (v : Int) Γ' => v = x - 1 ∧ Γ' = [.mu (mLs a) y, .da rInt most, .da rInt wy, .mu (mLst (rOpt rInt)) t, .da rInt x]) (ee_ev (ev_bin (ev_var B 4) ev_int od_sub) ⟨rfl, rfl⟩) fun v1 Γ1 ⟨e1, e⟩ => by
                subst e
                exact eea_cons (φ := fun (v : Int) Γ' => v = 0 ∧ Γ' = [.mu (mLs a) y, .da rInt most, .da rInt wy, .mu (mLst (rOpt rInt)) t, .da rInt x]) (ee_ev ev_int ⟨rfl, rfl⟩) fun v2 Γ1 ⟨e2, e⟩ => by
                  subst e
                  exact eea_cons (ee_take E D B 0 a (ev_var B 4) ok (most := x) (by omega) (by omega)) fun v3 Γ1 ⟨y3, ok3, h3, h4, e⟩ => by
                    subst e
                    exact eea_cons (φ := fun (v : Int) Γ' => 0 ≤ v ∧ v < x ∧ ∃ y : LSt, LsOk y ∧ Γ' = [.mu (mLs a) y, .da rInt most, .da rInt wy, .mu (mLst (rOpt rInt)) t, .da rInt x]) (ee_max2 B E (eea_cons (φ := fun (v : Int) Γ' => v = 0 ∧ Γ' = [.mu (mLs a) y3, .da rInt most, .da rInt wy, .mu (mLst (rOpt rInt)) t, .da rInt x]) (ee_ev ev_int ⟨rfl, rfl⟩) fun w1 Γ1 ⟨f1, e⟩ => by
                        subst e
                        exact eea_cons (φ := fun (v : Int) Γ' => x - 3 ≤ v ∧ v < x ∧ ∃ y : LSt, LsOk y ∧ Γ' = [.mu (mLs a) y, .da rInt most, .da rInt wy, .mu (mLst (rOpt rInt)) t, .da rInt x])
                          (ee_bin (φ1 := fun (v : Int) Γ' => v = x - 1 ∧ Γ' = [.mu (mLs a) y3, .da rInt most, .da rInt wy, .mu (mLst (rOpt rInt)) t, .da rInt x]) (φ2 := fun (v u : Int) Γ' => v = x - 1 ∧ 0 ≤ u ∧ u < 2 ∧ ∃ y : LSt, LsOk y ∧ Γ' = [.mu (mLs a) y, .da rInt most, .da rInt wy, .mu (mLst (rOpt rInt)) t, .da rInt x]) (ee_ev (ev_bin (ev_var B 4) ev_int od_sub) ⟨rfl, rfl⟩)
                            (fun v Γ1 ⟨ev, e⟩ => by
                              subst e
                              exact (ee_take E D B 0 a ev_int ok3 (by decide) (by decide)).imp fun u Γ' ⟨y, ok, h2, h3, e⟩ => ⟨ev, h2, h3, y, ok, e⟩)
                            fun v u Γ2 ⟨ev, u0, u1, r⟩ => ⟨v - u, ⟨by omega, by omega, r⟩, od_sub⟩)
                          fun w2 Γ1 ⟨f2, f3, y5, ok5, e⟩ => eea_nil ⟨w1, w2, rfl, by omega, by omega, y5, ok5, e⟩))
                      fun v4 Γ1 ⟨g1, g2, y4, ok4, e⟩ => eea_nil ⟨⟨rfl, fun p hp => by
                        rcases List.mem_cons.mp hp with q | hp
                        · omega
                        rcases List.mem_cons.mp hp with q | hp
                        · omega
                        rcases List.mem_cons.mp hp with q | hp
                        · omega
                        · rw [List.mem_singleton.mp hp]; exact ⟨g1, g2⟩⟩, y4, ok4, e⟩) fun xs Γ' h => by rw [h.1.1]; decide)
            (fun xs Γ1 ⟨hx4, y6, ok6, e⟩ => by
              subst e
              exact ee_ev (ev_var B 2) ⟨rfl, hx4, y6, ok6, rfl⟩)
            fun xs j Γ2 ⟨ej, ⟨hx4, hxs⟩, y6, ok6, e⟩ => by
              have hw : wy.toNat < xs.length := by omega
              refine ⟨by omega, xs[j.toNat]'(by omega), List.getElem?_eq_getElem (by omega), y6, ok6, (hxs _ (List.getElem_mem _)).1, (hxs _ (List.getElem_mem _)).2, e⟩)
          fun p Γ' ⟨y, ok, p0, p1, e⟩ => ⟨some p, ⟨y, p, rfl, ok, p0, p1, e⟩, fun F v r => ⟨(by rw [show v = V.int p from r]; intro z; cases z), r⟩⟩)
        ?_ (fun o Γ1 ⟨y, p, eo, ok, p0, p1, e⟩ => by subst e; exact ⟨rfl, rfl⟩) fun o Γ1 ⟨y, p, eo, ok, p0, p1, e⟩ => ?_)
      · exact sz_lt (by omega)
      · subst e eo
        exact dos_un 4 (dos_nil ⟨hlt, hm, ⟨n, ex⟩, y, t ++ [some p], ok, tpart_add tp p0 (by omega), rfl⟩)
    obtain ⟨hi, hm, hn, y, t, ok, tp, e⟩ := hI
    subst e
    have hl := tp.len
    refine dos_one (do_ret (ev_tupleL B E (ev_own B 3)) ?_)
    exact ⟨t, y, rfl, ⟨ok, tpart_ok tp (by omega), by show (t.length : Int) ≤ most; omega⟩, fun G T F H v o p => p⟩) fun u => pin_ls
end
end BF
set_option maxHeartbeats 5000000
namespace BF
open L2 PySem PySem.Spec PyProof.Rows
section
variable {Z : Zx}
theorem c_law_row (E : Top Z) (D : Ds Z) : CalX Z "_law_row" 4 (spEf Z.T S_row) :=
  calx_eff (ps := ["_law_state", "_law_most"]) ["_law_state", "_law_most", "_law_found", "_law_k"] [0, 1, 2, 3] ["range", "_law_take", "_law_key", "tuple", "sorted", "list"] 2 D.law_row (fun _ _ _ _ _ _ us hl => match us, hl with | [_, _], _ => rfl) S_row (fun X B u hu => by
    obtain ⟨a, st, most⟩ := u
    obtain ⟨ok, m1, m2⟩ := hu
    have ok : LsOk st := ok
    have m1 : 0 ≤ most := m1
    have m2 : most ≤ 1000 := m2
    refine dos_cons (do_setN B 2 (en_ks B) ?_)
    refine dos_cons (do_forE (φ := fun xs Γ' => ∃ (y : LSt), LsOk y ∧ (xs.length : Int) ≤ most ∧ Γ' = [.mu (mLs a) y, .da rInt most, .mu mKS [], .un]) B
      (gie_range1 (φ0 := fun n Γ' => ∃ y : LSt, LsOk y ∧ 0 ≤ n ∧ n ≤ most ∧ Γ' = [.mu (mLs a) y, .da rInt most, .mu mKS [], .un]) B E ((ee_take E D B 0 a (ev_bin (ev_var B 1) ev_int od_add) ok (most := most + 1) (by omega) (by omega)).imp fun n Γ' ⟨y, ok, h2, h3, e⟩ => ⟨y, ok, h2, by omega, e⟩) fun n Γ' ⟨y, ok, n0, n1, e⟩ => ⟨by constructor <;> omega, y, ok, by rw [rg_len]; omega, e⟩)
      (ga_name B 3) (fun xs i Γ' => i ≤ xs.length ∧ (xs.length : Int) ≤ most ∧ ∃ (y : LSt) (ks : List Int), LsOk y ∧ ks.Nodup ∧ (∀ q ∈ ks, is_keyM q = true) ∧ ks.length ≤ i ∧ Γ' = [.mu (mLs a) y, .da rInt most, .mu mKS ks, .un])
      (fun xs Γ1 ⟨y, ok, hx, e⟩ => ⟨Nat.zero_le _, hx, y, [], ok, List.nodup_nil, (fun q hq => (nomatch hq)), Nat.le_refl _, e⟩) (fun xs i x Γ' hx hI => ?_) (fun xs Γ' hI => ?_))
    · obtain ⟨hi, hm, y, ks, ok, nd, hk, hl, e⟩ := hI
      subst e
      have hlt := (List.getElem?_eq_some_iff.mp hx).1
      refine dos_cons (do_dputE (ks := ks) (φ := fun q Γ' => ∃ y : LSt, LsOk y ∧ is_keyM q = true ∧ Γ' = [.mu (mLs a) y, .da rInt most, .mu mKS ks, .da rInt x]) B 2 (ev_bl (b := true))
        (((ee_callM (S := S_key) B (c_law_key E D) 0 (a, y) id (ea1 (ev_pin B 0 pin_ls)) rfl (part_self pin_ls) ok).imp fun z Γ' ⟨w, h, e⟩ => ⟨w, h.1, h.2, e⟩).ex fun c Γ' ⟨w, h, e⟩ => h.elim) (by omega) (fun q Γ1 ⟨y, ok, hq, e⟩ => by subst e; exact ⟨rfl, rfl⟩) fun q Γ1 ⟨y, ok, hq, e⟩ => ?_)
      subst e
      refine dos_un 3 (dos_nil ⟨hlt, hm, y, addKs ks q, ok, addKs_nodup nd, fun r hr => ?_, by have := addKs_len ks q; omega, rfl⟩)
      rcases addKs_mem.mp hr with z | z
      · exact hk r z
      · rw [z]; exact hq
    obtain ⟨hi, hm, y, ks, ok, nd, hk, hl, e⟩ := hI
    subst e
    have pm := sortK_perm ks
    refine dos_one (do_ret (ev_tupleL B E (ev_sortedI B E (ev_listD B E 2).l pm ((sortK_lt nd).imp fun h => by omega)).l) ?_)
    exact ⟨sortK ks, y, rfl, ⟨ok, sortK_lt nd, fun q hq => hk q (pm.mem_iff.mp hq), by rw [pm.length_eq]; show (ks.length : Int) ≤ most; omega⟩, fun G T F H v o p => p⟩) fun u => pin_ls
theorem c_law_rows (E : Top Z) (D : Ds Z) : CalX Z "_law_rows" 5 (spEf Z.T S_rows) :=
  calx_eff (ps := ["_law_state", "_law_many", "_law_most"]) ["_law_state", "_law_many", "_law_most", "_law_rows_here", "_law_k", "_law_row_here"] [0, 1, 2, 3, 4, 5] ["range", "_law_row", "_law_take", "tuple"] 3 D.law_rows (fun _ _ _ _ _ _ us hl => match us, hl with | [_, _, _], _ => rfl) S_rows (fun X B u hu => by
    obtain ⟨a, st, many, most⟩ := u
    obtain ⟨ok, n1, n2, m1, m2⟩ := hu
    have ok : LsOk st := ok
    have n1 : 0 ≤ many := n1
    have n2 : many ≤ 1000 := n2
    have m1 : 0 ≤ most := m1
    have m2 : most ≤ 1000 := m2
    refine dos_cons (do_new B 3 (rTpl rInt) ?_)
    refine dos_cons (do_for B (gi_range1 B (E.f "range") (ev_var B 1) (by constructor <;> omega)) (ga_name B 4) (fun i Γ => i ≤ (rg 0 many).length ∧ ∃ (y : LSt) (rs : List (List Int)), LsOk y ∧ rs.length = i ∧ (∀ r ∈ rs, RowG most r) ∧ Γ = [.mu (mLs a) y, .da rInt many, .da rInt most, .mu (mLst (rTpl rInt)) rs, .un, .un]) ⟨Nat.zero_le _, st, [], ok, rfl, (fun r hr => (nomatch hr)), rfl⟩ (fun i x Γ' hx hI => ?_) (fun Γ' hI => ?_))
    · obtain ⟨hi, y, rs, ok, hl, hr, e⟩ := hI
      subst e
      have hlt := (List.getElem?_eq_some_iff.mp hx).1
      obtain ⟨exi, hxi⟩ := rg_at (show (rg 0 many)[i]? = some x from hx)
      have hlt' : i + 1 ≤ (rg 0 many).length := hlt
      have hxm : x < many := by omega
      refine dos_cons (do_setE B 5 ((ee_callM (S := S_row) B (c_law_row E D) 0 (a, y, most) id (ea2 (ev_pin B 0 pin_ls) (ev_var B 2)) rfl (part_self pin_ls) ⟨ok, m1, m2⟩).ex fun c Γ' ⟨w, h, e⟩ => h.elim) fun r0 Γ1 ⟨y, ⟨ok, hr0⟩, e⟩ => ?_)
      subst e
      have mid : ∀ {st1 : Stmt} {rest : List Stmt} {Γ0 : List Sl} {D1 : Fin}, DO Z X st1 Γ0 { D1 with nx := fun Γ' => ∃ (y : LSt) (r : List Int), LsOk y ∧ RowG most r ∧ Γ' = [.mu (mLs a) y, .da rInt many, .da rInt most, .mu (mLst (rTpl rInt)) rs, .da rInt x, .da (rTpl rInt) r] } → (∀ (y : LSt) (r : List Int), LsOk y → RowG most r → DOs Z X rest [.mu (mLs a) y, .da rInt many, .da rInt most, .mu (mLst (rTpl rInt)) rs, .da rInt x, .da (rTpl rInt) r] D1) → DOs Z X (st1 :: rest) Γ0 D1 := fun h1 h2 => dos_midP _ h1 fun Γ' ⟨y, r, ok, hr, e⟩ => e ▸ h2 y r ok hr
      refine mid ?_ fun y r0 ok hr0 => ?_
      · refine do_ifB (φ := fun b Γ' => ∃ y : LSt, LsOk y ∧ Γ' = [.mu (mLs a) y, .da rInt many, .da rInt most, .mu (mLst (rTpl rInt)) rs, .da rInt x, .da (rTpl rInt) r0]) (eb_cmp (φ2 := fun x0 w Γ' => ∃ y : LSt, LsOk y ∧ Γ' = [.mu (mLs a) y, .da rInt many, .da rInt most, .mu (mLst (rTpl rInt)) rs, .da rInt x, .da (rTpl rInt) r0]) (ee_take E D B 0 a ev_int ok (by decide) (by decide)) (fun x0 Γ1 ⟨y, ok, h2, h3, e⟩ => ee_ev ev_int ⟨y, ok, e⟩) fun x0 w Γ2 h => ⟨_, h, od_eq sc_int⟩) (fun Γ1 ⟨y, ok, e⟩ => ?_) (fun Γ1 ⟨y, ok, e⟩ => ?_)
        · subst e
          exact dos_one (do_set B 5 (ev_tup (R := rInt) .nil) ⟨y, [], ok, ⟨List.Pairwise.nil, fun q hq => (nomatch hq), by simp; omega⟩, rfl⟩)
        · subst e
          exact dos_nil ⟨y, r0, ok, hr0, rfl⟩
      refine mid ?_ fun y r0 ok hr0 => ?_
      · refine do_ifB (φ := fun b Γ' => (b = true → 0 < x) ∧ ∃ y : LSt, LsOk y ∧ Γ' = [.mu (mLs a) y, .da rInt many, .da rInt most, .mu (mLst (rTpl rInt)) rs, .da rInt x, .da (rTpl rInt) r0]) (eb_and2 (φ1 := fun b Γ' => (b = true → 0 < x) ∧ Γ' = [.mu (mLs a) y, .da rInt many, .da rInt most, .mu (mLst (rTpl rInt)) rs, .da rInt x, .da (rTpl rInt) r0]) (eb_et (et_cmp (ev_var B 4) ev_int od_gt) ⟨fun h => of_decide_eq_true h, rfl⟩) (fun Γ1 ⟨h, e⟩ => ⟨fun z => (nomatch z), y, ok, e⟩) fun Γ1 ⟨h, e⟩ => by
            subst e
            exact eb_cmp (φ2 := fun x0 w Γ' => ∃ y : LSt, LsOk y ∧ Γ' = [.mu (mLs a) y, .da rInt many, .da rInt most, .mu (mLst (rTpl rInt)) rs, .da rInt x, .da (rTpl rInt) r0]) (ee_take E D B 0 a ev_int ok (by decide) (by decide)) (fun x0 Γ1 ⟨y, ok, h2, h3, e⟩ => ee_ev ev_int ⟨y, ok, e⟩) fun x0 w Γ2 r => ⟨_, ⟨fun _ => h rfl, r⟩, od_eq sc_int⟩) (fun Γ1 ⟨h, y, ok, e⟩ => ?_) (fun Γ1 ⟨h, y, ok, e⟩ => ?_)
        · subst e
          have h0 := h rfl
          have hat : rs[(x - 1).toNat]? = some (rs.getD (x - 1).toNat []) := at_getD [] (by omega)
          exact dos_one (do_set B 5 (ev_ixL (x := rs.getD (x - 1).toNat []) (ev_own B 3) (ev_bin (ev_var B 4) ev_int od_sub) (by omega) hat) ⟨y, _, ok, hr _ (List.mem_of_getElem? hat), rfl⟩)
        · subst e
          exact dos_nil ⟨y, r0, ok, hr0, rfl⟩
      refine dos_cons (do_app B 3 (ev_var B 5) ?_ ?_)
      · exact sz_lt (by omega)
      refine dos_un 4 (dos_un 5 (dos_nil ⟨hlt', y, rs ++ [r0], ok, by rw [List.length_append, hl]; rfl, fun r h => ?_, rfl⟩))
      rcases List.mem_append.mp h with z | z
      · exact hr r z
      · rw [List.mem_singleton.mp z]; exact hr0
    obtain ⟨hi, y, rs, ok, hl, hr, e⟩ := hI
    subst e
    refine dos_one (do_ret (ev_tupleL B E (ev_own B 3)) ?_)
    exact ⟨rs, y, rfl, ⟨ok, by rw [hl, rg_len]; show (((many - 0).toNat : Nat) : Int) = many; omega, hr⟩, fun G T F H v o p => p⟩) fun u => pin_ls
end
end BF
set_option maxHeartbeats 5000000
namespace BF
open L2 PySem PySem.Spec PyProof.Rows
/-- a way down, begun -/
structure WGood (t : Tr) (w : List Int) (l : Int) : Prop where
  la : w.getLast? = some l
  kn : ∀ i, i < w.length → 0 ≤ w.getD i 0 ∧ w.getD i 0 < t.length
  dn : ∀ i, i + 1 < w.length → t.getD (w.getD (i + 1) 0).toNat none = some (w.getD i 0)
  sz : (w.length : Int) ≤ l + 1
theorem WGood.lt {t : Tr} {w : List Int} {l : Int} (h : WGood t w l) : w ≠ [] ∧ w.getD (w.length - 1) 0 = l ∧ 0 ≤ l ∧ l < t.length := by
  have hne : w ≠ [] := fun z => by have := h.la; rw [z] at this; cases this
  have hp := List.length_pos_iff.mpr hne
  have e : w.getD (w.length - 1) 0 = l := by
    have := h.la
    rw [List.getLast?_eq_getElem?] at this
    exact getD_at this
  have k := h.kn (w.length - 1) (by omega)
  rw [e] at k
  exact ⟨hne, e, k.1, k.2⟩
theorem WGood.ok {t : Tr} {w : List Int} {l : Int} (h : WGood t w l) (ht : TreeOk t) : WayOk t w := ⟨h.lt.1, h.kn, h.dn, by have := h.sz; have := h.lt.2.2; have := ht.l2; omega⟩
theorem wgood_one {t : Tr} {x : Int} (h0 : 0 ≤ x) (h1 : x < t.length) : WGood t [x] x := ⟨rfl, fun i hi => by
  have : i = 0 := by simpa using hi
  subst this; exact ⟨h0, h1⟩, fun i hi => by simp at hi, by simp; omega⟩
theorem lkids_mem {t : Tr} {k c : Int} : c ∈ lkidsM t k ↔ (0 ≤ c ∧ c < t.length) ∧ t.getD c.toNat none = some k := by
  unfold lkidsM
  rw [List.mem_filter, rg_mem, decide_eq_true_iff]
theorem WGood.add {t : Tr} {w : List Int} {l c : Int} (h : WGood t w l) (ht : TreeOk t) (hc : c ∈ lkidsM t l) : WGood t (w ++ [c]) c ∧ l < c := by
  obtain ⟨⟨c0, c1⟩, e⟩ := lkids_mem.mp hc
  have u := up_lt ht c0 c1 e
  obtain ⟨hne, el, l0, l1⟩ := h.lt
  refine ⟨⟨by simp, fun i hi => ?_, fun i hi => ?_, ?_⟩, u.2⟩
  · rw [List.length_append, List.length_singleton] at hi
    by_cases q : i = w.length
    · subst q; rw [getD_end]; exact ⟨c0, c1⟩
    · rw [getD_app _ _ _ (by omega)]; exact h.kn i (by omega)
  · rw [List.length_append, List.length_singleton] at hi
    by_cases q : i + 1 = w.length
    · rw [q, getD_end, getD_app _ _ _ (by omega), show i = w.length - 1 by omega, el]; exact e
    · rw [getD_app _ _ _ (by omega), getD_app _ _ _ (by omega)]; exact h.dn i (by omega)
  · rw [List.length_append, List.length_singleton]
    have := h.sz
    push_cast
    omega
abbrev S_lway : EfS (Addr × LSt × Tr) (List Int) LSt := { M := fun u => mLs u.1, a := fun u => u.1, L := fun u => [u.1], x := fun u => u.2.1, Ds := fun u => [.da rTr u.2.2], pre := fun u => LsOk u.2.1 ∧ TreeOk u.2.2, R := rLst rInt, rt := fun u z y => LsOk y ∧ WayOk u.2.2 z }
abbrev S_small : EfS (Addr × LSt) Sd LSt := { M := fun u => mLs u.1, a := fun u => u.1, L := fun u => [u.1], x := fun u => u.2, Ds := fun u => [], pre := fun u => LsOk u.2, R := rT2 (rLst (rOpt rInt)) (rLst (rLst rInt)), rt := fun u z y => LsOk y ∧ StandOk z }
abbrev S_near : EfS (Addr × LSt × List (List Int)) Int LSt := { M := fun u => mLs u.1, a := fun u => u.1, L := fun u => [u.1], x := fun u => u.2.1, Ds := fun u => [.da (rTpl (rTpl rInt)) u.2.2], pre := fun u => LsOk u.2.1 ∧ (∀ r ∈ u.2.2, ∀ q ∈ r, is_keyM q = true) ∧ (u.2.2.map (·.length)).sum ≤ 300, R := rInt, rt := fun u z y => LsOk y ∧ is_keyM z = true }
section
variable {Z : Zx}
theorem c_law_way (E : Top Z) (D : Ds Z) : CalX Z "_law_way" 3 (spEf Z.T S_lway) :=
  calx_eff (ps := ["_law_state", "_law_tree_here"]) ["_law_state", "_law_tree_here", "_law_way_here", "_law_some"] [0, 1, 2, 3] ["_law_take", "len", "_law_children"] 2 D.law_way (fun _ _ _ _ _ _ us hl => match us, hl with | [_, _], _ => rfl) S_lway (fun X B u hu => by
    obtain ⟨a, st, t⟩ := u
    obtain ⟨ok, ht⟩ := hu
    have ok : LsOk st := ok
    have ht : TreeOk t := ht
    have l1 := ht.l1
    have l2 := ht.l2
    refine dos_cons (do_newE (R := rInt) (Φ := fun xs Γ' => ∃ (y : LSt) (x : Int), LsOk y ∧ 0 ≤ x ∧ x < t.length ∧ xs = [x] ∧ Γ' = [.mu (mLs a) y, .da rTr t, .un, .un]) B 2 (eea_cons (ee_take E D B 0 a (ev_lenT B E (ev_var B 1).t) ok (by omega) (by omega)) fun x Γ1 ⟨y, ok, h2, h3, e⟩ => eea_nil ⟨y, x, ok, h2, h3, rfl, e⟩) (fun xs Γ' ⟨y, x, ok, h2, h3, ex, e⟩ => by subst ex e; exact ⟨by simp, rfl, rfl⟩) fun xs Γ1 ⟨y, x, ok, h2, h3, ex, e⟩ => ?_)
    subst ex e
    refine dos_midP (fun Γ' => ∃ (y : LSt) (x : Int), LsOk y ∧ 0 ≤ x ∧ x < t.length ∧ Γ' = [.mu (mLs a) y, .da rTr t, .mu (mLst rInt) [x], .un]) ?_ fun Γ' ⟨y, x, ok, x0, x1, e⟩ => ?_
    · refine do_ifB (φ := fun b Γ' => ∃ y : LSt, LsOk y ∧ Γ' = [.mu (mLs a) y, .da rTr t, .mu (mLst rInt) [x], .un]) (eb_cmp (φ2 := fun x0 w Γ' => ∃ y : LSt, LsOk y ∧ Γ' = [.mu (mLs a) y, .da rTr t, .mu (mLst rInt) [x], .un]) (ee_take E D B 0 a ev_int ok (by decide) (by decide)) (fun x0 Γ1 ⟨y, ok, h2, h3, e⟩ => ee_ev ev_int ⟨y, ok, e⟩) fun x0 w Γ2 h => ⟨_, h, od_eq sc_int⟩) (fun Γ1 ⟨y, ok, e⟩ => ?_) (fun Γ1 ⟨y, ok, e⟩ => ?_)
      · subst e
        exact dos_one (do_setN B 2 (en_list (R := rInt) (.cons ev_int .nil)) ⟨y, 0, ok, by decide, by omega, rfl⟩)
      · subst e
        exact dos_nil ⟨y, x, ok, h2, h3, rfl⟩
    subst e
    refine dos_cons (do_whileB B (fun m Γ => ∃ (y : LSt) (w : List Int) (l : Int), LsOk y ∧ WGood t w l ∧ (m : Int) = t.length - l ∧ Γ = [.mu (mLs a) y, .da rTr t, .mu (mLst rInt) w, .un]) (t.length - x.toNat) ⟨y, [x], x, ok, wgood_one x0 x1, by omega, rfl⟩ fun m Γ' ⟨y, w, l, ok, hw, hm, e⟩ => ?_)
    subst e
    obtain ⟨hne, el, l0, ll⟩ := hw.lt
    have kl : (lkidsM t l).length ≤ 40 := Nat.le_trans (List.length_filter_le _ _) (by rw [rg_len]; omega)
    refine ⟨fun b Γ' => (b = true → lkidsM t l ≠ []) ∧ ∃ y : LSt, LsOk y ∧ Γ' = [.mu (mLs a) y, .da rTr t, .mu (mLst rInt) w, .un], eb_and2 (φ1 := fun b Γ' => (b = true → lkidsM t l ≠ []) ∧ Γ' = [.mu (mLs a) y, .da rTr t, .mu (mLst rInt) w, .un]) (eb_et (et_cmp (ev_call2 B (c_law_children E D) (ev_var B 1) (ev_last (ev_own B 2) (ev_neg ev_int) hw.la) (by omega)).l (ev_list .nil).l (od_neL B py_int (fun _ _ => trivial) (fun _ _ => trivial))) ⟨fun h => ?_, rfl⟩) (fun Γ1 ⟨h, e⟩ => ⟨fun z => (nomatch z), y, ok, e⟩) fun Γ1 ⟨h, e⟩ => ?_, fun Γ1 ⟨h, y, ok, e⟩ => ?_, fun Γ1 ⟨h, y, ok, e⟩ => ?_⟩
    · intro z
      rw [z] at h
      simp at h
    · subst e
      exact eb_cmp (φ2 := fun x0 w0 Γ' => ∃ y : LSt, LsOk y ∧ Γ' = [.mu (mLs a) y, .da rTr t, .mu (mLst rInt) w, .un]) (ee_take E D B 0 a ev_int ok (by decide) (by decide)) (fun x0 Γ1 ⟨y, ok, h2, h3, e⟩ => ee_ev ev_int ⟨y, ok, e⟩) fun x0 w Γ2 r => ⟨_, ⟨fun _ => h rfl, r⟩, od_gt⟩
    · subst e
      have hk := h rfl
      have hk0 := List.length_pos_iff.mpr hk
      refine dos_cons (do_set B 3 (ev_call2 B (c_law_children E D) (ev_var B 1) (ev_last (ev_own B 2) (ev_neg ev_int) hw.la) (by omega)) ?_)
      refine dos_cons (do_appE (φ := fun c Γ' => c ∈ lkidsM t l ∧ ∃ y : LSt, LsOk y ∧ Γ' = [.mu (mLs a) y, .da rTr t, .mu (mLst rInt) w, .da (rLst rInt) (lkidsM t l)]) B 2
        (ee_ix (φ1 := fun xs Γ' => xs = lkidsM t l ∧ Γ' = [.mu (mLs a) y, .da rTr t, .mu (mLst rInt) w, .da (rLst rInt) (lkidsM t l)]) (φ2 := fun xs i Γ' => xs = lkidsM t l ∧ 0 ≤ i ∧ i < (lkidsM t l).length ∧ ∃ y : LSt, LsOk y ∧ Γ' = [.mu (mLs a) y, .da rTr t, .mu (mLst rInt) w, .da (rLst rInt) (lkidsM t l)]) (ee_ev (ev_var B 3) ⟨rfl, rfl⟩)
          (fun xs Γ1 ⟨ex, e⟩ => by
            subst e
            exact (ee_take E D B 0 a (ev_lenL B E (ev_var B 3).l) ok (by omega) (by omega)).imp fun z Γ' ⟨y, ok, h2, h3, e⟩ => ⟨ex, h2, h3, y, ok, e⟩)
          fun xs i Γ2 ⟨ex, i0, i1, r⟩ => by
            subst ex
            exact ⟨i0, (lkidsM t l)[i.toNat]'(by omega), List.getElem?_eq_getElem (by omega), List.getElem_mem _, r⟩)
        ?_ (fun c Γ1 ⟨hc, y, ok, e⟩ => by subst e; exact ⟨rfl, rfl⟩) fun c Γ1 ⟨hc, y, ok, e⟩ => ?_)
      · exact sz_lt (by have := hw.sz; omega)
      · subst e
        obtain ⟨hw2, lc⟩ := hw.add ht hc
        have := hw2.lt.2.2
        exact dos_un 3 (dos_nil ⟨(t.length - c).toNat, by omega, y, w ++ [c], c, ok, hw2, by omega, rfl⟩)
    · subst e
      refine dos_fzL 2 (dos_one (do_ret (ev_var B 2) ?_))
      exact ⟨w, y, rfl, ⟨ok, hw.ok ht⟩, fun G T F H v o p => p⟩) fun u => pin_ls
end
end BF
set_option maxHeartbeats 5000000
namespace BF
open L2 PySem PySem.Spec PyProof.Rows
section
variable {Z : Zx}
theorem c_law_small (E : Top Z) (D : Ds Z) : CalX Z "_law_small_stand" 6 (spEf Z.T S_small) :=
  calx_eff (ps := ["_law_state"]) ["_law_state", "_law_most", "_law_keys", "_law_tree_here", "_law_row_here"] [0, 1, 2, 3] ["_law_take", "_law_tree", "list", "_law_rows", "len"] 4 D.law_small_stand (fun _ _ _ _ _ _ us hl => match us, hl with | [_], _ => rfl) S_small (fun X B u hu => by
    obtain ⟨a, st⟩ := u
    have ok : LsOk st := hu
    refine dos_cons (do_asgE (R := rT2 rInt rInt) (φ := fun x Γ' => 1 ≤ x.1 ∧ x.1 ≤ 40 ∧ 0 ≤ x.2 ∧ x.2 ≤ 5 ∧ x.1 * x.2 ≤ 40 ∧ ∃ y : LSt, LsOk y ∧ Γ' = [.mu (mLs a) y, .un, .un, .un, .un])
      (ee_ix (φ1 := fun xs Γ' => xs = [((8 : Int), (5 : Int)), (8, 5), (12, 3), (40, 1)] ∧ Γ' = [.mu (mLs a) st, .un, .un, .un, .un]) (φ2 := fun xs i Γ' => xs = [((8 : Int), (5 : Int)), (8, 5), (12, 3), (40, 1)] ∧ 0 ≤ i ∧ i < 4 ∧ ∃ y : LSt, LsOk y ∧ Γ' = [.mu (mLs a) y, .un, .un, .un, .un])
        (ee_ev (ev_list (.cons (ev_t2 ev_int ev_int) (.cons (ev_t2 ev_int ev_int) (.cons (ev_t2 ev_int ev_int) (.cons (ev_t2 ev_int ev_int) .nil))))) ⟨rfl, rfl⟩)
        (fun xs Γ1 ⟨ex, e⟩ => by
          subst e
          exact (ee_take E D B 0 a ev_int ok (by decide) (by decide)).imp fun z Γ' ⟨y, ok, h2, h3, e⟩ => ⟨ex, h2, h3, y, ok, e⟩)
        fun xs i Γ2 ⟨ex, i0, i1, r⟩ => by
          subst ex
          refine ⟨i0, ?_⟩
          have hi : i = 0 ∨ i = 1 ∨ i = 2 ∨ i = 3 := by omega
          rcases hi with rfl | rfl | rfl | rfl
          · exact ⟨_, rfl, by decide, by decide, by decide, by decide, by decide, r⟩
          · exact ⟨_, rfl, by decide, by decide, by decide, by decide, by decide, r⟩
          · exact ⟨_, rfl, by decide, by decide, by decide, by decide, by decide, r⟩
          · exact ⟨_, rfl, by decide, by decide, by decide, by decide, by decide, r⟩)
      (ga_t2 B (ga_name B 1) (ga_name B 2)) fun x Γ1 ⟨a1, a2, b1, b2, ab, y, ok, e⟩ => ?_)
    subst e
    obtain ⟨most, keys⟩ := x
    have a1 : 1 ≤ most := a1
    have a2 : most ≤ 40 := a2
    have b1 : 0 ≤ keys := b1
    have b2 : keys ≤ 5 := b2
    have ab : most * keys ≤ 40 := ab
    refine dos_cons (do_setE B 3 ((ee_callM (S := S_tree) B (c_law_tree E D) 0 (a, y, most) id (ea2 (ev_pin B 0 pin_ls) (ev_var B 1)) rfl (part_self pin_ls) ⟨ok, a1, a2⟩).ex fun c Γ' ⟨w, h, e⟩ => h.elim) fun t Γ1 ⟨y, ⟨ok, ht, hl⟩, e⟩ => ?_)
    subst e
    have hl : (t.length : Int) ≤ most := hl
    refine dos_one (do_retE (ee_t2 (φ1 := fun (t' : List (Option Int)) Γ' => t' = t ∧ Γ' = [.mu (mLs a) y, .da rInt most, .da rInt keys, .da rTr t, .un]) (φ2 := fun (t' : List (Option Int)) (rs : List (List Int)) Γ' => t' = t ∧ (rs.length = t.length ∧ ∀ r ∈ rs, RowG keys r) ∧ ∃ y : LSt, LsOk y ∧ Γ'[0]? = some (.mu (mLs a) y)) (ee_ev (ev_listT B E (ev_var B 3).t) ⟨rfl, rfl⟩)
      (fun t' Γ1 ⟨et, e⟩ => by
        subst e
        exact (ee_lc (f := fun r => r) (S := rLst rInt) (φ := fun xs Γ' => ((xs.length : Int) = t.length ∧ ∀ r ∈ xs, RowG keys r) ∧ ∃ y : LSt, LsOk y ∧ Γ' = [.mu (mLs a) y, .da rInt most, .da rInt keys, .da rTr t, .un]) B [("_law_row_here", 4)] [4] ["list"]
          (gie_t (((ee_callM (S := S_rows) B (c_law_rows E D) 0 (a, y, (t.length : Int), keys) id (ea_cons (ev_pin B 0 pin_ls) (ea2 (ev_lenT B E (ev_var B 3).t) (ev_var B 2))) rfl (part_self pin_ls) ⟨ok, (by show 0 ≤ (t.length : Int); omega), (by show (t.length : Int) ≤ 1000; omega), b1, (by show keys ≤ 1000; omega)⟩).imp fun xs Γ' ⟨w, h, e⟩ => ⟨h.2, w, h.1, e⟩).ex fun c Γ' ⟨w, h, e⟩ => h.elim))
          (fun xs Γ1 h => by have := h.1.1; omega) (fun X' B' => (ga_name B' 4)) (fun X' xs Γ1 B' h x hx => by
            obtain ⟨_, y, ok, e⟩ := h
            subst e
            exact (ev_listT B' E (ev_var B' 4).t))).imp fun rs Γ' ⟨xs, ⟨⟨h1, h2⟩, y, ok, e⟩, ers⟩ => by
              rw [List.map_id'] at ers
              subst ers
              exact ⟨et, ⟨by omega, h2⟩, y, ok, by rw [e]; rfl⟩)) fun z Γ1 ⟨e1, ⟨h1, h2⟩, y, ok, e⟩ => ?_)
    obtain ⟨t', rs⟩ := z
    obtain rfl : t' = t := e1
    have h1 : rs.length = t'.length := h1
    refine ⟨(t', rs), y, e, ⟨ok, ht, h1, fun r hr => ⟨(h2 r hr).1, (h2 r hr).2.1⟩, ?_⟩, fun G T F H v o p => p⟩
    have s := sum_le_mul (f := fun r : List Int => r.length) (c := 5) (ys := rs) fun r hr => by have := (h2 r hr).2.2; omega
    have : rs.length * 5 ≤ 40 * 5 := Nat.mul_le_mul_right _ (by omega)
    show (rs.map fun r : List Int => r.length).sum ≤ 300
    exact Nat.le_trans s (by omega)) fun u => pin_ls
end
end BF
set_option maxHeartbeats 5000000
namespace BF
open L2 PySem PySem.Spec PyProof.Rows
section
variable {Z : Zx}
theorem c_law_near (E : Top Z) (D : Ds Z) : CalX Z "_law_key_near" 4 (spEf Z.T S_near) :=
  calx_eff (ps := ["_law_state", "_law_rows_here"]) ["_law_state", "_law_rows_here", "_law_every_here"] [0, 1, 2] ["_law_every", "_law_take", "_law_key", "len"] 1 D.law_key_near (fun _ _ _ _ _ _ us hl => match us, hl with | [_, _], _ => rfl) S_near (fun X B u hu => by
    obtain ⟨a, st, rows⟩ := u
    obtain ⟨ok, hk, hz⟩ := hu
    have ok : LsOk st := ok
    have hk : ∀ r ∈ rows, ∀ q ∈ r, is_keyM q = true := hk
    have hz : (rows.map (·.length)).sum ≤ 300 := hz
    have el : (everyM rows).length ≤ 300 := by unfold everyM; rw [List.length_flatten]; exact hz
    have ek : ∀ q ∈ everyM rows, is_keyM q = true := fun q hq => by
      obtain ⟨r, hr, h⟩ := List.mem_flatten.mp hq
      exact hk r hr q h
    refine dos_cons (do_set B 2 (ev_call1 B (c_law_every E D) (ev_var B 1) (by omega)) ?_)
    refine dos_cons (do_ifB (φ := fun b Γ' => (b = false → everyM rows ≠ []) ∧ ∃ y : LSt, LsOk y ∧ Γ' = [.mu (mLs a) y, .da (rTpl (rTpl rInt)) rows, .da (rLst rInt) (everyM rows)]) (eb_or2 (φ1 := fun b Γ' => (b = false → everyM rows ≠ []) ∧ Γ' = [.mu (mLs a) st, .da (rTpl (rTpl rInt)) rows, .da (rLst rInt) (everyM rows)]) (eb_et (et_cmp (ev_var B 2).l (ev_list .nil).l (od_eqL B py_int (fun _ _ => trivial) (fun _ _ => trivial))) ⟨fun h => of_decide_eq_false h, rfl⟩) (fun Γ1 ⟨h, e⟩ => ⟨fun z => (nomatch z), st, ok, e⟩) fun Γ1 ⟨h, e⟩ => by
      subst e
      exact eb_cmp (φ2 := fun x0 w0 Γ' => ∃ y : LSt, LsOk y ∧ Γ' = [.mu (mLs a) y, .da (rTpl (rTpl rInt)) rows, .da (rLst rInt) (everyM rows)]) (ee_take E D B 0 a ev_int ok (by decide) (by decide)) (fun x0 Γ1 ⟨y, ok, h2, h3, e⟩ => ee_ev ev_int ⟨y, ok, e⟩) fun x0 w Γ2 r => ⟨_, ⟨fun _ => h rfl, r⟩, od_eq sc_int⟩) (fun Γ1 ⟨h, y, ok, e⟩ => ?_) (fun Γ1 ⟨h, y, ok, e⟩ => dos_nil ?_))
    · subst e
      refine dos_one (do_retE ((ee_callM (S := S_key) B (c_law_key E D) 0 (a, y) id (ea1 (ev_pin B 0 pin_ls)) rfl (part_self pin_ls) ok).ex fun c Γ' ⟨w, h, e⟩ => h.elim) fun z Γ1 ⟨y, h, e⟩ => ?_)
      subst e
      exact ⟨z, y, rfl, h, fun G T F H v o p => p⟩
    · subst e
      have hne := List.length_pos_iff.mpr (h rfl)
      refine dos_one (do_retE (φ := fun q Γ' => is_keyM q = true ∧ ∃ y : LSt, LsOk y ∧ Γ' = [.mu (mLs a) y, .da (rTpl (rTpl rInt)) rows, .da (rLst rInt) (everyM rows)])
        (ee_ix (φ1 := fun xs Γ' => xs = everyM rows ∧ Γ' = [.mu (mLs a) y, .da (rTpl (rTpl rInt)) rows, .da (rLst rInt) (everyM rows)]) (φ2 := fun xs i Γ' => xs = everyM rows ∧ 0 ≤ i ∧ i < (everyM rows).length ∧ ∃ y : LSt, LsOk y ∧ Γ' = [.mu (mLs a) y, .da (rTpl (rTpl rInt)) rows, .da (rLst rInt) (everyM rows)]) (ee_ev (ev_var B 2) ⟨rfl, rfl⟩)
          (fun xs Γ1 ⟨ex, e⟩ => by
            subst e
            exact (ee_take E D B 0 a (ev_lenL B E (ev_var B 2).l) ok (by omega) (by omega)).imp fun z Γ' ⟨y, ok, h2, h3, e⟩ => ⟨ex, h2, h3, y, ok, e⟩)
          fun xs i Γ2 ⟨ex, i0, i1, r⟩ => by
            subst ex
            exact ⟨i0, (everyM rows)[i.toNat]'(by omega), List.getElem?_eq_getElem (by omega), ek _ (List.getElem_mem _), r⟩)
        fun q Γ1 ⟨hq, y, ok, e⟩ => ?_)
      subst e
      exact ⟨q, y, rfl, ⟨ok, hq⟩, fun G T F H v o p => p⟩) fun u => pin_ls
end
end BF
set_option maxHeartbeats 5000000
namespace BF
open L2 PySem PySem.Spec PyProof.Rows
/-! ## try .. except -/
/-- a body, what it may raise being wished by W -/
def tTr (Z : Zx) (X : Cx) (body : List Stmt) (W : WX) : TS := fun E σ H => ∃ (F0 G F : Hp) (Wr : Addr → Prop) (fts : Nat → List Addr) (Γ : List Sl) (D : Fin), Grow Z.T Wr F0 G F H ∧ Sat Wr F G H Γ σ fts ∧ (∀ c d σ' H', D.wish Z.T Wr F0 G c d σ' H' → W c d σ' H') ∧
  (∀ pn xe, PassesOwn (model X.prog X.w) X.A X.env xe → DOs Z (X.tr pn xe) body Γ D) ∧ Imp (D.ends Z.T Wr F0 G) E
section
variable {Z : Zx} {X : Cx} {body : List Stmt} {Γ : List Sl} {N : List Str} {sc : Scope} {vs ws : List Nat} {gs : List Str} {k j0 : Nat} {pos p np pos' pos2 pos3 : Pos} {D : Fin} {α : Type} {R : Rp α}
theorem pss_tr {W : WX} {pn : List (Addr × Obj)} {xe : Value → Shared → Prop} (tk : Takes (X.tr pn xe) W) (po : PassesOwn (model X.prog X.w) X.A X.env xe) : PSs (X.tr pn xe) body (tTr Z X body W) :=
  ⟨fun pins s σ H E I ⟨F0, G, F, Wr, fts, Γ, D, g, S, hw, h, im⟩ => thn (h pn xe po pins s σ F0 G F H Wr fts I g S (tk.imp hw)) fun f s' q => SP.mono q im.nx im.rt im.bk im.ct⟩
/-- try: .. except x: n = None -/
theorem do_tryN {CB : Addr} {x : Str} {y : α} (B : Bd Z X N sc vs ws gs k) (own : Own X) (i : Nat) {n : Str} {ψ : XC} (hm : Z.mg x = some (.ref CB)) (hy : ∀ F, R.rel y F .non)
    (hb : ∀ X', Bd Z X' N sc vs ws gs k → DOs Z X' body Γ { D with ex := ψ }) (hψ : ∀ c Γ', ψ c Γ' → PySem.W.exmOne Z.K c (.ref CB) = some true ∧ D.nx (Γ'.set i (.da R y)))
    (hg : x ∈ gs := by decide +kernel) (hi : N[i]? = some n := by rfl) (hw : i ∈ ws := by decide)
    (hs : ∀ X' : Cx, swapsWith (.Constant .none j0 pos3) (some (.Name n pos')) pos2.line X'.env = pure false := by intro _; rfl) :
    DO Z X (.Try body [.ExceptHandler (some (.Name x np)) none [.Assign [.Name n pos'] (.Constant .none j0 pos3) pos2] p] [] [] pos) Γ D := by
  obtain ⟨d1, d2, d3⟩ := plainName_ok (B.nm.pg x hg)
  intro pins s σ F0 G F H Wr fts I g S tk
  refine (ps_try_only (c := .ref CB) (tb := tTr Z X body) (ts := fun _ _ _ => tAsg (tC .non) (gName i)) own.1 own.2 ⟨B.gx hg, d1, .inl (by rw [B.mg]; exact hm)⟩ tk (fun W pn xe tk' po => pss_tr tk' po) (fun a oe cls d pn hz hd => ?_)).run pins s σ H _ I ?_
  · exact pss_one (ps_set (i := i) (by rw [B.eN]; exact B.nm.nd) (by rw [B.eN]; exact hi) (by rw [B.eSc]; exact B.nm.loc i hw n hi) pe_non (hs _) (by rw [B.eSc]; exact B.st i hw n hi))
  · refine ⟨F0, G, F, Wr, fts, Γ, { D with ex := ψ }, g, S, fun c d σ' H' ⟨e, F1, Γ1, ft1, g1, S1, q1⟩ => ?_, fun pn xe po => hb _ { nm := B.nm, prog := B.prog, w := B.w, K := B.K, mg := B.mg, base := B.base, eN := B.eN, eSc := B.eSc, calm := B.calm, room := B.room, st := B.st, po := po }, ⟨fun _ _ q => q, fun _ _ q => q, fun _ _ q => q, fun _ _ q => q⟩⟩
    obtain ⟨h1, h2⟩ := hψ c Γ1 q1
    refine ⟨true, by rw [B.K]; exact h1, fun _ a ha => ?_, fun z => nomatch z⟩
    exact ⟨F1, _, _, g1, S1.set (hy F1), h2⟩
end
end BF
set_option maxHeartbeats 5000000
namespace BF
open L2 PySem PySem.Spec PyProof.Rows
/-! ## a deed done, a deed told -/
def dOf (w : Str) (kn key : Int) : Deed := if w = "put" then .put kn key else if w = "out" then .out kn key else .hang kn
theorem dOf_put (kn key : Int) : dOf "put" kn key = .put kn key := if_pos rfl
theorem dOf_out (kn key : Int) : dOf "out" kn key = .out kn key := by unfold dOf; rw [if_neg (by decide +kernel), if_pos rfl]
theorem dOf_hang (kn key : Int) : dOf "hang" kn key = .hang kn := by unfold dOf; rw [if_neg (by decide +kernel), if_neg (by decide +kernel)]
def dWs : List Str := ["put", "out", "hang"]
theorem dws_of {w : Str} (h : w ∈ dWs) : w = "put" ∨ w = "out" ∨ w = "hang" := by
  rcases List.mem_cons.mp h with e | h
  · exact .inl e
  rcases List.mem_cons.mp h with e | h
  · exact .inr (.inl e)
  · exact .inr (.inr (List.mem_singleton.mp h))
theorem dOf_word {w : Str} (h : w ∈ dWs) (kn key : Int) : (dOf w kn key).word = w := by
  rcases dws_of h with e | e | e <;> subst e
  · rw [dOf_put]; rfl
  · rw [dOf_out]; rfl
  · rw [dOf_hang]; rfl
theorem dOf_knot (w : Str) (kn key : Int) : (dOf w kn key).knot = kn := by
  unfold dOf
  split
  · rfl
  · split <;> rfl
theorem dOf_key {w : Str} {kn key : Int} (h : is_keyM key = true) : (dOf w kn key).keyOk := by
  unfold dOf
  split
  · exact h
  · split
    · exact h
    · exact trivial
/-- what becomes of a deed -/
def Came (dd : Deed) (sd : Sd) (z : Option Str) (sd' : Sd) : Prop := (dd.ok sd ∧ z = some (dd.ans sd) ∧ sd' = dd.next sd) ∨ (¬ dd.ok sd ∧ z = none ∧ sd' = sd)
theorem came_ok {dd : Deed} {sd sd' : Sd} {z : Option Str} (h : Came dd sd z sd') (hs : StandOk sd) (hk : dd.keyOk) : StandOk sd' := by
  rcases h with ⟨h1, h2, rfl⟩ | ⟨h1, h2, rfl⟩
  · exact deed_next sd hs dd hk h1
  · exact hs
theorem came_one {dd : Deed} {sd a b : Sd} {y z : Option Str} (h1 : Came dd sd y a) (h2 : Came dd sd z b) : y = z ∧ a = b := by
  rcases h1 with ⟨a1, a2, a3⟩ | ⟨a1, a2, a3⟩ <;> rcases h2 with ⟨b1, b2, b3⟩ | ⟨b1, b2, b3⟩
  · exact ⟨a2.trans b2.symm, a3.trans b3.symm⟩
  · exact absurd a1 b1
  · exact absurd b1 a1
  · exact ⟨a2.trans b2.symm, a3.trans b3.symm⟩
abbrev S_done (Z : Zx) (C CB : Addr) : EfS (SA × Sd × Str × Int × Int) (Option Str) Sh := { M := fun u => mSh C u.1, a := fun u => u.1.a, L := fun u => u.1.ft, x := fun u => shOf u.2.1, Ds := fun u => [.da rStr u.2.2.1, .da rInt u.2.2.2.1, .da rInt u.2.2.2.2], pre := fun u => StandOk u.2.1 ∧ u.2.2.1 ∈ dWs ∧ is_keyM u.2.2.2.2 = true, R := rOpt rStr, rt := fun u z y => ∃ sd', Came (dOf u.2.2.1 u.2.2.2.1 u.2.2.2.2) u.2.1 z sd' ∧ y = shOf sd' }
abbrev S_said (Z : Zx) (C CD CB : Addr) : EfS (DsA × Sd × Deed) (Option Str) Sh := { M := fun u => mDk CD C u.1, a := fun u => u.1.a, L := fun u => u.1.ft, x := fun u => shOf u.2.1, Ds := fun u => [.da rStr (rowT u.2.2.word u.2.2.nums)], pre := fun u => StandOk u.2.1 ∧ u.2.2.keyOk ∧ Small u.2.2.knot, R := rOpt rStr, rt := fun u z y => ∃ sd', Came u.2.2 u.2.1 z sd' ∧ y = shOf sd' }
theorem str_opt {z : Str} {F : Hp} {v : V} (r : rStr.rel z F v) : (rOpt rStr).rel (some z) F v := ⟨(by rw [show v = V.str z from r]; intro h; cases h), r⟩
section
variable {Z : Zx} {C CD CB : Addr}
theorem c_law_said (E : Top Z) (D : Ds Z) (K : Kl Z C CD) (XX : XKs Z CB) {dS : Addr} (SH : Shp Z dS) (hB : Z.mg "BridgeError" = some (.ref CB)) : CalX Z "_law_said" 10 (spEf Z.T (S_said Z C CD CB)) :=
  calx_effO (ps := ["_law_desk", "_law_row_here"]) ["_law_desk", "_law_row_here", "_law_found"] [0, 1, 2] ["BridgeError"] 1 D.law_said (fun _ _ _ _ _ _ us hl => match us, hl with | [_, _], _ => rfl) (S_said Z C CD CB) (fun X hX B u hu => by
    obtain ⟨d, sd, dd⟩ := u
    obtain ⟨hs, hk, hsm⟩ := hu
    have hs : StandOk sd := hs
    have hk : dd.keyOk := hk
    have hsm : Small dd.knot := hsm
    refine dos_cons (do_set B 2 (ev_nonO (R := rStr)) ?_)
    refine dos_midP (fun Γ' => ∃ z sd', Came dd sd z sd' ∧ Γ' = [.mu (mDk CD C d) (shOf sd'), .da rStr (rowT dd.word dd.nums), .da (rOpt rStr) z]) (do_tryN (R := rOpt rStr) (y := none) B hX 2 (ψ := fun c Γ' => Ref Z CB c ∧ ¬ dd.ok sd ∧ Γ' = [.mu (mDk CD C d) (shOf sd), .da rStr (rowT dd.word dd.nums), .da (rOpt rStr) none]) hB (fun F => rfl) (fun X' B' => ?_) fun c Γ' ⟨h1, h2, e⟩ => ?_) fun Γ' ⟨z, sd', h, e⟩ => ?_
    · refine dos_one (do_setE (R := rOpt rStr) (φ := fun z Γ' => ∃ sd', Came dd sd z sd' ∧ Γ' = [.mu (mDk CD C d) (shOf sd'), .da rStr (rowT dd.word dd.nums), .da (rOpt rStr) none]) B' 2 (EE.as ((ee_methM (S := S_say Z C CD CB) B' K.dk.c (c_Desk_sayX E D K XX SH) 0 (d, sd, dd) id (ev_pin B' 0 pin_dk) (ea1 (ev_var B' 1)) rfl (part_self pin_dk) (ins_dkM (by decide +kernel)) ⟨hs, hk, hsm⟩).ex fun c Γ' ⟨w, h, e⟩ => ?_) fun z Γ' ⟨w, h, e⟩ => ?_) fun z Γ1 ⟨sd', h, e⟩ => ?_)
      · obtain ⟨rfl, h1, h2⟩ := h
        exact ⟨h1, h2, e⟩
      · obtain ⟨h1, rfl, rfl⟩ := h
        exact ⟨some (dd.ans sd), ⟨_, .inl ⟨h1, rfl, rfl⟩, e⟩, fun F v r => str_opt r⟩
      · subst e
        exact ⟨z, sd', h, rfl⟩
    · subst e
      exact ⟨h1, none, sd, .inr ⟨h2, rfl, rfl⟩, rfl⟩
    · subst e
      refine dos_one (do_ret (ev_var B 2) ?_)
      exact ⟨z, _, rfl, ⟨sd', h, rfl⟩, fun G T F H v o p => p⟩) fun u => pin_dk
theorem c_law_done (E : Top Z) (D : Ds Z) (K : Kl Z C CD) (XX : XKs Z CB) (hB : Z.mg "BridgeError" = some (.ref CB)) : CalX Z "_law_done" 8 (spEf Z.T (S_done Z C CB)) :=
  calx_effO (ps := ["_law_shelf", "_law_word", "_law_knot", "_law_key_here"]) ["_law_shelf", "_law_word", "_law_knot", "_law_key_here", "_law_found"] [0, 1, 2, 3, 4] ["BridgeError", "_law_counted", "str"] 1 D.law_done (fun _ _ _ _ _ _ us hl => match us, hl with | [_, _, _, _], _ => rfl) (S_done Z C CB) (fun X hX B u hu => by
    obtain ⟨s, sd, w, kn, key⟩ := u
    obtain ⟨hs, hw, hk⟩ := hu
    have hs : StandOk sd := hs
    have hw : w ∈ dWs := hw
    have hk : is_keyM key = true := hk
    refine dos_cons (do_set B 4 (ev_nonO (R := rStr)) ?_)
    refine dos_midP (fun Γ' => ∃ z sd', Came (dOf w kn key) sd z sd' ∧ Γ' = [.mu (mSh C s) (shOf sd'), .da rStr w, .da rInt kn, .da rInt key, .da (rOpt rStr) z]) (do_tryN (R := rOpt rStr) (y := none) B hX 4 (ψ := fun c Γ' => Ref Z CB c ∧ ¬ (dOf w kn key).ok sd ∧ Γ' = [.mu (mSh C s) (shOf sd), .da rStr w, .da rInt kn, .da rInt key, .da (rOpt rStr) none]) hB (fun F => rfl) (fun X' B' => ?_) fun c Γ' ⟨h1, h2, e⟩ => ?_) fun Γ' ⟨z, sd', h, e⟩ => ?_
    · refine dos_one (do_if (et_cmp (ev_var B' 1) ev_str (od_eq sc_str)) (fun h => ?_) (fun h => ?_))
      · obtain rfl : w = "put" := of_decide_eq_true h
        rw [dOf_put]
        refine dos_one (do_setE (R := rOpt rStr) (φ := fun z Γ' => ∃ sd', Came (.put kn key) sd z sd' ∧ Γ' = [.mu (mSh C s) (shOf sd'), .da rStr "put", .da rInt kn, .da rInt key, .da (rOpt rStr) none]) B' 4 (EE.as (ee_cal1 B' (c_law_counted E D) (φ := fun t Γ' => putOk sd kn key ∧ t = toldF sd (putS sd kn key) 100 (some kn) [] [(key, kn)] ∧ Γ' = [.mu (mSh C s) (shOf (putS sd kn key)), .da rStr "put", .da rInt kn, .da rInt key, .da (rOpt rStr) none])
          (((ee_methM (S := S_put Z C CB) B' K.sh.c (c_Shelf_put E D K XX) 0 (s, sd, kn, key) id (ev_pin B' 0 pin_sh) (ea2 (ev_var B' 2) (ev_var B' 3)) rfl (part_self pin_sh) (ins_shM (by decide)) ⟨hs, hk⟩).imp fun z Γ' ⟨w, h, e⟩ => ⟨h.1, h.2.2, by rw [e]; obtain ⟨_, rfl, _⟩ := h; rfl⟩).ex fun c Γ' ⟨w, h, e⟩ => ?_) fun t Γ' ⟨h1, h2, e⟩ => by rw [h2]; exact told_put hs hk h1) fun z Γ' ⟨t, ⟨h1, h2, e⟩, ez⟩ => ?_) fun z Γ1 ⟨sd', h, e⟩ => ?_)
        · obtain ⟨rfl, h1, h2⟩ := h
          exact ⟨h1, h2, e⟩
        · subst h2 ez
          exact ⟨some _, ⟨_, .inl ⟨h1, rfl, rfl⟩, e⟩, fun F v r => str_opt r⟩
        · subst e
          exact ⟨z, sd', h, rfl⟩
      have hn : w ≠ "put" := of_decide_eq_false h
      refine dos_one (do_if (et_cmp (ev_var B' 1) ev_str (od_eq sc_str)) (fun h => ?_) (fun h => ?_))
      · obtain rfl : w = "out" := of_decide_eq_true h
        rw [dOf_out]
        refine dos_one (do_setE (R := rOpt rStr) (φ := fun z Γ' => ∃ sd', Came (.out kn key) sd z sd' ∧ Γ' = [.mu (mSh C s) (shOf sd'), .da rStr "out", .da rInt kn, .da rInt key, .da (rOpt rStr) none]) B' 4 (EE.as (ee_cal1 B' (c_law_counted E D) (φ := fun t Γ' => outOk sd kn key ∧ t = toldF sd (outS sd kn key) 100 (some kn) [(key, kn)] [] ∧ Γ' = [.mu (mSh C s) (shOf (outS sd kn key)), .da rStr "out", .da rInt kn, .da rInt key, .da (rOpt rStr) none])
          (((ee_methM (S := S_out Z C CB) B' K.sh.c (c_Shelf_out E D K XX) 0 (s, sd, kn, key) id (ev_pin B' 0 pin_sh) (ea2 (ev_var B' 2) (ev_var B' 3)) rfl (part_self pin_sh) (ins_shM (by decide)) ⟨hs, hk⟩).imp fun z Γ' ⟨w, h, e⟩ => ⟨h.1, h.2.2, by rw [e]; obtain ⟨_, rfl, _⟩ := h; rfl⟩).ex fun c Γ' ⟨w, h, e⟩ => ?_) fun t Γ' ⟨h1, h2, e⟩ => by rw [h2]; exact told_out hs h1) fun z Γ' ⟨t, ⟨h1, h2, e⟩, ez⟩ => ?_) fun z Γ1 ⟨sd', h, e⟩ => ?_)
        · obtain ⟨rfl, h1, h2⟩ := h
          exact ⟨h1, h2, e⟩
        · subst h2 ez
          exact ⟨some _, ⟨_, .inl ⟨h1, rfl, rfl⟩, e⟩, fun F v r => str_opt r⟩
        · subst e
          exact ⟨z, sd', h, rfl⟩
      have hn2 : w ≠ "out" := of_decide_eq_false h
      obtain rfl : w = "hang" := ((dws_of hw).resolve_left hn).resolve_left hn2
      rw [dOf_hang]
      refine dos_one (do_setE (R := rOpt rStr) (φ := fun z Γ' => ∃ sd', Came (.hang kn) sd z sd' ∧ Γ' = [.mu (mSh C s) (shOf sd'), .da rStr "hang", .da rInt kn, .da rInt key, .da (rOpt rStr) none]) B' 4 (EE.as (ee_strI B' E (φ := fun t Γ' => hangOk sd kn ∧ t = sd.1.length ∧ Γ' = [.mu (mSh C s) (shOf (hangS sd kn)), .da rStr "hang", .da rInt kn, .da rInt key, .da (rOpt rStr) none])
          (((ee_methM (S := S_hang Z C CB) B' K.sh.c (c_Shelf_hang E D K XX) 0 (s, sd, kn) id (ev_pin B' 0 pin_sh) (ea1 (ev_var B' 2)) rfl (part_self pin_sh) (ins_shM (by decide)) hs).imp fun z Γ' ⟨w, h, e⟩ => ⟨h.1, h.2.2, by rw [e]; obtain ⟨_, rfl, _⟩ := h; rfl⟩).ex fun c Γ' ⟨w, h, e⟩ => ?_) fun t Γ' ⟨h1, h2, e⟩ => ?_) fun z Γ' ⟨t, ⟨h1, h2, e⟩, ez⟩ => ?_) fun z Γ1 ⟨sd', h, e⟩ => ?_)
      · obtain ⟨rfl, h1, h2⟩ := h
        exact ⟨h1, h2, e⟩
      · rw [h2]
        have : sd.1.length ≤ 40 := hs.tree.l2
        exact strlen (small_i (i := (sd.1.length : Int)) (by omega) (by omega))
      · subst h2 ez
        exact ⟨some _, ⟨_, .inl ⟨h1, rfl, rfl⟩, e⟩, fun F v r => str_opt r⟩
      · subst e
        exact ⟨z, sd', h, rfl⟩
    · subst e
      exact ⟨h1, none, sd, .inr ⟨h2, rfl, rfl⟩, rfl⟩
    · subst e
      refine dos_one (do_ret (ev_var B 4) ?_)
      exact ⟨z, _, rfl, ⟨sd', h, rfl⟩, fun G T F H v o p => p⟩) fun u => pin_sh
end
end BF
set_option maxHeartbeats 5000000
namespace BF
open L2 PySem PySem.Spec PyProof.Rows
/-! ## a state begun -/
def mLsX : Mp LSt where
  loc := false
  rel := fun st F H ft v => ∃ a, (mLs a).rel st F H ft v
  mono := fun s k ⟨a, r⟩ => ⟨a, (mLs a).mono s k r⟩
  there := fun ⟨a, r⟩ b hb => (mLs a).there r b hb
section
variable {Z : Zx} {X : Cx} {Γ : List Sl} {N : List Str} {sc : Scope} {vs ws : List Nat} {gs : List Str} {k : Nat} {pos p0 p1 p2 p3 p4 p5 : Pos} {j1 j2 j3 j4 j5 : Nat} {D : Fin} {α : Type} {R : Rp α}
theorem en_begin (B : Bd Z X N sc vs ws gs k) (i : Nat) {n : Str} {scr : List Int} (hi : N[i]? = some n := by rfl) (hv : i ∈ vs := by decide) (hΓ : Γ[i]? = some (.da rScr scr) := by rfl) :
    EN Z X (.Dict [some (.Constant (.str "script") j1 p1), some (.Constant (.str "at") j2 p2), some (.Constant (.str "left") j3 p3)] [.Name n p0, .Constant (.int 0) j4 p4, .Constant (.int 0) j5 p5] pos) Γ mLsX ⟨scr, 0, 0⟩ := by
  obtain ⟨d1, d2, _⟩ := plainName_ok (B.nm.pn i hv n hi)
  have pn : PE X (.Name n p0) (tVar i) := pe_var (i := i) (by rw [B.eN]; exact hi) (by rw [B.eSc]; exact B.nm.vis i hv n hi) d1 d2
  refine ⟨_, pe_disp (pps_cons pe_str pn (pps_cons pe_str pe_int (pps_cons pe_str pe_int pps_nil))) (by rfl) (by rfl) (by simp) (by simp), fun σ F G H Wr fts Q o S q => fun d hd => ?_⟩
  obtain ⟨v, ho, r⟩ := S.da hΓ
  refine ⟨v, ho, upd_same, [(.inr "script", v), (.inr "at", .int 0), (.inr "left", .int 0)], rfl, by simp, ?_⟩
  have e1 : mergeK [] [(.inr "script", v), (.inr "at", .int 0), (.inr "left", .int 0)] = lsU v 0 0 := by simp [mergeK, putK, ls_n1, ls_n2, ls_n3]
  have e2 : upd (upd H d (.dK [])) d (.dK (mergeK [] [(.inr "script", v), (.inr "at", .int 0), (.inr "left", .int 0)])) = upd H d (.dK (lsU v 0 0)) := by
    rw [e1]
    funext b
    by_cases hb : b = d
    · subst hb; rw [upd_same, upd_same]
    · rw [upd_ne hb, upd_ne hb, upd_ne hb]
  rw [e2]
  exact q _ F _ [d] (Grow.made o hd) ⟨d, rfl, rfl, v, upd_same, r⟩ fun b hb => by
    rw [List.mem_singleton.mp hb]; exact ⟨o.free hd, hd⟩
end
theorem c_law_begin {Z : Zx} (E : Top Z) (D : Ds Z) : Cal Z "_law_begin" 1 (sp1N Z.T (pd rScr) (fun _ => True) mLsX (fun scr => ⟨scr, 0, 0⟩)) :=
  cal1N ["_law_script"] [0] [] 0 D.law_begin (fun _ _ _ _ _ _ us hl => match us, hl with | [_], _ => rfl) fun X B scr _ => dos_one (do_retN (en_begin B 0) (fun G T F H v o p => p))
end BF
set_option maxHeartbeats 5000000
namespace BF
open L2 PySem PySem.Spec PyProof.Rows
/-! ## a state, a desk and a shelf handed in -/
/-- what stands when only what W names has been written -/
theorem sat_over {T : Tbs} {Wr W : Addr → Prop} {F G H F' H' : Hp} {Γ Γ' : List Sl} {σ : Sg} {fts : Nat → List Addr} (Sa : Sat Wr F G H Γ σ fts) (g : Grow T W F H F' H') (hl : Γ'.length = Γ.length)
    (hs : ∀ (n : Nat) (s : Sl), Γ'[n]? = some s → (Γ[n]? = some s ∧ (∀ P, s ≠ .vw P) ∧ ∀ b ∈ fts n, ¬ W b) ∨ ∃ ov, σ[n]? = some ov ∧ SlOk Wr F' G H' s ov (fts n)) : Sat Wr F' G H' Γ' σ fts := by
  refine ⟨Sa.len.trans hl.symm, fun n s hn => ?_, Sa.apart, fun n hn => Sa.out n (by omega)⟩
  rcases hs n s hn with ⟨h1, h2, h3⟩ | h
  · obtain ⟨ov, ho, hk⟩ := Sa.at_ n s h1
    refine ⟨ov, ho, ?_⟩
    cases s with
    | un => exact hk
    | da R x =>
      obtain ⟨e, v, ev, r⟩ := hk
      exact ⟨e, v, ev, R.mono g.ef r⟩
    | vw P => exact absurd rfl (h2 P)
    | mu M x =>
      obtain ⟨⟨v, ev, r⟩, mk⟩ := hk
      refine ⟨⟨v, ev, M.mono g.ef (fun b hb => ?_) r⟩, fun b hb => ⟨?_, (mk b hb).2⟩⟩
      · obtain ⟨_, _, o, hob, nt⟩ := Sa.there hb
        rw [hob, g.eh b o (h3 b hb) hob nt]
      · obtain ⟨f, _, o, hob, nt⟩ := Sa.there hb
        cases q : F' b with
        | none => rfl
        | some w =>
          have := g.new b (by rw [q]; simp) f
          rw [hob] at this; cases this
  · exact h
theorem no_vw {Γ : List Sl} (h : noVw Γ = true) {n : Nat} {s : Sl} (hn : Γ[n]? = some s) (P : Pv) : s ≠ .vw P := by
  rintro rfl
  have := List.all_eq_true.mp h _ (List.mem_of_getElem? hn)
  simp at this
  cases this
theorem fresh_new {T : Tbs} {W : Addr → Prop} {F H F' H' : Hp} (g : Grow T W F H F' H') {b : Addr} (hF : F b = none) (hH : H b ≠ none) : F' b = none := by
  cases q : F' b with
  | none => rfl
  | some w => exact absurd (g.new b (by rw [q]; simp) hF) hH
abbrev W3 (a : Addr) (d : DsA) (s : SA) : Addr → Prop := fun b => b = a ∨ b ∈ d.ft ∨ b ∈ s.ft
structure Ap3 (a : Addr) (d : DsA) (s : SA) : Prop where
  ad : a ∉ d.ft
  as : a ∉ s.ft
  ds : ∀ b ∈ d.ft, b ∉ s.ft
def spAl (T : Tbs) (C CD : Addr) : Sp := fun us H Q E => ∃ (a : Addr) (d : DsA) (s : SA) (st : LSt) (sd : Sd) (F : Hp), Ok T F H ∧ LsOk st ∧ StandOk sd ∧ us = [.ref a, .ref d.a, .ref s.a] ∧ (mLs a).rel st F H [a] (.ref a) ∧ DkAt CD C d (shOf sd) F H ∧ ShAt C s (shOf sd) F H ∧ Ap3 a d s ∧ (∀ b, W3 a d s b → F b = none) ∧
  (∀ F' H' y, Grow T (W3 a d s) F H F' H' → (mLs a).rel y F' H' [a] (.ref a) → DkAt CD C d (shOf sd) F' H' → ShAt C s (shOf sd) F' H' → LsOk y → Q (.bl true) H')
abbrev dAl (C CD a : Addr) (d : DsA) (s : SA) (sd : Sd) : Fin := { nx := fun _ => False, rt := fun P Γ => ∃ y, Γ[0]? = some (.mu (mLs a) y) ∧ Γ[1]? = some (.mu (mDk CD C d) (shOf sd)) ∧ Γ[2]? = some (.mu (mSh C s) (shOf sd)) ∧ LsOk y ∧ ∀ (G : Hp) (T : Tbs) (F H : Hp) (v : V), Ok T F H → (P G).p F H v → v = .bl true }
section
variable {Z : Zx} {x : Str} {stm : Stmt} {N : List Str} {gs : List Str} {vs : List Nat} {k n : Nat} {C CD : Addr}
theorem calx_al {p0 p1 p2 : Str} (N : List Str) (vs : List Nat) (gs : List Str) (n : Nat) (d : Df Z x stm) (hb : BindOk x x stm [p0, p1, p2])
    (body : ∀ X, Bd Z X N (defScope stm) vs vs gs k → ∀ (a : Addr) (d : DsA) (s : SA) (st : LSt) (sd : Sd), LsOk st → StandOk sd → DOs Z X (defBody stm) (.mu (mLs a) st :: .mu (mDk CD C d) (shOf sd) :: .mu (mSh C s) (shOf sd) :: uns n) (dAl C CD a d s sd))
    (c : dfB N [p0, p1, p2] (defScope stm) vs gs = true := by decide +kernel) (hn : N.length = 3 + n := by rfl) : CalX Z x (k + 1) (spAl Z.T C CD) := by
  obtain ⟨hS, nm⟩ := dfB_ok c
  obtain ⟨f, fd, hm, FD⟩ := d.ex
  refine ⟨f, fd, [p0, p1, p2], hm, FD.kp, FD.bindsN hb, FD.ok hS (fun us H Q E ⟨a, d, s, st, sd, F, o, h1, h2, e, _⟩ => by rw [e]; rfl) fun cdv A outer s0 H us Q E hr ⟨a, d, s, st, sd, F, o, h1, h2, e, r1, r2, r3, ap, fn, ret⟩ => ?_⟩
  have B : Bd Z (cxOf (L2.CX Z.P Z.w) Z.P Z.w Z.K Z.mg Z.base N x (defScope stm) f cdv A outer s0 H E) N (defScope stm) vs vs gs k :=
    { nm := nm, prog := rfl, w := rfl, K := rfl, mg := rfl, base := rfl, eN := rfl, eSc := rfl, calm := rfl, room := hr, st := fun _ _ _ _ => .inl rfl, po := passes_of rfl }
  subst e
  have tk := takes_of (X := cxOf (L2.CX Z.P Z.w) Z.P Z.w Z.K Z.mg Z.base N x (defScope stm) f cdv A outer s0 H E) (E := E) rfl rfl rfl rfl
  have Sa : Sat (W3 a d s) F H H (.mu (mLs a) st :: .mu (mDk CD C d) (shOf sd) :: .mu (mSh C s) (shOf sd) :: uns n) (L2.start N [.ref a, .ref d.a, .ref s.a]) (fun i => if i = 0 then [a] else if i = 1 then d.ft else if i = 2 then s.ft else []) := by
    refine ⟨?_, fun i sl q => ?_, fun i j ne b hb hc => ?_, fun i hi => ?_⟩
    · unfold L2.start uns
      simp only [List.length_append, List.length_map, List.length_replicate, List.length_cons, List.length_nil]
      omega
    · match i, q with
      | 0, q =>
        simp at q; subst q
        exact ⟨some (.ref a), start_at.2 _ rfl, ⟨_, rfl, r1⟩, fun b hb => by
          have hb : b = a := List.mem_singleton.mp hb
          exact ⟨fn b (.inl hb), .inl (.inl hb), fun z => nomatch z⟩⟩
      | 1, q =>
        simp at q; subst q
        exact ⟨some (.ref d.a), start_at.2 _ rfl, ⟨_, rfl, rfl, rfl, r2⟩, fun b hb => ⟨fn b (.inr (.inl hb)), .inl (.inr (.inl hb)), fun z => nomatch z⟩⟩
      | 2, q =>
        simp at q; subst q
        exact ⟨some (.ref s.a), start_at.2 _ rfl, ⟨_, rfl, rfl, rfl, r3⟩, fun b hb => ⟨fn b (.inr (.inr hb)), .inl (.inr (.inr hb)), fun z => nomatch z⟩⟩
      | i + 3, q =>
        have q : (uns n)[i]? = some sl := by simpa using q
        unfold uns at q
        rw [List.getElem?_replicate] at q
        split at q
        · cases q
          exact ⟨none, start_at.1 (by simp) (by omega), rfl⟩
        · cases q
    · have hb : b ∈ (if i = 0 then [a] else if i = 1 then d.ft else if i = 2 then s.ft else []) := hb
      have hc : b ∈ (if j = 0 then [a] else if j = 1 then d.ft else if j = 2 then s.ft else []) := hc
      have ha1 := ap.ad
      have ha2 := ap.as
      have ha3 := ap.ds
      rcases Nat.lt_or_ge i 3 with hi | hi <;> rcases Nat.lt_or_ge j 3 with hj | hj
      · match i, j, hi, hj, hb, hc with
        | 0, 0, _, _, hb, hc => exact ne rfl
        | 1, 1, _, _, hb, hc => exact ne rfl
        | 2, 2, _, _, hb, hc => exact ne rfl
        | 0, 1, _, _, hb, hc => exact ha1 (List.mem_singleton.mp hb ▸ hc)
        | 1, 0, _, _, hb, hc => exact ha1 (List.mem_singleton.mp hc ▸ hb)
        | 0, 2, _, _, hb, hc => exact ha2 (List.mem_singleton.mp hb ▸ hc)
        | 2, 0, _, _, hb, hc => exact ha2 (List.mem_singleton.mp hc ▸ hb)
        | 1, 2, _, _, hb, hc => exact ha3 b hb hc
        | 2, 1, _, _, hb, hc => exact ha3 b hc hb
      · rw [if_neg (by omega), if_neg (by omega), if_neg (by omega)] at hc; cases hc
      · rw [if_neg (by omega), if_neg (by omega), if_neg (by omega)] at hb; cases hb
      · rw [if_neg (by omega), if_neg (by omega), if_neg (by omega)] at hb; cases hb
    · simp only [List.length_cons] at hi
      show (if i = 0 then [a] else if i = 1 then d.ft else if i = 2 then s.ft else []) = []
      rw [if_neg (by omega), if_neg (by omega), if_neg (by omega)]
  refine ⟨_, pss_ds (Z := Z), F, H, F, W3 a d s, _, _, dAl C CD a d s sd, Grow.refl o, Sa, tk.imp fun c d σ' H' => ?_, body _ B a d s st sd h1 h2, ⟨?_, ?_, ?_, ?_⟩⟩
  · rintro ⟨_, F', Γ', fts', g, S', q⟩
    exact q.elim
  · rintro σ' H' ⟨F', Γ', fts', g, S', q⟩
    exact q.elim
  · rintro v H' ⟨F', Γ', σ', fts', P, g, S', pv, y, q0, q1, q2, hy, hn⟩
    obtain ⟨_, _, ⟨rfl, ef, rr⟩, _⟩ := S'.mu q0
    obtain ⟨_, _, ⟨rfl, _, x2⟩, _⟩ := S'.mu q1
    obtain ⟨_, _, ⟨rfl, _, x3⟩, _⟩ := S'.mu q2
    rw [hn H Z.T F' H' v g.ok pv]
    exact ret F' H' y g ⟨rfl, rfl, rr⟩ x2 x3 hy
  · rintro σ' H' ⟨F', Γ', fts', g, _, q⟩
    exact q
  · rintro σ' H' ⟨F', Γ', fts', g, _, q⟩
    exact q
end
end BF
set_option maxHeartbeats 5000000
namespace BF
open L2 PySem PySem.Spec PyProof.Rows
section
variable {Z : Zx} {X : Cx} {Γ : List Sl} {N : List Str} {sc : Scope} {vs ws : List Nat} {gs : List Str} {k j i l : Nat} {pos p p1 p2 p3 : Pos} {C CD a : Addr} {d : DsA} {s : SA} {st : LSt} {sd : Sd} {x : Str} {ψ : XC}
abbrev alQ (a : Addr) (i : Nat) (Γ : List Sl) : Bool → List Sl → Prop := fun b Γ' => b = true ∧ ∃ y, LsOk y ∧ Γ' = Γ.set i (.mu (mLs a) y)
theorem al_core {σ : Sg} {F0 G F H : Hp} {Wr : Addr → Prop} {fts : Nat → List Addr} {Q : VK} {E : XK} (g : Grow Z.T Wr F0 G F H) (Sa : Sat Wr F G H Γ σ fts) (hi : Γ[i]? = some (.mu (mLs a) st)) (hl : Γ[l]? = some (.mu (mSh C s) (shOf sd))) (nv : noVw Γ = true) (il : i ≠ l) (ok : LsOk st) (so : StandOk sd)
    (hd : DkAt CD C d (shOf sd) F H) (fd : ∀ b ∈ d.ft, F b = none) (wd : ∀ b ∈ d.ft, Wr b ∨ G b = none) (di : ∀ b ∈ d.ft, b ∉ fts i) (dl : ∀ b ∈ d.ft, b ∉ fts l) (dn : ∀ n, n ≠ i → n ≠ l → (∀ b ∈ fts n, b ∉ d.ft) ∨ Γ[n]? = some (.mu (mDk CD C d) (shOf sd)))
    (q : ∀ v F' H' fts' Γ' x, Grow Z.T Wr F0 G F' H' → Same F F' → Sat Wr F' G H' Γ' σ fts' → rBool.rel x F' v → alQ a i Γ x Γ' → Q v H') : spAl Z.T C CD [.ref a, .ref d.a, .ref s.a] H Q E := by
  obtain ⟨v1, e1, ⟨rfl, f1, r1⟩, m1⟩ := Sa.mu hi
  obtain ⟨v3, e3, ⟨rfl, f3, r3⟩, m3⟩ := Sa.mu hl
  have ii : i < Γ.length := (List.getElem?_eq_some_iff.mp hi).1
  have w3 : ∀ b, W3 a d s b → F b = none ∧ (Wr b ∨ G b = none) := fun b hb => by
    rcases hb with hb | hb | hb
    · exact ⟨(m1 b (by rw [f1, hb]; simp)).1, (m1 b (by rw [f1, hb]; simp)).2.1⟩
    · exact ⟨fd b hb, wd b hb⟩
    · exact ⟨(m3 b (by rw [f3]; exact hb)).1, (m3 b (by rw [f3]; exact hb)).2.1⟩
  refine ⟨a, d, s, st, sd, F, g.ok, ok, so, rfl, ⟨rfl, rfl, r1⟩, hd, r3, ⟨fun z => di a z (by rw [f1]; simp), fun z => Sa.apart i l il a (by rw [f1]; simp) (by rw [f3]; exact z), fun b hb z => dl b hb (by rw [f3]; exact z)⟩, fun b hb => (w3 b hb).1, fun F' H' y g' r1' r2' r3' oky => ?_⟩
  have stand : ∀ b, W3 a d s b → H b ≠ none := fun b hb => by
    rcases hb with hb | hb | hb
    · obtain ⟨_, _, o, ho, _⟩ := Sa.there (a := b) (i := i) (by rw [f1, hb]; simp)
      rw [ho]; simp
    · obtain ⟨o, ho, _⟩ := hd.there b hb
      rw [ho]; simp
    · obtain ⟨_, _, o, ho, _⟩ := Sa.there (a := b) (i := l) (by rw [f3]; exact hb)
      rw [ho]; simp
  have fr : ∀ b, W3 a d s b → F' b = none := fun b hb => fresh_new g' (w3 b hb).1 (stand b hb)
  refine q _ F' H' fts (Γ.set i (.mu (mLs a) y)) true (g.trans g' fun b hb => (w3 b hb).2) g'.ef (sat_over Sa g' (by rw [List.length_set]) fun n sl hn => ?_) rfl ⟨rfl, y, oky, rfl⟩
  by_cases ni : n = i
  · subst ni
    rw [List.getElem?_set_self ii] at hn
    cases hn
    exact .inr ⟨_, e1, ⟨_, rfl, by rw [f1]; exact r1'⟩, fun b hb => ⟨fr b (.inl (by rw [f1] at hb; exact List.mem_singleton.mp hb)), (m1 b hb).2⟩⟩
  rw [List.getElem?_set_ne (Ne.symm ni)] at hn
  by_cases nl : n = l
  · subst nl
    rw [hl] at hn
    cases hn
    exact .inr ⟨_, e3, ⟨_, rfl, rfl, f3, r3'⟩, fun b hb => ⟨fr b (.inr (.inr (by rw [f3] at hb; exact hb))), (m3 b hb).2⟩⟩
  rcases dn n ni nl with h | h
  · refine .inl ⟨hn, no_vw nv hn, fun b hb w => ?_⟩
    rcases w with e | w | w
    · exact Sa.apart n i ni b hb (by rw [f1, e]; simp)
    · exact h b hb w
    · exact Sa.apart n l nl b hb (by rw [f3]; exact w)
  · rw [h] at hn
    cases hn
    obtain ⟨v2, e2, ⟨rfl, f2, r2⟩, m2⟩ := Sa.mu h
    exact .inr ⟨_, e2, ⟨_, rfl, rfl, f2, r2'⟩, fun b hb => ⟨fr b (.inr (.inl (by rw [f2] at hb; exact hb))), (m2 b hb).2⟩⟩
theorem ee_al {n1 n2 n3 : Str} (B : Bd Z X N sc vs ws gs k) (c : CalX Z x j (spAl Z.T C CD)) (i1 i2 i3 : Nat) (ok : LsOk st) (so : StandOk sd) (hn1 : N[i1]? = some n1 := by rfl) (hn2 : N[i2]? = some n2 := by rfl) (hn3 : N[i3]? = some n3 := by rfl) (hv : i1 ∈ vs ∧ i2 ∈ vs ∧ i3 ∈ vs := by decide) (hd : i1 ≠ i2 ∧ i1 ≠ i3 ∧ i2 ≠ i3 := by decide)
    (hΓ1 : Γ[i1]? = some (.mu (mLs a) st) := by rfl) (hΓ2 : Γ[i2]? = some (.mu (mDk CD C d) (shOf sd)) := by rfl) (hΓ3 : Γ[i3]? = some (.mu (mSh C s) (shOf sd)) := by rfl) (nv : noVw Γ = true := by rfl) (hj : j ≤ k := by decide) (hg : x ∈ gs := by decide +kernel)
    (he : starEach [.Name n1 p1, .Name n2 p2, .Name n3 p3] X.env = (false, eval (.Name n1 p1) X.env) :: starEach [.Name n2 p2, .Name n3 p3] X.env := by rfl) (he2 : starEach [.Name n2 p2, .Name n3 p3] X.env = (false, eval (.Name n2 p2) X.env) :: starEach [.Name n3 p3] X.env := by rfl) (he3 : starEach (.Name n3 p3 :: []) X.env = (false, eval (.Name n3 p3) X.env) :: starEach [] X.env := by rfl)
    (hpl : (backTo pos (starEach [.Name n2 p2, .Name n3 p3] X.env)).any (·.1) = false := by rfl) : EE Z X (.Call (.Name x p) [.Name n1 p1, .Name n2 p2, .Name n3 p3] [] pos) Γ rBool (alQ a i1 Γ) ψ := by
  obtain ⟨f, fd, ps, hm, hk, hb, G0⟩ := c.ex
  obtain ⟨d1, d2, d3⟩ := plainName_ok (B.nm.pg x hg)
  have G2 : FnOk X.prog X.w X.K X.mg X.base (L2.CX X.prog X.w) j f fd ps (spAl Z.T C CD) := by rw [B.prog, B.w, B.K, B.mg, B.base]; exact G0
  intro pins s0 σ F0 G F H Wr fts Q I g Sa tk q
  refine (pe_callS (E := WE (xw Z.T Wr F0 G ψ)) G2 (B.room.mono hj) (B.gx hg) (by rw [B.mg]; exact hm) (by rw [B.K]; exact hk) (by rw [B.K]; exact hb) (fun σ => passAt tk σ) (ea_cons (ev_pin (Γ := Γ) B i1 pin_ls hn1 hv.1 hΓ1) (ea_cons (ev_pin B i2 pin_dk hn2 hv.2.1 hΓ2) (ea1 (ev_pin B i3 pin_sh hn3 hv.2.2 hΓ3) he3) he2) he).pa d1 he hpl).run pins s0 σ H Q I ⟨F, G, Wr, fts, g.ok, Sa, fun us F1 H1 g1 p1 => ?_⟩
  match us, p1 with
  | [v1, v2, v3], ⟨q1, q2, q3, _⟩ =>
    obtain rfl : v1 = .ref a := q1
    obtain rfl : v2 = .ref d.a := q2
    obtain rfl : v3 = .ref s.a := q3
    have S1 := Sa.grow g1
    obtain ⟨_, _, ⟨rfl, f2, r2⟩, m2⟩ := S1.mu hΓ2
    refine al_core (g.step g1) S1 hΓ1 hΓ3 nv hd.2.1 ok so r2 (fun b hb => (m2 b (by rw [f2]; exact hb)).1) (fun b hb => (m2 b (by rw [f2]; exact hb)).2.1) (fun b hb z => S1.apart i1 i2 hd.1 b z (by rw [f2]; exact hb)) (fun b hb z => S1.apart i2 i3 hd.2.2 b (by rw [f2]; exact hb) z) (fun n h1 h2 => ?_) fun v F' H' fts' Γ' x a1 a2 a3 a4 a5 => q v F' H' fts' Γ' x a1 (g1.ef.trans a2) a3 a4 a5
    by_cases e : n = i2
    · subst e; exact .inr hΓ2
    · exact .inl fun b hb z => S1.apart n i2 e b hb (by rw [f2]; exact z)
/-- the desk made on the way -/
theorem ee_alN {n1 n3 : Str} {e2 : Expr} (B : Bd Z X N sc vs ws gs k) (c : CalX Z x j (spAl Z.T C CD)) (i1 i3 : Nat) (ok : LsOk st) (so : StandOk sd) (en : EN Z X e2 Γ (mDkX CD C) (shOf sd)) (hn1 : N[i1]? = some n1 := by rfl) (hn3 : N[i3]? = some n3 := by rfl) (hv : i1 ∈ vs ∧ i3 ∈ vs := by decide) (hd : i1 ≠ i3 := by decide)
    (hΓ1 : Γ[i1]? = some (.mu (mLs a) st) := by rfl) (hΓ3 : Γ[i3]? = some (.mu (mSh C s) (shOf sd)) := by rfl) (nv : noVw Γ = true := by rfl) (hj : j ≤ k := by decide) (hg : x ∈ gs := by decide +kernel)
    (he : starEach [.Name n1 p1, e2, .Name n3 p3] X.env = (false, eval (.Name n1 p1) X.env) :: starEach [e2, .Name n3 p3] X.env := by rfl) (he2 : starEach [e2, .Name n3 p3] X.env = (false, eval e2 X.env) :: starEach [.Name n3 p3] X.env := by rfl) (he3 : starEach (.Name n3 p3 :: []) X.env = (false, eval (.Name n3 p3) X.env) :: starEach [] X.env := by rfl)
    (hpl : (backTo pos (starEach [e2, .Name n3 p3] X.env)).any (·.1) = false := by rfl) : EE Z X (.Call (.Name x p) [.Name n1 p1, e2, .Name n3 p3] [] pos) Γ rBool (alQ a i1 Γ) ψ := by
  obtain ⟨f, fd, ps, hm, hk, hb, G0⟩ := c.ex
  obtain ⟨d1, d2, d3⟩ := plainName_ok (B.nm.pg x hg)
  obtain ⟨te, hen, hr⟩ := en
  have G2 : FnOk X.prog X.w X.K X.mg X.base (L2.CX X.prog X.w) j f fd ps (spAl Z.T C CD) := by rw [B.prog, B.w, B.K, B.mg, B.base]; exact G0
  intro pins s0 σ F0 G F H Wr fts Q I g Sa tk q
  refine (pe_callS (E := WE (xw Z.T Wr F0 G ψ)) G2 (B.room.mono hj) (B.gx hg) (by rw [B.mg]; exact hm) (by rw [B.K]; exact hk) (by rw [B.K]; exact hb) (fun σ => passAt tk σ) (pa_cons (ev_pin (Γ := Γ) B i1 pin_ls hn1 hv.1 hΓ1).pe (pa_cons hen (pa_cons (ev_pin (Γ := Γ) B i3 pin_sh hn3 hv.2 hΓ3).pe pa_nil he3) he2) he) d1 he hpl).run pins s0 σ H Q I ⟨F, G, Wr, fts, g.ok, Sa, fun v1 F1 H1 g1 q1 => ?_⟩
  have S1 := Sa.grow g1
  refine hr σ F1 G H1 Wr fts _ g1.ok S1 fun v2 F2 H2 ft g2 r2 hn2 => ?_
  have S2 := S1.grow g2
  refine ⟨F2, G, Wr, fts, g2.ok, S2, fun v3 F3 H3 g3 q3 => ?_⟩
  have S3 := S2.grow g3
  obtain rfl : v1 = .ref a := q1
  obtain rfl : v3 = .ref s.a := q3
  obtain ⟨d, rfl, rfl, x2⟩ := r2
  have x3 : DkAt CD C d (shOf sd) F3 H3 := x2.mono g3.ef fun b hb => by
    obtain ⟨o, ho, nt⟩ := x2.there b hb
    rw [ho, g3.eh b o (fun w => w) ho nt]
  have ap : ∀ n, ∀ b ∈ fts n, b ∉ d.ft := fun n b hb z => by
    obtain ⟨_, _, o, ho, _⟩ := S1.there hb
    rw [(hn2 b z).2] at ho; cases ho
  show spAl Z.T C CD [.ref a, .ref d.a, .ref s.a] H3 Q (WE (xw Z.T Wr F0 G ψ) σ)
  refine al_core (((g.step g1).step g2).step g3) S3 hΓ1 hΓ3 nv hd ok so x3 (fun b hb => fresh_new g3 (hn2 b hb).1 (by obtain ⟨o, ho, _⟩ := x2.there b hb; rw [ho]; simp)) (fun b hb => .inr ?_) (fun b hb z => ap i1 b z hb) (fun b hb z => ap i3 b z hb) (fun n h1 h2 => .inl (ap n)) fun v F' H' fts' Γ' x a1 a2 a3 a4 a5 => q v F' H' fts' Γ' x a1 (((g1.ef.trans g2.ef).trans g3.ef).trans a2) a3 a4 a5
  cases e : G b with
  | none => rfl
  | some w => exact absurd (hn2 b hb).2 ((g.step g1).th b (by rw [e]; simp))
/-- what lies somewhere lies at some place -/
theorem dos_open {β ι : Type} {sts : List Stmt} {M : Mp β} {Mi : ι → Mp β} {y : β} {D : Fin} (i : Nat) (ho : ∀ F H ft v, M.rel y F H ft v → ∃ u, (Mi u).rel y F H ft v) (lo : ∀ u, (Mi u).loc = false) (h : ∀ u, DOs Z X sts (Γ.set i (.mu (Mi u) y)) D) (hΓ : Γ[i]? = some (.mu M y) := by rfl) : DOs Z X sts Γ D := fun pins s0 σ F0 G F H Wr fts I g Sa tk => by
  obtain ⟨v, ev, r, mk⟩ := Sa.mu hΓ
  obtain ⟨u, ru⟩ := ho F H _ v r
  have hi : i < Γ.length := (List.getElem?_eq_some_iff.mp hΓ).1
  refine h u pins s0 σ F0 G F H Wr fts I g ⟨by rw [List.length_set]; exact Sa.len, fun n sl hn => ?_, Sa.apart, fun n hn => Sa.out n (by rw [List.length_set] at hn; exact hn)⟩ tk
  by_cases e : n = i
  · subst e
    rw [List.getElem?_set_self hi] at hn
    cases hn
    exact ⟨_, ev, ⟨_, rfl, ru⟩, fun b hb => ⟨(mk b hb).1, (mk b hb).2.1, fun z => by rw [lo u] at z; cases z⟩⟩
  · rw [List.getElem?_set_ne (Ne.symm e)] at hn
    exact Sa.at_ n sl hn
end
end BF
set_option maxHeartbeats 5000000
namespace BF
open L2 PySem PySem.Spec PyProof.Rows
/-! ## rows as the law writes them -/
theorem app_as (x y z : Str) : x ++ y ++ z = x ++ (y ++ z) := TL.ext_tl (by simp only [TL.tl_append, List.append_assoc])
theorem row_cons (w : Str) (n : Int) (ns : List Int) : rowT w (n :: ns) = w ++ " " ++ joinI " " (n :: ns) := by
  unfold rowT rowW joinI
  rw [TL.join_eq, TL.join_eq]
  rfl
theorem joinI_cons (y : Str) (n m : Int) (ns : List Int) : joinI y (n :: m :: ns) = sI n ++ y ++ joinI y (m :: ns) := by
  unfold joinI
  rw [TL.join_eq, TL.join_eq]
  rfl
theorem joinI_cons' (y : Str) (n : Int) {ns : List Int} (h : ns ≠ []) : joinI y (n :: ns) = sI n ++ y ++ joinI y ns := by
  cases ns with
  | nil => exact absurd rfl h
  | cons m ms => exact joinI_cons y n m ms
theorem joinI_one (y : Str) (n : Int) : joinI y [n] = sI n := by
  unfold joinI
  rw [TL.join_eq]
  rfl
theorem row_one {w w2 : Str} (hw : w2 = w ++ " ") (k : Int) : w2 ++ sI k = rowT w [k] := by rw [row_cons, joinI_one, hw]
theorem row_two (w : Str) (a b : Int) : w ++ " " ++ sI a ++ " " ++ sI b = rowT w [a, b] := by
  rw [row_cons, joinI_cons, joinI_one]
  simp only [app_as]
theorem row_way {w w2 : Str} (hw : w2 = w ++ " ") (key : Int) {way : List Int} (h : way ≠ []) : w2 ++ sI key ++ (" " ++ joinI " " way) = rowT w (key :: way) := by
  rw [row_cons, joinI_cons' _ _ h, hw]
  simp only [app_as]
theorem row_btw {w w2 : Str} (hw : w2 = w ++ " ") (low high : Int) {way : List Int} (h : way ≠ []) : w2 ++ sI low ++ " " ++ sI high ++ (" " ++ joinI " " way) = rowT w (low :: high :: way) := by
  rw [row_cons, joinI_cons, joinI_cons' _ _ h, hw]
  simp only [app_as]
theorem row_none (w : Str) : rowT w [] = w := by
  unfold rowT rowW
  rw [TL.join_eq]
  rfl
/-- what the law writes for a part -/
theorem wc_law (ks : List Int) : joinI "," ks ++ ⟨(List.replicate (if decide (ks = []) = true then (1 : Int) else 0).toNat 45).toArray⟩ = wcM ks := by
  unfold wcM
  by_cases h : ks = []
  · subst h
    rw [if_pos rfl]
    decide +kernel
  · rw [if_neg h, if_neg (by simpa using h)]
    refine TL.ext_tl ?_
    rw [TL.tl_append]
    show _ ++ [] = _
    rw [List.append_nil]
def due (sd : Sd) (q : Rq) : Str × Str := (rowT q.word q.nums, q.ans sd)
theorem due_way {sd : Sd} {w w2 : Str} (hw : w2 = w ++ " ") {key : Int} {way : List Int} (h : way ≠ []) {z : Str} (hz : z = wayA sd w key way) : (w2 ++ sI key ++ (" " ++ joinI " " way), z) = due sd (.wy w key way) := by
  rw [hz, row_way hw key h]
  rfl
theorem due_btw {sd : Sd} {low high : Int} {way : List Int} (h : way ≠ []) : (("between " : Str) ++ sI low ++ " " ++ sI high ++ (" " ++ joinI " " way), Txt.join " " ((stretchM sd way low high).map wcM)) = due sd (.btw low high way) := by
  rw [row_btw (w := "between") (by decide +kernel) low high h]
  show _ = (_, wbS ((stretchM sd way low high).map wcM) "none")
  unfold wbS
  rw [if_neg fun z => ?_]
  · rfl
  · have := congrArg List.length z
    rw [List.length_map, stretch_len] at this
    exact h (List.length_eq_zero_iff.mp this)
theorem due_full {sd : Sd} (k : Int) : (("full " : Str) ++ sI k, wbS ((fullM sd k).map entT) "none") = due sd (.ful k) := by
  rw [row_one (w := "full") (by decide +kernel) k]
  rfl
theorem due_show {sd : Sd} : (("show" : Str), textM sd) = due sd .show_ := by
  rw [← row_none "show"]
  rfl
theorem due_wgt {sd : Sd} : (("weight" : Str), wbI [(weightM sd).1, (weightM sd).2] "none") = due sd .wgt := by
  rw [← row_none "weight"]
  unfold wbI
  rw [if_neg (by simp)]
  rfl
end BF
set_option maxHeartbeats 5000000
namespace BF
open L2 PySem PySem.Spec PyProof.Rows
/-! ## the law's comparison -/
abbrev alN : List Str := ["_law_state", "_law_desk", "_law_shelf", "_law_stand", "_law_way_here", "_law_key_here", "_law_high", "_law_tail", "_law_words_here", "_law_dues", "_law_knot", "_law_entries", "_law_part", "_law_one", "_law_entry", "_law_row_here", "_law_due"]
abbrev alG : List Str := ["_law_way", "_law_key_near", "str", "stretch", "show_stand", "_law_words", "list", "weight", "places", "who_has", "_law_entry_or_none", "above", "below"]
abbrev rDue : Rp (Str × Str) := rT2 rStr rStr
abbrev qs0 (key high : Int) (way : List Int) : List Rq := [.show_, .wgt, .wy "find" key way, .wy "has" key way, .wy "above" key way, .wy "below" key way, .btw key high way]
theorem near_pre {sd : Sd} (hs : StandOk sd) : (∀ r ∈ sd.2, ∀ q ∈ r, is_keyM q = true) ∧ (sd.2.map (·.length)).sum ≤ 300 := ⟨fun r hr q hq => (hs.rows r hr).2 q hq, hs.tot⟩
section
variable {Z : Zx} {C CD : Addr}
theorem c_law_alike (E : Top Z) (D : Ds Z) (L : LamK Z) (K : Kl Z C CD) {dS : Addr} (SH : Shp Z dS) : CalX Z "_law_alike" 14 (spAl Z.T C CD) :=
  calx_al alN [0, 1, 2, 3, 4, 5, 6, 7, 8, 9, 10, 11] alG 14 D.law_alike (fun _ _ _ _ _ _ us hl => match us, hl with | [_, _, _], _ => rfl) (fun X B a d s st sd ok hs => by
    have hf := fr_ok hs
    refine dos_cons (do_set B 3 (R := rSd) (x := sd) (ev_meth0 B K.sh.c (c_Shelf_stand E K) (ev_shv B 2) (ins_sh (by decide)) (shz_of hs)) ?_)
    refine dos_cons (do_setE B 4 ((ee_callM (S := S_lway) B (c_law_way E D) 0 (a, st, sd.1) id (ea2 (ev_pin B 0 pin_ls) (ev_fst (ev_var B 3))) rfl (part_self pin_ls) ⟨ok, hs.tree⟩).ex fun c Γ' ⟨w, h, e⟩ => h.elim) fun way Γ1 ⟨y, ⟨ok, hw⟩, e⟩ => ?_)
    subst e
    have hw : WayOk sd.1 way := hw
    refine dos_cons (do_setE B 5 ((ee_callM (S := S_near) B (c_law_near E D) 0 (a, y, sd.2) id (ea2 (ev_pin B 0 pin_ls) (ev_snd (R := rTr) (x := sd) (ev_var B 3))) rfl (part_self pin_ls) ⟨ok, near_pre hs⟩).ex fun c Γ' ⟨w, h, e⟩ => h.elim) fun key Γ1 ⟨y, ⟨ok, hk⟩, e⟩ => ?_)
    subst e
    have hk : is_keyM key = true := hk
    refine dos_cons (do_setE B 6 ((ee_callM (S := S_near) B (c_law_near E D) 0 (a, y, sd.2) id (ea2 (ev_pin B 0 pin_ls) (ev_snd (R := rTr) (x := sd) (ev_var B 3))) rfl (part_self pin_ls) ⟨ok, near_pre hs⟩).ex fun c Γ' ⟨w, h, e⟩ => h.elim) fun high Γ1 ⟨y, ⟨ok, hh⟩, e⟩ => ?_)
    subst e
    have hh : is_keyM high = true := hh
    have iw := isok_way hs hw
    have wz := hw.sz
    have kl := sI_len (small_of_key hk)
    have hl := sI_len (small_of_key hh)
    have l1 : (" " : Str).length = 1 := by decide
    have jl := joinI_len iw l1
    have tl : ((" " : Str) ++ joinI " " way).length ≤ 70001 := by rw [len_app]; omega
    refine dos_cons (do_set B 7 (ev_bin ev_str (ev_join B ev_str (ev_lc (f := sI) B [("_law_knot", 10)] [10] ["str"] (gi_l (ev_var B 4)) (show way.length ≤ 1000000 by omega) (fun X' B' => (ga_name B' 10)) (fun X' B' x hx => (ev_strI B' E (ev_var B' 10) (strlen (iw.sm x hx))))).l (Nat.le_trans (joinI_size iw l1) (by decide))) (od_adds (sz_le ?_))) ?_)
    · show (" " : Str).length + (joinI " " way).length ≤ 1000000
      omega
    refine dos_cons (do_setLc (f := wcM) (S := rStr) B 8 [("_law_part", 12)] [12] ["int"] (gi_l (ev_call4 B (c_stretch E D L) (ev_var B 3) (ev_var B 4) (ev_var B 5) (ev_var B 6) (show FrOk sd ∧ WayOk sd.1 way from ⟨hf, hw⟩))) (by rw [stretch_len]; omega) (fun X' B' => (ga_name B' 12)) (fun X' B' ks hks => ?_) ?_)
    · have ik := isok_part hs hw ks hks
      have iz := ik.sz
      refine EV.as (ev_bin (ev_join B' ev_str (ev_lc (f := sI) B' [("_law_one", 13)] [13] ["str"] (gi_l (ev_var B' 12)) (show ks.length ≤ 1000000 by omega) (fun X2 B2 => (ga_name B2 13)) (fun X2 B2 x hx => (ev_strI B2 E (ev_var B2 13) (strlen (ik.sm x hx))))).l (Nat.le_trans (joinI_size ik (by decide)) (by decide)))
        (ev_bin (P1 := pd rStr ⟨#[45]⟩) ev_str (ev_intB B' E (ev_cmp (ev_var B' 12).l (ev_list .nil).l (od_eqL B' py_int (fun _ _ => trivial) (fun _ _ => trivial)))) (od_mulS ?_ ?_)) (od_adds (sz_le ?_))) (wc_law ks)
      · split <;> decide
      · split <;> decide
      · have := joinI_len ik (show ("," : Str).length = 1 by decide)
        show (joinI "," ks).length + _ ≤ _
        split <;> simp [Str.length] at * <;> omega
    have A1 : ∀ w2 : Str, w2.length ≤ 10 → w2.length + (sI key).length ≤ sizeLine ∧ (w2 ++ sI key).length + ((" " : Str) ++ joinI " " way).length ≤ sizeLine := fun w2 h => ⟨sz_le (by omega), sz_le (by rw [len_app w2]; omega)⟩
    have sw := stok_stretch (low := key) (high := high) hs hw
    refine dos_cons (do_setN B 9 (en_list (R := rDue) (xs := [due sd .show_, due sd .wgt]) (.cons ((ev_t2 ev_str (ev_call1 B (c_show_stand E D) (ev_var B 3) hs)).as due_show) (.cons ((ev_t2 ev_str (ev_call2 B (c_law_wordsI E D) (ev_listT2 B E (ev_call1 B (c_weight E D) (ev_var B 3) hf)) ev_str (isok_weight hs))).as due_wgt) .nil))) ?_)
    refine dos_cons (do_app B 9 ((ev_t2 (ev_bin (ev_bin ev_str (ev_strI B E (ev_var B 5) (strlen (small_of_key hk))) (od_adds (A1 "find " (by decide +kernel)).1)) (ev_var B 7) (od_adds (A1 "find " (by decide +kernel)).2)) (ev_call2 B (c_law_wordsI E D) (ev_call3 B (c_places E D L) (ev_var B 3) (ev_var B 4) (ev_var B 5) ⟨hf, hw⟩) ev_str (isok_places hs hw))).as (due_way (w := "find") (by decide +kernel) hw.ne rfl)) ?_ ?_)
    · exact sz_lt (by simp)
    refine dos_cons (do_app B 9 ((ev_t2 (ev_bin (ev_bin ev_str (ev_strI B E (ev_var B 5) (strlen (small_of_key hk))) (od_adds (A1 "has " (by decide +kernel)).1)) (ev_var B 7) (od_adds (A1 "has " (by decide +kernel)).2)) (ev_call2 B (c_law_wordsI E D) (ev_call3 B (c_who_has E D L) (ev_var B 3) (ev_var B 4) (ev_var B 5) ⟨hf, hw⟩) ev_str (isok_has hs hw))).as (due_way (w := "has") (by decide +kernel) hw.ne rfl)) ?_ ?_)
    · exact sz_lt (by simp)
    refine dos_cons (do_app B 9 ((ev_t2 (ev_bin (ev_bin ev_str (ev_strI B E (ev_var B 5) (strlen (small_of_key hk))) (od_adds (A1 "above " (by decide +kernel)).1)) (ev_var B 7) (od_adds (A1 "above " (by decide +kernel)).2)) (ev_call1 B (c_law_entry_or_none E D) (ev_call3 B (c_above E D L) (ev_var B 3) (ev_var B 4) (ev_var B 5) ⟨hf, hw⟩) (ens_above hs hw))).as (due_way (w := "above") (by decide +kernel) hw.ne rfl)) ?_ ?_)
    · exact sz_lt (by simp)
    refine dos_cons (do_app B 9 ((ev_t2 (ev_bin (ev_bin ev_str (ev_strI B E (ev_var B 5) (strlen (small_of_key hk))) (od_adds (A1 "below " (by decide +kernel)).1)) (ev_var B 7) (od_adds (A1 "below " (by decide +kernel)).2)) (ev_call1 B (c_law_entry_or_none E D) (ev_call3 B (c_below E D L) (ev_var B 3) (ev_var B 4) (ev_var B 5) ⟨hf, hw⟩) (ens_below hs hw))).as (due_way (w := "below") (by decide +kernel) hw.ne rfl)) ?_ ?_)
    · exact sz_lt (by simp)
    have b1 : ("between " : Str).length = 8 := by decide +kernel
    refine dos_cons (do_app B 9 ((ev_t2 (ev_bin (ev_bin (ev_bin (ev_bin ev_str (ev_strI B E (ev_var B 5) (strlen (small_of_key hk))) (od_adds (A1 "between " (by decide +kernel)).1)) ev_str (od_adds (sz_le (by rw [len_app]; omega)))) (ev_strI B E (ev_var B 6) (strlen (small_of_key hh))) (od_adds (sz_le (by rw [len_app, len_app]; omega)))) (ev_var B 7) (od_adds (y := (" " : Str) ++ joinI " " way) (sz_le (by rw [len_app, len_app, len_app]; omega)))) (ev_join B ev_str (ev_var B 8).l (joinS_size sw l1))).as (due_btw hw.ne)) ?_ ?_)
    · exact sz_lt (by simp)
    have wl : ∀ k, k ∈ way → KnotOk sd.1 k := fun k hk => way_mem hw hk
    refine dos_cons (do_for B (gi_l (ev_var B 4)) (ga_name B 10) (fun i Γ => Γ = [.mu (mLs a) y, .mu (mDk CD C d) (shOf sd), .mu (mSh C s) (shOf sd), .da rSd sd, .da (rLst rInt) way, .da rInt key, .da rInt high, .da rStr ((" " : Str) ++ joinI " " way), .da (rLst rStr) ((stretchM sd way key high).map wcM), .mu (mLst rDue) ((qs0 key high way ++ (way.take i).map Rq.ful).map (due sd)), .un, .un, .un, .un, .un, .un, .un]) rfl (fun i x Γ' hx hI => ?_) (fun Γ' hI => ?_))
    · subst hI
      have hm := List.mem_of_getElem? hx
      have hlt := (List.getElem?_eq_some_iff.mp hx).1
      obtain ⟨k0, k1⟩ := wl x hm
      have ef : (full_rowsM sd).getD x.toNat [] = fullM sd x := fulls_getD k0 k1
      have fl : (fullM sd x).length ≤ 300 := ful_len hs k0 k1 (full_ful hs k0 k1)
      have xl := sI_len (way_small hs hw hm)
      have f5 : ("full " : Str).length = 5 := by decide +kernel
      refine dos_cons (do_setLc (f := entT) (S := rStr) (xs := fullM sd x) B 11 [("_law_entry", 14)] [14] ["_law_entry_text"] (gi_l ((ev_meth1 B K.sh.c (c_Shelf_full E K) (ev_shv B 2) (ins_sh (by decide)) (ev_var B 10) ⟨k0, k1, full_rows_len sd⟩).as ef)) (by omega) (fun X' B' => (ga_name B' 14)) (fun X' B' e he => (ev_call1 B' (c_law_entry_text E D) (ev_var B' 14) (ens_full hs k0 k1 e he))) ?_)
      refine dos_cons (do_app B 9 ((ev_t2 (ev_bin ev_str (ev_strI B E (ev_var B 10) (strlen (way_small hs hw hm))) (od_adds (sz_le (by omega)))) (ev_call2 B (c_law_wordsS E D) (ev_var B 11) ev_str (stok_full hs k0 k1))).as (due_full x)) ?_ ?_)
      · refine sz_lt ?_
        have := List.length_take_le i way
        simp only [List.length_map, List.length_append, List.length_cons, List.length_nil]
        omega
      refine dos_un 10 (dos_un 11 (dos_nil ?_))
      have e : (qs0 key high way ++ (way.take (i + 1)).map Rq.ful).map (due sd) = (qs0 key high way ++ (way.take i).map Rq.ful).map (due sd) ++ [due sd (.ful x)] := by
        rw [List.take_succ, hx]
        simp only [Option.toList_some, List.map_append, List.map_cons, List.map_nil, List.append_assoc]
      rw [e]
      rfl
    subst hI
    rw [List.take_length]
    have okq : ∀ q ∈ qs0 key high way ++ way.map Rq.ful, q.ok sd := fun q hq => by
      rcases List.mem_append.mp hq with hq | hq
      · simp only [List.mem_cons, List.not_mem_nil, or_false] at hq
        rcases hq with rfl | rfl | rfl | rfl | rfl | rfl | rfl
        · exact trivial
        · exact trivial
        · exact ⟨by decide +kernel, hk, hw⟩
        · exact ⟨by decide +kernel, hk, hw⟩
        · exact ⟨by decide +kernel, hk, hw⟩
        · exact ⟨by decide +kernel, hk, hw⟩
        · exact ⟨hk, hh, hw⟩
      · obtain ⟨k, hk', rfl⟩ := List.mem_map.mp hq
        exact wl k hk'
    have ql : (qs0 key high way ++ way.map Rq.ful).length ≤ 1000 := by
      simp only [List.length_map, List.length_append, List.length_cons, List.length_nil]
      omega
    generalize qs0 key high way ++ way.map Rq.ful = qs at okq ql ⊢
    have qz : qs.length ≤ 1000 := ql
    refine dos_fzL 9 (dos_one (do_ret (ev_cmp (ev_lcIf (xs := qs.map (due sd)) (b := fun _ => false) (f := fun x : Str × Str => x.1) (S := rStr) B [("_law_row_here", 15), ("_law_due", 16)] [1, 15, 16] [] (gi_l (ev_var B 9)) (by rw [List.length_map]; omega) (fun X' B' => (ga_t2 B' (ga_name B' 15) (ga_name B' 16))) (fun X' B' x hx => ?_) (fun X' B' x hx hb => nomatch hb)).l (ev_list .nil).l (od_eqL B py_str (fun x hx => by simp at hx) (fun x hx => nomatch hx))) ?_))
    · obtain ⟨q, hq, rfl⟩ := List.mem_map.mp hx
      exact ET.as (et_cmp (ev_methR (S := S_rq C CD) B' K.dk.c (c_Desk_sayQ E D L K SH) (sd, q) (ev_dkv B' 1) (ins_dk (by decide +kernel)) (ea1 (ev_var B' 15)) ⟨hs, okq q hq⟩) (ev_var B' 16) (od_ne sc_str)) (by simp [due])
    · refine ⟨y, rfl, rfl, rfl, ok, fun G T F H v o p => ?_⟩
      have e : v = .bl (decide (((qs.map (due sd)).filter fun _ => false).map (fun x : Str × Str => x.1) = [])) := p
      rw [e]
      simp) 
end
end BF
set_option maxHeartbeats 5000000
namespace BF
open L2 PySem PySem.Spec PyProof.Rows
/-! ## the law's own rules -/
section
variable {Z : Zx} {X : Cx} {e e1 e2 : Expr} {Γ : List Sl} {pos : Pos} {ψ : XC}
theorem eb_val {φ : Bool → List Sl → Prop} (a : EE Z X e Γ rBool φ ψ) (he : ∀ whole, isTrue e X.env whole = (do let v ← whole; standAt e.pos; holding [v] (truthy v)) := by intro _; rfl) : EB Z X e Γ φ ψ :=
  EB.of (pt_val pe_ee he) fun σ F0 G F H Wr fts Q g S tk q => ⟨_, rBool, φ, ψ, Γ, F0, G, F, Wr, fts, a, g, S, tk, fun v F1 H1 ft1 Γ1 b g1 s1 S1 r1 h1 => ⟨b, r1, q b F1 H1 ft1 Γ1 g1 s1 S1 h1⟩⟩
theorem eb_not {φ φ' : Bool → List Sl → Prop} (a : EB Z X e Γ φ ψ) (h : ∀ b Γ', φ b Γ' → φ' (!b) Γ') : EB Z X (.UnaryOp .Not e pos) Γ φ' ψ :=
  EB.of (pt_not pt_eb) fun σ F0 G F H Wr fts Q g S tk q => ⟨φ, ψ, Γ, F0, G, F, Wr, fts, a, g, S, tk, fun b F1 H1 ft1 Γ1 g1 s1 S1 h1 => q (!b) F1 H1 ft1 Γ1 g1 s1 S1 (h b Γ1 h1)⟩
theorem ee_and2 {φ1 φ : Bool → List Sl → Prop} (a : EE Z X e1 Γ rBool φ1 ψ) (hf : ∀ Γ1, φ1 false Γ1 → φ false Γ1) (b : ∀ Γ1, φ1 true Γ1 → EE Z X e2 Γ1 rBool φ ψ) : EE Z X (.BoolOp .And [e1, e2] pos) Γ rBool φ ψ :=
  EE.of (pe_and pe_ee (pe_one pe_ee)) fun σ F0 G F H Wr fts Q g S tk q => ⟨_, rBool, φ1, ψ, Γ, F0, G, F, Wr, fts, a, g, S, tk, fun v F1 H1 ft1 Γ1 c g1 s1 S1 r1 h1 => by
    cases c with
    | true => exact ⟨true, r1, iteT ⟨_, rBool, φ, ψ, Γ1, F0, G, F1, Wr, ft1, b Γ1 h1, g1, S1, tk, fun v2 F2 H2 ft2 Γ2 c2 g2 s2 S2 r2 h2 => q v2 F2 H2 ft2 Γ2 c2 g2 (s1.trans s2) S2 r2 h2⟩⟩
    | false => exact ⟨false, r1, iteF (q _ F1 H1 ft1 Γ1 false g1 s1 S1 rfl (hf Γ1 h1))⟩⟩
end
def spLaw (T : Tbs) : Sp := fun us H Q E => ∃ (scr : List Int) (F : Hp), Ok T F H ∧ AllP [pd rScr scr] F H us ∧ ∀ H', Q (.bl true) H'
abbrev dLaw : Fin := { nx := fun _ => False, rt := fun P Γ => ∀ (G : Hp) (T : Tbs) (F H : Hp) (v : V), Ok T F H → (P G).p F H v → v = .bl true }
theorem fn_law {Z : Zx} {x p0 : Str} {st : Stmt} {k : Nat} {f : Addr} {fd : FuncData} (N : List Str) (vs : List Nat) (gs : List Str) (n : Nat) (FD : FunD Z.K x x (defArgs st) (defBody st) (defScope st) [] [] f fd)
    (body : ∀ X, Bd Z X N (defScope st) vs vs gs k → ∀ scr, DOs Z X (defBody st) (.da rScr scr :: uns n) dLaw)
    (c : dfB N [p0] (defScope st) vs gs = true := by decide +kernel) (hn : N.length = 1 + n := by rfl) : FnOk Z.P Z.w Z.K Z.mg Z.base (L2.CX Z.P Z.w) (k + 1) f fd [p0] (spLaw Z.T) := by
  obtain ⟨hS, nm⟩ := dfB_ok c
  refine FD.ok hS (fun us H Q E ⟨u, F, o, p, h⟩ => p.len) fun cdv A outer s H us Q E hr ⟨u, F, o, p, ret⟩ => ?_
  have B : Bd Z (cxOf (L2.CX Z.P Z.w) Z.P Z.w Z.K Z.mg Z.base N x (defScope st) f cdv A outer s H E) N (defScope st) vs vs gs k :=
    { nm := nm, prog := rfl, w := rfl, K := rfl, mg := rfl, base := rfl, eN := rfl, eSc := rfl, calm := rfl, room := hr, st := fun _ _ _ _ => .inl rfl, po := passes_of rfl }
  have tk := takes_of (X := cxOf (L2.CX Z.P Z.w) Z.P Z.w Z.K Z.mg Z.base N x (defScope st) f cdv A outer s H E) (E := E) rfl rfl rfl rfl
  obtain ⟨v, rfl⟩ : ∃ v, us = [v] := List.length_eq_one_iff.mp p.len
  have p : rScr.rel u F v := p.1
  have Sa : Sat nowhere F H H (.da rScr u :: uns n) (L2.start N [v]) (fun _ => []) := entry_sat (Δ := [.da rScr u]) hn rfl fun i s e => by
    match i, e with
    | 0, e => cases e; exact ⟨v, rfl, rfl, v, rfl, p⟩
    | i + 1, e => simp at e
  refine ⟨_, pss_ds (Z := Z), F, H, F, nowhere, _, _, dLaw, Grow.refl o, Sa, tk.imp fun c d σ' H' => ?_, body _ B u, ⟨?_, ?_, ?_, ?_⟩⟩
  · rintro ⟨_, F', Γ', fts', g, S', q⟩
    exact q.elim
  · rintro σ' H' ⟨F', Γ', fts', g, S', q⟩
    exact q.elim
  · rintro v H' ⟨F', Γ', σ', fts', P, g, S', pv, q⟩
    rw [q H Z.T F' H' v g.ok pv]
    exact ret H'
  · rintro σ' H' ⟨F', Γ', fts', g, _, q⟩
    exact q
  · rintro σ' H' ⟨F', Γ', fts', g, _, q⟩
    exact q
end BF
set_option maxHeartbeats 5000000
namespace BF
open L2 PySem PySem.Spec PyProof.Rows
/-! ## the law -/
abbrev lwN : List Str := ["_law_script", "_law_state", "_law_tree_here", "_law_rows_here", "_law_text_here", "_law_desk", "_law_shelf", "_law_turn", "_law_word", "_law_knot", "_law_key_here", "_law_row_here"]
abbrev lwG : List Str := ["_law_begin", "_law_small_stand", "_law_text", "Desk", "Shelf", "read_stand", "range", "_law_take", "len", "_law_key_near", "str", "_law_said", "_law_done", "_law_alike"]
/-- the law's slots: the desk holds sd1, the shelf sd2 -/
abbrev lwS (CD C a : Addr) (d : DsA) (s : SA) (scr : List Int) (sd : Sd) (y : LSt) (sd1 sd2 : Sd) (tl : List Sl) : List Sl :=
  .da rScr scr :: .mu (mLs a) y :: .da (rLst (rOpt rInt)) sd.1 :: .da (rLst (rLst rInt)) sd.2 :: .da rText sd :: .mu (mDk CD C d) (shOf sd1) :: .mu (mSh C s) (shOf sd2) :: tl
theorem dOf_nums {w : Str} (h : w ∈ dWs) (kn key : Int) : (dOf w kn key).nums = if w = "hang" then [kn] else [kn, key] := by
  rcases dws_of h with e | e | e <;> subst e
  · rw [dOf_put, if_neg (by decide +kernel)]; rfl
  · rw [dOf_out, if_neg (by decide +kernel)]; rfl
  · rw [dOf_hang, if_pos rfl]; rfl
theorem dws_len {w : Str} (h : w ∈ dWs) : w.length ≤ 10 := by
  rcases dws_of h with e | e | e <;> subst e <;> decide +kernel
section
variable {Z : Zx} {C CD CB : Addr}
theorem law_turns (E : Top Z) (D : Ds Z) (L : LamK Z) (K : Kl Z C CD) (XX : XKs Z CB) {dS : Addr} (SH : Shp Z dS) (hB : Z.mg "BridgeError" = some (.ref CB)) {X : Cx} (B : Bd Z X lwN (defScope s_law) [0, 1, 2, 3, 4, 5, 6, 7, 8, 9, 10, 11] [0, 1, 2, 3, 4, 5, 6, 7, 8, 9, 10, 11] lwG 14) (a : Addr) (d : DsA) (s : SA) (scr : List Int) (sd : Sd) (hs0 : StandOk sd) (y : LSt) (sd' : Sd) (ok : LsOk y) (hs : StandOk sd') (x : Int) {D1 : Fin} (hx : ∀ y sd', LsOk y → StandOk sd' → D1.nx (lwS CD C a d s scr sd y sd' sd' [.un, .un, .un, .un, .un])) {tg it : Expr} {body : List Stmt} {pos : Pos} {rest : List Stmt} (hb : (defBody s_law).drop 5 = .For tg it body [] pos :: rest) :
    DOs Z X body (lwS CD C a d s scr sd y sd' sd' [.da rInt x, .un, .un, .un, .un]) D1 := by
  have l2 := hs0.tree.l2
  injection hb with h1 h2
  injection h1 with h3 h4 h5 h6 h7
  subst h5
  refine dos_cons (do_setE (R := rStr) (φ := fun w Γ' => w ∈ dWs ∧ ∃ y, LsOk y ∧ Γ' = lwS CD C a d s scr sd y sd' sd' [.da rInt x, .un, .un, .un, .un]) B 8 (ee_ix (R := rStr) (φ1 := fun xs Γ' => xs = [("put" : Str), "out", "put", "hang"] ∧ Γ' = lwS CD C a d s scr sd y sd' sd' [.da rInt x, .un, .un, .un, .un]) (φ2 := fun xs (i : Int) Γ' => xs = [("put" : Str), "out", "put", "hang"] ∧ 0 ≤ i ∧ i < 4 ∧ ∃ y, LsOk y ∧ Γ' = lwS CD C a d s scr sd y sd' sd' [.da rInt x, .un, .un, .un, .un])
    (ee_ev (ev_list (.cons ev_str (.cons ev_str (.cons ev_str (.cons ev_str .nil))))) ⟨rfl, rfl⟩)
    (fun xs Γ1 ⟨ex, e⟩ => by
      subst e
      exact (ee_take E D B 1 a ev_int ok (by decide) (by decide)).imp fun z Γ' ⟨y, ok, h2, h3, e⟩ => ⟨ex, h2, h3, y, ok, e⟩)
    fun xs i Γ2 ⟨ex, i0, i1, r⟩ => by
      subst ex
      refine ⟨i0, ?_⟩
      have hi : i = 0 ∨ i = 1 ∨ i = 2 ∨ i = 3 := by omega
      rcases hi with rfl | rfl | rfl | rfl
      · exact ⟨_, rfl, by decide +kernel, r⟩
      · exact ⟨_, rfl, by decide +kernel, r⟩
      · exact ⟨_, rfl, by decide +kernel, r⟩
      · exact ⟨_, rfl, by decide +kernel, r⟩) fun w Γ1 ⟨hw, y, ok, e⟩ => ?_)
  subst e
  refine dos_cons (do_setE B 9 (ee_take E D B 1 a (ev_bin (ev_lenL B E (ev_var B 2).l) ev_int od_add) ok (most := (sd.1.length : Int) + 1) (by omega) (by omega)) fun kn Γ1 ⟨y, ok, k0, k1, e⟩ => ?_)
  subst e
  have ksm : Small kn := small_i k0 (by omega)
  refine dos_cons (do_setE B 10 ((ee_callM (S := S_near) B (c_law_near E D) 1 (a, y, sd'.2) id (ea2 (ev_pin B 1 pin_ls) (ev_snd (R := rTr) (x := sd') (ev_meth0 B K.sh.c (c_Shelf_stand E K) (ev_shv B 6) (ins_sh (by decide)) (shz_of hs)))) rfl (part_self pin_ls) ⟨ok, near_pre hs⟩).ex fun c Γ' ⟨w, h, e⟩ => h.elim) fun key Γ1 ⟨y, ⟨ok, hk⟩, e⟩ => ?_)
  subst e
  have hk : is_keyM key = true := hk
  have kl := sI_len ksm
  have yl := sI_len (small_of_key hk)
  have wl := dws_len hw
  have l1 : (" " : Str).length = 1 := by decide
  refine dos_cons (do_set B 11 ((ev_bin (ev_bin (ev_var B 8) ev_str (od_adds (sz_le (by omega)))) (ev_strI B E (ev_var B 9) (strlen ksm)) (od_adds (sz_le (by rw [len_app]; omega)))).as (row_one (w := w) rfl kn)) ?_)
  refine dos_mid (lwS CD C a d s scr sd y sd' sd' [.da rInt x, .da rStr w, .da rInt kn, .da rInt key, .da rStr (rowT (dOf w kn key).word (dOf w kn key).nums)]) ?_ ?_
  · rw [dOf_word hw, dOf_nums hw]
    refine do_if (et_cmp (ev_var B 8) ev_str (od_ne sc_str)) (fun h => ?_) (fun h => dos_nil ?_)
    · have h : w ≠ "hang" := by simpa using h
      rw [if_neg h]
      have rl : (rowT w [kn]).length ≤ 100 := by rw [← row_one (w := w) rfl kn, len_app, len_app]; omega
      exact dos_one (do_set B 11 ((ev_bin (ev_bin (ev_var B 11) ev_str (od_adds (sz_le (by omega)))) (ev_strI B E (ev_var B 10) (strlen (small_of_key hk))) (od_adds (sz_le (by rw [len_app]; omega)))).as (y := rowT w [kn, key]) (by rw [← row_one (w := w) rfl kn]; exact row_two w kn key)) rfl)
    · have h : w = "hang" := by simpa using h
      rw [if_pos h]
      rfl
  have hdk := dOf_key (w := w) (kn := kn) hk
  refine dos_cons (do_ifB (φ := fun b Γ' => b = false ∧ ∃ sd2, StandOk sd2 ∧ Γ' = lwS CD C a d s scr sd y sd2 sd2 [.da rInt x, .da rStr w, .da rInt kn, .da rInt key, .da rStr (rowT (dOf w kn key).word (dOf w kn key).nums)])
    (eb_cmp (R1 := rOpt rStr) (R2 := rOpt rStr) (φ1 := fun z Γ' => ∃ sd1, Came (dOf w kn key) sd' z sd1 ∧ Γ' = lwS CD C a d s scr sd y sd1 sd' [.da rInt x, .da rStr w, .da rInt kn, .da rInt key, .da rStr (rowT (dOf w kn key).word (dOf w kn key).nums)]) (φ2 := fun z z2 Γ' => z = z2 ∧ ∃ sd2, StandOk sd2 ∧ Γ' = lwS CD C a d s scr sd y sd2 sd2 [.da rInt x, .da rStr w, .da rInt kn, .da rInt key, .da rStr (rowT (dOf w kn key).word (dOf w kn key).nums)])
      (((ee_callM (S := S_said Z C CD CB) B (c_law_said E D K XX SH hB) 5 (d, sd', dOf w kn key) id (ea2 (ev_pin B 5 pin_dk) (ev_var B 11)) rfl (part_self pin_dk) ⟨hs, hdk, by show Small (dOf w kn key).knot; rw [dOf_knot]; exact ksm⟩).imp fun z Γ' ⟨w0, ⟨sd1, h, e1⟩, e⟩ => ⟨sd1, h, by rw [e, e1]; rfl⟩).ex fun c Γ' ⟨w, h, e⟩ => h.elim)
      (fun z Γ1 ⟨sd1, h1, e⟩ => by
        subst e
        exact ((ee_callM (S := S_done Z C CB) B (c_law_done E D K XX hB) 6 (s, sd', w, kn, key) id (ea_cons (ev_pin B 6 pin_sh) (ea_cons (ev_var B 8) (ea2 (ev_var B 9) (ev_var B 10)))) rfl (part_self pin_sh) ⟨hs, hw, hk⟩).imp fun z2 Γ' ⟨w0, ⟨sd2, h, e1⟩, e⟩ => by
          obtain ⟨h3, h4⟩ := came_one h1 h
          subst h4
          exact ⟨h3, sd1, came_ok h1 hs hdk, by rw [e, e1]; rfl⟩).ex fun c Γ' ⟨w, h, e⟩ => h.elim)
      fun z z2 Γ2 ⟨h, r⟩ => ⟨_, ⟨by rw [h]; simp, r⟩, od_ne sc_optS⟩) (fun Γ1 h => ?_) (fun Γ1 ⟨_, sd2, hs2, e⟩ => dos_nil ?_))
  · cases h.1
  subst e
  refine dos_cons (do_ifB (φ := fun b Γ' => b = false ∧ ∃ y, LsOk y ∧ Γ' = lwS CD C a d s scr sd y sd2 sd2 [.da rInt x, .da rStr w, .da rInt kn, .da rInt key, .da rStr (rowT (dOf w kn key).word (dOf w kn key).nums)]) (eb_and2 (φ1 := fun b Γ' => Γ' = lwS CD C a d s scr sd y sd2 sd2 [.da rInt x, .da rStr w, .da rInt kn, .da rInt key, .da rStr (rowT (dOf w kn key).word (dOf w kn key).nums)]) (eb_et (et_cmp (ev_bin (ev_var B 7) ev_int (od_mod (by decide))) ev_int (od_eq sc_int)) rfl) (fun Γ1 e => ⟨rfl, y, ok, e⟩) fun Γ1 e => by
      subst e
      exact eb_not (eb_val (ee_al B (c_law_alike E D L K SH) 1 5 6 ok hs2)) fun b Γ' ⟨hb, y, ok, e⟩ => ⟨by rw [hb]; rfl, y, ok, e⟩) (fun Γ1 h => ?_) (fun Γ1 ⟨_, y, ok, e⟩ => dos_nil ?_))
  · cases h.1
  subst e
  exact dos_un 7 (dos_un 8 (dos_un 9 (dos_un 10 (dos_un 11 (dos_nil (hx y sd2 ok hs2))))))
theorem law_body (E : Top Z) (D : Ds Z) (L : LamK Z) (K : Kl Z C CD) (KI : Ki Z C CD) (XX : XKs Z CB) {dS : Addr} (SH : Shp Z dS) (hB : Z.mg "BridgeError" = some (.ref CB)) {X : Cx} (B : Bd Z X lwN (defScope s_law) [0, 1, 2, 3, 4, 5, 6, 7, 8, 9, 10, 11] [0, 1, 2, 3, 4, 5, 6, 7, 8, 9, 10, 11] lwG 14) (scr : List Int) : DOs Z X (defBody s_law) (.da rScr scr :: uns 11) dLaw := by
  refine dos_cons (do_setN B 1 (en_call1 B (c_law_begin E D) (ev_var B 0) trivial) ?_)
  refine dos_open (M := mLsX) (Mi := fun a => mLs a) 1 (fun F H ft v r => r) (fun _ => rfl) fun a => ?_
  have ok : LsOk ⟨scr, 0, 0⟩ := ⟨Int.le_refl 0, Int.le_refl 0⟩
  refine dos_cons (do_asgE (R := rT2 (rLst (rOpt rInt)) (rLst (rLst rInt))) ((ee_callM (S := S_small) B (c_law_small E D) 1 (a, ⟨scr, 0, 0⟩) id (ea1 (ev_pin B 1 pin_ls)) rfl (part_self pin_ls) ok).ex fun c Γ' ⟨w, h, e⟩ => h.elim) (ga_t2 B (ga_name B 2) (ga_name B 3)) fun sd Γ1 ⟨y, ⟨ok, hs⟩, e⟩ => ?_)
  subst e
  refine dos_cons (do_set B 4 (R := rText) (x := sd) (ev_call2 B (c_law_text E D) (ev_var B 2) (ev_var B 3) hs) ?_)
  refine dos_cons (do_setN B 5 (en_make (S := S_dkI C CD) B (c_Desk_init E D K KI) sd (ea1 (ev_var B 4)) hs) ?_)
  refine dos_open (M := mDkX CD C) (Mi := fun d => mDk CD C d) 5 (fun F H ft v r => r) (fun _ => rfl) fun d => ?_
  refine dos_cons (do_setN B 6 (en_make (S := S_shI C) B (c_Shelf_init E D K KI) sd (ea1 (ev_call1 B (c_read_stand E D) (ev_var B 4) hs)) hs) ?_)
  refine dos_open (M := mShX C) (Mi := fun s => mSh C s) 6 (fun F H ft v r => r) (fun _ => rfl) fun s => ?_
  refine dos_cons (do_forE (φ := fun xs Γ' => ∃ y, LsOk y ∧ Γ' = lwS CD C a d s scr sd y sd sd [.un, .un, .un, .un, .un]) B
    (gie_range1 (φ0 := fun (n : Int) Γ' => (0 ≤ n ∧ n ≤ 12) ∧ ∃ y, LsOk y ∧ Γ' = lwS CD C a d s scr sd y sd sd [.un, .un, .un, .un, .un]) B E
      (ee_bin (φ1 := fun (x : Int) Γ' => x = 1 ∧ Γ' = lwS CD C a d s scr sd y sd sd [.un, .un, .un, .un, .un]) (φ2 := fun (x n : Int) Γ' => (x = 1 ∧ 0 ≤ n ∧ n < 12) ∧ ∃ y, LsOk y ∧ Γ' = lwS CD C a d s scr sd y sd sd [.un, .un, .un, .un, .un]) (ee_ev ev_int ⟨rfl, rfl⟩)
        (fun x Γ1 ⟨ex, e⟩ => by
          subst e
          exact (ee_take E D B 1 a ev_int ok (by decide) (by decide)).imp fun n Γ' ⟨y, ok, h2, h3, e⟩ => ⟨⟨ex, h2, h3⟩, y, ok, e⟩)
        fun x n Γ2 ⟨⟨ex, n0, n1⟩, r⟩ => ⟨x + n, ⟨⟨by omega, by omega⟩, r⟩, od_add⟩)
      fun n Γ' ⟨⟨n0, n1⟩, r⟩ => ⟨by constructor <;> omega, r⟩)
    (ga_name B 7) (fun xs i Γ' => ∃ y sd', LsOk y ∧ StandOk sd' ∧ Γ' = lwS CD C a d s scr sd y sd' sd' [.un, .un, .un, .un, .un]) (fun xs Γ1 ⟨y, ok, e⟩ => ⟨y, sd, ok, hs, e⟩) (fun xs i x Γ' hx hI => ?_) (fun xs Γ' hI => ?_))
  · obtain ⟨y, sd', ok, hs', e⟩ := hI
    subst e
    refine law_turns E D L K XX SH hB B a d s scr sd hs y sd' ok hs' x ?_ rfl
    exact fun y sd' h1 h2 => ⟨y, sd', h1, h2, rfl⟩
  obtain ⟨y, sd', ok, hs', e⟩ := hI
  subst e
  refine dos_one (do_retE (φ := fun b Γ' => b = true) (ee_and2 (φ1 := alQ a 1 (lwS CD C a d s scr sd y sd' sd' [.un, .un, .un, .un, .un])) (φ := fun b Γ' => b = true) (ee_al B (c_law_alike E D L K SH) 1 5 6 ok hs') (fun Γ1 h => by have := h.1; cases this) fun Γ1 ⟨_, y, ok, e⟩ => by
    subst e
    exact (ee_alN B (c_law_alike E D L K SH) 1 6 ok hs' (en_make (S := S_dkI C CD) B (c_Desk_init E D K KI) sd' (ea1 ((ev_methR (S := S_rq C CD) B K.dk.c (c_Desk_sayQ E D L K SH) (sd', .show_) (ev_dkv B 5) (ins_dk (by decide +kernel)) (ea1 (ev_str.as (row_none "show").symm)) ⟨hs', trivial⟩).imp fun F H v o p => p)) hs')).imp fun b Γ' h => h.1) fun b Γ1 h => ?_)
  subst h
  exact fun G T F H v o p => p
end
end BF
set_option maxHeartbeats 5000000
namespace BF
open L2 PySem PySem.Spec PyProof.Rows
/-! ## what the head tells -/
theorem df_at {Z : Zx} {x : Str} {st : Stmt} {d : He.DefD} (hd : ∃ fd, FunD Z.K d.name d.qual d.params d.body d.scope (d.dvs Z.K) (d.kws Z.K) (He.fAd Z.K d.at_) fd) (hm : Z.mg x = some (.ref (He.ga Z.K x))) (e : d = ⟨(x, none), x, x, defArgs st, defBody st, defScope st, [], []⟩) : Df Z x st := by
  subst e
  obtain ⟨fd, FD⟩ := hd
  exact ⟨_, fd, hm, FD⟩
theorem dfm_at {Z : Zx} {y m q : Str} {st : Stmt} {d : He.DefD} (hd : ∃ fd, FunD Z.K d.name d.qual d.params d.body d.scope (d.dvs Z.K) (d.kws Z.K) (He.fAd Z.K d.at_) fd) (hm : Meth Z.K (He.ga Z.K y) m (He.ma Z.K (He.ga Z.K y) m)) (e : d = ⟨(y, some m), m, q, defArgs st, defBody st, defScope st, [], []⟩) : DfM Z (He.ga Z.K y) m q st := by
  subst e
  obtain ⟨fd, FD⟩ := hd
  exact ⟨_, fd, hm, FD⟩
theorem ini_at {Z : Zx} {y q : Str} {st : Stmt} {d : He.DefD} (hd : ∃ fd, FunD Z.K d.name d.qual d.params d.body d.scope (d.dvs Z.K) (d.kws Z.K) (He.fAd Z.K d.at_) fd) (hk : Mk Z.K (He.ga Z.K y) (He.ma Z.K (He.ga Z.K y) "__init__")) (hm : Z.mg y = some (.ref (He.ga Z.K y))) (e : d = ⟨(y, some "__init__"), "__init__", q, defArgs st, defBody st, defScope st, [], []⟩) :
    ∃ f fd, Mk Z.K (He.ga Z.K y) f ∧ Z.mg y = some (.ref (He.ga Z.K y)) ∧ FunD Z.K "__init__" q (defArgs st) (defBody st) (defScope st) [] [] f fd := by
  subst e
  obtain ⟨fd, FD⟩ := hd
  exact ⟨_, fd, hk, hm, FD⟩
section
variable {Z : Zx} (c : He.SaysD fa fn Z.K) (X : Z.K.In Z.base) (G : Z.base.Ns mainGlobals Z.mg)
include c X G
theorem hd_top : Top Z where
  fr := fun x hx => by
    unfold blts at hx
    rcases List.mem_cons.mp hx with rfl | hx
    · exact He.free_ok X G (c.fact 72 (f := .free "isinstance"))
    rcases List.mem_cons.mp hx with rfl | hx
    · exact He.free_ok X G (c.fact 73 (f := .free "int"))
    rcases List.mem_cons.mp hx with rfl | hx
    · exact He.free_ok X G (c.fact 74 (f := .free "bool"))
    rcases List.mem_cons.mp hx with rfl | hx
    · exact He.free_ok X G (c.fact 75 (f := .free "abs"))
    rcases List.mem_cons.mp hx with rfl | hx
    · exact He.free_ok X G (c.fact 76 (f := .free "len"))
    rcases List.mem_cons.mp hx with rfl | hx
    · exact He.free_ok X G (c.fact 77 (f := .free "list"))
    rcases List.mem_cons.mp hx with rfl | hx
    · exact He.free_ok X G (c.fact 78 (f := .free "range"))
    rcases List.mem_cons.mp hx with rfl | hx
    · exact He.free_ok X G (c.fact 79 (f := .free "enumerate"))
    rcases List.mem_cons.mp hx with rfl | hx
    · exact He.free_ok X G (c.fact 80 (f := .free "max"))
    rcases List.mem_cons.mp hx with rfl | hx
    · exact He.free_ok X G (c.fact 81 (f := .free "min"))
    rcases List.mem_cons.mp hx with rfl | hx
    · exact He.free_ok X G (c.fact 82 (f := .free "any"))
    rcases List.mem_cons.mp hx with rfl | hx
    · exact He.free_ok X G (c.fact 83 (f := .free "zip"))
    rcases List.mem_cons.mp hx with rfl | hx
    · exact He.free_ok X G (c.fact 84 (f := .free "tuple"))
    rcases List.mem_cons.mp hx with rfl | hx
    · exact He.free_ok X G (c.fact 85 (f := .free "all"))
    rcases List.mem_cons.mp hx with rfl | hx
    · exact He.free_ok X G (c.fact 86 (f := .free "set"))
    rcases List.mem_cons.mp hx with rfl | hx
    · exact He.free_ok X G (c.fact 87 (f := .free "sorted"))
    rcases List.mem_cons.mp hx with rfl | hx
    · exact He.free_ok X G (c.fact 88 (f := .free "sum"))
    rcases List.mem_cons.mp hx with rfl | hx
    · exact He.free_ok X G (c.fact 89 (f := .free "reversed"))
    rw [List.mem_singleton.mp hx]
    exact He.free_ok X G (c.fact 90 (f := .free "str"))
  tooGreat := He.int_ok X G (c.fact 105 (f := .int "TOO_GREAT" (1000000000000000000000000000000000000000000000000000000000000)))
  knots := He.int_ok X G (c.fact 106 (f := .int "KNOTS" (64)))
  rounds := He.int_ok X G (c.fact 107 (f := .int "ROUNDS" (5)))
  mkT := He.int_ok X G (c.fact 108 (f := .int "MOST_KNOTS_trees" (40)))
  meS := He.int_ok X G (c.fact 109 (f := .int "MOST_KEYS_stands" (300)))
  mf := He.int_ok X G (c.fact 110 (f := .int "MOST_FIGURES" (60)))
  mkX := He.int_ok X G (c.fact 111 (f := .int "MOST_KNOTS_texts" (40)))
  meX := He.int_ok X G (c.fact 112 (f := .int "MOST_KEYS_texts" (300)))
  figs := He.str_ok X G (c.fact 113 (f := .str "FIGURES" "0123456789"))
theorem hd_ds : Ds Z where
  is_key := df_at (c.def_ 0 (d := d_is_key)) (He.glo_ok X G (c.fact 0 (f := .glo "is_key"))) rfl
  code := df_at (c.def_ 1 (d := d_code)) (He.glo_ok X G (c.fact 1 (f := .glo "code"))) rfl
  put_between := df_at (c.def_ 2 (d := d_put_between)) (He.glo_ok X G (c.fact 2 (f := .glo "put_between"))) rfl
  joined_up := df_at (c.def_ 3 (d := d_joined_up)) (He.glo_ok X G (c.fact 3 (f := .glo "joined_up"))) rfl
  lowest_unlike := df_at (c.def_ 4 (d := d_lowest_unlike)) (He.glo_ok X G (c.fact 4 (f := .glo "lowest_unlike"))) rfl
  turned := df_at (c.def_ 5 (d := d_turned)) (He.glo_ok X G (c.fact 5 (f := .glo "turned"))) rfl
  labels := df_at (c.def_ 6 (d := d_labels)) (He.glo_ok X G (c.fact 6 (f := .glo "labels"))) rfl
  neighbours_of := df_at (c.def_ 7 (d := d_neighbours_of)) (He.glo_ok X G (c.fact 7 (f := .glo "neighbours_of"))) rfl
  colours := df_at (c.def_ 8 (d := d_colours)) (He.glo_ok X G (c.fact 8 (f := .glo "colours"))) rfl
  marks := df_at (c.def_ 9 (d := d_marks)) (He.glo_ok X G (c.fact 9 (f := .glo "marks"))) rfl
  handed := df_at (c.def_ 10 (d := d_handed)) (He.glo_ok X G (c.fact 10 (f := .glo "handed"))) rfl
  is_whole := df_at (c.def_ 11 (d := d_is_whole)) (He.glo_ok X G (c.fact 11 (f := .glo "is_whole"))) rfl
  is_knot := df_at (c.def_ 12 (d := d_is_knot)) (He.glo_ok X G (c.fact 12 (f := .glo "is_knot"))) rfl
  tree_of := df_at (c.def_ 13 (d := d_tree_of)) (He.glo_ok X G (c.fact 13 (f := .glo "tree_of"))) rfl
  children := df_at (c.def_ 14 (d := d_children)) (He.glo_ok X G (c.fact 14 (f := .glo "children"))) rfl
  beneath := df_at (c.def_ 15 (d := d_beneath)) (He.glo_ok X G (c.fact 15 (f := .glo "beneath"))) rfl
  is_way := df_at (c.def_ 16 (d := d_is_way)) (He.glo_ok X G (c.fact 16 (f := .glo "is_way"))) rfl
  row_of := df_at (c.def_ 17 (d := d_row_of)) (He.glo_ok X G (c.fact 17 (f := .glo "row_of"))) rfl
  stand_of := df_at (c.def_ 18 (d := d_stand_of)) (He.glo_ok X G (c.fact 18 (f := .glo "stand_of"))) rfl
  own_entries := df_at (c.def_ 19 (d := d_own_entries)) (He.glo_ok X G (c.fact 19 (f := .glo "own_entries"))) rfl
  full_rows := df_at (c.def_ 20 (d := d_full_rows)) (He.glo_ok X G (c.fact 20 (f := .glo "full_rows"))) rfl
  weight_beneath := df_at (c.def_ 21 (d := d_weight_beneath)) (He.glo_ok X G (c.fact 21 (f := .glo "weight_beneath"))) rfl
  weight := df_at (c.def_ 22 (d := d_weight)) (He.glo_ok X G (c.fact 22 (f := .glo "weight"))) rfl
  owns_of := df_at (c.def_ 23 (d := d_owns_of)) (He.glo_ok X G (c.fact 23 (f := .glo "owns_of"))) rfl
  behind_of := df_at (c.def_ 24 (d := d_behind_of)) (He.glo_ok X G (c.fact 24 (f := .glo "behind_of"))) rfl
  starts_of := df_at (c.def_ 25 (d := d_starts_of)) (He.glo_ok X G (c.fact 25 (f := .glo "starts_of"))) rfl
  bridges_of_fulls := df_at (c.def_ 26 (d := d_bridges_of_fulls)) (He.glo_ok X G (c.fact 26 (f := .glo "bridges_of_fulls"))) rfl
  bridges := df_at (c.def_ 27 (d := d_bridges)) (He.glo_ok X G (c.fact 27 (f := .glo "bridges"))) rfl
  first_place := df_at (c.def_ 28 (d := d_first_place)) (He.glo_ok X G (c.fact 28 (f := .glo "first_place"))) rfl
  next_place := df_at (c.def_ 29 (d := d_next_place)) (He.glo_ok X G (c.fact 29 (f := .glo "next_place"))) rfl
  start_in := df_at (c.def_ 30 (d := d_start_in)) (He.glo_ok X G (c.fact 30 (f := .glo "start_in"))) rfl
  search := df_at (c.def_ 31 (d := d_search)) (He.glo_ok X G (c.fact 31 (f := .glo "search"))) rfl
  ask_way := df_at (c.def_ 32 (d := d_ask_way)) (He.glo_ok X G (c.fact 32 (f := .glo "ask_way"))) rfl
  found_places := df_at (c.def_ 33 (d := d_found_places)) (He.glo_ok X G (c.fact 33 (f := .glo "found_places"))) rfl
  places := df_at (c.def_ 34 (d := d_places)) (He.glo_ok X G (c.fact 34 (f := .glo "places"))) rfl
  parts_from := df_at (c.def_ 35 (d := d_parts_from)) (He.glo_ok X G (c.fact 35 (f := .glo "parts_from"))) rfl
  who_has := df_at (c.def_ 36 (d := d_who_has)) (He.glo_ok X G (c.fact 36 (f := .glo "who_has"))) rfl
  stretch := df_at (c.def_ 37 (d := d_stretch)) (He.glo_ok X G (c.fact 37 (f := .glo "stretch"))) rfl
  above := df_at (c.def_ 38 (d := d_above)) (He.glo_ok X G (c.fact 38 (f := .glo "above"))) rfl
  below := df_at (c.def_ 39 (d := d_below)) (He.glo_ok X G (c.fact 39 (f := .glo "below"))) rfl
  less := df_at (c.def_ 40 (d := d_less)) (He.glo_ok X G (c.fact 40 (f := .glo "less"))) rfl
  show_stand := df_at (c.def_ 49 (d := d_show_stand)) (He.glo_ok X G (c.fact 41 (f := .glo "show_stand"))) rfl
  number_read := df_at (c.def_ 50 (d := d_number_read)) (He.glo_ok X G (c.fact 42 (f := .glo "number_read"))) rfl
  read_keys := df_at (c.def_ 51 (d := d_read_keys)) (He.glo_ok X G (c.fact 43 (f := .glo "read_keys"))) rfl
  read_line := df_at (c.def_ 52 (d := d_read_line)) (He.glo_ok X G (c.fact 44 (f := .glo "read_line"))) rfl
  read_stand := df_at (c.def_ 53 (d := d_read_stand)) (He.glo_ok X G (c.fact 45 (f := .glo "read_stand"))) rfl
  with_blanks := df_at (c.def_ 54 (d := d_with_blanks)) (He.glo_ok X G (c.fact 46 (f := .glo "with_blanks"))) rfl
  entry_text := df_at (c.def_ 55 (d := d_entry_text)) (He.glo_ok X G (c.fact 47 (f := .glo "entry_text"))) rfl
  entry_or_none := df_at (c.def_ 56 (d := d_entry_or_none)) (He.glo_ok X G (c.fact 48 (f := .glo "entry_or_none"))) rfl
  with_commas := df_at (c.def_ 57 (d := d_with_commas)) (He.glo_ok X G (c.fact 49 (f := .glo "with_commas"))) rfl
  shape_of := df_at (c.def_ 58 (d := d_shape_of)) (He.glo_ok X G (c.fact 50 (f := .glo "shape_of"))) rfl
  law_every := df_at (c.def_ 65 (d := d_law_every)) (He.glo_ok X G (c.fact 51 (f := .glo "_law_every"))) rfl
  law_begin := df_at (c.def_ 66 (d := d_law_begin)) (He.glo_ok X G (c.fact 52 (f := .glo "_law_begin"))) rfl
  law_mixed := df_at (c.def_ 67 (d := d_law_mixed)) (He.glo_ok X G (c.fact 53 (f := .glo "_law_mixed"))) rfl
  law_take := df_at (c.def_ 68 (d := d_law_take)) (He.glo_ok X G (c.fact 54 (f := .glo "_law_take"))) rfl
  law_key := df_at (c.def_ 69 (d := d_law_key)) (He.glo_ok X G (c.fact 55 (f := .glo "_law_key"))) rfl
  law_tree := df_at (c.def_ 70 (d := d_law_tree)) (He.glo_ok X G (c.fact 56 (f := .glo "_law_tree"))) rfl
  law_row := df_at (c.def_ 71 (d := d_law_row)) (He.glo_ok X G (c.fact 57 (f := .glo "_law_row"))) rfl
  law_rows := df_at (c.def_ 72 (d := d_law_rows)) (He.glo_ok X G (c.fact 58 (f := .glo "_law_rows"))) rfl
  law_children := df_at (c.def_ 73 (d := d_law_children)) (He.glo_ok X G (c.fact 59 (f := .glo "_law_children"))) rfl
  law_way := df_at (c.def_ 74 (d := d_law_way)) (He.glo_ok X G (c.fact 60 (f := .glo "_law_way"))) rfl
  law_small_stand := df_at (c.def_ 75 (d := d_law_small_stand)) (He.glo_ok X G (c.fact 61 (f := .glo "_law_small_stand"))) rfl
  law_text := df_at (c.def_ 76 (d := d_law_text)) (He.glo_ok X G (c.fact 62 (f := .glo "_law_text"))) rfl
  law_words := df_at (c.def_ 77 (d := d_law_words)) (He.glo_ok X G (c.fact 63 (f := .glo "_law_words"))) rfl
  law_entry_text := df_at (c.def_ 78 (d := d_law_entry_text)) (He.glo_ok X G (c.fact 64 (f := .glo "_law_entry_text"))) rfl
  law_key_near := df_at (c.def_ 79 (d := d_law_key_near)) (He.glo_ok X G (c.fact 65 (f := .glo "_law_key_near"))) rfl
  law_counted := df_at (c.def_ 80 (d := d_law_counted)) (He.glo_ok X G (c.fact 66 (f := .glo "_law_counted"))) rfl
  law_done := df_at (c.def_ 81 (d := d_law_done)) (He.glo_ok X G (c.fact 67 (f := .glo "_law_done"))) rfl
  law_said := df_at (c.def_ 82 (d := d_law_said)) (He.glo_ok X G (c.fact 68 (f := .glo "_law_said"))) rfl
  law_entry_or_none := df_at (c.def_ 83 (d := d_law_entry_or_none)) (He.glo_ok X G (c.fact 69 (f := .glo "_law_entry_or_none"))) rfl
  law_alike := df_at (c.def_ 84 (d := d_law_alike)) (He.glo_ok X G (c.fact 70 (f := .glo "_law_alike"))) rfl
  law := df_at (c.def_ 85 (d := d_law)) (He.glo_ok X G (c.fact 71 (f := .glo "law"))) rfl
omit X G in
theorem hd_kl : Kl Z (He.ga Z.K "Shelf") (He.ga Z.K "Desk") where
  sh := ⟨He.cls_ok (c.fact 115 (f := .cls "Shelf")), fun n hn => by
    rcases List.mem_cons.mp hn with rfl | hn
    · exact He.noat_ok (c.fact 119 (f := .noat "Shelf" "tree"))
    rcases List.mem_cons.mp hn with rfl | hn
    · exact He.noat_ok (c.fact 120 (f := .noat "Shelf" "rows"))
    rw [List.mem_singleton.mp hn]
    exact He.noat_ok (c.fact 121 (f := .noat "Shelf" "fulls"))⟩
  dk := ⟨He.cls_ok (c.fact 117 (f := .cls "Desk")), fun n hn => by
    rw [List.mem_singleton.mp hn]
    exact He.noat_ok (c.fact 122 (f := .noat "Desk" "shelf"))⟩
  stand := dfm_at (c.def_ 42 (d := d_Shelf_stand)) (He.meth_ok (c.fact 123 (f := .meth "Shelf" "stand"))) rfl
  ask_knot := dfm_at (c.def_ 43 (d := d_Shelf_ask_knot)) (He.meth_ok (c.fact 124 (f := .meth "Shelf" "ask_knot"))) rfl
  full := dfm_at (c.def_ 44 (d := d_Shelf_full)) (He.meth_ok (c.fact 125 (f := .meth "Shelf" "full"))) rfl
  changed := dfm_at (c.def_ 45 (d := d_Shelf_changed)) (He.meth_ok (c.fact 126 (f := .meth "Shelf" "changed"))) rfl
  put := dfm_at (c.def_ 46 (d := d_Shelf_put)) (He.meth_ok (c.fact 127 (f := .meth "Shelf" "put"))) rfl
  out := dfm_at (c.def_ 47 (d := d_Shelf_out)) (He.meth_ok (c.fact 128 (f := .meth "Shelf" "out"))) rfl
  hang := dfm_at (c.def_ 48 (d := d_Shelf_hang)) (He.meth_ok (c.fact 129 (f := .meth "Shelf" "hang"))) rfl
  thing_of := dfm_at (c.def_ 60 (d := d_Desk_thing_of)) (He.meth_ok (c.fact 130 (f := .meth "Desk" "thing_of"))) rfl
  deed_row := dfm_at (c.def_ 61 (d := d_Desk_deed_row)) (He.meth_ok (c.fact 131 (f := .meth "Desk" "deed_row"))) rfl
  way_row := dfm_at (c.def_ 62 (d := d_Desk_way_row)) (He.meth_ok (c.fact 132 (f := .meth "Desk" "way_row"))) rfl
  between_row := dfm_at (c.def_ 63 (d := d_Desk_between_row)) (He.meth_ok (c.fact 133 (f := .meth "Desk" "between_row"))) rfl
  say := dfm_at (c.def_ 64 (d := d_Desk_say)) (He.meth_ok (c.fact 134 (f := .meth "Desk" "say"))) rfl
theorem hd_ki : Ki Z (He.ga Z.K "Shelf") (He.ga Z.K "Desk") where
  shI := ini_at (c.def_ 41 (d := d_Shelf_init)) (He.mkr_ok (c.fact 116 (f := .mkr "Shelf"))) (He.glo_ok X G (c.fact 103 (f := .glo "Shelf"))) rfl
  dkI := ini_at (c.def_ 59 (d := d_Desk_init)) (He.mkr_ok (c.fact 118 (f := .mkr "Desk"))) (He.glo_ok X G (c.fact 104 (f := .glo "Desk"))) rfl
theorem hd_xks : XKs Z (He.ga Z.K "BridgeError") where
  noKnot := ⟨He.ga Z.K "NoKnot", He.glo_ok X G (c.fact 99 (f := .glo "NoKnot")), (He.exc_ok (c.fact 141 (f := .exc "NoKnot"))).2.1, (He.exc_ok (c.fact 141 (f := .exc "NoKnot"))).1, (He.exc_ok (c.fact 141 (f := .exc "NoKnot"))).2.2.1, (He.exc_ok (c.fact 141 (f := .exc "NoKnot"))).2.2.2, He.exm_ok (c.fact 142 (f := .exm "NoKnot" "BridgeError" true))⟩
  noRoom := ⟨He.ga Z.K "NoRoom", He.glo_ok X G (c.fact 98 (f := .glo "NoRoom")), (He.exc_ok (c.fact 139 (f := .exc "NoRoom"))).2.1, (He.exc_ok (c.fact 139 (f := .exc "NoRoom"))).1, (He.exc_ok (c.fact 139 (f := .exc "NoRoom"))).2.2.1, (He.exc_ok (c.fact 139 (f := .exc "NoRoom"))).2.2.2, He.exm_ok (c.fact 140 (f := .exm "NoRoom" "BridgeError" true))⟩
  twice := ⟨He.ga Z.K "Twice", He.glo_ok X G (c.fact 96 (f := .glo "Twice")), (He.exc_ok (c.fact 135 (f := .exc "Twice"))).2.1, (He.exc_ok (c.fact 135 (f := .exc "Twice"))).1, (He.exc_ok (c.fact 135 (f := .exc "Twice"))).2.2.1, (He.exc_ok (c.fact 135 (f := .exc "Twice"))).2.2.2, He.exm_ok (c.fact 136 (f := .exm "Twice" "BridgeError" true))⟩
  missing := ⟨He.ga Z.K "Missing", He.glo_ok X G (c.fact 97 (f := .glo "Missing")), (He.exc_ok (c.fact 137 (f := .exc "Missing"))).2.1, (He.exc_ok (c.fact 137 (f := .exc "Missing"))).1, (He.exc_ok (c.fact 137 (f := .exc "Missing"))).2.2.1, (He.exc_ok (c.fact 137 (f := .exc "Missing"))).2.2.2, He.exm_ok (c.fact 138 (f := .exm "Missing" "BridgeError" true))⟩
theorem hd_be : Z.mg "BridgeError" = some (.ref (He.ga Z.K "BridgeError")) := He.glo_ok X G (c.fact 92 (f := .glo "BridgeError"))
theorem hd_shapes : Z.mg "SHAPES" = some (.ref (He.ga Z.K "SHAPES")) := He.glo_ok X G (c.fact 114 (f := .glo "SHAPES"))
end
theorem hd_shp {Z : Zx} (c : He.SaysT fa fn ts Z.w Z.K) (b : exB Z.K = true) (X : Z.K.In Z.base) (G : Z.base.Ns mainGlobals Z.mg) : Shp Z (He.ga Z.K "SHAPES") where
  mg := hd_shapes c.d X G
  kd := c.tab 0
  at_ := fun q hq => by
    have h : (q.1, He.Dv.str q.2) ∈ shapesKV := by
      have e : shapesKV = shapesL.map fun q => (q.1, He.Dv.str q.2) := rfl
      rw [e]
      exact List.mem_map.mpr ⟨q, hq, rfl⟩
    exact He.valsB_ok b h
theorem hd_lam {Z : Zx} (c : He.SaysD fa fn Z.K) (X : Z.K.In Z.base) (G : Z.base.Ns mainGlobals Z.mg) (hT : Z.T = [((He.cT Z.K ("found_places", none)).2, lamQ)]) (tab : LamX.TabB Z.base Z.mg (He.cT Z.K ("found_places", none)).1 (He.cT Z.K ("found_places", none)).2) : LamK Z := by
  obtain ⟨fd, FD⟩ := c.def_ 33 (d := d_found_places)
  obtain ⟨oc, od, dV, kV, doc, pm, an, cdv, ct, osl, efd, lk, hcd, _, _⟩ := FD.ex
  obtain ⟨cc, ec⟩ := He.codeIn_ref hcd
  have e1 : fd.code = .ref cc := by rw [efd, ec]
  have e2 : He.codeOf Z.K ("found_places", none) = cc := He.codeOf_eq lk e1
  exact ⟨_, _, tab, hT, _, fd, He.glo_ok X G (c.fact 33 (f := .glo "found_places")), FD, by rw [e1]; exact congrArg Value.ref e2.symm⟩
end BF
set_option maxHeartbeats 0
namespace BF
open PySem PySem.Spec PyProof.Rows L2
/-! ## the end -/
abbrev fpD : He.Defn := ("found_places", none)
theorem law_at {P : Program} {w : World} {K : PySem.W.Frag} {h : Heap} {mg : Str → Option Value} {f : Addr} (X : K.In h) (G : h.Ns mainGlobals mg) (hf : mg ("law" : Str) = some (.ref f)) (c : He.SaysX fa fn ts tf exB w h K) (nl : ∀ a o, K.lookup a = some o → noList o = true) :
    ∃ (fd : FuncData) (cs : List (Addr × Addr)) (sp : Sp), (∀ p ∈ cs, h.get? p.2 = some { cls := .none, data := .fields #[] }) ∧ (∀ p ∈ cs, K.lookup p.2 = none) ∧ (∀ p ∈ cs, PySem.W.CodeHd h p.1 p.2) ∧ (∀ (s : Shared) (u : Value), BindsTo s fd ⟨[u], []⟩ [("_law_script", u)]) ∧
      (∀ (H : Hp) (a : Addr) (ns : List Int), (∀ p ∈ cs, H p.2 = some (.tbl #[])) → SqL K H a (ns.map V.int) → sp [.ref a] H (fun v _ => v = .bl true) fun _ _ _ => False) ∧
      ∀ base : Heap, K.In base → base.Ns mainGlobals mg → (∀ p ∈ cs, LamX.TabB base mg p.1 p.2) → FnOk P w K mg base (L2.CX P w) 15 f fd ["_law_script"] sp := by
  have m0 : fpD ∈ tf := List.mem_singleton.mpr rfl
  obtain ⟨fd, FD⟩ := c.t.d.def_ 85 (d := d_law)
  have e := hf.symm.trans (He.glo_ok X G (c.t.d.fact 71 (f := .glo "law")))
  cases e
  have b := FunD.bindsA (ps := ["_law_script"]) FD fun _ _ _ _ _ _ us hl => match us, hl with | [_], _ => rfl
  refine ⟨fd, [He.cT K fpD], spLaw [((He.cT K fpD).2, lamQ)], fun p hp => ?_, fun p hp => ?_, fun p hp => ?_, fun s v => b s [v] rfl, fun H a ns hH hS => ?_, fun base KX KG tab => ?_⟩
  · rw [List.mem_singleton.mp hp]; exact c.empty _ m0
  · rw [List.mem_singleton.mp hp]; exact c.out _ m0
  · rw [List.mem_singleton.mp hp]; exact PySem.W.codeHd_of_K X (c.hd _ m0)
  · rcases hS with hS | ⟨o, its, n, hk, hc, _⟩
    · have ht := hH _ (List.mem_singleton.mpr rfl)
      have nt : ∀ ps, H a ≠ some (.tbl ps) := fun ps z => by
        rcases hS with h1 | ⟨o, h1⟩ <;> rw [h1] at z <;> cases z
      refine ⟨ns, fun x => if x = a then H a else none, ⟨fun x u z => ?_, fun x ps z => ?_, fun p hp => ?_⟩, ⟨⟨a, rfl, ?_⟩, trivial⟩, fun _ => rfl⟩
      · by_cases q : x = a
        · rw [q]; rw [if_pos q] at z; exact z
        · rw [if_neg q] at z; cases z
      · by_cases q : x = a
        · rw [if_pos q] at z; exact nt ps z
        · rw [if_neg q] at z; cases z
      · rw [List.mem_singleton.mp hp]
        exact ⟨#[], ht, trivial, fun pos cv z => by cases z⟩
      · show Rd (fun x => if x = a then H a else none) a (.lst (ns.map V.int))
        rcases hS with h1 | ⟨o, h1⟩
        · exact .inl ((if_pos rfl).trans h1)
        · exact .inr ⟨o, (if_pos rfl).trans h1⟩
    · have z := nl a o hk
      obtain ⟨oc, od, dt, sl⟩ := o
      have hc : oc = .type "list" := hc
      subst hc
      have z2 : (!decide (("list" : String) = "list")) = true := z
      simp at z2
  · let Z : Zx := ⟨P, w, K, mg, base, [((He.cT K fpD).2, lamQ)]⟩
    have cd : He.SaysD fa fn Z.K := c.t.d
    have L : LamK Z := hd_lam cd KX KG rfl (tab _ (List.mem_singleton.mpr rfl))
    exact fn_law (Z := Z) (k := 14) lwN [0, 1, 2, 3, 4, 5, 6, 7, 8, 9, 10, 11] lwG 11 FD fun X B scr => law_body (hd_top cd KX KG) (hd_ds cd KX KG) L (hd_kl cd) (hd_ki cd KX KG) (hd_xks cd KX KG) (hd_shp (Z := Z) c.t c.more KX KG) (hd_be cd KX KG) B scr
end BF
open PySem PySem.W PySem.Calls PyProof.Rows
theorem PySem.Challenge.cw_bridgefind_k61_whole_desk_and_shelf_holds : PySem.Challenge.rw_bridgefind_k61_whole_desk_and_shelf.Holds := by
  w_on; o_law
  refine HandSHeadRun.head_any (r := OpenLaw.row PySem.Challenge.rw_bridgefind_k61_whole_desk_and_shelf) (q := view (OpenLaw.row PySem.Challenge.rw_bridgefind_k61_whole_desk_and_shelf).prog [108]) (H := BF.hk) (ob := BF.ob) (M := 20000) (loose := BF.loose) (d := HandSHeadRun.topDef (OpenLaw.row PySem.Challenge.rw_bridgefind_k61_whole_desk_and_shelf).prog 108) (kwd := []) BF.ob_eq
    (by kernel_rfl) (fun s => by kernel_rfl) BF.run (by kernel_rfl) (by kernel_rfl) (by kernel_rfl) (by rfl) (by first | assumption | decide +kernel) (by decide +kernel) ⟨rfl, rfl, rfl, rfl, rfl, by decide +kernel⟩ ?hw ?hc
  case hw => w_witness2
  case hc =>
    refine LamX.walk_ofTsE (l := PySem.Challenge.rw_bridgefind_k61_whole_desk_and_shelf) (n := 63) (k := 15) (x := "_law_script") (CX := fun w => L2.CX PySem.Challenge.rw_bridgefind_k61_whole_desk_and_shelf.prog w) rfl (by decide) (by kernel_rfl) ⟨rfl, by decide, by decide⟩ ?F (fun _ _ _ _ _ ⟨_, _, _, _, _, _, _, _, _, _, _, _, z⟩ => z)
    intro w mg f h Y G hmg0
    obtain ⟨K, KX, c, nl⟩ := Y
    have hmg : mg ("law" : PySem.Str) = some (.ref f) := by
      have e : (HandSHeadRun.topDef (OpenLaw.row PySem.Challenge.rw_bridgefind_k61_whole_desk_and_shelf).prog 108).name = ("law" : PySem.Str) := by kernel_rfl
      rw [← e]
      exact hmg0
    obtain ⟨fd, cs, sp, h1, h2, h3, h4, h5, h6⟩ := BF.law_at (P := PySem.Challenge.rw_bridgefind_k61_whole_desk_and_shelf.prog) (w := w) KX G hmg c nl
    exact ⟨K, KX, fd, cs, sp, h1, h2, h3, h4, fun H a ns _ _ hH hS => h5 H a ns hH hS, h6⟩
