import PyProof.Rows.All
import Wide.All
import OpenK.AllK
import Wide.FinOn
import KE.KStateDown
import HandS.ForMost
import HandS.Exc
import HandS.ExcInit
import HandS.ExcField
import HandS.Defaults
import HandS.Head0
import HandS.Head1
import HandS.Head2
import HandS.HeadEnd
import HandS.HeadHook1
import HandS.HeadHook2
import HandS.Style
import HandS.TupAny
import HandS.IsInst
import HandS.Rev
import HandS.RevRange
import HandS.Zip
import HandS.Walk
import HandS.Wide
import KE.KTupSum
import KE.KIndexOf
import KE.GoesEnum
import KE.GoesMore
import HandS.ExcOwn
import HandS.TryMany
import HandS.TryOnly
import PyProof.ReprRoads
import PySem.Challenge.RW_unithouse_k63_whole_joined_roots
set_option Elab.async false
set_option linter.all false
set_option maxRecDepth 100000
set_option maxHeartbeats 0
/-! The text by names; the top's run in the kernel, and what it leaves: a part of the heap with the facts that the walk asks. -/
namespace JR
open PySem PySem.Spec PyProof.Rows L2
def topS (i : Nat) : Stmt := PySem.Challenge.pw_unithouse_k63_whole_joined_roots.main.body.getD i (.Pass ⟨0, 0, 0, 0⟩)
abbrev s_is_from : Stmt := topS 18
abbrev s_need_many : Stmt := topS 19
abbrev s_need_pair : Stmt := topS 20
abbrev s_part_places : Stmt := topS 21
abbrev s_walked : Stmt := topS 23
abbrev s_marks_of : Stmt := topS 24
abbrev s_width_of : Stmt := topS 25
abbrev s_choices : Stmt := topS 27
abbrev s_bare_size : Stmt := topS 28
abbrev s_size_of : Stmt := topS 29
abbrev s_need_sort : Stmt := topS 30
abbrev s_rising : Stmt := topS 45
abbrev s_all_like : Stmt := topS 47
abbrev s_member_like : Stmt := topS 48
abbrev s_is_member : Stmt := topS 49
abbrev s_need_member : Stmt := topS 50
abbrev s_in_stead : Stmt := topS 52
abbrev s_name_places : Stmt := topS 55
abbrev s_places : Stmt := topS 61
abbrev s_free_numbers : Stmt := topS 62
abbrev s_moved_readings : Stmt := topS 63
abbrev s_need_two : Stmt := topS 65
abbrev s_transfer : Stmt := topS 66
abbrev s_is_side : Stmt := topS 71
abbrev s_is_item : Stmt := topS 72
abbrev s_is_table_row : Stmt := topS 73
abbrev s_need_table : Stmt := topS 74
abbrev s_column_items : Stmt := topS 75
abbrev s_paired : Stmt := topS 76
abbrev s_sort_of : Stmt := topS 77
abbrev s_member_of : Stmt := topS 78
abbrev s_table_of : Stmt := topS 79
abbrev s_quarter_rows : Stmt := topS 80
abbrev s_quarter_rows_back : Stmt := topS 81
abbrev s_transposed_rows : Stmt := topS 82
abbrev s_crossed : Stmt := topS 83
abbrev s_crossed_back : Stmt := topS 84
abbrev s_moved_tables : Stmt := topS 85
abbrev s_way_up : Stmt := topS 88
abbrev s_up_names : Stmt := topS 89
abbrev s_up_columns : Stmt := topS 90
abbrev s_names_root : Stmt := topS 91
abbrev s_columns_root : Stmt := topS 92
abbrev s_joined_roots : Stmt := topS 93
abbrev s_law_mixed : Stmt := topS 95
abbrev s_law_begin : Stmt := topS 96
abbrev s_law_draw : Stmt := topS 97
abbrev s_law_of : Stmt := topS 98
abbrev s_law_like : Stmt := topS 99
abbrev s_law_spots : Stmt := topS 100
abbrev s_law_loose : Stmt := topS 101
abbrev s_law_moved : Stmt := topS 102
abbrev s_law_step : Stmt := topS 103
abbrev s_law_backs : Stmt := topS 104
abbrev s_law_end : Stmt := topS 105
abbrev s_law_table : Stmt := topS 106
abbrev s_law_fault : Stmt := topS 107
abbrev s_law_forth : Stmt := topS 108
abbrev s_law_sums : Stmt := topS 109
abbrev s_law_asked : Stmt := topS 110
abbrev s_law_due : Stmt := topS 111
abbrev s_law_right : Stmt := topS 112
abbrev s_law_odd : Stmt := topS 113
abbrev s_law : Stmt := topS 114
abbrev s_BadTable : Stmt := inClass (topS 9) 0
abbrev s_Unlike : Stmt := inClass (topS 10) 0
abbrev s_NoFree : Stmt := inClass (topS 8) 0
def d_is_from : He.DefD := ⟨("is_from", none), "is_from", "is_from", defArgs s_is_from, defBody s_is_from, defScope s_is_from, [], []⟩
def d_need_many : He.DefD := ⟨("need_many", none), "need_many", "need_many", defArgs s_need_many, defBody s_need_many, defScope s_need_many, [], []⟩
def d_need_pair : He.DefD := ⟨("need_pair", none), "need_pair", "need_pair", defArgs s_need_pair, defBody s_need_pair, defScope s_need_pair, [], []⟩
def d_part_places : He.DefD := ⟨("part_places", none), "part_places", "part_places", defArgs s_part_places, defBody s_part_places, defScope s_part_places, [], []⟩
def d_walked : He.DefD := ⟨("walked", none), "walked", "walked", defArgs s_walked, defBody s_walked, defScope s_walked, [], []⟩
def d_marks_of : He.DefD := ⟨("marks_of", none), "marks_of", "marks_of", defArgs s_marks_of, defBody s_marks_of, defScope s_marks_of, [], []⟩
def d_width_of : He.DefD := ⟨("width_of", none), "width_of", "width_of", defArgs s_width_of, defBody s_width_of, defScope s_width_of, [], []⟩
def d_choices : He.DefD := ⟨("choices", none), "choices", "choices", defArgs s_choices, defBody s_choices, defScope s_choices, [], []⟩
def d_bare_size : He.DefD := ⟨("bare_size", none), "bare_size", "bare_size", defArgs s_bare_size, defBody s_bare_size, defScope s_bare_size, [], []⟩
def d_size_of : He.DefD := ⟨("size_of", none), "size_of", "size_of", defArgs s_size_of, defBody s_size_of, defScope s_size_of, [], []⟩
def d_need_sort : He.DefD := ⟨("need_sort", none), "need_sort", "need_sort", defArgs s_need_sort, defBody s_need_sort, defScope s_need_sort, [], []⟩
def d_rising : He.DefD := ⟨("rising", none), "rising", "rising", defArgs s_rising, defBody s_rising, defScope s_rising, [], []⟩
def d_all_like : He.DefD := ⟨("all_like", none), "all_like", "all_like", defArgs s_all_like, defBody s_all_like, defScope s_all_like, [], []⟩
def d_member_like : He.DefD := ⟨("member_like", none), "member_like", "member_like", defArgs s_member_like, defBody s_member_like, defScope s_member_like, [], []⟩
def d_is_member : He.DefD := ⟨("is_member", none), "is_member", "is_member", defArgs s_is_member, defBody s_is_member, defScope s_is_member, [], []⟩
def d_need_member : He.DefD := ⟨("need_member", none), "need_member", "need_member", defArgs s_need_member, defBody s_need_member, defScope s_need_member, [], []⟩
def d_in_stead : He.DefD := ⟨("in_stead", none), "in_stead", "in_stead", defArgs s_in_stead, defBody s_in_stead, defScope s_in_stead, [], []⟩
def d_name_places : He.DefD := ⟨("name_places", none), "name_places", "name_places", defArgs s_name_places, defBody s_name_places, defScope s_name_places, [], []⟩
def d_places : He.DefD := ⟨("places", none), "places", "places", defArgs s_places, defBody s_places, defScope s_places, [], []⟩
def d_free_numbers : He.DefD := ⟨("free_numbers", none), "free_numbers", "free_numbers", defArgs s_free_numbers, defBody s_free_numbers, defScope s_free_numbers, [], []⟩
def d_moved_readings : He.DefD := ⟨("moved_readings", none), "moved", "moved", defArgs s_moved_readings, defBody s_moved_readings, defScope s_moved_readings, [], []⟩
def d_need_two : He.DefD := ⟨("need_two", none), "need_two", "need_two", defArgs s_need_two, defBody s_need_two, defScope s_need_two, [], []⟩
def d_transfer : He.DefD := ⟨("transfer", none), "transfer", "transfer", defArgs s_transfer, defBody s_transfer, defScope s_transfer, [], []⟩
def d_is_side : He.DefD := ⟨("is_side", none), "is_side", "is_side", defArgs s_is_side, defBody s_is_side, defScope s_is_side, [], []⟩
def d_is_item : He.DefD := ⟨("is_item", none), "is_item", "is_item", defArgs s_is_item, defBody s_is_item, defScope s_is_item, [], []⟩
def d_is_table_row : He.DefD := ⟨("is_table_row", none), "is_table_row", "is_table_row", defArgs s_is_table_row, defBody s_is_table_row, defScope s_is_table_row, [], []⟩
def d_need_table : He.DefD := ⟨("need_table", none), "need_table", "need_table", defArgs s_need_table, defBody s_need_table, defScope s_need_table, [], []⟩
def d_column_items : He.DefD := ⟨("column_items", none), "column_items", "column_items", defArgs s_column_items, defBody s_column_items, defScope s_column_items, [], []⟩
def d_paired : He.DefD := ⟨("paired", none), "paired", "paired", defArgs s_paired, defBody s_paired, defScope s_paired, [], []⟩
def d_sort_of : He.DefD := ⟨("sort_of", none), "sort_of", "sort_of", defArgs s_sort_of, defBody s_sort_of, defScope s_sort_of, [], []⟩
def d_member_of : He.DefD := ⟨("member_of", none), "member_of", "member_of", defArgs s_member_of, defBody s_member_of, defScope s_member_of, [], []⟩
def d_table_of : He.DefD := ⟨("table_of", none), "table_of", "table_of", defArgs s_table_of, defBody s_table_of, defScope s_table_of, [], []⟩
def d_quarter_rows : He.DefD := ⟨("quarter_rows", none), "quarter_rows", "quarter_rows", defArgs s_quarter_rows, defBody s_quarter_rows, defScope s_quarter_rows, [], []⟩
def d_quarter_rows_back : He.DefD := ⟨("quarter_rows_back", none), "quarter_rows_back", "quarter_rows_back", defArgs s_quarter_rows_back, defBody s_quarter_rows_back, defScope s_quarter_rows_back, [], []⟩
def d_transposed_rows : He.DefD := ⟨("transposed_rows", none), "transposed_rows", "transposed_rows", defArgs s_transposed_rows, defBody s_transposed_rows, defScope s_transposed_rows, [], []⟩
def d_crossed : He.DefD := ⟨("crossed", none), "crossed", "crossed", defArgs s_crossed, defBody s_crossed, defScope s_crossed, [], []⟩
def d_crossed_back : He.DefD := ⟨("crossed_back", none), "crossed_back", "crossed_back", defArgs s_crossed_back, defBody s_crossed_back, defScope s_crossed_back, [], []⟩
def d_moved_tables : He.DefD := ⟨("moved_tables", none), "moved", "moved", defArgs s_moved_tables, defBody s_moved_tables, defScope s_moved_tables, [], []⟩
def d_way_up : He.DefD := ⟨("way_up", none), "way_up", "way_up", defArgs s_way_up, defBody s_way_up, defScope s_way_up, [], []⟩
def d_up_names : He.DefD := ⟨("up_names", none), "up_names", "up_names", defArgs s_up_names, defBody s_up_names, defScope s_up_names, [], []⟩
def d_up_columns : He.DefD := ⟨("up_columns", none), "up_columns", "up_columns", defArgs s_up_columns, defBody s_up_columns, defScope s_up_columns, [], []⟩
def d_names_root : He.DefD := ⟨("names_root", none), "names_root", "names_root", defArgs s_names_root, defBody s_names_root, defScope s_names_root, [], []⟩
def d_columns_root : He.DefD := ⟨("columns_root", none), "columns_root", "columns_root", defArgs s_columns_root, defBody s_columns_root, defScope s_columns_root, [], []⟩
def d_joined_roots : He.DefD := ⟨("joined_roots", none), "joined_roots", "joined_roots", defArgs s_joined_roots, defBody s_joined_roots, defScope s_joined_roots, [], []⟩
def d_law_mixed : He.DefD := ⟨("_law_mixed", none), "_law_mixed", "_law_mixed", defArgs s_law_mixed, defBody s_law_mixed, defScope s_law_mixed, [], []⟩
def d_law_begin : He.DefD := ⟨("_law_begin", none), "_law_begin", "_law_begin", defArgs s_law_begin, defBody s_law_begin, defScope s_law_begin, [], []⟩
def d_law_draw : He.DefD := ⟨("_law_draw", none), "_law_draw", "_law_draw", defArgs s_law_draw, defBody s_law_draw, defScope s_law_draw, [], []⟩
def d_law_of : He.DefD := ⟨("_law_of", none), "_law_of", "_law_of", defArgs s_law_of, defBody s_law_of, defScope s_law_of, [], []⟩
def d_law_like : He.DefD := ⟨("_law_like", none), "_law_like", "_law_like", defArgs s_law_like, defBody s_law_like, defScope s_law_like, [], []⟩
def d_law_spots : He.DefD := ⟨("_law_spots", none), "_law_spots", "_law_spots", defArgs s_law_spots, defBody s_law_spots, defScope s_law_spots, [], []⟩
def d_law_loose : He.DefD := ⟨("_law_loose", none), "_law_loose", "_law_loose", defArgs s_law_loose, defBody s_law_loose, defScope s_law_loose, [], []⟩
def d_law_moved : He.DefD := ⟨("_law_moved", none), "_law_moved", "_law_moved", defArgs s_law_moved, defBody s_law_moved, defScope s_law_moved, [], []⟩
def d_law_step : He.DefD := ⟨("_law_step", none), "_law_step", "_law_step", defArgs s_law_step, defBody s_law_step, defScope s_law_step, [], []⟩
def d_law_backs : He.DefD := ⟨("_law_backs", none), "_law_backs", "_law_backs", defArgs s_law_backs, defBody s_law_backs, defScope s_law_backs, [], []⟩
def d_law_end : He.DefD := ⟨("_law_end", none), "_law_end", "_law_end", defArgs s_law_end, defBody s_law_end, defScope s_law_end, [], []⟩
def d_law_table : He.DefD := ⟨("_law_table", none), "_law_table", "_law_table", defArgs s_law_table, defBody s_law_table, defScope s_law_table, [], []⟩
def d_law_fault : He.DefD := ⟨("_law_fault", none), "_law_fault", "_law_fault", defArgs s_law_fault, defBody s_law_fault, defScope s_law_fault, [], []⟩
def d_law_forth : He.DefD := ⟨("_law_forth", none), "_law_forth", "_law_forth", defArgs s_law_forth, defBody s_law_forth, defScope s_law_forth, [], []⟩
def d_law_sums : He.DefD := ⟨("_law_sums", none), "_law_sums", "_law_sums", defArgs s_law_sums, defBody s_law_sums, defScope s_law_sums, [], []⟩
def d_law_asked : He.DefD := ⟨("_law_asked", none), "_law_asked", "_law_asked", defArgs s_law_asked, defBody s_law_asked, defScope s_law_asked, [], []⟩
def d_law_due : He.DefD := ⟨("_law_due", none), "_law_due", "_law_due", defArgs s_law_due, defBody s_law_due, defScope s_law_due, [], []⟩
def d_law_right : He.DefD := ⟨("_law_right", none), "_law_right", "_law_right", defArgs s_law_right, defBody s_law_right, defScope s_law_right, [], []⟩
def d_law_odd : He.DefD := ⟨("_law_odd", none), "_law_odd", "_law_odd", defArgs s_law_odd, defBody s_law_odd, defScope s_law_odd, [], []⟩
def d_law : He.DefD := ⟨("law", none), "law", "law", defArgs s_law, defBody s_law, defScope s_law, [], []⟩
def d_BadTable : He.DefD := ⟨("BadTable", some "__init__"), "__init__", "BadTable.__init__", defArgs s_BadTable, defBody s_BadTable, defScope s_BadTable, [], []⟩
def d_Unlike : He.DefD := ⟨("Unlike", some "__init__"), "__init__", "Unlike.__init__", defArgs s_Unlike, defBody s_Unlike, defScope s_Unlike, [], []⟩
def d_NoFree : He.DefD := ⟨("NoFree", some "__init__"), "__init__", "NoFree.__init__", defArgs s_NoFree, defBody s_NoFree, defScope s_NoFree, [], []⟩
def fn : List He.DefD := [d_is_from, d_need_many, d_need_pair, d_part_places, d_walked, d_marks_of, d_width_of, d_choices, d_bare_size, d_size_of, d_need_sort, d_rising, d_all_like, d_member_like, d_is_member, d_need_member, d_in_stead, d_name_places, d_places, d_free_numbers, d_moved_readings, d_need_two, d_transfer, d_is_side, d_is_item, d_is_table_row, d_need_table, d_column_items, d_paired, d_sort_of, d_member_of, d_table_of, d_quarter_rows, d_quarter_rows_back, d_transposed_rows, d_crossed, d_crossed_back, d_moved_tables, d_way_up, d_up_names, d_up_columns, d_names_root, d_columns_root, d_joined_roots, d_law_mixed, d_law_begin, d_law_draw, d_law_of, d_law_like, d_law_spots, d_law_loose, d_law_moved, d_law_step, d_law_backs, d_law_end, d_law_table, d_law_fault, d_law_forth, d_law_sums, d_law_asked, d_law_due, d_law_right, d_law_odd, d_law, d_BadTable, d_Unlike, d_NoFree]
def fa : List He.Fa := [.glo "is_from", .glo "need_many", .glo "need_pair", .glo "part_places", .glo "walked", .glo "marks_of", .glo "width_of", .glo "choices", .glo "bare_size", .glo "size_of", .glo "need_sort", .glo "rising", .glo "all_like", .glo "member_like", .glo "is_member", .glo "need_member", .glo "in_stead", .glo "name_places", .glo "places", .glo "free_numbers", .glo "moved_readings", .glo "need_two", .glo "transfer", .glo "is_side", .glo "is_item", .glo "is_table_row", .glo "need_table", .glo "column_items", .glo "paired", .glo "sort_of", .glo "member_of", .glo "table_of", .glo "quarter_rows", .glo "quarter_rows_back", .glo "transposed_rows", .glo "crossed", .glo "crossed_back", .glo "moved_tables", .glo "way_up", .glo "up_names", .glo "up_columns", .glo "names_root", .glo "columns_root", .glo "joined_roots", .glo "_law_mixed", .glo "_law_begin", .glo "_law_draw", .glo "_law_of", .glo "_law_like", .glo "_law_spots", .glo "_law_loose", .glo "_law_moved", .glo "_law_step", .glo "_law_backs", .glo "_law_end", .glo "_law_table", .glo "_law_fault", .glo "_law_forth", .glo "_law_sums", .glo "_law_asked", .glo "_law_due", .glo "_law_right", .glo "_law_odd", .glo "law", .glo "BadTable", .glo "Unlike", .glo "NoFree", .glo "TooGreat", .glo "UnitError", .free "len", .free "range", .free "isinstance", .free "tuple", .free "list", .free "int", .free "bool", .free "str", .free "min", .free "max", .free "sum", .free "sorted", .free "zip", .free "enumerate", .free "reversed", .free "repr", .free "ValueError", .int "MOST_DEEP" 10, .int "MOST_PARTS" 60, .int "MOST_MARKS_sorts" 12, .int "MOST_WIDTH" 40, .int "MOST_MEMBERS" 1000000000000000000000000000000, .int "MOST_NUMBER" 12, .int "LEAST_SIDE" 2, .int "MOST_SIDE" 5, .int "MOST_MARKS_tables" 12, .exm "BadTable" "BadTable" true, .exm "Unlike" "BadTable" false, .exm "Unlike" "TooGreat" false, .exm "Unlike" "Unlike" true, .exm "NoFree" "NoFree" true]
def names0 : List Str := [("UnitError" : Str), ("BadMany" : Str), ("BadSort" : Str), ("TooGreat" : Str), ("BadMember" : Str), ("BadName" : Str), ("SameName" : Str), ("NoFree" : Str), ("BadTable" : Str), ("Unlike" : Str), ("MOST_DEEP" : Str), ("MOST_PARTS" : Str), ("MOST_MARKS_sorts" : Str), ("MOST_WIDTH" : Str), ("MOST_MEMBERS" : Str)]
def names1 : List Str := [("MOST_NUMBER" : Str), ("is_from" : Str), ("need_many" : Str), ("need_pair" : Str), ("part_places" : Str), ("single" : Str), ("walked" : Str), ("marks_of" : Str), ("width_of" : Str), ("power" : Str), ("choices" : Str), ("bare_size" : Str), ("size_of" : Str), ("need_sort" : Str), ("hang_together" : Str)]
def names2 : List Str := [("tree_like" : Str), ("rooted_like" : Str), ("letters_of" : Str), ("tree_from" : Str), ("need_code" : Str), ("tree_code" : Str), ("coded_tree" : Str), ("rooted_code" : Str), ("rooted_from" : Str), ("coded_rooted" : Str), ("meetings" : Str), ("rising" : Str), ("rounds_like" : Str), ("all_like" : Str), ("member_like" : Str)]
def names3 : List Str := [("is_member" : Str), ("need_member" : Str), ("in_stead" : Str), ("chosen" : Str), ("partners" : Str), ("name_places" : Str), ("lot_places" : Str), ("meeting_number" : Str), ("with_winner" : Str), ("round_places" : Str), ("tree_places" : Str), ("places" : Str), ("free_numbers" : Str), ("moved" : Str), ("moved_readings" : Str)]
def names4 : List Str := [("need_two" : Str), ("transfer" : Str), ("LEAST_SIDE" : Str), ("MOST_SIDE" : Str), ("MOST_MARKS_tables" : Str), ("is_side" : Str), ("is_item" : Str), ("is_table_row" : Str), ("need_table" : Str), ("column_items" : Str), ("paired" : Str), ("sort_of" : Str), ("member_of" : Str), ("table_of" : Str), ("quarter_rows" : Str)]
def names5 : List Str := [("quarter_rows_back" : Str), ("transposed_rows" : Str), ("crossed" : Str), ("crossed_back" : Str), ("moved_tables" : Str), ("way_up" : Str), ("up_names" : Str), ("up_columns" : Str), ("names_root" : Str), ("columns_root" : Str), ("joined_roots" : Str), ("_law_mixed" : Str), ("_law_begin" : Str), ("_law_draw" : Str), ("_law_of" : Str)]
def names6 : List Str := [("_law_like" : Str), ("_law_spots" : Str), ("_law_loose" : Str), ("_law_moved" : Str), ("_law_step" : Str), ("_law_backs" : Str), ("_law_end" : Str), ("_law_table" : Str), ("_law_fault" : Str), ("_law_forth" : Str), ("_law_sums" : Str), ("_law_asked" : Str), ("_law_due" : Str), ("_law_right" : Str), ("_law_odd" : Str)]
def names : List Str := names0 ++ names1 ++ names2 ++ names3 ++ names4 ++ names5 ++ names6
def selF0 : List Str := [("is_from" : Str), ("need_many" : Str), ("need_pair" : Str), ("part_places" : Str), ("walked" : Str), ("marks_of" : Str), ("width_of" : Str), ("choices" : Str), ("bare_size" : Str), ("size_of" : Str), ("need_sort" : Str), ("rising" : Str), ("all_like" : Str), ("member_like" : Str), ("is_member" : Str)]
def selF1 : List Str := [("need_member" : Str), ("in_stead" : Str), ("name_places" : Str), ("places" : Str), ("free_numbers" : Str), ("moved_readings" : Str), ("need_two" : Str), ("transfer" : Str), ("is_side" : Str), ("is_item" : Str), ("is_table_row" : Str), ("need_table" : Str), ("column_items" : Str), ("paired" : Str), ("sort_of" : Str)]
def selF2 : List Str := [("member_of" : Str), ("table_of" : Str), ("quarter_rows" : Str), ("quarter_rows_back" : Str), ("transposed_rows" : Str), ("crossed" : Str), ("crossed_back" : Str), ("moved_tables" : Str), ("way_up" : Str), ("up_names" : Str), ("up_columns" : Str), ("names_root" : Str), ("columns_root" : Str), ("joined_roots" : Str), ("_law_mixed" : Str)]
def selF3 : List Str := [("_law_begin" : Str), ("_law_draw" : Str), ("_law_of" : Str), ("_law_like" : Str), ("_law_spots" : Str), ("_law_loose" : Str), ("_law_moved" : Str), ("_law_step" : Str), ("_law_backs" : Str), ("_law_end" : Str), ("_law_table" : Str), ("_law_fault" : Str), ("_law_forth" : Str), ("_law_sums" : Str), ("_law_asked" : Str)]
def selF4 : List Str := [("_law_due" : Str), ("_law_right" : Str), ("_law_odd" : Str), ("law" : Str)]
def selF : List Str := selF0 ++ selF1 ++ selF2 ++ selF3 ++ selF4
def selC : List Str := [("UnitError" : Str), ("TooGreat" : Str), ("BadTable" : Str), ("Unlike" : Str), ("NoFree" : Str)]
/-! ### the part of the heap that the facts speak of -/
def lvl (g : Addr → Option Obj) (l : List Addr) : List Addr := l.flatMap fun a => match g a with
  | some o => He.refsO o
  | none => []
def nsOf (g : Addr → Option Obj) (C : Addr) : Addr := match g C with
  | some ⟨_, _, .cls cd, _⟩ => cd.ns
  | _ => 0
def frList {β : Type} : List Nat → (List Nat → β) → β
  | [], k => k []
  | a :: r, k => HandSHeadRun.frNat a fun a => frList r fun r => k (a :: r)
theorem frList_eq {β : Type} : ∀ (l : List Nat) (k : List Nat → β), frList l k = k l
  | [], _ => rfl
  | a :: r, k => by
    show HandSHeadRun.frNat a (fun a => frList r fun r => k (a :: r)) = _
    rw [HandSHeadRun.frNat_eq, frList_eq r]
def mkFrag {β : Type} (g : Addr → Option Obj) : List Addr → (PySem.W.Frag → β) → β
  | [], k => k []
  | a :: r, k => match g a with
    | some o => mkFrag g r fun K => k ((a, o) :: K)
    | none => mkFrag g r k
theorem mkFrag_eq {β : Type} (g : Addr → Option Obj) : ∀ (l : List Addr) (k : PySem.W.Frag → β), mkFrag g l k = k (He.frG g l)
  | [], _ => rfl
  | a :: r, k => by
    unfold mkFrag He.frG
    cases e : g a with
    | none =>
      rw [List.filterMap_cons, e]
      exact mkFrag_eq g r k
    | some o =>
      rw [List.filterMap_cons, e]
      exact mkFrag_eq g r _
def sel0 (g : Addr → Option Obj) (K0 : PySem.W.Frag) : List Addr :=
  let fs := selF.map (He.ga K0)
  let cs := selC.map (He.ga K0)
  let nss := cs.map (nsOf g)
  let ins := lvl g nss
  mainGlobals :: cStatics :: (fs ++ (cs ++ (nss ++ (ins ++ lvl g (fs ++ ins)))))
def sel (g : Addr → Option Obj) : List Addr := sel0 g (He.frG g [mainGlobals])
/-! ### what is asked of the error classes besides -/
def oexB (K : PySem.W.Frag) (C : Addr) : Bool := match K.lookup C with
  | some ⟨.type "type", _, .cls cd, sl⟩ => (match cd.mro, sl.toList with
    | .ref C' :: bm, [_, _, _, _, some (.builtin n), _] => C' == C && (n == "ValueError.__new__" && (!cd.hasDel && (cd.hasDict && PySem.HandSPX.refsVE bm)))
    | _, _ => false)
  | _ => false
def errB (K : PySem.W.Frag) (x : Str) : Bool :=
  oexB K (He.ga K x) && (decide (PySem.W.findIn K (.ref (He.ga K x)) "__setattr__" = some (some (.builtin "object.__setattr__"))) && (xfB K (He.ga K x) && (decide (PySem.W.typeIn K (.ref (He.ga K x)) = some (.type "type")) && (PySem.W.keepIn K (.ref (He.ga K x)) &&
    (decide (PySem.W.findIn K (.ref (He.ga K x)) "__init__" = some (some (.ref (He.ma K (He.ga K x) "__init__")))) && decide (PySem.W.typeIn K (.ref (He.ma K (He.ga K x) "__init__")) = some (.type "function")))))))
def noB (K : PySem.W.Frag) (x f : Str) : Bool := decide (PySem.W.findIn K (.ref (He.ga K x)) f = some none)
def unitB (K : PySem.W.Frag) : Bool := PySem.W.readsIn K (He.ga K "UnitError") (.type "type") && (decide (PySem.W.specialIn K (.ref (He.ga K "UnitError")) "__getattribute__" = some (some (.builtin "type.__getattribute__"))) &&
  (match PySem.W.findCls K (.ref (He.ga K "UnitError")) (.type "type") "__init__" with
  | some (.val (.builtin n)) => n == "ValueError.__init__"
  | _ => false))
def exB (K : PySem.W.Frag) : Bool := errB K "BadTable" && (errB K "Unlike" && (errB K "NoFree" && (noB K "BadTable" "value" && (noB K "Unlike" "content" && (noB K "NoFree" "giver" && (noB K "NoFree" "taker" && unitB K))))))
/-! ### the Hook -/
abbrev AlJ : Type := He.AlD × Bool
def obsJ (g : Addr → Option Obj) : AlJ := (He.obsD fa fn (He.frG g (sel g)), exB (He.frG g (sel g)))
def obJ (g : Addr → Option Obj) : AlJ := mkFrag g [mainGlobals] fun K0 => frList (sel0 g K0) fun l => mkFrag g l fun K => (He.obsD fa fn K, exB K)
theorem obJ_eq (g : Addr → Option Obj) : obJ g = obsJ g := by
  unfold obJ
  rw [mkFrag_eq, frList_eq, mkFrag_eq]
  rfl
abbrev hk : PySem.W.Hook where
  α := AlJ
  obs := fun s => obsJ s.heap.get?
  val := fun _ => (He.valD fn, true)
  says := fun _ h => ∃ K : PySem.W.Frag, K.In h ∧ He.SaysD fa fn K ∧ exB K = true
  of := fun _ _ e => ⟨_, He.frG_in, congrArg (fun z : AlJ => z.1) e, congrArg (fun z : AlJ => z.2) e⟩
  keeps := fun _ _ _ ⟨K, hK, c⟩ k => ⟨K, PySem.W.Frag.In.keeps hK k, c⟩
abbrev R : PySem.W.OpenRow := PySem.W.OpenLaw.row PySem.Challenge.rw_unithouse_k63_whole_joined_roots
def ob (s : PySem.W.SharedT) : AlJ := obJ (HandSHeadRun.getT s)
theorem ob_eq (s : PySem.W.SharedT) : ob s = hk.obs s.abs := by
  unfold ob
  rw [obJ_eq, show HandSHeadRun.getT s = s.abs.heap.get? from funext (HandSHeadRun.getT_eq s)]
theorem run (w : World) : HandSHeadRun.RunEq R (PySem.W.view R.prog [114]) hk ob 20000 names w := by
  intro os
  kernel_rfl
end JR
set_option Elab.async false
set_option linter.all false
set_option maxRecDepth 100000
set_option maxHeartbeats 0
/-! The head's end: what is left of the law is the walk. -/
namespace JR
open PySem PySem.W PySem.Calls PyProof.Rows
abbrev vwL : PySem.Program := view (OpenLaw.row PySem.Challenge.rw_unithouse_k63_whole_joined_roots).prog [114]
abbrev dfL := HandSHeadRun.topDef (OpenLaw.row PySem.Challenge.rw_unithouse_k63_whole_joined_roots).prog 114
theorem head_end (hc : WalkO vwL JR.names (XL vwL []) JR.hk.says (OpenLaw.row PySem.Challenge.rw_unithouse_k63_whole_joined_roots).toRowW dfL [] fun f vs => call f vs) : PySem.Challenge.rw_unithouse_k63_whole_joined_roots.Holds := by
  w_on; o_law
  refine HandSHeadRun.head_any (r := OpenLaw.row PySem.Challenge.rw_unithouse_k63_whole_joined_roots) (q := vwL) (H := JR.hk) (ob := JR.ob) (M := 20000) (loose := JR.names) (d := dfL) (kwd := []) JR.ob_eq
    (by kernel_rfl) (fun s => by kernel_rfl) JR.run (by kernel_rfl) (by kernel_rfl) (by kernel_rfl) (by rfl) (by first | assumption | decide +kernel) (by decide +kernel) ⟨rfl, rfl, rfl, rfl, rfl, by decide +kernel⟩ ?hw hc
  case hw => w_witness2
theorem name_law : dfL.name = ("law" : PySem.Str) := by kernel_rfl
theorem dflt_law : dfL.params.defaults = [] := by kernel_rfl
end JR
set_option Elab.async false
set_option linter.all false
set_option maxRecDepth 100000
set_option maxHeartbeats 2000000
/-! Readings over data: what a reading gives, told of the data in the slots alone, the heap out of sight. -/
namespace JR
open PySem PySem.Spec L2

/-! ### data at values -/
/-- a tuple, known to its object, which has no dict -/
def TupF (F : Hp) (a : Addr) (xs : List V) : Prop := ∃ o : Obj, o.dict = none ∧ F a = some (.frz o (.tup xs))
theorem TupF.mono {F F' : Hp} {a : Addr} {xs : List V} (h : TupF F a xs) (e : Same F F') : TupF F' a xs := by
  obtain ⟨o, h1, h2⟩ := h
  exact ⟨o, h1, e _ _ h2⟩
theorem TupF.sq {K : PySem.W.Frag} {F H : Hp} {a : Addr} {xs : List V} (h : TupF F a xs) (e : Same F H) : SqT K H a xs := by
  obtain ⟨o, _, h2⟩ := h
  exact .inl (.inr ⟨o, e _ _ h2⟩)
mutual
inductive Da (F : Hp) : V → PyData → Prop
  | non : Da F .non .none
  | bl (b : Bool) : Da F (.bl b) (.bool b)
  | int (i : Int) : Da F (.int i) (.int i)
  | str (x : Str) : Da F (.str x) (.str x)
  | lst {a : Addr} {xs : List V} {ds : List PyData} : F a = some (.lst xs) → DaAll F xs ds → Da F (.ref a) (.list ds)
  | tup {a : Addr} {xs : List V} {ds : List PyData} : TupF F a xs → DaAll F xs ds → Da F (.ref a) (.tuple ds)
inductive DaAll (F : Hp) : List V → List PyData → Prop
  | nil : DaAll F [] []
  | cons {v : V} {vs : List V} {d : PyData} {ds : List PyData} : Da F v d → DaAll F vs ds → DaAll F (v :: vs) (d :: ds)
end
mutual
theorem Da.mono {F F' : Hp} (e : Same F F') : ∀ {d : PyData} {v : V}, Da F v d → Da F' v d
  | _, _, .non => .non
  | _, _, .bl b => .bl b
  | _, _, .int i => .int i
  | _, _, .str x => .str x
  | _, _, .lst h r => .lst (e _ _ h) (DaAll.mono e r)
  | _, _, .tup h r => .tup (h.mono e) (DaAll.mono e r)
theorem DaAll.mono {F F' : Hp} (e : Same F F') : ∀ {ds : List PyData} {vs : List V}, DaAll F vs ds → DaAll F' vs ds
  | _, _, .nil => .nil
  | _, _, .cons h r => .cons (Da.mono e h) (DaAll.mono e r)
end
section
variable {F : Hp} {v : V} {vs ws : List V} {d : PyData} {ds es : List PyData}
theorem Da.non_inv (h : Da F v .none) : v = .non := by cases h; rfl
theorem Da.bl_inv {b : Bool} (h : Da F v (.bool b)) : v = .bl b := by cases h; rfl
theorem Da.int_inv {i : Int} (h : Da F v (.int i)) : v = .int i := by cases h; rfl
theorem Da.str_inv {x : Str} (h : Da F v (.str x)) : v = .str x := by cases h; rfl
theorem Da.lst_inv (h : Da F v (.list ds)) : ∃ a xs, v = .ref a ∧ F a = some (.lst xs) ∧ DaAll F xs ds := by
  cases h with
  | lst h r => exact ⟨_, _, rfl, h, r⟩
theorem Da.tup_inv (h : Da F v (.tuple ds)) : ∃ a xs, v = .ref a ∧ TupF F a xs ∧ DaAll F xs ds := by
  cases h with
  | tup h r => exact ⟨_, _, rfl, h, r⟩
theorem DaAll.length : ∀ {ds : List PyData} {vs : List V}, DaAll F vs ds → vs.length = ds.length
  | _, _, .nil => rfl
  | _, _, .cons _ r => congrArg Nat.succ (DaAll.length r)
theorem DaAll.get : ∀ {ds : List PyData} {vs : List V} {i : Nat} {d : PyData}, DaAll F vs ds → ds[i]? = some d → ∃ v, vs[i]? = some v ∧ Da F v d
  | _, _, _, _, .nil, e => by simp at e
  | _, _, 0, _, .cons h r, e => by
    simp at e
    exact ⟨_, rfl, by rw [← e]; exact h⟩
  | _, _, i + 1, _, .cons h r, e => by
    obtain ⟨v, h1, h2⟩ := DaAll.get (i := i) r (by simpa using e)
    exact ⟨v, by simpa using h1, h2⟩
theorem DaAll.got : ∀ {ds : List PyData} {vs : List V} {i : Nat} {v : V}, DaAll F vs ds → vs[i]? = some v → ∃ d, ds[i]? = some d ∧ Da F v d
  | _, _, _, _, .nil, e => by simp at e
  | _, _, 0, _, .cons h r, e => by
    simp at e
    exact ⟨_, rfl, by rw [← e]; exact h⟩
  | _, _, i + 1, _, .cons h r, e => by
    obtain ⟨v, h1, h2⟩ := DaAll.got (i := i) r (by simpa using e)
    exact ⟨v, by simpa using h1, h2⟩
theorem DaAll.append : ∀ {ds es : List PyData} {vs ws : List V}, DaAll F vs ds → DaAll F ws es → DaAll F (vs ++ ws) (ds ++ es)
  | _, _, _, _, .nil, k => k
  | _, _, _, _, .cons h r, k => .cons h (DaAll.append r k)
theorem DaAll.one (h : Da F v d) : DaAll F [v] [d] := .cons h .nil
theorem DaAll.take : ∀ (n : Nat) {ds : List PyData} {vs : List V}, DaAll F vs ds → DaAll F (vs.take n) (ds.take n)
  | 0, _, _, _ => by rw [List.take_zero, List.take_zero]; exact .nil
  | _ + 1, _, _, .nil => by rw [List.take_nil, List.take_nil]; exact .nil
  | n + 1, _, _, .cons h r => .cons h (DaAll.take n r)
theorem DaAll.drop : ∀ (n : Nat) {ds : List PyData} {vs : List V}, DaAll F vs ds → DaAll F (vs.drop n) (ds.drop n)
  | 0, _, _, h => h
  | _ + 1, _, _, .nil => by rw [List.drop_nil, List.drop_nil]; exact .nil
  | n + 1, _, _, .cons h r => DaAll.drop n r
theorem DaAll.reverse (h : DaAll F vs ds) : DaAll F vs.reverse ds.reverse := by
  induction vs generalizing ds with
  | nil => cases h; exact .nil
  | cons v vs ih =>
    cases h with
    | cons h r =>
      rw [List.reverse_cons, List.reverse_cons]
      exact (ih r).append (.one h)
theorem DaAll.set (h : Da F v d) : ∀ {ds : List PyData} {vs : List V} (i : Nat), DaAll F vs ds → DaAll F (vs.set i v) (ds.set i d)
  | _, _, _, .nil => .nil
  | _, _, 0, .cons _ r => .cons h r
  | _, _, i + 1, .cons k r => .cons k (DaAll.set h i r)
theorem DaAll.flat (h : DaAll F vs ds) (n : Nat) : DaAll F (List.replicate n vs).flatten (List.replicate n ds).flatten := by
  induction n with
  | zero => exact .nil
  | succ n ih =>
    rw [List.replicate_succ, List.replicate_succ, List.flatten_cons, List.flatten_cons]
    exact h.append ih
theorem DaAll.dropLast (h : DaAll F vs ds) : DaAll F vs.dropLast ds.dropLast := by
  have e := h.length
  rw [List.dropLast_eq_take, List.dropLast_eq_take, e]
  exact h.take _
theorem DaAll.ints : ∀ {ns : List Int} {vs : List V}, DaAll F vs (ns.map PyData.int) → vs = ns.map V.int
  | [], _, h => by cases h; rfl
  | n :: ns, _, h => by
    cases h with
    | cons h r =>
      rw [h.int_inv, DaAll.ints r]; rfl
theorem DaAll.of_ints : ∀ (ns : List Int), DaAll F (ns.map V.int) (ns.map PyData.int)
  | [] => .nil
  | n :: ns => .cons (.int n) (DaAll.of_ints ns)
theorem DaAll.strs : ∀ {ns : List Str} {vs : List V}, DaAll F vs (ns.map PyData.str) → vs = ns.map V.str
  | [], _, h => by cases h; rfl
  | n :: ns, _, h => by
    cases h with
    | cons h r =>
      rw [h.str_inv, DaAll.strs r]; rfl
theorem DaAll.of_strs : ∀ (ns : List Str), DaAll F (ns.map V.str) (ns.map PyData.str)
  | [] => .nil
  | n :: ns => .cons (.str n) (DaAll.of_strs ns)
end
mutual
theorem Da.dp {K : PySem.W.Frag} {F H : Hp} (e : Same F H) : ∀ {d : PyData} {v : V}, Da F v d → Dp K H v d
  | _, _, .non => .non
  | _, _, .bl b => .bl b
  | _, _, .int i => .int i
  | _, _, .str x => .str x
  | _, _, .lst h r => .lst (.inl (.inl (e _ _ h))) (DaAll.dp e r)
  | _, _, .tup h r => .tup (h.sq e) (DaAll.dp e r)
theorem DaAll.dp {K : PySem.W.Frag} {F H : Hp} (e : Same F H) : ∀ {ds : List PyData} {vs : List V}, DaAll F vs ds → DpAll K H vs ds
  | _, _, .nil => .nil
  | _, _, .cons h r => .cons (Da.dp e h) (DaAll.dp e r)
end

/-! ### the heap in two parts: F, what never changes; the rest -/
/-- the state's addresses -/
abbrev SA := Option (Addr × Addr)
def inS (S : SA) (b : Addr) : Prop := match S with
  | none => False
  | some p => b = p.1 ∨ b = p.2
theorem not_inS_none (b : Addr) : ¬ inS none b := fun h => h
structure Ext (S : SA) (F H F' H' : Hp) : Prop where
  ff : Same F F'
  fh : Same F' H'
  hh : ∀ b o, ¬ inS S b → H b = some o → H' b = some o
  nw : ∀ b, H b ≠ none → F b = none → F' b = none
theorem Ext.refl {S : SA} {F H : Hp} (h : Same F H) : Ext S F H F H := ⟨Same.refl F, h, fun _ _ _ e => e, fun _ _ e => e⟩
theorem Ext.trans {S : SA} {F H F1 H1 F2 H2 : Hp} (a : Ext S F H F1 H1) (b : Ext S F1 H1 F2 H2) (hS : ∀ b, inS S b → H b ≠ none → H1 b ≠ none) : Ext S F H F2 H2 :=
  ⟨a.ff.trans b.ff, b.fh, fun c o n e => b.hh c o n (a.hh c o n e), fun c n e => b.nw c (by
    by_cases q : inS S c
    · exact hS c q n
    · cases r : H c with
      | none => exact absurd r n
      | some o => rw [a.hh c o q r]; exact fun z => by cases z) (a.nw c n e)⟩
theorem Ext.transP {F H F1 H1 F2 H2 : Hp} (a : Ext none F H F1 H1) (b : Ext none F1 H1 F2 H2) : Ext none F H F2 H2 := a.trans b fun _ h => h.elim
theorem Ext.pure {S : SA} {F H F' H' : Hp} (a : Ext none F H F' H') : Ext S F H F' H' := ⟨a.ff, a.fh, fun b o _ e => a.hh b o (not_inS_none b) e, a.nw⟩
/-- a new object that never changes -/
theorem Ext.new {F H : Hp} {p : Addr} {o : HO} (h : Same F H) (n : H p = none) : Ext none F H (upd F p o) (upd H p o) where
  ff := fun b u e => by
    rw [upd_ne (ne_of_none (h _ _ e) n)]; exact e
  fh := fun b u e => by
    by_cases q : b = p
    · subst q
      rw [upd_same] at e ⊢; exact e
    · rw [upd_ne q] at e ⊢
      exact h _ _ e
  hh := fun b u _ e => by
    rw [upd_ne (ne_of_none e n)]; exact e
  nw := fun b k e => by
    have q : b ≠ p := fun z => k (by rw [z]; exact n)
    rw [upd_ne q]; exact e

theorem sql_mono {K : PySem.W.Frag} {F F' : Hp} {a : Addr} {xs : List V} (h : SqL K F a xs) (e : Same F F') : SqL K F' a xs := by
  rcases h with (h | ⟨o, h⟩) | h
  · exact .inl (.inl (e _ _ h))
  · exact .inl (.inr ⟨o, e _ _ h⟩)
  · exact .inr h
/-! ### what stands in a slot -/
inductive Ent where
  | no
  | dat (d : PyData)
  | own (xs : List PyData)
  | st (m : Nat)
  | rg (n : Nat)
  | scr (K : PySem.W.Frag) (ns : List Int)
def kCells : Key := Sum.inr "cells"
def kLefts : Key := Sum.inr "lefts"
def kAt : Key := Sum.inr "at"
def stK (c l : Addr) (n : Int) : List (Key × V) := [(kCells, .ref c), (kLefts, .ref l), (kAt, .int n)]
/-- the state of the draws -/
def StAt (S : SA) (F H : Hp) (v : V) (m : Nat) : Prop := ∃ (a l c : Addr) (cs ls : List Int) (n : Nat), S = some (a, l) ∧ v = .ref a ∧ a ≠ l ∧ H a = some (.dK (stK c l n)) ∧ H l = some (.lst (ls.map V.int)) ∧
  F c = some (.lst (cs.map V.int)) ∧ cs.length = ls.length ∧ cs ≠ [] ∧ n ≤ m ∧ cs.length ≤ 100
def EntAt (S : SA) (H0 F H : Hp) (s : Option V) : Ent → Prop
  | .no => True
  | .dat d => ∃ v, s = some v ∧ Da F v d
  | .own xs => ∃ l vs, s = some (.ref l) ∧ ¬ inS S l ∧ H0 l = none ∧ F l = none ∧ H l = some (.lst vs) ∧ DaAll F vs xs
  | .st m => ∃ v, s = some v ∧ StAt S F H v m
  | .rg n => ∃ a, s = some (.ref a) ∧ F a = some (.rng 0 n)
  | .scr K ns => ∃ a, s = some (.ref a) ∧ SqL K F a (ns.map V.int)
def slot (σ : St) (i : Nat) : Option V := (σ[i]?).join
theorem slot_set_same {σ : St} {i : Nat} {o : Option V} (h : i < σ.length) : slot (σ.set i o) i = o := by
  unfold slot
  rw [List.getElem?_set_self h]; rfl
theorem slot_set_ne {σ : St} {i j : Nat} {o : Option V} (h : i ≠ j) : slot (σ.set i o) j = slot σ j := by
  unfold slot
  rw [List.getElem?_set_ne h]
theorem slot_some {σ : St} {i : Nat} {v : V} (h : slot σ i = some v) : σ[i]? = some (some v) := by
  unfold slot at h
  cases e : σ[i]? with
  | none => rw [e] at h; cases h
  | some o => rw [e] at h; rw [show o = some v from h]
structure Ents (S : SA) (H0 F H : Hp) (σ : St) (ds : List Ent) : Prop where
  fh : Same F H
  fS : ∀ b, inS S b → F b = none
  hS : ∀ b, inS S b → H b ≠ none
  len : σ.length = ds.length
  at_ : ∀ i e, ds[i]? = some e → EntAt S H0 F H (slot σ i) e
  ap : ∀ i j l xs ys, ds[i]? = some (.own xs) → ds[j]? = some (.own ys) → slot σ i = some (.ref l) → slot σ j = some (.ref l) → i = j
section
variable {S : SA} {H0 F H F' H' : Hp} {σ : St} {ds : List Ent}
theorem StAt.pure {v : V} {m : Nat} (h : StAt S F H v m) (e : Ext none F H F' H') : StAt S F' H' v m := by
  obtain ⟨a, l, c, cs, ls, n, h1, h2, h3, h4, h5, h6, h7⟩ := h
  exact ⟨a, l, c, cs, ls, n, h1, h2, h3, e.hh _ _ (not_inS_none _) h4, e.hh _ _ (not_inS_none _) h5, e.ff _ _ h6, h7⟩
theorem EntAt.pure {s : Option V} {e : Ent} (h : EntAt S H0 F H s e) (x : Ext none F H F' H') : EntAt S H0 F' H' s e := by
  cases e with
  | no => trivial
  | dat d =>
    obtain ⟨v, h1, h2⟩ := h
    exact ⟨v, h1, h2.mono x.ff⟩
  | own xs =>
    obtain ⟨l, vs, h1, h2, h3, h4, h5, h6⟩ := h
    exact ⟨l, vs, h1, h2, h3, x.nw l (by rw [h5]; exact fun z => by cases z) h4, x.hh _ _ (not_inS_none _) h5, h6.mono x.ff⟩
  | st m =>
    obtain ⟨v, h1, h2⟩ := h
    exact ⟨v, h1, h2.pure x⟩
  | rg n =>
    obtain ⟨a, h1, h2⟩ := h
    exact ⟨a, h1, x.ff _ _ h2⟩
  | scr K ns =>
    obtain ⟨a, h1, h2⟩ := h
    exact ⟨a, h1, sql_mono h2 x.ff⟩
theorem Ents.pure (h : Ents S H0 F H σ ds) (x : Ext none F H F' H') : Ents S H0 F' H' σ ds :=
  ⟨x.fh, fun b q => x.nw b (h.hS b q) (h.fS b q), fun b q => by
    cases e : H b with
    | none => exact absurd e (h.hS b q)
    | some o =>
      rw [x.hh b o (not_inS_none b) e]
      exact fun z => (by cases z), h.len, fun i e q => (h.at_ i e q).pure x, h.ap⟩
theorem Ents.lt (h : Ents S H0 F H σ ds) {i : Nat} {e : Ent} (k : ds[i]? = some e) : i < σ.length := by
  rw [h.len]
  exact (List.getElem?_eq_some_iff.mp k).1
/-- a slot gets data -/
theorem Ents.put (h : Ents S H0 F H σ ds) {i : Nat} {v : V} {d : PyData} (hv : Da F v d) : Ents S H0 F H (σ.set i (some v)) (ds.set i (.dat d)) where
  fh := h.fh
  fS := h.fS
  hS := h.hS
  len := by rw [List.length_set, List.length_set]; exact h.len
  at_ := fun j e q => by
    by_cases z : i = j
    · subst z
      have hl : i < ds.length := by
        have := (List.getElem?_eq_some_iff.mp q).1
        rwa [List.length_set] at this
      rw [List.getElem?_set_self hl] at q
      cases q
      exact ⟨v, slot_set_same (by rw [h.len]; exact hl), hv⟩
    · rw [List.getElem?_set_ne z] at q
      rw [slot_set_ne z]
      exact h.at_ j e q
  ap := fun j k l xs ys e1 e2 s1 s2 => by
    have nj : i ≠ j := fun z => by
      subst z
      have hl : i < ds.length := by
        have := (List.getElem?_eq_some_iff.mp e1).1
        rwa [List.length_set] at this
      rw [List.getElem?_set_self hl] at e1; cases e1
    have nk : i ≠ k := fun z => by
      subst z
      have hl : i < ds.length := by
        have := (List.getElem?_eq_some_iff.mp e2).1
        rwa [List.length_set] at this
      rw [List.getElem?_set_self hl] at e2; cases e2
    rw [List.getElem?_set_ne nj] at e1
    rw [List.getElem?_set_ne nk] at e2
    rw [slot_set_ne nj] at s1
    rw [slot_set_ne nk] at s2
    exact h.ap j k l xs ys e1 e2 s1 s2
/-- a slot that nothing is known of any more -/
theorem Ents.forget (h : Ents S H0 F H σ ds) (i : Nat) : Ents S H0 F H σ (ds.set i .no) where
  fh := h.fh
  fS := h.fS
  hS := h.hS
  len := by rw [List.length_set]; exact h.len
  at_ := fun j e q => by
    by_cases z : i = j
    · subst z
      have hl : i < ds.length := by
        have := (List.getElem?_eq_some_iff.mp q).1
        rwa [List.length_set] at this
      rw [List.getElem?_set_self hl] at q
      cases q
      trivial
    · rw [List.getElem?_set_ne z] at q
      exact h.at_ j e q
  ap := fun j k l xs ys e1 e2 s1 s2 => by
    have nj : i ≠ j := fun z => by
      subst z
      have hl : i < ds.length := by
        have := (List.getElem?_eq_some_iff.mp e1).1
        rwa [List.length_set] at this
      rw [List.getElem?_set_self hl] at e1; cases e1
    have nk : i ≠ k := fun z => by
      subst z
      have hl : i < ds.length := by
        have := (List.getElem?_eq_some_iff.mp e2).1
        rwa [List.length_set] at this
      rw [List.getElem?_set_self hl] at e2; cases e2
    rw [List.getElem?_set_ne nj] at e1
    rw [List.getElem?_set_ne nk] at e2
    exact h.ap j k l xs ys e1 e2 s1 s2
/-- a slot gets a new list of one's own -/
theorem Ents.putOwn (h : Ents S H0 F H σ ds) {i : Nat} {l : Addr} {vs : List V} {xs : List PyData} (n : H l = none) (n0 : H0 l = none) (hv : DaAll F vs xs) :
    Ents S H0 F (upd H l (.lst vs)) (σ.set i (some (.ref l))) (ds.set i (.own xs)) := by
  have nF : F l = none := h.fh.free n
  have nS : ¬ inS S l := fun q => h.hS l q n
  have kp : ∀ b o, H b = some o → upd H l (.lst vs) b = some o := fun b o e => by
    rw [upd_ne (ne_of_none e n)]; exact e
  have ne : ∀ j e, ds[j]? = some e → ∀ ys, e = .own ys → slot σ j ≠ some (.ref l) := fun j e q ys z s => by
    have k := h.at_ j e q
    rw [z] at k
    obtain ⟨l', vs', h1, _, _, _, h5, _⟩ := k
    rw [s] at h1
    have h1' : V.ref l = V.ref l' := Option.some.inj h1
    cases h1'
    rw [n] at h5; cases h5
  refine ⟨fun b o e => kp b o (h.fh b o e), h.fS, fun b q z => ?_, by rw [List.length_set, List.length_set]; exact h.len, fun j e q => ?_, fun j k l' xs' ys e1 e2 s1 s2 => ?_⟩
  · cases r : H b with
    | none => exact h.hS b q r
    | some o => rw [kp b o r] at z; cases z
  · by_cases z : i = j
    · subst z
      have hl : i < ds.length := by
        have := (List.getElem?_eq_some_iff.mp q).1
        rwa [List.length_set] at this
      rw [List.getElem?_set_self hl] at q
      cases q
      exact ⟨l, vs, slot_set_same (by rw [h.len]; exact hl), nS, n0, nF, upd_same, hv⟩
    · rw [List.getElem?_set_ne z] at q
      rw [slot_set_ne z]
      have k := h.at_ j e q
      cases e with
      | no => trivial
      | dat d => exact k
      | own ys =>
        obtain ⟨l', vs', h1, h2, h3, h4, h5, h6⟩ := k
        exact ⟨l', vs', h1, h2, h3, h4, kp _ _ h5, h6⟩
      | st m =>
        obtain ⟨v, h1, a, l', c, cs, ls, n', g1, g2, g3, g4, g5, g6⟩ := k
        exact ⟨v, h1, a, l', c, cs, ls, n', g1, g2, g3, kp _ _ g4, kp _ _ g5, g6⟩
      | rg n => exact k
      | scr K ns => exact k
  · by_cases zj : i = j
    · by_cases zk : i = k
      · rw [← zj, ← zk]
      · subst zj
        have hl : i < ds.length := by
          have := (List.getElem?_eq_some_iff.mp e1).1
          rwa [List.length_set] at this
        rw [slot_set_same (by rw [h.len]; exact hl)] at s1
        cases s1
        rw [List.getElem?_set_ne zk] at e2
        rw [slot_set_ne zk] at s2
        exact absurd s2 (ne k _ e2 _ rfl)
    · rw [List.getElem?_set_ne zj] at e1
      rw [slot_set_ne zj] at s1
      by_cases zk : i = k
      · subst zk
        have hl : i < ds.length := by
          have := (List.getElem?_eq_some_iff.mp e2).1
          rwa [List.length_set] at this
        rw [slot_set_same (by rw [h.len]; exact hl)] at s2
        cases s2
        exact absurd s1 (ne j _ e1 _ rfl)
      · rw [List.getElem?_set_ne zk] at e2
        rw [slot_set_ne zk] at s2
        exact h.ap j k l' xs' ys e1 e2 s1 s2
/-- one's own list changes -/
theorem Ents.change (h : Ents S H0 F H σ ds) {i : Nat} {l : Addr} {xs ys : List PyData} {ws : List V} (hi : ds[i]? = some (.own xs)) (hl : slot σ i = some (.ref l)) (hw : DaAll F ws ys) :
    Ents S H0 F (upd H l (.lst ws)) σ (ds.set i (.own ys)) := by
  have k := h.at_ i _ hi
  obtain ⟨l', vs, h1, h2, h3, h4, h5, h6⟩ := k
  rw [hl] at h1
  cases h1
  have kp : ∀ b o, b ≠ l → H b = some o → upd H l (.lst ws) b = some o := fun b o q e => by rw [upd_ne q]; exact e
  have fne : ∀ b o, F b = some o → b ≠ l := fun b o e => ne_of_none e h4
  refine ⟨fun b o e => kp b o (fne b o e) (h.fh b o e), h.fS, fun b q z => ?_, by rw [List.length_set]; exact h.len, fun j e q => ?_, fun j k l' xs' ys' e1 e2 s1 s2 => ?_⟩
  · have nb : b ≠ l := fun z2 => h2 (by rw [← z2]; exact q)
    rw [upd_ne nb] at z
    exact h.hS b q z
  · by_cases z : i = j
    · subst z
      rw [List.getElem?_set_self (List.getElem?_eq_some_iff.mp hi).1] at q
      cases q
      exact ⟨l, ws, hl, h2, h3, h4, upd_same, hw⟩
    · rw [List.getElem?_set_ne z] at q
      have k := h.at_ j e q
      cases e with
      | no => trivial
      | dat d => exact k
      | own ys' =>
        obtain ⟨l', vs', g1, g2, g3, g4, g5, g6⟩ := k
        have nl : l' ≠ l := fun z2 => z (h.ap i j l xs ys' hi q hl (by rw [g1, z2]))
        exact ⟨l', vs', g1, g2, g3, g4, kp _ _ nl g5, g6⟩
      | st m =>
        obtain ⟨v, g0, a, l', c, cs, ls, n', g1, g2, g3, g4, g5, g6⟩ := k
        have na : inS S a := by rw [g1]; exact .inl rfl
        have nl : inS S l' := by rw [g1]; exact .inr rfl
        exact ⟨v, g0, a, l', c, cs, ls, n', g1, g2, g3, kp _ _ (fun z2 => h2 (by rw [← z2]; exact na)) g4, kp _ _ (fun z2 => h2 (by rw [← z2]; exact nl)) g5, g6⟩
      | rg n => exact k
      | scr K ns => exact k
  · have up : ∀ (j : Nat) (zs : List PyData), (ds.set i (Ent.own ys))[j]? = some (Ent.own zs) → ∃ zs', ds[j]? = some (Ent.own zs') := fun j zs q => by
      by_cases z : i = j
      · exact ⟨xs, by rw [← z]; exact hi⟩
      · rw [List.getElem?_set_ne z] at q
        exact ⟨zs, q⟩
    obtain ⟨u1, v1⟩ := up j _ e1
    obtain ⟨u2, v2⟩ := up k _ e2
    exact h.ap j k l' u1 u2 v1 v2 s1 s2
/-- one's own list is put among what never changes -/
theorem Ents.freeze (h : Ents S H0 F H σ ds) {i : Nat} {xs : List PyData} (hi : ds[i]? = some (.own xs)) :
    ∃ F', Same F F' ∧ Same F' H ∧ (∀ b, H0 b ≠ none → F b = none → F' b = none) ∧ Ents S H0 F' H σ (ds.set i (.dat (.list xs))) := by
  obtain ⟨l, vs, h1, h2, h3, h4, h5, h6⟩ := h.at_ i _ hi
  have kp : ∀ b o, F b = some o → upd F l (.lst vs) b = some o := fun b o e => by
    rw [upd_ne (ne_of_none e h4)]; exact e
  have fh : Same (upd F l (.lst vs)) H := fun b o e => by
    by_cases q : b = l
    · subst q
      rw [upd_same] at e; cases e
      exact h5
    · rw [upd_ne q] at e
      exact h.fh b o e
  refine ⟨upd F l (.lst vs), kp, fh, fun b q e => ?_, fh, fun b q => ?_, h.hS, by rw [List.length_set]; exact h.len, fun j e q => ?_, fun j k l' xs' ys' e1 e2 s1 s2 => ?_⟩
  · have nb : b ≠ l := fun z => q (by rw [z]; exact h3)
    rw [upd_ne nb]; exact e
  · have nb : b ≠ l := fun z => h2 (by rw [← z]; exact q)
    rw [upd_ne nb]; exact h.fS b q
  · by_cases z : i = j
    · subst z
      rw [List.getElem?_set_self (List.getElem?_eq_some_iff.mp hi).1] at q
      cases q
      exact ⟨.ref l, h1, .lst upd_same (h6.mono kp)⟩
    · rw [List.getElem?_set_ne z] at q
      have k := h.at_ j e q
      cases e with
      | no => trivial
      | dat d =>
        obtain ⟨v, g1, g2⟩ := k
        exact ⟨v, g1, g2.mono kp⟩
      | own ys' =>
        obtain ⟨l', vs', g1, g2, g3, g4, g5, g6⟩ := k
        have nl : l' ≠ l := fun z2 => z (h.ap i j l xs ys' hi q h1 (by rw [g1, z2]))
        exact ⟨l', vs', g1, g2, g3, by rw [upd_ne nl]; exact g4, g5, g6.mono kp⟩
      | st m =>
        obtain ⟨v, g0, a, l', c, cs, ls, n', g1, g2, g3, g4, g5, g6, g7⟩ := k
        exact ⟨v, g0, a, l', c, cs, ls, n', g1, g2, g3, g4, g5, kp _ _ g6, g7⟩
      | rg n =>
        obtain ⟨a, g1, g2⟩ := k
        exact ⟨a, g1, kp _ _ g2⟩
      | scr K ns =>
        obtain ⟨a, g1, g2⟩ := k
        exact ⟨a, g1, sql_mono g2 kp⟩
  · have nj : i ≠ j := fun z => by
      subst z
      rw [List.getElem?_set_self (List.getElem?_eq_some_iff.mp hi).1] at e1; cases e1
    have nk : i ≠ k := fun z => by
      subst z
      rw [List.getElem?_set_self (List.getElem?_eq_some_iff.mp hi).1] at e2; cases e2
    rw [List.getElem?_set_ne nj] at e1
    rw [List.getElem?_set_ne nk] at e2
    exact h.ap j k l' xs' ys' e1 e2 s1 s2
end
end JR
set_option Elab.async false
set_option linter.all false
set_option maxRecDepth 100000
set_option maxHeartbeats 2000000
namespace JR
open PySem PySem.Spec L2

/-! ### judgements: what a reading gives, told of data -/
def EvD (S : SA) (te : TE) (ds : List Ent) (W : List Ent → PyData → Prop) : Prop :=
  ∀ (H0 F H : Hp) (σ : St) (Q : VK), Ents S H0 F H σ ds → (∀ v F' H' ds' d, Ext S F H F' H' → Ents S H0 F' H' σ ds' → Da F' v d → W ds' d → Q v H') → te σ H Q
def EvA (S : SA) (ta : TA) (ds : List Ent) (W : List Ent → List PyData → Prop) : Prop :=
  ∀ (H0 F H : Hp) (σ : St) (Q : List V → Hp → Prop), Ents S H0 F H σ ds → (∀ vs F' H' ds' xs, Ext S F H F' H' → Ents S H0 F' H' σ ds' → DaAll F' vs xs → W ds' xs → Q vs H') → ta σ H Q
def EvT (S : SA) (tt : TT) (ds : List Ent) (W : List Ent → Bool → Prop) : Prop :=
  ∀ (H0 F H : Hp) (σ : St) (Q : Bool → Hp → Prop), Ents S H0 F H σ ds → (∀ b F' H' ds', Ext S F H F' H' → Ents S H0 F' H' σ ds' → W ds' b → Q b H') → tt σ H Q
def EvO (S : SA) (to : TO) (ds : List Ent) (W : List Ent → Option Int → Prop) : Prop :=
  ∀ (H0 F H : Hp) (σ : St) (Q : Option Int → Hp → Prop), Ents S H0 F H σ ds → (∀ b F' H' ds', Ext S F H F' H' → Ents S H0 F' H' σ ds' → W ds' b → Q b H') → to σ H Q
/-- two-place operations on values, one-place ones, calls on values: nothing but new objects -/
def OpD (r : R2) (d1 d2 : PyData) (W : PyData → Prop) : Prop :=
  ∀ (F H : Hp) (x y : V) (Q : VK), Same F H → Da F x d1 → Da F y d2 → (∀ v F' H' d, Ext none F H F' H' → Da F' v d → W d → Q v H') → r x y H Q
def UnD (r : V → Hp → VK → Prop) (d1 : PyData) (W : PyData → Prop) : Prop :=
  ∀ (F H : Hp) (x : V) (Q : VK), Same F H → Da F x d1 → (∀ v F' H' d, Ext none F H F' H' → Da F' v d → W d → Q v H') → r x H Q
def CbD (r : List V → Hp → VK → Prop) (xs : List PyData) (W : PyData → Prop) : Prop :=
  ∀ (F H : Hp) (vs : List V) (Q : VK), Same F H → DaAll F vs xs → (∀ v F' H' d, Ext none F H F' H' → Da F' v d → W d → Q v H') → r vs H Q
/-- a method on values -/
def MtD (r : V → List V → Hp → VK → Prop) (d : PyData) (xs : List PyData) (W : PyData → Prop) : Prop :=
  ∀ (F H : Hp) (x : V) (vs : List V) (Q : VK), Same F H → Da F x d → DaAll F vs xs → (∀ v F' H' e, Ext none F H F' H' → Da F' v e → W e → Q v H') → r x vs H Q
def SlD (r : V → Option Int → Option Int → Hp → VK → Prop) (d : PyData) (l u : Option Int) (W : PyData → Prop) : Prop :=
  ∀ (F H : Hp) (x : V) (Q : VK), Same F H → Da F x d → (∀ v F' H' e, Ext none F H F' H' → Da F' v e → W e → Q v H') → r x l u H Q

theorem Ext.tr {S : SA} {H0 F H F1 H1 F2 H2 : Hp} {σ : St} {ds : List Ent} (a : Ext S F H F1 H1) (h : Ents S H0 F1 H1 σ ds) (b : Ext S F1 H1 F2 H2) : Ext S F H F2 H2 := a.trans b fun c q _ => h.hS c q

section
variable {S : SA} {ds : List Ent} {W : List Ent → PyData → Prop} {ta tb te : TE} {tt tu : TT} {d : PyData}
theorem EvD.imp {W' : List Ent → PyData → Prop} (h : EvD S te ds W) (k : ∀ ds' d, W ds' d → W' ds' d) : EvD S te ds W' :=
  fun H0 F H σ Q I q => h H0 F H σ Q I fun v F' H' ds' d x I' dv w => q v F' H' ds' d x I' dv (k _ _ w)
theorem ev_var {i : Nat} (h : ds[i]? = some (.dat d)) (w : W ds d) : EvD S (tVar i) ds W := fun H0 F H σ Q I q => by
  obtain ⟨v, h1, h2⟩ := I.at_ i _ h
  exact ⟨v, slot_some h1, q v F H ds d (Ext.refl I.fh) I h2 w⟩
theorem ev_c {v : V} (hv : ∀ F, Da F v d) (w : W ds d) : EvD S (tC v) ds W := fun H0 F H σ Q I q => q v F H ds d (Ext.refl I.fh) I (hv F) w
theorem ev_int {i : Int} (w : W ds (.int i)) : EvD S (tC (.int i)) ds W := ev_c (fun _ => .int i) w
theorem ev_str {x : Str} (w : W ds (.str x)) : EvD S (tC (.str x)) ds W := ev_c (fun _ => .str x) w
theorem ev_bl {b : Bool} (w : W ds (.bool b)) : EvD S (tC (.bl b)) ds W := ev_c (fun _ => .bl b) w
theorem ev_non (w : W ds .none) : EvD S (tC .non) ds W := ev_c (fun _ => .non) w
theorem ev_op {r : R2} (h : EvD S ta ds fun ds1 d1 => EvD S tb ds1 fun ds2 d2 => OpD r d1 d2 (W ds2)) : EvD S (tOp r ta tb) ds W := fun H0 F H σ Q I q =>
  h H0 F H σ _ I fun v1 F1 H1 ds1 d1 x1 I1 a1 w1 => w1 H0 F1 H1 σ _ I1 fun v2 F2 H2 ds2 d2 x2 I2 a2 w2 => w2 F2 H2 v1 v2 Q I2.fh (a1.mono x2.ff) a2 fun v F' H' d x a w =>
    q v F' H' ds2 d ((x1.tr I1 x2).tr I2 x.pure) (I2.pure x) a w
theorem ev_un {r : V → Hp → VK → Prop} (h : EvD S ta ds fun ds1 d1 => UnD r d1 (W ds1)) : EvD S (tUn r ta) ds W := fun H0 F H σ Q I q =>
  h H0 F H σ _ I fun v1 F1 H1 ds1 d1 x1 I1 a1 w1 => w1 F1 H1 v1 Q I1.fh a1 fun v F' H' d x a w => q v F' H' ds1 d (x1.tr I1 x.pure) (I1.pure x) a w
theorem ev_if {W : List Ent → PyData → Prop} (h : EvT S tt ds fun ds1 b => (b = true → EvD S ta ds1 W) ∧ (b = false → EvD S tb ds1 W)) : EvD S (tIf tt ta tb) ds W := fun H0 F H σ Q I q =>
  h H0 F H σ _ I fun b F1 H1 ds1 x1 I1 w1 => by
    cases b with
    | true => exact w1.1 rfl H0 F1 H1 σ Q I1 fun v F' H' ds' d x I' a w => q v F' H' ds' d (x1.tr I1 x) I' a w
    | false => exact w1.2 rfl H0 F1 H1 σ Q I1 fun v F' H' ds' d x I' a w => q v F' H' ds' d (x1.tr I1 x) I' a w
theorem ev_andV (h : EvD S ta ds fun ds1 d1 => ∃ b, d1 = .bool b ∧ (b = true → EvD S tb ds1 W) ∧ (b = false → W ds1 (.bool false))) : EvD S (tAndV ta tb) ds W := fun H0 F H σ Q I q =>
  h H0 F H σ _ I fun v F1 H1 ds1 d1 x1 I1 a1 ⟨b, e, w1, w2⟩ => by
    subst e
    refine ⟨b, a1.bl_inv, ?_⟩
    cases b with
    | true => exact w1 rfl H0 F1 H1 σ Q I1 fun v F' H' ds' d x I' a w => q v F' H' ds' d (x1.tr I1 x) I' a w
    | false => exact q _ F1 H1 ds1 _ x1 I1 (.bl false) (w2 rfl)
theorem ev_orV (h : EvD S ta ds fun ds1 d1 => ∃ b, d1 = .bool b ∧ (b = true → W ds1 (.bool true)) ∧ (b = false → EvD S tb ds1 W)) : EvD S (tOrV ta tb) ds W := fun H0 F H σ Q I q =>
  h H0 F H σ _ I fun v F1 H1 ds1 d1 x1 I1 a1 ⟨b, e, w1, w2⟩ => by
    subst e
    refine ⟨b, a1.bl_inv, ?_⟩
    cases b with
    | false => exact w2 rfl H0 F1 H1 σ Q I1 fun v F' H' ds' d x I' a w => q v F' H' ds' d (x1.tr I1 x) I' a w
    | true => exact q _ F1 H1 ds1 _ x1 I1 (.bl true) (w1 rfl)
theorem ev_notV (h : EvD S ta ds fun ds1 d1 => ∃ b, d1 = .bool b ∧ W ds1 (.bool (!b))) : EvD S (tNotV ta) ds W := fun H0 F H σ Q I q =>
  h H0 F H σ _ I fun v F1 H1 ds1 d1 x1 I1 a1 ⟨b, e, w1⟩ => by
    subst e
    exact ⟨b, a1.bl_inv, q _ F1 H1 ds1 _ x1 I1 (.bl _) w1⟩
/-- a tuple, a list that is written -/
theorem Da.new_tup {F H : Hp} {p : Addr} {o : Obj} {vs : List V} {xs : List PyData} (e : Same F H) (n : H p = none) (ho : o.dict = none) (h : DaAll F vs xs) : Da (upd F p (.frz o (.tup vs))) (.ref p) (.tuple xs) :=
  .tup ⟨o, ho, upd_same⟩ (h.mono (Ext.new (o := .frz o (.tup vs)) e n).ff)
/-- a tuple is made: the object is known -/
def tTupZ (t : TA) : TE := fun σ H Q => t σ H fun xs H1 => xs.length ≤ sizeLine ∧ ∀ (p : Addr) (o : Obj), H1 p = none → o.dict = none → Q (.ref p) (upd H1 p (.frz o (.tup xs)))
theorem Da.new_lst {F H : Hp} {p : Addr} {vs : List V} {xs : List PyData} (e : Same F H) (n : H p = none) (h : DaAll F vs xs) : Da (upd F p (.lst vs)) (.ref p) (.list xs) :=
  .lst upd_same (h.mono (Ext.new (o := .lst vs) e n).ff)
theorem sz {n : Nat} (h : n ≤ 100000) : n ≤ sizeLine := Nat.le_trans h (by decide)
theorem sz' {n : Nat} (h : n ≤ 100000) : n < sizeLine := Nat.lt_of_le_of_lt h (by decide)
theorem ev_tup {ta : TA} (h : EvA S ta ds fun ds1 xs => xs.length ≤ 100000 ∧ W ds1 (.tuple xs)) : EvD S (tTupZ ta) ds W := fun H0 F H σ Q I q =>
  h H0 F H σ _ I fun vs F1 H1 ds1 xs x1 I1 a1 ⟨l, w⟩ => ⟨sz (by rw [a1.length]; exact l), fun p o n ho => q _ _ _ ds1 _ (x1.tr I1 (Ext.new I1.fh n).pure) (I1.pure (Ext.new I1.fh n)) (Da.new_tup I1.fh n ho a1) w⟩
theorem ev_lst {ta : TA} (h : EvA S ta ds fun ds1 xs => xs.length ≤ 100000 ∧ W ds1 (.list xs)) : EvD S (tLst ta) ds W := fun H0 F H σ Q I q =>
  h H0 F H σ _ I fun vs F1 H1 ds1 xs x1 I1 a1 ⟨l, w⟩ => ⟨sz (by rw [a1.length]; exact l), fun p n => q _ _ _ ds1 _ (x1.tr I1 (Ext.new I1.fh n).pure) (I1.pure (Ext.new I1.fh n)) (Da.new_lst I1.fh n a1) w⟩
theorem ea_nil {W : List Ent → List PyData → Prop} (w : W ds []) : EvA S tNil ds W := fun H0 F H σ Q I q => q [] F H ds [] (Ext.refl I.fh) I .nil w
theorem ea_cons {tr : TA} {W : List Ent → List PyData → Prop} (h : EvD S te ds fun ds1 d => EvA S tr ds1 fun ds2 xs => W ds2 (d :: xs)) : EvA S (tCons te tr) ds W := fun H0 F H σ Q I q =>
  h H0 F H σ _ I fun v F1 H1 ds1 d x1 I1 a1 w1 => w1 H0 F1 H1 σ _ I1 fun vs F2 H2 ds2 xs x2 I2 a2 w2 => q _ F2 H2 ds2 _ (x1.tr I1 x2) I2 (.cons (a1.mono x2.ff) a2) w2
theorem ev_cb {r : List V → Hp → VK → Prop} {ta : TA} (h : EvA S ta ds fun ds1 xs => CbD r xs (W ds1)) : EvD S (tCB r ta) ds W := fun H0 F H σ Q I q =>
  h H0 F H σ _ I fun vs F1 H1 ds1 xs x1 I1 a1 w1 => w1 F1 H1 vs Q I1.fh a1 fun v F' H' d x a w => q v F' H' ds1 d (x1.tr I1 x.pure) (I1.pure x) a w
theorem ev_sl {r : V → Option Int → Option Int → Hp → VK → Prop} {tl th : TO} (h : EvD S te ds fun ds1 d => EvO S tl ds1 fun ds2 l => EvO S th ds2 fun ds3 u => SlD r d l u (W ds3)) : EvD S (tSl r te tl th) ds W := fun H0 F H σ Q I q =>
  h H0 F H σ _ I fun v1 F1 H1 ds1 d1 x1 I1 a1 w1 => w1 H0 F1 H1 σ _ I1 fun l F2 H2 ds2 x2 I2 w2 => w2 H0 F2 H2 σ _ I2 fun u F3 H3 ds3 x3 I3 w3 => w3 F3 H3 v1 Q I3.fh ((a1.mono x2.ff).mono x3.ff) fun v F' H' d x a w =>
    q v F' H' ds3 d (((x1.tr I1 x2).tr I2 x3).tr I3 x.pure) (I3.pure x) a w
theorem eo_none {W : List Ent → Option Int → Prop} (w : W ds none) : EvO S tNoPart ds W := fun H0 F H σ Q I q => q none F H ds (Ext.refl I.fh) I w
theorem eo_some {W : List Ent → Option Int → Prop} (h : EvD S te ds fun ds1 d => ∃ i, d = .int i ∧ W ds1 (some i)) : EvO S (tPart te) ds W := fun H0 F H σ Q I q =>
  h H0 F H σ _ I fun v F1 H1 ds1 d x1 I1 a1 ⟨i, e, w⟩ => by
    subst e
    exact ⟨i, a1.int_inv, q _ F1 H1 ds1 x1 I1 w⟩
/-- tests -/
theorem et_test {W : List Ent → Bool → Prop} (h : EvD S te ds fun ds1 d => ∃ b, d = .bool b ∧ W ds1 b) : EvT S (tTest te) ds W := fun H0 F H σ Q I q =>
  h H0 F H σ _ I fun v F1 H1 ds1 d x1 I1 a1 ⟨b, e, w⟩ => by
    subst e
    exact ⟨b, a1.bl_inv, q b F1 H1 ds1 x1 I1 w⟩
theorem et_B {W : List Ent → Bool → Prop} (h : EvD S te ds fun ds1 d => ∃ b, d = .bool b ∧ W ds1 b) : EvT S (tB te) ds W := fun H0 F H σ Q I q =>
  h H0 F H σ _ I fun v F1 H1 ds1 d x1 I1 a1 ⟨b, e, w⟩ => by
    subst e
    exact ⟨b, a1.bl_inv, q b F1 H1 ds1 x1 I1 w⟩
theorem et_and {W : List Ent → Bool → Prop} (h : EvT S tt ds fun ds1 b => (b = true → EvT S tu ds1 W) ∧ (b = false → W ds1 false)) : EvT S (tAnd tt tu) ds W := fun H0 F H σ Q I q =>
  h H0 F H σ _ I fun b F1 H1 ds1 x1 I1 w1 => by
    cases b with
    | true => exact w1.1 rfl H0 F1 H1 σ Q I1 fun b F' H' ds' x I' w => q b F' H' ds' (x1.tr I1 x) I' w
    | false => exact q false F1 H1 ds1 x1 I1 (w1.2 rfl)
theorem et_or {W : List Ent → Bool → Prop} (h : EvT S tt ds fun ds1 b => (b = true → W ds1 true) ∧ (b = false → EvT S tu ds1 W)) : EvT S (tOr tt tu) ds W := fun H0 F H σ Q I q =>
  h H0 F H σ _ I fun b F1 H1 ds1 x1 I1 w1 => by
    cases b with
    | false => exact w1.2 rfl H0 F1 H1 σ Q I1 fun b F' H' ds' x I' w => q b F' H' ds' (x1.tr I1 x) I' w
    | true => exact q true F1 H1 ds1 x1 I1 (w1.1 rfl)
theorem et_not {W : List Ent → Bool → Prop} (h : EvT S tt ds fun ds1 b => W ds1 (!b)) : EvT S (tNot tt) ds W := fun H0 F H σ Q I q =>
  h H0 F H σ _ I fun b F1 H1 ds1 x1 I1 w1 => q (!b) F1 H1 ds1 x1 I1 w1
theorem et_yes {W : List Ent → Bool → Prop} (w : W ds true) : EvT S tYes ds W := fun H0 F H σ Q I q => q true F H ds (Ext.refl I.fh) I w
theorem ev_chain {r r' : R2} {tc : TE} (h : EvD S ta ds fun ds1 d1 => EvD S tb ds1 fun ds2 d2 => OpD r d1 d2 fun d => ∃ b, d = .bool b ∧ (b = false → W ds2 (.bool false)) ∧ (b = true → EvD S tc ds2 fun ds3 d3 => OpD r' d2 d3 (W ds3))) : EvD S (tChain r r' ta tb tc) ds W := fun H0 F H σ Q I q =>
  h H0 F H σ _ I fun v1 F1 H1 ds1 d1 x1 I1 a1 w1 => w1 H0 F1 H1 σ _ I1 fun v2 F2 H2 ds2 d2 x2 I2 a2 w2 => w2 F2 H2 v1 v2 _ I2.fh (a1.mono x2.ff) a2 fun v F3 H3 d x3 a3 ⟨b, e, wf, wt⟩ => by
    subst e
    refine ⟨b, a3.bl_inv, ?_⟩
    have X3 := (x1.tr I1 x2).tr I2 x3.pure
    have I3 := I2.pure x3
    cases b with
    | false => exact q _ F3 H3 ds2 _ X3 I3 (.bl false) (wf rfl)
    | true =>
      exact wt rfl H0 F3 H3 σ _ I3 fun v4 F4 H4 ds4 d4 x4 I4 a4 w4 => w4 F4 H4 v2 v4 Q I4.fh ((a2.mono x3.ff).mono x4.ff) a4 fun v F' H' d x a w =>
        q v F' H' ds4 d ((X3.tr I3 x4).tr I4 x.pure) (I4.pure x) a w
end

/-! ### operations on data -/
section
variable {W : PyData → Prop} {F H : Hp}
theorem op_i {g : Int → Int → V} {i j k : Int} (e : g i j = .int k) (w : W (.int k)) : OpD (rI0 g) (.int i) (.int j) W := fun F H x y Q s a b q =>
  ⟨i, j, a.int_inv, b.int_inv, q _ F H _ (Ext.refl s) (by rw [e]; exact .int k) w⟩
theorem op_b {g : Int → Int → V} {i j : Int} {k : Bool} (e : g i j = .bl k) (w : W (.bool k)) : OpD (rI0 g) (.int i) (.int j) W := fun F H x y Q s a b q =>
  ⟨i, j, a.int_inv, b.int_inv, q _ F H _ (Ext.refl s) (by rw [e]; exact .bl k) w⟩
theorem op_iC {C : Int → Int → Prop} {g : Int → Int → V} {i j k : Int} (c : C i j) (e : g i j = .int k) (w : W (.int k)) : OpD (rI C g) (.int i) (.int j) W := fun F H x y Q s a b q =>
  ⟨i, j, a.int_inv, b.int_inv, c, q _ F H _ (Ext.refl s) (by rw [e]; exact .int k) w⟩
theorem op_eqI {i j : Int} (w : W (.bool (decide (i = j)))) : OpD rEq (.int i) (.int j) W := fun F H x y Q s a b q => by
  have ea := a.int_inv
  have eb := b.int_inv
  subst ea eb
  refine ⟨rfl, q _ F H _ (Ext.refl s) ?_ w⟩
  rw [dec_int, show (i == j) = decide (i = j) from rfl]
  exact .bl _
theorem op_neI {i j : Int} (w : W (.bool (!decide (i = j)))) : OpD rNe (.int i) (.int j) W := fun F H x y Q s a b q => by
  have ea := a.int_inv
  have eb := b.int_inv
  subst ea eb
  refine ⟨rfl, q _ F H _ (Ext.refl s) ?_ w⟩
  rw [dec_int, show (i == j) = decide (i = j) from rfl]
  exact .bl _
theorem op_eqS {i j : Str} (w : W (.bool (i == j))) : OpD rEq (.str i) (.str j) W := fun F H x y Q s a b q => by
  have ea := a.str_inv
  have eb := b.str_inv
  subst ea eb
  refine ⟨rfl, q _ F H _ (Ext.refl s) ?_ w⟩
  rw [dec_str]
  exact .bl _
theorem op_neS {i j : Str} (w : W (.bool (!(i == j)))) : OpD rNe (.str i) (.str j) W := fun F H x y Q s a b q => by
  have ea := a.str_inv
  have eb := b.str_inv
  subst ea eb
  refine ⟨rfl, q _ F H _ (Ext.refl s) ?_ w⟩
  rw [dec_str]
  exact .bl _
theorem op_eqB {i j : Bool} (w : W (.bool (i == j))) : OpD rEq (.bool i) (.bool j) W := fun F H x y Q s a b q => by
  have ea := a.bl_inv
  have eb := b.bl_inv
  subst ea eb
  refine ⟨rfl, q _ F H _ (Ext.refl s) ?_ w⟩
  rw [dec_bl]
  exact .bl _
theorem op_neB {i j : Bool} (w : W (.bool (!(i == j)))) : OpD rNe (.bool i) (.bool j) W := fun F H x y Q s a b q => by
  have ea := a.bl_inv
  have eb := b.bl_inv
  subst ea eb
  refine ⟨rfl, q _ F H _ (Ext.refl s) ?_ w⟩
  rw [dec_bl]
  exact .bl _
/-- is None, is not None -/
def isNo : PyData → Bool
  | .none => true
  | _ => false
theorem Da.isNo {v : V} {d : PyData} (h : Da F v d) : decide (v = V.non) = isNo d := by
  cases h <;> first | exact decide_eq_true rfl | exact decide_eq_false (fun z => by cases z)
theorem op_is {d : PyData} (w : W (.bool (isNo d))) : OpD (fun x y H Q => y = .non ∧ Q (.bl (decide (x = .non))) H) d .none W := fun F H x y Q s a b q => by
  refine ⟨b.non_inv, q _ F H _ (Ext.refl s) ?_ w⟩
  rw [a.isNo]
  exact .bl _
theorem op_isnt {d : PyData} (w : W (.bool (!isNo d))) : OpD (fun x y H Q => y = .non ∧ Q (.bl (!decide (x = .non))) H) d .none W := fun F H x y Q s a b q => by
  refine ⟨b.non_inv, q _ F H _ (Ext.refl s) ?_ w⟩
  rw [a.isNo]
  exact .bl _
/-- == of data -/
theorem op_eqd {K : PySem.W.Frag} {d1 d2 : PyData} (h1 : SeqAt.shaped d1 = true) (h2 : SeqAt.shaped d2 = true) (w : W (.bool (PyData.eqv d1 d2))) : OpD (rEqD K) d1 d2 W := fun F H x y Q s a b q =>
  ⟨d1, d2, a.dp s, b.dp s, h1, h2, q _ F H _ (Ext.refl s) (.bl _) w⟩
theorem op_ned {K : PySem.W.Frag} {d1 d2 : PyData} (h1 : SeqAt.shaped d1 = true) (h2 : SeqAt.shaped d2 = true) (w : W (.bool (!PyData.eqv d1 d2))) : OpD (rNeD K) d1 d2 W := fun F H x y Q s a b q =>
  ⟨d1, d2, a.dp s, b.dp s, h1, h2, q _ F H _ (Ext.refl s) (.bl _) w⟩
/-- in a tuple, a list of ints, of texts -/
theorem inV_int (i : Int) (ns : List Int) : inV (.int i) (ns.map V.int) = decide (i ∈ ns) := by
  unfold inV
  rw [List.any_map, Bool.eq_iff_iff, List.any_eq_true, decide_eq_true_iff]
  constructor
  · rintro ⟨x, hx, e⟩
    have e' : (x == i) = true := e
    rw [← beq_iff_eq.mp e']; exact hx
  · exact fun h => ⟨i, h, by show (i == i) = true; exact beq_self_eq_true i⟩
theorem inV_str (i : Str) (ns : List Str) : inV (.str i) (ns.map V.str) = decide (i ∈ ns) := by
  unfold inV
  rw [List.any_map, Bool.eq_iff_iff, List.any_eq_true, decide_eq_true_iff]
  constructor
  · rintro ⟨x, hx, e⟩
    have e' : (x == i) = true := e
    rw [← beq_iff_eq.mp e']; exact hx
  · exact fun h => ⟨i, h, by show (i == i) = true; exact beq_self_eq_true i⟩
theorem flat_ints (ns : List Int) : (ns.map V.int).all flatV = true := by
  rw [List.all_map, List.all_eq_true]
  intro x _; rfl
theorem flat_strs (ns : List Str) : (ns.map V.str).all flatV = true := by
  rw [List.all_map, List.all_eq_true]
  intro x _; rfl
theorem op_inI {K : PySem.W.Frag} {neg : Bool} {i : Int} {ns : List Int} (w : W (.bool (if neg then !decide (i ∈ ns) else decide (i ∈ ns)))) : OpD (rIn K neg) (.int i) (.tuple (ns.map PyData.int)) W := fun F H x y Q s a b q => by
  obtain ⟨p, xs, e, h, r⟩ := b.tup_inv
  have ea := a.int_inv
  have er := r.ints
  subst ea er e
  refine ⟨p, _, rfl, .inr (h.sq s), rfl, flat_ints ns, q _ F H _ (Ext.refl s) ?_ w⟩
  rw [inV_int]
  exact .bl _
theorem op_inS {K : PySem.W.Frag} {neg : Bool} {i : Str} {ns : List Str} (w : W (.bool (if neg then !decide (i ∈ ns) else decide (i ∈ ns)))) : OpD (rIn K neg) (.str i) (.tuple (ns.map PyData.str)) W := fun F H x y Q s a b q => by
  obtain ⟨p, xs, e, h, r⟩ := b.tup_inv
  have ea := a.str_inv
  have er := r.strs
  subst ea er e
  refine ⟨p, _, rfl, .inr (h.sq s), rfl, flat_strs ns, q _ F H _ (Ext.refl s) ?_ w⟩
  rw [inV_str]
  exact .bl _
theorem atI_da {vs : List V} {xs : List PyData} {i : Int} {d : PyData} (r : DaAll F vs xs) (h : atI xs i = some d) : ∃ v, atI vs i = some v ∧ Da F v d := by
  unfold atI at h ⊢
  rw [r.length]
  cases e : ixN xs.length i with
  | none => rw [e] at h; cases h
  | some j =>
    rw [e] at h
    obtain ⟨v, h1, h2⟩ := r.get (i := j) h
    exact ⟨v, h1, h2⟩
theorem op_ixT {K : PySem.W.Frag} {xs : List PyData} {i : Int} {d : PyData} (h : atI xs i = some d) (w : W d) : OpD (rIxT K) (.tuple xs) (.int i) W := fun F H x y Q s a b q => by
  obtain ⟨p, vs, e, hp, r⟩ := a.tup_inv
  obtain ⟨v, h1, h2⟩ := atI_da r h
  exact ⟨p, vs, i, v, e, b.int_inv, hp.sq s, h1, q v F H d (Ext.refl s) h2 w⟩
theorem op_ixL {K : PySem.W.Frag} {xs : List PyData} {i : Int} {d : PyData} (h : atI xs i = some d) (w : W d) : OpD (rIxL K) (.list xs) (.int i) W := fun F H x y Q s a b q => by
  obtain ⟨p, vs, e, hp, r⟩ := a.lst_inv
  obtain ⟨v, h1, h2⟩ := atI_da r h
  exact ⟨p, vs, i, v, e, b.int_inv, .inl (.inl (s _ _ hp)), h1, q v F H d (Ext.refl s) h2 w⟩
theorem atI_nat' {xs : List PyData} {i : Int} {d : PyData} (h0 : 0 ≤ i) (h : xs[i.toNat]? = some d) : atI xs i = some d := by
  have e : i = ((i.toNat : Nat) : Int) := by omega
  rw [e]
  exact atI_nat h
/-- list + list, list * int, tuple + tuple -/
theorem op_catL {xs ys : List PyData} (l : xs.length + ys.length ≤ 100000) (w : W (.list (xs ++ ys))) : OpD rCat (.list xs) (.list ys) W := fun F H x y Q s a b q => by
  obtain ⟨p, vs, e, hp, r⟩ := a.lst_inv
  obtain ⟨p2, vs2, e2, hp2, r2⟩ := b.lst_inv
  exact ⟨p, p2, vs, vs2, e, e2, s _ _ hp, s _ _ hp2, sz (by rw [r.length, r2.length]; exact l), fun z n => q _ _ _ _ (Ext.new s n) (Da.new_lst s n (r.append r2)) w⟩
theorem op_rep {xs : List PyData} {k : Int} (h1 : -(2 ^ 63) ≤ k) (h2 : k < 2 ^ 63) (l : xs.length * k.toNat ≤ 100000) (w : W (.list (List.replicate k.toNat xs).flatten)) : OpD rRep (.list xs) (.int k) W := fun F H x y Q s a b q => by
  obtain ⟨p, vs, e, hp, r⟩ := a.lst_inv
  refine ⟨p, k, vs, e, b.int_inv, s _ _ hp, h1, h2, sz (by rw [r.length]; exact l), fun z n => q _ _ _ _ (Ext.new s n) (Da.new_lst s n (r.flat _)) w⟩
end
end JR
set_option Elab.async false
set_option linter.all false
set_option maxRecDepth 100000
set_option maxHeartbeats 2000000
namespace JR
open PySem PySem.Spec L2

/-! ### promises over data -/
/-- a def without effects: A xs W says: of these arguments, whatever comes back is one of W -/
abbrev AD := List PyData → (PyData → Prop) → Prop
def spG (A : AD) : Sp := fun vs H Q _ => ∃ (F : Hp) (xs : List PyData) (W : PyData → Prop), Same F H ∧ DaAll F vs xs ∧ A xs W ∧ ∀ v F' H' d, Ext none F H F' H' → Da F' v d → W d → Q v H'
/-- a def that draws: the state first -/
abbrev AS := Nat → List PyData → (Nat → PyData → Prop) → Prop
def spS (A : AS) : Sp := fun vs H Q _ => ∃ (S : SA) (F : Hp) (m : Nat) (v0 : V) (vr : List V) (xs : List PyData) (W : Nat → PyData → Prop), vs = v0 :: vr ∧ Same F H ∧ (∀ b, inS S b → F b = none) ∧ StAt S F H v0 m ∧ DaAll F vr xs ∧ A m xs W ∧
  ∀ v F' H' m' d, Ext S F H F' H' → StAt S F' H' v0 m' → (∀ b, inS S b → F' b = none) → Da F' v d → W m' d → Q v H'
section
variable {S : SA} {ds : List Ent} {W : List Ent → PyData → Prop}
theorem ev_call {A : AD} {E : XK} {ta : TA} (h : EvA S ta ds fun ds1 xs => A xs (W ds1)) : EvD S (tCall (spG A) [] E ta) ds W := fun H0 F H σ Q I q =>
  h H0 F H σ _ I fun vs F1 H1 ds1 xs x1 I1 a1 w1 => by
    rw [List.append_nil]
    exact ⟨F1, xs, W ds1, I1.fh, a1, w1, fun v F' H' d x a w => q v F' H' ds1 d (x1.tr I1 x.pure) (I1.pure x) a w⟩
/-- keywords: gV puts them in their places -/
theorem ev_callK {A : AD} {E : XK} {ta tk : TA} {gV : List V → List V → List V} {gD : List PyData → List PyData → List PyData} (hg : ∀ F vs zs xs ys, DaAll F vs xs → DaAll F zs ys → DaAll F (gV vs zs) (gD xs ys))
    (h : EvA S ta ds fun ds1 xs => EvA S tk ds1 fun ds2 ys => A (gD xs ys) (W ds2)) : EvD S (tCallK (spG A) gV E ta tk) ds W := fun H0 F H σ Q I q =>
  h H0 F H σ _ I fun vs F1 H1 ds1 xs x1 I1 a1 w1 => w1 H0 F1 H1 σ _ I1 fun zs F2 H2 ds2 ys x2 I2 a2 w2 =>
    ⟨F2, gD xs ys, W ds2, I2.fh, hg _ _ _ _ _ (a1.mono x2.ff) a2, w2, fun v F' H' d x a w => q v F' H' ds2 d ((x1.tr I1 x2).tr I2 x.pure) (I2.pure x) a w⟩
theorem StAt.shape {F H : Hp} {v : V} {m : Nat} (h : StAt S F H v m) : ∃ a l, S = some (a, l) ∧ v = .ref a := by
  obtain ⟨a, l, c, cs, ls, n, h1, h2, _⟩ := h
  exact ⟨a, l, h1, h2⟩
theorem StAt.hS {F H : Hp} {v : V} {m : Nat} (h : StAt S F H v m) : ∀ b, inS S b → H b ≠ none := by
  obtain ⟨a, l, c, cs, ls, n, h1, h2, h3, h4, h5, _⟩ := h
  intro b q
  rw [h1] at q
  rcases q with q | q
  · rw [q]
    show H a ≠ none
    rw [h4]; exact fun z => by cases z
  · rw [q]
    show H l ≠ none
    rw [h5]; exact fun z => by cases z
/-- behind a callee that has drawn -/
theorem Ents.drawn {H0 F H F' H' : Hp} {σ : St} {i : Nat} {v0 : V} {m m' : Nat} (I : Ents S H0 F H σ ds) (hi : ds[i]? = some (.st m)) (hv : slot σ i = some v0) (u : ∀ j k, ds[j]? = some (.st k) → j = i)
    (x : Ext S F H F' H') (hs : StAt S F' H' v0 m') (fS : ∀ b, inS S b → F' b = none) : Ents S H0 F' H' σ (ds.set i (.st m')) where
  fh := x.fh
  fS := fS
  hS := hs.hS
  len := by rw [List.length_set]; exact I.len
  at_ := fun j e q => by
    by_cases z : i = j
    · subst z
      rw [List.getElem?_set_self (List.getElem?_eq_some_iff.mp hi).1] at q
      cases q
      exact ⟨v0, hv, hs⟩
    · rw [List.getElem?_set_ne z] at q
      have k := I.at_ j e q
      cases e with
      | no => trivial
      | dat d =>
        obtain ⟨v, h1, h2⟩ := k
        exact ⟨v, h1, h2.mono x.ff⟩
      | own xs =>
        obtain ⟨l, vs, h1, h2, h3, h4, h5, h6⟩ := k
        exact ⟨l, vs, h1, h2, h3, x.nw l (by rw [h5]; exact fun z => by cases z) h4, x.hh _ _ h2 h5, h6.mono x.ff⟩
      | st k2 => exact absurd (u j k2 q).symm z
      | rg n =>
        obtain ⟨a, h1, h2⟩ := k
        exact ⟨a, h1, x.ff _ _ h2⟩
      | scr K ns =>
        obtain ⟨a, h1, h2⟩ := k
        exact ⟨a, h1, sql_mono h2 x.ff⟩
  ap := fun j k l xs ys e1 e2 s1 s2 => by
    have nj : i ≠ j := fun z => by
      subst z
      rw [List.getElem?_set_self (List.getElem?_eq_some_iff.mp hi).1] at e1; cases e1
    have nk : i ≠ k := fun z => by
      subst z
      rw [List.getElem?_set_self (List.getElem?_eq_some_iff.mp hi).1] at e2; cases e2
    rw [List.getElem?_set_ne nj] at e1
    rw [List.getElem?_set_ne nk] at e2
    exact I.ap j k l xs ys e1 e2 s1 s2
/-- two slots can't both hold the state: they are told apart by what is written -/
def oneSt (ds : List Ent) (i : Nat) : Prop := ∀ j k, ds[j]? = some (.st k) → j = i
theorem ev_callS {A : AS} {E : XK} {ta : TA} {i : Nat} {m : Nat} (hi : ds[i]? = some (.st m)) (h : EvA S ta ds fun ds1 xs => ∃ m1, ds1[i]? = some (.st m1) ∧ oneSt ds1 i ∧ A m1 xs fun m' d => W (ds1.set i (.st m')) d) :
    EvD S (tCall (spS A) [] E (tCons (tVar i) ta)) ds W := fun H0 F H σ Q I q => by
  obtain ⟨v0, hv, hs⟩ := I.at_ i _ hi
  refine ⟨v0, slot_some hv, ?_⟩
  refine h H0 F H σ _ I fun vs F1 H1 ds1 xs x1 I1 a1 ⟨m1, hi1, u1, w1⟩ => ?_
  show spS A ((v0 :: vs) ++ []) H1 Q E
  rw [List.append_nil]
  obtain ⟨v1, hv1, hs1⟩ := I1.at_ i _ hi1
  rw [hv] at hv1
  have ev : v0 = v1 := Option.some.inj hv1
  subst ev
  exact ⟨S, F1, m1, v0, vs, xs, _, rfl, I1.fh, I1.fS, hs1, a1, w1, fun v F' H' m' d x s' fS' a w => q v F' H' _ d (x1.tr I1 x) (I1.drawn hi1 hv u1 x s' fS') a w⟩
end

/-! ### statements -/
/-- an exception's fields -/
def DaFs (F : Hp) (fs : List (Str × V)) (ys : List (Str × PyData)) : Prop := ∀ f d, ys.lookup f = some d → ∃ v, fs.lookup f = some v ∧ Da F v d
structure DEnds where
  nx : List Ent → Prop
  rt : List Ent → PyData → Prop
  bk : List Ent → Prop := fun _ => False
  ct : List Ent → Prop := fun _ => False
  /-- the wish of an exception, the classes by names, what is said of an exception -/
  xw : WX := fun _ _ _ _ => False
  cl : Str → Value := fun _ => .none
  xc : List Ent → Str → List (Str × PyData) → Prop := fun _ _ _ => False
structure Good (S : SA) (F0 H0 : Hp) (E : DEnds) (D : Ends) : Prop where
  nx : ∀ F' H' σ' ds', Ext S F0 H0 F' H' → Ents S H0 F' H' σ' ds' → E.nx ds' → D.nx σ' H'
  rt : ∀ F' H' σ' ds' v d, Ext S F0 H0 F' H' → Ents S H0 F' H' σ' ds' → Da F' v d → E.rt ds' d → D.rt v H'
  bk : ∀ F' H' σ' ds', Ext S F0 H0 F' H' → Ents S H0 F' H' σ' ds' → E.bk ds' → D.bk σ' H'
  ct : ∀ F' H' σ' ds', Ext S F0 H0 F' H' → Ents S H0 F' H' σ' ds' → E.ct ds' → D.ct σ' H'
  xe : ∀ F' H' σ' ds' x dd fs ys, Ext S F0 H0 F' H' → Ents S H0 F' H' σ' ds' → H' dd = some (.xd fs) → DaFs F' fs ys → E.xc ds' x ys → E.xw (E.cl x) (some dd) σ' H'
def StD (S : SA) (ts : TS) (E : DEnds) (ds : List Ent) : Prop :=
  ∀ (H0 F0 F H : Hp) (σ : St) (D : Ends), Ext S F0 H0 F H → Ents S H0 F H σ ds → Good S F0 H0 E D → ts D σ H
/-- relative to the entry: a step -/
theorem Ext.step {S : SA} {F0 H0 F H F' H' : Hp} {σ : St} {ds : List Ent} (a : Ext S F0 H0 F H) (I : Ents S H0 F H σ ds) (b : Ext S F H F' H') : Ext S F0 H0 F' H' :=
  a.trans b fun c q _ => I.hS c q
theorem Ext.base {S : SA} {F0 H0 F1 H1 F' H' : Hp} (a : Ext S F0 H0 F1 H1) (b : Ext S F1 H0 F' H') : Ext S F0 H0 F' H' :=
  ⟨a.ff.trans b.ff, b.fh, b.hh, fun c n e => b.nw c n (a.nw c n e)⟩
theorem Ext.rebase {S : SA} {F0 H0 F1 H1 : Hp} (a : Ext S F0 H0 F1 H1) : Ext S F1 H0 F1 H1 := ⟨Same.refl _, a.fh, a.hh, fun _ _ e => e⟩
theorem Good.base {S : SA} {F0 H0 F1 H1 : Hp} {E : DEnds} {D : Ends} (g : Good S F0 H0 E D) (a : Ext S F0 H0 F1 H1) : Good S F1 H0 E D :=
  ⟨fun F' H' σ' ds' x => g.nx F' H' σ' ds' (a.base x), fun F' H' σ' ds' v d x => g.rt F' H' σ' ds' v d (a.base x), fun F' H' σ' ds' x => g.bk F' H' σ' ds' (a.base x), fun F' H' σ' ds' x => g.ct F' H' σ' ds' (a.base x), fun F' H' σ' ds' x dd fs ys y => g.xe F' H' σ' ds' x dd fs ys (a.base y)⟩
section
variable {S : SA} {ds : List Ent} {E : DEnds} {t u : TS} {te : TE} {tt : TT}
theorem st_next (w : E.nx ds) : StD S tNext E ds := fun H0 F0 F H σ D x I g => g.nx F H σ ds x I w
theorem st_seq (h : StD S t { E with nx := StD S u E } ds) : StD S (tSeq t u) E ds := fun H0 F0 F H σ D x I g =>
  h H0 F0 F H σ _ x I ⟨fun F' H' σ' ds' x' I' w => w H0 F0 F' H' σ' D x' I' g, g.rt, g.bk, g.ct, g.xe⟩
theorem st_asg {i : Nat} (h : EvD S te ds fun ds1 d => E.nx (ds1.set i (.dat d))) : StD S (tAsg te (gName i)) E ds := fun H0 F0 F H σ D x I g =>
  h H0 F H σ _ I fun v F' H' ds' d x' I' a w => g.nx F' H' _ _ (x.step I x') (I'.put a) w
theorem st_drop (h : EvD S te ds fun ds1 _ => E.nx ds1) : StD S (tDrop te) E ds := fun H0 F0 F H σ D x I g =>
  h H0 F H σ _ I fun v F' H' ds' d x' I' a w => g.nx F' H' _ _ (x.step I x') I' w
theorem st_ret (h : EvD S te ds E.rt) : StD S (tRet te) E ds := fun H0 F0 F H σ D x I g =>
  h H0 F H σ _ I fun v F' H' ds' d x' I' a w => g.rt F' H' _ _ v d (x.step I x') I' a w
theorem st_if (h : EvT S tt ds fun ds1 b => (b = true → StD S t E ds1) ∧ (b = false → StD S u E ds1)) : StD S (tIfS tt t u) E ds := fun H0 F0 F H σ D x I g =>
  h H0 F H σ _ I fun b F' H' ds' x' I' w => by
    cases b with
    | true => exact w.1 rfl H0 F0 F' H' σ D (x.step I x') I' g
    | false => exact w.2 rfl H0 F0 F' H' σ D (x.step I x') I' g
theorem st_break (w : E.bk ds) : StD S tBreak E ds := fun H0 F0 F H σ D x I g => g.bk F H σ ds x I w
theorem st_cont (w : E.ct ds) : StD S tCont E ds := fun H0 F0 F H σ D x I g => g.ct F H σ ds x I w
/-- x = [] for a list that is to grow -/
theorem st_own {i : Nat} (w : E.nx (ds.set i (.own []))) : StD S (tAsg (tLst tNil) (gName i)) E ds := fun H0 F0 F H σ D x I g =>
  ⟨Nat.zero_le _, fun p n => by
    by_cases n0 : H0 p = none
    · refine g.nx F _ _ _ ?_ (I.putOwn n n0 .nil) w
      exact ⟨x.ff, fun b o e => by rw [upd_ne (ne_of_none (I.fh _ _ e) n)]; exact I.fh b o e, fun b o q e => by
        have e1 := x.hh b o q e
        rw [upd_ne (ne_of_none e1 n)]; exact e1, x.nw⟩
    · exfalso
      cases e : H0 p with
      | none => exact n0 e
      | some o =>
        by_cases q : inS S p
        · exact I.hS p q n
        · have := x.hh p o q e
          rw [n] at this; cases this⟩
/-- xs.append(e) -/
theorem st_append {K : PySem.W.Frag} {i : Nat} (h : EvD S te ds fun ds1 d => ∃ xs, ds1[i]? = some (.own xs) ∧ xs.length ≤ 100000 ∧ E.nx (ds1.set i (.own (xs ++ [d])))) (hi : ∃ xs, ds[i]? = some (.own xs)) :
    StD S (tDrop (tBM K "list" rAppend (tVar i) (tCons te tNil))) E ds := fun H0 F0 F H σ D x I g => by
  obtain ⟨xs0, hi⟩ := hi
  obtain ⟨l, vs0, h1, h2, h3, h4, h5, h6⟩ := I.at_ i _ hi
  refine ⟨.ref l, slot_some h1, .inl ⟨rfl, vs0, .inl (.inl h5)⟩, ?_⟩
  refine h H0 F H σ _ I fun v F' H' ds' d x' I' a ⟨xs, e1, hl, w⟩ => ?_
  obtain ⟨l', vs, g1, g2, g3, g4, g5, g6⟩ := I'.at_ i _ e1
  rw [h1] at g1
  cases g1
  refine ⟨l, vs, v, rfl, rfl, g5, sz' (by rw [g6.length]; exact hl), ?_⟩
  have I2 := I'.change e1 h1 (g6.append (.one a))
  have X := x.step I x'
  exact g.nx F' _ σ _ ⟨X.ff, I2.fh, fun b o q e => by
    have nb : b ≠ l := fun z => by rw [z, h3] at e; cases e
    rw [upd_ne nb]; exact X.hh b o q e, X.nw⟩ I2 w
/-- xs.pop() -/
theorem st_pop {K : PySem.W.Frag} {i : Nat} {xs : List PyData} (hi : ds[i]? = some (.own xs)) (hne : xs ≠ []) (w : E.nx (ds.set i (.own xs.dropLast))) :
    StD S (tDrop (tBM0 K "list" rPop (tVar i))) E ds := fun H0 F0 F H σ D x I g => by
  obtain ⟨l, vs, h1, h2, h3, h4, h5, h6⟩ := I.at_ i _ hi
  have hn : vs ≠ [] := fun z => by
    subst z
    cases h6
    exact hne rfl
  have hlt : vs.length - 1 < vs.length := by
    have := List.length_pos_iff.mpr hn
    omega
  refine ⟨.ref l, slot_some h1, .inl ⟨rfl, vs, .inl (.inl h5)⟩, l, vs, vs[vs.length - 1], rfl, rfl, h5, List.getElem?_eq_getElem hlt, ?_⟩
  have I2 := I.change hi h1 h6.dropLast
  exact g.nx F _ σ _ ⟨x.ff, I2.fh, fun b o q e => by
    have nb : b ≠ l := fun z => by rw [z, h3] at e; cases e
    rw [upd_ne nb]; exact x.hh b o q e, x.nw⟩ I2 w
/-- a list of one's own is one's own no more -/
theorem st_freeze {i : Nat} {xs : List PyData} (hi : ds[i]? = some (.own xs)) (h : StD S t E (ds.set i (.dat (.list xs)))) : StD S t E ds := fun H0 F0 F H σ D x I g => by
  obtain ⟨F', f1, f2, f3, I2⟩ := I.freeze hi
  exact h H0 F0 F' H σ D ⟨x.ff.trans f1, f2, x.hh, fun b n e => f3 b n (x.nw b n e)⟩ I2 g
/-- own != [], own == [] -/
theorem et_ownNe {K : PySem.W.Frag} {i : Nat} {xs : List PyData} {W : List Ent → Bool → Prop} (hi : ds[i]? = some (.own xs)) (hs : SeqAt.shaped (.list xs) = true) (w : W ds (!PyData.eqv (.list xs) (.list []))) :
    EvT S (tTest (tOp (rNeD K) (tVar i) (tLst tNil))) ds W := fun H0 F H σ Q I q => by
  obtain ⟨l, vs, h1, h2, h3, h4, h5, h6⟩ := I.at_ i _ hi
  refine ⟨.ref l, slot_some h1, Nat.zero_le _, fun p n => ?_⟩
  have nl : l ≠ p := ne_of_none h5 n
  have X := Ext.new (o := .lst []) I.fh n
  refine ⟨.list xs, .list [], .lst (.inl (.inl (by rw [upd_ne nl]; exact h5))) ((h6.mono X.ff).dp X.fh), .lst (.inl (.inl upd_same)) .nil, hs, by decide, ?_⟩
  exact ⟨_, rfl, q _ _ _ ds X.pure (I.pure X) w⟩
/-- a, b = e1, e2 -/
theorem st_par {i j : Nat} {ta tb : TE} (h : EvD S ta ds fun ds1 d1 => EvD S tb ds1 fun ds2 d2 => E.nx ((ds2.set i (.dat d1)).set j (.dat d2))) : StD S (tPar i j (tCons ta (tCons tb tNil))) E ds := fun H0 F0 F H σ D x I g =>
  h H0 F H σ _ I fun v1 F1 H1 ds1 d1 x1 I1 a1 w1 => w1 H0 F1 H1 σ _ I1 fun v2 F2 H2 ds2 d2 x2 I2 a2 w2 =>
    ⟨v1, v2, rfl, g.nx F2 H2 _ _ ((x.step I x1).step I1 x2) ((I2.put (a1.mono x2.ff)).put a2) w2⟩
theorem Ext.newOwn {F0 H0 F H : Hp} {σ : St} {p : Addr} {o : HO} (x : Ext S F0 H0 F H) (I : Ents S H0 F H σ ds) (n : H p = none) : Ext S F0 H0 F (upd H p o) ∧ H0 p = none := by
  refine ⟨⟨x.ff, fun b o e => by rw [upd_ne (ne_of_none (I.fh _ _ e) n)]; exact I.fh b o e, fun b o q e => by
    have e1 := x.hh b o q e
    rw [upd_ne (ne_of_none e1 n)]; exact e1, x.nw⟩, ?_⟩
  cases e : H0 p with
  | none => rfl
  | some o =>
    by_cases q : inS S p
    · exact absurd n (I.hS p q)
    · have := x.hh p o q e
      rw [n] at this; cases this
/-- a, b = [], [] for two lists that are to grow -/
theorem st_par_own2 {i j : Nat} (w : E.nx ((ds.set i (.own [])).set j (.own []))) : StD S (tPar i j (tCons (tLst tNil) (tCons (tLst tNil) tNil))) E ds := fun H0 F0 F H σ D x I g => by
  refine ⟨Nat.zero_le _, fun p n => ⟨Nat.zero_le _, fun p2 n2 => ⟨.ref p, .ref p2, rfl, ?_⟩⟩⟩
  obtain ⟨x1, n0⟩ := x.newOwn (o := .lst []) I n
  have I1 := I.putOwn (i := i) (vs := []) (xs := []) n n0 .nil
  obtain ⟨x2, n02⟩ := x1.newOwn (o := .lst []) I1 n2
  exact g.nx F _ _ _ x2 (I1.putOwn (i := j) (vs := []) (xs := []) n2 n02 .nil) w
/-- a, b = e, [] -/
theorem st_par_own {i j : Nat} {ta : TE} (h : EvD S ta ds fun ds1 d1 => E.nx ((ds1.set i (.dat d1)).set j (.own []))) : StD S (tPar i j (tCons ta (tCons (tLst tNil) tNil))) E ds := fun H0 F0 F H σ D x I g =>
  h H0 F H σ _ I fun v1 F1 H1 ds1 d1 x1 I1 a1 w1 => ⟨Nat.zero_le _, fun p n => ⟨v1, .ref p, rfl, by
    have X := x.step I x1
    obtain ⟨X2, n0⟩ := X.newOwn (o := .lst []) I1 n
    exact g.nx F1 _ _ _ X2 ((I1.put (i := i) a1).putOwn (i := j) (vs := []) (xs := []) n n0 .nil) w1⟩⟩

/-! ### targets, loops -/
/-- an item of a walk: data, or a pair that was just made -/
def DaP (F : Hp) (v : V) (d : PyData) : Prop := Da F v d ∨ ∃ (a : Addr) (xs : List V) (ds : List PyData), v = .ref a ∧ F a = some (.tup xs) ∧ DaAll F xs ds ∧ d = .tuple ds
theorem DaP.tup_inv {F : Hp} {v : V} {ds : List PyData} (h : DaP F v (.tuple ds)) : ∃ a xs, v = .ref a ∧ (∀ (K : PySem.W.Frag) (H : Hp), Same F H → SqT K H a xs) ∧ DaAll F xs ds := by
  rcases h with h | ⟨a, xs, ds', e1, e2, r, e3⟩
  · obtain ⟨a, xs, e, h1, r⟩ := h.tup_inv
    exact ⟨a, xs, e, fun K H s => h1.sq s, r⟩
  · cases e3
    exact ⟨a, xs, e1, fun K H s => .inl (.inl (s _ _ e2)), r⟩
/-- what is no pair -/
def isPair : PyData → Bool
  | .tuple _ => true
  | _ => false
/-- Pd: Da, or DaP -/
abbrev PDa := Hp → V → PyData → Prop
def TgD (Pd : PDa) (S : SA) (g : TG) (d : PyData) (ds : List Ent) (G : List Ent → Prop) : Prop :=
  ∀ (H0 F H : Hp) (σ : St) (v : V) (R : St → Hp → Prop), Ents S H0 F H σ ds → Pd F v d → (∀ σ' ds', Ents S H0 F H σ' ds' → G ds' → R σ' H) → g v σ H R
def TgsD (S : SA) (g : TGs) (xs : List PyData) (ds : List Ent) (G : List Ent → Prop) : Prop :=
  ∀ (H0 F H : Hp) (σ : St) (vs : List V) (R : St → Hp → Prop), Ents S H0 F H σ ds → DaAll F vs xs → (∀ σ' ds', Ents S H0 F H σ' ds' → G ds' → R σ' H) → g vs σ H R
theorem tg_name {i : Nat} {d : PyData} {G : List Ent → Prop} (w : G (ds.set i (.dat d))) : TgD Da S (gName i) d ds G := fun H0 F H σ v R I a q => q _ _ (I.put a) w
theorem tgs_nil {G : List Ent → Prop} (w : G ds) : TgsD S gNil [] ds G := fun H0 F H σ vs R I a q => by
  cases a
  exact ⟨rfl, q σ ds I w⟩
theorem tgs_cons {g : TG} {gs : TGs} {d : PyData} {xs : List PyData} {G : List Ent → Prop} (h : TgD Da S g d ds fun ds1 => TgsD S gs xs ds1 G) : TgsD S (gCons g gs) (d :: xs) ds G := fun H0 F H σ vs R I a q => by
  cases a with
  | cons a r => exact ⟨_, _, rfl, h H0 F H σ _ _ I a fun σ' ds' I' w => w H0 F H σ' _ R I' r q⟩
theorem tg_tup {K : PySem.W.Frag} {n : Nat} {gs : TGs} {xs : List PyData} {G : List Ent → Prop} (hn : xs.length = n) (h : TgsD S gs xs ds G) : TgD DaP S (gTup K n gs) (.tuple xs) ds G := fun H0 F H σ v R I a q => by
  obtain ⟨p, vs, e, hp, r⟩ := a.tup_inv
  exact ⟨p, vs, e, hp K H I.fh, by rw [r.length]; exact hn, h H0 F H σ vs R I r q⟩
theorem tg_tupD {K : PySem.W.Frag} {n : Nat} {gs : TGs} {xs : List PyData} {G : List Ent → Prop} (hn : xs.length = n) (h : TgsD S gs xs ds G) : TgD Da S (gTup K n gs) (.tuple xs) ds G := fun H0 F H σ v R I a q =>
  tg_tup hn h H0 F H σ v R I (.inl a) q
theorem st_unpack {g : TG} (h : EvD S te ds fun ds1 d => TgD Da S g d ds1 E.nx) : StD S (tAsg te g) E ds := fun H0 F0 F H σ D x I gd =>
  h H0 F H σ _ I fun v F' H' ds' d x' I' a w => w H0 F' H' σ v _ I' a fun σ' ds'' I'' w' => gd.nx F' H' σ' ds'' (x.step I x') I'' w'

/-- what is walked: its items are data -/
structure Wk (Pd : PDa) (J : It) (F : Hp) (xs : List PyData) : Prop where
  go : ∀ i F2 H2, Same F F2 → Same F2 H2 → i < xs.length → J.go i H2
  yld : ∀ i F2 H2 v H3, Same F F2 → Same F2 H2 → i < xs.length → J.yld i H2 v H3 → ∃ d F3, xs[i]? = some d ∧ Ext none F2 H2 F3 H3 ∧ Pd F3 v d
  stop : ∀ F2 H2, Same F F2 → Same F2 H2 → J.stop xs.length H2
def ItD (Pd : PDa) (S : SA) (wi : TI) (ds : List Ent) (G : List Ent → List PyData → Prop) : Prop :=
  ∀ (H0 F H : Hp) (σ : St) (R : It → Hp → Prop), Ents S H0 F H σ ds → (∀ J F' H' ds' xs, Ext S F H F' H' → Ents S H0 F' H' σ ds' → Wk Pd J F' xs → G ds' xs → R J H') → wi σ H R
theorem st_for {Pd : PDa} {wi : TI} {g : TG} (h : ItD Pd S wi ds fun ds1 xs => ∃ Iv : Nat → List Ent → Prop, Iv 0 ds1 ∧ (∀ i d ds2, xs[i]? = some d → Iv i ds2 → TgD Pd S g d ds2 fun ds3 => StD S t { E with nx := Iv (i + 1), bk := E.nx, ct := Iv (i + 1) } ds3) ∧ ∀ ds2, Iv xs.length ds2 → E.nx ds2) :
    StD S (tFor wi g t) E ds := fun H0 F0 F H σ D x I gd =>
  h H0 F H σ _ I fun J F1 H1 ds1 xs x1 I1 wk ⟨Iv, i0, is, ie⟩ => by
    have X1 := x.step I x1
    refine ⟨fun i m σ' H' => m = xs.length - i ∧ i ≤ xs.length ∧ ∃ F' ds', Ext S F1 H0 F' H' ∧ Ents S H0 F' H' σ' ds' ∧ Iv i ds', ⟨_, rfl, Nat.zero_le _, F1, ds1, X1.rebase, I1, i0⟩, ?_⟩
    rintro i m σ' H' ⟨rfl, hi, F', ds', x', I', iv⟩
    by_cases hlt : i < xs.length
    · refine .inr ⟨wk.go i F' H' x'.ff I'.fh hlt, fun σ2 H2 => ∃ F2 ds2, Ext S F1 H0 F2 H2 ∧ Ents S H0 F2 H2 σ2 ds2 ∧ Iv (i + 1) ds2, fun σ2 H2 ⟨F2, ds2, y1, y2, y3⟩ => ⟨xs.length - (i + 1), by omega, rfl, hlt, F2, ds2, y1, y2, y3⟩, fun v H3 y => ?_⟩
      obtain ⟨d, F3, e, x3, a⟩ := wk.yld i F' H' v H3 x'.ff I'.fh hlt y
      have I3 := I'.pure x3
      have X3 := x'.step I' x3.pure
      refine is i d ds' e iv H0 F3 H3 σ' v _ I3 a fun σ4 ds4 I4 w => ?_
      have gb := gd.base X1
      exact w H0 F1 F3 H3 σ4 _ X3 I4 ⟨fun F' H' σ' ds' a b c => ⟨F', ds', a, b, c⟩, gb.rt, gb.nx, fun F' H' σ' ds' a b c => ⟨F', ds', a, b, c⟩, gb.xe⟩
    · have ei : i = xs.length := by omega
      subst ei
      exact .inl ⟨wk.stop F' H' x'.ff I'.fh, gd.nx F' H' σ' ds' (X1.base x') I' (ie _ iv)⟩
theorem st_while (Iv : Nat → List Ent → Prop) (m0 : Nat) (i0 : Iv m0 ds) (is : ∀ m ds1, Iv m ds1 → EvT S tt ds1 fun ds2 b => (b = true → StD S t { E with nx := fun ds3 => ∃ m', m' < m ∧ Iv m' ds3, bk := E.nx, ct := fun ds3 => ∃ m', m' < m ∧ Iv m' ds3 } ds2) ∧ (b = false → E.nx ds2)) :
    StD S (tWhile tt t) E ds := fun H0 F0 F H σ D x I gd =>
  ⟨fun m σ' H' => ∃ F' ds', Ext S F0 H0 F' H' ∧ Ents S H0 F' H' σ' ds' ∧ Iv m ds', ⟨m0, F, ds, x, I, i0⟩, by
    rintro m σ' H' ⟨F', ds', x', I', iv⟩
    refine is m ds' iv H0 F' H' σ' _ I' fun b F2 H2 ds2 x2 I2 w => ?_
    have X2 := x'.step I' x2
    cases b with
    | false => exact gd.nx F2 H2 σ' ds2 X2 I2 (w.2 rfl)
    | true =>
      refine ⟨fun σ3 H3 => ∃ m', m' < m ∧ ∃ F3 ds3, Ext S F0 H0 F3 H3 ∧ Ents S H0 F3 H3 σ3 ds3 ∧ Iv m' ds3, fun σ3 H3 q => q, ?_⟩
      exact w.1 rfl H0 F0 F2 H2 σ' _ X2 I2 ⟨fun F' H' σ' ds' a b ⟨m', c1, c2⟩ => ⟨m', c1, F', ds', a, b, c2⟩, gd.rt, gd.nx, fun F' H' σ' ds' a b ⟨m', c1, c2⟩ => ⟨m', c1, F', ds', a, b, c2⟩, gd.xe⟩⟩
end
end JR
set_option Elab.async false
set_option linter.all false
set_option maxRecDepth 100000
set_option maxHeartbeats 2000000
namespace JR
open PySem PySem.Spec L2 RZ

/-! ### comprehensions -/
def wipeE (ds : List Ent) : List Nat → List Ent
  | [] => ds
  | v :: vs => (wipeE ds vs).set v .no
theorem Ents.erase {S : SA} {H0 F H : Hp} {σ : St} {ds : List Ent} (h : Ents S H0 F H σ ds) (i : Nat) : Ents S H0 F H (σ.set i none) (ds.set i .no) where
  fh := h.fh
  fS := h.fS
  hS := h.hS
  len := by rw [List.length_set, List.length_set]; exact h.len
  at_ := fun j e q => by
    by_cases z : i = j
    · subst z
      have hl : i < ds.length := by
        have := (List.getElem?_eq_some_iff.mp q).1
        rwa [List.length_set] at this
      rw [List.getElem?_set_self hl] at q
      cases q
      trivial
    · rw [List.getElem?_set_ne z] at q
      rw [slot_set_ne z]
      exact h.at_ j e q
  ap := fun j k l xs ys e1 e2 s1 s2 => by
    have no : ∀ j (xs : List PyData), (ds.set i Ent.no)[j]? = some (Ent.own xs) → i ≠ j := fun j xs e1 z => by
      subst z
      have hl : i < ds.length := by
        have := (List.getElem?_eq_some_iff.mp e1).1
        rwa [List.length_set] at this
      rw [List.getElem?_set_self hl] at e1; cases e1
    have nj := no j xs e1
    have nk := no k ys e2
    rw [List.getElem?_set_ne nj] at e1
    rw [List.getElem?_set_ne nk] at e2
    rw [slot_set_ne nj] at s1
    rw [slot_set_ne nk] at s2
    exact h.ap j k l xs ys e1 e2 s1 s2
theorem Ents.wipe {S : SA} {H0 F H : Hp} {σ : St} {ds : List Ent} (h : Ents S H0 F H σ ds) : ∀ vs : List Nat, Ents S H0 F H (L2.wipe σ vs) (wipeE ds vs)
  | [] => h
  | v :: vs => (Ents.wipe h vs).erase v
theorem wipe_get (σ : St) : ∀ (vs : List Nat) (j : Nat), (L2.wipe σ vs)[j]? = if j ∈ vs then (σ[j]?).map (fun _ => none) else σ[j]?
  | [], j => by rw [if_neg (List.not_mem_nil)]; rfl
  | v :: vs, j => by
    show ((L2.wipe σ vs).set v none)[j]? = _
    by_cases h : v = j
    · subst h
      rw [if_pos List.mem_cons_self]
      by_cases hl : v < σ.length
      · rw [List.getElem?_set_self (by rw [wipe_length]; exact hl), List.getElem?_eq_getElem hl]; rfl
      · rw [List.getElem?_eq_none (by rw [List.length_set, wipe_length]; omega), List.getElem?_eq_none (by omega)]; rfl
    · rw [List.getElem?_set_ne h, wipe_get σ vs j]
      by_cases hm : j ∈ vs
      · rw [if_pos hm, if_pos (List.mem_cons_of_mem _ hm)]
      · rw [if_neg hm, if_neg (fun q => by
          rcases List.mem_cons.mp q with e | e
          · exact h e.symm
          · exact hm e)]
theorem wipe_set {σ : St} {vs : List Nat} {i : Nat} {o : Option V} (hi : i ∈ vs) : L2.wipe ((L2.wipe σ vs).set i o) vs = L2.wipe σ vs := by
  apply List.ext_getElem?
  intro j
  rw [wipe_get]
  by_cases hj : j ∈ vs
  · rw [if_pos hj, wipe_get, if_pos hj]
    by_cases e : i = j
    · subst e
      by_cases hl : i < σ.length
      · rw [List.getElem?_set_self (by rw [wipe_length]; exact hl), List.getElem?_eq_getElem hl]; rfl
      · rw [List.getElem?_eq_none (by rw [List.length_set, wipe_length]; omega), List.getElem?_eq_none (by omega)]
    · rw [List.getElem?_set_ne e, wipe_get, if_pos hj, Option.map_map]; rfl
  · have e : i ≠ j := fun z => hj (by rw [← z]; exact hi)
    rw [if_neg hj, List.getElem?_set_ne e]
theorem wipe_wipe {σ σ2 : St} {vs : List Nat} {i : Nat} {o : Option V} (hi : i ∈ vs) (h : L2.wipe σ2 vs = L2.wipe σ vs) : L2.wipe (σ2.set i o) vs = L2.wipe σ vs := by
  rw [← h]
  apply List.ext_getElem?
  intro j
  rw [wipe_get, wipe_get]
  by_cases hj : j ∈ vs
  · rw [if_pos hj, if_pos hj]
    by_cases e : i = j
    · subst e
      by_cases hl : i < σ2.length
      · rw [List.getElem?_set_self hl, List.getElem?_eq_getElem hl]; rfl
      · rw [List.getElem?_eq_none (by rw [List.length_set]; omega), List.getElem?_eq_none (by omega)]
    · rw [List.getElem?_set_ne e]
  · have e : i ≠ j := fun z => hj (by rw [← z]; exact hi)
    rw [if_neg hj, if_neg hj, List.getElem?_set_ne e]
/-- a comprehension's target: it stores its own names alone -/
def TgC (Pd : PDa) (vs : List Nat) (g : TG) (d : PyData) (ds : List Ent) (G : List Ent → Prop) : Prop :=
  ∀ (H0 F H : Hp) (σ σ2 : St) (v : V) (R : St → Hp → Prop), Ents none H0 F H σ2 ds → L2.wipe σ2 vs = L2.wipe σ vs → Pd F v d → (∀ σ' ds', Ents none H0 F H σ' ds' → L2.wipe σ' vs = L2.wipe σ vs → G ds' → R σ' H) → g v σ2 H R
def TgsC (vs : List Nat) (g : TGs) (xs : List PyData) (ds : List Ent) (G : List Ent → Prop) : Prop :=
  ∀ (H0 F H : Hp) (σ σ2 : St) (v : List V) (R : St → Hp → Prop), Ents none H0 F H σ2 ds → L2.wipe σ2 vs = L2.wipe σ vs → DaAll F v xs → (∀ σ' ds', Ents none H0 F H σ' ds' → L2.wipe σ' vs = L2.wipe σ vs → G ds' → R σ' H) → g v σ2 H R
theorem tc_name {vs : List Nat} {i : Nat} {d : PyData} {ds : List Ent} {G : List Ent → Prop} (hi : i ∈ vs) (w : G (ds.set i (.dat d))) : TgC Da vs (gName i) d ds G := fun H0 F H σ σ2 v R I e a q => q _ _ (I.put a) (wipe_wipe hi e) w
theorem tcs_nil {vs : List Nat} {ds : List Ent} {G : List Ent → Prop} (w : G ds) : TgsC vs gNil [] ds G := fun H0 F H σ σ2 v R I e a q => by
  cases a
  exact ⟨rfl, q σ2 ds I e w⟩
theorem tcs_cons {vs : List Nat} {g : TG} {gs : TGs} {d : PyData} {xs : List PyData} {ds : List Ent} {G : List Ent → Prop} (h : TgC Da vs g d ds fun ds1 => TgsC vs gs xs ds1 G) : TgsC vs (gCons g gs) (d :: xs) ds G := fun H0 F H σ σ2 v R I e a q => by
  cases a with
  | cons a r => exact ⟨_, _, rfl, h H0 F H σ σ2 _ _ I e a fun σ' ds' I' e' w => w H0 F H σ σ' _ R I' e' r q⟩
theorem tc_tup {K : PySem.W.Frag} {n : Nat} {vs : List Nat} {gs : TGs} {xs : List PyData} {ds : List Ent} {G : List Ent → Prop} (hn : xs.length = n) (h : TgsC vs gs xs ds G) : TgC DaP vs (gTup K n gs) (.tuple xs) ds G := fun H0 F H σ σ2 v R I e a q => by
  obtain ⟨p, ws, ev, hp, r⟩ := a.tup_inv
  exact ⟨p, ws, ev, hp K H I.fh, by rw [r.length]; exact hn, h H0 F H σ σ2 ws R I e r q⟩
theorem tc_tupD {K : PySem.W.Frag} {n : Nat} {vs : List Nat} {gs : TGs} {xs : List PyData} {ds : List Ent} {G : List Ent → Prop} (hn : xs.length = n) (h : TgsC vs gs xs ds G) : TgC Da vs (gTup K n gs) (.tuple xs) ds G := fun H0 F H σ σ2 v R I e a q =>
  tc_tup hn h H0 F H σ σ2 v R I e (.inl a) q
/-- [e for target in iter if ..]; Iv: what is made so far -/
theorem ev_lc {Pd : PDa} {wi : TI} {g : TG} {tt : TT} {te : TE} {vs : List Nat} {ds : List Ent} {W : List Ent → PyData → Prop}
    (h : ItD Pd none wi ds fun ds1 xs => xs.length ≤ 100000 ∧ ∃ Iv : Nat → List PyData → Prop, Iv 0 [] ∧
      (∀ i d acc, xs[i]? = some d → acc.length ≤ i → Iv i acc → TgC Pd vs g d (wipeE ds1 vs) fun ds2 => EvT none tt ds2 fun ds3 b => (b = true → EvD none te ds3 fun _ y => Iv (i + 1) (acc ++ [y])) ∧ (b = false → Iv (i + 1) acc)) ∧
      ∀ acc, acc.length ≤ xs.length → Iv xs.length acc → W ds1 (.list acc)) : EvD none (tLc wi g tt te vs) ds W := fun H0 F H σ Q I q =>
  h H0 F H σ _ I fun J F1 H1 ds1 xs x1 I1 wk ⟨hlen, Iv, i0, is, ie⟩ D hD => by
    have fD : F1 D = none := I1.fh.free hD
    refine ⟨fun i m H' => m = xs.length - i ∧ i ≤ xs.length ∧ ∃ F' acc accV, Ext none F1 H1 F' H' ∧ F' D = none ∧ H' D = some (.lst accV) ∧ DaAll F' accV acc ∧ acc.length ≤ i ∧ Iv i acc,
      ⟨_, rfl, Nat.zero_le _, F1, [], [], ⟨Same.refl _, fun b o e => by rw [upd_ne (ne_of_none e fD)]; exact I1.fh b o e, fun b o _ e => by rw [upd_ne (ne_of_none e hD)]; exact e, fun _ _ e => e⟩, fD, upd_same, .nil, Nat.le_refl _, i0⟩, ?_⟩
    rintro i m H' ⟨rfl, hi, F', acc, accV, x', f', h', r', l', iv⟩
    have I' := I1.pure x'
    by_cases hlt : i < xs.length
    · refine .inr ⟨wk.go i F' H' x'.ff I'.fh hlt, fun H2 => ∃ F2 acc2 accV2, Ext none F1 H1 F2 H2 ∧ F2 D = none ∧ H2 D = some (.lst accV2) ∧ DaAll F2 accV2 acc2 ∧ acc2.length ≤ i + 1 ∧ Iv (i + 1) acc2,
        fun H2 ⟨F2, acc2, accV2, y⟩ => ⟨xs.length - (i + 1), by omega, rfl, hlt, F2, acc2, accV2, y⟩, fun v H3 y => ?_⟩
      obtain ⟨d, F3, e, x3, a⟩ := wk.yld i F' H' v H3 x'.ff I'.fh hlt y
      have I3 := (I'.pure x3).wipe vs
      have X3 := x'.transP x3
      have f3 : F3 D = none := x3.nw D (by rw [h']; exact fun z => by cases z) f'
      have h3 : H3 D = some (.lst accV) := x3.hh D _ (not_inS_none D) h'
      have hw : L2.wipe (L2.wipe σ vs) vs = L2.wipe σ vs := by
        apply List.ext_getElem?
        intro j
        rw [wipe_get, wipe_get]
        by_cases hj : j ∈ vs
        · rw [if_pos hj, if_pos hj, Option.map_map]; rfl
        · rw [if_neg hj, if_neg hj]
      refine is i d acc e l' iv H0 F3 H3 σ (L2.wipe σ vs) v _ I3 hw a fun σ4 ds4 I4 e4 w4 => ⟨e4, ?_⟩
      refine w4 H0 F3 H3 σ4 _ I4 fun b F5 H5 ds5 x5 I5 w5 => ?_
      have X5 := X3.transP x5
      have f5 : F5 D = none := x5.nw D (by rw [h3]; exact fun z => by cases z) f3
      have h5 : H5 D = some (.lst accV) := x5.hh D _ (not_inS_none D) h3
      have r5 : DaAll F5 accV acc := (r'.mono x3.ff).mono x5.ff
      cases b with
      | false => exact ⟨F5, acc, accV, X5, f5, h5, r5, by omega, w5.2 rfl⟩
      | true =>
        refine w5.1 rfl H0 F5 H5 σ4 _ I5 fun y F6 H6 ds6 dy x6 I6 a6 w6 => ?_
        have f6 : F6 D = none := x6.nw D (by rw [h5]; exact fun z => by cases z) f5
        have h6 : H6 D = some (.lst accV) := x6.hh D _ (not_inS_none D) h5
        have X6 := X5.transP x6
        refine ⟨accV, h6, sz' (by rw [r5.length]; omega), F6, acc ++ [dy], accV ++ [y], ⟨X6.ff, fun b o e => by rw [upd_ne (ne_of_none e f6)]; exact X6.fh b o e, fun b o _ e => by rw [upd_ne (ne_of_none e hD)]; exact X6.hh b o (not_inS_none b) e, X6.nw⟩, f6, upd_same, (r5.mono x6.ff).append (.one a6), by rw [List.length_append, List.length_singleton]; omega, w6⟩
    · have ei : i = xs.length := by omega
      subst ei
      refine .inl ⟨wk.stop F' H' x'.ff I'.fh, ?_⟩
      have kp : Same F' (upd F' D (.lst accV)) := fun b o e => by rw [upd_ne (ne_of_none e f')]; exact e
      have X : Ext none F1 H1 (upd F' D (.lst accV)) H' := ⟨x'.ff.trans kp, fun b o e => by
        by_cases z : b = D
        · subst z
          rw [upd_same] at e; cases e
          exact h'
        · rw [upd_ne z] at e
          exact x'.fh b o e, x'.hh, fun b n e => by
        have nb : b ≠ D := fun z => n (by rw [z]; exact hD)
        rw [upd_ne nb]; exact x'.nw b n e⟩
      exact q _ _ _ ds1 _ (x1.transP X) (I1.pure X) (.lst upd_same (r'.mono kp)) (ie acc l' iv)

/-! ### what is walked -/
theorem Da.new_pair {F H : Hp} {p : Addr} {vs : List V} {xs : List PyData} (e : Same F H) (n : H p = none) (h : DaAll F vs xs) : DaP (upd F p (.tup vs)) (.ref p) (.tuple xs) :=
  .inr ⟨p, vs, xs, rfl, upd_same, h.mono (Ext.new (o := .tup vs) e n).ff, rfl⟩
section
variable {K : PySem.W.Frag} {F : Hp} {a : Addr} {vs : List V} {xs : List PyData}
theorem wk_list (h : F a = some (.lst vs)) (r : DaAll F vs xs) : Wk Da (Itl K a) F xs where
  go := fun i F2 H2 e1 e2 hi => by
    have hv : i < vs.length := by rw [r.length]; exact hi
    exact ⟨vs, vs[i], .inl (.inl (e2 _ _ (e1 _ _ h))), List.getElem?_eq_getElem hv⟩
  yld := fun i F2 H2 v H3 e1 e2 hi ⟨eH, q⟩ => by
    subst eH
    obtain ⟨d, h1, h2⟩ := r.got (q vs (.inl (.inl (e2 _ _ (e1 _ _ h)))))
    exact ⟨d, F2, h1, Ext.refl e2, h2.mono e1⟩
  stop := fun F2 H2 e1 e2 => ⟨vs, .inl (.inl (e2 _ _ (e1 _ _ h))), by rw [r.length]; exact Nat.le_refl _⟩
theorem wk_tup (h : TupF F a vs) (r : DaAll F vs xs) : Wk Da (Itt K a) F xs where
  go := fun i F2 H2 e1 e2 hi => by
    have hv : i < vs.length := by rw [r.length]; exact hi
    exact ⟨vs, vs[i], (h.mono e1).sq e2, List.getElem?_eq_getElem hv⟩
  yld := fun i F2 H2 v H3 e1 e2 hi ⟨eH, q⟩ => by
    subst eH
    obtain ⟨d, h1, h2⟩ := r.got (q vs ((h.mono e1).sq e2))
    exact ⟨d, F2, h1, Ext.refl e2, h2.mono e1⟩
  stop := fun F2 H2 e1 e2 => ⟨vs, (h.mono e1).sq e2, by rw [r.length]; exact Nat.le_refl _⟩
theorem wk_range {lo : Int} {n : Nat} : Wk Da (Itr lo n) F ((List.range n).map fun k => PyData.int (lo + (k : Nat))) where
  go := fun i F2 H2 e1 e2 hi => by
    rw [List.length_map, List.length_range] at hi; exact hi
  yld := fun i F2 H2 v H3 e1 e2 hi ⟨eH, q⟩ => by
    subst eH q
    rw [List.length_map, List.length_range] at hi
    exact ⟨.int (lo + (i : Nat)), F2, by rw [List.getElem?_map, List.getElem?_range hi]; rfl, Ext.refl e2, .int _⟩
  stop := fun F2 H2 e1 e2 => by
    rw [List.length_map, List.length_range]; exact Nat.le_refl n
theorem wk_rangeC {lo c : Int} {n : Nat} : Wk Da (Itc lo c n) F ((List.range n).map fun k => PyData.int (lo + (k : Nat) * c)) where
  go := fun i F2 H2 e1 e2 hi => by
    rw [List.length_map, List.length_range] at hi; exact hi
  yld := fun i F2 H2 v H3 e1 e2 hi ⟨eH, q⟩ => by
    subst eH q
    rw [List.length_map, List.length_range] at hi
    exact ⟨.int (lo + (i : Nat) * c), F2, by rw [List.getElem?_map, List.getElem?_range hi]; rfl, Ext.refl e2, .int _⟩
  stop := fun F2 H2 e1 e2 => by
    rw [List.length_map, List.length_range]; exact Nat.le_refl n
theorem rev_get {α : Type} (l : List α) {i : Nat} (h : i < l.length) : l.reverse[i]? = l[l.length - 1 - i]? := by
  rw [List.getElem?_reverse h]
theorem wk_rev (h : F a = some (.lst vs)) (r : DaAll F vs xs) : Wk Da (Itv K a vs.length) F xs.reverse where
  go := fun i F2 H2 e1 e2 hi => by
    rw [List.length_reverse, ← r.length] at hi
    exact ⟨hi, vs, vs[vs.length - 1 - i]'(by omega), .inl (.inl (e2 _ _ (e1 _ _ h))), List.getElem?_eq_getElem _⟩
  yld := fun i F2 H2 v H3 e1 e2 hi ⟨eH, q⟩ => by
    subst eH
    rw [List.length_reverse] at hi
    obtain ⟨d, h1, h2⟩ := r.got (q vs (.inl (.inl (e2 _ _ (e1 _ _ h)))))
    refine ⟨d, F2, ?_, Ext.refl e2, h2.mono e1⟩
    rw [rev_get xs hi, ← r.length]; exact h1
  stop := fun F2 H2 e1 e2 => by
    rw [List.length_reverse, ← r.length]; exact Nat.le_refl vs.length
/-- pairs: new tuples -/
theorem wk_zipT {b : Addr} {ws : List V} {ys : List PyData} (h : TupF F a vs) (r : DaAll F vs xs) (h2 : TupF F b ws) (r2 : DaAll F ws ys) : Wk DaP (ItzT K a b) F ((xs.zip ys).map fun p => PyData.tuple [p.1, p.2]) where
  go := fun i F2 H2 e1 e2 hi => by
    rw [List.length_map, List.length_zip] at hi
    have l1 := r.length
    have l2 := r2.length
    have i1 : i < vs.length := by omega
    have i2 : i < ws.length := by omega
    exact ⟨vs, ws, vs[i], ws[i], (h.mono e1).sq e2, (h2.mono e1).sq e2, List.getElem?_eq_getElem i1, List.getElem?_eq_getElem i2⟩
  yld := fun i F2 H2 v H3 e1 e2 hi ⟨T, x, y, ev, n, eH, q1, q2⟩ => by
    subst ev eH
    obtain ⟨d, g1, g2⟩ := r.got (q1 vs ((h.mono e1).sq e2))
    obtain ⟨d', g1', g2'⟩ := r2.got (q2 ws ((h2.mono e1).sq e2))
    refine ⟨.tuple [d, d'], _, ?_, Ext.new (o := .tup [x, y]) e2 n, Da.new_pair e2 n (.cons (g2.mono e1) (.one (g2'.mono e1)))⟩
    rw [List.getElem?_map, List.getElem?_zip_eq_some (z := (d, d')).mpr ⟨g1, g1'⟩]; rfl
  stop := fun F2 H2 e1 e2 => by
    refine ⟨vs, ws, (h.mono e1).sq e2, (h2.mono e1).sq e2, ?_⟩
    rw [List.length_map, List.length_zip, r.length, r2.length]
    omega
theorem wk_enum (h : F a = some (.lst vs)) (r : DaAll F vs xs) : Wk DaP (Ite K a) F ((List.range xs.length).zip xs |>.map fun p => PyData.tuple [.int (p.1 : Nat), p.2]) where
  go := fun i F2 H2 e1 e2 hi => by
    rw [List.length_map, List.length_zip, List.length_range] at hi
    have l1 := r.length
    have i1 : i < vs.length := by omega
    exact ⟨vs, vs[i], .inl (.inl (e2 _ _ (e1 _ _ h))), List.getElem?_eq_getElem i1⟩
  yld := fun i F2 H2 v H3 e1 e2 hi ⟨T, x, ev, n, eH, q1⟩ => by
    subst ev eH
    rw [List.length_map, List.length_zip, List.length_range] at hi
    obtain ⟨d, g1, g2⟩ := r.got (q1 vs (.inl (.inl (e2 _ _ (e1 _ _ h)))))
    refine ⟨.tuple [.int (i : Nat), d], _, ?_, Ext.new (o := .tup [.int (i : Nat), x]) e2 n, Da.new_pair e2 n (.cons (.int _) (.one (g2.mono e1)))⟩
    rw [List.getElem?_map, List.getElem?_zip_eq_some (z := (i, d)).mpr ⟨List.getElem?_range (by omega), g1⟩]; rfl
  stop := fun F2 H2 e1 e2 => by
    refine ⟨vs, .inl (.inl (e2 _ _ (e1 _ _ h))), ?_⟩
    rw [List.length_map, List.length_zip, List.length_range, r.length]
    omega
end
section
variable {S : SA} {K : PySem.W.Frag} {ds : List Ent} {G : List Ent → List PyData → Prop} {te : TE} {ta : TA}
theorem it_list (h : EvD S te ds fun ds1 d => ∃ xs, d = .list xs ∧ G ds1 xs) : ItD Da S (iList K te) ds G := fun H0 F H σ R I q =>
  h H0 F H σ _ I fun v F1 H1 ds1 d x1 I1 a1 ⟨xs, e, w⟩ => by
    subst e
    obtain ⟨p, vs, ev, hp, r⟩ := a1.lst_inv
    exact ⟨p, ev, ⟨vs, .inl (.inl (I1.fh _ _ hp))⟩, q _ F1 H1 ds1 xs x1 I1 (wk_list hp r) w⟩
theorem it_tup (h : EvD S te ds fun ds1 d => ∃ xs, d = .tuple xs ∧ G ds1 xs) : ItD Da S (iTup K te) ds G := fun H0 F H σ R I q =>
  h H0 F H σ _ I fun v F1 H1 ds1 d x1 I1 a1 ⟨xs, e, w⟩ => by
    subst e
    obtain ⟨p, vs, ev, hp, r⟩ := a1.tup_inv
    exact ⟨p, ev, ⟨vs, hp.sq I1.fh⟩, q _ F1 H1 ds1 xs x1 I1 (wk_tup hp r) w⟩
theorem it_rng1 (h : EvA S ta ds fun ds1 ys => ∃ n : Int, ys = [.int n] ∧ n ≤ 100000 ∧ 0 ≤ n ∧ G ds1 ((List.range n.toNat).map fun k => PyData.int (k : Nat))) : ItD Da S (iRng1 ta) ds G := fun H0 F H σ R I q =>
  h H0 F H σ _ I fun vs F1 H1 ds1 ys x1 I1 a1 ⟨n, e, h1, h2, w⟩ => by
    subst e
    have ev : vs = [V.int n] := (DaAll.ints (ns := [n]) a1)
    refine ⟨n, ev, by omega, by omega, q _ F1 H1 ds1 _ x1 I1 wk_range ?_⟩
    have e2 : (fun k : Nat => PyData.int (0 + (k : Nat))) = fun k : Nat => PyData.int (k : Nat) := by
      funext k; rw [Int.zero_add]
    rw [e2]; exact w
theorem it_rng2 (h : EvA S ta ds fun ds1 ys => ∃ l n : Int, ys = [.int l, .int n] ∧ n ≤ 100000 ∧ 0 ≤ n ∧ l ≤ 100000 ∧ 0 ≤ l ∧ G ds1 ((List.range (n - l).toNat).map fun k => PyData.int (l + (k : Nat)))) : ItD Da S (iRng2 ta) ds G := fun H0 F H σ R I q =>
  h H0 F H σ _ I fun vs F1 H1 ds1 ys x1 I1 a1 ⟨l, n, e, h1, h2, h3, h4, w⟩ => by
    subst e
    have ev : vs = [V.int l, V.int n] := (DaAll.ints (ns := [l, n]) a1)
    exact ⟨l, n, ev, ⟨by omega, by omega, by omega, by omega⟩, q _ F1 H1 ds1 _ x1 I1 wk_range w⟩
theorem it_rev (h : EvA S ta ds fun ds1 ys => ∃ xs, ys = [.list xs] ∧ G ds1 xs.reverse) : ItD Da S (iRev K ta) ds G := fun H0 F H σ R I q =>
  h H0 F H σ _ I fun vs F1 H1 ds1 ys x1 I1 a1 ⟨xs, e, w⟩ => by
    subst e
    cases a1 with
    | cons a r =>
      cases r
      obtain ⟨p, ws, ev, hp, r⟩ := a.lst_inv
      subst ev
      exact ⟨p, ws, rfl, .inl (.inl (I1.fh _ _ hp)), q _ F1 H1 ds1 _ x1 I1 (wk_rev hp r) w⟩
theorem it_revR (h : EvD S te ds fun ds1 d => ∃ n : Int, d = .int n ∧ n ≤ 100000 ∧ 0 ≤ n ∧ G ds1 ((List.range n.toNat).map fun k => PyData.int (n - 1 - (k : Nat)))) : ItD Da S (iRevR (tRg1 te)) ds G := fun H0 F H σ R I q =>
  h H0 F H σ _ I fun v F1 H1 ds1 d x1 I1 a1 ⟨n, e, h1, h2, w⟩ => by
    subst e
    refine ⟨n, a1.int_inv, by omega, by omega, by omega, by omega, q _ F1 H1 ds1 _ x1 I1 wk_rangeC ?_⟩
    have e1 : (n - 0).toNat = n.toNat := by rw [Int.sub_zero]
    have e2 : (fun k : Nat => PyData.int (0 + (((n - 0).toNat : Nat) : Int) - 1 + (k : Nat) * (-1))) = fun k : Nat => PyData.int (n - 1 - (k : Nat)) := by
      funext k
      congr 1
      omega
    rw [e2, e1]; exact w
theorem it_enum (h : EvA S ta ds fun ds1 ys => ∃ xs, ys = [.list xs] ∧ G ds1 ((List.range xs.length).zip xs |>.map fun p => PyData.tuple [.int (p.1 : Nat), p.2])) : ItD DaP S (iEnum K ta) ds G := fun H0 F H σ R I q =>
  h H0 F H σ _ I fun vs F1 H1 ds1 ys x1 I1 a1 ⟨xs, e, w⟩ => by
    subst e
    cases a1 with
    | cons a r =>
      cases r
      obtain ⟨p, ws, ev, hp, r⟩ := a.lst_inv
      subst ev
      exact ⟨p, ws, rfl, .inl (.inl (I1.fh _ _ hp)), q _ F1 H1 ds1 _ x1 I1 (wk_enum hp r) w⟩
theorem it_zipT (h : EvA S ta ds fun ds1 zs => ∃ xs ys, zs = [.tuple xs, .tuple ys] ∧ G ds1 ((xs.zip ys).map fun p => PyData.tuple [p.1, p.2])) : ItD DaP S (iZipA K ta) ds G := fun H0 F H σ R I q =>
  h H0 F H σ _ I fun vs F1 H1 ds1 zs x1 I1 a1 ⟨xs, ys, e, w⟩ => by
    subst e
    cases a1 with
    | cons a r =>
      cases r with
      | cons b r =>
        cases r
        obtain ⟨p, ws, ev, hp, r⟩ := a.tup_inv
        obtain ⟨p2, ws2, ev2, hp2, r2⟩ := b.tup_inv
        subst ev ev2
        exact ⟨p, p2, ws, ws2, rfl, .inr ⟨hp.sq I1.fh, hp2.sq I1.fh, q _ F1 H1 ds1 _ x1 I1 (wk_zipT hp r hp2 r2) w⟩⟩
end
end JR
set_option Elab.async false
set_option linter.all false
set_option maxRecDepth 100000
set_option maxHeartbeats 4000000
/-! Rules of one's own beside the layer's: tuples summed, sorted, asked for a place, counted, turned round, walked with their places; repr of data; errors. -/
namespace JR
open PySem PySem.Spec L2
section
variable {X : Cx}
/-! ### sum of a tuple of ints -/
def rSumT (K : PySem.W.Frag) : List V → Hp → VK → Prop := fun vs H Q => ∃ (a : Addr) (ns : List Int), vs = [V.ref a] ∧ SqT K H a (ns.map V.int) ∧ Q (.int ns.sum) H
theorem cr_sumT (hc : X.calm = true) : CallR X (.builtin "sum") (rSumT X.K) := by
  rintro pins s σ H vs us Q I r ⟨a, ns, rfl, hs, q⟩
  obtain ⟨its, rv, ht, -⟩ := I.tuple hs
  have hi := rv.ints
  obtain ⟨xs, hx⟩ := hi.allInts.items
  have hn : numsOf its.toArray.toList = ns := hi.numsOf
  have et : s.heap.IsTuple a (intItems xs) := by rw [← hx]; exact ht
  rw [hx, nums_intItems] at hn
  rw [Vals.ref1 r]
  refine PySem.W.ktm_sumG (I.ok.hd hc) et fun h' tk t' hk => ⟨.int ns.sum, H, I.kept hk, ⟨t', ?_⟩, q⟩
  rw [preSum_eq, List.take_of_length_le (by simp), hn]
/-! ### t.index(x), t.count(x), t a tuple of ints -/
def rIdxT (K : PySem.W.Frag) : V → List V → Hp → VK → Prop := fun x xs H Q => ∃ (a : Addr) (ns : List Int) (k : Int), x = .ref a ∧ xs = [.int k] ∧ SqT K H a (ns.map V.int) ∧ k ∈ ns ∧ Q (.int (ns.idxOf k : Nat)) H
theorem mt_idxT : MtR X "tuple.index" (rIdxT X.K) := by
  rintro pins s σ H x xs v us Q I rx rs ⟨a, ns, k, rfl, rfl, hq, hk, q⟩
  cases rx
  obtain ⟨u, rfl, t, rfl⟩ := vals1 rs
  obtain ⟨its, r, pl, -⟩ := I.tuple hq
  exact SeqAt.tuple_index_ints pl r.ints hk ⟨.int (ns.idxOf k : Nat), H, I.tok _, ⟨_, rfl⟩, q⟩
def rCntT (K : PySem.W.Frag) : V → List V → Hp → VK → Prop := fun x xs H Q => ∃ (a : Addr) (ns : List Int) (k : Int), x = .ref a ∧ xs = [.int k] ∧ SqT K H a (ns.map V.int) ∧ Q (.int (ns.count k : Nat)) H
theorem countU (k : Int) : ∀ {ns : List Int} {us : List Value}, Vals (ns.map V.int) us → us.countP (eqU (.int k)) = ns.count k
  | [], _, h => by cases h; rfl
  | n :: ns, _, h => by
    cases h with
    | cons r t =>
      obtain ⟨t', rfl⟩ := r
      have e : eqU (.int k) (.int n t') = (n == k) := rfl
      rw [List.countP_cons, countU k t, List.count_cons, e]
theorem mt_cntT : MtR X "tuple.count" (rCntT X.K) := by
  rintro pins s σ H x xs v us Q I rx rs ⟨a, ns, k, rfl, rfl, hq, q⟩
  cases rx
  obtain ⟨u, rfl, t, rfl⟩ := vals1 rs
  obtain ⟨its, r, pl, -⟩ := I.tuple hq
  obtain ⟨⟨cls, dd, data, sl⟩, ho, hc, n, hd⟩ := pl
  simp only at hc hd
  subst hc hd
  refine call_meets F.slot_tuple_count ⟨_, ho, rfl⟩ F.entry_tuple_count (F.args_tuple_count_2 _ _) (SeqAt.tuple_countAt a its.toArray n dd sl (.int k t) (eqU (.int k))) ⟨ho, fun y hy => mem_eqAt (A := X.A.in1) (s := s) (x := .int k) (v := .int k t) ⟨t, rfl⟩ rfl r (flat_ints ns) y (by simpa using hy), ?_⟩
  refine ⟨.int (ns.count k : Nat), H, I.tok _, ⟨s.toks, ?_⟩, q⟩
  rw [show its.toArray.toList = its from rfl, countU k r]
/-- a method of a tuple that is known to its object -/
def tBMT (r : V → List V → Hp → VK → Prop) (to : TE) (t : TA) : TE := fun σ H Q => to σ H fun x H1 => (∃ a xs, x = .ref a ∧ TupF H1 a xs) ∧ t σ H1 fun xs H2 => r x xs H2 Q
theorem tup_plain {pins : List (Addr × Obj)} {σ : St} {H : Hp} {s : Shared} {a : Addr} {xs : List V} (I : Inv X pins σ H s) (h : TupF H a xs) :
    s.TypeIs (.ref a) "tuple" ∧ ∀ b, Value.ref a = .ref b → ∃ ob, s.heap.get? b = some ob ∧ ob.dict = none := by
  obtain ⟨o, hd, ho⟩ := h
  have z : ObjOk X.prog X.w H s.heap a (.frz o (.tup xs)) := I.hok a _ ho
  obtain ⟨g, _, its, r, p⟩ := z
  refine ⟨p.typeIs, fun b e => ?_⟩
  cases e
  exact ⟨o, g, hd⟩
theorem pe_bmT {name : Str} {id : String} {o e : Expr} {es : List Expr} {to : TE} {t : TA} {apos cpos : Pos} {r : V → List V → Hp → VK → Prop} (pa : PlainAttrs "tuple") (slot : Slot "tuple" name id) (hty : typeOf (.builtin id) = pure (.type "method_descriptor")) (hm : MtR X id r) (ho : PE X o to) (ha : PA X (e :: es) t)
    (h1 : attributeBase o name X.env (eval o X.env) = eval o X.env := by rfl)
    (h2 : ((backTo cpos (starEach (e :: es) X.env)).all (fun x => !x.1) && (backToKw cpos (keywordEach [] X.env)).all (fun x => x.1.isSome) && decide ((e :: es).length + ([] : List Keyword).length + (if ([] : List Keyword).isEmpty then 0 else 1) < 30)) = true := by rfl)
    (h3 : (apos.endLine == cpos.line) = true := by rfl) (h4 : starEach (e :: es) X.env = (false, eval e X.env) :: starEach es X.env := by rfl) (h5 : (backTo cpos (starEach es X.env)).any (·.1) = false := by rfl) :
    PE X (.Call (.Attribute o name apos) (e :: es) [] cpos) (tBMT r to t) := ⟨fun pins s σ H Q I h => by
  refine wpAny_Call_method_late h1 h2 h3 rfl (thn (ho.run pins s σ H _ I h) fun v s1 ⟨x, H1, I1, r1, ⟨a, xs, ex, hx⟩, q1⟩ => ?_)
  subst ex
  cases r1
  obtain ⟨g1, g2⟩ := tup_plain I1 hx
  have hA := ha.run cpos pins s1 σ H1 _ I1 q1
  refine ⟨"tuple", id, pa, slot, hty, g1, g2, ?_⟩
  rw [h4] at hA ⊢
  exact Calls.callWith_builtin (by show (false || (backTo cpos (starEach es X.env)).any (·.1)) = false; rw [h5] <;> rfl) (Calls.evalArgs_plain (thn hA fun us s2 ⟨vs, H2, I2, r2, q2⟩ => hm pins s2 σ H2 (.ref a) vs _ us Q I2 rfl r2 q2))⟩
/-! ### tuples are made -/
theorem frz_ok {P : Program} {w : World} {H : Hp} {h : Heap} {a : Addr} {o : Obj} {xs : List V} {its : List Value} (hz : xs.length ≤ sizeLine) (r : Vals xs its) (hg : h.get? a = some o) (hc : o.cls = .type "tuple") (hd : ∃ n, o.data = .seq its.toArray n) : ObjOk P w H h a (.frz o (.tup xs)) :=
  ⟨hg, hz, its, r, o, hg, hc, hd⟩
theorem pe_tupZ {es : List Expr} {x1} {t : TA} {pos : Pos} (h : PA X es t) : PE X (.Tuple es x1 pos) (tTupZ t) := ⟨fun pins s σ H Q I hq =>
  wpAny_Tuple_spliced (thn (h.run pos pins s σ H _ I hq) fun us s1 ⟨xs, H1, I1, r, z, q⟩ => ⟨by rw [← r.length]; exact z, by
    have hf : H1 s1.heap.objs.size = none := I1.hok.fresh (Nat.le_refl _)
    refine ⟨.ref s1.heap.objs.size, _, I1.laid (t' := s1.toks) (o := .frz { cls := .type "tuple", data := .seq us.toArray } (.tup xs)) (fun b u e => Heap.get?_push_of_some _ e) (Nat.le_refl _) ?_, rfl, q _ _ hf rfl⟩
    exact frz_ok z r (Heap.get?_push_size _ rfl) rfl ⟨_, rfl⟩⟩)⟩
/-- tuple(list): a new one; tuple(tuple): itself -/
def rTupOf (K : PySem.W.Frag) : List V → Hp → VK → Prop := fun xs H Q => ∃ p ys, xs = [.ref p] ∧ ((SqL K H p ys ∧ ∀ (l : Addr) (o : Obj), H l = none → o.dict = none → Q (.ref l) (upd H l (.frz o (.tup ys)))) ∨ (SqT K H p ys ∧ Q (.ref p) H))
theorem call_tupZ : CallR X (.type "tuple") (rTupOf X.K) := by
  rintro pins s σ H xs us Q I r ⟨p, ys, rfl, h⟩
  rw [Vals.ref1 r]
  rcases h with ⟨hs, q⟩ | ⟨hs, q⟩
  · obtain ⟨its, rv, pl, hz⟩ := I.list hs
    refine call_tuple_list pl.isList (fun h' hk => ?_) (by rw [List.size_toArray, ← rv.length]; exact hz)
    have I1 : Inv X pins σ H { s with heap := h' } := I.kept (t' := s.toks) hk
    refine ⟨.ref h'.objs.size, _, I1.laid (t' := s.toks) (o := .frz { cls := .type "tuple", data := .seq its.toArray } (.tup ys)) (fun b u e => Heap.get?_push_of_some _ e) (Nat.le_refl _) ?_, rfl, q _ _ (I1.hok.fresh (Nat.le_refl _)) rfl⟩
    exact frz_ok hz rv (Heap.get?_push_size _ rfl) rfl ⟨_, rfl⟩
  · exact call_tuple_of pins s σ H _ _ Q I (show Vals [V.ref p] [Value.ref p] from .cons rfl .nil) ⟨p, ys, rfl, .inr ⟨hs, q⟩⟩
/-- t + u -/
def rCatZ (K : PySem.W.Frag) : R2 := fun x y H Q => ∃ a b xs ys, x = .ref a ∧ y = .ref b ∧ SqT K H a xs ∧ SqT K H b ys ∧ xs.length + ys.length ≤ sizeLine ∧
  (xs = [] → Q (.ref b) H) ∧ (xs ≠ [] → ys = [] → Q (.ref a) H) ∧ (xs ≠ [] → ys ≠ [] → ∀ (p : Addr) (o : Obj), H p = none → o.dict = none → Q (.ref p) (upd H p (.frz o (.tup (xs ++ ys)))))
theorem op_catZ : OpR X (binaryOp .Add) (rCatZ X.K) := by
  rintro pins s σ H x y v u Q I rx ry ⟨a, b, xs, ys, rfl, rfl, ha, hb, hz, q0, q1, q2⟩
  by_cases hx : xs = []
  · exact op_catA pins s σ H _ _ v u Q I rx ry ⟨a, b, xs, ys, rfl, rfl, ha, hb, hz, q0, fun z => absurd hx z, fun z => absurd hx z⟩
  · by_cases hy : ys = []
    · exact op_catA pins s σ H _ _ v u Q I rx ry ⟨a, b, xs, ys, rfl, rfl, ha, hb, hz, fun z => absurd z hx, q1, fun _ z => absurd hy z⟩
    · cases rx
      cases ry
      obtain ⟨is1, r1, p1, -⟩ := I.tuple ha
      obtain ⟨is2, r2, p2, -⟩ := I.tuple hb
      refine HT.cat_tup p1 p2 (fun z => hx (r1.nil_iff.mp z)) (fun z => absurd (r2.nil_iff.mp z) hy) (fun z => ?_) (by rw [← r1.length, ← r2.length]; exact hz)
      refine ⟨.ref s.heap.objs.size, _, I.laid (t' := s.toks) (o := .frz { cls := .type "tuple", data := .seq (is1 ++ is2).toArray } (.tup (xs ++ ys))) (fun _ _ z => Heap.get?_push_of_some _ z) (Nat.le_refl _) ?_, rfl, q2 hx hy _ _ (I.hok.fresh (Nat.le_refl _)) rfl⟩
      exact frz_ok (by rw [List.length_append]; exact hz) (r1.append r2) (Heap.get?_push_size _ rfl) rfl ⟨_, rfl⟩
/-- t[a:b] -/
def rSlZ (K : PySem.W.Frag) : V → Option Int → Option Int → Hp → VK → Prop := fun x lo hi H Q => ∃ a xs, x = .ref a ∧ SqT K H a xs ∧
  ((HT.sIx xs.length 0 lo = 0 ∧ HT.sIx xs.length xs.length hi = xs.length) → Q (.ref a) H) ∧ (¬ (HT.sIx xs.length 0 lo = 0 ∧ HT.sIx xs.length xs.length hi = xs.length) → ∀ (p : Addr) (o : Obj), H p = none → o.dict = none → Q (.ref p) (upd H p (.frz o (.tup (cutV xs lo hi)))))
theorem sl_tupZ : SlR X (rSlZ X.K) := by
  rintro pins s σ H x v vl vu lo hi sl Q I rx hs pl pu ⟨a, xs, rfl, hx, q1, q2⟩
  by_cases hw : HT.sIx xs.length 0 lo = 0 ∧ HT.sIx xs.length xs.length hi = xs.length
  · exact sl_tupA pins s σ H _ v vl vu lo hi sl Q I rx hs pl pu ⟨a, xs, rfl, hx, q1, fun z => absurd hw z⟩
  · cases rx
    obtain ⟨is1, r1, p1, hz⟩ := I.tuple hx
    have hl : is1.toArray.size = xs.length := by rw [List.size_toArray, ← r1.length]
    refine ⟨"tuple", _, PyProof.Rows.slot_tuple_getitem.lookup, p1.typeIs, HT.getItem_tuple_cut p1 hs pl pu (by rw [hl]; exact hw) ?_ (by rw [hl]; exact hz)⟩
    rw [hl]
    refine ⟨.ref s.heap.objs.size, _, I.laid (t' := s.toks) (o := .frz { cls := .type "tuple", data := .seq ((is1.drop (HT.sIx xs.length 0 lo)).take (HT.sIx xs.length xs.length hi - HT.sIx xs.length 0 lo)).toArray } (.tup (cutV xs lo hi))) (fun _ _ z => Heap.get?_push_of_some _ z) (Nat.le_refl _) ?_, rfl, q2 hw _ _ (I.hok.fresh (Nat.le_refl _)) rfl⟩
    exact frz_ok (Nat.le_trans (cutV_length xs lo hi) hz) ((r1.drop _).take _) (Heap.get?_push_size _ rfl) rfl ⟨_, rfl⟩
end
/-! ### t[::-1] -/
theorem rev_adjust (n : Nat) : Builtin.Slice.sliceAdjust none none (-1) (n : Int) = ((n : Int) - 1, -1) := by
  unfold Builtin.Slice.sliceAdjust
  simp
theorem rev_places (n : Nat) : Builtin.Slice.slicePlaces ((n : Int) - 1) (-1) (-1) = n := by
  unfold Builtin.Slice.slicePlaces
  have h1 : ¬ ((-1 : Int) > 0) := by omega
  simp only [h1, if_false]
  by_cases h : (n : Int) - 1 > -1
  · simp only [h, if_true, show (-(-1) : Int) = 1 from rfl, Int.ediv_one]
    omega
  · simp only [h, if_false]
    omega
theorem rev_pick (xs : Array Value) : ((List.range xs.size).filterMap fun (m : Nat) => xs[(((xs.size : Int) - 1) + (m : Int) * (-1)).toNat]?).toArray = xs.toList.reverse.toArray := by
  have e : (List.range xs.size).filterMap (fun (m : Nat) => xs[(((xs.size : Int) - 1) + (m : Int) * (-1)).toNat]?) = ((List.range xs.size).map fun k => xs.size - 1 - k).filterMap fun k => xs[k]? := by
    rw [List.filterMap_map]
    congr 1
    funext m
    show xs[(((xs.size : Int) - 1) + (m : Int) * (-1)).toNat]? = xs[xs.size - 1 - m]?
    rw [show (((xs.size : Int) - 1) + (m : Int) * (-1)).toNat = xs.size - 1 - m by omega]
  rw [e, PySem.W.krv_range, List.filterMap_reverse, PySem.W.krv_all]
section
variable {prog : Program} {w : World} {A : Around} {E : Value → Shared → Prop} {s : Shared}
theorem rev_applied {sl : Addr} {vs : Value} {n : Nat} {Q : Int × Int × Nat → Shared → Prop} (hs : s.heap.IsSliceOf sl .none .none vs) (ps : IsPart vs (some (-1))) (h : Q ((n : Int) - 1, -1, n) s) :
    wpAny (model prog w) A (Builtin.Slice.sliceApplied (.ref sl) (pure (n : Int))) Q E s := by
  obtain ⟨os, g1, g2, g3⟩ := id hs
  unfold Builtin.Slice.sliceApplied Builtin.Slice.sliceFields
  refine wpAny_bind (wpAny_bind (wpAny_field g1 g3 (x := .none) rfl (wpAny_bind (wpAny_field g1 g3 (x := .none) rfl (wpAny_bind (wpAny_field g1 g3 (x := vs) rfl (wpAny_pure ?_)))))))
  refine wpAny_bind (HT.slicePart_ ps ?_)
  show wpAny _ _ (if ((-1 : Int) == 0) = true then _ else _) _ _ s
  rw [if_neg (by decide)]
  refine wpAny_bind (HT.slicePart_ .none (wpAny_bind (HT.slicePart_ .none (wpAny_bind (wpAny_pure ?_)))))
  show wpAny _ _ (match Builtin.Slice.sliceAdjust none none (-1) (n : Int) with | (lo, hi) => pure (lo, (-1 : Int), Builtin.Slice.slicePlaces lo hi (-1))) _ _ s
  rw [rev_adjust n]
  show wpAny _ _ (pure ((n : Int) - 1, (-1 : Int), Builtin.Slice.slicePlaces ((n : Int) - 1) (-1) (-1))) _ _ s
  rw [rev_places n]
  exact wpAny_pure h
theorem tupRev_get {t sl : Addr} {items : Array Value} {vs : Value} {Q : Value → Shared → Prop} (ht : PyProof.Rows.IsTup s.heap t items) (hs : s.heap.IsSliceOf sl .none .none vs) (ps : IsPart vs (some (-1)))
    (h : Q (.ref s.heap.objs.size) { s with heap := s.heap.push { cls := .type "tuple", data := .seq items.toList.reverse.toArray } }) (hsz : items.size ≤ sizeLine) : wpAny (model prog w) A (getItem (.ref t) (.ref sl)) Q E s := by
  have hk : sizeOk (.seq items.toList.reverse.toArray) := by
    show items.toList.reverse.toArray.size ≤ sizeLine
    rw [List.size_toArray, List.length_reverse, Array.length_toList]; exact hsz
  obtain ⟨os, g1, g2, g3⟩ := id hs
  have hTs : s.TypeIs (.ref sl) "slice" := ⟨os, g1, g2⟩
  unfold getItem
  try with_reducible refine wpAny_holding ?_
  first | refine wpAny_bind (wpAny_pure ?_) | skip
  refine wpAny_bind (wpAny_sequenceKey ht.typeIs (by decide) ?_)
  refine wpAny_bind (wpAny_callSpecial?_slot (name := Str.ofString "__getitem__") ht.typeIs PyProof.Rows.slot_tuple_getitem (wpAny_call_entry PyProof.Rows.slot_tuple_getitem ht.typeIs PyProof.Rows.entry_tuple_getitem ?_ (PyProof.Rows.args_tuple_getitem _ _)))
  show wpAny _ _ (Builtin.Tuple.tupleItemsOf (.ref t) >>= _) _ _ s
  refine wpAny_bind (PyProof.Rows.tupleItemsOf_ ht (wpAny_bind (wpAny_typeOf hTs ?_)))
  rw [if_pos (by decide)]
  refine wpAny_bind (rev_applied hs ps ?_)
  show wpAny _ _ (if ((items.size : Int) - 1 == 0 && (-1 : Int) == 1 && items.size == items.size) = true then _ else _) _ _ s
  rw [if_neg (by simp), rev_pick items]
  first
    | exact wpAny_bind (m := Builtin.Tuple.tupleExact _) (wpAny_newObj_type (wpAny_pure ⟨_, rfl, wpAny_pure h⟩) hk)
    | exact wpAny_bind (m := Builtin.Tuple.tupleExact _) (wpAny_newObj_type (wpAny_bind (wpAny_pure (wpAny_pure ⟨_, rfl, wpAny_pure h⟩))) hk)
    | exact wpAny_bind (wpAny_bind (m := Builtin.Tuple.tupleExact _) (wpAny_newObj_type (wpAny_pure (wpAny_pure ⟨_, rfl, wpAny_pure h⟩)) hk))
    | exact wpAny_bind (wpAny_bind (m := Builtin.Tuple.tupleExact _) (wpAny_newObj_type (wpAny_pure ⟨_, rfl, wpAny_pure h⟩) hk))
end
section
variable {X : Cx}
def tRevT (K : PySem.W.Frag) (te : TE) : TE := fun σ H Q => te σ H fun x H1 => ∃ a xs, x = .ref a ∧ SqT K H1 a xs ∧ ∀ (p : Addr) (o : Obj), H1 p = none → o.dict = none → Q (.ref p) (upd H1 p (.frz o (.tup xs.reverse)))
theorem pe_revT {e : Expr} {te : TE} {k : Nat} {p1 p2 p3 pos : Pos} (he : PE X e te) : PE X (.Subscript e (.Slice none none (some (.UnaryOp .USub (.Constant (.int 1) k p1) p2)) p3) pos) (tRevT X.K te) := ⟨fun pins s σ H Q I h => by
  refine PyProof.Rows.Subscript_ (thn (he.run pins s σ H _ I h) fun v s1 ⟨x, H1, I1, r1, a, xs, ex, hx, q⟩ => ?_)
  subst ex
  cases r1
  have hst : PO X (some (.UnaryOp .USub (.Constant (.int 1) k p1) p2)) (tPart (tUn (rU fun i => .int (-i)) (tC (.int 1)))) := po_some (pe_un un_neg pe_int)
  refine wpAny_Slice (thn (po_none.run pins s1 σ H1 (fun o H2 => o = none ∧ H2 = H1) I1 ⟨rfl, rfl⟩) fun vl s2 ⟨l, H2, I2, pl, el, e2⟩ => ?_)
  subst el e2
  refine thn (po_none.run pins s2 σ H2 (fun o H3 => o = none ∧ H3 = H2) I2 ⟨rfl, rfl⟩) fun vu s3 ⟨u, H3, I3, pu, eu, e3⟩ => ?_
  subst eu e3
  refine thn (hst.run pins s3 σ H3 (fun o H4 => o = some (-1) ∧ H4 = H3) I3 ⟨1, rfl, -1, rfl, rfl, rfl⟩) fun vs s4 ⟨o, H4, I4, ps, eo, e4⟩ => ?_
  subst eo e4
  cases pl
  cases pu
  have I5 : Inv X pins σ H4 { s4 with heap := s4.heap.push { cls := .type "slice", data := .fields #[.none, .none, vs] } } := I4.kept (t' := s4.toks) fun _ _ z => Heap.get?_push_of_some _ z
  obtain ⟨is1, r, ht, hz⟩ := I5.tuple hx
  have hl := r.length
  show wpAny (model X.prog X.w) X.A (PyProof.Rows.subscriptTail e (.Slice none none (some (.UnaryOp .USub (.Constant (.int 1) k p1) p2)) p3) (.ref a) (.ref s4.heap.objs.size)) (EP X pins σ Q) X.xe { s4 with heap := s4.heap.push { cls := .type "slice", data := .fields #[.none, .none, vs] } }
  refine PyProof.Rows.tail_any (ops := [.ref a, .ref s4.heap.objs.size]) ht.typeIs (PyProof.Rows.slot_tuple_getitem.lookup) (tupRev_get ht (Heap.IsSliceOf.new _ .none .none vs) ps ?_ (by rw [List.size_toArray]; omega)) (by with_unfolding_all rfl)
  refine ⟨.ref _, _, I5.laid (t' := s4.toks) (o := .frz { cls := .type "tuple", data := .seq is1.reverse.toArray } (.tup xs.reverse)) (fun _ _ z => Heap.get?_push_of_some _ z) (Nat.le_refl _) ?_, rfl, q _ _ (I5.hok.fresh (Nat.le_refl _)) rfl⟩
  exact frz_ok (by rw [List.length_reverse]; exact hz) r.reverse (Heap.get?_push_size _ rfl) rfl ⟨_, rfl⟩⟩
end
end JR
set_option Elab.async false
set_option linter.all false
set_option maxRecDepth 100000
set_option maxHeartbeats 4000000
namespace JR
open PySem PySem.Spec L2

/-! ### sorted of a tuple of ints -/
section
open PyProof.Rows (seqObj sortedAll IsTup IntsAre)
variable {prog : Program} {w : World} {A : Around} {E : Value → Shared → Prop} {s : Shared}
theorem collect_tup {l : Addr} {vs : List Value} {Q : List Value → Shared → Prop} (hl : IsTup s.heap l vs.toArray) (h : Q vs { s with heap := (s.heap.push (seqObj "list" #[] 0)).update s.heap.objs.size (Obj.mapSeq (· ++ vs.toArray)) }) (hz : vs.length ≤ sizeLine) :
    wpAny (model prog w) A (collect (.ref l)) Q E s := by
  obtain ⟨o, g1, g2, n, g3⟩ := id hl
  have g1' : (s.heap.push (seqObj "list" #[] 0)).get? l = some o := Heap.get?_push_of_some _ g1
  have gL : (s.heap.push (seqObj "list" #[] 0)).get? s.heap.objs.size = some (seqObj "list" #[] 0) := Heap.get?_push_size _ rfl
  unfold collect
  refine wpAny_bind (wpAny_runValue (codeAny_builtin PyProof.Rows.entry_proto_collect' ?_))
  show wpAny _ _ (do again (.builtin "list.__iadd__" ⟨[← newList [], .ref l], []⟩)) _ _ s
  refine wpAny_bind (wpAny_newList (wpAny_pure ⟨Code.quiet_builtin _ (by decide +kernel), codeAny_builtin PyProof.Rows.entry_list_iadd' ?_⟩))
  show wpAny _ _ (Builtin.List.listExtendWith (.ref s.heap.objs.size) (.ref l) (.ref s.heap.objs.size)) _ _ { s with heap := s.heap.push (seqObj "list" #[] 0) }
  unfold Builtin.List.listExtendWith
  refine wpAny_bind (wpAny_typeOf (T := "tuple") ⟨o, g1', g2⟩ ?_)
  have ht : (Value.type "tuple" == Value.type "tuple") = true := by rfl
  rw [if_pos (by rw [ht]; simp)]
  refine wpAny_bind (PyProof.Rows.listItems_at g1' g3 (wpAny_bind (PyProof.Rows.listItems_at (xs := #[]) (n := 0) gL rfl ?_)))
  rw [if_neg (by simp)]
  refine wpAny_bind (PyProof.Rows.listUpdate_at (xs := #[]) (n := 0) gL rfl ?_ (Nat.zero_le _) (by
    show (#[] ++ vs.toArray).size ≤ sizeLine + 1
    simp only [Array.size_append, List.size_toArray, List.length_nil]; omega))
  refine wpAny_pure ?_
  show wpAny (model prog w) A (load s.heap.objs.size >>= fun o => match o.data with | .seq xs _ => pure xs.toList | _ => unsupported "internal:collect") Q E { s with heap := (s.heap.push (seqObj "list" #[] 0)).update s.heap.objs.size (Obj.mapSeq (· ++ vs.toArray)) }
  refine wpAny_bind (wpAny_load (PyProof.Rows.get?_update_seq gL _) ?_)
  show wpAny _ _ (pure ((#[] : Array Value) ++ vs.toArray).toList) Q E _
  rw [show ((#[] : Array Value) ++ vs.toArray).toList = vs by simp]
  exact wpAny_pure h
theorem sorted_tup {l : Addr} {vs : List Value} {ns : List Int} {Q : Value → Shared → Prop} (hl : IsTup s.heap l vs.toArray) (hI : IntsAre vs ns) (h64 : vs.length < 64)
    (h : ∀ (out : Array Value) (ms : List Int), IntsAre out.toList ms → ms.Perm ns → ms.Pairwise (· ≤ ·) → Q (.ref (s.heap.objs.size + 1)) { s with heap := sortedAll s.heap vs out }) : wpAny (model prog w) A (call (.builtin "sorted") [.ref l]) Q E s := by
  refine Calls.call_function_entry PyProof.Rows.kind_sorted PyProof.Rows.plain_sorted PyProof.Rows.entry_sorted (PyProof.Rows.args_sorted1 _) ?_
  unfold Builtin.«sorted»
  refine wpAny_bind (m := checkCount "sorted" 1 1 _) (wpAny_pure (wpAny_bind (collect_tup hl (wpAny_bind (wpAny_newList ?_)) (Nat.le_trans (Nat.le_of_lt h64) (by decide)))))
  have z1 : ((s.heap.push (seqObj "list" #[] 0)).update s.heap.objs.size (Obj.mapSeq (· ++ vs.toArray))).objs.size = s.heap.objs.size + 1 := by
    rw [Heap.size_update]; exact Heap.size_push ..
  have z2 : (((s.heap.push (seqObj "list" #[] 0)).update s.heap.objs.size (Obj.mapSeq (· ++ vs.toArray))).push (seqObj "list" vs.toArray 0)).get? (s.heap.objs.size + 1) = some (seqObj "list" vs.toArray 0) := by
    rw [← z1]; exact Heap.get?_push_size _ rfl
  show wpAny _ _ _ _ _ { s with heap := ((s.heap.push (seqObj "list" #[] 0)).update s.heap.objs.size (Obj.mapSeq (· ++ vs.toArray))).push (seqObj "list" vs.toArray 0) }
  rw [z1]
  refine wpAny_bind (wpAny_holding (wpAny_call_entry PyProof.Rows.slot_list_sort ⟨_, z2, rfl⟩ PyProof.Rows.entry_list_sort (PyProof.Rows.list_sort_tree z2 hI h64 fun out ms a1 a2 a3 => ⟨_, rfl, ?_⟩) (PyProof.Rows.args_list_sort _)))
  exact wpAny_pure ⟨_, rfl, h out ms a1 a2 a3⟩
end
section
variable {X : Cx}
def rSortT (K : PySem.W.Frag) : List V → Hp → VK → Prop := fun vs H Q => ∃ (a : Addr) (ns : List Int), vs = [V.ref a] ∧ SqT K H a (ns.map V.int) ∧ ns.length < 64 ∧
  ∀ (ms : List Int) (p : Addr), ms.Perm ns → ms.Pairwise (· ≤ ·) → H p = none → Q (.ref p) (upd H p (.lst (ms.map V.int)))
theorem cr_sortT : CallR X (.builtin "sorted") (rSortT X.K) := by
  rintro pins s σ H vs us Q I r ⟨a, ns, rfl, hs, h64, q⟩
  obtain ⟨its, rv, hl, -⟩ := I.tuple hs
  rw [Vals.ref1 r]
  have hi := rv.ints
  refine sorted_tup hl hi (by rw [hi.length]; exact h64) fun out ms h1 h2 h3 => ?_
  obtain ⟨ep, he⟩ := PyProof.Rows.sortedAll_at s.heap its out
  have hz : (ms.map V.int).length ≤ sizeLine := by rw [List.length_map, h2.length_eq]; exact small64 h64
  refine ⟨.ref _, upd H (s.heap.objs.size + 1) (.lst (ms.map V.int)), I.laid (t' := s.toks) (fun _ _ => PyProof.Rows.sortedAll_old) (Nat.le_succ _) ⟨hz, out.toList, ep, vals_of_ints h1, he⟩, rfl, q ms _ h2 h3 (I.hok.fresh (Nat.le_succ _))⟩
end
/-! ### enumerate of a tuple -/
set_option maxHeartbeats 4000000 in
theorem meets_enum1 {v : Value} {o : Obj} {H : Heap → Prop} (B : Begins v o H) :
    Meets (Builtin.«enumerate.__new__» ⟨[.type "enumerate", v], []⟩) (fun _ R s => H s.heap ∧ R (.ok (.ret (.ref (s.heap.push o).objs.size))) { s with heap := (s.heap.push o).push { cls := .type "enumerate", data := .fields #[.none, .bool false, .ref s.heap.objs.size, rawInt 0, .none, .none] } }) :=
  .of_wp fun prog w A R s h => by
    obtain ⟨hp, g, d, tk, os⟩ := s
    obtain ⟨h1, h⟩ := h
    have hsub := sub_enumerate
    have q1 : ∀ {A' : Around} {E : Value → Shared → Prop} {Q : Value → Shared → Prop}, Q (.ref hp.objs.size) ⟨hp.push o, g, d, tk, os⟩ → wpAny (model prog w) A' (pyIter v) Q E ⟨hp, g, d, tk, os⟩ := fun q => B.iter prog w _ _ ⟨hp, g, d, tk, os⟩ _ h1 q
    wp_walk using q1
    refine wpAny_stack_any fun st => wpAny_pure ?_
    split
    · rename_i c _ _ _ _ _
      cases (c == Value.type "enumerate")
      · wp_walk using q1
        exact ⟨_, rfl, h⟩
      · wp_walk using q1
        exact ⟨_, rfl, h⟩
    · wp_walk using q1
      exact ⟨_, rfl, h⟩
section
variable {prog : Program} {w : World} {A : Around} {E : Value → Shared → Prop} {s : Shared}
theorem enum_one {v : Value} {o : Obj} {H : Heap → Prop} {Q : Value → Shared → Prop} (B : Begins v o H) (h1 : H s.heap)
    (h : ∀ h', IsEnum h' (s.heap.objs.size + 1) s.heap.objs.size 0 .none → h'.get? s.heap.objs.size = some o → (∀ b u, s.heap.get? b = some u → h'.get? b = some u) → Q (.ref (s.heap.objs.size + 1)) { s with heap := h' }) : wpAny (model prog w) A (call (.type "enumerate") [v]) Q E s := by
  refine callType_new F.called_enumerate (by decide) (F.typeCall_enumerate_1 _) (F.newCall_enumerate_1 _) (fun obj => F.args_object_init_2 obj _) F.entry_enumerate_new (meets_enum1 B) ⟨h1, ?_⟩
  have z : (s.heap.push o).objs.size = s.heap.objs.size + 1 := Heap.size_push ..
  show _ ∧ _
  rw [z]
  have he := Heap.get?_push_size (s.heap.push o) (o := { cls := .type "enumerate", data := .fields #[.none, .bool false, .ref s.heap.objs.size, rawInt 0, .none, .none] }) rfl
  rw [z] at he
  exact ⟨⟨_, he, rfl⟩, h _ he (Heap.get?_push_of_some _ (Heap.get?_push_size _ B.free)) fun b u x => Heap.get?_push_of_some _ (Heap.get?_push_of_some _ x)⟩
end
def IteT (K : PySem.W.Frag) (a : Addr) : It :=
  ⟨fun i H => ∃ (xs : List V) (x : V), SqT K H a xs ∧ xs[i]? = some x, fun i H v H' => ∃ T x, v = .ref T ∧ H T = none ∧ H' = upd H T (.tup [.int (i : Nat), x]) ∧ ∀ xs, SqT K H a xs → xs[i]? = some x, fun i H => ∃ xs : List V, SqT K H a xs ∧ xs.length = i⟩
theorem turn_enumT {P : Program} {w : World} {K : PySem.W.Frag} {elts : List Expr} {kk : Nat} {tpos : Pos} (a e it : Addr) :
    Turn P w K (.Tuple elts kk tpos) (IteT K a) [e, it] e (fun i h => (∃ old, IsEnum h e it ((i : Nat) : Int) old) ∧ h.IsTupleIter it a i ∧ e ≠ it ∧ a ≠ it ∧ e ≠ a) where
  mem := by simp
  obj := fun i h st b hb => by
    obtain ⟨⟨old, he⟩, ⟨o, ho, _, hd⟩, _⟩ := st
    rcases (show b = e ∨ b = it by simpa using hb) with z | z
    · rw [z]; exact ⟨_, he, fun v q => nomatch q⟩
    · rw [z]; exact ⟨o, ho, fun v q => by rw [hd] at q; cases q⟩
  keep := fun i h h' st k => let ⟨⟨old, he⟩, hi, hne⟩ := st; ⟨⟨old, k e (by simp) _ he⟩, hi.at fun o q => k it (by simp) o q, hne⟩
  item := by
    rintro X rfl rfl rfl hc i pins s σ H E I hf ⟨⟨old, he⟩, hit, hne, nai, nea⟩ ⟨xs, x, hq, hx⟩
    obtain ⟨its, rv, p, hz⟩ := I.tuple hq
    obtain ⟨u, hu, ru⟩ := rv.get hx
    have hel : e < s.heap.objs.size := Heap.lt_size he
    have hil : it < s.heap.objs.size := by obtain ⟨_, q, _⟩ := hit; exact Heap.lt_size q
    have hsz : i < its.toArray.size := by
      rw [List.size_toArray]; exact (List.getElem?_eq_some_iff.mp hu).1
    refine wpAny_pyNext_enum_itemD (Draws.tuple (A := X.A.in1) (I.ok.hd hc) it a nai its.toArray) he ⟨hit, p⟩ hsz hne (by simp [hne, nea]) fun x' h' tk hx' ho hst hT _ hk => ?_
    have ex : x' = u := by
      have q1 : its.toArray[i]? = some x' := hx'
      rw [List.getElem?_toArray, hu] at q1
      exact (Option.some.inj q1).symm
    subst ex
    refine ⟨_, rfl, wpAny_letOwnedTupleGo_enum (s := { s with heap := h', toks := tk + 1 }) ho fun h'' he' sb => ?_⟩
    have hT2 : h''.get? s.heap.objs.size = some { cls := .type "tuple", data := .seq #[.int i tk, x'] } := (sb.2 _ (Nat.ne_of_gt hel)).trans hT
    have new : ObjOk X.prog X.w (upd H s.heap.objs.size (.tup [.int (i : Nat), x])) h'' s.heap.objs.size (.tup [.int (i : Nat), x]) := ⟨by show 2 ≤ sizeLine; decide, [.int i tk, x'], .cons ⟨_, rfl⟩ (.cons ru .nil), ⟨_, hT2, rfl, _, rfl⟩⟩
    have I1 : Inv X pins σ (upd H s.heap.objs.size (.tup [.int (i : Nat), x])) { s with heap := h'', toks := tk + 1 } :=
      I.turnedNew (ch := [e, it]) (fun b ob hb q => (sb.2 b (fun z => hb (by simp [z]))).trans (hk b ob (fun z => hb (by simp [z])) (fun z => hb (by simp [z])) q)) hf (Nat.le_refl _) new
    refine ⟨.ref s.heap.objs.size, _, I1, rfl, ⟨_, x, rfl, I.hok.fresh (Nat.le_refl _), rfl, fun ys hy => by rw [I.tuple_inj hy hq]; exact hx⟩, ⟨⟨x', ?_⟩, hst.1.at fun o q => (sb.2 it (Ne.symm hne)).trans q, hne, nai, nea⟩, fun b hb => ?_⟩
    · rw [show ((i + 1 : Nat) : Int) = (i : Int) + 1 by omega]; exact he'
    · have hb' : b < s.heap.objs.size := by
        rcases (show b = e ∨ b = it by simpa using hb) with z | z
        · rw [z]; exact hel
        · rw [z]; exact hil
      rw [upd_ne (Nat.ne_of_lt hb')]
      exact (hf b hb).1
  done := by
    rintro X rfl rfl rfl hc i pins s σ H E I hf ⟨⟨old, he⟩, hit, hne, nai, nea⟩ ⟨xs, hq, hx⟩
    obtain ⟨its, rv, p, hz⟩ := I.tuple hq
    obtain ⟨f0, f1, f2, f3, f4, f5⟩ := hf it (by simp)
    have hl := rv.length
    have en : its.toArray.size = i := by rw [List.size_toArray]; omega
    refine wpAny_pyNext_enum_endD (Draws.tuple (A := X.A.in1) (I.ok.hd hc) it a nai its.toArray) he ⟨by rw [en]; exact hit, p⟩ fun h' eb => ⟨rfl, I.turned (t' := s.toks) (fun b o hb q => eb b o hb q) f0 f1 f3 f4 f5⟩
  self := fun A i s Q E st h => let ⟨⟨_, he⟩, _⟩ := st; wpAny_pyIter_enum he h
def iEnumT (K : PySem.W.Frag) (ta : TA) : TI := fun σ H R => ta σ H fun vs H1 => ∃ a xs, vs = [.ref a] ∧ SqT K H1 a xs ∧ R (IteT K a) H1
theorem pi_enumT {X : Cx} {e : Expr} {ta : TA} {p pos tpos : Pos} {elts : List Expr} {kk : Nat} (hg : Gl X "enumerate") (hm : X.mg "enumerate" = none) (ha : PA X [e] ta) (hs : starEach [e] X.env = [(false, eval e X.env)] := by rfl) :
    PI X (.Tuple elts kk tpos) (.Call (.Name "enumerate" p) [e] [] pos) (iEnumT X.K ta) := ⟨fun pins s σ H R I h => by
  refine PyProof.Rows.Call_ (ld_blt I hg hm PyProof.Rows.boot_enumerate (PyProof.Rows.callWith_type1 (thn (ha.run pos pins s σ H _ I h) fun us s1 ⟨vs, H1, I1, r1, a, xs, ex, hq, q⟩ => ?_) hs rfl))
  subst ex
  cases r1 with
  | cons r rr =>
    cases rr
    cases r
    obtain ⟨its, rv, p', hz⟩ := I1.tuple hq
    have hat : a < s1.heap.objs.size := by
      obtain ⟨o, ho, _⟩ := id p'
      exact Heap.lt_size ho
    refine enum_one (begins_tuple a its.toArray) p' fun h' he hit hk => wpAny_pyIter_enum he ?_
    have I2 : Inv X pins σ H1 { s1 with heap := h' } := I1.kept (t' := s1.toks) hk
    refine ⟨s1.heap.objs.size + 1, [s1.heap.objs.size + 1, s1.heap.objs.size], _, _, H1, rfl, I2, turn_enumT a (s1.heap.objs.size + 1) s1.heap.objs.size, ⟨⟨.none, he⟩, ⟨_, hit, rfl, rfl⟩, Nat.succ_ne_self _, Nat.ne_of_lt hat, Nat.ne_of_gt (Nat.lt_succ_of_lt hat)⟩, fun b hb => ?_, q⟩
    have hle : s1.heap.objs.size ≤ b := by
      rcases (show b = s1.heap.objs.size + 1 ∨ b = s1.heap.objs.size by simpa using hb) with z | z
      · rw [z]; exact Nat.le_add_right _ _
      · rw [z]; exact Nat.le_refl _
    exact I1.fpOk hle (I1.hok.fresh hle)⟩
end JR
set_option Elab.async false
set_option linter.all false
set_option maxRecDepth 100000
set_option maxHeartbeats 4000000
/-! Ranges that stand in a name. -/
namespace JR
open PySem PySem.Spec L2 PyProof.Rows
section
variable {X : Cx}
def rRngV : List V → Hp → VK → Prop := fun vs H Q => ∃ j : Int, vs = [.int j] ∧ ∀ p, H p = none → Q (.ref p) (upd H p (.rng 0 j))
theorem cr_rngV : CallR X (.type "range") rRngV := by
  rintro pins s σ H vs us Q I r ⟨j, rfl, q⟩
  obtain ⟨u1, rfl, ri⟩ := vals1 r
  obtain ⟨t, rfl⟩ := ri
  exact call_range_1 ⟨.ref s.heap.objs.size, upd H s.heap.objs.size (.rng 0 j), I.laid (t' := s.toks + 2) (o := .rng 0 j) (fun _ _ z => Heap.get?_push_of_some _ z) (Nat.le_refl _) ⟨_, _, _, Heap.get?_push_size _ rfl⟩, rfl, q _ (I.hok.fresh (Nat.le_refl _))⟩
def iRgV (te : TE) : TI := fun σ H R => te σ H fun x H1 => ∃ (a : Addr) (n : Nat), x = .ref a ∧ H1 a = some (.rng 0 n) ∧ n ≤ 100000 ∧ R (Itr 0 n) H1
theorem pi_rngV {tg e : Expr} {te : TE} (he : PE X e te) : PI X tg e (iRgV te) := by
  refine ⟨fun pins s σ H R I h => thn (he.run pins s σ H _ I h) fun v s1 ⟨x, H1, I1, r1, a, n, ex, ha, hn, q⟩ => ?_⟩
  subst ex
  cases r1
  obtain ⟨t, u, w, ho⟩ := (show ObjOk X.prog X.w H1 s1.heap a (.rng 0 n) from I1.hok a _ ha)
  refine wpAny_pyIter_range (a := 0) (b := n) (c := 1) ho (small_one (by decide) (by decide) (by omega) (by omega)) ?_
  refine ⟨s1.heap.objs.size, [s1.heap.objs.size], _, _, H1, rfl, I1.kept (t' := s1.toks) (fun _ _ z => Heap.get?_push_of_some _ z), turn_range _ 0 n, ?_, fun b hb => ?_, q⟩
  · have z1 : (0 : Int) + ((0 : Nat) : Int) * 1 = 0 := rfl
    have z2 : ((n : Int) - ((0 : Nat) : Int)) = Builtin.Range.rangeSize 0 n 1 := by
      rw [rangeSize_one]
      split <;> omega
    rw [z1, z2]
    exact Heap.get?_push_size _ rfl
  · have eb : b = s1.heap.objs.size := List.mem_singleton.mp hb
    rw [eb]
    exact I1.fpOk (Nat.le_refl _) (I1.hok.fresh (Nat.le_refl _))
end
end JR
set_option Elab.async false
set_option linter.all false
set_option maxRecDepth 100000
set_option maxHeartbeats 2000000
/-! Built-ins over data. -/
namespace JR
open PySem PySem.Spec L2
/-! ### isinstance -/
inductive Tyd where
  | int | bool | tuple | str
def Tyd.nm : Tyd → String
  | .int => "int"
  | .bool => "bool"
  | .tuple => "tuple"
  | .str => "str"
def isTy : Tyd → PyData → Bool
  | .int, .int _ => true
  | .int, .bool _ => true
  | .bool, .bool _ => true
  | .tuple, .tuple _ => true
  | .str, .str _ => true
  | _, _ => false
theorem kit_at {K : PySem.W.Frag} {F H : Hp} {v : V} {d : PyData} (e : Same F H) (h : Da F v d) (n : Tyd) : ∃ t : Value, TyX K H v t ∧ PySem.W.kitOne K t (.type n.nm) = some (isTy n d) := by
  cases h with
  | non => exact ⟨_, .base .non, by cases n <;> first | exact kit_ty (r := true) (by decide +kernel) | exact kit_ty (r := false) (by decide +kernel)⟩
  | bl b => exact ⟨_, .base (.bl b), by cases n <;> first | exact kit_ty (r := true) (by decide +kernel) | exact kit_ty (r := false) (by decide +kernel)⟩
  | int i => exact ⟨_, .base (.int i), by cases n <;> first | exact kit_ty (r := true) (by decide +kernel) | exact kit_ty (r := false) (by decide +kernel)⟩
  | str x => exact ⟨_, .base (.str x), by cases n <;> first | exact kit_ty (r := true) (by decide +kernel) | exact kit_ty (r := false) (by decide +kernel)⟩
  | lst k r => exact ⟨_, .base (.lst (e _ _ k)), by cases n <;> first | exact kit_ty (r := true) (by decide +kernel) | exact kit_ty (r := false) (by decide +kernel)⟩
  | tup k r =>
    obtain ⟨o, _, k⟩ := k
    exact ⟨_, .fTuple (e _ _ k), by cases n <;> first | exact kit_ty (r := true) (by decide +kernel) | exact kit_ty (r := false) (by decide +kernel)⟩
section
variable {S : SA} {ds : List Ent} {W : List Ent → PyData → Prop} {te : TE} {ta : TA} {K : PySem.W.Frag}
theorem ev_isi (n : Tyd) (h : EvD S te ds fun ds1 d => W ds1 (.bool (isTy n d))) : EvD S (tCB (rIsi K) (tCons te (tCons (tC (.ty n.nm)) tNil))) ds W := fun H0 F H σ Q I q =>
  h H0 F H σ _ I fun v F1 H1 ds1 d x1 I1 a1 w1 => by
    obtain ⟨t, t1, t2⟩ := kit_at (K := K) I1.fh a1 n
    exact ⟨v, .ty n.nm, t, _, _, rfl, .ty _, t1, t2, q _ F1 H1 ds1 _ x1 I1 (.bl _) w1⟩
end
/-! ### calls -/
section
variable {W : PyData → Prop} {K : PySem.W.Frag} {xs : List PyData}
theorem cb_lenL (w : W (.int xs.length)) : CbD (fun vs H Q => ∃ p ys, vs = [.ref p] ∧ (SqL K H p ys ∨ SqT K H p ys) ∧ Q (.int ys.length) H) [.list xs] W := fun F H vs Q s a q => by
  cases a with
  | cons a r =>
    cases r
    obtain ⟨p, ws, e, hp, r⟩ := a.lst_inv
    subst e
    exact ⟨p, ws, rfl, .inl (.inl (.inl (s _ _ hp))), q _ F H _ (Ext.refl s) (by rw [r.length]; exact .int _) w⟩
theorem cb_lenT (w : W (.int xs.length)) : CbD (fun vs H Q => ∃ p ys, vs = [.ref p] ∧ (SqL K H p ys ∨ SqT K H p ys) ∧ Q (.int ys.length) H) [.tuple xs] W := fun F H vs Q s a q => by
  cases a with
  | cons a r =>
    cases r
    obtain ⟨p, ws, e, hp, r⟩ := a.tup_inv
    subst e
    exact ⟨p, ws, rfl, .inr (hp.sq s), q _ F H _ (Ext.refl s) (by rw [r.length]; exact .int _) w⟩
theorem cb_listT (w : W (.list xs)) : CbD (fun vs H Q => ∃ p ys, vs = [.ref p] ∧ (SqL K H p ys ∨ SqT K H p ys) ∧ ∀ l, H l = none → Q (.ref l) (upd H l (.lst ys))) [.tuple xs] W := fun F H vs Q s a q => by
  cases a with
  | cons a r =>
    cases r
    obtain ⟨p, ws, e, hp, r⟩ := a.tup_inv
    subst e
    exact ⟨p, ws, rfl, .inr (hp.sq s), fun l n => q _ _ _ _ (Ext.new s n) (Da.new_lst s n r) w⟩
theorem cb_listL (w : W (.list xs)) : CbD (fun vs H Q => ∃ p ys, vs = [.ref p] ∧ (SqL K H p ys ∨ SqT K H p ys) ∧ ∀ l, H l = none → Q (.ref l) (upd H l (.lst ys))) [.list xs] W := fun F H vs Q s a q => by
  cases a with
  | cons a r =>
    cases r
    obtain ⟨p, ws, e, hp, r⟩ := a.lst_inv
    subst e
    exact ⟨p, ws, rfl, .inl (.inl (.inl (s _ _ hp))), fun l n => q _ _ _ _ (Ext.new s n) (Da.new_lst s n r) w⟩
theorem cb_tupL (w : W (.tuple xs)) : CbD (rTupOf K) [.list xs] W := fun F H vs Q s a q => by
  cases a with
  | cons a r =>
    cases r
    obtain ⟨p, ws, e, hp, r⟩ := a.lst_inv
    subst e
    exact ⟨p, ws, rfl, .inl ⟨.inl (.inl (s _ _ hp)), fun l o n ho => q _ _ _ _ (Ext.new s n) (Da.new_tup s n ho r) w⟩⟩
theorem cb_sumL {ns : List Int} (w : W (.int ns.sum)) : CbD (rSum K) [.list (ns.map PyData.int)] W := fun F H vs Q s a q => by
  cases a with
  | cons a r =>
    cases r
    obtain ⟨p, ws, e, hp, r⟩ := a.lst_inv
    have er := r.ints
    subst e er
    exact ⟨p, ns, rfl, .inl (.inl (s _ _ hp)), q _ F H _ (Ext.refl s) (.int _) w⟩
theorem cb_sumT {ns : List Int} (w : W (.int ns.sum)) : CbD (rSumT K) [.tuple (ns.map PyData.int)] W := fun F H vs Q s a q => by
  cases a with
  | cons a r =>
    cases r
    obtain ⟨p, ws, e, hp, r⟩ := a.tup_inv
    have er := r.ints
    subst e er
    exact ⟨p, ns, rfl, hp.sq s, q _ F H _ (Ext.refl s) (.int _) w⟩
theorem cb_max2 {i j : Int} (w : W (.int (if j > i then j else i))) : CbD (fun xs H Q => ∃ i j, xs = [.int i, .int j] ∧ Q (.int (if j > i then j else i)) H) [.int i, .int j] W := fun F H vs Q s a q => by
  have ev : vs = [V.int i, V.int j] := DaAll.ints (ns := [i, j]) a
  exact ⟨i, j, ev, q _ F H _ (Ext.refl s) (.int _) w⟩
theorem cb_min2 {i j : Int} (w : W (.int (if j < i then j else i))) : CbD (fun xs H Q => ∃ i j, xs = [.int i, .int j] ∧ Q (.int (if j < i then j else i)) H) [.int i, .int j] W := fun F H vs Q s a q => by
  have ev : vs = [V.int i, V.int j] := DaAll.ints (ns := [i, j]) a
  exact ⟨i, j, ev, q _ F H _ (Ext.refl s) (.int _) w⟩
theorem cb_int {i : Int} (w : W (.int i)) : CbD (fun xs H Q => (∃ i, xs = [.int i] ∧ Q (.int i) H) ∨ ∃ k, xs = [.bl k] ∧ Q (.int (if k then 1 else 0)) H) [.int i] W := fun F H vs Q s a q => by
  have ev : vs = [V.int i] := DaAll.ints (ns := [i]) a
  exact .inl ⟨i, ev, q _ F H _ (Ext.refl s) (.int _) w⟩
theorem cb_sortT {ns : List Int} (h : ns.length < 64) (w : ∀ ms : List Int, ms.Perm ns → ms.Pairwise (· ≤ ·) → W (.list (ms.map PyData.int))) : CbD (rSortT K) [.tuple (ns.map PyData.int)] W := fun F H vs Q s a q => by
  cases a with
  | cons a r =>
    cases r
    obtain ⟨p, ws, e, hp, r⟩ := a.tup_inv
    have er := r.ints
    subst e er
    exact ⟨p, ns, rfl, hp.sq s, h, fun ms l h1 h2 n => q _ _ _ _ (Ext.new s n) (Da.new_lst s n (DaAll.of_ints ms)) (w ms h1 h2)⟩
end
/-! ### methods of tuples -/
section
variable {S : SA} {ds : List Ent} {W : List Ent → PyData → Prop} {te : TE} {ta : TA} {K : PySem.W.Frag}
theorem ev_bmT {r : V → List V → Hp → VK → Prop} (h : EvD S te ds fun ds1 d => ∃ xs, d = .tuple xs ∧ EvA S ta ds1 fun ds2 ys => MtD r (.tuple xs) ys (W ds2)) : EvD S (tBMT r te ta) ds W := fun H0 F H σ Q I q =>
  h H0 F H σ _ I fun v F1 H1 ds1 d x1 I1 a1 ⟨xs, e, w1⟩ => by
    subst e
    obtain ⟨p, vs, ev, hp, r⟩ := a1.tup_inv
    refine ⟨⟨p, vs, ev, ?_⟩, w1 H0 F1 H1 σ _ I1 fun ws F2 H2 ds2 ys x2 I2 a2 w2 => w2 F2 H2 v ws Q I2.fh (a1.mono x2.ff) a2 fun v' F' H' d x a w => q v' F' H' ds2 d ((x1.tr I1 x2).tr I2 x.pure) (I2.pure x) a w⟩
    obtain ⟨o, h1, h2⟩ := hp
    exact ⟨o, h1, I1.fh _ _ h2⟩
theorem md_idx {W : PyData → Prop} {ns : List Int} {k : Int} (hk : k ∈ ns) (w : W (.int (ns.idxOf k : Nat))) : MtD (rIdxT K) (.tuple (ns.map PyData.int)) [.int k] W := fun F H x vs Q s a b q => by
  obtain ⟨p, ws, e, hp, r⟩ := a.tup_inv
  have er := r.ints
  have ev : vs = [V.int k] := DaAll.ints (ns := [k]) b
  subst e er
  exact ⟨p, ns, k, rfl, ev, hp.sq s, hk, q _ F H _ (Ext.refl s) (.int _) w⟩
theorem md_cnt {W : PyData → Prop} {ns : List Int} {k : Int} (w : W (.int (ns.count k : Nat))) : MtD (rCntT K) (.tuple (ns.map PyData.int)) [.int k] W := fun F H x vs Q s a b q => by
  obtain ⟨p, ws, e, hp, r⟩ := a.tup_inv
  have er := r.ints
  have ev : vs = [V.int k] := DaAll.ints (ns := [k]) b
  subst e er
  exact ⟨p, ns, k, rfl, ev, hp.sq s, q _ F H _ (Ext.refl s) (.int _) w⟩
end
/-! ### slices, sums -/
def cutD {α : Type} (xs : List α) (lo hi : Option Int) : List α := (xs.drop (HT.sIx xs.length 0 lo)).take (HT.sIx xs.length xs.length hi - HT.sIx xs.length 0 lo)
theorem DaAll.cut {F : Hp} {vs : List V} {xs : List PyData} (r : DaAll F vs xs) (lo hi : Option Int) : DaAll F (cutV vs lo hi) (cutD xs lo hi) := by
  unfold cutV cutD
  rw [r.length]
  exact (r.drop _).take _
section
variable {W : PyData → Prop} {K : PySem.W.Frag} {xs ys : List PyData}
theorem sd_list {l u : Option Int} (w : W (.list (cutD xs l u))) : SlD (rSlL K) (.list xs) l u W := fun F H x Q s a q => by
  obtain ⟨p, ws, e, hp, r⟩ := a.lst_inv
  exact ⟨p, ws, e, .inl (.inl (s _ _ hp)), fun z n => q _ _ _ _ (Ext.new s n) (Da.new_lst s n (r.cut l u)) w⟩
theorem cut_all {α : Type} {xs : List α} {lo hi : Option Int} (h : HT.sIx xs.length 0 lo = 0 ∧ HT.sIx xs.length xs.length hi = xs.length) : cutD xs lo hi = xs := by
  unfold cutD
  rw [h.1, h.2, List.drop_zero, Nat.sub_zero, List.take_length]
theorem sd_tup {l u : Option Int} (w : W (.tuple (cutD xs l u))) : SlD (rSlZ K) (.tuple xs) l u W := fun F H x Q s a q => by
  obtain ⟨p, ws, e, hp, r⟩ := a.tup_inv
  refine ⟨p, ws, e, hp.sq s, fun z => ?_, fun _ t o n ho => q _ _ _ _ (Ext.new s n) (Da.new_tup s n ho (r.cut l u)) w⟩
  rw [r.length] at z
  rw [cut_all z] at w
  exact q _ F H _ (Ext.refl s) (e ▸ a) w
theorem op_catT' (l : xs.length + ys.length ≤ 100000) (w : W (.tuple (xs ++ ys))) : OpD (rCatZ K) (.tuple xs) (.tuple ys) W := fun F H x y Q s a b q => by
  obtain ⟨p, vs, e, hp, r⟩ := a.tup_inv
  obtain ⟨p2, vs2, e2, hp2, r2⟩ := b.tup_inv
  refine ⟨p, p2, vs, vs2, e, e2, hp.sq s, hp2.sq s, sz (by rw [r.length, r2.length]; exact l), fun z => ?_, fun _ z => ?_, fun _ _ t o n ho => q _ _ _ _ (Ext.new s n) (Da.new_tup s n ho (r.append r2)) w⟩
  · subst z
    cases r
    exact q _ F H _ (Ext.refl s) (e2 ▸ b) w
  · subst z
    cases r2
    rw [List.append_nil] at w
    exact q _ F H _ (Ext.refl s) (e ▸ a) w
end
section
variable {S : SA} {ds : List Ent} {W : List Ent → PyData → Prop} {te : TE} {ta : TA} {K : PySem.W.Frag}
theorem ev_revL (h : EvD S te ds fun ds1 d => ∃ xs, d = .list xs ∧ W ds1 (.list xs.reverse)) : EvD S (tRevL K te) ds W := fun H0 F H σ Q I q =>
  h H0 F H σ _ I fun v F1 H1 ds1 d x1 I1 a1 ⟨xs, e, w⟩ => by
    subst e
    obtain ⟨p, vs, ev, hp, r⟩ := a1.lst_inv
    exact ⟨p, vs, ev, .inl (.inl (I1.fh _ _ hp)), fun z n => q _ _ _ ds1 _ (x1.tr I1 (Ext.new I1.fh n).pure) (I1.pure (Ext.new I1.fh n)) (Da.new_lst I1.fh n r.reverse) w⟩
theorem ev_revT (h : EvD S te ds fun ds1 d => ∃ xs, d = .tuple xs ∧ W ds1 (.tuple xs.reverse)) : EvD S (tRevT K te) ds W := fun H0 F H σ Q I q =>
  h H0 F H σ _ I fun v F1 H1 ds1 d x1 I1 a1 ⟨xs, e, w⟩ => by
    subst e
    obtain ⟨p, vs, ev, hp, r⟩ := a1.tup_inv
    exact ⟨p, vs, ev, hp.sq I1.fh, fun z o n ho => q _ _ _ ds1 _ (x1.tr I1 (Ext.new I1.fh n).pure) (I1.pure (Ext.new I1.fh n)) (Da.new_tup I1.fh n ho r.reverse) w⟩
theorem ev_lrg (h : EvD S te ds fun ds1 d => ∃ n : Int, d = .int n ∧ 0 ≤ n ∧ n ≤ 100000 ∧ W ds1 (.list ((List.range n.toNat).map fun k => PyData.int (k : Nat)))) : EvD S (tLstRg (tRg1 te)) ds W := fun H0 F H σ Q I q =>
  h H0 F H σ _ I fun v F1 H1 ds1 d x1 I1 a1 ⟨n, e, h0, h1, w⟩ => by
    subst e
    refine ⟨n, a1.int_inv, RgOk.of_le (Int.le_refl 0) (by omega) (by omega) h0, fun z nz => q _ _ _ ds1 _ (x1.tr I1 (Ext.new I1.fh nz).pure) (I1.pure (Ext.new I1.fh nz)) (Da.new_lst I1.fh nz ?_) w⟩
    unfold rgV
    have e1 : (n - 0).toNat = n.toNat := by rw [Int.sub_zero]
    have e2 : (fun i : Nat => V.int (0 + (i : Nat))) = V.int ∘ fun i : Nat => (i : Int) := by
      funext k
      show V.int _ = V.int _
      rw [Int.zero_add]
    have e3 : (fun k : Nat => PyData.int (k : Nat)) = PyData.int ∘ fun i : Nat => (i : Int) := rfl
    rw [e1, e2, e3, ← List.map_map, ← List.map_map]
    exact DaAll.of_ints _
end
/-! ### enumerate of a tuple -/
theorem wk_enumT {K : PySem.W.Frag} {F : Hp} {a : Addr} {vs : List V} {xs : List PyData} (h : TupF F a vs) (r : DaAll F vs xs) : Wk DaP (IteT K a) F ((List.range xs.length).zip xs |>.map fun p => PyData.tuple [.int (p.1 : Nat), p.2]) where
  go := fun i F2 H2 e1 e2 hi => by
    rw [List.length_map, List.length_zip, List.length_range] at hi
    have l1 := r.length
    have i1 : i < vs.length := by omega
    exact ⟨vs, vs[i], (h.mono e1).sq e2, List.getElem?_eq_getElem i1⟩
  yld := fun i F2 H2 v H3 e1 e2 hi ⟨T, x, ev, n, eH, q1⟩ => by
    subst ev eH
    rw [List.length_map, List.length_zip, List.length_range] at hi
    obtain ⟨d, g1, g2⟩ := r.got (q1 vs ((h.mono e1).sq e2))
    refine ⟨.tuple [.int (i : Nat), d], _, ?_, Ext.new (o := .tup [.int (i : Nat), x]) e2 n, Da.new_pair e2 n (.cons (.int _) (.one (g2.mono e1)))⟩
    rw [List.getElem?_map, List.getElem?_zip_eq_some (z := (i, d)).mpr ⟨List.getElem?_range (by omega), g1⟩]; rfl
  stop := fun F2 H2 e1 e2 => by
    refine ⟨vs, (h.mono e1).sq e2, ?_⟩
    rw [List.length_map, List.length_zip, List.length_range, r.length]
    omega
theorem it_enumT {S : SA} {K : PySem.W.Frag} {ds : List Ent} {G : List Ent → List PyData → Prop} {ta : TA} (h : EvA S ta ds fun ds1 ys => ∃ xs, ys = [.tuple xs] ∧ G ds1 ((List.range xs.length).zip xs |>.map fun p => PyData.tuple [.int (p.1 : Nat), p.2])) : ItD DaP S (iEnumT K ta) ds G := fun H0 F H σ R I q =>
  h H0 F H σ _ I fun vs F1 H1 ds1 ys x1 I1 a1 ⟨xs, e, w⟩ => by
    subst e
    cases a1 with
    | cons a r =>
      cases r
      obtain ⟨p, ws, ev, hp, r⟩ := a.tup_inv
      subst ev
      exact ⟨p, ws, rfl, hp.sq I1.fh, q _ F1 H1 ds1 _ x1 I1 (wk_enumT hp r) w⟩
/-! ### a range in a name -/
theorem st_rng {S : SA} {ds : List Ent} {E : DEnds} {ta : TA} {i : Nat} (h : EvA S ta ds fun ds1 xs => ∃ n : Nat, xs = [.int n] ∧ E.nx (ds1.set i (.rg n))) : StD S (tAsg (tCB rRngV ta) (gName i)) E ds := fun H0 F0 F H σ D x I g =>
  h H0 F H σ _ I fun vs F1 H1 ds1 xs x1 I1 a1 ⟨n, e, w⟩ => by
    subst e
    have ev : vs = [V.int n] := DaAll.ints (ns := [(n : Int)]) a1
    refine ⟨n, ev, fun p np => ?_⟩
    have X1 := Ext.new (o := .rng 0 n) I1.fh np
    refine g.nx _ _ _ _ ((x.step I x1).step I1 X1.pure) ?_ w
    have J := I1.pure X1
    have J2 := (J.put (i := i) (v := .non) (d := .none) .non)
    refine ⟨J.fh, J.fS, J.hS, by rw [List.length_set, List.length_set]; exact J.len, fun j e q => ?_, fun j k l zs ys e1 e2 s1 s2 => ?_⟩
    · by_cases z : i = j
      · subst z
        have hl : i < ds1.length := by
          have := (List.getElem?_eq_some_iff.mp q).1
          rwa [List.length_set] at this
        rw [List.getElem?_set_self hl] at q
        cases q
        exact ⟨p, slot_set_same (by rw [J.len]; exact hl), upd_same⟩
      · rw [List.getElem?_set_ne z] at q
        rw [slot_set_ne z]
        exact J.at_ j e q
    · have nn : ∀ j (zs : List PyData), (ds1.set i (Ent.rg n))[j]? = some (Ent.own zs) → i ≠ j := fun j zs e1 z => by
        subst z
        have hl : i < ds1.length := by
          have := (List.getElem?_eq_some_iff.mp e1).1
          rwa [List.length_set] at this
        rw [List.getElem?_set_self hl] at e1; cases e1
      have nj := nn j zs e1
      have nk := nn k ys e2
      rw [List.getElem?_set_ne nj] at e1
      rw [List.getElem?_set_ne nk] at e2
      rw [slot_set_ne nj] at s1
      rw [slot_set_ne nk] at s2
      exact J.ap j k l zs ys e1 e2 s1 s2
theorem it_rgV {S : SA} {ds : List Ent} {G : List Ent → List PyData → Prop} {i n : Nat} (h : ds[i]? = some (.rg n)) (hn : n ≤ 100000) (w : G ds ((List.range n).map fun k => PyData.int (k : Nat))) : ItD Da S (iRgV (tVar i)) ds G := fun H0 F H σ R I q => by
  obtain ⟨a, h1, h2⟩ := I.at_ i _ h
  refine ⟨.ref a, slot_some h1, a, n, rfl, I.fh _ _ h2, hn, q _ F H ds _ (Ext.refl I.fh) I ?_ w⟩
  have e2 : (fun k : Nat => PyData.int (0 + (k : Nat))) = fun k : Nat => PyData.int (k : Nat) := by
    funext k; rw [Int.zero_add]
  rw [← e2]
  exact wk_range
end JR
set_option Elab.async false
set_option linter.all false
set_option maxRecDepth 100000
set_option maxHeartbeats 2000000
/-! Defs over data: facts, promises kept, calls. -/
namespace JR
open PySem PySem.Spec L2
/-- what is known of the written part and of the globals -/
structure Tx (K : PySem.W.Frag) (mg : Str → Option Value) : Prop where
  sd : He.SaysD fa fn K
  ex : exB K = true
  gl : ∀ (i : Nat) (x : Str), fa[i]? = some (He.Fa.glo x) → mg x = some (.ref (He.ga K x))
  fr : ∀ (i : Nat) (x : Str), fa[i]? = some (He.Fa.free x) → mg x = none
  it : ∀ (i : Nat) (x : Str) (n : Int), fa[i]? = some (He.Fa.int x n) → ∃ t, mg x = some (.int n t)
section
variable {K : PySem.W.Frag} {mg : Str → Option Value}
theorem Tx.g (T : Tx K mg) (i : Nat) {x : Str} (h : fa[i]? = some (He.Fa.glo x) := by rfl) : mg x = some (.ref (He.ga K x)) := T.gl i x h
theorem Tx.n (T : Tx K mg) (i : Nat) {x : Str} (h : fa[i]? = some (He.Fa.free x) := by rfl) : mg x = none := T.fr i x h
end
/-! ### entries -/
def ent0 (n : Nat) (xs : List PyData) : List Ent := xs.map Ent.dat ++ List.replicate (n - xs.length) Ent.no
theorem start_get {N : List Str} {vs : List V} (i : Nat) : slot (L2.start N vs) i = vs[i]? := by
  unfold slot L2.start
  by_cases h : i < vs.length
  · rw [List.getElem?_append_left (by rw [List.length_map]; exact h), List.getElem?_map, List.getElem?_eq_getElem h]; rfl
  · rw [List.getElem?_append_right (by rw [List.length_map]; omega), List.getElem?_eq_none (l := vs) (by omega)]
    cases e : (List.replicate (N.length - vs.length) (none : Option V))[i - (vs.map some).length]? with
    | none => rfl
    | some o =>
      have := List.mem_of_getElem? e
      rw [List.eq_of_mem_replicate this]; rfl
theorem ent0_get {n : Nat} {xs : List PyData} {i : Nat} {e : Ent} (h : (ent0 n xs)[i]? = some e) : e = .no ∨ ∃ d, xs[i]? = some d ∧ e = .dat d := by
  unfold ent0 at h
  by_cases hl : i < xs.length
  · rw [List.getElem?_append_left (by rw [List.length_map]; exact hl), List.getElem?_map, List.getElem?_eq_getElem hl] at h
    exact .inr ⟨xs[i], List.getElem?_eq_getElem hl, (Option.some.inj h).symm⟩
  · rw [List.getElem?_append_right (by rw [List.length_map]; omega)] at h
    exact .inl (List.eq_of_mem_replicate (List.mem_of_getElem? h))
theorem ents_start {N : List Str} {F H : Hp} {vs : List V} {xs : List PyData} (s : Same F H) (a : DaAll F vs xs) (hl : vs.length ≤ N.length) : Ents none H F H (L2.start N vs) (ent0 N.length xs) where
  fh := s
  fS := fun b q => q.elim
  hS := fun b q => q.elim
  len := by
    unfold L2.start ent0
    rw [List.length_append, List.length_append, List.length_map, List.length_map, List.length_replicate, List.length_replicate, a.length]
  at_ := fun i e q => by
    rcases ent0_get q with rfl | ⟨d, h, rfl⟩
    · trivial
    · obtain ⟨v, h1, h2⟩ := a.get h
      exact ⟨v, by rw [start_get]; exact h1, h2⟩
  ap := fun i j l ys zs e1 => by
    rcases ent0_get e1 with z | ⟨_, _, z⟩ <;> cases z
theorem ents_startS {S : SA} {N : List Str} {F H : Hp} {v0 : V} {vs : List V} {m : Nat} {xs : List PyData} (s : Same F H) (fS : ∀ b, inS S b → F b = none) (h0 : StAt S F H v0 m) (a : DaAll F vs xs) (hl : vs.length + 1 ≤ N.length) :
    Ents S H F H (L2.start N (v0 :: vs)) (.st m :: ent0 (N.length - 1) xs) where
  fh := s
  fS := fS
  hS := h0.hS
  len := by
    unfold L2.start ent0
    simp only [List.length_append, List.length_cons, List.length_map, List.length_replicate, a.length]
    have := a.length
    omega
  at_ := fun i e q => by
    cases i with
    | zero =>
      cases q
      exact ⟨v0, by rw [start_get]; rfl, h0⟩
    | succ i =>
      rcases ent0_get (show (ent0 (N.length - 1) xs)[i]? = some e from q) with rfl | ⟨d, h, rfl⟩
      · trivial
      · obtain ⟨v, h1, h2⟩ := a.get h
        exact ⟨v, by rw [start_get]; exact h1, h2⟩
  ap := fun i j l ys zs e1 => by
    cases i with
    | zero => cases e1
    | succ i => rcases ent0_get (show (ent0 (N.length - 1) xs)[i]? = some _ from e1) with z | ⟨_, _, z⟩ <;> cases z
/-! ### what a def may do: raise too -/
abbrev AX := List PyData → (PyData → Prop) → (Str → List (Str × PyData) → Prop) → Prop
def spX (cl : Str → Value) (A : AX) : Sp := fun vs H Q E => ∃ (F : Hp) (xs : List PyData) (W : PyData → Prop) (V : Str → List (Str × PyData) → Prop), Same F H ∧ DaAll F vs xs ∧ A xs W V ∧
  (∀ v F' H' d, Ext none F H F' H' → Da F' v d → W d → Q v H') ∧ ∀ F' H' x dd fs ys, Ext none F H F' H' → H' dd = some (.xd fs) → DaFs F' fs ys → V x ys → E (cl x) (some dd) H'
section
variable {S : SA} {ds : List Ent} {E : DEnds}
theorem st_asgX {A : AX} {ta : TA} {i : Nat} (h : EvA S ta ds fun ds1 xs => A xs (fun d => E.nx (ds1.set i (.dat d))) (fun x ys => E.xc ds1 x ys)) : StD S (tAsg (tCallS (spX E.cl A) (WE E.xw) ta) (gName i)) E ds := fun H0 F0 F H σ D x I g =>
  h H0 F H σ _ I fun vs F1 H1 ds1 xs x1 I1 a1 w1 =>
    ⟨F1, xs, _, _, I1.fh, a1, w1, fun v F' H' d x2 a w => g.nx F' H' _ _ ((x.step I x1).step I1 x2.pure) ((I1.pure x2).put a) w,
      fun F' H' y dd fs ys x2 hd hf w => g.xe F' H' σ ds1 y dd fs ys ((x.step I x1).step I1 x2.pure) (I1.pure x2) hd hf w⟩
theorem st_dropX {A : AX} {ta : TA} (h : EvA S ta ds fun ds1 xs => A xs (fun _ => E.nx ds1) (fun x ys => E.xc ds1 x ys)) : StD S (tDrop (tCallS (spX E.cl A) (WE E.xw) ta)) E ds := fun H0 F0 F H σ D x I g =>
  h H0 F H σ _ I fun vs F1 H1 ds1 xs x1 I1 a1 w1 =>
    ⟨F1, xs, _, _, I1.fh, a1, w1, fun v F' H' d x2 a w => g.nx F' H' _ _ ((x.step I x1).step I1 x2.pure) (I1.pure x2) w,
      fun F' H' y dd fs ys x2 hd hf w => g.xe F' H' σ ds1 y dd fs ys ((x.step I x1).step I1 x2.pure) (I1.pure x2) hd hf w⟩
/-- keywords -/
def tCallNS (n m : Nat) (sp : Sp) (E : St → XK) (t tk : TA) : TE := fun σ H Q => t σ H fun vs H1 => tk σ H1 fun zs H2 => vs.length = n ∧ zs.length = m ∧ sp (vs ++ zs) H2 Q (E σ)
theorem st_asgNS {A : AX} {n m i : Nat} {ta tk : TA} (h : EvA S ta ds fun ds1 xs => EvA S tk ds1 fun ds2 ys => xs.length = n ∧ ys.length = m ∧ A (xs ++ ys) (fun d => E.nx (ds2.set i (.dat d))) (fun x ys => E.xc ds2 x ys)) :
    StD S (tAsg (tCallNS n m (spX E.cl A) (WE E.xw) ta tk) (gName i)) E ds := fun H0 F0 F H σ D x I g =>
  h H0 F H σ _ I fun vs F1 H1 ds1 xs x1 I1 a1 w1 => w1 H0 F1 H1 σ _ I1 fun zs F2 H2 ds2 ys x2 I2 a2 ⟨l1, l2, w2⟩ =>
    ⟨by rw [a1.length]; exact l1, by rw [a2.length]; exact l2, F2, xs ++ ys, _, _, I2.fh, (a1.mono x2.ff).append a2, w2, fun v F' H' d x3 a w => g.nx F' H' _ _ (((x.step I x1).step I1 x2).step I2 x3.pure) ((I2.pure x3).put a) w,
      fun F' H' y dd fs ys x3 hd hf w => g.xe F' H' σ ds2 y dd fs ys (((x.step I x1).step I1 x2).step I2 x3.pure) (I2.pure x3) hd hf w⟩
theorem st_dropNS {A : AX} {n m : Nat} {ta tk : TA} (h : EvA S ta ds fun ds1 xs => EvA S tk ds1 fun ds2 ys => xs.length = n ∧ ys.length = m ∧ A (xs ++ ys) (fun _ => E.nx ds2) (fun x ys => E.xc ds2 x ys)) :
    StD S (tDrop (tCallNS n m (spX E.cl A) (WE E.xw) ta tk)) E ds := fun H0 F0 F H σ D x I g =>
  h H0 F H σ _ I fun vs F1 H1 ds1 xs x1 I1 a1 w1 => w1 H0 F1 H1 σ _ I1 fun zs F2 H2 ds2 ys x2 I2 a2 ⟨l1, l2, w2⟩ =>
    ⟨by rw [a1.length]; exact l1, by rw [a2.length]; exact l2, F2, xs ++ ys, _, _, I2.fh, (a1.mono x2.ff).append a2, w2, fun v F' H' d x3 a w => g.nx F' H' _ _ (((x.step I x1).step I1 x2).step I2 x3.pure) (I2.pure x3) w,
      fun F' H' y dd fs ys x3 hd hf w => g.xe F' H' σ ds2 y dd fs ys (((x.step I x1).step I1 x2).step I2 x3.pure) (I2.pure x3) hd hf w⟩
theorem ev_callN {A : AD} {n m : Nat} {XE : XK} {ta tk : TA} {W : List Ent → PyData → Prop} (h : EvA S ta ds fun ds1 xs => EvA S tk ds1 fun ds2 ys => xs.length = n ∧ ys.length = m ∧ A (xs ++ ys) (W ds2)) :
    EvD S (tCallN n m (spG A) (fun vs zs => vs ++ zs) XE ta tk) ds W := fun H0 F H σ Q I q =>
  h H0 F H σ _ I fun vs F1 H1 ds1 xs x1 I1 a1 w1 => w1 H0 F1 H1 σ _ I1 fun zs F2 H2 ds2 ys x2 I2 a2 ⟨l1, l2, w2⟩ =>
    ⟨by rw [a1.length]; exact l1, by rw [a2.length]; exact l2, F2, xs ++ ys, W ds2, I2.fh, (a1.mono x2.ff).append a2, w2, fun v F' H' d x a w => q v F' H' ds2 d ((x1.tr I1 x2).tr I2 x.pure) (I2.pure x) a w⟩
end
/-! ### calls by names -/
section
variable {P : Program} {w : World} {K : PySem.W.Frag} {mg : Str → Option Value} {base : Heap}
structure Cal (P : Program) (w : World) (K : PySem.W.Frag) (mg : Str → Option Value) (base : Heap) (k : Nat) (x : Str) (sp : Sp) : Prop where
  ex : ∃ (fd : FuncData) (ps : List Str), FnOk P w K mg base (L2.CX P w) k (He.ga K x) fd ps sp ∧ Binds K fd ps []
  mgx : mg x = some (.ref (He.ga K x))
  kp : PySem.W.keepIn K (.ref (He.ga K x)) = true
/-- .. with n values and the keywords ks -/
structure CalK (P : Program) (w : World) (K : PySem.W.Frag) (mg : Str → Option Value) (base : Heap) (k : Nat) (x : Str) (n : Nat) (ks : List Str) (sp : Sp) : Prop where
  ex : ∃ (fd : FuncData) (ps : List Str), FnOk P w K mg base (L2.CX P w) k (He.ga K x) fd ps sp ∧ KBn K fd ps n ks (fun us ws => us ++ ws) (fun vs zs => vs ++ zs)
  mgx : mg x = some (.ref (He.ga K x))
  kp : PySem.W.keepIn K (.ref (He.ga K x)) = true
theorem Cal.mono {j k : Nat} {x : Str} {sp : Sp} (c : Cal P w K mg base j x sp) (h : j ≤ k) : Cal P w K mg base k x sp := by
  obtain ⟨⟨fd, ps, F, b⟩, h1, h2⟩ := c
  exact ⟨⟨fd, ps, F.mono h, b⟩, h1, h2⟩
theorem Cal.imp {k : Nat} {x : Str} {sp sp' : Sp} (c : Cal P w K mg base k x sp) (h : ∀ vs H Q E, sp' vs H Q E → sp vs H Q E) : Cal P w K mg base k x sp' := by
  obtain ⟨⟨fd, ps, F, b⟩, h1, h2⟩ := c
  exact ⟨⟨fd, ps, F.imp h, b⟩, h1, h2⟩
end
abbrev xno : XK := fun _ _ _ => False
theorem passN {X : Cx} : Passes (L2.CX X.prog X.w) X xno := fun _ _ _ _ _ _ _ h => by
  obtain ⟨_, _, _, _, _, _, _, _, _, _, _, _, z⟩ := h
  exact z.elim
section
variable {X : Cx} {k j n : Nat} {x : Str} {ks : List Str} {sp : Sp} {p pos : Pos} {e : Expr} {es : List Expr} {kws : List Keyword} {t tk : TA} {W : WX}
theorem pe_cl (c : Cal X.prog X.w X.K X.mg X.base k x sp) (hr : Room j X.A) (hk : k ≤ j) (hg : Gl X x) (ha : PA X (e :: es) t)
    (hdb : (x == ("__debug__" : Str)) = false := by decide) (he : starEach (e :: es) X.env = (false, eval e X.env) :: starEach es X.env := by rfl) (hpl : (backTo pos (starEach es X.env)).any (·.1) = false := by rfl) :
    PE X (.Call (.Name x p) (e :: es) [] pos) (tCall sp [] xno t) := by
  obtain ⟨⟨fd, ps, F, b⟩, hm, kp⟩ := c
  exact pe_call F (hr.mono hk) hg hm kp b .nil passN ha hdb he hpl
theorem pe_clX (c : Cal X.prog X.w X.K X.mg X.base k x sp) (tk : Takes X W) (hr : Room j X.A) (hk : k ≤ j) (hg : Gl X x) (ha : PA X (e :: es) t)
    (hdb : (x == ("__debug__" : Str)) = false := by decide) (he : starEach (e :: es) X.env = (false, eval e X.env) :: starEach es X.env := by rfl) (hpl : (backTo pos (starEach es X.env)).any (·.1) = false := by rfl) :
    PE X (.Call (.Name x p) (e :: es) [] pos) (tCallS sp (WE W) t) := by
  obtain ⟨⟨fd, ps, F, b⟩, hm, kp⟩ := c
  exact pe_callS F (hr.mono hk) hg hm kp b (fun σ => passAt tk σ) ha hdb he hpl
theorem pe_clK (c : CalK X.prog X.w X.K X.mg X.base k x n ks sp) (hr : Room j X.A) (hk : k ≤ j) (hg : Gl X x) (ha : PA X (e :: es) t) (hkw : PK X kws tk)
    (hall : (backToKw pos (keywordEach kws X.env)).all (·.1.isSome) = true := by rfl) (hks : (backToKw pos (keywordEach kws X.env)).filterMap (·.1) = ks := by rfl)
    (hdb : (x == ("__debug__" : Str)) = false := by decide) (he : starEach (e :: es) X.env = (false, eval e X.env) :: starEach es X.env := by rfl)
    (hpl : ((backTo pos (starEach (e :: es) X.env)).any (·.1) || (backToKw pos (keywordEach kws X.env)).any (·.1.isNone)) = false := by rfl) :
    PE X (.Call (.Name x p) (e :: es) kws pos) (tCallN n ks.length sp (fun vs zs => vs ++ zs) xno t tk) := by
  obtain ⟨⟨fd, ps, F, b⟩, hm, kp⟩ := c
  exact pe_callN F (hr.mono hk) hg hm kp b passN ha hkw hall hks hdb he hpl
theorem pe_clKX {Wx : WX} (c : CalK X.prog X.w X.K X.mg X.base k x n ks sp) (tx : Takes X Wx) (hr : Room j X.A) (hk : k ≤ j) (hg : Gl X x) (ha : PA X (e :: es) t) (hkw : PK X kws tk)
    (hall : (backToKw pos (keywordEach kws X.env)).all (·.1.isSome) = true := by rfl) (hks : (backToKw pos (keywordEach kws X.env)).filterMap (·.1) = ks := by rfl)
    (hdb : (x == ("__debug__" : Str)) = false := by decide) (he : starEach (e :: es) X.env = (false, eval e X.env) :: starEach es X.env := by rfl)
    (hpl : ((backTo pos (starEach (e :: es) X.env)).any (·.1) || (backToKw pos (keywordEach kws X.env)).any (·.1.isNone)) = false := by rfl) :
    PE X (.Call (.Name x p) (e :: es) kws pos) (tCallNS n ks.length sp (WE Wx) t tk) := by
  obtain ⟨⟨fd, ps, F, b⟩, hm, kp⟩ := c
  refine ⟨fun pins s σ H Q I h => wpAny_Call_Name_kw (ld_glob I hg hm ?_ hdb)⟩
  refine PySem.W.callWith_KW (h₀ := X.base) I.ok.mod.kin kp hall (thn (ha.run pos pins s σ H _ I h) fun us s1 ⟨vs, H1, I1, r, q⟩ => ?_) hpl he
  refine thn (hkw.run pos pins s1 σ H1 _ I1 q) fun ws s2 ⟨zs, H2, I2, rz, l1, l2, q2⟩ => ⟨I2.kIn, ?_⟩
  rw [hks]
  have r2 := b.rel r rz
  refine wpAny_call (codeAny_mono (F.run X.A X.stack s2 H2 ⟨us, ks.zip ws⟩ (us ++ ws) (vs ++ zs) Q (WE Wx σ) (hr.mono hk) I2.env0 (b.to s2 us ws I2.kIn (r.length.symm.trans l1) (rz.length.symm.trans l2)) r2 q2) fun r s' hq => ?_)
  match r, hq with
  | .error e, hq => exact passAt tx σ pins H2 s2 e s' I2 hq
  | .ok (.ret u), hq => exact I2.after hq
end
/-! ### a def keeps its promise -/
section
variable {P : Program} {w : World} {K : PySem.W.Frag} {mg : Str → Option Value} {base : Heap} {k : Nat} {f : Addr} {fd : FuncData} {name qual : Str} {pa : Arguments} {body : List Stmt} {sc : Scope} {N ps : List Str}
abbrev cxP (P : Program) (w : World) (K : PySem.W.Frag) (mg : Str → Option Value) (base : Heap) (N : List Str) (qual : Str) (sc : Scope) (f : Addr) (cd : Value) (A : Around) (outer : List Env) (s : Shared) (H : Hp) (E : XK) : Cx :=
  cxOf (L2.CX P w) P w K mg base N qual sc f cd A outer s H E
theorem ok_pure {A : AD} (F : FunD K name qual pa body sc [] [] f fd) (S : FnScope N ps sc) (len : ∀ xs W, A xs W → xs.length = ps.length)
    (hb : ∀ (cd : Value) (Ar : Around) (outer : List Env) (s : Shared) (H : Hp) (E : XK) (xs : List PyData) (W : PyData → Prop), Room k (Ar.deeper (PyProof.Rows.envOfC qual sc s.heap.objs.size f cd)) → A xs W →
      ∃ t, PSs (cxP P w K mg base N qual sc f cd Ar outer s H E).nox body t ∧ StD none t { nx := fun _ => W .none, rt := fun _ d => W d } (ent0 N.length xs)) : FnOk P w K mg base (L2.CX P w) (k + 1) f fd ps (spG A) := by
  have hpl : ps.length ≤ N.length := by
    have := congrArg List.length S.pre
    rw [List.length_take] at this
    omega
  refine F.ok S (fun vs H Q E ⟨F, xs, W, e1, e2, h, q⟩ => e2.length.trans (len xs W h)) fun cd Ar outer s H vs Q E hr ⟨F, xs, W, e1, e2, h, q⟩ => ?_
  obtain ⟨t, h1, h2⟩ := hb cd Ar outer s H E xs W hr h
  exact ⟨t, h1.nox, h2 H F F H _ _ (Ext.refl e1) (ents_start e1 e2 (by rw [e2.length, len xs W h]; exact hpl)) ⟨fun F' H' σ' ds' x I w => q _ F' H' _ x .non w, fun F' H' σ' ds' v d x I a w => q v F' H' d x a w, fun _ _ _ _ _ _ z => z.elim, fun _ _ _ _ _ _ z => z.elim, fun _ _ _ _ _ _ _ _ _ _ _ _ z => z.elim⟩⟩
theorem ok_st {A : AS} (F : FunD K name qual pa body sc [] [] f fd) (S : FnScope N ps sc) (len : ∀ m xs W, A m xs W → xs.length + 1 = ps.length)
    (hb : ∀ (cd : Value) (Ar : Around) (outer : List Env) (s : Shared) (H : Hp) (E : XK) (S : SA) (m : Nat) (xs : List PyData) (W : Nat → PyData → Prop), Room k (Ar.deeper (PyProof.Rows.envOfC qual sc s.heap.objs.size f cd)) → A m xs W →
      ∃ t, PSs (cxP P w K mg base N qual sc f cd Ar outer s H E).nox body t ∧
        StD S t { nx := fun _ => False, rt := fun ds d => ∃ m', ds[0]? = some (.st m') ∧ W m' d } (.st m :: ent0 (N.length - 1) xs)) : FnOk P w K mg base (L2.CX P w) (k + 1) f fd ps (spS A) := by
  have hpl : ps.length ≤ N.length := by
    have := congrArg List.length S.pre
    rw [List.length_take] at this
    omega
  refine F.ok S (fun vs H Q E ⟨S, F, m, v0, vr, xs, W, ev, e1, fS, s0, e2, h, q⟩ => ?_) fun cd Ar outer s H vs Q E hr ⟨S, F, m, v0, vr, xs, W, ev, e1, fS, s0, e2, h, q⟩ => ?_
  · rw [ev, List.length_cons, e2.length]
    exact len m xs W h
  · subst ev
    obtain ⟨t, h1, h2⟩ := hb cd Ar outer s H E S m xs W hr h
    have l0 := len m xs W h
    refine ⟨t, h1.nox, h2 H F F H _ _ (Ext.refl e1) (ents_startS e1 fS s0 e2 (by rw [e2.length]; omega)) ⟨fun _ _ _ _ _ _ z => z.elim, fun F' H' σ' ds' v d x I a ⟨m', w1, w2⟩ => ?_, fun _ _ _ _ _ _ z => z.elim, fun _ _ _ _ _ _ z => z.elim, fun _ _ _ _ _ _ _ _ _ _ _ _ z => z.elim⟩⟩
    obtain ⟨v1, _, g2⟩ := I.at_ 0 _ w1
    have e : v1 = v0 := by
      obtain ⟨a1, l1, q1, q2⟩ := g2.shape
      obtain ⟨a2, l2, q3, q4⟩ := s0.shape
      rw [q1] at q3
      cases q3
      rw [q2, q4]
    subst e
    exact q v F' H' m' d x g2 I.fS a w2
theorem ok_exc {A : AX} (cl : Str → Value) (F : FunD K name qual pa body sc [] [] f fd) (S : FnScope N ps sc) (len : ∀ xs W V, A xs W V → xs.length = ps.length)
    (hb : ∀ (cd : Value) (Ar : Around) (outer : List Env) (s : Shared) (H : Hp) (E : XK) (xs : List PyData) (W : PyData → Prop) (V : Str → List (Str × PyData) → Prop), Room k (Ar.deeper (PyProof.Rows.envOfC qual sc s.heap.objs.size f cd)) → A xs W V →
      Takes (cxP P w K mg base N qual sc f cd Ar outer s H E) (fun cls d _ H => E cls d H) → PassesOwn (model P w) (cxP P w K mg base N qual sc f cd Ar outer s H E).A (cxP P w K mg base N qual sc f cd Ar outer s H E).env (cxP P w K mg base N qual sc f cd Ar outer s H E).xe →
      ∃ t, PSs (cxP P w K mg base N qual sc f cd Ar outer s H E) body t ∧ StD none t { nx := fun _ => W .none, rt := fun _ d => W d, xw := fun cls d _ H => E cls d H, cl := cl, xc := fun _ x ys => V x ys } (ent0 N.length xs)) :
    FnOk P w K mg base (L2.CX P w) (k + 1) f fd ps (spX cl A) := by
  have hpl : ps.length ≤ N.length := by
    have := congrArg List.length S.pre
    rw [List.length_take] at this
    omega
  refine F.ok S (fun vs H Q E ⟨F, xs, W, V, e1, e2, h, q⟩ => e2.length.trans (len xs W V h)) fun cd Ar outer s H vs Q E hr ⟨F, xs, W, V, e1, e2, h, q, qx⟩ => ?_
  obtain ⟨t, h1, h2⟩ := hb cd Ar outer s H E xs W V hr h (takes_of rfl rfl rfl rfl) (passes_of rfl)
  exact ⟨t, h1, h2 H F F H _ _ (Ext.refl e1) (ents_start e1 e2 (by rw [e2.length, len xs W V h]; exact hpl)) ⟨fun F' H' σ' ds' x I w => q _ F' H' _ x .non w, fun F' H' σ' ds' v d x I a w => q v F' H' d x a w, fun _ _ _ _ _ _ z => z.elim, fun _ _ _ _ _ _ z => z.elim,
    fun F' H' σ' ds' y dd fs ys x I hd hf w => qx F' H' y dd fs ys x hd hf w⟩⟩
end
end JR
set_option Elab.async false
set_option linter.all false
set_option maxRecDepth 100000
set_option maxHeartbeats 2000000
/-! Shapes of promises; readings that are never asked. -/
namespace JR
open PySem PySem.Spec L2
def fnA {ι : Type} (enc : ι → List PyData) (pre : ι → Prop) (f : ι → PyData) : AD := fun xs W => ∃ i, xs = enc i ∧ pre i ∧ W (f i)
def relA {ι : Type} (enc : ι → List PyData) (pre : ι → Prop) (R : ι → PyData → Prop) : AD := fun xs W => ∃ i, xs = enc i ∧ pre i ∧ ∀ d, R i d → W d
def noA : AD := fun _ _ => False
class Lens (A : AD) (n : Nat) : Prop where
  len : ∀ xs W, A xs W → xs.length = n
theorem fnA_len {ι : Type} {enc : ι → List PyData} {P : ι → (PyData → Prop) → Prop} {n : Nat} (h : ∀ i, (enc i).length = n) : ∀ (xs : List PyData) (W : PyData → Prop), (∃ i, xs = enc i ∧ P i W) → xs.length = n := fun _ _ ⟨i, e, _⟩ => by
  rw [e]; exact h i
/-- a def that draws -/
def fnS {ι : Type} (enc : ι → List PyData) (pre : ι → Prop) (R : ι → Nat → Nat → PyData → Prop) : AS := fun m xs W => ∃ i, xs = enc i ∧ pre i ∧ ∀ m' d, R i m m' d → W m' d
theorem fnS_len {ι : Type} {enc : ι → List PyData} {P : ι → Nat → (Nat → PyData → Prop) → Prop} {n : Nat} (h : ∀ i, (enc i).length + 1 = n) : ∀ (m : Nat) (xs : List PyData) (W : Nat → PyData → Prop), (∃ i, xs = enc i ∧ P i m W) → xs.length + 1 = n := fun _ _ _ ⟨i, e, _⟩ => by
  rw [e]; exact h i
def fnX {ι : Type} (enc : ι → List PyData) (pre : ι → Prop) (R : ι → (PyData → Prop) → (Str → List (Str × PyData) → Prop) → Prop) : AX := fun xs W V => ∃ i, xs = enc i ∧ pre i ∧ R i W V
theorem fnX_len {ι : Type} {enc : ι → List PyData} {P : ι → (PyData → Prop) → (Str → List (Str × PyData) → Prop) → Prop} {n : Nat} (h : ∀ i, (enc i).length = n) : ∀ (xs : List PyData) (W : PyData → Prop) (V : Str → List (Str × PyData) → Prop), (∃ i, xs = enc i ∧ P i W V) → xs.length = n := fun _ _ _ ⟨i, e, _⟩ => by
  rw [e]; exact h i
def clK (K : PySem.W.Frag) : Str → Value := fun x => .ref (He.ga K x)
/-! ### never -/
def tNv : TE := fun _ _ _ => False
def tNvT : TT := fun _ _ _ => False
theorem pe_nv {X : Cx} {e : Expr} : PE X e tNv := ⟨fun _ _ _ _ _ _ z => z.elim⟩
theorem pt_nv {X : Cx} {e : Expr} : PT X e tNvT := ⟨fun _ _ _ _ _ _ z => z.elim⟩
section
variable {S : SA} {ds : List Ent} {E : DEnds} {W : List Ent → PyData → Prop}
theorem st_never (h : False) : StD S tNever E ds := h.elim
theorem ev_nv (h : False) : EvD S tNv ds W := h.elim
theorem et_nv {W : List Ent → Bool → Prop} (h : False) : EvT S tNvT ds W := h.elim
end
/-! ### isinstance, by the written class -/
section
variable {S : SA} {ds : List Ent} {W : List Ent → PyData → Prop} {te : TE} {K : PySem.W.Frag}
theorem ev_isiI (h : EvD S te ds fun ds1 d => W ds1 (.bool (isTy .int d))) : EvD S (tCB (rIsi K) (tCons te (tCons (tC (.ty "int")) tNil))) ds W := ev_isi .int h
theorem ev_isiB (h : EvD S te ds fun ds1 d => W ds1 (.bool (isTy .bool d))) : EvD S (tCB (rIsi K) (tCons te (tCons (tC (.ty "bool")) tNil))) ds W := ev_isi .bool h
theorem ev_isiT (h : EvD S te ds fun ds1 d => W ds1 (.bool (isTy .tuple d))) : EvD S (tCB (rIsi K) (tCons te (tCons (tC (.ty "tuple")) tNil))) ds W := ev_isi .tuple h
theorem ev_isiS (h : EvD S te ds fun ds1 d => W ds1 (.bool (isTy .str d))) : EvD S (tCB (rIsi K) (tCons te (tCons (tC (.ty "str")) tNil))) ds W := ev_isi .str h
end
/-! ### constants of the module -/
theorem Tx.pi {X : Cx} {K : PySem.W.Frag} (T : Tx K X.mg) (i : Nat) {x : Str} {n : Int} {pos : Pos} (hg : Gl X x) (h : fa[i]? = some (He.Fa.int x n) := by rfl) (hd : (x == ("__debug__" : Str)) = false := by decide) : PE X (.Name x pos) (tC (.int n)) := by
  obtain ⟨t, e⟩ := T.it i x n h
  exact pe_glob hg e ⟨t, rfl⟩ hd
/-- one or the other -/
theorem and_if {b : Bool} {p q : Prop} (h : if b = true then p else q) : (b = true → p) ∧ (b = false → q) := by
  cases b with
  | true => exact ⟨fun _ => by rwa [if_pos rfl] at h, fun z => Bool.noConfusion z⟩
  | false => exact ⟨fun z => Bool.noConfusion z, fun _ => by rwa [if_neg Bool.false_ne_true] at h⟩
theorem and_T {p q : Prop} (h : p) : ((true : Bool) = true → p) ∧ ((true : Bool) = false → q) := ⟨fun _ => h, fun z => Bool.noConfusion z⟩
theorem and_F {p q : Prop} (h : q) : ((false : Bool) = true → p) ∧ ((false : Bool) = false → q) := ⟨fun z => Bool.noConfusion z, fun _ => h⟩
theorem brT {b : Bool} {p q : Prop} (e : b = true) (h : p) : (b = true → p) ∧ (b = false → q) := ⟨fun _ => h, fun z => by rw [e] at z; cases z⟩
theorem brF {b : Bool} {p q : Prop} (e : b = false) (h : q) : (b = true → p) ∧ (b = false → q) := ⟨fun z => (by rw [e] at z; cases z), fun _ => h⟩
theorem brT' {b : Bool} {p q : Prop} (e : b = true) (h : p) : (b = false → q) ∧ (b = true → p) := ⟨fun z => (by rw [e] at z; cases z), fun _ => h⟩
theorem brF' {b : Bool} {p q : Prop} (e : b = false) (h : q) : (b = false → q) ∧ (b = true → p) := ⟨fun _ => h, fun z => by rw [e] at z; cases z⟩
/-- both ways give M -/
theorem mergeD {S : SA} {ta tb : TE} {ds : List Ent} {W : List Ent → PyData → Prop} {b : Bool} {M : PyData} (h1 : b = true → EvD S ta ds fun ds2 d => ds2 = ds ∧ d = M) (h2 : b = false → EvD S tb ds fun ds2 d => ds2 = ds ∧ d = M) (h3 : W ds M) :
    (b = true → EvD S ta ds W) ∧ (b = false → EvD S tb ds W) := ⟨fun e => (h1 e).imp fun ds2 d ⟨q1, q2⟩ => by rw [q1, q2]; exact h3, fun e => (h2 e).imp fun ds2 d ⟨q1, q2⟩ => by rw [q1, q2]; exact h3⟩
end JR
set_option Elab.async false
set_option linter.all false
set_option maxRecDepth 100000
set_option maxHeartbeats 2000000
/-! Comprehensions that map; tables, sorts, members as data. -/
namespace JR
open PySem PySem.Spec L2 RZ
theorem ev_map {Pd : PDa} {wi : TI} {g : TG} {te : TE} {vs : List Nat} {ds : List Ent} {W : List Ent → PyData → Prop}
    (h : ItD Pd none wi ds fun ds1 xs => ∃ ys : List PyData, xs.length ≤ 100000 ∧ ys.length = xs.length ∧ (∀ (i : Nat) (d y : PyData), xs[i]? = some d → ys[i]? = some y → TgC Pd vs g d (wipeE ds1 vs) fun ds2 => EvD none te ds2 fun _ z => z = y) ∧ W ds1 (.list ys)) :
    EvD none (tLc wi g tYes te vs) ds W := ev_lc fun H0 F H σ R I q => h H0 F H σ R I fun J F' H' ds1 xs x I' wk ⟨ys, hl, hy, hs, w⟩ => q J F' H' ds1 xs x I' wk ⟨hl, fun i acc => acc = ys.take i, by show _ = ys.take 0; rw [List.take_zero], fun i d acc e _ ea => by
      have li : i < ys.length := by
        rw [hy]
        exact (List.getElem?_eq_some_iff.mp e).1
      have ey : ys[i]? = some ys[i] := List.getElem?_eq_getElem li
      intro H0 F H σ σ2 v R I ew a k
      refine hs i d ys[i] e ey H0 F H σ σ2 v R I ew a fun σ' ds' I' ew' w' => k σ' ds' I' ew' ?_
      refine et_yes ⟨fun _ => w'.imp fun ds2 z ez => ?_, fun z => Bool.noConfusion z⟩
      show acc ++ [z] = _
      rw [show z = _ from ez, show acc = _ from ea, List.take_succ, ey]
      rfl, fun acc hl ea => by
      rw [show acc = _ from ea, ← hy, List.take_length]
      exact w⟩
/-- .. with a test -/
theorem ev_filter {Pd : PDa} {wi : TI} {g : TG} {tt : TT} {te : TE} {vs : List Nat} {ds : List Ent} {W : List Ent → PyData → Prop}
    (h : ItD Pd none wi ds fun ds1 xs => ∃ ys : List (Option PyData), xs.length ≤ 100000 ∧ ys.length = xs.length ∧
      (∀ (i : Nat) (d : PyData) (y : Option PyData), xs[i]? = some d → ys[i]? = some y → TgC Pd vs g d (wipeE ds1 vs) fun ds2 => EvT none tt ds2 fun ds3 b => (b = true → EvD none te ds3 fun _ z => y = some z) ∧ (b = false → y = none)) ∧ W ds1 (.list (ys.filterMap id))) :
    EvD none (tLc wi g tt te vs) ds W := ev_lc fun H0 F H σ R I q => h H0 F H σ R I fun J F' H' ds1 xs x I' wk ⟨ys, hl, hy, hs, w⟩ => q J F' H' ds1 xs x I' wk ⟨hl, fun i acc => acc = (ys.take i).filterMap id, by show _ = (ys.take 0).filterMap id; rw [List.take_zero]; rfl, fun i d acc e _ ea => by
      have li : i < ys.length := by
        rw [hy]
        exact (List.getElem?_eq_some_iff.mp e).1
      have ey : ys[i]? = some ys[i] := List.getElem?_eq_getElem li
      have st : (ys.take (i + 1)).filterMap id = (ys.take i).filterMap id ++ (match ys[i] with | some z => [z] | none => []) := by
        rw [List.take_succ, ey, List.filterMap_append]
        cases ys[i] <;> rfl
      intro H0 F H σ σ2 v R I ew a k
      refine hs i d ys[i] e ey H0 F H σ σ2 v R I ew a fun σ' ds' I' ew' w' => k σ' ds' I' ew' ?_
      intro H0 F H σ Q I q
      refine w' H0 F H σ Q I fun b F' H' ds3 x I' w3 => q b F' H' ds3 x I' ⟨fun eb => (w3.1 eb).imp fun ds2 z ez => ?_, fun eb => ?_⟩
      · show acc ++ [z] = _
        have ez' : ys[i] = some z := ez
        rw [st, show acc = _ from ea, ez']
      · show acc = _
        rw [st, show acc = _ from ea, w3.2 eb, List.append_nil], fun acc hl ea => by
      rw [show acc = _ from ea, ← hy, List.take_length]
      exact w⟩
/-! ### ranges of naturals -/
section
variable {S : SA} {ds : List Ent} {G : List Ent → List PyData → Prop} {te : TE} {ta : TA}
theorem itn_1 (h : EvA S ta ds fun ds1 ys => ∃ n : Nat, ys = [.int n] ∧ n ≤ 100000 ∧ G ds1 ((List.range n).map fun k => PyData.int (k : Nat))) : ItD Da S (iRng1 ta) ds G := it_rng1 fun H0 F H σ Q I q =>
  h H0 F H σ Q I fun vs F' H' ds' xs x I' a ⟨n, e, hl, w⟩ => q vs F' H' ds' xs x I' a ⟨n, e, by omega, by omega, by rw [Int.toNat_natCast]; exact w⟩
theorem itn_rev (h : EvD S te ds fun ds1 d => ∃ n : Nat, d = .int n ∧ n ≤ 100000 ∧ G ds1 ((List.range n).map fun k => PyData.int ((n - 1 - k : Nat)))) : ItD Da S (iRevR (tRg1 te)) ds G := it_revR fun H0 F H σ Q I q =>
  h H0 F H σ Q I fun v F' H' ds' d x I' a ⟨n, e, hl, w⟩ => q v F' H' ds' d x I' a ⟨n, e, by omega, by omega, by
    rw [Int.toNat_natCast]
    have e2 : (List.range n).map (fun k => PyData.int ((n : Int) - 1 - (k : Nat))) = (List.range n).map fun k => PyData.int ((n - 1 - k : Nat)) := by
      refine List.map_congr_left fun k hk => ?_
      have := List.mem_range.mp hk
      congr 1
      omega
    rw [e2]
    exact w⟩
theorem evn_lrg {W : List Ent → PyData → Prop} (h : EvD S te ds fun ds1 d => ∃ n : Nat, d = .int n ∧ n ≤ 100000 ∧ W ds1 (.list ((List.range n).map fun k => PyData.int (k : Nat)))) : EvD S (tLstRg (tRg1 te)) ds W := ev_lrg fun H0 F H σ Q I q =>
  h H0 F H σ Q I fun v F' H' ds' d x I' a ⟨n, e, hl, w⟩ => q v F' H' ds' d x I' a ⟨n, e, by omega, by omega, by rw [Int.toNat_natCast]; exact w⟩
end
/-- items of a mapped list -/
theorem map_at {α β : Type} {f : α → β} {l : List α} {i : Nat} {y : β} (h : (l.map f)[i]? = some y) : ∃ x, l[i]? = some x ∧ y = f x := by
  rw [List.getElem?_map] at h
  cases e : l[i]? with
  | none => rw [e] at h; cases h
  | some x => rw [e] at h; exact ⟨x, rfl, (Option.some.inj h).symm⟩
theorem range_at {n i x : Nat} (h : (List.range n)[i]? = some x) : i < n ∧ x = i := by
  have hl := (List.getElem?_eq_some_iff.mp h).1
  rw [List.length_range] at hl
  rw [List.getElem?_range hl] at h
  exact ⟨hl, (Option.some.inj h).symm⟩
theorem rmap_at {β : Type} {f : Nat → β} {n i : Nat} {y : β} (h : ((List.range n).map f)[i]? = some y) : i < n ∧ y = f i := by
  obtain ⟨x, e, r⟩ := map_at h
  obtain ⟨h1, h2⟩ := range_at e
  rw [h2] at r
  exact ⟨h1, r⟩
theorem mmap_at {α β γ : Type} {f : α → β} {g : β → γ} {l : List α} {i : Nat} {y : γ} (h : ((l.map f).map g)[i]? = some y) : ∃ x, l[i]? = some x ∧ y = g (f x) := by
  rw [List.map_map] at h
  exact map_at h
theorem rmmap_at {β γ : Type} {f : Nat → β} {g : β → γ} {n i : Nat} {y : γ} (h : (((List.range n).map f).map g)[i]? = some y) : i < n ∧ y = g (f i) := by
  rw [List.map_map] at h
  exact rmap_at h
theorem zip_at {α β : Type} {l : List α} {m : List β} {i : Nat} {p : α × β} (h : (l.zip m)[i]? = some p) : l[i]? = some p.1 ∧ m[i]? = some p.2 := List.getElem?_zip_eq_some.mp h
/-! ### a text among written texts -/
def strsOf : List PyData → List Str
  | .str x :: r => x :: strsOf r
  | _ => []
theorem op_inW {K : PySem.W.Frag} {neg : Bool} {i : Str} {ys : List PyData} {W : PyData → Prop} (h : ys = (strsOf ys).map PyData.str) (w : W (.bool (if neg then !decide (i ∈ strsOf ys) else decide (i ∈ strsOf ys)))) : OpD (rIn K neg) (.str i) (.tuple ys) W := by
  rw [h]
  exact op_inS w
theorem le_lit {n : Nat} (h : Nat.ble n 100000 = true) : n ≤ 100000 := Nat.le_of_ble_eq_true h
/-! ### tables -/
abbrev iv (r : List Int) : PyData := .tuple (r.map PyData.int)
abbrev tbl (T : List (List Int)) : PyData := .tuple (T.map iv)
def col (T : List (List Int)) (c : Nat) : List Int := T.map fun r => r.getD c 0
def width (T : List (List Int)) : Nat := (T.headD []).length
/-- rectangular -/
structure Rect (h w : Nat) (T : List (List Int)) : Prop where
  rows : T.length = h
  cols : ∀ r ∈ T, r.length = w
  hb : 2 ≤ h ∧ h ≤ 4
  wb : 2 ≤ w ∧ w ≤ 4
structure OkT (sg : Bool) (h w : Nat) (T : List (List Int)) : Prop extends Rect h w T where
  nn : ∀ r ∈ T, ∀ x ∈ r, 0 ≤ x ∧ (sg = true → x ≤ 1)
  tot : (T.map List.sum).sum ≤ 12
theorem Rect.head {h w : Nat} {T : List (List Int)} (k : Rect h w T) : ∃ r R, T = r :: R ∧ r.length = w := by
  cases T with
  | nil => have := k.rows; have := k.hb; simp at *; omega
  | cons r R => exact ⟨r, R, rfl, k.cols r List.mem_cons_self⟩
theorem Rect.width {h w : Nat} {T : List (List Int)} (k : Rect h w T) : JR.width T = w := by
  obtain ⟨r, R, e, hr⟩ := k.head
  rw [e]; exact hr
def tr (T : List (List Int)) : List (List Int) := (List.range (width T)).map (col T)
def qr (T : List (List Int)) : List (List Int) := (List.range (width T)).map fun c => (col T c).reverse
def qb (T : List (List Int)) : List (List Int) := (List.range (width T)).map fun c => col T (width T - 1 - c)
theorem getD_some {r : List Int} {c : Nat} (h : c < r.length) : r[c]? = some (r.getD c 0) := by
  rw [List.getD_eq_getElem?_getD, List.getElem?_eq_getElem h]; rfl
theorem iv_at {r : List Int} {c : Nat} (h : c < r.length) : (r.map PyData.int)[c]? = some (.int (r.getD c 0)) := by
  rw [List.getElem?_map, getD_some h]; rfl
/-! ### sorts, members -/
def wd (sg : Bool) : Str := if sg then "subset" else "bag"
abbrev leafE (sg : Bool) (n : Int) : PyData := .tuple [.str (wd sg), .int n]
def sortE (sg : Bool) (n : Int) : List Int → PyData
  | [] => leafE sg n
  | m :: ns => .tuple [.str "pair", leafE sg n, sortE sg m ns]
def memE (m : List Int) : List (List Int) → PyData
  | [] => iv m
  | m' :: ms => .tuple [iv m, memE m' ms]
theorem op_inIn {K : PySem.W.Frag} {i : Int} {ns : List Int} {W : PyData → Prop} (w : W (.bool (decide (i ∈ ns)))) : OpD (rIn K false) (.int i) (iv ns) W := op_inI (neg := false) w
theorem filt {m : List Int} {k : Int} {E : PyData} : (m.map fun v => if v = k then some E else none).filterMap id = List.replicate (m.count k) E := by
  induction m with
  | nil => rfl
  | cons a m ih =>
    rw [List.map_cons, List.count_cons]
    by_cases h : a = k
    · rw [if_pos h, if_pos (beq_iff_eq.mpr h), List.replicate_succ, ← ih]; rfl
    · rw [if_neg h, if_neg (fun z => h (beq_iff_eq.mp z)), Nat.add_zero, ← ih]; rfl
end JR
set_option pp.maxSteps 2500
set_option Elab.async false
set_option linter.all false
set_option maxRecDepth 100000
set_option maxHeartbeats 2000000
namespace JR
open PySem PySem.Spec L2 RZ
local macro_rules
  | `(tactic| walk_at "s") => `(tactic| first
    | ((with_reducible apply ev_var); exact rfl) | with_reducible refine ev_isiI ?_ | with_reducible refine ev_isiB ?_ | with_reducible refine ev_isiT ?_ | with_reducible refine ev_isiS ?_ | ((with_reducible refine st_append ?_ ?_); rotate_left; exact ⟨_, rfl⟩) | ((with_reducible apply st_pop); exact rfl) | ((with_reducible apply et_ownNe); exact rfl) | ((with_reducible apply op_i); exact rfl) | ((with_reducible apply it_rgV); exact rfl) | ((with_reducible apply op_inW); exact rfl) | ((with_reducible apply op_ixT); exact rfl) | ((with_reducible apply op_ixL); exact rfl) | ((with_reducible refine And.intro (le_lit ?_) ?_); exact rfl) | ((with_reducible apply op_b); exact rfl) | ((with_reducible apply tc_name); decide) | ((with_reducible apply tc_tup); exact rfl) | ((with_reducible apply tg_tup); exact rfl) | ((with_reducible apply tg_tupD); exact rfl) | ((with_reducible apply tc_tupD); exact rfl)
    | with_reducible refine st_seq ?_ | with_reducible refine st_ret ?_ | with_reducible refine st_next ?_ | with_reducible refine st_if ?_ | with_reducible refine st_par_own2 ?_ | with_reducible refine st_par_own ?_ | with_reducible refine st_rng ?_ | with_reducible refine st_par ?_ | with_reducible refine st_own ?_ | with_reducible refine st_asg ?_ | with_reducible refine st_unpack ?_ | with_reducible refine st_drop ?_ | with_reducible refine st_break ?_ | with_reducible refine ev_int ?_ | with_reducible refine ev_str ?_ | with_reducible refine ev_bl ?_ | with_reducible refine ev_non ?_ | with_reducible refine ev_op ?_ | with_reducible refine ev_un ?_ | with_reducible refine ev_if ?_ | with_reducible refine ev_andV ?_ | with_reducible refine ev_orV ?_ | with_reducible refine ev_notV ?_ | with_reducible refine ev_tup ?_ | with_reducible refine ev_lst ?_ | with_reducible refine ea_nil ?_ | with_reducible refine ea_cons ?_ | with_reducible refine ev_call ?_ | with_reducible refine ev_callN ?_ | with_reducible refine ev_cb ?_ | with_reducible refine ev_sl ?_ | with_reducible refine eo_none ?_ | with_reducible refine eo_some ?_ | with_reducible refine ev_revL ?_ | with_reducible refine ev_revT ?_ | with_reducible refine evn_lrg ?_ | with_reducible refine ev_bmT ?_ | with_reducible refine et_test ?_ | with_reducible refine et_B ?_ | with_reducible refine et_and ?_ | with_reducible refine et_or ?_ | with_reducible refine et_not ?_ | with_reducible refine et_yes ?_ | with_reducible refine ev_chain ?_ | with_reducible refine op_eqI ?_ | with_reducible refine op_neI ?_ | with_reducible refine op_eqS ?_ | with_reducible refine op_neS ?_ | with_reducible refine op_eqB ?_ | with_reducible refine op_neB ?_ | with_reducible refine op_inIn ?_ | with_reducible refine ud_neg ?_ | with_reducible refine op_is ?_ | with_reducible refine op_isnt ?_ | with_reducible refine cb_lenL ?_ | with_reducible refine cb_lenT ?_ | with_reducible refine cb_listT ?_ | with_reducible refine cb_listL ?_ | with_reducible refine cb_tupL ?_ | with_reducible refine cb_int ?_ | with_reducible refine cb_max2 ?_ | with_reducible refine cb_min2 ?_ | with_reducible refine it_list ?_ | with_reducible refine it_tup ?_ | with_reducible refine itn_1 ?_ | with_reducible refine it_rng2 ?_ | with_reducible refine it_rev ?_ | with_reducible refine itn_rev ?_ | with_reducible refine it_enum ?_ | with_reducible refine it_enumT ?_ | with_reducible refine it_zipT ?_ | with_reducible refine tcs_cons ?_ | with_reducible refine tcs_nil ?_ | with_reducible refine tg_name ?_ | with_reducible refine tgs_cons ?_ | with_reducible refine tgs_nil ?_
    | with_reducible refine ⟨_, rfl, ?_⟩
    | with_reducible refine ⟨_, _, rfl, ?_⟩
    | refine and_T ?_ | refine and_F ?_)
  | `(tactic| walk_at "d") => `(tactic| repeat walk_at "s")
/-! ### marks, sides -/
def A_is_from : AD := fnA (fun (p : Int × Int × Int) => [.int p.1, .int p.2.1, .int p.2.2]) (fun _ => True) fun p => .bool (decide (p.2.1 ≤ p.1) && decide (p.1 ≤ p.2.2))
theorem sc_is_from : FnScope ["value", "least", "most"] ["value", "least", "most"] (defScope s_is_from) := ⟨rfl, rfl, rfl, by decide +kernel, rfl, by decide +kernel, by decide +kernel⟩
theorem ok_is_from {P : Program} {w : World} {K : PySem.W.Frag} {mg : Str → Option Value} {base : Heap}  (T : Tx K mg)   : Cal P w K mg base 1 "is_from" (spG A_is_from) := by
  obtain ⟨fd, F⟩ := T.sd.def_ 0 (d := d_is_from) rfl
  have S := sc_is_from
  refine ⟨⟨fd, ["value", "least", "most"], ok_pure (k := 0) F S (fnA_len fun _ => rfl) (fun cd Ar outer s H E xs W hr h => ?_), F.bindsN fun _ _ _ _ _ _ us hl => match us, hl with | [_, _, _], _ => rfl⟩, T.g 0, F.kp⟩
  obtain ⟨⟨v, lo, hi⟩, e, pr, h⟩ := h
  subst e
  refine ⟨_, (pss_one (ps_ret (pe_and (pe_callB call_isi (by rfl) (T.n 71) (by decide +kernel) (pa_cons (pv 0) (pa_cons (pe_bltn (v := .ty "int") (by rfl) (T.n 74) (by decide +kernel) rfl) pa_nil))) (pe_and (pe_not (pe_callB call_isi (by rfl) (T.n 71) (by decide +kernel) (pa_cons (pv 0) (pa_cons (pe_bltn (v := .ty "bool") (by rfl) (T.n 75) (by decide +kernel) rfl) pa_nil)))) (pe_one (pe_chain op_le op_le (pv 1) (pv 0) (pv 2))))))), ?_⟩
  show StD none _ _ [Ent.dat _, Ent.dat _, Ent.dat _]
  try dsimp only at h pr ⊢
  walk_at "d"
  refine ⟨fun e => ?_, fun e => ?_⟩
  · rw [e] at h
    exact h
  · walk_at "d"
    rw [e] at h
    exact h
def A_is_item : AD := fnA (fun d : PyData => [d]) (fun d => ∃ i, d = .int i) fun d => .bool (match d with | .int i => decide (0 ≤ i) | _ => false)
theorem sc_is_item : FnScope ["value"] ["value"] (defScope s_is_item) := ⟨rfl, rfl, rfl, by decide +kernel, rfl, by decide +kernel, by decide +kernel⟩
theorem ok_is_item {P : Program} {w : World} {K : PySem.W.Frag} {mg : Str → Option Value} {base : Heap}  (T : Tx K mg)   : Cal P w K mg base 1 "is_item" (spG A_is_item) := by
  obtain ⟨fd, F⟩ := T.sd.def_ 24 (d := d_is_item) rfl
  have S := sc_is_item
  refine ⟨⟨fd, ["value"], ok_pure (k := 0) F S (fnA_len fun _ => rfl) (fun cd Ar outer s H E xs W hr h => ?_), F.bindsN fun _ _ _ _ _ _ us hl => match us, hl with | [_], _ => rfl⟩, T.g 24, F.kp⟩
  obtain ⟨i, e, pr, h⟩ := h
  subst e
  refine ⟨_, (pss_one (ps_ret (pe_and (pe_callB call_isi (by rfl) (T.n 71) (by decide +kernel) (pa_cons (pv 0) (pa_cons (pe_bltn (v := .ty "int") (by rfl) (T.n 74) (by decide +kernel) rfl) pa_nil))) (pe_and (pe_not (pe_callB call_isi (by rfl) (T.n 71) (by decide +kernel) (pa_cons (pv 0) (pa_cons (pe_bltn (v := .ty "bool") (by rfl) (T.n 75) (by decide +kernel) rfl) pa_nil)))) (pe_one (pe_cmpR op_ge (pv 0) pe_int (nomark _))))))), ?_⟩
  show StD none _ _ [Ent.dat _]
  try dsimp only at h pr ⊢
  obtain ⟨n, e⟩ := pr
  subst e
  walk_at "d"
  exact h
def sideB : PyData → Bool
  | .tuple xs => decide ((2 : Int) ≤ xs.length) && decide ((xs.length : Int) ≤ 5)
  | _ => false
def A_is_side : AD := fnA (fun d : PyData => [d]) (fun d => d = .none ∨ ∃ xs, d = .tuple xs) fun d => .bool (sideB d)
theorem sc_is_side : FnScope ["value"] ["value"] (defScope s_is_side) := ⟨rfl, rfl, rfl, by decide +kernel, rfl, by decide +kernel, by decide +kernel⟩
theorem ok_is_side {P : Program} {w : World} {K : PySem.W.Frag} {mg : Str → Option Value} {base : Heap}  (T : Tx K mg)   : Cal P w K mg base 1 "is_side" (spG A_is_side) := by
  obtain ⟨fd, F⟩ := T.sd.def_ 23 (d := d_is_side) rfl
  have S := sc_is_side
  refine ⟨⟨fd, ["value"], ok_pure (k := 0) F S (fnA_len fun _ => rfl) (fun cd Ar outer s H E xs W hr h => ?_), F.bindsN fun _ _ _ _ _ _ us hl => match us, hl with | [_], _ => rfl⟩, T.g 23, F.kp⟩
  obtain ⟨i, e, pr, h⟩ := h
  subst e
  refine ⟨_, (pss_one (ps_ret (pe_and (pe_callB call_isi (by rfl) (T.n 71) (by decide +kernel) (pa_cons (pv 0) (pa_cons (pe_bltn (v := .ty "tuple") (by rfl) (T.n 72) (by decide +kernel) rfl) pa_nil))) (pe_one (pe_chain op_le op_le (T.pi 92 (by rfl)) (pe_callB call_len_seq (by rfl) (T.n 69) (by decide +kernel) (pa_cons (pv 0) pa_nil)) (T.pi 93 (by rfl))))))), ?_⟩
  show StD none _ _ [Ent.dat _]
  try dsimp only at h pr ⊢
  rcases pr with e | ⟨xs, e⟩
  · subst e
    walk_at "d"
    exact h
  · subst e
    have h : W (.bool (decide ((2 : Int) ≤ xs.length) && decide ((xs.length : Int) ≤ 5))) := h
    walk_at "d"
    refine ⟨fun e => ?_, fun e => ?_⟩
    · rw [e] at h
      exact h
    · walk_at "d"
      rw [e] at h
      exact h
/-! ### columns -/
def A_column_items : AD := fnA (fun (p : List (List Int) × Nat) => [tbl p.1, .int (p.2 : Nat)]) (fun p => p.1.length ≤ 100 ∧ ∀ r ∈ p.1, p.2 < r.length) fun p => iv (col p.1 p.2)
theorem sc_column_items : FnScope ["table", "column", "row"] ["table", "column"] (defScope s_column_items) := ⟨rfl, rfl, rfl, by decide +kernel, rfl, by decide +kernel, by decide +kernel⟩
theorem ok_column_items {P : Program} {w : World} {K : PySem.W.Frag} {mg : Str → Option Value} {base : Heap}  (T : Tx K mg)   : Cal P w K mg base 1 "column_items" (spG A_column_items) := by
  obtain ⟨fd, F⟩ := T.sd.def_ 27 (d := d_column_items) rfl
  have S := sc_column_items
  refine ⟨⟨fd, ["table", "column"], ok_pure (k := 0) F S (fnA_len fun _ => rfl) (fun cd Ar outer s H E xs W hr h => ?_), F.bindsN fun _ _ _ _ _ _ us hl => match us, hl with | [_, _], _ => rfl⟩, T.g 27, F.kp⟩
  obtain ⟨⟨R, c⟩, e, pr, h⟩ := h
  subst e
  refine ⟨_, (pss_one (ps_ret (pe_callTy call_tupZ (by rfl) (T.n 72) (by decide +kernel) (pa_cons (pe_lc (own := [("row", 2)]) (g := (gName 2)) (tt := tYes) (te := (tOp (rIxT K) (tVar 2) (tVar 1))) rfl S.nd (pi_tup (pv 0)) (blkOk_by (N := ["table", "column", "row"]) (sc := (defScope s_column_items)) (by decide +kernel)) (fun _ _ _ _ _ => (pg_name (i := 2) S.nd rfl (by first | exact Or.inl rfl | exact Or.inr rfl))) (fun _ _ _ _ _ => pts_nil) (fun _ _ _ _ _ => (pe_ix ix_tup (pv 2) (pv 1) fun _ _ => rfl))) pa_nil)))), ?_⟩
  show StD none _ _ [Ent.dat _, Ent.dat _, Ent.no]
  try dsimp only at h pr ⊢
  obtain ⟨hl, hc⟩ := pr
  walk_at "d"
  refine ev_map (Pd := Da) ?_
  walk_at "d"
  refine ⟨(col R c).map PyData.int, by rw [List.length_map]; omega, by unfold col; rw [List.length_map, List.length_map, List.length_map], fun i d y e1 e2 => ?_, ?_⟩
  · obtain ⟨r, er, q1⟩ := map_at e1
    obtain ⟨r2, er2, q2⟩ := mmap_at e2
    rw [er] at er2
    cases er2
    subst q1 q2
    walk_at "d"
    exact op_ixT (atI_nat' (by omega) (iv_at (hc r (List.mem_of_getElem? er)))) rfl
  · walk_at "d"
    exact h
theorem use_column_items {R : List (List Int)} {c : Nat} {W : PyData → Prop} (h1 : R.length ≤ 100) (h2 : ∀ r ∈ R, c < r.length) (w : W (iv (col R c))) : A_column_items [tbl R, .int (c : Nat)] W := ⟨(R, c), rfl, ⟨h1, h2⟩, w⟩
theorem head_at {h w : Nat} {R : List (List Int)} (k : Rect h w R) : atI (R.map iv) 0 = some (iv (R.headD [])) := by
  obtain ⟨r, R', e, _⟩ := k.head
  subst e
  exact atI_nat' (Int.le_refl 0) rfl
theorem Rect.get {h w : Nat} {R : List (List Int)} (k : Rect h w R) {c : Nat} (hc : c < JR.width R) : ∀ r ∈ R, c < r.length := fun r hr => by
  rw [k.cols r hr, ← k.width]; exact hc
theorem Rect.few {h w : Nat} {R : List (List Int)} (k : Rect h w R) : R.length ≤ 100 := by
  have := k.rows
  have := k.hb
  omega
def A_rows (f : List (List Int) → List (List Int)) : AD := fnA (fun R : List (List Int) => [tbl R]) (fun R => ∃ h w, Rect h w R) fun R => tbl (f R)
theorem use_rows {f : List (List Int) → List (List Int)} {R : List (List Int)} {h w : Nat} {W : PyData → Prop} (k : Rect h w R) (q : W (tbl (f R))) : A_rows f [tbl R] W := ⟨R, rfl, ⟨h, w, k⟩, q⟩
theorem sc_quarter_rows : FnScope ["table", "column"] ["table"] (defScope s_quarter_rows) := ⟨rfl, rfl, rfl, by decide +kernel, rfl, by decide +kernel, by decide +kernel⟩
theorem ok_quarter_rows {P : Program} {w : World} {K : PySem.W.Frag} {mg : Str → Option Value} {base : Heap}  (T : Tx K mg) (c_column_items : Cal P w K mg base 1 "column_items" (spG A_column_items))  : Cal P w K mg base 2 "quarter_rows" (spG (A_rows qr)) := by
  obtain ⟨fd, F⟩ := T.sd.def_ 32 (d := d_quarter_rows) rfl
  have S := sc_quarter_rows
  refine ⟨⟨fd, ["table"], ok_pure (k := 1) F S (fnA_len fun _ => rfl) (fun cd Ar outer s H E xs W hr h => ?_), F.bindsN fun _ _ _ _ _ _ us hl => match us, hl with | [_], _ => rfl⟩, T.g 32, F.kp⟩
  obtain ⟨R, e, pr, h⟩ := h
  subst e
  refine ⟨_, (pss_one (ps_ret (pe_callTy call_tupZ (by rfl) (T.n 72) (by decide +kernel) (pa_cons (pe_lc (own := [("column", 1)]) (g := (gName 1)) (tt := tYes) (te := (tRevT K (tCall (spG A_column_items) [] xno (tCons (tVar 0) (tCons (tVar 1) tNil))))) rfl S.nd (pi_range1 (by rfl) (T.n 70) (pa_cons (pe_callB call_len_seq (by rfl) (T.n 69) (by decide +kernel) (pa_cons (pe_ix ix_tup (pv 0) pe_int fun _ _ => rfl) pa_nil)) pa_nil)) (blkOk_by (N := ["table", "column"]) (sc := (defScope s_quarter_rows)) (by decide +kernel)) (fun _ _ _ _ _ => (pg_name (i := 1) S.nd rfl (by first | exact Or.inl rfl | exact Or.inr rfl))) (fun _ _ _ _ _ => pts_nil) (fun _ _ _ _ _ => (pe_revT (pe_cl c_column_items hr (by omega) (by rfl) (pa_cons (pv 0) (pa_cons (pv 1) pa_nil)))))) pa_nil)))), ?_⟩
  show StD none _ _ [Ent.dat _, Ent.no]
  try dsimp only at h pr ⊢
  obtain ⟨hh, ww, k⟩ := pr
  have hw := k.width
  have h1 := k.wb
  walk_at "d"
  refine ev_map (Pd := Da) ?_
  walk_at "d"
  refine op_ixT (head_at k) ?_
  walk_at "d"
  have el : (List.map PyData.int (R.headD [])).length = width R := by rw [List.length_map]; rfl
  rw [el]
  refine ⟨by omega, ?_⟩
  refine ⟨(qr R).map iv, by rw [List.length_map, List.length_range]; omega, by unfold qr; rw [List.length_map, List.length_map, List.length_map], fun i d y e1 e2 => ?_, ?_⟩
  · obtain ⟨hi, q1⟩ := rmap_at e1
    obtain ⟨_, q2⟩ := rmmap_at e2
    subst q1 q2
    walk_at "d"
    refine use_column_items k.few (k.get hi) ?_
    walk_at "d"
    show PyData.tuple (List.map PyData.int (col R i)).reverse = .tuple ((col R i).reverse.map PyData.int)
    rw [List.map_reverse]
  · walk_at "d"
    exact h
theorem sc_quarter_rows_back : FnScope ["table", "column"] ["table"] (defScope s_quarter_rows_back) := ⟨rfl, rfl, rfl, by decide +kernel, rfl, by decide +kernel, by decide +kernel⟩
theorem ok_quarter_rows_back {P : Program} {w : World} {K : PySem.W.Frag} {mg : Str → Option Value} {base : Heap}  (T : Tx K mg) (c_column_items : Cal P w K mg base 1 "column_items" (spG A_column_items))  : Cal P w K mg base 2 "quarter_rows_back" (spG (A_rows qb)) := by
  obtain ⟨fd, F⟩ := T.sd.def_ 33 (d := d_quarter_rows_back) rfl
  have S := sc_quarter_rows_back
  refine ⟨⟨fd, ["table"], ok_pure (k := 1) F S (fnA_len fun _ => rfl) (fun cd Ar outer s H E xs W hr h => ?_), F.bindsN fun _ _ _ _ _ _ us hl => match us, hl with | [_], _ => rfl⟩, T.g 33, F.kp⟩
  obtain ⟨R, e, pr, h⟩ := h
  subst e
  refine ⟨_, (pss_one (ps_ret (pe_callTy call_tupZ (by rfl) (T.n 72) (by decide +kernel) (pa_cons (pe_lc (own := [("column", 1)]) (g := (gName 1)) (tt := tYes) (te := (tCall (spG A_column_items) [] xno (tCons (tVar 0) (tCons (tVar 1) tNil)))) rfl S.nd (pi_revR (by rfl) (T.n 83) (prg_1 (by rfl) (T.n 70) (pe_callB call_len_seq (by rfl) (T.n 69) (by decide +kernel) (pa_cons (pe_ix ix_tup (pv 0) pe_int fun _ _ => rfl) pa_nil)))) (blkOk_by (N := ["table", "column"]) (sc := (defScope s_quarter_rows_back)) (by decide +kernel)) (fun _ _ _ _ _ => (pg_name (i := 1) S.nd rfl (by first | exact Or.inl rfl | exact Or.inr rfl))) (fun _ _ _ _ _ => pts_nil) (fun _ _ _ _ _ => (pe_cl c_column_items hr (by omega) (by rfl) (pa_cons (pv 0) (pa_cons (pv 1) pa_nil))))) pa_nil)))), ?_⟩
  show StD none _ _ [Ent.dat _, Ent.no]
  try dsimp only at h pr ⊢
  obtain ⟨hh, ww, k⟩ := pr
  have hw := k.width
  have h1 := k.wb
  walk_at "d"
  refine ev_map (Pd := Da) ?_
  walk_at "d"
  refine op_ixT (head_at k) ?_
  walk_at "d"
  have el : (List.map PyData.int (R.headD [])).length = width R := by rw [List.length_map]; rfl
  rw [el]
  refine ⟨by omega, ?_⟩
  refine ⟨(qb R).map iv, by rw [List.length_map, List.length_range]; omega, by unfold qb; rw [List.length_map, List.length_map, List.length_map], fun i d y e1 e2 => ?_, ?_⟩
  · obtain ⟨hi, q1⟩ := rmap_at e1
    obtain ⟨_, q2⟩ := rmmap_at e2
    subst q1 q2
    walk_at "d"
    refine use_column_items k.few (k.get (by omega)) ?_
    rfl
  · walk_at "d"
    exact h
theorem sc_transposed_rows : FnScope ["table", "column"] ["table"] (defScope s_transposed_rows) := ⟨rfl, rfl, rfl, by decide +kernel, rfl, by decide +kernel, by decide +kernel⟩
theorem ok_transposed_rows {P : Program} {w : World} {K : PySem.W.Frag} {mg : Str → Option Value} {base : Heap}  (T : Tx K mg) (c_column_items : Cal P w K mg base 1 "column_items" (spG A_column_items))  : Cal P w K mg base 2 "transposed_rows" (spG (A_rows tr)) := by
  obtain ⟨fd, F⟩ := T.sd.def_ 34 (d := d_transposed_rows) rfl
  have S := sc_transposed_rows
  refine ⟨⟨fd, ["table"], ok_pure (k := 1) F S (fnA_len fun _ => rfl) (fun cd Ar outer s H E xs W hr h => ?_), F.bindsN fun _ _ _ _ _ _ us hl => match us, hl with | [_], _ => rfl⟩, T.g 34, F.kp⟩
  obtain ⟨R, e, pr, h⟩ := h
  subst e
  refine ⟨_, (pss_one (ps_ret (pe_callTy call_tupZ (by rfl) (T.n 72) (by decide +kernel) (pa_cons (pe_lc (own := [("column", 1)]) (g := (gName 1)) (tt := tYes) (te := (tCall (spG A_column_items) [] xno (tCons (tVar 0) (tCons (tVar 1) tNil)))) rfl S.nd (pi_range1 (by rfl) (T.n 70) (pa_cons (pe_callB call_len_seq (by rfl) (T.n 69) (by decide +kernel) (pa_cons (pe_ix ix_tup (pv 0) pe_int fun _ _ => rfl) pa_nil)) pa_nil)) (blkOk_by (N := ["table", "column"]) (sc := (defScope s_transposed_rows)) (by decide +kernel)) (fun _ _ _ _ _ => (pg_name (i := 1) S.nd rfl (by first | exact Or.inl rfl | exact Or.inr rfl))) (fun _ _ _ _ _ => pts_nil) (fun _ _ _ _ _ => (pe_cl c_column_items hr (by omega) (by rfl) (pa_cons (pv 0) (pa_cons (pv 1) pa_nil))))) pa_nil)))), ?_⟩
  show StD none _ _ [Ent.dat _, Ent.no]
  try dsimp only at h pr ⊢
  obtain ⟨hh, ww, k⟩ := pr
  have hw := k.width
  have h1 := k.wb
  walk_at "d"
  refine ev_map (Pd := Da) ?_
  walk_at "d"
  refine op_ixT (head_at k) ?_
  walk_at "d"
  have el : (List.map PyData.int (R.headD [])).length = width R := by rw [List.length_map]; rfl
  rw [el]
  refine ⟨by omega, ?_⟩
  refine ⟨(tr R).map iv, by rw [List.length_map, List.length_range]; omega, by unfold tr; rw [List.length_map, List.length_map, List.length_map], fun i d y e1 e2 => ?_, ?_⟩
  · obtain ⟨hi, q1⟩ := rmap_at e1
    obtain ⟨_, q2⟩ := rmmap_at e2
    subst q1 q2
    walk_at "d"
    refine use_column_items k.few (k.get hi) ?_
    rfl
  · walk_at "d"
    exact h
def A_cross (f g : List (List Int) → List (List Int)) : AD := fnA (fun p : List (List Int) × Bool => [tbl p.1, .bool p.2]) (fun p => ∃ h w, Rect h w p.1) fun p => tbl (if p.2 then f p.1 else g p.1)
theorem use_cross {f g : List (List Int) → List (List Int)} {R : List (List Int)} {sg : Bool} {h w : Nat} {W : PyData → Prop} (k : Rect h w R) (q : W (tbl (if sg then f R else g R))) : A_cross f g [tbl R, .bool sg] W := ⟨(R, sg), rfl, ⟨h, w, k⟩, q⟩
theorem sc_crossed : FnScope ["table", "sign"] ["table", "sign"] (defScope s_crossed) := ⟨rfl, rfl, rfl, by decide +kernel, rfl, by decide +kernel, by decide +kernel⟩
theorem ok_crossed {P : Program} {w : World} {K : PySem.W.Frag} {mg : Str → Option Value} {base : Heap}  (T : Tx K mg) (c_quarter_rows : Cal P w K mg base 2 "quarter_rows" (spG (A_rows qr))) (c_transposed_rows : Cal P w K mg base 2 "transposed_rows" (spG (A_rows tr)))  : Cal P w K mg base 3 "crossed" (spG (A_cross qr tr)) := by
  obtain ⟨fd, F⟩ := T.sd.def_ 35 (d := d_crossed) rfl
  have S := sc_crossed
  refine ⟨⟨fd, ["table", "sign"], ok_pure (k := 2) F S (fnA_len fun _ => rfl) (fun cd Ar outer s H E xs W hr h => ?_), F.bindsN fun _ _ _ _ _ _ us hl => match us, hl with | [_, _], _ => rfl⟩, T.g 35, F.kp⟩
  obtain ⟨⟨R, sg⟩, e, pr, h⟩ := h
  subst e
  refine ⟨_, (pss_one (ps_ret (pe_ifExp (pt_val (pv 1)) (pe_cl c_quarter_rows hr (by omega) (by rfl) (pa_cons (pv 0) pa_nil)) (pe_cl c_transposed_rows hr (by omega) (by rfl) (pa_cons (pv 0) pa_nil))))), ?_⟩
  show StD none _ _ [Ent.dat _, Ent.dat _]
  try dsimp only at h pr ⊢
  obtain ⟨hh, ww, k⟩ := pr
  cases sg with
  | true =>
    have h : W (tbl (qr R)) := h
    walk_at "d"
    exact use_rows k h
  | false =>
    have h : W (tbl (tr R)) := h
    walk_at "d"
    exact use_rows k h
theorem sc_crossed_back : FnScope ["table", "sign"] ["table", "sign"] (defScope s_crossed_back) := ⟨rfl, rfl, rfl, by decide +kernel, rfl, by decide +kernel, by decide +kernel⟩
theorem ok_crossed_back {P : Program} {w : World} {K : PySem.W.Frag} {mg : Str → Option Value} {base : Heap}  (T : Tx K mg) (c_quarter_rows_back : Cal P w K mg base 2 "quarter_rows_back" (spG (A_rows qb))) (c_transposed_rows : Cal P w K mg base 2 "transposed_rows" (spG (A_rows tr)))  : Cal P w K mg base 3 "crossed_back" (spG (A_cross qb tr)) := by
  obtain ⟨fd, F⟩ := T.sd.def_ 36 (d := d_crossed_back) rfl
  have S := sc_crossed_back
  refine ⟨⟨fd, ["table", "sign"], ok_pure (k := 2) F S (fnA_len fun _ => rfl) (fun cd Ar outer s H E xs W hr h => ?_), F.bindsN fun _ _ _ _ _ _ us hl => match us, hl with | [_, _], _ => rfl⟩, T.g 36, F.kp⟩
  obtain ⟨⟨R, sg⟩, e, pr, h⟩ := h
  subst e
  refine ⟨_, (pss_one (ps_ret (pe_ifExp (pt_val (pv 1)) (pe_cl c_quarter_rows_back hr (by omega) (by rfl) (pa_cons (pv 0) pa_nil)) (pe_cl c_transposed_rows hr (by omega) (by rfl) (pa_cons (pv 0) pa_nil))))), ?_⟩
  show StD none _ _ [Ent.dat _, Ent.dat _]
  try dsimp only at h pr ⊢
  obtain ⟨hh, ww, k⟩ := pr
  cases sg with
  | true =>
    have h : W (tbl (qb R)) := h
    walk_at "d"
    exact use_rows k h
  | false =>
    have h : W (tbl (tr R)) := h
    walk_at "d"
    exact use_rows k h
/-! ### what is a table -/
def A_is_table_row : AD := fnA (fun p : List Int × Nat × Bool => [iv p.1, .int (p.2.1 : Nat), .bool p.2.2]) (fun p => p.1.length = p.2.1 ∧ 2 ≤ p.2.1 ∧ p.2.1 ≤ 4 ∧ ∀ x ∈ p.1, 0 ≤ x ∧ (p.2.2 = true → x ≤ 1)) fun _ => .bool true
theorem use_is_table_row {r : List Int} {w : Nat} {sg : Bool} {W : PyData → Prop} (h1 : r.length = w) (h2 : 2 ≤ w ∧ w ≤ 4) (h3 : ∀ x ∈ r, 0 ≤ x ∧ (sg = true → x ≤ 1)) (q : W (.bool true)) : A_is_table_row [iv r, .int (w : Nat), .bool sg] W := ⟨(r, w, sg), rfl, ⟨h1, h2.1, h2.2, h3⟩, q⟩
theorem use_is_side {xs : List PyData} {W : PyData → Prop} (h : 2 ≤ xs.length ∧ xs.length ≤ 5) (q : W (.bool true)) : A_is_side [.tuple xs] W := ⟨.tuple xs, rfl, .inr ⟨xs, rfl⟩, by
  show W (.bool (decide ((2 : Int) ≤ xs.length) && decide ((xs.length : Int) ≤ 5)))
  rw [decide_eq_true (show (2 : Int) ≤ xs.length by omega), decide_eq_true (show (xs.length : Int) ≤ 5 by omega)]
  exact q⟩
theorem use_is_item {n : Int} {W : PyData → Prop} (h : 0 ≤ n) (q : W (.bool true)) : A_is_item [.int n] W := ⟨.int n, rfl, ⟨n, rfl⟩, by
  show W (.bool (decide (0 ≤ n)))
  rw [decide_eq_true h]
  exact q⟩
theorem sc_is_table_row : FnScope ["row", "width", "sign", "item"] ["row", "width", "sign"] (defScope s_is_table_row) := ⟨rfl, rfl, rfl, by decide +kernel, rfl, by decide +kernel, by decide +kernel⟩
theorem ok_is_table_row {P : Program} {w : World} {K : PySem.W.Frag} {mg : Str → Option Value} {base : Heap}  (T : Tx K mg) (c_is_side : Cal P w K mg base 1 "is_side" (spG A_is_side)) (c_is_item : Cal P w K mg base 1 "is_item" (spG A_is_item))  : Cal P w K mg base 2 "is_table_row" (spG A_is_table_row) := by
  obtain ⟨fd, F⟩ := T.sd.def_ 25 (d := d_is_table_row) rfl
  have S := sc_is_table_row
  refine ⟨⟨fd, ["row", "width", "sign"], ok_pure (k := 1) F S (fnA_len fun _ => rfl) (fun cd Ar outer s H E xs W hr h => ?_), F.bindsN fun _ _ _ _ _ _ us hl => match us, hl with | [_, _, _], _ => rfl⟩, T.g 25, F.kp⟩
  obtain ⟨⟨r, w, sg⟩, e, pr, h⟩ := h
  subst e
  refine ⟨_, (pss_cons (ps_if (PW.pt (pw_or (pt_not (pt_val (pe_cl c_is_side hr (by omega) (by rfl) (pa_cons (pv 0) pa_nil)))) (pw_or1 (pt_cmpR op_ne (pe_callB call_len_seq (by rfl) (T.n 69) (by decide +kernel) (pa_cons (pv 0) pa_nil)) (pv 1) (nomark _))))) (pss_one (ps_ret pe_bl)) pss_nil) (pss_cons (ps_for PassesOwn.never rfl (pi_tup (pv 0)) (pg_name (i := 3) S.nd rfl (by first | exact Or.inl rfl | exact Or.inr rfl)) (pss_one (ps_if (PW.pt (pw_or (pt_not (pt_val (pe_cl c_is_item hr (by omega) (by rfl) (pa_cons (pv 3) pa_nil)))) (pw_or1 (PW.pt (pw_and (pt_val (pv 2)) (pw_and1 (pt_cmpR op_gt (pv 3) pe_int (nomark _)))))))) (pss_one (ps_ret pe_bl)) pss_nil))) (pss_one (ps_ret pe_bl)))), ?_⟩
  show StD none _ _ [Ent.dat _, Ent.dat _, Ent.dat _, Ent.no]
  try dsimp only at h pr ⊢
  obtain ⟨h1, h2, h3, h4⟩ := pr
  walk_at "d"
  refine use_is_side (xs := r.map PyData.int) (by rw [List.length_map]; omega) ?_
  walk_at "d"
  refine brF (by rw [List.length_map, h1]; simp) ?_
  walk_at "d"
  refine st_for (Pd := Da) ?_
  walk_at "d"
  refine ⟨fun i ds => ∃ e, ds = [Ent.dat (iv r), Ent.dat (PyData.int w), Ent.dat (PyData.bool sg), e], ⟨_, rfl⟩, fun i d ds2 e1 iv2 => ?_, fun ds2 iv2 => ?_⟩
  · obtain ⟨e, rfl⟩ := iv2
    obtain ⟨x, hx, rfl⟩ := map_at e1
    obtain ⟨g1, g2⟩ := h4 x (List.mem_of_getElem? hx)
    walk_at "d"
    refine use_is_item g1 ?_
    walk_at "d"
    cases sg with
    | false =>
      walk_at "d"
      exact ⟨_, rfl⟩
    | true =>
      walk_at "d"
      refine brF (decide_eq_false (by have := g2 rfl; omega)) ?_
      walk_at "d"
      exact ⟨_, rfl⟩
  · obtain ⟨e, rfl⟩ := iv2
    walk_at "d"
    exact h
theorem OkT.row {sg : Bool} {h w : Nat} {R : List (List Int)} (k : OkT sg h w R) {r : List Int} (hr : r ∈ R) : r.length = w ∧ (2 ≤ w ∧ w ≤ 4) ∧ ∀ x ∈ r, 0 ≤ x ∧ (sg = true → x ≤ 1) := ⟨k.cols r hr, k.wb, k.nn r hr⟩
def A_need_table : AD := fnA (fun p : List (List Int) × Bool => [tbl p.1, .bool p.2]) (fun p => ∃ h w, OkT p.2 h w p.1) fun p => tbl p.1
theorem use_need_table {R : List (List Int)} {sg : Bool} {h w : Nat} {W : PyData → Prop} (k : OkT sg h w R) (q : W (tbl R)) : A_need_table [tbl R, .bool sg] W := ⟨(R, sg), rfl, ⟨h, w, k⟩, q⟩
theorem sc_need_table : FnScope ["table", "sign", "width", "place", "row"] ["table", "sign"] (defScope s_need_table) := ⟨rfl, rfl, rfl, by decide +kernel, rfl, by decide +kernel, by decide +kernel⟩
theorem ok_need_table {P : Program} {w : World} {K : PySem.W.Frag} {mg : Str → Option Value} {base : Heap}  (T : Tx K mg) (c_is_side : Cal P w K mg base 1 "is_side" (spG A_is_side)) (c_is_table_row : Cal P w K mg base 2 "is_table_row" (spG A_is_table_row))  : CalK P w K mg base 3 "need_table" 1 ["sign"] (spG A_need_table) := by
  obtain ⟨fd, F⟩ := T.sd.def_ 26 (d := d_need_table) rfl
  have S := sc_need_table
  have hB : KBn K fd ["table", "sign"] 1 ["sign"] (fun us ws => us ++ ws) (fun vs zs => vs ++ zs) := by
    obtain ⟨oc, od, dV, kV, doc, pm, an, cdv, ct, osl, rfl, lk, hcd, hD, hK⟩ := F.ex
    rcases hD with ⟨-, rfl⟩ | ⟨z, -⟩
    · exact ⟨fun s us ws _ l1 l2 => .of_eq (match us, ws, l1, l2 with | [_], [_], _, _ => rfl), fun r1 r2 => r1.append r2⟩
    · exact absurd rfl z
  refine ⟨⟨fd, ["table", "sign"], ok_pure (k := 2) F S (fnA_len fun _ => rfl) (fun cd Ar outer s H E xs W hr h => ?_), hB⟩, T.g 26, F.kp⟩
  obtain ⟨⟨R, sg⟩, e, pr, h⟩ := h
  subst e
  refine ⟨_, (pss_cons (ps_if (pt_not (pt_val (pe_cl c_is_side hr (by omega) (by rfl) (pa_cons (pv 0) pa_nil)))) (pss_one ps_never) pss_nil) (pss_cons (ps_set (i := 2) S.nd rfl (by first | exact Or.inl rfl | exact Or.inr rfl) (pe_ifExp (pt_val (pe_callB call_isi (by rfl) (T.n 71) (by decide +kernel) (pa_cons (pe_ix ix_tup (pv 0) pe_int fun _ _ => rfl) (pa_cons (pe_bltn (v := .ty "tuple") (by rfl) (T.n 72) (by decide +kernel) rfl) pa_nil)))) (pe_callB call_len_seq (by rfl) (T.n 69) (by decide +kernel) (pa_cons (pe_ix ix_tup (pv 0) pe_int fun _ _ => rfl) pa_nil)) pe_int)) (pss_cons (ps_for PassesOwn.never rfl (pi_enumT (by rfl) (T.n 82) (pa_cons (pv 0) pa_nil)) (pg_tup (by rfl) (pgs_cons (pg_name (i := 3) S.nd rfl (by first | exact Or.inl rfl | exact Or.inr rfl)) (pgs_cons (pg_name (i := 4) S.nd rfl (by first | exact Or.inl rfl | exact Or.inr rfl)) pgs_nil))) (pss_one (ps_if (pt_not (pt_val (pe_cl c_is_table_row hr (by omega) (by rfl) (pa_cons (pv 4) (pa_cons (pv 2) (pa_cons (pv 1) pa_nil)))))) (pss_one ps_never) pss_nil))) (pss_cons (ps_if (pt_cmpR op_gt (pe_callB (cr_sum rfl) (by rfl) (T.n 79) (by decide +kernel) (pa_cons (pe_lc (own := [("row", 4)]) (g := (gName 4)) (tt := tYes) (te := (tCB (rSumT K) (tCons (tVar 4) tNil))) rfl S.nd (pi_tup (pv 0)) (blkOk_by (N := ["table", "sign", "width", "place", "row"]) (sc := (defScope s_need_table)) (by decide +kernel)) (fun _ _ _ _ _ => (pg_name (i := 4) S.nd rfl (by first | exact Or.inl rfl | exact Or.inr rfl))) (fun _ _ _ _ _ => pts_nil) (fun _ _ _ _ _ => (pe_callB (cr_sumT rfl) (by rfl) (T.n 79) (by decide +kernel) (pa_cons (pv 4) pa_nil)))) pa_nil)) (T.pi 94 (by rfl)) (nomark _)) (pss_one ps_never) pss_nil) (pss_one (ps_ret (pv 0))))))), ?_⟩
  show StD none _ _ [Ent.dat _, Ent.dat _, Ent.no, Ent.no, Ent.no]
  try dsimp only at h pr ⊢
  obtain ⟨hh, ww, k⟩ := pr
  have h1 := k.rows
  have h2 := k.hb
  have h3 := k.wb
  have h4 := k.toRect.width
  walk_at "d"
  refine use_is_side (xs := R.map iv) (by rw [List.length_map]; omega) ?_
  walk_at "d"
  refine op_ixT (head_at k.toRect) ?_
  walk_at "d"
  refine op_ixT (head_at k.toRect) ?_
  walk_at "d"
  have el : (List.map PyData.int (R.headD [])).length = ww := by rw [List.length_map]; exact h4
  rw [el]
  refine st_for (Pd := DaP) ?_
  walk_at "d"
  refine ⟨fun i ds => ∃ e e', ds = [Ent.dat (tbl R), Ent.dat (PyData.bool sg), Ent.dat (PyData.int ww), e, e'], ⟨_, _, rfl⟩, fun i d ds2 e1 iv2 => ?_, fun ds2 iv2 => ?_⟩
  · obtain ⟨e, e', rfl⟩ := iv2
    obtain ⟨p, hp, rfl⟩ := map_at e1
    obtain ⟨_, hp2⟩ := zip_at hp
    obtain ⟨r, hr, er⟩ := map_at hp2
    rw [er]
    obtain ⟨g1, g2, g3⟩ := k.row (List.mem_of_getElem? hr)
    walk_at "d"
    refine use_is_table_row g1 g2 g3 ?_
    walk_at "d"
    exact ⟨_, _, rfl⟩
  · obtain ⟨e, e', rfl⟩ := iv2
    walk_at "d"
    refine ev_map (Pd := Da) ?_
    walk_at "d"
    refine ⟨(R.map List.sum).map PyData.int, by rw [List.length_map]; omega, by rw [List.length_map, List.length_map, List.length_map], fun i d y e1 e2 => ?_, ?_⟩
    · obtain ⟨r, hr, q1⟩ := map_at e1
      obtain ⟨r', hr', q2⟩ := mmap_at e2
      rw [hr] at hr'
      cases hr'
      subst q1 q2
      walk_at "d"
      exact cb_sumT rfl
    · walk_at "d"
      refine cb_sumL ?_
      walk_at "d"
      refine brF (decide_eq_false (by have := k.tot; omega)) ?_
      walk_at "d"
      exact h
end JR
set_option pp.maxSteps 2500
set_option Elab.async false
set_option linter.all false
set_option maxRecDepth 100000
set_option maxHeartbeats 2000000
namespace JR
open PySem PySem.Spec L2 RZ
local macro_rules
  | `(tactic| walk_at "s") => `(tactic| first
    | ((with_reducible apply ev_var); exact rfl) | with_reducible refine ev_isiI ?_ | with_reducible refine ev_isiB ?_ | with_reducible refine ev_isiT ?_ | with_reducible refine ev_isiS ?_ | ((with_reducible refine st_append ?_ ?_); rotate_left; exact ⟨_, rfl⟩) | ((with_reducible apply st_pop); exact rfl) | ((with_reducible apply et_ownNe); exact rfl) | ((with_reducible apply op_i); exact rfl) | ((with_reducible apply it_rgV); exact rfl) | ((with_reducible apply op_inW); exact rfl) | ((with_reducible apply op_ixT); exact rfl) | ((with_reducible apply op_ixL); exact rfl) | ((with_reducible refine And.intro (le_lit ?_) ?_); exact rfl) | ((with_reducible apply op_b); exact rfl) | ((with_reducible apply tc_name); decide) | ((with_reducible apply tc_tup); exact rfl) | ((with_reducible apply tg_tup); exact rfl) | ((with_reducible apply tg_tupD); exact rfl) | ((with_reducible apply tc_tupD); exact rfl)
    | with_reducible refine st_seq ?_ | with_reducible refine st_ret ?_ | with_reducible refine st_next ?_ | with_reducible refine st_if ?_ | with_reducible refine st_par_own2 ?_ | with_reducible refine st_par_own ?_ | with_reducible refine st_rng ?_ | with_reducible refine st_par ?_ | with_reducible refine st_own ?_ | with_reducible refine st_asg ?_ | with_reducible refine st_unpack ?_ | with_reducible refine st_drop ?_ | with_reducible refine st_break ?_ | with_reducible refine ev_int ?_ | with_reducible refine ev_str ?_ | with_reducible refine ev_bl ?_ | with_reducible refine ev_non ?_ | with_reducible refine ev_op ?_ | with_reducible refine ev_un ?_ | with_reducible refine ev_if ?_ | with_reducible refine ev_andV ?_ | with_reducible refine ev_orV ?_ | with_reducible refine ev_notV ?_ | with_reducible refine ev_tup ?_ | with_reducible refine ev_lst ?_ | with_reducible refine ea_nil ?_ | with_reducible refine ea_cons ?_ | with_reducible refine ev_call ?_ | with_reducible refine ev_callN ?_ | with_reducible refine ev_cb ?_ | with_reducible refine ev_sl ?_ | with_reducible refine eo_none ?_ | with_reducible refine eo_some ?_ | with_reducible refine ev_revL ?_ | with_reducible refine ev_revT ?_ | with_reducible refine evn_lrg ?_ | with_reducible refine ev_bmT ?_ | with_reducible refine et_test ?_ | with_reducible refine et_B ?_ | with_reducible refine et_and ?_ | with_reducible refine et_or ?_ | with_reducible refine et_not ?_ | with_reducible refine et_yes ?_ | with_reducible refine ev_chain ?_ | with_reducible refine op_eqI ?_ | with_reducible refine op_neI ?_ | with_reducible refine op_eqS ?_ | with_reducible refine op_neS ?_ | with_reducible refine op_eqB ?_ | with_reducible refine op_neB ?_ | with_reducible refine op_inIn ?_ | with_reducible refine ud_neg ?_ | with_reducible refine op_is ?_ | with_reducible refine op_isnt ?_ | with_reducible refine cb_lenL ?_ | with_reducible refine cb_lenT ?_ | with_reducible refine cb_listT ?_ | with_reducible refine cb_listL ?_ | with_reducible refine cb_tupL ?_ | with_reducible refine cb_int ?_ | with_reducible refine cb_max2 ?_ | with_reducible refine cb_min2 ?_ | with_reducible refine it_list ?_ | with_reducible refine it_tup ?_ | with_reducible refine itn_1 ?_ | with_reducible refine it_rng2 ?_ | with_reducible refine it_rev ?_ | with_reducible refine itn_rev ?_ | with_reducible refine it_enum ?_ | with_reducible refine it_enumT ?_ | with_reducible refine it_zipT ?_ | with_reducible refine tcs_cons ?_ | with_reducible refine tcs_nil ?_ | with_reducible refine tg_name ?_ | with_reducible refine tgs_cons ?_ | with_reducible refine tgs_nil ?_
    | with_reducible refine ⟨_, rfl, ?_⟩
    | with_reducible refine ⟨_, _, rfl, ?_⟩
    | refine and_T ?_ | refine and_F ?_)
  | `(tactic| walk_at "d") => `(tactic| repeat walk_at "s")
/-! ### numbers in bounds -/
theorem use_is_from {v lo hi : Int} {W : PyData → Prop} (q : W (.bool (decide (lo ≤ v) && decide (v ≤ hi)))) : A_is_from [.int v, .int lo, .int hi] W := ⟨(v, lo, hi), rfl, trivial, q⟩
theorem use_in {v lo hi : Int} {W : PyData → Prop} (h : lo ≤ v ∧ v ≤ hi) (q : W (.bool true)) : A_is_from [.int v, .int lo, .int hi] W := use_is_from (by
  rw [decide_eq_true h.1, decide_eq_true h.2]
  exact q)
def A_need_many : AD := fnA (fun v : Int => [.int v]) (fun v => 2 ≤ v ∧ v ≤ 5) fun v => .int v
theorem use_need_many {v : Int} {W : PyData → Prop} (h : 2 ≤ v ∧ v ≤ 5) (q : W (.int v)) : A_need_many [.int v] W := ⟨v, rfl, h, q⟩
theorem sc_need_many : FnScope ["value"] ["value"] (defScope s_need_many) := ⟨rfl, rfl, rfl, by decide +kernel, rfl, by decide +kernel, by decide +kernel⟩
theorem ok_need_many {P : Program} {w : World} {K : PySem.W.Frag} {mg : Str → Option Value} {base : Heap}  (T : Tx K mg) (c_is_from : Cal P w K mg base 1 "is_from" (spG A_is_from))  : Cal P w K mg base 2 "need_many" (spG A_need_many) := by
  obtain ⟨fd, F⟩ := T.sd.def_ 1 (d := d_need_many) rfl
  have S := sc_need_many
  refine ⟨⟨fd, ["value"], ok_pure (k := 1) F S (fnA_len fun _ => rfl) (fun cd Ar outer s H E xs W hr h => ?_), F.bindsN fun _ _ _ _ _ _ us hl => match us, hl with | [_], _ => rfl⟩, T.g 1, F.kp⟩
  obtain ⟨v, e, pr, h⟩ := h
  subst e
  refine ⟨_, (pss_cons (ps_if (pt_not (pt_val (pe_cl c_is_from hr (by omega) (by rfl) (pa_cons (pv 0) (pa_cons pe_int (pa_cons pe_int pa_nil)))))) (pss_one ps_never) pss_nil) (pss_one (ps_ret (pv 0)))), ?_⟩
  show StD none _ _ [Ent.dat _]
  try dsimp only at h pr ⊢
  walk_at "d"
  refine use_in pr ?_
  walk_at "d"
  exact h
def A_need_pair : AD := fnA (fun p : Int × Int × Int => [.int p.1, .int p.2.1, .int p.2.2]) (fun p => (2 ≤ p.1 ∧ p.1 ≤ 5) ∧ (0 ≤ p.2.1 ∧ p.2.1 ≤ p.1 - 1) ∧ (0 ≤ p.2.2 ∧ p.2.2 ≤ p.1 - 1) ∧ p.2.1 ≠ p.2.2) fun p => if p.2.1 < p.2.2 then .tuple [.int p.2.1, .int p.2.2] else .tuple [.int p.2.2, .int p.2.1]
theorem sc_need_pair : FnScope ["many", "one", "other", "value"] ["many", "one", "other"] (defScope s_need_pair) := ⟨rfl, rfl, rfl, by decide +kernel, rfl, by decide +kernel, by decide +kernel⟩
theorem ok_need_pair {P : Program} {w : World} {K : PySem.W.Frag} {mg : Str → Option Value} {base : Heap}  (T : Tx K mg) (c_need_many : Cal P w K mg base 2 "need_many" (spG A_need_many)) (c_is_from : Cal P w K mg base 1 "is_from" (spG A_is_from))  : Cal P w K mg base 3 "need_pair" (spG A_need_pair) := by
  obtain ⟨fd, F⟩ := T.sd.def_ 2 (d := d_need_pair) rfl
  have S := sc_need_pair
  refine ⟨⟨fd, ["many", "one", "other"], ok_pure (k := 2) F S (fnA_len fun _ => rfl) (fun cd Ar outer s H E xs W hr h => ?_), F.bindsN fun _ _ _ _ _ _ us hl => match us, hl with | [_, _, _], _ => rfl⟩, T.g 2, F.kp⟩
  obtain ⟨⟨n, a, b⟩, e, pr, h⟩ := h
  subst e
  refine ⟨_, (pss_cons (ps_expr (pe_cl c_need_many hr (by omega) (by rfl) (pa_cons (pv 0) pa_nil))) (pss_cons (ps_for PassesOwn.never rfl (pi_tup (pe_tupZ (pa_cons (pv 1) (pa_cons (pv 2) pa_nil)))) (pg_name (i := 3) S.nd rfl (by first | exact Or.inl rfl | exact Or.inr rfl)) (pss_one (ps_if (pt_not (pt_val (pe_cl c_is_from hr (by omega) (by rfl) (pa_cons (pv 3) (pa_cons pe_int (pa_cons (pe_op op_sub (pv 0) pe_int) pa_nil)))))) (pss_one ps_never) pss_nil))) (pss_cons (ps_if (pt_cmpR op_eq (pv 1) (pv 2) (nomark _)) (pss_one ps_never) pss_nil) (pss_one (ps_ret (pe_ifExp (pt_cmpR op_lt (pv 1) (pv 2) (nomark _)) (pe_tupZ (pa_cons (pv 1) (pa_cons (pv 2) pa_nil))) (pe_tupZ (pa_cons (pv 2) (pa_cons (pv 1) pa_nil))))))))), ?_⟩
  show StD none _ _ [Ent.dat _, Ent.dat _, Ent.dat _, Ent.no]
  try dsimp only at h pr ⊢
  obtain ⟨h1, h2, h3, h4⟩ := pr
  walk_at "d"
  refine use_need_many h1 ?_
  walk_at "d"
  refine st_for (Pd := Da) ?_
  walk_at "d"
  refine ⟨fun i ds => ∃ e, ds = [Ent.dat (.int n), Ent.dat (.int a), Ent.dat (.int b), e], ⟨_, rfl⟩, fun i d ds2 e1 iv2 => ?_, fun ds2 iv2 => ?_⟩
  · obtain ⟨e, rfl⟩ := iv2
    have hd : ∃ v, d = .int v ∧ 0 ≤ v ∧ v ≤ n - 1 := by
      match i, e1 with
      | 0, e1 =>
        cases e1
        exact ⟨_, rfl, h2⟩
      | 1, e1 =>
        cases e1
        exact ⟨_, rfl, h3⟩
    obtain ⟨v, rfl, hv⟩ := hd
    walk_at "d"
    refine use_in hv ?_
    walk_at "d"
    exact ⟨_, rfl⟩
  · obtain ⟨e, rfl⟩ := iv2
    walk_at "d"
    refine brF (decide_eq_false h4) ?_
    walk_at "d"
    refine ⟨fun e => ?_, fun e => ?_⟩
    · rw [if_pos (of_decide_eq_true e)] at h
      walk_at "d"
      exact h
    · rw [if_neg (of_decide_eq_false e)] at h
      walk_at "d"
      exact h
/-! ### sorts -/
/-- numbers of marks within bounds -/
def SrtOk (x : Int) (ns : List Int) : Prop := (0 ≤ x ∧ x ≤ 12) ∧ (∀ y ∈ ns, 0 ≤ y ∧ y ≤ 12) ∧ ns.length ≤ 3
theorem SrtOk.tail {x y : Int} {ns : List Int} (h : SrtOk x (y :: ns)) : SrtOk y ns := ⟨h.2.1 y List.mem_cons_self, fun z hz => h.2.1 z (List.mem_cons_of_mem _ hz), by have := h.2.2; rw [List.length_cons] at this; omega⟩
theorem SrtOk.leaf {x : Int} {ns : List Int} (h : SrtOk x ns) : SrtOk x [] := ⟨h.1, fun z hz => absurd hz List.not_mem_nil, Nat.zero_le _⟩
def A_part_places : AD := fnA (fun p : Bool × Int × List Int => [sortE p.1 p.2.1 p.2.2]) (fun p => SrtOk p.2.1 p.2.2) fun p => match p.2.2 with | [] => .tuple [] | _ => .tuple [.int 1, .int 2]
theorem sc_part_places : FnScope ["value", "word"] ["value"] (defScope s_part_places) := ⟨rfl, rfl, rfl, by decide +kernel, rfl, by decide +kernel, by decide +kernel⟩
theorem ok_part_places {P : Program} {w : World} {K : PySem.W.Frag} {mg : Str → Option Value} {base : Heap}  (T : Tx K mg) (c_is_from : Cal P w K mg base 1 "is_from" (spG A_is_from))  : Cal P w K mg base 2 "part_places" (spG A_part_places) := by
  obtain ⟨fd, F⟩ := T.sd.def_ 3 (d := d_part_places) rfl
  have S := sc_part_places
  refine ⟨⟨fd, ["value"], ok_pure (k := 1) F S (fnA_len fun _ => rfl) (fun cd Ar outer s H E xs W hr h => ?_), F.bindsN fun _ _ _ _ _ _ us hl => match us, hl with | [_], _ => rfl⟩, T.g 3, F.kp⟩
  obtain ⟨⟨sg, x, ns⟩, e, pr, h⟩ := h
  subst e
  refine ⟨_, (pss_cons (ps_if (PW.pt (pw_or (pt_not (pt_val (pe_callB call_isi (by rfl) (T.n 71) (by decide +kernel) (pa_cons (pv 0) (pa_cons (pe_bltn (v := .ty "tuple") (by rfl) (T.n 72) (by decide +kernel) rfl) pa_nil))))) (pw_or (pt_cmpR op_eq (pe_callB call_len_seq (by rfl) (T.n 69) (by decide +kernel) (pa_cons (pv 0) pa_nil)) pe_int (nomark _)) (pw_or1 (pt_not (pt_val (pe_callB call_isi (by rfl) (T.n 71) (by decide +kernel) (pa_cons (pe_ix ix_tup (pv 0) pe_int fun _ _ => rfl) (pa_cons (pe_bltn (v := .ty "str") (by rfl) (T.n 76) (by decide +kernel) rfl) pa_nil))))))))) (pss_one (ps_ret pe_non)) pss_nil) (pss_cons (ps_set (i := 1) S.nd rfl (by first | exact Or.inl rfl | exact Or.inr rfl) (pe_ix ix_tup (pv 0) pe_int fun _ _ => rfl)) (pss_cons (ps_if (pt_cmpR op_in_seq (pv 1) (pe_tupZ (pa_cons pe_str (pa_cons pe_str (pa_cons pe_str (pa_cons pe_str pa_nil))))) (by with_unfolding_all rfl)) (pss_one (ps_ret (pe_ifExp (pt_cmpR op_eq (pe_callB call_len_seq (by rfl) (T.n 69) (by decide +kernel) (pa_cons (pv 0) pa_nil)) pe_int (nomark _)) (pe_tupZ pa_nil) pe_non))) pss_nil) (pss_cons (ps_if (pt_cmpR op_in_seq (pv 1) (pe_tupZ (pa_cons pe_str (pa_cons pe_str pa_nil))) (by with_unfolding_all rfl)) (pss_one (ps_ret (pe_ifExp (PW.pt (pw_and (pt_cmpR op_eq (pe_callB call_len_seq (by rfl) (T.n 69) (by decide +kernel) (pa_cons (pv 0) pa_nil)) pe_int (nomark _)) (pw_and1 (pt_val (pe_cl c_is_from hr (by omega) (by rfl) (pa_cons (pe_ix ix_tup (pv 0) pe_int fun _ _ => rfl) (pa_cons pe_int (pa_cons (T.pi 91 (by rfl)) pa_nil)))))))) (pe_tupZ pa_nil) pe_non))) pss_nil) (pss_cons (ps_if (pt_cmpR op_eq (pv 1) pe_str (nomark _)) (pss_one (ps_ret (pe_ifExp (PW.pt (pw_and (pt_cmpR op_eq (pe_callB call_len_seq (by rfl) (T.n 69) (by decide +kernel) (pa_cons (pv 0) pa_nil)) pe_int (nomark _)) (pw_and1 (pt_val (pe_cl c_is_from hr (by omega) (by rfl) (pa_cons (pe_ix ix_tup (pv 0) pe_int fun _ _ => rfl) (pa_cons pe_int (pa_cons pe_int pa_nil)))))))) (pe_tupZ pa_nil) pe_non))) pss_nil) (pss_cons (ps_if (pt_cmpR op_in_seq (pv 1) (pe_tupZ (pa_cons pe_str (pa_cons pe_str pa_nil))) (by with_unfolding_all rfl)) (pss_one (ps_ret (pe_ifExp (pt_cmpR op_eq (pe_callB call_len_seq (by rfl) (T.n 69) (by decide +kernel) (pa_cons (pv 0) pa_nil)) pe_int (nomark _)) (pe_tupZ (pa_cons pe_int (pa_cons pe_int pa_nil))) pe_non))) pss_nil) (pss_cons (ps_if (pt_cmpR op_in_seq (pv 1) (pe_tupZ (pa_cons pe_str (pa_cons pe_str (pa_cons pe_str pa_nil)))) (by with_unfolding_all rfl)) (pss_one (ps_ret (pe_ifExp (PW.pt (pw_and (pt_cmpR op_eq (pe_callB call_len_seq (by rfl) (T.n 69) (by decide +kernel) (pa_cons (pv 0) pa_nil)) pe_int (nomark _)) (pw_and1 (pt_val (pe_cl c_is_from hr (by omega) (by rfl) (pa_cons (pe_ix ix_tup (pv 0) pe_int fun _ _ => rfl) (pa_cons pe_int (pa_cons (T.pi 91 (by rfl)) pa_nil)))))))) (pe_tupZ (pa_cons pe_int pa_nil)) pe_non))) pss_nil) (pss_one (ps_ret pe_non))))))))), ?_⟩
  show StD none _ _ [Ent.dat _, Ent.no]
  try dsimp only at h pr ⊢
  cases ns with
  | nil =>
    have h : W (.tuple []) := h
    cases sg with
    | true =>
      show StD none _ _ [Ent.dat (.tuple [.str "subset", .int x]), Ent.no]
      walk_at "d"
      refine use_in pr.1 ?_
      walk_at "d"
      exact h
    | false =>
      show StD none _ _ [Ent.dat (.tuple [.str "bag", .int x]), Ent.no]
      walk_at "d"
      refine use_in pr.1 ?_
      walk_at "d"
      exact h
  | cons y ns =>
    have h : W (.tuple [.int 1, .int 2]) := h
    show StD none _ _ [Ent.dat (.tuple [.str "pair", leafE sg x, sortE sg y ns]), Ent.no]
    walk_at "d"
    exact h
end JR
set_option pp.maxSteps 2500
set_option Elab.async false
set_option linter.all false
set_option maxRecDepth 100000
set_option maxHeartbeats 2000000
namespace JR
open PySem PySem.Spec L2 RZ
local macro_rules
  | `(tactic| walk_at "s") => `(tactic| first
    | ((with_reducible apply ev_var); exact rfl) | with_reducible refine ev_isiI ?_ | with_reducible refine ev_isiB ?_ | with_reducible refine ev_isiT ?_ | with_reducible refine ev_isiS ?_ | ((with_reducible refine st_append ?_ ?_); rotate_left; exact ⟨_, rfl⟩) | ((with_reducible apply st_pop); exact rfl) | ((with_reducible apply et_ownNe); exact rfl) | ((with_reducible apply op_i); exact rfl) | ((with_reducible apply it_rgV); exact rfl) | ((with_reducible apply op_inW); exact rfl) | ((with_reducible apply op_ixT); exact rfl) | ((with_reducible apply op_ixL); exact rfl) | ((with_reducible refine And.intro (le_lit ?_) ?_); exact rfl) | ((with_reducible apply op_b); exact rfl) | ((with_reducible apply tc_name); decide) | ((with_reducible apply tc_tup); exact rfl) | ((with_reducible apply tg_tup); exact rfl) | ((with_reducible apply tg_tupD); exact rfl) | ((with_reducible apply tc_tupD); exact rfl)
    | with_reducible refine st_seq ?_ | with_reducible refine st_ret ?_ | with_reducible refine st_next ?_ | with_reducible refine st_if ?_ | with_reducible refine st_par_own2 ?_ | with_reducible refine st_par_own ?_ | with_reducible refine st_rng ?_ | with_reducible refine st_par ?_ | with_reducible refine st_own ?_ | with_reducible refine st_asg ?_ | with_reducible refine st_unpack ?_ | with_reducible refine st_drop ?_ | with_reducible refine st_break ?_ | with_reducible refine ev_int ?_ | with_reducible refine ev_str ?_ | with_reducible refine ev_bl ?_ | with_reducible refine ev_non ?_ | with_reducible refine ev_op ?_ | with_reducible refine ev_un ?_ | with_reducible refine ev_if ?_ | with_reducible refine ev_andV ?_ | with_reducible refine ev_orV ?_ | with_reducible refine ev_notV ?_ | with_reducible refine ev_tup ?_ | with_reducible refine ev_lst ?_ | with_reducible refine ea_nil ?_ | with_reducible refine ea_cons ?_ | with_reducible refine ev_call ?_ | with_reducible refine ev_callN ?_ | with_reducible refine ev_cb ?_ | with_reducible refine ev_sl ?_ | with_reducible refine eo_none ?_ | with_reducible refine eo_some ?_ | with_reducible refine ev_revL ?_ | with_reducible refine ev_revT ?_ | with_reducible refine evn_lrg ?_ | with_reducible refine ev_bmT ?_ | with_reducible refine et_test ?_ | with_reducible refine et_B ?_ | with_reducible refine et_and ?_ | with_reducible refine et_or ?_ | with_reducible refine et_not ?_ | with_reducible refine et_yes ?_ | with_reducible refine ev_chain ?_ | with_reducible refine op_eqI ?_ | with_reducible refine op_neI ?_ | with_reducible refine op_eqS ?_ | with_reducible refine op_neS ?_ | with_reducible refine op_eqB ?_ | with_reducible refine op_neB ?_ | with_reducible refine op_inIn ?_ | with_reducible refine ud_neg ?_ | with_reducible refine op_is ?_ | with_reducible refine op_isnt ?_ | with_reducible refine cb_lenL ?_ | with_reducible refine cb_lenT ?_ | with_reducible refine cb_listT ?_ | with_reducible refine cb_listL ?_ | with_reducible refine cb_tupL ?_ | with_reducible refine cb_int ?_ | with_reducible refine cb_max2 ?_ | with_reducible refine cb_min2 ?_ | with_reducible refine it_list ?_ | with_reducible refine it_tup ?_ | with_reducible refine itn_1 ?_ | with_reducible refine it_rng2 ?_ | with_reducible refine it_rev ?_ | with_reducible refine itn_rev ?_ | with_reducible refine it_enum ?_ | with_reducible refine it_enumT ?_ | with_reducible refine it_zipT ?_ | with_reducible refine tcs_cons ?_ | with_reducible refine tcs_nil ?_ | with_reducible refine tg_name ?_ | with_reducible refine tgs_cons ?_ | with_reducible refine tgs_nil ?_
    | with_reducible refine ⟨_, rfl, ?_⟩
    | with_reducible refine ⟨_, _, rfl, ?_⟩
    | refine and_T ?_ | refine and_F ?_)
  | `(tactic| walk_at "d") => `(tactic| repeat walk_at "s")
theorem use_part_leaf {sg : Bool} {x : Int} {W : PyData → Prop} (h : 0 ≤ x ∧ x ≤ 12) (q : W (.tuple [])) : A_part_places [leafE sg x] W := ⟨(sg, x, []), rfl, ⟨h, fun _ z => absurd z List.not_mem_nil, Nat.zero_le _⟩, q⟩
theorem use_part_pair {sg : Bool} {x y : Int} {ns : List Int} {W : PyData → Prop} (h : SrtOk x (y :: ns)) (q : W (.tuple [.int 1, .int 2])) : A_part_places [.tuple [.str "pair", leafE sg x, sortE sg y ns]] W := ⟨(sg, x, y :: ns), rfl, h, q⟩
abbrev IWk : Type := (Bool × Int × List Int) × List Int × Nat × Nat
def A_walked (n : Nat) : AD := fnA (fun p : IWk => [sortE p.1.1 p.1.2.1 p.1.2.2, iv p.2.1, .int (p.2.2.1 : Nat), .int (p.2.2.2 : Nat)])
  (fun p => SrtOk p.1.2.1 p.1.2.2 ∧ p.1.2.2.length < n ∧ p.2.1.length ≤ 20 ∧ p.2.2.1 ≤ 10 ∧ p.1.2.2.length + n + p.2.1.length ≤ 20 ∧ p.2.2.1 + p.1.2.2.length ≤ 10 ∧ p.2.2.2 + 2 * p.1.2.2.length ≤ 40) fun p => .int ((p.2.2.2 + 2 * p.1.2.2.length + 1 : Nat))
theorem use_walked {n : Nat} {sg : Bool} {x : Int} {ns ps : List Int} {dp mt : Nat} {W : PyData → Prop} (h : SrtOk x ns) (h1 : ns.length < n) (h2 : ps.length ≤ 20) (h3 : dp ≤ 10) (h5 : ns.length + n + ps.length ≤ 20) (h6 : dp + ns.length ≤ 10) (h7 : mt + 2 * ns.length ≤ 40) (q : W (.int ((mt + 2 * ns.length + 1 : Nat)))) :
    A_walked n [sortE sg x ns, iv ps, .int (dp : Nat), .int (mt : Nat)] W := ⟨((sg, x, ns), ps, dp, mt), rfl, ⟨h, h1, h2, h3, h5, h6, h7⟩, q⟩
theorem wd_in (sg : Bool) : (decide (wd sg ∈ (["family", "heap"] : List Str))) = false := by cases sg <;> decide +kernel
theorem sc_walked : FnScope ["value", "path", "deep", "met", "places", "number", "place"] ["value", "path", "deep", "met"] (defScope s_walked) := ⟨rfl, rfl, rfl, by decide +kernel, rfl, by decide +kernel, by decide +kernel⟩
theorem z_walked {P : Program} {w : World} {K : PySem.W.Frag} {mg : Str → Option Value} {base : Heap} {k : Nat} (T : Tx K mg) {A : AD} (no : ∀ xs W, ¬ A xs W) : Cal P w K mg base k "walked" (spG A) := by
  obtain ⟨fd, F⟩ := T.sd.def_ 4 (d := d_walked) rfl
  exact ⟨⟨fd, ["value", "path", "deep", "met"], ⟨fun vs H Q E ⟨_, xs, W, _, _, h, _⟩ => (no xs W h).elim, fun _ _ _ _ _ _ _ _ _ _ _ _ _ ⟨_, xs, W, _, _, h, _⟩ => (no xs W h).elim⟩, F.bindsN fun _ _ _ _ _ _ us hl => match us, hl with | [_, _, _, _], _ => rfl⟩, T.g 4, F.kp⟩
theorem st_walked {P : Program} {w : World} {K : PySem.W.Frag} {mg : Str → Option Value} {base : Heap} {j n : Nat} (T : Tx K mg) (c_part_places : Cal P w K mg base 2 "part_places" (spG A_part_places)) (c_walked : Cal P w K mg base j "walked" (spG (A_walked n))) (hj : 2 ≤ j) : Cal P w K mg base (j + 1) "walked" (spG (A_walked (n + 1))) := by
  obtain ⟨fd, F⟩ := T.sd.def_ 4 (d := d_walked) rfl
  have S := sc_walked
  refine ⟨⟨fd, ["value", "path", "deep", "met"], ok_pure (k := j) F S (fnA_len fun _ => rfl) (fun cd Ar outer s H E xs W hr h => ?_), F.bindsN fun _ _ _ _ _ _ us hl => match us, hl with | [_, _, _, _], _ => rfl⟩, T.g 4, F.kp⟩
  obtain ⟨⟨⟨sg, x, ns⟩, ps, dp, mt⟩, e, pr, h⟩ := h
  subst e
  refine ⟨_, (pss_cons (ps_if (pt_cmpR op_gt (pv 2) (T.pi 86 (by rfl)) (nomark _)) (pss_one ps_never) pss_nil) (pss_cons (ps_if (pt_cmpR op_eq (pv 3) (T.pi 87 (by rfl)) (nomark _)) (pss_one ps_never) pss_nil) (pss_cons (ps_set (i := 4) S.nd rfl (by first | exact Or.inl rfl | exact Or.inr rfl) (pe_cl c_part_places hr (by omega) (by rfl) (pa_cons (pv 0) pa_nil))) (pss_cons (ps_if (pt_cmpR op_isN (pv 4) pe_non (nomark _)) (pss_one ps_never) pss_nil) (pss_cons (ps_set (i := 5) S.nd rfl (by first | exact Or.inl rfl | exact Or.inr rfl) (pe_op op_add (pv 3) pe_int)) (pss_cons (ps_for PassesOwn.never rfl (pi_tup (pv 4)) (pg_name (i := 6) S.nd rfl (by first | exact Or.inl rfl | exact Or.inr rfl)) (pss_cons (ps_set (i := 5) S.nd rfl (by first | exact Or.inl rfl | exact Or.inr rfl) (pe_cl c_walked hr (by omega) (by rfl) (pa_cons (pe_ix ix_tup (pv 0) (pv 6) fun _ _ => rfl) (pa_cons (pe_op op_catZ (pv 1) (pe_tupZ (pa_cons (pv 6) pa_nil))) (pa_cons (pe_op op_add (pv 2) pe_int) (pa_cons (pv 5) pa_nil)))))) (pss_one (ps_if (PW.pt (pw_and (pt_cmpR op_in_seq (pe_ix ix_tup (pv 0) pe_int fun _ _ => rfl) (pe_tupZ (pa_cons pe_str (pa_cons pe_str pa_nil))) (by with_unfolding_all rfl)) (pw_and1 (pt_not pt_nv)))) (pss_one ps_never) pss_nil)))) (pss_one (ps_ret (pv 5))))))))), ?_⟩
  show StD none _ _ [Ent.dat _, Ent.dat _, Ent.dat _, Ent.dat _, Ent.no, Ent.no, Ent.no]
  try dsimp only at h pr ⊢
  obtain ⟨h1, h2, h3, h4, h5, h6, h7⟩ := pr
  walk_at "d"
  refine brF (decide_eq_false (by omega)) ?_
  walk_at "d"
  refine brF (decide_eq_false (by omega)) ?_
  walk_at "d"
  cases ns with
  | nil =>
    refine use_part_leaf h1.1 ?_
    walk_at "d"
    refine st_for (Pd := Da) ?_
    walk_at "d"
    refine ⟨fun i ds => ds = [Ent.dat (sortE sg x []), Ent.dat (iv ps), Ent.dat (PyData.int dp), Ent.dat (PyData.int mt), Ent.dat (.tuple []), Ent.dat (PyData.int (mt + 1)), Ent.no], rfl, fun i d ds2 e1 iv2 => (by cases e1), fun ds2 iv2 => ?_⟩
    subst iv2
    walk_at "d"
    have h : W (.int (mt + 1)) := h
    exact h
  | cons y ns =>
    rw [List.length_cons] at h2 h5 h6 h7
    refine use_part_pair h1 ?_
    walk_at "d"
    refine st_for (Pd := Da) ?_
    walk_at "d"
    refine ⟨fun i ds => ∃ e, ds = [Ent.dat (sortE sg x (y :: ns)), Ent.dat (iv ps), Ent.dat (PyData.int dp), Ent.dat (PyData.int mt), Ent.dat (.tuple [.int 1, .int 2]), Ent.dat (PyData.int ((if i = 0 then mt + 1 else if i = 1 then mt + 2 else mt + 2 * (ns.length + 1) + 1 : Nat))), e], ⟨_, rfl⟩, fun i d ds2 e1 iv2 => ?_, fun ds2 iv2 => ?_⟩
    · obtain ⟨e, rfl⟩ := iv2
      match i, e1 with
      | 0, e1 =>
        cases e1
        walk_at "d"
        refine op_ixT (d := leafE sg x) rfl ?_
        walk_at "d"
        refine op_catT' (by rw [List.length_map]; show ps.length + 1 ≤ 100000; omega) ?_
        rw [show ps.map PyData.int ++ [PyData.int 1] = (ps ++ [1]).map PyData.int by rw [List.map_append]; rfl]
        walk_at "d"
        refine use_walked (ns := []) (ps := ps ++ [1]) (dp := dp + 1) (mt := mt + 1) h1.leaf (by show 0 < n; omega) (by rw [List.length_append]; show ps.length + 1 ≤ 20; omega) (by omega) (by rw [List.length_append]; show 0 + n + (ps.length + 1) ≤ 20; omega) (by show dp + 1 + 0 ≤ 10; omega) (by show mt + 1 + 2 * 0 ≤ 40; omega) ?_
        walk_at "d"
        refine op_ixT (d := .str "pair") rfl ?_
        walk_at "d"
        exact ⟨_, rfl⟩
      | 1, e1 =>
        cases e1
        walk_at "d"
        refine op_ixT (d := sortE sg y ns) rfl ?_
        walk_at "d"
        refine op_catT' (by rw [List.length_map]; show ps.length + 1 ≤ 100000; omega) ?_
        rw [show ps.map PyData.int ++ [PyData.int 2] = (ps ++ [2]).map PyData.int by rw [List.map_append]; rfl]
        walk_at "d"
        refine use_walked (ns := ns) (ps := ps ++ [2]) (dp := dp + 1) (mt := mt + 2) h1.tail (by omega) (by rw [List.length_append]; show ps.length + 1 ≤ 20; omega) (by omega) (by rw [List.length_append]; show ns.length + n + (ps.length + 1) ≤ 20; omega) (by show dp + 1 + ns.length ≤ 10; omega) (by show mt + 2 + 2 * ns.length ≤ 40; omega) ?_
        walk_at "d"
        refine op_ixT (d := .str "pair") rfl ?_
        walk_at "d"
        refine ⟨Ent.dat (.int 2), ?_⟩
        rw [show (if 1 + 1 = 0 then mt + 1 else if 1 + 1 = 1 then mt + 2 else mt + 2 * (ns.length + 1) + 1) = mt + 2 + 2 * ns.length + 1 by
          rw [if_neg (by decide), if_neg (by decide)]
          omega]
        rfl
    · obtain ⟨e, rfl⟩ := iv2
      walk_at "d"
      exact h
theorem ok_walked {P : Program} {w : World} {K : PySem.W.Frag} {mg : Str → Option Value} {base : Heap} (T : Tx K mg) (c : Cal P w K mg base 2 "part_places" (spG A_part_places)) : ∀ n, Cal P w K mg base (n + 2) "walked" (spG (A_walked n))
  | 0 => z_walked T fun xs W ⟨i, _, ⟨_, h, _⟩, _⟩ => absurd h (Nat.not_lt_zero _)
  | n + 1 => st_walked T c (ok_walked T c n) (by omega)
/-! ### numbers of marks, widths -/
theorem use_pair_first : True := trivial
def A_marks (n : Nat) : AD := fnA (fun p : Int × Bool × Int × List Int => [.int p.1, sortE p.2.1 p.2.2.1 p.2.2.2]) (fun p => SrtOk p.2.2.1 p.2.2.2 ∧ p.2.2.2.length < n) fun p => .int (p.2.2.1 + p.2.2.2.sum)
theorem use_marks {n : Nat} {m : Int} {sg : Bool} {x : Int} {ns : List Int} {W : PyData → Prop} (h : SrtOk x ns) (h1 : ns.length < n) (q : W (.int (x + ns.sum))) : A_marks n [.int m, sortE sg x ns] W := ⟨(m, sg, x, ns), rfl, ⟨h, h1⟩, q⟩
theorem sc_marks_of : FnScope ["many", "sort", "word", "first", "second"] ["many", "sort"] (defScope s_marks_of) := ⟨rfl, rfl, rfl, by decide +kernel, rfl, by decide +kernel, by decide +kernel⟩
theorem z_marks_of {P : Program} {w : World} {K : PySem.W.Frag} {mg : Str → Option Value} {base : Heap} {k : Nat} (T : Tx K mg) {A : AD} (no : ∀ xs W, ¬ A xs W) : Cal P w K mg base k "marks_of" (spG A) := by
  obtain ⟨fd, F⟩ := T.sd.def_ 5 (d := d_marks_of) rfl
  exact ⟨⟨fd, ["many", "sort"], ⟨fun vs H Q E ⟨_, xs, W, _, _, h, _⟩ => (no xs W h).elim, fun _ _ _ _ _ _ _ _ _ _ _ _ _ ⟨_, xs, W, _, _, h, _⟩ => (no xs W h).elim⟩, F.bindsN fun _ _ _ _ _ _ us hl => match us, hl with | [_, _], _ => rfl⟩, T.g 5, F.kp⟩
theorem st_marks_of {P : Program} {w : World} {K : PySem.W.Frag} {mg : Str → Option Value} {base : Heap} {j n : Nat} (T : Tx K mg) (c_marks_of : Cal P w K mg base j "marks_of" (spG (A_marks n)))  : Cal P w K mg base (j + 1) "marks_of" (spG (A_marks (n + 1))) := by
  obtain ⟨fd, F⟩ := T.sd.def_ 5 (d := d_marks_of) rfl
  have S := sc_marks_of
  refine ⟨⟨fd, ["many", "sort"], ok_pure (k := j) F S (fnA_len fun _ => rfl) (fun cd Ar outer s H E xs W hr h => ?_), F.bindsN fun _ _ _ _ _ _ us hl => match us, hl with | [_, _], _ => rfl⟩, T.g 5, F.kp⟩
  obtain ⟨⟨m, sg, x, ns⟩, e, pr, h⟩ := h
  subst e
  refine ⟨_, (pss_cons (ps_set (i := 2) S.nd rfl (by first | exact Or.inl rfl | exact Or.inr rfl) (pe_ix ix_tup (pv 1) pe_int fun _ _ => rfl)) (pss_cons (ps_if (pt_cmpR op_in_seq (pv 2) (pe_tupZ (pa_cons pe_str (pa_cons pe_str pa_nil))) (by with_unfolding_all rfl)) (pss_one (ps_ret (pe_ix ix_tup (pv 1) pe_int fun _ _ => rfl))) pss_nil) (pss_cons (ps_if (pt_cmpR op_in_seq (pv 2) (pe_tupZ (pa_cons pe_str (pa_cons pe_str pa_nil))) (by with_unfolding_all rfl)) (pss_cons (ps_par (i := 3) (j := 4) (by rfl) S.nd rfl rfl (by decide) rfl rfl (pa_cons (pe_cl c_marks_of hr (by omega) (by rfl) (pa_cons (pv 0) (pa_cons (pe_ix ix_tup (pv 1) pe_int fun _ _ => rfl) pa_nil))) (pa_cons (pe_cl c_marks_of hr (by omega) (by rfl) (pa_cons (pv 0) (pa_cons (pe_ix ix_tup (pv 1) pe_int fun _ _ => rfl) pa_nil))) pa_nil)) (by rfl)) (pss_one (ps_ret (pe_ifExp (pt_cmpR op_eq (pv 2) pe_str (nomark _)) (pe_callB (call_max2 rfl) (by rfl) (T.n 78) (by decide +kernel) (pa_cons (pv 3) (pa_cons (pv 4) pa_nil))) (pe_op op_add (pv 3) (pv 4)))))) pss_nil) (pss_cons (ps_if (pt_cmpR op_in_seq (pv 2) (pe_tupZ (pa_cons pe_str (pa_cons pe_str (pa_cons pe_str pa_nil)))) (by with_unfolding_all rfl)) (pss_one (ps_ret (pe_op op_mul (pe_ix ix_tup (pv 1) pe_int fun _ _ => rfl) (pe_cl c_marks_of hr (by omega) (by rfl) (pa_cons (pv 0) (pa_cons (pe_ix ix_tup (pv 1) pe_int fun _ _ => rfl) pa_nil)))))) pss_nil) (pss_cons (ps_if (pt_cmpR op_eq (pv 2) pe_str (nomark _)) (pss_one (ps_ret (pe_op op_fdiv (pe_op op_mul (pe_op op_mul (pe_ix ix_tup (pv 1) pe_int fun _ _ => rfl) (pv 0)) (pe_op op_sub (pv 0) pe_int)) pe_int))) pss_nil) (pss_cons (ps_if (pt_cmpR op_eq (pv 2) pe_str (nomark _)) (pss_one (ps_ret (pe_op op_mul pe_int (pe_op op_sub (pv 0) pe_int)))) pss_nil) (pss_cons (ps_if (pt_cmpR op_eq (pv 2) pe_str (nomark _)) (pss_one (ps_ret (pe_op op_sub (pv 0) pe_int))) pss_nil) (pss_one (ps_ret (pe_ifExp (pt_cmpR op_eq (pv 2) pe_str (nomark _)) pe_int pe_int)))))))))), ?_⟩
  show StD none _ _ [Ent.dat _, Ent.dat _, Ent.no, Ent.no, Ent.no]
  try dsimp only at h pr ⊢
  obtain ⟨h1, h2⟩ := pr
  cases ns with
  | nil =>
    cases sg with
    | true =>
      show StD none _ _ [Ent.dat (.int m), Ent.dat (.tuple [.str "subset", .int x]), Ent.no, Ent.no, Ent.no]
      walk_at "d"
      have h : W (.int (x + 0)) := h
      rw [Int.add_zero] at h
      exact h
    | false =>
      show StD none _ _ [Ent.dat (.int m), Ent.dat (.tuple [.str "bag", .int x]), Ent.no, Ent.no, Ent.no]
      walk_at "d"
      have h : W (.int (x + 0)) := h
      rw [Int.add_zero] at h
      exact h
  | cons y ns =>
    rw [List.length_cons] at h2
    show StD none _ _ [Ent.dat (.int m), Ent.dat (.tuple [.str "pair", leafE sg x, sortE sg y ns]), Ent.no, Ent.no, Ent.no]
    walk_at "d"
    refine use_marks (ns := []) h1.leaf (by show 0 < n; omega) ?_
    walk_at "d"
    refine use_marks h1.tail (by omega) ?_
    walk_at "d"
    rw [List.sum_cons] at h
    rw [show x + [].sum + (y + ns.sum) = x + (y + ns.sum) by rw [show ([] : List Int).sum = 0 from rfl, Int.add_zero]]
    exact h
theorem ok_marks {P : Program} {w : World} {K : PySem.W.Frag} {mg : Str → Option Value} {base : Heap} (T : Tx K mg) : ∀ n, Cal P w K mg base n "marks_of" (spG (A_marks n))
  | 0 => z_marks_of T fun xs W ⟨i, _, ⟨_, h⟩, _⟩ => absurd h (Nat.not_lt_zero _)
  | n + 1 => st_marks_of T (ok_marks T n)
def A_width (n : Nat) : AD := fnA (fun p : Bool × Int × List Int => [sortE p.1 p.2.1 p.2.2]) (fun p => SrtOk p.2.1 p.2.2 ∧ p.2.2.length < n) fun p => .int ((p.2.2.length + 1 : Nat))
theorem use_width {n : Nat} {sg : Bool} {x : Int} {ns : List Int} {W : PyData → Prop} (h : SrtOk x ns) (h1 : ns.length < n) (q : W (.int ((ns.length + 1 : Nat)))) : A_width n [sortE sg x ns] W := ⟨(sg, x, ns), rfl, ⟨h, h1⟩, q⟩
theorem sc_width_of : FnScope ["sort", "word", "first", "second"] ["sort"] (defScope s_width_of) := ⟨rfl, rfl, rfl, by decide +kernel, rfl, by decide +kernel, by decide +kernel⟩
theorem z_width_of {P : Program} {w : World} {K : PySem.W.Frag} {mg : Str → Option Value} {base : Heap} {k : Nat} (T : Tx K mg) {A : AD} (no : ∀ xs W, ¬ A xs W) : Cal P w K mg base k "width_of" (spG A) := by
  obtain ⟨fd, F⟩ := T.sd.def_ 6 (d := d_width_of) rfl
  exact ⟨⟨fd, ["sort"], ⟨fun vs H Q E ⟨_, xs, W, _, _, h, _⟩ => (no xs W h).elim, fun _ _ _ _ _ _ _ _ _ _ _ _ _ ⟨_, xs, W, _, _, h, _⟩ => (no xs W h).elim⟩, F.bindsN fun _ _ _ _ _ _ us hl => match us, hl with | [_], _ => rfl⟩, T.g 6, F.kp⟩
theorem st_width_of {P : Program} {w : World} {K : PySem.W.Frag} {mg : Str → Option Value} {base : Heap} {j n : Nat} (T : Tx K mg) (c_width_of : Cal P w K mg base j "width_of" (spG (A_width n)))  : Cal P w K mg base (j + 1) "width_of" (spG (A_width (n + 1))) := by
  obtain ⟨fd, F⟩ := T.sd.def_ 6 (d := d_width_of) rfl
  have S := sc_width_of
  refine ⟨⟨fd, ["sort"], ok_pure (k := j) F S (fnA_len fun _ => rfl) (fun cd Ar outer s H E xs W hr h => ?_), F.bindsN fun _ _ _ _ _ _ us hl => match us, hl with | [_], _ => rfl⟩, T.g 6, F.kp⟩
  obtain ⟨⟨sg, x, ns⟩, e, pr, h⟩ := h
  subst e
  refine ⟨_, (pss_cons (ps_set (i := 1) S.nd rfl (by first | exact Or.inl rfl | exact Or.inr rfl) (pe_ix ix_tup (pv 0) pe_int fun _ _ => rfl)) (pss_cons (ps_if (pt_cmpR op_in_seq (pv 1) (pe_tupZ (pa_cons pe_str (pa_cons pe_str pa_nil))) (by with_unfolding_all rfl)) (pss_cons (ps_par (i := 2) (j := 3) (by rfl) S.nd rfl rfl (by decide) rfl rfl (pa_cons (pe_cl c_width_of hr (by omega) (by rfl) (pa_cons (pe_ix ix_tup (pv 0) pe_int fun _ _ => rfl) pa_nil)) (pa_cons (pe_cl c_width_of hr (by omega) (by rfl) (pa_cons (pe_ix ix_tup (pv 0) pe_int fun _ _ => rfl) pa_nil)) pa_nil)) (by rfl)) (pss_one (ps_ret (pe_ifExp (pt_cmpR op_eq (pv 1) pe_str (nomark _)) (pe_callB (call_max2 rfl) (by rfl) (T.n 78) (by decide +kernel) (pa_cons (pv 2) (pa_cons (pv 3) pa_nil))) (pe_op op_add (pv 2) (pv 3)))))) pss_nil) (pss_cons (ps_if (pt_cmpR op_in_seq (pv 1) (pe_tupZ (pa_cons pe_str (pa_cons pe_str (pa_cons pe_str pa_nil)))) (by with_unfolding_all rfl)) (pss_one (ps_ret (pe_op op_mul (pe_ix ix_tup (pv 0) pe_int fun _ _ => rfl) (pe_cl c_width_of hr (by omega) (by rfl) (pa_cons (pe_ix ix_tup (pv 0) pe_int fun _ _ => rfl) pa_nil))))) pss_nil) (pss_one (ps_ret pe_int))))), ?_⟩
  show StD none _ _ [Ent.dat _, Ent.no, Ent.no, Ent.no]
  try dsimp only at h pr ⊢
  obtain ⟨h1, h2⟩ := pr
  cases ns with
  | nil =>
    cases sg with
    | true =>
      show StD none _ _ [Ent.dat (.tuple [.str "subset", .int x]), Ent.no, Ent.no, Ent.no]
      walk_at "d"
      exact h
    | false =>
      show StD none _ _ [Ent.dat (.tuple [.str "bag", .int x]), Ent.no, Ent.no, Ent.no]
      walk_at "d"
      exact h
  | cons y ns =>
    rw [List.length_cons] at h2
    show StD none _ _ [Ent.dat (.tuple [.str "pair", leafE sg x, sortE sg y ns]), Ent.no, Ent.no, Ent.no]
    walk_at "d"
    refine use_width (ns := []) h1.leaf (by show 0 < n; omega) ?_
    walk_at "d"
    refine use_width h1.tail (by omega) ?_
    walk_at "d"
    rw [List.length_cons] at h
    rw [show (([] : List Int).length + 1 : Nat) + ((ns.length + 1 : Nat) : Int) = ((ns.length + 1 + 1 : Nat) : Int) by
      show ((0 + 1 : Nat) : Int) + _ = _
      omega]
    exact h
theorem ok_width {P : Program} {w : World} {K : PySem.W.Frag} {mg : Str → Option Value} {base : Heap} (T : Tx K mg) : ∀ n, Cal P w K mg base n "width_of" (spG (A_width n))
  | 0 => z_width_of T fun xs W ⟨i, _, ⟨_, h⟩, _⟩ => absurd h (Nat.not_lt_zero _)
  | n + 1 => st_width_of T (ok_width T n)
end JR
set_option pp.maxSteps 2500
set_option Elab.async false
set_option linter.all false
set_option maxRecDepth 100000
set_option maxHeartbeats 2000000
namespace JR
open PySem PySem.Spec L2 RZ
local macro_rules
  | `(tactic| walk_at "s") => `(tactic| first
    | ((with_reducible apply ev_var); exact rfl) | with_reducible refine ev_isiI ?_ | with_reducible refine ev_isiB ?_ | with_reducible refine ev_isiT ?_ | with_reducible refine ev_isiS ?_ | ((with_reducible refine st_append ?_ ?_); rotate_left; exact ⟨_, rfl⟩) | ((with_reducible apply st_pop); exact rfl) | ((with_reducible apply et_ownNe); exact rfl) | ((with_reducible apply op_i); exact rfl) | ((with_reducible apply it_rgV); exact rfl) | ((with_reducible apply op_inW); exact rfl) | ((with_reducible apply op_ixT); exact rfl) | ((with_reducible apply op_ixL); exact rfl) | ((with_reducible refine And.intro (le_lit ?_) ?_); exact rfl) | ((with_reducible apply op_b); exact rfl) | ((with_reducible apply tc_name); decide) | ((with_reducible apply tc_tup); exact rfl) | ((with_reducible apply tg_tup); exact rfl) | ((with_reducible apply tg_tupD); exact rfl) | ((with_reducible apply tc_tupD); exact rfl)
    | with_reducible refine st_seq ?_ | with_reducible refine st_ret ?_ | with_reducible refine st_next ?_ | with_reducible refine st_if ?_ | with_reducible refine st_par_own2 ?_ | with_reducible refine st_par_own ?_ | with_reducible refine st_rng ?_ | with_reducible refine st_par ?_ | with_reducible refine st_own ?_ | with_reducible refine st_asg ?_ | with_reducible refine st_unpack ?_ | with_reducible refine st_drop ?_ | with_reducible refine st_break ?_ | with_reducible refine ev_int ?_ | with_reducible refine ev_str ?_ | with_reducible refine ev_bl ?_ | with_reducible refine ev_non ?_ | with_reducible refine ev_op ?_ | with_reducible refine ev_un ?_ | with_reducible refine ev_if ?_ | with_reducible refine ev_andV ?_ | with_reducible refine ev_orV ?_ | with_reducible refine ev_notV ?_ | with_reducible refine ev_tup ?_ | with_reducible refine ev_lst ?_ | with_reducible refine ea_nil ?_ | with_reducible refine ea_cons ?_ | with_reducible refine ev_call ?_ | with_reducible refine ev_callN ?_ | with_reducible refine ev_cb ?_ | with_reducible refine ev_sl ?_ | with_reducible refine eo_none ?_ | with_reducible refine eo_some ?_ | with_reducible refine ev_revL ?_ | with_reducible refine ev_revT ?_ | with_reducible refine evn_lrg ?_ | with_reducible refine ev_bmT ?_ | with_reducible refine et_test ?_ | with_reducible refine et_B ?_ | with_reducible refine et_and ?_ | with_reducible refine et_or ?_ | with_reducible refine et_not ?_ | with_reducible refine et_yes ?_ | with_reducible refine ev_chain ?_ | with_reducible refine op_eqI ?_ | with_reducible refine op_neI ?_ | with_reducible refine op_eqS ?_ | with_reducible refine op_neS ?_ | with_reducible refine op_eqB ?_ | with_reducible refine op_neB ?_ | with_reducible refine op_inIn ?_ | with_reducible refine ud_neg ?_ | with_reducible refine op_is ?_ | with_reducible refine op_isnt ?_ | with_reducible refine cb_lenL ?_ | with_reducible refine cb_lenT ?_ | with_reducible refine cb_listT ?_ | with_reducible refine cb_listL ?_ | with_reducible refine cb_tupL ?_ | with_reducible refine cb_int ?_ | with_reducible refine cb_max2 ?_ | with_reducible refine cb_min2 ?_ | with_reducible refine it_list ?_ | with_reducible refine it_tup ?_ | with_reducible refine itn_1 ?_ | with_reducible refine it_rng2 ?_ | with_reducible refine it_rev ?_ | with_reducible refine itn_rev ?_ | with_reducible refine it_enum ?_ | with_reducible refine it_enumT ?_ | with_reducible refine it_zipT ?_ | with_reducible refine tcs_cons ?_ | with_reducible refine tcs_nil ?_ | with_reducible refine tg_name ?_ | with_reducible refine tgs_cons ?_ | with_reducible refine tgs_nil ?_
    | with_reducible refine ⟨_, rfl, ?_⟩
    | with_reducible refine ⟨_, _, rfl, ?_⟩
    | refine and_T ?_ | refine and_F ?_)
  | `(tactic| walk_at "d") => `(tactic| repeat walk_at "s")
theorem use_rel {ι : Type} {enc : ι → List PyData} {pre : ι → Prop} {R : ι → PyData → Prop} {xs : List PyData} {W : PyData → Prop} (i : ι) (e : xs = enc i) (p : pre i) (h : ∀ d, R i d → W d) : relA enc pre R xs W := ⟨i, e, p, h⟩
/-! ### how many choices -/
def chF (first : Int) : Nat → Int
  | 0 => 1
  | i + 1 => chF first i * (first - i) / (i + 1)
theorem ch_b : ∀ m : Nat, m < 5 → ∀ t : Nat, t < 13 → ∀ b : Bool, (∀ i : Nat, i < t + 1 → 0 ≤ chF (if b then (m : Int) + t - 1 else m) i ∧ chF (if b then (m : Int) + t - 1 else m) i ≤ 6435) ∧ chF (if b then (m : Int) + t - 1 else m) t ≤ 455 := by decide +kernel
def A_choices : AD := relA (fun p : Nat × Nat × Bool => [.int (p.1 : Nat), .int (p.2.1 : Nat), .bool p.2.2]) (fun p => p.1 ≤ 4 ∧ p.2.1 ≤ 12) fun _ d => ∃ z : Int, d = .int z ∧ 0 ≤ z ∧ z ≤ 455
theorem sc_choices : FnScope ["number", "times", "again", "found", "first", "step"] ["number", "times", "again"] (defScope s_choices) := ⟨rfl, rfl, rfl, by decide +kernel, rfl, by decide +kernel, by decide +kernel⟩
theorem ok_choices {P : Program} {w : World} {K : PySem.W.Frag} {mg : Str → Option Value} {base : Heap}  (T : Tx K mg)   : Cal P w K mg base 1 "choices" (spG A_choices) := by
  obtain ⟨fd, F⟩ := T.sd.def_ 7 (d := d_choices) rfl
  have S := sc_choices
  refine ⟨⟨fd, ["number", "times", "again"], ok_pure (k := 0) F S (fnA_len fun _ => rfl) (fun cd Ar outer s H E xs W hr h => ?_), F.bindsN fun _ _ _ _ _ _ us hl => match us, hl with | [_, _, _], _ => rfl⟩, T.g 7, F.kp⟩
  obtain ⟨⟨m, t, b⟩, e, pr, h⟩ := h
  subst e
  refine ⟨_, (pss_cons (ps_set (i := 3) S.nd rfl (by first | exact Or.inl rfl | exact Or.inr rfl) pe_int) (pss_cons (ps_set (i := 4) S.nd rfl (by first | exact Or.inl rfl | exact Or.inr rfl) (pe_ifExp (pt_val (pv 2)) (pe_op op_sub (pe_op op_add (pv 0) (pv 1)) pe_int) (pv 0))) (pss_cons (ps_for PassesOwn.never rfl (pi_range1 (by rfl) (T.n 70) (pa_cons (pv 1) pa_nil)) (pg_name (i := 5) S.nd rfl (by first | exact Or.inl rfl | exact Or.inr rfl)) (pss_cons (ps_set (i := 3) S.nd rfl (by first | exact Or.inl rfl | exact Or.inr rfl) (pe_op op_fdiv (pe_op op_mul (pv 3) (pe_op op_sub (pv 4) (pv 5))) (pe_op op_add (pv 5) pe_int))) (pss_one (ps_if (pt_cmpR op_le (pv 3) pe_int (nomark _)) (pss_one (ps_ret pe_int)) pss_nil)))) (pss_one (ps_ret (pv 3)))))), ?_⟩
  show StD none _ _ [Ent.dat _, Ent.dat _, Ent.dat _, Ent.no, Ent.no, Ent.no]
  try dsimp only at h pr ⊢
  obtain ⟨h1, h2⟩ := pr
  obtain ⟨c1, c2⟩ := ch_b m (by omega) t (by omega) b
  obtain ⟨f, hf⟩ : ∃ f : Int, f = if b then (m : Int) + t - 1 else m := ⟨_, rfl⟩
  rw [← hf] at c1 c2
  walk_at "d"
  refine mergeD (M := .int f) (fun e => ?_) (fun e => ?_) ?_
  · rw [if_pos e] at hf
    walk_at "d"
    exact ⟨rfl, by rw [hf]⟩
  · rw [if_neg (by rw [e]; decide)] at hf
    walk_at "d"
    exact ⟨rfl, by rw [hf]⟩
  · walk_at "d"
    refine st_for (Pd := Da) ?_
    walk_at "d"
    refine ⟨by omega, ?_⟩
    refine ⟨fun i ds => ∃ e, ds = [Ent.dat (.int m), Ent.dat (.int t), Ent.dat (.bool b), Ent.dat (.int (chF f i)), Ent.dat (.int f), e], ⟨_, rfl⟩, fun i d ds2 e1 iv2 => ?_, fun ds2 iv2 => ?_⟩
    · obtain ⟨e, rfl⟩ := iv2
      obtain ⟨hi, rfl⟩ := rmap_at e1
      obtain ⟨g1, g2⟩ := c1 i (by omega)
      walk_at "d"
      refine op_iC (.inl ⟨by omega, by omega⟩) rfl ?_
      walk_at "d"
      refine op_iC ⟨by omega, by omega⟩ rfl ?_
      walk_at "d"
      refine ⟨fun e => ?_, fun e => ?_⟩
      · walk_at "d"
        exact h _ ⟨0, rfl, by decide, by decide⟩
      · walk_at "d"
        exact ⟨_, rfl⟩
    · obtain ⟨e, rfl⟩ := iv2
      walk_at "d"
      rw [List.length_map, List.length_range]
      exact h _ ⟨_, rfl, (c1 t (by omega)).1, c2⟩
theorem use_choices {m t : Nat} {b : Bool} {W : PyData → Prop} (h1 : m ≤ 4) (h2 : t ≤ 12) (q : ∀ z : Int, 0 ≤ z → z ≤ 455 → W (.int z)) : A_choices [.int (m : Nat), .int (t : Nat), .bool b] W :=
  use_rel (m, t, b) rfl ⟨h1, h2⟩ fun d ⟨z, e, q1, q2⟩ => by
    rw [e]
    exact q z q1 q2
def A_bare : AD := relA (fun p : Nat × Bool × Int => [.int (p.1 : Nat), leafE p.2.1 p.2.2]) (fun p => p.1 ≤ 4 ∧ 0 ≤ p.2.2 ∧ p.2.2 ≤ 12) fun _ d => ∃ z : Int, d = .int z ∧ 0 ≤ z ∧ z ≤ 455
theorem sc_bare_size : FnScope ["many", "sort", "word"] ["many", "sort"] (defScope s_bare_size) := ⟨rfl, rfl, rfl, by decide +kernel, rfl, by decide +kernel, by decide +kernel⟩
theorem ok_bare_size {P : Program} {w : World} {K : PySem.W.Frag} {mg : Str → Option Value} {base : Heap}  (T : Tx K mg) (c_choices : Cal P w K mg base 1 "choices" (spG A_choices))  : Cal P w K mg base 2 "bare_size" (spG A_bare) := by
  obtain ⟨fd, F⟩ := T.sd.def_ 8 (d := d_bare_size) rfl
  have S := sc_bare_size
  refine ⟨⟨fd, ["many", "sort"], ok_pure (k := 1) F S (fnA_len fun _ => rfl) (fun cd Ar outer s H E xs W hr h => ?_), F.bindsN fun _ _ _ _ _ _ us hl => match us, hl with | [_, _], _ => rfl⟩, T.g 8, F.kp⟩
  obtain ⟨⟨m, sg, x⟩, e, pr, h⟩ := h
  subst e
  refine ⟨_, (pss_cons (ps_set (i := 2) S.nd rfl (by first | exact Or.inl rfl | exact Or.inr rfl) (pe_ix ix_tup (pv 1) pe_int fun _ _ => rfl)) (pss_cons (ps_if (pt_cmpR op_eq (pv 2) pe_str (nomark _)) (pss_one (ps_ret pe_int)) pss_nil) (pss_cons (ps_if (pt_cmpR op_eq (pv 2) pe_str (nomark _)) (pss_one (ps_ret (pv 0))) pss_nil) (pss_cons (ps_if (pt_cmpR op_in_seq (pv 2) (pe_tupZ (pa_cons pe_str (pa_cons pe_str pa_nil))) (by with_unfolding_all rfl)) (pss_one (ps_ret (pe_cl c_choices hr (by omega) (by rfl) (pa_cons (pv 0) (pa_cons (pe_ix ix_tup (pv 1) pe_int fun _ _ => rfl) (pa_cons (pe_cmpR op_eq (pv 2) pe_str (nomark _)) pa_nil)))))) pss_nil) (pss_cons (ps_if (pt_cmpR op_eq (pv 2) pe_str (nomark _)) (pss_one (ps_ret pe_nv)) pss_nil) (pss_one (ps_ret pe_nv))))))), ?_⟩
  show StD none _ _ [Ent.dat _, Ent.dat _, Ent.no]
  try dsimp only at h pr ⊢
  obtain ⟨h1, h2, h3⟩ := pr
  obtain ⟨t, rfl⟩ := Int.eq_ofNat_of_zero_le h2
  cases sg with
  | true =>
    show StD none _ _ [Ent.dat (.int (m : Nat)), Ent.dat (.tuple [.str "subset", .int t]), Ent.no]
    walk_at "d"
    exact use_choices h1 (by omega) fun z q1 q2 => h _ ⟨z, rfl, q1, q2⟩
  | false =>
    show StD none _ _ [Ent.dat (.int (m : Nat)), Ent.dat (.tuple [.str "bag", .int t]), Ent.no]
    walk_at "d"
    exact use_choices h1 (by omega) fun z q1 q2 => h _ ⟨z, rfl, q1, q2⟩
def A_size (n : Nat) : AD := relA (fun p : Nat × Bool × Int × List Int => [.int (p.1 : Nat), sortE p.2.1 p.2.2.1 p.2.2.2]) (fun p => p.1 ≤ 4 ∧ SrtOk p.2.2.1 p.2.2.2 ∧ p.2.2.2.length < n) fun p d => ∃ z : Int, d = .int z ∧ 0 ≤ z ∧ z ≤ 455 ^ (p.2.2.2.length + 1)
theorem use_size {n m : Nat} {sg : Bool} {x : Int} {ns : List Int} {W : PyData → Prop} (h0 : m ≤ 4) (h1 : SrtOk x ns) (h2 : ns.length < n) (q : ∀ z : Int, 0 ≤ z → z ≤ 455 ^ (ns.length + 1) → W (.int z)) : A_size n [.int (m : Nat), sortE sg x ns] W :=
  use_rel (m, sg, x, ns) rfl ⟨h0, h1, h2⟩ fun d ⟨z, e, q1, q2⟩ => by
    rw [e]
    exact q z q1 q2
theorem pow_most {k : Nat} (h : k ≤ 4) : (455 : Int) ^ k ≤ 42859350625 := by
  match k, h with
  | 0, _ => decide
  | 1, _ => decide
  | 2, _ => decide
  | 3, _ => decide
  | 4, _ => decide
theorem sc_size_of : FnScope ["many", "sort", "word", "number", "first", "second"] ["many", "sort"] (defScope s_size_of) := ⟨rfl, rfl, rfl, by decide +kernel, rfl, by decide +kernel, by decide +kernel⟩
theorem z_size_of {P : Program} {w : World} {K : PySem.W.Frag} {mg : Str → Option Value} {base : Heap} {k : Nat} (T : Tx K mg) {A : AD} (no : ∀ xs W, ¬ A xs W) : Cal P w K mg base k "size_of" (spG A) := by
  obtain ⟨fd, F⟩ := T.sd.def_ 9 (d := d_size_of) rfl
  exact ⟨⟨fd, ["many", "sort"], ⟨fun vs H Q E ⟨_, xs, W, _, _, h, _⟩ => (no xs W h).elim, fun _ _ _ _ _ _ _ _ _ _ _ _ _ ⟨_, xs, W, _, _, h, _⟩ => (no xs W h).elim⟩, F.bindsN fun _ _ _ _ _ _ us hl => match us, hl with | [_, _], _ => rfl⟩, T.g 9, F.kp⟩
theorem st_size_of {P : Program} {w : World} {K : PySem.W.Frag} {mg : Str → Option Value} {base : Heap} {j n : Nat} (T : Tx K mg) (c_bare_size : Cal P w K mg base 2 "bare_size" (spG A_bare)) (c_size_of : Cal P w K mg base j "size_of" (spG (A_size n))) (hj : 2 ≤ j) : Cal P w K mg base (j + 1) "size_of" (spG (A_size (n + 1))) := by
  obtain ⟨fd, F⟩ := T.sd.def_ 9 (d := d_size_of) rfl
  have S := sc_size_of
  refine ⟨⟨fd, ["many", "sort"], ok_pure (k := j) F S (fnA_len fun _ => rfl) (fun cd Ar outer s H E xs W hr h => ?_), F.bindsN fun _ _ _ _ _ _ us hl => match us, hl with | [_, _], _ => rfl⟩, T.g 9, F.kp⟩
  obtain ⟨⟨m, sg, x, ns⟩, e, pr, h⟩ := h
  subst e
  refine ⟨_, (pss_cons (ps_set (i := 2) S.nd rfl (by first | exact Or.inl rfl | exact Or.inr rfl) (pe_ix ix_tup (pv 1) pe_int fun _ _ => rfl)) (pss_cons (ps_if (pt_cmpR op_in_seq (pv 2) (pe_tupZ (pa_cons pe_str (pa_cons pe_str pa_nil))) (by with_unfolding_all rfl)) (pss_cons (ps_par (i := 4) (j := 5) (by rfl) S.nd rfl rfl (by decide) rfl rfl (pa_cons (pe_cl c_size_of hr (by omega) (by rfl) (pa_cons (pv 0) (pa_cons (pe_ix ix_tup (pv 1) pe_int fun _ _ => rfl) pa_nil))) (pa_cons (pe_cl c_size_of hr (by omega) (by rfl) (pa_cons (pv 0) (pa_cons (pe_ix ix_tup (pv 1) pe_int fun _ _ => rfl) pa_nil))) pa_nil)) (by rfl)) (pss_one (ps_set (i := 3) S.nd rfl (by first | exact Or.inl rfl | exact Or.inr rfl) (pe_ifExp (pt_cmpR op_eq (pv 2) pe_str (nomark _)) (pe_op op_add (pv 4) (pv 5)) (pe_op op_mul (pv 4) (pv 5)))))) (pss_one (ps_if (pt_cmpR op_eq (pv 2) pe_str (nomark _)) (pss_one (ps_set (i := 3) S.nd rfl (by first | exact Or.inl rfl | exact Or.inr rfl) pe_nv)) (pss_one (ps_if (pt_cmpR op_in_seq (pv 2) (pe_tupZ (pa_cons pe_str (pa_cons pe_str pa_nil))) (by with_unfolding_all rfl)) (pss_one (ps_set (i := 3) S.nd rfl (by first | exact Or.inl rfl | exact Or.inr rfl) pe_nv)) (pss_one (ps_set (i := 3) S.nd rfl (by first | exact Or.inl rfl | exact Or.inr rfl) (pe_cl c_bare_size hr (by omega) (by rfl) (pa_cons (pv 0) (pa_cons (pv 1) pa_nil)))))))))) (pss_cons (ps_if (pt_cmpR op_gt (pv 3) (T.pi 90 (by rfl)) (nomark _)) (pss_one ps_never) pss_nil) (pss_one (ps_ret (pv 3)))))), ?_⟩
  show StD none _ _ [Ent.dat _, Ent.dat _, Ent.no, Ent.no, Ent.no, Ent.no]
  try dsimp only at h pr ⊢
  obtain ⟨h0, h1, h2⟩ := pr
  cases ns with
  | nil =>
    have use : ∀ {W : PyData → Prop}, (∀ z : Int, 0 ≤ z → z ≤ 455 → W (.int z)) → A_bare [.int (m : Nat), leafE sg x] W := fun {W} q => use_rel (m, sg, x) rfl ⟨h0, h1.1⟩ fun d ⟨z, e, q1, q2⟩ => by
      rw [e]
      exact q z q1 q2
    cases sg with
    | true =>
      show StD none _ _ [Ent.dat (.int (m : Nat)), Ent.dat (.tuple [.str "subset", .int x]), Ent.no, Ent.no, Ent.no, Ent.no]
      walk_at "d"
      refine use fun z q1 q2 => ?_
      walk_at "d"
      refine brF (decide_eq_false (by omega)) ?_
      walk_at "d"
      exact h _ ⟨z, rfl, q1, by show z ≤ 455 ^ 1; omega⟩
    | false =>
      show StD none _ _ [Ent.dat (.int (m : Nat)), Ent.dat (.tuple [.str "bag", .int x]), Ent.no, Ent.no, Ent.no, Ent.no]
      walk_at "d"
      refine use fun z q1 q2 => ?_
      walk_at "d"
      refine brF (decide_eq_false (by omega)) ?_
      walk_at "d"
      exact h _ ⟨z, rfl, q1, by show z ≤ 455 ^ 1; omega⟩
  | cons y ns =>
    rw [List.length_cons] at h2
    have l3 := h1.2.2
    rw [List.length_cons] at l3
    show StD none _ _ [Ent.dat (.int (m : Nat)), Ent.dat (.tuple [.str "pair", leafE sg x, sortE sg y ns]), Ent.no, Ent.no, Ent.no, Ent.no]
    walk_at "d"
    refine use_size (ns := []) h0 h1.leaf (by show 0 < n; omega) fun z q1 q2 => ?_
    walk_at "d"
    refine use_size h0 h1.tail (by omega) fun u p1 p2 => ?_
    have q2 : z ≤ 455 := q2
    have b1 := pow_most (k := ns.length + 1) (by omega)
    have b2 := pow_most (k := ns.length + 1 + 1) (by omega)
    have m1 : 0 ≤ z * u := Int.mul_nonneg q1 p1
    have m2 : z * u ≤ 455 ^ (ns.length + 1 + 1) := by
      rw [Int.pow_succ, Int.mul_comm (455 ^ (ns.length + 1)) 455]
      exact Int.mul_le_mul q2 p2 p1 (by decide)
    walk_at "d"
    refine op_iC (.inl ⟨by omega, by omega⟩) rfl ?_
    walk_at "d"
    refine brF (decide_eq_false (by omega)) ?_
    walk_at "d"
    exact h _ ⟨_, rfl, m1, m2⟩
theorem ok_size {P : Program} {w : World} {K : PySem.W.Frag} {mg : Str → Option Value} {base : Heap} (T : Tx K mg) (c : Cal P w K mg base 2 "bare_size" (spG A_bare)) : ∀ n, Cal P w K mg base (n + 2) "size_of" (spG (A_size n))
  | 0 => z_size_of T fun xs W ⟨i, _, ⟨_, _, h⟩, _⟩ => absurd h (Nat.not_lt_zero _)
  | n + 1 => st_size_of T c (ok_size T c n) (by omega)
end JR
set_option pp.maxSteps 2500
set_option Elab.async false
set_option linter.all false
set_option maxRecDepth 100000
set_option maxHeartbeats 2000000
namespace JR
open PySem PySem.Spec L2 RZ
local macro_rules
  | `(tactic| walk_at "s") => `(tactic| first
    | ((with_reducible apply ev_var); exact rfl) | with_reducible refine ev_isiI ?_ | with_reducible refine ev_isiB ?_ | with_reducible refine ev_isiT ?_ | with_reducible refine ev_isiS ?_ | ((with_reducible refine st_append ?_ ?_); rotate_left; exact ⟨_, rfl⟩) | ((with_reducible apply st_pop); exact rfl) | ((with_reducible apply et_ownNe); exact rfl) | ((with_reducible apply op_i); exact rfl) | ((with_reducible apply it_rgV); exact rfl) | ((with_reducible apply op_inW); exact rfl) | ((with_reducible apply op_ixT); exact rfl) | ((with_reducible apply op_ixL); exact rfl) | ((with_reducible refine And.intro (le_lit ?_) ?_); exact rfl) | ((with_reducible apply op_b); exact rfl) | ((with_reducible apply tc_name); decide) | ((with_reducible apply tc_tup); exact rfl) | ((with_reducible apply tg_tup); exact rfl) | ((with_reducible apply tg_tupD); exact rfl) | ((with_reducible apply tc_tupD); exact rfl)
    | with_reducible refine st_seq ?_ | with_reducible refine st_ret ?_ | with_reducible refine st_next ?_ | with_reducible refine st_if ?_ | with_reducible refine st_par_own2 ?_ | with_reducible refine st_par_own ?_ | with_reducible refine st_rng ?_ | with_reducible refine st_par ?_ | with_reducible refine st_own ?_ | with_reducible refine st_asg ?_ | with_reducible refine st_unpack ?_ | with_reducible refine st_drop ?_ | with_reducible refine st_break ?_ | with_reducible refine ev_int ?_ | with_reducible refine ev_str ?_ | with_reducible refine ev_bl ?_ | with_reducible refine ev_non ?_ | with_reducible refine ev_op ?_ | with_reducible refine ev_un ?_ | with_reducible refine ev_if ?_ | with_reducible refine ev_andV ?_ | with_reducible refine ev_orV ?_ | with_reducible refine ev_notV ?_ | with_reducible refine ev_tup ?_ | with_reducible refine ev_lst ?_ | with_reducible refine ea_nil ?_ | with_reducible refine ea_cons ?_ | with_reducible refine ev_call ?_ | with_reducible refine ev_callN ?_ | with_reducible refine ev_cb ?_ | with_reducible refine ev_sl ?_ | with_reducible refine eo_none ?_ | with_reducible refine eo_some ?_ | with_reducible refine ev_revL ?_ | with_reducible refine ev_revT ?_ | with_reducible refine evn_lrg ?_ | with_reducible refine ev_bmT ?_ | with_reducible refine et_test ?_ | with_reducible refine et_B ?_ | with_reducible refine et_and ?_ | with_reducible refine et_or ?_ | with_reducible refine et_not ?_ | with_reducible refine et_yes ?_ | with_reducible refine ev_chain ?_ | with_reducible refine op_eqI ?_ | with_reducible refine op_neI ?_ | with_reducible refine op_eqS ?_ | with_reducible refine op_neS ?_ | with_reducible refine op_eqB ?_ | with_reducible refine op_neB ?_ | with_reducible refine op_inIn ?_ | with_reducible refine ud_neg ?_ | with_reducible refine op_is ?_ | with_reducible refine op_isnt ?_ | with_reducible refine cb_lenL ?_ | with_reducible refine cb_lenT ?_ | with_reducible refine cb_listT ?_ | with_reducible refine cb_listL ?_ | with_reducible refine cb_tupL ?_ | with_reducible refine cb_int ?_ | with_reducible refine cb_max2 ?_ | with_reducible refine cb_min2 ?_ | with_reducible refine it_list ?_ | with_reducible refine it_tup ?_ | with_reducible refine itn_1 ?_ | with_reducible refine it_rng2 ?_ | with_reducible refine it_rev ?_ | with_reducible refine itn_rev ?_ | with_reducible refine it_enum ?_ | with_reducible refine it_enumT ?_ | with_reducible refine it_zipT ?_ | with_reducible refine tcs_cons ?_ | with_reducible refine tcs_nil ?_ | with_reducible refine tg_name ?_ | with_reducible refine tgs_cons ?_ | with_reducible refine tgs_nil ?_
    | with_reducible refine ⟨_, rfl, ?_⟩
    | with_reducible refine ⟨_, _, rfl, ?_⟩
    | refine and_T ?_ | refine and_F ?_)
  | `(tactic| walk_at "d") => `(tactic| repeat walk_at "s")
/-! ### a sort within the bounds -/
def A_need_sort : AD := fnA (fun p : Nat × Bool × Int × List Int => [.int (p.1 : Nat), sortE p.2.1 p.2.2.1 p.2.2.2]) (fun p => (2 ≤ p.1 ∧ p.1 ≤ 4) ∧ SrtOk p.2.2.1 p.2.2.2 ∧ p.2.2.1 + p.2.2.2.sum ≤ 12) fun p => sortE p.2.1 p.2.2.1 p.2.2.2
theorem use_need_sort {m : Nat} {sg : Bool} {x : Int} {ns : List Int} {W : PyData → Prop} (h0 : 2 ≤ m ∧ m ≤ 4) (h1 : SrtOk x ns) (h2 : x + ns.sum ≤ 12) (q : W (sortE sg x ns)) : A_need_sort [.int (m : Nat), sortE sg x ns] W := ⟨(m, sg, x, ns), rfl, ⟨h0, h1, h2⟩, q⟩
theorem sc_need_sort : FnScope ["many", "value"] ["many", "value"] (defScope s_need_sort) := ⟨rfl, rfl, rfl, by decide +kernel, rfl, by decide +kernel, by decide +kernel⟩
theorem ok_need_sort {P : Program} {w : World} {K : PySem.W.Frag} {mg : Str → Option Value} {base : Heap}  (T : Tx K mg) (c_need_many : Cal P w K mg base 2 "need_many" (spG A_need_many)) (c_walked : Cal P w K mg base 6 "walked" (spG (A_walked 4))) (c_marks_of : Cal P w K mg base 4 "marks_of" (spG (A_marks 4))) (c_width_of : Cal P w K mg base 4 "width_of" (spG (A_width 4))) (c_size_of : Cal P w K mg base 6 "size_of" (spG (A_size 4)))  : Cal P w K mg base 7 "need_sort" (spG A_need_sort) := by
  obtain ⟨fd, F⟩ := T.sd.def_ 10 (d := d_need_sort) rfl
  have S := sc_need_sort
  refine ⟨⟨fd, ["many", "value"], ok_pure (k := 6) F S (fnA_len fun _ => rfl) (fun cd Ar outer s H E xs W hr h => ?_), F.bindsN fun _ _ _ _ _ _ us hl => match us, hl with | [_, _], _ => rfl⟩, T.g 10, F.kp⟩
  obtain ⟨⟨m, sg, x, ns⟩, e, pr, h⟩ := h
  subst e
  refine ⟨_, (pss_cons (ps_expr (pe_cl c_need_many hr (by omega) (by rfl) (pa_cons (pv 0) pa_nil))) (pss_cons (ps_expr (pe_cl c_walked hr (by omega) (by rfl) (pa_cons (pv 1) (pa_cons (pe_tupZ pa_nil) (pa_cons pe_int (pa_cons pe_int pa_nil)))))) (pss_cons (ps_if (pt_cmpR op_gt (pe_cl c_marks_of hr (by omega) (by rfl) (pa_cons (pv 0) (pa_cons (pv 1) pa_nil))) (T.pi 88 (by rfl)) (nomark _)) (pss_one ps_never) pss_nil) (pss_cons (ps_if (pt_cmpR op_gt (pe_cl c_width_of hr (by omega) (by rfl) (pa_cons (pv 1) pa_nil)) (T.pi 89 (by rfl)) (nomark _)) (pss_one ps_never) pss_nil) (pss_cons (ps_expr (pe_cl c_size_of hr (by omega) (by rfl) (pa_cons (pv 0) (pa_cons (pv 1) pa_nil)))) (pss_one (ps_ret (pv 1)))))))), ?_⟩
  show StD none _ _ [Ent.dat _, Ent.dat _]
  try dsimp only at h pr ⊢
  obtain ⟨h0, h1, h2⟩ := pr
  have h3 := h1.2.2
  walk_at "d"
  refine use_need_many (by omega) ?_
  walk_at "d"
  refine use_walked (ps := []) (dp := 1) (mt := 0) h1 (by omega) (by decide) (by omega) (by show ns.length + 4 + 0 ≤ 20; omega) (by omega) (by omega) ?_
  walk_at "d"
  refine use_marks h1 (by omega) ?_
  walk_at "d"
  refine brF (decide_eq_false (by omega)) ?_
  walk_at "d"
  refine use_width h1 (by omega) ?_
  walk_at "d"
  refine brF (decide_eq_false (by omega)) ?_
  walk_at "d"
  refine use_size h0.2 h1 (by omega) fun z q1 q2 => ?_
  walk_at "d"
  exact h
/-! ### slices by numbers -/
theorem cut_from {α : Type} (xs : List α) (k : Nat) : cutD xs (some (k : Int)) none = xs.drop k := by
  unfold cutD
  rw [HT.sIx_nat, HT.sIx_none]
  by_cases h : k ≤ xs.length
  · rw [Nat.min_eq_left h, List.take_of_length_le (by rw [List.length_drop]; omega)]
  · rw [Nat.min_eq_right (by omega), List.drop_length, List.drop_eq_nil_of_le (by omega), List.take_nil]
theorem cut_to {α : Type} (xs : List α) (k : Nat) : cutD xs none (some (k : Int)) = xs.take k := by
  unfold cutD
  rw [HT.sIx_nat, HT.sIx_none, List.drop_zero, Nat.sub_zero]
  by_cases h : k ≤ xs.length
  · rw [Nat.min_eq_left h]
  · rw [Nat.min_eq_right (by omega), List.take_of_length_le (by omega), List.take_of_length_le (by omega)]
/-! ### letters -/
structure LetOk (sg : Bool) (n : Nat) (m : List Int) : Prop where
  inb : ∀ v ∈ m, 0 ≤ v ∧ v ≤ (n : Int) - 1
  up : ∀ (i : Nat) (a b : Int), m[i]? = some a → m[i + 1]? = some b → a < b ∨ (sg = false ∧ a = b)
  few : m.length ≤ 12
def A_rising : AD := fnA (fun p : Bool × Nat × List Int => [iv p.2.2, .bool (!p.1)]) (fun p => LetOk p.1 p.2.1 p.2.2) fun _ => .bool true
theorem use_rising {sg : Bool} {n : Nat} {m : List Int} {W : PyData → Prop} (h : LetOk sg n m) (q : W (.bool true)) : A_rising [iv m, .bool (!sg)] W := ⟨(sg, n, m), rfl, h, q⟩
theorem sc_rising : FnScope ["things", "again", "first", "second"] ["things", "again"] (defScope s_rising) := ⟨rfl, rfl, rfl, by decide +kernel, rfl, by decide +kernel, by decide +kernel⟩
theorem ok_rising {P : Program} {w : World} {K : PySem.W.Frag} {mg : Str → Option Value} {base : Heap}  (T : Tx K mg)   : Cal P w K mg base 1 "rising" (spG A_rising) := by
  obtain ⟨fd, F⟩ := T.sd.def_ 11 (d := d_rising) rfl
  have S := sc_rising
  refine ⟨⟨fd, ["things", "again"], ok_pure (k := 0) F S (fnA_len fun _ => rfl) (fun cd Ar outer s H E xs W hr h => ?_), F.bindsN fun _ _ _ _ _ _ us hl => match us, hl with | [_, _], _ => rfl⟩, T.g 11, F.kp⟩
  obtain ⟨⟨sg, n, m⟩, e, pr, h⟩ := h
  subst e
  refine ⟨_, (pss_cons (ps_for PassesOwn.never rfl (pi_zipA (by rfl) (T.n 81) (pa_cons (pv 0) (pa_cons (pe_slice sl_tupZ (pv 0) (po_some pe_int) po_none) pa_nil))) (pg_tup (by rfl) (pgs_cons (pg_name (i := 2) S.nd rfl (by first | exact Or.inl rfl | exact Or.inr rfl)) (pgs_cons (pg_name (i := 3) S.nd rfl (by first | exact Or.inl rfl | exact Or.inr rfl)) pgs_nil))) (pss_one (ps_if (PW.pt (pw_and (pt_not (pt_cmpR op_lt (pv 2) (pv 3) (nomark _))) (pw_and1 (pt_not (PW.pt (pw_and (pt_val (pv 1)) (pw_and1 (pt_cmpR op_eq (pv 2) (pv 3) (nomark _))))))))) (pss_one (ps_ret pe_bl)) pss_nil))) (pss_one (ps_ret pe_bl))), ?_⟩
  show StD none _ _ [Ent.dat _, Ent.dat _, Ent.no, Ent.no]
  try dsimp only at h pr ⊢
  have few := pr.few
  walk_at "d"
  refine st_for (Pd := DaP) ?_
  walk_at "d"
  refine sd_tup ?_
  walk_at "d"
  have ec : cutD (m.map PyData.int) (some (1 : Int)) none = (m.drop 1).map PyData.int := (cut_from (m.map PyData.int) 1).trans (by rw [List.map_drop])
  rw [ec]
  walk_at "d"
  refine ⟨fun i ds => ∃ e e', ds = [Ent.dat (iv m), Ent.dat (.bool (!sg)), e, e'], ⟨_, _, rfl⟩, fun i d ds2 e1 iv2 => ?_, fun ds2 iv2 => ?_⟩
  · obtain ⟨e, e', rfl⟩ := iv2
    obtain ⟨p, hp, rfl⟩ := map_at e1
    obtain ⟨p1, p2⟩ := zip_at hp
    obtain ⟨a, ea, q1⟩ := map_at p1
    obtain ⟨b, eb, q2⟩ := map_at p2
    rw [q1, q2]
    rw [List.getElem?_drop, Nat.add_comm] at eb
    have up := pr.up i a b ea eb
    walk_at "d"
    refine ⟨fun e => ?_, fun e => ?_⟩
    · have nl : ¬ a < b := by
        intro z
        rw [decide_eq_true z] at e
        cases e
      obtain ⟨s1, s2⟩ := up.resolve_left nl
      subst s1 s2
      walk_at "d"
      refine brF (by rw [decide_eq_true rfl]; rfl) ?_
      walk_at "d"
      exact ⟨_, _, rfl⟩
    · walk_at "d"
      exact ⟨_, _, rfl⟩
  · obtain ⟨e, e', rfl⟩ := iv2
    walk_at "d"
    exact h
/-! ### what is like a member -/
def oneE : PyData := .tuple [.str "one"]
def A_ml1 : AD := fnA (fun p : Nat × Int => [.int (p.1 : Nat), .tuple [.str "one"], .int p.2]) (fun p => 0 ≤ p.2 ∧ p.2 ≤ (p.1 : Int) - 1) fun _ => .bool true
theorem sc_member_like : FnScope ["many", "sort", "value", "word"] ["many", "sort", "value"] (defScope s_member_like) := ⟨rfl, rfl, rfl, by decide +kernel, rfl, by decide +kernel, by decide +kernel⟩
theorem ok_ml1 {P : Program} {w : World} {K : PySem.W.Frag} {mg : Str → Option Value} {base : Heap}  (T : Tx K mg) (c_is_from : Cal P w K mg base 1 "is_from" (spG A_is_from))  : Cal P w K mg base 2 "member_like" (spG A_ml1) := by
  obtain ⟨fd, F⟩ := T.sd.def_ 13 (d := d_member_like) rfl
  have S := sc_member_like
  refine ⟨⟨fd, ["many", "sort", "value"], ok_pure (k := 1) F S (fnA_len fun _ => rfl) (fun cd Ar outer s H E xs W hr h => ?_), F.bindsN fun _ _ _ _ _ _ us hl => match us, hl with | [_, _, _], _ => rfl⟩, T.g 13, F.kp⟩
  obtain ⟨⟨n, v⟩, e, pr, h⟩ := h
  subst e
  refine ⟨_, (pss_cons (ps_set (i := 3) S.nd rfl (by first | exact Or.inl rfl | exact Or.inr rfl) (pe_ix ix_tup (pv 1) pe_int fun _ _ => rfl)) (pss_cons (ps_if (pt_cmpR op_eq (pv 3) pe_str (nomark _)) (pss_one (ps_ret (pe_cl c_is_from hr (by omega) (by rfl) (pa_cons (pv 2) (pa_cons pe_int (pa_cons (pe_op op_sub (pv 0) pe_int) pa_nil)))))) pss_nil) (pss_cons ps_never (pss_cons ps_never (pss_cons ps_never (pss_cons ps_never (pss_cons ps_never (pss_cons ps_never (pss_cons ps_never (pss_one ps_never)))))))))), ?_⟩
  show StD none _ _ [Ent.dat _, Ent.dat _, Ent.dat _, Ent.no]
  try dsimp only at h pr ⊢
  walk_at "d"
  refine use_in pr ?_
  walk_at "d"
  exact h
def A_all : AD := fnA (fun p : Bool × Nat × List Int => [.int (p.2.1 : Nat), .tuple [.str "one"], iv p.2.2]) (fun p => LetOk p.1 p.2.1 p.2.2) fun _ => .bool true
theorem use_all {sg : Bool} {n : Nat} {m : List Int} {W : PyData → Prop} (h : LetOk sg n m) (q : W (.bool true)) : A_all [.int (n : Nat), .tuple [.str "one"], iv m] W := ⟨(sg, n, m), rfl, h, q⟩
theorem sc_all_like : FnScope ["many", "sort", "value", "thing"] ["many", "sort", "value"] (defScope s_all_like) := ⟨rfl, rfl, rfl, by decide +kernel, rfl, by decide +kernel, by decide +kernel⟩
theorem ok_all_like {P : Program} {w : World} {K : PySem.W.Frag} {mg : Str → Option Value} {base : Heap}  (T : Tx K mg) (c_member_like : Cal P w K mg base 2 "member_like" (spG A_ml1))  : Cal P w K mg base 3 "all_like" (spG A_all) := by
  obtain ⟨fd, F⟩ := T.sd.def_ 12 (d := d_all_like) rfl
  have S := sc_all_like
  refine ⟨⟨fd, ["many", "sort", "value"], ok_pure (k := 2) F S (fnA_len fun _ => rfl) (fun cd Ar outer s H E xs W hr h => ?_), F.bindsN fun _ _ _ _ _ _ us hl => match us, hl with | [_, _, _], _ => rfl⟩, T.g 12, F.kp⟩
  obtain ⟨⟨sg, n, m⟩, e, pr, h⟩ := h
  subst e
  refine ⟨_, (pss_cons (ps_for PassesOwn.never rfl (pi_tup (pv 2)) (pg_name (i := 3) S.nd rfl (by first | exact Or.inl rfl | exact Or.inr rfl)) (pss_one (ps_if (pt_not (pt_val (pe_cl c_member_like hr (by omega) (by rfl) (pa_cons (pv 0) (pa_cons (pv 1) (pa_cons (pv 3) pa_nil)))))) (pss_one (ps_ret pe_bl)) pss_nil))) (pss_one (ps_ret pe_bl))), ?_⟩
  show StD none _ _ [Ent.dat _, Ent.dat _, Ent.dat _, Ent.no]
  try dsimp only at h pr ⊢
  walk_at "d"
  refine st_for (Pd := Da) ?_
  walk_at "d"
  refine ⟨fun i ds => ∃ e, ds = [Ent.dat (.int n), Ent.dat (.tuple [.str "one"]), Ent.dat (iv m), e], ⟨_, rfl⟩, fun i d ds2 e1 iv2 => ?_, fun ds2 iv2 => ?_⟩
  · obtain ⟨e, rfl⟩ := iv2
    obtain ⟨v, hv, rfl⟩ := map_at e1
    walk_at "d"
    refine ⟨(n, v), rfl, pr.inb v (List.mem_of_getElem? hv), ?_⟩
    walk_at "d"
    exact ⟨_, rfl⟩
  · obtain ⟨e, rfl⟩ := iv2
    walk_at "d"
    exact h
/-- the lengths of a member's parts -/
def lens (ms : List (List Int)) : List Int := ms.map fun l => (l.length : Int)
structure MemOk (sg : Bool) (n : Nat) (m : List Int) (ms : List (List Int)) : Prop where
  hd : LetOk sg n m
  tl : ∀ l ∈ ms, LetOk sg n l
  few : ms.length ≤ 3
  tot : (m.length : Int) + (lens ms).sum ≤ 12
  nb : 2 ≤ n ∧ n ≤ 4
theorem lens_nn : ∀ ms : List (List Int), 0 ≤ (lens ms).sum
  | [] => Int.le_refl 0
  | l :: ms => by
    have := lens_nn ms
    show 0 ≤ ((l.length : Int) :: lens ms).sum
    rw [List.sum_cons]
    omega
theorem MemOk.tail {sg : Bool} {n : Nat} {m m' : List Int} {ms : List (List Int)} (h : MemOk sg n m (m' :: ms)) : MemOk sg n m' ms := ⟨h.tl m' List.mem_cons_self, fun l hl => h.tl l (List.mem_cons_of_mem _ hl), by
  have := h.few
  rw [List.length_cons] at this
  omega, by
  have q : (m.length : Int) + ((m'.length : Int) :: lens ms).sum ≤ 12 := h.tot
  rw [List.sum_cons] at q
  omega, h.nb⟩
theorem MemOk.srt {sg : Bool} {n : Nat} {m : List Int} {ms : List (List Int)} (h : MemOk sg n m ms) : SrtOk (m.length : Int) (lens ms) := ⟨⟨by omega, by have := h.hd.few; omega⟩, fun y hy => by
  obtain ⟨l, hl, rfl⟩ := List.mem_map.mp hy
  have := (h.tl l hl).few
  omega, by
  unfold lens
  rw [List.length_map]
  exact h.few⟩
abbrev sortM (sg : Bool) (m : List Int) (ms : List (List Int)) : PyData := sortE sg (m.length : Int) (lens ms)
def A_ml (n : Nat) : AD := fnA (fun p : Bool × Nat × List Int × List (List Int) => [.int (p.2.1 : Nat), sortM p.1 p.2.2.1 p.2.2.2, memE p.2.2.1 p.2.2.2]) (fun p => MemOk p.1 p.2.1 p.2.2.1 p.2.2.2 ∧ p.2.2.2.length < n) fun _ => .bool true
theorem use_ml {k n : Nat} {sg : Bool} {m : List Int} {ms : List (List Int)} {W : PyData → Prop} (h : MemOk sg n m ms) (h1 : ms.length < k) (q : W (.bool true)) : A_ml k [.int (n : Nat), sortM sg m ms, memE m ms] W := ⟨(sg, n, m, ms), rfl, ⟨h, h1⟩, q⟩
theorem MemOk.leaf {sg : Bool} {n : Nat} {m : List Int} {ms : List (List Int)} (h : MemOk sg n m ms) : MemOk sg n m [] := ⟨h.hd, fun l hl => absurd hl List.not_mem_nil, Nat.zero_le _, by
  have := h.hd.few
  show (m.length : Int) + 0 ≤ 12
  omega, h.nb⟩
theorem z_member_like {P : Program} {w : World} {K : PySem.W.Frag} {mg : Str → Option Value} {base : Heap} {k : Nat} (T : Tx K mg) {A : AD} (no : ∀ xs W, ¬ A xs W) : Cal P w K mg base k "member_like" (spG A) := by
  obtain ⟨fd, F⟩ := T.sd.def_ 13 (d := d_member_like) rfl
  exact ⟨⟨fd, ["many", "sort", "value"], ⟨fun vs H Q E ⟨_, xs, W, _, _, h, _⟩ => (no xs W h).elim, fun _ _ _ _ _ _ _ _ _ _ _ _ _ ⟨_, xs, W, _, _, h, _⟩ => (no xs W h).elim⟩, F.bindsN fun _ _ _ _ _ _ us hl => match us, hl with | [_, _, _], _ => rfl⟩, T.g 13, F.kp⟩
theorem st_ml {P : Program} {w : World} {K : PySem.W.Frag} {mg : Str → Option Value} {base : Heap} {j n : Nat} (T : Tx K mg) (c_is_from : Cal P w K mg base 1 "is_from" (spG A_is_from)) (c_all_like : Cal P w K mg base 3 "all_like" (spG A_all)) (c_rising : Cal P w K mg base 1 "rising" (spG A_rising)) (c_member_like : Cal P w K mg base j "member_like" (spG (A_ml n))) (hj : 3 ≤ j) : Cal P w K mg base (j + 1) "member_like" (spG (A_ml (n + 1))) := by
  obtain ⟨fd, F⟩ := T.sd.def_ 13 (d := d_member_like) rfl
  have S := sc_member_like
  refine ⟨⟨fd, ["many", "sort", "value"], ok_pure (k := j) F S (fnA_len fun _ => rfl) (fun cd Ar outer s H E xs W hr h => ?_), F.bindsN fun _ _ _ _ _ _ us hl => match us, hl with | [_, _, _], _ => rfl⟩, T.g 13, F.kp⟩
  obtain ⟨⟨sg, nn, m, ms⟩, e, pr, h⟩ := h
  subst e
  refine ⟨_, (pss_cons (ps_set (i := 3) S.nd rfl (by first | exact Or.inl rfl | exact Or.inr rfl) (pe_ix ix_tup (pv 1) pe_int fun _ _ => rfl)) (pss_cons (ps_if (pt_cmpR op_eq (pv 3) pe_str (nomark _)) (pss_one (ps_ret (pe_cl c_is_from hr (by omega) (by rfl) (pa_cons (pv 2) (pa_cons pe_int (pa_cons (pe_op op_sub (pv 0) pe_int) pa_nil)))))) pss_nil) (pss_cons (ps_if (pt_cmpR op_in_seq (pv 3) (pe_tupZ (pa_cons pe_str (pa_cons pe_str pa_nil))) (by with_unfolding_all rfl)) (pss_one (ps_ret (pe_ifExp (pt_cmpR op_eq (pv 3) pe_str (nomark _)) pe_nv pe_nv))) pss_nil) (pss_cons (ps_if (PW.pt (pw_or (pt_cmpR op_eq (pv 3) pe_str (nomark _)) (pw_or1 (pt_not (pt_val (pe_callB call_isi (by rfl) (T.n 71) (by decide +kernel) (pa_cons (pv 2) (pa_cons (pe_bltn (v := .ty "tuple") (by rfl) (T.n 72) (by decide +kernel) rfl) pa_nil)))))))) (pss_one (ps_ret pe_bl)) pss_nil) (pss_cons (ps_if (pt_cmpR op_in_seq (pv 3) (pe_tupZ (pa_cons pe_str (pa_cons pe_str pa_nil))) (by with_unfolding_all rfl)) (pss_one (ps_ret (pe_and (pe_cmpR op_eq (pe_callB call_len_seq (by rfl) (T.n 69) (by decide +kernel) (pa_cons (pv 2) pa_nil)) (pe_ix ix_tup (pv 1) pe_int fun _ _ => rfl) (nomark _)) (pe_and (pe_cl c_all_like hr (by omega) (by rfl) (pa_cons (pv 0) (pa_cons (pe_tupZ (pa_cons pe_str pa_nil)) (pa_cons (pv 2) pa_nil)))) (pe_one (pe_cl c_rising hr (by omega) (by rfl) (pa_cons (pv 2) (pa_cons (pe_cmpR op_eq (pv 3) pe_str (nomark _)) pa_nil)))))))) pss_nil) (pss_cons (ps_if (pt_cmpR op_eq (pv 3) pe_str (nomark _)) (pss_one (ps_ret pe_nv)) pss_nil) (pss_cons (ps_if (pt_cmpR op_eq (pv 3) pe_str (nomark _)) (pss_one (ps_ret (pe_and (pe_cmpR op_eq (pe_callB call_len_seq (by rfl) (T.n 69) (by decide +kernel) (pa_cons (pv 2) pa_nil)) pe_int (nomark _)) (pe_and (pe_cl c_is_from hr (by omega) (by rfl) (pa_cons (pe_ix ix_tup (pv 2) pe_int fun _ _ => rfl) (pa_cons pe_int (pa_cons pe_int pa_nil)))) (pe_one (pe_cl c_member_like hr (by omega) (by rfl) (pa_cons (pv 0) (pa_cons (pe_ix ix_tup (pv 1) (pe_op op_add pe_int (pe_ix ix_tup (pv 2) pe_int fun _ _ => rfl)) fun _ _ => rfl) (pa_cons (pe_ix ix_tup (pv 2) pe_int fun _ _ => rfl) pa_nil))))))))) pss_nil) (pss_cons (ps_if (pt_cmpR op_eq (pv 3) pe_str (nomark _)) (pss_one (ps_ret (pe_and (pe_cmpR op_eq (pe_callB call_len_seq (by rfl) (T.n 69) (by decide +kernel) (pa_cons (pv 2) pa_nil)) pe_int (nomark _)) (pe_and (pe_cl c_member_like hr (by omega) (by rfl) (pa_cons (pv 0) (pa_cons (pe_ix ix_tup (pv 1) pe_int fun _ _ => rfl) (pa_cons (pe_ix ix_tup (pv 2) pe_int fun _ _ => rfl) pa_nil)))) (pe_one (pe_cl c_member_like hr (by omega) (by rfl) (pa_cons (pv 0) (pa_cons (pe_ix ix_tup (pv 1) pe_int fun _ _ => rfl) (pa_cons (pe_ix ix_tup (pv 2) pe_int fun _ _ => rfl) pa_nil))))))))) pss_nil) (pss_cons (ps_if (PW.pt (pw_or (pt_cmpR op_ne (pe_callB call_len_seq (by rfl) (T.n 69) (by decide +kernel) (pa_cons (pv 2) pa_nil)) (pe_ix ix_tup (pv 1) pe_int fun _ _ => rfl) (nomark _)) (pw_or1 (pt_not pt_nv)))) (pss_one (ps_ret pe_bl)) pss_nil) (pss_one (ps_ret (pe_or (pe_cmpR op_eq (pv 3) pe_str (nomark _)) (pe_one (pe_cl c_rising hr (by omega) (by rfl) (pa_cons (pv 2) (pa_cons (pe_cmpR op_eq (pv 3) pe_str (nomark _)) pa_nil)))))))))))))))), ?_⟩
  show StD none _ _ [Ent.dat _, Ent.dat _, Ent.dat _, Ent.no]
  try dsimp only at h pr ⊢
  obtain ⟨h1, h2⟩ := pr
  cases ms with
  | nil =>
    cases sg with
    | true =>
      show StD none _ _ [Ent.dat (.int (nn : Nat)), Ent.dat (.tuple [.str "subset", .int (m.length : Int)]), Ent.dat (iv m), Ent.no]
      walk_at "d"
      rw [List.length_map]
      refine brT (decide_eq_true rfl) ?_
      walk_at "d"
      refine use_all h1.hd ?_
      walk_at "d"
      refine use_rising (sg := true) h1.hd ?_
      exact h
    | false =>
      show StD none _ _ [Ent.dat (.int (nn : Nat)), Ent.dat (.tuple [.str "bag", .int (m.length : Int)]), Ent.dat (iv m), Ent.no]
      walk_at "d"
      rw [List.length_map]
      refine brT (decide_eq_true rfl) ?_
      walk_at "d"
      refine use_all h1.hd ?_
      walk_at "d"
      refine use_rising (sg := false) h1.hd ?_
      exact h
  | cons m' ms =>
    rw [List.length_cons] at h2
    show StD none _ _ [Ent.dat (.int (nn : Nat)), Ent.dat (.tuple [.str "pair", leafE sg m.length, sortM sg m' ms]), Ent.dat (.tuple [iv m, memE m' ms]), Ent.no]
    walk_at "d"
    refine use_ml (ms := []) h1.leaf (by show 0 < n; omega) ?_
    walk_at "d"
    refine use_ml h1.tail (by omega) ?_
    exact h
theorem ok_ml {P : Program} {w : World} {K : PySem.W.Frag} {mg : Str → Option Value} {base : Heap} (T : Tx K mg) (c1 : Cal P w K mg base 1 "is_from" (spG A_is_from)) (c2 : Cal P w K mg base 3 "all_like" (spG A_all)) (c3 : Cal P w K mg base 1 "rising" (spG A_rising)) : ∀ n, Cal P w K mg base (n + 3) "member_like" (spG (A_ml n))
  | 0 => z_member_like T fun xs W ⟨i, _, ⟨_, h⟩, _⟩ => absurd h (Nat.not_lt_zero _)
  | n + 1 => st_ml T c1 c2 c3 (ok_ml T c1 c2 c3 n) (by omega)

end JR
set_option pp.maxSteps 2500
set_option Elab.async false
set_option linter.all false
set_option maxRecDepth 100000
set_option maxHeartbeats 2000000
namespace JR
open PySem PySem.Spec L2 RZ
local macro_rules
  | `(tactic| walk_at "s") => `(tactic| first
    | ((with_reducible apply ev_var); exact rfl) | with_reducible refine ev_isiI ?_ | with_reducible refine ev_isiB ?_ | with_reducible refine ev_isiT ?_ | with_reducible refine ev_isiS ?_ | ((with_reducible refine st_append ?_ ?_); rotate_left; exact ⟨_, rfl⟩) | ((with_reducible apply st_pop); exact rfl) | ((with_reducible apply et_ownNe); exact rfl) | ((with_reducible apply op_i); exact rfl) | ((with_reducible apply it_rgV); exact rfl) | ((with_reducible apply op_inW); exact rfl) | ((with_reducible apply op_ixT); exact rfl) | ((with_reducible apply op_ixL); exact rfl) | ((with_reducible refine And.intro (le_lit ?_) ?_); exact rfl) | ((with_reducible apply op_b); exact rfl) | ((with_reducible apply tc_name); decide) | ((with_reducible apply tc_tup); exact rfl) | ((with_reducible apply tg_tup); exact rfl) | ((with_reducible apply tg_tupD); exact rfl) | ((with_reducible apply tc_tupD); exact rfl)
    | with_reducible refine st_seq ?_ | with_reducible refine st_ret ?_ | with_reducible refine st_next ?_ | with_reducible refine st_if ?_ | with_reducible refine st_par_own2 ?_ | with_reducible refine st_par_own ?_ | with_reducible refine st_rng ?_ | with_reducible refine st_par ?_ | with_reducible refine st_own ?_ | with_reducible refine st_asg ?_ | with_reducible refine st_unpack ?_ | with_reducible refine st_drop ?_ | with_reducible refine st_break ?_ | with_reducible refine ev_int ?_ | with_reducible refine ev_str ?_ | with_reducible refine ev_bl ?_ | with_reducible refine ev_non ?_ | with_reducible refine ev_op ?_ | with_reducible refine ev_un ?_ | with_reducible refine ev_if ?_ | with_reducible refine ev_andV ?_ | with_reducible refine ev_orV ?_ | with_reducible refine ev_notV ?_ | with_reducible refine ev_tup ?_ | with_reducible refine ev_lst ?_ | with_reducible refine ea_nil ?_ | with_reducible refine ea_cons ?_ | with_reducible refine ev_call ?_ | with_reducible refine ev_callN ?_ | with_reducible refine ev_cb ?_ | with_reducible refine ev_sl ?_ | with_reducible refine eo_none ?_ | with_reducible refine eo_some ?_ | with_reducible refine ev_revL ?_ | with_reducible refine ev_revT ?_ | with_reducible refine evn_lrg ?_ | with_reducible refine ev_bmT ?_ | with_reducible refine et_test ?_ | with_reducible refine et_B ?_ | with_reducible refine et_and ?_ | with_reducible refine et_or ?_ | with_reducible refine et_not ?_ | with_reducible refine et_yes ?_ | with_reducible refine ev_chain ?_ | with_reducible refine op_eqI ?_ | with_reducible refine op_neI ?_ | with_reducible refine op_eqS ?_ | with_reducible refine op_neS ?_ | with_reducible refine op_eqB ?_ | with_reducible refine op_neB ?_ | with_reducible refine op_inIn ?_ | with_reducible refine ud_neg ?_ | with_reducible refine op_is ?_ | with_reducible refine op_isnt ?_ | with_reducible refine cb_lenL ?_ | with_reducible refine cb_lenT ?_ | with_reducible refine cb_listT ?_ | with_reducible refine cb_listL ?_ | with_reducible refine cb_tupL ?_ | with_reducible refine cb_int ?_ | with_reducible refine cb_max2 ?_ | with_reducible refine cb_min2 ?_ | with_reducible refine it_list ?_ | with_reducible refine it_tup ?_ | with_reducible refine itn_1 ?_ | with_reducible refine it_rng2 ?_ | with_reducible refine it_rev ?_ | with_reducible refine itn_rev ?_ | with_reducible refine it_enum ?_ | with_reducible refine it_enumT ?_ | with_reducible refine it_zipT ?_ | with_reducible refine tcs_cons ?_ | with_reducible refine tcs_nil ?_ | with_reducible refine tg_name ?_ | with_reducible refine tgs_cons ?_ | with_reducible refine tgs_nil ?_
    | with_reducible refine ⟨_, rfl, ?_⟩
    | with_reducible refine ⟨_, _, rfl, ?_⟩
    | refine and_T ?_ | refine and_F ?_)
  | `(tactic| walk_at "d") => `(tactic| repeat walk_at "s")
def A_is_member : AD := fnA (fun p : Bool × Nat × List Int × List (List Int) => [.int (p.2.1 : Nat), sortM p.1 p.2.2.1 p.2.2.2, memE p.2.2.1 p.2.2.2]) (fun p => MemOk p.1 p.2.1 p.2.2.1 p.2.2.2) fun _ => .bool true
theorem sc_is_member : FnScope ["many", "sort", "value"] ["many", "sort", "value"] (defScope s_is_member) := ⟨rfl, rfl, rfl, by decide +kernel, rfl, by decide +kernel, by decide +kernel⟩
theorem ok_is_member {P : Program} {w : World} {K : PySem.W.Frag} {mg : Str → Option Value} {base : Heap}  (T : Tx K mg) (c_need_sort : Cal P w K mg base 7 "need_sort" (spG A_need_sort)) (c_member_like : Cal P w K mg base 7 "member_like" (spG (A_ml 4)))  : Cal P w K mg base 8 "is_member" (spG A_is_member) := by
  obtain ⟨fd, F⟩ := T.sd.def_ 14 (d := d_is_member) rfl
  have S := sc_is_member
  refine ⟨⟨fd, ["many", "sort", "value"], ok_pure (k := 7) F S (fnA_len fun _ => rfl) (fun cd Ar outer s H E xs W hr h => ?_), F.bindsN fun _ _ _ _ _ _ us hl => match us, hl with | [_, _, _], _ => rfl⟩, T.g 14, F.kp⟩
  obtain ⟨⟨sg, n, m, ms⟩, e, pr, h⟩ := h
  subst e
  refine ⟨_, (pss_one (ps_ret (pe_cl c_member_like hr (by omega) (by rfl) (pa_cons (pv 0) (pa_cons (pe_cl c_need_sort hr (by omega) (by rfl) (pa_cons (pv 0) (pa_cons (pv 1) pa_nil))) (pa_cons (pv 2) pa_nil)))))), ?_⟩
  show StD none _ _ [Ent.dat _, Ent.dat _, Ent.dat _]
  try dsimp only at h pr ⊢
  walk_at "d"
  refine use_need_sort pr.nb pr.srt pr.tot ?_
  walk_at "d"
  refine use_ml pr (by have := pr.few; omega) ?_
  exact h
def A_need_member : AD := fnA (fun p : Bool × Nat × List Int × List (List Int) => [.int (p.2.1 : Nat), sortM p.1 p.2.2.1 p.2.2.2, memE p.2.2.1 p.2.2.2]) (fun p => MemOk p.1 p.2.1 p.2.2.1 p.2.2.2) fun p => memE p.2.2.1 p.2.2.2
theorem sc_need_member : FnScope ["many", "sort", "value"] ["many", "sort", "value"] (defScope s_need_member) := ⟨rfl, rfl, rfl, by decide +kernel, rfl, by decide +kernel, by decide +kernel⟩
theorem ok_need_member {P : Program} {w : World} {K : PySem.W.Frag} {mg : Str → Option Value} {base : Heap}  (T : Tx K mg) (c_is_member : Cal P w K mg base 8 "is_member" (spG A_is_member))  : Cal P w K mg base 9 "need_member" (spG A_need_member) := by
  obtain ⟨fd, F⟩ := T.sd.def_ 15 (d := d_need_member) rfl
  have S := sc_need_member
  refine ⟨⟨fd, ["many", "sort", "value"], ok_pure (k := 8) F S (fnA_len fun _ => rfl) (fun cd Ar outer s H E xs W hr h => ?_), F.bindsN fun _ _ _ _ _ _ us hl => match us, hl with | [_, _, _], _ => rfl⟩, T.g 15, F.kp⟩
  obtain ⟨⟨sg, n, m, ms⟩, e, pr, h⟩ := h
  subst e
  refine ⟨_, (pss_cons (ps_if (pt_not (pt_val (pe_cl c_is_member hr (by omega) (by rfl) (pa_cons (pv 0) (pa_cons (pv 1) (pa_cons (pv 2) pa_nil)))))) (pss_one ps_never) pss_nil) (pss_one (ps_ret (pv 2)))), ?_⟩
  show StD none _ _ [Ent.dat _, Ent.dat _, Ent.dat _]
  try dsimp only at h pr ⊢
  walk_at "d"
  refine ⟨(sg, n, m, ms), rfl, pr, ?_⟩
  walk_at "d"
  exact h
/-- two names -/
structure TwoOk (n : Nat) (a b : Int) : Prop where
  la : 0 ≤ a ∧ a ≤ (n : Int) - 1
  lb : 0 ≤ b ∧ b ≤ (n : Int) - 1
  ne : a ≠ b
abbrev IMem : Type := (Bool × Nat × List Int × List (List Int)) × Int × Int
abbrev encM (p : IMem) : List PyData := [.int (p.1.2.1 : Nat), sortM p.1.1 p.1.2.2.1 p.1.2.2.2, memE p.1.2.2.1 p.1.2.2.2, .int p.2.1, .int p.2.2]
def preM (p : IMem) : Prop := MemOk p.1.1 p.1.2.1 p.1.2.2.1 p.1.2.2.2 ∧ TwoOk p.1.2.1 p.2.1 p.2.2
def A_need_two : AD := relA encM preM fun _ _ => True
theorem sc_need_two : FnScope ["many", "sort", "member", "name", "other"] ["many", "sort", "member", "name", "other"] (defScope s_need_two) := ⟨rfl, rfl, rfl, by decide +kernel, rfl, by decide +kernel, by decide +kernel⟩
theorem ok_need_two {P : Program} {w : World} {K : PySem.W.Frag} {mg : Str → Option Value} {base : Heap}  (T : Tx K mg) (c_need_member : Cal P w K mg base 9 "need_member" (spG A_need_member)) (c_need_pair : Cal P w K mg base 3 "need_pair" (spG A_need_pair))  : Cal P w K mg base 10 "need_two" (spG A_need_two) := by
  obtain ⟨fd, F⟩ := T.sd.def_ 21 (d := d_need_two) rfl
  have S := sc_need_two
  refine ⟨⟨fd, ["many", "sort", "member", "name", "other"], ok_pure (k := 9) F S (fnA_len fun _ => rfl) (fun cd Ar outer s H E xs W hr h => ?_), F.bindsN fun _ _ _ _ _ _ us hl => match us, hl with | [_, _, _, _, _], _ => rfl⟩, T.g 21, F.kp⟩
  obtain ⟨⟨⟨sg, n, m, ms⟩, a, b⟩, e, pr, h⟩ := h
  subst e
  refine ⟨_, (pss_cons (ps_expr (pe_cl c_need_member hr (by omega) (by rfl) (pa_cons (pv 0) (pa_cons (pv 1) (pa_cons (pv 2) pa_nil))))) (pss_one (ps_ret (pe_cl c_need_pair hr (by omega) (by rfl) (pa_cons (pv 0) (pa_cons (pv 3) (pa_cons (pv 4) pa_nil))))))), ?_⟩
  show StD none _ _ [Ent.dat _, Ent.dat _, Ent.dat _, Ent.dat _, Ent.dat _]
  try dsimp only at h pr ⊢
  obtain ⟨h1, h2⟩ := pr
  walk_at "d"
  refine ⟨(sg, n, m, ms), rfl, h1, ?_⟩
  walk_at "d"
  have nb : 2 ≤ n ∧ n ≤ 4 := h1.nb
  refine ⟨((n : Int), a, b), rfl, ⟨by show (2 : Int) ≤ n ∧ (n : Int) ≤ 5; omega, h2.la, h2.lb, h2.ne⟩, ?_⟩
  exact h _ trivial
/-! ### a letter in another's stead -/
def inst (m : List Int) (old new : Int) : List Int := (new :: m.erase old).mergeSort
theorem inst_eq {m ms : List Int} {old new : Int} (h1 : ms.Perm (new :: m.erase old)) (h2 : ms.Pairwise (· ≤ ·)) : ms = inst m old new := by
  refine List.Perm.eq_of_pairwise (le := fun a b : Int => a ≤ b) (fun a b _ _ => Int.le_antisymm) h2 ?_ (h1.trans (List.mergeSort_perm _ _).symm)
  have p := List.pairwise_mergeSort (le := fun a b : Int => decide (a ≤ b)) (fun a b c h1 h2 => decide_eq_true (Int.le_trans (of_decide_eq_true h1) (of_decide_eq_true h2))) (fun a b => by
    rw [Bool.or_eq_true, decide_eq_true_iff, decide_eq_true_iff]
    omega) (new :: m.erase old)
  exact p.imp fun h => of_decide_eq_true h
theorem cutm_to {α β : Type} {f : α → β} (m : List α) (k : Nat) : cutD (m.map f) none (some (k : Int)) = (m.take k).map f := (cut_to (m.map f) k).trans (by rw [List.map_take])
theorem cutm_from {α β : Type} {f : α → β} (m : List α) (k : Nat) : cutD (m.map f) (some ((k : Int) + 1)) none = (m.drop (k + 1)).map f := (cut_from (m.map f) (k + 1)).trans (by rw [List.map_drop])
theorem stead_perm {m : List Int} {old new : Int} : (m.take (m.idxOf old) ++ [new] ++ m.drop (m.idxOf old + 1)).Perm (new :: m.erase old) := by
  rw [List.append_assoc]
  refine (List.perm_append_comm.trans ?_)
  rw [List.singleton_append, List.cons_append]
  refine List.Perm.cons _ (List.perm_append_comm.trans ?_)
  rw [List.erase_eq_eraseIdx_of_idxOf (i := m.idxOf old) rfl, List.eraseIdx_eq_take_drop_succ]
def A_in_stead : AD := fnA (fun p : List Int × Int × Int => [iv p.1, .int p.2.1, .int p.2.2]) (fun p => p.2.1 ∈ p.1 ∧ p.1.length ≤ 12) fun p => iv (inst p.1 p.2.1 p.2.2)
theorem use_in_stead {m : List Int} {old new : Int} {W : PyData → Prop} (h1 : old ∈ m) (h2 : m.length ≤ 12) (q : W (iv (inst m old new))) : A_in_stead [iv m, .int old, .int new] W := ⟨(m, old, new), rfl, ⟨h1, h2⟩, q⟩
theorem sc_in_stead : FnScope ["things", "old", "new", "spot"] ["things", "old", "new"] (defScope s_in_stead) := ⟨rfl, rfl, rfl, by decide +kernel, rfl, by decide +kernel, by decide +kernel⟩
theorem ok_in_stead {P : Program} {w : World} {K : PySem.W.Frag} {mg : Str → Option Value} {base : Heap}  (T : Tx K mg)   : Cal P w K mg base 1 "in_stead" (spG A_in_stead) := by
  obtain ⟨fd, F⟩ := T.sd.def_ 16 (d := d_in_stead) rfl
  have S := sc_in_stead
  refine ⟨⟨fd, ["things", "old", "new"], ok_pure (k := 0) F S (fnA_len fun _ => rfl) (fun cd Ar outer s H E xs W hr h => ?_), F.bindsN fun _ _ _ _ _ _ us hl => match us, hl with | [_, _, _], _ => rfl⟩, T.g 16, F.kp⟩
  obtain ⟨⟨m, old, new⟩, e, pr, h⟩ := h
  subst e
  refine ⟨_, (pss_cons (ps_set (i := 3) S.nd rfl (by first | exact Or.inl rfl | exact Or.inr rfl) (pe_bmT PySem.F.plainAttrs_tuple PySem.F.slot_tuple_index PySem.F.type_tuple_index mt_idxT (pv 0) (pa_cons (pv 1) pa_nil))) (pss_one (ps_ret (pe_callTy call_tupZ (by rfl) (T.n 72) (by decide +kernel) (pa_cons (pe_callB cr_sortT (by rfl) (T.n 80) (by decide +kernel) (pa_cons (pe_op op_catZ (pe_op op_catZ (pe_slice sl_tupZ (pv 0) po_none (po_some (pv 3))) (pe_tupZ (pa_cons (pv 2) pa_nil))) (pe_slice sl_tupZ (pv 0) (po_some (pe_op op_add (pv 3) pe_int)) po_none)) pa_nil)) pa_nil))))), ?_⟩
  show StD none _ _ [Ent.dat _, Ent.dat _, Ent.dat _, Ent.no]
  try dsimp only at h pr ⊢
  obtain ⟨h1, h2⟩ := pr
  have lt : (m.take (m.idxOf old)).length ≤ m.length := by rw [List.length_take]; omega
  have h2 : m.length ≤ 12 := h2
  have ld : (m.drop (m.idxOf old + 1)).length ≤ m.length := by rw [List.length_drop]; omega
  walk_at "d"
  refine md_idx h1 ?_
  walk_at "d"
  refine sd_tup ?_
  walk_at "d"
  rw [cutm_to]
  refine op_catT' (by rw [List.length_map]; show (m.take (m.idxOf old)).length + 1 ≤ 100000; omega) ?_
  walk_at "d"
  refine sd_tup ?_
  rw [cutm_from]
  refine op_catT' (by rw [List.length_append, List.length_map, List.length_map]; show (m.take (m.idxOf old)).length + 1 + _ ≤ 100000; omega) ?_
  rw [show List.map PyData.int (m.take (m.idxOf old)) ++ [PyData.int new] ++ List.map PyData.int (m.drop (m.idxOf old + 1)) = (m.take (m.idxOf old) ++ [new] ++ m.drop (m.idxOf old + 1)).map PyData.int by rw [List.map_append, List.map_append]; rfl]
  walk_at "d"
  refine cb_sortT (by rw [List.length_append, List.length_append]; show (m.take (m.idxOf old)).length + 1 + _ < 64; omega) fun ms q1 q2 => ?_
  walk_at "d"
  rw [inst_eq (q1.trans stead_perm) q2]
  exact h
end JR
set_option pp.maxSteps 2500
set_option Elab.async false
set_option linter.all false
set_option maxRecDepth 100000
set_option maxHeartbeats 2000000
namespace JR
open PySem PySem.Spec L2 RZ
local macro_rules
  | `(tactic| walk_at "s") => `(tactic| first
    | ((with_reducible apply ev_var); exact rfl) | with_reducible refine ev_isiI ?_ | with_reducible refine ev_isiB ?_ | with_reducible refine ev_isiT ?_ | with_reducible refine ev_isiS ?_ | ((with_reducible refine st_append ?_ ?_); rotate_left; exact ⟨_, rfl⟩) | ((with_reducible apply st_pop); exact rfl) | ((with_reducible apply et_ownNe); exact rfl) | ((with_reducible apply op_i); exact rfl) | ((with_reducible apply it_rgV); exact rfl) | ((with_reducible apply op_inW); exact rfl) | ((with_reducible apply op_ixT); exact rfl) | ((with_reducible apply op_ixL); exact rfl) | ((with_reducible refine And.intro (le_lit ?_) ?_); exact rfl) | ((with_reducible apply op_b); exact rfl) | ((with_reducible apply tc_name); decide) | ((with_reducible apply tc_tup); exact rfl) | ((with_reducible apply tg_tup); exact rfl) | ((with_reducible apply tg_tupD); exact rfl) | ((with_reducible apply tc_tupD); exact rfl)
    | with_reducible refine st_seq ?_ | with_reducible refine st_ret ?_ | with_reducible refine st_next ?_ | with_reducible refine st_if ?_ | with_reducible refine st_par_own2 ?_ | with_reducible refine st_par_own ?_ | with_reducible refine st_rng ?_ | with_reducible refine st_par ?_ | with_reducible refine st_own ?_ | with_reducible refine st_asg ?_ | with_reducible refine st_unpack ?_ | with_reducible refine st_drop ?_ | with_reducible refine st_break ?_ | with_reducible refine ev_int ?_ | with_reducible refine ev_str ?_ | with_reducible refine ev_bl ?_ | with_reducible refine ev_non ?_ | with_reducible refine ev_op ?_ | with_reducible refine ev_un ?_ | with_reducible refine ev_if ?_ | with_reducible refine ev_andV ?_ | with_reducible refine ev_orV ?_ | with_reducible refine ev_notV ?_ | with_reducible refine ev_tup ?_ | with_reducible refine ev_lst ?_ | with_reducible refine ea_nil ?_ | with_reducible refine ea_cons ?_ | with_reducible refine ev_call ?_ | with_reducible refine ev_callN ?_ | with_reducible refine ev_cb ?_ | with_reducible refine ev_sl ?_ | with_reducible refine eo_none ?_ | with_reducible refine eo_some ?_ | with_reducible refine ev_revL ?_ | with_reducible refine ev_revT ?_ | with_reducible refine evn_lrg ?_ | with_reducible refine ev_bmT ?_ | with_reducible refine et_test ?_ | with_reducible refine et_B ?_ | with_reducible refine et_and ?_ | with_reducible refine et_or ?_ | with_reducible refine et_not ?_ | with_reducible refine et_yes ?_ | with_reducible refine ev_chain ?_ | with_reducible refine op_eqI ?_ | with_reducible refine op_neI ?_ | with_reducible refine op_eqS ?_ | with_reducible refine op_neS ?_ | with_reducible refine op_eqB ?_ | with_reducible refine op_neB ?_ | with_reducible refine op_inIn ?_ | with_reducible refine ud_neg ?_ | with_reducible refine op_is ?_ | with_reducible refine op_isnt ?_ | with_reducible refine cb_lenL ?_ | with_reducible refine cb_lenT ?_ | with_reducible refine cb_listT ?_ | with_reducible refine cb_listL ?_ | with_reducible refine cb_tupL ?_ | with_reducible refine cb_int ?_ | with_reducible refine cb_max2 ?_ | with_reducible refine cb_min2 ?_ | with_reducible refine it_list ?_ | with_reducible refine it_tup ?_ | with_reducible refine itn_1 ?_ | with_reducible refine it_rng2 ?_ | with_reducible refine it_rev ?_ | with_reducible refine itn_rev ?_ | with_reducible refine it_enum ?_ | with_reducible refine it_enumT ?_ | with_reducible refine it_zipT ?_ | with_reducible refine tcs_cons ?_ | with_reducible refine tcs_nil ?_ | with_reducible refine tg_name ?_ | with_reducible refine tgs_cons ?_ | with_reducible refine tgs_nil ?_
    | with_reducible refine ⟨_, rfl, ?_⟩
    | with_reducible refine ⟨_, _, rfl, ?_⟩
    | refine and_T ?_ | refine and_F ?_)
  | `(tactic| walk_at "d") => `(tactic| repeat walk_at "s")
/-! ### brackets -/
abbrev plE (b : Bool) (x : PyData) : PyData := .tuple [.str (if b then "(" else ")"), x]
def brs (sg : Bool) (less more : Nat) : List Bool := if sg = true ∧ less = more then [] else List.replicate more false ++ List.replicate less true
def leafL (sg : Bool) (m : List Int) (low high : Int) : List (Bool × List Int) := (brs sg (m.count low) (m.count high)).map fun b => (b, if b then inst m low high else inst m high low)
theorem pair_lt : ∀ {m : List Int}, (∀ (i : Nat) (a b : Int), m[i]? = some a → m[i + 1]? = some b → a < b) → m.Pairwise (· < ·)
  | [], _ => .nil
  | [a], _ => List.pairwise_singleton _ _
  | a :: b :: m, h => by
    have ih : (b :: m).Pairwise (· < ·) := pair_lt fun i x y e1 e2 => h (i + 1) x y (by simpa using e1) (by simpa using e2)
    have ab : a < b := h 0 a b rfl rfl
    refine List.pairwise_cons.mpr ⟨fun c hc => ?_, ih⟩
    rcases List.mem_cons.mp hc with e | hc
    · rw [e]; exact ab
    · exact Int.lt_trans ab ((List.pairwise_cons.mp ih).1 c hc)
theorem count_lt : ∀ {m : List Int} {v : Int}, m.Pairwise (· < ·) → m.count v = if v ∈ m then 1 else 0
  | [], v, _ => by rw [if_neg List.not_mem_nil]; rfl
  | a :: m, v, h => by
    obtain ⟨h1, h2⟩ := List.pairwise_cons.mp h
    rw [List.count_cons, count_lt h2]
    by_cases e : a = v
    · rw [if_pos (beq_iff_eq.mpr e), if_neg (fun z => by have := h1 v z; omega), if_pos (by rw [e]; exact List.mem_cons_self)]
    · rw [if_neg (fun z => e (beq_iff_eq.mp z)), Nat.add_zero]
      by_cases q : v ∈ m
      · rw [if_pos q, if_pos (List.mem_cons_of_mem _ q)]
      · rw [if_neg q, if_neg (fun z => by
          rcases List.mem_cons.mp z with z | z
          · exact e z.symm
          · exact q z)]
theorem LetOk.one {n : Nat} {m : List Int} (h : LetOk true n m) (v : Int) : m.count v = if v ∈ m then 1 else 0 := count_lt (pair_lt fun i a b e1 e2 => (h.up i a b e1 e2).resolve_right fun z => Bool.noConfusion z.1)
def A_np : AD := fnA (fun p : Bool × Nat × List Int × Int × Int => [leafE p.1 (p.2.2.1.length : Int), iv p.2.2.1, .int p.2.2.2.1, .int p.2.2.2.2]) (fun p => LetOk p.1 p.2.1 p.2.2.1) fun p => .list ((leafL p.1 p.2.2.1 p.2.2.2.1 p.2.2.2.2).map fun q => plE q.1 (iv q.2))
theorem use_np {sg : Bool} {n : Nat} {m : List Int} {low high : Int} {W : PyData → Prop} (h : LetOk sg n m) (q : W (.list ((leafL sg m low high).map fun q => plE q.1 (iv q.2)))) : A_np [leafE sg (m.length : Int), iv m, .int low, .int high] W := ⟨(sg, n, m, low, high), rfl, h, q⟩
theorem sc_name_places : FnScope ["sort", "member", "low", "high", "word", "found", "name"] ["sort", "member", "low", "high"] (defScope s_name_places) := ⟨rfl, rfl, rfl, by decide +kernel, rfl, by decide +kernel, by decide +kernel⟩
theorem ok_name_places {P : Program} {w : World} {K : PySem.W.Frag} {mg : Str → Option Value} {base : Heap}  (T : Tx K mg) (c_in_stead : Cal P w K mg base 1 "in_stead" (spG A_in_stead))  : Cal P w K mg base 2 "name_places" (spG A_np) := by
  obtain ⟨fd, F⟩ := T.sd.def_ 17 (d := d_name_places) rfl
  have S := sc_name_places
  refine ⟨⟨fd, ["sort", "member", "low", "high"], ok_pure (k := 1) F S (fnA_len fun _ => rfl) (fun cd Ar outer s H E xs W hr h => ?_), F.bindsN fun _ _ _ _ _ _ us hl => match us, hl with | [_, _, _, _], _ => rfl⟩, T.g 17, F.kp⟩
  obtain ⟨⟨sg, n, m, low, high⟩, e, pr, h⟩ := h
  subst e
  refine ⟨_, (pss_cons (ps_set (i := 4) S.nd rfl (by first | exact Or.inl rfl | exact Or.inr rfl) (pe_ix ix_tup (pv 0) pe_int fun _ _ => rfl)) (pss_cons (ps_if (pt_cmpR op_eq (pv 4) pe_str (nomark _)) (pss_cons (ps_if (pt_cmpR op_eq (pv 1) (pv 2) (nomark _)) (pss_one (ps_ret (pe_lst (pa_cons (pe_tupZ (pa_cons pe_str (pa_cons (pv 3) pa_nil))) pa_nil)))) pss_nil) (pss_one (ps_ret (pe_ifExp (pt_cmpR op_eq (pv 1) (pv 3) (nomark _)) (pe_lst (pa_cons (pe_tupZ (pa_cons pe_str (pa_cons (pv 2) pa_nil))) pa_nil)) (pe_lst pa_nil))))) pss_nil) (pss_cons (ps_if (pt_cmpR op_eq (pv 4) pe_str (nomark _)) (pss_cons (ps_if (pt_cmpR op_eq (pe_cmpR op_in_seq (pv 2) (pv 1) (by with_unfolding_all rfl)) (pe_cmpR op_in_seq (pv 3) (pv 1) (by with_unfolding_all rfl)) (nomark _)) (pss_one (ps_ret (pe_lst pa_nil))) pss_nil) (pss_cons (ps_if (pt_cmpR op_in_seq (pv 2) (pv 1) (by with_unfolding_all rfl)) (pss_one (ps_ret (pe_lst (pa_cons (pe_tupZ (pa_cons pe_str (pa_cons (pe_cl c_in_stead hr (by omega) (by rfl) (pa_cons (pv 1) (pa_cons (pv 2) (pa_cons (pv 3) pa_nil)))) pa_nil))) pa_nil)))) pss_nil) (pss_one (ps_ret (pe_lst (pa_cons (pe_tupZ (pa_cons pe_str (pa_cons (pe_cl c_in_stead hr (by omega) (by rfl) (pa_cons (pv 1) (pa_cons (pv 3) (pa_cons (pv 2) pa_nil)))) pa_nil))) pa_nil)))))) pss_nil) (pss_cons (ps_setLc (i := 5) (own := [("name", 6)]) (g := (gName 6)) (tt := (tTest (tOp rEq (tVar 6) (tVar 3)))) (te := (tTupZ (tCons (tC (.str ")")) (tCons (tCall (spG A_in_stead) [] xno (tCons (tVar 1) (tCons (tVar 3) (tCons (tVar 2) tNil)))) tNil)))) rfl S.nd rfl rfl (sw_true rfl rfl rfl (by decide +kernel)) (pi_tup (pv 1)) (blkOk_by (N := ["sort", "member", "low", "high", "word", "found", "name"]) (sc := (defScope s_name_places)) (by decide +kernel)) (fun _ _ _ _ _ => (pg_name (i := 6) S.nd rfl (by first | exact Or.inl rfl | exact Or.inr rfl))) (fun _ _ _ _ _ => (pts_one (pt_cmpR op_eq (pv 6) (pv 3) (nomark _)))) (fun _ _ _ _ _ => (pe_tupZ (pa_cons pe_str (pa_cons (pe_cl c_in_stead hr (by omega) (by rfl) (pa_cons (pv 1) (pa_cons (pv 3) (pa_cons (pv 2) pa_nil)))) pa_nil))))) (pss_one (ps_ret (pe_op op_cat (pv 5) (pe_lc (own := [("name", 6)]) (g := (gName 6)) (tt := (tTest (tOp rEq (tVar 6) (tVar 2)))) (te := (tTupZ (tCons (tC (.str "(")) (tCons (tCall (spG A_in_stead) [] xno (tCons (tVar 1) (tCons (tVar 2) (tCons (tVar 3) tNil)))) tNil)))) rfl S.nd (pi_tup (pv 1)) (blkOk_by (N := ["sort", "member", "low", "high", "word", "found", "name"]) (sc := (defScope s_name_places)) (by decide +kernel)) (fun _ _ _ _ _ => (pg_name (i := 6) S.nd rfl (by first | exact Or.inl rfl | exact Or.inr rfl))) (fun _ _ _ _ _ => (pts_one (pt_cmpR op_eq (pv 6) (pv 2) (nomark _)))) (fun _ _ _ _ _ => (pe_tupZ (pa_cons pe_str (pa_cons (pe_cl c_in_stead hr (by omega) (by rfl) (pa_cons (pv 1) (pa_cons (pv 2) (pa_cons (pv 3) pa_nil)))) pa_nil)))))))))))), ?_⟩
  show StD none _ _ [Ent.dat _, Ent.dat _, Ent.dat _, Ent.dat _, Ent.no, Ent.no, Ent.no]
  try dsimp only at h pr ⊢
  have few := pr.few
  cases sg with
  | true =>
    have h : W (.list ((leafL true m low high).map fun q => plE q.1 (iv q.2))) := h
    unfold leafL brs at h
    rw [pr.one low, pr.one high] at h
    show StD none _ _ [Ent.dat (.tuple [.str "subset", .int (m.length : Int)]), Ent.dat (iv m), Ent.dat (.int low), Ent.dat (.int high), Ent.no, Ent.no, Ent.no]
    walk_at "d"
    by_cases h1 : low ∈ m
    · by_cases h2 : high ∈ m
      · rw [if_pos h1, if_pos h2] at h
        refine brT (by rw [decide_eq_true h1, decide_eq_true h2]; rfl) ?_
        walk_at "d"
        exact h
      · rw [if_pos h1, if_neg h2] at h
        refine brF (by rw [decide_eq_true h1, decide_eq_false h2]; rfl) ?_
        walk_at "d"
        refine brT (decide_eq_true h1) ?_
        walk_at "d"
        refine use_in_stead h1 few ?_
        walk_at "d"
        exact h
    · by_cases h2 : high ∈ m
      · rw [if_neg h1, if_pos h2] at h
        refine brF (by rw [decide_eq_false h1, decide_eq_true h2]; rfl) ?_
        walk_at "d"
        refine brF (decide_eq_false h1) ?_
        walk_at "d"
        refine use_in_stead h2 few ?_
        walk_at "d"
        exact h
      · rw [if_neg h1, if_neg h2] at h
        refine brT (by rw [decide_eq_false h1, decide_eq_false h2]; rfl) ?_
        walk_at "d"
        exact h
  | false =>
    have h : W (.list ((leafL false m low high).map fun q => plE q.1 (iv q.2))) := h
    have el : (leafL false m low high).map (fun q => plE q.1 (iv q.2)) = List.replicate (m.count high) (plE false (iv (inst m high low))) ++ List.replicate (m.count low) (plE true (iv (inst m low high))) := by
      unfold leafL brs
      rw [if_neg (fun z => Bool.noConfusion z.1), List.map_append, List.map_append, List.map_replicate, List.map_replicate, List.map_replicate, List.map_replicate]
      rfl
    rw [el] at h
    have c1 := List.count_le_length (a := low) (l := m)
    have c2 := List.count_le_length (a := high) (l := m)
    show StD none _ _ [Ent.dat (.tuple [.str "bag", .int (m.length : Int)]), Ent.dat (iv m), Ent.dat (.int low), Ent.dat (.int high), Ent.no, Ent.no, Ent.no]
    walk_at "d"
    refine ev_filter (Pd := Da) ?_
    walk_at "d"
    refine ⟨m.map fun v => if v = high then some (plE false (iv (inst m high low))) else none, by rw [List.length_map]; omega, by rw [List.length_map, List.length_map], fun i d y e1 e2 => ?_, ?_⟩
    · obtain ⟨v, ev, q1⟩ := map_at e1
      obtain ⟨v', ev', q2⟩ := map_at e2
      rw [ev] at ev'
      cases ev'
      subst q1 q2
      walk_at "d"
      refine ⟨fun e => ?_, fun e => ?_⟩
      · have e := of_decide_eq_true e
        walk_at "d"
        refine use_in_stead (by rw [← e]; exact List.mem_of_getElem? ev) few ?_
        walk_at "d"
        rw [if_pos e]
        rfl
      · rw [if_neg (of_decide_eq_false e)]
    · rw [filt]
      walk_at "d"
      refine ev_filter (Pd := Da) ?_
      walk_at "d"
      refine ⟨m.map fun v => if v = low then some (plE true (iv (inst m low high))) else none, by rw [List.length_map]; omega, by rw [List.length_map, List.length_map], fun i d y e1 e2 => ?_, ?_⟩
      · obtain ⟨v, ev, q1⟩ := map_at e1
        obtain ⟨v', ev', q2⟩ := map_at e2
        rw [ev] at ev'
        cases ev'
        subst q1 q2
        walk_at "d"
        refine ⟨fun e => ?_, fun e => ?_⟩
        · have e := of_decide_eq_true e
          walk_at "d"
          refine use_in_stead (by rw [← e]; exact List.mem_of_getElem? ev) few ?_
          walk_at "d"
          rw [if_pos e]
          rfl
        · rw [if_neg (of_decide_eq_false e)]
      · rw [filt]
        refine op_catL (by rw [List.length_replicate, List.length_replicate]; omega) ?_
        exact h
end JR
set_option pp.maxSteps 2500
set_option Elab.async false
set_option linter.all false
set_option maxRecDepth 100000
set_option maxHeartbeats 2000000
namespace JR
open PySem PySem.Spec L2 RZ
local macro_rules
  | `(tactic| walk_at "s") => `(tactic| first
    | ((with_reducible apply ev_var); exact rfl) | with_reducible refine ev_isiI ?_ | with_reducible refine ev_isiB ?_ | with_reducible refine ev_isiT ?_ | with_reducible refine ev_isiS ?_ | ((with_reducible refine st_append ?_ ?_); rotate_left; exact ⟨_, rfl⟩) | ((with_reducible apply st_pop); exact rfl) | ((with_reducible apply et_ownNe); exact rfl) | ((with_reducible apply op_i); exact rfl) | ((with_reducible apply it_rgV); exact rfl) | ((with_reducible apply op_inW); exact rfl) | ((with_reducible apply op_ixT); exact rfl) | ((with_reducible apply op_ixL); exact rfl) | ((with_reducible refine And.intro (le_lit ?_) ?_); exact rfl) | ((with_reducible apply op_b); exact rfl) | ((with_reducible apply tc_name); decide) | ((with_reducible apply tc_tup); exact rfl) | ((with_reducible apply tg_tup); exact rfl) | ((with_reducible apply tg_tupD); exact rfl) | ((with_reducible apply tc_tupD); exact rfl)
    | with_reducible refine st_seq ?_ | with_reducible refine st_ret ?_ | with_reducible refine st_next ?_ | with_reducible refine st_if ?_ | with_reducible refine st_par_own2 ?_ | with_reducible refine st_par_own ?_ | with_reducible refine st_rng ?_ | with_reducible refine st_par ?_ | with_reducible refine st_own ?_ | with_reducible refine st_asg ?_ | with_reducible refine st_unpack ?_ | with_reducible refine st_drop ?_ | with_reducible refine st_break ?_ | with_reducible refine ev_int ?_ | with_reducible refine ev_str ?_ | with_reducible refine ev_bl ?_ | with_reducible refine ev_non ?_ | with_reducible refine ev_op ?_ | with_reducible refine ev_un ?_ | with_reducible refine ev_if ?_ | with_reducible refine ev_andV ?_ | with_reducible refine ev_orV ?_ | with_reducible refine ev_notV ?_ | with_reducible refine ev_tup ?_ | with_reducible refine ev_lst ?_ | with_reducible refine ea_nil ?_ | with_reducible refine ea_cons ?_ | with_reducible refine ev_call ?_ | with_reducible refine ev_callN ?_ | with_reducible refine ev_cb ?_ | with_reducible refine ev_sl ?_ | with_reducible refine eo_none ?_ | with_reducible refine eo_some ?_ | with_reducible refine ev_revL ?_ | with_reducible refine ev_revT ?_ | with_reducible refine evn_lrg ?_ | with_reducible refine ev_bmT ?_ | with_reducible refine et_test ?_ | with_reducible refine et_B ?_ | with_reducible refine et_and ?_ | with_reducible refine et_or ?_ | with_reducible refine et_not ?_ | with_reducible refine et_yes ?_ | with_reducible refine ev_chain ?_ | with_reducible refine op_eqI ?_ | with_reducible refine op_neI ?_ | with_reducible refine op_eqS ?_ | with_reducible refine op_neS ?_ | with_reducible refine op_eqB ?_ | with_reducible refine op_neB ?_ | with_reducible refine op_inIn ?_ | with_reducible refine ud_neg ?_ | with_reducible refine op_is ?_ | with_reducible refine op_isnt ?_ | with_reducible refine cb_lenL ?_ | with_reducible refine cb_lenT ?_ | with_reducible refine cb_listT ?_ | with_reducible refine cb_listL ?_ | with_reducible refine cb_tupL ?_ | with_reducible refine cb_int ?_ | with_reducible refine cb_max2 ?_ | with_reducible refine cb_min2 ?_ | with_reducible refine it_list ?_ | with_reducible refine it_tup ?_ | with_reducible refine itn_1 ?_ | with_reducible refine it_rng2 ?_ | with_reducible refine it_rev ?_ | with_reducible refine itn_rev ?_ | with_reducible refine it_enum ?_ | with_reducible refine it_enumT ?_ | with_reducible refine it_zipT ?_ | with_reducible refine tcs_cons ?_ | with_reducible refine tcs_nil ?_ | with_reducible refine tg_name ?_ | with_reducible refine tgs_cons ?_ | with_reducible refine tgs_nil ?_
    | with_reducible refine ⟨_, rfl, ?_⟩
    | with_reducible refine ⟨_, _, rfl, ?_⟩
    | refine and_T ?_ | refine and_F ?_)
  | `(tactic| walk_at "d") => `(tactic| repeat walk_at "s")
/-! ### the places where a letter may be changed -/
abbrev IPl : Type := Bool × List Int × List (List Int)
def plL (sg : Bool) (low high : Int) : List Int → List (List Int) → List IPl
  | m, [] => (leafL sg m low high).map fun p => (p.1, p.2, [])
  | m, m' :: ms => (leafL sg m low high).map (fun p => (p.1, p.2, m' :: ms)) ++ (plL sg low high m' ms).map fun p => (p.1, m, p.2.1 :: p.2.2)
abbrev encP (p : IPl) : PyData := plE p.1 (memE p.2.1 p.2.2)
theorem leafL_few {sg : Bool} {m : List Int} {low high : Int} (h : m.length ≤ 12) : (leafL sg m low high).length ≤ 24 := by
  have c1 := List.count_le_length (a := low) (l := m)
  have c2 := List.count_le_length (a := high) (l := m)
  unfold leafL brs
  rw [List.length_map]
  split
  · exact Nat.zero_le _
  · rw [List.length_append, List.length_replicate, List.length_replicate]
    omega
theorem plL_few' {sg : Bool} {low high : Int} : ∀ {ms : List (List Int)} {m : List Int}, m.length ≤ 12 → (∀ l ∈ ms, l.length ≤ 12) → (plL sg low high m ms).length ≤ 24 * (ms.length + 1)
  | [], m, h, _ => by
    show ((leafL sg m low high).map _).length ≤ _
    rw [List.length_map]
    exact leafL_few h
  | m' :: ms, m, h, h2 => by
    have ih := plL_few' (sg := sg) (low := low) (high := high) (ms := ms) (m := m') (h2 m' List.mem_cons_self) fun l hl => h2 l (List.mem_cons_of_mem _ hl)
    have l1 := leafL_few (sg := sg) (low := low) (high := high) h
    show ((leafL sg m low high).map _ ++ (plL sg low high m' ms).map _).length ≤ _
    rw [List.length_append, List.length_map, List.length_map, List.length_cons]
    omega
theorem plL_few {sg : Bool} {low high : Int} {n : Nat} {m : List Int} {ms : List (List Int)} (h : MemOk sg n m ms) : (plL sg low high m ms).length ≤ 2000 := by
  have h1 := plL_few' (sg := sg) (low := low) (high := high) h.hd.few fun l hl => (h.tl l hl).few
  have h2 := h.few
  omega
def A_pl (k : Nat) : AD := fnA encM (fun p : IMem => MemOk p.1.1 p.1.2.1 p.1.2.2.1 p.1.2.2.2 ∧ p.1.2.2.2.length < k) fun p => .list ((plL p.1.1 p.2.1 p.2.2 p.1.2.2.1 p.1.2.2.2).map encP)
theorem use_pl {k n : Nat} {sg : Bool} {m : List Int} {ms : List (List Int)} {low high : Int} {W : PyData → Prop} (h : MemOk sg n m ms) (h1 : ms.length < k) (q : W (.list ((plL sg low high m ms).map encP))) : A_pl k [.int (n : Nat), sortM sg m ms, memE m ms, .int low, .int high] W := ⟨((sg, n, m, ms), low, high), rfl, ⟨h, h1⟩, q⟩
theorem sc_places : FnScope ["many", "sort", "member", "low", "high", "word", "found", "inner", "spot", "thing", "bracket", "changed"] ["many", "sort", "member", "low", "high"] (defScope s_places) := ⟨rfl, rfl, rfl, by decide +kernel, rfl, by decide +kernel, by decide +kernel⟩
theorem z_places {P : Program} {w : World} {K : PySem.W.Frag} {mg : Str → Option Value} {base : Heap} {k : Nat} (T : Tx K mg) {A : AD} (no : ∀ xs W, ¬ A xs W) : Cal P w K mg base k "places" (spG A) := by
  obtain ⟨fd, F⟩ := T.sd.def_ 18 (d := d_places) rfl
  exact ⟨⟨fd, ["many", "sort", "member", "low", "high"], ⟨fun vs H Q E ⟨_, xs, W, _, _, h, _⟩ => (no xs W h).elim, fun _ _ _ _ _ _ _ _ _ _ _ _ _ ⟨_, xs, W, _, _, h, _⟩ => (no xs W h).elim⟩, F.bindsN fun _ _ _ _ _ _ us hl => match us, hl with | [_, _, _, _, _], _ => rfl⟩, T.g 18, F.kp⟩
theorem st_places {P : Program} {w : World} {K : PySem.W.Frag} {mg : Str → Option Value} {base : Heap} {j n : Nat} (T : Tx K mg) (c_name_places : Cal P w K mg base 2 "name_places" (spG A_np)) (c_places : Cal P w K mg base j "places" (spG (A_pl n))) (hj : 3 ≤ j) : Cal P w K mg base (j + 1) "places" (spG (A_pl (n + 1))) := by
  obtain ⟨fd, F⟩ := T.sd.def_ 18 (d := d_places) rfl
  have S := sc_places
  refine ⟨⟨fd, ["many", "sort", "member", "low", "high"], ok_pure (k := j) F S (fnA_len fun _ => rfl) (fun cd Ar outer s H E xs W hr h => ?_), F.bindsN fun _ _ _ _ _ _ us hl => match us, hl with | [_, _, _, _, _], _ => rfl⟩, T.g 18, F.kp⟩
  obtain ⟨⟨⟨sg, nn, m, ms⟩, low, high⟩, e, pr, h⟩ := h
  subst e
  refine ⟨_, (pss_cons (ps_set (i := 5) S.nd rfl (by first | exact Or.inl rfl | exact Or.inr rfl) (pe_ix ix_tup (pv 1) pe_int fun _ _ => rfl)) (pss_cons (ps_if (pt_cmpR op_in_seq (pv 5) (pe_tupZ (pa_cons pe_str (pa_cons pe_str (pa_cons pe_str pa_nil)))) (by with_unfolding_all rfl)) (pss_one (ps_ret (pe_cl c_name_places hr (by omega) (by rfl) (pa_cons (pv 1) (pa_cons (pv 2) (pa_cons (pv 3) (pa_cons (pv 4) pa_nil))))))) pss_nil) (pss_cons (ps_if (pt_cmpR op_in_seq (pv 5) (pe_tupZ (pa_cons pe_str (pa_cons pe_str pa_nil))) (by with_unfolding_all rfl)) (pss_one (ps_ret pe_nv)) pss_nil) (pss_cons (ps_if (pt_cmpR op_eq (pv 5) pe_str (nomark _)) (pss_one (ps_ret pe_nv)) pss_nil) (pss_cons (ps_if (pt_cmpR op_in_seq (pv 5) (pe_tupZ (pa_cons pe_str (pa_cons pe_str pa_nil))) (by with_unfolding_all rfl)) (pss_one (ps_ret pe_nv)) pss_nil) (pss_cons (ps_if (pt_cmpR op_eq (pv 5) pe_str (nomark _)) (pss_cons ps_never (pss_one ps_never)) pss_nil) (pss_cons (ps_set (i := 6) S.nd rfl (by first | exact Or.inl rfl | exact Or.inr rfl) (pe_lst pa_nil)) (pss_cons (ps_for PassesOwn.never rfl (pi_enumT (by rfl) (T.n 82) (pa_cons (pv 2) pa_nil)) (pg_tup (by rfl) (pgs_cons (pg_name (i := 8) S.nd rfl (by first | exact Or.inl rfl | exact Or.inr rfl)) (pgs_cons (pg_name (i := 9) S.nd rfl (by first | exact Or.inl rfl | exact Or.inr rfl)) pgs_nil))) (pss_cons (ps_set (i := 7) S.nd rfl (by first | exact Or.inl rfl | exact Or.inr rfl) (pe_cl c_places hr (by omega) (by rfl) (pa_cons (pv 0) (pa_cons (pe_ifExp (pt_cmpR op_eq (pv 5) pe_str (nomark _)) (pe_ix ix_tup (pv 1) pe_int fun _ _ => rfl) (pe_ix ix_tup (pv 1) (pe_op op_add pe_int (pv 8)) fun _ _ => rfl)) (pa_cons (pv 9) (pa_cons (pv 3) (pa_cons (pv 4) pa_nil))))))) (pss_one (ps_for PassesOwn.never rfl (pi_list (pv 7)) (pg_tup (by rfl) (pgs_cons (pg_name (i := 10) S.nd rfl (by first | exact Or.inl rfl | exact Or.inr rfl)) (pgs_cons (pg_name (i := 11) S.nd rfl (by first | exact Or.inl rfl | exact Or.inr rfl)) pgs_nil))) (pss_one (ps_expr (pe_bm PySem.F.plainAttrs_list PySem.F.slot_list_append PySem.F.type_list_append mt_append (pv 6) (pa_cons (pe_tupZ (pa_cons (pv 10) (pa_cons (pe_op op_catZ (pe_op op_catZ (pe_slice sl_tupZ (pv 2) po_none (po_some (pv 8))) (pe_tupZ (pa_cons (pv 11) pa_nil))) (pe_slice sl_tupZ (pv 2) (po_some (pe_op op_add (pv 8) pe_int)) po_none)) pa_nil))) pa_nil)))))))) (pss_one (ps_ret (pv 6))))))))))), ?_⟩
  show StD none _ _ [Ent.dat _, Ent.dat _, Ent.dat _, Ent.dat _, Ent.dat _, Ent.no, Ent.no, Ent.no, Ent.no, Ent.no, Ent.no, Ent.no]
  try dsimp only at h pr ⊢
  obtain ⟨h1, h2⟩ := pr
  cases ms with
  | nil =>
    have h : W (.list (((leafL sg m low high).map fun p => (p.1, p.2, ([] : List (List Int)))).map encP)) := h
    rw [List.map_map] at h
    cases sg with
    | true =>
      show StD none _ _ [Ent.dat (.int (nn : Nat)), Ent.dat (.tuple [.str "subset", .int (m.length : Int)]), Ent.dat (iv m), Ent.dat (.int low), Ent.dat (.int high), Ent.no, Ent.no, Ent.no, Ent.no, Ent.no, Ent.no, Ent.no]
      walk_at "d"
      exact use_np h1.hd h
    | false =>
      show StD none _ _ [Ent.dat (.int (nn : Nat)), Ent.dat (.tuple [.str "bag", .int (m.length : Int)]), Ent.dat (iv m), Ent.dat (.int low), Ent.dat (.int high), Ent.no, Ent.no, Ent.no, Ent.no, Ent.no, Ent.no, Ent.no]
      walk_at "d"
      exact use_np h1.hd h
  | cons m' ms =>
    rw [List.length_cons] at h2
    have e1 : (plL sg low high m (m' :: ms)).map encP = ((plL sg low high m []).map fun q => plE q.1 (.tuple [memE q.2.1 q.2.2, memE m' ms])) ++ (plL sg low high m' ms).map fun q => encP (q.1, m, q.2.1 :: q.2.2) := by
      show ((leafL sg m low high).map _ ++ (plL sg low high m' ms).map _).map encP = ((leafL sg m low high).map _).map _ ++ _
      rw [List.map_append, List.map_map, List.map_map, List.map_map]
      rfl
    rw [e1] at h
    show StD none _ _ [Ent.dat (.int (nn : Nat)), Ent.dat (.tuple [.str "pair", leafE sg m.length, sortM sg m' ms]), Ent.dat (.tuple [iv m, memE m' ms]), Ent.dat (.int low), Ent.dat (.int high), Ent.no, Ent.no, Ent.no, Ent.no, Ent.no, Ent.no, Ent.no]
    walk_at "d"
    refine st_for (Pd := DaP) ?_
    walk_at "d"
    refine ⟨fun i ds => ∃ a b c d e, ds = [Ent.dat (.int (nn : Nat)), Ent.dat (.tuple [.str "pair", leafE sg m.length, sortM sg m' ms]), Ent.dat (.tuple [iv m, memE m' ms]), Ent.dat (.int low), Ent.dat (.int high), Ent.dat (.str "pair"), Ent.own (if i = 0 then [] else if i = 1 then ((plL sg low high m []).map fun q => plE q.1 (.tuple [memE q.2.1 q.2.2, memE m' ms])) else ((plL sg low high m []).map fun q => plE q.1 (.tuple [memE q.2.1 q.2.2, memE m' ms])) ++ (plL sg low high m' ms).map fun q => encP (q.1, m, q.2.1 :: q.2.2)), a, b, c, d, e], ⟨_, _, _, _, _, rfl⟩, fun i d ds2 e1 iv2 => ?_, fun ds2 iv2 => ?_⟩
    · obtain ⟨a, b, c, d', e, rfl⟩ := iv2
      match i, e1 with
      | 0, e1 =>
        cases e1
        walk_at "d"
        refine use_pl (ms := []) h1.leaf (by show 0 < n; omega) ?_
        walk_at "d"
        refine st_for (Pd := Da) ?_
        walk_at "d"
        refine ⟨fun j ds => ∃ e1 e2, ds = [Ent.dat (.int (nn : Nat)), Ent.dat (.tuple [.str "pair", leafE sg m.length, sortM sg m' ms]), Ent.dat (.tuple [iv m, memE m' ms]), Ent.dat (.int low), Ent.dat (.int high), Ent.dat (.str "pair"), Ent.own (([] : List PyData) ++ ((plL sg low high m []).map (fun q => plE q.1 (.tuple [memE q.2.1 q.2.2, memE m' ms]))).take j), Ent.dat (.list ((plL sg low high m []).map encP)), Ent.dat (.int (0 : Nat)), Ent.dat (iv m), e1, e2], ⟨_, _, by rw [List.take_zero, List.append_nil]; rfl⟩, fun j d ds2 e2 iv2 => ?_, fun ds2 iv2 => ?_⟩
        · obtain ⟨a1, a2, rfl⟩ := iv2
          obtain ⟨q, hq, rfl⟩ := map_at e2
          have et : ((plL sg low high m []).map (fun q => plE q.1 (.tuple [memE q.2.1 q.2.2, memE m' ms]))).take (j + 1) = ((plL sg low high m []).map (fun q => plE q.1 (.tuple [memE q.2.1 q.2.2, memE m' ms]))).take j ++ [(fun q => plE q.1 (.tuple [memE q.2.1 q.2.2, memE m' ms])) q] := by
            rw [List.take_succ, List.getElem?_map, hq]
            rfl
          have hl : ((plL sg low high m []).map (fun q => plE q.1 (.tuple [memE q.2.1 q.2.2, memE m' ms]))).length ≤ 2000 := by
            rw [List.length_map]
            exact plL_few h1.leaf
          have ha : (([] : List PyData)).length ≤ 2000 := Nat.zero_le _
          walk_at "d"
          refine sd_tup ?_
          walk_at "d"
          refine op_catT' (le_lit rfl) ?_
          walk_at "d"
          refine sd_tup ?_
          walk_at "d"
          refine op_catT' (le_lit rfl) ?_
          walk_at "d"
          refine ⟨by rw [List.length_append, List.length_take]; omega, ?_⟩
          dsimp only
          rw [et, ← List.append_assoc]
          exact ⟨_, _, rfl⟩
        · obtain ⟨a1, a2, rfl⟩ := iv2
          rw [List.length_map, show ((plL sg low high m []).map (fun q => plE q.1 (.tuple [memE q.2.1 q.2.2, memE m' ms]))).take (plL sg low high m []).length = (plL sg low high m []).map (fun q => plE q.1 (.tuple [memE q.2.1 q.2.2, memE m' ms])) from List.take_of_length_le (by rw [List.length_map]; exact Nat.le_refl _)]
          exact ⟨_, _, _, _, _, rfl⟩
      | 1, e1 =>
        cases e1
        walk_at "d"
        refine use_pl h1.tail (by omega) ?_
        walk_at "d"
        refine st_for (Pd := Da) ?_
        walk_at "d"
        refine ⟨fun j ds => ∃ e1 e2, ds = [Ent.dat (.int (nn : Nat)), Ent.dat (.tuple [.str "pair", leafE sg m.length, sortM sg m' ms]), Ent.dat (.tuple [iv m, memE m' ms]), Ent.dat (.int low), Ent.dat (.int high), Ent.dat (.str "pair"), Ent.own (((plL sg low high m []).map fun q => plE q.1 (.tuple [memE q.2.1 q.2.2, memE m' ms])) ++ ((plL sg low high m' ms).map (fun q => encP (q.1, m, q.2.1 :: q.2.2))).take j), Ent.dat (.list ((plL sg low high m' ms).map encP)), Ent.dat (.int (1 : Nat)), Ent.dat (memE m' ms), e1, e2], ⟨_, _, by rw [List.take_zero, List.append_nil]; rfl⟩, fun j d ds2 e2 iv2 => ?_, fun ds2 iv2 => ?_⟩
        · obtain ⟨a1, a2, rfl⟩ := iv2
          obtain ⟨q, hq, rfl⟩ := map_at e2
          have et : ((plL sg low high m' ms).map (fun q => encP (q.1, m, q.2.1 :: q.2.2))).take (j + 1) = ((plL sg low high m' ms).map (fun q => encP (q.1, m, q.2.1 :: q.2.2))).take j ++ [(fun q => encP (q.1, m, q.2.1 :: q.2.2)) q] := by
            rw [List.take_succ, List.getElem?_map, hq]
            rfl
          have hl : ((plL sg low high m' ms).map (fun q => encP (q.1, m, q.2.1 :: q.2.2))).length ≤ 2000 := by
            rw [List.length_map]
            exact plL_few h1.tail
          have ha : (((plL sg low high m []).map fun q => plE q.1 (.tuple [memE q.2.1 q.2.2, memE m' ms]))).length ≤ 2000 := by rw [List.length_map]; exact plL_few h1.leaf
          walk_at "d"
          refine sd_tup ?_
          walk_at "d"
          refine op_catT' (le_lit rfl) ?_
          walk_at "d"
          refine sd_tup ?_
          walk_at "d"
          refine op_catT' (le_lit rfl) ?_
          walk_at "d"
          refine ⟨by rw [List.length_append, List.length_take]; omega, ?_⟩
          dsimp only
          rw [et, ← List.append_assoc]
          exact ⟨_, _, rfl⟩
        · obtain ⟨a1, a2, rfl⟩ := iv2
          rw [List.length_map, show ((plL sg low high m' ms).map (fun q => encP (q.1, m, q.2.1 :: q.2.2))).take (plL sg low high m' ms).length = (plL sg low high m' ms).map (fun q => encP (q.1, m, q.2.1 :: q.2.2)) from List.take_of_length_le (by rw [List.length_map]; exact Nat.le_refl _)]
          exact ⟨_, _, _, _, _, rfl⟩
    · obtain ⟨a, b, c, d, e, rfl⟩ := iv2
      refine st_freeze (i := 6) rfl ?_
      walk_at "d"
      exact h
end JR
set_option pp.maxSteps 2500
set_option Elab.async false
set_option linter.all false
set_option maxRecDepth 100000
set_option maxHeartbeats 2000000
namespace JR
open PySem PySem.Spec L2 RZ
local macro_rules
  | `(tactic| walk_at "s") => `(tactic| first
    | ((with_reducible apply ev_var); exact rfl) | with_reducible refine ev_isiI ?_ | with_reducible refine ev_isiB ?_ | with_reducible refine ev_isiT ?_ | with_reducible refine ev_isiS ?_ | ((with_reducible refine st_append ?_ ?_); rotate_left; exact ⟨_, rfl⟩) | ((with_reducible apply st_pop); exact rfl) | ((with_reducible apply et_ownNe); exact rfl) | ((with_reducible apply op_i); exact rfl) | ((with_reducible apply it_rgV); exact rfl) | ((with_reducible apply op_inW); exact rfl) | ((with_reducible apply op_ixT); exact rfl) | ((with_reducible apply op_ixL); exact rfl) | ((with_reducible refine And.intro (le_lit ?_) ?_); exact rfl) | ((with_reducible apply op_b); exact rfl) | ((with_reducible apply tc_name); decide) | ((with_reducible apply tc_tup); exact rfl) | ((with_reducible apply tg_tup); exact rfl) | ((with_reducible apply tg_tupD); exact rfl) | ((with_reducible apply tc_tupD); exact rfl)
    | with_reducible refine st_seq ?_ | with_reducible refine st_ret ?_ | with_reducible refine st_next ?_ | with_reducible refine st_if ?_ | with_reducible refine st_par_own2 ?_ | with_reducible refine st_par_own ?_ | with_reducible refine st_rng ?_ | with_reducible refine st_par ?_ | with_reducible refine st_own ?_ | with_reducible refine st_asg ?_ | with_reducible refine st_unpack ?_ | with_reducible refine st_drop ?_ | with_reducible refine st_break ?_ | with_reducible refine ev_int ?_ | with_reducible refine ev_str ?_ | with_reducible refine ev_bl ?_ | with_reducible refine ev_non ?_ | with_reducible refine ev_op ?_ | with_reducible refine ev_un ?_ | with_reducible refine ev_if ?_ | with_reducible refine ev_andV ?_ | with_reducible refine ev_orV ?_ | with_reducible refine ev_notV ?_ | with_reducible refine ev_tup ?_ | with_reducible refine ev_lst ?_ | with_reducible refine ea_nil ?_ | with_reducible refine ea_cons ?_ | with_reducible refine ev_call ?_ | with_reducible refine ev_callN ?_ | with_reducible refine ev_cb ?_ | with_reducible refine ev_sl ?_ | with_reducible refine eo_none ?_ | with_reducible refine eo_some ?_ | with_reducible refine ev_revL ?_ | with_reducible refine ev_revT ?_ | with_reducible refine evn_lrg ?_ | with_reducible refine ev_bmT ?_ | with_reducible refine et_test ?_ | with_reducible refine et_B ?_ | with_reducible refine et_and ?_ | with_reducible refine et_or ?_ | with_reducible refine et_not ?_ | with_reducible refine et_yes ?_ | with_reducible refine ev_chain ?_ | with_reducible refine op_eqI ?_ | with_reducible refine op_neI ?_ | with_reducible refine op_eqS ?_ | with_reducible refine op_neS ?_ | with_reducible refine op_eqB ?_ | with_reducible refine op_neB ?_ | with_reducible refine op_inIn ?_ | with_reducible refine ud_neg ?_ | with_reducible refine op_is ?_ | with_reducible refine op_isnt ?_ | with_reducible refine cb_lenL ?_ | with_reducible refine cb_lenT ?_ | with_reducible refine cb_listT ?_ | with_reducible refine cb_listL ?_ | with_reducible refine cb_tupL ?_ | with_reducible refine cb_int ?_ | with_reducible refine cb_max2 ?_ | with_reducible refine cb_min2 ?_ | with_reducible refine it_list ?_ | with_reducible refine it_tup ?_ | with_reducible refine itn_1 ?_ | with_reducible refine it_rng2 ?_ | with_reducible refine it_rev ?_ | with_reducible refine itn_rev ?_ | with_reducible refine it_enum ?_ | with_reducible refine it_enumT ?_ | with_reducible refine it_zipT ?_ | with_reducible refine tcs_cons ?_ | with_reducible refine tcs_nil ?_ | with_reducible refine tg_name ?_ | with_reducible refine tgs_cons ?_ | with_reducible refine tgs_nil ?_
    | with_reducible refine ⟨_, rfl, ?_⟩
    | with_reducible refine ⟨_, _, rfl, ?_⟩
    | refine and_T ?_ | refine and_F ?_)
  | `(tactic| walk_at "d") => `(tactic| repeat walk_at "s")
theorem ok_places {P : Program} {w : World} {K : PySem.W.Frag} {mg : Str → Option Value} {base : Heap} (T : Tx K mg) (c : Cal P w K mg base 2 "name_places" (spG A_np)) : ∀ n, Cal P w K mg base (n + 3) "places" (spG (A_pl n))
  | 0 => z_places T fun xs W ⟨i, _, ⟨_, h⟩, _⟩ => absurd h (Nat.not_lt_zero _)
  | n + 1 => st_places T (c.mono (by omega)) (ok_places T c n) (by omega)
/-! ### brackets that no other closes -/
def loS {α : Type} (s : List α × List α) (p : Bool × α) : List α × List α := if p.1 then (s.1, s.2 ++ [p.2]) else if s.2.isEmpty then (s.1 ++ [p.2], s.2) else (s.1, s.2.dropLast)
def lo {α : Type} (l : List (Bool × α)) : List α × List α := l.foldl loS ([], [])
theorem lo_step {α : Type} {l : List (Bool × α)} {i : Nat} {p : Bool × α} (h : l[i]? = some p) : lo (l.take (i + 1)) = loS (lo (l.take i)) p := by
  unfold lo
  rw [List.take_succ, h, List.foldl_append]
  rfl
theorem lo_few {α : Type} : ∀ (l : List (Bool × α)) (s : List α × List α), (l.foldl loS s).1.length ≤ s.1.length + l.length ∧ (l.foldl loS s).2.length ≤ s.2.length + l.length
  | [], s => ⟨Nat.le_refl _, Nat.le_refl _⟩
  | p :: l, s => by
    obtain ⟨h1, h2⟩ := lo_few l (loS s p)
    rw [List.foldl_cons, List.length_cons]
    have b : (loS s p).1.length ≤ s.1.length + 1 ∧ (loS s p).2.length ≤ s.2.length + 1 := by
      unfold loS
      split
      · constructor
        · show s.1.length ≤ _; omega
        · rw [List.length_append]; exact Nat.le_refl _
      · split
        · constructor
          · rw [List.length_append]; exact Nat.le_refl _
          · show s.2.length ≤ _; omega
        · constructor
          · show s.1.length ≤ _; omega
          · rw [List.length_dropLast]; omega
    constructor <;> omega
theorem lo_map {α β : Type} (f : α → β) : ∀ (l : List (Bool × α)) (s : List α × List α), (l.map fun p => (p.1, f p.2)).foldl loS (s.1.map f, s.2.map f) = ((l.foldl loS s).1.map f, (l.foldl loS s).2.map f)
  | [], s => rfl
  | p :: l, s => by
    rw [List.map_cons, List.foldl_cons, List.foldl_cons, ← lo_map f l (loS s p)]
    congr 1
    obtain ⟨b, a⟩ := p
    obtain ⟨s1, s2⟩ := s
    cases b with
    | true =>
      show (s1.map f, s2.map f ++ [f a]) = (s1.map f, (s2 ++ [a]).map f)
      rw [List.map_append]; rfl
    | false =>
      cases s2 with
      | nil =>
        show (s1.map f ++ [f a], []) = ((s1 ++ [a]).map f, [])
        rw [List.map_append]; rfl
      | cons c r =>
        show (s1.map f, (f c :: r.map f).dropLast) = (s1.map f, (c :: r).dropLast.map f)
        rw [List.map_dropLast]; rfl
theorem lo_nat {α β : Type} (f : α → β) (l : List (Bool × α)) : lo (l.map fun p => (p.1, f p.2)) = ((lo l).1.map f, (lo l).2.map f) := lo_map f l ([], [])
theorem lo_mem {α : Type} (Z : α → Prop) : ∀ (l : List (Bool × α)) (s : List α × List α), (∀ p ∈ l, Z p.2) → (∀ x ∈ s.1, Z x) → (∀ x ∈ s.2, Z x) → (∀ x ∈ (l.foldl loS s).1, Z x) ∧ ∀ x ∈ (l.foldl loS s).2, Z x
  | [], s, _, h1, h2 => ⟨h1, h2⟩
  | p :: l, s, h, h1, h2 => by
    rw [List.foldl_cons]
    have hp := h p List.mem_cons_self
    have app : ∀ r : List α, (∀ x ∈ r, Z x) → ∀ x ∈ r ++ [p.2], Z x := fun r hr x hx => by
      rcases List.mem_append.mp hx with q | q
      · exact hr x q
      · rw [List.mem_singleton.mp q]; exact hp
    refine lo_mem Z l (loS s p) (fun q hq => h q (List.mem_cons_of_mem _ hq)) (fun x hx => ?_) fun x hx => ?_
    · unfold loS at hx
      split at hx
      · exact h1 x hx
      · split at hx
        · exact app _ h1 x hx
        · exact h1 x hx
    · unfold loS at hx
      split at hx
      · exact app _ h2 x hx
      · split at hx
        · exact h2 x hx
        · exact h2 x ((List.dropLast_sublist _).subset hx)
def natL (l : List Nat) : List PyData := l.map fun k => PyData.int (k : Nat)
/-- what a comparison of data wants: k levels -/
def Sm (k : Nat) (d : PyData) : Prop := d.canLay0 = true ∧ d.depth ≤ k
theorem Sm.int {k : Nat} {i : Int} (h : 1 ≤ k) : Sm k (.int i) := ⟨by simp [PyData.canLay0], by simp only [PyData.depth]; omega⟩
theorem Sm.non {k : Nat} (h : 1 ≤ k) : Sm k .none := ⟨by simp [PyData.canLay0], by simp only [PyData.depth]; omega⟩
theorem sm_all {k : Nat} : ∀ {xs : List PyData}, (∀ x ∈ xs, Sm k x) → PyData.canLayAll0 xs = true ∧ PyData.depthAll xs ≤ k
  | [], _ => ⟨by simp [PyData.canLayAll0], by simp [PyData.depthAll]⟩
  | x :: xs, h => by
    obtain ⟨h1, h2⟩ := sm_all (xs := xs) fun y hy => h y (List.mem_cons_of_mem _ hy)
    obtain ⟨h3, h4⟩ := h x List.mem_cons_self
    refine ⟨by simp [PyData.canLayAll0, h1, h3], ?_⟩
    simp only [PyData.depthAll]
    omega
theorem Sm.list {k : Nat} {xs : List PyData} (h : ∀ x ∈ xs, Sm k x) : Sm (k + 1) (.list xs) := by
  obtain ⟨h1, h2⟩ := sm_all h
  exact ⟨by simp only [PyData.canLay0]; exact h1, by simp only [PyData.depth]; omega⟩
theorem Sm.tuple {k : Nat} {xs : List PyData} (h : ∀ x ∈ xs, Sm k x) : Sm (k + 1) (.tuple xs) := by
  obtain ⟨h1, h2⟩ := sm_all h
  exact ⟨by simp only [PyData.canLay0]; exact h1, by simp only [PyData.depth]; omega⟩
theorem Sm.sh {k : Nat} {d : PyData} (h : Sm k d) (hk : k ≤ 64) : SeqAt.shaped d = true := by
  show (d.canLay0 && decide (d.depth ≤ 64)) = true
  rw [Bool.and_eq_true]
  exact ⟨h.1, decide_eq_true (Nat.le_trans h.2 hk)⟩
theorem sm_nats (l : List Nat) : Sm 2 (.list (natL l)) := .list fun x hx => by
  obtain ⟨k, _, rfl⟩ := List.mem_map.mp hx
  exact .int (Nat.le_refl 1)
theorem sh_nats (l : List Nat) : SeqAt.shaped (.list (natL l)) = true := (sm_nats l).sh (by decide)
theorem eqv_nil {a : PyData} {l : List PyData} : PyData.eqv (.list (a :: l)) (.list []) = false := rfl
def posL {α : Type} (l : List (Bool × α)) : List (Bool × Nat) := (List.range l.length).zip l |>.map fun p => (p.2.1, p.1)
theorem posL_at {α : Type} {l : List (Bool × α)} {i : Nat} {p : Bool × α} (h : l[i]? = some p) : (posL l)[i]? = some (p.1, i) := by
  unfold posL
  have hl : i < l.length := (List.getElem?_eq_some_iff.mp h).1
  rw [List.getElem?_map, List.getElem?_zip_eq_some (z := (i, p)).mpr ⟨List.getElem?_range hl, h⟩]
  rfl
def A_free : AD := fnA (fun L : List (Bool × PyData) => [.list (L.map fun p => plE p.1 p.2)]) (fun L => L.length ≤ 2000) fun L => .tuple [.list (natL (lo (posL L)).1), .list (natL (lo (posL L)).2)]
theorem sc_free_numbers : FnScope ["row", "closing", "opening", "number", "item"] ["row"] (defScope s_free_numbers) := ⟨rfl, rfl, rfl, by decide +kernel, rfl, by decide +kernel, by decide +kernel⟩
theorem ok_free_numbers {P : Program} {w : World} {K : PySem.W.Frag} {mg : Str → Option Value} {base : Heap}  (T : Tx K mg)   : Cal P w K mg base 1 "free_numbers" (spG A_free) := by
  obtain ⟨fd, F⟩ := T.sd.def_ 19 (d := d_free_numbers) rfl
  have S := sc_free_numbers
  refine ⟨⟨fd, ["row"], ok_pure (k := 0) F S (fnA_len fun _ => rfl) (fun cd Ar outer s H E xs W hr h => ?_), F.bindsN fun _ _ _ _ _ _ us hl => match us, hl with | [_], _ => rfl⟩, T.g 19, F.kp⟩
  obtain ⟨L, e, pr, h⟩ := h
  subst e
  refine ⟨_, (pss_cons (ps_par (i := 1) (j := 2) (by rfl) S.nd rfl rfl (by decide) rfl rfl (pa_cons (pe_lst pa_nil) (pa_cons (pe_lst pa_nil) pa_nil)) (by rfl)) (pss_cons (ps_for PassesOwn.never rfl (pi_enum (by rfl) (T.n 82) (pa_cons (pv 0) pa_nil)) (pg_tup (by rfl) (pgs_cons (pg_name (i := 3) S.nd rfl (by first | exact Or.inl rfl | exact Or.inr rfl)) (pgs_cons (pg_name (i := 4) S.nd rfl (by first | exact Or.inl rfl | exact Or.inr rfl)) pgs_nil))) (pss_one (ps_if (pt_cmpR op_eq (pe_ix ix_tup (pv 4) pe_int fun _ _ => rfl) pe_str (nomark _)) (pss_one (ps_expr (pe_bm PySem.F.plainAttrs_list PySem.F.slot_list_append PySem.F.type_list_append mt_append (pv 2) (pa_cons (pv 3) pa_nil)))) (pss_one (ps_if (pt_cmpR (op_neD hr.units) (pv 2) (pe_lst pa_nil) (nomark _)) (pss_one (ps_expr (pe_bm0 PySem.F.plainAttrs_list PySem.F.slot_list_pop PySem.F.type_list_pop mt_pop (pv 2)))) (pss_one (ps_expr (pe_bm PySem.F.plainAttrs_list PySem.F.slot_list_append PySem.F.type_list_append mt_append (pv 1) (pa_cons (pv 3) pa_nil))))))))) (pss_one (ps_ret (pe_tupZ (pa_cons (pv 1) (pa_cons (pv 2) pa_nil))))))), ?_⟩
  show StD none _ _ [Ent.dat _, Ent.no, Ent.no, Ent.no, Ent.no]
  try dsimp only at h pr ⊢
  have pl : (posL L).length = L.length := by
    unfold posL
    rw [List.length_map, List.length_zip, List.length_range, Nat.min_self]
  walk_at "d"
  refine st_for (Pd := DaP) ?_
  walk_at "d"
  refine ⟨fun i ds => ∃ a b, ds = [Ent.dat (.list (L.map fun p => plE p.1 p.2)), Ent.own (natL (lo ((posL L).take i)).1), Ent.own (natL (lo ((posL L).take i)).2), a, b], ⟨_, _, rfl⟩, fun i d ds2 e1 iv2 => ?_, fun ds2 iv2 => ?_⟩
  · obtain ⟨a, b, rfl⟩ := iv2
    obtain ⟨p, hp, rfl⟩ := map_at e1
    obtain ⟨h1, h2⟩ := zip_at hp
    obtain ⟨hi, q1⟩ := range_at h1
    obtain ⟨q, hq, q2⟩ := map_at h2
    have hst := lo_step (posL_at hq)
    have fw := lo_few ((posL L).take i) ([], [])
    have f1 : (lo ((posL L).take i)).1.length ≤ 2000 := Nat.le_trans fw.1 (by rw [List.length_take]; show 0 + _ ≤ _; omega)
    have f2 : (lo ((posL L).take i)).2.length ≤ 2000 := Nat.le_trans fw.2 (by rw [List.length_take]; show 0 + _ ≤ _; omega)
    rw [q1, q2]
    obtain ⟨qb, qd⟩ := q
    have cp : ∀ (l : List Nat) (k : Nat), natL (l ++ [k]) = natL l ++ [.int (k : Nat)] := fun l k => by
      unfold natL
      rw [List.map_append]
      rfl
    cases qb with
    | true =>
      walk_at "d"
      refine ⟨by unfold natL; rw [List.length_map]; exact Nat.le_trans f2 (by decide), ?_⟩
      dsimp only
      rw [hst]
      exact ⟨_, _, by rw [show loS (lo ((posL L).take i)) ((true, qd).1, i) = ((lo ((posL L).take i)).1, (lo ((posL L).take i)).2 ++ [i]) from rfl, cp]; rfl⟩
    | false =>
      walk_at "d"
      · exact sh_nats _
      cases hs : (lo ((posL L).take i)).2 with
      | nil =>
        have el : loS (lo ((posL L).take i)) ((false, qd).1, i) = ((lo ((posL L).take i)).1 ++ [i], []) := by
          unfold loS
          rw [hs]
          rfl
        walk_at "d"
        refine ⟨by unfold natL; rw [List.length_map]; exact Nat.le_trans f1 (by decide), ?_⟩
        dsimp only
        rw [hst, el]
        exact ⟨_, _, by rw [cp]; rfl⟩
      | cons c r =>
        have el : loS (lo ((posL L).take i)) ((false, qd).1, i) = ((lo ((posL L).take i)).1, (c :: r).dropLast) := by
          unfold loS
          rw [hs]
          rfl
        walk_at "d"
        · exact fun z => by cases z
        dsimp only
        rw [hst, el]
        exact ⟨_, _, by
          show _ = [_, _, Ent.own (natL (c :: r).dropLast), _, _]
          unfold natL
          rw [List.map_dropLast]
          rfl⟩
  · obtain ⟨a, b, rfl⟩ := iv2
    have el : List.take (((List.range (List.map (fun p => plE p.1 p.2) L).length).zip (List.map (fun p => plE p.1 p.2) L)).map fun p => PyData.tuple [.int (p.1 : Nat), p.2]).length (posL L) = posL L := by
      refine List.take_of_length_le ?_
      rw [List.length_map, List.length_zip, List.length_range, Nat.min_self, List.length_map, pl]
      exact Nat.le_refl _
    rw [el]
    refine st_freeze (i := 1) rfl ?_
    refine st_freeze (i := 2) rfl ?_
    walk_at "d"
    exact h
end JR
set_option Elab.async false
set_option linter.all false
set_option maxRecDepth 100000
set_option maxHeartbeats 4000000
/-! The errors: their making, their fields. -/
namespace JR
open PySem PySem.Spec L2
section
variable {K : PySem.W.Frag}
theorem and2 {a b : Bool} (h : (a && b) = true) : a = true ∧ b = true := Bool.and_eq_true_iff.mp h
theorem oex_of {C : Addr} (h : oexB K C = true) : ∃ nm q N bs bm sn sub ab col dd k0 k1 k2 k3 k5, K.lookup C = some (excClassObj nm q C N bs bm true sn sub ab col dd k0 k1 k2 k3 k5 "ValueError.__new__") ∧ PySem.HandSPX.refsVE bm = true := by
  unfold oexB at h
  split at h
  · rename_i dd cd sl e
    split at h
    · rename_i C' bm k0 k1 k2 k3 n k5 em es
      obtain ⟨h1, h⟩ := and2 h
      obtain ⟨h2, h⟩ := and2 h
      obtain ⟨h3, h⟩ := and2 h
      obtain ⟨h4, h5⟩ := and2 h
      obtain ⟨nm, bs, mro, ns, qn, hd, sn, sb, ab, col, del⟩ := cd
      have e1 : C' = C := beq_iff_eq.mp h1
      have e2 : n = "ValueError.__new__" := beq_iff_eq.mp h2
      have em : mro = .ref C' :: bm := em
      have h3 : (!del) = true := h3
      have h4 : hd = true := h4
      have es : sl = #[k0, k1, k2, k3, some (.builtin n), k5] := by rw [← Array.toList_inj]; exact es
      subst e1 e2 em h4 es
      cases del with
      | true => cases h3
      | false => exact ⟨nm, qn, ns, bs, bm, sn, sb, ab, col, dd, k0, k1, k2, k3, k5, e, h5⟩
    · cases h
  · cases h
/-- what is known of an error's class -/
structure ErC (K : PySem.W.Frag) (x : Str) : Prop where
  oex : OexC K (He.ga K x)
  xf : XfC K (He.ga K x)
  ini : PySem.W.findIn K (.ref (He.ga K x)) "__init__" = some (some (.ref (He.ma K (He.ga K x) "__init__")))
  fnI : PySem.W.typeIn K (.ref (He.ma K (He.ga K x) "__init__")) = some (.type "function")
theorem er_of {x : Str} (h : errB K x = true) : ErC K x := by
  obtain ⟨h1, h⟩ := and2 h
  obtain ⟨h2, h⟩ := and2 h
  obtain ⟨h3, h⟩ := and2 h
  obtain ⟨h4, h⟩ := and2 h
  obtain ⟨h5, h⟩ := and2 h
  obtain ⟨h6, h7⟩ := and2 h
  have xf := xfB_ok h3
  exact ⟨⟨oex_of h1, of_decide_eq_true h2, xf.exC, of_decide_eq_true h4, h5⟩, xf, of_decide_eq_true h6, of_decide_eq_true h7⟩
theorem no_of {x f : Str} (h : noB K x f = true) : PySem.W.findIn K (.ref (He.ga K x)) f = some none := of_decide_eq_true h
structure UnC (K : PySem.W.Frag) : Prop where
  rd : PySem.W.readsIn K (He.ga K "UnitError") (.type "type") = true
  sp : PySem.W.specialIn K (.ref (He.ga K "UnitError")) "__getattribute__" = some (some (.builtin "type.__getattribute__"))
  fc : PySem.W.findCls K (.ref (He.ga K "UnitError")) (.type "type") "__init__" = some (.val (.builtin "ValueError.__init__"))
theorem un_of (h : unitB K = true) : UnC K := by
  obtain ⟨h1, h⟩ := and2 h
  obtain ⟨h2, h3⟩ := and2 h
  refine ⟨h1, of_decide_eq_true h2, ?_⟩
  split at h3
  · rename_i n e
    rw [e, show n = "ValueError.__init__" from beq_iff_eq.mp h3]
  · cases h3
structure Ers (K : PySem.W.Frag) : Prop where
  bad : ErC K "BadTable"
  unl : ErC K "Unlike"
  nof : ErC K "NoFree"
  bv : PySem.W.findIn K (.ref (He.ga K "BadTable")) "value" = some none
  uc : PySem.W.findIn K (.ref (He.ga K "Unlike")) "content" = some none
  ng : PySem.W.findIn K (.ref (He.ga K "NoFree")) "giver" = some none
  nt : PySem.W.findIn K (.ref (He.ga K "NoFree")) "taker" = some none
  un : UnC K
theorem Tx.ers {mg : Str → Option Value} (T : Tx K mg) : Ers K := by
  obtain ⟨h1, h⟩ := and2 T.ex
  obtain ⟨h2, h⟩ := and2 h
  obtain ⟨h3, h⟩ := and2 h
  obtain ⟨h4, h⟩ := and2 h
  obtain ⟨h5, h⟩ := and2 h
  obtain ⟨h6, h⟩ := and2 h
  obtain ⟨h7, h8⟩ := and2 h
  exact ⟨er_of h1, er_of h2, er_of h3, no_of h4, no_of h5, no_of h6, no_of h7, un_of h8⟩
end
/-- UnitError.__init__(self, ..) -/
theorem pe_uninit {X : Cx} {e : Expr} {es : List Expr} {ta : TA} {p1 p2 pos : Pos} {pl : Sem Bool} (U : UnC X.K) (hg : Gl X "UnitError") (hm : X.mg "UnitError" = some (.ref (He.ga X.K "UnitError"))) (ha : PA X (e :: es) ta)
    (hc : eval (.Call (.Attribute (.Name "UnitError" p1) "__init__" p2) (e :: es) [] pos) X.env = (do
      let ov ← eval (.Name "UnitError" p1) X.env
      standAt p2.atName
      let (f, first) ← holding [ov] (getMethod ov "__init__" pl)
      callWith pos f first (backTo pos (starEach (e :: es) X.env)) (backToKw pos (keywordEach [] X.env))) := by rfl)
    (he : starEach (e :: es) X.env = (false, eval e X.env) :: starEach es X.env := by rfl) (hpl : (backTo pos (starEach es X.env)).any (·.1) = false := by rfl) :
    PE X (.Call (.Attribute (.Name "UnitError" p1) "__init__" p2) (e :: es) [] pos) (tVeI X.K ta) := ⟨fun pins s σ H Q I h => by
  refine PySem.W.methodCall_KW (ld_glob I hg hm ?_ (by decide)) hc
  refine PySem.W.method_cls I.kIn U.sp (PySem.W.cls_value I.kIn U.rd U.fc (by decide +kernel) ?_)
  show wpAny _ _ (callWith pos (Value.builtin "ValueError.__init__") [] (backTo pos (starEach (e :: es) X.env)) []) _ _ _
  refine PyProof.Rows.callWith_method1 (thn (ha.run pos pins _ σ H _ (I.tok _) h) fun us s1 q0 => ?_) he hpl
  obtain ⟨vs, H1, I1, r1, a, C, ws, ev, hl, T, ea, q⟩ := q0
  subst ev
  cases r1 with
  | @cons v0 u0 vr ur ra rr =>
    have eu : u0 = Value.ref a := ra
    subst eu
    refine oinit_ok T I1 ea (by rw [← Paired.length rr, sizeLine_eq]; omega) fun s' J => ⟨.non, H1, J, rfl, q⟩⟩
end JR
set_option Elab.async false
set_option linter.all false
set_option maxRecDepth 100000
set_option maxHeartbeats 4000000
/-! raise X(e, ..) over data; the errors' __init__. -/
namespace JR
open PySem PySem.Spec L2
def spI1 (K : PySem.W.Frag) (C : Addr) (f : Str) : Sp := fun vs H Q _ => ∃ (a : Addr) (y : V), vs = [.ref a, y] ∧ OexC K C ∧ H a = some (exo a C none) ∧ ∀ dx, H dx = none → dx ≠ a → Q .non (upd (upd H dx (exd dx [(f, y)])) a (exo a C (some dx)))
def spI2 (K : PySem.W.Frag) (C : Addr) (f g : Str) : Sp := fun vs H Q _ => ∃ (a : Addr) (y z : V), vs = [.ref a, y, z] ∧ OexC K C ∧ H a = some (exo a C none) ∧ ∀ dx, H dx = none → dx ≠ a → Q .non (upd (upd H dx (exd dx [(g, z), (f, y)])) a (exo a C (some dx)))
structure CalI (P : Program) (w : World) (K : PySem.W.Frag) (mg : Str → Option Value) (base : Heap) (k : Nat) (x : Str) (sp : Sp) : Prop where
  ex : ∃ (fd : FuncData) (ps : List Str), FnOk P w K mg base (L2.CX P w) k (He.ma K (He.ga K x) "__init__") fd ps sp ∧ Binds K fd ps []
theorem ps_rz {X : Cx} {W : WX} {x : Str} {k j : Nat} {sp : Sp} {p pos pos' : Pos} {e : Expr} {es : List Expr} {ta : TA} (c : CalI X.prog X.w X.K X.mg X.base k x sp) (R : ErC X.K x) (hc : X.calm = true) (tk : Takes X W) (hr : Room j X.A) (hk : k + 1 ≤ j) (hg : Gl X x)
    (hm : X.mg x = some (.ref (He.ga X.K x))) (ha : PA X (e :: es) ta) (hdb : (x == ("__debug__" : Str)) = false := by decide) (he : starEach (e :: es) X.env = (false, eval e X.env) :: starEach es X.env := by rfl) (hpl : (backTo pos (starEach es X.env)).any (·.1) = false := by rfl) :
    PS X (.Raise (some (.Call (.Name x p) (e :: es) [] pos)) none pos') (fun _ σ H => tMkO (He.ga X.K x) sp [] ta σ H fun cls d H' => W cls d σ H') := by
  obtain ⟨fd, ps, F, b⟩ := c
  exact ps_raise hc tk (pmk_oex R.oex R.ini R.fnI F (hr.mono hk) b .nil passN hg hm ha hdb he hpl)
theorem made_heap {H : Hp} {a dx C : Addr} {fs : List (Str × V)} (na : H a = none) (ne : dx ≠ a) :
    upd (del (upd (upd (upd H a (exo a C none)) dx (exd dx fs)) a (exo a C (some dx))) a) dx (.xd fs) = upd H dx (.xd fs) := by
  funext b
  by_cases h1 : b = dx
  · rw [h1, upd_same, upd_same]
  · rw [upd_ne h1, upd_ne h1]
    by_cases h2 : b = a
    · rw [h2, del_same, na]
    · rw [del_ne h2, upd_ne h2, upd_ne h1, upd_ne h2]
section
variable {S : SA} {ds : List Ent} {E : DEnds} {K : PySem.W.Frag} {x f g : Str} {ta : TA}
theorem lk1 {F : Hp} {y : V} {d : PyData} (h : Da F y d) : DaFs F [(f, y)] [(f, d)] := fun k e q => by
  by_cases z : k = f
  · subst z
    have q' : (if k = k then some d else ([] : List (Str × PyData)).lookup k) = some e := by
      rw [← q]
      simp [List.lookup]
    rw [if_pos rfl] at q'
    cases q'
    exact ⟨y, by simp [List.lookup], h⟩
  · have e1 : (k == f) = false := by simpa using z
    simp [List.lookup, e1] at q
theorem st_rz1 (T : OexC K (He.ga K x)) (hcl : E.cl x = .ref (He.ga K x)) (h : EvA S ta ds fun ds1 xs => ∃ d, xs = [d] ∧ E.xc ds1 x [(f, d)]) :
    StD S (fun _ σ H => tMkO (He.ga K x) (spI1 K (He.ga K x) f) [] ta σ H fun cls d H' => E.xw cls d σ H') E ds := fun H0 F0 F H σ D X I gd =>
  h H0 F H σ _ I fun vs F1 H1 ds1 xs x1 I1 a1 ⟨d, e, w⟩ => by
    subst e
    cases a1 with
    | @cons y _ _ _ ay r =>
      cases r
      refine ⟨Nat.le_of_ble_eq_true rfl, fun a na => ⟨a, y, rfl, T, upd_same, fun dx ndx ne => ⟨rfl, dx, [(f, y)], upd_same, by rw [upd_ne ne, upd_same], ?_, ?_⟩⟩⟩
      · rw [upd_ne ne] at ndx; exact ndx
      · rw [upd_ne ne] at ndx
        rw [made_heap na ne, ← hcl]
        have X1 := Ext.new (o := .xd [(f, y)]) I1.fh ndx
        exact gd.xe _ _ σ ds1 x dx _ [(f, d)] ((X.step I x1).step I1 X1.pure) (I1.pure X1) upd_same (lk1 (ay.mono X1.ff)) w
theorem st_rz2 (T : OexC K (He.ga K x)) (hcl : E.cl x = .ref (He.ga K x)) (h : EvA S ta ds fun ds1 xs => xs.length = 2 ∧ E.xc ds1 x []) :
    StD S (fun _ σ H => tMkO (He.ga K x) (spI2 K (He.ga K x) f g) [] ta σ H fun cls d H' => E.xw cls d σ H') E ds := fun H0 F0 F H σ D X I gd =>
  h H0 F H σ _ I fun vs F1 H1 ds1 xs x1 I1 a1 ⟨hl, w⟩ => by
    match xs, hl with
    | [d1, d2], _ =>
      cases a1 with
      | @cons y _ _ _ ay r =>
        cases r with
        | @cons z _ _ _ az r =>
          cases r
          refine ⟨Nat.le_of_ble_eq_true rfl, fun a na => ⟨a, y, z, rfl, T, upd_same, fun dx ndx ne => ⟨rfl, dx, [(g, z), (f, y)], upd_same, by rw [upd_ne ne, upd_same], ?_, ?_⟩⟩⟩
          · rw [upd_ne ne] at ndx; exact ndx
          · rw [upd_ne ne] at ndx
            rw [made_heap na ne, ← hcl]
            have X1 := Ext.new (o := .xd [(g, z), (f, y)]) I1.fh ndx
            exact gd.xe _ _ σ ds1 x dx _ [] ((X.step I x1).step I1 X1.pure) (I1.pure X1) upd_same (fun k e q => by cases q) w
end
/-! ### the three __init__ -/
section
variable {P : Program} {w : World} {K : PySem.W.Frag} {mg : Str → Option Value} {base : Heap}
theorem sc_BadTable : FnScope ["self", "value"] ["self", "value"] (defScope s_BadTable) := ⟨rfl, rfl, rfl, by decide +kernel, rfl, by decide +kernel, by decide +kernel⟩
theorem sc_Unlike : FnScope ["self", "content"] ["self", "content"] (defScope s_Unlike) := ⟨rfl, rfl, rfl, by decide +kernel, rfl, by decide +kernel, by decide +kernel⟩
theorem sc_NoFree : FnScope ["self", "giver", "taker"] ["self", "giver", "taker"] (defScope s_NoFree) := ⟨rfl, rfl, rfl, by decide +kernel, rfl, by decide +kernel, by decide +kernel⟩
theorem ci_BadTable (T : Tx K mg) : CalI P w K mg base 1 "BadTable" (spI1 K (He.ga K "BadTable") "value") := by
  obtain ⟨fd, F⟩ := T.sd.def_ 64 (d := d_BadTable) rfl
  refine ⟨fd, ["self", "value"], F.ok (k := 0) sc_BadTable (fun vs H Q E ⟨a, y, e, _⟩ => by rw [e]; rfl) (fun cdv Ar outer s H vs Q E hr ⟨a, y, e, O, ha, q⟩ => ?_), F.bindsN fun _ _ _ _ _ _ us hl => match us, hl with | [_, _], _ => rfl⟩
  subst e
  refine ⟨_, PSs.nox (pss_cons (ps_expr (pe_uninit T.ers.un (by rfl) (T.g 68) (pa_cons (pv 0) (pa_cons pe_str pa_nil)))) (pss_one (ps_ost (pv 0) (pv 1)))), ?_⟩
  exact ⟨_, rfl, a, _, _, rfl, by decide, O, ha, _, rfl, _, rfl, a, _, rfl, O, T.ers.bv, .inl ⟨ha, fun dx n ne => q dx n ne⟩⟩
theorem ci_Unlike (T : Tx K mg) : CalI P w K mg base 1 "Unlike" (spI1 K (He.ga K "Unlike") "content") := by
  obtain ⟨fd, F⟩ := T.sd.def_ 65 (d := d_Unlike) rfl
  refine ⟨fd, ["self", "content"], F.ok (k := 0) sc_Unlike (fun vs H Q E ⟨a, y, e, _⟩ => by rw [e]; rfl) (fun cdv Ar outer s H vs Q E hr ⟨a, y, e, O, ha, q⟩ => ?_), F.bindsN fun _ _ _ _ _ _ us hl => match us, hl with | [_, _], _ => rfl⟩
  subst e
  refine ⟨_, PSs.nox (pss_cons (ps_expr (pe_uninit T.ers.un (by rfl) (T.g 68) (pa_cons (pv 0) (pa_cons pe_str pa_nil)))) (pss_one (ps_ost (pv 0) (pv 1)))), ?_⟩
  exact ⟨_, rfl, a, _, _, rfl, by decide, O, ha, _, rfl, _, rfl, a, _, rfl, O, T.ers.uc, .inl ⟨ha, fun dx n ne => q dx n ne⟩⟩
theorem ci_NoFree (T : Tx K mg) : CalI P w K mg base 1 "NoFree" (spI2 K (He.ga K "NoFree") "giver" "taker") := by
  obtain ⟨fd, F⟩ := T.sd.def_ 66 (d := d_NoFree) rfl
  refine ⟨fd, ["self", "giver", "taker"], F.ok (k := 0) sc_NoFree (fun vs H Q E ⟨a, y, z, e, _⟩ => by rw [e]; rfl) (fun cdv Ar outer s H vs Q E hr ⟨a, y, z, e, O, ha, q⟩ => ?_), F.bindsN fun _ _ _ _ _ _ us hl => match us, hl with | [_, _, _], _ => rfl⟩
  subst e
  refine ⟨_, PSs.nox (pss_cons (ps_expr (pe_uninit T.ers.un (by rfl) (T.g 68) (pa_cons (pv 0) (pa_cons pe_str pa_nil)))) (pss_cons (ps_ost (pv 0) (pv 1)) (pss_one (ps_ost (pv 0) (pv 2))))), ?_⟩
  refine ⟨_, rfl, a, _, _, rfl, by decide, O, ha, _, rfl, _, rfl, a, _, rfl, O, T.ers.ng, .inl ⟨ha, fun dx n ne => ?_⟩⟩
  refine ⟨_, rfl, _, rfl, a, _, rfl, O, T.ers.nt, .inr ⟨dx, [("giver", y)], upd_same, by rw [upd_ne ne, upd_same], Nat.le_of_ble_eq_true rfl, ?_⟩⟩
  have e : upd (upd (upd H dx (exd dx [("giver", y)])) a (exo a (He.ga K "NoFree") (some dx))) dx (exd dx [("taker", z), ("giver", y)]) = upd (upd H dx (exd dx [("taker", z), ("giver", y)])) a (exo a (He.ga K "NoFree") (some dx)) := by
    funext b
    by_cases h1 : b = dx
    · rw [h1, upd_same, upd_ne ne, upd_same]
    · rw [upd_ne h1]
      by_cases h2 : b = a
      · rw [h2, upd_same, upd_same]
      · rw [upd_ne h2, upd_ne h2, upd_ne h1, upd_ne h1]
  show Q .non (upd (upd (upd H dx (exd dx [("giver", y)])) a (exo a (He.ga K "NoFree") (some dx))) dx (exd dx [("taker", z), ("giver", y)]))
  rw [e]
  exact q dx n ne
end
end JR
set_option pp.maxSteps 2500
set_option Elab.async false
set_option linter.all false
set_option maxRecDepth 100000
set_option maxHeartbeats 2000000
namespace JR
open PySem PySem.Spec L2 RZ
local macro_rules
  | `(tactic| walk_at "s") => `(tactic| first
    | ((with_reducible apply ev_var); exact rfl) | with_reducible refine ev_isiI ?_ | with_reducible refine ev_isiB ?_ | with_reducible refine ev_isiT ?_ | with_reducible refine ev_isiS ?_ | ((with_reducible refine st_append ?_ ?_); rotate_left; exact ⟨_, rfl⟩) | ((with_reducible apply st_pop); exact rfl) | ((with_reducible apply et_ownNe); exact rfl) | ((with_reducible apply op_i); exact rfl) | ((with_reducible apply it_rgV); exact rfl) | ((with_reducible apply op_inW); exact rfl) | ((with_reducible apply op_ixT); exact rfl) | ((with_reducible apply op_ixL); exact rfl) | ((with_reducible refine And.intro (le_lit ?_) ?_); exact rfl) | ((with_reducible apply op_b); exact rfl) | ((with_reducible apply tc_name); decide) | ((with_reducible apply tc_tup); exact rfl) | ((with_reducible apply tg_tup); exact rfl) | ((with_reducible apply tg_tupD); exact rfl) | ((with_reducible apply tc_tupD); exact rfl)
    | with_reducible refine st_seq ?_ | with_reducible refine st_ret ?_ | with_reducible refine st_next ?_ | with_reducible refine st_if ?_ | with_reducible refine st_par_own2 ?_ | with_reducible refine st_par_own ?_ | with_reducible refine st_rng ?_ | with_reducible refine st_par ?_ | with_reducible refine st_own ?_ | with_reducible refine st_asg ?_ | with_reducible refine st_unpack ?_ | with_reducible refine st_drop ?_ | with_reducible refine st_break ?_ | with_reducible refine ev_int ?_ | with_reducible refine ev_str ?_ | with_reducible refine ev_bl ?_ | with_reducible refine ev_non ?_ | with_reducible refine ev_op ?_ | with_reducible refine ev_un ?_ | with_reducible refine ev_if ?_ | with_reducible refine ev_andV ?_ | with_reducible refine ev_orV ?_ | with_reducible refine ev_notV ?_ | with_reducible refine ev_tup ?_ | with_reducible refine ev_lst ?_ | with_reducible refine ea_nil ?_ | with_reducible refine ea_cons ?_ | with_reducible refine ev_call ?_ | with_reducible refine ev_callN ?_ | with_reducible refine ev_cb ?_ | with_reducible refine ev_sl ?_ | with_reducible refine eo_none ?_ | with_reducible refine eo_some ?_ | with_reducible refine ev_revL ?_ | with_reducible refine ev_revT ?_ | with_reducible refine evn_lrg ?_ | with_reducible refine ev_bmT ?_ | with_reducible refine et_test ?_ | with_reducible refine et_B ?_ | with_reducible refine et_and ?_ | with_reducible refine et_or ?_ | with_reducible refine et_not ?_ | with_reducible refine et_yes ?_ | with_reducible refine ev_chain ?_ | with_reducible refine op_eqI ?_ | with_reducible refine op_neI ?_ | with_reducible refine op_eqS ?_ | with_reducible refine op_neS ?_ | with_reducible refine op_eqB ?_ | with_reducible refine op_neB ?_ | with_reducible refine op_inIn ?_ | with_reducible refine ud_neg ?_ | with_reducible refine op_is ?_ | with_reducible refine op_isnt ?_ | with_reducible refine cb_lenL ?_ | with_reducible refine cb_lenT ?_ | with_reducible refine cb_listT ?_ | with_reducible refine cb_listL ?_ | with_reducible refine cb_tupL ?_ | with_reducible refine cb_int ?_ | with_reducible refine cb_max2 ?_ | with_reducible refine cb_min2 ?_ | with_reducible refine it_list ?_ | with_reducible refine it_tup ?_ | with_reducible refine itn_1 ?_ | with_reducible refine it_rng2 ?_ | with_reducible refine it_rev ?_ | with_reducible refine itn_rev ?_ | with_reducible refine it_enum ?_ | with_reducible refine it_enumT ?_ | with_reducible refine it_zipT ?_ | with_reducible refine tcs_cons ?_ | with_reducible refine tcs_nil ?_ | with_reducible refine tg_name ?_ | with_reducible refine tgs_cons ?_ | with_reducible refine tgs_nil ?_
    | with_reducible refine ⟨_, rfl, ?_⟩
    | with_reducible refine ⟨_, _, rfl, ?_⟩
    | refine and_T ?_ | refine and_F ?_)
  | `(tactic| walk_at "d") => `(tactic| repeat walk_at "s")
/-! ### the changed member -/
theorem ud_neg {i : Int} {W : PyData → Prop} (w : W (.int (-i))) : UnD (rU fun i => .int (-i)) (.int i) W := fun F H x Q s a q => ⟨i, a.int_inv, q _ F H _ (Ext.refl s) (.int _) w⟩
abbrev IMs : Type := List Int × List (List Int)
def mvM (sg : Bool) (g t : Int) (m : List Int) (ms : List (List Int)) : Option IMs :=
  let r := lo (plL sg (if t < g then t else g) (if t > g then t else g) m ms)
  if g < t then r.2.head? else r.1.getLast?
def optE : Option IMs → PyData
  | none => .none
  | some q => memE q.1 q.2
theorem posL_nat {α β : Type} (f : α → β) (l : List (Bool × α)) : posL (l.map fun p => (p.1, f p.2)) = posL l := by
  unfold posL
  rw [List.length_map]
  apply List.ext_getElem?
  intro i
  rw [List.getElem?_map, List.getElem?_map]
  by_cases h : i < l.length
  · rw [List.getElem?_zip_eq_some (z := (i, (l[i].1, f l[i].2))).mpr ⟨List.getElem?_range h, by rw [List.getElem?_map, List.getElem?_eq_getElem h]; rfl⟩, List.getElem?_zip_eq_some (z := (i, l[i])).mpr ⟨List.getElem?_range h, List.getElem?_eq_getElem h⟩]
    rfl
  · rw [List.getElem?_eq_none (by rw [List.length_zip, List.length_map, List.length_range]; omega), List.getElem?_eq_none (by rw [List.length_zip, List.length_range]; omega)]
    rfl
theorem posL_back {α : Type} (d0 : α) (l : List (Bool × α)) : (posL l).map (fun p => (p.1, ((l[p.2]?).map (·.2)).getD d0)) = l := by
  apply List.ext_getElem?
  intro i
  rw [List.getElem?_map]
  by_cases h : i < l.length
  · rw [posL_at (List.getElem?_eq_getElem h), List.getElem?_eq_getElem h]
    show some (l[i].1, ((l[i]?).map (·.2)).getD d0) = some l[i]
    rw [List.getElem?_eq_getElem h]
    rfl
  · have e : (posL l).length = l.length := by
      unfold posL
      rw [List.length_map, List.length_zip, List.length_range, Nat.min_self]
    rw [List.getElem?_eq_none (by rw [e]; omega), List.getElem?_eq_none (by omega)]
    rfl
theorem posL_lt {α : Type} (l : List (Bool × α)) : ∀ p ∈ posL l, p.2 < l.length := fun p hp => by
  unfold posL at hp
  obtain ⟨q, hq, rfl⟩ := List.mem_map.mp hp
  have := (List.of_mem_zip hq).1
  exact List.mem_range.mp this
theorem atI_lastD {α : Type} {xs : List α} {v : α} (h : xs.getLast? = some v) : atI xs (-1) = some v := by
  obtain ⟨ys, rfl⟩ := List.getLast?_eq_some_iff.mp h
  exact atI_last ys v
theorem TwoOk.min {n : Nat} {a b : Int} (_h : TwoOk n a b) : True := trivial
def A_mr : AD := fnA encM preM fun p => optE (mvM p.1.1 p.2.1 p.2.2 p.1.2.2.1 p.1.2.2.2)
theorem use_free {L : List (Bool × PyData)} {ys : List PyData} {W : PyData → Prop} (e : ys = L.map fun p => plE p.1 p.2) (h : L.length ≤ 2000) (q : W (.tuple [.list (natL (lo (posL L)).1), .list (natL (lo (posL L)).2)])) : A_free [.list ys] W := by
  rw [e]
  exact ⟨L, rfl, h, q⟩
theorem sc_moved_readings : FnScope ["many", "sort", "member", "giver", "taker", "row", "closing", "opening"] ["many", "sort", "member", "giver", "taker"] (defScope s_moved_readings) := ⟨rfl, rfl, rfl, by decide +kernel, rfl, by decide +kernel, by decide +kernel⟩
theorem ok_moved_readings {P : Program} {w : World} {K : PySem.W.Frag} {mg : Str → Option Value} {base : Heap}  (T : Tx K mg) (c_places : Cal P w K mg base 7 "places" (spG (A_pl 4))) (c_free_numbers : Cal P w K mg base 1 "free_numbers" (spG A_free))  : Cal P w K mg base 8 "moved_readings" (spG A_mr) := by
  obtain ⟨fd, F⟩ := T.sd.def_ 20 (d := d_moved_readings) rfl
  have S := sc_moved_readings
  refine ⟨⟨fd, ["many", "sort", "member", "giver", "taker"], ok_pure (k := 7) F S (fnA_len fun _ => rfl) (fun cd Ar outer s H E xs W hr h => ?_), F.bindsN fun _ _ _ _ _ _ us hl => match us, hl with | [_, _, _, _, _], _ => rfl⟩, T.g 20, F.kp⟩
  obtain ⟨⟨⟨sg, n, m, ms⟩, g, t⟩, e, pr, h⟩ := h
  subst e
  refine ⟨_, (pss_cons (ps_set (i := 5) S.nd rfl (by first | exact Or.inl rfl | exact Or.inr rfl) (pe_cl c_places hr (by omega) (by rfl) (pa_cons (pv 0) (pa_cons (pv 1) (pa_cons (pv 2) (pa_cons (pe_callB (call_min2 rfl) (by rfl) (T.n 77) (by decide +kernel) (pa_cons (pv 3) (pa_cons (pv 4) pa_nil))) (pa_cons (pe_callB (call_max2 rfl) (by rfl) (T.n 78) (by decide +kernel) (pa_cons (pv 3) (pa_cons (pv 4) pa_nil))) pa_nil))))))) (pss_cons (ps_asg (pe_cl c_free_numbers hr (by omega) (by rfl) (pa_cons (pv 5) pa_nil)) (pg_tup (by rfl) (pgs_cons (pg_name (i := 6) S.nd rfl (by first | exact Or.inl rfl | exact Or.inr rfl)) (pgs_cons (pg_name (i := 7) S.nd rfl (by first | exact Or.inl rfl | exact Or.inr rfl)) pgs_nil)))) (pss_cons (ps_if (pt_cmpR op_lt (pv 3) (pv 4) (nomark _)) (pss_one (ps_ret (pe_ifExp (pt_cmpR (op_neD hr.units) (pv 7) (pe_lst pa_nil) (nomark _)) (pe_ix ix_tup (pe_ix ix_list (pv 5) (pe_ix ix_list (pv 7) pe_int fun _ _ => rfl) fun _ _ => rfl) pe_int fun _ _ => rfl) pe_non))) pss_nil) (pss_one (ps_ret (pe_ifExp (pt_cmpR (op_neD hr.units) (pv 6) (pe_lst pa_nil) (nomark _)) (pe_ix ix_tup (pe_ix ix_list (pv 5) (pe_ix ix_list (pv 6) (pe_un un_neg pe_int) fun _ _ => rfl) fun _ _ => rfl) pe_int fun _ _ => rfl) pe_non)))))), ?_⟩
  show StD none _ _ [Ent.dat _, Ent.dat _, Ent.dat _, Ent.dat _, Ent.dat _, Ent.no, Ent.no, Ent.no]
  try dsimp only at h pr ⊢
  obtain ⟨h1, h2⟩ := pr
  have f3 : ms.length ≤ 3 := h1.few
  have few := plL_few (sg := sg) (low := if t < g then t else g) (high := if t > g then t else g) h1
  walk_at "d"
  refine use_pl h1 (by omega) ?_
  walk_at "d"
  unfold mvM at h
  generalize eP : plL sg (if t < g then t else g) (if t > g then t else g) m ms = P at h few
  walk_at "d"
  refine use_free (L := P.map fun p => (p.1, memE p.2.1 p.2.2)) (by rw [List.map_map]; try rfl) (by rw [List.length_map]; exact few) ?_
  rw [posL_nat (fun p : IMs => memE p.1 p.2)]
  have bk := posL_back (d0 := (([], []) : IMs)) P
  have nt := lo_nat (fun k => ((P[k]?).map (·.2)).getD (([], []) : IMs)) (posL P)
  rw [bk] at nt
  have mm := lo_mem (fun k => k < P.length) (posL P) ([], []) (posL_lt P) (fun x hx => absurd hx List.not_mem_nil) (fun x hx => absurd hx List.not_mem_nil)
  have item : ∀ k, k < P.length → ∃ q, P[k]? = some q ∧ ((P[k]?).map (·.2)).getD (([], []) : IMs) = q.2 := fun k hk => ⟨P[k], List.getElem?_eq_getElem hk, by rw [List.getElem?_eq_getElem hk]; rfl⟩
  rw [nt] at h
  have m1 : ∀ x ∈ (lo (posL P)).1, x < P.length := mm.1
  have m2 : ∀ x ∈ (lo (posL P)).2, x < P.length := mm.2
  generalize lo (posL P) = r at h m1 m2
  obtain ⟨r1, r2⟩ := r
  walk_at "d"
  refine ⟨fun e => ?_, fun e => ?_⟩
  · rw [if_pos (of_decide_eq_true e)] at h
    cases r2 with
    | nil =>
      walk_at "d"
      refine op_ned (sh_nats _) (by decide) ?_
      walk_at "d"
      exact h
    | cons k r2 =>
      obtain ⟨q, hq, eq⟩ := item k (m2 k List.mem_cons_self)
      have h : W (optE (some (((P[k]?).map (·.2)).getD ([], [])))) := h
      rw [eq] at h
      walk_at "d"
      refine op_ned (sh_nats _) (by decide) ?_
      walk_at "d"
      refine op_ixL (d := .int (k : Nat)) (atI_nat' (by decide) rfl) ?_
      walk_at "d"
      refine op_ixL (d := encP q) (atI_nat' (by omega) (by rw [Int.toNat_natCast, List.getElem?_map, hq]; rfl)) ?_
      walk_at "d"
      exact h
  · rw [if_neg (of_decide_eq_false e)] at h
    walk_at "d"
    refine op_ned (sh_nats _) (by decide) ?_
    walk_at "d"
    cases hr : r1.getLast? with
    | none =>
      have e0 := List.getLast?_eq_none_iff.mp hr
      subst e0
      walk_at "d"
      exact h
    | some k =>
      have hk : k ∈ r1 := List.mem_of_getLast? hr
      obtain ⟨q, hq, eq⟩ := item k (m1 k hk)
      have e3 : ((r1.map fun k => ((P[k]?).map (·.2)).getD (([], []) : IMs)).getLast?) = some q.2 := by
        rw [List.getLast?_map, hr]
        exact congrArg some eq
      rw [e3] at h
      refine brT ?_ ?_
      · cases r1 with
        | nil => cases hr
        | cons a r1 => rfl
      · walk_at "d"
        refine ud_neg ?_
        refine op_ixL (d := .int (k : Nat)) (atI_lastD (by unfold natL; rw [List.getLast?_map, hr]; rfl)) ?_
        walk_at "d"
        refine op_ixL (d := encP q) (atI_nat' (by omega) (by rw [Int.toNat_natCast, List.getElem?_map, hq]; rfl)) ?_
        walk_at "d"
        exact h
end JR
set_option pp.maxSteps 2500
set_option Elab.async false
set_option linter.all false
set_option maxRecDepth 100000
set_option maxHeartbeats 2000000
namespace JR
open PySem PySem.Spec L2 RZ
local macro_rules
  | `(tactic| walk_at "s") => `(tactic| first
    | ((with_reducible apply ev_var); exact rfl) | with_reducible refine ev_isiI ?_ | with_reducible refine ev_isiB ?_ | with_reducible refine ev_isiT ?_ | with_reducible refine ev_isiS ?_ | ((with_reducible refine st_append ?_ ?_); rotate_left; exact ⟨_, rfl⟩) | ((with_reducible apply st_pop); exact rfl) | ((with_reducible apply et_ownNe); exact rfl) | ((with_reducible apply op_i); exact rfl) | ((with_reducible apply it_rgV); exact rfl) | ((with_reducible apply op_inW); exact rfl) | ((with_reducible apply op_ixT); exact rfl) | ((with_reducible apply op_ixL); exact rfl) | ((with_reducible refine And.intro (le_lit ?_) ?_); exact rfl) | ((with_reducible apply op_b); exact rfl) | ((with_reducible apply tc_name); decide) | ((with_reducible apply tc_tup); exact rfl) | ((with_reducible apply tg_tup); exact rfl) | ((with_reducible apply tg_tupD); exact rfl) | ((with_reducible apply tc_tupD); exact rfl)
    | with_reducible refine st_seq ?_ | with_reducible refine st_ret ?_ | with_reducible refine st_next ?_ | with_reducible refine st_if ?_ | with_reducible refine st_par_own2 ?_ | with_reducible refine st_par_own ?_ | with_reducible refine st_rng ?_ | with_reducible refine st_par ?_ | with_reducible refine st_own ?_ | with_reducible refine st_asg ?_ | with_reducible refine st_unpack ?_ | with_reducible refine st_drop ?_ | with_reducible refine st_break ?_ | with_reducible refine ev_int ?_ | with_reducible refine ev_str ?_ | with_reducible refine ev_bl ?_ | with_reducible refine ev_non ?_ | with_reducible refine ev_op ?_ | with_reducible refine ev_un ?_ | with_reducible refine ev_if ?_ | with_reducible refine ev_andV ?_ | with_reducible refine ev_orV ?_ | with_reducible refine ev_notV ?_ | with_reducible refine ev_tup ?_ | with_reducible refine ev_lst ?_ | with_reducible refine ea_nil ?_ | with_reducible refine ea_cons ?_ | with_reducible refine ev_call ?_ | with_reducible refine ev_callN ?_ | with_reducible refine ev_cb ?_ | with_reducible refine ev_sl ?_ | with_reducible refine eo_none ?_ | with_reducible refine eo_some ?_ | with_reducible refine ev_revL ?_ | with_reducible refine ev_revT ?_ | with_reducible refine evn_lrg ?_ | with_reducible refine ev_bmT ?_ | with_reducible refine et_test ?_ | with_reducible refine et_B ?_ | with_reducible refine et_and ?_ | with_reducible refine et_or ?_ | with_reducible refine et_not ?_ | with_reducible refine et_yes ?_ | with_reducible refine ev_chain ?_ | with_reducible refine op_eqI ?_ | with_reducible refine op_neI ?_ | with_reducible refine op_eqS ?_ | with_reducible refine op_neS ?_ | with_reducible refine op_eqB ?_ | with_reducible refine op_neB ?_ | with_reducible refine op_inIn ?_ | with_reducible refine ud_neg ?_ | with_reducible refine op_is ?_ | with_reducible refine op_isnt ?_ | with_reducible refine cb_lenL ?_ | with_reducible refine cb_lenT ?_ | with_reducible refine cb_listT ?_ | with_reducible refine cb_listL ?_ | with_reducible refine cb_tupL ?_ | with_reducible refine cb_int ?_ | with_reducible refine cb_max2 ?_ | with_reducible refine cb_min2 ?_ | with_reducible refine it_list ?_ | with_reducible refine it_tup ?_ | with_reducible refine itn_1 ?_ | with_reducible refine it_rng2 ?_ | with_reducible refine it_rev ?_ | with_reducible refine itn_rev ?_ | with_reducible refine it_enum ?_ | with_reducible refine it_enumT ?_ | with_reducible refine it_zipT ?_ | with_reducible refine tcs_cons ?_ | with_reducible refine tcs_nil ?_ | with_reducible refine tg_name ?_ | with_reducible refine tgs_cons ?_ | with_reducible refine tgs_nil ?_
    | with_reducible refine ⟨_, rfl, ?_⟩
    | with_reducible refine ⟨_, _, rfl, ?_⟩
    | refine and_T ?_ | refine and_F ?_)
  | `(tactic| walk_at "d") => `(tactic| repeat walk_at "s")
/-! ### the transfer, or NoFree -/
def A_tr : AX := fnX encM preM fun p W V => match mvM p.1.1 p.2.1 p.2.2 p.1.2.2.1 p.1.2.2.2 with
  | some q => W (memE q.1 q.2)
  | none => V "NoFree" []
theorem memE_no (m : List Int) (ms : List (List Int)) : isNo (memE m ms) = false := by cases ms <;> rfl
theorem sc_transfer : FnScope ["many", "sort", "member", "giver", "taker", "found"] ["many", "sort", "member", "giver", "taker"] (defScope s_transfer) := ⟨rfl, rfl, rfl, by decide +kernel, rfl, by decide +kernel, by decide +kernel⟩
theorem ok_transfer {P : Program} {w : World} {K : PySem.W.Frag} {mg : Str → Option Value} {base : Heap}  (T : Tx K mg) (c_need_two : Cal P w K mg base 10 "need_two" (spG A_need_two)) (c_moved_readings : Cal P w K mg base 8 "moved_readings" (spG A_mr))  : Cal P w K mg base 11 "transfer" (spX (clK K) A_tr) := by
  obtain ⟨fd, F⟩ := T.sd.def_ 22 (d := d_transfer) rfl
  have S := sc_transfer
  refine ⟨⟨fd, ["many", "sort", "member", "giver", "taker"], ok_exc (k := 10) (clK K) F S (fnX_len fun _ => rfl) (fun cd Ar outer s H E xs W V hr h tk po => ?_), F.bindsN fun _ _ _ _ _ _ us hl => match us, hl with | [_, _, _, _, _], _ => rfl⟩, T.g 22, F.kp⟩
  obtain ⟨⟨⟨sg, n, m, ms⟩, g, t⟩, e, pr, h⟩ := h
  subst e
  refine ⟨_, (pss_cons (ps_expr (pe_cl c_need_two hr (by omega) (by rfl) (pa_cons (pv 0) (pa_cons (pv 1) (pa_cons (pv 2) (pa_cons (pv 3) (pa_cons (pv 4) pa_nil))))))) (pss_cons (ps_set (i := 5) S.nd rfl (by first | exact Or.inl rfl | exact Or.inr rfl) (pe_cl c_moved_readings hr (by omega) (by rfl) (pa_cons (pv 0) (pa_cons (pv 1) (pa_cons (pv 2) (pa_cons (pv 3) (pa_cons (pv 4) pa_nil))))))) (pss_cons (ps_if (pt_cmpR op_isN (pv 5) pe_non (nomark _)) (pss_one (ps_rz (ci_NoFree T) T.ers.nof rfl tk hr (by omega) (by rfl) (T.g 66) (pa_cons (pv 3) (pa_cons (pv 4) pa_nil)))) pss_nil) (pss_one (ps_ret (pv 5)))))), ?_⟩
  show StD none _ _ [Ent.dat _, Ent.dat _, Ent.dat _, Ent.dat _, Ent.dat _, Ent.no]
  try dsimp only at h pr ⊢
  walk_at "d"
  refine ⟨((sg, n, m, ms), g, t), rfl, pr, fun d _ => ?_⟩
  walk_at "d"
  refine ⟨((sg, n, m, ms), g, t), rfl, pr, ?_⟩
  walk_at "d"
  cases hm : mvM sg g t m ms with
  | none =>
    have h : V "NoFree" [] := by
      have h := h
      rw [hm] at h
      exact h
    refine brT (by show isNo (optE (mvM sg g t m ms)) = true; rw [hm]; rfl) ?_
    refine st_rz2 T.ers.nof.oex ?_ ?_
    · rfl
    walk_at "d"
    exact ⟨rfl, h⟩
  | some q =>
    have h : W (memE q.1 q.2) := by
      have h := h
      rw [hm] at h
      exact h
    refine brF (by show isNo (optE (mvM sg g t m ms)) = false; rw [hm]; exact memE_no _ _) ?_
    walk_at "d"
    show W (optE (mvM sg g t m ms))
    rw [hm]
    exact h
/-! ### pairs of pairs -/
def wrapD (b : Bool) (x r : PyData) : PyData := if b then .tuple [.str "pair", x, r] else .tuple [x, r]
def pairL (b : Bool) : List PyData → PyData
  | [] => .none
  | [x] => x
  | x :: y :: r => wrapD b x (pairL b (y :: r))
theorem pairL_cons {b : Bool} {x : PyData} {l : List PyData} (h : l ≠ []) : pairL b (x :: l) = wrapD b x (pairL b l) := by
  cases l with
  | nil => exact absurd rfl h
  | cons y r => rfl
theorem cut_init {α : Type} {xs : List α} (h : xs ≠ []) : cutD xs none (some (-1)) = xs.dropLast := by
  have hl := List.length_pos_iff.mpr h
  unfold cutD
  rw [HT.sIx_none, List.drop_zero, Nat.sub_zero, List.dropLast_eq_take]
  congr 1
  show (if (-1 : Int) < 0 then ((-1 : Int) + (xs.length : Int)).toNat else min (-1 : Int).toNat xs.length) = xs.length - 1
  rw [if_pos (by decide)]
  omega
def A_paired : AD := fnA (fun p : Bool × PyData × List PyData => [.list (p.2.1 :: p.2.2), if p.1 then .str "pair" else .none]) (fun p => p.2.2.length ≤ 10) fun p => pairL p.1 (p.2.1 :: p.2.2)
theorem use_paired {b : Bool} {x w : PyData} {xs : List PyData} {W : PyData → Prop} (e : w = if b then .str "pair" else .none) (h : xs.length ≤ 10) (q : W (pairL b (x :: xs))) : A_paired [.list (x :: xs), w] W := by
  rw [e]
  exact ⟨(b, x, xs), rfl, h, q⟩
theorem sc_paired : FnScope ["things", "word", "found", "thing"] ["things", "word"] (defScope s_paired) := ⟨rfl, rfl, rfl, by decide +kernel, rfl, by decide +kernel, by decide +kernel⟩
theorem ok_paired {P : Program} {w : World} {K : PySem.W.Frag} {mg : Str → Option Value} {base : Heap}  (T : Tx K mg)   : Cal P w K mg base 1 "paired" (spG A_paired) := by
  obtain ⟨fd, F⟩ := T.sd.def_ 28 (d := d_paired) rfl
  have S := sc_paired
  refine ⟨⟨fd, ["things", "word"], ok_pure (k := 0) F S (fnA_len fun _ => rfl) (fun cd Ar outer s H E xs W hr h => ?_), F.bindsN fun _ _ _ _ _ _ us hl => match us, hl with | [_, _], _ => rfl⟩, T.g 28, F.kp⟩
  obtain ⟨⟨b, x, xs⟩, e, pr, h⟩ := h
  subst e
  refine ⟨_, (pss_cons (ps_set (i := 2) S.nd rfl (by first | exact Or.inl rfl | exact Or.inr rfl) (pe_ix ix_list (pv 0) (pe_un un_neg pe_int) fun _ _ => rfl)) (pss_cons (ps_for PassesOwn.never rfl (pi_reversed (by rfl) (T.n 83) (pa_cons (pe_slice sl_list (pv 0) po_none (po_some (pe_un un_neg pe_int))) pa_nil)) (pg_name (i := 3) S.nd rfl (by first | exact Or.inl rfl | exact Or.inr rfl)) (pss_one (ps_set (i := 2) S.nd rfl (by first | exact Or.inl rfl | exact Or.inr rfl) (pe_ifExp (pt_cmpR op_isN (pv 1) pe_non (nomark _)) (pe_tupZ (pa_cons (pv 3) (pa_cons (pv 2) pa_nil))) (pe_tupZ (pa_cons (pv 1) (pa_cons (pv 3) (pa_cons (pv 2) pa_nil)))))))) (pss_one (ps_ret (pv 2))))), ?_⟩
  show StD none _ _ [Ent.dat _, Ent.dat _, Ent.no, Ent.no]
  try dsimp only at h pr ⊢
  generalize eL : x :: xs = L at h
  have hn : L ≠ [] := by rw [← eL]; exact fun z => by cases z
  have hl : L.length ≤ 11 := by rw [← eL, List.length_cons]; exact Nat.succ_le_succ pr
  have hp := List.length_pos_iff.mpr hn
  walk_at "d"
  refine op_ixL (d := L[L.length - 1]) (atI_lastD (by rw [List.getLast?_eq_getElem?, List.getElem?_eq_getElem (by omega)])) ?_
  walk_at "d"
  refine st_for (Pd := Da) ?_
  walk_at "d"
  refine sd_list ?_
  rw [cut_init hn]
  walk_at "d"
  refine ⟨fun i ds => ∃ e, ds = [Ent.dat (.list L), Ent.dat (if b then .str "pair" else .none), Ent.dat (pairL b (L.drop (L.length - 1 - i))), e], ⟨Ent.no, ?_⟩, fun i d ds2 e1 iv2 => ?_, fun ds2 iv2 => ?_⟩
  · rw [Nat.sub_zero, List.drop_eq_getElem_cons (by omega), List.drop_eq_nil_of_le (by omega)]
    rfl
  · obtain ⟨e, rfl⟩ := iv2
    have hi : i < L.length - 1 := by
      have := (List.getElem?_eq_some_iff.mp e1).1
      rwa [List.length_reverse, List.length_dropLast] at this
    rw [List.getElem?_reverse (by rw [List.length_dropLast]; exact hi), List.length_dropLast, List.getElem?_dropLast, if_pos (by omega), List.getElem?_eq_getElem (by omega)] at e1
    cases e1
    have ed : L.drop (L.length - 1 - (i + 1)) = L[L.length - 1 - 1 - i] :: L.drop (L.length - 1 - i) := by
      have e3 : L.length - 1 - (i + 1) = L.length - 1 - 1 - i := by omega
      have e4 : L.length - 1 - i = L.length - 1 - 1 - i + 1 := by omega
      rw [e3, e4, List.drop_eq_getElem_cons (by omega)]
    have ep : pairL b (L.drop (L.length - 1 - (i + 1))) = wrapD b L[L.length - 1 - 1 - i] (pairL b (L.drop (L.length - 1 - i))) := by
      rw [ed, pairL_cons]
      intro z
      have := congrArg List.length z
      rw [List.length_drop] at this
      simp at this
      omega
    cases b with
    | true =>
      walk_at "d"
      dsimp only
      rw [ep]
      exact ⟨_, rfl⟩
    | false =>
      walk_at "d"
      dsimp only
      rw [ep]
      exact ⟨_, rfl⟩
  · obtain ⟨e, rfl⟩ := iv2
    rw [List.length_reverse, List.length_dropLast, Nat.sub_self, List.drop_zero]
    walk_at "d"
    exact h
end JR
set_option pp.maxSteps 2500
set_option Elab.async false
set_option linter.all false
set_option maxRecDepth 100000
set_option maxHeartbeats 2000000
namespace JR
open PySem PySem.Spec L2 RZ
local macro_rules
  | `(tactic| walk_at "s") => `(tactic| first
    | ((with_reducible apply ev_var); exact rfl) | with_reducible refine ev_isiI ?_ | with_reducible refine ev_isiB ?_ | with_reducible refine ev_isiT ?_ | with_reducible refine ev_isiS ?_ | ((with_reducible refine st_append ?_ ?_); rotate_left; exact ⟨_, rfl⟩) | ((with_reducible apply st_pop); exact rfl) | ((with_reducible apply et_ownNe); exact rfl) | ((with_reducible apply op_i); exact rfl) | ((with_reducible apply it_rgV); exact rfl) | ((with_reducible apply op_inW); exact rfl) | ((with_reducible apply op_ixT); exact rfl) | ((with_reducible apply op_ixL); exact rfl) | ((with_reducible refine And.intro (le_lit ?_) ?_); exact rfl) | ((with_reducible apply op_b); exact rfl) | ((with_reducible apply tc_name); decide) | ((with_reducible apply tc_tup); exact rfl) | ((with_reducible apply tg_tup); exact rfl) | ((with_reducible apply tg_tupD); exact rfl) | ((with_reducible apply tc_tupD); exact rfl)
    | with_reducible refine st_seq ?_ | with_reducible refine st_ret ?_ | with_reducible refine st_next ?_ | with_reducible refine st_if ?_ | with_reducible refine st_par_own2 ?_ | with_reducible refine st_par_own ?_ | with_reducible refine st_rng ?_ | with_reducible refine st_par ?_ | with_reducible refine st_own ?_ | with_reducible refine st_asg ?_ | with_reducible refine st_unpack ?_ | with_reducible refine st_drop ?_ | with_reducible refine st_break ?_ | with_reducible refine ev_int ?_ | with_reducible refine ev_str ?_ | with_reducible refine ev_bl ?_ | with_reducible refine ev_non ?_ | with_reducible refine ev_op ?_ | with_reducible refine ev_un ?_ | with_reducible refine ev_if ?_ | with_reducible refine ev_andV ?_ | with_reducible refine ev_orV ?_ | with_reducible refine ev_notV ?_ | with_reducible refine ev_tup ?_ | with_reducible refine ev_lst ?_ | with_reducible refine ea_nil ?_ | with_reducible refine ea_cons ?_ | with_reducible refine ev_call ?_ | with_reducible refine ev_callN ?_ | with_reducible refine ev_cb ?_ | with_reducible refine ev_sl ?_ | with_reducible refine eo_none ?_ | with_reducible refine eo_some ?_ | with_reducible refine ev_revL ?_ | with_reducible refine ev_revT ?_ | with_reducible refine evn_lrg ?_ | with_reducible refine ev_bmT ?_ | with_reducible refine et_test ?_ | with_reducible refine et_B ?_ | with_reducible refine et_and ?_ | with_reducible refine et_or ?_ | with_reducible refine et_not ?_ | with_reducible refine et_yes ?_ | with_reducible refine ev_chain ?_ | with_reducible refine op_eqI ?_ | with_reducible refine op_neI ?_ | with_reducible refine op_eqS ?_ | with_reducible refine op_neS ?_ | with_reducible refine op_eqB ?_ | with_reducible refine op_neB ?_ | with_reducible refine op_inIn ?_ | with_reducible refine ud_neg ?_ | with_reducible refine op_is ?_ | with_reducible refine op_isnt ?_ | with_reducible refine cb_lenL ?_ | with_reducible refine cb_lenT ?_ | with_reducible refine cb_listT ?_ | with_reducible refine cb_listL ?_ | with_reducible refine cb_tupL ?_ | with_reducible refine cb_int ?_ | with_reducible refine cb_max2 ?_ | with_reducible refine cb_min2 ?_ | with_reducible refine it_list ?_ | with_reducible refine it_tup ?_ | with_reducible refine itn_1 ?_ | with_reducible refine it_rng2 ?_ | with_reducible refine it_rev ?_ | with_reducible refine itn_rev ?_ | with_reducible refine it_enum ?_ | with_reducible refine it_enumT ?_ | with_reducible refine it_zipT ?_ | with_reducible refine tcs_cons ?_ | with_reducible refine tcs_nil ?_ | with_reducible refine tg_name ?_ | with_reducible refine tgs_cons ?_ | with_reducible refine tgs_nil ?_
    | with_reducible refine ⟨_, rfl, ?_⟩
    | with_reducible refine ⟨_, _, rfl, ?_⟩
    | refine and_T ?_ | refine and_F ?_)
  | `(tactic| walk_at "d") => `(tactic| repeat walk_at "s")
/-! ### the letters of a column -/
def letF (i : Nat) : List Int → List Int
  | [] => []
  | x :: r => List.replicate x.toNat (i : Int) ++ letF (i + 1) r
def letters (c : List Int) : List Int := letF 0 c
theorem letF_snoc : ∀ (c : List Int) (i : Nat) (x : Int), letF i (c ++ [x]) = letF i c ++ List.replicate x.toNat ((i + c.length : Nat) : Int)
  | [], i, x => by
    show List.replicate x.toNat (i : Int) ++ [] = [] ++ List.replicate x.toNat ((i + 0 : Nat) : Int)
    rw [List.append_nil, List.nil_append, Nat.add_zero]
  | y :: c, i, x => by
    show List.replicate y.toNat (i : Int) ++ letF (i + 1) (c ++ [x]) = (List.replicate y.toNat (i : Int) ++ letF (i + 1) c) ++ _
    rw [letF_snoc c (i + 1) x, List.append_assoc, List.length_cons, show i + 1 + c.length = i + (c.length + 1) by omega]
theorem letters_take {c : List Int} {i : Nat} {x : Int} (h : c[i]? = some x) : letters (c.take (i + 1)) = letters (c.take i) ++ List.replicate x.toNat (i : Int) := by
  have hi : i < c.length := (List.getElem?_eq_some_iff.mp h).1
  unfold letters
  rw [List.take_succ, h]
  show letF 0 (c.take i ++ [x]) = _
  rw [letF_snoc, List.length_take, Nat.min_eq_left (by omega), Nat.zero_add]
theorem letF_len : ∀ (c : List Int) (i : Nat), (∀ x ∈ c, 0 ≤ x) → ((letF i c).length : Int) = c.sum
  | [], _, _ => rfl
  | x :: c, i, h => by
    have ih := letF_len c (i + 1) fun y hy => h y (List.mem_cons_of_mem _ hy)
    have hx := h x List.mem_cons_self
    show (((List.replicate x.toNat (i : Int) ++ letF (i + 1) c).length : Nat) : Int) = _
    rw [List.length_append, List.length_replicate, List.sum_cons]
    omega
theorem letters_len {c : List Int} (h : ∀ x ∈ c, 0 ≤ x) : ((letters c).length : Int) = c.sum := letF_len c 0 h
theorem letF_mono : ∀ (c d : List Int) (i : Nat), (letF i (c ++ d)).length = (letF i c).length + (letF (i + c.length) d).length
  | [], d, i => by
    show _ = 0 + (letF (i + 0) d).length
    rw [Nat.add_zero, Nat.zero_add]; rfl
  | x :: c, d, i => by
    show (List.replicate x.toNat (i : Int) ++ letF (i + 1) (c ++ d)).length = (List.replicate x.toNat (i : Int) ++ letF (i + 1) c).length + _
    rw [List.length_append, List.length_append, letF_mono c d (i + 1), List.length_cons, show i + 1 + c.length = i + (c.length + 1) by omega]
    omega
theorem letters_take_len (c : List Int) (i : Nat) : (letters (c.take i)).length ≤ (letters c).length := by
  have := letF_mono (c.take i) (c.drop i) 0
  rw [List.take_append_drop] at this
  unfold letters
  omega
/-! ### sums -/
theorem sum_nn {c : List Int} (h : ∀ x ∈ c, 0 ≤ x) : 0 ≤ c.sum := by
  rw [← letters_len h]
  omega
theorem le_sum : ∀ {c : List Int} {x : Int}, (∀ y ∈ c, 0 ≤ y) → x ∈ c → x ≤ c.sum
  | y :: c, x, h, hx => by
    rw [List.sum_cons]
    have h0 := h y List.mem_cons_self
    have h1 : ∀ z ∈ c, 0 ≤ z := fun z hz => h z (List.mem_cons_of_mem _ hz)
    rcases List.mem_cons.mp hx with e | hx
    · have := sum_nn h1
      omega
    · have := le_sum h1 hx
      omega
theorem col_cons (r : List Int) (R : List (List Int)) (c : Nat) : col (r :: R) c = r.getD c 0 :: col R c := rfl
/-- the sum by columns is the sum by rows -/
theorem take_sum : ∀ (r : List Int) (n : Nat), ((List.range n).map fun c => r.getD c 0).sum = (r.take n).sum
  | r, 0 => by rw [List.range_zero, List.take_zero]; rfl
  | r, n + 1 => by
    rw [List.range_succ, List.map_append, List.sum_append, take_sum r n, List.take_succ, List.sum_append]
    congr 1
    by_cases h : n < r.length
    · rw [List.getElem?_eq_getElem h, List.map_singleton, List.getD_eq_getElem?_getD, List.getElem?_eq_getElem h]; rfl
    · rw [List.getElem?_eq_none (by omega), List.map_singleton, List.getD_eq_getElem?_getD, List.getElem?_eq_none (by omega)]; rfl
theorem sum_add (f g : Nat → Int) : ∀ l : List Nat, (l.map fun c => f c + g c).sum = (l.map f).sum + (l.map g).sum
  | [] => rfl
  | a :: l => by
    rw [List.map_cons, List.map_cons, List.map_cons, List.sum_cons, List.sum_cons, List.sum_cons, sum_add f g l]
    omega
theorem cols_sum (w : Nat) : ∀ R : List (List Int), (∀ r ∈ R, r.length = w) → ((List.range w).map fun c => (col R c).sum).sum = (R.map List.sum).sum
  | [], _ => by
    have : ∀ l : List Nat, (l.map fun c => (col [] c).sum).sum = 0 := fun l => by
      induction l with
      | nil => rfl
      | cons a l ih => rw [List.map_cons, List.sum_cons, ih]; rfl
    exact this _
  | r :: R, h => by
    rw [List.map_cons, List.sum_cons, ← cols_sum w R fun q hq => h q (List.mem_cons_of_mem _ hq)]
    have e : (List.range w).map (fun c => (col (r :: R) c).sum) = (List.range w).map fun c => r.getD c 0 + (col R c).sum := by
      refine List.map_congr_left fun c _ => ?_
      rw [col_cons, List.sum_cons]
    rw [e, sum_add, take_sum, List.take_of_length_le (by rw [h r List.mem_cons_self]; exact Nat.le_refl _)]
theorem OkT.cnn {sg : Bool} {h w : Nat} {R : List (List Int)} (k : OkT sg h w R) {c : Nat} (hc : c < w) : ∀ x ∈ col R c, 0 ≤ x ∧ (sg = true → x ≤ 1) := fun x hx => by
  obtain ⟨r, hr, rfl⟩ := List.mem_map.mp hx
  have hl := k.cols r hr
  have e : r.getD c 0 ∈ r := by
    rw [List.getD_eq_getElem?_getD, List.getElem?_eq_getElem (by omega)]
    exact List.getElem_mem _
  exact k.nn r hr _ e
/-! ### a table's sort, a table's member -/
def lh (R : List (List Int)) : List Int := letters ((tr R).headD [])
def lt (R : List (List Int)) : List (List Int) := ((tr R).tail).map letters
theorem Rect.trc {h w : Nat} {R : List (List Int)} (k : Rect h w R) : ∃ c cs, tr R = c :: cs ∧ cs.length + 1 = w := by
  have e : (tr R).length = w := by
    unfold tr
    rw [List.length_map, List.length_range, k.width]
  cases h1 : tr R with
  | nil =>
    rw [h1] at e
    have := k.wb
    simp at e
    omega
  | cons c cs =>
    rw [h1, List.length_cons] at e
    exact ⟨c, cs, rfl, e⟩
theorem pair_leaf (sg : Bool) : ∀ (cs : List (List Int)) (c : List Int), pairL true ((c :: cs).map fun c => leafE sg c.sum) = sortE sg c.sum (cs.map List.sum)
  | [], _ => rfl
  | d :: cs, c => by
    have ih := pair_leaf sg cs d
    rw [List.map_cons, pairL_cons (by exact fun z => by cases z), ih]
    rfl
theorem pair_mem : ∀ (ms : List (List Int)) (m : List Int), pairL false ((m :: ms).map iv) = memE m ms
  | [], _ => rfl
  | d :: ms, m => by
    have ih := pair_mem ms d
    rw [List.map_cons, pairL_cons (by exact fun z => by cases z), ih]
    rfl
theorem OkT.tnn {sg : Bool} {h w : Nat} {R : List (List Int)} (k : OkT sg h w R) : ∀ c ∈ tr R, ∀ x ∈ c, 0 ≤ x ∧ (sg = true → x ≤ 1) := fun c hc => by
  unfold tr at hc
  obtain ⟨i, hi, rfl⟩ := List.mem_map.mp hc
  rw [k.width] at hi
  exact k.cnn (List.mem_range.mp hi)
def A_sort_of : AD := fnA (fun p : List (List Int) × Bool => [tbl p.1, .bool p.2]) (fun p => ∃ h w, OkT p.2 h w p.1) fun p => sortM p.2 (lh p.1) (lt p.1)
theorem use_sort_of {R : List (List Int)} {sg : Bool} {h w : Nat} {W : PyData → Prop} (k : OkT sg h w R) (q : W (sortM sg (lh R) (lt R))) : A_sort_of [tbl R, .bool sg] W := ⟨(R, sg), rfl, ⟨h, w, k⟩, q⟩
theorem sc_sort_of : FnScope ["table", "sign", "word", "columns", "column"] ["table", "sign"] (defScope s_sort_of) := ⟨rfl, rfl, rfl, by decide +kernel, rfl, by decide +kernel, by decide +kernel⟩
theorem ok_sort_of {P : Program} {w : World} {K : PySem.W.Frag} {mg : Str → Option Value} {base : Heap}  (T : Tx K mg) (c_column_items : Cal P w K mg base 1 "column_items" (spG A_column_items)) (c_paired : Cal P w K mg base 1 "paired" (spG A_paired))  : Cal P w K mg base 2 "sort_of" (spG A_sort_of) := by
  obtain ⟨fd, F⟩ := T.sd.def_ 29 (d := d_sort_of) rfl
  have S := sc_sort_of
  refine ⟨⟨fd, ["table", "sign"], ok_pure (k := 1) F S (fnA_len fun _ => rfl) (fun cd Ar outer s H E xs W hr h => ?_), F.bindsN fun _ _ _ _ _ _ us hl => match us, hl with | [_, _], _ => rfl⟩, T.g 29, F.kp⟩
  obtain ⟨⟨R, sg⟩, e, pr, h⟩ := h
  subst e
  refine ⟨_, (pss_cons (ps_set (i := 2) S.nd rfl (by first | exact Or.inl rfl | exact Or.inr rfl) (pe_ifExp (pt_val (pv 1)) pe_str pe_str)) (pss_cons (ps_set (i := 3) S.nd rfl (by first | exact Or.inl rfl | exact Or.inr rfl) (pe_callTy cr_rngV (by rfl) (T.n 70) (by decide +kernel) (pa_cons (pe_callB call_len_seq (by rfl) (T.n 69) (by decide +kernel) (pa_cons (pe_ix ix_tup (pv 0) pe_int fun _ _ => rfl) pa_nil)) pa_nil))) (pss_one (ps_ret (pe_cl c_paired hr (by omega) (by rfl) (pa_cons (pe_lc (own := [("column", 4)]) (g := (gName 4)) (tt := tYes) (te := (tTupZ (tCons (tVar 2) (tCons (tCB (rSumT K) (tCons (tCall (spG A_column_items) [] xno (tCons (tVar 0) (tCons (tVar 4) tNil))) tNil)) tNil)))) rfl S.nd (pi_rngV (pv 3)) (blkOk_by (N := ["table", "sign", "word", "columns", "column"]) (sc := (defScope s_sort_of)) (by decide +kernel)) (fun _ _ _ _ _ => (pg_name (i := 4) S.nd rfl (by first | exact Or.inl rfl | exact Or.inr rfl))) (fun _ _ _ _ _ => pts_nil) (fun _ _ _ _ _ => (pe_tupZ (pa_cons (pv 2) (pa_cons (pe_callB (cr_sumT rfl) (by rfl) (T.n 79) (by decide +kernel) (pa_cons (pe_cl c_column_items hr (by omega) (by rfl) (pa_cons (pv 0) (pa_cons (pv 4) pa_nil))) pa_nil)) pa_nil))))) (pa_cons pe_str pa_nil))))))), ?_⟩
  show StD none _ _ [Ent.dat _, Ent.dat _, Ent.no, Ent.no, Ent.no]
  try dsimp only at h pr ⊢
  obtain ⟨hh, ww, k⟩ := pr
  have h1 := k.wb
  have hw := k.toRect.width
  obtain ⟨c0, cs, ec, el⟩ := k.toRect.trc
  have es : sortM sg (lh R) (lt R) = pairL true ((tr R).map fun c => leafE sg c.sum) := by
    rw [ec, pair_leaf]
    unfold sortM lh lt lens
    have nn := k.tnn
    rw [ec] at nn ⊢
    rw [List.map_map]
    show sortE sg ((letters c0).length : Int) (cs.map _) = _
    rw [letters_len fun x hx => (nn c0 List.mem_cons_self x hx).1]
    congr 1
    refine List.map_congr_left fun c hc => ?_
    exact letters_len fun x hx => (nn c (List.mem_cons_of_mem _ hc) x hx).1
  rw [es] at h
  have trl : (tr R).length = ww := by rw [ec, List.length_cons]; exact el
  walk_at "d"
  refine mergeD (M := .str (wd sg)) (fun e => ?_) (fun e => ?_) ?_
  · subst e
    walk_at "d"
    exact ⟨rfl, rfl⟩
  · subst e
    walk_at "d"
    exact ⟨rfl, rfl⟩
  walk_at "d"
  refine op_ixT (head_at k.toRect) ?_
  walk_at "d"
  rw [show (List.map PyData.int (R.headD [])).length = ww by rw [List.length_map]; exact hw]
  refine ev_map (Pd := Da) ?_
  refine it_rgV (n := ww) rfl (by omega) ?_
  refine ⟨(tr R).map fun c => leafE sg c.sum, by rw [List.length_map, List.length_range]; omega, by rw [List.length_map, List.length_map, List.length_range]; exact trl, fun i d y e1 e2 => ?_, ?_⟩
  · obtain ⟨hi, q1⟩ := rmap_at e1
    unfold tr at e2
    obtain ⟨_, q2⟩ := rmmap_at e2
    subst q1 q2
    walk_at "d"
    refine use_column_items k.toRect.few (k.toRect.get (by omega)) ?_
    walk_at "d"
    refine cb_sumT ?_
    walk_at "d"
    rfl
  · rw [ec, List.map_cons]
    rw [ec, List.map_cons] at h
    walk_at "d"
    exact use_paired (b := true) rfl (by rw [List.length_map]; omega) h
end JR
set_option pp.maxSteps 2500
set_option Elab.async false
set_option linter.all false
set_option maxRecDepth 100000
set_option maxHeartbeats 2000000
namespace JR
open PySem PySem.Spec L2 RZ
local macro_rules
  | `(tactic| walk_at "s") => `(tactic| first
    | ((with_reducible apply ev_var); exact rfl) | with_reducible refine ev_isiI ?_ | with_reducible refine ev_isiB ?_ | with_reducible refine ev_isiT ?_ | with_reducible refine ev_isiS ?_ | ((with_reducible refine st_append ?_ ?_); rotate_left; exact ⟨_, rfl⟩) | ((with_reducible apply st_pop); exact rfl) | ((with_reducible apply et_ownNe); exact rfl) | ((with_reducible apply op_i); exact rfl) | ((with_reducible apply it_rgV); exact rfl) | ((with_reducible apply op_inW); exact rfl) | ((with_reducible apply op_ixT); exact rfl) | ((with_reducible apply op_ixL); exact rfl) | ((with_reducible refine And.intro (le_lit ?_) ?_); exact rfl) | ((with_reducible apply op_b); exact rfl) | ((with_reducible apply tc_name); decide) | ((with_reducible apply tc_tup); exact rfl) | ((with_reducible apply tg_tup); exact rfl) | ((with_reducible apply tg_tupD); exact rfl) | ((with_reducible apply tc_tupD); exact rfl)
    | with_reducible refine st_seq ?_ | with_reducible refine st_ret ?_ | with_reducible refine st_next ?_ | with_reducible refine st_if ?_ | with_reducible refine st_par_own2 ?_ | with_reducible refine st_par_own ?_ | with_reducible refine st_rng ?_ | with_reducible refine st_par ?_ | with_reducible refine st_own ?_ | with_reducible refine st_asg ?_ | with_reducible refine st_unpack ?_ | with_reducible refine st_drop ?_ | with_reducible refine st_break ?_ | with_reducible refine ev_int ?_ | with_reducible refine ev_str ?_ | with_reducible refine ev_bl ?_ | with_reducible refine ev_non ?_ | with_reducible refine ev_op ?_ | with_reducible refine ev_un ?_ | with_reducible refine ev_if ?_ | with_reducible refine ev_andV ?_ | with_reducible refine ev_orV ?_ | with_reducible refine ev_notV ?_ | with_reducible refine ev_tup ?_ | with_reducible refine ev_lst ?_ | with_reducible refine ea_nil ?_ | with_reducible refine ea_cons ?_ | with_reducible refine ev_call ?_ | with_reducible refine ev_callN ?_ | with_reducible refine ev_cb ?_ | with_reducible refine ev_sl ?_ | with_reducible refine eo_none ?_ | with_reducible refine eo_some ?_ | with_reducible refine ev_revL ?_ | with_reducible refine ev_revT ?_ | with_reducible refine evn_lrg ?_ | with_reducible refine ev_bmT ?_ | with_reducible refine et_test ?_ | with_reducible refine et_B ?_ | with_reducible refine et_and ?_ | with_reducible refine et_or ?_ | with_reducible refine et_not ?_ | with_reducible refine et_yes ?_ | with_reducible refine ev_chain ?_ | with_reducible refine op_eqI ?_ | with_reducible refine op_neI ?_ | with_reducible refine op_eqS ?_ | with_reducible refine op_neS ?_ | with_reducible refine op_eqB ?_ | with_reducible refine op_neB ?_ | with_reducible refine op_inIn ?_ | with_reducible refine ud_neg ?_ | with_reducible refine op_is ?_ | with_reducible refine op_isnt ?_ | with_reducible refine cb_lenL ?_ | with_reducible refine cb_lenT ?_ | with_reducible refine cb_listT ?_ | with_reducible refine cb_listL ?_ | with_reducible refine cb_tupL ?_ | with_reducible refine cb_int ?_ | with_reducible refine cb_max2 ?_ | with_reducible refine cb_min2 ?_ | with_reducible refine it_list ?_ | with_reducible refine it_tup ?_ | with_reducible refine itn_1 ?_ | with_reducible refine it_rng2 ?_ | with_reducible refine it_rev ?_ | with_reducible refine itn_rev ?_ | with_reducible refine it_enum ?_ | with_reducible refine it_enumT ?_ | with_reducible refine it_zipT ?_ | with_reducible refine tcs_cons ?_ | with_reducible refine tcs_nil ?_ | with_reducible refine tg_name ?_ | with_reducible refine tgs_cons ?_ | with_reducible refine tgs_nil ?_
    | with_reducible refine ⟨_, rfl, ?_⟩
    | with_reducible refine ⟨_, _, rfl, ?_⟩
    | refine and_T ?_ | refine and_F ?_)
  | `(tactic| walk_at "d") => `(tactic| repeat walk_at "s")
def A_member_of : AD := fnA (fun R : List (List Int) => [tbl R]) (fun R => ∃ sg h w, OkT sg h w R) fun R => memE (lh R) (lt R)
theorem use_member_of {R : List (List Int)} {sg : Bool} {h w : Nat} {W : PyData → Prop} (k : OkT sg h w R) (q : W (memE (lh R) (lt R))) : A_member_of [tbl R] W := ⟨R, rfl, ⟨sg, h, w, k⟩, q⟩
theorem OkT.csum {sg : Bool} {h w : Nat} {R : List (List Int)} (k : OkT sg h w R) {c : Nat} (hc : c < w) : (col R c).sum ≤ 12 := by
  have e := cols_sum w R k.cols
  have t := k.tot
  have q : (col R c).sum ∈ (List.range w).map fun c => (col R c).sum := List.mem_map.mpr ⟨c, List.mem_range.mpr hc, rfl⟩
  have := le_sum (fun y hy => by
    obtain ⟨i, hi, rfl⟩ := List.mem_map.mp hy
    exact sum_nn fun x hx => (k.cnn (List.mem_range.mp hi) x hx).1) q
  omega
theorem OkT.llen {sg : Bool} {h w : Nat} {R : List (List Int)} (k : OkT sg h w R) {c : Nat} (hc : c < w) : (letters (col R c)).length ≤ 12 := by
  have := letters_len fun x hx => (k.cnn hc x hx).1
  have := k.csum hc
  omega
theorem flat_one (n : Nat) (x : PyData) : (List.replicate n [x]).flatten = List.replicate n x := List.flatten_replicate_singleton
theorem sc_member_of : FnScope ["table", "found", "column", "letters", "name", "many"] ["table"] (defScope s_member_of) := ⟨rfl, rfl, rfl, by decide +kernel, rfl, by decide +kernel, by decide +kernel⟩
theorem ok_member_of {P : Program} {w : World} {K : PySem.W.Frag} {mg : Str → Option Value} {base : Heap}  (T : Tx K mg) (c_column_items : Cal P w K mg base 1 "column_items" (spG A_column_items)) (c_paired : Cal P w K mg base 1 "paired" (spG A_paired))  : Cal P w K mg base 2 "member_of" (spG A_member_of) := by
  obtain ⟨fd, F⟩ := T.sd.def_ 30 (d := d_member_of) rfl
  have S := sc_member_of
  refine ⟨⟨fd, ["table"], ok_pure (k := 1) F S (fnA_len fun _ => rfl) (fun cd Ar outer s H E xs W hr h => ?_), F.bindsN fun _ _ _ _ _ _ us hl => match us, hl with | [_], _ => rfl⟩, T.g 30, F.kp⟩
  obtain ⟨R, e, pr, h⟩ := h
  subst e
  refine ⟨_, (pss_cons (ps_set (i := 1) S.nd rfl (by first | exact Or.inl rfl | exact Or.inr rfl) (pe_lst pa_nil)) (pss_cons (ps_for PassesOwn.never rfl (pi_range1 (by rfl) (T.n 70) (pa_cons (pe_callB call_len_seq (by rfl) (T.n 69) (by decide +kernel) (pa_cons (pe_ix ix_tup (pv 0) pe_int fun _ _ => rfl) pa_nil)) pa_nil)) (pg_name (i := 2) S.nd rfl (by first | exact Or.inl rfl | exact Or.inr rfl)) (pss_cons (ps_set (i := 3) S.nd rfl (by first | exact Or.inl rfl | exact Or.inr rfl) (pe_lst pa_nil)) (pss_cons (ps_for PassesOwn.never rfl (pi_enumT (by rfl) (T.n 82) (pa_cons (pe_cl c_column_items hr (by omega) (by rfl) (pa_cons (pv 0) (pa_cons (pv 2) pa_nil))) pa_nil)) (pg_tup (by rfl) (pgs_cons (pg_name (i := 4) S.nd rfl (by first | exact Or.inl rfl | exact Or.inr rfl)) (pgs_cons (pg_name (i := 5) S.nd rfl (by first | exact Or.inl rfl | exact Or.inr rfl)) pgs_nil))) (pss_one (ps_set (i := 3) S.nd rfl (by first | exact Or.inl rfl | exact Or.inr rfl) (pe_op op_cat (pv 3) (pe_op L2.op_rep (pe_lst (pa_cons (pv 4) pa_nil)) (pv 5)))))) (pss_one (ps_expr (pe_bm PySem.F.plainAttrs_list PySem.F.slot_list_append PySem.F.type_list_append mt_append (pv 1) (pa_cons (pe_callTy call_tupZ (by rfl) (T.n 72) (by decide +kernel) (pa_cons (pv 3) pa_nil)) pa_nil))))))) (pss_one (ps_ret (pe_cl c_paired hr (by omega) (by rfl) (pa_cons (pv 1) (pa_cons pe_non pa_nil))))))), ?_⟩
  show StD none _ _ [Ent.dat _, Ent.no, Ent.no, Ent.no, Ent.no, Ent.no]
  try dsimp only at h pr ⊢
  obtain ⟨sg, hh, ww, k⟩ := pr
  have h1 := k.wb
  have hw := k.toRect.width
  obtain ⟨c0, cs, ec, el⟩ := k.toRect.trc
  have trl : (tr R).length = ww := by rw [ec, List.length_cons]; exact el
  have es : memE (lh R) (lt R) = pairL false (((tr R).map letters).map iv) := by
    rw [ec, List.map_cons, pair_mem]
    unfold lh lt
    rw [ec]
    rfl
  rw [es] at h
  walk_at "d"
  refine st_for (Pd := Da) ?_
  walk_at "d"
  refine op_ixT (head_at k.toRect) ?_
  walk_at "d"
  rw [show (List.map PyData.int (R.headD [])).length = ww by rw [List.length_map]; exact hw]
  refine ⟨by omega, ?_⟩
  refine ⟨fun i ds => ∃ a b c d, ds = [Ent.dat (tbl R), Ent.own ((((tr R).map letters).map iv).take i), a, b, c, d], ⟨_, _, _, _, rfl⟩, fun i d ds2 e1 iv2 => ?_, fun ds2 iv2 => ?_⟩
  · obtain ⟨a, b, c, d', rfl⟩ := iv2
    obtain ⟨hi, q1⟩ := rmap_at e1
    subst q1
    have ln := k.llen hi
    refine tg_name ?_
    refine st_seq ?_
    refine st_asg (ev_lst (ea_nil ⟨by decide, ?_⟩))
    walk_at "d"
    refine st_for (Pd := DaP) ?_
    walk_at "d"
    refine use_column_items k.toRect.few (k.toRect.get (by omega)) ?_
    walk_at "d"
    refine ⟨fun j ds => ∃ a b, ds = [Ent.dat (tbl R), Ent.own ((((tr R).map letters).map iv).take i), Ent.dat (.int (i : Nat)), Ent.dat (.list ((letters ((col R i).take j)).map PyData.int)), a, b], ⟨_, _, rfl⟩, fun j d ds3 e2 iv3 => ?_, fun ds3 iv3 => ?_⟩
    · obtain ⟨a, b, rfl⟩ := iv3
      obtain ⟨p, hp, rfl⟩ := map_at e2
      obtain ⟨p1, p2⟩ := zip_at hp
      obtain ⟨hj, q1⟩ := range_at p1
      obtain ⟨x, hx, q2⟩ := map_at p2
      have l1 := letters_take hx
      have l2 := letters_take_len (col R i) j
      have l3 := letters_take_len (col R i) (j + 1)
      have xn := k.cnn hi x (List.mem_of_getElem? hx)
      have xs := le_sum (fun y hy => (k.cnn hi y hy).1) (List.mem_of_getElem? hx)
      have cb := k.csum hi
      rw [q1, q2]
      walk_at "d"
      refine op_rep (by omega) (by omega) (by show 1 * x.toNat ≤ 100000; omega) ?_
      rw [flat_one]
      refine op_catL (by rw [List.length_map, List.length_replicate]; omega) ?_
      dsimp only
      rw [l1, List.map_append, List.map_replicate]
      exact ⟨_, _, rfl⟩
    · obtain ⟨a, b, rfl⟩ := iv3
      rw [show List.take (((List.range ((col R i).map PyData.int).length).zip ((col R i).map PyData.int)).map fun p => PyData.tuple [.int (p.1 : Nat), p.2]).length (col R i) = col R i from List.take_of_length_le (by
        rw [List.length_map, List.length_zip, List.length_range, Nat.min_self, List.length_map]
        exact Nat.le_refl _)]
      have et : (((tr R).map letters).map iv).take (i + 1) = (((tr R).map letters).map iv).take i ++ [iv (letters (col R i))] := by
        rw [List.take_succ]
        congr 1
        unfold tr
        rw [List.getElem?_map, List.getElem?_map, List.getElem?_map, List.getElem?_range (by omega)]
        rfl
      walk_at "d"
      refine ⟨by rw [List.length_take, List.length_map, List.length_map]; omega, ?_⟩
      dsimp only
      rw [et]
      exact ⟨_, _, _, _, rfl⟩
  · obtain ⟨a, b, c, d, rfl⟩ := iv2
    rw [List.length_map, List.length_range, List.take_of_length_le (by rw [List.length_map, List.length_map]; omega)]
    refine st_freeze (i := 1) rfl ?_
    rw [ec, List.map_cons, List.map_cons]
    rw [ec, List.map_cons, List.map_cons] at h
    walk_at "d"
    exact use_paired (b := false) rfl (by rw [List.length_map, List.length_map]; omega) h
/-! ### a member's table -/
def tabR (n : Nat) (m : List Int) (ms : List (List Int)) : List (List Int) := (List.range n).map fun name => (m :: ms).map fun c => ((c.count (name : Int) : Nat) : Int)
abbrev scOut : Scope := ⟨.function, [(".0", .local), ("name", .cell), ("tuple", .globalImplicit), ("columns", .free)], false, false, []⟩
def A_table_of : AD := fnA (fun p : Nat × List Int × List (List Int) => [.int (p.1 : Nat), .int ((p.2.2.length + 1 : Nat)), memE p.2.1 p.2.2]) (fun p => p.1 ≤ 100 ∧ p.2.2.length ≤ 100) fun p => tbl (tabR p.1 p.2.1 p.2.2)
theorem use_table_of {n w : Nat} {m : List Int} {ms : List (List Int)} {W : PyData → Prop} (h1 : n ≤ 100) (h2 : ms.length ≤ 100) (hw : w = ms.length + 1) (q : W (tbl (tabR n m ms))) : A_table_of [.int (n : Nat), .int (w : Nat), memE m ms] W := by
  subst hw
  exact ⟨(n, m, ms), rfl, ⟨h1, h2⟩, q⟩
/-- what is left of a member behind i steps -/
def leftM : List Int → List (List Int) → Nat → PyData
  | m, ms, 0 => memE m ms
  | m, [], _ + 1 => iv m
  | _, m' :: ms, i + 1 => leftM m' ms i
theorem leftM_at : ∀ (ms : List (List Int)) (m : List Int) (i : Nat), i < ms.length → ∃ x, (m :: ms)[i]? = some x ∧ leftM m ms i = .tuple [iv x, leftM m ms (i + 1)]
  | [], _, i, h => absurd h (Nat.not_lt_zero _)
  | m' :: ms, m, 0, _ => ⟨m, rfl, by
    cases ms <;> rfl⟩
  | m' :: ms, m, i + 1, h => by
    obtain ⟨x, h1, h2⟩ := leftM_at ms m' i (by rw [List.length_cons] at h; omega)
    exact ⟨x, h1, h2⟩
theorem leftM_end : ∀ (ms : List (List Int)) (m : List Int), ∃ x, (m :: ms)[ms.length]? = some x ∧ leftM m ms ms.length = iv x
  | [], m => ⟨m, rfl, rfl⟩
  | m' :: ms, m => leftM_end ms m'
theorem sc_table_of : FnScope ["many", "width", "member", "columns", "left", "step", "name", "column"] ["many", "width", "member"] (defScope s_table_of) := ⟨rfl, rfl, rfl, by decide +kernel, rfl, by decide +kernel, by decide +kernel⟩
theorem ok_table_of {P : Program} {w : World} {K : PySem.W.Frag} {mg : Str → Option Value} {base : Heap}  (T : Tx K mg)   : Cal P w K mg base 1 "table_of" (spG A_table_of) := by
  obtain ⟨fd, F⟩ := T.sd.def_ 31 (d := d_table_of) rfl
  have S := sc_table_of
  refine ⟨⟨fd, ["many", "width", "member"], ok_pure (k := 0) F S (fnA_len fun _ => rfl) (fun cd Ar outer s H E xs W hr h => ?_), F.bindsN fun _ _ _ _ _ _ us hl => match us, hl with | [_, _, _], _ => rfl⟩, T.g 31, F.kp⟩
  obtain ⟨⟨n, m, ms⟩, e, pr, h⟩ := h
  subst e
  refine ⟨_, (pss_cons (ps_set (i := 3) S.nd rfl (by first | exact Or.inl rfl | exact Or.inr rfl) (pe_lst pa_nil)) (pss_cons (ps_set (i := 4) S.nd rfl (by first | exact Or.inl rfl | exact Or.inr rfl) (pv 2)) (pss_cons (ps_for PassesOwn.never rfl (pi_range1 (by rfl) (T.n 70) (pa_cons (pe_op op_sub (pv 1) pe_int) pa_nil)) (pg_name (i := 5) S.nd rfl (by first | exact Or.inl rfl | exact Or.inr rfl)) (pss_cons (ps_expr (pe_bm PySem.F.plainAttrs_list PySem.F.slot_list_append PySem.F.type_list_append mt_append (pv 3) (pa_cons (pe_ix ix_tup (pv 4) pe_int fun _ _ => rfl) pa_nil))) (pss_one (ps_set (i := 4) S.nd rfl (by first | exact Or.inl rfl | exact Or.inr rfl) (pe_ix ix_tup (pv 4) pe_int fun _ _ => rfl))))) (pss_cons (ps_expr (pe_bm PySem.F.plainAttrs_list PySem.F.slot_list_append PySem.F.type_list_append mt_append (pv 3) (pa_cons (pv 4) pa_nil))) (pss_one (ps_ret (pe_callTy call_tupZ (by rfl) (T.n 72) (by decide +kernel) (pa_cons (pe_lc (own := [("name", 6)]) (g := (gName 6)) (tt := tYes) (te := (tCB (rTupOf K) (tCons (tLc (iList K (tVar 3)) (gName 7) tYes (tBMT (rCntT K) (tVar 7) (tCons (tVar 6) tNil)) [7]) tNil))) rfl S.nd (pi_range1 (by rfl) (T.n 70) (pa_cons (pv 0) pa_nil)) (blkOk_by (N := ["many", "width", "member", "columns", "left", "step", "name", "column"]) (sc := (defScope s_table_of)) (by decide +kernel)) (fun _ _ _ _ _ => (pg_name (i := 6) S.nd rfl (by first | exact Or.inl rfl | exact Or.inr rfl))) (fun _ _ _ _ _ => pts_nil) (fun _ _ _ _ _ => (pe_callTy call_tupZ (by rfl) (T.n 72) (by decide +kernel) (pa_cons (pe_lc (own := [("column", 7)]) (g := (gName 7)) (tt := tYes) (te := (tBMT (rCntT K) (tVar 7) (tCons (tVar 6) tNil))) rfl S.nd (pi_list (pv 3)) (blkOk_by (N := ["many", "width", "member", "columns", "left", "step", "name", "column"]) (sc := (relS scOut (defScope s_table_of))) (by decide +kernel)) (fun _ _ _ _ _ => (pg_name (i := 7) S.nd rfl (by first | exact Or.inl rfl | exact Or.inr rfl))) (fun _ _ _ _ _ => pts_nil) (fun _ _ _ _ _ => (pe_bmT PySem.F.plainAttrs_tuple PySem.F.slot_tuple_count PySem.F.type_tuple_count mt_cntT (pv 7) (pa_cons (pv 6) pa_nil)))) pa_nil)))) pa_nil)))))))), ?_⟩
  show StD none _ _ [Ent.dat _, Ent.dat _, Ent.dat _, Ent.no, Ent.no, Ent.no, Ent.no, Ent.no]
  try dsimp only at h pr ⊢
  obtain ⟨h1, h2⟩ := pr
  walk_at "d"
  refine st_for (Pd := Da) ?_
  walk_at "d"
  refine ⟨ms.length, by congr 2; omega, by omega, ?_⟩
  refine ⟨fun i ds => ∃ a, ds = [Ent.dat (.int (n : Nat)), Ent.dat (.int ((ms.length + 1 : Nat))), Ent.dat (memE m ms), Ent.own (((m :: ms).map iv).take i), Ent.dat (leftM m ms i), a, Ent.no, Ent.no], ⟨_, by cases ms <;> rfl⟩, fun i d ds2 e1 iv2 => ?_, fun ds2 iv2 => ?_⟩
  · obtain ⟨a, rfl⟩ := iv2
    obtain ⟨hi, q1⟩ := rmap_at e1
    subst q1
    obtain ⟨x, hx, el⟩ := leftM_at ms m i hi
    have et : ((m :: ms).map iv).take (i + 1) = ((m :: ms).map iv).take i ++ [iv x] := by
      rw [List.take_succ, List.getElem?_map, hx]
      rfl
    rw [el]
    walk_at "d"
    refine ⟨by rw [List.length_take]; omega, ?_⟩
    walk_at "d"
    dsimp only
    rw [et]
    exact ⟨_, rfl⟩
  · obtain ⟨a, rfl⟩ := iv2
    obtain ⟨x, hx, el⟩ := leftM_end ms m
    rw [List.length_map, List.length_range, el]
    have et : ((m :: ms).map iv).take ms.length ++ [iv x] = (m :: ms).map iv := by
      have e2 : ((m :: ms).map iv).take (ms.length + 1) = ((m :: ms).map iv).take ms.length ++ [iv x] := by
        rw [List.take_succ, List.getElem?_map, hx]
        rfl
      rw [← e2, List.take_of_length_le (by rw [List.length_map, List.length_cons]; exact Nat.le_refl _)]
    walk_at "d"
    refine ⟨by rw [List.length_take, List.length_map, List.length_cons]; omega, ?_⟩
    rw [et]
    refine st_freeze (i := 3) rfl ?_
    walk_at "d"
    refine ev_map (Pd := Da) ?_
    walk_at "d"
    refine ⟨by omega, ?_⟩
    refine ⟨(tabR n m ms).map iv, by rw [List.length_map, List.length_range]; omega, by unfold tabR; rw [List.length_map, List.length_map, List.length_map], fun i d y e1 e2 => ?_, ?_⟩
    · obtain ⟨hi, q1⟩ := rmap_at e1
      unfold tabR at e2
      obtain ⟨_, q2⟩ := rmmap_at e2
      subst q1 q2
      walk_at "d"
      refine ev_map (Pd := Da) ?_
      walk_at "d"
      refine ⟨((m :: ms).map fun c => ((c.count (i : Int) : Nat) : Int)).map PyData.int, by rw [List.length_map, List.length_cons]; omega, by rw [List.length_map, List.length_map, List.length_map], fun j d y e3 e4 => ?_, ?_⟩
      · obtain ⟨c, hc, q1⟩ := map_at e3
        obtain ⟨c', hc', q2⟩ := mmap_at e4
        rw [hc] at hc'
        cases hc'
        subst q1 q2
        walk_at "d"
        exact md_cnt rfl
      · walk_at "d"
        rfl
    · walk_at "d"
      exact h
end JR
set_option pp.maxSteps 2500
set_option Elab.async false
set_option linter.all false
set_option maxRecDepth 100000
set_option maxHeartbeats 2000000
namespace JR
open PySem PySem.Spec L2 RZ
local macro_rules
  | `(tactic| walk_at "s") => `(tactic| first
    | ((with_reducible apply ev_var); exact rfl) | with_reducible refine ev_isiI ?_ | with_reducible refine ev_isiB ?_ | with_reducible refine ev_isiT ?_ | with_reducible refine ev_isiS ?_ | ((with_reducible refine st_append ?_ ?_); rotate_left; exact ⟨_, rfl⟩) | ((with_reducible apply st_pop); exact rfl) | ((with_reducible apply et_ownNe); exact rfl) | ((with_reducible apply op_i); exact rfl) | ((with_reducible apply it_rgV); exact rfl) | ((with_reducible apply op_inW); exact rfl) | ((with_reducible apply op_ixT); exact rfl) | ((with_reducible apply op_ixL); exact rfl) | ((with_reducible refine And.intro (le_lit ?_) ?_); exact rfl) | ((with_reducible apply op_b); exact rfl) | ((with_reducible apply tc_name); decide) | ((with_reducible apply tc_tup); exact rfl) | ((with_reducible apply tg_tup); exact rfl) | ((with_reducible apply tg_tupD); exact rfl) | ((with_reducible apply tc_tupD); exact rfl)
    | with_reducible refine st_seq ?_ | with_reducible refine st_ret ?_ | with_reducible refine st_next ?_ | with_reducible refine st_if ?_ | with_reducible refine st_par_own2 ?_ | with_reducible refine st_par_own ?_ | with_reducible refine st_rng ?_ | with_reducible refine st_par ?_ | with_reducible refine st_own ?_ | with_reducible refine st_asg ?_ | with_reducible refine st_unpack ?_ | with_reducible refine st_drop ?_ | with_reducible refine st_break ?_ | with_reducible refine ev_int ?_ | with_reducible refine ev_str ?_ | with_reducible refine ev_bl ?_ | with_reducible refine ev_non ?_ | with_reducible refine ev_op ?_ | with_reducible refine ev_un ?_ | with_reducible refine ev_if ?_ | with_reducible refine ev_andV ?_ | with_reducible refine ev_orV ?_ | with_reducible refine ev_notV ?_ | with_reducible refine ev_tup ?_ | with_reducible refine ev_lst ?_ | with_reducible refine ea_nil ?_ | with_reducible refine ea_cons ?_ | with_reducible refine ev_call ?_ | with_reducible refine ev_callN ?_ | with_reducible refine ev_cb ?_ | with_reducible refine ev_sl ?_ | with_reducible refine eo_none ?_ | with_reducible refine eo_some ?_ | with_reducible refine ev_revL ?_ | with_reducible refine ev_revT ?_ | with_reducible refine evn_lrg ?_ | with_reducible refine ev_bmT ?_ | with_reducible refine et_test ?_ | with_reducible refine et_B ?_ | with_reducible refine et_and ?_ | with_reducible refine et_or ?_ | with_reducible refine et_not ?_ | with_reducible refine et_yes ?_ | with_reducible refine ev_chain ?_ | with_reducible refine op_eqI ?_ | with_reducible refine op_neI ?_ | with_reducible refine op_eqS ?_ | with_reducible refine op_neS ?_ | with_reducible refine op_eqB ?_ | with_reducible refine op_neB ?_ | with_reducible refine op_inIn ?_ | with_reducible refine ud_neg ?_ | with_reducible refine op_is ?_ | with_reducible refine op_isnt ?_ | with_reducible refine cb_lenL ?_ | with_reducible refine cb_lenT ?_ | with_reducible refine cb_listT ?_ | with_reducible refine cb_listL ?_ | with_reducible refine cb_tupL ?_ | with_reducible refine cb_int ?_ | with_reducible refine cb_max2 ?_ | with_reducible refine cb_min2 ?_ | with_reducible refine it_list ?_ | with_reducible refine it_tup ?_ | with_reducible refine itn_1 ?_ | with_reducible refine it_rng2 ?_ | with_reducible refine it_rev ?_ | with_reducible refine itn_rev ?_ | with_reducible refine it_enum ?_ | with_reducible refine it_enumT ?_ | with_reducible refine it_zipT ?_ | with_reducible refine tcs_cons ?_ | with_reducible refine tcs_nil ?_ | with_reducible refine tg_name ?_ | with_reducible refine tgs_cons ?_ | with_reducible refine tgs_nil ?_
    | with_reducible refine ⟨_, rfl, ?_⟩
    | with_reducible refine ⟨_, _, rfl, ?_⟩
    | refine and_T ?_ | refine and_F ?_)
  | `(tactic| walk_at "d") => `(tactic| repeat walk_at "s")
theorem letF_in : ∀ (c : List Int) (i : Nat), ∀ v ∈ letF i c, (i : Int) ≤ v ∧ v ≤ ((i + c.length : Nat) : Int) - 1
  | [], _, v, h => absurd h List.not_mem_nil
  | x :: c, i, v, h => by
    rcases List.mem_append.mp (show v ∈ List.replicate x.toNat (i : Int) ++ letF (i + 1) c from h) with h | h
    · rw [List.eq_of_mem_replicate h, List.length_cons]
      omega
    · have := letF_in c (i + 1) v h
      rw [List.length_cons]
      omega
theorem letF_up (sg : Bool) : ∀ (c : List Int) (i : Nat), (∀ x ∈ c, 0 ≤ x ∧ (sg = true → x ≤ 1)) → (letF i c).Pairwise fun a b => a < b ∨ (sg = false ∧ a = b)
  | [], _, _ => .nil
  | x :: c, i, h => by
    show (List.replicate x.toNat (i : Int) ++ letF (i + 1) c).Pairwise _
    obtain ⟨h1, h2⟩ := h x List.mem_cons_self
    refine List.pairwise_append.mpr ⟨?_, letF_up sg c (i + 1) fun y hy => h y (List.mem_cons_of_mem _ hy), fun a ha b hb => ?_⟩
    · cases sg with
      | false => exact List.pairwise_replicate.mpr (.inr (.inr ⟨rfl, rfl⟩))
      | true => exact List.pairwise_replicate.mpr (.inl (by have := h2 rfl; omega))
    · rw [List.eq_of_mem_replicate ha]
      have := letF_in c (i + 1) b hb
      exact .inl (by omega)
theorem adj_of {r : Int → Int → Prop} : ∀ {m : List Int}, m.Pairwise r → ∀ (i : Nat) (a b : Int), m[i]? = some a → m[i + 1]? = some b → r a b
  | [], _, i, a, b, e, _ => by cases e
  | x :: m, h, 0, a, b, e1, e2 => by
    cases e1
    have e2 : m[0]? = some b := e2
    exact (List.pairwise_cons.mp h).1 b (List.mem_of_getElem? e2)
  | x :: m, h, i + 1, a, b, e1, e2 => adj_of (List.pairwise_cons.mp h).2 i a b e1 e2
theorem let_of {sg : Bool} {n : Nat} {c : List Int} (hl : c.length = n) (h : ∀ x ∈ c, 0 ≤ x ∧ (sg = true → x ≤ 1)) (f : (letters c).length ≤ 12) : LetOk sg n (letters c) := ⟨fun v hv => by
  have := letF_in c 0 v hv
  rw [hl] at this
  omega, adj_of (letF_up sg c 0 h), f⟩
theorem OkT.mem {sg : Bool} {h w : Nat} {R : List (List Int)} (k : OkT sg h w R) : MemOk sg h (lh R) (lt R) := by
  obtain ⟨c0, cs, ec, el⟩ := k.toRect.trc
  have hw := k.toRect.width
  have h1 := k.wb
  have every : ∀ c ∈ tr R, LetOk sg h (letters c) := fun c hc => by
    unfold tr at hc
    obtain ⟨i, hi, rfl⟩ := List.mem_map.mp hc
    have hi := List.mem_range.mp hi
    rw [hw] at hi
    exact let_of (by unfold col; rw [List.length_map]; exact k.rows) (k.cnn hi) (k.llen hi)
  have tot : ((tr R).map fun c => ((letters c).length : Int)).sum ≤ 12 := by
    have e : (tr R).map (fun c => ((letters c).length : Int)) = (List.range w).map fun c => (col R c).sum := by
      unfold tr
      rw [List.map_map, hw]
      refine List.map_congr_left fun c hc => ?_
      exact letters_len fun x hx => (k.cnn (List.mem_range.mp hc) x hx).1
    rw [e, cols_sum w R k.cols]
    exact k.tot
  unfold lh lt
  rw [ec] at every tot ⊢
  refine ⟨every c0 List.mem_cons_self, fun l hl => ?_, ?_, ?_, k.hb⟩
  · obtain ⟨c, hc, rfl⟩ := List.mem_map.mp hl
    exact every c (List.mem_cons_of_mem _ hc)
  · rw [List.length_map]
    show cs.length ≤ 3
    omega
  · rw [List.map_cons, List.sum_cons] at tot
    show ((letters c0).length : Int) + (lens (cs.map letters)).sum ≤ 12
    unfold lens
    rw [List.map_map]
    exact tot
theorem plL_len {sg : Bool} {low high : Int} : ∀ (ms : List (List Int)) (m : List Int), ∀ p ∈ plL sg low high m ms, p.2.2.length = ms.length
  | [], m, p, h => by
    obtain ⟨q, _, rfl⟩ := List.mem_map.mp (show p ∈ (leafL sg m low high).map _ from h)
    rfl
  | m' :: ms, m, p, h => by
    rcases List.mem_append.mp (show p ∈ (leafL sg m low high).map _ ++ (plL sg low high m' ms).map _ from h) with h | h
    · obtain ⟨q, _, rfl⟩ := List.mem_map.mp h
      rfl
    · obtain ⟨q, hq, rfl⟩ := List.mem_map.mp h
      have := plL_len ms m' q hq
      show q.2.2.length + 1 = ms.length + 1
      omega
theorem mvM_len {sg : Bool} {g t : Int} {m : List Int} {ms : List (List Int)} {q : IMs} (h : mvM sg g t m ms = some q) : q.2.length = ms.length := by
  unfold mvM at h
  have mm := lo_mem (fun x : IMs => x.2.length = ms.length) (plL sg (if t < g then t else g) (if t > g then t else g) m ms) ([], []) (fun p hp => plL_len ms m p hp) (fun x hx => absurd hx List.not_mem_nil) (fun x hx => absurd hx List.not_mem_nil)
  dsimp only at h
  by_cases hg : g < t
  · rw [if_pos hg] at h
    exact mm.2 q (List.mem_of_head? h)
  · rw [if_neg hg] at h
    exact mm.1 q (List.mem_of_getLast? h)
/-- one transfer of a table -/
def mvT (sg : Bool) (R : List (List Int)) (g t : Int) : Option (List (List Int)) := (mvM sg g t (lh R) (lt R)).map fun q => tabR R.length q.1 q.2
def optT : Option (List (List Int)) → PyData
  | none => .none
  | some R => tbl R
abbrev IMt : Type := List (List Int) × Int × Int × Bool
def A_mt : AD := fnA (fun p : IMt => [tbl p.1, .int p.2.1, .int p.2.2.1, .bool p.2.2.2]) (fun p => ∃ h w, OkT p.2.2.2 h w p.1 ∧ TwoOk h p.2.1 p.2.2.1) fun p => optT (mvT p.2.2.2 p.1 p.2.1 p.2.2.1)
theorem use_mt {R : List (List Int)} {g t : Int} {sg : Bool} {h w : Nat} {W : PyData → Prop} (k : OkT sg h w R) (k2 : TwoOk h g t) (q : W (optT (mvT sg R g t))) : A_mt [tbl R, .int g, .int t, .bool sg] W := ⟨(R, g, t, sg), rfl, ⟨h, w, k, k2⟩, q⟩
/-- try .. except X: suite, the suite told of the exception nothing -/
theorem st_try1 {S : SA} {ds : List Ent} {E : DEnds} {K : PySem.W.Frag} {tb : WX → TS} {ts : TS} {c : Value} (cl : Str → Value) (hb : ∀ W, StD S (tb W) { E with xw := W, cl := cl, xc := fun ds' x _ => PySem.W.exmOne K (cl x) c = some true ∧ StD S ts E ds' } ds) :
    StD S (fun D σ H => tb (wOnly K c (fun _ _ _ => ts) (fun _ _ _ _ => False) D) D σ H) E ds := fun H0 F0 F H σ D x I g =>
  hb _ H0 F0 F H σ D x I ⟨g.nx, g.rt, g.bk, g.ct, fun F' H' σ' ds' y dd fs ys x' I' hd hf ⟨w1, w2⟩ => ⟨true, w1, fun _ _ _ => w2 H0 F0 F' H' σ' D x' I' g, fun z => Bool.noConfusion z⟩⟩
theorem sc_moved_tables : FnScope ["table", "giver", "taker", "sign", "sort", "found"] ["table", "giver", "taker", "sign"] (defScope s_moved_tables) := ⟨rfl, rfl, rfl, by decide +kernel, rfl, by decide +kernel, by decide +kernel⟩
theorem ok_moved_tables {P : Program} {w : World} {K : PySem.W.Frag} {mg : Str → Option Value} {base : Heap}  (T : Tx K mg) (c_sort_of : Cal P w K mg base 2 "sort_of" (spG A_sort_of)) (c_member_of : Cal P w K mg base 2 "member_of" (spG A_member_of)) (c_table_of : Cal P w K mg base 1 "table_of" (spG A_table_of)) (c_transfer : Cal P w K mg base 11 "transfer" (spX (clK K) A_tr))  : Cal P w K mg base 12 "moved_tables" (spG A_mt) := by
  obtain ⟨fd, F⟩ := T.sd.def_ 37 (d := d_moved_tables) rfl
  have S := sc_moved_tables
  refine ⟨⟨fd, ["table", "giver", "taker", "sign"], ok_pure (k := 11) F S (fnA_len fun _ => rfl) (fun cd Ar outer s H E xs W hr h => ?_), F.bindsN fun _ _ _ _ _ _ us hl => match us, hl with | [_, _, _, _], _ => rfl⟩, T.g 37, F.kp⟩
  obtain ⟨⟨R, g, t, sg⟩, e, pr, h⟩ := h
  subst e
  refine ⟨_, (pss_cons (ps_set (i := 4) S.nd rfl (by first | exact Or.inl rfl | exact Or.inr rfl) (pe_cl c_sort_of hr (by omega) (by rfl) (pa_cons (pv 0) (pa_cons (pv 3) pa_nil)))) (pss_cons (ps_set (i := 5) S.nd rfl (by first | exact Or.inl rfl | exact Or.inr rfl) pe_non) (pss_cons (ps_try_only (tb := fun W => tAsg (tCallS (spX (clK K) A_tr) (WE W) (tCons (tCB (fun vs H Q => ∃ p ys, vs = [.ref p] ∧ (SqL K H p ys ∨ SqT K H p ys) ∧ Q (.int ys.length) H) (tCons (tVar 0) tNil)) (tCons (tVar 4) (tCons (tCall (spG A_member_of) [] xno (tCons (tVar 0) tNil)) (tCons (tVar 1) (tCons (tVar 2) tNil)))))) (gName 5)) (ts := fun _ _ _ => tAsg (tC .non) (gName 5)) rfl rfl ⟨by rfl, by decide, .inl (T.g 66)⟩ takes_none5 (fun W pn xe tkb _ => (pss_one (ps_set (i := 5) S.nd rfl (by first | exact Or.inl rfl | exact Or.inr rfl) (pe_clX c_transfer tkb hr (by omega) (by rfl) (pa_cons (pe_callB call_len_seq (by rfl) (T.n 69) (by decide +kernel) (pa_cons (pv 0) pa_nil)) (pa_cons (pv 4) (pa_cons (pe_cl c_member_of hr (by omega) (by rfl) (pa_cons (pv 0) pa_nil)) (pa_cons (pv 1) (pa_cons (pv 2) pa_nil))))))))) (fun a oe cls d pn _ _ => (pss_one (ps_set (i := 5) S.nd rfl (by first | exact Or.inl rfl | exact Or.inr rfl) pe_non)))) (pss_one (ps_ret (pe_ifExp (pt_cmpR op_isN (pv 5) pe_non (nomark _)) pe_non (pe_cl c_table_of hr (by omega) (by rfl) (pa_cons (pe_callB call_len_seq (by rfl) (T.n 69) (by decide +kernel) (pa_cons (pv 0) pa_nil)) (pa_cons (pe_callB call_len_seq (by rfl) (T.n 69) (by decide +kernel) (pa_cons (pe_ix ix_tup (pv 0) pe_int fun _ _ => rfl) pa_nil)) (pa_cons (pv 5) pa_nil)))))))))), ?_⟩
  show StD none _ _ [Ent.dat _, Ent.dat _, Ent.dat _, Ent.dat _, Ent.no, Ent.no]
  try dsimp only at h pr ⊢
  obtain ⟨hh, ww, k, k2⟩ := pr
  have km := k.mem
  obtain ⟨c0, cs, ec, el⟩ := k.toRect.trc
  have h1 := k.wb
  have h2 := k.hb
  have hr0 := k.rows
  have hw := k.toRect.width
  have ll : (lt R).length + 1 = ww := by
    unfold lt
    rw [ec, List.length_map]
    exact el
  walk_at "d"
  refine use_sort_of k ?_
  walk_at "d"
  refine st_try1 (tb := fun W => tAsg (tCallS (spX (clK K) A_tr) (WE W) (tCons (tCB (fun vs H Q => ∃ p ys, vs = [.ref p] ∧ (SqL K H p ys ∨ SqT K H p ys) ∧ Q (.int ys.length) H) (tCons (tVar 0) tNil)) (tCons (tVar 4) (tCons (tCall (spG A_member_of) [] xno (tCons (tVar 0) tNil)) (tCons (tVar 1) (tCons (tVar 2) tNil)))))) (gName 5)) (clK K) fun W' => ?_
  refine st_asgX (A := A_tr) ?_
  walk_at "d"
  rw [List.length_map, hr0]
  walk_at "d"
  refine use_member_of k ?_
  walk_at "d"
  refine ⟨((sg, hh, lh R, lt R), g, t), rfl, ⟨km, k2⟩, ?_⟩
  show (match mvM sg g t (lh R) (lt R) with
    | some q => _
    | none => _)
  have hT : mvT sg R g t = (mvM sg g t (lh R) (lt R)).map fun q => tabR R.length q.1 q.2 := rfl
  cases hm : mvM sg g t (lh R) (lt R) with
  | none =>
    rw [hm] at hT
    rw [hT] at h
    have h : W .none := h
    refine ⟨He.exm_ok (T.sd.fact 99 rfl), ?_⟩
    walk_at "d"
    exact h
  | some q =>
    rw [hm] at hT
    rw [hT] at h
    have h : W (tbl (tabR R.length q.1 q.2)) := h
    have ql := mvM_len hm
    dsimp only
    walk_at "d"
    refine brF (memE_no _ _) ?_
    walk_at "d"
    rw [List.length_map]
    walk_at "d"
    refine op_ixT (head_at k.toRect) ?_
    walk_at "d"
    rw [show (List.map PyData.int (R.headD [])).length = ww by rw [List.length_map]; exact hw]
    refine use_table_of (by omega) (by omega) (by omega) ?_
    exact h
end JR
set_option pp.maxSteps 2500
set_option Elab.async false
set_option linter.all false
set_option maxRecDepth 100000
set_option maxHeartbeats 2000000
namespace JR
open PySem PySem.Spec L2 RZ
local macro_rules
  | `(tactic| walk_at "s") => `(tactic| first
    | ((with_reducible apply ev_var); exact rfl) | with_reducible refine ev_isiI ?_ | with_reducible refine ev_isiB ?_ | with_reducible refine ev_isiT ?_ | with_reducible refine ev_isiS ?_ | ((with_reducible refine st_append ?_ ?_); rotate_left; exact ⟨_, rfl⟩) | ((with_reducible apply st_pop); exact rfl) | ((with_reducible apply et_ownNe); exact rfl) | ((with_reducible apply op_i); exact rfl) | ((with_reducible apply it_rgV); exact rfl) | ((with_reducible apply op_inW); exact rfl) | ((with_reducible apply op_ixT); exact rfl) | ((with_reducible apply op_ixL); exact rfl) | ((with_reducible refine And.intro (le_lit ?_) ?_); exact rfl) | ((with_reducible apply op_b); exact rfl) | ((with_reducible apply tc_name); decide) | ((with_reducible apply tc_tup); exact rfl) | ((with_reducible apply tg_tup); exact rfl) | ((with_reducible apply tg_tupD); exact rfl) | ((with_reducible apply tc_tupD); exact rfl)
    | with_reducible refine st_seq ?_ | with_reducible refine st_ret ?_ | with_reducible refine st_next ?_ | with_reducible refine st_if ?_ | with_reducible refine st_par_own2 ?_ | with_reducible refine st_par_own ?_ | with_reducible refine st_rng ?_ | with_reducible refine st_par ?_ | with_reducible refine st_own ?_ | with_reducible refine st_asg ?_ | with_reducible refine st_unpack ?_ | with_reducible refine st_drop ?_ | with_reducible refine st_break ?_ | with_reducible refine ev_int ?_ | with_reducible refine ev_str ?_ | with_reducible refine ev_bl ?_ | with_reducible refine ev_non ?_ | with_reducible refine ev_op ?_ | with_reducible refine ev_un ?_ | with_reducible refine ev_if ?_ | with_reducible refine ev_andV ?_ | with_reducible refine ev_orV ?_ | with_reducible refine ev_notV ?_ | with_reducible refine ev_tup ?_ | with_reducible refine ev_lst ?_ | with_reducible refine ea_nil ?_ | with_reducible refine ea_cons ?_ | with_reducible refine ev_call ?_ | with_reducible refine ev_callN ?_ | with_reducible refine ev_cb ?_ | with_reducible refine ev_sl ?_ | with_reducible refine eo_none ?_ | with_reducible refine eo_some ?_ | with_reducible refine ev_revL ?_ | with_reducible refine ev_revT ?_ | with_reducible refine evn_lrg ?_ | with_reducible refine ev_bmT ?_ | with_reducible refine et_test ?_ | with_reducible refine et_B ?_ | with_reducible refine et_and ?_ | with_reducible refine et_or ?_ | with_reducible refine et_not ?_ | with_reducible refine et_yes ?_ | with_reducible refine ev_chain ?_ | with_reducible refine op_eqI ?_ | with_reducible refine op_neI ?_ | with_reducible refine op_eqS ?_ | with_reducible refine op_neS ?_ | with_reducible refine op_eqB ?_ | with_reducible refine op_neB ?_ | with_reducible refine op_inIn ?_ | with_reducible refine ud_neg ?_ | with_reducible refine op_is ?_ | with_reducible refine op_isnt ?_ | with_reducible refine cb_lenL ?_ | with_reducible refine cb_lenT ?_ | with_reducible refine cb_listT ?_ | with_reducible refine cb_listL ?_ | with_reducible refine cb_tupL ?_ | with_reducible refine cb_int ?_ | with_reducible refine cb_max2 ?_ | with_reducible refine cb_min2 ?_ | with_reducible refine it_list ?_ | with_reducible refine it_tup ?_ | with_reducible refine itn_1 ?_ | with_reducible refine it_rng2 ?_ | with_reducible refine it_rev ?_ | with_reducible refine itn_rev ?_ | with_reducible refine it_enum ?_ | with_reducible refine it_enumT ?_ | with_reducible refine it_zipT ?_ | with_reducible refine tcs_cons ?_ | with_reducible refine tcs_nil ?_ | with_reducible refine tg_name ?_ | with_reducible refine tgs_cons ?_ | with_reducible refine tgs_nil ?_
    | with_reducible refine ⟨_, rfl, ?_⟩
    | with_reducible refine ⟨_, _, rfl, ?_⟩
    | refine and_T ?_ | refine and_F ?_)
  | `(tactic| walk_at "d") => `(tactic| repeat walk_at "s")
/-! ### the law's own transfers: the brackets -/
abbrev at2 (R : List (List Int)) (r c : Nat) : Int := (R.getD r []).getD c 0
def cellS (sg : Bool) (less more : Int) (k : Nat) : List (Bool × Nat) := if sg = true ∧ less = more then [] else List.replicate more.toNat (false, k) ++ List.replicate less.toNat (true, k)
def ksA (sg : Bool) (R : List (List Int)) (ac : Bool) : List Nat := if ac then (if sg then (List.range R.length).reverse else List.range R.length) else List.range (width R)
def lessA (R : List (List Int)) (low : Nat) (ac : Bool) (k : Nat) : Int := if ac then at2 R k low else at2 R low k
def spotsA (sg : Bool) (R : List (List Int)) (low high : Nat) (ac : Bool) : List (Bool × Nat) := (ksA sg R ac).flatMap fun k => cellS sg (lessA R low ac k) (lessA R high ac k) k
abbrev plK (p : Bool × Nat) : PyData := plE p.1 (.int (p.2 : Nat))
abbrev ISp : Type := List (List Int) × Nat × Nat × Bool × Bool
def A_spots : AD := fnA (fun p : ISp => [tbl p.1, .int (p.2.1 : Nat), .int (p.2.2.1 : Nat), .bool p.2.2.2.1, .bool p.2.2.2.2]) (fun p => ∃ h w, OkT p.2.2.2.2 h w p.1 ∧ p.2.1 < (if p.2.2.2.1 then w else h) ∧ p.2.2.1 < (if p.2.2.2.1 then w else h)) fun p => .list ((spotsA p.2.2.2.2 p.1 p.2.1 p.2.2.1 p.2.2.2.1).map plK)
theorem use_spots {R : List (List Int)} {low high : Nat} {ac sg : Bool} {h w : Nat} {W : PyData → Prop} (k : OkT sg h w R) (h1 : low < (if ac then w else h)) (h2 : high < (if ac then w else h)) (q : W (.list ((spotsA sg R low high ac).map plK))) : A_spots [tbl R, .int (low : Nat), .int (high : Nat), .bool ac, .bool sg] W := ⟨(R, low, high, ac, sg), rfl, ⟨h, w, k, h1, h2⟩, q⟩
theorem row_at {h w : Nat} {R : List (List Int)} (k : Rect h w R) {r : Nat} (hr : r < h) : R[r]? = some (R.getD r []) ∧ (R.getD r []).length = w := by
  have hl : r < R.length := by rw [k.rows]; exact hr
  have e : R[r]? = some R[r] := List.getElem?_eq_getElem hl
  rw [List.getD_eq_getElem?_getD, e]
  exact ⟨rfl, k.cols _ (List.getElem_mem _)⟩
theorem tbl_at {h w : Nat} {R : List (List Int)} (k : Rect h w R) {r : Nat} (hr : r < h) : atI (R.map iv) (r : Int) = some (iv (R.getD r [])) := atI_nat' (by omega) (by
  rw [Int.toNat_natCast, List.getElem?_map, (row_at k hr).1]
  rfl)
theorem cell_at {h w : Nat} {R : List (List Int)} (k : Rect h w R) {r c : Nat} (hr : r < h) (hc : c < w) : atI ((R.getD r []).map PyData.int) (c : Int) = some (.int (at2 R r c)) := atI_nat' (by omega) (by
  rw [Int.toNat_natCast]
  exact iv_at (by rw [(row_at k hr).2]; exact hc))
theorem OkT.at {sg : Bool} {h w : Nat} {R : List (List Int)} (k : OkT sg h w R) {r c : Nat} (hr : r < h) (hc : c < w) : 0 ≤ at2 R r c ∧ at2 R r c ≤ 12 ∧ (sg = true → at2 R r c ≤ 1) := by
  obtain ⟨e, l⟩ := row_at k.toRect hr
  have m : at2 R r c ∈ R.getD r [] := by
    show (R.getD r []).getD c 0 ∈ _
    rw [List.getD_eq_getElem?_getD (l := R.getD r []), List.getElem?_eq_getElem (by omega)]
    exact List.getElem_mem _
  obtain ⟨h1, h2⟩ := k.nn _ (List.mem_of_getElem? e) _ m
  have s1 := le_sum (fun y hy => (k.nn _ (List.mem_of_getElem? e) y hy).1) m
  have s2 := le_sum (c := R.map List.sum) (x := (R.getD r []).sum) (fun y hy => by
    obtain ⟨q, hq, rfl⟩ := List.mem_map.mp hy
    exact sum_nn fun z hz => (k.nn q hq z hz).1) (List.mem_map.mpr ⟨_, List.mem_of_getElem? e, rfl⟩)
  have := k.tot
  exact ⟨h1, by omega, h2⟩
theorem cellS_few {sg : Bool} {a b : Int} {k : Nat} (h1 : a ≤ 12) (h2 : b ≤ 12) : (cellS sg a b k).length ≤ 24 := by
  unfold cellS
  split
  · exact Nat.zero_le _
  · rw [List.length_append, List.length_replicate, List.length_replicate]
    omega
theorem flat_few {f : Nat → List (Bool × Nat)} : ∀ {l : List Nat}, (∀ k ∈ l, (f k).length ≤ 24) → (l.flatMap f).length ≤ 24 * l.length
  | [], _ => Nat.zero_le _
  | a :: l, h => by
    have ih := flat_few (l := l) fun k hk => h k (List.mem_cons_of_mem _ hk)
    have h1 := h a List.mem_cons_self
    rw [List.flatMap_cons, List.length_append, List.length_cons]
    omega
theorem OkT.less {sg : Bool} {h w : Nat} {R : List (List Int)} (k : OkT sg h w R) {ac : Bool} {low : Nat} (hl : low < (if ac then w else h)) {j : Nat} (hj : j ∈ ksA sg R ac) : 0 ≤ lessA R low ac j ∧ lessA R low ac j ≤ 12 := by
  unfold lessA
  unfold ksA at hj
  cases ac with
  | true =>
    have hj' : j < R.length := by
      cases sg with
      | true => exact List.mem_range.mp (List.mem_reverse.mp hj)
      | false => exact List.mem_range.mp hj
    rw [k.rows] at hj'
    obtain ⟨a, b, _⟩ := k.at hj' hl
    exact ⟨a, b⟩
  | false =>
    have hj' := List.mem_range.mp (show j ∈ List.range (width R) from hj)
    rw [k.toRect.width] at hj'
    obtain ⟨a, b, _⟩ := k.at hl hj'
    exact ⟨a, b⟩
theorem et_imp {S : SA} {tt : TT} {ds : List Ent} {W : List Ent → Bool → Prop} {M : Bool} (h : EvT S tt ds fun ds2 b => ds2 = ds ∧ b = M) (w : W ds M) : EvT S tt ds W := fun H0 F H σ Q I q =>
  h H0 F H σ Q I fun b F' H' ds' x I' ⟨e1, e2⟩ => q b F' H' ds' x I' (by rw [e1, e2]; exact w)
theorem sc_law_spots : FnScope ["_law_table_here", "_law_low", "_law_high", "_law_across", "_law_signed", "_law_found", "_law_spots_here", "_law_k", "_law_less", "_law_more"] ["_law_table_here", "_law_low", "_law_high", "_law_across", "_law_signed"] (defScope s_law_spots) := ⟨rfl, rfl, rfl, by decide +kernel, rfl, by decide +kernel, by decide +kernel⟩
theorem ok_law_spots {P : Program} {w : World} {K : PySem.W.Frag} {mg : Str → Option Value} {base : Heap}  (T : Tx K mg)   : Cal P w K mg base 1 "_law_spots" (spG A_spots) := by
  obtain ⟨fd, F⟩ := T.sd.def_ 49 (d := d_law_spots) rfl
  have S := sc_law_spots
  refine ⟨⟨fd, ["_law_table_here", "_law_low", "_law_high", "_law_across", "_law_signed"], ok_pure (k := 0) F S (fnA_len fun _ => rfl) (fun cd Ar outer s H E xs W hr h => ?_), F.bindsN fun _ _ _ _ _ _ us hl => match us, hl with | [_, _, _, _, _], _ => rfl⟩, T.g 49, F.kp⟩
  obtain ⟨⟨R, low, high, ac, sg⟩, e, pr, h⟩ := h
  subst e
  refine ⟨_, (pss_cons (ps_set (i := 5) S.nd rfl (by first | exact Or.inl rfl | exact Or.inr rfl) (pe_lst pa_nil)) (pss_cons (ps_set (i := 6) S.nd rfl (by first | exact Or.inl rfl | exact Or.inr rfl) (pe_listRg rfl (by rfl) (T.n 73) (prg_1 (by rfl) (T.n 70) (pe_ifExp (pt_val (pv 3)) (pe_callB call_len_seq (by rfl) (T.n 69) (by decide +kernel) (pa_cons (pv 0) pa_nil)) (pe_callB call_len_seq (by rfl) (T.n 69) (by decide +kernel) (pa_cons (pe_ix ix_tup (pv 0) pe_int fun _ _ => rfl) pa_nil)))))) (pss_cons (ps_for PassesOwn.never rfl (pi_list (pe_ifExp (PW.pt (pw_and (pt_val (pv 3)) (pw_and1 (pt_val (pv 4))))) (pe_revL (pv 6)) (pv 6))) (pg_name (i := 7) S.nd rfl (by first | exact Or.inl rfl | exact Or.inr rfl)) (pss_cons (ps_set (i := 8) S.nd rfl (by first | exact Or.inl rfl | exact Or.inr rfl) (pe_ifExp (pt_val (pv 3)) (pe_ix ix_tup (pe_ix ix_tup (pv 0) (pv 7) fun _ _ => rfl) (pv 1) fun _ _ => rfl) (pe_ix ix_tup (pe_ix ix_tup (pv 0) (pv 1) fun _ _ => rfl) (pv 7) fun _ _ => rfl))) (pss_cons (ps_set (i := 9) S.nd rfl (by first | exact Or.inl rfl | exact Or.inr rfl) (pe_ifExp (pt_val (pv 3)) (pe_ix ix_tup (pe_ix ix_tup (pv 0) (pv 7) fun _ _ => rfl) (pv 2) fun _ _ => rfl) (pe_ix ix_tup (pe_ix ix_tup (pv 0) (pv 2) fun _ _ => rfl) (pv 7) fun _ _ => rfl))) (pss_cons (ps_if (PW.pt (pw_and (pt_val (pv 4)) (pw_and1 (pt_cmpR op_eq (pv 8) (pv 9) (nomark _))))) (pss_one (ps_asg (pe_tupZ (pa_cons pe_int (pa_cons pe_int pa_nil))) (pg_tup (by rfl) (pgs_cons (pg_name (i := 8) S.nd rfl (by first | exact Or.inl rfl | exact Or.inr rfl)) (pgs_cons (pg_name (i := 9) S.nd rfl (by first | exact Or.inl rfl | exact Or.inr rfl)) pgs_nil))))) pss_nil) (pss_one (ps_set (i := 5) S.nd rfl (by first | exact Or.inl rfl | exact Or.inr rfl) (pe_op op_cat (pe_op op_cat (pv 5) (pe_op L2.op_rep (pe_lst (pa_cons (pe_tupZ (pa_cons pe_str (pa_cons (pv 7) pa_nil))) pa_nil)) (pv 9))) (pe_op L2.op_rep (pe_lst (pa_cons (pe_tupZ (pa_cons pe_str (pa_cons (pv 7) pa_nil))) pa_nil)) (pv 8))))))))) (pss_one (ps_ret (pv 5)))))), ?_⟩
  show StD none _ _ [Ent.dat _, Ent.dat _, Ent.dat _, Ent.dat _, Ent.dat _, Ent.no, Ent.no, Ent.no, Ent.no, Ent.no]
  try dsimp only at h pr ⊢
  obtain ⟨hh, ww, k, h1, h2⟩ := pr
  have kw := k.wb
  have kh := k.hb
  have kr := k.rows
  have hw := k.toRect.width
  refine st_seq ?_
  refine st_asg (ev_lst (ea_nil ⟨by decide, ?_⟩))
  walk_at "d"
  refine mergeD (M := .int ((if ac then hh else ww : Nat))) (fun e => ?_) (fun e => ?_) ?_
  · subst e
    walk_at "d"
    exact ⟨rfl, by rw [List.length_map, kr]; rfl⟩
  · subst e
    walk_at "d"
    refine op_ixT (head_at k.toRect) ?_
    walk_at "d"
    exact ⟨rfl, by rw [List.length_map]; exact congrArg (fun z : Nat => PyData.int (z : Int)) hw⟩
  have nb : (if ac then hh else ww) ≤ 4 := by
    cases ac with
    | true => exact kh.2
    | false => exact kw.2
  walk_at "d"
  refine ⟨by omega, ?_⟩
  walk_at "d"
  have hks : ksA sg R ac = if ac = true ∧ sg = true then (List.range (if ac then hh else ww)).reverse else List.range (if ac then hh else ww) := by
    unfold ksA
    cases ac <;> cases sg <;> simp [kr, hw]
  have kl : (ksA sg R ac).length ≤ 4 := by
    rw [hks]
    split
    · rw [List.length_reverse, List.length_range]; exact nb
    · rw [List.length_range]; exact nb
  refine st_for (Pd := Da) ?_
  refine it_list ?_
  refine ev_if ?_
  refine et_imp (M := decide (ac = true ∧ sg = true)) ?_ ?_
  · walk_at "d"
    cases ac with
    | true =>
      walk_at "d"
      cases sg <;> exact ⟨rfl, rfl⟩
    | false =>
      walk_at "d"
      exact ⟨rfl, rfl⟩
  refine mergeD (M := .list ((ksA sg R ac).map fun k => PyData.int (k : Nat))) (fun e => ?_) (fun e => ?_) ?_
  · walk_at "d"
    refine ⟨rfl, ?_⟩
    rw [hks, if_pos (of_decide_eq_true e), List.map_reverse]
  · walk_at "d"
    refine ⟨rfl, ?_⟩
    rw [hks, if_neg (of_decide_eq_false e)]
  walk_at "d"
  unfold spotsA at h
  generalize ef : (fun k => cellS sg (lessA R low ac k) (lessA R high ac k) k) = f at h
  have fw : ∀ k ∈ ksA sg R ac, (f k).length ≤ 24 := fun j hj => by
    rw [← ef]
    exact cellS_few (k.less h1 hj).2 (k.less h2 hj).2
  refine ⟨fun i ds => ∃ b c d e, ds = [Ent.dat (tbl R), Ent.dat (.int (low : Nat)), Ent.dat (.int (high : Nat)), Ent.dat (.bool ac), Ent.dat (.bool sg), Ent.dat (.list ((((ksA sg R ac).take i).flatMap f).map plK)), b, c, d, e], ⟨_, _, _, _, by rw [List.take_zero]; rfl⟩, fun i d ds2 e1 iv2 => ?_, fun ds2 iv2 => ?_⟩
  · obtain ⟨b, c, d', e', rfl⟩ := iv2
    obtain ⟨j, hj, rfl⟩ := map_at e1
    have mj := List.mem_of_getElem? hj
    have g1 := k.less h1 mj
    have g2 := k.less h2 mj
    have fl : (((ksA sg R ac).take i).flatMap f).length ≤ 96 := by
      refine Nat.le_trans (flat_few fun k hk => fw k (List.mem_of_mem_take hk)) ?_
      rw [List.length_take]
      omega
    have et : (((ksA sg R ac).take (i + 1)).flatMap f).map plK = (((ksA sg R ac).take i).flatMap f).map plK ++ (f j).map plK := by
      rw [List.take_succ, hj, List.flatMap_append, List.map_append]
      show _ ++ List.map plK (f j ++ []) = _
      rw [List.append_nil]
    have get : ∀ (l : Nat), l < (if ac then ww else hh) → (ac = true → j < hh ∧ l < ww ∧ lessA R l ac j = at2 R j l) ∧ (ac = false → j < ww ∧ l < hh ∧ lessA R l ac j = at2 R l j) := fun l hl => by
      constructor
      · intro e
        subst e
        have q : j < R.length := by
          unfold ksA at mj
          cases sg with
          | true => exact List.mem_range.mp (List.mem_reverse.mp mj)
          | false => exact List.mem_range.mp mj
        exact ⟨by omega, hl, rfl⟩
      · intro e
        subst e
        have q := List.mem_range.mp (show j ∈ List.range (width R) from mj)
        exact ⟨by omega, hl, rfl⟩
    walk_at "d"
    refine mergeD (M := .int (lessA R low ac j)) (fun e => ?_) (fun e => ?_) ?_
    · obtain ⟨q1, q2, q3⟩ := (get low h1).1 e
      rw [q3]
      walk_at "d"
      refine op_ixT (tbl_at k.toRect q1) ?_
      walk_at "d"
      refine op_ixT (cell_at k.toRect q1 q2) ?_
      exact ⟨rfl, rfl⟩
    · obtain ⟨q1, q2, q3⟩ := (get low h1).2 e
      rw [q3]
      walk_at "d"
      refine op_ixT (tbl_at k.toRect q2) ?_
      walk_at "d"
      refine op_ixT (cell_at k.toRect q2 q1) ?_
      exact ⟨rfl, rfl⟩
    walk_at "d"
    refine mergeD (M := .int (lessA R high ac j)) (fun e => ?_) (fun e => ?_) ?_
    · obtain ⟨q1, q2, q3⟩ := (get high h2).1 e
      rw [q3]
      walk_at "d"
      refine op_ixT (tbl_at k.toRect q1) ?_
      walk_at "d"
      refine op_ixT (cell_at k.toRect q1 q2) ?_
      exact ⟨rfl, rfl⟩
    · obtain ⟨q1, q2, q3⟩ := (get high h2).2 e
      rw [q3]
      walk_at "d"
      refine op_ixT (tbl_at k.toRect q2) ?_
      walk_at "d"
      refine op_ixT (cell_at k.toRect q2 q1) ?_
      exact ⟨rfl, rfl⟩
    walk_at "s"
    refine st_if ?_
    refine et_imp (M := decide (sg = true ∧ lessA R low ac j = lessA R high ac j)) ?_ ?_
    · walk_at "d"
      cases sg with
      | true =>
        walk_at "d"
        exact ⟨rfl, by simp⟩
      | false =>
        walk_at "d"
        exact ⟨rfl, rfl⟩
    refine ⟨fun e => ?_, fun e => ?_⟩
    · have ej : f j = [] := by
        rw [← ef]
        exact if_pos (of_decide_eq_true e)
      walk_at "d"
      refine op_rep (by decide) (by decide) (by show 1 * 0 ≤ 100000; decide) ?_
      refine op_catL (by rw [List.length_map]; show _ + 0 ≤ _; omega) ?_
      walk_at "d"
      refine op_rep (by decide) (by decide) (by show 1 * 0 ≤ 100000; decide) ?_
      refine op_catL (by rw [List.length_append, List.length_map]; show _ + 0 + 0 ≤ _; omega) ?_
      dsimp only
      rw [et, ej]
      exact ⟨_, _, _, _, by
        show _ = [_, _, _, _, _, Ent.dat (.list (_ ++ [])), _, _, _, _]
        rw [List.append_nil]
        show [_, _, _, _, _, Ent.dat (.list (_ ++ [] ++ [])), _, _, _, _] = _
        rw [List.append_nil, List.append_nil]⟩
    · have ej : f j = List.replicate (lessA R high ac j).toNat (false, j) ++ List.replicate (lessA R low ac j).toNat (true, j) := by
        rw [← ef]
        exact if_neg (of_decide_eq_false e)
      walk_at "d"
      refine op_rep (by omega) (by omega) (by show 1 * (lessA R high ac j).toNat ≤ 100000; omega) ?_
      rw [flat_one]
      refine op_catL (by rw [List.length_map, List.length_replicate]; omega) ?_
      walk_at "d"
      refine op_rep (by omega) (by omega) (by show 1 * (lessA R low ac j).toNat ≤ 100000; omega) ?_
      rw [flat_one]
      refine op_catL (by rw [List.length_append, List.length_map, List.length_replicate, List.length_replicate]; omega) ?_
      dsimp only
      rw [et, ej, List.map_append, List.map_replicate, List.map_replicate, ← List.append_assoc]
      exact ⟨_, _, _, _, rfl⟩
  · obtain ⟨b, c, d', e', rfl⟩ := iv2
    rw [List.length_map, List.take_length]
    walk_at "d"
    exact h
end JR
set_option pp.maxSteps 2500
set_option Elab.async false
set_option linter.all false
set_option maxRecDepth 100000
set_option maxHeartbeats 2000000
namespace JR
open PySem PySem.Spec L2 RZ
local macro_rules
  | `(tactic| walk_at "s") => `(tactic| first
    | ((with_reducible apply ev_var); exact rfl) | with_reducible refine ev_isiI ?_ | with_reducible refine ev_isiB ?_ | with_reducible refine ev_isiT ?_ | with_reducible refine ev_isiS ?_ | ((with_reducible refine st_append ?_ ?_); rotate_left; exact ⟨_, rfl⟩) | ((with_reducible apply st_pop); exact rfl) | ((with_reducible apply et_ownNe); exact rfl) | ((with_reducible apply op_i); exact rfl) | ((with_reducible apply it_rgV); exact rfl) | ((with_reducible apply op_inW); exact rfl) | ((with_reducible apply op_ixT); exact rfl) | ((with_reducible apply op_ixL); exact rfl) | ((with_reducible refine And.intro (le_lit ?_) ?_); exact rfl) | ((with_reducible apply op_b); exact rfl) | ((with_reducible apply tc_name); decide) | ((with_reducible apply tc_tup); exact rfl) | ((with_reducible apply tg_tup); exact rfl) | ((with_reducible apply tg_tupD); exact rfl) | ((with_reducible apply tc_tupD); exact rfl)
    | with_reducible refine st_seq ?_ | with_reducible refine st_ret ?_ | with_reducible refine st_next ?_ | with_reducible refine st_if ?_ | with_reducible refine st_par_own2 ?_ | with_reducible refine st_par_own ?_ | with_reducible refine st_rng ?_ | with_reducible refine st_par ?_ | with_reducible refine st_own ?_ | with_reducible refine st_asg ?_ | with_reducible refine st_unpack ?_ | with_reducible refine st_drop ?_ | with_reducible refine st_break ?_ | with_reducible refine ev_int ?_ | with_reducible refine ev_str ?_ | with_reducible refine ev_bl ?_ | with_reducible refine ev_non ?_ | with_reducible refine ev_op ?_ | with_reducible refine ev_un ?_ | with_reducible refine ev_if ?_ | with_reducible refine ev_andV ?_ | with_reducible refine ev_orV ?_ | with_reducible refine ev_notV ?_ | with_reducible refine ev_tup ?_ | with_reducible refine ev_lst ?_ | with_reducible refine ea_nil ?_ | with_reducible refine ea_cons ?_ | with_reducible refine ev_call ?_ | with_reducible refine ev_callN ?_ | with_reducible refine ev_cb ?_ | with_reducible refine ev_sl ?_ | with_reducible refine eo_none ?_ | with_reducible refine eo_some ?_ | with_reducible refine ev_revL ?_ | with_reducible refine ev_revT ?_ | with_reducible refine evn_lrg ?_ | with_reducible refine ev_bmT ?_ | with_reducible refine et_test ?_ | with_reducible refine et_B ?_ | with_reducible refine et_and ?_ | with_reducible refine et_or ?_ | with_reducible refine et_not ?_ | with_reducible refine et_yes ?_ | with_reducible refine ev_chain ?_ | with_reducible refine op_eqI ?_ | with_reducible refine op_neI ?_ | with_reducible refine op_eqS ?_ | with_reducible refine op_neS ?_ | with_reducible refine op_eqB ?_ | with_reducible refine op_neB ?_ | with_reducible refine op_inIn ?_ | with_reducible refine ud_neg ?_ | with_reducible refine op_is ?_ | with_reducible refine op_isnt ?_ | with_reducible refine cb_lenL ?_ | with_reducible refine cb_lenT ?_ | with_reducible refine cb_listT ?_ | with_reducible refine cb_listL ?_ | with_reducible refine cb_tupL ?_ | with_reducible refine cb_int ?_ | with_reducible refine cb_max2 ?_ | with_reducible refine cb_min2 ?_ | with_reducible refine it_list ?_ | with_reducible refine it_tup ?_ | with_reducible refine itn_1 ?_ | with_reducible refine it_rng2 ?_ | with_reducible refine it_rev ?_ | with_reducible refine itn_rev ?_ | with_reducible refine it_enum ?_ | with_reducible refine it_enumT ?_ | with_reducible refine it_zipT ?_ | with_reducible refine tcs_cons ?_ | with_reducible refine tcs_nil ?_ | with_reducible refine tg_name ?_ | with_reducible refine tgs_cons ?_ | with_reducible refine tgs_nil ?_
    | with_reducible refine ⟨_, rfl, ?_⟩
    | with_reducible refine ⟨_, _, rfl, ?_⟩
    | refine and_T ?_ | refine and_F ?_)
  | `(tactic| walk_at "d") => `(tactic| repeat walk_at "s")
def A_loose : AD := fnA (fun p : ISp => [tbl p.1, .int (p.2.1 : Nat), .int (p.2.2.1 : Nat), .bool p.2.2.2.1, .bool p.2.2.2.2]) (fun p => ∃ h w, OkT p.2.2.2.2 h w p.1 ∧ p.2.1 < (if p.2.2.2.1 then w else h) ∧ p.2.2.1 < (if p.2.2.2.1 then w else h)) fun p => .tuple [.list (natL (lo (spotsA p.2.2.2.2 p.1 p.2.1 p.2.2.1 p.2.2.2.1)).1), .list (natL (lo (spotsA p.2.2.2.2 p.1 p.2.1 p.2.2.1 p.2.2.2.1)).2)]
theorem use_loose {R : List (List Int)} {low high : Nat} {ac sg : Bool} {h w : Nat} {W : PyData → Prop} (k : OkT sg h w R) (h1 : low < (if ac then w else h)) (h2 : high < (if ac then w else h)) (q : W (.tuple [.list (natL (lo (spotsA sg R low high ac)).1), .list (natL (lo (spotsA sg R low high ac)).2)])) : A_loose [tbl R, .int (low : Nat), .int (high : Nat), .bool ac, .bool sg] W := ⟨(R, low, high, ac, sg), rfl, ⟨h, w, k, h1, h2⟩, q⟩
theorem OkT.ks {sg : Bool} {h w : Nat} {R : List (List Int)} (k : OkT sg h w R) {ac : Bool} {j : Nat} (hj : j ∈ ksA sg R ac) : j < (if ac then h else w) := by
  unfold ksA at hj
  cases ac with
  | true =>
    have q : j < R.length := by
      cases sg with
      | true => exact List.mem_range.mp (List.mem_reverse.mp hj)
      | false => exact List.mem_range.mp hj
    rw [k.rows] at q
    exact q
  | false =>
    have q := List.mem_range.mp (show j ∈ List.range (width R) from hj)
    rw [k.toRect.width] at q
    exact q
theorem OkT.ksl {sg : Bool} {h w : Nat} {R : List (List Int)} (k : OkT sg h w R) (ac : Bool) : (ksA sg R ac).length ≤ 4 := by
  unfold ksA
  have h1 := k.hb
  have h2 := k.wb
  have h3 := k.rows
  have h4 := k.toRect.width
  cases ac with
  | true => cases sg with
    | true => show (List.range R.length).reverse.length ≤ 4; rw [List.length_reverse, List.length_range]; omega
    | false => show (List.range R.length).length ≤ 4; rw [List.length_range]; omega
  | false => show (List.range (width R)).length ≤ 4; rw [List.length_range]; omega
theorem OkT.spl {sg : Bool} {h w : Nat} {R : List (List Int)} (k : OkT sg h w R) {ac : Bool} {low high : Nat} (h1 : low < (if ac then w else h)) (h2 : high < (if ac then w else h)) : (spotsA sg R low high ac).length ≤ 96 := by
  have q := flat_few (l := ksA sg R ac) (f := fun k => cellS sg (lessA R low ac k) (lessA R high ac k) k) fun j hj => cellS_few (k.less h1 hj).2 (k.less h2 hj).2
  have := k.ksl ac
  unfold spotsA
  omega
theorem sc_law_loose : FnScope ["_law_table_here", "_law_low", "_law_high", "_law_across", "_law_signed", "_law_shut", "_law_left", "_law_one", "_law_k"] ["_law_table_here", "_law_low", "_law_high", "_law_across", "_law_signed"] (defScope s_law_loose) := ⟨rfl, rfl, rfl, by decide +kernel, rfl, by decide +kernel, by decide +kernel⟩
theorem ok_law_loose {P : Program} {w : World} {K : PySem.W.Frag} {mg : Str → Option Value} {base : Heap}  (T : Tx K mg) (c_law_spots : Cal P w K mg base 1 "_law_spots" (spG A_spots))  : Cal P w K mg base 2 "_law_loose" (spG A_loose) := by
  obtain ⟨fd, F⟩ := T.sd.def_ 50 (d := d_law_loose) rfl
  have S := sc_law_loose
  refine ⟨⟨fd, ["_law_table_here", "_law_low", "_law_high", "_law_across", "_law_signed"], ok_pure (k := 1) F S (fnA_len fun _ => rfl) (fun cd Ar outer s H E xs W hr h => ?_), F.bindsN fun _ _ _ _ _ _ us hl => match us, hl with | [_, _, _, _, _], _ => rfl⟩, T.g 50, F.kp⟩
  obtain ⟨⟨R, low, high, ac, sg⟩, e, pr, h⟩ := h
  subst e
  refine ⟨_, (pss_cons (ps_par (i := 5) (j := 6) (by rfl) S.nd rfl rfl (by decide) rfl rfl (pa_cons (pe_lst pa_nil) (pa_cons (pe_lst pa_nil) pa_nil)) (by rfl)) (pss_cons (ps_for PassesOwn.never rfl (pi_list (pe_cl c_law_spots hr (by omega) (by rfl) (pa_cons (pv 0) (pa_cons (pv 1) (pa_cons (pv 2) (pa_cons (pv 3) (pa_cons (pv 4) pa_nil))))))) (pg_tup (by rfl) (pgs_cons (pg_name (i := 7) S.nd rfl (by first | exact Or.inl rfl | exact Or.inr rfl)) (pgs_cons (pg_name (i := 8) S.nd rfl (by first | exact Or.inl rfl | exact Or.inr rfl)) pgs_nil))) (pss_one (ps_if (pt_cmpR op_eq (pv 7) pe_str (nomark _)) (pss_one (ps_expr (pe_bm PySem.F.plainAttrs_list PySem.F.slot_list_append PySem.F.type_list_append mt_append (pv 6) (pa_cons (pv 8) pa_nil)))) (pss_one (ps_if (pt_cmpR (op_neD hr.units) (pv 6) (pe_lst pa_nil) (nomark _)) (pss_one (ps_expr (pe_bm0 PySem.F.plainAttrs_list PySem.F.slot_list_pop PySem.F.type_list_pop mt_pop (pv 6)))) (pss_one (ps_expr (pe_bm PySem.F.plainAttrs_list PySem.F.slot_list_append PySem.F.type_list_append mt_append (pv 5) (pa_cons (pv 8) pa_nil))))))))) (pss_one (ps_ret (pe_tupZ (pa_cons (pv 5) (pa_cons (pv 6) pa_nil))))))), ?_⟩
  show StD none _ _ [Ent.dat _, Ent.dat _, Ent.dat _, Ent.dat _, Ent.dat _, Ent.no, Ent.no, Ent.no, Ent.no]
  try dsimp only at h pr ⊢
  obtain ⟨hh, ww, k, h1, h2⟩ := pr
  have sl := k.spl h1 h2
  generalize eP : spotsA sg R low high ac = P at h sl
  walk_at "d"
  refine st_for (Pd := Da) ?_
  walk_at "d"
  refine use_spots k h1 h2 ?_
  rw [eP]
  walk_at "d"
  refine ⟨fun i ds => ∃ a b, ds = [Ent.dat (tbl R), Ent.dat (.int (low : Nat)), Ent.dat (.int (high : Nat)), Ent.dat (.bool ac), Ent.dat (.bool sg), Ent.own (natL (lo (P.take i)).1), Ent.own (natL (lo (P.take i)).2), a, b], ⟨_, _, rfl⟩, fun i d ds2 e1 iv2 => ?_, fun ds2 iv2 => ?_⟩
  · obtain ⟨a, b, rfl⟩ := iv2
    obtain ⟨q, hq, rfl⟩ := map_at e1
    have hst := lo_step hq
    have fw := lo_few (P.take i) ([], [])
    have f1 : (lo (P.take i)).1.length ≤ 2000 := Nat.le_trans fw.1 (by rw [List.length_take]; show 0 + _ ≤ _; omega)
    have f2 : (lo (P.take i)).2.length ≤ 2000 := Nat.le_trans fw.2 (by rw [List.length_take]; show 0 + _ ≤ _; omega)
    have cp : ∀ (l : List Nat) (k : Nat), natL (l ++ [k]) = natL l ++ [.int (k : Nat)] := fun l k => by
      unfold natL
      rw [List.map_append]
      rfl
    obtain ⟨qb, qk⟩ := q
    cases qb with
    | true =>
      walk_at "d"
      refine ⟨by unfold natL; rw [List.length_map]; exact Nat.le_trans f2 (by decide), ?_⟩
      dsimp only
      rw [hst]
      exact ⟨_, _, by rw [show loS (lo (P.take i)) (true, qk) = ((lo (P.take i)).1, (lo (P.take i)).2 ++ [qk]) from rfl, cp]; rfl⟩
    | false =>
      walk_at "d"
      · exact sh_nats _
      cases hs : (lo (P.take i)).2 with
      | nil =>
        have el : loS (lo (P.take i)) (false, qk) = ((lo (P.take i)).1 ++ [qk], []) := by
          unfold loS
          rw [hs]
          rfl
        walk_at "d"
        refine ⟨by unfold natL; rw [List.length_map]; exact Nat.le_trans f1 (by decide), ?_⟩
        dsimp only
        rw [hst, el]
        exact ⟨_, _, by rw [cp]; rfl⟩
      | cons c r =>
        have el : loS (lo (P.take i)) (false, qk) = ((lo (P.take i)).1, (c :: r).dropLast) := by
          unfold loS
          rw [hs]
          rfl
        walk_at "d"
        · exact fun z => by cases z
        dsimp only
        rw [hst, el]
        exact ⟨_, _, by
          show _ = [_, _, _, _, _, _, Ent.own (natL (c :: r).dropLast), _, _]
          unfold natL
          rw [List.map_dropLast]
          rfl⟩
  · obtain ⟨a, b, rfl⟩ := iv2
    rw [List.length_map, List.take_length]
    refine st_freeze (i := 5) rfl ?_
    refine st_freeze (i := 6) rfl ?_
    walk_at "d"
    exact h
/-! ### one transfer of the law -/
def set2 (R : List (List Int)) (r c : Nat) (v : Int) : List (List Int) := R.set r ((R.getD r []).set c v)
def mvK (R : List (List Int)) (g t k : Nat) (ac : Bool) : List (List Int) :=
  if ac then set2 (set2 R k g (at2 R k g - 1)) k t (at2 (set2 R k g (at2 R k g - 1)) k t + 1)
  else set2 (set2 R g k (at2 R g k - 1)) t k (at2 (set2 R g k (at2 R g k - 1)) t k + 1)
abbrev ILm : Type := List (List Int) × Nat × Nat × Nat × Bool
def A_lm : AD := fnA (fun p : ILm => [tbl p.1, .int (p.2.1 : Nat), .int (p.2.2.1 : Nat), .int (p.2.2.2.1 : Nat), .bool p.2.2.2.2]) (fun p => ∃ h w, Rect h w p.1 ∧ p.2.1 < (if p.2.2.2.2 then w else h) ∧ p.2.2.1 < (if p.2.2.2.2 then w else h) ∧ p.2.2.2.1 < (if p.2.2.2.2 then h else w)) fun p => tbl (mvK p.1 p.2.1 p.2.2.1 p.2.2.2.1 p.2.2.2.2)
theorem use_lm {R : List (List Int)} {g t k : Nat} {ac : Bool} {h w : Nat} {W : PyData → Prop} (q : Rect h w R) (h1 : g < (if ac then w else h)) (h2 : t < (if ac then w else h)) (h3 : k < (if ac then h else w)) (r : W (tbl (mvK R g t k ac))) : A_lm [tbl R, .int (g : Nat), .int (t : Nat), .int (k : Nat), .bool ac] W := ⟨(R, g, t, k, ac), rfl, ⟨h, w, q, h1, h2, h3⟩, r⟩
def stepA (sg : Bool) (R : List (List Int)) (g t : Nat) (ac : Bool) : Option (List (List Int)) :=
  let r := lo (spotsA sg R (if t < g then t else g) (if t > g then t else g) ac)
  if g < t then r.2.head?.map fun k => mvK R g t k ac else r.1.getLast?.map fun k => mvK R g t k ac
def A_ls : AD := fnA (fun p : ISp => [tbl p.1, .int (p.2.1 : Nat), .int (p.2.2.1 : Nat), .bool p.2.2.2.1, .bool p.2.2.2.2]) (fun p => ∃ h w, OkT p.2.2.2.2 h w p.1 ∧ p.2.1 < (if p.2.2.2.1 then w else h) ∧ p.2.2.1 < (if p.2.2.2.1 then w else h)) fun p => optT (stepA p.2.2.2.2 p.1 p.2.1 p.2.2.1 p.2.2.2.1)
theorem use_ls {R : List (List Int)} {g t : Nat} {ac sg : Bool} {h w : Nat} {W : PyData → Prop} (k : OkT sg h w R) (h1 : g < (if ac then w else h)) (h2 : t < (if ac then w else h)) (q : W (optT (stepA sg R g t ac))) : A_ls [tbl R, .int (g : Nat), .int (t : Nat), .bool ac, .bool sg] W := ⟨(R, g, t, ac, sg), rfl, ⟨h, w, k, h1, h2⟩, q⟩
theorem spots_in {sg : Bool} {R : List (List Int)} {low high : Nat} {ac : Bool} : ∀ p ∈ spotsA sg R low high ac, p.2 ∈ ksA sg R ac := fun p hp => by
  unfold spotsA at hp
  obtain ⟨k, hk, hp⟩ := List.mem_flatMap.mp hp
  have e : p.2 = k := by
    unfold cellS at hp
    split at hp
    · cases hp
    · rcases List.mem_append.mp hp with q | q <;> rw [List.eq_of_mem_replicate q]
  rw [e]
  exact hk
theorem sc_law_step : FnScope ["_law_table_here", "_law_giver", "_law_taker", "_law_across", "_law_signed", "_law_shut", "_law_left"] ["_law_table_here", "_law_giver", "_law_taker", "_law_across", "_law_signed"] (defScope s_law_step) := ⟨rfl, rfl, rfl, by decide +kernel, rfl, by decide +kernel, by decide +kernel⟩
theorem ok_law_step {P : Program} {w : World} {K : PySem.W.Frag} {mg : Str → Option Value} {base : Heap}  (T : Tx K mg) (c_law_loose : Cal P w K mg base 2 "_law_loose" (spG A_loose)) (c_law_moved : Cal P w K mg base 1 "_law_moved" (spG A_lm))  : Cal P w K mg base 3 "_law_step" (spG A_ls) := by
  obtain ⟨fd, F⟩ := T.sd.def_ 52 (d := d_law_step) rfl
  have S := sc_law_step
  refine ⟨⟨fd, ["_law_table_here", "_law_giver", "_law_taker", "_law_across", "_law_signed"], ok_pure (k := 2) F S (fnA_len fun _ => rfl) (fun cd Ar outer s H E xs W hr h => ?_), F.bindsN fun _ _ _ _ _ _ us hl => match us, hl with | [_, _, _, _, _], _ => rfl⟩, T.g 52, F.kp⟩
  obtain ⟨⟨R, g, t, ac, sg⟩, e, pr, h⟩ := h
  subst e
  refine ⟨_, (pss_cons (ps_asg (pe_cl c_law_loose hr (by omega) (by rfl) (pa_cons (pv 0) (pa_cons (pe_callB (call_min2 rfl) (by rfl) (T.n 77) (by decide +kernel) (pa_cons (pv 1) (pa_cons (pv 2) pa_nil))) (pa_cons (pe_callB (call_max2 rfl) (by rfl) (T.n 78) (by decide +kernel) (pa_cons (pv 1) (pa_cons (pv 2) pa_nil))) (pa_cons (pv 3) (pa_cons (pv 4) pa_nil)))))) (pg_tup (by rfl) (pgs_cons (pg_name (i := 5) S.nd rfl (by first | exact Or.inl rfl | exact Or.inr rfl)) (pgs_cons (pg_name (i := 6) S.nd rfl (by first | exact Or.inl rfl | exact Or.inr rfl)) pgs_nil)))) (pss_cons (ps_if (pt_cmpR op_lt (pv 1) (pv 2) (nomark _)) (pss_one (ps_ret (pe_ifExp (pt_cmpR (op_neD hr.units) (pv 6) (pe_lst pa_nil) (nomark _)) (pe_cl c_law_moved hr (by omega) (by rfl) (pa_cons (pv 0) (pa_cons (pv 1) (pa_cons (pv 2) (pa_cons (pe_ix ix_list (pv 6) pe_int fun _ _ => rfl) (pa_cons (pv 3) pa_nil)))))) pe_non))) pss_nil) (pss_one (ps_ret (pe_ifExp (pt_cmpR (op_neD hr.units) (pv 5) (pe_lst pa_nil) (nomark _)) (pe_cl c_law_moved hr (by omega) (by rfl) (pa_cons (pv 0) (pa_cons (pv 1) (pa_cons (pv 2) (pa_cons (pe_ix ix_list (pv 5) (pe_un un_neg pe_int) fun _ _ => rfl) (pa_cons (pv 3) pa_nil)))))) pe_non))))), ?_⟩
  show StD none _ _ [Ent.dat _, Ent.dat _, Ent.dat _, Ent.dat _, Ent.dat _, Ent.no, Ent.no]
  try dsimp only at h pr ⊢
  obtain ⟨hh, ww, k, h1, h2⟩ := pr
  have c1 : (if (t : Int) < (g : Int) then (t : Int) else (g : Int)) = (((if t < g then t else g : Nat)) : Int) := by split <;> split <;> omega
  have c2 : (if (t : Int) > (g : Int) then (t : Int) else (g : Int)) = (((if t > g then t else g : Nat)) : Int) := by split <;> split <;> omega
  walk_at "d"
  rw [c1, c2]
  refine use_loose k (by split <;> assumption) (by split <;> assumption) ?_
  unfold stepA at h
  have mm := lo_mem (fun j => j ∈ ksA sg R ac) (spotsA sg R (if t < g then t else g) (if t > g then t else g) ac) ([], []) spots_in (fun x hx => absurd hx List.not_mem_nil) (fun x hx => absurd hx List.not_mem_nil)
  have m1 : ∀ x ∈ (lo (spotsA sg R (if t < g then t else g) (if t > g then t else g) ac)).1, x ∈ ksA sg R ac := mm.1
  have m2 : ∀ x ∈ (lo (spotsA sg R (if t < g then t else g) (if t > g then t else g) ac)).2, x ∈ ksA sg R ac := mm.2
  generalize lo (spotsA sg R (if t < g then t else g) (if t > g then t else g) ac) = r at h m1 m2
  obtain ⟨r1, r2⟩ := r
  dsimp only at h m1 m2
  walk_at "d"
  refine ⟨fun e => ?_, fun e => ?_⟩
  · have e := of_decide_eq_true e
    rw [if_pos (by omega)] at h
    cases r2 with
    | nil =>
      walk_at "d"
      refine op_ned (sh_nats _) (by decide) ?_
      walk_at "d"
      exact h
    | cons j r2 =>
      walk_at "d"
      refine op_ned (sh_nats _) (by decide) ?_
      walk_at "d"
      refine op_ixL (d := .int (j : Nat)) (atI_nat' (by decide) rfl) ?_
      walk_at "d"
      exact use_lm k.toRect h1 h2 (k.ks (m2 j List.mem_cons_self)) h
  · have e := of_decide_eq_false e
    rw [if_neg (by omega)] at h
    walk_at "d"
    refine op_ned (sh_nats _) (by decide) ?_
    walk_at "d"
    cases hr : r1.getLast? with
    | none =>
      have e0 := List.getLast?_eq_none_iff.mp hr
      subst e0
      walk_at "d"
      exact h
    | some j =>
      rw [hr] at h
      refine brT ?_ ?_
      · cases r1 with
        | nil => cases hr
        | cons a r1 => rfl
      · walk_at "d"
        refine op_ixL (d := .int (j : Nat)) (atI_lastD (by unfold natL; rw [List.getLast?_map, hr]; rfl)) ?_
        walk_at "d"
        exact use_lm k.toRect h1 h2 (k.ks (m1 j (List.mem_of_getLast? hr))) h
/-! ### all transfers back -/
def backsA (sg : Bool) (R : List (List Int)) (al ac : Bool) : List (List (List Int)) :=
  ((if al then (List.range (R.length - 1)).map fun l => stepA sg R (l + 1) l false else []) ++ (if ac then (List.range (width R - 1)).map fun l => stepA sg R (l + 1) l true else [])).filterMap id
abbrev IBk : Type := List (List Int) × Bool × Bool × Bool
def A_backs : AD := fnA (fun p : IBk => [tbl p.1, .bool p.2.1, .bool p.2.2.1, .bool p.2.2.2]) (fun p => ∃ h w, OkT p.2.2.2 h w p.1) fun p => .list ((backsA p.2.2.2 p.1 p.2.1 p.2.2.1).map tbl)
theorem use_backs {R : List (List Int)} {al ac sg : Bool} {h w : Nat} {W : PyData → Prop} (k : OkT sg h w R) (q : W (.list ((backsA sg R al ac).map tbl))) : A_backs [tbl R, .bool al, .bool ac, .bool sg] W := ⟨(R, al, ac, sg), rfl, ⟨h, w, k⟩, q⟩
theorem sc_law_backs : FnScope ["_law_table_here", "_law_along", "_law_across", "_law_signed", "_law_found", "_law_one", "_law_low"] ["_law_table_here", "_law_along", "_law_across", "_law_signed"] (defScope s_law_backs) := ⟨rfl, rfl, rfl, by decide +kernel, rfl, by decide +kernel, by decide +kernel⟩
theorem ok_law_backs {P : Program} {w : World} {K : PySem.W.Frag} {mg : Str → Option Value} {base : Heap}  (T : Tx K mg) (c_law_step : Cal P w K mg base 3 "_law_step" (spG A_ls))  : Cal P w K mg base 4 "_law_backs" (spG A_backs) := by
  obtain ⟨fd, F⟩ := T.sd.def_ 53 (d := d_law_backs) rfl
  have S := sc_law_backs
  refine ⟨⟨fd, ["_law_table_here", "_law_along", "_law_across", "_law_signed"], ok_pure (k := 3) F S (fnA_len fun _ => rfl) (fun cd Ar outer s H E xs W hr h => ?_), F.bindsN fun _ _ _ _ _ _ us hl => match us, hl with | [_, _, _, _], _ => rfl⟩, T.g 53, F.kp⟩
  obtain ⟨⟨R, al, ac, sg⟩, e, pr, h⟩ := h
  subst e
  refine ⟨_, (pss_cons (ps_set (i := 4) S.nd rfl (by first | exact Or.inl rfl | exact Or.inr rfl) (pe_lst pa_nil)) (pss_cons (ps_if (pt_val (pv 1)) (pss_one (ps_set (i := 4) S.nd rfl (by first | exact Or.inl rfl | exact Or.inr rfl) (pe_op op_cat (pv 4) (pe_lc (own := [("_law_low", 6)]) (g := (gName 6)) (tt := tYes) (te := (tCall (spG A_ls) [] xno (tCons (tVar 0) (tCons (tOp (rI0 fun i j => .int (i + j)) (tVar 6) (tC (.int 1))) (tCons (tVar 6) (tCons (tC (.bl false)) (tCons (tVar 3) tNil))))))) rfl S.nd (pi_range1 (by rfl) (T.n 70) (pa_cons (pe_op op_sub (pe_callB call_len_seq (by rfl) (T.n 69) (by decide +kernel) (pa_cons (pv 0) pa_nil)) pe_int) pa_nil)) (blkOk_by (N := ["_law_table_here", "_law_along", "_law_across", "_law_signed", "_law_found", "_law_one", "_law_low"]) (sc := (defScope s_law_backs)) (by decide +kernel)) (fun _ _ _ _ _ => (pg_name (i := 6) S.nd rfl (by first | exact Or.inl rfl | exact Or.inr rfl))) (fun _ _ _ _ _ => pts_nil) (fun _ _ _ _ _ => (pe_cl c_law_step hr (by omega) (by rfl) (pa_cons (pv 0) (pa_cons (pe_op op_add (pv 6) pe_int) (pa_cons (pv 6) (pa_cons pe_bl (pa_cons (pv 3) pa_nil))))))))))) pss_nil) (pss_cons (ps_if (pt_val (pv 2)) (pss_one (ps_set (i := 4) S.nd rfl (by first | exact Or.inl rfl | exact Or.inr rfl) (pe_op op_cat (pv 4) (pe_lc (own := [("_law_low", 6)]) (g := (gName 6)) (tt := tYes) (te := (tCall (spG A_ls) [] xno (tCons (tVar 0) (tCons (tOp (rI0 fun i j => .int (i + j)) (tVar 6) (tC (.int 1))) (tCons (tVar 6) (tCons (tC (.bl true)) (tCons (tVar 3) tNil))))))) rfl S.nd (pi_range1 (by rfl) (T.n 70) (pa_cons (pe_op op_sub (pe_callB call_len_seq (by rfl) (T.n 69) (by decide +kernel) (pa_cons (pe_ix ix_tup (pv 0) pe_int fun _ _ => rfl) pa_nil)) pe_int) pa_nil)) (blkOk_by (N := ["_law_table_here", "_law_along", "_law_across", "_law_signed", "_law_found", "_law_one", "_law_low"]) (sc := (defScope s_law_backs)) (by decide +kernel)) (fun _ _ _ _ _ => (pg_name (i := 6) S.nd rfl (by first | exact Or.inl rfl | exact Or.inr rfl))) (fun _ _ _ _ _ => pts_nil) (fun _ _ _ _ _ => (pe_cl c_law_step hr (by omega) (by rfl) (pa_cons (pv 0) (pa_cons (pe_op op_add (pv 6) pe_int) (pa_cons (pv 6) (pa_cons pe_bl (pa_cons (pv 3) pa_nil))))))))))) pss_nil) (pss_one (ps_ret (pe_lc (own := [("_law_one", 5)]) (g := (gName 5)) (tt := (tTest (tOp (fun x y H Q => y = .non ∧ Q (.bl (!decide (x = .non))) H) (tVar 5) (tC .non)))) (te := (tVar 5)) rfl S.nd (pi_list (pv 4)) (blkOk_by (N := ["_law_table_here", "_law_along", "_law_across", "_law_signed", "_law_found", "_law_one", "_law_low"]) (sc := (defScope s_law_backs)) (by decide +kernel)) (fun _ _ _ _ _ => (pg_name (i := 5) S.nd rfl (by first | exact Or.inl rfl | exact Or.inr rfl))) (fun _ _ _ _ _ => (pts_one (pt_cmpR op_notN (pv 5) pe_non (nomark _)))) (fun _ _ _ _ _ => (pv 5)))))))), ?_⟩
  show StD none _ _ [Ent.dat _, Ent.dat _, Ent.dat _, Ent.dat _, Ent.no, Ent.no, Ent.no]
  try dsimp only at h pr ⊢
  obtain ⟨hh, ww, k⟩ := pr
  have kw := k.wb
  have kh := k.hb
  have kr := k.rows
  have hw := k.toRect.width
  refine st_seq ?_
  refine st_asg (ev_lst (ea_nil ⟨by decide, ?_⟩))
  walk_at "d"
  obtain ⟨LA, eA⟩ : ∃ LA, LA = (List.range (hh - 1)).map fun l => stepA sg R (l + 1) l false := ⟨_, rfl⟩
  obtain ⟨LB, eB⟩ : ∃ LB, LB = (List.range (ww - 1)).map fun l => stepA sg R (l + 1) l true := ⟨_, rfl⟩
  have la : LA.length = hh - 1 := by rw [eA, List.length_map, List.length_range]
  have lb : LB.length = ww - 1 := by rw [eB, List.length_map, List.length_range]
  have hb : backsA sg R al ac = ((if al then LA else []) ++ (if ac then LB else [])).filterMap id := by
    unfold backsA
    rw [kr, hw, eA, eB]
  rw [hb] at h
  have fm : ∀ L : List (Option (List (List Int))), (L.map fun o => o.map tbl).filterMap id = (L.filterMap id).map tbl := fun L => by
    induction L with
    | nil => rfl
    | cons o L ih =>
      cases o with
      | none => exact ih
      | some x => exact congrArg (fun z => tbl x :: z) ih
  cases al with
  | true =>
    walk_at "d"
    refine ev_map (Pd := Da) ?_
    walk_at "d"
    refine ⟨hh - 1, by rw [List.length_map, kr]; congr 2; omega, by omega, ?_⟩
    refine ⟨LA.map optT, by rw [List.length_map, List.length_range]; omega, by rw [List.length_map, la, List.length_map, List.length_range], fun i d y e1 e2 => ?_, ?_⟩
    · obtain ⟨hi, q1⟩ := rmap_at e1
      rw [eA] at e2
      obtain ⟨_, q2⟩ := rmmap_at e2
      subst q1 q2
      walk_at "d"
      exact use_ls (g := i + 1) k (by show i + 1 < hh; omega) (by show i < hh; omega) rfl
    · refine op_catL (by rw [List.length_map, la]; show 0 + _ ≤ _; omega) ?_
      walk_at "d"
      cases ac with
      | true =>
        walk_at "d"
        refine ev_map (Pd := Da) ?_
        walk_at "d"
        refine op_ixT (head_at k.toRect) ?_
        walk_at "d"
        refine ⟨ww - 1, by rw [List.length_map, show (R.headD []).length = ww from hw]; congr 2; omega, by omega, ?_⟩
        refine ⟨LB.map optT, by rw [List.length_map, List.length_range]; omega, by rw [List.length_map, lb, List.length_map, List.length_range], fun i d y e1 e2 => ?_, ?_⟩
        · obtain ⟨hi, q1⟩ := rmap_at e1
          rw [eB] at e2
          obtain ⟨_, q2⟩ := rmmap_at e2
          subst q1 q2
          walk_at "d"
          exact use_ls (g := i + 1) k (by show i + 1 < ww; omega) (by show i < ww; omega) rfl
        · refine op_catL (by rw [List.length_append, List.length_map, List.length_map, la, lb]; show 0 + _ + _ ≤ _; omega) ?_
          walk_at "d"
          refine ev_filter (Pd := Da) ?_
          walk_at "d"
          rw [show ([] ++ List.map optT LA ++ List.map optT LB) = (LA ++ LB).map optT by rw [List.nil_append, List.map_append]]
          refine ⟨(LA ++ LB).map fun o : Option (List (List Int)) => o.map tbl, by rw [List.length_map]; rw [List.length_append, la, lb]; omega, by rw [List.length_map, List.length_map], fun i d y e1 e2 => ?_, ?_⟩
          · obtain ⟨o, ho, q1⟩ := map_at e1
            obtain ⟨o', ho', q2⟩ := map_at e2
            rw [ho] at ho'
            cases ho'
            subst q1 q2
            walk_at "d"
            cases o with
            | none =>
              refine ⟨fun z => (by cases z), fun _ => rfl⟩
            | some x =>
              refine ⟨fun _ => ?_, fun z => (by cases z)⟩
              walk_at "d"
              rfl
          · rw [fm]
            exact h
      | false =>
        walk_at "d"
        refine ev_filter (Pd := Da) ?_
        walk_at "d"
        rw [show ([] ++ List.map optT LA) = (LA ++ []).map optT by rw [List.nil_append, List.append_nil]]
        refine ⟨(LA ++ []).map fun o : Option (List (List Int)) => o.map tbl, by rw [List.length_map]; rw [List.length_append, la]; show _ + 0 ≤ _; omega, by rw [List.length_map, List.length_map], fun i d y e1 e2 => ?_, ?_⟩
        · obtain ⟨o, ho, q1⟩ := map_at e1
          obtain ⟨o', ho', q2⟩ := map_at e2
          rw [ho] at ho'
          cases ho'
          subst q1 q2
          walk_at "d"
          cases o with
          | none =>
            refine ⟨fun z => (by cases z), fun _ => rfl⟩
          | some x =>
            refine ⟨fun _ => ?_, fun z => (by cases z)⟩
            walk_at "d"
            rfl
        · rw [fm]
          exact h
  | false =>
    walk_at "d"
    cases ac with
    | true =>
      walk_at "d"
      refine ev_map (Pd := Da) ?_
      walk_at "d"
      refine op_ixT (head_at k.toRect) ?_
      walk_at "d"
      refine ⟨ww - 1, by rw [List.length_map, show (R.headD []).length = ww from hw]; congr 2; omega, by omega, ?_⟩
      refine ⟨LB.map optT, by rw [List.length_map, List.length_range]; omega, by rw [List.length_map, lb, List.length_map, List.length_range], fun i d y e1 e2 => ?_, ?_⟩
      · obtain ⟨hi, q1⟩ := rmap_at e1
        rw [eB] at e2
        obtain ⟨_, q2⟩ := rmmap_at e2
        subst q1 q2
        walk_at "d"
        exact use_ls (g := i + 1) k (by show i + 1 < ww; omega) (by show i < ww; omega) rfl
      · refine op_catL (by rw [List.length_map, lb]; show 0 + _ ≤ _; omega) ?_
        walk_at "d"
        refine ev_filter (Pd := Da) ?_
        walk_at "d"
        rw [show ([] ++ List.map optT LB) = ([] ++ LB).map optT by rw [List.nil_append, List.nil_append]]
        refine ⟨([] ++ LB).map fun o : Option (List (List Int)) => o.map tbl, by rw [List.length_map]; rw [List.nil_append, lb]; omega, by rw [List.length_map, List.length_map], fun i d y e1 e2 => ?_, ?_⟩
        · obtain ⟨o, ho, q1⟩ := map_at e1
          obtain ⟨o', ho', q2⟩ := map_at e2
          rw [ho] at ho'
          cases ho'
          subst q1 q2
          walk_at "d"
          cases o with
          | none =>
            refine ⟨fun z => (by cases z), fun _ => rfl⟩
          | some x =>
            refine ⟨fun _ => ?_, fun z => (by cases z)⟩
            walk_at "d"
            rfl
        · rw [fm]
          exact h
    | false =>
      walk_at "d"
      refine ev_filter (Pd := Da) ?_
      walk_at "d"
      rw [show ([]) = ([] ++ []).map optT by rfl]
      refine ⟨([] ++ []).map fun o : Option (List (List Int)) => o.map tbl, by rw [List.length_map]; decide, by rw [List.length_map, List.length_map], fun i d y e1 e2 => ?_, ?_⟩
      · obtain ⟨o, ho, q1⟩ := map_at e1
        obtain ⟨o', ho', q2⟩ := map_at e2
        rw [ho] at ho'
        cases ho'
        subst q1 q2
        walk_at "d"
        cases o with
        | none =>
          refine ⟨fun z => (by cases z), fun _ => rfl⟩
        | some x =>
          refine ⟨fun _ => ?_, fun z => (by cases z)⟩
          walk_at "d"
          rfl
      · rw [fm]
        exact h
end JR
set_option pp.maxSteps 2500
set_option Elab.async false
set_option linter.all false
set_option maxRecDepth 100000
set_option maxHeartbeats 2000000
namespace JR
open PySem PySem.Spec L2 RZ
local macro_rules
  | `(tactic| walk_at "s") => `(tactic| first
    | ((with_reducible apply ev_var); exact rfl) | with_reducible refine ev_isiI ?_ | with_reducible refine ev_isiB ?_ | with_reducible refine ev_isiT ?_ | with_reducible refine ev_isiS ?_ | ((with_reducible refine st_append ?_ ?_); rotate_left; exact ⟨_, rfl⟩) | ((with_reducible apply st_pop); exact rfl) | ((with_reducible apply et_ownNe); exact rfl) | ((with_reducible apply op_i); exact rfl) | ((with_reducible apply it_rgV); exact rfl) | ((with_reducible apply op_inW); exact rfl) | ((with_reducible apply op_ixT); exact rfl) | ((with_reducible apply op_ixL); exact rfl) | ((with_reducible refine And.intro (le_lit ?_) ?_); exact rfl) | ((with_reducible apply op_b); exact rfl) | ((with_reducible apply tc_name); decide) | ((with_reducible apply tc_tup); exact rfl) | ((with_reducible apply tg_tup); exact rfl) | ((with_reducible apply tg_tupD); exact rfl) | ((with_reducible apply tc_tupD); exact rfl)
    | with_reducible refine st_seq ?_ | with_reducible refine st_ret ?_ | with_reducible refine st_next ?_ | with_reducible refine st_if ?_ | with_reducible refine st_par_own2 ?_ | with_reducible refine st_par_own ?_ | with_reducible refine st_rng ?_ | with_reducible refine st_par ?_ | with_reducible refine st_own ?_ | with_reducible refine st_asg ?_ | with_reducible refine st_unpack ?_ | with_reducible refine st_drop ?_ | with_reducible refine st_break ?_ | with_reducible refine ev_int ?_ | with_reducible refine ev_str ?_ | with_reducible refine ev_bl ?_ | with_reducible refine ev_non ?_ | with_reducible refine ev_op ?_ | with_reducible refine ev_un ?_ | with_reducible refine ev_if ?_ | with_reducible refine ev_andV ?_ | with_reducible refine ev_orV ?_ | with_reducible refine ev_notV ?_ | with_reducible refine ev_tup ?_ | with_reducible refine ev_lst ?_ | with_reducible refine ea_nil ?_ | with_reducible refine ea_cons ?_ | with_reducible refine ev_call ?_ | with_reducible refine ev_callN ?_ | with_reducible refine ev_cb ?_ | with_reducible refine ev_sl ?_ | with_reducible refine eo_none ?_ | with_reducible refine eo_some ?_ | with_reducible refine ev_revL ?_ | with_reducible refine ev_revT ?_ | with_reducible refine evn_lrg ?_ | with_reducible refine ev_bmT ?_ | with_reducible refine et_test ?_ | with_reducible refine et_B ?_ | with_reducible refine et_and ?_ | with_reducible refine et_or ?_ | with_reducible refine et_not ?_ | with_reducible refine et_yes ?_ | with_reducible refine ev_chain ?_ | with_reducible refine op_eqI ?_ | with_reducible refine op_neI ?_ | with_reducible refine op_eqS ?_ | with_reducible refine op_neS ?_ | with_reducible refine op_eqB ?_ | with_reducible refine op_neB ?_ | with_reducible refine op_inIn ?_ | with_reducible refine ud_neg ?_ | with_reducible refine op_is ?_ | with_reducible refine op_isnt ?_ | with_reducible refine cb_lenL ?_ | with_reducible refine cb_lenT ?_ | with_reducible refine cb_listT ?_ | with_reducible refine cb_listL ?_ | with_reducible refine cb_tupL ?_ | with_reducible refine cb_int ?_ | with_reducible refine cb_max2 ?_ | with_reducible refine cb_min2 ?_ | with_reducible refine it_list ?_ | with_reducible refine it_tup ?_ | with_reducible refine itn_1 ?_ | with_reducible refine it_rng2 ?_ | with_reducible refine it_rev ?_ | with_reducible refine itn_rev ?_ | with_reducible refine it_enum ?_ | with_reducible refine it_enumT ?_ | with_reducible refine it_zipT ?_ | with_reducible refine tcs_cons ?_ | with_reducible refine tcs_nil ?_ | with_reducible refine tg_name ?_ | with_reducible refine tgs_cons ?_ | with_reducible refine tgs_nil ?_
    | with_reducible refine ⟨_, rfl, ?_⟩
    | with_reducible refine ⟨_, _, rfl, ?_⟩
    | refine and_T ?_ | refine and_F ?_)
  | `(tactic| walk_at "d") => `(tactic| repeat walk_at "s")
def A_sums : AD := fnA (fun R : List (List Int) => [tbl R]) (fun R => R.length ≤ 100) fun R => iv (R.map List.sum)
theorem sc_law_sums : FnScope ["_law_table_here", "_law_row"] ["_law_table_here"] (defScope s_law_sums) := ⟨rfl, rfl, rfl, by decide +kernel, rfl, by decide +kernel, by decide +kernel⟩
theorem ok_law_sums {P : Program} {w : World} {K : PySem.W.Frag} {mg : Str → Option Value} {base : Heap}  (T : Tx K mg)   : Cal P w K mg base 1 "_law_sums" (spG A_sums) := by
  obtain ⟨fd, F⟩ := T.sd.def_ 58 (d := d_law_sums) rfl
  have S := sc_law_sums
  refine ⟨⟨fd, ["_law_table_here"], ok_pure (k := 0) F S (fnA_len fun _ => rfl) (fun cd Ar outer s H E xs W hr h => ?_), F.bindsN fun _ _ _ _ _ _ us hl => match us, hl with | [_], _ => rfl⟩, T.g 58, F.kp⟩
  obtain ⟨R, e, pr, h⟩ := h
  subst e
  refine ⟨_, (pss_one (ps_ret (pe_callTy call_tupZ (by rfl) (T.n 72) (by decide +kernel) (pa_cons (pe_lc (own := [("_law_row", 1)]) (g := (gName 1)) (tt := tYes) (te := (tCB (rSum K) (tCons (tCB (fun vs H Q => ∃ p ys, vs = [.ref p] ∧ (SqL K H p ys ∨ SqT K H p ys) ∧ ∀ l, H l = none → Q (.ref l) (upd H l (.lst ys))) (tCons (tVar 1) tNil)) tNil))) rfl S.nd (pi_tup (pv 0)) (blkOk_by (N := ["_law_table_here", "_law_row"]) (sc := (defScope s_law_sums)) (by decide +kernel)) (fun _ _ _ _ _ => (pg_name (i := 1) S.nd rfl (by first | exact Or.inl rfl | exact Or.inr rfl))) (fun _ _ _ _ _ => pts_nil) (fun _ _ _ _ _ => (pe_callB (cr_sum rfl) (by rfl) (T.n 79) (by decide +kernel) (pa_cons (pe_callTy call_list_of (by rfl) (T.n 73) (by decide +kernel) (pa_cons (pv 1) pa_nil)) pa_nil)))) pa_nil)))), ?_⟩
  show StD none _ _ [Ent.dat _, Ent.no]
  try dsimp only at h pr ⊢
  walk_at "d"
  refine ev_map (Pd := Da) ?_
  walk_at "d"
  have pr : R.length ≤ 100 := pr
  refine ⟨(R.map List.sum).map PyData.int, by rw [List.length_map]; omega, by rw [List.length_map, List.length_map, List.length_map], fun i d y e1 e2 => ?_, ?_⟩
  · obtain ⟨r, hr, q1⟩ := map_at e1
    obtain ⟨r', hr', q2⟩ := mmap_at e2
    rw [hr] at hr'
    cases hr'
    subst q1 q2
    walk_at "d"
    exact cb_sumL rfl
  · walk_at "d"
    exact h
/-- a table, or what is none: None, () -/
def Side (sg : Bool) (o : Option (List (List Int))) : Prop := o = none ∨ o = some [] ∨ ∃ R h w, o = some R ∧ OkT sg h w R
def faultD (o : Option (List (List Int))) : PyData := match o with
  | none => .list [.str "bad", .none]
  | some [] => .list [.str "bad", .none]
  | some _ => .none
def A_fault : AD := fnA (fun p : Option (List (List Int)) × Bool => [optT p.1, .bool p.2]) (fun p => Side p.2 p.1) fun p => faultD p.1
theorem use_fault {o : Option (List (List Int))} {sg : Bool} {W : PyData → Prop} (h : Side sg o) (q : W (faultD o)) : A_fault [optT o, .bool sg] W := ⟨(o, sg), rfl, h, q⟩
theorem sc_law_fault : FnScope ["_law_table_here", "_law_signed", "_law_k", "_law_row", "_law_item"] ["_law_table_here", "_law_signed"] (defScope s_law_fault) := ⟨rfl, rfl, rfl, by decide +kernel, rfl, by decide +kernel, by decide +kernel⟩
theorem ok_law_fault {P : Program} {w : World} {K : PySem.W.Frag} {mg : Str → Option Value} {base : Heap}  (T : Tx K mg)   : Cal P w K mg base 1 "_law_fault" (spG A_fault) := by
  obtain ⟨fd, F⟩ := T.sd.def_ 56 (d := d_law_fault) rfl
  have S := sc_law_fault
  refine ⟨⟨fd, ["_law_table_here", "_law_signed"], ok_pure (k := 0) F S (fnA_len fun _ => rfl) (fun cd Ar outer s H E xs W hr h => ?_), F.bindsN fun _ _ _ _ _ _ us hl => match us, hl with | [_, _], _ => rfl⟩, T.g 56, F.kp⟩
  obtain ⟨⟨o, sg⟩, e, pr, h⟩ := h
  subst e
  refine ⟨_, (pss_cons (ps_if (pt_not (pt_val (pe_callB call_isi (by rfl) (T.n 71) (by decide +kernel) (pa_cons (pv 0) (pa_cons (pe_bltn (v := .ty "tuple") (by rfl) (T.n 72) (by decide +kernel) rfl) pa_nil))))) (pss_one (ps_ret (pe_lst (pa_cons pe_str (pa_cons pe_non pa_nil))))) pss_nil) (pss_cons (ps_if (pt_not (pt_chain op_le op_le pe_int (pe_callB call_len_seq (by rfl) (T.n 69) (by decide +kernel) (pa_cons (pv 0) pa_nil)) pe_int)) (pss_one (ps_ret (pe_lst (pa_cons pe_str (pa_cons pe_non pa_nil))))) pss_nil) (pss_cons (ps_for PassesOwn.never rfl (pi_enumT (by rfl) (T.n 82) (pa_cons (pv 0) pa_nil)) (pg_tup (by rfl) (pgs_cons (pg_name (i := 2) S.nd rfl (by first | exact Or.inl rfl | exact Or.inr rfl)) (pgs_cons (pg_name (i := 3) S.nd rfl (by first | exact Or.inl rfl | exact Or.inr rfl)) pgs_nil))) (pss_cons (ps_if (pt_not (pt_val (pe_callB call_isi (by rfl) (T.n 71) (by decide +kernel) (pa_cons (pv 3) (pa_cons (pe_bltn (v := .ty "tuple") (by rfl) (T.n 72) (by decide +kernel) rfl) pa_nil))))) (pss_one (ps_ret (pe_lst (pa_cons pe_str (pa_cons (pv 2) pa_nil))))) pss_nil) (pss_cons (ps_if (PW.pt (pw_or (pt_not (pt_chain op_le op_le pe_int (pe_callB call_len_seq (by rfl) (T.n 69) (by decide +kernel) (pa_cons (pv 3) pa_nil)) pe_int)) (pw_or1 (pt_cmpR op_ne (pe_callB call_len_seq (by rfl) (T.n 69) (by decide +kernel) (pa_cons (pv 3) pa_nil)) (pe_callB call_len_seq (by rfl) (T.n 69) (by decide +kernel) (pa_cons (pe_ix ix_tup (pv 0) pe_int fun _ _ => rfl) pa_nil)) (nomark _))))) (pss_one (ps_ret (pe_lst (pa_cons pe_str (pa_cons (pv 2) pa_nil))))) pss_nil) (pss_one (ps_for PassesOwn.never rfl (pi_tup (pv 3)) (pg_name (i := 4) S.nd rfl (by first | exact Or.inl rfl | exact Or.inr rfl)) (pss_cons (ps_if (PW.pt (pw_or (pt_not (pt_val (pe_callB call_isi (by rfl) (T.n 71) (by decide +kernel) (pa_cons (pv 4) (pa_cons (pe_bltn (v := .ty "int") (by rfl) (T.n 74) (by decide +kernel) rfl) pa_nil))))) (pw_or1 (pt_val (pe_callB call_isi (by rfl) (T.n 71) (by decide +kernel) (pa_cons (pv 4) (pa_cons (pe_bltn (v := .ty "bool") (by rfl) (T.n 75) (by decide +kernel) rfl) pa_nil))))))) (pss_one (ps_ret (pe_lst (pa_cons pe_str (pa_cons (pv 2) pa_nil))))) pss_nil) (pss_one (ps_if (PW.pt (pw_or (pt_cmpR op_lt (pv 4) pe_int (nomark _)) (pw_or1 (PW.pt (pw_and (pt_val (pv 1)) (pw_and1 (pt_cmpR op_gt (pv 4) pe_int (nomark _)))))))) (pss_one (ps_ret (pe_lst (pa_cons pe_str (pa_cons (pv 2) pa_nil))))) pss_nil)))))))) (pss_one (ps_ret (pe_ifExp (pt_cmpR op_gt (pe_callB (cr_sum rfl) (by rfl) (T.n 79) (by decide +kernel) (pa_cons (pe_lc (own := [("_law_row", 3)]) (g := (gName 3)) (tt := tYes) (te := (tCB (rSum K) (tCons (tCB (fun vs H Q => ∃ p ys, vs = [.ref p] ∧ (SqL K H p ys ∨ SqT K H p ys) ∧ ∀ l, H l = none → Q (.ref l) (upd H l (.lst ys))) (tCons (tVar 3) tNil)) tNil))) rfl S.nd (pi_tup (pv 0)) (blkOk_by (N := ["_law_table_here", "_law_signed", "_law_k", "_law_row", "_law_item"]) (sc := (defScope s_law_fault)) (by decide +kernel)) (fun _ _ _ _ _ => (pg_name (i := 3) S.nd rfl (by first | exact Or.inl rfl | exact Or.inr rfl))) (fun _ _ _ _ _ => pts_nil) (fun _ _ _ _ _ => (pe_callB (cr_sum rfl) (by rfl) (T.n 79) (by decide +kernel) (pa_cons (pe_callTy call_list_of (by rfl) (T.n 73) (by decide +kernel) (pa_cons (pv 3) pa_nil)) pa_nil)))) pa_nil)) pe_int (nomark _)) (pe_lst (pa_cons pe_str (pa_cons pe_int pa_nil))) pe_non)))))), ?_⟩
  show StD none _ _ [Ent.dat _, Ent.dat _, Ent.no, Ent.no, Ent.no]
  try dsimp only at h pr ⊢
  rcases pr with e | e | ⟨R, hh, ww, e, k⟩
  · subst e
    walk_at "d"
    exact h
  · subst e
    show StD none _ _ [Ent.dat (.tuple []), Ent.dat _, Ent.no, Ent.no, Ent.no]
    walk_at "d"
    refine brF' rfl ?_
    walk_at "d"
    exact h
  · subst e
    obtain ⟨r0, R0, eR, _⟩ := k.toRect.head
    have h : W .none := by
      have h := h
      rw [eR] at h
      exact h
    have kw := k.wb
    have kh := k.hb
    have kr := k.rows
    have hw : (List.map PyData.int (R.headD [])).length = ww := by rw [List.length_map]; exact k.toRect.width
    show StD none _ _ [Ent.dat (tbl R), Ent.dat (.bool sg), Ent.no, Ent.no, Ent.no]
    walk_at "d"
    rw [List.length_map]
    refine brT' (decide_eq_true (by omega)) ?_
    walk_at "d"
    rw [show decide ((R.length : Int) ≤ 5) = true from decide_eq_true (by omega)]
    walk_at "d"
    refine st_for (Pd := DaP) ?_
    walk_at "d"
    refine ⟨fun i ds => ∃ a b c, ds = [Ent.dat (tbl R), Ent.dat (.bool sg), a, b, c], ⟨_, _, _, rfl⟩, fun i d ds2 e1 iv2 => ?_, fun ds2 iv2 => ?_⟩
    · obtain ⟨a, b, c, rfl⟩ := iv2
      obtain ⟨p, hp, rfl⟩ := map_at e1
      obtain ⟨_, hp2⟩ := zip_at hp
      obtain ⟨r, hr, er⟩ := map_at hp2
      rw [er]
      obtain ⟨g1, g2, g3⟩ := k.row (List.mem_of_getElem? hr)
      walk_at "d"
      rw [List.length_map]
      refine brT' (decide_eq_true (by omega)) ?_
      walk_at "d"
      rw [show decide ((r.length : Int) ≤ 5) = true from decide_eq_true (by omega)]
      walk_at "d"
      refine op_ixT (head_at k.toRect) ?_
      walk_at "d"
      rw [List.length_map, hw, g1]
      refine brF (by rw [decide_eq_true rfl]; rfl) ?_
      walk_at "d"
      refine st_for (Pd := Da) ?_
      walk_at "d"
      refine ⟨fun j ds => ∃ a c, ds = [Ent.dat (tbl R), Ent.dat (.bool sg), a, Ent.dat (iv r), c], ⟨_, _, rfl⟩, fun j d ds3 e2 iv3 => ?_, fun ds3 iv3 => ?_⟩
      · obtain ⟨a, c, rfl⟩ := iv3
        obtain ⟨x, hx, rfl⟩ := map_at e2
        obtain ⟨x1, x2⟩ := g3 x (List.mem_of_getElem? hx)
        walk_at "d"
        refine brF (decide_eq_false (by omega)) ?_
        walk_at "d"
        cases sg with
        | false =>
          walk_at "d"
          exact ⟨_, _, rfl⟩
        | true =>
          walk_at "d"
          refine brF (decide_eq_false (by have := x2 rfl; omega)) ?_
          walk_at "d"
          exact ⟨_, _, rfl⟩
      · obtain ⟨a, c, rfl⟩ := iv3
        exact ⟨_, _, _, rfl⟩
    · obtain ⟨a, b, c, rfl⟩ := iv2
      walk_at "d"
      refine ev_map (Pd := Da) ?_
      walk_at "d"
      refine ⟨(R.map List.sum).map PyData.int, by rw [List.length_map]; omega, by rw [List.length_map, List.length_map, List.length_map], fun i d y e1 e2 => ?_, ?_⟩
      · obtain ⟨r, hr, q1⟩ := map_at e1
        obtain ⟨r', hr', q2⟩ := mmap_at e2
        rw [hr] at hr'
        cases hr'
        subst q1 q2
        walk_at "d"
        exact cb_sumL rfl
      · walk_at "d"
        refine cb_sumL ?_
        walk_at "d"
        refine brF (decide_eq_false (by have := k.tot; omega)) ?_
        walk_at "d"
        exact h
end JR
set_option pp.maxSteps 2500
set_option Elab.async false
set_option linter.all false
set_option maxRecDepth 100000
set_option maxHeartbeats 2000000
namespace JR
open PySem PySem.Spec L2 RZ
local macro_rules
  | `(tactic| walk_at "s") => `(tactic| first
    | ((with_reducible apply ev_var); exact rfl) | with_reducible refine ev_isiI ?_ | with_reducible refine ev_isiB ?_ | with_reducible refine ev_isiT ?_ | with_reducible refine ev_isiS ?_ | ((with_reducible refine st_append ?_ ?_); rotate_left; exact ⟨_, rfl⟩) | ((with_reducible apply st_pop); exact rfl) | ((with_reducible apply et_ownNe); exact rfl) | ((with_reducible apply op_i); exact rfl) | ((with_reducible apply it_rgV); exact rfl) | ((with_reducible apply op_inW); exact rfl) | ((with_reducible apply op_ixT); exact rfl) | ((with_reducible apply op_ixL); exact rfl) | ((with_reducible refine And.intro (le_lit ?_) ?_); exact rfl) | ((with_reducible apply op_b); exact rfl) | ((with_reducible apply tc_name); decide) | ((with_reducible apply tc_tup); exact rfl) | ((with_reducible apply tg_tup); exact rfl) | ((with_reducible apply tg_tupD); exact rfl) | ((with_reducible apply tc_tupD); exact rfl)
    | with_reducible refine st_seq ?_ | with_reducible refine st_ret ?_ | with_reducible refine st_next ?_ | with_reducible refine st_if ?_ | with_reducible refine st_par_own2 ?_ | with_reducible refine st_par_own ?_ | with_reducible refine st_rng ?_ | with_reducible refine st_par ?_ | with_reducible refine st_own ?_ | with_reducible refine st_asg ?_ | with_reducible refine st_unpack ?_ | with_reducible refine st_drop ?_ | with_reducible refine st_break ?_ | with_reducible refine ev_int ?_ | with_reducible refine ev_str ?_ | with_reducible refine ev_bl ?_ | with_reducible refine ev_non ?_ | with_reducible refine ev_op ?_ | with_reducible refine ev_un ?_ | with_reducible refine ev_if ?_ | with_reducible refine ev_andV ?_ | with_reducible refine ev_orV ?_ | with_reducible refine ev_notV ?_ | with_reducible refine ev_tup ?_ | with_reducible refine ev_lst ?_ | with_reducible refine ea_nil ?_ | with_reducible refine ea_cons ?_ | with_reducible refine ev_call ?_ | with_reducible refine ev_callN ?_ | with_reducible refine ev_cb ?_ | with_reducible refine ev_sl ?_ | with_reducible refine eo_none ?_ | with_reducible refine eo_some ?_ | with_reducible refine ev_revL ?_ | with_reducible refine ev_revT ?_ | with_reducible refine evn_lrg ?_ | with_reducible refine ev_bmT ?_ | with_reducible refine et_test ?_ | with_reducible refine et_B ?_ | with_reducible refine et_and ?_ | with_reducible refine et_or ?_ | with_reducible refine et_not ?_ | with_reducible refine et_yes ?_ | with_reducible refine ev_chain ?_ | with_reducible refine op_eqI ?_ | with_reducible refine op_neI ?_ | with_reducible refine op_eqS ?_ | with_reducible refine op_neS ?_ | with_reducible refine op_eqB ?_ | with_reducible refine op_neB ?_ | with_reducible refine op_inIn ?_ | with_reducible refine ud_neg ?_ | with_reducible refine op_is ?_ | with_reducible refine op_isnt ?_ | with_reducible refine cb_lenL ?_ | with_reducible refine cb_lenT ?_ | with_reducible refine cb_listT ?_ | with_reducible refine cb_listL ?_ | with_reducible refine cb_tupL ?_ | with_reducible refine cb_int ?_ | with_reducible refine cb_max2 ?_ | with_reducible refine cb_min2 ?_ | with_reducible refine it_list ?_ | with_reducible refine it_tup ?_ | with_reducible refine itn_1 ?_ | with_reducible refine it_rng2 ?_ | with_reducible refine it_rev ?_ | with_reducible refine itn_rev ?_ | with_reducible refine it_enum ?_ | with_reducible refine it_enumT ?_ | with_reducible refine it_zipT ?_ | with_reducible refine tcs_cons ?_ | with_reducible refine tcs_nil ?_ | with_reducible refine tg_name ?_ | with_reducible refine tgs_cons ?_ | with_reducible refine tgs_nil ?_
    | with_reducible refine ⟨_, rfl, ?_⟩
    | with_reducible refine ⟨_, _, rfl, ?_⟩
    | refine and_T ?_ | refine and_F ?_)
  | `(tactic| walk_at "d") => `(tactic| repeat walk_at "s")
/-! ### mixing -/
def A_mixed : AD := relA (fun p : Int × Nat => [.int p.1, .int (p.2 : Nat)]) (fun p => p.2 ≤ 2000000) fun _ d => ∃ z : Int, d = .int z ∧ 0 ≤ z ∧ z < 2147483647
theorem use_mixed {c : Int} {k : Nat} {W : PyData → Prop} (h : k ≤ 2000000) (q : ∀ z : Int, 0 ≤ z → z < 2147483647 → W (.int z)) : A_mixed [.int c, .int (k : Nat)] W := use_rel (c, k) rfl h fun d ⟨z, e, q1, q2⟩ => by
  rw [e]
  exact q z q1 q2
theorem sc_law_mixed : FnScope ["_law_cell", "_law_k"] ["_law_cell", "_law_k"] (defScope s_law_mixed) := ⟨rfl, rfl, rfl, by decide +kernel, rfl, by decide +kernel, by decide +kernel⟩
theorem ok_law_mixed {P : Program} {w : World} {K : PySem.W.Frag} {mg : Str → Option Value} {base : Heap}  (T : Tx K mg)   : Cal P w K mg base 1 "_law_mixed" (spG A_mixed) := by
  obtain ⟨fd, F⟩ := T.sd.def_ 44 (d := d_law_mixed) rfl
  have S := sc_law_mixed
  refine ⟨⟨fd, ["_law_cell", "_law_k"], ok_pure (k := 0) F S (fnA_len fun _ => rfl) (fun cd Ar outer s H E xs W hr h => ?_), F.bindsN fun _ _ _ _ _ _ us hl => match us, hl with | [_, _], _ => rfl⟩, T.g 44, F.kp⟩
  obtain ⟨⟨c, k⟩, e, pr, h⟩ := h
  subst e
  refine ⟨_, (pss_cons (ps_set (i := 0) S.nd rfl (by first | exact Or.inl rfl | exact Or.inr rfl) (pe_op op_mod (pe_callTy call_int1 (by rfl) (T.n 74) (by decide +kernel) (pa_cons (pv 0) pa_nil)) pe_int)) (pss_one (ps_ret (pe_op op_mod (pe_op op_mul (pe_op op_mod (pe_op op_add (pe_op op_add (pe_op op_mul (pv 0) (pe_op op_add pe_int (pe_op op_mul (pe_op op_mul pe_int (pv 1)) (pv 1)))) (pe_op op_mul pe_int (pv 1))) pe_int) pe_int) pe_int) pe_int)))), ?_⟩
  show StD none _ _ [Ent.dat _, Ent.dat _]
  try dsimp only at h pr ⊢
  have pr : k ≤ 2000000 := pr
  walk_at "d"
  refine op_iC (by decide) rfl ?_
  have b1 : 0 ≤ c % 2147483647 := Int.emod_nonneg _ (by decide)
  have b2 : c % 2147483647 < 2147483647 := Int.emod_lt_of_pos _ (by decide)
  generalize c % 2147483647 = z at b1 b2
  walk_at "d"
  refine op_iC (.inl ⟨by decide, by decide⟩) rfl ?_
  walk_at "d"
  refine op_iC (.inl ⟨by omega, by omega⟩) rfl ?_
  walk_at "d"
  refine op_iC (.inl ⟨by omega, by omega⟩) rfl ?_
  walk_at "d"
  refine op_iC (.inl ⟨by decide, by decide⟩) rfl ?_
  walk_at "d"
  refine op_iC (by decide) rfl ?_
  generalize eu : (z * (48271 + 2 * (k : Int) * (k : Int)) + 69621 * (k : Int) + 11) % 2147483647 = u
  have u1 : 0 ≤ u := by rw [← eu]; exact Int.emod_nonneg _ (by decide)
  have u2 : u < 2147483647 := by rw [← eu]; exact Int.emod_lt_of_pos _ (by decide)
  walk_at "d"
  refine op_iC (.inl ⟨by omega, by omega⟩) rfl ?_
  walk_at "d"
  refine op_iC (by decide) rfl ?_
  refine h _ ⟨_, rfl, Int.emod_nonneg _ (by decide), ?_⟩
  have := Int.emod_lt_of_pos (u * 69621) (show (0 : Int) < 2147483629 by decide)
  omega
/-! ### the draws -/
def fnSm {ι : Type} (enc : ι → List PyData) (pre : ι → Nat → Prop) (R : ι → Nat → Nat → PyData → Prop) : AS := fun m xs W => ∃ i, xs = enc i ∧ pre i m ∧ ∀ m' d, R i m m' d → W m' d
def A_draw : AS := fnSm (fun l : Nat => [.int (l : Nat)]) (fun l m => 0 < l ∧ l ≤ 1000 ∧ m ≤ 1000000) fun l m m' d => m' = m + 1 ∧ ∃ z : Nat, d = .int (z : Nat) ∧ z < l
theorem stK_put (c l : Addr) (n n' : Int) : putK (stK c l n) kAt (.int n') = stK c l n' := rfl
theorem stK_cells (c l : Addr) (n : Int) : valV (stK c l n) kCells = some (.ref c) := rfl
theorem stK_lefts (c l : Addr) (n : Int) : valV (stK c l n) kLefts = some (.ref l) := rfl
theorem stK_at (c l : Addr) (n : Int) : valV (stK c l n) kAt = some (.int n) := rfl
theorem ifT {b : Bool} {A B : Prop} (e : b = true) (h : A) : if b = true then A else B := by rw [if_pos e]; exact h
theorem ifF {b : Bool} {A B : Prop} (e : b = false) (h : B) : if b = true then A else B := by rw [if_neg (by rw [e]; decide)]; exact h
theorem hu1 {A : Around} {k : Nat} (hr : Room k A) : A.units + 1 < cLine := Nat.lt_of_le_of_lt (Nat.add_le_add_left (by decide : 1 ≤ 64) _) hr.units
theorem sc_law_draw : FnScope ["_law_state", "_law_limit", "_law_at", "_law_place", "_law_left", "_law_number"] ["_law_state", "_law_limit"] (defScope s_law_draw) := ⟨rfl, rfl, rfl, by decide +kernel, rfl, by decide +kernel, by decide +kernel⟩
theorem ok_law_draw {P : Program} {w : World} {K : PySem.W.Frag} {mg : Str → Option Value} {base : Heap} (T : Tx K mg) (c : Cal P w K mg base 1 "_law_mixed" (spG A_mixed)) : Cal P w K mg base 2 "_law_draw" (spS A_draw) := by
  obtain ⟨fd, F⟩ := T.sd.def_ 46 (d := d_law_draw) rfl
  have S := sc_law_draw
  refine ⟨⟨fd, ["_law_state", "_law_limit"], F.ok (k := 1) S (fun vs H Q E ⟨S, F, m, v0, vr, xs, W, ev, e1, fS, s0, e2, h, q⟩ => ?_) (fun cdv Ar outer s H vs Q E hr ⟨S0, F, m, v0, vr, xs, W, ev, e1, fS, s0, e2, h, q⟩ => ?_), F.bindsN fun _ _ _ _ _ _ us hl => match us, hl with | [_, _], _ => rfl⟩, T.g 46, F.kp⟩
  · obtain ⟨i, e, _⟩ := h
    rw [ev, List.length_cons, e2.length, e]
    rfl
  obtain ⟨lim, e, ⟨hl0, hl1, hm⟩, hR⟩ := h
  subst e ev
  have er : vr = [V.int lim] := DaAll.ints (ns := [(lim : Int)]) e2
  subst er
  obtain ⟨a, lf, cc, cs, ls, n, hS, hv, hne, ha, hlf, hcc, hlen, hcs, hn, h100⟩ := s0
  subst hv
  have fa : F a = none := fS a (by rw [hS]; exact .inl rfl)
  have fl : F lf = none := fS lf (by rw [hS]; exact .inr rfl)
  have ca : cc ≠ a := ne_of_none hcc fa
  have cl : cc ≠ lf := ne_of_none hcc fl
  refine ⟨_, PSs.nox (pss_cons (ps_set (i := 2) S.nd rfl (by first | exact Or.inl rfl | exact Or.inr rfl) (pe_dget (hu1 hr) (pv 0) pe_str fun _ _ => rfl)) (pss_cons (ps_dput (hu1 hr) (pv 0) pe_str (pe_op op_add (pv 2) pe_int) (by rfl)) (pss_cons (ps_set (i := 3) S.nd rfl (by first | exact Or.inl rfl | exact Or.inr rfl) (pe_op op_mod (pe_callTy call_int1 (by rfl) (T.n 74) (by decide +kernel) (pa_cons (pv 2) pa_nil)) (pe_callB call_len_seq (by rfl) (T.n 69) (by decide +kernel) (pa_cons (pe_dget (hu1 hr) (pv 0) pe_str fun _ _ => rfl) pa_nil)))) (pss_cons (ps_set (i := 4) S.nd rfl (by first | exact Or.inl rfl | exact Or.inr rfl) (pe_ix ix_list (pe_dget (hu1 hr) (pv 0) pe_str fun _ _ => rfl) (pv 3) fun _ _ => rfl)) (pss_cons (ps_if (pt_cmpR op_gt (pv 4) pe_int (nomark _)) (pss_cons (ps_asg (pe_op op_fdiv (pv 4) (pv 1)) (pg_sub (pe_dget (hu1 hr) (pv 0) pe_str fun _ _ => rfl) (pv 3) set_list)) (pss_one (ps_ret (pe_op op_mod (pe_callTy call_int1 (by rfl) (T.n 74) (by decide +kernel) (pa_cons (pv 4) pa_nil)) (pv 1))))) pss_nil) (pss_cons (ps_set (i := 5) S.nd rfl (by first | exact Or.inl rfl | exact Or.inr rfl) (pe_cl c hr (by omega) (by rfl) (pa_cons (pe_cl c hr (by omega) (by rfl) (pa_cons (pe_ix ix_list (pe_dget (hu1 hr) (pv 0) pe_str fun _ _ => rfl) (pv 3) fun _ _ => rfl) (pa_cons (pv 2) pa_nil))) (pa_cons (pe_op op_add pe_int (pv 2)) pa_nil)))) (pss_one (ps_ret (pe_op op_mod (pe_op op_fdiv (pe_callTy call_int1 (by rfl) (T.n 74) (by decide +kernel) (pa_cons (pe_op op_add (pe_op op_mul (pv 5) pe_int) (pe_cl c hr (by omega) (by rfl) (pa_cons (pv 5) (pa_cons (pe_op op_add pe_int (pv 2)) pa_nil)))) pa_nil)) pe_int) (pv 1)))))))))), ?_⟩
  refine ⟨_, rfl, a, .int n, rfl, DGet.k (k := kAt) ha, ?_⟩
  refine ⟨_, rfl, _, _, rfl, rfl, _, rfl, a, _, rfl, DPut.k (k := kAt) ha (by show (3 : Nat) < sizeLine; decide), ?_⟩
  generalize eH : upd H a (.dK (putK (stK cc lf n) kAt (.int ((n : Int) + 1)))) = H1
  have h1a : H1 a = some (.dK (stK cc lf ((n : Int) + 1))) := by rw [← eH, upd_same]; rfl
  have h1l : H1 lf = some (.lst (ls.map V.int)) := by rw [← eH, upd_ne (Ne.symm hne)]; exact hlf
  have h1c : H1 cc = some (.lst (cs.map V.int)) := by rw [← eH, upd_ne ca]; exact e1 _ _ hcc
  have f1 : Same F H1 := fun b o z => by
    rw [← eH, upd_ne (ne_of_none z fa)]
    exact e1 b o z
  have k1 : ∀ b o, b ≠ a → H b = some o → H1 b = some o := fun b o z y => by
    rw [← eH, upd_ne z]
    exact y
  have lc : 0 < cs.length := List.length_pos_iff.mpr hcs
  have sa : inS S0 a := by rw [hS]; exact .inl rfl
  have sl : inS S0 lf := by rw [hS]; exact .inr rfl
  have fin : ∀ (F2 H2 : Hp) (ls' : List Int), H2 a = some (.dK (stK cc lf ((n : Int) + 1))) → H2 lf = some (.lst (ls'.map V.int)) → ls'.length = cs.length → Same F F2 → Same F2 H2 → (∀ b o, ¬ inS S0 b → H b = some o → H2 b = some o) → (∀ b, H b ≠ none → F b = none → F2 b = none) →
      ∀ z : Int, 0 ≤ z → z < lim → Q (.int z) H2 := fun F2 H2 ls' g1 g2 g3 g4 g5 g6 g7 z z0 z1 => by
    obtain ⟨zn, rfl⟩ := Int.eq_ofNat_of_zero_le z0
    have g7a : F2 a = none := g7 a (by rw [ha]; exact fun z => by cases z) fa
    have g7l : F2 lf = none := g7 lf (by rw [hlf]; exact fun z => by cases z) fl
    refine q _ F2 H2 (m + 1) (.int (zn : Nat)) ⟨g4, g5, g6, g7⟩ ⟨a, lf, cc, cs, ls', n + 1, hS, rfl, hne, g1, g2, g4 _ _ hcc, g3.symm, hcs, by omega, h100⟩ (fun b hb => ?_) (.int _) (hR _ _ ⟨rfl, zn, rfl, by omega⟩)
    rw [hS] at hb
    rcases hb with hb | hb
    · rw [hb]; exact g7a
    · rw [hb]; exact g7l
  have lm : (cs.map V.int).length = cs.length := List.length_map ..
  refine ⟨_, rfl, .inl ⟨_, rfl, ?_⟩⟩
  refine ⟨_, rfl, a, .ref cc, rfl, DGet.k (k := kCells) h1a, cc, cs.map V.int, rfl, .inl (.inl (.inl h1c)), _, _, rfl, rfl, by rw [lm]; omega, ?_⟩
  have p0 : 0 ≤ (n : Int) % ((cs.map V.int).length : Int) := Int.emod_nonneg _ (by rw [lm]; omega)
  have p1 : (n : Int) % ((cs.map V.int).length : Int) < cs.length := by
    have := Int.emod_lt_of_pos (n : Int) (show (0 : Int) < ((cs.map V.int).length : Int) by rw [lm]; omega)
    rw [lm] at this ⊢
    exact this
  obtain ⟨pn, ep⟩ := Int.eq_ofNat_of_zero_le p0
  rw [ep] at p1
  have hpl : pn < ls.length := by omega
  have hpc : pn < cs.length := by omega
  have gl : atI (ls.map V.int) ((n : Int) % ((cs.map V.int).length : Int)) = some (.int ls[pn]) := by
    rw [ep]
    exact atI_nat (by rw [List.getElem?_map, List.getElem?_eq_getElem hpl]; rfl)
  have gc : atI (cs.map V.int) ((n : Int) % ((cs.map V.int).length : Int)) = some (.int cs[pn]) := by
    rw [ep]
    exact atI_nat (by rw [List.getElem?_map, List.getElem?_eq_getElem hpc]; rfl)
  refine ⟨_, rfl, a, .ref lf, rfl, DGet.k (k := kLefts) h1a, _, rfl, lf, ls.map V.int, _, _, rfl, rfl, .inl (.inl h1l), gl, ?_⟩
  refine ⟨_, rfl, _, _, rfl, rfl, _, rfl, ?_⟩
  by_cases hx : 0 < ls[pn]
  · refine ifT (decide_eq_true hx) ?_
    have hix : ixN (ls.map V.int).length ((n : Int) % ((cs.map V.int).length : Int)) = some pn := by
      rw [ep]
      unfold ixN
      rw [if_pos (by omega), if_pos (by rw [List.length_map]; omega), Int.toNat_natCast]
    refine ⟨_, rfl, _, rfl, _, _, rfl, rfl, ⟨by omega, by omega⟩, ?_⟩
    refine ⟨_, rfl, a, .ref lf, rfl, DGet.k (k := kLefts) h1a, _, rfl, lf, ls.map V.int, _, pn, rfl, rfl, h1l, hix, ?_⟩
    refine ⟨_, rfl, .inl ⟨_, rfl, _, rfl, _, _, rfl, rfl, by omega, ?_⟩⟩
    refine fin F _ (ls.set pn (ls[pn] / (lim : Int))) ?_ ?_ ?_ (Same.refl F) ?_ ?_ (fun _ _ z => z) _ (Int.emod_nonneg _ (by omega)) (Int.emod_lt_of_pos _ (by omega))
    · rw [upd_ne hne]; exact h1a
    · rw [upd_same, List.map_set]
    · rw [List.length_set]; exact hlen.symm
    · intro b o z
      rw [upd_ne (ne_of_none z fl)]
      exact f1 b o z
    · intro b o z y
      have n1 : b ≠ a := fun e => z (by rw [e]; exact sa)
      have n2 : b ≠ lf := fun e => z (by rw [e]; exact sl)
      rw [upd_ne n2]
      exact k1 b o n1 y
  · refine ifF (decide_eq_false hx) ?_
    refine ⟨_, rfl, a, .ref cc, rfl, DGet.k (k := kCells) h1a, _, rfl, cc, cs.map V.int, _, _, rfl, rfl, .inl (.inl h1c), gc, ?_⟩
    refine ⟨_, rfl, ?_⟩
    refine ⟨F, [.int cs[pn], .int ((n : Nat) : Int)], (fun d => ∃ z : Int, d = .int z ∧ 0 ≤ z ∧ z < 2147483647), f1, .cons (.int _) (.one (.int _)), use_mixed (by omega) fun z1 y1 y2 => ⟨z1, rfl, y1, y2⟩, fun v F2 H2 d x2 a2 w2 => ?_⟩
    obtain ⟨z1, e, y1, y2⟩ := w2
    subst e
    have ev := a2.int_inv
    subst ev
    refine ⟨_, rfl, _, _, rfl, rfl, ?_⟩
    refine ⟨F2, [.int z1, .int ((40 + n : Nat) : Int)], (fun d => ∃ z : Int, d = .int z ∧ 0 ≤ z ∧ z < 2147483647), x2.fh, .cons (.int _) (.one (.int _)), use_mixed (by omega) fun z1 y1 y2 => ⟨z1, rfl, y1, y2⟩, fun v F3 H3 d x3 a3 w3 => ?_⟩
    obtain ⟨z2, e, y3, y4⟩ := w3
    subst e
    have ev := a3.int_inv
    subst ev
    refine ⟨_, rfl, _, _, rfl, rfl, .inl ⟨by omega, by omega⟩, ?_⟩
    refine ⟨_, rfl, _, rfl, _, _, rfl, rfl, ?_⟩
    refine ⟨F3, [.int z2, .int ((7 + n : Nat) : Int)], (fun d => ∃ z : Int, d = .int z ∧ 0 ≤ z ∧ z < 2147483647), x3.fh, .cons (.int _) (.one (.int _)), use_mixed (by omega) fun z1 y1 y2 => ⟨z1, rfl, y1, y2⟩, fun v F4 H4 d x4 a4 w4 => ?_⟩
    obtain ⟨z3, e, y5, y6⟩ := w4
    subst e
    have ev := a4.int_inv
    subst ev
    refine ⟨_, _, rfl, rfl, .inl ⟨_, rfl, _, _, rfl, rfl, ⟨by decide, by decide⟩, _, rfl, _, _, rfl, rfl, by omega, ?_⟩⟩
    have X := (x2.transP x3).transP x4
    have k4 : ∀ b o, H1 b = some o → H4 b = some o := fun b o z => X.hh b o (not_inS_none b) z
    refine fin F4 H4 ls (k4 _ _ h1a) (k4 _ _ h1l) hlen.symm X.ff X.fh (fun b o z y => k4 b o (k1 b o (fun e => z (by rw [e]; exact sa)) y)) (fun b z y => X.nw b ?_ y) _ (Int.emod_nonneg _ (by omega)) (Int.emod_lt_of_pos _ (by omega))
    by_cases e : b = a
    · rw [e, h1a]; exact fun z => by cases z
    · intro e2
      cases hb : H b with
      | none => exact z hb
      | some o =>
        rw [k1 b o e hb] at e2
        cases e2
/-! ### slots that hold no state -/
def isSt : Ent → Bool
  | .st _ => true
  | _ => false
def oneB : List Ent → Nat → Bool
  | [], _ => true
  | _ :: ds, 0 => ds.all fun e => !isSt e
  | e :: ds, i + 1 => !isSt e && oneB ds i
theorem one_of : ∀ {ds : List Ent} {i : Nat}, oneB ds i = true → oneSt ds i
  | [], _, _, j, k, e => by cases e
  | d :: ds, 0, h, j, k, e => by
    cases j with
    | zero => rfl
    | succ j =>
      have q := List.all_eq_true.mp h _ (List.mem_of_getElem? (show ds[j]? = some (.st k) from e))
      cases q
  | d :: ds, i + 1, h, j, k, e => by
    obtain ⟨h1, h2⟩ := Bool.and_eq_true_iff.mp h
    cases j with
    | zero =>
      cases e
      cases h1
    | succ j => exact congrArg Nat.succ (one_of h2 j k e)
def ofO : Option PyData → Ent
  | none => .no
  | some d => .dat d
theorem isSt_ofO (o : Option PyData) : isSt (ofO o) = false := by cases o <;> rfl
theorem use_draw {l m : Nat} {W : Nat → PyData → Prop} (h1 : 0 < l) (h2 : l ≤ 1000) (h3 : m ≤ 1000000) (q : ∀ z : Nat, z < l → W (m + 1) (.int (z : Nat))) : A_draw m [.int (l : Nat)] W := ⟨l, rfl, ⟨h1, h2, h3⟩, fun m' d ⟨e1, z, e2, e3⟩ => by
  rw [e1, e2]
  exact q z e3⟩
def A_of : AS := fnSm (fun xs : List PyData => [.list xs]) (fun xs m => 0 < xs.length ∧ xs.length ≤ 1000 ∧ m ≤ 1000000) fun xs m m' d => m' = m + 1 ∧ d ∈ xs
theorem use_of {xs : List PyData} {m : Nat} {W : Nat → PyData → Prop} (h1 : 0 < xs.length) (h2 : xs.length ≤ 1000) (h3 : m ≤ 1000000) (q : ∀ d ∈ xs, W (m + 1) d) : A_of m [.list xs] W := ⟨xs, rfl, ⟨h1, h2, h3⟩, fun m' d ⟨e1, e2⟩ => by
  rw [e1]
  exact q d e2⟩
theorem sc_law_of : FnScope ["_law_state", "_law_some"] ["_law_state", "_law_some"] (defScope s_law_of) := ⟨rfl, rfl, rfl, by decide +kernel, rfl, by decide +kernel, by decide +kernel⟩
theorem ok_law_of {P : Program} {w : World} {K : PySem.W.Frag} {mg : Str → Option Value} {base : Heap}  (T : Tx K mg) (c_law_draw : Cal P w K mg base 2 "_law_draw" (spS A_draw))  : Cal P w K mg base 3 "_law_of" (spS A_of) := by
  obtain ⟨fd, F⟩ := T.sd.def_ 47 (d := d_law_of) rfl
  have S := sc_law_of
  refine ⟨⟨fd, ["_law_state", "_law_some"], ok_st (k := 2) F S (fnS_len fun _ => rfl) (fun cd Ar outer s H E S0 m xs W hr h => ?_), F.bindsN fun _ _ _ _ _ _ us hl => match us, hl with | [_, _], _ => rfl⟩, T.g 47, F.kp⟩
  obtain ⟨xs, e, pr, h⟩ := h
  subst e
  refine ⟨_, (pss_one (ps_ret (pe_ix ix_list (pv 1) (pe_cl c_law_draw hr (by omega) (by rfl) (pa_cons (pv 0) (pa_cons (pe_callB call_len_seq (by rfl) (T.n 69) (by decide +kernel) (pa_cons (pv 1) pa_nil)) pa_nil))) fun _ _ => rfl))), ?_⟩
  show StD S0 _ _ [Ent.st m, Ent.dat _]
  try dsimp only at h pr ⊢
  obtain ⟨h1, h2, h3⟩ := pr
  walk_at "d"
  refine ev_callS (i := 0) (m := m) rfl ?_
  walk_at "d"
  refine ⟨one_of rfl, use_draw h1 h2 h3 fun z hz => ?_⟩
  refine op_ixL (d := xs[z]) (atI_nat (List.getElem?_eq_getElem hz)) ?_
  exact ⟨m + 1, rfl, h _ _ ⟨rfl, List.getElem_mem _⟩⟩
end JR
set_option pp.maxSteps 2500
set_option Elab.async false
set_option linter.all false
set_option maxRecDepth 100000
set_option maxHeartbeats 2000000
namespace JR
open PySem PySem.Spec L2 RZ
local macro_rules
  | `(tactic| walk_at "s") => `(tactic| first
    | ((with_reducible apply ev_var); exact rfl) | with_reducible refine ev_isiI ?_ | with_reducible refine ev_isiB ?_ | with_reducible refine ev_isiT ?_ | with_reducible refine ev_isiS ?_ | ((with_reducible refine st_append ?_ ?_); rotate_left; exact ⟨_, rfl⟩) | ((with_reducible apply st_pop); exact rfl) | ((with_reducible apply et_ownNe); exact rfl) | ((with_reducible apply op_i); exact rfl) | ((with_reducible apply it_rgV); exact rfl) | ((with_reducible apply op_inW); exact rfl) | ((with_reducible apply op_ixT); exact rfl) | ((with_reducible apply op_ixL); exact rfl) | ((with_reducible refine And.intro (le_lit ?_) ?_); exact rfl) | ((with_reducible apply op_b); exact rfl) | ((with_reducible apply tc_name); decide) | ((with_reducible apply tc_tup); exact rfl) | ((with_reducible apply tg_tup); exact rfl) | ((with_reducible apply tg_tupD); exact rfl) | ((with_reducible apply tc_tupD); exact rfl)
    | with_reducible refine st_seq ?_ | with_reducible refine st_ret ?_ | with_reducible refine st_next ?_ | with_reducible refine st_if ?_ | with_reducible refine st_par_own2 ?_ | with_reducible refine st_par_own ?_ | with_reducible refine st_rng ?_ | with_reducible refine st_par ?_ | with_reducible refine st_own ?_ | with_reducible refine st_asg ?_ | with_reducible refine st_unpack ?_ | with_reducible refine st_drop ?_ | with_reducible refine st_break ?_ | with_reducible refine ev_int ?_ | with_reducible refine ev_str ?_ | with_reducible refine ev_bl ?_ | with_reducible refine ev_non ?_ | with_reducible refine ev_op ?_ | with_reducible refine ev_un ?_ | with_reducible refine ev_if ?_ | with_reducible refine ev_andV ?_ | with_reducible refine ev_orV ?_ | with_reducible refine ev_notV ?_ | with_reducible refine ev_tup ?_ | with_reducible refine ev_lst ?_ | with_reducible refine ea_nil ?_ | with_reducible refine ea_cons ?_ | with_reducible refine ev_call ?_ | with_reducible refine ev_callN ?_ | with_reducible refine ev_cb ?_ | with_reducible refine ev_sl ?_ | with_reducible refine eo_none ?_ | with_reducible refine eo_some ?_ | with_reducible refine ev_revL ?_ | with_reducible refine ev_revT ?_ | with_reducible refine evn_lrg ?_ | with_reducible refine ev_bmT ?_ | with_reducible refine et_test ?_ | with_reducible refine et_B ?_ | with_reducible refine et_and ?_ | with_reducible refine et_or ?_ | with_reducible refine et_not ?_ | with_reducible refine et_yes ?_ | with_reducible refine ev_chain ?_ | with_reducible refine op_eqI ?_ | with_reducible refine op_neI ?_ | with_reducible refine op_eqS ?_ | with_reducible refine op_neS ?_ | with_reducible refine op_eqB ?_ | with_reducible refine op_neB ?_ | with_reducible refine op_inIn ?_ | with_reducible refine ud_neg ?_ | with_reducible refine op_is ?_ | with_reducible refine op_isnt ?_ | with_reducible refine cb_lenL ?_ | with_reducible refine cb_lenT ?_ | with_reducible refine cb_listT ?_ | with_reducible refine cb_listL ?_ | with_reducible refine cb_tupL ?_ | with_reducible refine cb_int ?_ | with_reducible refine cb_max2 ?_ | with_reducible refine cb_min2 ?_ | with_reducible refine it_list ?_ | with_reducible refine it_tup ?_ | with_reducible refine itn_1 ?_ | with_reducible refine it_rng2 ?_ | with_reducible refine it_rev ?_ | with_reducible refine itn_rev ?_ | with_reducible refine it_enum ?_ | with_reducible refine it_enumT ?_ | with_reducible refine it_zipT ?_ | with_reducible refine tcs_cons ?_ | with_reducible refine tcs_nil ?_ | with_reducible refine tg_name ?_ | with_reducible refine tgs_cons ?_ | with_reducible refine tgs_nil ?_
    | with_reducible refine ⟨_, rfl, ?_⟩
    | with_reducible refine ⟨_, _, rfl, ?_⟩
    | refine and_T ?_ | refine and_F ?_)
  | `(tactic| walk_at "d") => `(tactic| repeat walk_at "s")
def A_table : AS := fnSm (fun sg : Bool => [.bool sg]) (fun _ m => m ≤ 900000) fun sg m m' d => m' ≤ m + 100 ∧ ∃ (h w : Nat) (R : List (List Int)), d = tbl R ∧ OkT sg h w R
theorem one_tab {m : Nat} {a b c d : PyData} {xs : List PyData} {e2 e8 e9 : Ent} {e7 : Ent} (h2 : isSt e2 = false) (h7 : isSt e7 = false) (h8 : isSt e8 = false) (h9 : isSt e9 = false) : oneSt [.st m, .dat a, e2, .dat b, .dat c, .dat d, .own xs, e7, e8, e9] 0 := one_of (by
  simp [oneB, h2, h7, h8, h9]
  exact ⟨rfl, rfl, rfl, rfl, rfl⟩)
theorem sum_snoc (r : List Int) (x : Int) : (r ++ [x]).sum = r.sum + x := by
  rw [List.sum_append, List.sum_cons, List.sum_nil, Int.add_zero]
theorem sc_law_table : FnScope ["_law_state", "_law_signed", "_law_k", "_law_high", "_law_wide", "_law_room", "_law_rows", "_law_row", "_law_spot", "_law_item"] ["_law_state", "_law_signed"] (defScope s_law_table) := ⟨rfl, rfl, rfl, by decide +kernel, rfl, by decide +kernel, by decide +kernel⟩
theorem ok_law_table {P : Program} {w : World} {K : PySem.W.Frag} {mg : Str → Option Value} {base : Heap}  (T : Tx K mg) (c_law_draw : Cal P w K mg base 2 "_law_draw" (spS A_draw)) (c_law_of : Cal P w K mg base 3 "_law_of" (spS A_of))  : Cal P w K mg base 4 "_law_table" (spS A_table) := by
  obtain ⟨fd, F⟩ := T.sd.def_ 55 (d := d_law_table) rfl
  have S := sc_law_table
  refine ⟨⟨fd, ["_law_state", "_law_signed"], ok_st (k := 3) F S (fnS_len fun _ => rfl) (fun cd Ar outer s H E S0 m xs W hr h => ?_), F.bindsN fun _ _ _ _ _ _ us hl => match us, hl with | [_, _], _ => rfl⟩, T.g 55, F.kp⟩
  obtain ⟨sg, e, pr, h⟩ := h
  subst e
  refine ⟨_, (pss_cons (ps_par (i := 3) (j := 4) (by rfl) S.nd rfl rfl (by decide) rfl rfl (pa_cons (pe_op op_add pe_int (pe_cl c_law_of hr (by omega) (by rfl) (pa_cons (pv 0) (pa_cons (pe_lst (pa_cons pe_int (pa_cons pe_int (pa_cons pe_int (pa_cons pe_int (pa_cons pe_int pa_nil)))))) pa_nil)))) (pa_cons (pe_op op_add pe_int (pe_cl c_law_of hr (by omega) (by rfl) (pa_cons (pv 0) (pa_cons (pe_lst (pa_cons pe_int (pa_cons pe_int (pa_cons pe_int (pa_cons pe_int pa_nil))))) pa_nil)))) pa_nil)) (by rfl)) (pss_cons (ps_par (i := 5) (j := 6) (by rfl) S.nd rfl rfl (by decide) rfl rfl (pa_cons (pe_cl c_law_of hr (by omega) (by rfl) (pa_cons (pv 0) (pa_cons (pe_lst (pa_cons pe_int (pa_cons pe_int (pa_cons pe_int (pa_cons pe_int pa_nil))))) pa_nil))) (pa_cons (pe_lst pa_nil) pa_nil)) (by rfl)) (pss_cons (ps_for PassesOwn.never rfl (pi_range1 (by rfl) (T.n 70) (pa_cons (pv 3) pa_nil)) (pg_name (i := 2) S.nd rfl (by first | exact Or.inl rfl | exact Or.inr rfl)) (pss_cons (ps_set (i := 7) S.nd rfl (by first | exact Or.inl rfl | exact Or.inr rfl) (pe_lst pa_nil)) (pss_cons (ps_for PassesOwn.never rfl (pi_range1 (by rfl) (T.n 70) (pa_cons (pv 4) pa_nil)) (pg_name (i := 8) S.nd rfl (by first | exact Or.inl rfl | exact Or.inr rfl)) (pss_cons (ps_set (i := 9) S.nd rfl (by first | exact Or.inl rfl | exact Or.inr rfl) (pe_callB (call_min2 rfl) (by rfl) (T.n 77) (by decide +kernel) (pa_cons (pe_cl c_law_draw hr (by omega) (by rfl) (pa_cons (pv 0) (pa_cons (pe_ifExp (pt_val (pv 1)) pe_int (pe_cl c_law_of hr (by omega) (by rfl) (pa_cons (pv 0) (pa_cons (pe_lst (pa_cons pe_int (pa_cons pe_int (pa_cons pe_int pa_nil)))) pa_nil)))) pa_nil))) (pa_cons (pv 5) pa_nil)))) (pss_cons (ps_set (i := 5) S.nd rfl (by first | exact Or.inl rfl | exact Or.inr rfl) (pe_op op_sub (pv 5) (pv 9))) (pss_one (ps_expr (pe_bm PySem.F.plainAttrs_list PySem.F.slot_list_append PySem.F.type_list_append mt_append (pv 7) (pa_cons (pv 9) pa_nil))))))) (pss_one (ps_expr (pe_bm PySem.F.plainAttrs_list PySem.F.slot_list_append PySem.F.type_list_append mt_append (pv 6) (pa_cons (pe_callTy call_tupZ (by rfl) (T.n 72) (by decide +kernel) (pa_cons (pv 7) pa_nil)) pa_nil))))))) (pss_one (ps_ret (pe_callTy call_tupZ (by rfl) (T.n 72) (by decide +kernel) (pa_cons (pv 6) pa_nil))))))), ?_⟩
  show StD S0 _ _ [Ent.st m, Ent.dat _, Ent.no, Ent.no, Ent.no, Ent.no, Ent.no, Ent.no, Ent.no, Ent.no]
  try dsimp only at h pr ⊢
  have pr : m ≤ 900000 := pr
  walk_at "d"
  refine ev_callS (i := 0) (m := m) rfl ?_
  walk_at "d"
  refine ⟨one_of rfl, use_of (by decide) (by decide) (by omega) fun d hd => ?_⟩
  have hd : ∃ v : Nat, d = .int v ∧ v ≤ 2 := by
    simp only [List.mem_cons, List.not_mem_nil, or_false] at hd
    rcases hd with rfl | rfl | rfl | rfl | rfl
    · exact ⟨0, rfl, by decide⟩
    · exact ⟨0, rfl, by decide⟩
    · exact ⟨1, rfl, by decide⟩
    · exact ⟨1, rfl, by decide⟩
    · exact ⟨2, rfl, by decide⟩
  obtain ⟨v1, rfl, hv1⟩ := hd
  walk_at "d"
  refine ev_callS (i := 0) (m := m + 1) rfl ?_
  walk_at "d"
  refine ⟨one_of rfl, use_of (by decide) (by decide) (by omega) fun d hd => ?_⟩
  have hd : ∃ v : Nat, d = .int v ∧ v ≤ 2 := by
    simp only [List.mem_cons, List.not_mem_nil, or_false] at hd
    rcases hd with rfl | rfl | rfl | rfl
    · exact ⟨0, rfl, by decide⟩
    · exact ⟨1, rfl, by decide⟩
    · exact ⟨1, rfl, by decide⟩
    · exact ⟨2, rfl, by decide⟩
  obtain ⟨v2, rfl, hv2⟩ := hd
  walk_at "d"
  refine ev_callS (i := 0) (m := m + 1 + 1) rfl ?_
  walk_at "d"
  refine ⟨one_of rfl, use_of (by decide) (by decide) (by omega) fun d hd => ?_⟩
  have hd : ∃ v : Nat, d = .int v ∧ v ≤ 12 := by
    simp only [List.mem_cons, List.not_mem_nil, or_false] at hd
    rcases hd with rfl | rfl | rfl | rfl
    · exact ⟨3, rfl, by decide⟩
    · exact ⟨5, rfl, by decide⟩
    · exact ⟨7, rfl, by decide⟩
    · exact ⟨12, rfl, by decide⟩
  obtain ⟨r0, rfl, hr0⟩ := hd
  walk_at "d"
  refine st_for (Pd := Da) ?_
  walk_at "d"
  refine ⟨show 2 + v1 ≤ 100000 by omega, ?_⟩
  refine ⟨fun k ds => ∃ (m1 : Nat) (room : Int) (R : List (List Int)) (e2 e7 e8 e9 : Ent), ds = [.st m1, .dat (.bool sg), e2, .dat (.int (2 + (v1 : Nat))), .dat (.int (2 + (v2 : Nat))), .dat (.int room), .own (R.map iv), e7, e8, e9] ∧ isSt e2 = false ∧ isSt e7 = false ∧ isSt e8 = false ∧ isSt e9 = false ∧
    m1 ≤ m + 3 + 8 * k ∧ 0 ≤ room ∧ R.length = k ∧ (∀ r ∈ R, r.length = 2 + v2 ∧ ∀ x ∈ r, 0 ≤ x ∧ (sg = true → x ≤ 1)) ∧ (R.map List.sum).sum + room = r0, ⟨m + 1 + 1 + 1, r0, [], .no, .no, .no, .no, rfl, rfl, rfl, rfl, rfl, by omega, by omega, rfl, fun r hr => absurd hr List.not_mem_nil, by show (0 : Int) + _ = _; omega⟩, fun k d ds2 q1 iv2 => ?_, fun ds2 iv2 => ?_⟩
  · obtain ⟨m1, room, R, e2, e7, e8, e9, rfl, i2, i7, i8, i9, hm1, hroom, hlen, hrows, hsum⟩ := iv2
    obtain ⟨hk, q2⟩ := rmap_at q1
    have hk : k < 2 + v1 := hk
    subst q2
    walk_at "d"
    refine st_for (Pd := Da) ?_
    walk_at "d"
    refine ⟨show 2 + v2 ≤ 100000 by omega, ?_⟩
    refine ⟨fun j ds => ∃ (m2 : Nat) (room2 : Int) (row : List Int) (e8 e9 : Ent), ds = [.st m2, .dat (.bool sg), .dat (.int (k : Nat)), .dat (.int (2 + (v1 : Nat))), .dat (.int (2 + (v2 : Nat))), .dat (.int room2), .own (R.map iv), .own (row.map PyData.int), e8, e9] ∧ isSt e8 = false ∧ isSt e9 = false ∧
      m2 ≤ m1 + 2 * j ∧ 0 ≤ room2 ∧ row.length = j ∧ (∀ x ∈ row, 0 ≤ x ∧ (sg = true → x ≤ 1)) ∧ row.sum + room2 = room, ⟨m1, room, [], e8, e9, rfl, i8, i9, by omega, hroom, rfl, fun x hx => absurd hx List.not_mem_nil, by show (0 : Int) + _ = _; omega⟩, fun j d ds3 q3 iv3 => ?_, fun ds3 iv3 => ?_⟩
    · obtain ⟨m2, room2, row, e8, e9, rfl, i8, i9, hm2, hroom2, hrl, hrow, hrs⟩ := iv3
      obtain ⟨hj, q4⟩ := rmap_at q3
      have hj : j < 2 + v2 := hj
      subst q4
      have fin : ∀ (m3 : Nat) (z : Nat), m3 ≤ m2 + 2 → (sg = true → z ≤ 1) → ∃ (m2 : Nat) (room3 : Int) (row' : List Int) (e8 e9 : Ent), ([.st m3, .dat (.bool sg), .dat (.int (k : Nat)), .dat (.int (2 + (v1 : Nat))), .dat (.int (2 + (v2 : Nat))), .dat (.int (room2 - (if room2 < (z : Int) then room2 else (z : Int)))), .own (R.map iv), .own (row.map PyData.int ++ [.int (if room2 < (z : Int) then room2 else (z : Int))]), .dat (.int (j : Nat)), .dat (.int (if room2 < (z : Int) then room2 else (z : Int)))] : List Ent) = [.st m2, .dat (.bool sg), .dat (.int (k : Nat)), .dat (.int (2 + (v1 : Nat))), .dat (.int (2 + (v2 : Nat))), .dat (.int room3), .own (R.map iv), .own (row'.map PyData.int), e8, e9] ∧ isSt e8 = false ∧ isSt e9 = false ∧
          m2 ≤ m1 + 2 * (j + 1) ∧ 0 ≤ room3 ∧ row'.length = j + 1 ∧ (∀ x ∈ row', 0 ≤ x ∧ (sg = true → x ≤ 1)) ∧ row'.sum + room3 = room := fun m3 z g1 g2 => by
        generalize ex : (if room2 < (z : Int) then room2 else (z : Int)) = x
        have x0 : 0 ≤ x := by rw [← ex]; split <;> omega
        have x1 : x ≤ room2 := by rw [← ex]; split <;> omega
        have x2 : x ≤ z := by rw [← ex]; split <;> omega
        refine ⟨m3, room2 - x, row ++ [x], _, _, by rw [List.map_append]; rfl, rfl, rfl, by omega, by omega, by rw [List.length_append, hrl]; rfl, fun y hy => ?_, by rw [sum_snoc]; omega⟩
        rcases List.mem_append.mp hy with hy | hy
        · exact hrow y hy
        · rw [List.mem_singleton.mp hy]
          exact ⟨x0, fun e => by have := g2 e; omega⟩
      walk_at "d"
      refine ev_callS (i := 0) (m := m2) rfl ?_
      walk_at "d"
      cases sg with
      | true =>
        walk_at "d"
        refine ⟨one_tab rfl rfl rfl i9, use_draw (by decide) (by decide) (by omega) fun z hz => ?_⟩
        walk_at "d"
        refine ⟨by rw [List.length_map]; omega, ?_⟩
        have hz : z < 2 := hz
        exact fin (m2 + 1) z (by omega) (fun _ => by omega)
      | false =>
        walk_at "d"
        refine ev_callS (i := 0) (m := m2) rfl ?_
        walk_at "d"
        refine ⟨one_tab rfl rfl rfl i9, use_of (by decide) (by decide) (by omega) fun d hd => ?_⟩
        have hd : ∃ v : Nat, d = .int v ∧ 0 < v ∧ v ≤ 13 := by
          simp only [List.mem_cons, List.not_mem_nil, or_false] at hd
          rcases hd with rfl | rfl | rfl
          · exact ⟨2, rfl, by decide, by decide⟩
          · exact ⟨3, rfl, by decide, by decide⟩
          · exact ⟨13, rfl, by decide, by decide⟩
        obtain ⟨v, rfl, hv⟩ := hd
        walk_at "d"
        refine ⟨one_tab rfl rfl rfl i9, use_draw hv.1 (by omega) (by omega) fun z hz => ?_⟩
        walk_at "d"
        refine ⟨by rw [List.length_map]; omega, ?_⟩
        exact fin (m2 + 1 + 1) z (by omega) (fun e => by cases e)
    · obtain ⟨m2, room2, row, e8, e9, rfl, i8, i9, hm2, hroom2, hrl, hrow, hrs⟩ := iv3
      rw [List.length_map, List.length_range] at hm2 hrl
      have hm2 : m2 ≤ m1 + 2 * (2 + v2) := hm2
      have hrl : row.length = 2 + v2 := hrl
      refine st_freeze (i := 7) rfl ?_
      walk_at "d"
      refine ⟨by rw [List.length_map]; omega, ?_⟩
      refine ⟨m2, room2, R ++ [row], _, _, _, _, by rw [List.map_append]; rfl, rfl, rfl, i8, i9, by omega, hroom2, by rw [List.length_append, hlen]; rfl, fun r hr => ?_, by rw [List.map_append]; show (List.map List.sum R ++ [row.sum]).sum + _ = _; rw [sum_snoc]; omega⟩
      rcases List.mem_append.mp hr with hr | hr
      · exact hrows r hr
      · rw [List.mem_singleton.mp hr]
        exact ⟨hrl, hrow⟩
  · obtain ⟨m1, room, R, e2, e7, e8, e9, rfl, i2, i7, i8, i9, hm1, hroom, hlen, hrows, hsum⟩ := iv2
    rw [List.length_map, List.length_range] at hm1 hlen
    have hm1 : m1 ≤ m + 3 + 8 * (2 + v1) := hm1
    have hlen : R.length = 2 + v1 := hlen
    refine st_freeze (i := 6) rfl ?_
    walk_at "d"
    exact h _ _ ⟨by omega, 2 + v1, 2 + v2, R, rfl, ⟨⟨hlen, fun r hr => (hrows r hr).1, by omega, by omega⟩, fun r hr => (hrows r hr).2, by omega⟩⟩
end JR
set_option pp.maxSteps 2500
set_option Elab.async false
set_option linter.all false
set_option maxRecDepth 100000
set_option maxHeartbeats 2000000
namespace JR
open PySem PySem.Spec L2 RZ
local macro_rules
  | `(tactic| walk_at "s") => `(tactic| first
    | ((with_reducible apply ev_var); exact rfl) | with_reducible refine ev_isiI ?_ | with_reducible refine ev_isiB ?_ | with_reducible refine ev_isiT ?_ | with_reducible refine ev_isiS ?_ | ((with_reducible refine st_append ?_ ?_); rotate_left; exact ⟨_, rfl⟩) | ((with_reducible apply st_pop); exact rfl) | ((with_reducible apply et_ownNe); exact rfl) | ((with_reducible apply op_i); exact rfl) | ((with_reducible apply it_rgV); exact rfl) | ((with_reducible apply op_inW); exact rfl) | ((with_reducible apply op_ixT); exact rfl) | ((with_reducible apply op_ixL); exact rfl) | ((with_reducible refine And.intro (le_lit ?_) ?_); exact rfl) | ((with_reducible apply op_b); exact rfl) | ((with_reducible apply tc_name); decide) | ((with_reducible apply tc_tup); exact rfl) | ((with_reducible apply tg_tup); exact rfl) | ((with_reducible apply tg_tupD); exact rfl) | ((with_reducible apply tc_tupD); exact rfl)
    | with_reducible refine st_seq ?_ | with_reducible refine st_ret ?_ | with_reducible refine st_next ?_ | with_reducible refine st_if ?_ | with_reducible refine st_par_own2 ?_ | with_reducible refine st_par_own ?_ | with_reducible refine st_rng ?_ | with_reducible refine st_par ?_ | with_reducible refine st_own ?_ | with_reducible refine st_asg ?_ | with_reducible refine st_unpack ?_ | with_reducible refine st_drop ?_ | with_reducible refine st_break ?_ | with_reducible refine ev_int ?_ | with_reducible refine ev_str ?_ | with_reducible refine ev_bl ?_ | with_reducible refine ev_non ?_ | with_reducible refine ev_op ?_ | with_reducible refine ev_un ?_ | with_reducible refine ev_if ?_ | with_reducible refine ev_andV ?_ | with_reducible refine ev_orV ?_ | with_reducible refine ev_notV ?_ | with_reducible refine ev_tup ?_ | with_reducible refine ev_lst ?_ | with_reducible refine ea_nil ?_ | with_reducible refine ea_cons ?_ | with_reducible refine ev_call ?_ | with_reducible refine ev_callN ?_ | with_reducible refine ev_cb ?_ | with_reducible refine ev_sl ?_ | with_reducible refine eo_none ?_ | with_reducible refine eo_some ?_ | with_reducible refine ev_revL ?_ | with_reducible refine ev_revT ?_ | with_reducible refine evn_lrg ?_ | with_reducible refine ev_bmT ?_ | with_reducible refine et_test ?_ | with_reducible refine et_B ?_ | with_reducible refine et_and ?_ | with_reducible refine et_or ?_ | with_reducible refine et_not ?_ | with_reducible refine et_yes ?_ | with_reducible refine ev_chain ?_ | with_reducible refine op_eqI ?_ | with_reducible refine op_neI ?_ | with_reducible refine op_eqS ?_ | with_reducible refine op_neS ?_ | with_reducible refine op_eqB ?_ | with_reducible refine op_neB ?_ | with_reducible refine op_inIn ?_ | with_reducible refine ud_neg ?_ | with_reducible refine op_is ?_ | with_reducible refine op_isnt ?_ | with_reducible refine cb_lenL ?_ | with_reducible refine cb_lenT ?_ | with_reducible refine cb_listT ?_ | with_reducible refine cb_listL ?_ | with_reducible refine cb_tupL ?_ | with_reducible refine cb_int ?_ | with_reducible refine cb_max2 ?_ | with_reducible refine cb_min2 ?_ | with_reducible refine it_list ?_ | with_reducible refine it_tup ?_ | with_reducible refine itn_1 ?_ | with_reducible refine it_rng2 ?_ | with_reducible refine it_rev ?_ | with_reducible refine itn_rev ?_ | with_reducible refine it_enum ?_ | with_reducible refine it_enumT ?_ | with_reducible refine it_zipT ?_ | with_reducible refine tcs_cons ?_ | with_reducible refine tcs_nil ?_ | with_reducible refine tg_name ?_ | with_reducible refine tgs_cons ?_ | with_reducible refine tgs_nil ?_
    | with_reducible refine ⟨_, rfl, ?_⟩
    | with_reducible refine ⟨_, _, rfl, ?_⟩
    | refine and_T ?_ | refine and_F ?_)
  | `(tactic| walk_at "d") => `(tactic| repeat walk_at "s")
/-! ### lists of lists that are stored into -/
structure RowsAt (H0 H' : Hp) (D : Addr) (as : List Addr) (R : List (List Int)) : Prop where
  len : as.length = R.length
  nd : as.Nodup
  nD : D ∉ as
  fr : ∀ a ∈ as, H0 a = none
  frD : H0 D = none
  hD : H' D = some (.lst (as.map V.ref))
  rows : ∀ (i : Nat) (a : Addr) (r : List Int), as[i]? = some a → R[i]? = some r → H' a = some (.lst (r.map V.int))
  kp : ∀ b o, H0 b = some o → H' b = some o
theorem nodup_at : ∀ {as : List Addr} {i j : Nat} {a : Addr}, as.Nodup → as[i]? = some a → as[j]? = some a → i = j
  | [], i, _, _, _, e, _ => by cases e
  | x :: as, 0, 0, a, _, _, _ => rfl
  | x :: as, 0, j + 1, a, h, e1, e2 => by
    cases e1
    exact absurd (List.mem_of_getElem? (show as[j]? = some x from e2)) (List.nodup_cons.mp h).1
  | x :: as, i + 1, 0, a, h, e1, e2 => by
    cases e2
    exact absurd (List.mem_of_getElem? (show as[i]? = some x from e1)) (List.nodup_cons.mp h).1
  | x :: as, i + 1, j + 1, a, h, e1, e2 => congrArg Nat.succ (nodup_at (List.nodup_cons.mp h).2 e1 e2)
theorem RowsAt.store {H0 H' : Hp} {D a : Addr} {as : List Addr} {R : List (List Int)} {i : Nat} (Z : RowsAt H0 H' D as R) (ha : as[i]? = some a) (row : List Int) : RowsAt H0 (upd H' a (.lst (row.map V.int))) D as (R.set i row) where
  len := by rw [List.length_set]; exact Z.len
  nd := Z.nd
  nD := Z.nD
  fr := Z.fr
  frD := Z.frD
  hD := by
    have n : D ≠ a := fun e => Z.nD (by rw [e]; exact List.mem_of_getElem? ha)
    rw [upd_ne n]; exact Z.hD
  rows := fun j b r e1 e2 => by
    by_cases h : j = i
    · subst h
      rw [ha] at e1
      cases e1
      have hl : j < R.length := by
        rw [← Z.len]
        exact (List.getElem?_eq_some_iff.mp ha).1
      rw [List.getElem?_set_self hl] at e2
      cases e2
      exact upd_same
    · rw [List.getElem?_set_ne (Ne.symm h)] at e2
      have n : b ≠ a := fun e => h (nodup_at Z.nd e1 (by rw [e]; exact ha))
      rw [upd_ne n]
      exact Z.rows j b r e1 e2
  kp := fun b o e => by
    have n : b ≠ a := fun z => by
      have := Z.fr a (List.mem_of_getElem? ha)
      rw [z, this] at e
      cases e
    rw [upd_ne n]
    exact Z.kp b o e
abbrev rListOf (K : PySem.W.Frag) : List V → Hp → VK → Prop := fun vs H Q => ∃ p ys, vs = [.ref p] ∧ (SqL K H p ys ∨ SqT K H p ys) ∧ ∀ l, H l = none → Q (.ref l) (upd H l (.lst ys))
/-- [list(row) for row in table] -/
theorem lc_rows {K : PySem.W.Frag} {H0 F H : Hp} {σ : St} {ds : List Ent} {R : List (List Int)} {Q : VK} {s : Nat} (I : Ents none H0 F H σ ds) (h0 : ds[0]? = some (.dat (tbl R))) (hs : s < ds.length) (hl : R.length ≤ 1000)
    (hq : ∀ D as H', RowsAt H H' D as R → Q (.ref D) H') : tLc (iTup K (tVar 0)) (gName s) tYes (tCB (rListOf K) (tCons (tVar s) tNil)) [s] σ H Q := by
  obtain ⟨v, e1, e2⟩ := I.at_ 0 _ h0
  obtain ⟨a, vs, rfl, hT, hD⟩ := e2.tup_inv
  refine ⟨.ref a, slot_some e1, a, rfl, ⟨vs, hT.sq I.fh⟩, fun D nD => ?_⟩
  have nDa : ∀ {b : Addr} {o : HO}, H b = some o → b ≠ D := fun {b o} e => ne_of_none e nD
  have lv : vs.length = R.length := by rw [hD.length, List.length_map]
  refine ⟨fun i m H' => m = R.length - i ∧ i ≤ R.length ∧ ∃ as, RowsAt H H' D as (R.take i), ⟨_, rfl, Nat.zero_le _, [], rfl, .nil, List.not_mem_nil, fun _ h => absurd h List.not_mem_nil, nD, upd_same, fun i a r e => (by cases e), fun b o e => by rw [upd_ne (nDa e)]; exact e⟩, ?_⟩
  rintro i m H' ⟨rfl, hi, as, Z⟩
  have hTi : SqT K H' a vs := by
    obtain ⟨o, _, h⟩ := hT
    exact .inl (.inr ⟨o, Z.kp _ _ (I.fh _ _ h)⟩)
  by_cases hlt : i < R.length
  · have hv : i < vs.length := by omega
    refine .inr ⟨⟨vs, vs[i], hTi, List.getElem?_eq_getElem hv⟩, fun H2 => ∃ as, RowsAt H H2 D as (R.take (i + 1)), fun H2 ⟨as, Z⟩ => ⟨R.length - (i + 1), by omega, rfl, hlt, as, Z⟩, fun x H2 y => ?_⟩
    obtain ⟨eH, q⟩ := y
    subst eH
    obtain ⟨d, g1, g2⟩ := hD.got (q vs hTi)
    obtain ⟨r, hr, rfl⟩ := map_at g1
    obtain ⟨p, ws, rfl, hp, hw⟩ := g2.tup_inv
    have ew := hw.ints
    subst ew
    have ls : s < (L2.wipe σ [s]).length := by rw [wipe_length, I.len]; exact hs
    refine ⟨wipe_wipe List.mem_cons_self (by
      apply List.ext_getElem?
      intro j
      rw [wipe_get, wipe_get]
      by_cases hj : j ∈ [s]
      · rw [if_pos hj, if_pos hj, Option.map_map]; rfl
      · rw [if_neg hj, if_neg hj]), ?_⟩
    have hpT : SqT K H2 p (r.map V.int) := by
      obtain ⟨o, _, h⟩ := hp
      exact .inl (.inr ⟨o, Z.kp _ _ (I.fh _ _ h)⟩)
    refine ⟨.ref p, by rw [List.getElem?_set_self ls], p, r.map V.int, rfl, .inr hpT, fun l nl => ?_⟩
    have lD : l ≠ D := fun e => by rw [e, Z.hD] at nl; cases nl
    have l0 : H l = none := by
      cases e : H l with
      | none => rfl
      | some o => rw [Z.kp _ _ e] at nl; cases nl
    have la : l ∉ as := fun e => by
      obtain ⟨j, hj, ej⟩ := List.getElem_of_mem e
      have hj2 : j < (R.take i).length := by rw [← Z.len]; exact hj
      have := Z.rows j l _ (by rw [List.getElem?_eq_getElem hj, ej]) (List.getElem?_eq_getElem hj2)
      rw [nl] at this
      cases this
    have li : as.length = i := by rw [Z.len, List.length_take]; omega
    refine ⟨as.map V.ref, by rw [upd_ne (Ne.symm lD)]; exact Z.hD, sz' (by rw [List.length_map]; omega), as ++ [l], ?_⟩
    have et : R.take (i + 1) = R.take i ++ [r] := by rw [List.take_succ, hr]; rfl
    rw [et]
    refine ⟨by rw [List.length_append, List.length_append, Z.len]; rfl, List.nodup_append.mpr ⟨Z.nd, List.nodup_cons.mpr ⟨List.not_mem_nil, .nil⟩, fun x hx y hy e => la (by rw [← List.mem_singleton.mp hy, ← e]; exact hx)⟩, fun e => ?_, fun b hb => ?_, nD, by rw [upd_same, List.map_append]; rfl, fun j b q e3 e4 => ?_, fun b o e => ?_⟩
    · rcases List.mem_append.mp e with e | e
      · exact Z.nD e
      · exact lD (List.mem_singleton.mp e).symm
    · rcases List.mem_append.mp hb with hb | hb
      · exact Z.fr b hb
      · rw [List.mem_singleton.mp hb]; exact l0
    · by_cases hj : j < as.length
      · rw [List.getElem?_append_left hj] at e3
        rw [List.getElem?_append_left (by rw [← Z.len]; exact hj)] at e4
        have mb := List.mem_of_getElem? e3
        have n1 : b ≠ D := fun e => Z.nD (by rw [← e]; exact mb)
        have n2 : b ≠ l := fun e => la (by rw [← e]; exact mb)
        rw [upd_ne n1, upd_ne n2]
        exact Z.rows j b q e3 e4
      · rw [List.getElem?_append_right (by omega)] at e3
        rw [List.getElem?_append_right (by rw [← Z.len]; omega), ← Z.len] at e4
        cases hz : j - as.length with
        | zero =>
          rw [hz] at e3 e4
          cases e3
          cases e4
          rw [upd_ne lD, upd_same]
        | succ z =>
          rw [hz] at e3
          cases e3
    · have n1 := nDa e
      have n2 : b ≠ l := ne_of_none e l0
      rw [upd_ne n1, upd_ne n2]
      exact Z.kp b o e
  · have ei : i = R.length := by omega
    subst ei
    rw [List.take_length] at Z
    exact .inl ⟨⟨vs, hTi, by omega⟩, hq D as H' Z⟩
end JR
set_option pp.maxSteps 2500
set_option Elab.async false
set_option linter.all false
set_option maxRecDepth 100000
set_option maxHeartbeats 2000000
namespace JR
open PySem PySem.Spec L2 RZ
local macro_rules
  | `(tactic| walk_at "s") => `(tactic| first
    | ((with_reducible apply ev_var); exact rfl) | with_reducible refine ev_isiI ?_ | with_reducible refine ev_isiB ?_ | with_reducible refine ev_isiT ?_ | with_reducible refine ev_isiS ?_ | ((with_reducible refine st_append ?_ ?_); rotate_left; exact ⟨_, rfl⟩) | ((with_reducible apply st_pop); exact rfl) | ((with_reducible apply et_ownNe); exact rfl) | ((with_reducible apply op_i); exact rfl) | ((with_reducible apply it_rgV); exact rfl) | ((with_reducible apply op_inW); exact rfl) | ((with_reducible apply op_ixT); exact rfl) | ((with_reducible apply op_ixL); exact rfl) | ((with_reducible refine And.intro (le_lit ?_) ?_); exact rfl) | ((with_reducible apply op_b); exact rfl) | ((with_reducible apply tc_name); decide) | ((with_reducible apply tc_tup); exact rfl) | ((with_reducible apply tg_tup); exact rfl) | ((with_reducible apply tg_tupD); exact rfl) | ((with_reducible apply tc_tupD); exact rfl)
    | with_reducible refine st_seq ?_ | with_reducible refine st_ret ?_ | with_reducible refine st_next ?_ | with_reducible refine st_if ?_ | with_reducible refine st_par_own2 ?_ | with_reducible refine st_par_own ?_ | with_reducible refine st_rng ?_ | with_reducible refine st_par ?_ | with_reducible refine st_own ?_ | with_reducible refine st_asg ?_ | with_reducible refine st_unpack ?_ | with_reducible refine st_drop ?_ | with_reducible refine st_break ?_ | with_reducible refine ev_int ?_ | with_reducible refine ev_str ?_ | with_reducible refine ev_bl ?_ | with_reducible refine ev_non ?_ | with_reducible refine ev_op ?_ | with_reducible refine ev_un ?_ | with_reducible refine ev_if ?_ | with_reducible refine ev_andV ?_ | with_reducible refine ev_orV ?_ | with_reducible refine ev_notV ?_ | with_reducible refine ev_tup ?_ | with_reducible refine ev_lst ?_ | with_reducible refine ea_nil ?_ | with_reducible refine ea_cons ?_ | with_reducible refine ev_call ?_ | with_reducible refine ev_callN ?_ | with_reducible refine ev_cb ?_ | with_reducible refine ev_sl ?_ | with_reducible refine eo_none ?_ | with_reducible refine eo_some ?_ | with_reducible refine ev_revL ?_ | with_reducible refine ev_revT ?_ | with_reducible refine evn_lrg ?_ | with_reducible refine ev_bmT ?_ | with_reducible refine et_test ?_ | with_reducible refine et_B ?_ | with_reducible refine et_and ?_ | with_reducible refine et_or ?_ | with_reducible refine et_not ?_ | with_reducible refine et_yes ?_ | with_reducible refine ev_chain ?_ | with_reducible refine op_eqI ?_ | with_reducible refine op_neI ?_ | with_reducible refine op_eqS ?_ | with_reducible refine op_neS ?_ | with_reducible refine op_eqB ?_ | with_reducible refine op_neB ?_ | with_reducible refine op_inIn ?_ | with_reducible refine ud_neg ?_ | with_reducible refine op_is ?_ | with_reducible refine op_isnt ?_ | with_reducible refine cb_lenL ?_ | with_reducible refine cb_lenT ?_ | with_reducible refine cb_listT ?_ | with_reducible refine cb_listL ?_ | with_reducible refine cb_tupL ?_ | with_reducible refine cb_int ?_ | with_reducible refine cb_max2 ?_ | with_reducible refine cb_min2 ?_ | with_reducible refine it_list ?_ | with_reducible refine it_tup ?_ | with_reducible refine itn_1 ?_ | with_reducible refine it_rng2 ?_ | with_reducible refine it_rev ?_ | with_reducible refine itn_rev ?_ | with_reducible refine it_enum ?_ | with_reducible refine it_enumT ?_ | with_reducible refine it_zipT ?_ | with_reducible refine tcs_cons ?_ | with_reducible refine tcs_nil ?_ | with_reducible refine tg_name ?_ | with_reducible refine tgs_cons ?_ | with_reducible refine tgs_nil ?_
    | with_reducible refine ⟨_, rfl, ?_⟩
    | with_reducible refine ⟨_, _, rfl, ?_⟩
    | refine and_T ?_ | refine and_F ?_)
  | `(tactic| walk_at "d") => `(tactic| repeat walk_at "s")
theorem store_row {K : PySem.W.Frag} {σ : St} {H0 H' : Hp} {L : Addr} {as : List Addr} {R : List (List Int)} {r c il ir ic : Nat} {g : Int → Int → V} {D : Ends} (Z : RowsAt H0 H' L as R) (hr : r < R.length) (hc : c < (R.getD r []).length)
    (e5 : σ[il]? = some (some (.ref L))) (er : σ[ir]? = some (some (.int (r : Nat)))) (ec : σ[ic]? = some (some (.int (c : Nat)))) (d : Int) (hg : g (at2 R r c) 1 = .int d) (q : ∀ H2, RowsAt H0 H2 L as (set2 R r c d) → D.nx σ H2) :
    tAsg (tOp (rI0 g) (tOp (rIxL K) (tOp (rIxL K) (tVar il) (tVar ir)) (tVar ic)) (tC (.int 1))) (gSub (tOp (rIxL K) (tVar il) (tVar ir)) (tVar ic) rSetL) D σ H' := by
  have hl : r < as.length := by rw [Z.len]; exact hr
  have ea : as[r]? = some as[r] := List.getElem?_eq_getElem hl
  have eR : R[r]? = some (R.getD r []) := by
    rw [List.getD_eq_getElem?_getD, List.getElem?_eq_getElem hr]; rfl
  have hrow := Z.rows r _ _ ea eR
  have at1 : atI (as.map V.ref) (r : Int) = some (.ref as[r]) := atI_nat (by rw [List.getElem?_map, ea]; rfl)
  have at3 : atI ((R.getD r []).map V.int) (c : Int) = some (.int (at2 R r c)) := atI_nat (by
    rw [List.getElem?_map, getD_some hc]; rfl)
  have hix : ixN ((R.getD r []).map V.int).length (c : Int) = some c := by
    unfold ixN
    rw [if_pos (by omega), if_pos (by rw [List.length_map]; omega), Int.toNat_natCast]
  refine ⟨_, e5, _, er, L, as.map V.ref, _, _, rfl, rfl, .inl (.inl Z.hD), at1, _, ec, as[r], _, _, _, rfl, rfl, .inl (.inl hrow), at3, _, _, rfl, rfl, ?_⟩
  refine ⟨_, e5, _, er, L, as.map V.ref, _, _, rfl, rfl, .inl (.inl Z.hD), at1, _, ec, as[r], _, _, c, rfl, rfl, hrow, hix, q _ ?_⟩
  rw [hg, ← List.map_set]
  exact Z.store ea _
theorem set2_rows (R : List (List Int)) (r c : Nat) (v : Int) : (set2 R r c v).length = R.length := List.length_set ..
theorem set2_row {h w : Nat} {R : List (List Int)} (k : Rect h w R) {r c : Nat} {v : Int} (hr : r < h) : Rect h w (set2 R r c v) := by
  refine ⟨by rw [set2_rows]; exact k.rows, fun q hq => ?_, k.hb, k.wb⟩
  rcases List.mem_or_eq_of_mem_set hq with hq | hq
  · exact k.cols q hq
  · rw [hq, List.length_set]
    exact (row_at k hr).2
theorem seq_asg {te : TE} {g : TG} {u : TS} {D : Ends} {σ : St} {H : Hp} (h : te σ H fun v H1 => g v σ H1 (u D)) : tSeq (tAsg te g) u D σ H := h
theorem std_run {S : SA} {t : TS} {E : DEnds} {ds : List Ent} {H0 F0 F H : Hp} {σ : St} {D : Ends} (h : StD S t E ds) (x : Ext S F0 H0 F H) (I : Ents S H0 F H σ ds) (g : Good S F0 H0 E D) : t D σ H := h H0 F0 F H σ D x I g
theorem sc_law_moved : FnScope ["_law_table_here", "_law_giver", "_law_taker", "_law_k", "_law_across", "_law_rows", "_law_row"] ["_law_table_here", "_law_giver", "_law_taker", "_law_k", "_law_across"] (defScope s_law_moved) := ⟨rfl, rfl, rfl, by decide +kernel, rfl, by decide +kernel, by decide +kernel⟩
theorem ok_law_moved {P : Program} {w : World} {K : PySem.W.Frag} {mg : Str → Option Value} {base : Heap}  (T : Tx K mg)   : Cal P w K mg base 1 "_law_moved" (spG A_lm) := by
  obtain ⟨fd, F⟩ := T.sd.def_ 51 (d := d_law_moved) rfl
  have S := sc_law_moved
  refine ⟨⟨fd, ["_law_table_here", "_law_giver", "_law_taker", "_law_k", "_law_across"], ok_pure (k := 0) F S (fnA_len fun _ => rfl) (fun cd Ar outer s H E xs W hr h => ?_), F.bindsN fun _ _ _ _ _ _ us hl => match us, hl with | [_, _, _, _, _], _ => rfl⟩, T.g 51, F.kp⟩
  obtain ⟨⟨R, g, t, k, ac⟩, e, pr, h⟩ := h
  subst e
  refine ⟨_, (pss_cons (ps_setLc (i := 5) (own := [("_law_row", 6)]) (g := (gName 6)) (tt := tYes) (te := (tCB (fun vs H Q => ∃ p ys, vs = [.ref p] ∧ (SqL K H p ys ∨ SqT K H p ys) ∧ ∀ l, H l = none → Q (.ref l) (upd H l (.lst ys))) (tCons (tVar 6) tNil))) rfl S.nd rfl rfl (sw_true rfl rfl rfl (by decide +kernel)) (pi_tup (pv 0)) (blkOk_by (N := ["_law_table_here", "_law_giver", "_law_taker", "_law_k", "_law_across", "_law_rows", "_law_row"]) (sc := (defScope s_law_moved)) (by decide +kernel)) (fun _ _ _ _ _ => (pg_name (i := 6) S.nd rfl (by first | exact Or.inl rfl | exact Or.inr rfl))) (fun _ _ _ _ _ => pts_nil) (fun _ _ _ _ _ => (pe_callTy call_list_of (by rfl) (T.n 73) (by decide +kernel) (pa_cons (pv 6) pa_nil)))) (pss_cons (ps_if (pt_val (pv 4)) (pss_cons (ps_asg (pe_op op_sub (pe_ix ix_list (pe_ix ix_list (pv 5) (pv 3) fun _ _ => rfl) (pv 1) fun _ _ => rfl) pe_int) (pg_sub (pe_ix ix_list (pv 5) (pv 3) fun _ _ => rfl) (pv 1) set_list)) (pss_one (ps_asg (pe_op op_add (pe_ix ix_list (pe_ix ix_list (pv 5) (pv 3) fun _ _ => rfl) (pv 2) fun _ _ => rfl) pe_int) (pg_sub (pe_ix ix_list (pv 5) (pv 3) fun _ _ => rfl) (pv 2) set_list)))) (pss_cons (ps_asg (pe_op op_sub (pe_ix ix_list (pe_ix ix_list (pv 5) (pv 1) fun _ _ => rfl) (pv 3) fun _ _ => rfl) pe_int) (pg_sub (pe_ix ix_list (pv 5) (pv 1) fun _ _ => rfl) (pv 3) set_list)) (pss_one (ps_asg (pe_op op_add (pe_ix ix_list (pe_ix ix_list (pv 5) (pv 2) fun _ _ => rfl) (pv 3) fun _ _ => rfl) pe_int) (pg_sub (pe_ix ix_list (pv 5) (pv 2) fun _ _ => rfl) (pv 3) set_list))))) (pss_one (ps_ret (pe_callTy call_tupZ (by rfl) (T.n 72) (by decide +kernel) (pa_cons (pe_lc (own := [("_law_row", 6)]) (g := (gName 6)) (tt := tYes) (te := (tCB (rTupOf K) (tCons (tVar 6) tNil))) rfl S.nd (pi_list (pv 5)) (blkOk_by (N := ["_law_table_here", "_law_giver", "_law_taker", "_law_k", "_law_across", "_law_rows", "_law_row"]) (sc := (defScope s_law_moved)) (by decide +kernel)) (fun _ _ _ _ _ => (pg_name (i := 6) S.nd rfl (by first | exact Or.inl rfl | exact Or.inr rfl))) (fun _ _ _ _ _ => pts_nil) (fun _ _ _ _ _ => (pe_callTy call_tupZ (by rfl) (T.n 72) (by decide +kernel) (pa_cons (pv 6) pa_nil)))) pa_nil)))))), ?_⟩
  show StD none _ _ [Ent.dat _, Ent.dat _, Ent.dat _, Ent.dat _, Ent.dat _, Ent.no, Ent.no]
  try dsimp only at h pr ⊢
  obtain ⟨hh, ww, rk, g1, g2, g3⟩ := pr
  have kr := rk.rows
  have kh := rk.hb
  have kw := rk.wb
  refine fun H0 F0 F1 H1 σ D x I gd => ?_
  obtain ⟨vg, sg1, dg⟩ := I.at_ 1 _ rfl
  obtain ⟨vt, st1, dt⟩ := I.at_ 2 _ rfl
  obtain ⟨vk, sk1, dk⟩ := I.at_ 3 _ rfl
  obtain ⟨va, sa1, da⟩ := I.at_ 4 _ rfl
  have eg := dg.int_inv
  have et := dt.int_inv
  have ek := dk.int_inv
  have ea := da.bl_inv
  subst eg et ek ea
  refine seq_asg ?_
  refine lc_rows (s := 6) I rfl (Nat.le_of_ble_eq_true rfl) (by omega) fun L as H2 Z => ?_
  have s5 : (σ.set 5 (some (.ref L)))[5]? = some (some (.ref L)) := List.getElem?_set_self (by rw [I.len]; exact Nat.le_of_ble_eq_true rfl)
  have sg5 : (σ.set 5 (some (.ref L)))[1]? = some (some (.int (g : Nat))) := by rw [List.getElem?_set_ne (by decide)]; exact slot_some sg1
  have st5 : (σ.set 5 (some (.ref L)))[2]? = some (some (.int (t : Nat))) := by rw [List.getElem?_set_ne (by decide)]; exact slot_some st1
  have sk5 : (σ.set 5 (some (.ref L)))[3]? = some (some (.int (k : Nat))) := by rw [List.getElem?_set_ne (by decide)]; exact slot_some sk1
  have sa5 : (σ.set 5 (some (.ref L)))[4]? = some (some (.bl ac)) := by rw [List.getElem?_set_ne (by decide)]; exact slot_some sa1
  -- behind the stores
  have data : ∀ (H3 : Hp) (R' : List (List Int)), RowsAt H1 H3 L as R' → ∃ F2, Ext none F1 H1 F2 H3 ∧ Ents none H0 F2 H3 (σ.set 5 (some (.ref L))) [.dat (tbl R), .dat (.int (g : Nat)), .dat (.int (t : Nat)), .dat (.int (k : Nat)), .dat (.bool ac), .dat (.list (R'.map fun r => .list (r.map PyData.int))), .no] := fun H3 R' Z => by
    have inD : ∀ b, (b = L ∨ b ∈ as) → H1 b = none := fun b hb => by
      rcases hb with hb | hb
      · rw [hb]; exact Z.frD
      · exact Z.fr b hb
    have fne : ∀ b o, F1 b = some o → ¬ (b = L ∨ b ∈ as) := fun b o e hb => by
      have := I.fh b o e
      rw [inD b hb] at this
      cases this
    have X : Ext none F1 H1 (fun b => if b = L ∨ b ∈ as then H3 b else F1 b) H3 := {
      ff := fun b o e => by
        show (if b = L ∨ b ∈ as then H3 b else F1 b) = _
        rw [if_neg (fne b o e)]; exact e
      fh := fun b o e => by
        have e : (if b = L ∨ b ∈ as then H3 b else F1 b) = some o := e
        by_cases hb : b = L ∨ b ∈ as
        · rw [if_pos hb] at e; exact e
        · rw [if_neg hb] at e
          exact Z.kp b o (I.fh b o e)
      hh := fun b o _ e => Z.kp b o e
      nw := fun b n e => by
        show (if b = L ∨ b ∈ as then H3 b else F1 b) = none
        rw [if_neg (fun hb => n (inD b hb))]; exact e }
    refine ⟨_, X, ?_⟩
    have dL : Da (fun b => if b = L ∨ b ∈ as then H3 b else F1 b) (.ref L) (.list (R'.map fun r => .list (r.map PyData.int))) := by
      refine .lst (xs := as.map V.ref) (by show (if L = L ∨ L ∈ as then H3 L else F1 L) = _; rw [if_pos (.inl rfl)]; exact Z.hD) ?_
      have go : ∀ (bs : List Addr) (Q : List (List Int)), bs.length = Q.length → (∀ b ∈ bs, b ∈ as) → (∀ (i : Nat) (b : Addr) (r : List Int), bs[i]? = some b → Q[i]? = some r → H3 b = some (.lst (r.map V.int))) → DaAll (fun b => if b = L ∨ b ∈ as then H3 b else F1 b) (bs.map V.ref) (Q.map fun r => .list (r.map PyData.int)) := fun bs => by
        induction bs with
        | nil =>
          intro Q hl _ _
          cases Q with
          | nil => exact .nil
          | cons q Q => cases hl
        | cons b bs ih =>
          intro Q hl hm hr
          cases Q with
          | nil => cases hl
          | cons q Q =>
            refine .cons (.lst (by show (if b = L ∨ b ∈ as then H3 b else F1 b) = _; rw [if_pos (.inr (hm b List.mem_cons_self))]; exact hr 0 b q rfl rfl) (DaAll.of_ints q)) (ih Q (Nat.succ.inj hl) (fun c hc => hm c (List.mem_cons_of_mem _ hc)) fun i c r e1 e2 => hr (i + 1) c r e1 e2)
      exact go as R' Z.len (fun b hb => hb) Z.rows
    exact (I.pure X).put (i := 5) dL
  have few : ∀ R' : List (List Int), Rect hh ww R' → R'.length ≤ 4 := fun R' q => by rw [q.rows]; exact kh.2
  refine ⟨_, sa5, ac, rfl, ?_⟩
  cases ac with
  | true =>
    have g1 : g < ww := g1
    have g2 : t < ww := g2
    have g3 : k < hh := g3
    have q1 := set2_row rk (c := g) (v := at2 R k g - 1) g3
    have q2 := set2_row q1 (c := t) (v := at2 (set2 R k g (at2 R k g - 1)) k t + 1) g3
    refine store_row (r := k) (c := g) Z (by omega) (by rw [(row_at rk g3).2]; exact g1) s5 sk5 sg5 _ rfl fun H3 Z3 => ?_
    refine store_row (r := k) (c := t) Z3 (by rw [q1.rows]; exact g3) (by rw [(row_at q1 g3).2]; exact g2) s5 sk5 st5 _ rfl fun H4 Z4 => ?_
    obtain ⟨F2, X, I2⟩ := data H4 _ Z4
    have f4 := few _ q2
    dsimp only
    refine std_run ?_ (x.step I X) I2 gd
    walk_at "d"
    refine ev_map (Pd := Da) ?_
    walk_at "d"
    refine ⟨(set2 (set2 R k g (at2 R k g - 1)) k t (at2 (set2 R k g (at2 R k g - 1)) k t + 1)).map iv, by rw [List.length_map]; omega, by rw [List.length_map, List.length_map], fun i d y e1 e2 => ?_, ?_⟩
    · obtain ⟨r, hr, q3⟩ := map_at e1
      obtain ⟨r', hr', q4⟩ := map_at e2
      rw [hr] at hr'
      cases hr'
      subst q3 q4
      walk_at "d"
      rfl
    · walk_at "d"
      exact h
  | false =>
    have g1 : g < hh := g1
    have g2 : t < hh := g2
    have g3 : k < ww := g3
    have q1 := set2_row rk (c := k) (v := at2 R g k - 1) g1
    have q2 := set2_row q1 (c := k) (v := at2 (set2 R g k (at2 R g k - 1)) t k + 1) g2
    refine store_row (r := g) (c := k) Z (by omega) (by rw [(row_at rk g1).2]; exact g3) s5 sg5 sk5 _ rfl fun H3 Z3 => ?_
    refine store_row (r := t) (c := k) Z3 (by rw [q1.rows]; exact g2) (by rw [(row_at q1 g2).2]; exact g3) s5 st5 sk5 _ rfl fun H4 Z4 => ?_
    obtain ⟨F2, X, I2⟩ := data H4 _ Z4
    have f4 := few _ q2
    dsimp only
    refine std_run ?_ (x.step I X) I2 gd
    walk_at "d"
    refine ev_map (Pd := Da) ?_
    walk_at "d"
    refine ⟨(set2 (set2 R g k (at2 R g k - 1)) t k (at2 (set2 R g k (at2 R g k - 1)) t k + 1)).map iv, by rw [List.length_map]; omega, by rw [List.length_map, List.length_map], fun i d y e1 e2 => ?_, ?_⟩
    · obtain ⟨r, hr, q3⟩ := map_at e1
      obtain ⟨r', hr', q4⟩ := map_at e2
      rw [hr] at hr'
      cases hr'
      subst q3 q4
      walk_at "d"
      rfl
    · walk_at "d"
      exact h
end JR
set_option pp.maxSteps 2500
set_option Elab.async false
set_option linter.all false
set_option maxRecDepth 100000
set_option maxHeartbeats 2000000
namespace JR
open PySem PySem.Spec L2 RZ
local macro_rules
  | `(tactic| walk_at "s") => `(tactic| first
    | ((with_reducible apply ev_var); exact rfl) | with_reducible refine ev_isiI ?_ | with_reducible refine ev_isiB ?_ | with_reducible refine ev_isiT ?_ | with_reducible refine ev_isiS ?_ | ((with_reducible refine st_append ?_ ?_); rotate_left; exact ⟨_, rfl⟩) | ((with_reducible apply st_pop); exact rfl) | ((with_reducible apply et_ownNe); exact rfl) | ((with_reducible apply op_i); exact rfl) | ((with_reducible apply it_rgV); exact rfl) | ((with_reducible apply op_inW); exact rfl) | ((with_reducible apply op_ixT); exact rfl) | ((with_reducible apply op_ixL); exact rfl) | ((with_reducible refine And.intro (le_lit ?_) ?_); exact rfl) | ((with_reducible apply op_b); exact rfl) | ((with_reducible apply tc_name); decide) | ((with_reducible apply tc_tup); exact rfl) | ((with_reducible apply tg_tup); exact rfl) | ((with_reducible apply tg_tupD); exact rfl) | ((with_reducible apply tc_tupD); exact rfl)
    | with_reducible refine st_seq ?_ | with_reducible refine st_ret ?_ | with_reducible refine st_next ?_ | with_reducible refine st_if ?_ | with_reducible refine st_par_own2 ?_ | with_reducible refine st_par_own ?_ | with_reducible refine st_rng ?_ | with_reducible refine st_par ?_ | with_reducible refine st_own ?_ | with_reducible refine st_asg ?_ | with_reducible refine st_unpack ?_ | with_reducible refine st_drop ?_ | with_reducible refine st_break ?_ | with_reducible refine ev_int ?_ | with_reducible refine ev_str ?_ | with_reducible refine ev_bl ?_ | with_reducible refine ev_non ?_ | with_reducible refine ev_op ?_ | with_reducible refine ev_un ?_ | with_reducible refine ev_if ?_ | with_reducible refine ev_andV ?_ | with_reducible refine ev_orV ?_ | with_reducible refine ev_notV ?_ | with_reducible refine ev_tup ?_ | with_reducible refine ev_lst ?_ | with_reducible refine ea_nil ?_ | with_reducible refine ea_cons ?_ | with_reducible refine ev_call ?_ | with_reducible refine ev_callN ?_ | with_reducible refine ev_cb ?_ | with_reducible refine ev_sl ?_ | with_reducible refine eo_none ?_ | with_reducible refine eo_some ?_ | with_reducible refine ev_revL ?_ | with_reducible refine ev_revT ?_ | with_reducible refine evn_lrg ?_ | with_reducible refine ev_bmT ?_ | with_reducible refine et_test ?_ | with_reducible refine et_B ?_ | with_reducible refine et_and ?_ | with_reducible refine et_or ?_ | with_reducible refine et_not ?_ | with_reducible refine et_yes ?_ | with_reducible refine ev_chain ?_ | with_reducible refine op_eqI ?_ | with_reducible refine op_neI ?_ | with_reducible refine op_eqS ?_ | with_reducible refine op_neS ?_ | with_reducible refine op_eqB ?_ | with_reducible refine op_neB ?_ | with_reducible refine op_inIn ?_ | with_reducible refine ud_neg ?_ | with_reducible refine op_is ?_ | with_reducible refine op_isnt ?_ | with_reducible refine cb_lenL ?_ | with_reducible refine cb_lenT ?_ | with_reducible refine cb_listT ?_ | with_reducible refine cb_listL ?_ | with_reducible refine cb_tupL ?_ | with_reducible refine cb_int ?_ | with_reducible refine cb_max2 ?_ | with_reducible refine cb_min2 ?_ | with_reducible refine it_list ?_ | with_reducible refine it_tup ?_ | with_reducible refine itn_1 ?_ | with_reducible refine it_rng2 ?_ | with_reducible refine it_rev ?_ | with_reducible refine itn_rev ?_ | with_reducible refine it_enum ?_ | with_reducible refine it_enumT ?_ | with_reducible refine it_zipT ?_ | with_reducible refine tcs_cons ?_ | with_reducible refine tcs_nil ?_ | with_reducible refine tg_name ?_ | with_reducible refine tgs_cons ?_ | with_reducible refine tgs_nil ?_
    | with_reducible refine ⟨_, rfl, ?_⟩
    | with_reducible refine ⟨_, _, rfl, ?_⟩
    | refine and_T ?_ | refine and_F ?_)
  | `(tactic| walk_at "d") => `(tactic| repeat walk_at "s")
def A_ntX : AX := fnX (fun p : Option (List (List Int)) × Bool => [optT p.1, .bool p.2]) (fun p => Side p.2 p.1) fun p W V => match p.1 with
  | some (r :: R) => W (tbl (r :: R))
  | _ => V "BadTable" [("value", .none)]
theorem use_not_side {d : PyData} {W : PyData → Prop} (h : d = .none ∨ d = .tuple []) (q : W (.bool false)) : A_is_side [d] W := by
  rcases h with e | e
  · exact ⟨d, rfl, .inl e, by rw [e]; exact q⟩
  · exact ⟨d, rfl, .inr ⟨[], e⟩, by rw [e]; exact q⟩
theorem ok_ntX {P : Program} {w : World} {K : PySem.W.Frag} {mg : Str → Option Value} {base : Heap}  (T : Tx K mg) (c_is_side : Cal P w K mg base 1 "is_side" (spG A_is_side)) (c_is_table_row : Cal P w K mg base 2 "is_table_row" (spG A_is_table_row))  : CalK P w K mg base 3 "need_table" 1 ["sign"] (spX (clK K) A_ntX) := by
  obtain ⟨fd, F⟩ := T.sd.def_ 26 (d := d_need_table) rfl
  have S := sc_need_table
  have hB : KBn K fd ["table", "sign"] 1 ["sign"] (fun us ws => us ++ ws) (fun vs zs => vs ++ zs) := by
    obtain ⟨oc, od, dV, kV, doc, pm, an, cdv, ct, osl, rfl, lk, hcd, hD, hK⟩ := F.ex
    rcases hD with ⟨-, rfl⟩ | ⟨z, -⟩
    · exact ⟨fun s us ws _ l1 l2 => .of_eq (match us, ws, l1, l2 with | [_], [_], _, _ => rfl), fun r1 r2 => r1.append r2⟩
    · exact absurd rfl z
  refine ⟨⟨fd, ["table", "sign"], ok_exc (k := 2) (clK K) F S (fnX_len fun _ => rfl) (fun cd Ar outer s H E xs W V hr h tk po => ?_), hB⟩, T.g 26, F.kp⟩
  obtain ⟨⟨o, sg⟩, e, pr, h⟩ := h
  subst e
  refine ⟨_, (pss_cons (ps_if (pt_not (pt_val (pe_cl c_is_side hr (by omega) (by rfl) (pa_cons (pv 0) pa_nil)))) (pss_one (ps_rz (ci_BadTable T) T.ers.bad rfl tk hr (by omega) (by rfl) (T.g 64) (pa_cons pe_non pa_nil))) pss_nil) (pss_cons (ps_set (i := 2) S.nd rfl (by first | exact Or.inl rfl | exact Or.inr rfl) (pe_ifExp (pt_val (pe_callB call_isi (by rfl) (T.n 71) (by decide +kernel) (pa_cons (pe_ix ix_tup (pv 0) pe_int fun _ _ => rfl) (pa_cons (pe_bltn (v := .ty "tuple") (by rfl) (T.n 72) (by decide +kernel) rfl) pa_nil)))) (pe_callB call_len_seq (by rfl) (T.n 69) (by decide +kernel) (pa_cons (pe_ix ix_tup (pv 0) pe_int fun _ _ => rfl) pa_nil)) pe_int)) (pss_cons (ps_for po rfl (pi_enumT (by rfl) (T.n 82) (pa_cons (pv 0) pa_nil)) (pg_tup (by rfl) (pgs_cons (pg_name (i := 3) S.nd rfl (by first | exact Or.inl rfl | exact Or.inr rfl)) (pgs_cons (pg_name (i := 4) S.nd rfl (by first | exact Or.inl rfl | exact Or.inr rfl)) pgs_nil))) (pss_one (ps_if (pt_not (pt_val (pe_cl c_is_table_row hr (by omega) (by rfl) (pa_cons (pv 4) (pa_cons (pv 2) (pa_cons (pv 1) pa_nil)))))) (pss_one (ps_rz (ci_BadTable T) T.ers.bad rfl tk hr (by omega) (by rfl) (T.g 64) (pa_cons (pv 3) pa_nil))) pss_nil))) (pss_cons (ps_if (pt_cmpR op_gt (pe_callB (cr_sum rfl) (by rfl) (T.n 79) (by decide +kernel) (pa_cons (pe_lc (own := [("row", 4)]) (g := (gName 4)) (tt := tYes) (te := (tCB (rSumT K) (tCons (tVar 4) tNil))) rfl S.nd (pi_tup (pv 0)) (blkOk_by (N := ["table", "sign", "width", "place", "row"]) (sc := (defScope s_need_table)) (by decide +kernel)) (fun _ _ _ _ _ => (pg_name (i := 4) S.nd rfl (by first | exact Or.inl rfl | exact Or.inr rfl))) (fun _ _ _ _ _ => pts_nil) (fun _ _ _ _ _ => (pe_callB (cr_sumT rfl) (by rfl) (T.n 79) (by decide +kernel) (pa_cons (pv 4) pa_nil)))) pa_nil)) (T.pi 94 (by rfl)) (nomark _)) (pss_one ps_never) pss_nil) (pss_one (ps_ret (pv 0))))))), ?_⟩
  show StD none _ _ [Ent.dat _, Ent.dat _, Ent.no, Ent.no, Ent.no]
  try dsimp only at h pr ⊢
  have noV : ∀ d : PyData, (d = .none ∨ d = .tuple []) → True := fun _ _ => trivial
  rcases pr with e | e | ⟨R, hh, ww, e, k⟩
  · subst e
    have h : V "BadTable" [("value", .none)] := h
    walk_at "d"
    refine use_not_side (.inl rfl) ?_
    walk_at "d"
    refine st_rz1 (f := "value") T.ers.bad.oex ?_ ?_
    · rfl
    walk_at "d"
    exact h
  · subst e
    have h : V "BadTable" [("value", .none)] := h
    walk_at "d"
    refine use_not_side (.inr rfl) ?_
    walk_at "d"
    refine st_rz1 (f := "value") T.ers.bad.oex ?_ ?_
    · rfl
    walk_at "d"
    exact h
  · subst e
    obtain ⟨r0, R0, eR, _⟩ := k.toRect.head
    have h : W (tbl R) := by
      have h := h
      rw [eR] at h ⊢
      exact h
    have h1 := k.rows
    have h2 := k.hb
    have h3 := k.wb
    have h4 := k.toRect.width
    show StD none _ _ [Ent.dat (tbl R), Ent.dat (.bool sg), Ent.no, Ent.no, Ent.no]
    walk_at "d"
    refine use_is_side (xs := R.map iv) (by rw [List.length_map]; omega) ?_
    walk_at "d"
    refine op_ixT (head_at k.toRect) ?_
    walk_at "d"
    refine op_ixT (head_at k.toRect) ?_
    walk_at "d"
    have el : (List.map PyData.int (R.headD [])).length = ww := by rw [List.length_map]; exact h4
    rw [el]
    refine st_for (Pd := DaP) ?_
    walk_at "d"
    refine ⟨fun i ds => ∃ e e', ds = [Ent.dat (tbl R), Ent.dat (PyData.bool sg), Ent.dat (PyData.int ww), e, e'], ⟨_, _, rfl⟩, fun i d ds2 e1 iv2 => ?_, fun ds2 iv2 => ?_⟩
    · obtain ⟨e, e', rfl⟩ := iv2
      obtain ⟨p, hp, rfl⟩ := map_at e1
      obtain ⟨_, hp2⟩ := zip_at hp
      obtain ⟨r, hr, er⟩ := map_at hp2
      rw [er]
      obtain ⟨g1, g2, g3⟩ := k.row (List.mem_of_getElem? hr)
      walk_at "d"
      refine use_is_table_row g1 g2 g3 ?_
      walk_at "d"
      exact ⟨_, _, rfl⟩
    · obtain ⟨e, e', rfl⟩ := iv2
      walk_at "d"
      refine ev_map (Pd := Da) ?_
      walk_at "d"
      refine ⟨(R.map List.sum).map PyData.int, by rw [List.length_map]; omega, by rw [List.length_map, List.length_map, List.length_map], fun i d y e1 e2 => ?_, ?_⟩
      · obtain ⟨r, hr, q1⟩ := map_at e1
        obtain ⟨r', hr', q2⟩ := mmap_at e2
        rw [hr] at hr'
        cases hr'
        subst q1 q2
        walk_at "d"
        exact cb_sumT rfl
      · walk_at "d"
        refine cb_sumL ?_
        walk_at "d"
        refine brF (decide_eq_false (by have := k.tot; omega)) ?_
        walk_at "d"
        exact h
end JR
set_option pp.maxSteps 2500
set_option Elab.async false
set_option linter.all false
set_option maxRecDepth 100000
set_option maxHeartbeats 2000000
namespace JR
open PySem PySem.Spec L2 RZ
local macro_rules
  | `(tactic| walk_at "s") => `(tactic| first
    | ((with_reducible apply ev_var); exact rfl) | with_reducible refine ev_isiI ?_ | with_reducible refine ev_isiB ?_ | with_reducible refine ev_isiT ?_ | with_reducible refine ev_isiS ?_ | ((with_reducible refine st_append ?_ ?_); rotate_left; exact ⟨_, rfl⟩) | ((with_reducible apply st_pop); exact rfl) | ((with_reducible apply et_ownNe); exact rfl) | ((with_reducible apply op_i); exact rfl) | ((with_reducible apply it_rgV); exact rfl) | ((with_reducible apply op_inW); exact rfl) | ((with_reducible apply op_ixT); exact rfl) | ((with_reducible apply op_ixL); exact rfl) | ((with_reducible refine And.intro (le_lit ?_) ?_); exact rfl) | ((with_reducible apply op_b); exact rfl) | ((with_reducible apply tc_name); decide) | ((with_reducible apply tc_tup); exact rfl) | ((with_reducible apply tg_tup); exact rfl) | ((with_reducible apply tg_tupD); exact rfl) | ((with_reducible apply tc_tupD); exact rfl)
    | with_reducible refine st_seq ?_ | with_reducible refine st_ret ?_ | with_reducible refine st_next ?_ | with_reducible refine st_if ?_ | with_reducible refine st_par_own2 ?_ | with_reducible refine st_par_own ?_ | with_reducible refine st_rng ?_ | with_reducible refine st_par ?_ | with_reducible refine st_own ?_ | with_reducible refine st_asg ?_ | with_reducible refine st_unpack ?_ | with_reducible refine st_drop ?_ | with_reducible refine st_break ?_ | with_reducible refine ev_int ?_ | with_reducible refine ev_str ?_ | with_reducible refine ev_bl ?_ | with_reducible refine ev_non ?_ | with_reducible refine ev_op ?_ | with_reducible refine ev_un ?_ | with_reducible refine ev_if ?_ | with_reducible refine ev_andV ?_ | with_reducible refine ev_orV ?_ | with_reducible refine ev_notV ?_ | with_reducible refine ev_tup ?_ | with_reducible refine ev_lst ?_ | with_reducible refine ea_nil ?_ | with_reducible refine ea_cons ?_ | with_reducible refine ev_call ?_ | with_reducible refine ev_callN ?_ | with_reducible refine ev_cb ?_ | with_reducible refine ev_sl ?_ | with_reducible refine eo_none ?_ | with_reducible refine eo_some ?_ | with_reducible refine ev_revL ?_ | with_reducible refine ev_revT ?_ | with_reducible refine evn_lrg ?_ | with_reducible refine ev_bmT ?_ | with_reducible refine et_test ?_ | with_reducible refine et_B ?_ | with_reducible refine et_and ?_ | with_reducible refine et_or ?_ | with_reducible refine et_not ?_ | with_reducible refine et_yes ?_ | with_reducible refine ev_chain ?_ | with_reducible refine op_eqI ?_ | with_reducible refine op_neI ?_ | with_reducible refine op_eqS ?_ | with_reducible refine op_neS ?_ | with_reducible refine op_eqB ?_ | with_reducible refine op_neB ?_ | with_reducible refine op_inIn ?_ | with_reducible refine ud_neg ?_ | with_reducible refine op_is ?_ | with_reducible refine op_isnt ?_ | with_reducible refine cb_lenL ?_ | with_reducible refine cb_lenT ?_ | with_reducible refine cb_listT ?_ | with_reducible refine cb_listL ?_ | with_reducible refine cb_tupL ?_ | with_reducible refine cb_int ?_ | with_reducible refine cb_max2 ?_ | with_reducible refine cb_min2 ?_ | with_reducible refine it_list ?_ | with_reducible refine it_tup ?_ | with_reducible refine itn_1 ?_ | with_reducible refine it_rng2 ?_ | with_reducible refine it_rev ?_ | with_reducible refine itn_rev ?_ | with_reducible refine it_enum ?_ | with_reducible refine it_enumT ?_ | with_reducible refine it_zipT ?_ | with_reducible refine tcs_cons ?_ | with_reducible refine tcs_nil ?_ | with_reducible refine tg_name ?_ | with_reducible refine tgs_cons ?_ | with_reducible refine tgs_nil ?_
    | with_reducible refine ⟨_, rfl, ?_⟩
    | with_reducible refine ⟨_, _, rfl, ?_⟩
    | refine and_T ?_ | refine and_F ?_)
  | `(tactic| walk_at "d") => `(tactic| repeat walk_at "s")
theorem sql_keep {K : PySem.W.Frag} {H H' : Hp} {a : Addr} {xs : List V} (h : SqL K H a xs) (e : ∀ b o, H b = some o → H' b = some o) : SqL K H' a xs := sql_mono h e
/-- [c if c >= 10 ** 18 else 0 for c in cells] -/
theorem lc_lefts {K : PySem.W.Frag} {H : Hp} {σ : St} {c : Addr} {cs : List Int} {Q : VK} (hc : SqL K H c (cs.map V.int)) (e1 : σ[1]? = some (some (.ref c))) (h2 : 2 < σ.length) (hl : cs.length ≤ 1000)
    (hq : ∀ D (ls : List Int) H', H D = none → ls.length = cs.length → H' D = some (.lst (ls.map V.int)) → (∀ b o, H b = some o → H' b = some o) → Q (.ref D) H') :
    tLc (iList K (tVar 1)) (gName 2) tYes (tIf (tTest (tOp (rI0 fun i j => .bl (decide (j ≤ i))) (tVar 2) (tOp (rI CPow fun i j => .int (i ^ j.toNat)) (tC (.int 10)) (tC (.int 18))))) (tVar 2) (tC (.int 0))) [2] σ H Q := by
  refine ⟨.ref c, e1, c, rfl, ⟨_, hc⟩, fun D nD => ?_⟩
  have nDa : ∀ {b : Addr} {o : HO}, H b = some o → b ≠ D := fun {b o} e => ne_of_none e nD
  refine ⟨fun i m H' => m = cs.length - i ∧ i ≤ cs.length ∧ ∃ ls : List Int, ls.length = i ∧ H' D = some (.lst (ls.map V.int)) ∧ ∀ b o, H b = some o → H' b = some o, ⟨_, rfl, Nat.zero_le _, [], rfl, upd_same, fun b o e => by rw [upd_ne (nDa e)]; exact e⟩, ?_⟩
  rintro i m H' ⟨rfl, hi, ls, hls, hD, kp⟩
  have hcK : SqL K H' c (cs.map V.int) := sql_keep hc kp
  by_cases hlt : i < cs.length
  · have hv : i < (cs.map V.int).length := by rw [List.length_map]; exact hlt
    refine .inr ⟨⟨_, _, hcK, List.getElem?_eq_getElem hv⟩, fun H2 => ∃ ls : List Int, ls.length = i + 1 ∧ H2 D = some (.lst (ls.map V.int)) ∧ ∀ b o, H b = some o → H2 b = some o, fun H2 ⟨ls, q1, q2, q3⟩ => ⟨cs.length - (i + 1), by omega, rfl, hlt, ls, q1, q2, q3⟩, fun x H2 y => ?_⟩
    obtain ⟨eH, q⟩ := y
    subst eH
    have ex := q _ hcK
    rw [List.getElem?_map, List.getElem?_eq_getElem hlt] at ex
    cases ex
    have l2 : 2 < (L2.wipe σ [2]).length := by rw [wipe_length]; exact h2
    have s2 : ((L2.wipe σ [2]).set 2 (some (.int cs[i])))[2]? = some (some (.int cs[i])) := List.getElem?_set_self l2
    refine ⟨wipe_wipe List.mem_cons_self (by
      apply List.ext_getElem?
      intro j
      rw [wipe_get, wipe_get]
      by_cases hj : j ∈ [2]
      · rw [if_pos hj, if_pos hj, Option.map_map]; rfl
      · rw [if_neg hj, if_neg hj]), ?_⟩
    have fin : ∀ z : Int, ∃ acc, H2 D = some (.lst acc) ∧ acc.length < sizeLine ∧ ∃ ls : List Int, ls.length = i + 1 ∧ upd H2 D (.lst (acc ++ [.int z])) D = some (.lst (ls.map V.int)) ∧ ∀ b o, H b = some o → upd H2 D (.lst (acc ++ [.int z])) b = some o := fun z =>
      ⟨_, hD, sz' (by rw [List.length_map]; omega), ls ++ [z], by rw [List.length_append, hls]; rfl, by rw [upd_same, List.map_append]; rfl, fun b o e => by rw [upd_ne (nDa e)]; exact kp b o e⟩
    refine ⟨_, s2, _, _, rfl, rfl, ⟨by decide, by decide, by decide⟩, _, _, rfl, rfl, _, rfl, ?_⟩
    by_cases hx : (10 : Int) ^ ((18 : Int).toNat) ≤ cs[i]
    · refine ifT (decide_eq_true hx) ?_
      exact ⟨_, s2, fin _⟩
    · refine ifF (decide_eq_false hx) ?_
      exact fin 0
  · have ei : i = cs.length := by omega
    subst ei
    exact .inl ⟨⟨_, hcK, by rw [List.length_map]; exact Nat.le_refl _⟩, hq D ls H' nD hls hD kp⟩
def spB (K : PySem.W.Frag) : Sp := fun vs H Q _ => ∃ (a : Addr) (ns : List Int) (F : Hp), vs = [.ref a] ∧ SqL K H a (ns.map V.int) ∧ ns.length ≤ 63 ∧ Same F H ∧ ∀ (S : SA) (F' H' : Hp) (v : V), Ext none F H F' H' → (∀ b, inS S b → F' b = none) → StAt S F' H' v 0 → Q v H'
theorem sc_law_begin : FnScope ["_law_script", "_law_cells_so", "_law_cell"] ["_law_script"] (defScope s_law_begin) := ⟨rfl, rfl, rfl, by decide +kernel, rfl, by decide +kernel, by decide +kernel⟩
theorem pairs_C {v : V} {tv : TE} {r : List (TE × TE)} {σ : St} {H : Hp} {Q : List (V × V) → Hp → Prop} (h : tv σ H fun y H2 => tPairs r σ H2 fun ps H3 => Q ((v, y) :: ps) H3) : tPairs ((tC v, tv) :: r) σ H Q := h
theorem ok_law_begin {P : Program} {w : World} {K : PySem.W.Frag} {mg : Str → Option Value} {base : Heap} (T : Tx K mg) : Cal P w K mg base 1 "_law_begin" (spB K) := by
  obtain ⟨fd, F⟩ := T.sd.def_ 45 (d := d_law_begin) rfl
  have S := sc_law_begin
  refine ⟨⟨fd, ["_law_script"], F.ok (k := 0) S (fun vs H Q E ⟨a, ns, F, ev, _⟩ => by rw [ev]; rfl) (fun cdv Ar outer s H vs Q E hr ⟨a, ns, F1, ev, hs, hl, sf, q⟩ => ?_), F.bindsN fun _ _ _ _ _ _ us hl => match us, hl with | [_], _ => rfl⟩, T.g 45, F.kp⟩
  subst ev
  refine ⟨_, PSs.nox (pss_cons (ps_set (i := 1) S.nd rfl (by first | exact Or.inl rfl | exact Or.inr rfl) (pe_ifExp (pt_cmpR (op_neD hr.units) (pv 0) (pe_lst pa_nil) (nomark _)) (pe_callTy call_list_of (by rfl) (T.n 73) (by decide +kernel) (pa_cons (pv 0) pa_nil)) (pe_lst (pa_cons pe_int pa_nil)))) (pss_one (ps_ret (pe_disp (pps_cons pe_str (pv 1) (pps_cons pe_str (pe_lc (own := [("_law_cell", 2)]) (g := (gName 2)) (tt := tYes) (te := (tIf (tTest (tOp (rI0 fun i j => .bl (decide (j ≤ i))) (tVar 2) (tOp (rI CPow fun i j => .int (i ^ j.toNat)) (tC (.int 10)) (tC (.int 18))))) (tVar 2) (tC (.int 0)))) rfl S.nd (pi_list (pv 1)) (blkOk_by (N := ["_law_script", "_law_cells_so", "_law_cell"]) (sc := (defScope s_law_begin)) (by decide +kernel)) (fun _ _ _ _ _ => (pg_name (i := 2) S.nd rfl (by first | exact Or.inl rfl | exact Or.inr rfl))) (fun _ _ _ _ _ => pts_nil) (fun _ _ _ _ _ => (pe_ifExp (pt_cmpR op_ge (pv 2) (pe_op op_pow pe_int pe_int) (nomark _)) (pv 2) pe_int))) (pps_cons pe_str pe_int pps_nil))) (by rfl) (by rfl) (fun z => by cases z) (by decide))))), ?_⟩
  refine seq_asg ?_
  have hsl : (ns.map V.int).length = ns.length := List.length_map ..
  refine ⟨_, rfl, Nat.zero_le _, fun p np => ?_⟩
  have kp1 : ∀ b o, H b = some o → upd H p (.lst []) b = some o := fun b o e => by rw [upd_ne (ne_of_none e np)]; exact e
  refine ⟨.list (ns.map PyData.int), .list [], .lst (sql_keep hs kp1) ((DaAll.of_ints (F := upd H p (.lst [])) ns).dp (Same.refl _)), .lst (.inl (.inl upd_same)) .nil, (Sm.list (k := 1) fun x hx => by
    obtain ⟨n, _, rfl⟩ := List.mem_map.mp hx
    exact Sm.int (Nat.le_refl 1)).sh (by decide), by decide, _, rfl, ?_⟩
  have rest : ∀ (c : Addr) (cs : List Int) (H2 : Hp) (D : Ends), D.rt = Q → H c = none → H2 c = some (.lst (cs.map V.int)) → (∀ b o, H b = some o → H2 b = some o) → cs ≠ [] → cs.length ≤ 100 →
      tDisp [(tC (.str "cells"), tVar 1), (tC (.str "lefts"), tLc (iList K (tVar 1)) (gName 2) tYes (tIf (tTest (tOp (rI0 fun i j => .bl (decide (j ≤ i))) (tVar 2) (tOp (rI CPow fun i j => .int (i ^ j.toNat)) (tC (.int 10)) (tC (.int 18))))) (tVar 2) (tC (.int 0))) [2]), (tC (.str "at"), tC (.int 0))] ((L2.start ["_law_script", "_law_cells_so", "_law_cell"] [V.ref a]).set 1 (some (.ref c))) H2 D.rt := fun c cs H2 D eD hc hc2 kp hne h100 => by
    rw [eD]
    intro p np
    have cp : c ≠ p := ne_of_none hc2 np
    refine pairs_C ⟨_, rfl, ?_⟩
    refine pairs_C ?_
    refine lc_lefts (H := upd H2 p (.dK [])) (σ := (L2.start ["_law_script", "_law_cells_so", "_law_cell"] [V.ref a]).set 1 (some (.ref c))) (c := c) (cs := cs) (.inl (.inl (by rw [upd_ne cp]; exact hc2))) rfl (Nat.le_of_ble_eq_true rfl) (by omega) fun L ls H4 nL hls hL k4 => ?_
    have pL : p ≠ L := fun e => by rw [← e, upd_same] at nL; cases nL
    have cL : c ≠ L := fun e => by rw [← e, upd_ne cp, hc2] at nL; cases nL
    have hp4 : H4 p = some (.dK []) := k4 _ _ upd_same
    refine ⟨hp4, stK c L 0, rfl, Nat.le_of_ble_eq_true rfl, ?_⟩
    show Q (.ref p) (upd H4 p (.dK (mergeK [] (stK c L 0))))
    have fc : F1 c = none := sf.free hc
    have kH : ∀ b o, H b = some o → b ≠ p ∧ b ≠ c ∧ b ≠ L ∧ upd H4 p (.dK (mergeK [] (stK c L 0))) b = some o := fun b o e => by
      have n1 : b ≠ p := ne_of_none (kp b o e) np
      have n2 : b ≠ c := ne_of_none e hc
      have n3 : b ≠ L := fun z => by rw [← z, upd_ne n1, kp b o e] at nL; cases nL
      exact ⟨n1, n2, n3, by rw [upd_ne n1]; exact k4 b o (by rw [upd_ne n1]; exact kp b o e)⟩
    have h4c : H4 c = some (.lst (cs.map V.int)) := k4 c _ (by rw [upd_ne cp]; exact hc2)
    refine q (some (p, L)) (upd F1 c (.lst (cs.map V.int))) _ (.ref p) ⟨fun b o e => ?_, fun b o e => ?_, fun b o _ e => (kH b o e).2.2.2, fun b n e => ?_⟩ (fun b hb => ?_) ⟨p, L, c, cs, ls, 0, rfl, rfl, pL, upd_same, ?_, upd_same, hls.symm, hne, Nat.le_refl _, h100⟩
    · rw [upd_ne (ne_of_none e fc)]; exact e
    · by_cases hb : b = c
      · rw [hb, upd_same] at e
        rw [hb, upd_ne cp, h4c]
        exact e
      · rw [upd_ne hb] at e
        exact (kH b o (sf b o e)).2.2.2
    · cases hb : H b with
      | none => exact absurd hb n
      | some o => rw [upd_ne (kH b o hb).2.1]; exact e
    · have nF : ∀ b, (b = p ∨ b = L) → F1 b = none := fun b hb => by
        cases e : F1 b with
        | none => rfl
        | some o =>
          obtain ⟨n1, n2, n3, _⟩ := kH b o (sf b o e)
          rcases hb with hb | hb
          · exact absurd hb n1
          · exact absurd hb n3
      rcases hb with hb | hb
      · rw [hb, upd_ne (Ne.symm cp)]; exact nF _ (.inl rfl)
      · rw [hb, upd_ne (Ne.symm cL)]; exact nF _ (.inr rfl)
    · rw [upd_ne (Ne.symm pL)]; exact hL
  cases ns with
  | nil =>
    refine ifF rfl ?_
    refine ⟨by decide, fun c nc => ?_⟩
    have hc : H c = none := by
      cases e : H c with
      | none => rfl
      | some o => rw [kp1 c o e] at nc; cases nc
    exact rest c [0] _ _ rfl hc upd_same (fun b o e => by rw [upd_ne (ne_of_none (kp1 b o e) nc)]; exact kp1 b o e) (by decide) (by decide)
  | cons n ns =>
    refine ifT rfl ?_
    refine ⟨_, rfl, a, _, rfl, .inl (sql_keep hs kp1), fun c nc => ?_⟩
    have hc : H c = none := by
      cases e : H c with
      | none => rfl
      | some o => rw [kp1 c o e] at nc; cases nc
    exact rest c (n :: ns) _ _ rfl hc upd_same (fun b o e => by rw [upd_ne (ne_of_none (kp1 b o e) nc)]; exact kp1 b o e) (by exact fun z => by cases z) (by omega)
end JR
set_option Elab.async false
set_option linter.all false
/-! Partial moves of two kinds that do not disturb one another: their ends, their corner, the join of two ends. Plain Lean; no program. -/
namespace JRM

def run {α : Type} (g : Nat → α → Option α) : List Nat → α → Option α
  | [], x => some x
  | i :: r, x => (g i x).bind (run g r)

theorem run_cons {α : Type} {g : Nat → α → Option α} {i : Nat} {r : List Nat} {x y : α} (h : run g (i :: r) x = some y) : ∃ u, g i x = some u ∧ run g r u = some y := by
  unfold run at h
  cases e : g i x with
  | none => rw [e] at h; cases h
  | some u => rw [e] at h; exact ⟨u, rfl, h⟩
theorem run_of {α : Type} {g : Nat → α → Option α} {i : Nat} {r : List Nat} {x u : α} {y : Option α} (h : g i x = some u) (k : run g r u = y) : run g (i :: r) x = y := by
  unfold run
  rw [h]
  exact k
theorem run_append {α : Type} {g : Nat → α → Option α} : ∀ {r q : List Nat} {x u : α} {y : Option α}, run g r x = some u → run g q u = y → run g (r ++ q) x = y
  | [], q, x, u, y, h, k => by
    have e : x = u := Option.some.inj h
    rw [e]; exact k
  | i :: r, q, x, u, y, h, k => by
    obtain ⟨v, h1, h2⟩ := run_cons h
    exact run_of h1 (run_append h2 k)
theorem run_one {α : Type} {g : Nat → α → Option α} {i : Nat} {x u : α} (h : g i x = some u) : run g [i] x = some u := run_of h rfl

/-- two moves of unlike kinds: the one neither makes nor unmakes the other -/
def Sq {α : Type} (ok : α → Prop) (n m : Nat) (g d : Nat → α → Option α) : Prop :=
  ∀ {i j : Nat} {x y : α}, i < n → j < m → ok x → d j x = some y → (∀ z, g i x = some z → ∃ v, d j z = some v ∧ g i y = some v) ∧ (g i x = none → g i y = none)
def Keeps {α : Type} (ok : α → Prop) (n : Nat) (g : Nat → α → Option α) : Prop := ∀ {i : Nat} {x y : α}, i < n → ok x → g i x = some y → ok y
def Bd (n : Nat) (l : List Nat) : Prop := ∀ i ∈ l, i < n
theorem Bd.nil {n : Nat} : Bd n [] := fun _ h => by cases h
theorem Bd.cons {n i : Nat} {l : List Nat} (h : i < n) (k : Bd n l) : Bd n (i :: l) := fun j hj => by
  rcases List.mem_cons.mp hj with e | e
  · rw [e]; exact h
  · exact k j e
theorem Bd.head {n i : Nat} {l : List Nat} (h : Bd n (i :: l)) : i < n := h i List.mem_cons_self
theorem Bd.tail {n i : Nat} {l : List Nat} (h : Bd n (i :: l)) : Bd n l := fun j hj => h j (List.mem_cons_of_mem _ hj)
theorem Bd.append {n : Nat} {l k : List Nat} (h : Bd n l) (h' : Bd n k) : Bd n (l ++ k) := fun j hj => by
  rcases List.mem_append.mp hj with e | e
  · exact h j e
  · exact h' j e
theorem Bd.reverse {n : Nat} {l : List Nat} (h : Bd n l) : Bd n l.reverse := fun j hj => h j (List.mem_reverse.mp hj)

section
variable {α : Type} {ok : α → Prop} {n m : Nat} {g d : Nat → α → Option α}
theorem run_keeps (K : Keeps ok n g) : ∀ {l : List Nat} {x y : α}, Bd n l → ok x → run g l x = some y → ok y
  | [], x, y, _, o, h => by
    have e : x = y := Option.some.inj h
    rw [← e]; exact o
  | i :: l, x, y, b, o, h => by
    obtain ⟨u, h1, h2⟩ := run_cons h
    exact run_keeps K b.tail (K b.head o h1) h2
theorem sq_one (S : Sq ok n m g d) (K : Keeps ok n g) {j : Nat} (hj : j < m) : ∀ {l : List Nat} {x y : α}, Bd n l → ok x → d j x = some y →
    (∀ z, run g l x = some z → ∃ v, d j z = some v ∧ run g l y = some v) ∧ (run g l x = none → run g l y = none)
  | [], x, y, _, o, h => ⟨fun z e => by
      have e' : x = z := Option.some.inj e
      rw [← e']
      exact ⟨y, h, rfl⟩, fun e => by cases e⟩
  | i :: l, x, y, b, o, h => by
    obtain ⟨s1, s2⟩ := S b.head hj o h
    cases e : g i x with
    | none =>
      have e2 := s2 e
      refine ⟨fun z q => ?_, fun _ => ?_⟩
      · obtain ⟨u, q1, _⟩ := run_cons q
        rw [e] at q1; cases q1
      · unfold run; rw [e2]; rfl
    | some u =>
      obtain ⟨v, v1, v2⟩ := s1 u e
      obtain ⟨r1, r2⟩ := sq_one S K hj (l := l) b.tail (K b.head o e) v1
      refine ⟨fun z q => ?_, fun q => ?_⟩
      · obtain ⟨u', q1, q2⟩ := run_cons q
        rw [e] at q1
        have eu : u = u' := Option.some.inj q1
        subst eu
        obtain ⟨w, w1, w2⟩ := r1 z q2
        exact ⟨w, w1, run_of v2 w2⟩
      · refine run_of v2 (r2 ?_)
        unfold run at q
        rw [e] at q
        exact q
theorem sq_run (S : Sq ok n m g d) (K : Keeps ok n g) (Kd : Keeps ok m d) : ∀ {js : List Nat} {l : List Nat} {x y : α}, Bd m js → Bd n l → ok x → run d js x = some y →
    (∀ z, run g l x = some z → ∃ v, run d js z = some v ∧ run g l y = some v) ∧ (run g l x = none → run g l y = none)
  | [], l, x, y, _, _, o, h => by
    have e : x = y := Option.some.inj h
    subst e
    exact ⟨fun z q => ⟨z, rfl, q⟩, fun q => q⟩
  | j :: js, l, x, y, bj, bl, o, h => by
    obtain ⟨u, h1, h2⟩ := run_cons h
    obtain ⟨s1, s2⟩ := sq_one S K bj.head bl o h1
    obtain ⟨t1, t2⟩ := sq_run S K Kd (l := l) bj.tail bl (Kd bj.head o h1) h2
    refine ⟨fun z q => ?_, fun q => t2 (s2 q)⟩
    obtain ⟨v, v1, v2⟩ := s1 z q
    obtain ⟨w, w1, w2⟩ := t1 v v2
    exact ⟨w, run_of v1 w1, w2⟩
theorem sq_back (S : Sq ok n m g d) (K : Keeps ok n g) (Kd : Keeps ok m d) {js l : List Nat} {x y v : α} (bj : Bd m js) (bl : Bd n l) (o : ok x) (h : run d js x = some y) (k : run g l y = some v) :
    ∃ z, run g l x = some z ∧ run d js z = some v := by
  obtain ⟨s1, s2⟩ := sq_run S K Kd (l := l) bj bl o h
  cases e : run g l x with
  | none => rw [s2 e] at k; cases k
  | some z =>
    obtain ⟨w, w1, w2⟩ := s1 z e
    rw [w2] at k
    have e2 : w = v := Option.some.inj k
    rw [e2] at w1
    exact ⟨z, rfl, w1⟩
end

structure Bi (α : Type) where
  ok : α → Prop
  n : Nat
  m : Nat
  e : Nat → α → Option α
  f : Nat → α → Option α
  d : Nat → α → Option α
  h : Nat → α → Option α
  mu : α → Nat
  cs : α → List Int
  rs : α → List Int
  gc : Nat → List Int → List Int
  gr : Nat → List Int → List Int
  e_ok : Keeps ok n e
  f_ok : Keeps ok n f
  d_ok : Keeps ok m d
  h_ok : Keeps ok m h
  e_mu : ∀ {i : Nat} {x y : α}, i < n → ok x → e i x = some y → mu y < mu x
  d_mu : ∀ {i : Nat} {x y : α}, i < m → ok x → d i x = some y → mu y < mu x
  ef : ∀ {i : Nat} {x y : α}, i < n → ok x → ok y → (e i x = some y ↔ f i y = some x)
  dh : ∀ {i : Nat} {x y : α}, i < m → ok x → ok y → (d i x = some y ↔ h i y = some x)
  sqe : Sq ok n m e d
  sqf : Sq ok n m f d
  cs_e : ∀ {i : Nat} {x y : α}, i < n → ok x → e i x = some y → cs y = cs x
  rs_d : ∀ {i : Nat} {x y : α}, i < m → ok x → d i x = some y → rs y = rs x
  cs_d : ∀ {i : Nat} {x y : α}, i < m → ok x → d i x = some y → cs y = gc i (cs x)
  rs_e : ∀ {i : Nat} {x y : α}, i < n → ok x → e i x = some y → rs y = gr i (rs x)
  cor_c : ∀ {x y : α}, ok x → ok y → (∀ i, i < n → e i x = none) → (∀ i, i < m → d i x = none) → (∀ i, i < n → e i y = none) → (∀ i, i < m → d i y = none) → cs x = cs y → x = y
  cor_r : ∀ {x y : α}, ok x → ok y → (∀ i, i < n → e i x = none) → (∀ i, i < m → d i x = none) → (∀ i, i < n → e i y = none) → (∀ i, i < m → d i y = none) → rs x = rs y → x = y

namespace Bi
variable {α : Type} (B : Bi α)
theorem sqd : Sq B.ok B.m B.n B.d B.e := by
  intro j i x y hj hi o h
  refine ⟨fun z q => ?_, fun q => ?_⟩
  · obtain ⟨v, v1, v2⟩ := (B.sqe hi hj o q).1 y h
    exact ⟨v, v2, v1⟩
  · cases e : B.d j y with
    | none => rfl
    | some v =>
      have oy := B.e_ok hi o h
      have hf : B.f i y = some x := (B.ef hi o oy).mp h
      obtain ⟨u, u1, _⟩ := (B.sqf hi hj oy e).1 x hf
      rw [q] at u1; cases u1
theorem sqh : Sq B.ok B.m B.n B.h B.e := by
  intro j i x y hj hi o h
  have oy := B.e_ok hi o h
  refine ⟨fun z q => ?_, fun q => ?_⟩
  · have oz := B.h_ok hj o q
    have hd : B.d j z = some x := (B.dh hj oz o).mpr q
    obtain ⟨s1, s2⟩ := B.sqe hi hj oz hd
    cases e : B.e i z with
    | none => rw [s2 e] at h; cases h
    | some v0 =>
      obtain ⟨v, v1, v2⟩ := s1 v0 e
      rw [h] at v2
      have ev : y = v := Option.some.inj v2
      subst ev
      exact ⟨v0, rfl, (B.dh hj (B.e_ok hi oz e) oy).mp v1⟩
  · cases e : B.h j y with
    | none => rfl
    | some w =>
      have ow := B.h_ok hj oy e
      have hd : B.d j w = some y := (B.dh hj ow oy).mpr e
      have hf : B.f i y = some x := (B.ef hi o oy).mp h
      obtain ⟨s1, s2⟩ := B.sqf hi hj ow hd
      cases e2 : B.f i w with
      | none => rw [s2 e2] at hf; cases hf
      | some u =>
        obtain ⟨v, v1, v2⟩ := s1 u e2
        rw [hf] at v2
        have ev : x = v := Option.some.inj v2
        subst ev
        have := (B.dh hj (B.f_ok hi ow e2) o).mp v1
        rw [q] at this; cases this
/-- the two kinds exchanged -/
def swap : Bi α where
  ok := B.ok
  n := B.m
  m := B.n
  e := B.d
  f := B.h
  d := B.e
  h := B.f
  mu := B.mu
  cs := B.rs
  rs := B.cs
  gc := B.gr
  gr := B.gc
  e_ok := B.d_ok
  f_ok := B.h_ok
  d_ok := B.e_ok
  h_ok := B.f_ok
  e_mu := B.d_mu
  d_mu := B.e_mu
  ef := B.dh
  dh := B.ef
  sqe := B.sqd
  sqf := B.sqh
  cs_e := B.rs_d
  rs_d := B.cs_e
  cs_d := B.rs_e
  rs_e := B.cs_d
  cor_c := fun ox oy a b c d' q => B.cor_r ox oy b a d' c q
  cor_r := fun ox oy a b c d' q => B.cor_c ox oy b a d' c q

def EF (x : α) : Prop := ∀ i, i < B.n → B.e i x = none
def DF (x : α) : Prop := ∀ i, i < B.m → B.d i x = none
/-- a is where moves of the first kind end from x -/
def RE (x a : α) : Prop := ∃ l, Bd B.n l ∧ run B.e l x = some a ∧ B.EF a
def RD (x a : α) : Prop := ∃ l, Bd B.m l ∧ run B.d l x = some a ∧ B.DF a

theorem back_e : ∀ {l : List Nat} {x y : α}, Bd B.n l → B.ok x → run B.e l x = some y → run B.f l.reverse y = some x
  | [], x, y, _, _, h => by
    have e : x = y := Option.some.inj h
    rw [e]; rfl
  | i :: l, x, y, b, o, h => by
    obtain ⟨u, h1, h2⟩ := run_cons h
    have ou := B.e_ok b.head o h1
    rw [List.reverse_cons]
    exact run_append (back_e b.tail ou h2) (run_one ((B.ef b.head o ou).mp h1))
theorem back_f : ∀ {l : List Nat} {x y : α}, Bd B.n l → B.ok x → run B.f l x = some y → run B.e l.reverse y = some x
  | [], x, y, _, _, h => by
    have e : x = y := Option.some.inj h
    rw [e]; rfl
  | i :: l, x, y, b, o, h => by
    obtain ⟨u, h1, h2⟩ := run_cons h
    have ou := B.f_ok b.head o h1
    rw [List.reverse_cons]
    exact run_append (back_f b.tail ou h2) (run_one ((B.ef b.head ou o).mpr h1))
theorem e_inj {l : List Nat} {x y z : α} (b : Bd B.n l) (ox : B.ok x) (oy : B.ok y) (h : run B.e l x = some z) (k : run B.e l y = some z) : x = y := by
  have h1 := B.back_e b ox h
  rw [B.back_e b oy k] at h1
  exact (Option.some.inj h1).symm
theorem ex_root : ∀ (k : Nat) (x : α), B.mu x ≤ k → B.ok x → ∃ a, B.RE x a := by
  intro k
  induction k with
  | zero =>
    intro x hk o
    refine ⟨x, [], Bd.nil, rfl, fun i hi => ?_⟩
    cases e : B.e i x with
    | none => rfl
    | some y => exact absurd (B.e_mu hi o e) (by omega)
  | succ k ih =>
    intro x hk o
    by_cases hf : B.EF x
    · exact ⟨x, [], Bd.nil, rfl, hf⟩
    · obtain ⟨i, hi⟩ := Classical.not_forall.mp hf
      have hi' : i < B.n := Classical.byContradiction fun q => hi fun z => absurd z q
      cases e : B.e i x with
      | none => exact absurd (fun _ => e) hi
      | some y =>
        have hm := B.e_mu hi' o e
        obtain ⟨a, l, b, h1, h2⟩ := ih y (by omega) (B.e_ok hi' o e)
        exact ⟨a, i :: l, Bd.cons hi' b, run_of e h1, h2⟩
theorem ex_re {x : α} (o : B.ok x) : ∃ a, B.RE x a := B.ex_root _ x (Nat.le_refl _) o
theorem ex_rd {x : α} (o : B.ok x) : ∃ a, B.RD x a := B.swap.ex_re o
theorem re_ok {x a : α} (o : B.ok x) (h : B.RE x a) : B.ok a := by
  obtain ⟨l, b, h1, _⟩ := h
  exact run_keeps B.e_ok b o h1
theorem rd_ok {x a : α} (o : B.ok x) (h : B.RD x a) : B.ok a := B.swap.re_ok o h
/-- moves of the second kind keep the end of the first kind an end -/
theorem ef_run {l : List Nat} {x y : α} (b : Bd B.m l) (o : B.ok x) (h : run B.d l x = some y) : B.EF x ↔ B.EF y := by
  have one : ∀ i, i < B.n → (B.e i x = none ↔ B.e i y = none) := fun i hi => by
    obtain ⟨s1, s2⟩ := sq_run B.sqe B.e_ok B.d_ok (l := [i]) b (Bd.cons hi Bd.nil) o h
    have k : ∀ z : α, run B.e [i] z = none ↔ B.e i z = none := fun z => by
      unfold run
      cases B.e i z with
      | none => exact ⟨fun _ => rfl, fun _ => rfl⟩
      | some w =>
        refine ⟨fun q => ?_, fun q => by cases q⟩
        cases q
    refine ⟨fun q => (k y).mp (s2 ((k x).mpr q)), fun q => ?_⟩
    cases e : B.e i x with
    | none => rfl
    | some z =>
      obtain ⟨v, _, v2⟩ := s1 z (run_one e)
      rw [(k y).mpr q] at v2; cases v2
  exact ⟨fun q i hi => (one i hi).mp (q i hi), fun q i hi => (one i hi).mpr (q i hi)⟩
theorem df_run {l : List Nat} {x y : α} (b : Bd B.n l) (o : B.ok x) (h : run B.e l x = some y) : B.DF x ↔ B.DF y := B.swap.ef_run b o h
theorem cs_run_e : ∀ {l : List Nat} {x y : α}, Bd B.n l → B.ok x → run B.e l x = some y → B.cs y = B.cs x
  | [], x, y, _, _, h => by
    have e : x = y := Option.some.inj h
    rw [e]
  | i :: l, x, y, b, o, h => by
    obtain ⟨u, h1, h2⟩ := run_cons h
    rw [cs_run_e b.tail (B.e_ok b.head o h1) h2, B.cs_e b.head o h1]
theorem cs_run_d : ∀ {l : List Nat} {x y : α}, Bd B.m l → B.ok x → run B.d l x = some y → B.cs y = l.foldl (fun c i => B.gc i c) (B.cs x)
  | [], x, y, _, _, h => by
    have e : x = y := Option.some.inj h
    rw [e]; rfl
  | i :: l, x, y, b, o, h => by
    obtain ⟨u, h1, h2⟩ := run_cons h
    rw [cs_run_d b.tail (B.d_ok b.head o h1) h2, B.cs_d b.head o h1]
    rfl
/-- the end does not hang on the order -/
theorem re_one {x a b : α} (o : B.ok x) (ha : B.RE x a) (hb : B.RE x b) : a = b := by
  have oa := B.re_ok o ha
  have ob := B.re_ok o hb
  obtain ⟨la, ba, a1, a2⟩ := ha
  obtain ⟨lb, bb, b1, b2⟩ := hb
  obtain ⟨z, js, bj, z1, z2⟩ := B.ex_rd o
  obtain ⟨ca, c1, c2⟩ := (sq_run B.sqe B.e_ok B.d_ok bj ba o z1).1 a a1
  obtain ⟨cb, d1, d2⟩ := (sq_run B.sqe B.e_ok B.d_ok bj bb o z1).1 b b1
  have oz := run_keeps B.d_ok bj o z1
  have e : ca = cb := by
    refine B.cor_c (run_keeps B.d_ok bj oa c1) (run_keeps B.d_ok bj ob d1) ((B.ef_run bj oa c1).mp a2) ((B.df_run ba oz c2).mp z2) ((B.ef_run bj ob d1).mp b2) ((B.df_run bb oz d2).mp z2) ?_
    rw [B.cs_run_d bj oa c1, B.cs_run_d bj ob d1, B.cs_run_e ba o a1, B.cs_run_e bb o b1]
  subst e
  exact B.swap.e_inj bj oa ob c1 d1
theorem rd_one {x a b : α} (o : B.ok x) (ha : B.RD x a) (hb : B.RD x b) : a = b := B.swap.re_one o ha hb

/-- moves of both kinds, in any order -/
inductive Mix : α → α → Prop where
  | nil (x : α) : Mix x x
  | e {i : Nat} {x y z : α} (hi : i < B.n) (h : B.e i x = some y) (r : Mix y z) : Mix x z
  | d {i : Nat} {x y z : α} (hi : i < B.m) (h : B.d i x = some y) (r : Mix y z) : Mix x z
/-- the corner: first the one end, then the other -/
def Co (x c : α) : Prop := ∃ a, B.RE x a ∧ B.RD a c
theorem co_one {x c c' : α} (o : B.ok x) (h : B.Co x c) (h' : B.Co x c') : c = c' := by
  obtain ⟨a, a1, a2⟩ := h
  obtain ⟨b, b1, b2⟩ := h'
  have e := B.re_one o a1 b1
  subst e
  exact B.rd_one (B.re_ok o a1) a2 b2
theorem ex_co {x : α} (o : B.ok x) : ∃ c, B.Co x c := by
  obtain ⟨a, ha⟩ := B.ex_re o
  obtain ⟨c, hc⟩ := B.ex_rd (B.re_ok o ha)
  exact ⟨c, a, ha, hc⟩
theorem co_e {i : Nat} {x y c : α} (hi : i < B.n) (o : B.ok x) (h : B.e i x = some y) (k : B.Co y c) : B.Co x c := by
  obtain ⟨a, ⟨l, b, h1, h2⟩, a2⟩ := k
  exact ⟨a, ⟨i :: l, Bd.cons hi b, run_of h h1, h2⟩, a2⟩
theorem co_d {i : Nat} {x y c : α} (hi : i < B.m) (o : B.ok x) (h : B.d i x = some y) (k : B.Co y c) : B.Co x c := by
  obtain ⟨a, ⟨l, b, h1, h2⟩, ⟨js, bj, j1, j2⟩⟩ := k
  obtain ⟨z, z1, z2⟩ := sq_back B.sqe B.e_ok B.d_ok (js := [i]) (Bd.cons hi Bd.nil) b o (run_one h) h1
  have oz := run_keeps B.e_ok b o z1
  refine ⟨z, ⟨l, b, z1, (B.ef_run (Bd.cons hi Bd.nil) oz z2).mpr h2⟩, [i] ++ js, Bd.append (Bd.cons hi Bd.nil) bj, run_append z2 j1, j2⟩
theorem mix_co {x y : α} (h : B.Mix x y) : B.ok x → ∀ {c : α}, B.Co y c → B.Co x c := by
  induction h with
  | nil x => exact fun _ _ k => k
  | e hi h r ih => exact fun o _ k => B.co_e hi o h (ih (B.e_ok hi o h) k)
  | d hi h r ih => exact fun o _ k => B.co_d hi o h (ih (B.d_ok hi o h) k)
theorem mix_ok {x y : α} (h : B.Mix x y) : B.ok x → B.ok y := by
  induction h with
  | nil x => exact fun o => o
  | e hi h r ih => exact fun o => ih (B.e_ok hi o h)
  | d hi h r ih => exact fun o => ih (B.d_ok hi o h)
theorem co_self {c : α} (h : B.EF c) (h' : B.DF c) : B.Co c c := ⟨c, ⟨[], Bd.nil, rfl, h⟩, [], Bd.nil, rfl, h'⟩
/-- where moves of both kinds end is the corner -/
theorem mix_end {x c : α} (o : B.ok x) (h : B.Mix x c) (h1 : B.EF c) (h2 : B.DF c) : B.Co x c := B.mix_co h o (B.co_self h1 h2)
theorem co_of_ef {x c : α} (h : B.EF x) (k : B.RD x c) : B.Co x c := ⟨x, ⟨[], Bd.nil, rfl, h⟩, k⟩
theorem co_of_df {x c : α} (o : B.ok x) (h : B.DF x) (k : B.RE x c) : B.Co x c := by
  obtain ⟨l, b, h1, h2⟩ := k
  exact ⟨c, ⟨l, b, h1, h2⟩, [], Bd.nil, rfl, (B.df_run b o h1).mp h⟩

/-- THE JOIN: ends a (of the first kind), b (of the second) with one corner c; back from b's way -/
theorem join {a b c : α} {l : List Nat} (oa : B.ok a) (ob : B.ok b) (ha : B.EF a) (hb : B.DF b) (bl : Bd B.n l) (hl : run B.e l b = some c) (hc : B.EF c) (hac : B.RD a c) :
    ∃ t, run B.f l.reverse a = some t ∧ B.ok t ∧ B.RE t a ∧ B.RD t b := by
  obtain ⟨js, bj, j1, j2⟩ := hac
  have hf := B.back_e bl ob hl
  obtain ⟨t, t1, t2⟩ := sq_back B.sqf B.f_ok B.d_ok bj bl.reverse oa j1 hf
  have ot := run_keeps B.f_ok bl.reverse oa t1
  have he := B.back_f bl.reverse oa t1
  rw [List.reverse_reverse] at he
  exact ⟨t, t1, ot, ⟨l, bl, he, ha⟩, js, bj, t2, hb⟩
/-- the two ends of t lead back to t -/
theorem join_back {t a b c : α} {l : List Nat} (ot : B.ok t) (ha : B.RE t a) (hb : B.RD t b) (bl : Bd B.n l) (hl : run B.e l b = some c) (hc : B.EF c) :
    B.RD a c ∧ run B.f l.reverse a = some t := by
  obtain ⟨js, bj, j1, j2⟩ := hb
  obtain ⟨z, z1, z2⟩ := sq_back B.sqe B.e_ok B.d_ok bj bl ot j1 hl
  have oz := run_keeps B.e_ok bl ot z1
  have hz : B.RE t z := ⟨l, bl, z1, (B.ef_run bj oz z2).mpr hc⟩
  have e := B.re_one ot hz ha
  subst e
  exact ⟨⟨js, bj, z2, (B.df_run bl (run_keeps B.d_ok bj ot j1) hl).mp j2⟩, B.back_e bl ot z1⟩
end Bi
end JRM
set_option pp.maxSteps 2500
set_option Elab.async false
set_option linter.all false
set_option maxRecDepth 100000
set_option maxHeartbeats 2000000
namespace JR
open PySem PySem.Spec L2 RZ
local macro_rules
  | `(tactic| walk_at "s") => `(tactic| first
    | ((with_reducible apply ev_var); exact rfl) | with_reducible refine ev_isiI ?_ | with_reducible refine ev_isiB ?_ | with_reducible refine ev_isiT ?_ | with_reducible refine ev_isiS ?_ | ((with_reducible refine st_append ?_ ?_); rotate_left; exact ⟨_, rfl⟩) | ((with_reducible apply st_pop); exact rfl) | ((with_reducible apply et_ownNe); exact rfl) | ((with_reducible apply op_i); exact rfl) | ((with_reducible apply it_rgV); exact rfl) | ((with_reducible apply op_inW); exact rfl) | ((with_reducible apply op_ixT); exact rfl) | ((with_reducible apply op_ixL); exact rfl) | ((with_reducible refine And.intro (le_lit ?_) ?_); exact rfl) | ((with_reducible apply op_b); exact rfl) | ((with_reducible apply tc_name); decide) | ((with_reducible apply tc_tup); exact rfl) | ((with_reducible apply tg_tup); exact rfl) | ((with_reducible apply tg_tupD); exact rfl) | ((with_reducible apply tc_tupD); exact rfl)
    | with_reducible refine st_seq ?_ | with_reducible refine st_ret ?_ | with_reducible refine st_next ?_ | with_reducible refine st_if ?_ | with_reducible refine st_par_own2 ?_ | with_reducible refine st_par_own ?_ | with_reducible refine st_rng ?_ | with_reducible refine st_par ?_ | with_reducible refine st_own ?_ | with_reducible refine st_asg ?_ | with_reducible refine st_unpack ?_ | with_reducible refine st_drop ?_ | with_reducible refine st_break ?_ | with_reducible refine ev_int ?_ | with_reducible refine ev_str ?_ | with_reducible refine ev_bl ?_ | with_reducible refine ev_non ?_ | with_reducible refine ev_op ?_ | with_reducible refine ev_un ?_ | with_reducible refine ev_if ?_ | with_reducible refine ev_andV ?_ | with_reducible refine ev_orV ?_ | with_reducible refine ev_notV ?_ | with_reducible refine ev_tup ?_ | with_reducible refine ev_lst ?_ | with_reducible refine ea_nil ?_ | with_reducible refine ea_cons ?_ | with_reducible refine ev_call ?_ | with_reducible refine ev_callN ?_ | with_reducible refine ev_cb ?_ | with_reducible refine ev_sl ?_ | with_reducible refine eo_none ?_ | with_reducible refine eo_some ?_ | with_reducible refine ev_revL ?_ | with_reducible refine ev_revT ?_ | with_reducible refine evn_lrg ?_ | with_reducible refine ev_bmT ?_ | with_reducible refine et_test ?_ | with_reducible refine et_B ?_ | with_reducible refine et_and ?_ | with_reducible refine et_or ?_ | with_reducible refine et_not ?_ | with_reducible refine et_yes ?_ | with_reducible refine ev_chain ?_ | with_reducible refine op_eqI ?_ | with_reducible refine op_neI ?_ | with_reducible refine op_eqS ?_ | with_reducible refine op_neS ?_ | with_reducible refine op_eqB ?_ | with_reducible refine op_neB ?_ | with_reducible refine op_inIn ?_ | with_reducible refine ud_neg ?_ | with_reducible refine op_is ?_ | with_reducible refine op_isnt ?_ | with_reducible refine cb_lenL ?_ | with_reducible refine cb_lenT ?_ | with_reducible refine cb_listT ?_ | with_reducible refine cb_listL ?_ | with_reducible refine cb_tupL ?_ | with_reducible refine cb_int ?_ | with_reducible refine cb_max2 ?_ | with_reducible refine cb_min2 ?_ | with_reducible refine it_list ?_ | with_reducible refine it_tup ?_ | with_reducible refine itn_1 ?_ | with_reducible refine it_rng2 ?_ | with_reducible refine it_rev ?_ | with_reducible refine itn_rev ?_ | with_reducible refine it_enum ?_ | with_reducible refine it_enumT ?_ | with_reducible refine it_zipT ?_ | with_reducible refine tcs_cons ?_ | with_reducible refine tcs_nil ?_ | with_reducible refine tg_name ?_ | with_reducible refine tgs_cons ?_ | with_reducible refine tgs_nil ?_
    | with_reducible refine ⟨_, rfl, ?_⟩
    | with_reducible refine ⟨_, _, rfl, ?_⟩
    | refine and_T ?_ | refine and_F ?_)
  | `(tactic| walk_at "d") => `(tactic| repeat walk_at "s")
/-! ### what is wanted of the plain transfers -/
def limA (h w : Nat) (ac : Bool) : Nat := if ac then w else h
def muT (R : List (List Int)) : Nat := ((List.range R.length).map fun r => ((List.range (width R)).map fun c => ((r + c) * (at2 R r c).toNat)).sum).sum
structure Pl : Prop where
  mv : ∀ (sg : Bool) (h w : Nat) (R : List (List Int)) (g t : Nat), OkT sg h w R → g < h → t < h → g ≠ t → mvT sg R g t = stepA sg R g t false
  ok : ∀ (sg : Bool) (h w : Nat) (R : List (List Int)) (g t : Nat) (ac : Bool) (R' : List (List Int)), OkT sg h w R → g < limA h w ac → t < limA h w ac → g ≠ t → stepA sg R g t ac = some R' → OkT sg h w R'
  mu : ∀ (sg : Bool) (h w : Nat) (R : List (List Int)) (l : Nat) (ac : Bool) (R' : List (List Int)), OkT sg h w R → l + 1 < limA h w ac → stepA sg R (l + 1) l ac = some R' → muT R' < muT R
  le : ∀ (sg : Bool) (h w : Nat) (R : List (List Int)), OkT sg h w R → muT R ≤ 100
  crk : ∀ (sg : Bool) (h w : Nat) (R : List (List Int)), OkT sg h w R → OkT sg w h (if sg then qr R else tr R)
  crb : ∀ (sg : Bool) (h w : Nat) (R : List (List Int)), OkT sg h w R → (if sg then qb (if sg then qr R else tr R) else tr (if sg then qr R else tr R)) = R
  crs : ∀ (sg : Bool) (h w : Nat) (R : List (List Int)) (g t : Nat), OkT sg h w R → g < w → t < w → g ≠ t → stepA sg (if sg then qr R else tr R) g t false = (stepA sg R g t true).map fun T => if sg then qr T else tr T
def bkS (sg ac : Bool) (l : Nat) (R : List (List Int)) : Option (List (List Int)) := stepA sg R (l + 1) l ac
def foS (sg ac : Bool) (l : Nat) (R : List (List Int)) : Option (List (List Int)) := stepA sg R l (l + 1) ac
def A_way : AD := relA (fun p : List (List Int) × Bool => [tbl p.1, .bool p.2]) (fun p => ∃ h w, OkT p.2 h w p.1) fun p d => ∃ (lows : List Nat) (T : List (List Int)) (h w : Nat), d = .tuple [.list (natL lows), tbl T] ∧ OkT p.2 h w p.1 ∧ OkT p.2 h w T ∧ lows.length ≤ 1000 ∧ (∀ l ∈ lows, l + 1 < h) ∧ JRM.run (bkS p.2 false) lows p.1 = some T ∧ ∀ l, l + 1 < h → bkS p.2 false l T = none
theorem sc_way_up : FnScope ["table", "sign", "lows", "here", "low", "near"] ["table", "sign"] (defScope s_way_up) := ⟨rfl, rfl, rfl, by decide +kernel, rfl, by decide +kernel, by decide +kernel⟩
theorem ok_way_up {P : Program} {w : World} {K : PySem.W.Frag} {mg : Str → Option Value} {base : Heap}  (T : Tx K mg) (c_moved_tables : Cal P w K mg base 12 "moved_tables" (spG A_mt)) (pl : Pl) : Cal P w K mg base 13 "way_up" (spG A_way) := by
  obtain ⟨fd, F⟩ := T.sd.def_ 38 (d := d_way_up) rfl
  have S := sc_way_up
  refine ⟨⟨fd, ["table", "sign"], ok_pure (k := 12) F S (fnA_len fun _ => rfl) (fun cd Ar outer s H E xs W hr h => ?_), F.bindsN fun _ _ _ _ _ _ us hl => match us, hl with | [_, _], _ => rfl⟩, T.g 38, F.kp⟩
  obtain ⟨⟨R, sg⟩, e, pr, h⟩ := h
  subst e
  refine ⟨_, (pss_cons (ps_set (i := 2) S.nd rfl (by first | exact Or.inl rfl | exact Or.inr rfl) (pe_lst pa_nil)) (pss_cons (ps_set (i := 3) S.nd rfl (by first | exact Or.inl rfl | exact Or.inr rfl) (pv 0)) (pss_cons (ps_set (i := 4) S.nd rfl (by first | exact Or.inl rfl | exact Or.inr rfl) pe_int) (pss_cons (ps_while PassesOwn.never (pt_cmpR op_lt (pv 4) (pe_op op_sub (pe_callB call_len_seq (by rfl) (T.n 69) (by decide +kernel) (pa_cons (pv 0) pa_nil)) pe_int) (nomark _)) (pss_cons (ps_set (i := 5) S.nd rfl (by first | exact Or.inl rfl | exact Or.inr rfl) (pe_cl c_moved_tables hr (by omega) (by rfl) (pa_cons (pv 3) (pa_cons (pe_op op_add (pv 4) pe_int) (pa_cons (pv 4) (pa_cons (pv 1) pa_nil)))))) (pss_one (ps_if (pt_cmpR op_isN (pv 5) pe_non (nomark _)) (pss_one (ps_set (i := 4) S.nd rfl (by first | exact Or.inl rfl | exact Or.inr rfl) (pe_op op_add (pv 4) pe_int))) (pss_cons (ps_expr (pe_bm PySem.F.plainAttrs_list PySem.F.slot_list_append PySem.F.type_list_append mt_append (pv 2) (pa_cons (pv 4) pa_nil))) (pss_cons (ps_set (i := 3) S.nd rfl (by first | exact Or.inl rfl | exact Or.inr rfl) (pv 5)) (pss_one (ps_set (i := 4) S.nd rfl (by first | exact Or.inl rfl | exact Or.inr rfl) pe_int)))))))) (pss_one (ps_ret (pe_tupZ (pa_cons (pv 2) (pa_cons (pv 3) pa_nil))))))))), ?_⟩
  show StD none _ _ [Ent.dat _, Ent.dat _, Ent.no, Ent.no, Ent.no, Ent.no]
  try dsimp only at h pr ⊢
  obtain ⟨hh, ww, k⟩ := pr
  walk_at "d"
  have kr := k.rows
  have kh := k.hb
  have m0 := pl.le _ _ _ _ k
  refine st_while (fun m ds => ∃ (lows : List Nat) (T : List (List Int)) (low : Nat) (e5 : Ent), ds = [Ent.dat (tbl R), Ent.dat (.bool sg), Ent.own (natL lows), Ent.dat (tbl T), Ent.dat (.int (low : Nat)), e5] ∧ m = muT T * 8 + (hh - low) ∧ OkT sg hh ww T ∧ JRM.run (bkS sg false) lows R = some T ∧ low + 1 ≤ hh ∧
    (∀ l, l < low → bkS sg false l T = none) ∧ (∀ l ∈ lows, l + 1 < hh) ∧ lows.length + muT T ≤ muT R) (muT R * 8 + (hh - 0)) ⟨[], R, 0, _, rfl, rfl, k, rfl, by omega, fun l hl => absurd hl (Nat.not_lt_zero _), fun l hl => absurd hl List.not_mem_nil, by show 0 + _ ≤ _; omega⟩ fun m ds1 iv1 => ?_
  obtain ⟨lows, T, low, e5, rfl, rfl, kT, hrun, hlow, hnone, hlows, hlen⟩ := iv1
  walk_at "d"
  rw [List.length_map, kr]
  refine ⟨fun e => ?_, fun e => ?_⟩
  · have e := of_decide_eq_true e
    walk_at "d"
    refine use_mt (g := ((low + 1 : Nat) : Int)) (t := (low : Nat)) kT ⟨by omega, by omega, by omega⟩ ?_
    rw [pl.mv sg hh ww T (low + 1) low kT (by omega) (by omega) (by omega)]
    show DEnds.nx _ (List.set _ 5 (Ent.dat (optT (bkS sg false low T))))
    cases hb : bkS sg false low T with
    | none =>
      walk_at "d"
      refine ⟨muT T * 8 + (hh - (low + 1)), by omega, lows, T, low + 1, _, rfl, rfl, kT, hrun, by omega, fun l hl => ?_, hlows, hlen⟩
      by_cases h1 : l = low
      · rw [h1]; exact hb
      · exact hnone l (by omega)
    | some T' =>
      have k2 := pl.ok sg hh ww T (low + 1) low false T' kT (by show low + 1 < hh; omega) (by show low < hh; omega) (by omega) hb
      have m2 := pl.mu sg hh ww T low false T' kT (by show low + 1 < hh; omega) hb
      walk_at "d"
      refine ⟨by unfold natL; rw [List.length_map]; omega, ?_⟩
      walk_at "d"
      refine ⟨muT T' * 8 + (hh - 0), by omega, lows ++ [low], T', 0, _, by
        unfold natL
        rw [List.map_append]
        rfl, rfl, k2, JRM.run_append hrun (JRM.run_one hb), by omega, fun l hl => absurd hl (Nat.not_lt_zero _), fun l hl => ?_, by rw [List.length_append]; show lows.length + 1 + _ ≤ _; omega⟩
      rcases List.mem_append.mp hl with hl | hl
      · exact hlows l hl
      · rw [List.mem_singleton.mp hl]; omega
  · have e := of_decide_eq_false e
    refine st_freeze (i := 2) rfl ?_
    walk_at "d"
    exact h _ ⟨lows, T, hh, ww, rfl, k, kT, by omega, hlows, hrun, fun l hl => hnone l (by omega)⟩
end JR
set_option pp.maxSteps 2500
set_option Elab.async false
set_option linter.all false
set_option maxRecDepth 100000
set_option maxHeartbeats 2000000
namespace JR
open PySem PySem.Spec L2 RZ
local macro_rules
  | `(tactic| walk_at "s") => `(tactic| first
    | ((with_reducible apply ev_var); exact rfl) | with_reducible refine ev_isiI ?_ | with_reducible refine ev_isiB ?_ | with_reducible refine ev_isiT ?_ | with_reducible refine ev_isiS ?_ | ((with_reducible refine st_append ?_ ?_); rotate_left; exact ⟨_, rfl⟩) | ((with_reducible apply st_pop); exact rfl) | ((with_reducible apply et_ownNe); exact rfl) | ((with_reducible apply op_i); exact rfl) | ((with_reducible apply it_rgV); exact rfl) | ((with_reducible apply op_inW); exact rfl) | ((with_reducible apply op_ixT); exact rfl) | ((with_reducible apply op_ixL); exact rfl) | ((with_reducible refine And.intro (le_lit ?_) ?_); exact rfl) | ((with_reducible apply op_b); exact rfl) | ((with_reducible apply tc_name); decide) | ((with_reducible apply tc_tup); exact rfl) | ((with_reducible apply tg_tup); exact rfl) | ((with_reducible apply tg_tupD); exact rfl) | ((with_reducible apply tc_tupD); exact rfl)
    | with_reducible refine st_seq ?_ | with_reducible refine st_ret ?_ | with_reducible refine st_next ?_ | with_reducible refine st_if ?_ | with_reducible refine st_par_own2 ?_ | with_reducible refine st_par_own ?_ | with_reducible refine st_rng ?_ | with_reducible refine st_par ?_ | with_reducible refine st_own ?_ | with_reducible refine st_asg ?_ | with_reducible refine st_unpack ?_ | with_reducible refine st_drop ?_ | with_reducible refine st_break ?_ | with_reducible refine ev_int ?_ | with_reducible refine ev_str ?_ | with_reducible refine ev_bl ?_ | with_reducible refine ev_non ?_ | with_reducible refine ev_op ?_ | with_reducible refine ev_un ?_ | with_reducible refine ev_if ?_ | with_reducible refine ev_andV ?_ | with_reducible refine ev_orV ?_ | with_reducible refine ev_notV ?_ | with_reducible refine ev_tup ?_ | with_reducible refine ev_lst ?_ | with_reducible refine ea_nil ?_ | with_reducible refine ea_cons ?_ | with_reducible refine ev_call ?_ | with_reducible refine ev_callN ?_ | with_reducible refine ev_cb ?_ | with_reducible refine ev_sl ?_ | with_reducible refine eo_none ?_ | with_reducible refine eo_some ?_ | with_reducible refine ev_revL ?_ | with_reducible refine ev_revT ?_ | with_reducible refine evn_lrg ?_ | with_reducible refine ev_bmT ?_ | with_reducible refine et_test ?_ | with_reducible refine et_B ?_ | with_reducible refine et_and ?_ | with_reducible refine et_or ?_ | with_reducible refine et_not ?_ | with_reducible refine et_yes ?_ | with_reducible refine ev_chain ?_ | with_reducible refine op_eqI ?_ | with_reducible refine op_neI ?_ | with_reducible refine op_eqS ?_ | with_reducible refine op_neS ?_ | with_reducible refine op_eqB ?_ | with_reducible refine op_neB ?_ | with_reducible refine op_inIn ?_ | with_reducible refine ud_neg ?_ | with_reducible refine op_is ?_ | with_reducible refine op_isnt ?_ | with_reducible refine cb_lenL ?_ | with_reducible refine cb_lenT ?_ | with_reducible refine cb_listT ?_ | with_reducible refine cb_listL ?_ | with_reducible refine cb_tupL ?_ | with_reducible refine cb_int ?_ | with_reducible refine cb_max2 ?_ | with_reducible refine cb_min2 ?_ | with_reducible refine it_list ?_ | with_reducible refine it_tup ?_ | with_reducible refine itn_1 ?_ | with_reducible refine it_rng2 ?_ | with_reducible refine it_rev ?_ | with_reducible refine itn_rev ?_ | with_reducible refine it_enum ?_ | with_reducible refine it_enumT ?_ | with_reducible refine it_zipT ?_ | with_reducible refine tcs_cons ?_ | with_reducible refine tcs_nil ?_ | with_reducible refine tg_name ?_ | with_reducible refine tgs_cons ?_ | with_reducible refine tgs_nil ?_
    | with_reducible refine ⟨_, rfl, ?_⟩
    | with_reducible refine ⟨_, _, rfl, ?_⟩
    | refine and_T ?_ | refine and_F ?_)
  | `(tactic| walk_at "d") => `(tactic| repeat walk_at "s")
/-- where transfers back lead: no further one -/
structure UpTo (sg ac : Bool) (h w : Nat) (R : List (List Int)) (lows : List Nat) (T : List (List Int)) : Prop where
  ok0 : OkT sg h w R
  ok : OkT sg h w T
  few : lows.length ≤ 1000
  bd : ∀ l ∈ lows, l + 1 < limA h w ac
  run : JRM.run (bkS sg ac) lows R = some T
  no : ∀ l, l + 1 < limA h w ac → bkS sg ac l T = none
def A_up (ac : Bool) : AD := relA (fun p : List (List Int) × Bool => [tbl p.1, .bool p.2]) (fun p => ∃ h w, OkT p.2 h w p.1) fun p d => ∃ (lows : List Nat) (T : List (List Int)) (h w : Nat), d = tbl T ∧ UpTo p.2 ac h w p.1 lows T
theorem use_way {R : List (List Int)} {sg : Bool} {h w : Nat} {W : PyData → Prop} (k : OkT sg h w R) (q : ∀ (lows : List Nat) (T : List (List Int)), UpTo sg false h w R lows T → W (.tuple [.list (natL lows), tbl T])) : A_way [tbl R, .bool sg] W := use_rel (R, sg) rfl ⟨h, w, k⟩ fun d ⟨lows, T, h', w', e, k1, k2, l1, l2, r, n⟩ => by
  have e1 : h' = h := k1.rows.symm.trans k.rows
  have e2 : w' = w := k1.toRect.width.symm.trans k.toRect.width
  subst e1 e2 e
  exact q lows T ⟨k1, k2, l1, l2, r, n⟩
theorem use_up {R : List (List Int)} {sg ac : Bool} {h w : Nat} {W : PyData → Prop} (k : OkT sg h w R) (q : ∀ (lows : List Nat) (T : List (List Int)), UpTo sg ac h w R lows T → W (tbl T)) : A_up ac [tbl R, .bool sg] W := use_rel (R, sg) rfl ⟨h, w, k⟩ fun d ⟨lows, T, h', w', e, u⟩ => by
  have e1 : h' = h := u.ok0.rows.symm.trans k.rows
  have e2 : w' = w := u.ok0.toRect.width.symm.trans k.toRect.width
  subst e1 e2 e
  exact q lows T u
theorem up_cross (pl : Pl) {sg : Bool} {h w : Nat} : ∀ {lows : List Nat} {R T : List (List Int)}, OkT sg h w R → (∀ l ∈ lows, l + 1 < w) → JRM.run (bkS sg false) lows (if sg then qr R else tr R) = some T → ∃ T2, OkT sg h w T2 ∧ JRM.run (bkS sg true) lows R = some T2 ∧ T = if sg then qr T2 else tr T2
  | [], R, T, k, _, r => ⟨R, k, rfl, (Option.some.inj r).symm⟩
  | l :: lows, R, T, k, hb, r => by
    obtain ⟨u, r1, r2⟩ := JRM.run_cons r
    have hl := hb l List.mem_cons_self
    have c := pl.crs sg h w R (l + 1) l k hl (by omega) (by omega)
    have r1 : stepA sg (if sg then qr R else tr R) (l + 1) l false = some u := r1
    rw [c] at r1
    cases e : stepA sg R (l + 1) l true with
    | none => rw [e] at r1; cases r1
    | some R2 =>
      rw [e] at r1
      have eu : (if sg then qr R2 else tr R2) = u := Option.some.inj r1
      have k2 := pl.ok sg h w R (l + 1) l true R2 k hl (by show l < w; omega) (by omega) e
      rw [← eu] at r2
      obtain ⟨T2, q1, q2, q3⟩ := up_cross pl k2 (fun l hl => hb l (List.mem_cons_of_mem _ hl)) r2
      exact ⟨T2, q1, JRM.run_of (show bkS sg true l R = some R2 from e) q2, q3⟩
theorem sc_up_names : FnScope ["table", "sign"] ["table", "sign"] (defScope s_up_names) := ⟨rfl, rfl, rfl, by decide +kernel, rfl, by decide +kernel, by decide +kernel⟩
theorem ok_up_names {P : Program} {w : World} {K : PySem.W.Frag} {mg : Str → Option Value} {base : Heap}  (T : Tx K mg) (c_way_up : Cal P w K mg base 13 "way_up" (spG A_way))  : Cal P w K mg base 14 "up_names" (spG (A_up false)) := by
  obtain ⟨fd, F⟩ := T.sd.def_ 39 (d := d_up_names) rfl
  have S := sc_up_names
  refine ⟨⟨fd, ["table", "sign"], ok_pure (k := 13) F S (fnA_len fun _ => rfl) (fun cd Ar outer s H E xs W hr h => ?_), F.bindsN fun _ _ _ _ _ _ us hl => match us, hl with | [_, _], _ => rfl⟩, T.g 39, F.kp⟩
  obtain ⟨⟨R, sg⟩, e, pr, h⟩ := h
  subst e
  refine ⟨_, (pss_one (ps_ret (pe_ix ix_tup (pe_cl c_way_up hr (by omega) (by rfl) (pa_cons (pv 0) (pa_cons (pv 1) pa_nil))) pe_int fun _ _ => rfl))), ?_⟩
  show StD none _ _ [Ent.dat _, Ent.dat _]
  try dsimp only at h pr ⊢
  obtain ⟨hh, ww, k⟩ := pr
  walk_at "d"
  refine use_way k fun lows T u => ?_
  walk_at "d"
  exact h _ ⟨lows, T, hh, ww, rfl, u⟩
theorem sc_up_columns : FnScope ["table", "sign"] ["table", "sign"] (defScope s_up_columns) := ⟨rfl, rfl, rfl, by decide +kernel, rfl, by decide +kernel, by decide +kernel⟩
theorem ok_up_columns {P : Program} {w : World} {K : PySem.W.Frag} {mg : Str → Option Value} {base : Heap}  (T : Tx K mg) (c_way_up : Cal P w K mg base 13 "way_up" (spG A_way)) (c_crossed : Cal P w K mg base 3 "crossed" (spG (A_cross qr tr))) (c_crossed_back : Cal P w K mg base 3 "crossed_back" (spG (A_cross qb tr))) (pl : Pl) : Cal P w K mg base 14 "up_columns" (spG (A_up true)) := by
  obtain ⟨fd, F⟩ := T.sd.def_ 40 (d := d_up_columns) rfl
  have S := sc_up_columns
  refine ⟨⟨fd, ["table", "sign"], ok_pure (k := 13) F S (fnA_len fun _ => rfl) (fun cd Ar outer s H E xs W hr h => ?_), F.bindsN fun _ _ _ _ _ _ us hl => match us, hl with | [_, _], _ => rfl⟩, T.g 40, F.kp⟩
  obtain ⟨⟨R, sg⟩, e, pr, h⟩ := h
  subst e
  refine ⟨_, (pss_one (ps_ret (pe_cl c_crossed_back hr (by omega) (by rfl) (pa_cons (pe_ix ix_tup (pe_cl c_way_up hr (by omega) (by rfl) (pa_cons (pe_cl c_crossed hr (by omega) (by rfl) (pa_cons (pv 0) (pa_cons (pv 1) pa_nil))) (pa_cons (pv 1) pa_nil))) pe_int fun _ _ => rfl) (pa_cons (pv 1) pa_nil))))), ?_⟩
  show StD none _ _ [Ent.dat _, Ent.dat _]
  try dsimp only at h pr ⊢
  obtain ⟨hh, ww, k⟩ := pr
  have kc := pl.crk _ _ _ _ k
  walk_at "d"
  refine use_cross k.toRect ?_
  walk_at "d"
  refine use_way kc fun lows T u => ?_
  obtain ⟨T2, k2, r2, e2⟩ := up_cross pl k (fun l hl => u.bd l hl) u.run
  have kc2 := pl.crk _ _ _ _ k2
  have cb := pl.crb _ _ _ _ k2
  walk_at "d"
  rw [e2]
  refine use_cross kc2.toRect ?_
  rw [cb]
  refine h _ ⟨lows, T2, hh, ww, rfl, k, k2, u.few, fun l hl => u.bd l hl, r2, fun l hl => ?_⟩
  have hl : l + 1 < ww := hl
  have n := u.no l hl
  rw [e2] at n
  have n : stepA sg (if sg then qr T2 else tr T2) (l + 1) l false = none := n
  rw [pl.crs sg hh ww T2 (l + 1) l k2 hl (by omega) (by omega)] at n
  show stepA sg T2 (l + 1) l true = none
  cases e : stepA sg T2 (l + 1) l true with
  | none => rfl
  | some x => rw [e] at n; cases n
def A_root (ac : Bool) : AD := relA (fun p : List (List Int) × Bool => [tbl p.1, .bool p.2]) (fun p => ∃ h w, OkT p.2 h w p.1) fun p d => ∃ (lows : List Nat) (T : List (List Int)) (h w : Nat), d = tbl T ∧ UpTo p.2 ac h w p.1 lows T
theorem sc_names_root : FnScope ["table", "sign"] ["table", "sign"] (defScope s_names_root) := ⟨rfl, rfl, rfl, by decide +kernel, rfl, by decide +kernel, by decide +kernel⟩
theorem ok_names_root {P : Program} {w : World} {K : PySem.W.Frag} {mg : Str → Option Value} {base : Heap}  (T : Tx K mg) (c_need_table : CalK P w K mg base 3 "need_table" 1 ["sign"] (spG A_need_table)) (c_up_names : Cal P w K mg base 14 "up_names" (spG (A_up false)))  : CalK P w K mg base 15 "names_root" 1 ["sign"] (spG (A_up false)) := by
  obtain ⟨fd, F⟩ := T.sd.def_ 41 (d := d_names_root) rfl
  have S := sc_names_root
  have hB : KBn K fd ["table", "sign"] 1 ["sign"] (fun us ws => us ++ ws) (fun vs zs => vs ++ zs) := by
    obtain ⟨oc, od, dV, kV, doc, pm, an, cdv, ct, osl, rfl, lk, hcd, hD, hK⟩ := F.ex
    rcases hD with ⟨-, rfl⟩ | ⟨z, -⟩
    · exact ⟨fun s us ws _ l1 l2 => .of_eq (match us, ws, l1, l2 with | [_], [_], _, _ => rfl), fun r1 r2 => r1.append r2⟩
    · exact absurd rfl z
  refine ⟨⟨fd, ["table", "sign"], ok_pure (k := 14) F S (fnA_len fun _ => rfl) (fun cd Ar outer s H E xs W hr h => ?_), hB⟩, T.g 41, F.kp⟩
  obtain ⟨⟨R, sg⟩, e, pr, h⟩ := h
  subst e
  refine ⟨_, (pss_cons (ps_expr (pe_clK c_need_table hr (by omega) (by rfl) (pa_cons (pv 0) pa_nil) (pk_cons (pv 1) pk_nil))) (pss_one (ps_ret (pe_cl c_up_names hr (by omega) (by rfl) (pa_cons (pv 0) (pa_cons (pv 1) pa_nil)))))), ?_⟩
  show StD none _ _ [Ent.dat _, Ent.dat _]
  try dsimp only at h pr ⊢
  obtain ⟨hh, ww, k⟩ := pr
  walk_at "d"
  refine ⟨rfl, rfl, use_need_table k ?_⟩
  walk_at "d"
  refine use_up k fun lows T u => ?_
  exact h _ ⟨lows, T, hh, ww, rfl, u⟩
theorem sc_columns_root : FnScope ["table", "sign"] ["table", "sign"] (defScope s_columns_root) := ⟨rfl, rfl, rfl, by decide +kernel, rfl, by decide +kernel, by decide +kernel⟩
theorem ok_columns_root {P : Program} {w : World} {K : PySem.W.Frag} {mg : Str → Option Value} {base : Heap}  (T : Tx K mg) (c_need_table : CalK P w K mg base 3 "need_table" 1 ["sign"] (spG A_need_table)) (c_up_columns : Cal P w K mg base 14 "up_columns" (spG (A_up true)))  : CalK P w K mg base 15 "columns_root" 1 ["sign"] (spG (A_up true)) := by
  obtain ⟨fd, F⟩ := T.sd.def_ 42 (d := d_columns_root) rfl
  have S := sc_columns_root
  have hB : KBn K fd ["table", "sign"] 1 ["sign"] (fun us ws => us ++ ws) (fun vs zs => vs ++ zs) := by
    obtain ⟨oc, od, dV, kV, doc, pm, an, cdv, ct, osl, rfl, lk, hcd, hD, hK⟩ := F.ex
    rcases hD with ⟨-, rfl⟩ | ⟨z, -⟩
    · exact ⟨fun s us ws _ l1 l2 => .of_eq (match us, ws, l1, l2 with | [_], [_], _, _ => rfl), fun r1 r2 => r1.append r2⟩
    · exact absurd rfl z
  refine ⟨⟨fd, ["table", "sign"], ok_pure (k := 14) F S (fnA_len fun _ => rfl) (fun cd Ar outer s H E xs W hr h => ?_), hB⟩, T.g 42, F.kp⟩
  obtain ⟨⟨R, sg⟩, e, pr, h⟩ := h
  subst e
  refine ⟨_, (pss_cons (ps_expr (pe_clK c_need_table hr (by omega) (by rfl) (pa_cons (pv 0) pa_nil) (pk_cons (pv 1) pk_nil))) (pss_one (ps_ret (pe_cl c_up_columns hr (by omega) (by rfl) (pa_cons (pv 0) (pa_cons (pv 1) pa_nil)))))), ?_⟩
  show StD none _ _ [Ent.dat _, Ent.dat _]
  try dsimp only at h pr ⊢
  obtain ⟨hh, ww, k⟩ := pr
  walk_at "d"
  refine ⟨rfl, rfl, use_need_table k ?_⟩
  walk_at "d"
  refine use_up k fun lows T u => ?_
  exact h _ ⟨lows, T, hh, ww, rfl, u⟩
end JR
set_option pp.maxSteps 2500
set_option Elab.async false
set_option linter.all false
set_option maxRecDepth 100000
set_option maxHeartbeats 2000000
namespace JR
open PySem PySem.Spec L2 RZ
local macro_rules
  | `(tactic| walk_at "s") => `(tactic| first
    | ((with_reducible apply ev_var); exact rfl) | with_reducible refine ev_isiI ?_ | with_reducible refine ev_isiB ?_ | with_reducible refine ev_isiT ?_ | with_reducible refine ev_isiS ?_ | ((with_reducible refine st_append ?_ ?_); rotate_left; exact ⟨_, rfl⟩) | ((with_reducible apply st_pop); exact rfl) | ((with_reducible apply et_ownNe); exact rfl) | ((with_reducible apply op_i); exact rfl) | ((with_reducible apply it_rgV); exact rfl) | ((with_reducible apply op_inW); exact rfl) | ((with_reducible apply op_ixT); exact rfl) | ((with_reducible apply op_ixL); exact rfl) | ((with_reducible refine And.intro (le_lit ?_) ?_); exact rfl) | ((with_reducible apply op_b); exact rfl) | ((with_reducible apply tc_name); decide) | ((with_reducible apply tc_tup); exact rfl) | ((with_reducible apply tg_tup); exact rfl) | ((with_reducible apply tg_tupD); exact rfl) | ((with_reducible apply tc_tupD); exact rfl)
    | with_reducible refine st_seq ?_ | with_reducible refine st_ret ?_ | with_reducible refine st_next ?_ | with_reducible refine st_if ?_ | with_reducible refine st_par_own2 ?_ | with_reducible refine st_par_own ?_ | with_reducible refine st_rng ?_ | with_reducible refine st_par ?_ | with_reducible refine st_own ?_ | with_reducible refine st_asg ?_ | with_reducible refine st_unpack ?_ | with_reducible refine st_drop ?_ | with_reducible refine st_break ?_ | with_reducible refine ev_int ?_ | with_reducible refine ev_str ?_ | with_reducible refine ev_bl ?_ | with_reducible refine ev_non ?_ | with_reducible refine ev_op ?_ | with_reducible refine ev_un ?_ | with_reducible refine ev_if ?_ | with_reducible refine ev_andV ?_ | with_reducible refine ev_orV ?_ | with_reducible refine ev_notV ?_ | with_reducible refine ev_tup ?_ | with_reducible refine ev_lst ?_ | with_reducible refine ea_nil ?_ | with_reducible refine ea_cons ?_ | with_reducible refine ev_call ?_ | with_reducible refine ev_callN ?_ | with_reducible refine ev_cb ?_ | with_reducible refine ev_sl ?_ | with_reducible refine eo_none ?_ | with_reducible refine eo_some ?_ | with_reducible refine ev_revL ?_ | with_reducible refine ev_revT ?_ | with_reducible refine evn_lrg ?_ | with_reducible refine ev_bmT ?_ | with_reducible refine et_test ?_ | with_reducible refine et_B ?_ | with_reducible refine et_and ?_ | with_reducible refine et_or ?_ | with_reducible refine et_not ?_ | with_reducible refine et_yes ?_ | with_reducible refine ev_chain ?_ | with_reducible refine op_eqI ?_ | with_reducible refine op_neI ?_ | with_reducible refine op_eqS ?_ | with_reducible refine op_neS ?_ | with_reducible refine op_eqB ?_ | with_reducible refine op_neB ?_ | with_reducible refine op_inIn ?_ | with_reducible refine ud_neg ?_ | with_reducible refine op_is ?_ | with_reducible refine op_isnt ?_ | with_reducible refine cb_lenL ?_ | with_reducible refine cb_lenT ?_ | with_reducible refine cb_listT ?_ | with_reducible refine cb_listL ?_ | with_reducible refine cb_tupL ?_ | with_reducible refine cb_int ?_ | with_reducible refine cb_max2 ?_ | with_reducible refine cb_min2 ?_ | with_reducible refine it_list ?_ | with_reducible refine it_tup ?_ | with_reducible refine itn_1 ?_ | with_reducible refine it_rng2 ?_ | with_reducible refine it_rev ?_ | with_reducible refine itn_rev ?_ | with_reducible refine it_enum ?_ | with_reducible refine it_enumT ?_ | with_reducible refine it_zipT ?_ | with_reducible refine tcs_cons ?_ | with_reducible refine tcs_nil ?_ | with_reducible refine tg_name ?_ | with_reducible refine tgs_cons ?_ | with_reducible refine tgs_nil ?_
    | with_reducible refine ⟨_, rfl, ?_⟩
    | with_reducible refine ⟨_, _, rfl, ?_⟩
    | refine and_T ?_ | refine and_F ?_)
  | `(tactic| walk_at "d") => `(tactic| repeat walk_at "s")
theorem eqv_iv : ∀ r q : List Int, PyData.eqvAll (r.map PyData.int) (q.map PyData.int) = decide (r = q)
  | [], [] => by simp [PyData.eqvAll]
  | [], _ :: _ => by simp [PyData.eqvAll]
  | _ :: _, [] => by simp [PyData.eqvAll]
  | a :: r, b :: q => by
    rw [List.map_cons, List.map_cons, PyData.eqvAll, eqv_iv r q, PyData.eqv]
    by_cases h1 : a = b
    · by_cases h2 : r = q
      · simp [h1, h2]
      · simp [h1, h2]
    · simp [h1]
theorem eqv_tbls : ∀ R Q : List (List Int), PyData.eqvAll (R.map iv) (Q.map iv) = decide (R = Q)
  | [], [] => by simp [PyData.eqvAll]
  | [], _ :: _ => by simp [PyData.eqvAll]
  | _ :: _, [] => by simp [PyData.eqvAll]
  | a :: r, b :: q => by
    rw [List.map_cons, List.map_cons, PyData.eqvAll, eqv_tbls r q, PyData.eqv, eqv_iv]
    by_cases h1 : a = b
    · by_cases h2 : r = q
      · simp [h1, h2]
      · simp [h1, h2]
    · simp [h1]
theorem eqv_tbl (R Q : List (List Int)) : PyData.eqv (tbl R) (tbl Q) = decide (R = Q) := by
  rw [PyData.eqv]
  exact eqv_tbls R Q
theorem sm_tbl (R : List (List Int)) : Sm 3 (tbl R) := .tuple fun x hx => by
  obtain ⟨r, _, rfl⟩ := List.mem_map.mp hx
  exact .tuple fun y hy => by
    obtain ⟨n, _, rfl⟩ := List.mem_map.mp hy
    exact .int (Nat.le_refl 1)
theorem sh_tbl (R : List (List Int)) : SeqAt.shaped (tbl R) = true := (sm_tbl R).sh (by decide)
theorem op_eqT {K : PySem.W.Frag} {R Q : List (List Int)} {W : PyData → Prop} (w : W (.bool (decide (R = Q)))) : OpD (rEqD K) (tbl R) (tbl Q) W := op_eqd (sh_tbl R) (sh_tbl Q) (by rw [eqv_tbl]; exact w)
theorem op_neT {K : PySem.W.Frag} {R Q : List (List Int)} {W : PyData → Prop} (w : W (.bool (!decide (R = Q)))) : OpD (rNeD K) (tbl R) (tbl Q) W := op_ned (sh_tbl R) (sh_tbl Q) (by rw [eqv_tbl]; exact w)
/-- a way up that leads nowhere -/
theorem up_self {pl : Pl} {sg ac : Bool} {h w : Nat} : ∀ {lows : List Nat} {R T : List (List Int)}, OkT sg h w R → (∀ l ∈ lows, l + 1 < limA h w ac) → JRM.run (bkS sg ac) lows R = some T → muT T + lows.length ≤ muT R
  | [], R, T, _, _, r => by
    have e : R = T := Option.some.inj r
    rw [e]
    exact Nat.le_refl _
  | l :: lows, R, T, k, hb, r => by
    obtain ⟨u, r1, r2⟩ := JRM.run_cons r
    have hl := hb l List.mem_cons_self
    have m := pl.mu sg h w R l ac u k hl r1
    have ku := pl.ok sg h w R (l + 1) l ac u k hl (by omega) (by omega) r1
    have ih := up_self (pl := pl) ku (fun l hl => hb l (List.mem_cons_of_mem _ hl)) r2
    rw [List.length_cons]
    omega
theorem UpTo.nil (pl : Pl) {sg ac : Bool} {h w : Nat} {R T : List (List Int)} {lows : List Nat} (u : UpTo sg ac h w R lows T) : (T = R → ∀ l, l + 1 < limA h w ac → bkS sg ac l R = none) ∧ ((∀ l, l + 1 < limA h w ac → bkS sg ac l R = none) → T = R) := by
  constructor
  · intro e
    rw [← e]
    exact u.no
  · intro n
    have r := u.run
    cases lows with
    | nil => exact (Option.some.inj r).symm
    | cons l lows =>
      obtain ⟨v, r1, _⟩ := JRM.run_cons r
      rw [n l (u.bd l List.mem_cons_self)] at r1
      cases r1
end JR
set_option pp.maxSteps 2500
set_option Elab.async false
set_option linter.all false
set_option maxRecDepth 100000
set_option maxHeartbeats 2000000
namespace JR
open PySem PySem.Spec L2 RZ
local macro_rules
  | `(tactic| walk_at "s") => `(tactic| first
    | ((with_reducible apply ev_var); exact rfl) | with_reducible refine ev_isiI ?_ | with_reducible refine ev_isiB ?_ | with_reducible refine ev_isiT ?_ | with_reducible refine ev_isiS ?_ | ((with_reducible refine st_append ?_ ?_); rotate_left; exact ⟨_, rfl⟩) | ((with_reducible apply st_pop); exact rfl) | ((with_reducible apply et_ownNe); exact rfl) | ((with_reducible apply op_i); exact rfl) | ((with_reducible apply it_rgV); exact rfl) | ((with_reducible apply op_inW); exact rfl) | ((with_reducible apply op_ixT); exact rfl) | ((with_reducible apply op_ixL); exact rfl) | ((with_reducible refine And.intro (le_lit ?_) ?_); exact rfl) | ((with_reducible apply op_b); exact rfl) | ((with_reducible apply tc_name); decide) | ((with_reducible apply tc_tup); exact rfl) | ((with_reducible apply tg_tup); exact rfl) | ((with_reducible apply tg_tupD); exact rfl) | ((with_reducible apply tc_tupD); exact rfl)
    | with_reducible refine st_seq ?_ | with_reducible refine st_ret ?_ | with_reducible refine st_next ?_ | with_reducible refine st_if ?_ | with_reducible refine st_par_own2 ?_ | with_reducible refine st_par_own ?_ | with_reducible refine st_rng ?_ | with_reducible refine st_par ?_ | with_reducible refine st_own ?_ | with_reducible refine st_asg ?_ | with_reducible refine st_unpack ?_ | with_reducible refine st_drop ?_ | with_reducible refine st_break ?_ | with_reducible refine ev_int ?_ | with_reducible refine ev_str ?_ | with_reducible refine ev_bl ?_ | with_reducible refine ev_non ?_ | with_reducible refine ev_op ?_ | with_reducible refine ev_un ?_ | with_reducible refine ev_if ?_ | with_reducible refine ev_andV ?_ | with_reducible refine ev_orV ?_ | with_reducible refine ev_notV ?_ | with_reducible refine ev_tup ?_ | with_reducible refine ev_lst ?_ | with_reducible refine ea_nil ?_ | with_reducible refine ea_cons ?_ | with_reducible refine ev_call ?_ | with_reducible refine ev_callN ?_ | with_reducible refine ev_cb ?_ | with_reducible refine ev_sl ?_ | with_reducible refine eo_none ?_ | with_reducible refine eo_some ?_ | with_reducible refine ev_revL ?_ | with_reducible refine ev_revT ?_ | with_reducible refine evn_lrg ?_ | with_reducible refine ev_bmT ?_ | with_reducible refine et_test ?_ | with_reducible refine et_B ?_ | with_reducible refine et_and ?_ | with_reducible refine et_or ?_ | with_reducible refine et_not ?_ | with_reducible refine et_yes ?_ | with_reducible refine ev_chain ?_ | with_reducible refine op_eqI ?_ | with_reducible refine op_neI ?_ | with_reducible refine op_eqS ?_ | with_reducible refine op_neS ?_ | with_reducible refine op_eqB ?_ | with_reducible refine op_neB ?_ | with_reducible refine op_inIn ?_ | with_reducible refine ud_neg ?_ | with_reducible refine op_is ?_ | with_reducible refine op_isnt ?_ | with_reducible refine cb_lenL ?_ | with_reducible refine cb_lenT ?_ | with_reducible refine cb_listT ?_ | with_reducible refine cb_listL ?_ | with_reducible refine cb_tupL ?_ | with_reducible refine cb_int ?_ | with_reducible refine cb_max2 ?_ | with_reducible refine cb_min2 ?_ | with_reducible refine it_list ?_ | with_reducible refine it_tup ?_ | with_reducible refine itn_1 ?_ | with_reducible refine it_rng2 ?_ | with_reducible refine it_rev ?_ | with_reducible refine itn_rev ?_ | with_reducible refine it_enum ?_ | with_reducible refine it_enumT ?_ | with_reducible refine it_zipT ?_ | with_reducible refine tcs_cons ?_ | with_reducible refine tcs_nil ?_ | with_reducible refine tg_name ?_ | with_reducible refine tgs_cons ?_ | with_reducible refine tgs_nil ?_
    | with_reducible refine ⟨_, rfl, ?_⟩
    | with_reducible refine ⟨_, _, rfl, ?_⟩
    | refine and_T ?_ | refine and_F ?_)
  | `(tactic| walk_at "d") => `(tactic| repeat walk_at "s")
theorem run_split {α : Type} {g : Nat → α → Option α} : ∀ {a b : List Nat} {x y : α}, JRM.run g (a ++ b) x = some y → ∃ u, JRM.run g a x = some u ∧ JRM.run g b u = some y
  | [], b, x, y, h => ⟨x, rfl, h⟩
  | i :: a, b, x, y, h => by
    obtain ⟨u, h1, h2⟩ := JRM.run_cons (r := a ++ b) h
    obtain ⟨v, h3, h4⟩ := run_split h2
    exact ⟨v, JRM.run_of h1 h3, h4⟩
/-- no transfer back -/
def Rt (sg ac : Bool) (h w : Nat) (R : List (List Int)) : Prop := ∀ l, l + 1 < limA h w ac → bkS sg ac l R = none
structure Pj : Prop where
  jn : ∀ (sg : Bool) (h w : Nat) (A B c : List (List Int)) (lA lB : List Nat), UpTo sg true h w A lA c → UpTo sg false h w B lB c → Rt sg false h w A → Rt sg true h w B → ∃ T, JRM.run (foS sg false) lB.reverse A = some T
theorem use_ntX {o : Option (List (List Int))} {sg : Bool} {W : PyData → Prop} {V : Str → List (Str × PyData) → Prop} (h : Side sg o) (q1 : (o = none ∨ o = some []) → V "BadTable" [("value", .none)]) (q2 : ∀ R h w, o = some R → OkT sg h w R → W (tbl R)) : A_ntX [optT o, .bool sg] W V := by
  refine ⟨(o, sg), rfl, h, ?_⟩
  rcases h with e | e | ⟨R, hh, ww, e, k⟩
  · subst e; exact q1 (.inl rfl)
  · subst e; exact q1 (.inr rfl)
  · subst e
    obtain ⟨r0, R0, eR, _⟩ := k.toRect.head
    subst eR
    exact q2 _ hh ww rfl k
def jrR (sg : Bool) (oA oB : Option (List (List Int))) (W : PyData → Prop) (V : Str → List (Str × PyData) → Prop) : Prop :=
  ((oA = none ∨ oA = some [] ∨ oB = none ∨ oB = some []) → V "BadTable" [("value", .none)]) ∧
  ∀ (A B : List (List Int)) (hA wA hB wB : Nat), oA = some A → oB = some B → OkT sg hA wA A → OkT sg hB wB B →
    (¬ Rt sg false hA wA A → V "BadTable" [("value", .str "names")]) ∧ (Rt sg false hA wA A → ¬ Rt sg true hB wB B → V "BadTable" [("value", .str "columns")]) ∧
    (Rt sg false hA wA A → Rt sg true hB wB B → ∀ (lA lB : List Nat) (cA cB : List (List Int)), UpTo sg true hA wA A lA cA → UpTo sg false hB wB B lB cB →
      (cA ≠ cB → V "Unlike" [("content", iv (cA.map List.sum))]) ∧ (cA = cB → ∀ T, OkT sg hA wA T → JRM.run (foS sg false) lB.reverse A = some T → W (tbl T)))
abbrev IJr : Type := Option (List (List Int)) × Option (List (List Int)) × Bool
def A_jr : AX := fnX (fun p : IJr => [optT p.1, optT p.2.1, .bool p.2.2]) (fun p => Side p.2.2 p.1 ∧ Side p.2.2 p.2.1) fun p W V => jrR p.2.2 p.1 p.2.1 W V
theorem sc_joined_roots : FnScope ["names_side", "columns_side", "sign", "own_corner", "found", "low", "lows", "far_corner", "row"] ["names_side", "columns_side", "sign"] (defScope s_joined_roots) := ⟨rfl, rfl, rfl, by decide +kernel, rfl, by decide +kernel, by decide +kernel⟩
theorem ok_joined_roots {P : Program} {w : World} {K : PySem.W.Frag} {mg : Str → Option Value} {base : Heap}  (T : Tx K mg) (c_need_table : CalK P w K mg base 3 "need_table" 1 ["sign"] (spX (clK K) A_ntX)) (c_up_names : Cal P w K mg base 14 "up_names" (spG (A_up false))) (c_up_columns : Cal P w K mg base 14 "up_columns" (spG (A_up true))) (c_way_up : Cal P w K mg base 13 "way_up" (spG A_way)) (c_moved_tables : Cal P w K mg base 12 "moved_tables" (spG A_mt)) (pl : Pl) (pj : Pj) : CalK P w K mg base 15 "joined_roots" 2 ["sign"] (spX (clK K) A_jr) := by
  obtain ⟨fd, F⟩ := T.sd.def_ 43 (d := d_joined_roots) rfl
  have S := sc_joined_roots
  have hB : KBn K fd ["names_side", "columns_side", "sign"] 2 ["sign"] (fun us ws => us ++ ws) (fun vs zs => vs ++ zs) := by
    obtain ⟨oc, od, dV, kV, doc, pm, an, cdv, ct, osl, rfl, lk, hcd, hD, hK⟩ := F.ex
    rcases hD with ⟨-, rfl⟩ | ⟨z, -⟩
    · exact ⟨fun s us ws _ l1 l2 => .of_eq (match us, ws, l1, l2 with | [_, _], [_], _, _ => rfl), fun r1 r2 => r1.append r2⟩
    · exact absurd rfl z
  refine ⟨⟨fd, ["names_side", "columns_side", "sign"], ok_exc (k := 14) (clK K) F S (fnX_len fun _ => rfl) (fun cd Ar outer s H E xs W V hr h tk po => ?_), hB⟩, T.g 43, F.kp⟩
  obtain ⟨⟨oA, oB, sg⟩, e, pr, h⟩ := h
  subst e
  refine ⟨_, (pss_cons (ps_expr (pe_clKX c_need_table tk hr (by omega) (by rfl) (pa_cons (pv 0) pa_nil) (pk_cons (pv 2) pk_nil))) (pss_cons (ps_expr (pe_clKX c_need_table tk hr (by omega) (by rfl) (pa_cons (pv 1) pa_nil) (pk_cons (pv 2) pk_nil))) (pss_cons (ps_if (pt_cmpR (op_neD hr.units) (pe_cl c_up_names hr (by omega) (by rfl) (pa_cons (pv 0) (pa_cons (pv 2) pa_nil))) (pv 0) (nomark _)) (pss_one (ps_rz (ci_BadTable T) T.ers.bad rfl tk hr (by omega) (by rfl) (T.g 64) (pa_cons pe_str pa_nil))) pss_nil) (pss_cons (ps_if (pt_cmpR (op_neD hr.units) (pe_cl c_up_columns hr (by omega) (by rfl) (pa_cons (pv 1) (pa_cons (pv 2) pa_nil))) (pv 1) (nomark _)) (pss_one (ps_rz (ci_BadTable T) T.ers.bad rfl tk hr (by omega) (by rfl) (T.g 64) (pa_cons pe_str pa_nil))) pss_nil) (pss_cons (ps_set (i := 3) S.nd rfl (by first | exact Or.inl rfl | exact Or.inr rfl) (pe_cl c_up_columns hr (by omega) (by rfl) (pa_cons (pv 0) (pa_cons (pv 2) pa_nil)))) (pss_cons (ps_asg (pe_cl c_way_up hr (by omega) (by rfl) (pa_cons (pv 1) (pa_cons (pv 2) pa_nil))) (pg_tup (by rfl) (pgs_cons (pg_name (i := 6) S.nd rfl (by first | exact Or.inl rfl | exact Or.inr rfl)) (pgs_cons (pg_name (i := 7) S.nd rfl (by first | exact Or.inl rfl | exact Or.inr rfl)) pgs_nil)))) (pss_cons (ps_if (pt_cmpR (op_neD hr.units) (pv 3) (pv 7) (nomark _)) (pss_one (ps_rz (ci_Unlike T) T.ers.unl rfl tk hr (by omega) (by rfl) (T.g 65) (pa_cons (pe_callTy call_tupZ (by rfl) (T.n 72) (by decide +kernel) (pa_cons (pe_lc (own := [("row", 8)]) (g := (gName 8)) (tt := tYes) (te := (tCB (rSumT K) (tCons (tVar 8) tNil))) rfl S.nd (pi_tup (pv 3)) (blkOk_by (N := ["names_side", "columns_side", "sign", "own_corner", "found", "low", "lows", "far_corner", "row"]) (sc := (defScope s_joined_roots)) (by decide +kernel)) (fun _ _ _ _ _ => (pg_name (i := 8) S.nd rfl (by first | exact Or.inl rfl | exact Or.inr rfl))) (fun _ _ _ _ _ => pts_nil) (fun _ _ _ _ _ => (pe_callB (cr_sumT rfl) (by rfl) (T.n 79) (by decide +kernel) (pa_cons (pv 8) pa_nil)))) pa_nil)) pa_nil))) pss_nil) (pss_cons (ps_set (i := 4) S.nd rfl (by first | exact Or.inl rfl | exact Or.inr rfl) (pv 0)) (pss_cons (ps_for po rfl (pi_reversed (by rfl) (T.n 83) (pa_cons (pv 6) pa_nil)) (pg_name (i := 5) S.nd rfl (by first | exact Or.inl rfl | exact Or.inr rfl)) (pss_one (ps_set (i := 4) S.nd rfl (by first | exact Or.inl rfl | exact Or.inr rfl) (pe_cl c_moved_tables hr (by omega) (by rfl) (pa_cons (pv 4) (pa_cons (pv 5) (pa_cons (pe_op op_add (pv 5) pe_int) (pa_cons (pv 2) pa_nil)))))))) (pss_one (ps_ret (pv 4)))))))))))), ?_⟩
  show StD none _ _ [Ent.dat _, Ent.dat _, Ent.dat _, Ent.no, Ent.no, Ent.no, Ent.no, Ent.no, Ent.no]
  try dsimp only at h pr ⊢
  obtain ⟨sA, sB⟩ := pr
  obtain ⟨hbad, hok⟩ := h
  refine st_seq ?_
  refine st_dropNS ?_
  walk_at "d"
  refine ⟨rfl, rfl, use_ntX sA (fun e => hbad (by rcases e with e | e <;> simp [e])) fun A hA wA eA kA => ?_⟩
  refine st_seq ?_
  refine st_dropNS ?_
  walk_at "d"
  refine ⟨rfl, rfl, use_ntX sB (fun e => hbad (by rcases e with e | e <;> simp [e])) fun B hB wB eB kB => ?_⟩
  obtain ⟨q1, q2, q3⟩ := hok A B hA wA hB wB eA eB kA kB
  subst eA eB
  show StD none _ _ [Ent.dat (tbl A), Ent.dat (tbl B), Ent.dat (.bool sg), Ent.no, Ent.no, Ent.no, Ent.no, Ent.no, Ent.no]
  walk_at "d"
  refine use_up kA fun l1 T1 u1 => ?_
  walk_at "d"
  refine op_neT ?_
  walk_at "d"
  refine ⟨fun e => ?_, fun e => ?_⟩
  · have hn : ¬ Rt sg false hA wA A := fun r => by
      rw [decide_eq_true ((u1.nil pl).2 r)] at e
      cases e
    refine st_rz1 (f := "value") T.ers.bad.oex ?_ ?_
    · rfl
    walk_at "d"
    exact q1 hn
  have rA : Rt sg false hA wA A := (u1.nil pl).1 (by
    by_cases z : T1 = A
    · exact z
    · rw [decide_eq_false z] at e; cases e)
  walk_at "d"
  refine use_up kB fun l2 T2 u2 => ?_
  walk_at "d"
  refine op_neT ?_
  walk_at "d"
  refine ⟨fun e => ?_, fun e => ?_⟩
  · have hn : ¬ Rt sg true hB wB B := fun r => by
      rw [decide_eq_true ((u2.nil pl).2 r)] at e
      cases e
    refine st_rz1 (f := "value") T.ers.bad.oex ?_ ?_
    · rfl
    walk_at "d"
    exact q2 rA hn
  have rB : Rt sg true hB wB B := (u2.nil pl).1 (by
    by_cases z : T2 = B
    · exact z
    · rw [decide_eq_false z] at e; cases e)
  walk_at "d"
  refine use_up kA fun lA cA uA => ?_
  walk_at "d"
  refine use_way kB fun lB cB uB => ?_
  obtain ⟨p1, p2⟩ := q3 rA rB lA lB cA cB uA uB
  walk_at "d"
  refine op_neT ?_
  walk_at "d"
  refine ⟨fun e => ?_, fun e => ?_⟩
  · have hn : cA ≠ cB := fun z => by
      rw [decide_eq_true z] at e
      cases e
    have cr := uA.ok.rows
    have ch := uA.ok.hb
    refine st_rz1 (f := "content") T.ers.unl.oex ?_ ?_
    · rfl
    walk_at "d"
    refine ev_map (Pd := Da) ?_
    walk_at "d"
    refine ⟨(cA.map List.sum).map PyData.int, by rw [List.length_map]; omega, by rw [List.length_map, List.length_map, List.length_map], fun i d y e1 e2 => ?_, ?_⟩
    · obtain ⟨r, hr, z1⟩ := map_at e1
      obtain ⟨r', hr', z2⟩ := mmap_at e2
      rw [hr] at hr'
      cases hr'
      subst z1 z2
      walk_at "d"
      exact cb_sumT rfl
    · walk_at "d"
      exact p1 hn
  · have ec : cA = cB := by
      by_cases z : cA = cB
      · exact z
      · rw [decide_eq_false z] at e; cases e
    subst ec
    have eh : hB = hA := uB.ok.rows.symm.trans uA.ok.rows
    have ew : wB = wA := uB.ok.toRect.width.symm.trans uA.ok.toRect.width
    subst eh ew
    obtain ⟨TT, hT⟩ := pj.jn sg _ _ A B cA lA lB uA uB rA rB
    walk_at "d"
    refine st_for (Pd := Da) ?_
    walk_at "d"
    rw [show (natL lB).reverse = natL lB.reverse by unfold natL; rw [List.map_reverse]]
    refine ⟨fun i ds => ∃ (Ti : List (List Int)) (e5 e8 : Ent), ds = [Ent.dat (tbl A), Ent.dat (tbl B), Ent.dat (.bool sg), Ent.dat (tbl cA), Ent.dat (tbl Ti), e5, Ent.dat (.list (natL lB)), Ent.dat (tbl cA), e8] ∧ OkT sg hB wB Ti ∧ JRM.run (foS sg false) (lB.reverse.take i) A = some Ti, ⟨A, _, _, rfl, kA, by rw [List.take_zero]; rfl⟩, fun i d ds2 e1 iv2 => ?_, fun ds2 iv2 => ?_⟩
    · obtain ⟨Ti, e5, e8, rfl, kT, rT⟩ := iv2
      unfold natL at e1
      obtain ⟨l, hl, z1⟩ := map_at e1
      subst z1
      have lb := uB.bd l (List.mem_reverse.mp (List.mem_of_getElem? hl))
      have lb : l + 1 < hB := lb
      have st : lB.reverse.take (i + 1) = lB.reverse.take i ++ [l] := by rw [List.take_succ, hl]; rfl
      have hT2 := hT
      rw [← List.take_append_drop (i + 1) lB.reverse] at hT2
      obtain ⟨u, r1, _⟩ := run_split hT2
      rw [st] at r1
      obtain ⟨v, r2, r3⟩ := run_split r1
      rw [rT] at r2
      cases r2
      obtain ⟨u', r4, r5⟩ := JRM.run_cons r3
      have eu : u' = u := Option.some.inj r5
      subst eu
      have k2 := pl.ok sg hB wB Ti l (l + 1) false u' kT (by show l < hB; omega) lb (by omega) r4
      walk_at "d"
      refine use_mt (g := (l : Nat)) (t := ((l + 1 : Nat) : Int)) kT ⟨by omega, by omega, by omega⟩ ?_
      rw [pl.mv sg hB wB Ti l (l + 1) kT (by omega) (by omega) (by omega), show stepA sg Ti l (l + 1) false = some u' from r4]
      refine ⟨u', _, e8, rfl, k2, ?_⟩
      rw [st]
      exact JRM.run_append rT (JRM.run_one r4)
    · obtain ⟨Ti, e5, e8, rfl, kT, rT⟩ := iv2
      unfold natL at rT
      rw [List.length_map, List.take_length] at rT
      walk_at "d"
      exact p2 rfl Ti kT rT
end JR
set_option pp.maxSteps 2500
set_option Elab.async false
set_option linter.all false
set_option maxRecDepth 100000
set_option maxHeartbeats 2000000
namespace JR
open PySem PySem.Spec L2 RZ
local macro_rules
  | `(tactic| walk_at "s") => `(tactic| first
    | ((with_reducible apply ev_var); exact rfl) | with_reducible refine ev_isiI ?_ | with_reducible refine ev_isiB ?_ | with_reducible refine ev_isiT ?_ | with_reducible refine ev_isiS ?_ | ((with_reducible refine st_append ?_ ?_); rotate_left; exact ⟨_, rfl⟩) | ((with_reducible apply st_pop); exact rfl) | ((with_reducible apply et_ownNe); exact rfl) | ((with_reducible apply op_i); exact rfl) | ((with_reducible apply it_rgV); exact rfl) | ((with_reducible apply op_inW); exact rfl) | ((with_reducible apply op_ixT); exact rfl) | ((with_reducible apply op_ixL); exact rfl) | ((with_reducible refine And.intro (le_lit ?_) ?_); exact rfl) | ((with_reducible apply op_b); exact rfl) | ((with_reducible apply tc_name); decide) | ((with_reducible apply tc_tup); exact rfl) | ((with_reducible apply tg_tup); exact rfl) | ((with_reducible apply tg_tupD); exact rfl) | ((with_reducible apply tc_tupD); exact rfl)
    | with_reducible refine st_seq ?_ | with_reducible refine st_ret ?_ | with_reducible refine st_next ?_ | with_reducible refine st_if ?_ | with_reducible refine st_par_own2 ?_ | with_reducible refine st_par_own ?_ | with_reducible refine st_rng ?_ | with_reducible refine st_par ?_ | with_reducible refine st_own ?_ | with_reducible refine st_asg ?_ | with_reducible refine st_unpack ?_ | with_reducible refine st_drop ?_ | with_reducible refine st_break ?_ | with_reducible refine ev_int ?_ | with_reducible refine ev_str ?_ | with_reducible refine ev_bl ?_ | with_reducible refine ev_non ?_ | with_reducible refine ev_op ?_ | with_reducible refine ev_un ?_ | with_reducible refine ev_if ?_ | with_reducible refine ev_andV ?_ | with_reducible refine ev_orV ?_ | with_reducible refine ev_notV ?_ | with_reducible refine ev_tup ?_ | with_reducible refine ev_lst ?_ | with_reducible refine ea_nil ?_ | with_reducible refine ea_cons ?_ | with_reducible refine ev_call ?_ | with_reducible refine ev_callN ?_ | with_reducible refine ev_cb ?_ | with_reducible refine ev_sl ?_ | with_reducible refine eo_none ?_ | with_reducible refine eo_some ?_ | with_reducible refine ev_revL ?_ | with_reducible refine ev_revT ?_ | with_reducible refine evn_lrg ?_ | with_reducible refine ev_bmT ?_ | with_reducible refine et_test ?_ | with_reducible refine et_B ?_ | with_reducible refine et_and ?_ | with_reducible refine et_or ?_ | with_reducible refine et_not ?_ | with_reducible refine et_yes ?_ | with_reducible refine ev_chain ?_ | with_reducible refine op_eqI ?_ | with_reducible refine op_neI ?_ | with_reducible refine op_eqS ?_ | with_reducible refine op_neS ?_ | with_reducible refine op_eqB ?_ | with_reducible refine op_neB ?_ | with_reducible refine op_inIn ?_ | with_reducible refine ud_neg ?_ | with_reducible refine op_is ?_ | with_reducible refine op_isnt ?_ | with_reducible refine cb_lenL ?_ | with_reducible refine cb_lenT ?_ | with_reducible refine cb_listT ?_ | with_reducible refine cb_listL ?_ | with_reducible refine cb_tupL ?_ | with_reducible refine cb_int ?_ | with_reducible refine cb_max2 ?_ | with_reducible refine cb_min2 ?_ | with_reducible refine it_list ?_ | with_reducible refine it_tup ?_ | with_reducible refine itn_1 ?_ | with_reducible refine it_rng2 ?_ | with_reducible refine it_rev ?_ | with_reducible refine itn_rev ?_ | with_reducible refine it_enum ?_ | with_reducible refine it_enumT ?_ | with_reducible refine it_zipT ?_ | with_reducible refine tcs_cons ?_ | with_reducible refine tcs_nil ?_ | with_reducible refine tg_name ?_ | with_reducible refine tgs_cons ?_ | with_reducible refine tgs_nil ?_
    | with_reducible refine ⟨_, rfl, ?_⟩
    | with_reducible refine ⟨_, _, rfl, ?_⟩
    | refine and_T ?_ | refine and_F ?_)
  | `(tactic| walk_at "d") => `(tactic| repeat walk_at "s")
/-- by transfers back of the kinds that are asked -/
inductive Rch (sg al ac : Bool) (h w : Nat) : List (List Int) → List (List Int) → Prop
  | refl (R : List (List Int)) : Rch sg al ac h w R R
  | e {R R1 T : List (List Int)} {l : Nat} : al = true → l + 1 < h → bkS sg false l R = some R1 → Rch sg al ac h w R1 T → Rch sg al ac h w R T
  | d {R R1 T : List (List Int)} {l : Nat} : ac = true → l + 1 < w → bkS sg true l R = some R1 → Rch sg al ac h w R1 T → Rch sg al ac h w R T
theorem Rch.trans {sg al ac : Bool} {h w : Nat} {R S T : List (List Int)} (a : Rch sg al ac h w R S) (b : Rch sg al ac h w S T) : Rch sg al ac h w R T := by
  induction a with
  | refl R => exact b
  | e h1 h2 h3 _ ih => exact .e h1 h2 h3 (ih b)
  | d h1 h2 h3 _ ih => exact .d h1 h2 h3 (ih b)
theorem backs_in {sg al ac : Bool} {h w : Nat} {R x : List (List Int)} (k : OkT sg h w R) (hx : x ∈ backsA sg R al ac) : (al = true ∧ ∃ l, l + 1 < h ∧ bkS sg false l R = some x) ∨ (ac = true ∧ ∃ l, l + 1 < w ∧ bkS sg true l R = some x) := by
  unfold backsA at hx
  rw [k.rows, k.toRect.width] at hx
  obtain ⟨o, ho, e⟩ := List.mem_filterMap.mp hx
  have e : o = some x := e
  subst e
  rcases List.mem_append.mp ho with ho | ho
  · cases al with
    | false => cases ho
    | true =>
      obtain ⟨l, hl, e⟩ := List.mem_map.mp (show some x ∈ (List.range (h - 1)).map _ from ho)
      have := List.mem_range.mp hl
      exact .inl ⟨rfl, l, by omega, e⟩
  · cases ac with
    | false => cases ho
    | true =>
      obtain ⟨l, hl, e⟩ := List.mem_map.mp (show some x ∈ (List.range (w - 1)).map _ from ho)
      have := List.mem_range.mp hl
      exact .inr ⟨rfl, l, by omega, e⟩
theorem backs_no {sg al ac : Bool} {h w : Nat} {R : List (List Int)} (k : OkT sg h w R) (hn : backsA sg R al ac = []) : (al = true → Rt sg false h w R) ∧ (ac = true → Rt sg true h w R) := by
  have key : ∀ o, o ∈ ((if al then (List.range (R.length - 1)).map fun l => stepA sg R (l + 1) l false else []) ++ (if ac then (List.range (width R - 1)).map fun l => stepA sg R (l + 1) l true else [])) → o = none := fun o ho => by
    cases o with
    | none => rfl
    | some x =>
      have : x ∈ backsA sg R al ac := List.mem_filterMap.mpr ⟨some x, ho, rfl⟩
      rw [hn] at this
      cases this
  rw [k.rows, k.toRect.width] at key
  constructor
  · intro e l hl
    subst e
    have hl : l + 1 < h := hl
    exact key _ (List.mem_append_left _ (List.mem_map.mpr ⟨l, List.mem_range.mpr (by omega), rfl⟩))
  · intro e l hl
    subst e
    have hl : l + 1 < w := hl
    exact key _ (List.mem_append_right _ (List.mem_map.mpr ⟨l, List.mem_range.mpr (by omega), rfl⟩))
theorem backs_few {sg al ac : Bool} {h w : Nat} {R : List (List Int)} (k : OkT sg h w R) : (backsA sg R al ac).length ≤ 10 := by
  unfold backsA
  rw [k.rows, k.toRect.width]
  have h1 := k.hb
  have h2 := k.wb
  refine Nat.le_trans (List.length_filterMap_le _ _) ?_
  rw [List.length_append]
  cases al <;> cases ac <;> simp <;> omega
def A_end : AS := fnSm (fun p : IBk => [tbl p.1, .bool p.2.1, .bool p.2.2.1, .bool p.2.2.2]) (fun p m => (∃ h w, OkT p.2.2.2 h w p.1) ∧ m ≤ 800000) fun p m m' d => m' ≤ m + 120 ∧ ∃ (T : List (List Int)) (h w : Nat), d = tbl T ∧ OkT p.2.2.2 h w p.1 ∧ OkT p.2.2.2 h w T ∧ Rch p.2.2.2 p.2.1 p.2.2.1 h w p.1 T ∧ (p.2.1 = true → Rt p.2.2.2 false h w T) ∧ (p.2.2.1 = true → Rt p.2.2.2 true h w T)
theorem one_end {m : Nat} {a b c d : PyData} {e5 e6 : Ent} (h5 : isSt e5 = false) (h6 : isSt e6 = false) : oneSt [.st m, .dat a, .dat b, .dat c, .dat d, e5, e6] 0 := one_of (by
  simp [oneB, h5, h6]
  exact ⟨rfl, rfl, rfl, rfl⟩)
theorem sc_law_end : FnScope ["_law_state", "_law_table_here", "_law_along", "_law_across", "_law_signed", "_law_turn", "_law_some"] ["_law_state", "_law_table_here", "_law_along", "_law_across", "_law_signed"] (defScope s_law_end) := ⟨rfl, rfl, rfl, by decide +kernel, rfl, by decide +kernel, by decide +kernel⟩
theorem ok_law_end {P : Program} {w : World} {K : PySem.W.Frag} {mg : Str → Option Value} {base : Heap}  (T : Tx K mg) (c_law_backs : Cal P w K mg base 4 "_law_backs" (spG A_backs)) (c_law_of : Cal P w K mg base 3 "_law_of" (spS A_of)) (pl : Pl) : Cal P w K mg base 5 "_law_end" (spS A_end) := by
  obtain ⟨fd, F⟩ := T.sd.def_ 54 (d := d_law_end) rfl
  have S := sc_law_end
  refine ⟨⟨fd, ["_law_state", "_law_table_here", "_law_along", "_law_across", "_law_signed"], ok_st (k := 4) F S (fnS_len fun _ => rfl) (fun cd Ar outer s H E S0 m xs W hr h => ?_), F.bindsN fun _ _ _ _ _ _ us hl => match us, hl with | [_, _, _, _, _], _ => rfl⟩, T.g 54, F.kp⟩
  obtain ⟨⟨R, al, ac, sg⟩, e, pr, h⟩ := h
  subst e
  refine ⟨_, (pss_cons (ps_for PassesOwn.never rfl (pi_range1 (by rfl) (T.n 70) (pa_cons pe_int pa_nil)) (pg_name (i := 5) S.nd rfl (by first | exact Or.inl rfl | exact Or.inr rfl)) (pss_cons (ps_set (i := 6) S.nd rfl (by first | exact Or.inl rfl | exact Or.inr rfl) (pe_cl c_law_backs hr (by omega) (by rfl) (pa_cons (pv 1) (pa_cons (pv 2) (pa_cons (pv 3) (pa_cons (pv 4) pa_nil)))))) (pss_cons (ps_if (pt_cmpR (op_eqD hr.units) (pv 6) (pe_lst pa_nil) (nomark _)) (pss_one ps_break) pss_nil) (pss_one (ps_set (i := 1) S.nd rfl (by first | exact Or.inl rfl | exact Or.inr rfl) (pe_cl c_law_of hr (by omega) (by rfl) (pa_cons (pv 0) (pa_cons (pv 6) pa_nil)))))))) (pss_one (ps_ret (pv 1)))), ?_⟩
  show StD S0 _ _ [Ent.st m, Ent.dat _, Ent.dat _, Ent.dat _, Ent.dat _, Ent.no, Ent.no]
  try dsimp only at h pr ⊢
  obtain ⟨⟨hh, ww, k⟩, hm⟩ := pr
  have m0 := pl.le _ _ _ _ k
  refine st_seq ?_
  refine st_for (Pd := Da) ?_
  walk_at "d"
  refine ⟨fun i ds => ∃ (m1 : Nat) (T : List (List Int)) (e5 e6 : Ent), ds = [Ent.st m1, Ent.dat (tbl T), Ent.dat (.bool al), Ent.dat (.bool ac), Ent.dat (.bool sg), e5, e6] ∧ isSt e5 = false ∧ isSt e6 = false ∧ m1 ≤ m + i ∧ OkT sg hh ww T ∧ Rch sg al ac hh ww R T ∧ muT T + i ≤ 100, ⟨m, R, .no, .no, rfl, rfl, rfl, by omega, k, .refl R, by omega⟩, fun i d ds2 e1 iv2 => ?_, fun ds2 iv2 => ?_⟩
  · obtain ⟨m1, T, e5, e6, rfl, i5, i6, hm1, kT, rc, hmu⟩ := iv2
    obtain ⟨hi, z1⟩ := rmap_at e1
    subst z1
    have hi : i < 120 := hi
    walk_at "d"
    refine use_backs kT ?_
    walk_at "d"
    refine op_eqd ((Sm.list fun x hx => by
      obtain ⟨Q, _, rfl⟩ := List.mem_map.mp hx
      exact sm_tbl Q : Sm 4 _).sh (by decide)) (by decide) ?_
    cases hb : backsA sg T al ac with
    | nil =>
      obtain ⟨n1, n2⟩ := backs_no kT hb
      walk_at "d"
      exact h _ _ ⟨by omega, T, hh, ww, rfl, k, kT, rc, n1, n2⟩
    | cons b bs =>
      have fb := backs_few (al := al) (ac := ac) kT
      rw [hb] at fb
      walk_at "d"
      refine ev_callS (i := 0) (m := m1) rfl ?_
      walk_at "d"
      refine ⟨one_end rfl rfl, use_of (by rw [List.length_map]; exact Nat.succ_pos _) (by rw [List.length_map]; omega) (by omega) fun d hd => ?_⟩
      obtain ⟨Q, hQ, rfl⟩ := List.mem_map.mp hd
      rw [← hb] at hQ
      have go : ∃ T', OkT sg hh ww Q ∧ Rch sg al ac hh ww R Q ∧ muT Q + (i + 1) ≤ 100 ∧ T' = Q := by
        rcases backs_in kT hQ with ⟨ea, l, hl, st⟩ | ⟨ea, l, hl, st⟩
        · have k2 := pl.ok sg hh ww T (l + 1) l false Q kT hl (by show l < hh; omega) (by omega) st
          have m2 := pl.mu sg hh ww T l false Q kT hl st
          exact ⟨Q, k2, rc.trans (.e ea hl st (.refl Q)), by omega, rfl⟩
        · have k2 := pl.ok sg hh ww T (l + 1) l true Q kT hl (by show l < ww; omega) (by omega) st
          have m2 := pl.mu sg hh ww T l true Q kT hl st
          exact ⟨Q, k2, rc.trans (.d ea hl st (.refl Q)), by omega, rfl⟩
      obtain ⟨_, k2, rc2, mu2, _⟩ := go
      exact ⟨m1 + 1, Q, _, _, rfl, rfl, rfl, by omega, k2, rc2, mu2⟩
  · obtain ⟨m1, T, e5, e6, rfl, i5, i6, hm1, kT, rc, hmu⟩ := iv2
    rw [List.length_map, List.length_range] at hmu
    have hmu : muT T + 120 ≤ 100 := hmu
    omega
end JR
set_option pp.maxSteps 2500
set_option Elab.async false
set_option linter.all false
set_option maxRecDepth 100000
set_option maxHeartbeats 2000000
namespace JR
open PySem PySem.Spec L2 RZ
local macro_rules
  | `(tactic| walk_at "s") => `(tactic| first
    | ((with_reducible apply ev_var); exact rfl) | with_reducible refine ev_isiI ?_ | with_reducible refine ev_isiB ?_ | with_reducible refine ev_isiT ?_ | with_reducible refine ev_isiS ?_ | ((with_reducible refine st_append ?_ ?_); rotate_left; exact ⟨_, rfl⟩) | ((with_reducible apply st_pop); exact rfl) | ((with_reducible apply et_ownNe); exact rfl) | ((with_reducible apply op_i); exact rfl) | ((with_reducible apply it_rgV); exact rfl) | ((with_reducible apply op_inW); exact rfl) | ((with_reducible apply op_ixT); exact rfl) | ((with_reducible apply op_ixL); exact rfl) | ((with_reducible refine And.intro (le_lit ?_) ?_); exact rfl) | ((with_reducible apply op_b); exact rfl) | ((with_reducible apply tc_name); decide) | ((with_reducible apply tc_tup); exact rfl) | ((with_reducible apply tg_tup); exact rfl) | ((with_reducible apply tg_tupD); exact rfl) | ((with_reducible apply tc_tupD); exact rfl)
    | with_reducible refine st_seq ?_ | with_reducible refine st_ret ?_ | with_reducible refine st_next ?_ | with_reducible refine st_if ?_ | with_reducible refine st_par_own2 ?_ | with_reducible refine st_par_own ?_ | with_reducible refine st_rng ?_ | with_reducible refine st_par ?_ | with_reducible refine st_own ?_ | with_reducible refine st_asg ?_ | with_reducible refine st_unpack ?_ | with_reducible refine st_drop ?_ | with_reducible refine st_break ?_ | with_reducible refine ev_int ?_ | with_reducible refine ev_str ?_ | with_reducible refine ev_bl ?_ | with_reducible refine ev_non ?_ | with_reducible refine ev_op ?_ | with_reducible refine ev_un ?_ | with_reducible refine ev_if ?_ | with_reducible refine ev_andV ?_ | with_reducible refine ev_orV ?_ | with_reducible refine ev_notV ?_ | with_reducible refine ev_tup ?_ | with_reducible refine ev_lst ?_ | with_reducible refine ea_nil ?_ | with_reducible refine ea_cons ?_ | with_reducible refine ev_call ?_ | with_reducible refine ev_callN ?_ | with_reducible refine ev_cb ?_ | with_reducible refine ev_sl ?_ | with_reducible refine eo_none ?_ | with_reducible refine eo_some ?_ | with_reducible refine ev_revL ?_ | with_reducible refine ev_revT ?_ | with_reducible refine evn_lrg ?_ | with_reducible refine ev_bmT ?_ | with_reducible refine et_test ?_ | with_reducible refine et_B ?_ | with_reducible refine et_and ?_ | with_reducible refine et_or ?_ | with_reducible refine et_not ?_ | with_reducible refine et_yes ?_ | with_reducible refine ev_chain ?_ | with_reducible refine op_eqI ?_ | with_reducible refine op_neI ?_ | with_reducible refine op_eqS ?_ | with_reducible refine op_neS ?_ | with_reducible refine op_eqB ?_ | with_reducible refine op_neB ?_ | with_reducible refine op_inIn ?_ | with_reducible refine ud_neg ?_ | with_reducible refine op_is ?_ | with_reducible refine op_isnt ?_ | with_reducible refine cb_lenL ?_ | with_reducible refine cb_lenT ?_ | with_reducible refine cb_listT ?_ | with_reducible refine cb_listL ?_ | with_reducible refine cb_tupL ?_ | with_reducible refine cb_int ?_ | with_reducible refine cb_max2 ?_ | with_reducible refine cb_min2 ?_ | with_reducible refine it_list ?_ | with_reducible refine it_tup ?_ | with_reducible refine itn_1 ?_ | with_reducible refine it_rng2 ?_ | with_reducible refine it_rev ?_ | with_reducible refine itn_rev ?_ | with_reducible refine it_enum ?_ | with_reducible refine it_enumT ?_ | with_reducible refine it_zipT ?_ | with_reducible refine tcs_cons ?_ | with_reducible refine tcs_nil ?_ | with_reducible refine tg_name ?_ | with_reducible refine tgs_cons ?_ | with_reducible refine tgs_nil ?_
    | with_reducible refine ⟨_, rfl, ?_⟩
    | with_reducible refine ⟨_, _, rfl, ?_⟩
    | refine and_T ?_ | refine and_F ?_)
  | `(tactic| walk_at "d") => `(tactic| repeat walk_at "s")
/-- by transfers on of one kind -/
inductive Fch (sg ac : Bool) (h w : Nat) : List (List Int) → List (List Int) → Prop
  | refl (R : List (List Int)) : Fch sg ac h w R R
  | st {R S T : List (List Int)} {l : Nat} : Fch sg ac h w R S → l + 1 < limA h w ac → foS sg ac l S = some T → Fch sg ac h w R T
abbrev IFo : Type := List (List Int) × Bool × Bool × Nat
def A_forth : AS := fnSm (fun p : IFo => [tbl p.1, .bool p.2.1, .bool p.2.2.1, .int (p.2.2.2 : Nat)]) (fun p m => (∃ h w, OkT p.2.2.1 h w p.1) ∧ p.2.2.2 ≤ 10 ∧ m ≤ 800000) fun p m m' d => m' ≤ m + 10 ∧ ∃ (T : List (List Int)) (h w : Nat), d = tbl T ∧ OkT p.2.2.1 h w p.1 ∧ OkT p.2.2.1 h w T ∧ Fch p.2.2.1 p.2.1 h w p.1 T
theorem one_forth {m : Nat} {a b c d f : PyData} {e6 e7 e8 : Ent} (h6 : isSt e6 = false) (h7 : isSt e7 = false) (h8 : isSt e8 = false) : oneSt [.st m, .dat a, .dat b, .dat c, .dat d, .dat f, e6, e7, e8] 0 := one_of (by
  simp [oneB, h6, h7, h8]
  exact ⟨rfl, rfl, rfl, rfl, rfl⟩)
theorem sc_law_forth : FnScope ["_law_state", "_law_table_here", "_law_across", "_law_signed", "_law_times", "_law_limit", "_law_turn", "_law_low", "_law_there"] ["_law_state", "_law_table_here", "_law_across", "_law_signed", "_law_times"] (defScope s_law_forth) := ⟨rfl, rfl, rfl, by decide +kernel, rfl, by decide +kernel, by decide +kernel⟩
theorem ok_law_forth {P : Program} {w : World} {K : PySem.W.Frag} {mg : Str → Option Value} {base : Heap}  (T : Tx K mg) (c_law_draw : Cal P w K mg base 2 "_law_draw" (spS A_draw)) (c_law_step : Cal P w K mg base 3 "_law_step" (spG A_ls)) (pl : Pl) : Cal P w K mg base 4 "_law_forth" (spS A_forth) := by
  obtain ⟨fd, F⟩ := T.sd.def_ 57 (d := d_law_forth) rfl
  have S := sc_law_forth
  refine ⟨⟨fd, ["_law_state", "_law_table_here", "_law_across", "_law_signed", "_law_times"], ok_st (k := 3) F S (fnS_len fun _ => rfl) (fun cd Ar outer s H E S0 m xs W hr h => ?_), F.bindsN fun _ _ _ _ _ _ us hl => match us, hl with | [_, _, _, _, _], _ => rfl⟩, T.g 57, F.kp⟩
  obtain ⟨⟨R, ac, sg, ti⟩, e, pr, h⟩ := h
  subst e
  refine ⟨_, (pss_cons (ps_set (i := 5) S.nd rfl (by first | exact Or.inl rfl | exact Or.inr rfl) (pe_ifExp (pt_val (pv 2)) (pe_callB call_len_seq (by rfl) (T.n 69) (by decide +kernel) (pa_cons (pe_ix ix_tup (pv 1) pe_int fun _ _ => rfl) pa_nil)) (pe_callB call_len_seq (by rfl) (T.n 69) (by decide +kernel) (pa_cons (pv 1) pa_nil)))) (pss_cons (ps_for PassesOwn.never rfl (pi_range1 (by rfl) (T.n 70) (pa_cons (pv 4) pa_nil)) (pg_name (i := 6) S.nd rfl (by first | exact Or.inl rfl | exact Or.inr rfl)) (pss_cons (ps_set (i := 7) S.nd rfl (by first | exact Or.inl rfl | exact Or.inr rfl) (pe_cl c_law_draw hr (by omega) (by rfl) (pa_cons (pv 0) (pa_cons (pe_op op_sub (pv 5) pe_int) pa_nil)))) (pss_cons (ps_set (i := 8) S.nd rfl (by first | exact Or.inl rfl | exact Or.inr rfl) (pe_cl c_law_step hr (by omega) (by rfl) (pa_cons (pv 1) (pa_cons (pv 7) (pa_cons (pe_op op_add (pv 7) pe_int) (pa_cons (pv 2) (pa_cons (pv 3) pa_nil))))))) (pss_one (ps_set (i := 1) S.nd rfl (by first | exact Or.inl rfl | exact Or.inr rfl) (pe_ifExp (pt_cmpR op_isN (pv 8) pe_non (nomark _)) (pv 1) (pv 8))))))) (pss_one (ps_ret (pv 1))))), ?_⟩
  show StD S0 _ _ [Ent.st m, Ent.dat _, Ent.dat _, Ent.dat _, Ent.dat _, Ent.no, Ent.no, Ent.no, Ent.no]
  try dsimp only at h pr ⊢
  obtain ⟨⟨hh, ww, k⟩, ht, hm⟩ := pr
  have kr := k.rows
  have kh := k.hb
  have kw := k.wb
  have hw := k.toRect.width
  have lb : 2 ≤ limA hh ww ac ∧ limA hh ww ac ≤ 4 := by unfold limA; cases ac <;> simp <;> omega
  walk_at "d"
  refine mergeD (M := .int ((limA hh ww ac : Nat))) (fun e => ?_) (fun e => ?_) ?_
  · subst e
    walk_at "d"
    refine op_ixT (head_at k.toRect) ?_
    walk_at "d"
    exact ⟨rfl, by rw [List.length_map]; exact congrArg (fun z : Nat => PyData.int (z : Int)) hw⟩
  · subst e
    walk_at "d"
    exact ⟨rfl, by rw [List.length_map, kr]; rfl⟩
  walk_at "d"
  refine st_for (Pd := Da) ?_
  walk_at "d"
  refine ⟨by omega, ?_⟩
  refine ⟨fun i ds => ∃ (m1 : Nat) (T : List (List Int)) (e6 e7 e8 : Ent), ds = [Ent.st m1, Ent.dat (tbl T), Ent.dat (.bool ac), Ent.dat (.bool sg), Ent.dat (.int (ti : Nat)), Ent.dat (.int ((limA hh ww ac : Nat))), e6, e7, e8] ∧ isSt e6 = false ∧ isSt e7 = false ∧ isSt e8 = false ∧ m1 ≤ m + i ∧ OkT sg hh ww T ∧ Fch sg ac hh ww R T, ⟨m, R, .no, .no, .no, rfl, rfl, rfl, rfl, by omega, k, .refl R⟩, fun i d ds2 e1 iv2 => ?_, fun ds2 iv2 => ?_⟩
  · obtain ⟨m1, T, e6, e7, e8, rfl, i6, i7, i8, hm1, kT, fc⟩ := iv2
    obtain ⟨hi, z1⟩ := rmap_at e1
    subst z1
    walk_at "d"
    refine ev_callS (i := 0) (m := m1) rfl ?_
    walk_at "d"
    have el : ((limA hh ww ac : Nat) : Int) - 1 = ((limA hh ww ac - 1 : Nat) : Int) := by omega
    rw [el]
    refine ⟨one_forth rfl i7 i8, use_draw (by omega) (by omega) (by omega) fun z hz => ?_⟩
    walk_at "d"
    refine use_ls (g := z) (t := z + 1) kT (by show z < limA hh ww ac; omega) (by show z + 1 < limA hh ww ac; omega) ?_
    cases hs : stepA sg T z (z + 1) ac with
    | none =>
      walk_at "d"
      exact ⟨m1 + 1, T, _, _, _, rfl, rfl, rfl, rfl, by omega, kT, fc⟩
    | some Q =>
      have k2 := pl.ok sg hh ww T z (z + 1) ac Q kT (by omega) (by omega) (by omega) hs
      walk_at "d"
      exact ⟨m1 + 1, Q, _, _, _, rfl, rfl, rfl, rfl, by omega, k2, .st fc (by omega) hs⟩
  · obtain ⟨m1, T, e6, e7, e8, rfl, i6, i7, i8, hm1, kT, fc⟩ := iv2
    rw [List.length_map, List.length_range] at hm1
    walk_at "d"
    exact h _ _ ⟨by omega, T, hh, ww, rfl, k, kT, fc⟩
end JR
set_option Elab.async false
set_option linter.all false
set_option maxRecDepth 100000
set_option maxHeartbeats 4000000
/-! Several clauses 'except X as n' with one name n. -/
namespace JR
open PySem PySem.Spec L2
/-- ends behind the going of slot i -/
def goneE (i : Nat) (D : Ends) : Ends := { nx := fun σ H => D.nx (σ.set i none) H, rt := D.rt, bk := fun σ H => D.bk (σ.set i none) H, ct := fun σ H => D.ct (σ.set i none) H }
def wNam (K : PySem.W.Frag) (i : Nat) (D : Ends) : List (Value × (Addr → Value → Option Addr → TS)) → WX
  | [] => fun _ _ _ _ => False
  | q :: r => fun cls d σ H => ∃ b, PySem.W.exmOne K cls q.1 = some b ∧ (b = true → ∀ a, H a = none → q.2 a cls d (goneE i D) (σ.set i (some (.ref a))) H) ∧ (b = false → wNam K i D r cls d σ H)
inductive ClOk (X : Cx) (n : Str) : List ExceptHandler → List (Value × (Addr → Value → Option Addr → TS)) → Prop
  | nil : ClOk X n [] []
  | cons {y : Str} {c : Value} {u : Addr → Value → Option Addr → TS} {b₀ : Stmt} {bs : List Stmt} {np q : Pos} {hs : List ExceptHandler} {r : List (Value × (Addr → Value → Option Addr → TS))} :
      Names X y c → (∀ (a : Addr) (oe : Obj) (cls : Value) (d : Option Addr) (pn : List (Addr × Obj)), Zc cls d oe → (∃ vs, oe.data = .fields vs) → PSs (X.suite a ((a, oe) :: pn)) (b₀ :: bs) (u a cls d)) → ClOk X n hs r →
      ClOk X n (.ExceptHandler (some (.Name y np)) (some n) (b₀ :: bs) q :: hs) ((c, u) :: r)
section
variable {X : Cx} {n : Str} {i : Nat} {body : List Stmt} {hd0 : ExceptHandler} {hs : List ExceptHandler} {r : List (Value × (Addr → Value → Option Addr → TS))} {pos : Pos} {tb : WX → TS}
theorem ps_try_named (st : X.stack = X.env :: X.outer) (fr : X.env.frame = some X.env.locals) (nd : X.N.Nodup) (hi : X.N[i]? = some n) (hl : X.env.kindOf n = some .local)
    (hb : ∀ (W : WX) (pn : List (Addr × Obj)) (xe : Value → Shared → Prop), Takes (X.tr pn xe) W → PassesOwn (model X.prog X.w) X.A X.env xe → PSs (X.tr pn xe) body (tb W)) (hh : ClOk X n (hd0 :: hs) r) :
    PS X (.Try body (hd0 :: hs) [] [] pos) (fun D σ H => tb (wNam X.K i D r) D σ H) := by
  refine ⟨fun pins s σ H D I h => ?_⟩
  have ok := I.ok
  have fs : X.A.frames = some (X.env :: X.outer) := by rw [ok.frames, st]
  have lo : Loc X.env.scope n := .inl hl
  refine wpAny_Try_except ?_
  refine wpAny_mono ((hb (wNam X.K i D r) (X.pn ++ pins) (fun e z1 => wpAny (model X.prog X.w) X.A (noteFrame e X.env) (fun _ z2 => wpAny (model X.prog X.w) X.A (setFlight e none)
    (fun _ z3 => wpAny (model X.prog X.w) X.A (handleBy e X.env (hd0 :: hs)) (SP X pins D) X.xe z3) X.xe z2) X.xe z1) (fun u s' xx => ?_) PassesOwn.looking).run [] s σ H D (I.toTry _) h) (fun f s1 sp => ?_) (fun e s1 he => he)
  · obtain ⟨a, B, sI, ps', σ', H', cls, d, rfl, J', nb, up, sky, na, os, ag, w⟩ := xx
    have J : Inv X pins σ' H' sI := J'.ofTry ok
    have sk : Sky B (X.env :: X.outer) a (Zc cls d) X.env.locals s'.heap := by rw [← st]; exact sky
    show wpAny (model X.prog X.w) X.A (noteFrame (.ref a) X.env) _ _ _
    refine Sky.land Zc.steady fs fr sk fun h3 fl up3 => ?_
    have J3 : Inv X pins σ' H' { s' with heap := h3 } := J.landed nb fl.1 (up.trans up3) os ag
    obtain ⟨oe, vs, he, hz, hd⟩ := fl.there
    have nfr : a ∉ frs (X.env :: X.outer) := fun hm => by
      obtain ⟨_, o', e', hnf⟩ := fl.2.2.1.mem hm
      rw [he] at e'; cases e'
      exact hnf _ hd
    have nL : a ≠ X.env.locals := fun z => nfr (List.mem_filterMap.mpr ⟨X.env, List.mem_cons_self, by rw [fr, z]⟩)
    have nF : a ∉ X.fs := fun hm => by
      obtain ⟨e, m, q⟩ := List.mem_filterMap.mp hm
      exact nfr (List.mem_filterMap.mpr ⟨e, List.mem_cons_of_mem _ m, q⟩)
    have S3 := J3.suite he hd na nL nF
    have go : ∀ {hs' : List ExceptHandler} {r' : List (Value × (Addr → Value → Option Addr → TS))}, ClOk X n hs' r' → wNam X.K i D r' cls d σ' H' →
        wpAny (model X.prog X.w) X.A (handleBy (.ref a) X.env hs') (SP X pins D) X.xe { s' with heap := h3 } := by
      intro hs' r' hk
      induction hk with
      | nil => exact fun w => w.elim
      | @cons y c u b₀ bs np q hs2 r2 hc hsu _ ih =>
        intro w
        obtain ⟨b, hb1, yes, no⟩ := w
        refine wpAny_handleBy_cons (codeAny_handlers_test ?_) (by intro z; cases z)
        have LT : PySem.W.Looks (model X.prog X.w) h3 (typeOf (.ref a)) cls := fun A Q E s k z => wpAny_typeOf_ref (k _ _ he) (by rw [hz.1]; exact z)
        have LM := PySem.W.exm_one (M := model X.prog X.w) J3.kIn LT hb1
        have test : ∀ {Q : Value → Shared → Prop} {E : Value → Shared → Prop}, Q c { s' with heap := h3 } → wpAny (model X.prog X.w) (X.A.mark (some (.ref a))) (eval (.Name y np) X.env) Q E { s' with heap := h3 } := by
          intro Q E z
          obtain ⟨hg, hdb, hm | ⟨hm, hv, hnn⟩⟩ := hc
          · exact ld_glob (X := X.suite a ((a, oe) :: (X.pn ++ pins))) S3 hg hm z hdb
          · exact ld_blt (X := X.suite a ((a, oe) :: (X.pn ++ pins))) S3 hg hm hv z hnn hdb
        refine test (LM.here ?_)
        cases b with
        | false =>
          show wpAny _ X.A (handleBy (.ref a) X.env hs2) _ _ _
          exact ih (no rfl)
        | true =>
          refine codeAny_handlers_suite_as ?_
          refine HandSPX.lands_againZ fl fun h4 fl4 up4 => ?_
          have J4 : Inv X pins σ' H' { s' with heap := h4 } := J.landed nb fl4.1 ((up.trans up3).trans up4) os ag
          obtain ⟨o4, v4, e4, z4, d4⟩ := fl4.there
          have S4 := J4.suite e4 d4 na nL nF
          refine store_ok (X := X.suite a ((a, o4) :: (X.pn ++ pins))) (v := .ref a) S4 nd hi lo rfl (fun s5 S5 => ?_) (.inr hl)
          refine wpAny_mono ((hsu a o4 cls d (X.pn ++ pins) z4 ⟨_, d4⟩).run [] s5 _ H' _ S5 (yes rfl a na)) (fun f s6 sp => ?_) (fun _ _ z => z.elim)
          have fin : ∀ {σ6 : L2.St} {H6 : Hp} {Q : Shared → Prop}, Inv (X.suite a ((a, o4) :: (X.pn ++ pins))) [] σ6 H6 s6 → (∀ s7, Inv X pins (σ6.set i none) H6 s7 → Q s7) →
              wpAny (model X.prog X.w) X.A (do bindName X.env n .none; unbindBehindTheSuite X.env n q) (fun _ s7 => Q s7) X.xe s6 := by
            intro σ6 H6 Q S6 hq
            exact gone_ok (S6.unsuite ok) nd hi hl hq
          cases f with
          | next =>
            obtain ⟨σ6, H6, S6, q6⟩ := sp
            exact fin S6 fun s7 J7 => ⟨_, _, J7, q6⟩
          | brk =>
            obtain ⟨σ6, H6, S6, q6⟩ := sp
            exact fin S6 fun s7 J7 => ⟨_, _, J7, q6⟩
          | cont =>
            obtain ⟨σ6, H6, S6, q6⟩ := sp
            exact fin S6 fun s7 J7 => ⟨_, _, J7, q6⟩
          | ret v =>
            obtain ⟨v6, σ6, H6, S6, r6, q6⟩ := sp
            exact fin S6 fun s7 J7 => ⟨_, _, _, J7, r6, q6⟩
    exact go hh w
  · cases f with
    | next =>
      obtain ⟨σ', H', J', q⟩ := sp
      exact wpAny_execs_nil ⟨σ', H', J'.ofTry ok, q⟩
    | brk =>
      obtain ⟨σ', H', J', q⟩ := sp
      exact ⟨σ', H', J'.ofTry ok, q⟩
    | cont =>
      obtain ⟨σ', H', J', q⟩ := sp
      exact ⟨σ', H', J'.ofTry ok, q⟩
    | ret v =>
      obtain ⟨v, σ', H', J', rr, q⟩ := sp
      exact ⟨v, σ', H', J'.ofTry ok, rr, q⟩
end
/-- the suite x = ['word', n.f] -/
def tTold (K : PySem.W.Frag) (C : Addr) (wd f : Str) (i j : Nat) : Addr → Value → Option Addr → TS := fun a cls d => tAsg (tLst (tCons (tC (.str wd)) (tCons (tXf a cls d C f (tVar i)) tNil))) (gName j)
theorem told_ok {S : SA} {H0 F0 F H : Hp} {σ : L2.St} {ds : List Ent} {E : DEnds} {D : Ends} {K : PySem.W.Frag} {x wd f : Str} {i j : Nat} {dd : Addr} {fs : List (Str × V)} {ys : List (Str × PyData)} {y : PyData}
    (X : Ext S F0 H0 F H) (I : Ents S H0 F H σ ds) (g : Good S F0 H0 E D) (hd : H dd = some (.xd fs)) (hf : DaFs F fs ys) (hl : ys.lookup f = some y) (hi : ds[i]? = some .no) (ij : i ≠ j) (w : E.nx (ds.set j (.dat (.list [.str wd, y])))) (a : Addr) (na : H a = none) :
    tTold K (He.ga K x) wd f i j a (.ref (He.ga K x)) (some dd) (goneE i D) (σ.set i (some (.ref a))) H := by
  obtain ⟨v, hv, hy⟩ := hf f y hl
  have hlt : i < σ.length := by
    rw [I.len]
    exact (List.getElem?_eq_some_iff.mp hi).1
  refine ⟨.ref a, ?_, rfl, rfl, dd, fs, v, rfl, hd, hv, Nat.le_of_ble_eq_true rfl, fun p np => ?_⟩
  · rw [List.getElem?_set_self hlt]
  have X1 := Ext.new (o := .lst [.str wd, v]) I.fh np
  have I1 := (I.pure X1).put (i := j) (Da.new_lst I.fh np (.cons (.str _) (.cons hy .nil)))
  have e0 : ∀ {σ1 : L2.St} {F1 H1 : Hp} {ds1 : List Ent}, Ents S H0 F1 H1 σ1 ds1 → ds1[i]? = some .no → ∀ o1 o2, Ents S H0 F1 H1 ((σ1.set i o1).set i o2) ds1 := by
    intro σ1 F1 H1 ds1 J h1 o1 o2
    refine ⟨J.fh, J.fS, J.hS, by rw [List.length_set, List.length_set]; exact J.len, fun k e q => ?_, fun k l b xs zs q1 q2 s1 s2 => ?_⟩
    · by_cases z : i = k
      · subst z
        rw [h1] at q
        cases q
        exact trivial
      · rw [slot_set_ne z, slot_set_ne z]
        exact J.at_ k e q
    · by_cases z : i = k
      · subst z
        rw [h1] at q1
        cases q1
      · by_cases z' : i = l
        · subst z'
          rw [h1] at q2
          cases q2
        · rw [slot_set_ne z, slot_set_ne z] at s1
          rw [slot_set_ne z', slot_set_ne z'] at s2
          exact J.ap k l b xs zs q1 q2 s1 s2
  have I2 := e0 I1 (by rw [List.getElem?_set_ne (Ne.symm ij)]; exact hi) (some (.ref a)) none
  have es : ((σ.set j (some (.ref p))).set i (some (.ref a))).set i none = ((σ.set i (some (.ref a))).set j (some (.ref p))).set i none := by rw [List.set_comm _ _ (Ne.symm ij)]
  rw [es] at I2
  exact g.nx _ _ _ _ ((X.step I X1.pure)) I2 w
/-- the three clauses of one kind of try -/
theorem st_told {S : SA} {ds : List Ent} {E : DEnds} {K : PySem.W.Frag} {mg : Str → Option Value} {tb : WX → TS} (T : Tx K mg) (hb : ∀ W, StD S (tb W) { E with xw := W, cl := clK K, xc := fun d1 x ys => d1[4]? = some .no ∧
      ((x = "BadTable" ∧ ∃ y, ys.lookup ("value" : Str) = some y ∧ E.nx (d1.set 3 (.dat (.list [.str "bad", y])))) ∨ (x = "Unlike" ∧ ∃ y, ys.lookup ("content" : Str) = some y ∧ E.nx (d1.set 3 (.dat (.list [.str "unlike", y]))))) } ds) :
    StD S (fun D σ H => tb (wNam K 4 D [(.ref (He.ga K "BadTable"), tTold K (He.ga K "BadTable") "bad" "value" 4 3), (.ref (He.ga K "TooGreat"), fun _ _ _ _ _ _ => False), (.ref (He.ga K "Unlike"), tTold K (He.ga K "Unlike") "unlike" "content" 4 3)]) D σ H) E ds := fun H0 F0 F H σ D x I g =>
  hb _ H0 F0 F H σ D x I ⟨g.nx, g.rt, g.bk, g.ct, fun F' H' σ' d1 y dd fs ys x' I' hd hf ⟨w1, w2⟩ => by
    rcases w2 with ⟨e, v, hl, w⟩ | ⟨e, v, hl, w⟩
    · subst e
      exact ⟨true, He.exm_ok (T.sd.fact 95 rfl), fun _ a na => told_ok x' I' g hd hf hl w1 (by decide) w a na, fun z => Bool.noConfusion z⟩
    · subst e
      refine ⟨false, He.exm_ok (T.sd.fact 96 rfl), fun z => Bool.noConfusion z, fun _ => ?_⟩
      refine ⟨false, He.exm_ok (T.sd.fact 97 rfl), fun z => Bool.noConfusion z, fun _ => ?_⟩
      exact ⟨true, He.exm_ok (T.sd.fact 98 rfl), fun _ a na => told_ok x' I' g hd hf hl w1 (by decide) w a na, fun z => Bool.noConfusion z⟩⟩
end JR
set_option pp.maxSteps 2500
set_option Elab.async false
set_option linter.all false
set_option maxRecDepth 100000
set_option maxHeartbeats 2000000
namespace JR
open PySem PySem.Spec L2 RZ
local macro_rules
  | `(tactic| walk_at "s") => `(tactic| first
    | ((with_reducible apply ev_var); exact rfl) | with_reducible refine ev_isiI ?_ | with_reducible refine ev_isiB ?_ | with_reducible refine ev_isiT ?_ | with_reducible refine ev_isiS ?_ | ((with_reducible refine st_append ?_ ?_); rotate_left; exact ⟨_, rfl⟩) | ((with_reducible apply st_pop); exact rfl) | ((with_reducible apply et_ownNe); exact rfl) | ((with_reducible apply op_i); exact rfl) | ((with_reducible apply it_rgV); exact rfl) | ((with_reducible apply op_inW); exact rfl) | ((with_reducible apply op_ixT); exact rfl) | ((with_reducible apply op_ixL); exact rfl) | ((with_reducible refine And.intro (le_lit ?_) ?_); exact rfl) | ((with_reducible apply op_b); exact rfl) | ((with_reducible apply tc_name); decide) | ((with_reducible apply tc_tup); exact rfl) | ((with_reducible apply tg_tup); exact rfl) | ((with_reducible apply tg_tupD); exact rfl) | ((with_reducible apply tc_tupD); exact rfl)
    | with_reducible refine st_seq ?_ | with_reducible refine st_ret ?_ | with_reducible refine st_next ?_ | with_reducible refine st_if ?_ | with_reducible refine st_par_own2 ?_ | with_reducible refine st_par_own ?_ | with_reducible refine st_rng ?_ | with_reducible refine st_par ?_ | with_reducible refine st_own ?_ | with_reducible refine st_asg ?_ | with_reducible refine st_unpack ?_ | with_reducible refine st_drop ?_ | with_reducible refine st_break ?_ | with_reducible refine ev_int ?_ | with_reducible refine ev_str ?_ | with_reducible refine ev_bl ?_ | with_reducible refine ev_non ?_ | with_reducible refine ev_op ?_ | with_reducible refine ev_un ?_ | with_reducible refine ev_if ?_ | with_reducible refine ev_andV ?_ | with_reducible refine ev_orV ?_ | with_reducible refine ev_notV ?_ | with_reducible refine ev_tup ?_ | with_reducible refine ev_lst ?_ | with_reducible refine ea_nil ?_ | with_reducible refine ea_cons ?_ | with_reducible refine ev_call ?_ | with_reducible refine ev_callN ?_ | with_reducible refine ev_cb ?_ | with_reducible refine ev_sl ?_ | with_reducible refine eo_none ?_ | with_reducible refine eo_some ?_ | with_reducible refine ev_revL ?_ | with_reducible refine ev_revT ?_ | with_reducible refine evn_lrg ?_ | with_reducible refine ev_bmT ?_ | with_reducible refine et_test ?_ | with_reducible refine et_B ?_ | with_reducible refine et_and ?_ | with_reducible refine et_or ?_ | with_reducible refine et_not ?_ | with_reducible refine et_yes ?_ | with_reducible refine ev_chain ?_ | with_reducible refine op_eqI ?_ | with_reducible refine op_neI ?_ | with_reducible refine op_eqS ?_ | with_reducible refine op_neS ?_ | with_reducible refine op_eqB ?_ | with_reducible refine op_neB ?_ | with_reducible refine op_inIn ?_ | with_reducible refine ud_neg ?_ | with_reducible refine op_is ?_ | with_reducible refine op_isnt ?_ | with_reducible refine cb_lenL ?_ | with_reducible refine cb_lenT ?_ | with_reducible refine cb_listT ?_ | with_reducible refine cb_listL ?_ | with_reducible refine cb_tupL ?_ | with_reducible refine cb_int ?_ | with_reducible refine cb_max2 ?_ | with_reducible refine cb_min2 ?_ | with_reducible refine it_list ?_ | with_reducible refine it_tup ?_ | with_reducible refine itn_1 ?_ | with_reducible refine it_rng2 ?_ | with_reducible refine it_rev ?_ | with_reducible refine itn_rev ?_ | with_reducible refine it_enum ?_ | with_reducible refine it_enumT ?_ | with_reducible refine it_zipT ?_ | with_reducible refine tcs_cons ?_ | with_reducible refine tcs_nil ?_ | with_reducible refine tg_name ?_ | with_reducible refine tgs_cons ?_ | with_reducible refine tgs_nil ?_
    | with_reducible refine ⟨_, rfl, ?_⟩
    | with_reducible refine ⟨_, _, rfl, ?_⟩
    | refine and_T ?_ | refine and_F ?_)
  | `(tactic| walk_at "d") => `(tactic| repeat walk_at "s")
/-- what is said of an error, as a wish of the answer -/
def askV (W : PyData → Prop) : Str → List (Str × PyData) → Prop := fun x ys => (x = "BadTable" ∧ ∃ y, ys.lookup ("value" : Str) = some y ∧ W (.list [.str "bad", y])) ∨ (x = "Unlike" ∧ ∃ y, ys.lookup ("content" : Str) = some y ∧ W (.list [.str "unlike", y]))
def A_ask : AD := fun xs W => ∃ p : IJr, xs = [optT p.1, optT p.2.1, .bool p.2.2] ∧ (Side p.2.2 p.1 ∧ Side p.2.2 p.2.1) ∧ jrR p.2.2 p.1 p.2.1 W (askV W)
theorem use_ask {oA oB : Option (List (List Int))} {sg : Bool} {W : PyData → Prop} (hA : Side sg oA) (hB : Side sg oB) (q : jrR sg oA oB W (askV W)) : A_ask [optT oA, optT oB, .bool sg] W := ⟨(oA, oB, sg), rfl, ⟨hA, hB⟩, q⟩
theorem jrR.map {sg : Bool} {oA oB : Option (List (List Int))} {W W' : PyData → Prop} {V V' : Str → List (Str × PyData) → Prop} (hW : ∀ d, W d → W' d) (hV : ∀ x ys, V x ys → V' x ys) (h : jrR sg oA oB W V) : jrR sg oA oB W' V' := by
  obtain ⟨h1, h2⟩ := h
  refine ⟨fun z => hV _ _ (h1 z), fun A B hA wA hB wB e1 e2 k1 k2 => ?_⟩
  obtain ⟨q1, q2, q3⟩ := h2 A B hA wA hB wB e1 e2 k1 k2
  refine ⟨fun z => hV _ _ (q1 z), fun z z' => hV _ _ (q2 z z'), fun r1 r2 lA lB cA cB u1 u2 => ?_⟩
  obtain ⟨p1, p2⟩ := q3 r1 r2 lA lB cA cB u1 u2
  exact ⟨fun z => hV _ _ (p1 z), fun z T k r => hW _ (p2 z T k r)⟩
theorem sc_law_asked : FnScope ["_law_one", "_law_other", "_law_signed", "_law_told", "error"] ["_law_one", "_law_other", "_law_signed"] (defScope s_law_asked) := ⟨rfl, rfl, rfl, by decide +kernel, rfl, by decide +kernel, by decide +kernel⟩
theorem ok_law_asked {P : Program} {w : World} {K : PySem.W.Frag} {mg : Str → Option Value} {base : Heap}  (T : Tx K mg) (c_joined_roots : CalK P w K mg base 15 "joined_roots" 2 ["sign"] (spX (clK K) A_jr))  : Cal P w K mg base 16 "_law_asked" (spG A_ask) := by
  obtain ⟨fd, F⟩ := T.sd.def_ 59 (d := d_law_asked) rfl
  have S := sc_law_asked
  refine ⟨⟨fd, ["_law_one", "_law_other", "_law_signed"], ok_pure (k := 15) F S (fnA_len fun _ => rfl) (fun cd Ar outer s H E xs W hr h => ?_), F.bindsN fun _ _ _ _ _ _ us hl => match us, hl with | [_, _, _], _ => rfl⟩, T.g 59, F.kp⟩
  obtain ⟨⟨oA, oB, sg⟩, e, pr, h⟩ := h
  subst e
  refine ⟨_, (pss_cons (ps_set (i := 3) S.nd rfl (by first | exact Or.inl rfl | exact Or.inr rfl) (pe_lst (pa_cons pe_str pa_nil))) (pss_cons (ps_try_named (tb := fun W => tAsg (tCallNS 2 1 (spX (clK K) A_jr) (WE W) (tCons (tVar 0) (tCons (tVar 1) tNil)) (tCons (tVar 2) tNil)) (gName 3)) rfl rfl S.nd (i := 4) rfl rfl (fun W pn xe tkb _ => (pss_one (ps_set (i := 3) S.nd rfl (by first | exact Or.inl rfl | exact Or.inr rfl) (pe_clKX c_joined_roots tkb hr (by omega) (by rfl) (pa_cons (pv 0) (pa_cons (pv 1) pa_nil)) (pk_cons (pv 2) pk_nil))))) (.cons ⟨by rfl, by decide, .inl (T.g 64)⟩ (fun _ _ _ _ _ hz hf => pss_one (ps_set (i := 3) S.nd rfl (by first | exact Or.inl rfl | exact Or.inr rfl) (pe_lst (pa_cons pe_str (pa_cons (pe_xf T.ers.bad.xf T.ers.bv hz hf (pv 4)) pa_nil))))) (.cons ⟨by rfl, by decide, .inl (T.g 67)⟩ (fun _ _ _ _ _ _ _ => pss_one ps_never) (.cons ⟨by rfl, by decide, .inl (T.g 65)⟩ (fun _ _ _ _ _ hz hf => pss_one (ps_set (i := 3) S.nd rfl (by first | exact Or.inl rfl | exact Or.inr rfl) (pe_lst (pa_cons pe_str (pa_cons (pe_xf T.ers.unl.xf T.ers.uc hz hf (pv 4)) pa_nil))))) .nil)))) (pss_one (ps_ret (pv 3))))), ?_⟩
  show StD none _ _ [Ent.dat _, Ent.dat _, Ent.dat _, Ent.no, Ent.no]
  try dsimp only at h pr ⊢
  obtain ⟨sA, sB⟩ := pr
  refine st_seq ?_
  refine st_asg (ev_lst (ea_cons (ev_str (ea_nil ⟨by decide, ?_⟩))))
  refine st_seq ?_
  refine st_told (tb := fun W => tAsg (tCallNS 2 1 (spX (clK K) A_jr) (WE W) (tCons (tVar 0) (tCons (tVar 1) tNil)) (tCons (tVar 2) tNil)) (gName 3)) T fun W' => ?_
  refine st_asgNS (A := A_jr) ?_
  walk_at "d"
  refine ⟨rfl, rfl, (oA, oB, sg), rfl, ⟨sA, sB⟩, ?_⟩
  refine jrR.map (fun d hd => ?_) (fun x ys hv => ⟨rfl, ?_⟩) h
  · show StD _ _ _ _
    walk_at "d"
    exact hd
  · rcases hv with ⟨e, y, hl, hw⟩ | ⟨e, y, hl, hw⟩
    · refine .inl ⟨e, y, hl, ?_⟩
      show StD _ _ _ _
      walk_at "d"
      exact hw
    · refine .inr ⟨e, y, hl, ?_⟩
      show StD _ _ _ _
      walk_at "d"
      exact hw
end JR
set_option pp.maxSteps 2500
set_option Elab.async false
set_option linter.all false
set_option maxRecDepth 100000
set_option maxHeartbeats 2000000
namespace JR
open PySem PySem.Spec L2 RZ
local macro_rules
  | `(tactic| walk_at "s") => `(tactic| first
    | ((with_reducible apply ev_var); exact rfl) | with_reducible refine ev_isiI ?_ | with_reducible refine ev_isiB ?_ | with_reducible refine ev_isiT ?_ | with_reducible refine ev_isiS ?_ | ((with_reducible refine st_append ?_ ?_); rotate_left; exact ⟨_, rfl⟩) | ((with_reducible apply st_pop); exact rfl) | ((with_reducible apply et_ownNe); exact rfl) | ((with_reducible apply op_i); exact rfl) | ((with_reducible apply it_rgV); exact rfl) | ((with_reducible apply op_inW); exact rfl) | ((with_reducible apply op_ixT); exact rfl) | ((with_reducible apply op_ixL); exact rfl) | ((with_reducible refine And.intro (le_lit ?_) ?_); exact rfl) | ((with_reducible apply op_b); exact rfl) | ((with_reducible apply tc_name); decide) | ((with_reducible apply tc_tup); exact rfl) | ((with_reducible apply tg_tup); exact rfl) | ((with_reducible apply tg_tupD); exact rfl) | ((with_reducible apply tc_tupD); exact rfl)
    | with_reducible refine st_seq ?_ | with_reducible refine st_ret ?_ | with_reducible refine st_next ?_ | with_reducible refine st_if ?_ | with_reducible refine st_par_own2 ?_ | with_reducible refine st_par_own ?_ | with_reducible refine st_rng ?_ | with_reducible refine st_par ?_ | with_reducible refine st_own ?_ | with_reducible refine st_asg ?_ | with_reducible refine st_unpack ?_ | with_reducible refine st_drop ?_ | with_reducible refine st_break ?_ | with_reducible refine ev_int ?_ | with_reducible refine ev_str ?_ | with_reducible refine ev_bl ?_ | with_reducible refine ev_non ?_ | with_reducible refine ev_op ?_ | with_reducible refine ev_un ?_ | with_reducible refine ev_if ?_ | with_reducible refine ev_andV ?_ | with_reducible refine ev_orV ?_ | with_reducible refine ev_notV ?_ | with_reducible refine ev_tup ?_ | with_reducible refine ev_lst ?_ | with_reducible refine ea_nil ?_ | with_reducible refine ea_cons ?_ | with_reducible refine ev_call ?_ | with_reducible refine ev_callN ?_ | with_reducible refine ev_cb ?_ | with_reducible refine ev_sl ?_ | with_reducible refine eo_none ?_ | with_reducible refine eo_some ?_ | with_reducible refine ev_revL ?_ | with_reducible refine ev_revT ?_ | with_reducible refine evn_lrg ?_ | with_reducible refine ev_bmT ?_ | with_reducible refine et_test ?_ | with_reducible refine et_B ?_ | with_reducible refine et_and ?_ | with_reducible refine et_or ?_ | with_reducible refine et_not ?_ | with_reducible refine et_yes ?_ | with_reducible refine ev_chain ?_ | with_reducible refine op_eqI ?_ | with_reducible refine op_neI ?_ | with_reducible refine op_eqS ?_ | with_reducible refine op_neS ?_ | with_reducible refine op_eqB ?_ | with_reducible refine op_neB ?_ | with_reducible refine op_inIn ?_ | with_reducible refine ud_neg ?_ | with_reducible refine op_is ?_ | with_reducible refine op_isnt ?_ | with_reducible refine cb_lenL ?_ | with_reducible refine cb_lenT ?_ | with_reducible refine cb_listT ?_ | with_reducible refine cb_listL ?_ | with_reducible refine cb_tupL ?_ | with_reducible refine cb_int ?_ | with_reducible refine cb_max2 ?_ | with_reducible refine cb_min2 ?_ | with_reducible refine it_list ?_ | with_reducible refine it_tup ?_ | with_reducible refine itn_1 ?_ | with_reducible refine it_rng2 ?_ | with_reducible refine it_rev ?_ | with_reducible refine itn_rev ?_ | with_reducible refine it_enum ?_ | with_reducible refine it_enumT ?_ | with_reducible refine it_zipT ?_ | with_reducible refine tcs_cons ?_ | with_reducible refine tcs_nil ?_ | with_reducible refine tg_name ?_ | with_reducible refine tgs_cons ?_ | with_reducible refine tgs_nil ?_
    | with_reducible refine ⟨_, rfl, ?_⟩
    | with_reducible refine ⟨_, _, rfl, ?_⟩
    | refine and_T ?_ | refine and_F ?_)
  | `(tactic| walk_at "d") => `(tactic| repeat walk_at "s")
theorem use_end {R : List (List Int)} {al ac sg : Bool} {h w m : Nat} {W : Nat → PyData → Prop} (k : OkT sg h w R) (hm : m ≤ 800000) (q : ∀ (m' : Nat) (T : List (List Int)), m' ≤ m + 120 → OkT sg h w T → Rch sg al ac h w R T → (al = true → Rt sg false h w T) → (ac = true → Rt sg true h w T) → W m' (tbl T)) : A_end m [tbl R, .bool al, .bool ac, .bool sg] W := ⟨(R, al, ac, sg), rfl, ⟨⟨h, w, k⟩, hm⟩, fun m' d ⟨e1, T, h', w', e2, k1, k2, r, n1, n2⟩ => by
  have e3 : h' = h := k1.rows.symm.trans k.rows
  have e4 : w' = w := k1.toRect.width.symm.trans k.toRect.width
  subst e3 e4 e2
  exact q m' T e1 k2 r n1 n2⟩
theorem use_forth {R : List (List Int)} {ac sg : Bool} {h w ti m : Nat} {W : Nat → PyData → Prop} (k : OkT sg h w R) (ht : ti ≤ 10) (hm : m ≤ 800000) (q : ∀ (m' : Nat) (T : List (List Int)), m' ≤ m + 10 → OkT sg h w T → Fch sg ac h w R T → W m' (tbl T)) : A_forth m [tbl R, .bool ac, .bool sg, .int (ti : Nat)] W := ⟨(R, ac, sg, ti), rfl, ⟨⟨h, w, k⟩, ht, hm⟩, fun m' d ⟨e1, T, h', w', e2, k1, k2, r⟩ => by
  have e3 : h' = h := k1.rows.symm.trans k.rows
  have e4 : w' = w := k1.toRect.width.symm.trans k.toRect.width
  subst e3 e4 e2
  exact q m' T e1 k2 r⟩
/-- where both kinds end -/
structure Near (sg : Bool) (h w : Nat) (R S : List (List Int)) : Prop where
  way : Rch sg true true h w R S
  n1 : Rt sg false h w S
  n2 : Rt sg true h w S
abbrev badD (d : PyData) : PyData := .list [.str "bad", d]
/-- what is to be told -/
structure dueR (sg : Bool) (oA oB : Option (List (List Int))) (d : PyData) : Prop where
  no : (oA = none ∨ oA = some [] ∨ oB = none ∨ oB = some []) → d = badD .none
  tb : ∀ (A B : List (List Int)) (hA wA hB wB : Nat), oA = some A → oB = some B → OkT sg hA wA A → OkT sg hB wB B →
    (¬ Rt sg false hA wA A → d = badD (.str "names")) ∧ (Rt sg false hA wA A → ¬ Rt sg true hB wB B → d = badD (.str "columns")) ∧
    (Rt sg false hA wA A → Rt sg true hB wB B → ∃ nA nB, Near sg hA wA A nA ∧ Near sg hB wB B nB ∧ d = if nA = nB then .none else .list [.str "unlike", iv (nA.map List.sum)])
theorem backs_names {sg : Bool} {h w : Nat} {R : List (List Int)} (k : OkT sg h w R) : backsA sg R true false = [] ↔ Rt sg false h w R := by
  refine ⟨fun e => (backs_no k e).1 rfl, fun r => ?_⟩
  cases hb : backsA sg R true false with
  | nil => rfl
  | cons b bs =>
    rcases backs_in k (show b ∈ backsA sg R true false by rw [hb]; exact List.mem_cons_self) with ⟨_, l, hl, e⟩ | ⟨e, _⟩
    · rw [r l hl] at e; cases e
    · cases e
theorem backs_cols {sg : Bool} {h w : Nat} {R : List (List Int)} (k : OkT sg h w R) : backsA sg R false true = [] ↔ Rt sg true h w R := by
  refine ⟨fun e => (backs_no k e).2 rfl, fun r => ?_⟩
  cases hb : backsA sg R false true with
  | nil => rfl
  | cons b bs =>
    rcases backs_in k (show b ∈ backsA sg R false true by rw [hb]; exact List.mem_cons_self) with ⟨e, _⟩ | ⟨_, l, hl, e⟩
    · cases e
    · rw [r l hl] at e; cases e
theorem op_neB0 {K : PySem.W.Frag} {l : List (List (List Int))} {W : PyData → Prop} (w : W (.bool (!decide (l = [])))) : OpD (rNeD K) (.list (l.map tbl)) (.list []) W := by
  refine op_ned ((Sm.list fun x hx => by
    obtain ⟨Q, _, rfl⟩ := List.mem_map.mp hx
    exact sm_tbl Q : Sm 4 _).sh (by decide)) (by decide) ?_
  cases l with
  | nil => exact w
  | cons a l => exact w
def TabO (sg : Bool) (o : Option (List (List Int))) : Prop := ∃ R h w, o = some R ∧ OkT sg h w R
theorem side_fault {sg : Bool} {o : Option (List (List Int))} (h : Side sg o) : (faultD o = badD .none ∧ (o = none ∨ o = some [])) ∨ (faultD o = .none ∧ TabO sg o) := by
  rcases h with e | e | ⟨R, hh, ww, e, k⟩
  · subst e; exact .inl ⟨rfl, .inl rfl⟩
  · subst e; exact .inl ⟨rfl, .inr rfl⟩
  · subst e
    obtain ⟨r0, R0, eR, _⟩ := k.toRect.head
    refine .inr ⟨?_, R, hh, ww, rfl, k⟩
    rw [eR]; rfl
def A_due : AS := fnSm (fun p : IJr => [optT p.1, optT p.2.1, .bool p.2.2]) (fun p m => (Side p.2.2 p.1 ∧ Side p.2.2 p.2.1) ∧ m ≤ 700000) fun p m m' d => m' ≤ m + 240 ∧ dueR p.2.2 p.1 p.2.1 d
theorem use_due {oA oB : Option (List (List Int))} {sg : Bool} {m : Nat} {W : Nat → PyData → Prop} (hA : Side sg oA) (hB : Side sg oB) (hm : m ≤ 700000) (q : ∀ (m' : Nat) (d : PyData), m' ≤ m + 240 → dueR sg oA oB d → W m' d) : A_due m [optT oA, optT oB, .bool sg] W := ⟨(oA, oB, sg), rfl, ⟨⟨hA, hB⟩, hm⟩, fun m' d ⟨e1, e2⟩ => q m' d e1 e2⟩
theorem one_due {m : Nat} {a b c : PyData} {e4 e5 e6 : Ent} (h4 : isSt e4 = false) (h6 : isSt e6 = false) (h5 : isSt e5 = false := by rfl) : oneSt [.st m, .dat a, .dat b, .dat c, e4, e5, e6] 0 := one_of (by
  simp [oneB, h4, h5, h6]
  exact ⟨rfl, rfl, rfl⟩)
theorem sc_law_due : FnScope ["_law_state", "_law_one", "_law_other", "_law_signed", "_law_side", "_law_near", "_law_fault_here"] ["_law_state", "_law_one", "_law_other", "_law_signed"] (defScope s_law_due) := ⟨rfl, rfl, rfl, by decide +kernel, rfl, by decide +kernel, by decide +kernel⟩
theorem ok_law_due {P : Program} {w : World} {K : PySem.W.Frag} {mg : Str → Option Value} {base : Heap}  (T : Tx K mg) (c_law_fault : Cal P w K mg base 1 "_law_fault" (spG A_fault)) (c_law_backs : Cal P w K mg base 4 "_law_backs" (spG A_backs)) (c_law_end : Cal P w K mg base 5 "_law_end" (spS A_end)) (c_law_sums : Cal P w K mg base 1 "_law_sums" (spG A_sums))  : Cal P w K mg base 6 "_law_due" (spS A_due) := by
  obtain ⟨fd, F⟩ := T.sd.def_ 60 (d := d_law_due) rfl
  have S := sc_law_due
  refine ⟨⟨fd, ["_law_state", "_law_one", "_law_other", "_law_signed"], ok_st (k := 5) F S (fnS_len fun _ => rfl) (fun cd Ar outer s H E S0 m xs W hr h => ?_), F.bindsN fun _ _ _ _ _ _ us hl => match us, hl with | [_, _, _, _], _ => rfl⟩, T.g 60, F.kp⟩
  obtain ⟨⟨oA, oB, sg⟩, e, pr, h⟩ := h
  subst e
  refine ⟨_, (pss_cons (ps_for PassesOwn.never rfl (pi_tup (pe_tupZ (pa_cons (pv 1) (pa_cons (pv 2) pa_nil)))) (pg_name (i := 4) S.nd rfl (by first | exact Or.inl rfl | exact Or.inr rfl)) (pss_cons (ps_set (i := 6) S.nd rfl (by first | exact Or.inl rfl | exact Or.inr rfl) (pe_cl c_law_fault hr (by omega) (by rfl) (pa_cons (pv 4) (pa_cons (pv 3) pa_nil)))) (pss_one (ps_if (pt_cmpR op_notN (pv 6) pe_non (nomark _)) (pss_one (ps_ret (pv 6))) pss_nil)))) (pss_cons (ps_if (pt_cmpR (op_neD hr.units) (pe_cl c_law_backs hr (by omega) (by rfl) (pa_cons (pv 1) (pa_cons pe_bl (pa_cons pe_bl (pa_cons (pv 3) pa_nil))))) (pe_lst pa_nil) (nomark _)) (pss_one (ps_ret (pe_lst (pa_cons pe_str (pa_cons pe_str pa_nil))))) pss_nil) (pss_cons (ps_if (pt_cmpR (op_neD hr.units) (pe_cl c_law_backs hr (by omega) (by rfl) (pa_cons (pv 2) (pa_cons pe_bl (pa_cons pe_bl (pa_cons (pv 3) pa_nil))))) (pe_lst pa_nil) (nomark _)) (pss_one (ps_ret (pe_lst (pa_cons pe_str (pa_cons pe_str pa_nil))))) pss_nil) (pss_cons (ps_set (i := 5) S.nd rfl (by first | exact Or.inl rfl | exact Or.inr rfl) (pe_cl c_law_end hr (by omega) (by rfl) (pa_cons (pv 0) (pa_cons (pv 1) (pa_cons pe_bl (pa_cons pe_bl (pa_cons (pv 3) pa_nil))))))) (pss_cons (ps_if (pt_cmpR (op_eqD hr.units) (pv 5) (pe_cl c_law_end hr (by omega) (by rfl) (pa_cons (pv 0) (pa_cons (pv 2) (pa_cons pe_bl (pa_cons pe_bl (pa_cons (pv 3) pa_nil)))))) (nomark _)) (pss_one (ps_ret pe_non)) pss_nil) (pss_one (ps_ret (pe_lst (pa_cons pe_str (pa_cons (pe_cl c_law_sums hr (by omega) (by rfl) (pa_cons (pv 5) pa_nil)) pa_nil)))))))))), ?_⟩
  show StD S0 _ _ [Ent.st m, Ent.dat _, Ent.dat _, Ent.dat _, Ent.no, Ent.no, Ent.no]
  try dsimp only at h pr ⊢
  obtain ⟨⟨sA, sB⟩, hm⟩ := pr
  walk_at "d"
  refine st_for (Pd := Da) ?_
  walk_at "d"
  refine ⟨fun i ds => ∃ e4 e6, ds = [Ent.st m, Ent.dat (optT oA), Ent.dat (optT oB), Ent.dat (.bool sg), e4, Ent.no, e6] ∧ isSt e4 = false ∧ isSt e6 = false ∧ (0 < i → TabO sg oA) ∧ (1 < i → TabO sg oB), ⟨_, _, rfl, rfl, rfl, fun z => absurd z (by decide), fun z => absurd z (by decide)⟩, fun i d ds2 e1 iv2 => ?_, fun ds2 iv2 => ?_⟩
  · obtain ⟨e4, e6, rfl, i4, i6, tA, tB⟩ := iv2
    have hi : i < 2 := (List.getElem?_eq_some_iff.mp e1).1
    by_cases z0 : i = 0
    · subst z0
      cases e1
      walk_at "d"
      refine use_fault sA ?_
      rcases side_fault sA with ⟨e, z⟩ | ⟨e, z⟩
      · rw [e]
        walk_at "d"
        exact h _ _ ⟨by omega, fun _ => rfl, fun A B hA wA hB wB q1 q2 k1 k2 => by
          rcases z with z | z
          · rw [z] at q1; cases q1
          · rw [z] at q1
            cases q1
            have := k1.rows
            have := k1.hb
            simp at *; omega⟩
      · rw [e]
        walk_at "d"
        exact ⟨rfl, rfl, fun _ => z, fun y => absurd y (by decide)⟩
    · have z1 : i = 1 := by omega
      subst z1
      cases e1
      walk_at "d"
      refine use_fault sB ?_
      rcases side_fault sB with ⟨e, z⟩ | ⟨e, z⟩
      · rw [e]
        walk_at "d"
        exact h _ _ ⟨by omega, fun _ => rfl, fun A B hA wA hB wB q1 q2 k1 k2 => by
          rcases z with z | z
          · rw [z] at q2; cases q2
          · rw [z] at q2
            cases q2
            have := k2.rows
            have := k2.hb
            simp at *; omega⟩
      · rw [e]
        walk_at "d"
        exact ⟨rfl, rfl, fun _ => tA (by decide), fun _ => z⟩
  · obtain ⟨e4, e6, rfl, i4, i6, tA, tB⟩ := iv2
    obtain ⟨A, hA, wA, rfl, kA⟩ := tA (Nat.zero_lt_succ _)
    obtain ⟨B, hB, wB, rfl, kB⟩ := tB (Nat.lt_succ_self 1)
    have h : ∀ (m' : Nat) (d : PyData), m' ≤ m + 240 → ((¬ Rt sg false hA wA A → d = badD (.str "names")) ∧ (Rt sg false hA wA A → ¬ Rt sg true hB wB B → d = badD (.str "columns")) ∧
        (Rt sg false hA wA A → Rt sg true hB wB B → ∃ nA nB, Near sg hA wA A nA ∧ Near sg hB wB B nB ∧ d = if nA = nB then .none else .list [.str "unlike", iv (nA.map List.sum)])) → W m' d := fun m' d l q => h m' d ⟨l, fun z => by
          have a1 : A ≠ [] := fun e => by have := kA.rows; have := kA.hb; rw [e] at *; simp at *; omega
          have a2 : B ≠ [] := fun e => by have := kB.rows; have := kB.hb; rw [e] at *; simp at *; omega
          rcases z with z | z | z | z
          · cases z
          · exact absurd (Option.some.inj z) a1
          · cases z
          · exact absurd (Option.some.inj z) a2, fun A' B' hA' wA' hB' wB' e1 e2 k1 k2 => by
          cases e1
          cases e2
          have x1 : hA' = hA := k1.rows.symm.trans kA.rows
          have x2 : wA' = wA := k1.toRect.width.symm.trans kA.toRect.width
          have x3 : hB' = hB := k2.rows.symm.trans kB.rows
          have x4 : wB' = wB := k2.toRect.width.symm.trans kB.toRect.width
          subst x1 x2 x3 x4
          exact q⟩
    show StD S0 _ _ [Ent.st m, Ent.dat (tbl A), Ent.dat (tbl B), Ent.dat (.bool sg), e4, Ent.no, e6]
    walk_at "d"
    refine use_backs kA ?_
    walk_at "d"
    refine op_neB0 ?_
    walk_at "d"
    refine ⟨fun e => ?_, fun e => ?_⟩
    · walk_at "d"
      have n1 : ¬ Rt sg false hA wA A := fun r => by
        rw [(backs_names kA).mpr r] at e
        cases e
      exact h _ _ (by omega) ⟨fun _ => rfl, fun r => absurd r n1, fun r => absurd r n1⟩
    have r1 : Rt sg false hA wA A := by
      refine (backs_names kA).mp ?_
      by_cases z : backsA sg A true false = []
      · exact z
      · rw [decide_eq_false z] at e; cases e
    walk_at "d"
    refine use_backs kB ?_
    walk_at "d"
    refine op_neB0 ?_
    walk_at "d"
    refine ⟨fun e => ?_, fun e => ?_⟩
    · walk_at "d"
      have n1 : ¬ Rt sg true hB wB B := fun r => by
        rw [(backs_cols kB).mpr r] at e
        cases e
      exact h _ _ (by omega) ⟨fun r => absurd r1 r, fun _ _ => rfl, fun _ r => absurd r n1⟩
    have r2 : Rt sg true hB wB B := by
      refine (backs_cols kB).mp ?_
      by_cases z : backsA sg B false true = []
      · exact z
      · rw [decide_eq_false z] at e; cases e
    walk_at "d"
    refine ev_callS (i := 0) (m := m) rfl ?_
    walk_at "d"
    refine ⟨one_due i4 i6, use_end kA (by omega) fun m1 nA hm1 kn w1 x1 x2 => ?_⟩
    walk_at "d"
    refine ev_callS (i := 0) (m := m1) rfl ?_
    walk_at "d"
    refine ⟨one_due i4 i6, use_end kB (by omega) fun m2 nB hm2 kn2 w2 y1 y2 => ?_⟩
    refine op_eqT ?_
    have fin := h m2 (if nA = nB then .none else .list [.str "unlike", iv (nA.map List.sum)]) (by omega) ⟨fun z => absurd r1 z, fun _ z => absurd r2 z, fun _ _ => ⟨nA, nB, ⟨w1, x1 rfl, x2 rfl⟩, ⟨w2, y1 rfl, y2 rfl⟩, rfl⟩⟩
    walk_at "d"
    refine ⟨fun e => ?_, fun e => ?_⟩
    · rw [if_pos (of_decide_eq_true e)] at fin
      walk_at "d"
      exact fin
    · rw [if_neg (of_decide_eq_false e)] at fin
      have kr := kn.rows
      have kh := kn.hb
      walk_at "d"
      refine ⟨nA, rfl, show nA.length ≤ 100 by omega, ?_⟩
      walk_at "d"
      exact fin
end JR
set_option Elab.async false
set_option linter.all false
set_option maxRecDepth 100000
set_option maxHeartbeats 4000000
/-! repr of data; defs that are promised only where no repr is under way. -/
namespace JR
open PySem PySem.Spec L2
/-- data that repr writes -/
structure ShowOk (d : PyData) : Prop where
  disp : (∃ xs, d = .list xs) ∨ ∃ xs, d = .tuple xs
  sh : d.showable = true
  nd : d.hasDict = false
  dp : d.depth ≤ 50
  sz : d.shown.length ≤ sizeLine
section
variable {X : Cx} {pins : List (Addr × Obj)} {σ : L2.St} {H : Hp} {s : Shared}
mutual
theorem Da.reads (I : Inv X pins σ H s) : ∀ {d : PyData} {v : V} {u : Value}, Da H v d → RelV v u → ∃ as, Reads s.heap u d as
  | _, _, _, .non, r => by
    cases r
    exact ⟨_, .none⟩
  | _, _, _, .bl b, r => by
    cases r
    exact ⟨_, .bool b⟩
  | _, _, _, .int i, r => by
    obtain ⟨t, rfl⟩ := r
    exact ⟨_, .int i t⟩
  | _, _, _, .str x, r => by
    obtain ⟨t, rfl⟩ := r
    exact ⟨_, .str x t⟩
  | _, _, _, .lst h a, r => by
    cases r
    obtain ⟨_, its, n, rv, _, hg⟩ := I.lstM h
    obtain ⟨as, q⟩ := DaAll.reads I a rv
    exact ⟨_, .list hg rfl rfl q⟩
  | _, _, _, .tup h a, r => by
    cases r
    obtain ⟨o, _, ho⟩ := h
    obtain ⟨g, _, its, rv, o', g', hc, n, hd⟩ := show ObjOk X.prog X.w H s.heap _ (.frz o (.tup _)) from I.hok _ _ ho
    obtain ⟨as, q⟩ := DaAll.reads I a rv
    exact ⟨_, .tuple g' hc hd q⟩
theorem DaAll.reads (I : Inv X pins σ H s) : ∀ {ds : List PyData} {vs : List V} {us : List Value}, DaAll H vs ds → Vals vs us → ∃ as, ReadsAll s.heap us ds as
  | _, _, _, .nil, r => by
    cases r
    exact ⟨_, .nil⟩
  | _, _, _, .cons a as, r => by
    cases r with
    | cons r1 r2 =>
      obtain ⟨l1, q1⟩ := Da.reads I a r1
      obtain ⟨l2, q2⟩ := DaAll.reads I as r2
      exact ⟨_, .cons q1 q2⟩
end
end
def rReprD : List V → Hp → VK → Prop := fun vs H Q => ∃ (v : V) (d : PyData), vs = [v] ∧ Da H v d ∧ ShowOk d ∧ Q (.str d.shown) H
theorem call_reprD {X : Cx} (hg : X.A.guards = some []) (hu : X.A.units + 64 < cLine) : CallR X (.builtin "repr") rReprD := by
  rintro pins s σ H vs us Q I r ⟨v, d, rfl, a, ok, q⟩
  cases r with
  | @cons v u _ _ r0 r1 =>
    cases r1
    obtain ⟨as, rd⟩ := Da.reads I a r0
    have ex : ∃ b, u = .ref b := by
      rcases ok.disp with ⟨xs, rfl⟩ | ⟨xs, rfl⟩
      · cases rd
        exact ⟨_, rfl⟩
      · cases rd
        exact ⟨_, rfl⟩
    obtain ⟨b, rfl⟩ := ex
    refine repr_of_reads' rd ok.sh (PyData.noDict_hsm ok.nd) hg (by have := ok.dp; omega) (fun _ _ e => e) (fun h' t tk hk => ?_) ok.sz
    exact ⟨.str d.shown, H, I.kept hk, ⟨t, rfl⟩, q⟩
/-! ### promised where guards = [] -/
structure FnOkG (P : Program) (w : World) (K : PySem.W.Frag) (mg : Str → Option Value) (base : Heap) (k : Nat) (f : Addr) (fd : FuncData) (ps : List Str) (sp : Sp) : Prop where
  len : ∀ vs H Q E, sp vs H Q E → vs.length = ps.length
  run : ∀ (A : Around) (outer : List Env) (s : Shared) (H : Hp) (args : Args) (us : List Value) (vs : List V) (Q : VK) (E : XK), Room k A → A.guards = some [] → Env0 P w K mg base A outer s H → BindsTo s fd args (ps.zip us) → Vals vs us → sp vs H Q E →
    codeAny (model P w) A (.call (.ref f) args) (CR (L2.CX P w) outer P w H s Q E) s
structure CalG (P : Program) (w : World) (K : PySem.W.Frag) (mg : Str → Option Value) (base : Heap) (k : Nat) (x : Str) (sp : Sp) : Prop where
  ex : ∃ (fd : FuncData) (ps : List Str), FnOkG P w K mg base k (He.ga K x) fd ps sp ∧ Binds K fd ps []
  mgx : mg x = some (.ref (He.ga K x))
  kp : PySem.W.keepIn K (.ref (He.ga K x)) = true
section
variable {X : Cx} {x : Str} {k j : Nat} {sp : Sp} {p pos : Pos} {e : Expr} {es : List Expr} {t : TA}
theorem pe_clG (c : CalG X.prog X.w X.K X.mg X.base k x sp) (gd : X.A.guards = some []) (hr : Room j X.A) (hk : k ≤ j) (hg : Gl X x) (ha : PA X (e :: es) t)
    (hdb : (x == ("__debug__" : Str)) = false := by decide) (he : starEach (e :: es) X.env = (false, eval e X.env) :: starEach es X.env := by rfl) (hpl : (backTo pos (starEach es X.env)).any (·.1) = false := by rfl) :
    PE X (.Call (.Name x p) (e :: es) [] pos) (tCall sp [] xno t) := by
  obtain ⟨⟨fd, ps, F, b⟩, hm, kp⟩ := c
  refine ⟨fun pins s σ H Q I h => wpAny_Call_Name_kw (ld_glob I hg hm ?_ hdb)⟩
  refine PySem.W.callWith_K (h₀ := X.base) I.ok.mod.kin kp (thn (ha.run pos pins s σ H _ I h) fun us s1 ⟨vs, H1, I1, r, q⟩ => ⟨I1.kIn, ?_⟩) he hpl
  have q : sp (vs ++ []) H1 Q xno := q
  have r2 : Vals (vs ++ []) (us ++ []) := r.append .nil
  have hl : (us ++ []).length = ps.length := by rw [← r2.length]; exact F.len _ _ _ _ q
  refine wpAny_call (codeAny_mono (F.run X.A X.stack s1 H1 ⟨us, []⟩ (us ++ []) (vs ++ []) Q xno (hr.mono hk) gd I1.env0 (b s1 us I1.kIn hl) r2 q) fun r s' hq => ?_)
  match r, hq with
  | .error e, hq => exact passN pins σ H1 s1 e s' I1 hq
  | .ok (.ret u), hq => exact I1.after hq
end
theorem fnG_of {P : Program} {w : World} {K : PySem.W.Frag} {mg : Str → Option Value} {base : Heap} {k : Nat} {f : Addr} {fd : FuncData} {name qual : Str} {pa : Arguments} {body : List Stmt} {sc : Scope} {N ps : List Str} {sp : Sp}
    (F : FunD K name qual pa body sc [] [] f fd) (S : FnScope N ps sc) (len : ∀ vs H Q E, sp vs H Q E → vs.length = ps.length)
    (hb : ∀ (cd : Value) (A : Around) (outer : List Env) (s : Shared) (H : Hp) (vs : List V) (Q : VK) (E : XK), Room k (A.deeper (PyProof.Rows.envOfC qual sc s.heap.objs.size f cd)) → A.guards = some [] → sp vs H Q E →
      ∃ t, PSs (cxP P w K mg base N qual sc f cd A outer s H E) body t ∧ t { nx := fun _ H' => Q .non H', rt := Q } (start N vs) H) : FnOkG P w K mg base (k + 1) f fd ps sp := by
  obtain ⟨oc, od, dV, kV, doc, pm, an, cdv, ct, osl, rfl, lk, hcd, _, _⟩ := F.ex
  refine ⟨len, fun A outer s H args us vs Q E hr gd e0 hbd r hsp => ?_⟩
  have hl := len _ _ _ _ hsp
  have kx : K.In s.heap := e0.mod.kin.keeps fun b o e => (e0.bs b o e).1
  have lim : s.heap.NoLimit := e0.mod.nolimit.keeps fun b o e => (e0.bs b o e).1
  have kinds : ∀ y ∈ ps.zip us, sc.names.lookup y.1 = some .local ∨ (sc.names.lookup y.1 = some .cell ∧ ((cellsFrom (s.heap.objs.size + 1) sc.names []).lookup y.1).isSome = true) := by
    intro ⟨n, v⟩ hy
    rcases S.par n (List.of_mem_zip hy).1 with q | q
    · exact .inl q
    · exact .inr ⟨q, PySem.W.cellsFrom_some _ _ _ (.inl q)⟩
  refine codeAny_call_function hr.depth (kx _ _ lk) rfl S.co S.gen rfl (PySem.W.codeRec_of kx hcd) (hbd _ _ _ _ ?_)
  refine wpAny_newFunctionEnv_cells S.kind kinds fun env he s1 z => ?_
  subst he
  refine ⟨lim.keeps z.toInCall.keep, codeAny_func ?_⟩
  obtain ⟨t, ht, hq⟩ := hb cdv A outer s H vs Q E (hr.deeper _) gd hsp
  have I : Inv (cxP P w K mg base N qual sc f cdv A outer s H E) [] (start N vs) H s1 := inv_start S hr.hd e0 hl r z
  refine wpAny_mono (ht.run [] s1 (start N vs) H _ I hq) (fun fl s' hs => ?_) fun e s' hs => hs
  cases fl with
  | ret u =>
    obtain ⟨v, σ', H', J, rv, q⟩ := hs
    exact ⟨v, H', J.os, J.bare, J.base, J.hok, rv, q⟩
  | next =>
    obtain ⟨σ', H', J, q⟩ := hs
    exact ⟨.non, H', J.os, J.bare, J.base, J.hok, rfl, q⟩
  | brk =>
    obtain ⟨_, _, _, q⟩ := hs
    exact q.elim
  | cont =>
    obtain ⟨_, _, _, q⟩ := hs
    exact q.elim
section
variable {P : Program} {w : World} {K : PySem.W.Frag} {mg : Str → Option Value} {base : Heap} {k : Nat} {f : Addr} {fd : FuncData} {name qual : Str} {pa : Arguments} {body : List Stmt} {sc : Scope} {N ps : List Str}
theorem okG_pure {A : AD} (F : FunD K name qual pa body sc [] [] f fd) (S : FnScope N ps sc) (len : ∀ xs W, A xs W → xs.length = ps.length)
    (hb : ∀ (cd : Value) (Ar : Around) (outer : List Env) (s : Shared) (H : Hp) (E : XK) (xs : List PyData) (W : PyData → Prop), (Ar.deeper (PyProof.Rows.envOfC qual sc s.heap.objs.size f cd)).guards = some [] → Room k (Ar.deeper (PyProof.Rows.envOfC qual sc s.heap.objs.size f cd)) → A xs W →
      ∃ t, PSs (cxP P w K mg base N qual sc f cd Ar outer s H E).nox body t ∧ StD none t { nx := fun _ => W .none, rt := fun _ d => W d } (ent0 N.length xs)) : FnOkG P w K mg base (k + 1) f fd ps (spG A) := by
  have hpl : ps.length ≤ N.length := by
    have z := congrArg List.length S.pre
    rw [List.length_take] at z
    omega
  refine fnG_of F S (fun vs H Q E ⟨F, xs, W, e1, e2, h, q⟩ => e2.length.trans (len xs W h)) fun cd Ar outer s H vs Q E hr gd ⟨F, xs, W, e1, e2, h, q⟩ => ?_
  obtain ⟨t, h1, h2⟩ := hb cd Ar outer s H E xs W gd hr h
  refine ⟨t, h1.nox, h2 H F F H _ _ (Ext.refl e1) (ents_start e1 e2 (by rw [e2.length, len xs W h]; exact hpl)) ⟨?_, ?_, fun _ _ _ _ _ _ z => z.elim, fun _ _ _ _ _ _ z => z.elim, fun _ _ _ _ _ _ _ _ _ _ _ _ z => z.elim⟩⟩
  · exact fun F' H' σ' ds' x I w => q _ F' H' _ x .non w
  · exact fun F' H' σ' ds' v d x I a w => q v F' H' d x a w
theorem okG_st {A : AS} (F : FunD K name qual pa body sc [] [] f fd) (S : FnScope N ps sc) (len : ∀ m xs W, A m xs W → xs.length + 1 = ps.length)
    (hb : ∀ (cd : Value) (Ar : Around) (outer : List Env) (s : Shared) (H : Hp) (E : XK) (S : SA) (m : Nat) (xs : List PyData) (W : Nat → PyData → Prop), (Ar.deeper (PyProof.Rows.envOfC qual sc s.heap.objs.size f cd)).guards = some [] → Room k (Ar.deeper (PyProof.Rows.envOfC qual sc s.heap.objs.size f cd)) → A m xs W →
      ∃ t, PSs (cxP P w K mg base N qual sc f cd Ar outer s H E).nox body t ∧
        StD S t { nx := fun _ => False, rt := fun ds d => ∃ m', ds[0]? = some (.st m') ∧ W m' d } (.st m :: ent0 (N.length - 1) xs)) : FnOkG P w K mg base (k + 1) f fd ps (spS A) := by
  have hpl : ps.length ≤ N.length := by
    have z := congrArg List.length S.pre
    rw [List.length_take] at z
    omega
  refine fnG_of F S (fun vs H Q E ⟨S, F, m, v0, vr, xs, W, ev, e1, fS, s0, e2, h, q⟩ => ?_) fun cd Ar outer s H vs Q E hr gd ⟨S, F, m, v0, vr, xs, W, ev, e1, fS, s0, e2, h, q⟩ => ?_
  · rw [ev, List.length_cons, e2.length]
    exact len m xs W h
  · subst ev
    obtain ⟨t, h1, h2⟩ := hb cd Ar outer s H E S m xs W gd hr h
    have l0 := len m xs W h
    refine ⟨t, h1.nox, h2 H F F H _ _ (Ext.refl e1) (ents_startS e1 fS s0 e2 (by rw [e2.length]; omega)) ⟨fun _ _ _ _ _ _ z => z.elim, ?_, fun _ _ _ _ _ _ z => z.elim, fun _ _ _ _ _ _ z => z.elim, fun _ _ _ _ _ _ _ _ _ _ _ _ z => z.elim⟩⟩
    intro F' H' σ' ds' v d x I a ⟨m', w1, w2⟩
    obtain ⟨v1, _, g2⟩ := I.at_ 0 _ w1
    have e : v1 = v0 := by
      obtain ⟨a1, l1, q1, q2⟩ := g2.shape
      obtain ⟨a2, l2, q3, q4⟩ := s0.shape
      rw [q1] at q3
      cases q3
      rw [q2, q4]
    subst e
    exact q v F' H' m' d x g2 I.fS a w2
end
section
variable {S : SA} {ds : List Ent} {W : List Ent → PyData → Prop} {te : TE}
/-- repr(e) -/
theorem ev_repr (h : EvD S te ds fun ds1 d => ShowOk d ∧ W ds1 (.str d.shown)) : EvD S (tCB rReprD (tCons te tNil)) ds W := fun H0 F H σ Q I q =>
  h H0 F H σ _ I fun v F1 H1 ds1 d x1 I1 a1 ⟨ok, w⟩ => ⟨v, d, rfl, a1.mono I1.fh, ok, q _ F1 H1 ds1 _ x1 I1 (.str _) w⟩
end
end JR
set_option pp.maxSteps 2500
set_option Elab.async false
set_option linter.all false
set_option maxRecDepth 100000
set_option maxHeartbeats 2000000
namespace JR
open PySem PySem.Spec L2 RZ
local macro_rules
  | `(tactic| walk_at "s") => `(tactic| first
    | ((with_reducible apply ev_var); exact rfl) | with_reducible refine ev_isiI ?_ | with_reducible refine ev_isiB ?_ | with_reducible refine ev_isiT ?_ | with_reducible refine ev_isiS ?_ | ((with_reducible refine st_append ?_ ?_); rotate_left; exact ⟨_, rfl⟩) | ((with_reducible apply st_pop); exact rfl) | ((with_reducible apply et_ownNe); exact rfl) | ((with_reducible apply op_i); exact rfl) | ((with_reducible apply it_rgV); exact rfl) | ((with_reducible apply op_inW); exact rfl) | ((with_reducible apply op_ixT); exact rfl) | ((with_reducible apply op_ixL); exact rfl) | ((with_reducible refine And.intro (le_lit ?_) ?_); exact rfl) | ((with_reducible apply op_b); exact rfl) | ((with_reducible apply tc_name); decide) | ((with_reducible apply tc_tup); exact rfl) | ((with_reducible apply tg_tup); exact rfl) | ((with_reducible apply tg_tupD); exact rfl) | ((with_reducible apply tc_tupD); exact rfl)
    | with_reducible refine st_seq ?_ | with_reducible refine st_ret ?_ | with_reducible refine st_next ?_ | with_reducible refine st_if ?_ | with_reducible refine st_par_own2 ?_ | with_reducible refine st_par_own ?_ | with_reducible refine st_rng ?_ | with_reducible refine st_par ?_ | with_reducible refine st_own ?_ | with_reducible refine st_asg ?_ | with_reducible refine st_unpack ?_ | with_reducible refine st_drop ?_ | with_reducible refine st_break ?_ | with_reducible refine ev_int ?_ | with_reducible refine ev_str ?_ | with_reducible refine ev_bl ?_ | with_reducible refine ev_non ?_ | with_reducible refine ev_op ?_ | with_reducible refine ev_un ?_ | with_reducible refine ev_if ?_ | with_reducible refine ev_andV ?_ | with_reducible refine ev_orV ?_ | with_reducible refine ev_notV ?_ | with_reducible refine ev_tup ?_ | with_reducible refine ev_lst ?_ | with_reducible refine ea_nil ?_ | with_reducible refine ea_cons ?_ | with_reducible refine ev_call ?_ | with_reducible refine ev_callN ?_ | with_reducible refine ev_cb ?_ | with_reducible refine ev_sl ?_ | with_reducible refine eo_none ?_ | with_reducible refine eo_some ?_ | with_reducible refine ev_revL ?_ | with_reducible refine ev_revT ?_ | with_reducible refine evn_lrg ?_ | with_reducible refine ev_bmT ?_ | with_reducible refine et_test ?_ | with_reducible refine et_B ?_ | with_reducible refine et_and ?_ | with_reducible refine et_or ?_ | with_reducible refine et_not ?_ | with_reducible refine et_yes ?_ | with_reducible refine ev_chain ?_ | with_reducible refine op_eqI ?_ | with_reducible refine op_neI ?_ | with_reducible refine op_eqS ?_ | with_reducible refine op_neS ?_ | with_reducible refine op_eqB ?_ | with_reducible refine op_neB ?_ | with_reducible refine op_inIn ?_ | with_reducible refine ud_neg ?_ | with_reducible refine op_is ?_ | with_reducible refine op_isnt ?_ | with_reducible refine cb_lenL ?_ | with_reducible refine cb_lenT ?_ | with_reducible refine cb_listT ?_ | with_reducible refine cb_listL ?_ | with_reducible refine cb_tupL ?_ | with_reducible refine cb_int ?_ | with_reducible refine cb_max2 ?_ | with_reducible refine cb_min2 ?_ | with_reducible refine it_list ?_ | with_reducible refine it_tup ?_ | with_reducible refine itn_1 ?_ | with_reducible refine it_rng2 ?_ | with_reducible refine it_rev ?_ | with_reducible refine itn_rev ?_ | with_reducible refine it_enum ?_ | with_reducible refine it_enumT ?_ | with_reducible refine it_zipT ?_ | with_reducible refine tcs_cons ?_ | with_reducible refine tcs_nil ?_ | with_reducible refine tg_name ?_ | with_reducible refine tgs_cons ?_ | with_reducible refine tgs_nil ?_
    | with_reducible refine ⟨_, rfl, ?_⟩
    | with_reducible refine ⟨_, _, rfl, ?_⟩
    | refine and_T ?_ | refine and_F ?_)
  | `(tactic| walk_at "d") => `(tactic| repeat walk_at "s")
theorem cb_repr {d : PyData} {W : PyData → Prop} (ok : ShowOk d) (w : W (.str d.shown)) : CbD rReprD [d] W := fun F H vs Q s a q => by
  cases a with
  | cons a r =>
    cases r
    exact ⟨_, d, rfl, a.mono s, ok, q _ F H _ (Ext.refl s) (.str _) w⟩
def A_like : AD := fnA (fun p : PyData × PyData => [p.1, p.2]) (fun p => ShowOk p.1 ∧ ShowOk p.2) fun p => .bool (p.1.shown == p.2.shown)
theorem use_like {a b : PyData} {W : PyData → Prop} (h1 : ShowOk a) (e : a = b) (q : W (.bool true)) : A_like [a, b] W := by
  subst e
  refine ⟨(a, a), rfl, ⟨h1, h1⟩, ?_⟩
  show W (.bool (a.shown == a.shown))
  rw [beq_self_eq_true]
  exact q
theorem sc_law_like : FnScope ["_law_got", "_law_due_here"] ["_law_got", "_law_due_here"] (defScope s_law_like) := ⟨rfl, rfl, rfl, by decide +kernel, rfl, by decide +kernel, by decide +kernel⟩
theorem ok_law_like {P : Program} {w : World} {K : PySem.W.Frag} {mg : Str → Option Value} {base : Heap}  (T : Tx K mg)   : CalG P w K mg base 1 "_law_like" (spG A_like) := by
  obtain ⟨fd, F⟩ := T.sd.def_ 48 (d := d_law_like) rfl
  have S := sc_law_like
  refine ⟨⟨fd, ["_law_got", "_law_due_here"], okG_pure (k := 0) F S (fnA_len fun _ => rfl) (fun cd Ar outer s H E xs W hg hr h => ?_), F.bindsN fun _ _ _ _ _ _ us hl => match us, hl with | [_, _], _ => rfl⟩, T.g 48, F.kp⟩
  obtain ⟨⟨a, b⟩, e, pr, h⟩ := h
  subst e
  refine ⟨_, (pss_one (ps_ret (pe_cmpR op_eq (pe_callB (call_reprD hg hr.units) (by rfl) (T.n 84) (by decide +kernel) (pa_cons (pv 0) pa_nil)) (pe_callB (call_reprD hg hr.units) (by rfl) (T.n 84) (by decide +kernel) (pa_cons (pv 1) pa_nil)) (nomark _)))), ?_⟩
  show StD none _ _ [Ent.dat _, Ent.dat _]
  try dsimp only at h pr ⊢
  walk_at "d"
  obtain ⟨o1, o2⟩ := pr
  refine cb_repr o1 ?_
  walk_at "d"
  refine cb_repr o2 ?_
  refine op_eqS ?_
  exact h
end JR
set_option Elab.async false
set_option linter.all false
/-! Two functions whose first greatest place (or last least place) is moved by one another's moves. Plain Lean. -/
namespace JRM

def pre (f : Nat → Int) : Nat → Int
  | 0 => 0
  | n + 1 => pre f n + f n
theorem pre_succ (f : Nat → Int) (n : Nat) : pre f (n + 1) = pre f n + f n := rfl
theorem pre_congr {f g : Nat → Int} : ∀ {n : Nat}, (∀ k, k < n → f k = g k) → pre f n = pre g n
  | 0, _ => rfl
  | n + 1, h => by
    rw [pre_succ, pre_succ, pre_congr (n := n) fun k hk => h k (by omega), h n (by omega)]
theorem pre_add (f g : Nat → Int) : ∀ n, pre (fun k => f k + g k) n = pre f n + pre g n
  | 0 => rfl
  | n + 1 => by
    rw [pre_succ, pre_succ, pre_succ, pre_add f g n]; omega
theorem pre_sub (f g : Nat → Int) : ∀ n, pre (fun k => f k - g k) n = pre f n - pre g n
  | 0 => rfl
  | n + 1 => by
    rw [pre_succ, pre_succ, pre_succ, pre_sub f g n]; omega
theorem pre_zero : ∀ n, pre (fun _ => 0) n = 0
  | 0 => rfl
  | n + 1 => by rw [pre_succ, pre_zero n]; rfl
theorem pre_at (k : Nat) (v : Int) : ∀ n, pre (fun c => if c = k then v else 0) n = if k < n then v else 0
  | 0 => by rw [if_neg (by omega)]; rfl
  | n + 1 => by
    rw [pre_succ, pre_at k v n]
    by_cases h : n = k
    · rw [if_neg (by omega), if_pos h, if_pos (by omega)]; omega
    · by_cases h2 : k < n
      · rw [if_pos h2, if_neg h, if_pos (by omega)]; omega
      · rw [if_neg h2, if_neg h, if_neg (by omega)]; rfl
theorem pre_nonneg {f : Nat → Int} : ∀ {n : Nat}, (∀ k, k < n → 0 ≤ f k) → 0 ≤ pre f n
  | 0, _ => Int.le_refl _
  | n + 1, h => by
    have h1 := pre_nonneg (f := f) (n := n) fun k hk => h k (by omega)
    have h2 := h n (by omega)
    rw [pre_succ]; omega
theorem pre_le {f g : Nat → Int} : ∀ {n : Nat}, (∀ k, k < n → f k ≤ g k) → pre f n ≤ pre g n
  | 0, _ => Int.le_refl _
  | n + 1, h => by
    have h1 := pre_le (f := f) (g := g) (n := n) fun k hk => h k (by omega)
    have h2 := h n (by omega)
    rw [pre_succ, pre_succ]; omega
theorem pre_mul (f : Nat → Int) (v : Int) : ∀ n, pre (fun k => v * f k) n = v * pre f n
  | 0 => by show (0 : Int) = v * 0; rw [Int.mul_zero]
  | n + 1 => by rw [pre_succ, pre_succ, pre_mul f v n, Int.mul_add]

/-! ### number tables: the first place where P is greatest, and above 0 -/
structure FA (P : Nat → Int) (w k : Nat) : Prop where
  lt : k < w
  pos : 0 < P k
  first : ∀ l, l < k → P l < P k
  top : ∀ l, l < w → P l ≤ P k
theorem FA.one {P : Nat → Int} {w k k' : Nat} (h : FA P w k) (h' : FA P w k') : k = k' := by
  have a := h.first k'
  have b := h'.first k
  have c := h.top k' h'.lt
  have d := h'.top k h.lt
  omega
/-- the last place where P is greatest, above S -/
structure LA (P : Nat → Int) (S : Int) (w k : Nat) : Prop where
  lt : k < w
  top : ∀ l, l < w → P l ≤ P k
  last : ∀ l, k < l → l < w → P l < P k
  big : S < P k
theorem LA.one {P : Nat → Int} {S : Int} {w k k' : Nat} (h : LA P S w k) (h' : LA P S w k') : k = k' := by
  have a := h.last k'
  have b := h'.last k
  have c := h.top k' h'.lt
  have d := h'.top k h.lt
  have e := h.lt
  have f := h'.lt
  omega
/-- P behind a move of the other kind at r; i, j the pair of rows, of columns -/
def bumpN (P : Nat → Int) (i j r : Nat) : Nat → Int := fun l => P l + (if i + 1 = r ∧ l = j then 1 else 0) - (if i = r ∧ l = j + 1 then 1 else 0)
theorem bumpN_at (P : Nat → Int) (i j r l : Nat) : bumpN P i j r l = P l + (if i + 1 = r ∧ l = j then 1 else 0) - (if i = r ∧ l = j + 1 then 1 else 0) := rfl
theorem bumpN_else (P : Nat → Int) {i j r : Nat} (h : r ≠ i) (h' : r ≠ i + 1) (l : Nat) : bumpN P i j r l = P l := by
  unfold bumpN
  rw [if_neg (by omega), if_neg (by omega)]; omega
theorem bumpN_lo (P : Nat → Int) (i j l : Nat) : bumpN P i j i l = P l - (if l = j + 1 then 1 else 0) := by
  unfold bumpN
  rw [if_neg (by omega)]
  by_cases h : l = j + 1
  · rw [if_pos ⟨rfl, h⟩, if_pos h]; omega
  · rw [if_neg (fun q => h q.2), if_neg h]; omega
theorem bumpN_hi (P : Nat → Int) (i j l : Nat) : bumpN P i j (i + 1) l = P l + (if l = j then 1 else 0) := by
  unfold bumpN
  rw [if_neg (c := i = i + 1 ∧ l = j + 1) (by omega)]
  by_cases h : l = j
  · rw [if_pos ⟨rfl, h⟩, if_pos h]; omega
  · rw [if_neg (fun q => h q.2), if_neg h]; omega
/-- the greatest height is not changed -/
theorem maxN {P Q : Nat → Int} {w h i j r : Nat} (D : P (j + 1) - P j = Q (i + 1) - Q i) (hi : i + 1 < h) (hj : j + 1 < w) (fr : FA Q h r) (c : Int) : (∀ l, l < w → P l ≤ c) ↔ ∀ l, l < w → bumpN P i j r l ≤ c := by
  by_cases h1 : r = i + 1
  · subst h1
    have q1 := fr.first i (by omega)
    constructor
    · intro q l hl
      rw [bumpN_hi]
      have := q l hl
      have := q (j + 1) hj
      by_cases e : l = j
      · subst e; rw [if_pos rfl]; omega
      · rw [if_neg e]; omega
    · intro q l hl
      have := q l hl
      rw [bumpN_hi] at this
      by_cases e : l = j
      · rw [if_pos e] at this; omega
      · rw [if_neg e] at this; omega
  by_cases h2 : r = i
  · subst h2
    have q1 := fr.top (r + 1) hi
    constructor
    · intro q l hl
      rw [bumpN_lo]
      have := q l hl
      by_cases e : l = j + 1
      · rw [if_pos e]; omega
      · rw [if_neg e]; omega
    · intro q l hl
      have a := q l hl
      have b := q j (by omega)
      rw [bumpN_lo] at a b
      rw [if_neg (by omega)] at b
      by_cases e : l = j + 1
      · subst e; omega
      · rw [if_neg e] at a; omega
  constructor
  · intro q l hl; rw [bumpN_else P h2 h1]; exact q l hl
  · intro q l hl; have := q l hl; rw [bumpN_else P h2 h1] at this; exact this
/-- where the first greatest place goes -/
theorem coreN {P Q : Nat → Int} {w h i j k r : Nat} (D : P (j + 1) - P j = Q (i + 1) - Q i) (hi : i + 1 < h) (hj : j + 1 < w) (fk : FA P w k) (fr : FA Q h r) : FA (bumpN P i j r) w (if k = j + 1 ∧ r = i + 1 ∧ P (j + 1) = P j + 1 then j else k) := by
  have t1 := fk.top (j + 1) hj
  have t0 := fk.top j (by omega)
  have kp := fk.pos
  have kl := fk.lt
  by_cases h1 : r = i + 1
  · subst h1
    have q1 := fr.first i (by omega)
    by_cases h3 : k = j + 1 ∧ i + 1 = i + 1 ∧ P (j + 1) = P j + 1
    · rw [if_pos h3]
      obtain ⟨h3, _, h4⟩ := h3
      subst h3
      refine ⟨by omega, ?_, fun l hl => ?_, fun l hl => ?_⟩
      · rw [bumpN_hi, if_pos rfl]; omega
      · have := fk.first l (by omega)
        rw [bumpN_hi, bumpN_hi, if_pos rfl, if_neg (by omega)]; omega
      · have := fk.top l hl
        rw [bumpN_hi, bumpN_hi, if_pos rfl]
        by_cases e : l = j
        · rw [if_pos e, e]; omega
        · rw [if_neg e]; omega
    · rw [if_neg h3]
      have h3 : ¬(k = j + 1 ∧ P (j + 1) = P j + 1) := fun z => h3 ⟨z.1, rfl, z.2⟩
      have hk : k ≠ j := fun e => by subst e; omega
      refine ⟨kl, ?_, fun l hl => ?_, fun l hl => ?_⟩
      · rw [bumpN_hi, if_neg hk]; omega
      · have := fk.first l hl
        rw [bumpN_hi, bumpN_hi, if_neg hk]
        by_cases e : l = j
        · subst e
          rw [if_pos rfl]
          by_cases e2 : k = l + 1
          · subst e2
            have : ¬ P (l + 1) = P l + 1 := fun z => h3 ⟨rfl, z⟩
            omega
          · have := fk.first (l + 1) (by omega)
            omega
        · rw [if_neg e]; omega
      · have := fk.top l hl
        rw [bumpN_hi, bumpN_hi, if_neg hk]
        by_cases e : l = j
        · subst e; rw [if_pos rfl]; omega
        · rw [if_neg e]; omega
  rw [if_neg (fun z => h1 z.2.1)]
  by_cases h2 : r = i
  · subst h2
    have q1 := fr.top (r + 1) hi
    have hk : k ≠ j + 1 := fun e => by
      subst e
      have := fk.first j (by omega)
      omega
    refine ⟨kl, ?_, fun l hl => ?_, fun l hl => ?_⟩
    · rw [bumpN_lo, if_neg hk]; omega
    · have := fk.first l hl
      rw [bumpN_lo, bumpN_lo, if_neg hk]
      by_cases e : l = j + 1
      · rw [if_pos e]; omega
      · rw [if_neg e]; omega
    · have := fk.top l hl
      rw [bumpN_lo, bumpN_lo, if_neg hk]
      by_cases e : l = j + 1
      · rw [if_pos e]; omega
      · rw [if_neg e]; omega
  refine ⟨kl, ?_, fun l hl => ?_, fun l hl => ?_⟩
  · rw [bumpN_else P h2 h1]; exact kp
  · rw [bumpN_else P h2 h1, bumpN_else P h2 h1]; exact fk.first l hl
  · rw [bumpN_else P h2 h1, bumpN_else P h2 h1]; exact fk.top l hl

/-! ### sign tables: S at 0 .. w, G at 0 .. h (from the end) -/
/-- the last place where G is greatest, and above 0 -/
structure FG (G : Nat → Int) (h r : Nat) : Prop where
  le : r ≤ h
  pos : 0 < G r
  last : ∀ l, r < l → l ≤ h → G l < G r
  top : ∀ l, l ≤ h → G l ≤ G r
def bumpS (S : Nat → Int) (i j r : Nat) : Nat → Int := fun l => S l + (if i + 1 = r ∧ l = j + 1 then 1 else 0) - (if i = r ∧ l = j + 1 then 1 else 0)
theorem bumpS_else (S : Nat → Int) {i j r : Nat} (h : r ≠ i) (h' : r ≠ i + 1) (l : Nat) : bumpS S i j r l = S l := by
  unfold bumpS
  rw [if_neg (by omega), if_neg (by omega)]; omega
theorem bumpS_lo (S : Nat → Int) (i j l : Nat) : bumpS S i j i l = S l - (if l = j + 1 then 1 else 0) := by
  unfold bumpS
  rw [if_neg (by omega)]
  by_cases h : l = j + 1
  · rw [if_pos ⟨rfl, h⟩, if_pos h]; omega
  · rw [if_neg (fun q => h q.2), if_neg h]; omega
theorem bumpS_hi (S : Nat → Int) (i j l : Nat) : bumpS S i j (i + 1) l = S l + (if l = j + 1 then 1 else 0) := by
  unfold bumpS
  rw [if_neg (c := i = i + 1 ∧ l = j + 1) (by omega)]
  by_cases h : l = j + 1
  · rw [if_pos ⟨rfl, h⟩, if_pos h]; omega
  · rw [if_neg (fun q => h q.2), if_neg h]; omega
/-- G behind a move of the first kind in column k -/
def bumpG (G : Nat → Int) (i j k : Nat) : Nat → Int := fun l => G l + (if j = k ∧ l = i + 1 then 1 else 0) - (if j + 1 = k ∧ l = i + 1 then 1 else 0)
theorem bumpG_else (S : Nat → Int) {i j r : Nat} (h : r ≠ j) (h' : r ≠ j + 1) (l : Nat) : bumpG S i j r l = S l := by
  unfold bumpG
  rw [if_neg (by omega), if_neg (by omega)]; omega
theorem bumpG_hi (S : Nat → Int) (i j l : Nat) : bumpG S i j (j + 1) l = S l - (if l = i + 1 then 1 else 0) := by
  unfold bumpG
  rw [if_neg (c := j = j + 1 ∧ l = i + 1) (by omega)]
  by_cases h : l = i + 1
  · rw [if_pos ⟨rfl, h⟩, if_pos h]; omega
  · rw [if_neg (fun q => h q.2), if_neg h]; omega
theorem bumpG_lo (S : Nat → Int) (i j l : Nat) : bumpG S i j j l = S l + (if l = i + 1 then 1 else 0) := by
  unfold bumpG
  rw [if_neg (c := j + 1 = j ∧ l = i + 1) (by omega)]
  by_cases h : l = i + 1
  · rw [if_pos ⟨rfl, h⟩, if_pos h]; omega
  · rw [if_neg (fun q => h q.2), if_neg h]; omega
/-- four cells: a b, c d -/
structure Four (S G : Nat → Int) (i j : Nat) (a b c d : Int) : Prop where
  ha : 0 ≤ a ∧ a ≤ 1
  hb : 0 ≤ b ∧ b ≤ 1
  hc : 0 ≤ c ∧ c ≤ 1
  hd : 0 ≤ d ∧ d ≤ 1
  s1 : S (j + 1) = S j + c - a
  s2 : S (j + 2) = S (j + 1) + d - b
  g1 : G (i + 1) = G (i + 2) + d - c
  g0 : G i = G (i + 1) + b - a
theorem maxS {S G : Nat → Int} {w h i j r : Nat} {a b c d : Int} (D : Four S G i j a b c d) (hi : i + 1 < h) (hj : j + 1 < w) (fr : FG G h r) (m : Int) : (∀ l, l ≤ w → S l ≤ m) ↔ ∀ l, l ≤ w → bumpS S i j r l ≤ m := by
  obtain ⟨ha, hb, hc, hd, s1, s2, g1, g0⟩ := D
  by_cases h1 : r = i + 1
  · subst h1
    have q1 := fr.last (i + 2) (by omega) (by omega)
    have q2 := fr.top i (by omega)
    constructor
    · intro q l hl
      rw [bumpS_hi]
      have := q l hl
      have := q j (by omega)
      have := q (j + 2) (by omega)
      by_cases e : l = j + 1
      · subst e; rw [if_pos rfl]; omega
      · rw [if_neg e]; omega
    · intro q l hl
      have := q l hl
      rw [bumpS_hi] at this
      by_cases e : l = j + 1
      · rw [if_pos e] at this; omega
      · rw [if_neg e] at this; omega
  by_cases h2 : r = i
  · subst h2
    have q1 := fr.last (r + 1) (by omega) (by omega)
    have q2 := fr.last (r + 2) (by omega) (by omega)
    constructor
    · intro q l hl
      rw [bumpS_lo]
      have := q l hl
      by_cases e : l = j + 1
      · rw [if_pos e]; omega
      · rw [if_neg e]; omega
    · intro q l hl
      have x := q l hl
      have y := q j (by omega)
      have z := q (j + 2) (by omega)
      rw [bumpS_lo] at x y z
      rw [if_neg (by omega)] at y z
      by_cases e : l = j + 1
      · subst e; omega
      · rw [if_neg e] at x; omega
  constructor
  · intro q l hl; rw [bumpS_else S h2 h1]; exact q l hl
  · intro q l hl; have := q l hl; rw [bumpS_else S h2 h1] at this; exact this
theorem coreS {S G : Nat → Int} {w h i j k r : Nat} {a b c d : Int} (D : Four S G i j a b c d) (hi : i + 1 < h) (hj : j + 1 < w) (fk : FA S (w + 1) k) (fr : FG G h r) :
    FA (bumpS S i j r) (w + 1) (if r = i + 1 ∧ k = j + 2 then j + 1 else if r = i ∧ k = j + 1 then j + 2 else k) := by
  obtain ⟨ha, hb, hc, hd, s1, s2, g1, g0⟩ := D
  have t0 := fk.top j (by omega)
  have t1 := fk.top (j + 1) (by omega)
  have t2 := fk.top (j + 2) (by omega)
  have kp := fk.pos
  have kl := fk.lt
  by_cases h1 : r = i + 1
  · subst h1
    have q1 := fr.last (i + 2) (by omega) (by omega)
    have q2 := fr.top i (by omega)
    by_cases h3 : k = j + 2
    · subst h3
      rw [if_pos ⟨rfl, rfl⟩]
      have f1 := fk.first (j + 1) (by omega)
      have f0 := fk.first j (by omega)
      refine ⟨by omega, ?_, fun l hl => ?_, fun l hl => ?_⟩
      · rw [bumpS_hi, if_pos rfl]; omega
      · have := fk.first l (by omega)
        rw [bumpS_hi, bumpS_hi, if_pos rfl, if_neg (by omega)]; omega
      · have := fk.top l hl
        rw [bumpS_hi, bumpS_hi, if_pos rfl]
        by_cases e : l = j + 1
        · rw [if_pos e, e]; omega
        · rw [if_neg e]; omega
    · rw [if_neg (fun z => h3 z.2), if_neg (fun z => by omega)]
      have hk : k ≠ j + 1 := fun e => by
        subst e
        have := fk.first j (by omega)
        omega
      refine ⟨kl, ?_, fun l hl => ?_, fun l hl => ?_⟩
      · rw [bumpS_hi, if_neg hk]; omega
      · have := fk.first l hl
        rw [bumpS_hi, bumpS_hi, if_neg hk]
        by_cases e : l = j + 1
        · subst e
          rw [if_pos rfl]
          have := fk.first j (by omega)
          have := fk.first (j + 2) (by omega)
          omega
        · rw [if_neg e]; omega
      · have := fk.top l hl
        rw [bumpS_hi, bumpS_hi, if_neg hk]
        by_cases e : l = j + 1
        · subst e; rw [if_pos rfl]; omega
        · rw [if_neg e]; omega
  rw [if_neg (fun z => h1 z.1)]
  by_cases h2 : r = i
  · subst h2
    have q1 := fr.last (r + 1) (by omega) (by omega)
    have q2 := fr.last (r + 2) (by omega) (by omega)
    by_cases h3 : k = j + 1
    · subst h3
      rw [if_pos ⟨rfl, rfl⟩]
      have f0 := fk.first j (by omega)
      refine ⟨by omega, ?_, fun l hl => ?_, fun l hl => ?_⟩
      · rw [bumpS_lo, if_neg (by omega)]; omega
      · rw [bumpS_lo, bumpS_lo, if_neg (c := j + 2 = j + 1) (by omega)]
        by_cases e : l = j + 1
        · rw [if_pos e, e]; omega
        · have := fk.first l (by omega)
          rw [if_neg e]; omega
      · have := fk.top l hl
        rw [bumpS_lo, bumpS_lo, if_neg (c := j + 2 = j + 1) (by omega)]
        by_cases e : l = j + 1
        · rw [if_pos e, e]; omega
        · rw [if_neg e]; omega
    · rw [if_neg (fun z => h3 z.2)]
      refine ⟨kl, ?_, fun l hl => ?_, fun l hl => ?_⟩
      · rw [bumpS_lo, if_neg h3]; omega
      · have := fk.first l hl
        rw [bumpS_lo, bumpS_lo, if_neg h3]
        by_cases e : l = j + 1
        · rw [if_pos e]; omega
        · rw [if_neg e]; omega
      · have := fk.top l hl
        rw [bumpS_lo, bumpS_lo, if_neg h3]
        by_cases e : l = j + 1
        · rw [if_pos e]; omega
        · rw [if_neg e]; omega
  rw [if_neg (fun z => h2 z.1)]
  refine ⟨kl, ?_, fun l hl => ?_, fun l hl => ?_⟩
  · rw [bumpS_else S h2 h1]; exact kp
  · rw [bumpS_else S h2 h1, bumpS_else S h2 h1]; exact fk.first l hl
  · rw [bumpS_else S h2 h1, bumpS_else S h2 h1]; exact fk.top l hl
theorem maxG {S G : Nat → Int} {w h i j k : Nat} {a b c d : Int} (D : Four S G i j a b c d) (hi : i + 1 < h) (hj : j + 1 < w) (fk : FA S (w + 1) (k + 1)) (m : Int) : (∀ l, l ≤ h → G l ≤ m) ↔ ∀ l, l ≤ h → bumpG G i j k l ≤ m := by
  obtain ⟨ha, hb, hc, hd, s1, s2, g1, g0⟩ := D
  by_cases h1 : k = j + 1
  · subst h1
    have q1 : S (j + 1) < S (j + 2) := fk.first (j + 1) (by omega)
    have q2 : S j < S (j + 2) := fk.first j (by omega)
    constructor
    · intro q l hl
      rw [bumpG_hi]
      have := q l hl
      by_cases e : l = i + 1
      · rw [if_pos e]; omega
      · rw [if_neg e]; omega
    · intro q l hl
      have x := q l hl
      have y := q i (by omega)
      have z := q (i + 2) (by omega)
      rw [bumpG_hi] at x y z
      rw [if_neg (by omega)] at y z
      by_cases e : l = i + 1
      · subst e; omega
      · rw [if_neg e] at x; omega
  by_cases h2 : k = j
  · subst h2
    have q1 : S k < S (k + 1) := fk.first k (by omega)
    have q2 : S (k + 2) ≤ S (k + 1) := fk.top (k + 2) (by omega)
    constructor
    · intro q l hl
      rw [bumpG_lo]
      have := q l hl
      have := q i (by omega)
      have := q (i + 2) (by omega)
      by_cases e : l = i + 1
      · subst e; rw [if_pos rfl]; omega
      · rw [if_neg e]; omega
    · intro q l hl
      have := q l hl
      rw [bumpG_lo] at this
      by_cases e : l = i + 1
      · rw [if_pos e] at this; omega
      · rw [if_neg e] at this; omega
  constructor
  · intro q l hl; rw [bumpG_else G h2 h1]; exact q l hl
  · intro q l hl; have := q l hl; rw [bumpG_else G h2 h1] at this; exact this
theorem coreG {S G : Nat → Int} {w h i j k r : Nat} {a b c d : Int} (D : Four S G i j a b c d) (hi : i + 1 < h) (hj : j + 1 < w) (fk : FA S (w + 1) (k + 1)) (fr : FG G h r) :
    FG (bumpG G i j k) h (if r = i + 1 ∧ k = j + 1 then i else if r = i ∧ k = j then i + 1 else r) := by
  obtain ⟨ha, hb, hc, hd, s1, s2, g1, g0⟩ := D
  have t0 := fr.top i (by omega)
  have t1 := fr.top (i + 1) (by omega)
  have t2 := fr.top (i + 2) (by omega)
  have rp := fr.pos
  have rl := fr.le
  by_cases h1 : k = j + 1
  · subst h1
    have q1 : S (j + 1) < S (j + 2) := fk.first (j + 1) (by omega)
    have q2 : S j < S (j + 2) := fk.first j (by omega)
    by_cases h3 : r = i + 1
    · subst h3
      rw [if_pos ⟨rfl, rfl⟩]
      have f2 := fr.last (i + 2) (by omega) (by omega)
      refine ⟨by omega, ?_, fun l hl hl2 => ?_, fun l hl => ?_⟩
      · rw [bumpG_hi, if_neg (by omega)]; omega
      · rw [bumpG_hi, bumpG_hi, if_neg (c := i = i + 1) (by omega)]
        by_cases e : l = i + 1
        · rw [if_pos e, e]; omega
        · have := fr.last l (by omega) hl2
          rw [if_neg e]; omega
      · have := fr.top l hl
        rw [bumpG_hi, bumpG_hi, if_neg (c := i = i + 1) (by omega)]
        by_cases e : l = i + 1
        · rw [if_pos e, e]; omega
        · rw [if_neg e]; omega
    · rw [if_neg (fun z => h3 z.1), if_neg (fun z => by omega)]
      refine ⟨rl, ?_, fun l hl hl2 => ?_, fun l hl => ?_⟩
      · rw [bumpG_hi, if_neg h3]; omega
      · have := fr.last l hl hl2
        rw [bumpG_hi, bumpG_hi, if_neg h3]
        by_cases e : l = i + 1
        · rw [if_pos e]; omega
        · rw [if_neg e]; omega
      · have := fr.top l hl
        rw [bumpG_hi, bumpG_hi, if_neg h3]
        by_cases e : l = i + 1
        · rw [if_pos e]; omega
        · rw [if_neg e]; omega
  rw [if_neg (fun z => h1 z.2)]
  by_cases h2 : k = j
  · subst h2
    have q1 : S k < S (k + 1) := fk.first k (by omega)
    have q2 : S (k + 2) ≤ S (k + 1) := fk.top (k + 2) (by omega)
    by_cases h3 : r = i
    · subst h3
      rw [if_pos ⟨rfl, rfl⟩]
      have f1 := fr.last (r + 1) (by omega) (by omega)
      have f2 := fr.last (r + 2) (by omega) (by omega)
      refine ⟨by omega, ?_, fun l hl hl2 => ?_, fun l hl => ?_⟩
      · rw [bumpG_lo, if_pos rfl]; omega
      · have := fr.last l (by omega) hl2
        rw [bumpG_lo, bumpG_lo, if_pos rfl, if_neg (by omega)]; omega
      · have := fr.top l hl
        rw [bumpG_lo, bumpG_lo, if_pos rfl]
        by_cases e : l = r + 1
        · rw [if_pos e, e]; omega
        · rw [if_neg e]; omega
    · rw [if_neg (fun z => h3 z.1)]
      have hr : r ≠ i + 1 := fun e => by
        subst e
        have := fr.last (i + 2) (by omega) (by omega)
        omega
      refine ⟨rl, ?_, fun l hl hl2 => ?_, fun l hl => ?_⟩
      · rw [bumpG_lo, if_neg hr]; omega
      · have := fr.last l hl hl2
        rw [bumpG_lo, bumpG_lo, if_neg hr]
        by_cases e : l = i + 1
        · subst e
          rw [if_pos rfl]
          have := fr.last (i + 2) 
          by_cases e3 : r < i
          · have := fr.last i (by omega) (by omega)
            have := fr.last (i + 2) (by omega) (by omega)
            omega
          · omega
        · rw [if_neg e]; omega
      · have := fr.top l hl
        rw [bumpG_lo, bumpG_lo, if_neg hr]
        by_cases e : l = i + 1
        · subst e; rw [if_pos rfl]; omega
        · rw [if_neg e]; omega
  rw [if_neg (fun z => h2 z.2)]
  refine ⟨rl, ?_, fun l hl hl2 => ?_, fun l hl => ?_⟩
  · rw [bumpG_else G h2 h1]; exact rp
  · rw [bumpG_else G h2 h1, bumpG_else G h2 h1]; exact fr.last l hl hl2
  · rw [bumpG_else G h2 h1, bumpG_else G h2 h1]; exact fr.top l hl
end JRM
set_option Elab.async false
set_option linter.all false
/-! Tables as functions of row and column: brackets of two rows, of two columns; corners. Plain Lean. -/
namespace JRM
theorem pre_bump (f : Nat → Int) (A : Prop) [Decidable A] (a b : Nat) : ∀ n, pre (fun c => f c + (if A ∧ c = a then 1 else 0) - (if A ∧ c = b then 1 else 0)) n = pre f n + (if A ∧ a < n then 1 else 0) - (if A ∧ b < n then 1 else 0)
  | 0 => by
    show (0 : Int) = 0 + _ - _
    rw [if_neg (fun z => Nat.not_lt_zero _ z.2), if_neg (fun z => Nat.not_lt_zero _ z.2)]; rfl
  | n + 1 => by
    rw [pre_succ, pre_succ, pre_bump f A a b n]
    by_cases h : A
    · simp only [h, true_and]
      have e1 : (if a < n + 1 then (1 : Int) else 0) = (if a < n then 1 else 0) + (if n = a then 1 else 0) := by
        by_cases h1 : a < n
        · rw [if_pos (by omega), if_pos h1, if_neg (by omega)]; rfl
        · by_cases h2 : n = a
          · rw [if_pos (by omega), if_neg h1, if_pos h2]; rfl
          · rw [if_neg (by omega), if_neg h1, if_neg h2]; rfl
      have e2 : (if b < n + 1 then (1 : Int) else 0) = (if b < n then 1 else 0) + (if n = b then 1 else 0) := by
        by_cases h1 : b < n
        · rw [if_pos (by omega), if_pos h1, if_neg (by omega)]; rfl
        · by_cases h2 : n = b
          · rw [if_pos (by omega), if_neg h1, if_pos h2]; rfl
          · rw [if_neg (by omega), if_neg h1, if_neg h2]; rfl
      rw [e1, e2]; omega
    · simp only [h, false_and, if_false]; omega
/-- one mark goes from one row to another, in column k -/
def mvA (X : Nat → Nat → Int) (g t k : Nat) : Nat → Nat → Int := fun r c => X r c + (if r = t ∧ c = k then 1 else 0) - (if r = g ∧ c = k then 1 else 0)
/-- one mark goes from one column to another, in row k -/
def mvC (X : Nat → Nat → Int) (g t k : Nat) : Nat → Nat → Int := fun r c => X r c + (if r = k ∧ c = t then 1 else 0) - (if r = k ∧ c = g then 1 else 0)
def tn (X : Nat → Nat → Int) : Nat → Nat → Int := fun c r => X r c
def qn (h : Nat) (X : Nat → Nat → Int) : Nat → Nat → Int := fun c k => X (h - 1 - k) c
def PN (X : Nat → Nat → Int) (i k : Nat) : Int := pre (X (i + 1)) (k + 1) - pre (X i) k
def SN (X : Nat → Nat → Int) (i k : Nat) : Int := pre (X (i + 1)) k - pre (X i) k
def GN (h : Nat) (X : Nat → Nat → Int) (j l : Nat) : Int := (pre (tn X (j + 1)) h - pre (tn X (j + 1)) l) - (pre (tn X j) h - pre (tn X j) l)
theorem if_add {p q : Prop} [Decidable p] [Decidable q] {a : Int} (h : p ↔ q) : (if p then a else 0) = if q then a else 0 := by
  by_cases z : p
  · rw [if_pos z, if_pos (h.mp z)]
  · rw [if_neg z, if_neg (fun y => z (h.mpr y))]
theorem pre_mvC (X : Nat → Nat → Int) (j r ρ n : Nat) : pre (mvC X (j + 1) j r ρ) n = pre (X ρ) n + if ρ = r ∧ n = j + 1 then 1 else 0 := by
  have e := pre_bump (X ρ) (ρ = r) j (j + 1) n
  show pre (fun c => X ρ c + (if ρ = r ∧ c = j then 1 else 0) - (if ρ = r ∧ c = j + 1 then 1 else 0)) n = _
  rw [e]
  by_cases h : ρ = r
  · simp only [h, true_and]
    by_cases h1 : j + 1 < n
    · rw [if_pos (by omega), if_pos h1, if_neg (by omega)]; omega
    · by_cases h2 : n = j + 1
      · rw [if_pos (by omega), if_neg h1, if_pos h2]; omega
      · rw [if_neg (by omega), if_neg h1, if_neg h2]; omega
  · simp only [h, false_and, if_false]; omega
theorem PN_mvC (X : Nat → Nat → Int) (i j r : Nat) : PN (mvC X (j + 1) j r) i = bumpN (PN X i) i j r := by
  funext l
  show pre (mvC X (j + 1) j r (i + 1)) (l + 1) - pre (mvC X (j + 1) j r i) l = (pre (X (i + 1)) (l + 1) - pre (X i) l) + (if i + 1 = r ∧ l = j then 1 else 0) - (if i = r ∧ l = j + 1 then 1 else 0)
  rw [pre_mvC, pre_mvC, if_add (a := 1) (show (i + 1 = r ∧ l + 1 = j + 1) ↔ (i + 1 = r ∧ l = j) by omega)]
  omega
theorem SN_mvC (X : Nat → Nat → Int) (i j r : Nat) : SN (mvC X (j + 1) j r) i = bumpS (SN X i) i j r := by
  funext l
  show pre (mvC X (j + 1) j r (i + 1)) l - pre (mvC X (j + 1) j r i) l = (pre (X (i + 1)) l - pre (X i) l) + (if i + 1 = r ∧ l = j + 1 then 1 else 0) - (if i = r ∧ l = j + 1 then 1 else 0)
  rw [pre_mvC, pre_mvC]
  omega
theorem tn_mvA (X : Nat → Nat → Int) (g t k : Nat) : tn (mvA X g t k) = mvC (tn X) g t k := by
  funext c r
  show X r c + (if r = t ∧ c = k then 1 else 0) - (if r = g ∧ c = k then 1 else 0) = X r c + (if c = k ∧ r = t then 1 else 0) - (if c = k ∧ r = g then 1 else 0)
  rw [if_add (a := 1) (show (r = t ∧ c = k) ↔ (c = k ∧ r = t) from and_comm), if_add (a := 1) (show (r = g ∧ c = k) ↔ (c = k ∧ r = g) from and_comm)]
theorem tn_mvC (X : Nat → Nat → Int) (g t k : Nat) : tn (mvC X g t k) = mvA (tn X) g t k := by
  funext c r
  show X r c + (if r = k ∧ c = t then 1 else 0) - (if r = k ∧ c = g then 1 else 0) = X r c + (if c = t ∧ r = k then 1 else 0) - (if c = g ∧ r = k then 1 else 0)
  rw [if_add (a := 1) (show (r = k ∧ c = t) ↔ (c = t ∧ r = k) from and_comm), if_add (a := 1) (show (r = k ∧ c = g) ↔ (c = g ∧ r = k) from and_comm)]
theorem GN_mvA (h : Nat) (X : Nat → Nat → Int) {i j k : Nat} (hi : i + 1 < h) : GN h (mvA X (i + 1) i k) j = bumpG (GN h X j) i j k := by
  funext l
  show (pre (tn (mvA X (i + 1) i k) (j + 1)) h - pre (tn (mvA X (i + 1) i k) (j + 1)) l) - (pre (tn (mvA X (i + 1) i k) j) h - pre (tn (mvA X (i + 1) i k) j) l) = ((pre (tn X (j + 1)) h - pre (tn X (j + 1)) l) - (pre (tn X j) h - pre (tn X j) l)) + (if j = k ∧ l = i + 1 then 1 else 0) - (if j + 1 = k ∧ l = i + 1 then 1 else 0)
  rw [tn_mvA, pre_mvC, pre_mvC, pre_mvC, pre_mvC]
  rw [if_neg (c := j + 1 = k ∧ h = i + 1) (by omega), if_neg (c := j = k ∧ h = i + 1) (by omega)]
  omega
theorem relN (X : Nat → Nat → Int) (i j : Nat) : PN X i (j + 1) - PN X i j = PN (tn X) j (i + 1) - PN (tn X) j i := by
  unfold PN
  rw [pre_succ (X (i + 1)) (j + 1), pre_succ (X i) j, pre_succ (tn X (j + 1)) (i + 1), pre_succ (tn X j) i]
  show _ + X (i + 1) (j + 1) - (_ + X i j) - _ = _ + X (i + 1) (j + 1) - (_ + X i j) - _
  omega
def Bits (h w : Nat) (X : Nat → Nat → Int) : Prop := ∀ r c, r < h → c < w → 0 ≤ X r c ∧ X r c ≤ 1
theorem fourN {h w : Nat} {X : Nat → Nat → Int} (b : Bits h w X) {i j : Nat} (hi : i + 1 < h) (hj : j + 1 < w) : Four (SN X i) (GN h X j) i j (X i j) (X i (j + 1)) (X (i + 1) j) (X (i + 1) (j + 1)) := by
  refine ⟨b _ _ (by omega) (by omega), b _ _ (by omega) hj, b _ _ hi (by omega), b _ _ hi hj, ?_, ?_, ?_, ?_⟩
  · unfold SN; rw [pre_succ, pre_succ]; omega
  · unfold SN; rw [pre_succ (X (i + 1)) (j + 1), pre_succ (X i) (j + 1)]; omega
  · unfold GN; rw [pre_succ (tn X (j + 1)) (i + 1), pre_succ (tn X j) (i + 1)]
    show _ = _ + X (i + 1) (j + 1) - X (i + 1) j
    unfold tn; omega
  · unfold GN; rw [pre_succ (tn X (j + 1)) i, pre_succ (tn X j) i]
    show _ = _ + X i (j + 1) - X i j
    unfold tn; omega
theorem pre_rev (f : Nat → Int) (h : Nat) : ∀ n, n ≤ h → pre (fun k => f (h - 1 - k)) n = pre f h - pre f (h - n)
  | 0, _ => by rw [Nat.sub_zero]; show (0 : Int) = _; omega
  | n + 1, hn => by
    rw [pre_succ, pre_rev f h n (by omega)]
    have e : h - n = (h - (n + 1)) + 1 := by omega
    rw [e, pre_succ, show h - 1 - n = h - (n + 1) by omega]
    omega
theorem SN_qn (h : Nat) (X : Nat → Nat → Int) (j : Nat) {n : Nat} (hn : n ≤ h) : SN (qn h X) j n = GN h X j (h - n) := by
  unfold SN GN
  have e1 := pre_rev (tn X (j + 1)) h n hn
  have e2 := pre_rev (tn X j) h n hn
  show pre (fun k => tn X (j + 1) (h - 1 - k)) n - pre (fun k => tn X j (h - 1 - k)) n = _
  rw [e1, e2]
theorem FG_of {h : Nat} {X : Nat → Nat → Int} {j k : Nat} (f : FA (SN (qn h X) j) (h + 1) k) : FG (GN h X j) h (h - k) := by
  have hk : k ≤ h := by have := f.lt; omega
  refine ⟨Nat.sub_le _ _, ?_, fun l h1 h2 => ?_, fun l h2 => ?_⟩
  · rw [← SN_qn h X j hk]; exact f.pos
  · have := f.first (h - l) (by omega)
    rw [SN_qn h X j hk, SN_qn h X j (Nat.sub_le _ _), show h - (h - l) = l by omega] at this
    exact this
  · have := f.top (h - l) (by omega)
    rw [SN_qn h X j hk, SN_qn h X j (Nat.sub_le _ _), show h - (h - l) = l by omega] at this
    exact this
theorem FG_to {h : Nat} {X : Nat → Nat → Int} {j r : Nat} (f : FG (GN h X j) h r) : FA (SN (qn h X) j) (h + 1) (h - r) := by
  have hr := f.le
  have e : h - (h - r) = r := by omega
  refine ⟨by omega, ?_, fun l h1 => ?_, fun l h2 => ?_⟩
  · rw [SN_qn h X j (Nat.sub_le _ _), e]; exact f.pos
  · rw [SN_qn h X j (Nat.sub_le _ _), e, SN_qn h X j (by omega)]; exact f.last _ (by omega) (by omega)
  · rw [SN_qn h X j (Nat.sub_le _ _), e, SN_qn h X j (by omega)]; exact f.top _ (by omega)

/-! ### corners -/
theorem pre_one {f : Nat → Int} : ∀ {n : Nat}, (∀ k, k < n → 1 ≤ f k) → (n : Int) ≤ pre f n
  | 0, _ => Int.le_refl _
  | n + 1, h => by
    have h1 := pre_one (f := f) (n := n) fun k hk => h k (by omega)
    have h2 := h n (by omega)
    rw [pre_succ]; omega
theorem pre_le1 {f : Nat → Int} : ∀ {n : Nat}, (∀ k, k < n → f k ≤ 1) → pre f n ≤ (n : Int)
  | 0, _ => Int.le_refl _
  | n + 1, h => by
    have h1 := pre_le1 (f := f) (n := n) fun k hk => h k (by omega)
    have h2 := h n (by omega)
    rw [pre_succ]; omega
theorem pre_tail {f : Nat → Int} {k : Nat} : ∀ {n : Nat}, k ≤ n → (∀ l, k ≤ l → l < n → f l ≤ 0) → pre f n ≤ pre f k
  | 0, h, _ => by rw [show k = 0 by omega]; exact Int.le_refl _
  | n + 1, h, q => by
    by_cases e : k = n + 1
    · rw [e]; exact Int.le_refl _
    · have h1 := pre_tail (f := f) (k := k) (n := n) (by omega) fun l a b => q l a (by omega)
      have h2 := q n (by omega) (by omega)
      rw [pre_succ]; omega
theorem pre_mono {f : Nat → Int} {k : Nat} : ∀ {n : Nat}, k ≤ n → (∀ l, k ≤ l → l < n → 0 ≤ f l) → pre f k ≤ pre f n
  | 0, h, _ => by rw [show k = 0 by omega]; exact Int.le_refl _
  | n + 1, h, q => by
    by_cases e : k = n + 1
    · rw [e]; exact Int.le_refl _
    · have h1 := pre_mono (f := f) (k := k) (n := n) (by omega) fun l a b => q l a (by omega)
      have h2 := q n (by omega) (by omega)
      rw [pre_succ]; omega
theorem anti_one {f g : Nat → Int} {n : Nat} (hf : ∀ k, k < n → 0 ≤ f k ∧ f k ≤ 1) (hg : ∀ k, k < n → 0 ≤ g k ∧ g k ≤ 1) (af : ∀ k l, k ≤ l → l < n → f l ≤ f k) (ag : ∀ k l, k ≤ l → l < n → g l ≤ g k) (e : pre f n = pre g n) : ∀ k, k < n → f k ≤ g k := by
  intro k hk
  refine Classical.byContradiction fun z => ?_
  have h1 := hf k hk
  have h2 := hg k hk
  have a : (k + 1 : Int) ≤ pre f (k + 1) := by
    have := pre_one (f := f) (n := k + 1) fun l hl => by
      have := af l k (by omega) hk
      omega
    omega
  have b := pre_mono (f := f) (k := k + 1) (n := n) (by omega) fun l _ hl => (hf l hl).1
  have c := pre_tail (f := g) (k := k) (n := n) (by omega) fun l a hl => by
    have := ag k l a hl
    omega
  have d := pre_le1 (f := g) (n := k) fun l hl => (hg l (by omega)).2
  omega
theorem lowN {h w : Nat} {X : Nat → Nat → Int} (hP : ∀ i, i + 1 < h → ∀ k, k < w → PN X i k ≤ 0) : ∀ i, i < h → ∀ k, k ≤ w → k ≤ i → pre (X i) k ≤ 0
  | 0, _, k, _, hk => by
    rw [show k = 0 by omega]; exact Int.le_refl _
  | i + 1, hi, k, hw, hk => by
    cases k with
    | zero => exact Int.le_refl _
    | succ k =>
      have a := hP i hi k (by omega)
      have b := lowN hP i (by omega) k (by omega) (by omega)
      unfold PN at a
      omega
theorem diagN {h w : Nat} {X : Nat → Nat → Int} (nn : ∀ r c, r < h → c < w → 0 ≤ X r c) (hP : ∀ i, i + 1 < h → ∀ k, k < w → PN X i k ≤ 0) {r c : Nat} (hr : r < h) (hc : c < w) (hl : c < r) : X r c = 0 := by
  have a := lowN hP r hr (c + 1) (by omega) (by omega)
  have b := pre_nonneg (f := X r) (n := c) fun k hk => nn r k hr (by omega)
  have d := nn r c hr hc
  rw [pre_succ] at a
  omega
theorem pre_single {f : Nat → Int} {k : Nat} : ∀ {n : Nat}, (∀ l, l < n → l ≠ k → f l = 0) → pre f n = if k < n then f k else 0
  | 0, _ => by rw [if_neg (Nat.not_lt_zero _)]; rfl
  | n + 1, h => by
    rw [pre_succ, pre_single (f := f) (k := k) (n := n) fun l hl => h l (by omega)]
    by_cases h1 : k < n
    · rw [if_pos h1, if_pos (by omega), h n (by omega) (by omega)]; omega
    · by_cases h2 : n = k
      · rw [if_neg h1, if_pos (by omega), h2]; omega
      · rw [if_neg h1, if_neg (by omega), h n (by omega) h2]; rfl
/-- number corners with the same sums of columns are one -/
theorem oneN {h w : Nat} {X Y : Nat → Nat → Int} (dx : ∀ r c, r < h → c < w → r ≠ c → X r c = 0) (dy : ∀ r c, r < h → c < w → r ≠ c → Y r c = 0) (e : ∀ c, c < w → pre (tn X c) h = pre (tn Y c) h) {r c : Nat} (hr : r < h) (hc : c < w) : X r c = Y r c := by
  by_cases z : r = c
  · subst z
    have q := e r hc
    rw [pre_single (f := tn X r) (k := r) fun l hl n => dx l r hl hc n, pre_single (f := tn Y r) (k := r) fun l hl n => dy l r hl hc n, if_pos hr, if_pos hr] at q
    exact q
  · rw [dx r c hr hc z, dy r c hr hc z]
structure CorS (h w : Nat) (X : Nat → Nat → Int) : Prop where
  row : ∀ r c c', r < h → c ≤ c' → c' < w → X r c' ≤ X r c
  col : ∀ r r' c, r ≤ r' → r' < h → c < w → X r' c ≤ X r c
theorem corS {h w : Nat} {X : Nat → Nat → Int} (b : Bits h w X) (hS : ∀ i, i + 1 < h → ∀ k, k ≤ w → SN X i k ≤ 0) (hG : ∀ j, j + 1 < w → ∀ l, l ≤ h → GN h X j l ≤ 0) : CorS h w X := by
  have key : ∀ n r, r + n + 1 = h → (∀ r', r ≤ r' → r' < h → ∀ c c', c ≤ c' → c' < w → X r' c' ≤ X r' c) ∧ (∀ r1 r2, r ≤ r1 → r1 ≤ r2 → r2 < h → ∀ c, c < w → X r2 c ≤ X r1 c) := by
    have step : ∀ r, r < h → (∀ r2, r ≤ r2 → r2 < h → ∀ c, c < w → X r2 c ≤ X r c) → ∀ c c', c ≤ c' → c' < w → X r c' ≤ X r c := by
      intro r hr ct
      have one : ∀ c, c + 1 < w → X r (c + 1) ≤ X r c := fun c hc => by
        refine Classical.byContradiction fun z => ?_
        have b1 := b r c hr (by omega)
        have b2 := b r (c + 1) hr hc
        have g := hG c hc r (by omega)
        unfold GN at g
        have t := pre_tail (f := tn X c) (k := r) (n := h) (by omega) fun l a hl => by
          have := ct l a hl c (by omega)
          show X l c ≤ 0
          omega
        have u := pre_mono (f := tn X (c + 1)) (k := r + 1) (n := h) (by omega) fun l _ hl => (b l (c + 1) hl hc).1
        have v : pre (tn X (c + 1)) (r + 1) = pre (tn X (c + 1)) r + X r (c + 1) := rfl
        omega
      intro c c'
      induction c' with
      | zero => intro h1 h2; rw [show c = 0 by omega]; exact Int.le_refl _
      | succ c' ih =>
        intro h1 h2
        by_cases e : c = c' + 1
        · rw [e]; exact Int.le_refl _
        · exact Int.le_trans (one c' h2) (ih (by omega) (by omega))
    intro n
    induction n with
    | zero =>
      intro r hr
      have hr : r + 1 = h := hr
      have ct : ∀ r1 r2, r ≤ r1 → r1 ≤ r2 → r2 < h → ∀ c, c < w → X r2 c ≤ X r1 c := fun r1 r2 a b' d c hc => by
        rw [show r1 = r by omega, show r2 = r by omega]; exact Int.le_refl _
      refine ⟨fun r' a d => ?_, ct⟩
      rw [show r' = r by omega]
      exact step r (by omega) fun r2 a d => ct r r2 (Nat.le_refl _) a d
    | succ n ih =>
      intro r hr
      obtain ⟨i1, i2⟩ := ih (r + 1) (by omega)
      have near : ∀ c, c < w → X (r + 1) c ≤ X r c := fun c hc => by
        refine Classical.byContradiction fun z => ?_
        have b1 := b (r + 1) c (by omega) hc
        have b2 := b r c (by omega) hc
        have s := hS r (by omega) (c + 1) (by omega)
        unfold SN at s
        have t := pre_one (f := X (r + 1)) (n := c + 1) fun k hk => by
          have := i1 (r + 1) (Nat.le_refl _) (by omega) k c (by omega) hc
          omega
        have u := pre_le1 (f := X r) (n := c) fun k hk => (b r k (by omega) (by omega)).2
        have v : pre (X r) (c + 1) = pre (X r) c + X r c := rfl
        omega
      have ct : ∀ r1 r2, r ≤ r1 → r1 ≤ r2 → r2 < h → ∀ c, c < w → X r2 c ≤ X r1 c := fun r1 r2 a b' d c hc => by
        by_cases e1 : r1 = r
        · by_cases e2 : r2 = r
          · rw [e1, e2]; exact Int.le_refl _
          · have := i2 (r + 1) r2 (Nat.le_refl _) (by omega) d c hc
            have := near c hc
            rw [e1]; omega
        · exact i2 r1 r2 (by omega) b' d c hc
      refine ⟨fun r' a d => ?_, ct⟩
      by_cases e : r' = r
      · rw [e]; exact step r (by omega) fun r2 a d => ct r r2 (Nat.le_refl _) a d
      · exact i1 r' (by omega) d
  by_cases h0 : h = 0
  · exact ⟨fun r c c' hr => by omega, fun r r' c _ hr => by omega⟩
  · obtain ⟨k1, k2⟩ := key (h - 1) 0 (by omega)
    exact ⟨fun r c c' hr => k1 r (Nat.zero_le _) hr c c', fun r r' c a d => k2 r r' (Nat.zero_le _) a d c⟩
theorem oneSc {h w : Nat} {X Y : Nat → Nat → Int} (bx : Bits h w X) (b_y : Bits h w Y) (cx : CorS h w X) (cy : CorS h w Y) (e : ∀ c, c < w → pre (tn X c) h = pre (tn Y c) h) {r c : Nat} (hr : r < h) (hc : c < w) : X r c = Y r c := by
  have a := anti_one (f := tn X c) (g := tn Y c) (n := h) (fun k hk => bx k c hk hc) (fun k hk => b_y k c hk hc) (fun k l a d => cx.col k l c a d hc) (fun k l a d => cy.col k l c a d hc) (e c hc) r hr
  have b := anti_one (f := tn Y c) (g := tn X c) (n := h) (fun k hk => b_y k c hk hc) (fun k hk => bx k c hk hc) (fun k l a d => cy.col k l c a d hc) (fun k l a d => cx.col k l c a d hc) (e c hc).symm r hr
  exact Int.le_antisymm a b
theorem oneSr {h w : Nat} {X Y : Nat → Nat → Int} (bx : Bits h w X) (b_y : Bits h w Y) (cx : CorS h w X) (cy : CorS h w Y) (e : ∀ r, r < h → pre (X r) w = pre (Y r) w) {r c : Nat} (hr : r < h) (hc : c < w) : X r c = Y r c := by
  have a := anti_one (f := X r) (g := Y r) (n := w) (fun k hk => bx r k hr hk) (fun k hk => b_y r k hr hk) (fun k l a d => cx.row r k l hr a d) (fun k l a d => cy.row r k l hr a d) (e r hr) c hc
  have b := anti_one (f := Y r) (g := X r) (n := w) (fun k hk => b_y r k hr hk) (fun k hk => bx r k hr hk) (fun k l a d => cy.row r k l hr a d) (fun k l a d => cx.row r k l hr a d) (e r hr).symm c hc
  exact Int.le_antisymm a b
end JRM
set_option Elab.async false
set_option linter.all false
set_option maxRecDepth 100000
set_option maxHeartbeats 2000000
/-! Brackets of blocks; transfers of tables by heights. -/
namespace JR
open JRM (pre pre_succ FA LA PN SN)
theorem lo_pair {α : Type} : ∀ (l : List (Bool × α)) (s : List α × List α), (l.map fun p => (p.1, p)).foldl loS (s.1.map (fun k => (false, k)), s.2.map fun k => (true, k)) = ((l.foldl loS s).1.map (fun k => (false, k)), (l.foldl loS s).2.map fun k => (true, k))
  | [], s => rfl
  | p :: l, s => by
    rw [List.map_cons, List.foldl_cons, List.foldl_cons, ← lo_pair l (loS s p)]
    congr 1
    obtain ⟨b, a⟩ := p
    obtain ⟨s1, s2⟩ := s
    cases b with
    | true =>
      show (s1.map (fun k => (false, k)), s2.map (fun k => (true, k)) ++ [(true, a)]) = (s1.map (fun k => (false, k)), (s2 ++ [a]).map fun k => (true, k))
      rw [List.map_append]; rfl
    | false =>
      cases s2 with
      | nil =>
        show (s1.map (fun k => (false, k)) ++ [(false, a)], []) = ((s1 ++ [a]).map (fun k => (false, k)), [])
        rw [List.map_append]; rfl
      | cons c r =>
        show (s1.map (fun k => (false, k)), ((true, c) :: r.map fun k => (true, k)).dropLast) = (s1.map (fun k => (false, k)), (c :: r).dropLast.map fun k => (true, k))
        rw [List.map_dropLast]; rfl
theorem lo_tag {α : Type} (l : List (Bool × α)) : lo (l.map fun p => (p.1, p)) = ((lo l).1.map (fun k => (false, k)), (lo l).2.map fun k => (true, k)) := lo_pair l ([], [])
theorem lo_in {α : Type} (l : List (Bool × α)) : (∀ x ∈ (lo l).1, (false, x) ∈ l) ∧ ∀ x ∈ (lo l).2, (true, x) ∈ l := by
  have mm := lo_mem (fun p => p ∈ l) (l.map fun p => (p.1, p)) ([], []) (fun p hp => by
    obtain ⟨q, hq, rfl⟩ := List.mem_map.mp hp
    exact hq) (fun x hx => absurd hx List.not_mem_nil) (fun x hx => absurd hx List.not_mem_nil)
  have e := lo_tag l
  have m1 : ∀ x ∈ (lo (l.map fun p => (p.1, p))).1, x ∈ l := mm.1
  have m2 : ∀ x ∈ (lo (l.map fun p => (p.1, p))).2, x ∈ l := mm.2
  rw [e] at m1 m2
  exact ⟨fun x hx => m1 _ (List.mem_map.mpr ⟨x, hx, rfl⟩), fun x hx => m2 _ (List.mem_map.mpr ⟨x, hx, rfl⟩)⟩
/-! ### blocks of brackets -/
def blk (m s : Nat → Nat) (n : Nat) : List (Bool × Nat) := (List.range n).flatMap fun k => List.replicate (m k) (false, k) ++ List.replicate (s k) (true, k)
def SB (m s : Nat → Nat) (k : Nat) : Int := pre (fun l => (m l : Int)) k - pre (fun l => (s l : Int)) k
def PB (m s : Nat → Nat) (k : Nat) : Int := SB m s k + m k
theorem SB_succ (m s : Nat → Nat) (k : Nat) : SB m s (k + 1) = PB m s k - s k := by
  unfold PB SB
  rw [pre_succ, pre_succ]; omega
theorem SB_zero (m s : Nat → Nat) : SB m s 0 = 0 := rfl
theorem fold_shut (k : Nat) : ∀ (m : Nat) (r1 r2 : List Nat), m ≤ r2.length → (List.replicate m (false, k)).foldl loS (r1, r2) = (r1, r2.take (r2.length - m))
  | 0, r1, r2, _ => by rw [Nat.sub_zero, List.take_length]; rfl
  | m + 1, r1, [], h => absurd h (Nat.not_succ_le_zero _)
  | m + 1, r1, a :: r2, h => by
    rw [List.replicate_succ, List.foldl_cons]
    have e : loS (r1, a :: r2) (false, k) = (r1, (a :: r2).dropLast) := rfl
    have hl : ((a :: r2).dropLast).length = r2.length := by rw [List.length_dropLast]; rfl
    rw [List.length_cons] at h
    rw [e, fold_shut k m r1 _ (by rw [hl]; omega), hl, List.dropLast_eq_take, List.take_take, List.length_cons]
    congr 2
    omega
theorem fold_shut0 (k : Nat) : ∀ (m : Nat) (r1 : List Nat), (List.replicate m (false, k)).foldl loS (r1, ([] : List Nat)) = (r1 ++ List.replicate m k, [])
  | 0, r1 => by rw [List.replicate_zero, List.replicate_zero, List.append_nil]; rfl
  | m + 1, r1 => by
    rw [List.replicate_succ, List.foldl_cons]
    have e : loS (r1, ([] : List Nat)) (false, k) = (r1 ++ [k], []) := rfl
    rw [e, fold_shut0 k m, List.append_assoc, List.replicate_succ]; rfl
theorem fold_open (k : Nat) : ∀ (s : Nat) (r1 r2 : List Nat), (List.replicate s (true, k)).foldl loS (r1, r2) = (r1, r2 ++ List.replicate s k)
  | 0, r1, r2 => by rw [List.replicate_zero, List.replicate_zero, List.append_nil]; rfl
  | s + 1, r1, r2 => by
    rw [List.replicate_succ, List.foldl_cons]
    have e : loS (r1, r2) (true, k) = (r1, r2 ++ [k]) := rfl
    rw [e, fold_open k s, List.append_assoc, List.replicate_succ]; rfl
structure BI (m s : Nat → Nat) (n : Nat) (r : List Nat × List Nat) : Prop where
  top : ∀ l, l < n → PB m s l ≤ (r.1.length : Int)
  at_ : r.1 = [] ∨ ∃ k, k < n ∧ PB m s k = r.1.length
  len : (r.2.length : Int) = r.1.length - SB m s n
  fa : ∀ k, r.1.getLast? = some k → FA (PB m s) n k
  la : ∀ k, r.2.head? = some k → LA (PB m s) (SB m s n) n k
theorem BI.fv {m s : Nat → Nat} {n : Nat} {r : List Nat × List Nat} (b : BI m s n r) {k : Nat} (f : FA (PB m s) n k) : PB m s k = r.1.length := by
  have t := b.top k f.lt
  have p := f.pos
  rcases b.at_ with e | ⟨k', h1, h2⟩
  · rw [e] at t
    have t : PB m s k ≤ 0 := t
    omega
  · have := f.top k' h1
    omega
theorem BI.lv {m s : Nat → Nat} {n : Nat} {r : List Nat × List Nat} (b : BI m s n r) {k : Nat} (f : LA (PB m s) (SB m s n) n k) : PB m s k = r.1.length := by
  have t := b.top k f.lt
  rcases b.at_ with e | ⟨k', h1, h2⟩
  · have z := f.top 0 (by have := f.lt; omega)
    have z0 : PB m s 0 = 0 + (m 0 : Int) := rfl
    rw [e] at t ⊢
    have t : PB m s k ≤ 0 := t
    show PB m s k = 0
    omega
  · have := f.top k' h1
    omega
theorem blk_lo (m s : Nat → Nat) : ∀ n, BI m s n (lo (blk m s n))
  | 0 => ⟨fun l hl => absurd hl (Nat.not_lt_zero _), .inl rfl, rfl, fun k h => (by cases h), fun k h => (by cases h)⟩
  | n + 1 => by
    have ih := blk_lo m s n
    have e : lo (blk m s (n + 1)) = (List.replicate (s n) (true, n)).foldl loS ((List.replicate (m n) (false, n)).foldl loS (lo (blk m s n))) := by
      unfold lo blk
      rw [List.range_succ, List.flatMap_append, List.flatMap_singleton, List.foldl_append, List.foldl_append]
    rw [e]
    generalize lo (blk m s n) = r at ih ⊢
    have iv := @BI.fv m s n r ih
    have jv := @BI.lv m s n r ih
    obtain ⟨r1, r2⟩ := r
    obtain ⟨t, a, l, fa, la⟩ := ih
    dsimp only at t a l fa la iv jv
    have hP : PB m s n = SB m s n + m n := rfl
    have hS := SB_succ m s n
    by_cases hm : m n ≤ r2.length
    · rw [fold_shut n (m n) r1 r2 hm, fold_open]
      refine ⟨fun j hj => ?_, ?_, ?_, fun k hk => ?_, fun k hk => ?_⟩
      · show _ ≤ (r1.length : Int)
        by_cases ej : j = n
        · subst ej; omega
        · exact t j (by omega)
      · rcases a with a | ⟨k, h1, h2⟩
        · exact .inl a
        · exact .inr ⟨k, by omega, h2⟩
      · show ((List.length (_ ++ _) : Nat) : Int) = (r1.length : Int) - _
        rw [List.length_append, List.length_take, List.length_replicate]; omega
      · have f := fa k hk
        have v := iv f
        refine ⟨by have := f.lt; omega, f.pos, f.first, fun j hj => ?_⟩
        by_cases ej : j = n
        · subst ej; omega
        · exact f.top j (by omega)
      · have hk : (r2.take (r2.length - m n) ++ List.replicate (s n) n).head? = some k := hk
        by_cases z : m n = r2.length
        · rw [z, Nat.sub_self, List.take_zero, List.nil_append] at hk
          obtain ⟨s0, es⟩ : ∃ s0, s n = s0 + 1 := by
            cases q : s n with
            | zero => rw [q] at hk; cases hk
            | succ s0 => exact ⟨s0, rfl⟩
          rw [es, List.replicate_succ] at hk
          cases hk
          refine ⟨by omega, fun j hj => ?_, fun j h1 h2 => by omega, by omega⟩
          by_cases ej : j = n
          · subst ej; omega
          · have := t j (by omega); omega
        · have hr : r2.head? = some k := by
            cases r2 with
            | nil => simp at hm z; omega
            | cons b r2 =>
              rw [show (b :: r2).length - m n = (r2.length - m n) + 1 by rw [List.length_cons] at *; omega, List.take_succ_cons] at hk
              exact hk
          have f := la k hr
          have v := jv f
          refine ⟨by have := f.lt; omega, fun j hj => ?_, fun j h1 h2 => ?_, by omega⟩
          · by_cases ej : j = n
            · subst ej; omega
            · exact f.top j (by omega)
          · by_cases ej : j = n
            · subst ej; omega
            · exact f.last j h1 (by omega)
    · have er : (List.replicate (m n) (false, n)).foldl loS (r1, r2) = (r1 ++ List.replicate (m n - r2.length) n, []) := by
        have e1 : List.replicate (m n) (false, n) = List.replicate r2.length (false, n) ++ List.replicate (m n - r2.length) (false, n) := by
          rw [List.replicate_append_replicate]; congr 1; omega
        rw [e1, List.foldl_append, fold_shut n r2.length r1 r2 (Nat.le_refl _), Nat.sub_self, List.take_zero, fold_shut0]
      rw [er, fold_open]
      have hl : (r1 ++ List.replicate (m n - r2.length) n).length = r1.length + (m n - r2.length) := by rw [List.length_append, List.length_replicate]
      refine ⟨fun j hj => ?_, .inr ⟨n, by omega, ?_⟩, ?_, fun k hk => ?_, fun k hk => ?_⟩
      · show _ ≤ (((r1 ++ List.replicate (m n - r2.length) n).length : Nat) : Int)
        rw [hl]
        by_cases ej : j = n
        · subst ej; omega
        · have := t j (by omega); omega
      · show _ = (((r1 ++ List.replicate (m n - r2.length) n).length : Nat) : Int)
        rw [hl]; omega
      · show (((([] : List Nat) ++ List.replicate (s n) n).length : Nat) : Int) = (((r1 ++ List.replicate (m n - r2.length) n).length : Nat) : Int) - _
        rw [hl, List.nil_append, List.length_replicate]; omega
      · have hk : (r1 ++ List.replicate (m n - r2.length) n).getLast? = some k := hk
        obtain ⟨q, eq⟩ : ∃ q, m n - r2.length = q + 1 := ⟨m n - r2.length - 1, by omega⟩
        rw [eq, List.replicate_succ', ← List.append_assoc, List.getLast?_concat] at hk
        cases hk
        refine ⟨by omega, by omega, fun j hj => ?_, fun j hj => ?_⟩
        · have := t j hj; omega
        · by_cases ej : j = n
          · subst ej; omega
          · have := t j (by omega); omega
      · have hk : (([] : List Nat) ++ List.replicate (s n) n).head? = some k := hk
        rw [List.nil_append] at hk
        obtain ⟨s0, es⟩ : ∃ s0, s n = s0 + 1 := by
          cases q : s n with
          | zero => rw [q] at hk; cases hk
          | succ s0 => exact ⟨s0, rfl⟩
        rw [es, List.replicate_succ] at hk
        cases hk
        refine ⟨by omega, fun j hj => ?_, fun j h1 h2 => by omega, by omega⟩
        by_cases ej : j = n
        · subst ej; omega
        · have := t j (by omega); omega
end JR
set_option Elab.async false
set_option linter.all false
set_option maxRecDepth 100000
set_option maxHeartbeats 2000000
/-! Tables by entries; transfers by heights. -/
namespace JR
open JRM (pre pre_succ pre_congr FA LA PN SN mvA mvC tn qn)
/-! ### entries -/
theorem at2_get {h w : Nat} {R : List (List Int)} (k : Rect h w R) {r c : Nat} (hr : r < h) (hc : c < w) : ∃ q, R[r]? = some q ∧ q.length = w ∧ q[c]? = some (at2 R r c) := by
  obtain ⟨e, l⟩ := row_at k hr
  exact ⟨_, e, l, getD_some (by rw [l]; exact hc)⟩
theorem tab_ext {h w : Nat} {R T : List (List Int)} (kR : Rect h w R) (kT : Rect h w T) (e : ∀ r c, r < h → c < w → at2 R r c = at2 T r c) : R = T := by
  apply List.ext_getElem?
  intro r
  by_cases hr : r < h
  · rw [(row_at kR hr).1, (row_at kT hr).1]
    congr 1
    apply List.ext_getElem?
    intro c
    by_cases hc : c < w
    · rw [getD_some (by rw [(row_at kR hr).2]; exact hc), getD_some (by rw [(row_at kT hr).2]; exact hc)]
      exact congrArg some (e r c hr hc)
    · rw [List.getElem?_eq_none (by rw [(row_at kR hr).2]; omega), List.getElem?_eq_none (by rw [(row_at kT hr).2]; omega)]
  · rw [List.getElem?_eq_none (by rw [kR.rows]; omega), List.getElem?_eq_none (by rw [kT.rows]; omega)]
theorem set2_at {h w : Nat} {R : List (List Int)} (k : Rect h w R) {r c : Nat} {v : Int} (hr : r < h) (hc : c < w) {r' c' : Nat} (hr' : r' < h) (hc' : c' < w) : at2 (set2 R r c v) r' c' = if r' = r ∧ c' = c then v else at2 R r' c' := by
  have hl : r < R.length := by rw [k.rows]; exact hr
  by_cases e : r' = r
  · subst e
    have e1 : (set2 R r' c v).getD r' [] = (R.getD r' []).set c v := by
      unfold set2
      rw [List.getD_eq_getElem?_getD, List.getElem?_set_self hl]; rfl
    show ((set2 R r' c v).getD r' []).getD c' 0 = _
    rw [e1]
    by_cases e2 : c' = c
    · subst e2
      rw [if_pos ⟨rfl, rfl⟩, List.getD_eq_getElem?_getD, List.getElem?_set_self (by rw [(row_at k hr).2]; exact hc)]; rfl
    · rw [if_neg (fun z => e2 z.2), List.getD_eq_getElem?_getD, List.getElem?_set_ne (fun z => e2 z.symm), ← List.getD_eq_getElem?_getD]
  · rw [if_neg (fun z => e z.1)]
    show ((set2 R r c v).getD r' []).getD c' 0 = _
    unfold set2
    rw [List.getD_eq_getElem?_getD (l := R.set r _), List.getElem?_set_ne (fun z => e z.symm), ← List.getD_eq_getElem?_getD]
theorem set2_rect {h w : Nat} {R : List (List Int)} (k : Rect h w R) {r c : Nat} {v : Int} (hr : r < h) : Rect h w (set2 R r c v) := by
  refine ⟨by unfold set2; rw [List.length_set]; exact k.rows, fun q hq => ?_, k.hb, k.wb⟩
  unfold set2 at hq
  rcases List.mem_or_eq_of_mem_set hq with hq | hq
  · exact k.cols q hq
  · rw [hq, List.length_set]
    exact (row_at k hr).2
/-- two entries changed -/
def mv2 (X : Nat → Nat → Int) (a b a' b' : Nat) : Nat → Nat → Int := fun r c => X r c + (if r = a ∧ c = b then 1 else 0) - (if r = a' ∧ c = b' then 1 else 0)
theorem mvA_mv2 (X : Nat → Nat → Int) (g t k : Nat) : mvA X g t k = mv2 X t k g k := rfl
theorem mvC_mv2 (X : Nat → Nat → Int) (g t k : Nat) : mvC X g t k = mv2 X k t k g := rfl
theorem set2_mv2 {h w : Nat} {R : List (List Int)} (k : Rect h w R) {a b a' b' : Nat} (ha : a < h) (hb : b < w) (ha' : a' < h) (hb' : b' < w) (ne : ¬(a = a' ∧ b = b')) {r c : Nat} (hr : r < h) (hc : c < w) :
    at2 (set2 (set2 R a' b' (at2 R a' b' - 1)) a b (at2 (set2 R a' b' (at2 R a' b' - 1)) a b + 1)) r c = mv2 (at2 R) a b a' b' r c := by
  rw [set2_at (set2_rect k ha') ha hb hr hc, set2_at k ha' hb' ha hb, set2_at k ha' hb' hr hc]
  unfold mv2
  by_cases e : r = a ∧ c = b
  · obtain ⟨e1, e2⟩ := e
    subst e1 e2
    rw [if_pos ⟨rfl, rfl⟩, if_neg ne, if_pos ⟨rfl, rfl⟩, if_neg ne]; omega
  · rw [if_neg e, if_neg e]
    by_cases e' : r = a' ∧ c = b'
    · obtain ⟨e1, e2⟩ := e'
      subst e1 e2
      rw [if_pos ⟨rfl, rfl⟩, if_pos ⟨rfl, rfl⟩]; omega
    · rw [if_neg e', if_neg e']; omega
theorem mvK_at {h w : Nat} {R : List (List Int)} (q : Rect h w R) {g t k : Nat} (hg : g < h) (ht : t < h) (hk : k < w) (ne : g ≠ t) {r c : Nat} (hr : r < h) (hc : c < w) : at2 (mvK R g t k false) r c = mvA (at2 R) g t k r c := by
  rw [mvA_mv2]
  exact set2_mv2 q ht hk hg hk (fun z => ne z.1.symm) hr hc
theorem mvK_atC {h w : Nat} {R : List (List Int)} (q : Rect h w R) {g t k : Nat} (hg : g < w) (ht : t < w) (hk : k < h) (ne : g ≠ t) {r c : Nat} (hr : r < h) (hc : c < w) : at2 (mvK R g t k true) r c = mvC (at2 R) g t k r c := by
  rw [mvC_mv2]
  exact set2_mv2 q hk ht hk hg (fun z => ne z.2.symm) hr hc
theorem mvK_rect {h w : Nat} {R : List (List Int)} (q : Rect h w R) {g t k : Nat} {ac : Bool} (hg : g < limA h w ac) (ht : t < limA h w ac) (hk : k < limA h w !ac) : Rect h w (mvK R g t k ac) := by
  cases ac with
  | true => exact set2_rect (set2_rect q hk) hk
  | false => exact set2_rect (set2_rect q hg) ht
/-! ### weighted sums -/
theorem pre_bump2 (f : Nat → Int) (A B : Prop) [Decidable A] [Decidable B] (a b : Nat) (u v : Int) : ∀ n, pre (fun c => f c + (if A ∧ c = a then u else 0) - (if B ∧ c = b then v else 0)) n = pre f n + (if A ∧ a < n then u else 0) - (if B ∧ b < n then v else 0)
  | 0 => by
    show (0 : Int) = 0 + _ - _
    rw [if_neg (fun z => Nat.not_lt_zero _ z.2), if_neg (fun z => Nat.not_lt_zero _ z.2)]; rfl
  | n + 1 => by
    rw [pre_succ, pre_succ, pre_bump2 f A B a b u v n]
    have e : ∀ (A : Prop) [Decidable A] (a : Nat) (u : Int), (if A ∧ a < n + 1 then u else 0) = (if A ∧ a < n then u else 0) + (if A ∧ n = a then u else 0) := fun A _ a u => by
      by_cases h : A
      · by_cases h1 : a < n
        · rw [if_pos ⟨h, by omega⟩, if_pos ⟨h, h1⟩, if_neg (fun z => by omega)]; omega
        · by_cases h2 : n = a
          · rw [if_pos ⟨h, by omega⟩, if_neg (fun z => h1 z.2), if_pos ⟨h, h2⟩]; omega
          · rw [if_neg (fun z => by omega), if_neg (fun z => h1 z.2), if_neg (fun z => h2 z.2)]; rfl
      · rw [if_neg (fun z => h z.1), if_neg (fun z => h z.1), if_neg (fun z => h z.1)]; rfl
    rw [e A a u, e B b v]; omega
def dot (q X : Nat → Nat → Int) (h w : Nat) : Int := pre (fun r => pre (fun c => q r c * X r c) w) h
theorem dot_congr {q X Y : Nat → Nat → Int} {h w : Nat} (e : ∀ r c, r < h → c < w → X r c = Y r c) : dot q X h w = dot q Y h w := pre_congr fun r hr => pre_congr fun c hc => by rw [e r c hr hc]
theorem dot_mv2 (q X : Nat → Nat → Int) {h w a b a' b' : Nat} (ha : a < h) (hb : b < w) (ha' : a' < h) (hb' : b' < w) : dot q (mv2 X a b a' b') h w = dot q X h w + q a b - q a' b' := by
  have e1 : ∀ r, pre (fun c => q r c * mv2 X a b a' b' r c) w = pre (fun c => q r c * X r c) w + (if True ∧ r = a then q a b else 0) - (if True ∧ r = a' then q a' b' else 0) := fun r => by
    have e2 : (fun c => q r c * mv2 X a b a' b' r c) = fun c => q r c * X r c + (if r = a ∧ c = b then q a b else 0) - (if r = a' ∧ c = b' then q a' b' else 0) := by
      funext c
      unfold mv2
      rw [Int.mul_sub, Int.mul_add]
      have z : ∀ (a b : Nat), q r c * (if r = a ∧ c = b then (1 : Int) else 0) = if r = a ∧ c = b then q a b else 0 := fun a b => by
        by_cases e : r = a ∧ c = b
        · obtain ⟨q1, q2⟩ := e
          subst q1 q2
          rw [if_pos ⟨rfl, rfl⟩, if_pos ⟨rfl, rfl⟩, Int.mul_one]
        · rw [if_neg e, if_neg e, Int.mul_zero]
      rw [z, z]
    rw [e2, pre_bump2]
    rw [JRM.if_add (a := q a b) (show (r = a ∧ b < w) ↔ (True ∧ r = a) from ⟨fun z => ⟨trivial, z.1⟩, fun z => ⟨z.2, hb⟩⟩), JRM.if_add (a := q a' b') (show (r = a' ∧ b' < w) ↔ (True ∧ r = a') from ⟨fun z => ⟨trivial, z.1⟩, fun z => ⟨z.2, hb'⟩⟩)]
  unfold dot
  rw [show (fun r => pre (fun c => q r c * mv2 X a b a' b' r c) w) = _ from funext e1, pre_bump2, if_pos ⟨trivial, ha⟩, if_pos ⟨trivial, ha'⟩]
theorem sum_pre (f : Nat → Int) : ∀ n, ((List.range n).map f).sum = pre f n
  | 0 => rfl
  | n + 1 => by
    rw [List.range_succ, List.map_append, List.sum_append, sum_pre f n, pre_succ, List.map_singleton, List.sum_singleton]
theorem list_get {r : List Int} : r = (List.range r.length).map fun c => r.getD c 0 := by
  apply List.ext_getElem?
  intro i
  by_cases h : i < r.length
  · rw [getD_some h, List.getElem?_map, List.getElem?_range h]; rfl
  · rw [List.getElem?_eq_none (by omega), List.getElem?_eq_none (by rw [List.length_map, List.length_range]; omega)]
theorem row_sum {h w : Nat} {R : List (List Int)} (k : Rect h w R) {r : Nat} (hr : r < h) : (R.getD r []).sum = pre (at2 R r) w := by
  conv => lhs; rw [list_get (r := R.getD r [])]
  rw [(row_at k hr).2, sum_pre]
theorem rows_get {h w : Nat} {R : List (List Int)} (k : Rect h w R) : R = (List.range h).map fun r => R.getD r [] := by
  apply List.ext_getElem?
  intro i
  by_cases hi : i < h
  · rw [(row_at k hi).1, List.getElem?_map, List.getElem?_range hi]; rfl
  · rw [List.getElem?_eq_none (by rw [k.rows]; omega), List.getElem?_eq_none (by rw [List.length_map, List.length_range]; omega)]
theorem sums_get {h w : Nat} {R : List (List Int)} (k : Rect h w R) : R.map List.sum = (List.range h).map fun r => pre (at2 R r) w := by
  conv => lhs; rw [rows_get k]
  rw [List.map_map]
  exact List.map_congr_left fun r hr => row_sum k (List.mem_range.mp hr)
theorem tot_pre {h w : Nat} {R : List (List Int)} (k : Rect h w R) : (R.map List.sum).sum = dot (fun _ _ => 1) (at2 R) h w := by
  rw [sums_get k, sum_pre]
  exact pre_congr fun r _ => pre_congr fun c _ => (Int.one_mul _).symm
theorem okT_of {sg : Bool} {h w : Nat} {R : List (List Int)} (k : Rect h w R) (nn : ∀ r c, r < h → c < w → 0 ≤ at2 R r c ∧ (sg = true → at2 R r c ≤ 1)) (tot : dot (fun _ _ => 1) (at2 R) h w ≤ 12) : OkT sg h w R := by
  refine ⟨k, fun r hr x hx => ?_, by rw [tot_pre k]; exact tot⟩
  obtain ⟨i, hi, e⟩ := List.getElem_of_mem hr
  obtain ⟨j, hj, e'⟩ := List.getElem_of_mem hx
  have hi' : i < h := by rw [← k.rows]; exact hi
  have hj' : j < w := by rw [← k.cols r hr]; exact hj
  have q := nn i j hi' hj'
  have : at2 R i j = x := by
    show (R.getD i []).getD j 0 = x
    rw [List.getD_eq_getElem?_getD (l := R), List.getElem?_eq_getElem hi, e]
    show r.getD j 0 = x
    rw [List.getD_eq_getElem?_getD, List.getElem?_eq_getElem hj, e']; rfl
  rw [this] at q
  exact q
/-- where a mark goes on the way up -/
theorem ok_mv2 {sg : Bool} {h w : Nat} {R T : List (List Int)} (k : OkT sg h w R) (kT : Rect h w T) {a b a' b' : Nat} (ha : a < h) (hb : b < w) (ha' : a' < h) (hb' : b' < w) (e : ∀ r c, r < h → c < w → at2 T r c = mv2 (at2 R) a b a' b' r c) (h1 : 1 ≤ at2 R a' b') (h2 : sg = true → at2 R a b = 0) : OkT sg h w T := by
  refine okT_of kT (fun r c hr hc => ?_) ?_
  · rw [e r c hr hc]
    obtain ⟨q1, q2, q3⟩ := k.at hr hc
    unfold mv2
    by_cases z : r = a ∧ c = b
    · obtain ⟨z1, z2⟩ := z
      subst z1 z2
      rw [if_pos ⟨rfl, rfl⟩]
      refine ⟨by split <;> omega, fun s => ?_⟩
      have := h2 s
      split <;> omega
    · rw [if_neg z]
      by_cases y : r = a' ∧ c = b'
      · obtain ⟨y1, y2⟩ := y
        subst y1 y2
        rw [if_pos ⟨rfl, rfl⟩]
        exact ⟨by omega, fun s => by have := q3 s; omega⟩
      · rw [if_neg y]
        exact ⟨by omega, fun s => by have := q3 s; omega⟩
  · rw [dot_congr e, dot_mv2 _ _ ha hb ha' hb']
    have := k.tot
    rw [tot_pre k.toRect] at this
    omega
theorem muT_dot {sg : Bool} {h w : Nat} {R : List (List Int)} (k : OkT sg h w R) : ((muT R : Nat) : Int) = dot (fun r c => ((r + c : Nat) : Int)) (at2 R) h w := by
  have sn : ∀ (f : Nat → Nat) (n : Nat), ((((List.range n).map f).sum : Nat) : Int) = pre (fun k => (f k : Int)) n := fun f n => by
    induction n with
    | zero => rfl
    | succ n ih =>
      rw [List.range_succ, List.map_append, List.sum_append, List.map_singleton, List.sum_singleton, pre_succ, ← ih]
      omega
  unfold muT dot
  rw [k.rows, k.toRect.width, sn]
  refine pre_congr fun r hr => ?_
  rw [sn]
  refine pre_congr fun c hc => ?_
  have q := (k.at hr hc).1
  rw [Int.natCast_mul, Int.toNat_of_nonneg q]
theorem mu_le {sg : Bool} {h w : Nat} {R : List (List Int)} (k : OkT sg h w R) : muT R ≤ 100 := by
  have e := muT_dot k
  have t := k.tot
  rw [tot_pre k.toRect] at t
  have hb := k.hb
  have wb := k.wb
  have le : dot (fun r c => ((r + c : Nat) : Int)) (at2 R) h w ≤ 6 * dot (fun _ _ => 1) (at2 R) h w := by
    unfold dot
    rw [← JRM.pre_mul]
    refine JRM.pre_le fun r hr => ?_
    rw [← JRM.pre_mul]
    refine JRM.pre_le fun c hc => ?_
    have q := (k.at hr hc).1
    show ((r + c : Nat) : Int) * at2 R r c ≤ 6 * (1 * at2 R r c)
    rw [Int.one_mul]
    exact Int.mul_le_mul_of_nonneg_right (by omega) q
  omega
end JR
set_option Elab.async false
set_option linter.all false
set_option maxRecDepth 100000
set_option maxHeartbeats 2000000
/-! One transfer: where it is. -/
namespace JR
open JRM (pre pre_succ pre_congr FA LA PN SN mvA mvC tn qn)
theorem FA.congr {P Q : Nat → Int} {n k : Nat} (e : ∀ l, l < n → P l = Q l) (f : FA P n k) : FA Q n k := by
  have l := f.lt
  refine ⟨l, by rw [← e k l]; exact f.pos, fun j hj => ?_, fun j hj => ?_⟩
  · rw [← e j (by omega), ← e k l]; exact f.first j hj
  · rw [← e j hj, ← e k l]; exact f.top j hj
theorem LA.congr {P Q : Nat → Int} {S : Int} {n k : Nat} (e : ∀ l, l < n → P l = Q l) (f : LA P S n k) : LA Q S n k := by
  have l := f.lt
  refine ⟨l, fun j hj => ?_, fun j h1 h2 => ?_, by rw [← e k l]; exact f.big⟩
  · rw [← e j hj, ← e k l]; exact f.top j hj
  · rw [← e j h2, ← e k l]; exact f.last j h1 h2
def moF (sg : Bool) (R : List (List Int)) (a b : Nat) (k : Nat) : Nat := if sg = true ∧ at2 R a k = at2 R b k then 0 else (at2 R b k).toNat
def leF (sg : Bool) (R : List (List Int)) (a b : Nat) (k : Nat) : Nat := if sg = true ∧ at2 R a k = at2 R b k then 0 else (at2 R a k).toNat
theorem spots_blk (sg : Bool) (R : List (List Int)) (a b : Nat) : spotsA sg R a b false = blk (moF sg R a b) (leF sg R a b) (width R) := by
  unfold spotsA blk ksA lessA
  show (List.range (width R)).flatMap _ = _
  congr 1
  funext k
  show cellS sg (at2 R a k) (at2 R b k) k = _
  unfold cellS moF leF
  by_cases h : sg = true ∧ at2 R a k = at2 R b k
  · rw [if_pos h, if_pos h, if_pos h]; rfl
  · rw [if_neg h, if_neg h, if_neg h]
theorem FA_mo {m s : Nat → Nat} {n c : Nat} (f : FA (PB m s) n c) : 0 < m c := by
  cases c with
  | zero =>
    have p := f.pos
    have z0 : PB m s 0 = 0 + (m 0 : Int) := rfl
    omega
  | succ c =>
    have q := f.first c (by omega)
    have e := SB_succ m s c
    have e2 : PB m s (c + 1) = SB m s (c + 1) + m (c + 1) := rfl
    omega
theorem LA_le {m s : Nat → Nat} {n c : Nat} (f : LA (PB m s) (SB m s n) n c) : 0 < s c := by
  have l := f.lt
  have e := SB_succ m s c
  by_cases h : c + 1 < n
  · have q := f.last (c + 1) (by omega) h
    have e2 : PB m s (c + 1) = SB m s (c + 1) + m (c + 1) := rfl
    omega
  · have b := f.big
    rw [show n = c + 1 by omega] at b
    omega
theorem SB_le {m s : Nat → Nat} {M : Int} {n : Nat} (h : ∀ l, l < n → PB m s l ≤ M) (hM : 0 ≤ M) : ∀ l, l ≤ n → SB m s l ≤ M
  | 0, _ => hM
  | l + 1, hl => by
    have e := SB_succ m s l
    have := h l (by omega)
    omega
theorem FA_sb {m s : Nat → Nat} {n c : Nat} (h1 : m c ≤ 1) (h2 : m c = 0 ∨ s c = 0) (f : FA (PB m s) n c) : FA (SB m s) (n + 1) (c + 1) := by
  have mo := FA_mo f
  have e := SB_succ m s c
  have p := f.pos
  have l := f.lt
  have hv : SB m s (c + 1) = PB m s c := by omega
  have t := SB_le (n := n) f.top (by omega)
  refine ⟨by omega, by omega, fun j hj => ?_, fun j hj => ?_⟩
  · rw [hv]
    cases j with
    | zero => rw [SB_zero]; exact p
    | succ j =>
      have := SB_succ m s j
      have := f.first j (by omega)
      omega
  · rw [hv]; exact t j (by omega)
theorem LA_sb {m s : Nat → Nat} {n c : Nat} (h2 : m c = 0 ∨ s c = 0) (f : LA (PB m s) (SB m s n) n c) : LA (SB m s) (SB m s n) (n + 1) c := by
  have le := LA_le f
  have e2 : PB m s c = SB m s c + m c := rfl
  have hv : SB m s c = PB m s c := by omega
  have l := f.lt
  have z := f.top 0 (by omega)
  have z0 : PB m s 0 = 0 + (m 0 : Int) := rfl
  have t := SB_le (n := n) f.top (by omega)
  refine ⟨by omega, fun j hj => ?_, fun j h1 h2 => ?_, by rw [hv]; exact f.big⟩
  · rw [hv]; exact t j (by omega)
  · rw [hv]
    cases j with
    | zero => omega
    | succ j =>
      have := SB_succ m s j
      by_cases ej : j = c
      · subst ej; omega
      · have := f.last j (by omega) (by omega)
        omega
theorem lo_char (m s : Nat → Nat) (n : Nat) (h0 : 0 < n) : ((lo (blk m s n)).1.getLast? = none → ∀ l, l < n → PB m s l ≤ 0) ∧ ((lo (blk m s n)).2.head? = none → ∀ l, l < n → PB m s l ≤ SB m s n) := by
  have b := blk_lo m s n
  generalize lo (blk m s n) = r at b ⊢
  obtain ⟨r1, r2⟩ := r
  constructor
  · intro h l hl
    have h := List.getLast?_eq_none_iff.mp h
    have t := b.top l hl
    rw [show (r1, r2).1 = r1 from rfl, show r1 = [] from h] at t
    exact t
  · intro h l hl
    have h := List.head?_eq_none_iff.mp h
    have t := b.top l hl
    have e := b.len
    rw [show (r1, r2).2 = [] from h] at e
    have e : (0 : Int) = _ := e
    omega
/-! ### heights of tables -/
def HS (sg : Bool) (X : Nat → Nat → Int) (i : Nat) : Nat → Int := if sg then SN X i else PN X i
def nS (sg : Bool) (w : Nat) : Nat := if sg then w + 1 else w
def upS (sg : Bool) (c : Nat) : Nat := if sg then c + 1 else c
section
variable {sg : Bool} {h w : Nat} {R : List (List Int)} {i : Nat}
theorem mo_facts (k : OkT sg h w R) (hi : i + 1 < h) {c : Nat} (hc : c < w) : ((moF sg R i (i + 1) c : Nat) : Int) - (leF sg R i (i + 1) c : Nat) = at2 R (i + 1) c - at2 R i c ∧ (sg = false → ((moF sg R i (i + 1) c : Nat) : Int) = at2 R (i + 1) c) ∧
    (sg = true → moF sg R i (i + 1) c ≤ 1 ∧ (moF sg R i (i + 1) c = 0 ∨ leF sg R i (i + 1) c = 0)) ∧ (0 < moF sg R i (i + 1) c → 1 ≤ at2 R (i + 1) c ∧ (sg = true → at2 R i c = 0)) ∧ (0 < leF sg R i (i + 1) c → 1 ≤ at2 R i c ∧ (sg = true → at2 R (i + 1) c = 0)) := by
  obtain ⟨a1, a2, a3⟩ := k.at (show i < h by omega) hc
  obtain ⟨b1, b2, b3⟩ := k.at hi hc
  unfold moF leF
  cases sg with
  | false =>
    have hn : ¬(false = true ∧ at2 R i c = at2 R (i + 1) c) := fun z => Bool.noConfusion z.1
    rw [if_neg hn, if_neg hn]
    refine ⟨by omega, fun _ => by omega, fun z => Bool.noConfusion z, fun z => ⟨by omega, fun z => Bool.noConfusion z⟩, fun z => ⟨by omega, fun z => Bool.noConfusion z⟩⟩
  | true =>
    have a3 := a3 rfl
    have b3 := b3 rfl
    by_cases e : at2 R i c = at2 R (i + 1) c
    · rw [if_pos ⟨rfl, e⟩, if_pos ⟨rfl, e⟩]
      refine ⟨by omega, fun z => Bool.noConfusion z, fun _ => ⟨by omega, .inl rfl⟩, fun z => by omega, fun z => by omega⟩
    · rw [if_neg (fun z => e z.2), if_neg (fun z => e z.2)]
      refine ⟨by omega, fun z => Bool.noConfusion z, fun _ => ⟨by omega, by omega⟩, fun z => ⟨by omega, fun _ => by omega⟩, fun z => ⟨by omega, fun _ => by omega⟩⟩
theorem SB_SN (k : OkT sg h w R) (hi : i + 1 < h) {l : Nat} (hl : l ≤ w) : SB (moF sg R i (i + 1)) (leF sg R i (i + 1)) l = SN (at2 R) i l := by
  unfold SB SN
  rw [← JRM.pre_sub, ← JRM.pre_sub]
  exact pre_congr fun c hc => (mo_facts k hi (by omega)).1
theorem PB_PN (k : OkT false h w R) (hi : i + 1 < h) {l : Nat} (hl : l < w) : PB (moF false R i (i + 1)) (leF false R i (i + 1)) l = PN (at2 R) i l := by
  have e := SB_SN k hi (Nat.le_of_lt hl)
  have e2 := (mo_facts k hi hl).2.1 rfl
  unfold PB PN
  rw [pre_succ, e, e2]
  unfold SN; omega
/-- the transfer from i + 1 to i -/
theorem stepE (k : OkT sg h w R) (hi : i + 1 < h) :
    (stepA sg R (i + 1) i false = none ∧ ∀ l, l < nS sg w → HS sg (at2 R) i l ≤ 0) ∨
    ∃ c, c < w ∧ FA (HS sg (at2 R) i) (nS sg w) (upS sg c) ∧ stepA sg R (i + 1) i false = some (mvK R (i + 1) i c false) ∧ 1 ≤ at2 R (i + 1) c ∧ (sg = true → at2 R i c = 0) := by
  have wb := k.wb
  have e : stepA sg R (i + 1) i false = (lo (blk (moF sg R i (i + 1)) (leF sg R i (i + 1)) w)).1.getLast?.map fun c => mvK R (i + 1) i c false := by
    unfold stepA
    rw [if_pos (show i < i + 1 by omega), if_neg (show ¬ i > i + 1 by omega), spots_blk, k.toRect.width]
    rw [if_neg (show ¬ i > i + 1 by omega)]
  have ch := lo_char (moF sg R i (i + 1)) (leF sg R i (i + 1)) w (by omega)
  have b := blk_lo (moF sg R i (i + 1)) (leF sg R i (i + 1)) w
  rw [e]
  cases hq : (lo (blk (moF sg R i (i + 1)) (leF sg R i (i + 1)) w)).1.getLast? with
  | none =>
    have q := ch.1 hq
    refine .inl ⟨rfl, fun l hl => ?_⟩
    cases sg with
    | true =>
      have := SB_le q (Int.le_refl 0) l (by have : l < w + 1 := hl; omega)
      rw [SB_SN k hi (by have : l < w + 1 := hl; omega)] at this
      exact this
    | false =>
      have := q l hl
      rw [PB_PN k hi hl] at this
      exact this
  | some c =>
    have f := b.fa c hq
    have hc := f.lt
    have mf := mo_facts k hi hc
    have mo := FA_mo f
    obtain ⟨m1, m2⟩ := mf.2.2.2.1 mo
    refine .inr ⟨c, hc, ?_, rfl, m1, m2⟩
    cases sg with
    | true =>
      obtain ⟨z1, z2⟩ := mf.2.2.1 rfl
      exact FA.congr (fun l hl => SB_SN k hi (Nat.le_of_lt_succ hl)) (FA_sb z1 z2 f)
    | false => exact FA.congr (fun l hl => PB_PN k hi hl) f
/-- the transfer from i to i + 1 -/
theorem stepF (k : OkT sg h w R) (hi : i + 1 < h) :
    (stepA sg R i (i + 1) false = none ∧ ∀ l, l < nS sg w → HS sg (at2 R) i l ≤ SN (at2 R) i w) ∨
    ∃ c, c < w ∧ LA (HS sg (at2 R) i) (SN (at2 R) i w) (nS sg w) c ∧ stepA sg R i (i + 1) false = some (mvK R i (i + 1) c false) ∧ 1 ≤ at2 R i c ∧ (sg = true → at2 R (i + 1) c = 0) := by
  have wb := k.wb
  have e : stepA sg R i (i + 1) false = (lo (blk (moF sg R i (i + 1)) (leF sg R i (i + 1)) w)).2.head?.map fun c => mvK R i (i + 1) c false := by
    unfold stepA
    rw [if_neg (show ¬ i + 1 < i by omega), if_pos (show i + 1 > i by omega), spots_blk, k.toRect.width]
    rw [if_pos (show i + 1 > i by omega)]
  have ch := lo_char (moF sg R i (i + 1)) (leF sg R i (i + 1)) w (by omega)
  have b := blk_lo (moF sg R i (i + 1)) (leF sg R i (i + 1)) w
  have sw := SB_SN k hi (Nat.le_refl w)
  rw [e]
  cases hq : (lo (blk (moF sg R i (i + 1)) (leF sg R i (i + 1)) w)).2.head? with
  | none =>
    have q := ch.2 hq
    rw [sw] at q
    refine .inl ⟨rfl, fun l hl => ?_⟩
    cases sg with
    | true =>
      have z := q 0 (by omega)
      have z0 : PB (moF true R i (i + 1)) (leF true R i (i + 1)) 0 = 0 + (moF true R i (i + 1) 0 : Int) := rfl
      have hl : l < w + 1 := hl
      have := SB_le q (by omega) l (by omega)
      rw [SB_SN k hi (by omega)] at this
      exact this
    | false =>
      have := q l hl
      rw [PB_PN k hi hl] at this
      exact this
  | some c =>
    have f := b.la c hq
    have hc := f.lt
    have mf := mo_facts k hi hc
    have le := LA_le f
    obtain ⟨m1, m2⟩ := mf.2.2.2.2 le
    refine .inr ⟨c, hc, ?_, rfl, m1, m2⟩
    cases sg with
    | true =>
      obtain ⟨z1, z2⟩ := mf.2.2.1 rfl
      have f2 := LA_sb z2 f
      rw [sw] at f2
      exact LA.congr (fun l hl => SB_SN k hi (Nat.le_of_lt_succ hl)) f2
    | false =>
      rw [sw] at f
      exact LA.congr (fun l hl => PB_PN k hi hl) f
end
end JR
set_option Elab.async false
set_option linter.all false
set_option maxRecDepth 100000
set_option maxHeartbeats 2000000
/-! Tables crossed; the program's transfer is the law's own. -/
namespace JR
open JRM (pre pre_succ pre_congr FA LA PN SN mvA mvC tn qn)
section
variable {sg : Bool} {h w : Nat} {R : List (List Int)}
theorem col_get (k : Rect h w R) {r : Nat} (hr : r < h) (c : Nat) : (col R c)[r]? = some (at2 R r c) := by
  unfold col
  rw [List.getElem?_map, (row_at k hr).1]; rfl
theorem col_len (k : Rect h w R) (c : Nat) : (col R c).length = h := by
  unfold col
  rw [List.length_map]; exact k.rows
theorem tr_rect (k : Rect h w R) : Rect w h (tr R) := by
  refine ⟨by unfold tr; rw [List.length_map, List.length_range]; exact k.width, fun q hq => ?_, k.wb, k.hb⟩
  unfold tr at hq
  obtain ⟨c, _, rfl⟩ := List.mem_map.mp hq
  exact col_len k c
theorem qr_rect (k : Rect h w R) : Rect w h (qr R) := by
  refine ⟨by unfold qr; rw [List.length_map, List.length_range]; exact k.width, fun q hq => ?_, k.wb, k.hb⟩
  unfold qr at hq
  obtain ⟨c, _, rfl⟩ := List.mem_map.mp hq
  rw [List.length_reverse]
  exact col_len k c
theorem qb_rect (k : Rect h w R) : Rect w h (qb R) := by
  refine ⟨by unfold qb; rw [List.length_map, List.length_range]; exact k.width, fun q hq => ?_, k.wb, k.hb⟩
  unfold qb at hq
  obtain ⟨c, _, rfl⟩ := List.mem_map.mp hq
  exact col_len k _
theorem at2_of {R : List (List Int)} {r c : Nat} {q : List Int} {x : Int} (e : R[r]? = some q) (e' : q[c]? = some x) : at2 R r c = x := by
  show (R.getD r []).getD c 0 = x
  rw [List.getD_eq_getElem?_getD (l := R), e]
  show q.getD c 0 = x
  rw [List.getD_eq_getElem?_getD, e']; rfl
theorem tr_at (k : Rect h w R) {r c : Nat} (hr : r < h) (hc : c < w) : at2 (tr R) c r = at2 R r c := by
  refine at2_of (q := col R c) ?_ (col_get k hr c)
  unfold tr
  rw [List.getElem?_map, List.getElem?_range (by rw [k.width]; exact hc)]; rfl
theorem qr_at (k : Rect h w R) {r c : Nat} (hr : r < h) (hc : c < w) : at2 (qr R) c r = at2 R (h - 1 - r) c := by
  refine at2_of (q := (col R c).reverse) ?_ ?_
  · unfold qr
    rw [List.getElem?_map, List.getElem?_range (by rw [k.width]; exact hc)]; rfl
  · rw [List.getElem?_reverse (by rw [col_len k]; exact hr), col_len k]
    exact col_get k (by omega) c
theorem qb_at (k : Rect h w R) {r c : Nat} (hr : r < h) (hc : c < w) : at2 (qb R) c r = at2 R r (w - 1 - c) := by
  refine at2_of (q := col R (w - 1 - c)) ?_ (col_get k hr _)
  unfold qb
  rw [List.getElem?_map, List.getElem?_range (by rw [k.width]; exact hc), k.width]; rfl
theorem tr_tr (k : Rect h w R) : tr (tr R) = R := tab_ext (tr_rect (tr_rect k)) k fun r c hr hc => by rw [tr_at (tr_rect k) hc hr, tr_at k hr hc]
theorem qb_qr (k : Rect h w R) : qb (qr R) = R := tab_ext (qb_rect (qr_rect k)) k fun r c hr hc => by
  rw [qb_at (qr_rect k) hc hr, qr_at k (by omega) hc]
  congr 1
  omega
theorem sum_rev : ∀ l : List Int, l.reverse.sum = l.sum
  | [] => rfl
  | a :: l => by
    rw [List.reverse_cons, List.sum_append, sum_rev l, List.sum_cons, List.sum_cons, List.sum_nil]; omega
def crA (sg : Bool) (R : List (List Int)) : List (List Int) := if sg then qr R else tr R
theorem cr_rect (k : Rect h w R) : Rect w h (crA sg R) := by
  cases sg with
  | true => exact qr_rect k
  | false => exact tr_rect k
def flA (sg : Bool) (h k : Nat) : Nat := if sg then h - 1 - k else k
theorem flA_lt {k : Nat} (hk : k < h) : flA sg h k < h := by
  unfold flA
  split <;> omega
theorem flA_fl {k : Nat} (hk : k < h) : flA sg h (flA sg h k) = k := by
  unfold flA
  cases sg with
  | true =>
    show h - 1 - (h - 1 - k) = k
    omega
  | false => rfl
theorem cr_at (k : Rect h w R) {r c : Nat} (hr : r < h) (hc : c < w) : at2 (crA sg R) c r = at2 R (flA sg h r) c := by
  cases sg with
  | true => exact qr_at k hr hc
  | false => exact tr_at k hr hc
theorem cr_ok (k : OkT sg h w R) : OkT sg w h (crA sg R) := by
  refine ⟨cr_rect k.toRect, fun q hq x hx => ?_, ?_⟩
  · have m : ∃ c, c < w ∧ x ∈ col R c := by
      cases sg with
      | true =>
        have hq : q ∈ qr R := hq
        unfold qr at hq
        obtain ⟨c, hc, rfl⟩ := List.mem_map.mp hq
        exact ⟨c, by have := List.mem_range.mp hc; rw [k.toRect.width] at this; exact this, List.mem_reverse.mp hx⟩
      | false =>
        have hq : q ∈ tr R := hq
        unfold tr at hq
        obtain ⟨c, hc, rfl⟩ := List.mem_map.mp hq
        exact ⟨c, by have := List.mem_range.mp hc; rw [k.toRect.width] at this; exact this, hx⟩
    obtain ⟨c, hc, m⟩ := m
    exact k.cnn hc x m
  · have e : (crA sg R).map List.sum = (List.range w).map fun c => (col R c).sum := by
      cases sg with
      | true =>
        show (qr R).map List.sum = _
        unfold qr
        rw [List.map_map, k.toRect.width]
        exact List.map_congr_left fun c _ => sum_rev _
      | false =>
        show (tr R).map List.sum = _
        unfold tr
        rw [List.map_map, k.toRect.width]; rfl
    rw [e, cols_sum w R k.cols]
    exact k.tot
theorem cell_map (f : Nat → Nat) (a b : Int) (k : Nat) : cellS sg a b (f k) = (cellS sg a b k).map fun p => (p.1, f p.2) := by
  unfold cellS
  split
  · rfl
  · rw [List.map_append, List.map_replicate, List.map_replicate]
theorem range_rev : ∀ n : Nat, (List.range n).reverse = (List.range n).map fun k => n - 1 - k := fun n => by
  apply List.ext_getElem?
  intro i
  by_cases hi : i < n
  · rw [List.getElem?_reverse (by rw [List.length_range]; exact hi), List.length_range, List.getElem?_map, List.getElem?_range hi, List.getElem?_range (by omega)]; rfl
  · rw [List.getElem?_eq_none (by rw [List.length_reverse, List.length_range]; omega), List.getElem?_eq_none (by rw [List.length_map, List.length_range]; omega)]
theorem flat_congr {α β : Type} {f g : α → List β} : ∀ {l : List α}, (∀ x ∈ l, f x = g x) → l.flatMap f = l.flatMap g
  | [], _ => rfl
  | a :: l, h => by rw [List.flatMap_cons, List.flatMap_cons, h a List.mem_cons_self, flat_congr fun x hx => h x (List.mem_cons_of_mem _ hx)]
theorem cr_spots (k : Rect h w R) {a b : Nat} (ha : a < w) (hb : b < w) : spotsA sg R a b true = (spotsA sg (crA sg R) a b false).map fun p => (p.1, flA sg h p.2) := by
  have e1 : ksA sg R true = (List.range h).map (flA sg h) := by
    unfold ksA
    rw [k.rows]
    cases sg with
    | true => exact range_rev h
    | false => exact (List.map_id _).symm
  have e2 : ksA sg (crA sg R) false = List.range h := congrArg List.range (cr_rect k).width
  unfold spotsA
  rw [e1, e2, List.map_flatMap, List.flatMap_map]
  refine flat_congr fun j hj => ?_
  have hj := List.mem_range.mp hj
  show cellS sg (at2 R (flA sg h j) a) (at2 R (flA sg h j) b) (flA sg h j) = (cellS sg (at2 (crA sg R) a j) (at2 (crA sg R) b j) j).map _
  rw [cr_at k hj ha, cr_at k hj hb, cell_map]
theorem spot_lt {a b : Nat} : ∀ p ∈ spotsA sg R a b false, p.2 < width R := fun p hp => List.mem_range.mp (spots_in p hp)
theorem cr_mv (k : Rect h w R) {g t j : Nat} (hg : g < w) (ht : t < w) (hj : j < h) (ne : g ≠ t) : crA sg (mvK R g t (flA sg h j) true) = mvK (crA sg R) g t j false := by
  have kT : Rect h w (mvK R g t (flA sg h j) true) := mvK_rect k hg ht (flA_lt hj)
  refine tab_ext (cr_rect kT) (mvK_rect (cr_rect k) hg ht hj) fun c r hc hr => ?_
  rw [cr_at kT hr hc, mvK_atC k hg ht (flA_lt hj) ne (flA_lt hr) hc, mvK_at (cr_rect k) hg ht hj ne hc hr]
  unfold mvC mvA
  rw [cr_at k hr hc]
  have e : flA sg h r = flA sg h j ↔ r = j := ⟨fun z => by rw [← flA_fl (sg := sg) hr, z, flA_fl hj], fun z => by rw [z]⟩
  rw [JRM.if_add (a := 1) (show (flA sg h r = flA sg h j ∧ c = t) ↔ (c = t ∧ r = j) by rw [e]; exact and_comm), JRM.if_add (a := 1) (show (flA sg h r = flA sg h j ∧ c = g) ↔ (c = g ∧ r = j) by rw [e]; exact and_comm)]
theorem opt_map {α β γ : Type} {o : Option α} {f : α → β} {g : β → γ} {f' : α → γ} (e : ∀ x, o = some x → g (f x) = f' x) : o.map f' = (o.map f).map g := by
  cases o with
  | none => rfl
  | some x => exact congrArg some (e x rfl).symm
theorem crs (k : Rect h w R) {g t : Nat} (hg : g < w) (ht : t < w) (ne : g ≠ t) : stepA sg (crA sg R) g t false = (stepA sg R g t true).map (crA sg) := by
  have h1 : (if t < g then t else g) < w := by split <;> assumption
  have h2 : (if t > g then t else g) < w := by split <;> assumption
  unfold stepA
  rw [cr_spots k h1 h2, lo_nat]
  have li := lo_in (spotsA sg (crA sg R) (if t < g then t else g) (if t > g then t else g) false)
  have wd := (cr_rect (sg := sg) k).width
  generalize hL : lo (spotsA sg (crA sg R) (if t < g then t else g) (if t > g then t else g) false) = L at li ⊢
  have l1 : ∀ x ∈ L.1, x < h := fun x hx => by have := spot_lt _ (li.1 x hx); rw [wd] at this; exact this
  have l2 : ∀ x ∈ L.2, x < h := fun x hx => by have := spot_lt _ (li.2 x hx); rw [wd] at this; exact this
  by_cases hgt : g < t
  · rw [if_pos hgt, if_pos hgt, List.head?_map, Option.map_map]
    exact opt_map fun x hx => cr_mv k hg ht (l2 x (List.mem_of_head? hx)) ne
  · rw [if_neg hgt, if_neg hgt, List.getLast?_map, Option.map_map]
    exact opt_map fun x hx => cr_mv k hg ht (l1 x (List.mem_of_getLast? hx)) ne
end
/-! ### the member's transfer -/
theorem cell_in {sg : Bool} {a b : Int} {k x : Nat} {b' : Bool} (hx : (b', x) ∈ cellS sg a b k) : x = k ∧ (b' = true → 1 ≤ a) ∧ (b' = false → 1 ≤ b) := by
  unfold cellS at hx
  split at hx
  · cases hx
  · rcases List.mem_append.mp hx with hx | hx
    · obtain ⟨n0, e⟩ := List.mem_replicate.mp hx
      cases e
      exact ⟨rfl, fun z => Bool.noConfusion z, fun _ => by omega⟩
    · obtain ⟨n0, e⟩ := List.mem_replicate.mp hx
      cases e
      exact ⟨rfl, fun _ => by omega, fun z => Bool.noConfusion z⟩
theorem brs_cell {sg : Bool} {a b : Int} (ha : 0 ≤ a) (hb : 0 ≤ b) (k : Nat) : cellS sg a b k = (brs sg a.toNat b.toNat).map fun x => (x, k) := by
  unfold cellS brs
  by_cases h : sg = true ∧ a = b
  · rw [if_pos h, if_pos ⟨h.1, by rw [h.2]⟩]; rfl
  · rw [if_neg h, if_neg (fun z => h ⟨z.1, by have := z.2; omega⟩), List.map_append, List.map_replicate, List.map_replicate]
def chL (L : List (List Int)) (low high : Int) (b : Bool) (k : Nat) : List (List Int) := L.set k (if b then inst (L.getD k []) low high else inst (L.getD k []) high low)
theorem pl_flat (sg : Bool) (low high : Int) : ∀ (ms : List (List Int)) (m : List Int), (plL sg low high m ms).map (fun p => (p.1, p.2.1 :: p.2.2)) =
    (List.range (ms.length + 1)).flatMap fun k => (brs sg (((m :: ms).getD k []).count low) (((m :: ms).getD k []).count high)).map fun b => (b, chL (m :: ms) low high b k)
  | [], m => by
    show ((leafL sg m low high).map _).map _ = _
    unfold leafL
    rw [List.map_map, List.map_map]
    show _ = (List.flatMap _ [0])
    rw [List.flatMap_singleton]
    rfl
  | m' :: ms, m => by
    show ((leafL sg m low high).map _ ++ (plL sg low high m' ms).map _).map _ = _
    have ih := pl_flat sg low high ms m'
    rw [List.map_append, List.length_cons, List.range_succ_eq_map, List.flatMap_cons, List.flatMap_map]
    congr 1
    · unfold leafL
      rw [List.map_map, List.map_map]; rfl
    · have e : ((plL sg low high m' ms).map fun p => ((p.1, m, p.2.1 :: p.2.2) : IPl)).map (fun p => (p.1, p.2.1 :: p.2.2)) = ((plL sg low high m' ms).map fun p => (p.1, p.2.1 :: p.2.2)).map fun p => (p.1, m :: p.2) := by
        rw [List.map_map, List.map_map]; rfl
      rw [e, ih, List.map_flatMap]
      refine flat_congr fun k _ => ?_
      rw [List.map_map]; rfl
theorem count_letF : ∀ (c : List Int) (i : Nat) (v : Nat), (letF i c).count (v : Int) = if i ≤ v then (c.getD (v - i) 0).toNat else 0
  | [], i, v => by
    show 0 = _
    split
    · rw [List.getD_nil]; rfl
    · rfl
  | x :: c, i, v => by
    show (List.replicate x.toNat (i : Int) ++ letF (i + 1) c).count (v : Int) = _
    rw [List.count_append, count_letF c (i + 1) v, List.count_replicate]
    by_cases h : i = v
    · subst h
      rw [if_pos (by simp), if_neg (by omega), if_pos (Nat.le_refl _), Nat.sub_self]; rfl
    · rw [if_neg (by simp; omega)]
      by_cases h2 : i + 1 ≤ v
      · rw [if_pos h2, if_pos (by omega), show v - i = (v - (i + 1)) + 1 by omega, List.getD_cons_succ]
        omega
      · rw [if_neg h2, if_neg (by omega)]
theorem count_letters (c : List Int) (v : Nat) : (letters c).count (v : Int) = (c.getD v 0).toNat := by
  unfold letters
  rw [count_letF, if_pos (Nat.zero_le _), Nat.sub_zero]
theorem count_inst {m : List Int} {g t v : Int} (hg : g ∈ m) (ne : g ≠ t) : ((inst m g t).count v : Int) = m.count v + (if v = t then 1 else 0) - (if v = g then 1 else 0) := by
  unfold inst
  rw [(List.mergeSort_perm _ _).count_eq, List.count_cons, List.count_erase]
  have hc : 0 < m.count g := List.count_pos_iff.mpr hg
  by_cases e1 : v = t
  · subst e1
    have b1 : (g == v) = false := beq_eq_false_iff_ne.mpr ne
    have b2 : (v == v) = true := beq_self_eq_true v
    rw [b1, b2, if_neg Bool.false_ne_true, if_pos rfl, if_pos rfl, if_neg (fun z => ne z.symm)]
    omega
  · have b1 : (t == v) = false := beq_eq_false_iff_ne.mpr fun z => e1 z.symm
    rw [b1, if_neg e1, if_neg Bool.false_ne_true]
    by_cases e2 : v = g
    · subst e2
      have b2 : (v == v) = true := beq_self_eq_true v
      rw [b2, if_pos rfl, if_pos rfl]
      omega
    · have b2 : (g == v) = false := beq_eq_false_iff_ne.mpr fun z => e2 z.symm
      rw [b2, if_neg e2, if_neg Bool.false_ne_true]
      omega
def tabF (n : Nat) (L : List (List Int)) : List (List Int) := (List.range n).map fun name => L.map fun c => ((c.count (name : Int) : Nat) : Int)
section
variable {sg : Bool} {h w : Nat} {R : List (List Int)}
theorem lets_get (k : Rect h w R) : lh R :: lt R = (tr R).map letters := by
  obtain ⟨c, cs, e, _⟩ := k.trc
  unfold lh lt
  rw [e]; rfl
theorem lets_at (k : Rect h w R) {c : Nat} (hc : c < w) : (lh R :: lt R)[c]? = some (letters (col R c)) := by
  rw [lets_get k]
  unfold tr
  rw [List.map_map, List.getElem?_map, List.getElem?_range (by rw [k.width]; exact hc)]; rfl
theorem lets_count (k : OkT sg h w R) {c v : Nat} (hc : c < w) (hv : v < h) : (letters (col R c)).count (v : Int) = (at2 R v c).toNat := by
  rw [count_letters, List.getD_eq_getElem?_getD, col_get k.toRect hv]; rfl
theorem tabF_mv (k : OkT sg h w R) {g t c : Nat} (hg : g < h) (ht : t < h) (hc : c < w) (ne : g ≠ t) (h1 : 1 ≤ at2 R g c) : tabF h ((lh R :: lt R).set c (inst ((lh R :: lt R).getD c []) g t)) = mvK R g t c false := by
  have len : (lh R :: lt R).length = w := by
    rw [lets_get k.toRect, List.length_map]
    exact (tr_rect k.toRect).rows
  have kb := k.hb
  have rect : Rect h w (tabF h ((lh R :: lt R).set c (inst ((lh R :: lt R).getD c []) g t))) := by
    refine ⟨by unfold tabF; rw [List.length_map, List.length_range], fun q hq => ?_, k.hb, k.wb⟩
    unfold tabF at hq
    obtain ⟨n, _, rfl⟩ := List.mem_map.mp hq
    rw [List.length_map, List.length_set, len]
  refine tab_ext rect (mvK_rect k.toRect hg ht hc) fun r d hr hd => ?_
  rw [mvK_at k.toRect hg ht hc ne hr hd]
  have gd : (lh R :: lt R).getD c [] = letters (col R c) := by
    rw [List.getD_eq_getElem?_getD, lets_at k.toRect hc]; rfl
  rw [gd]
  have nn := (k.at hr hd).1
  have mem : (g : Int) ∈ letters (col R c) := by
    refine List.count_pos_iff.mp ?_
    rw [lets_count k hc hg]; omega
  refine at2_of (q := ((lh R :: lt R).set c (inst (letters (col R c)) g t)).map fun c => ((c.count (r : Int) : Nat) : Int)) ?_ ?_
  · unfold tabF
    rw [List.getElem?_map, List.getElem?_range hr]; rfl
  · rw [List.getElem?_map]
    unfold mvA
    by_cases e : d = c
    · subst e
      rw [List.getElem?_set_self (by rw [len]; exact hc)]
      show some (((inst (letters (col R d)) g t).count (r : Int) : Nat) : Int) = _
      rw [count_inst mem (by omega), lets_count k hc hr, Int.toNat_of_nonneg nn]
      rw [JRM.if_add (a := 1) (show ((r : Int) = (t : Int)) ↔ (r = t ∧ d = d) by omega), JRM.if_add (a := 1) (show ((r : Int) = (g : Int)) ↔ (r = g ∧ d = d) by omega)]
    · rw [List.getElem?_set_ne (fun z => e z.symm), lets_at k.toRect hd]
      show some (((letters (col R d)).count (r : Int) : Nat) : Int) = _
      rw [lets_count k hd hr, Int.toNat_of_nonneg nn, if_neg (fun z => e z.2), if_neg (fun z => e z.2)]
      congr 1; omega
theorem pl_spots (k : OkT sg h w R) {a b : Nat} (ha : a < h) (hb : b < h) : (plL sg a b (lh R) (lt R)).map (fun p => (p.1, p.2.1 :: p.2.2)) = ((spotsA sg R a b false).map fun p => (p.1, p)).map fun p => (p.1, chL (lh R :: lt R) a b p.2.1 p.2.2) := by
  have len : (lt R).length + 1 = w := by
    have : (lh R :: lt R).length = w := by
      rw [lets_get k.toRect, List.length_map]
      exact (tr_rect k.toRect).rows
    exact this
  rw [pl_flat, len, List.map_map]
  unfold spotsA ksA
  show _ = ((List.range (width R)).flatMap _).map _
  rw [k.toRect.width, List.map_flatMap]
  refine flat_congr fun j hj => ?_
  have hj := List.mem_range.mp hj
  have gd : (lh R :: lt R).getD j [] = letters (col R j) := by
    rw [List.getD_eq_getElem?_getD, lets_at k.toRect hj]; rfl
  rw [gd, lets_count k hj ha, lets_count k hj hb]
  show _ = (cellS sg (at2 R a j) (at2 R b j) j).map _
  rw [brs_cell (k.at ha hj).1 (k.at hb hj).1, List.map_map]; rfl
theorem mv_ok (k : OkT sg h w R) {g t : Nat} (hg : g < h) (ht : t < h) (ne : g ≠ t) : mvT sg R g t = stepA sg R g t false := by
  have c1 : (if (t : Int) < (g : Int) then (t : Int) else (g : Int)) = (((if t < g then t else g : Nat)) : Int) := by split <;> split <;> omega
  have c2 : (if (t : Int) > (g : Int) then (t : Int) else (g : Int)) = (((if t > g then t else g : Nat)) : Int) := by split <;> split <;> omega
  have h1 : (if t < g then t else g) < h := by split <;> assumption
  have h2 : (if t > g then t else g) < h := by split <;> assumption
  have ps := pl_spots k h1 h2
  have li := lo_in (spotsA sg R (if t < g then t else g) (if t > g then t else g) false)
  have e1 := lo_nat (fun p : IMs => p.1 :: p.2) (plL sg ((if t < g then t else g : Nat) : Int) ((if t > g then t else g : Nat) : Int) (lh R) (lt R))
  have e2 := lo_nat (fun p : Bool × Nat => chL (lh R :: lt R) ((if t < g then t else g : Nat) : Int) ((if t > g then t else g : Nat) : Int) p.1 p.2) ((spotsA sg R (if t < g then t else g) (if t > g then t else g) false).map fun p => (p.1, p))
  rw [lo_tag] at e2
  have e3 : lo ((plL sg ((if t < g then t else g : Nat) : Int) ((if t > g then t else g : Nat) : Int) (lh R) (lt R)).map fun p => (p.1, p.2.1 :: p.2.2)) = _ := (congrArg lo ps).trans e2
  have e4 := e1.symm.trans e3
  have f1 := congrArg Prod.fst e4
  have f2 := congrArg Prod.snd e4
  unfold mvT mvM stepA
  rw [c1, c2]
  dsimp only at f1 f2 ⊢
  generalize hL : lo (spotsA sg R (if t < g then t else g) (if t > g then t else g) false) = L at li f1 f2 ⊢
  generalize lo (plL sg ((if t < g then t else g : Nat) : Int) ((if t > g then t else g : Nat) : Int) (lh R) (lt R)) = Q at f1 f2 ⊢
  have wd := k.toRect.width
  have tt : ∀ q : IMs, tabR R.length q.1 q.2 = tabF h (q.1 :: q.2) := fun q => by
    rw [k.rows]; rfl
  have sx : ∀ (b : Bool) (x : Nat), (b, x) ∈ spotsA sg R (if t < g then t else g) (if t > g then t else g) false → x < w ∧ (b = true → 1 ≤ at2 R (if t < g then t else g) x) ∧ (b = false → 1 ≤ at2 R (if t > g then t else g) x) := fun b x hx => by
    refine ⟨by have := spot_lt _ hx; rw [wd] at this; exact this, ?_⟩
    unfold spotsA at hx
    obtain ⟨j, hj, hx⟩ := List.mem_flatMap.mp hx
    obtain ⟨z0, z1, z2⟩ := cell_in (show (b, x) ∈ cellS sg (at2 R (if t < g then t else g) j) (at2 R (if t > g then t else g) j) j from hx)
    rw [z0]
    exact ⟨z1, z2⟩
  by_cases hgt : g < t
  · rw [if_pos hgt, if_pos (show (g : Int) < (t : Int) by omega)]
    have f3 := congrArg List.head? f2
    rw [List.head?_map, List.head?_map, List.head?_map] at f3
    have n1 : (if t < g then t else g) = g := if_neg (by omega)
    have n2 : (if t > g then t else g) = t := if_pos (by omega)
    rw [n1, n2] at f3 li sx
    cases hq : L.2.head? with
    | none =>
      rw [hq] at f3
      cases hQ : Q.2.head? with
      | none => rfl
      | some y => rw [hQ] at f3; cases f3
    | some x =>
      rw [hq] at f3
      cases hQ : Q.2.head? with
      | none => rw [hQ] at f3; cases f3
      | some y =>
        rw [hQ] at f3
        have f3 : y.1 :: y.2 = chL (lh R :: lt R) g t true x := Option.some.inj f3
        obtain ⟨s1, s2, _⟩ := sx true x (li.2 x (List.mem_of_head? hq))
        refine congrArg some ?_
        show tabR R.length y.1 y.2 = mvK R g t x false
        rw [tt, f3]
        exact tabF_mv k hg ht s1 ne (s2 rfl)
  · rw [if_neg hgt, if_neg (show ¬ (g : Int) < (t : Int) by omega)]
    have f3 := congrArg List.getLast? f1
    rw [List.getLast?_map, List.getLast?_map, List.getLast?_map] at f3
    have n1 : (if t < g then t else g) = t := if_pos (by omega)
    have n2 : (if t > g then t else g) = g := if_neg (by omega)
    rw [n1, n2] at f3 li sx
    cases hq : L.1.getLast? with
    | none =>
      rw [hq] at f3
      cases hQ : Q.1.getLast? with
      | none => rfl
      | some y => rw [hQ] at f3; cases f3
    | some x =>
      rw [hq] at f3
      cases hQ : Q.1.getLast? with
      | none => rw [hQ] at f3; cases f3
      | some y =>
        rw [hQ] at f3
        have f3 : y.1 :: y.2 = chL (lh R :: lt R) t g false x := Option.some.inj f3
        obtain ⟨s1, _, s2⟩ := sx false x (li.1 x (List.mem_of_getLast? hq))
        refine congrArg some ?_
        show tabR R.length y.1 y.2 = mvK R g t x false
        rw [tt, f3]
        exact tabF_mv k hg ht s1 ne (s2 rfl)
end
end JR
set_option Elab.async false
set_option linter.all false
set_option maxRecDepth 100000
set_option maxHeartbeats 2000000
/-! What is wanted of the plain transfers. -/
namespace JR
open JRM (pre pre_succ pre_congr FA LA FG PN SN GN mvA mvC tn qn)
theorem cell_ne {sg : Bool} {a b : Int} {k x : Nat} {b' : Bool} (hx : (b', x) ∈ cellS sg a b k) : sg = true → a ≠ b := fun s e => by
  unfold cellS at hx
  rw [if_pos ⟨s, e⟩] at hx
  cases hx
section
variable {sg : Bool} {h w : Nat} {R : List (List Int)}
theorem ks_lt (k : Rect h w R) {ac : Bool} {j : Nat} (hj : j ∈ ksA sg R ac) : j < limA h w !ac := by
  unfold ksA at hj
  cases ac with
  | true =>
    have hj' : j < R.length := by
      cases sg with
      | true => exact List.mem_range.mp (List.mem_reverse.mp hj)
      | false => exact List.mem_range.mp hj
    rw [k.rows] at hj'
    exact hj'
  | false =>
    have hj' := List.mem_range.mp (show j ∈ List.range (width R) from hj)
    rw [k.width] at hj'
    exact hj'
theorem less_in (k : OkT sg h w R) {ac : Bool} {a j : Nat} (ha : a < limA h w ac) (hj : j < limA h w !ac) : 0 ≤ lessA R a ac j ∧ (sg = true → lessA R a ac j ≤ 1) := by
  cases ac with
  | true =>
    obtain ⟨q1, _, q2⟩ := k.at (show j < h from hj) (show a < w from ha)
    exact ⟨q1, q2⟩
  | false =>
    obtain ⟨q1, _, q2⟩ := k.at (show a < h from ha) (show j < w from hj)
    exact ⟨q1, q2⟩
theorem spot_facts (k : Rect h w R) {ac : Bool} {a b : Nat} : ∀ p ∈ spotsA sg R a b ac, p.2 < limA h w (!ac) ∧ (p.1 = true → 1 ≤ lessA R a ac p.2) ∧ (p.1 = false → 1 ≤ lessA R b ac p.2) ∧ (sg = true → lessA R a ac p.2 ≠ lessA R b ac p.2) := fun p hp => by
  refine ⟨ks_lt k (spots_in p hp), ?_⟩
  unfold spotsA at hp
  obtain ⟨j, hj, hx⟩ := List.mem_flatMap.mp hp
  obtain ⟨b', x⟩ := p
  obtain ⟨z0, z1, z2⟩ := cell_in hx
  have z3 := cell_ne hx
  dsimp only
  rw [z0]
  exact ⟨z1, z2, z3⟩
theorem step_mv (k : OkT sg h w R) {ac : Bool} {g t : Nat} (hg : g < limA h w ac) (ht : t < limA h w ac) (ne : g ≠ t) {T : List (List Int)} (e : stepA sg R g t ac = some T) : ∃ c, c < limA h w (!ac) ∧ T = mvK R g t c ac ∧ 1 ≤ lessA R g ac c ∧ (sg = true → lessA R t ac c = 0) := by
  unfold stepA at e
  have li := lo_in (spotsA sg R (if t < g then t else g) (if t > g then t else g) ac)
  have sf := spot_facts (sg := sg) k.toRect (ac := ac) (a := if t < g then t else g) (b := if t > g then t else g)
  by_cases hgt : g < t
  · dsimp only at e
    rw [if_pos hgt] at e
    have n1 : (if t < g then t else g) = g := if_neg (by omega)
    have n2 : (if t > g then t else g) = t := if_pos (by omega)
    rw [n1, n2] at e li sf
    cases hq : (lo (spotsA sg R g t ac)).2.head? with
    | none => rw [hq] at e; cases e
    | some c =>
      rw [hq] at e
      have e : mvK R g t c ac = T := Option.some.inj e
      obtain ⟨s1, s2, _, s4⟩ := sf _ (li.2 c (List.mem_of_head? hq))
      have s1 : c < limA h w !ac := s1
      have s2 : 1 ≤ lessA R g ac c := s2 rfl
      refine ⟨c, s1, e.symm, s2, fun z => ?_⟩
      have s4 : lessA R g ac c ≠ lessA R t ac c := s4 z
      obtain ⟨a1, a2⟩ := less_in k hg s1
      obtain ⟨b1, b2⟩ := less_in k ht s1
      have := a2 z
      have := b2 z
      omega
  · dsimp only at e
    rw [if_neg hgt] at e
    have n1 : (if t < g then t else g) = t := if_pos (by omega)
    have n2 : (if t > g then t else g) = g := if_neg (by omega)
    rw [n1, n2] at e li sf
    cases hq : (lo (spotsA sg R t g ac)).1.getLast? with
    | none => rw [hq] at e; cases e
    | some c =>
      rw [hq] at e
      have e : mvK R g t c ac = T := Option.some.inj e
      obtain ⟨s1, _, s2, s4⟩ := sf _ (li.1 c (List.mem_of_getLast? hq))
      have s1 : c < limA h w !ac := s1
      have s2 : 1 ≤ lessA R g ac c := s2 rfl
      refine ⟨c, s1, e.symm, s2, fun z => ?_⟩
      have s4 : lessA R t ac c ≠ lessA R g ac c := s4 z
      obtain ⟨a1, a2⟩ := less_in k hg s1
      obtain ⟨b1, b2⟩ := less_in k ht s1
      have := a2 z
      have := b2 z
      omega
/-- the entries behind a transfer -/
theorem mv_ent (k : Rect h w R) {ac : Bool} {g t c : Nat} (hg : g < limA h w ac) (ht : t < limA h w ac) (hc : c < limA h w !ac) (ne : g ≠ t) : Rect h w (mvK R g t c ac) ∧ ∀ r d, r < h → d < w → at2 (mvK R g t c ac) r d = (if ac then mvC (at2 R) g t c else mvA (at2 R) g t c) r d := by
  refine ⟨mvK_rect k hg ht hc, fun r d hr hd => ?_⟩
  cases ac with
  | true => exact mvK_atC k hg ht hc ne hr hd
  | false => exact mvK_at k hg ht hc ne hr hd
theorem step_ok (k : OkT sg h w R) {ac : Bool} {g t : Nat} (hg : g < limA h w ac) (ht : t < limA h w ac) (ne : g ≠ t) {T : List (List Int)} (e : stepA sg R g t ac = some T) : OkT sg h w T := by
  obtain ⟨c, hc, rfl, h1, h2⟩ := step_mv k hg ht ne e
  obtain ⟨kT, ent⟩ := mv_ent k.toRect hg ht hc ne
  cases ac with
  | true => exact ok_mv2 k kT (a := c) (b := t) (a' := c) (b' := g) hc ht hc hg ent h1 h2
  | false => exact ok_mv2 k kT (a := t) (b := c) (a' := g) (b' := c) ht hc hg hc ent h1 h2
theorem step_mu (k : OkT sg h w R) {ac : Bool} {l : Nat} (hl : l + 1 < limA h w ac) {T : List (List Int)} (e : stepA sg R (l + 1) l ac = some T) : muT T < muT R := by
  have kT := step_ok k hl (by omega) (by omega) e
  obtain ⟨c, hc, rfl, h1, h2⟩ := step_mv k hl (by omega) (by omega) e
  obtain ⟨_, ent⟩ := mv_ent k.toRect hl (show l < limA h w ac by omega) hc (show l + 1 ≠ l by omega)
  have m1 := muT_dot k
  have m2 := muT_dot kT
  rw [JR.dot_congr ent] at m2
  cases ac with
  | true =>
    have z := dot_mv2 (fun r c => ((r + c : Nat) : Int)) (at2 R) (h := h) (w := w) (a := c) (b := l) (a' := c) (b' := l + 1) hc (show l < w by have : l + 1 < w := hl; omega) hc hl
    have m2 : ((muT (mvK R (l + 1) l c true) : Nat) : Int) = dot (fun r c => ((r + c : Nat) : Int)) (mv2 (at2 R) c l c (l + 1)) h w := m2
    omega
  | false =>
    have z := dot_mv2 (fun r c => ((r + c : Nat) : Int)) (at2 R) (h := h) (w := w) (a := l) (b := c) (a' := l + 1) (b' := c) (show l < h by have : l + 1 < h := hl; omega) hc hl hc
    have m2 : ((muT (mvK R (l + 1) l c false) : Nat) : Int) = dot (fun r c => ((r + c : Nat) : Int)) (mv2 (at2 R) l c (l + 1) c) h w := m2
    omega
end
theorem plP : Pl where
  mv := fun sg h w R g t k hg ht ne => mv_ok k hg ht ne
  ok := fun sg h w R g t ac R' k hg ht ne e => step_ok k hg ht ne e
  mu := fun sg h w R l ac R' k hl e => step_mu k hl e
  le := fun sg h w R k => mu_le k
  crk := fun sg h w R k => cr_ok k
  crb := fun sg h w R k => by
    cases sg with
    | true => exact qb_qr k.toRect
    | false => exact tr_tr k.toRect
  crs := fun sg h w R g t k hg ht ne => crs k.toRect hg ht ne
end JR
set_option Elab.async false
set_option linter.all false
set_option maxRecDepth 100000
set_option maxHeartbeats 2000000
/-! Transfers of names and of columns do not disturb one another. -/
namespace JR
open JRM (pre pre_succ pre_congr FA LA FG PN SN GN mvA mvC tn qn)
/-! ### heights of columns -/
def DH (sg : Bool) (h : Nat) (X : Nat → Nat → Int) (j : Nat) : Nat → Int := if sg then GN h X j else PN (tn X) j
def FD (sg : Bool) (F : Nat → Int) (h r : Nat) : Prop := if sg then r < h ∧ FG F h r else FA F h r
theorem HS_congr {sg : Bool} {h w : Nat} {X Y : Nat → Nat → Int} (e : ∀ r c, r < h → c < w → X r c = Y r c) {i : Nat} (hi : i + 1 < h) {l : Nat} (hl : l < nS sg w) : HS sg X i l = HS sg Y i l := by
  cases sg with
  | true =>
    have hl : l < w + 1 := hl
    show SN X i l = SN Y i l
    unfold SN
    rw [pre_congr (n := l) fun c hc => e (i + 1) c hi (by omega), pre_congr (n := l) fun c hc => e i c (by omega) (by omega)]
  | false =>
    have hl : l < w := hl
    show PN X i l = PN Y i l
    unfold PN
    rw [pre_congr (n := l + 1) fun c hc => e (i + 1) c hi (by omega), pre_congr (n := l) fun c hc => e i c (by omega) (by omega)]
theorem SN_congr {h w : Nat} {X Y : Nat → Nat → Int} (e : ∀ r c, r < h → c < w → X r c = Y r c) {i : Nat} (hi : i + 1 < h) {l : Nat} (hl : l ≤ w) : SN X i l = SN Y i l := by
  unfold SN
  rw [pre_congr (n := l) fun c hc => e (i + 1) c hi (by omega), pre_congr (n := l) fun c hc => e i c (by omega) (by omega)]
theorem DH_congr {sg : Bool} {h w : Nat} {X Y : Nat → Nat → Int} (e : ∀ r c, r < h → c < w → X r c = Y r c) {j : Nat} (hj : j + 1 < w) {l : Nat} (hl : l < nS sg h) : DH sg h X j l = DH sg h Y j l := by
  cases sg with
  | true =>
    have hl : l < h + 1 := hl
    show GN h X j l = GN h Y j l
    have z : ∀ n c, n ≤ h → c < w → pre (tn X c) n = pre (tn Y c) n := fun n c hn hc => pre_congr fun r hr => e r c (by omega) hc
    unfold GN
    rw [z h _ (Nat.le_refl _) hj, z l _ (by omega) hj, z h _ (Nat.le_refl _) (by omega), z l j (by omega) (by omega)]
  | false =>
    have hl : l < h := hl
    show PN (tn X) j l = PN (tn Y) j l
    have z : ∀ n c, n ≤ h → c < w → pre (tn X c) n = pre (tn Y c) n := fun n c hn hc => pre_congr fun r hr => e r c (by omega) hc
    unfold PN
    rw [z _ _ (by omega) hj, z _ _ (by omega) (by omega)]
section
variable {sg : Bool} {h w : Nat} {R : List (List Int)} {i j : Nat}
theorem eChar (k : OkT sg h w R) (hi : i + 1 < h) : (bkS sg false i R = none ∧ ∀ l, l < nS sg w → HS sg (at2 R) i l ≤ 0) ∨ ∃ c, c < w ∧ FA (HS sg (at2 R) i) (nS sg w) (upS sg c) ∧ bkS sg false i R = some (mvK R (i + 1) i c false) ∧ 1 ≤ at2 R (i + 1) c ∧ (sg = true → at2 R i c = 0) := stepE k hi
theorem fChar (k : OkT sg h w R) (hi : i + 1 < h) : (foS sg false i R = none ∧ ∀ l, l < nS sg w → HS sg (at2 R) i l ≤ SN (at2 R) i w) ∨ ∃ c, c < w ∧ LA (HS sg (at2 R) i) (SN (at2 R) i w) (nS sg w) c ∧ foS sg false i R = some (mvK R i (i + 1) c false) ∧ 1 ≤ at2 R i c ∧ (sg = true → at2 R (i + 1) c = 0) := stepF k hi
theorem upS_inj {a b : Nat} (e : upS sg a = upS sg b) : a = b := by
  unfold upS at e
  split at e <;> omega
theorem e_of (k : OkT sg h w R) (hi : i + 1 < h) {c : Nat} (f : FA (HS sg (at2 R) i) (nS sg w) (upS sg c)) : bkS sg false i R = some (mvK R (i + 1) i c false) := by
  rcases eChar k hi with ⟨_, z⟩ | ⟨c', _, f', e, _⟩
  · have := z _ f.lt
    have := f.pos
    omega
  · rw [e, upS_inj (f.one f')]
theorem f_of (k : OkT sg h w R) (hi : i + 1 < h) {c : Nat} (f : LA (HS sg (at2 R) i) (SN (at2 R) i w) (nS sg w) c) : foS sg false i R = some (mvK R i (i + 1) c false) := by
  rcases fChar k hi with ⟨_, z⟩ | ⟨c', _, f', e, _⟩
  · have := z _ f.lt
    have := f.big
    omega
  · rw [e, f.one f']
theorem e_none (k : OkT sg h w R) (hi : i + 1 < h) : bkS sg false i R = none ↔ ∀ l, l < nS sg w → HS sg (at2 R) i l ≤ 0 := by
  rcases eChar k hi with ⟨e, z⟩ | ⟨c', _, f', e, _⟩
  · exact ⟨fun _ => z, fun _ => e⟩
  · refine ⟨fun z => (by rw [e] at z; cases z), fun z => ?_⟩
    have := z _ f'.lt
    have := f'.pos
    omega
theorem f_none (k : OkT sg h w R) (hi : i + 1 < h) : foS sg false i R = none ↔ ∀ l, l < nS sg w → HS sg (at2 R) i l ≤ SN (at2 R) i w := by
  rcases fChar k hi with ⟨e, z⟩ | ⟨c', _, f', e, _⟩
  · exact ⟨fun _ => z, fun _ => e⟩
  · refine ⟨fun z => (by rw [e] at z; cases z), fun z => ?_⟩
    have := z _ f'.lt
    have := f'.big
    omega
/-- a table crossed, as a function -/
theorem cr_fun (k : OkT sg h w R) : ∀ c r, c < w → r < h → at2 (crA sg R) c r = (if sg then qn h (at2 R) else tn (at2 R)) c r := fun c r hc hr => by
  rw [cr_at k.toRect hr hc]
  cases sg <;> rfl
theorem cr_inj {T : List (List Int)} (k : OkT sg h w R) (k' : OkT sg h w T) (e : crA sg R = crA sg T) : R = T := by
  cases sg with
  | true =>
    have e : qr R = qr T := e
    rw [← qb_qr k.toRect, e, qb_qr k'.toRect]
  | false =>
    have e : tr R = tr T := e
    rw [← tr_tr k.toRect, e, tr_tr k'.toRect]
theorem d_cr (k : OkT sg h w R) (hj : j + 1 < w) : bkS sg false j (crA sg R) = (bkS sg true j R).map (crA sg) := crs k.toRect hj (by omega) (by omega)
theorem h_cr (k : OkT sg h w R) (hj : j + 1 < w) : foS sg false j (crA sg R) = (foS sg true j R).map (crA sg) := crs k.toRect (by omega) hj (by omega)
/-- the place of a transfer of columns -/
theorem dChar (k : OkT sg h w R) (hj : j + 1 < w) : (bkS sg true j R = none ∧ ∀ l, l < nS sg h → DH sg h (at2 R) j l ≤ 0) ∨ ∃ r, r < h ∧ FD sg (DH sg h (at2 R) j) h r ∧ bkS sg true j R = some (mvK R (j + 1) j r true) := by
  have dc := d_cr k hj
  have kc := cr_ok k
  have cf := cr_fun k
  rcases eChar kc hj with ⟨e, z⟩ | ⟨c, hc, f, e, _⟩
  · rw [e] at dc
    refine .inl ⟨?_, fun l hl => ?_⟩
    · cases q : bkS sg true j R with
      | none => rfl
      | some x => rw [q] at dc; cases dc
    · cases sg with
      | true =>
        have hl : l < h + 1 := hl
        have y : SN (at2 (crA true R)) j (h - l) ≤ 0 := z (h - l) (by show h - l < h + 1; omega)
        have y2 : SN (at2 (crA true R)) j (h - l) = SN (qn h (at2 R)) j (h - l) := SN_congr (h := w) (w := h) cf hj (Nat.sub_le _ _)
        rw [y2, JRM.SN_qn h _ j (Nat.sub_le _ _), show h - (h - l) = l by omega] at y
        exact y
      | false =>
        have y := z l hl
        rw [HS_congr cf hj hl] at y
        exact y
  · rw [e] at dc
    cases q : bkS sg true j R with
    | none => rw [q] at dc; cases dc
    | some T =>
      rw [q] at dc
      have dc : mvK (crA sg R) (j + 1) j c false = crA sg T := Option.some.inj dc
      have kT := step_ok k (ac := true) hj (show j < w by omega) (show j + 1 ≠ j by omega) q
      have hf := flA_lt (sg := sg) hc
      have cm := cr_mv (sg := sg) k.toRect (g := j + 1) (t := j) hj (by omega) hc (by omega)
      have km := mvK_rect k.toRect (g := j + 1) (t := j) (k := flA sg h c) (ac := true) hj (show j < w by omega) hf
      have eT : T = mvK R (j + 1) j (flA sg h c) true := by
        have e2 : crA sg (mvK R (j + 1) j (flA sg h c) true) = crA sg T := cm.trans dc
        refine tab_ext kT.toRect km fun r d hr hd => ?_
        have a := cr_at (sg := sg) kT.toRect (r := flA sg h r) (c := d) (flA_lt hr) hd
        have b := cr_at (sg := sg) km (r := flA sg h r) (c := d) (flA_lt hr) hd
        rw [flA_fl hr] at a b
        rw [← a, ← b, e2]
      refine .inr ⟨flA sg h c, hf, ?_, by rw [eT]⟩
      cases sg with
      | true =>
        have f : FA (SN (at2 (crA true R)) j) (h + 1) (c + 1) := f
        have f2 := JRM.FG_of (FA.congr (fun l hl => SN_congr (h := w) (w := h) cf hj (Nat.le_of_lt_succ hl)) f)
        rw [show h - (c + 1) = flA true h c by show _ = h - 1 - c; omega] at f2
        exact ⟨hf, f2⟩
      | false =>
        exact FA.congr (fun l hl => HS_congr (sg := false) cf hj hl) f
theorem FD.one {F : Nat → Int} {a b : Nat} (f : FD sg F h a) (f' : FD sg F h b) : a = b := by
  cases sg with
  | true =>
    obtain ⟨_, f⟩ := f
    obtain ⟨_, f'⟩ := f'
    have x1 := f.last b
    have x2 := f'.last a
    have x3 := f.top b f'.le
    have x4 := f'.top a f.le
    have x5 := f.le
    have x6 := f'.le
    omega
  | false => exact FA.one f f'
theorem FD.pos {F : Nat → Int} {a : Nat} (f : FD sg F h a) : a < nS sg h ∧ 0 < F a := by
  cases sg with
  | true => exact ⟨show a < h + 1 by have := f.1; omega, f.2.pos⟩
  | false => exact ⟨f.lt, JRM.FA.pos f⟩
theorem d_of (k : OkT sg h w R) (hj : j + 1 < w) {r : Nat} (f : FD sg (DH sg h (at2 R) j) h r) : bkS sg true j R = some (mvK R (j + 1) j r true) := by
  rcases dChar k hj with ⟨_, z⟩ | ⟨c', _, f', e⟩
  · have q := f.pos
    have := z _ q.1
    omega
  · rw [e, f.one f']
theorem d_none (k : OkT sg h w R) (hj : j + 1 < w) : bkS sg true j R = none ↔ ∀ l, l < nS sg h → DH sg h (at2 R) j l ≤ 0 := by
  rcases dChar k hj with ⟨e, z⟩ | ⟨c', _, f', e⟩
  · exact ⟨fun _ => z, fun _ => e⟩
  · refine ⟨fun z => (by rw [e] at z; cases z), fun z => ?_⟩
    have q := f'.pos
    have := z _ q.1
    omega
theorem OkT.bits (k : OkT true h w R) : JRM.Bits h w (at2 R) := fun r c hr hc => by
  obtain ⟨q1, _, q2⟩ := k.at hr hc
  exact ⟨q1, q2 rfl⟩
theorem mvA_ent (k : Rect h w R) {g t c : Nat} (hg : g < h) (ht : t < h) (hc : c < w) (ne : g ≠ t) : ∀ r d, r < h → d < w → at2 (mvK R g t c false) r d = mvA (at2 R) g t c r d := fun r d hr hd => mvK_at k hg ht hc ne hr hd
theorem mvC_ent (k : Rect h w R) {g t c : Nat} (hg : g < w) (ht : t < w) (hc : c < h) (ne : g ≠ t) : ∀ r d, r < h → d < w → at2 (mvK R g t c true) r d = mvC (at2 R) g t c r d := fun r d hr hd => mvK_atC k hg ht hc ne hr hd
/-- heights of names behind a transfer of columns -/
theorem HS_d (k : OkT sg h w R) (hi : i + 1 < h) (hj : j + 1 < w) {r : Nat} (hr : r < h) {l : Nat} (hl : l < nS sg w) : HS sg (at2 (mvK R (j + 1) j r true)) i l = (if sg then JRM.bumpS (SN (at2 R) i) i j r else JRM.bumpN (PN (at2 R) i) i j r) l := by
  rw [HS_congr (mvC_ent k.toRect hj (by omega) hr (by omega)) hi hl]
  cases sg with
  | true => exact congrFun (JRM.SN_mvC (at2 R) i j r) l
  | false => exact congrFun (JRM.PN_mvC (at2 R) i j r) l
/-- heights of columns behind a transfer of names -/
theorem DH_e (k : OkT sg h w R) (hi : i + 1 < h) (hj : j + 1 < w) {c : Nat} (hc : c < w) {l : Nat} (hl : l < nS sg h) : DH sg h (at2 (mvK R (i + 1) i c false)) j l = (if sg then JRM.bumpG (GN h (at2 R) j) i j c else JRM.bumpN (PN (tn (at2 R)) j) j i c) l := by
  rw [DH_congr (mvA_ent k.toRect hi (by omega) hc (by omega)) hj hl]
  cases sg with
  | true => exact congrFun (JRM.GN_mvA h (at2 R) hi) l
  | false =>
    show PN (tn (mvA (at2 R) (i + 1) i c)) j l = _
    rw [JRM.tn_mvA]
    exact congrFun (JRM.PN_mvC (tn (at2 R)) j i c) l
/-- greatest heights -/
theorem maxE (k : OkT sg h w R) (hi : i + 1 < h) (hj : j + 1 < w) {r : Nat} (f : FD sg (DH sg h (at2 R) j) h r) (hr : r < h) (m : Int) : (∀ l, l < nS sg w → HS sg (at2 R) i l ≤ m) ↔ ∀ l, l < nS sg w → HS sg (at2 (mvK R (j + 1) j r true)) i l ≤ m := by
  have e : (∀ l, l < nS sg w → HS sg (at2 (mvK R (j + 1) j r true)) i l ≤ m) ↔ ∀ l, l < nS sg w → (if sg then JRM.bumpS (SN (at2 R) i) i j r else JRM.bumpN (PN (at2 R) i) i j r) l ≤ m :=
    ⟨fun z l hl => by rw [← HS_d k hi hj hr hl]; exact z l hl, fun z l hl => by rw [HS_d k hi hj hr hl]; exact z l hl⟩
  rw [e]
  cases sg with
  | true =>
    have q := JRM.maxS (JRM.fourN k.bits hi hj) hi hj f.2 m
    exact ⟨fun z l hl => q.mp (fun l hl => z l (Nat.lt_succ_of_le hl)) l (Nat.le_of_lt_succ hl), fun z l hl => q.mpr (fun l hl => z l (Nat.lt_succ_of_le hl)) l (Nat.le_of_lt_succ hl)⟩
  | false => exact JRM.maxN (JRM.relN (at2 R) i j) hi hj f m
theorem maxD (k : OkT sg h w R) (hi : i + 1 < h) (hj : j + 1 < w) {c : Nat} (f : FA (HS sg (at2 R) i) (nS sg w) (upS sg c)) (hc : c < w) (m : Int) : (∀ l, l < nS sg h → DH sg h (at2 R) j l ≤ m) ↔ ∀ l, l < nS sg h → DH sg h (at2 (mvK R (i + 1) i c false)) j l ≤ m := by
  have e : (∀ l, l < nS sg h → DH sg h (at2 (mvK R (i + 1) i c false)) j l ≤ m) ↔ ∀ l, l < nS sg h → (if sg then JRM.bumpG (GN h (at2 R) j) i j c else JRM.bumpN (PN (tn (at2 R)) j) j i c) l ≤ m :=
    ⟨fun z l hl => by rw [← DH_e k hi hj hc hl]; exact z l hl, fun z l hl => by rw [DH_e k hi hj hc hl]; exact z l hl⟩
  rw [e]
  cases sg with
  | true =>
    have q := JRM.maxG (JRM.fourN k.bits hi hj) hi hj f m
    exact ⟨fun z l hl => q.mp (fun l hl => z l (Nat.lt_succ_of_le hl)) l (Nat.le_of_lt_succ hl), fun z l hl => q.mpr (fun l hl => z l (Nat.lt_succ_of_le hl)) l (Nat.le_of_lt_succ hl)⟩
  | false => exact JRM.maxN (JRM.relN (at2 R) i j).symm hj hi f m
/-- both ways about -/
theorem square (k : OkT sg h w R) (hi : i + 1 < h) (hj : j + 1 < w) {Y Z : List (List Int)} (hd : bkS sg true j R = some Y) (he : bkS sg false i R = some Z) : ∃ V, bkS sg true j Z = some V ∧ bkS sg false i Y = some V := by
  have kY := step_ok k (ac := true) hj (show j < w by omega) (show j + 1 ≠ j by omega) hd
  have kZ := step_ok k (ac := false) hi (show i < h by omega) (show i + 1 ≠ i by omega) he
  rcases dChar k hj with ⟨e, _⟩ | ⟨r, hr, fr, e1⟩
  · rw [e] at hd; cases hd
  rcases eChar k hi with ⟨e, _⟩ | ⟨c, hc, fc, e2, _⟩
  · rw [e] at he; cases he
  rw [e1] at hd
  rw [e2] at he
  cases hd
  cases he
  have eY := mvC_ent k.toRect hj (show j < w by omega) hr (show j + 1 ≠ j by omega)
  have eZ := mvA_ent k.toRect hi (show i < h by omega) hc (show i + 1 ≠ i by omega)
  -- the new places
  have key : ∃ c' r', c' < w ∧ r' < h ∧ FA (HS sg (at2 (mvK R (j + 1) j r true)) i) (nS sg w) (upS sg c') ∧ FD sg (DH sg h (at2 (mvK R (i + 1) i c false)) j) h r' ∧ ((c' = c ∧ r' = r) ∨ (c = j + 1 ∧ r = i + 1 ∧ c' = j ∧ r' = i) ∨ (c = j ∧ r = i ∧ c' = j + 1 ∧ r' = i + 1)) := by
    cases sg with
    | true =>
      have fr : r < h ∧ FG (GN h (at2 R) j) h r := fr
      have fc : FA (SN (at2 R) i) (w + 1) (c + 1) := fc
      have D := JRM.fourN k.bits hi hj
      have g1 := JRM.coreS D hi hj fc fr.2
      have g2 := JRM.coreG D hi hj fc fr.2
      have h1 : ∀ {q}, FA (JRM.bumpS (SN (at2 R) i) i j r) (w + 1) q → FA (HS true (at2 (mvK R (j + 1) j r true)) i) (w + 1) q := fun f => FA.congr (fun l hl => (HS_d k hi hj hr (sg := true) hl).symm) f
      have h2 : ∀ {q}, FG (JRM.bumpG (GN h (at2 R) j) i j c) h q → FG (DH true h (at2 (mvK R (i + 1) i c false)) j) h q := fun {q} f => by
        have z : ∀ l, l ≤ h → JRM.bumpG (GN h (at2 R) j) i j c l = DH true h (at2 (mvK R (i + 1) i c false)) j l := fun l hl => (DH_e k hi hj hc (sg := true) (Nat.lt_succ_of_le hl)).symm
        refine ⟨f.le, by rw [← z q f.le]; exact f.pos, fun l a b => by rw [← z l b, ← z q f.le]; exact f.last l a b, fun l a => by rw [← z l a, ← z q f.le]; exact f.top l a⟩
      by_cases s1 : r = i + 1 ∧ c = j + 1
      · obtain ⟨s1, s2⟩ := s1
        subst s1 s2
        rw [if_pos ⟨rfl, rfl⟩] at g1 g2
        exact ⟨j, i, by omega, by omega, h1 g1, ⟨by omega, h2 g2⟩, .inr (.inl ⟨rfl, rfl, rfl, rfl⟩)⟩
      · rw [if_neg (fun z => s1 ⟨z.1, by omega⟩)] at g1
        rw [if_neg s1] at g2
        by_cases s2 : r = i ∧ c = j
        · obtain ⟨s2, s3⟩ := s2
          subst s2 s3
          rw [if_pos ⟨rfl, rfl⟩] at g1 g2
          exact ⟨c + 1, r + 1, hj, hi, h1 g1, ⟨hi, h2 g2⟩, .inr (.inr ⟨rfl, rfl, rfl, rfl⟩)⟩
        · rw [if_neg (fun z => s2 ⟨z.1, by omega⟩)] at g1
          rw [if_neg s2] at g2
          exact ⟨c, r, hc, hr, h1 g1, ⟨hr, h2 g2⟩, .inl ⟨rfl, rfl⟩⟩
    | false =>
      have fr : FA (PN (tn (at2 R)) j) h r := fr
      have fc : FA (PN (at2 R) i) w c := fc
      have rel := JRM.relN (at2 R) i j
      have g1 := JRM.coreN rel hi hj fc fr
      have g2 := JRM.coreN rel.symm hj hi fr fc
      have h1 : ∀ {q}, FA (JRM.bumpN (PN (at2 R) i) i j r) w q → FA (HS false (at2 (mvK R (j + 1) j r true)) i) w q := fun f => FA.congr (fun l hl => (HS_d k hi hj hr (sg := false) hl).symm) f
      have h2 : ∀ {q}, FA (JRM.bumpN (PN (tn (at2 R)) j) j i c) h q → FA (DH false h (at2 (mvK R (i + 1) i c false)) j) h q := fun f => FA.congr (fun l hl => (DH_e k hi hj hc (sg := false) hl).symm) f
      by_cases s1 : c = j + 1 ∧ r = i + 1 ∧ PN (at2 R) i (j + 1) = PN (at2 R) i j + 1
      · rw [if_pos s1] at g1
        rw [if_pos ⟨s1.2.1, s1.1, by omega⟩] at g2
        exact ⟨j, i, by omega, by omega, h1 g1, h2 g2, .inr (.inl ⟨s1.1, s1.2.1, rfl, rfl⟩)⟩
      · rw [if_neg s1] at g1
        rw [if_neg (fun z => s1 ⟨z.2.1, z.1, by omega⟩)] at g2
        exact ⟨c, r, hc, hr, h1 g1, h2 g2, .inl ⟨rfl, rfl⟩⟩
  obtain ⟨c', r', hc', hr', f1, f2, same⟩ := key
  refine ⟨_, d_of kZ hj f2, ?_⟩
  rw [e_of kY hi f1]
  refine congrArg some ?_
  refine tab_ext (mvK_rect kY.toRect (ac := false) hi (show i < h by omega) hc') (mvK_rect kZ.toRect (ac := true) hj (show j < w by omega) hr') fun a b ha hb => ?_
  rw [mvA_ent kY.toRect hi (by omega) hc' (by omega) a b ha hb, mvC_ent kZ.toRect hj (by omega) hr' (by omega) a b ha hb]
  unfold mvA mvC
  rw [eY a b ha hb, eZ a b ha hb]
  unfold mvA mvC
  rcases same with ⟨q1, q2⟩ | ⟨q1, q2, q3, q4⟩ | ⟨q1, q2, q3, q4⟩
  · subst q1 q2; omega
  · subst q1 q2 q3 q4; omega
  · subst q1 q2 q3 q4; omega
end
end JR
set_option Elab.async false
set_option linter.all false
set_option maxRecDepth 100000
set_option maxHeartbeats 2000000
/-! Transfers of tables as partial moves of two kinds. -/
namespace JR
open JRM (pre pre_succ pre_congr FA LA FG PN SN GN mvA mvC tn qn)
theorem pre_mvA (X : Nat → Nat → Int) (g t c r n : Nat) : pre (mvA X g t c r) n = pre (X r) n + (if r = t ∧ c < n then 1 else 0) - (if r = g ∧ c < n then 1 else 0) := pre_bump2 (X r) (r = t) (r = g) c c 1 1 n
section
variable {sg : Bool} {h w : Nat} {R : List (List Int)} {i j : Nat}
theorem none_ed (k : OkT sg h w R) (hi : i + 1 < h) (hj : j + 1 < w) {Y : List (List Int)} (hd : bkS sg true j R = some Y) : bkS sg false i R = none ↔ bkS sg false i Y = none := by
  have kY := step_ok k (ac := true) hj (show j < w by omega) (show j + 1 ≠ j by omega) hd
  rcases dChar k hj with ⟨e, _⟩ | ⟨r, hr, fr, e1⟩
  · rw [e] at hd; cases hd
  rw [e1] at hd
  cases hd
  rw [e_none k hi, e_none kY hi]
  exact maxE k hi hj fr hr 0
theorem none_de (k : OkT sg h w R) (hi : i + 1 < h) (hj : j + 1 < w) {Z : List (List Int)} (he : bkS sg false i R = some Z) : bkS sg true j R = none ↔ bkS sg true j Z = none := by
  have kZ := step_ok k (ac := false) hi (show i < h by omega) (show i + 1 ≠ i by omega) he
  rcases eChar k hi with ⟨e, _⟩ | ⟨c, hc, fc, e2, _⟩
  · rw [e] at he; cases he
  rw [e2] at he
  cases he
  rw [d_none k hj, d_none kZ hj]
  exact maxD k hi hj fc hc 0
theorem none_fd (k : OkT sg h w R) (hi : i + 1 < h) (hj : j + 1 < w) {Y : List (List Int)} (hd : bkS sg true j R = some Y) : foS sg false i R = none ↔ foS sg false i Y = none := by
  have kY := step_ok k (ac := true) hj (show j < w by omega) (show j + 1 ≠ j by omega) hd
  rcases dChar k hj with ⟨e, _⟩ | ⟨r, hr, fr, e1⟩
  · rw [e] at hd; cases hd
  rw [e1] at hd
  cases hd
  have s : SN (at2 (mvK R (j + 1) j r true)) i w = SN (at2 R) i w := by
    rw [SN_congr (mvC_ent k.toRect hj (by omega) hr (by omega)) hi (Nat.le_refl w), JRM.SN_mvC]
    unfold JRM.bumpS
    rw [if_neg (fun z => by omega), if_neg (fun z => by omega)]; omega
  rw [f_none k hi, f_none kY hi, s]
  exact maxE k hi hj fr hr _
theorem ef1 (k : OkT sg h w R) (hi : i + 1 < h) {T : List (List Int)} (e : bkS sg false i R = some T) : foS sg false i T = some R := by
  have kT := step_ok k (ac := false) hi (show i < h by omega) (show i + 1 ≠ i by omega) e
  rcases eChar k hi with ⟨e1, _⟩ | ⟨c, hc, fc, e2, a1, a2⟩
  · rw [e1] at e; cases e
  rw [e2] at e
  cases e
  have ent := mvA_ent k.toRect hi (show i < h by omega) hc (show i + 1 ≠ i by omega)
  have sT : ∀ l, l ≤ w → SN (at2 (mvK R (i + 1) i c false)) i l = SN (at2 R) i l - (if c < l then 2 else 0) := fun l hl => by
    rw [SN_congr ent hi hl]
    unfold SN
    rw [pre_mvA, pre_mvA]; omega
  have la : LA (HS sg (at2 (mvK R (i + 1) i c false)) i) (SN (at2 (mvK R (i + 1) i c false)) i w) (nS sg w) c := by
    have bits := k.at hi hc
    cases sg with
    | true =>
      have fc : FA (SN (at2 R) i) (w + 1) (c + 1) := fc
      have s1 : SN (at2 R) i (c + 1) = SN (at2 R) i c + at2 R (i + 1) c - at2 R i c := by
        unfold SN; rw [pre_succ, pre_succ]; omega
      have := a2 rfl
      have := bits.2.2 rfl
      have f1 := fc.first c (by omega)
      show LA (SN (at2 (mvK R (i + 1) i c false)) i) (SN (at2 (mvK R (i + 1) i c false)) i w) (w + 1) c
      refine ⟨by omega, fun l hl => ?_, fun l h1 h2 => ?_, ?_⟩
      · rw [sT l (by omega), sT c (by omega)]
        by_cases z : c < l
        · have := fc.top l hl
          rw [if_pos z]; omega
        · have := fc.first l (by omega)
          rw [if_neg z]; omega
      · rw [sT l (by omega), sT c (by omega), if_pos h1, if_neg (by omega)]
        have := fc.top l h2
        omega
      · rw [sT w (by omega), sT c (by omega), if_pos hc, if_neg (by omega)]
        have := fc.top w (by omega)
        omega
    | false =>
      have fc : FA (PN (at2 R) i) w c := fc
      have pT : ∀ l, l < w → PN (at2 (mvK R (i + 1) i c false)) i l = PN (at2 R) i l - (if c < l + 1 then 1 else 0) - (if c < l then 1 else 0) := fun l hl => by
        have z := HS_congr (sg := false) ent hi hl
        have z : PN (at2 (mvK R (i + 1) i c false)) i l = PN (mvA (at2 R) (i + 1) i c) i l := z
        rw [z]
        unfold PN
        rw [pre_mvA, pre_mvA]; omega
      show LA (PN (at2 (mvK R (i + 1) i c false)) i) (SN (at2 (mvK R (i + 1) i c false)) i w) w c
      refine ⟨hc, fun l hl => ?_, fun l h1 h2 => ?_, ?_⟩
      · rw [pT l hl, pT c hc]
        have := fc.top l hl
        by_cases z : l < c
        · have := fc.first l z
          omega
        · omega
      · rw [pT l h2, pT c hc]
        have := fc.top l h2
        omega
      · rw [sT w (by omega), pT c hc]
        have wb := k.wb
        have s2 : SN (at2 R) i (w - 1 + 1) = PN (at2 R) i (w - 1) - at2 R i (w - 1) := by
          unfold SN PN; rw [pre_succ (at2 R i)]; omega
        rw [show w - 1 + 1 = w by omega] at s2
        have := fc.top (w - 1) (by omega)
        have := (k.at (show i < h by omega) (show w - 1 < w by omega)).1
        omega
  rw [f_of kT hi la]
  refine congrArg some (tab_ext (mvK_rect kT.toRect (ac := false) (show i < h by omega) hi hc) k.toRect fun a b ha hb => ?_)
  rw [mvA_ent kT.toRect (by omega) hi hc (by omega) a b ha hb]
  unfold mvA
  rw [ent a b ha hb]
  unfold mvA
  omega
theorem ef2 (k : OkT sg h w R) (hi : i + 1 < h) {T : List (List Int)} (e : foS sg false i R = some T) : bkS sg false i T = some R := by
  have kT := step_ok k (ac := false) (show i < h by omega) hi (show i ≠ i + 1 by omega) e
  rcases fChar k hi with ⟨e1, _⟩ | ⟨c, hc, fc, e2, a1, a2⟩
  · rw [e1] at e; cases e
  rw [e2] at e
  cases e
  have ent := mvA_ent k.toRect (show i < h by omega) hi hc (show i ≠ i + 1 by omega)
  have la : FA (HS sg (at2 (mvK R i (i + 1) c false)) i) (nS sg w) (upS sg c) := by
    have bits := k.at (show i < h by omega) hc
    cases sg with
    | true =>
      have sT : ∀ l, l ≤ w → SN (at2 (mvK R i (i + 1) c false)) i l = SN (at2 R) i l + (if c < l then 2 else 0) := fun l hl => by
        rw [SN_congr ent hi hl]
        unfold SN
        rw [pre_mvA, pre_mvA]; omega
      have fc : LA (SN (at2 R) i) (SN (at2 R) i w) (w + 1) c := fc
      have s1 : SN (at2 R) i (c + 1) = SN (at2 R) i c + at2 R (i + 1) c - at2 R i c := by
        unfold SN; rw [pre_succ, pre_succ]; omega
      have := a2 rfl
      have := bits.2.2 rfl
      have z0 := fc.top 0 (by omega)
      have z1 : SN (at2 R) i 0 = 0 := rfl
      show FA (SN (at2 (mvK R i (i + 1) c false)) i) (w + 1) (c + 1)
      refine ⟨by omega, ?_, fun l hl => ?_, fun l hl => ?_⟩
      · rw [sT _ (by omega), if_pos (by omega)]; omega
      · rw [sT _ (by omega), sT _ (by omega), if_neg (by omega), if_pos (by omega)]
        have := fc.top l (by omega)
        omega
      · rw [sT _ (by omega), sT _ (by omega), if_pos (c := c < c + 1) (by omega)]
        by_cases z : c < l
        · have := fc.last l z hl
          rw [if_pos z]; omega
        · have := fc.top l hl
          rw [if_neg z]; omega
    | false =>
      have fc : LA (PN (at2 R) i) (SN (at2 R) i w) w c := fc
      have pT : ∀ l, l < w → PN (at2 (mvK R i (i + 1) c false)) i l = PN (at2 R) i l + (if c < l + 1 then 1 else 0) + (if c < l then 1 else 0) := fun l hl => by
        have z : PN (at2 (mvK R i (i + 1) c false)) i l = PN (mvA (at2 R) i (i + 1) c) i l := HS_congr (sg := false) ent hi hl
        rw [z]
        unfold PN
        rw [pre_mvA, pre_mvA]; omega
      have z0 := fc.top 0 (by omega)
      have z1 : PN (at2 R) i 0 = 0 + at2 R (i + 1) 0 - 0 := rfl
      have := (k.at hi (show 0 < w by omega)).1
      show FA (PN (at2 (mvK R i (i + 1) c false)) i) w c
      refine ⟨hc, ?_, fun l hl => ?_, fun l hl => ?_⟩
      · rw [pT _ hc]; omega
      · rw [pT _ hc, pT l (by omega)]
        have := fc.top l (by omega)
        omega
      · rw [pT _ hc, pT l hl]
        have := fc.top l hl
        by_cases z : c < l
        · have := fc.last l z hl
          omega
        · omega
  rw [e_of kT hi la]
  refine congrArg some (tab_ext (mvK_rect kT.toRect (ac := false) hi (show i < h by omega) hc) k.toRect fun a b ha hb => ?_)
  rw [mvA_ent kT.toRect hi (by omega) hc (by omega) a b ha hb]
  unfold mvA
  rw [ent a b ha hb]
  unfold mvA
  omega
theorem dh1 (k : OkT sg h w R) (hj : j + 1 < w) {T : List (List Int)} (e : bkS sg true j R = some T) : foS sg true j T = some R := by
  have kT := step_ok k (ac := true) hj (show j < w by omega) (show j + 1 ≠ j by omega) e
  have a := d_cr k hj
  rw [e] at a
  have b := ef1 (cr_ok k) hj a
  have c := h_cr kT hj
  have b : foS sg false j (crA sg T) = some (crA sg R) := b
  rw [b] at c
  cases q : foS sg true j T with
  | none => rw [q] at c; cases c
  | some U =>
    rw [q] at c
    have c : crA sg R = crA sg U := Option.some.inj c
    have kU := step_ok kT (ac := true) (show j < w by omega) hj (show j ≠ j + 1 by omega) q
    rw [cr_inj k kU c]
theorem dh2 (k : OkT sg h w R) (hj : j + 1 < w) {T : List (List Int)} (e : foS sg true j R = some T) : bkS sg true j T = some R := by
  have kT := step_ok k (ac := true) (show j < w by omega) hj (show j ≠ j + 1 by omega) e
  have a := h_cr k hj
  rw [e] at a
  have b := ef2 (cr_ok k) hj a
  have c := d_cr kT hj
  have b : bkS sg false j (crA sg T) = some (crA sg R) := b
  rw [b] at c
  cases q : bkS sg true j T with
  | none => rw [q] at c; cases c
  | some U =>
    rw [q] at c
    have c : crA sg R = crA sg U := Option.some.inj c
    have kU := step_ok kT (ac := true) hj (show j < w by omega) (show j + 1 ≠ j by omega) q
    rw [cr_inj k kU c]
end
/-! ### sums -/
def csT (h w : Nat) (R : List (List Int)) : List Int := (List.range w).map fun c => pre (tn (at2 R) c) h
def rsT (h w : Nat) (R : List (List Int)) : List Int := (List.range h).map fun r => pre (at2 R r) w
def gvT (n j : Nat) (l : List Int) : List Int := (List.range n).map fun c => l.getD c 0 + (if c = j then 1 else 0) - (if c = j + 1 then 1 else 0)
theorem csT_at {h w : Nat} {R : List (List Int)} {c : Nat} (hc : c < w) : (csT h w R).getD c 0 = pre (tn (at2 R) c) h := by
  unfold csT
  rw [List.getD_eq_getElem?_getD, List.getElem?_map, List.getElem?_range hc]; rfl
theorem rsT_at {h w : Nat} {R : List (List Int)} {r : Nat} (hr : r < h) : (rsT h w R).getD r 0 = pre (at2 R r) w := by
  unfold rsT
  rw [List.getD_eq_getElem?_getD, List.getElem?_map, List.getElem?_range hr]; rfl
section
variable {sg : Bool} {h w : Nat} {R T : List (List Int)} {i j : Nat}
theorem cs_eT (k : OkT sg h w R) (hi : i + 1 < h) (e : bkS sg false i R = some T) : csT h w T = csT h w R := by
  rcases eChar k hi with ⟨e1, _⟩ | ⟨c, hc, _, e2, _⟩
  · rw [e1] at e; cases e
  rw [e2] at e
  cases e
  have ent := mvA_ent k.toRect hi (show i < h by omega) hc (show i + 1 ≠ i by omega)
  refine List.map_congr_left fun d hd => ?_
  have hd := List.mem_range.mp hd
  have z : pre (tn (at2 (mvK R (i + 1) i c false)) d) h = pre (tn (mvA (at2 R) (i + 1) i c) d) h := pre_congr fun r hr => ent r d hr hd
  rw [z, JRM.tn_mvA, JRM.pre_mvC, if_neg (fun z => by omega)]; omega
theorem rs_eT (k : OkT sg h w R) (hi : i + 1 < h) (e : bkS sg false i R = some T) : rsT h w T = gvT h i (rsT h w R) := by
  rcases eChar k hi with ⟨e1, _⟩ | ⟨c, hc, _, e2, _⟩
  · rw [e1] at e; cases e
  rw [e2] at e
  cases e
  have ent := mvA_ent k.toRect hi (show i < h by omega) hc (show i + 1 ≠ i by omega)
  refine List.map_congr_left fun r hr => ?_
  have hr := List.mem_range.mp hr
  have z : pre (at2 (mvK R (i + 1) i c false) r) w = pre (mvA (at2 R) (i + 1) i c r) w := pre_congr fun d hd => ent r d hr hd
  rw [z, pre_mvA, rsT_at hr]; omega
theorem rs_dT (k : OkT sg h w R) (hj : j + 1 < w) (e : bkS sg true j R = some T) : rsT h w T = rsT h w R := by
  rcases dChar k hj with ⟨e1, _⟩ | ⟨r0, hr0, _, e2⟩
  · rw [e1] at e; cases e
  rw [e2] at e
  cases e
  have ent := mvC_ent k.toRect hj (show j < w by omega) hr0 (show j + 1 ≠ j by omega)
  refine List.map_congr_left fun r hr => ?_
  have hr := List.mem_range.mp hr
  have z : pre (at2 (mvK R (j + 1) j r0 true) r) w = pre (mvC (at2 R) (j + 1) j r0 r) w := pre_congr fun d hd => ent r d hr hd
  rw [z, JRM.pre_mvC, if_neg (fun z => by omega)]; omega
theorem cs_dT (k : OkT sg h w R) (hj : j + 1 < w) (e : bkS sg true j R = some T) : csT h w T = gvT w j (csT h w R) := by
  rcases dChar k hj with ⟨e1, _⟩ | ⟨r0, hr0, _, e2⟩
  · rw [e1] at e; cases e
  rw [e2] at e
  cases e
  have ent := mvC_ent k.toRect hj (show j < w by omega) hr0 (show j + 1 ≠ j by omega)
  refine List.map_congr_left fun d hd => ?_
  have hd := List.mem_range.mp hd
  have z : pre (tn (at2 (mvK R (j + 1) j r0 true)) d) h = pre (tn (mvC (at2 R) (j + 1) j r0) d) h := pre_congr fun r hr => ent r d hr hd
  rw [z, JRM.tn_mvC, pre_mvA, csT_at hd]; omega
theorem corner_one (kR : OkT sg h w R) (kT : OkT sg h w T) (eR : ∀ i, i < h - 1 → bkS sg false i R = none) (dR : ∀ j, j < w - 1 → bkS sg true j R = none) (eT : ∀ i, i < h - 1 → bkS sg false i T = none) (dT : ∀ j, j < w - 1 → bkS sg true j T = none)
    (s : csT h w R = csT h w T ∨ rsT h w R = rsT h w T) : R = T := by
  have hb := kR.hb
  have wb := kR.wb
  refine tab_ext kR.toRect kT.toRect fun r c hr hc => ?_
  have sc : csT h w R = csT h w T → ∀ c, c < w → pre (tn (at2 R) c) h = pre (tn (at2 T) c) h := fun e c hc => by rw [← csT_at hc, ← csT_at hc, e]
  have sr : rsT h w R = rsT h w T → ∀ r, r < h → pre (at2 R r) w = pre (at2 T r) w := fun e r hr => by rw [← rsT_at (w := w) hr, ← rsT_at (w := w) hr, e]
  cases sg with
  | true =>
    have cor : ∀ {Q : List (List Int)}, OkT true h w Q → (∀ i, i < h - 1 → bkS true false i Q = none) → (∀ j, j < w - 1 → bkS true true j Q = none) → JRM.CorS h w (at2 Q) := fun {Q} kQ e d =>
      JRM.corS kQ.bits (fun i hi l hl => (e_none kQ hi).mp (e i (by omega)) l (Nat.lt_succ_of_le hl)) fun j hj l hl => (d_none kQ hj).mp (d j (by omega)) l (Nat.lt_succ_of_le hl)
    rcases s with s | s
    · exact JRM.oneSc kR.bits kT.bits (cor kR eR dR) (cor kT eT dT) (sc s) hr hc
    · exact JRM.oneSr kR.bits kT.bits (cor kR eR dR) (cor kT eT dT) (sr s) hr hc
  | false =>
    have cor : ∀ {Q : List (List Int)}, OkT false h w Q → (∀ i, i < h - 1 → bkS false false i Q = none) → (∀ j, j < w - 1 → bkS false true j Q = none) → ∀ r c, r < h → c < w → r ≠ c → at2 Q r c = 0 := fun {Q} kQ e d r c hr hc n => by
      by_cases z : c < r
      · exact JRM.diagN (fun r c hr hc => (kQ.at hr hc).1) (fun i hi l hl => (e_none kQ hi).mp (e i (by omega)) l hl) hr hc z
      · exact JRM.diagN (X := tn (at2 Q)) (fun r c hr hc => (kQ.at hc hr).1) (fun j hj l hl => (d_none kQ hj).mp (d j (by omega)) l hl) hc hr (by omega)
    have c1 := cor kR eR dR
    have c2 := cor kT eT dT
    rcases s with s | s
    · exact JRM.oneN c1 c2 (sc s) hr hc
    · exact JRM.oneN (X := tn (at2 R)) (Y := tn (at2 T)) (h := w) (w := h) (fun r c hr hc n => c1 c r hc hr fun z => n z.symm) (fun r c hr hc n => c2 c r hc hr fun z => n z.symm) (sr s) hc hr
end
/-- transfers of names, of columns -/
def BiT (sg : Bool) (h w : Nat) : JRM.Bi (List (List Int)) where
  ok := OkT sg h w
  n := h - 1
  m := w - 1
  e := bkS sg false
  f := foS sg false
  d := bkS sg true
  h := foS sg true
  mu := muT
  cs := csT h w
  rs := rsT h w
  gc := gvT w
  gr := gvT h
  e_ok := fun {i} {x} {y} hi o q => step_ok o (ac := false) (show i + 1 < h by omega) (show i < h by omega) (show i + 1 ≠ i by omega) q
  f_ok := fun {i} {x} {y} hi o q => step_ok o (ac := false) (show i < h by omega) (show i + 1 < h by omega) (show i ≠ i + 1 by omega) q
  d_ok := fun {i} {x} {y} hi o q => step_ok o (ac := true) (show i + 1 < w by omega) (show i < w by omega) (show i + 1 ≠ i by omega) q
  h_ok := fun {i} {x} {y} hi o q => step_ok o (ac := true) (show i < w by omega) (show i + 1 < w by omega) (show i ≠ i + 1 by omega) q
  e_mu := fun {i} {x} {y} hi o q => step_mu o (ac := false) (show i + 1 < h by omega) q
  d_mu := fun {i} {x} {y} hi o q => step_mu o (ac := true) (show i + 1 < w by omega) q
  ef := fun {i} {x} {y} hi o o' => ⟨ef1 o (by omega), ef2 o' (by omega)⟩
  dh := fun {i} {x} {y} hi o o' => ⟨dh1 o (by omega), dh2 o' (by omega)⟩
  sqe := fun {i} {j} {x} {y} hi hj o q => ⟨fun z r => square o (by omega) (by omega) q r, (none_ed o (by omega) (by omega) q).mp⟩
  sqf := fun {i} {j} {x} {y} hi hj o q => ⟨fun z r => by
      have oz := step_ok o (ac := false) (show i < h by omega) (show i + 1 < h by omega) (show i ≠ i + 1 by omega) r
      have oy := step_ok o (ac := true) (show j + 1 < w by omega) (show j < w by omega) (show j + 1 ≠ j by omega) q
      have b := ef2 o (show i + 1 < h by omega) r
      cases dz : bkS sg true j z with
      | none =>
        rw [(none_de oz (show i + 1 < h by omega) (show j + 1 < w by omega) b).mp dz] at q
        cases q
      | some v =>
        obtain ⟨v', v1, v2⟩ := square oz (show i + 1 < h by omega) (show j + 1 < w by omega) dz b
        rw [q] at v1
        have ov := step_ok oz (ac := true) (show j + 1 < w by omega) (show j < w by omega) (show j + 1 ≠ j by omega) dz
        have v1 : y = v' := Option.some.inj v1
        rw [← v1] at v2
        exact ⟨v, rfl, ef1 ov (show i + 1 < h by omega) v2⟩, (none_fd o (by omega) (by omega) q).mp⟩
  cs_e := fun {i} {x} {y} hi o q => cs_eT o (by omega) q
  rs_d := fun {i} {x} {y} hi o q => rs_dT o (by omega) q
  cs_d := fun {i} {x} {y} hi o q => cs_dT o (by omega) q
  rs_e := fun {i} {x} {y} hi o q => rs_eT o (by omega) q
  cor_c := fun {x} {y} ox oy a b c d s => corner_one ox oy a b c d (.inl s)
  cor_r := fun {x} {y} ox oy a b c d s => corner_one ox oy a b c d (.inr s)
end JR
set_option Elab.async false
set_option linter.all false
set_option maxRecDepth 100000
set_option maxHeartbeats 2000000
/-! What the law asks, of tables. -/
namespace JR
open JRM
section
variable {sg : Bool} {h w : Nat} {R S T A B : List (List Int)}
theorem Rt.ef (r : Rt sg false h w R) : (BiT sg h w).EF R := fun i hi => r i (show i + 1 < h by have : i < h - 1 := hi; omega)
theorem Rt.df (r : Rt sg true h w R) : (BiT sg h w).DF R := fun i hi => r i (show i + 1 < w by have : i < w - 1 := hi; omega)
theorem ef_rt (r : (BiT sg h w).EF R) : Rt sg false h w R := fun i hi => r i (show i < h - 1 by have : i + 1 < h := hi; omega)
theorem df_rt (r : (BiT sg h w).DF R) : Rt sg true h w R := fun i hi => r i (show i < w - 1 by have : i + 1 < w := hi; omega)
theorem Rch.names' {al ac : Bool} (r : Rch sg al ac h w R T) : ac = false → ∃ l, Bd (h - 1) l ∧ JRM.run (bkS sg false) l R = some T := by
  induction r with
  | refl R => exact fun _ => ⟨[], Bd.nil, rfl⟩
  | @e R R1 T l a hl q r ih =>
    intro z
    obtain ⟨ls, b, rr⟩ := ih z
    exact ⟨l :: ls, b.cons (by omega), run_of q rr⟩
  | d a hl q r ih => intro z; rw [z] at a; cases a
theorem Rch.cols' {al ac : Bool} (r : Rch sg al ac h w R T) : al = false → ∃ l, Bd (w - 1) l ∧ JRM.run (bkS sg true) l R = some T := by
  induction r with
  | refl R => exact fun _ => ⟨[], Bd.nil, rfl⟩
  | @d R R1 T l a hl q r ih =>
    intro z
    obtain ⟨ls, b, rr⟩ := ih z
    exact ⟨l :: ls, b.cons (by omega), run_of q rr⟩
  | e a hl q r ih => intro z; rw [z] at a; cases a
theorem Rch.mix {al ac : Bool} (r : Rch sg al ac h w R T) : (BiT sg h w).Mix R T := by
  induction r with
  | refl R => exact .nil R
  | @e R R1 T l a hl q r ih => exact .e (show l < h - 1 by omega) q ih
  | @d R R1 T l a hl q r ih => exact .d (show l < w - 1 by omega) q ih
theorem Rch.re (r : Rch sg true false h w R T) (n : Rt sg false h w T) : (BiT sg h w).RE R T := by
  obtain ⟨l, b, rr⟩ := r.names' rfl
  exact ⟨l, b, rr, n.ef⟩
theorem Rch.rd (r : Rch sg false true h w R T) (n : Rt sg true h w T) : (BiT sg h w).RD R T := by
  obtain ⟨l, b, rr⟩ := r.cols' rfl
  exact ⟨l, b, rr, n.df⟩
theorem UpTo.bdN {lows : List Nat} (u : UpTo sg false h w R lows T) : Bd (h - 1) lows := fun l hl => by have : l + 1 < h := u.bd l hl; omega
theorem UpTo.re {lows : List Nat} (u : UpTo sg false h w R lows T) : (BiT sg h w).RE R T := ⟨lows, u.bdN, u.run, Rt.ef u.no⟩
theorem UpTo.rd {lows : List Nat} (u : UpTo sg true h w R lows T) : (BiT sg h w).RD R T := ⟨lows, fun l hl => by have : l + 1 < w := u.bd l hl; show l < w - 1; omega, u.run, Rt.df u.no⟩
end
theorem pjP : Pj where
  jn := fun sg h w A B c lA lB uA uB rA rB => by
    obtain ⟨t, e, _⟩ := (BiT sg h w).join uA.ok0 uB.ok0 rA.ef rB.df uB.bdN uB.run (Rt.ef uB.no) uA.rd
    exact ⟨t, e⟩
section
variable {sg : Bool} {h w : Nat} {R S T A B c cA cB : List (List Int)} {lA lB : List Nat}
/-- the joined table has just these two roots -/
theorem join_roots (uA : UpTo sg true h w A lA c) (uB : UpTo sg false h w B lB c) (rA : Rt sg false h w A) (rB : Rt sg true h w B) (hT : JRM.run (foS sg false) lB.reverse A = some T) : OkT sg h w T ∧ (BiT sg h w).RE T A ∧ (BiT sg h w).RD T B := by
  obtain ⟨t, e, k, q1, q2⟩ := (BiT sg h w).join uA.ok0 uB.ok0 rA.ef rB.df uB.bdN uB.run (Rt.ef uB.no) uA.rd
  have e : JRM.run (foS sg false) lB.reverse A = some t := e
  rw [hT] at e
  cases e
  exact ⟨k, q1, q2⟩
theorem re_same (k : OkT sg h w T) (a : (BiT sg h w).RE T A) (b : (BiT sg h w).RE T B) : A = B := (BiT sg h w).re_one k a b
theorem rd_same (k : OkT sg h w T) (a : (BiT sg h w).RD T A) (b : (BiT sg h w).RD T B) : A = B := (BiT sg h w).rd_one k a b
/-- the two roots of a table lead back to it -/
theorem roots_back (k : OkT sg h w R) (a : (BiT sg h w).RE R A) (b : (BiT sg h w).RD R B) (uA : UpTo sg true h w A lA cA) (uB : UpTo sg false h w B lB cB) : cA = cB ∧ ∀ T, JRM.run (foS sg false) lB.reverse A = some T → T = R := by
  obtain ⟨q1, q2⟩ := (BiT sg h w).join_back k a b uB.bdN uB.run (Rt.ef uB.no)
  refine ⟨rd_same uA.ok0 uA.rd q1, fun T e => ?_⟩
  have q2 : JRM.run (foS sg false) lB.reverse A = some R := q2
  rw [q2] at e
  exact (Option.some.inj e).symm
theorem roots_rt (k : OkT sg h w R) (a : (BiT sg h w).RE R A) (b : (BiT sg h w).RD R B) : OkT sg h w A ∧ OkT sg h w B ∧ Rt sg false h w A ∧ Rt sg true h w B := by
  refine ⟨(BiT sg h w).re_ok k a, (BiT sg h w).rd_ok k b, ?_, ?_⟩
  · obtain ⟨_, _, _, z⟩ := a
    exact ef_rt z
  · obtain ⟨_, _, _, z⟩ := b
    exact df_rt z
/-- where both kinds of transfers end -/
theorem near_names (uA : UpTo sg true h w A lA cA) (rA : Rt sg false h w A) (r : Rch sg true true h w A S) (n1 : Rt sg false h w S) (n2 : Rt sg true h w S) : cA = S :=
  (BiT sg h w).co_one uA.ok0 ((BiT sg h w).co_of_ef rA.ef uA.rd) ((BiT sg h w).mix_end uA.ok0 r.mix n1.ef n2.df)
theorem near_cols (uB : UpTo sg false h w B lB cB) (rB : Rt sg true h w B) (r : Rch sg true true h w B S) (n1 : Rt sg false h w S) (n2 : Rt sg true h w S) : cB = S :=
  (BiT sg h w).co_one uB.ok0 ((BiT sg h w).co_of_df uB.ok0 rB.df uB.re) ((BiT sg h w).mix_end uB.ok0 r.mix n1.ef n2.df)
/-- a way on -/
theorem Fch.way {ac : Bool} (f : Fch sg ac h w R T) : ∃ l, (∀ i ∈ l, i + 1 < limA h w ac) ∧ JRM.run (foS sg ac) l R = some T := by
  induction f with
  | refl => exact ⟨[], fun _ h => (by cases h), rfl⟩
  | @st S T l f hl e ih =>
    obtain ⟨ls, b, rr⟩ := ih
    refine ⟨ls ++ [l], fun i hi => ?_, run_append rr (run_one e)⟩
    rcases List.mem_append.mp hi with hi | hi
    · exact b i hi
    · rw [List.mem_singleton.mp hi]; exact hl
/-- from a corner: columns -/
theorem forth_cols (k : OkT sg h w c) (n1 : Rt sg false h w c) (n2 : Rt sg true h w c) (f : Fch sg true h w c A) : OkT sg h w A ∧ Rt sg false h w A ∧ (BiT sg h w).RD A c := by
  obtain ⟨l, b, rr⟩ := f.way
  have bd : Bd (w - 1) l := fun i hi => by have : i + 1 < w := b i hi; omega
  have kA : OkT sg h w A := run_keeps (BiT sg h w).h_ok bd k rr
  have back : JRM.run (bkS sg true) l.reverse A = some c := (BiT sg h w).swap.back_f bd k rr
  exact ⟨kA, ef_rt (((BiT sg h w).ef_run bd.reverse kA back).mpr n1.ef), l.reverse, bd.reverse, back, n2.df⟩
/-- from a corner: names -/
theorem forth_names (k : OkT sg h w c) (n1 : Rt sg false h w c) (n2 : Rt sg true h w c) (f : Fch sg false h w c B) : OkT sg h w B ∧ Rt sg true h w B ∧ (BiT sg h w).RE B c := by
  obtain ⟨l, b, rr⟩ := f.way
  have bd : Bd (h - 1) l := fun i hi => by have : i + 1 < h := b i hi; omega
  have kB : OkT sg h w B := run_keeps (BiT sg h w).f_ok bd k rr
  have back : JRM.run (bkS sg false) l.reverse B = some c := (BiT sg h w).back_f bd k rr
  exact ⟨kB, df_rt (((BiT sg h w).df_run bd.reverse kB back).mpr n2.df), l.reverse, bd.reverse, back, n1.ef⟩
end
end JR
set_option pp.maxSteps 2500
set_option Elab.async false
set_option linter.all false
set_option maxRecDepth 100000
set_option maxHeartbeats 2000000
namespace JR
open PySem PySem.Spec L2 RZ
local macro_rules
  | `(tactic| walk_at "s") => `(tactic| first
    | ((with_reducible apply ev_var); exact rfl) | with_reducible refine ev_isiI ?_ | with_reducible refine ev_isiB ?_ | with_reducible refine ev_isiT ?_ | with_reducible refine ev_isiS ?_ | ((with_reducible refine st_append ?_ ?_); rotate_left; exact ⟨_, rfl⟩) | ((with_reducible apply st_pop); exact rfl) | ((with_reducible apply et_ownNe); exact rfl) | ((with_reducible apply op_i); exact rfl) | ((with_reducible apply it_rgV); exact rfl) | ((with_reducible apply op_inW); exact rfl) | ((with_reducible apply op_ixT); exact rfl) | ((with_reducible apply op_ixL); exact rfl) | ((with_reducible refine And.intro (le_lit ?_) ?_); exact rfl) | ((with_reducible apply op_b); exact rfl) | ((with_reducible apply tc_name); decide) | ((with_reducible apply tc_tup); exact rfl) | ((with_reducible apply tg_tup); exact rfl) | ((with_reducible apply tg_tupD); exact rfl) | ((with_reducible apply tc_tupD); exact rfl)
    | with_reducible refine st_seq ?_ | with_reducible refine st_ret ?_ | with_reducible refine st_next ?_ | with_reducible refine st_if ?_ | with_reducible refine st_par_own2 ?_ | with_reducible refine st_par_own ?_ | with_reducible refine st_rng ?_ | with_reducible refine st_par ?_ | with_reducible refine st_own ?_ | with_reducible refine st_asg ?_ | with_reducible refine st_unpack ?_ | with_reducible refine st_drop ?_ | with_reducible refine st_break ?_ | with_reducible refine ev_int ?_ | with_reducible refine ev_str ?_ | with_reducible refine ev_bl ?_ | with_reducible refine ev_non ?_ | with_reducible refine ev_op ?_ | with_reducible refine ev_un ?_ | with_reducible refine ev_if ?_ | with_reducible refine ev_andV ?_ | with_reducible refine ev_orV ?_ | with_reducible refine ev_notV ?_ | with_reducible refine ev_tup ?_ | with_reducible refine ev_lst ?_ | with_reducible refine ea_nil ?_ | with_reducible refine ea_cons ?_ | with_reducible refine ev_call ?_ | with_reducible refine ev_callN ?_ | with_reducible refine ev_cb ?_ | with_reducible refine ev_sl ?_ | with_reducible refine eo_none ?_ | with_reducible refine eo_some ?_ | with_reducible refine ev_revL ?_ | with_reducible refine ev_revT ?_ | with_reducible refine evn_lrg ?_ | with_reducible refine ev_bmT ?_ | with_reducible refine et_test ?_ | with_reducible refine et_B ?_ | with_reducible refine et_and ?_ | with_reducible refine et_or ?_ | with_reducible refine et_not ?_ | with_reducible refine et_yes ?_ | with_reducible refine ev_chain ?_ | with_reducible refine op_eqI ?_ | with_reducible refine op_neI ?_ | with_reducible refine op_eqS ?_ | with_reducible refine op_neS ?_ | with_reducible refine op_eqB ?_ | with_reducible refine op_neB ?_ | with_reducible refine op_inIn ?_ | with_reducible refine ud_neg ?_ | with_reducible refine op_is ?_ | with_reducible refine op_isnt ?_ | with_reducible refine cb_lenL ?_ | with_reducible refine cb_lenT ?_ | with_reducible refine cb_listT ?_ | with_reducible refine cb_listL ?_ | with_reducible refine cb_tupL ?_ | with_reducible refine cb_int ?_ | with_reducible refine cb_max2 ?_ | with_reducible refine cb_min2 ?_ | with_reducible refine it_list ?_ | with_reducible refine it_tup ?_ | with_reducible refine itn_1 ?_ | with_reducible refine it_rng2 ?_ | with_reducible refine it_rev ?_ | with_reducible refine itn_rev ?_ | with_reducible refine it_enum ?_ | with_reducible refine it_enumT ?_ | with_reducible refine it_zipT ?_ | with_reducible refine tcs_cons ?_ | with_reducible refine tcs_nil ?_ | with_reducible refine tg_name ?_ | with_reducible refine tgs_cons ?_ | with_reducible refine tgs_nil ?_
    | with_reducible refine ⟨_, rfl, ?_⟩
    | with_reducible refine ⟨_, _, rfl, ?_⟩
    | refine and_T ?_ | refine and_F ?_)
  | `(tactic| walk_at "d") => `(tactic| repeat walk_at "s")
/-! ### data that repr writes -/
structure Sw (k n : Nat) (d : PyData) : Prop where
  sh : d.showable = true
  nd : d.hasDict = false
  dp : d.depth ≤ k
  sz : d.shown.length ≤ n
theorem str_app (a b : Str) : (a ++ b).length = a.length + b.length := by
  show (a.cps ++ b.cps).size = _
  exact Array.size_append
theorem len_text : ∀ (ts : List Str) (k n : Nat) (acc : Str), (∀ t ∈ ts, t.length ≤ n) → (textFrom k acc ts).length ≤ acc.length + ts.length * (n + 2)
  | [], k, n, acc, _ => by
    rw [textFrom.eq_def]
    exact Nat.le_add_right _ _
  | t :: ts, k, n, acc, h => by
    rw [textFrom.eq_def]
    have ih := len_text ts (k + 1) n (acc ++ Str.ofString (if k > 0 then ", " else "") ++ t) fun x hx => h x (List.mem_cons_of_mem _ hx)
    have ht := h t List.mem_cons_self
    have hs : (Str.ofString (if k > 0 then ", " else "")).length ≤ 2 := by
      split
      · exact (by decide +kernel : (Str.ofString ", ").length ≤ 2)
      · exact (by decide +kernel : (Str.ofString "").length ≤ 2)
    rw [str_app, str_app] at ih
    rw [List.length_cons, Nat.succ_mul]
    show (textFrom (k + 1) (acc ++ Str.ofString (if k > 0 then ", " else "") ++ t) ts).length ≤ _
    omega
theorem len_join (sep : Str) : ∀ (ts : List Str) (n : Nat), (∀ t ∈ ts, t.length ≤ n) → (sep.join ts).length ≤ ts.length * (n + sep.length)
  | [], n, _ => by
    rw [Str.join.eq_def]
    have z : Str.empty.length = 0 := by decide +kernel
    show Str.empty.length ≤ 0 * (n + sep.length)
    rw [z]; exact Nat.zero_le _
  | [t], n, h => by
    rw [Str.join.eq_def]
    have ht := h t List.mem_cons_self
    show t.length ≤ 1 * (n + sep.length)
    omega
  | t :: u :: ts, n, h => by
    rw [Str.join.eq_def]
    have ht := h t List.mem_cons_self
    have ih := len_join sep (u :: ts) n fun x hx => h x (List.mem_cons_of_mem _ hx)
    rw [List.length_cons, Nat.succ_mul]
    show (t ++ sep ++ sep.join (u :: ts)).length ≤ _
    rw [str_app, str_app]
    omega
theorem sw_all {k n : Nat} : ∀ {xs : List PyData}, (∀ x ∈ xs, Sw k n x) → PyData.showableAll xs = true ∧ PyData.hasDictAll xs = false ∧ PyData.depthAll xs ≤ k ∧ (∀ t ∈ PyData.shownAll xs, t.length ≤ n) ∧ (PyData.shownAll xs).length = xs.length
  | [], _ => ⟨by simp [PyData.showableAll], by simp [PyData.hasDictAll], by simp [PyData.depthAll], fun t ht => by simp [PyData.shownAll] at ht, by simp [PyData.shownAll]⟩
  | x :: xs, h => by
    obtain ⟨h1, h2, h3, h4, h5⟩ := sw_all (xs := xs) fun y hy => h y (List.mem_cons_of_mem _ hy)
    obtain ⟨q1, q2, q3, q4⟩ := h x List.mem_cons_self
    refine ⟨by simp [PyData.showableAll, h1, q1], by simp [PyData.hasDictAll, h2, q2], ?_, fun t ht => ?_, by simp [PyData.shownAll, h5]⟩
    · rw [PyData.depthAll]; omega
    · rw [PyData.shownAll] at ht
      rcases List.mem_cons.mp ht with e | ht
      · rw [e]; exact q4
      · exact h4 t ht
theorem Sw.list {k n m : Nat} {xs : List PyData} (h : ∀ x ∈ xs, Sw k n x) (hl : xs.length ≤ m) : Sw (k + 1) (m * (n + 2) + 2) (.list xs) := by
  obtain ⟨h1, h2, h3, h4, h5⟩ := sw_all h
  refine ⟨by rw [PyData.showable]; exact h1, by rw [PyData.hasDict]; exact h2, by rw [PyData.depth]; omega, ?_⟩
  rw [PyData.shown]
  show (textFrom 0 (Str.ofString "[") (PyData.shownAll xs) ++ Str.ofString "]").length ≤ _
  have a := len_text (PyData.shownAll xs) 0 n (Str.ofString "[") h4
  have b : (Str.ofString "[").length = 1 := by decide +kernel
  have c : (Str.ofString "]").length = 1 := by decide +kernel
  have d := Nat.mul_le_mul_right (n + 2) hl
  rw [str_app, c]
  rw [b, h5] at a
  omega
theorem Sw.tuple {k n m : Nat} {xs : List PyData} (h : ∀ x ∈ xs, Sw k n x) (hl : xs.length ≤ m) : Sw (k + 1) (m * (n + 2) + 3) (.tuple xs) := by
  obtain ⟨h1, h2, h3, h4, h5⟩ := sw_all h
  refine ⟨by rw [PyData.showable]; exact h1, by rw [PyData.hasDict]; exact h2, by rw [PyData.depth]; omega, ?_⟩
  rw [PyData.shown]
  show (Str.ofString "(" ++ (Str.ofString ", ").join (PyData.shownAll xs) ++ Str.ofString (if ((PyData.shownAll xs).length == 1) = true then ",)" else ")")).length ≤ _
  have a := len_join (Str.ofString ", ") (PyData.shownAll xs) n h4
  have b : (Str.ofString "(").length = 1 := by decide +kernel
  have b2 : (Str.ofString ", ").length = 2 := by decide +kernel
  have c : (Str.ofString (if ((PyData.shownAll xs).length == 1) = true then ",)" else ")")).length ≤ 2 := by
    split
    · exact (by decide +kernel : (Str.ofString ",)").length ≤ 2)
    · exact (by decide +kernel : (Str.ofString ")").length ≤ 2)
  have d := Nat.mul_le_mul_right (n + 2) hl
  rw [str_app, str_app, b]
  rw [b2, h5] at a
  omega
theorem Sw.mono {k n k' n' : Nat} {d : PyData} (h : Sw k n d) (h1 : k ≤ k') (h2 : n ≤ n') : Sw k' n' d := ⟨h.sh, h.nd, Nat.le_trans h.dp h1, Nat.le_trans h.sz h2⟩
theorem sw_nat : ∀ i : Nat, i < 13 → (PyData.int (i : Int)).showable = true ∧ (PyData.int (i : Int)).shown.length ≤ 2 := by decide +kernel
theorem Sw.int {i : Int} (h1 : 0 ≤ i) (h2 : i ≤ 12) : Sw 1 2 (.int i) := by
  obtain ⟨n, rfl⟩ := Int.eq_ofNat_of_zero_le h1
  obtain ⟨q1, q2⟩ := sw_nat n (by omega)
  exact ⟨q1, by simp [PyData.hasDict], by simp [PyData.depth], q2⟩
theorem Sw.iv {r : List Int} (h : ∀ x ∈ r, 0 ≤ x ∧ x ≤ 12) (hl : r.length ≤ 4) : Sw 2 19 (JR.iv r) := Sw.tuple (m := 4) (fun y hy => by
  obtain ⟨x, hx, rfl⟩ := List.mem_map.mp hy
  exact .int (h x hx).1 (h x hx).2) (by rw [List.length_map]; exact hl)
theorem OkT.small {sg : Bool} {h w : Nat} {R : List (List Int)} (k : OkT sg h w R) : (∀ r ∈ R, r.length ≤ 4 ∧ ∀ x ∈ r, 0 ≤ x ∧ x ≤ 12) ∧ ∀ x ∈ R.map List.sum, 0 ≤ x ∧ x ≤ 12 := by
  have wb := k.wb
  have t := k.tot
  have sn : ∀ y ∈ R.map List.sum, 0 ≤ y := fun y hy => by
    obtain ⟨q, hq, rfl⟩ := List.mem_map.mp hy
    exact sum_nn fun z hz => (k.nn q hq z hz).1
  have s2 : ∀ x ∈ R.map List.sum, 0 ≤ x ∧ x ≤ 12 := fun x hx => ⟨sn x hx, by
    have := le_sum sn hx
    omega⟩
  refine ⟨fun r hr => ⟨by rw [k.cols r hr]; omega, fun x hx => ⟨(k.nn r hr x hx).1, ?_⟩⟩, s2⟩
  have a := le_sum (fun y hy => (k.nn r hr y hy).1) hx
  have b := (s2 _ (List.mem_map.mpr ⟨r, hr, rfl⟩)).2
  omega
theorem OkT.sw {sg : Bool} {h w : Nat} {R : List (List Int)} (k : OkT sg h w R) : Sw 3 87 (tbl R) := Sw.tuple (m := 4) (fun y hy => by
  obtain ⟨r, hr, rfl⟩ := List.mem_map.mp hy
  obtain ⟨q1, q2⟩ := k.small.1 r hr
  exact .iv q2 q1) (by
  have := k.rows
  have := k.hb
  rw [List.length_map]
  omega)
theorem ShowOk.of {k n : Nat} {d : PyData} (h : Sw k n d) (hd : (∃ xs, d = .list xs) ∨ ∃ xs, d = .tuple xs) (h1 : k ≤ 50) (h2 : n ≤ 10000) : ShowOk d := ⟨hd, h.sh, h.nd, Nat.le_trans h.dp h1, Nat.le_trans h.sz (Nat.le_trans h2 (by decide))⟩
theorem OkT.show {sg : Bool} {h w : Nat} {R : List (List Int)} (k : OkT sg h w R) : ShowOk (tbl R) := .of k.sw (.inr ⟨_, rfl⟩) (by decide) (by decide)
theorem show_two {a b : PyData} (ha : Sw 3 87 a) (hb : Sw 3 87 b) : ShowOk (.list [a, b]) := .of (Sw.list (k := 3) (n := 87) (m := 2) (fun x hx => by
  rcases List.mem_cons.mp hx with e | hx
  · rw [e]; exact ha
  · rw [List.mem_singleton.mp hx]; exact hb) (Nat.le_refl _)) (.inl ⟨_, rfl⟩) (by decide) (by decide)
def strsW : List Str := ["bad", "unlike", "names", "columns"]
theorem Sw.str : ∀ x ∈ strsW, Sw 3 87 (.str x) := fun x hx => by
  have z : ∀ x ∈ strsW, (PyData.str x).shown.length ≤ 87 := by decide +kernel
  exact ⟨by simp [PyData.showable], by simp [PyData.hasDict], by simp [PyData.depth], z x hx⟩
theorem Sw.non : Sw 3 87 .none := ⟨by simp [PyData.showable], by simp [PyData.hasDict], by simp [PyData.depth], by decide +kernel⟩
theorem OkT.sums {sg : Bool} {h w : Nat} {R : List (List Int)} (k : OkT sg h w R) : Sw 3 87 (JR.iv (R.map List.sum)) := (Sw.iv k.small.2 (by
  have := k.rows
  have := k.hb
  rw [List.length_map]
  omega)).mono (by decide) (by decide)
end JR
set_option pp.maxSteps 2500
set_option Elab.async false
set_option linter.all false
set_option maxRecDepth 100000
set_option maxHeartbeats 2000000
namespace JR
open PySem PySem.Spec L2 RZ
local macro_rules
  | `(tactic| walk_at "s") => `(tactic| first
    | ((with_reducible apply ev_var); exact rfl) | with_reducible refine ev_isiI ?_ | with_reducible refine ev_isiB ?_ | with_reducible refine ev_isiT ?_ | with_reducible refine ev_isiS ?_ | ((with_reducible refine st_append ?_ ?_); rotate_left; exact ⟨_, rfl⟩) | ((with_reducible apply st_pop); exact rfl) | ((with_reducible apply et_ownNe); exact rfl) | ((with_reducible apply op_i); exact rfl) | ((with_reducible apply it_rgV); exact rfl) | ((with_reducible apply op_inW); exact rfl) | ((with_reducible apply op_ixT); exact rfl) | ((with_reducible apply op_ixL); exact rfl) | ((with_reducible refine And.intro (le_lit ?_) ?_); exact rfl) | ((with_reducible apply op_b); exact rfl) | ((with_reducible apply tc_name); decide) | ((with_reducible apply tc_tup); exact rfl) | ((with_reducible apply tg_tup); exact rfl) | ((with_reducible apply tg_tupD); exact rfl) | ((with_reducible apply tc_tupD); exact rfl)
    | with_reducible refine st_seq ?_ | with_reducible refine st_ret ?_ | with_reducible refine st_next ?_ | with_reducible refine st_if ?_ | with_reducible refine st_par_own2 ?_ | with_reducible refine st_par_own ?_ | with_reducible refine st_rng ?_ | with_reducible refine st_par ?_ | with_reducible refine st_own ?_ | with_reducible refine st_asg ?_ | with_reducible refine st_unpack ?_ | with_reducible refine st_drop ?_ | with_reducible refine st_break ?_ | with_reducible refine ev_int ?_ | with_reducible refine ev_str ?_ | with_reducible refine ev_bl ?_ | with_reducible refine ev_non ?_ | with_reducible refine ev_op ?_ | with_reducible refine ev_un ?_ | with_reducible refine ev_if ?_ | with_reducible refine ev_andV ?_ | with_reducible refine ev_orV ?_ | with_reducible refine ev_notV ?_ | with_reducible refine ev_tup ?_ | with_reducible refine ev_lst ?_ | with_reducible refine ea_nil ?_ | with_reducible refine ea_cons ?_ | with_reducible refine ev_call ?_ | with_reducible refine ev_callN ?_ | with_reducible refine ev_cb ?_ | with_reducible refine ev_sl ?_ | with_reducible refine eo_none ?_ | with_reducible refine eo_some ?_ | with_reducible refine ev_revL ?_ | with_reducible refine ev_revT ?_ | with_reducible refine evn_lrg ?_ | with_reducible refine ev_bmT ?_ | with_reducible refine et_test ?_ | with_reducible refine et_B ?_ | with_reducible refine et_and ?_ | with_reducible refine et_or ?_ | with_reducible refine et_not ?_ | with_reducible refine et_yes ?_ | with_reducible refine ev_chain ?_ | with_reducible refine op_eqI ?_ | with_reducible refine op_neI ?_ | with_reducible refine op_eqS ?_ | with_reducible refine op_neS ?_ | with_reducible refine op_eqB ?_ | with_reducible refine op_neB ?_ | with_reducible refine op_inIn ?_ | with_reducible refine ud_neg ?_ | with_reducible refine op_is ?_ | with_reducible refine op_isnt ?_ | with_reducible refine cb_lenL ?_ | with_reducible refine cb_lenT ?_ | with_reducible refine cb_listT ?_ | with_reducible refine cb_listL ?_ | with_reducible refine cb_tupL ?_ | with_reducible refine cb_int ?_ | with_reducible refine cb_max2 ?_ | with_reducible refine cb_min2 ?_ | with_reducible refine it_list ?_ | with_reducible refine it_tup ?_ | with_reducible refine itn_1 ?_ | with_reducible refine it_rng2 ?_ | with_reducible refine it_rev ?_ | with_reducible refine itn_rev ?_ | with_reducible refine it_enum ?_ | with_reducible refine it_enumT ?_ | with_reducible refine it_zipT ?_ | with_reducible refine tcs_cons ?_ | with_reducible refine tcs_nil ?_ | with_reducible refine tg_name ?_ | with_reducible refine tgs_cons ?_ | with_reducible refine tgs_nil ?_
    | with_reducible refine ⟨_, rfl, ?_⟩
    | with_reducible refine ⟨_, _, rfl, ?_⟩
    | refine and_T ?_ | refine and_F ?_)
  | `(tactic| walk_at "d") => `(tactic| repeat walk_at "s")
abbrev ITs : Type := List (List Int) × Bool
def A_right : AS := fnSm (fun p : ITs => [tbl p.1, .bool p.2]) (fun p m => (∃ h w, OkT p.2 h w p.1) ∧ m ≤ 600000) fun _ m m' d => m' ≤ m + 1000 ∧ d = .bool true
theorem use_right {R : List (List Int)} {sg : Bool} {h w m : Nat} {W : Nat → PyData → Prop} (k : OkT sg h w R) (hm : m ≤ 600000) (q : ∀ m', m' ≤ m + 1000 → W m' (.bool true)) : A_right m [tbl R, .bool sg] W := ⟨(R, sg), rfl, ⟨⟨h, w, k⟩, hm⟩, fun m' d ⟨e1, e2⟩ => by
  rw [e2]
  exact q m' e1⟩
theorem Side.tb {sg : Bool} {h w : Nat} {R : List (List Int)} (k : OkT sg h w R) : Side sg (some R) := .inr (.inr ⟨R, h, w, rfl, k⟩)
theorem OkT.ne {sg : Bool} {h w : Nat} {R : List (List Int)} (k : OkT sg h w R) : some R ≠ some ([] : List (List Int)) := fun e => by
  have := k.rows
  have := k.hb
  rw [Option.some.inj e] at *
  simp at *
  omega
theorem OkT.one {sg : Bool} {h w h' w' : Nat} {R : List (List Int)} (k : OkT sg h w R) (k' : OkT sg h' w' R) : h' = h ∧ w' = w := ⟨k'.rows.symm.trans k.rows, k'.toRect.width.symm.trans k.toRect.width⟩
/-- sides that are roots, with one corner -/
theorem ask_found {sg : Bool} {h w : Nat} {A B : List (List Int)} {W : PyData → Prop} (kA : OkT sg h w A) (kB : OkT sg h w B) (rA : Rt sg false h w A) (rB : Rt sg true h w B)
    (q : ∀ (lA lB : List Nat) (cA cB : List (List Int)), UpTo sg true h w A lA cA → UpTo sg false h w B lB cB → cA = cB ∧ ∀ T, OkT sg h w T → JRM.run (foS sg false) lB.reverse A = some T → W (tbl T)) : A_ask [tbl A, tbl B, .bool sg] W := by
  refine use_ask (oA := some A) (oB := some B) (.tb kA) (.tb kB) ⟨fun z => ?_, fun A' B' hA wA hB wB e1 e2 k1 k2 => ?_⟩
  · rcases z with z | z | z | z
    · cases z
    · exact absurd z kA.ne
    · cases z
    · exact absurd z kB.ne
  · cases e1
    cases e2
    obtain ⟨x1, x2⟩ := kA.one k1
    obtain ⟨x3, x4⟩ := kB.one k2
    subst x1 x2 x3 x4
    refine ⟨fun z => absurd rA z, fun _ z => absurd rB z, fun _ _ lA lB cA cB uA uB => ?_⟩
    obtain ⟨p1, p2⟩ := q lA lB cA cB uA uB
    exact ⟨fun z => absurd p1 z, fun _ => p2⟩
theorem use_fault0 {R : List (List Int)} {sg : Bool} {h w : Nat} {W : PyData → Prop} (k : OkT sg h w R) (q : W .none) : A_fault [tbl R, .bool sg] W := use_fault (o := some R) (.tb k) (by
  obtain ⟨r0, R0, eR, _⟩ := k.toRect.head
  rw [eR]
  exact q)
theorem sc_law_right : FnScope ["_law_state", "_law_table_here", "_law_signed", "_law_low", "_law_one", "_law_other", "_law_found", "_law_roots", "_law_near", "_law_far"] ["_law_state", "_law_table_here", "_law_signed"] (defScope s_law_right) := ⟨rfl, rfl, rfl, by decide +kernel, rfl, by decide +kernel, by decide +kernel⟩
theorem ok_law_right {P : Program} {w : World} {K : PySem.W.Frag} {mg : Str → Option Value} {base : Heap}  (T : Tx K mg) (c_law_like : CalG P w K mg base 1 "_law_like" (spG A_like)) (c_law_asked : Cal P w K mg base 16 "_law_asked" (spG A_ask)) (c_law_end : Cal P w K mg base 5 "_law_end" (spS A_end)) (c_law_forth : Cal P w K mg base 4 "_law_forth" (spS A_forth)) (c_law_draw : Cal P w K mg base 2 "_law_draw" (spS A_draw)) (c_law_fault : Cal P w K mg base 1 "_law_fault" (spG A_fault)) (c_names_root : CalK P w K mg base 15 "names_root" 1 ["sign"] (spG (A_up false))) (c_columns_root : CalK P w K mg base 15 "columns_root" 1 ["sign"] (spG (A_up true)))  : CalG P w K mg base 17 "_law_right" (spS A_right) := by
  obtain ⟨fd, F⟩ := T.sd.def_ 61 (d := d_law_right) rfl
  have S := sc_law_right
  refine ⟨⟨fd, ["_law_state", "_law_table_here", "_law_signed"], okG_st (k := 16) F S (fnS_len fun _ => rfl) (fun cd Ar outer s H E S0 m xs W hg hr h => ?_), F.bindsN fun _ _ _ _ _ _ us hl => match us, hl with | [_, _, _], _ => rfl⟩, T.g 61, F.kp⟩
  obtain ⟨⟨R, sg⟩, e, pr, h⟩ := h
  subst e
  refine ⟨_, (pss_cons (ps_par (i := 8) (j := 9) (by rfl) S.nd rfl rfl (by decide) rfl rfl (pa_cons (pe_cl c_law_end hr (by omega) (by rfl) (pa_cons (pv 0) (pa_cons (pv 1) (pa_cons pe_bl (pa_cons pe_bl (pa_cons (pv 2) pa_nil)))))) (pa_cons (pe_cl c_law_end hr (by omega) (by rfl) (pa_cons (pv 0) (pa_cons (pv 1) (pa_cons pe_bl (pa_cons pe_bl (pa_cons (pv 2) pa_nil)))))) pa_nil)) (by rfl)) (pss_cons (ps_if (pt_not (pt_val (pe_clG c_law_like hg hr (by omega) (by rfl) (pa_cons (pe_cl c_law_asked hr (by omega) (by rfl) (pa_cons (pv 8) (pa_cons (pv 9) (pa_cons (pv 2) pa_nil)))) (pa_cons (pv 1) pa_nil))))) (pss_one (ps_ret pe_bl)) pss_nil) (pss_cons (ps_set (i := 3) S.nd rfl (by first | exact Or.inl rfl | exact Or.inr rfl) (pe_cl c_law_end hr (by omega) (by rfl) (pa_cons (pv 0) (pa_cons (pv 1) (pa_cons pe_bl (pa_cons pe_bl (pa_cons (pv 2) pa_nil))))))) (pss_cons (ps_set (i := 4) S.nd rfl (by first | exact Or.inl rfl | exact Or.inr rfl) (pe_cl c_law_forth hr (by omega) (by rfl) (pa_cons (pv 0) (pa_cons (pv 3) (pa_cons pe_bl (pa_cons (pv 2) (pa_cons (pe_cl c_law_draw hr (by omega) (by rfl) (pa_cons (pv 0) (pa_cons pe_int pa_nil))) pa_nil))))))) (pss_cons (ps_set (i := 5) S.nd rfl (by first | exact Or.inl rfl | exact Or.inr rfl) (pe_cl c_law_forth hr (by omega) (by rfl) (pa_cons (pv 0) (pa_cons (pv 3) (pa_cons pe_bl (pa_cons (pv 2) (pa_cons (pe_cl c_law_draw hr (by omega) (by rfl) (pa_cons (pv 0) (pa_cons pe_int pa_nil))) pa_nil))))))) (pss_cons (ps_set (i := 6) S.nd rfl (by first | exact Or.inl rfl | exact Or.inr rfl) (pe_cl c_law_asked hr (by omega) (by rfl) (pa_cons (pv 4) (pa_cons (pv 5) (pa_cons (pv 2) pa_nil))))) (pss_cons (ps_if (pt_cmpR op_notN (pe_cl c_law_fault hr (by omega) (by rfl) (pa_cons (pv 6) (pa_cons (pv 2) pa_nil))) pe_non (nomark _)) (pss_one (ps_ret pe_bl)) pss_nil) (pss_cons (ps_if (PW.pt (pw_or (pt_cmpR (op_neD hr.units) (pe_cl c_law_end hr (by omega) (by rfl) (pa_cons (pv 0) (pa_cons (pv 6) (pa_cons pe_bl (pa_cons pe_bl (pa_cons (pv 2) pa_nil)))))) (pv 4) (nomark _)) (pw_or1 (pt_cmpR (op_neD hr.units) (pe_cl c_law_end hr (by omega) (by rfl) (pa_cons (pv 0) (pa_cons (pv 6) (pa_cons pe_bl (pa_cons pe_bl (pa_cons (pv 2) pa_nil)))))) (pv 5) (nomark _))))) (pss_one (ps_ret pe_bl)) pss_nil) (pss_cons (ps_set (i := 7) S.nd rfl (by first | exact Or.inl rfl | exact Or.inr rfl) (pe_lst (pa_cons (pe_clK c_names_root hr (by omega) (by rfl) (pa_cons (pv 6) pa_nil) (pk_cons (pv 2) pk_nil)) (pa_cons (pe_clK c_columns_root hr (by omega) (by rfl) (pa_cons (pv 6) pa_nil) (pk_cons (pv 2) pk_nil)) pa_nil)))) (pss_one (ps_ret (pe_and (pe_clG c_law_like hg hr (by omega) (by rfl) (pa_cons (pv 7) (pa_cons (pe_lst (pa_cons (pv 4) (pa_cons (pv 5) pa_nil))) pa_nil))) (pe_one (pe_clG c_law_like hg hr (by omega) (by rfl) (pa_cons (pe_cl c_law_asked hr (by omega) (by rfl) (pa_cons (pv 4) (pa_cons (pv 5) (pa_cons (pv 2) pa_nil)))) (pa_cons (pv 6) pa_nil)))))))))))))))), ?_⟩
  show StD S0 _ _ [Ent.st m, Ent.dat _, Ent.dat _, Ent.no, Ent.no, Ent.no, Ent.no, Ent.no, Ent.no, Ent.no]
  try dsimp only at h pr ⊢
  obtain ⟨⟨hh, ww, k⟩, hm⟩ := pr
  walk_at "d"
  refine ev_callS (i := 0) (m := m) rfl ?_
  walk_at "d"
  refine ⟨one_of rfl, use_end k (by omega) fun m1 A hm1 kA w1 x1 _ => ?_⟩
  have rA := x1 rfl
  refine ev_callS (i := 0) (m := m1) rfl ?_
  walk_at "d"
  refine ⟨one_of rfl, use_end k (by omega) fun m2 B hm2 kB w2 _ x2 => ?_⟩
  have rB := x2 rfl
  walk_at "d"
  have reA := w1.re rA
  have rdB := w2.rd rB
  refine ask_found kA kB rA rB fun lA lB cA cB uA uB => ?_
  obtain ⟨ec, back⟩ := roots_back k reA rdB uA uB
  refine ⟨ec, fun T kT hT => ?_⟩
  have eT := back T hT
  subst eT
  walk_at "d"
  refine use_like kT.show rfl ?_
  walk_at "d"
  refine ev_callS (i := 0) (m := m2) rfl ?_
  walk_at "d"
  refine ⟨one_of rfl, use_end k (by omega) fun m3 c hm3 kc w3 x3 x4 => ?_⟩
  have n1 := x3 rfl
  have n2 := x4 rfl
  walk_at "d"
  refine ev_callS (i := 0) (m := m3) rfl ?_
  walk_at "d"
  refine ev_callS (i := 0) (m := m3) rfl ?_
  walk_at "d"
  refine ⟨one_of rfl, use_draw (by decide) (by decide) (by omega) fun t1 ht1 => ?_⟩
  have ht1 : t1 < 7 := ht1
  walk_at "d"
  refine ⟨one_of rfl, use_forth kc (show t1 ≤ 10 by omega) (by omega) fun m4 A1 hm4 kA1 f1 => ?_⟩
  obtain ⟨_, rA1, rdA1⟩ := forth_cols kc n1 n2 f1
  walk_at "d"
  refine ev_callS (i := 0) (m := m4) rfl ?_
  walk_at "d"
  refine ev_callS (i := 0) (m := m4) rfl ?_
  walk_at "d"
  refine ⟨one_of rfl, use_draw (by decide) (by decide) (by omega) fun t2 ht2 => ?_⟩
  have ht2 : t2 < 7 := ht2
  walk_at "d"
  refine ⟨one_of rfl, use_forth kc (show t2 ≤ 10 by omega) (by omega) fun m5 B1 hm5 kB1 f2 => ?_⟩
  obtain ⟨_, rB1, reB1⟩ := forth_names kc n1 n2 f2
  walk_at "d"
  have corner : ∀ (lA lB : List Nat) (cA cB : List (List Int)), UpTo sg true hh ww A1 lA cA → UpTo sg false hh ww B1 lB cB → cA = cB := fun lA lB cA cB uA uB =>
    (rd_same kA1 uA.rd rdA1).trans (re_same kB1 uB.re reB1).symm
  dsimp only [List.set]
  refine ask_found kA1 kB1 rA1 rB1 fun lA lB cA cB uA uB => ⟨corner _ _ _ _ uA uB, fun T1 kT1 hT1 => ?_⟩
  have ec := corner _ _ _ _ uA uB
  subst ec
  obtain ⟨_, reT1, rdT1⟩ := join_roots uA uB rA1 rB1 hT1
  walk_at "d"
  refine use_fault0 kT1 ?_
  walk_at "d"
  refine ev_callS (i := 0) (m := m5) rfl ?_
  walk_at "d"
  refine ⟨one_of rfl, use_end kT1 (by omega) fun m6 A2 hm6 kA2 w6 x6 _ => ?_⟩
  have e6 := re_same kT1 (w6.re (x6 rfl)) reT1
  subst e6
  walk_at "d"
  refine op_neT ?_
  rw [decide_eq_true rfl]
  dsimp only [List.set]
  walk_at "d"
  refine ev_callS (i := 0) (m := m6) rfl ?_
  walk_at "d"
  refine ⟨one_of rfl, use_end kT1 (by omega) fun m7 B2 hm7 kB2 w7 _ x7 => ?_⟩
  have e7 := rd_same kT1 (w7.rd (x7 rfl)) rdT1
  subst e7
  walk_at "d"
  refine op_neT ?_
  rw [decide_eq_true rfl]
  walk_at "d"
  refine ⟨rfl, rfl, use_up kT1 fun lN TN uN => ?_⟩
  have eN := re_same kT1 uN.re reT1
  subst eN
  walk_at "d"
  refine ⟨rfl, rfl, use_up kT1 fun lC TC uC => ?_⟩
  have eC := rd_same kT1 uC.rd rdT1
  subst eC
  walk_at "d"
  refine use_like (show_two kA2.sw kB2.sw) rfl ?_
  walk_at "d"
  refine ask_found kA1 kB1 rA1 rB1 fun lA' lB' cA' cB' uA' uB' => ⟨corner _ _ _ _ uA' uB', fun T2 kT2 hT2 => ?_⟩
  have e2 := (roots_back kT1 reT1 rdT1 uA' uB').2 T2 hT2
  subst e2
  walk_at "d"
  refine use_like kT2.show rfl ?_
  exact ⟨m7, rfl, h _ _ ⟨by omega, rfl⟩⟩
end JR
set_option pp.maxSteps 2500
set_option Elab.async false
set_option linter.all false
set_option maxRecDepth 100000
set_option maxHeartbeats 2000000
namespace JR
open PySem PySem.Spec L2 RZ
local macro_rules
  | `(tactic| walk_at "s") => `(tactic| first
    | ((with_reducible apply ev_var); exact rfl) | with_reducible refine ev_isiI ?_ | with_reducible refine ev_isiB ?_ | with_reducible refine ev_isiT ?_ | with_reducible refine ev_isiS ?_ | ((with_reducible refine st_append ?_ ?_); rotate_left; exact ⟨_, rfl⟩) | ((with_reducible apply st_pop); exact rfl) | ((with_reducible apply et_ownNe); exact rfl) | ((with_reducible apply op_i); exact rfl) | ((with_reducible apply it_rgV); exact rfl) | ((with_reducible apply op_inW); exact rfl) | ((with_reducible apply op_ixT); exact rfl) | ((with_reducible apply op_ixL); exact rfl) | ((with_reducible refine And.intro (le_lit ?_) ?_); exact rfl) | ((with_reducible apply op_b); exact rfl) | ((with_reducible apply tc_name); decide) | ((with_reducible apply tc_tup); exact rfl) | ((with_reducible apply tg_tup); exact rfl) | ((with_reducible apply tg_tupD); exact rfl) | ((with_reducible apply tc_tupD); exact rfl)
    | with_reducible refine st_seq ?_ | with_reducible refine st_ret ?_ | with_reducible refine st_next ?_ | with_reducible refine st_if ?_ | with_reducible refine st_par_own2 ?_ | with_reducible refine st_par_own ?_ | with_reducible refine st_rng ?_ | with_reducible refine st_par ?_ | with_reducible refine st_own ?_ | with_reducible refine st_asg ?_ | with_reducible refine st_unpack ?_ | with_reducible refine st_drop ?_ | with_reducible refine st_break ?_ | with_reducible refine ev_int ?_ | with_reducible refine ev_str ?_ | with_reducible refine ev_bl ?_ | with_reducible refine ev_non ?_ | with_reducible refine ev_op ?_ | with_reducible refine ev_un ?_ | with_reducible refine ev_if ?_ | with_reducible refine ev_andV ?_ | with_reducible refine ev_orV ?_ | with_reducible refine ev_notV ?_ | with_reducible refine ev_tup ?_ | with_reducible refine ev_lst ?_ | with_reducible refine ea_nil ?_ | with_reducible refine ea_cons ?_ | with_reducible refine ev_call ?_ | with_reducible refine ev_callN ?_ | with_reducible refine ev_cb ?_ | with_reducible refine ev_sl ?_ | with_reducible refine eo_none ?_ | with_reducible refine eo_some ?_ | with_reducible refine ev_revL ?_ | with_reducible refine ev_revT ?_ | with_reducible refine evn_lrg ?_ | with_reducible refine ev_bmT ?_ | with_reducible refine et_test ?_ | with_reducible refine et_B ?_ | with_reducible refine et_and ?_ | with_reducible refine et_or ?_ | with_reducible refine et_not ?_ | with_reducible refine et_yes ?_ | with_reducible refine ev_chain ?_ | with_reducible refine op_eqI ?_ | with_reducible refine op_neI ?_ | with_reducible refine op_eqS ?_ | with_reducible refine op_neS ?_ | with_reducible refine op_eqB ?_ | with_reducible refine op_neB ?_ | with_reducible refine op_inIn ?_ | with_reducible refine ud_neg ?_ | with_reducible refine op_is ?_ | with_reducible refine op_isnt ?_ | with_reducible refine cb_lenL ?_ | with_reducible refine cb_lenT ?_ | with_reducible refine cb_listT ?_ | with_reducible refine cb_listL ?_ | with_reducible refine cb_tupL ?_ | with_reducible refine cb_int ?_ | with_reducible refine cb_max2 ?_ | with_reducible refine cb_min2 ?_ | with_reducible refine it_list ?_ | with_reducible refine it_tup ?_ | with_reducible refine itn_1 ?_ | with_reducible refine it_rng2 ?_ | with_reducible refine it_rev ?_ | with_reducible refine itn_rev ?_ | with_reducible refine it_enum ?_ | with_reducible refine it_enumT ?_ | with_reducible refine it_zipT ?_ | with_reducible refine tcs_cons ?_ | with_reducible refine tcs_nil ?_ | with_reducible refine tg_name ?_ | with_reducible refine tgs_cons ?_ | with_reducible refine tgs_nil ?_
    | with_reducible refine ⟨_, rfl, ?_⟩
    | with_reducible refine ⟨_, _, rfl, ?_⟩
    | refine and_T ?_ | refine and_F ?_)
  | `(tactic| walk_at "d") => `(tactic| repeat walk_at "s")
theorem due_kind {sg : Bool} {oA oB : Option (List (List Int))} {d : PyData} (hA : Side sg oA) (hB : Side sg oB) (q : dueR sg oA oB d) : d = .none ∨ (ShowOk d ∧ ∃ x y, d = .list [x, y]) := by
  have two : ∀ {x : Str} {y : PyData}, x ∈ strsW → Sw 3 87 y → ShowOk (.list [.str x, y]) ∧ ∃ a b, PyData.list [.str x, y] = .list [a, b] := fun hx hy => ⟨show_two (.str _ hx) hy, _, _, rfl⟩
  have bad : ∀ {y : PyData}, Sw 3 87 y → ShowOk (badD y) ∧ ∃ a b, badD y = .list [a, b] := fun hy => two (by decide) hy
  rcases hA with e | e | ⟨A, h, w, e, kA⟩
  · rw [q.no (.inl e)]; exact .inr (bad .non)
  · rw [q.no (.inr (.inl e))]; exact .inr (bad .non)
  rcases hB with e2 | e2 | ⟨B, h2, w2, e2, kB⟩
  · rw [q.no (.inr (.inr (.inl e2)))]; exact .inr (bad .non)
  · rw [q.no (.inr (.inr (.inr e2)))]; exact .inr (bad .non)
  obtain ⟨q1, q2, q3⟩ := q.tb A B h w h2 w2 e e2 kA kB
  by_cases r1 : Rt sg false h w A
  · by_cases r2 : Rt sg true h2 w2 B
    · obtain ⟨nA, nB, n1, n2, ed⟩ := q3 r1 r2
      by_cases z : nA = nB
      · rw [if_pos z] at ed; exact .inl ed
      · rw [if_neg z] at ed
        rw [ed]
        have kn : OkT sg h w nA := (BiT sg h w).mix_ok n1.way.mix kA
        exact .inr (two (by decide) kn.sums)
    · rw [q2 r1 r2]; exact .inr (bad (.str _ (by decide)))
  · rw [q1 r1]; exact .inr (bad (.str _ (by decide)))
/-- what is told is what is due -/
theorem ask_due {sg : Bool} {oA oB : Option (List (List Int))} {d : PyData} {W : PyData → Prop} (hA : Side sg oA) (hB : Side sg oB) (q : dueR sg oA oB d) (q1 : d ≠ .none → W d)
    (q2 : d = .none → ∀ (h w : Nat) (A B T : List (List Int)), oA = some A → oB = some B → OkT sg h w T → (BiT sg h w).RE T A → (BiT sg h w).RD T B → W (tbl T)) : A_ask [optT oA, optT oB, .bool sg] W := by
  have n0 : ∀ {x y : PyData}, d = .list [x, y] → W (.list [x, y]) := fun {x y} e => by
    have z := q1 (by rw [e]; exact fun z => by cases z)
    rw [e] at z
    exact z
  refine use_ask hA hB ⟨fun z => .inl ⟨rfl, .none, rfl, n0 (q.no z)⟩, fun A B h w h2 w2 e e2 kA kB => ?_⟩
  obtain ⟨p1, p2, p3⟩ := q.tb A B h w h2 w2 e e2 kA kB
  refine ⟨fun z => .inl ⟨rfl, _, rfl, n0 (p1 z)⟩, fun z z2 => .inl ⟨rfl, _, rfl, n0 (p2 z z2)⟩, fun r1 r2 lA lB cA cB uA uB => ?_⟩
  obtain ⟨nA, nB, n1, n2, ed⟩ := p3 r1 r2
  have eA : cA = nA := near_names uA r1 n1.way n1.n1 n1.n2
  have eB : cB = nB := near_cols uB r2 n2.way n2.n1 n2.n2
  subst eA eB
  refine ⟨fun z => ?_, fun z T kT hT => ?_⟩
  · rw [if_neg z] at ed
    exact .inr ⟨rfl, _, rfl, n0 ed⟩
  · rw [if_pos z] at ed
    subst z
    obtain ⟨x1, x2⟩ := uA.ok.one uB.ok
    subst x1 x2
    obtain ⟨k1, k2, k3⟩ := join_roots uA uB r1 r2 hT
    exact q2 ed _ _ A B T e e2 k1 k2 k3
abbrev IOd : Type := List (List Int) × List (List Int) × Bool
def A_odd : AS := fnSm (fun p : IOd => [tbl p.1, tbl p.2.1, .bool p.2.2]) (fun p m => ((∃ h w, OkT p.2.2 h w p.1) ∧ ∃ h w, OkT p.2.2 h w p.2.1) ∧ m ≤ 600000) fun _ m m' d => m' ≤ m + 3000 ∧ d = .bool true
theorem use_odd {R S : List (List Int)} {sg : Bool} {h w h' w' m : Nat} {W : Nat → PyData → Prop} (k : OkT sg h w R) (k' : OkT sg h' w' S) (hm : m ≤ 600000) (q : ∀ m', m' ≤ m + 3000 → W m' (.bool true)) : A_odd m [tbl R, tbl S, .bool sg] W := ⟨(R, S, sg), rfl, ⟨⟨⟨h, w, k⟩, h', w', k'⟩, hm⟩, fun m' d ⟨e1, e2⟩ => by
  rw [e2]
  exact q m' e1⟩
theorem one_odd {m : Nat} {a b c d e f g : PyData} {e6 e9 e10 e11 e12 : Ent} (h6 : isSt e6 = false) (h9 : isSt e9 = false) (h10 : isSt e10 = false) (h11 : isSt e11 = false) (h12 : isSt e12 = false) : oneSt [.st m, .dat a, .dat b, .dat c, .dat d, .dat e, e6, .dat f, .dat g, e9, e10, e11, e12] 0 := one_of (by
  simp [oneB, h6, h9, h10, h11, h12]
  exact ⟨rfl, rfl, rfl, rfl, rfl, rfl, rfl⟩)
abbrev sideP (p : Option (List (List Int)) × Option (List (List Int))) : PyData := .tuple [optT p.1, optT p.2]
theorem sc_law_odd : FnScope ["_law_state", "_law_table_here", "_law_twin", "_law_signed", "_law_side", "_law_some", "_law_turn", "_law_near", "_law_far", "_law_due_here", "_law_told", "_law_one", "_law_other"] ["_law_state", "_law_table_here", "_law_twin", "_law_signed"] (defScope s_law_odd) := ⟨rfl, rfl, rfl, by decide +kernel, rfl, by decide +kernel, by decide +kernel⟩
theorem ok_law_odd {P : Program} {w : World} {K : PySem.W.Frag} {mg : Str → Option Value} {base : Heap}  (T : Tx K mg) (c_law_like : CalG P w K mg base 1 "_law_like" (spG A_like)) (c_law_asked : Cal P w K mg base 16 "_law_asked" (spG A_ask)) (c_law_end : Cal P w K mg base 5 "_law_end" (spS A_end)) (c_law_of : Cal P w K mg base 3 "_law_of" (spS A_of)) (c_law_due : Cal P w K mg base 6 "_law_due" (spS A_due)) (c_law_fault : Cal P w K mg base 1 "_law_fault" (spG A_fault))  : CalG P w K mg base 17 "_law_odd" (spS A_odd) := by
  obtain ⟨fd, F⟩ := T.sd.def_ 62 (d := d_law_odd) rfl
  have S := sc_law_odd
  refine ⟨⟨fd, ["_law_state", "_law_table_here", "_law_twin", "_law_signed"], okG_st (k := 16) F S (fnS_len fun _ => rfl) (fun cd Ar outer s H E S0 m xs W hg hr h => ?_), F.bindsN fun _ _ _ _ _ _ us hl => match us, hl with | [_, _, _, _], _ => rfl⟩, T.g 62, F.kp⟩
  obtain ⟨⟨R, Q, sg⟩, e, pr, h⟩ := h
  subst e
  refine ⟨_, (pss_cons (ps_par (i := 7) (j := 8) (by rfl) S.nd rfl rfl (by decide) rfl rfl (pa_cons (pe_cl c_law_end hr (by omega) (by rfl) (pa_cons (pv 0) (pa_cons (pv 1) (pa_cons pe_bl (pa_cons pe_bl (pa_cons (pv 3) pa_nil)))))) (pa_cons (pe_cl c_law_end hr (by omega) (by rfl) (pa_cons (pv 0) (pa_cons (pv 1) (pa_cons pe_bl (pa_cons pe_bl (pa_cons (pv 3) pa_nil)))))) pa_nil)) (by rfl)) (pss_cons (ps_set (i := 4) S.nd rfl (by first | exact Or.inl rfl | exact Or.inr rfl) (pe_cl c_law_end hr (by omega) (by rfl) (pa_cons (pv 0) (pa_cons (pv 2) (pa_cons pe_bl (pa_cons pe_bl (pa_cons (pv 3) pa_nil))))))) (pss_cons (ps_set (i := 5) S.nd rfl (by first | exact Or.inl rfl | exact Or.inr rfl) (pe_lst (pa_cons (pe_tupZ (pa_cons (pv 1) (pa_cons (pv 8) pa_nil))) (pa_cons (pe_tupZ (pa_cons (pv 7) (pa_cons (pv 1) pa_nil))) (pa_cons (pe_tupZ (pa_cons (pv 1) (pa_cons (pv 1) pa_nil))) (pa_cons (pe_tupZ (pa_cons (pv 8) (pa_cons (pv 7) pa_nil))) (pa_cons (pe_tupZ (pa_cons (pv 7) (pa_cons (pv 4) pa_nil))) (pa_cons (pe_tupZ (pa_cons (pv 4) (pa_cons (pv 7) pa_nil))) (pa_cons (pe_tupZ (pa_cons pe_non (pa_cons (pv 4) pa_nil))) (pa_cons (pe_tupZ (pa_cons (pv 7) (pa_cons (pe_tupZ pa_nil) pa_nil))) pa_nil)))))))))) (pss_cons (ps_for PassesOwn.never rfl (pi_range1 (by rfl) (T.n 70) (pa_cons pe_int pa_nil)) (pg_name (i := 6) S.nd rfl (by first | exact Or.inl rfl | exact Or.inr rfl)) (pss_cons (ps_asg (pe_cl c_law_of hr (by omega) (by rfl) (pa_cons (pv 0) (pa_cons (pv 5) pa_nil))) (pg_tup (by rfl) (pgs_cons (pg_name (i := 11) S.nd rfl (by first | exact Or.inl rfl | exact Or.inr rfl)) (pgs_cons (pg_name (i := 12) S.nd rfl (by first | exact Or.inl rfl | exact Or.inr rfl)) pgs_nil)))) (pss_cons (ps_set (i := 9) S.nd rfl (by first | exact Or.inl rfl | exact Or.inr rfl) (pe_cl c_law_due hr (by omega) (by rfl) (pa_cons (pv 0) (pa_cons (pv 11) (pa_cons (pv 12) (pa_cons (pv 3) pa_nil)))))) (pss_cons (ps_set (i := 10) S.nd rfl (by first | exact Or.inl rfl | exact Or.inr rfl) (pe_cl c_law_asked hr (by omega) (by rfl) (pa_cons (pv 11) (pa_cons (pv 12) (pa_cons (pv 3) pa_nil))))) (pss_cons (ps_if (PW.pt (pw_and (pt_cmpR op_notN (pv 9) pe_non (nomark _)) (pw_and1 (pt_not (pt_val (pe_clG c_law_like hg hr (by omega) (by rfl) (pa_cons (pv 10) (pa_cons (pv 9) pa_nil)))))))) (pss_one (ps_ret pe_bl)) pss_nil) (pss_cons (ps_if (PW.pt (pw_and (pt_cmpR op_isN (pv 9) pe_non (nomark _)) (pw_and1 (pt_cmpR op_notN (pe_cl c_law_fault hr (by omega) (by rfl) (pa_cons (pv 10) (pa_cons (pv 3) pa_nil))) pe_non (nomark _))))) (pss_one (ps_ret pe_bl)) pss_nil) (pss_one (ps_if (PW.pt (pw_and (pt_cmpR op_isN (pv 9) pe_non (nomark _)) (pw_and1 (pt_cmpR (op_neD hr.units) (pe_cl c_law_end hr (by omega) (by rfl) (pa_cons (pv 0) (pa_cons (pv 10) (pa_cons pe_bl (pa_cons pe_bl (pa_cons (pv 3) pa_nil)))))) (pv 11) (nomark _))))) (pss_one (ps_ret pe_bl)) pss_nil)))))))) (pss_one (ps_ret pe_bl)))))), ?_⟩
  show StD S0 _ _ [Ent.st m, Ent.dat _, Ent.dat _, Ent.dat _, Ent.no, Ent.no, Ent.no, Ent.no, Ent.no, Ent.no, Ent.no, Ent.no, Ent.no]
  try dsimp only at h pr ⊢
  obtain ⟨⟨⟨hh, ww, k⟩, hh2, ww2, k2⟩, hm⟩ := pr
  walk_at "d"
  refine ev_callS (i := 0) (m := m) rfl ?_
  walk_at "d"
  refine ⟨one_of rfl, use_end k (by omega) fun m1 A hm1 kA w1 x1 _ => ?_⟩
  have rA := x1 rfl
  refine ev_callS (i := 0) (m := m1) rfl ?_
  walk_at "d"
  refine ⟨one_of rfl, use_end k (by omega) fun m2 B hm2 kB w2 _ x2 => ?_⟩
  have rB := x2 rfl
  walk_at "d"
  refine ev_callS (i := 0) (m := m2) rfl ?_
  walk_at "d"
  refine ⟨one_of rfl, use_end k2 (by omega) fun m3 C hm3 kC w3 _ x3 => ?_⟩
  dsimp only [List.set]
  walk_at "d"
  obtain ⟨P0, eP⟩ : ∃ P0 : List (Option (List (List Int)) × Option (List (List Int))), P0 = [(some R, some B), (some A, some R), (some R, some R), (some B, some A), (some A, some C), (some C, some A), (none, some C), (some A, some [])] := ⟨_, rfl⟩
  have sP : ∀ p ∈ P0, Side sg p.1 ∧ Side sg p.2 := by
    have sR := Side.tb k
    have sA := Side.tb kA
    have sB := Side.tb kB
    have sC := Side.tb kC
    have s0 : Side sg none := .inl rfl
    have s1 : Side sg (some []) := .inr (.inl rfl)
    intro p hp
    rw [eP] at hp
    simp only [List.mem_cons, List.not_mem_nil, or_false] at hp
    rcases hp with rfl | rfl | rfl | rfl | rfl | rfl | rfl | rfl
    · exact ⟨sR, sB⟩
    · exact ⟨sA, sR⟩
    · exact ⟨sR, sR⟩
    · exact ⟨sB, sA⟩
    · exact ⟨sA, sC⟩
    · exact ⟨sC, sA⟩
    · exact ⟨s0, sC⟩
    · exact ⟨sA, s1⟩
  have lP : P0.length = 8 := by rw [eP]; rfl
  refine st_for (Pd := Da) ?_
  walk_at "d"
  refine ⟨fun i ds => ∃ (mi : Nat) (e6 e9 e10 e11 e12 : Ent), ds = [Ent.st mi, Ent.dat (tbl R), Ent.dat (tbl Q), Ent.dat (.bool sg), Ent.dat (tbl C), Ent.dat (.list (P0.map sideP)), e6, Ent.dat (tbl A), Ent.dat (tbl B), e9, e10, e11, e12] ∧ isSt e6 = false ∧ isSt e9 = false ∧ isSt e10 = false ∧ isSt e11 = false ∧ isSt e12 = false ∧ mi ≤ m3 + 400 * i, ⟨m3, _, _, _, _, _, by rw [eP]; rfl, rfl, rfl, rfl, rfl, rfl, by omega⟩, fun i d ds2 e1 iv2 => ?_, fun ds2 iv2 => ?_⟩
  · obtain ⟨mi, e6, e9, e10, e11, e12, rfl, i6, i9, i10, i11, i12, hmi⟩ := iv2
    obtain ⟨hi, z1⟩ := rmap_at e1
    subst z1
    have hi : i < 3 := hi
    walk_at "d"
    refine ev_callS (i := 0) (m := mi) rfl ?_
    walk_at "d"
    refine ⟨one_odd rfl i9 i10 i11 i12, use_of (by rw [List.length_map, lP]; decide) (by rw [List.length_map, lP]; decide) (by omega) fun d hd => ?_⟩
    obtain ⟨⟨oA, oB⟩, hp, rfl⟩ := List.mem_map.mp hd
    obtain ⟨sA, sB⟩ := sP _ hp
    dsimp only [List.set] at sA sB ⊢
    walk_at "d"
    refine ev_callS (i := 0) (m := mi + 1) rfl ?_
    walk_at "d"
    refine ⟨one_odd rfl i9 i10 rfl rfl, use_due sA sB (by omega) fun m4 d hm4 qd => ?_⟩
    dsimp only [List.set]
    walk_at "d"
    refine ask_due sA sB qd (fun nd => ?_) (fun ed h' w' A' B' T e1 e2 kT reT rdT => ?_)
    · rcases due_kind sA sB qd with z | ⟨so, x, y, e⟩
      · exact absurd z nd
      subst e
      dsimp only [List.set]
      walk_at "d"
      refine use_like so rfl ?_
      walk_at "d"
      exact ⟨m4, _, _, _, _, _, rfl, rfl, rfl, rfl, rfl, rfl, by omega⟩
    · subst ed
      subst e1 e2
      dsimp only [List.set]
      walk_at "d"
      refine use_fault0 kT ?_
      walk_at "d"
      refine ev_callS (i := 0) (m := m4) rfl ?_
      walk_at "d"
      refine ⟨one_odd rfl rfl rfl rfl rfl, use_end kT (by omega) fun m5 A2 hm5 kA2 w5 x5 _ => ?_⟩
      have e5 := re_same kT (w5.re (x5 rfl)) reT
      subst e5
      walk_at "d"
      refine op_neT ?_
      rw [decide_eq_true rfl]
      walk_at "d"
      exact ⟨m5, _, _, _, _, _, rfl, rfl, rfl, rfl, rfl, rfl, by omega⟩
  · obtain ⟨mi, e6, e9, e10, e11, e12, rfl, i6, i9, i10, i11, i12, hmi⟩ := iv2
    rw [List.length_map, List.length_range] at hmi
    have hmi : mi ≤ m3 + 400 * 3 := hmi
    walk_at "d"
    exact h _ _ ⟨by omega, rfl⟩
end JR
set_option Elab.async false
set_option linter.all false
set_option maxRecDepth 100000
set_option maxHeartbeats 4000000
/-! The law's call where no repr is under way. -/
namespace JR
open PySem PySem.Spec L2
theorem law_callG {P : Program} {w : World} {K : PySem.W.Frag} {mg mb : Str → Option Value} {k : Nat} {fa a : Addr} {fd : FuncData} {x : Str} {sp : Sp} {s₁ : Shared} {vs : List Value} {ns : List Int}
    (KX : K.In s₁.heap) (hns : s₁.heap.Ns mainGlobals mg) (hb : s₁.heap.Ns builtinsNs mb) (hbb : ∀ x : Str, x ≠ Str.ofString "__name__" → mb x = bootBuiltins x) (hlim : s₁.heap.NoLimit) (hg : s₁.gens = #[])
    (ha : s₁.heap.get? a = some { cls := Value.type "list", data := Data.seq vs.toArray }) (hi : PyProof.Rows.IntsAre vs ns) (hl : ns.length ≤ sizeLine) (hr : Room k callerA)
    (F : ∀ base : Heap, K.In base → base.Ns mainGlobals mg → FnOkG P w K mg base k fa fd [x] sp) (hbind : ∀ (s : Shared) (u : Value), BindsTo s fd { pos := [u] } [(x, u)])
    (hsp : ∀ H : Hp, Only H → SqL K H a (ns.map V.int) → sp [V.ref a] H (fun v _ => v = V.bl true) fun _ _ _ => False) :
    codeAny (model P w) callerA (Code.call (Value.ref fa) { pos := [Value.ref a] }) (fun r s' => r = Except.ok (Flow.ret (Value.bool true)) ∧ OldK s₁.heap s'.heap ∧ s'.os = s₁.os ∧ PyProof.Rows.AllBare s'.gens) s₁ := by
  have rv := vals_ints hi
  have lenV := PyProof.Rows.IntsAre.length hi
  have core : ∀ H : Hp, Only H → SqL K H a (ns.map V.int) → HOk P w H s₁.heap → (∀ b, H b ≠ none → b = a) → (H a ≠ none → K.lookup a = none) →
      codeAny (model P w) callerA (Code.call (Value.ref fa) { pos := [Value.ref a] }) (fun r s' => r = Except.ok (Flow.ret (Value.bool true)) ∧ OldK s₁.heap s'.heap ∧ s'.os = s₁.os ∧ PyProof.Rows.AllBare s'.gens) s₁ := by
    intro H hO hS hok hA hK
    have noA : ∀ {b : Addr} {o : Obj} {es ep}, s₁.heap.get? b = some o → o.data = Data.dict es ep → H b = none := by
      intro b o es ep e d
      cases q : H b with
      | none => rfl
      | some u =>
        have e' := hA b (by rw [q]; exact fun z => by cases z)
        subst e'
        rw [ha] at e
        cases e
        cases d
    have nsK : ∀ {b : Addr} {m : Str → Option Value}, s₁.heap.Ns b m → (hidT s₁.heap H).Ns b m := by
      intro b m ⟨o, es, ep, e, d, r⟩
      exact ⟨o, es, ep, hidT_get e (noA e d), d, r⟩
    have hKb : K.In (hidT s₁.heap H) := by
      intro b o e
      refine hidT_get (KX b o e) ?_
      cases q : H b with
      | none => rfl
      | some u =>
        have e' := hA b (by rw [q]; exact fun z => by cases z)
        subst e'
        rw [hK (by rw [q]; exact fun z => by cases z)] at e
        cases e
    have hM : L2.Mod K mg (hidT s₁.heap H) := by
      obtain ⟨mc, h1, h2⟩ := hlim
      exact ⟨hKb, nsK hns, ⟨mb, nsK hb, hbb⟩, mc, nsK h1, h2⟩
    have e0 : Env0 P w K mg (hidT s₁.heap H) callerA [] s₁ H := ⟨rfl, hM, fun b o e => of_hidT e, Nat.le_of_eq (hidT_size s₁.heap H), trivial, fun b hb => absurd hb List.not_mem_nil, hok, PyProof.Rows.AllBare.of_eq hg⟩
    refine codeAny_mono ((F (hidT s₁.heap H) hKb (nsK hns)).run callerA [] s₁ H ⟨[Value.ref a], []⟩ [Value.ref a] [V.ref a] (fun v _ => v = V.bl true) (fun _ _ _ => False) hr rfl e0 (hbind s₁ (Value.ref a)) (.cons rfl .nil) (hsp H hO hS)) fun r s' h => ?_
    match r, h with
    | .error e, h =>
      obtain ⟨_, _, _, _, _, _, _, _, _, _, _, _, z⟩ := h
      exact z.elim
    | .ok (.ret u), h =>
      obtain ⟨v, H', os, bare, un, hok', r', q⟩ := h
      have q : v = V.bl true := q
      subst q
      have r' : u = Value.bool true := r'
      subst r'
      refine ⟨rfl, OldK.of_keep fun b o e => ?_, os, bare⟩
      cases q : H b with
      | none => exact un.keep b o e q (fun z => absurd z List.not_mem_nil) List.not_mem_nil
      | some u =>
        rcases hO b with z | ⟨ob, xs, z⟩
        · rw [q] at z; cases z
        · have e2 := hA b (by rw [q]; exact fun z => by cases z)
          have f1 := un.frzs b ob _ z
          have h1 := hok b _ z
          have h2 := hok' b _ f1
          have e3 : s₁.heap.get? b = some ob := h1.1
          have e4 : s'.heap.get? b = some ob := h2.1
          rw [e4, ← e3]
          exact e
  cases hk : K.lookup a with
  | none =>
    refine core (fun b => if b = a then some (HO.frz { cls := Value.type "list", data := Data.seq vs.toArray } (HO.lst (ns.map V.int))) else none) (fun b => ?_) (.inl (.inr ⟨_, if_pos rfl⟩)) (fun b u z => ?_) (fun b z => ?_) fun _ => hk
    · by_cases hb : b = a
      · exact .inr ⟨_, _, if_pos hb⟩
      · exact .inl (if_neg hb)
    · by_cases hb : b = a
      · have z' := (if_pos hb).symm.trans z
        cases z'
        subst hb
        exact ⟨ha, by rw [List.length_map]; exact hl, vs, 0, rv, ha⟩
      · have z' := (if_neg hb).symm.trans z
        cases z'
    · by_cases hb : b = a
      · exact hb
      · exact absurd (if_neg hb) z
  | some o =>
    have e := KX a o hk
    rw [ha] at e
    cases e
    exact core (fun _ => none) (fun _ => .inl rfl) (.inr ⟨_, vs.toArray, 0, hk, rfl, rfl, rfl, by rw [List.size_toArray, lenV]; exact hl, rv⟩) (fun b u z => by cases z) (fun b z => absurd rfl z) fun z => absurd rfl z
theorem walk_G {l : PySem.W.OpenLaw} {n k : Nat} {q : Program} {loose : List Str} {XP : (Str → Option Value) → Heap → Prop} {YP : World → Heap → Prop} {d : DefRec} {x : Str} (hn : l.most = some n) (hn2 : n ≤ sizeLine) (hdf : d.params.defaults = []) (hr : Room k callerA)
    (F : ∀ (w : World) (mg : Str → Option Value) (fa : Addr) (h : Heap), YP w h → h.Ns mainGlobals mg → mg d.name = some (Value.ref fa) → ∃ (K : PySem.W.Frag) (fd : FuncData) (sp : Sp), K.In h ∧ (∀ (s : Shared) (u : Value), BindsTo s fd { pos := [u] } [(x, u)]) ∧
      (∀ (H : Hp) (a : Addr) (ns : List Int), ns.length ≤ n → Only H → SqL K H a (ns.map V.int) → sp [V.ref a] H (fun v _ => v = V.bl true) fun _ _ _ => False) ∧ ∀ base : Heap, K.In base → base.Ns mainGlobals mg → FnOkG l.prog w K mg base k fa fd [x] sp) :
    PySem.W.WalkO q loose XP YP l.row.toRowW d [] fun f vs => call f vs :=
  Att.attach_call hn hdf fun w s₀ s₁ mg mb fa o pm cd doc a vs ns G Y ho hd hcd hmg hobj hints hlen hg => by
    obtain ⟨K, fd, sp, KX, hb, hsp, hF⟩ := F w mg fa s₁.heap Y G.T.g hmg
    exact law_callG KX G.T.g G.T.b G.T.builtins G.T.nolimit hg hobj hints (Nat.le_trans hlen hn2) hr hF hb fun H hO hS => hsp H a ns hlen hO hS
end JR
set_option pp.maxSteps 2500
set_option Elab.async false
set_option linter.all false
set_option maxRecDepth 100000
set_option maxHeartbeats 2000000
namespace JR
open PySem PySem.Spec L2 RZ
local macro_rules
  | `(tactic| walk_at "s") => `(tactic| first
    | ((with_reducible apply ev_var); exact rfl) | with_reducible refine ev_isiI ?_ | with_reducible refine ev_isiB ?_ | with_reducible refine ev_isiT ?_ | with_reducible refine ev_isiS ?_ | ((with_reducible refine st_append ?_ ?_); rotate_left; exact ⟨_, rfl⟩) | ((with_reducible apply st_pop); exact rfl) | ((with_reducible apply et_ownNe); exact rfl) | ((with_reducible apply op_i); exact rfl) | ((with_reducible apply it_rgV); exact rfl) | ((with_reducible apply op_inW); exact rfl) | ((with_reducible apply op_ixT); exact rfl) | ((with_reducible apply op_ixL); exact rfl) | ((with_reducible refine And.intro (le_lit ?_) ?_); exact rfl) | ((with_reducible apply op_b); exact rfl) | ((with_reducible apply tc_name); decide) | ((with_reducible apply tc_tup); exact rfl) | ((with_reducible apply tg_tup); exact rfl) | ((with_reducible apply tg_tupD); exact rfl) | ((with_reducible apply tc_tupD); exact rfl)
    | with_reducible refine st_seq ?_ | with_reducible refine st_ret ?_ | with_reducible refine st_next ?_ | with_reducible refine st_if ?_ | with_reducible refine st_par_own2 ?_ | with_reducible refine st_par_own ?_ | with_reducible refine st_rng ?_ | with_reducible refine st_par ?_ | with_reducible refine st_own ?_ | with_reducible refine st_asg ?_ | with_reducible refine st_unpack ?_ | with_reducible refine st_drop ?_ | with_reducible refine st_break ?_ | with_reducible refine ev_int ?_ | with_reducible refine ev_str ?_ | with_reducible refine ev_bl ?_ | with_reducible refine ev_non ?_ | with_reducible refine ev_op ?_ | with_reducible refine ev_un ?_ | with_reducible refine ev_if ?_ | with_reducible refine ev_andV ?_ | with_reducible refine ev_orV ?_ | with_reducible refine ev_notV ?_ | with_reducible refine ev_tup ?_ | with_reducible refine ev_lst ?_ | with_reducible refine ea_nil ?_ | with_reducible refine ea_cons ?_ | with_reducible refine ev_call ?_ | with_reducible refine ev_callN ?_ | with_reducible refine ev_cb ?_ | with_reducible refine ev_sl ?_ | with_reducible refine eo_none ?_ | with_reducible refine eo_some ?_ | with_reducible refine ev_revL ?_ | with_reducible refine ev_revT ?_ | with_reducible refine evn_lrg ?_ | with_reducible refine ev_bmT ?_ | with_reducible refine et_test ?_ | with_reducible refine et_B ?_ | with_reducible refine et_and ?_ | with_reducible refine et_or ?_ | with_reducible refine et_not ?_ | with_reducible refine et_yes ?_ | with_reducible refine ev_chain ?_ | with_reducible refine op_eqI ?_ | with_reducible refine op_neI ?_ | with_reducible refine op_eqS ?_ | with_reducible refine op_neS ?_ | with_reducible refine op_eqB ?_ | with_reducible refine op_neB ?_ | with_reducible refine op_inIn ?_ | with_reducible refine ud_neg ?_ | with_reducible refine op_is ?_ | with_reducible refine op_isnt ?_ | with_reducible refine cb_lenL ?_ | with_reducible refine cb_lenT ?_ | with_reducible refine cb_listT ?_ | with_reducible refine cb_listL ?_ | with_reducible refine cb_tupL ?_ | with_reducible refine cb_int ?_ | with_reducible refine cb_max2 ?_ | with_reducible refine cb_min2 ?_ | with_reducible refine it_list ?_ | with_reducible refine it_tup ?_ | with_reducible refine itn_1 ?_ | with_reducible refine it_rng2 ?_ | with_reducible refine it_rev ?_ | with_reducible refine itn_rev ?_ | with_reducible refine it_enum ?_ | with_reducible refine it_enumT ?_ | with_reducible refine it_zipT ?_ | with_reducible refine tcs_cons ?_ | with_reducible refine tcs_nil ?_ | with_reducible refine tg_name ?_ | with_reducible refine tgs_cons ?_ | with_reducible refine tgs_nil ?_
    | with_reducible refine ⟨_, rfl, ?_⟩
    | with_reducible refine ⟨_, _, rfl, ?_⟩
    | refine and_T ?_ | refine and_F ?_)
  | `(tactic| walk_at "d") => `(tactic| repeat walk_at "s")
/-! ### the three asked at the start -/
theorem ok1 : OkT true 2 2 [[1, 0], [0, 1]] ∧ OkT true 2 2 [[1, 0], [1, 0]] := by
  refine ⟨⟨⟨rfl, by decide, by decide, by decide⟩, by decide, by decide⟩, ⟨⟨rfl, by decide, by decide, by decide⟩, by decide, by decide⟩⟩
theorem ok2 : OkT false 2 2 [[1, 1], [0, 0]] ∧ OkT false 2 2 [[1, 0], [1, 0]] ∧ OkT false 2 2 [[0, 1], [1, 0]] ∧ OkT false 2 2 [[2, 0], [0, 1]] ∧ OkT false 2 2 [[2, 0], [0, 0]] := by
  refine ⟨⟨⟨rfl, by decide, by decide, by decide⟩, by decide, by decide⟩, ⟨⟨rfl, by decide, by decide, by decide⟩, by decide, by decide⟩, ⟨⟨rfl, by decide, by decide, by decide⟩, by decide, by decide⟩, ⟨⟨rfl, by decide, by decide, by decide⟩, by decide, by decide⟩, ⟨⟨rfl, by decide, by decide, by decide⟩, by decide, by decide⟩⟩
theorem rt2 {sg ac : Bool} {R : List (List Int)} (h : bkS sg ac 0 R = none) : Rt sg ac 2 2 R := fun l hl => by
  have hl : l + 1 < 2 := by cases ac <;> exact hl
  have e : l = 0 := by omega
  rw [e]; exact h
theorem ask1 {W : PyData → Prop} (q : W (tbl [[1, 0], [0, 1]])) : A_ask [tbl [[1, 0], [0, 1]], tbl [[1, 0], [1, 0]], .bool true] W := by
  obtain ⟨kA, kB⟩ := ok1
  have rA : Rt true false 2 2 [[1, 0], [0, 1]] := rt2 (by decide +kernel)
  have rB : Rt true true 2 2 [[1, 0], [1, 0]] := rt2 (by decide +kernel)
  have re : (BiT true 2 2).RE [[1, 0], [0, 1]] [[1, 0], [0, 1]] := ⟨[], JRM.Bd.nil, rfl, rA.ef⟩
  have rd : (BiT true 2 2).RD [[1, 0], [0, 1]] [[1, 0], [1, 0]] := ⟨[0], JRM.Bd.nil.cons (by decide), by decide +kernel, rB.df⟩
  refine ask_found kA kB rA rB fun lA lB cA cB uA uB => ?_
  obtain ⟨ec, back⟩ := roots_back kA re rd uA uB
  refine ⟨ec, fun T _ hT => ?_⟩
  rw [back T hT]
  exact q
theorem ask2 {W : PyData → Prop} (q : W (tbl [[0, 1], [1, 0]])) : A_ask [tbl [[1, 1], [0, 0]], tbl [[1, 0], [1, 0]], .bool false] W := by
  obtain ⟨kA, kB, kT, _, _⟩ := ok2
  have rA : Rt false false 2 2 [[1, 1], [0, 0]] := rt2 (by decide +kernel)
  have rB : Rt false true 2 2 [[1, 0], [1, 0]] := rt2 (by decide +kernel)
  have re : (BiT false 2 2).RE [[0, 1], [1, 0]] [[1, 1], [0, 0]] := ⟨[0], JRM.Bd.nil.cons (by decide), by decide +kernel, rA.ef⟩
  have rd : (BiT false 2 2).RD [[0, 1], [1, 0]] [[1, 0], [1, 0]] := ⟨[0], JRM.Bd.nil.cons (by decide), by decide +kernel, rB.df⟩
  refine ask_found kA kB rA rB fun lA lB cA cB uA uB => ?_
  obtain ⟨ec, back⟩ := roots_back kT re rd uA uB
  refine ⟨ec, fun T _ hT => ?_⟩
  rw [back T hT]
  exact q
theorem ask3 {W : PyData → Prop} (q : W (.list [.str "unlike", iv [2, 1]])) : A_ask [tbl [[2, 0], [0, 1]], tbl [[1, 0], [1, 0]], .bool false] W := by
  obtain ⟨_, kB, _, kA, kC⟩ := ok2
  have rA : Rt false false 2 2 [[2, 0], [0, 1]] := rt2 (by decide +kernel)
  have rA2 : Rt false true 2 2 [[2, 0], [0, 1]] := rt2 (by decide +kernel)
  have rB : Rt false true 2 2 [[1, 0], [1, 0]] := rt2 (by decide +kernel)
  have rC : Rt false false 2 2 [[2, 0], [0, 0]] := rt2 (by decide +kernel)
  refine use_ask (oA := some [[2, 0], [0, 1]]) (oB := some [[1, 0], [1, 0]]) (.tb kA) (.tb kB) ⟨fun z => ?_, fun A' B' hA wA hB wB e1 e2 k1 k2 => ?_⟩
  · rcases z with z | z | z | z
    · cases z
    · exact absurd z kA.ne
    · cases z
    · exact absurd z kB.ne
  · cases e1
    cases e2
    obtain ⟨x1, x2⟩ := kA.one k1
    obtain ⟨x3, x4⟩ := kB.one k2
    subst x1 x2 x3 x4
    refine ⟨fun z => absurd rA z, fun _ z => absurd rB z, fun _ _ lA lB cA cB uA uB => ?_⟩
    have eA : cA = [[2, 0], [0, 1]] := rd_same kA uA.rd ⟨[], JRM.Bd.nil, rfl, rA2.df⟩
    have eB : cB = [[2, 0], [0, 0]] := re_same kB uB.re ⟨[0], JRM.Bd.nil.cons (by decide), by decide +kernel, rC.ef⟩
    subst eA eB
    refine ⟨fun z => .inr ⟨rfl, _, rfl, q⟩, fun z => absurd z (by decide)⟩
/-! ### the state is made -/
theorem begin_run {K : PySem.W.Frag} {H0 F H : Hp} {σ : St} {ds : List Ent} {D : Ends} {i j : Nat} {ns : List Int} {rest : TS} (I : Ents none H0 F H σ ds) (hi : ds[i]? = some (.scr K ns)) (hl : ns.length ≤ 63) (no : ∀ (k : Nat) (e : Ent), ds[k]? = some e → isSt e = false ∧ ∀ xs, e ≠ .own xs) (hj : j < ds.length)
    (hrt : ∀ H', D.rt (.bl true) H') (h : ∀ S, StD S rest { nx := fun _ => False, rt := fun _ d => d = .bool true } (ds.set j (.st 0))) : tSeq (tAsg (tCall (spB K) [] xno (tCons (tVar i) tNil)) (gName j)) rest D σ H := by
  obtain ⟨a, sa, ha⟩ := I.at_ i _ hi
  refine seq_asg ?_
  refine ⟨.ref a, slot_some sa, a, ns, F, rfl, sql_keep ha I.fh, hl, I.fh, fun S F' H' v x fS st => ?_⟩
  have I2 := I.pure x
  have I3 : Ents S H' F' H' (σ.set j (some v)) (ds.set j (.st 0)) := by
    refine ⟨x.fh, fS, st.hS, by rw [List.length_set, List.length_set]; exact I.len, fun m e q => ?_, fun m k l xs ys e1 e2 _ _ => ?_⟩
    · by_cases z : j = m
      · subst z
        rw [List.getElem?_set_self hj] at q
        cases q
        exact ⟨v, slot_set_same (by rw [I.len]; exact hj), st⟩
      · rw [List.getElem?_set_ne z] at q
        rw [slot_set_ne z]
        have w0 := I2.at_ m e q
        obtain ⟨n1, n2⟩ := no m e q
        cases e with
        | no => trivial
        | dat d => exact w0
        | own xs => exact absurd rfl (n2 xs)
        | st m => cases n1
        | rg n => exact w0
        | scr K ns => exact w0
    · have bad : ∀ (m : Nat) (xs : List PyData), (ds.set j (.st 0))[m]? = some (.own xs) → False := fun m xs q => by
        by_cases z : j = m
        · subst z
          rw [List.getElem?_set_self hj] at q
          cases q
        · rw [List.getElem?_set_ne z] at q
          exact (no m _ q).2 xs rfl
      exact (bad m xs e1).elim
  refine std_run (h S) (Ext.refl x.fh) I3 ⟨fun _ _ _ _ _ _ z => z.elim, fun F2 H2 σ2 ds2 v2 d2 _ _ da w => ?_, fun _ _ _ _ _ _ z => z.elim, fun _ _ _ _ _ _ z => z.elim, fun _ _ _ _ _ _ _ _ _ _ _ _ z => z.elim⟩
  have w : d2 = .bool true := w
  subst w
  rw [da.bl_inv]
  exact hrt H2
theorem run_split4 {s1 s2 s3 s4 T : TS} {D : Ends} {σ : St} {H : Hp} (h : tSeq s1 (tSeq s2 (tSeq s3 s4)) { D with nx := T D } σ H) : tSeq s1 (tSeq s2 (tSeq s3 (tSeq s4 T))) D σ H := h
/-- the script's length -/
theorem ev_lenS {K : PySem.W.Frag} {S : SA} {ds : List Ent} {i : Nat} {ns : List Int} {W : List Ent → PyData → Prop} (hi : ds[i]? = some (.scr K ns)) (w : W ds (.int ns.length)) : EvD S (tCB (fun vs H Q => ∃ p ys, vs = [.ref p] ∧ (SqL K H p ys ∨ SqT K H p ys) ∧ Q (.int ys.length) H) (tCons (tVar i) tNil)) ds W := fun H0 F H σ Q I q => by
  obtain ⟨a, sa, ha⟩ := I.at_ i _ hi
  refine ⟨.ref a, slot_some sa, a, ns.map V.int, rfl, .inl (sql_keep ha I.fh), ?_⟩
  exact q _ F H ds _ (Ext.refl I.fh) I (by rw [List.length_map]; exact .int _) w
theorem one_law {K : PySem.W.Frag} {ns : List Int} {m : Nat} {a b : PyData} {e4 e5 e6 e7 : Ent} (h4 : isSt e4 = false) (h5 : isSt e5 = false) (h6 : isSt e6 = false) (h7 : isSt e7 = false) : oneSt [.scr K ns, .dat a, .dat b, .st m, e4, e5, e6, e7] 3 := one_of (by
  simp [oneB, h4, h5, h6, h7]
  exact ⟨rfl, rfl, rfl⟩)
theorem use_tab {sg : Bool} {m : Nat} {W : Nat → PyData → Prop} (hm : m ≤ 900000) (q : ∀ (m' h w : Nat) (R : List (List Int)), m' ≤ m + 100 → OkT sg h w R → W m' (tbl R)) : A_table m [.bool sg] W := ⟨sg, rfl, hm, fun m' d ⟨e1, h, w, R, e2, k⟩ => by
  rw [e2]
  exact q m' h w R e1 k⟩
def spLaw (K : PySem.W.Frag) : Sp := fun vs H Q _ => ∃ (a : Addr) (ns : List Int), vs = [.ref a] ∧ SqL K H a (ns.map V.int) ∧ ns.length ≤ 63 ∧ ∀ H', Q (.bl true) H'
theorem sc_law : FnScope ["_law_script", "_law_one", "_law_other", "_law_state", "_law_turn", "_law_signed", "_law_table_here", "_law_twin"] ["_law_script"] (defScope s_law) := ⟨rfl, rfl, rfl, by decide +kernel, rfl, by decide +kernel, by decide +kernel⟩
theorem ok_law {P : Program} {w : World} {K : PySem.W.Frag} {mg : Str → Option Value} {base : Heap} (T : Tx K mg) {fd : FuncData} (F : FunD K d_law.name d_law.qual d_law.params d_law.body d_law.scope [] [] (He.ga K "law") fd) (c_law_asked : Cal P w K mg base 16 "_law_asked" (spG A_ask)) (c_law_like : CalG P w K mg base 1 "_law_like" (spG A_like)) (c_law_begin : Cal P w K mg base 1 "_law_begin" (spB K)) (c_law_draw : Cal P w K mg base 2 "_law_draw" (spS A_draw)) (c_law_table : Cal P w K mg base 4 "_law_table" (spS A_table)) (c_law_right : CalG P w K mg base 17 "_law_right" (spS A_right)) (c_law_odd : CalG P w K mg base 17 "_law_odd" (spS A_odd)) : FnOkG P w K mg base 18 (He.ga K "law") fd ["_law_script"] (spLaw K) := by
  have S := sc_law
  refine fnG_of (k := 17) F S (fun vs H Q E ⟨a, ns, ev, _⟩ => by rw [ev]; rfl) (fun cd Ar outer s H vs Q E hr hg ⟨a, ns, ev, hs, hl, hq⟩ => ?_)
  subst ev
  refine ⟨_, PSs.nox (pss_cons (ps_set (i := 1) S.nd rfl (by first | exact Or.inl rfl | exact Or.inr rfl) (pe_cl c_law_asked hr (by omega) (by rfl) (pa_cons (pe_tupZ (pa_cons (pe_tupZ (pa_cons pe_int (pa_cons pe_int pa_nil))) (pa_cons (pe_tupZ (pa_cons pe_int (pa_cons pe_int pa_nil))) pa_nil))) (pa_cons (pe_tupZ (pa_cons (pe_tupZ (pa_cons pe_int (pa_cons pe_int pa_nil))) (pa_cons (pe_tupZ (pa_cons pe_int (pa_cons pe_int pa_nil))) pa_nil))) (pa_cons pe_bl pa_nil))))) (pss_cons (ps_set (i := 2) S.nd rfl (by first | exact Or.inl rfl | exact Or.inr rfl) (pe_cl c_law_asked hr (by omega) (by rfl) (pa_cons (pe_tupZ (pa_cons (pe_tupZ (pa_cons pe_int (pa_cons pe_int pa_nil))) (pa_cons (pe_tupZ (pa_cons pe_int (pa_cons pe_int pa_nil))) pa_nil))) (pa_cons (pe_tupZ (pa_cons (pe_tupZ (pa_cons pe_int (pa_cons pe_int pa_nil))) (pa_cons (pe_tupZ (pa_cons pe_int (pa_cons pe_int pa_nil))) pa_nil))) (pa_cons pe_bl pa_nil))))) (pss_cons (ps_if (pt_not (pt_val (pe_clG c_law_like hg hr (by omega) (by rfl) (pa_cons (pe_lst (pa_cons (pv 1) (pa_cons (pv 2) pa_nil))) (pa_cons (pe_lst (pa_cons (pe_tupZ (pa_cons (pe_tupZ (pa_cons pe_int (pa_cons pe_int pa_nil))) (pa_cons (pe_tupZ (pa_cons pe_int (pa_cons pe_int pa_nil))) pa_nil))) (pa_cons (pe_tupZ (pa_cons (pe_tupZ (pa_cons pe_int (pa_cons pe_int pa_nil))) (pa_cons (pe_tupZ (pa_cons pe_int (pa_cons pe_int pa_nil))) pa_nil))) pa_nil))) pa_nil))))) (pss_one (ps_ret pe_bl)) pss_nil) (pss_cons (ps_if (pt_not (pt_val (pe_clG c_law_like hg hr (by omega) (by rfl) (pa_cons (pe_cl c_law_asked hr (by omega) (by rfl) (pa_cons (pe_tupZ (pa_cons (pe_tupZ (pa_cons pe_int (pa_cons pe_int pa_nil))) (pa_cons (pe_tupZ (pa_cons pe_int (pa_cons pe_int pa_nil))) pa_nil))) (pa_cons (pe_tupZ (pa_cons (pe_tupZ (pa_cons pe_int (pa_cons pe_int pa_nil))) (pa_cons (pe_tupZ (pa_cons pe_int (pa_cons pe_int pa_nil))) pa_nil))) (pa_cons pe_bl pa_nil)))) (pa_cons (pe_lst (pa_cons pe_str (pa_cons (pe_tupZ (pa_cons pe_int (pa_cons pe_int pa_nil))) pa_nil))) pa_nil))))) (pss_one (ps_ret pe_bl)) pss_nil) (pss_cons (ps_set (i := 3) S.nd rfl (by first | exact Or.inl rfl | exact Or.inr rfl) (pe_cl c_law_begin hr (by omega) (by rfl) (pa_cons (pv 0) pa_nil))) (pss_cons (ps_for PassesOwn.never rfl (pi_range1 (by rfl) (T.n 70) (pa_cons (pe_callB (call_min2 rfl) (by rfl) (T.n 77) (by decide +kernel) (pa_cons (pe_callB call_len_seq (by rfl) (T.n 69) (by decide +kernel) (pa_cons (pv 0) pa_nil)) (pa_cons pe_int pa_nil))) pa_nil)) (pg_name (i := 4) S.nd rfl (by first | exact Or.inl rfl | exact Or.inr rfl)) (pss_cons (ps_set (i := 5) S.nd rfl (by first | exact Or.inl rfl | exact Or.inr rfl) (pe_cmpR op_eq (pe_cl c_law_draw hr (by omega) (by rfl) (pa_cons (pv 3) (pa_cons pe_int pa_nil))) pe_int (nomark _))) (pss_cons (ps_par (i := 6) (j := 7) (by rfl) S.nd rfl rfl (by decide) rfl rfl (pa_cons (pe_cl c_law_table hr (by omega) (by rfl) (pa_cons (pv 3) (pa_cons (pv 5) pa_nil))) (pa_cons (pe_cl c_law_table hr (by omega) (by rfl) (pa_cons (pv 3) (pa_cons (pv 5) pa_nil))) pa_nil)) (by rfl)) (pss_one (ps_if (PW.pt (pw_or (pt_not (pt_val (pe_clG c_law_right hg hr (by omega) (by rfl) (pa_cons (pv 3) (pa_cons (pv 6) (pa_cons (pv 5) pa_nil)))))) (pw_or1 (pt_not (pt_val (pe_clG c_law_odd hg hr (by omega) (by rfl) (pa_cons (pv 3) (pa_cons (pv 6) (pa_cons (pv 7) (pa_cons (pv 5) pa_nil)))))))))) (pss_one (ps_ret pe_bl)) pss_nil))))) (pss_one (ps_ret pe_bl)))))))), ?_⟩
  refine run_split4 ?_
  have I0 : Ents none H H H (L2.start ["_law_script", "_law_one", "_law_other", "_law_state", "_law_turn", "_law_signed", "_law_table_here", "_law_twin"] [V.ref a]) [.scr K ns, .no, .no, .no, .no, .no, .no, .no] := by
    refine ⟨Same.refl H, fun b q => q.elim, fun b q => q.elim, rfl, fun i e q => ?_, fun i j l xs ys e1 => ?_⟩
    · match i, q with
      | 0, q =>
        cases q
        exact ⟨a, rfl, hs⟩
      | 1, q => cases q; trivial
      | 2, q => cases q; trivial
      | 3, q => cases q; trivial
      | 4, q => cases q; trivial
      | 5, q => cases q; trivial
      | 6, q => cases q; trivial
      | 7, q => cases q; trivial
      | n + 8, q => cases q
    · match i, e1 with
      | 0, q => cases q
      | 1, q => cases q
      | 2, q => cases q
      | 3, q => cases q
      | 4, q => cases q
      | 5, q => cases q
      | 6, q => cases q
      | 7, q => cases q
      | n + 8, q => cases q
  refine std_run (S := none) (F0 := H) (H0 := H) (E := { nx := fun ds => ∃ d1 d2, ds = [.scr K ns, .dat d1, .dat d2, .no, .no, .no, .no, .no], rt := fun _ _ => False }) ?_ (Ext.refl (Same.refl H)) I0 ⟨fun F1 H1 σ1 ds1 x1 I1 w1 => ?_, fun _ _ _ _ _ _ _ _ _ z => z.elim, fun _ _ _ _ _ _ z => z.elim, fun _ _ _ _ _ _ z => z.elim, fun _ _ _ _ _ _ _ _ _ _ _ _ z => z.elim⟩
  · walk_at "d"
    refine ask1 ?_
    walk_at "d"
    refine ask2 ?_
    dsimp only [List.set]
    walk_at "d"
    refine use_like (show_two ok1.1.sw ok2.2.2.1.sw) rfl ?_
    walk_at "d"
    refine ask3 ?_
    walk_at "d"
    refine use_like (show_two (.str _ (by decide)) ((Sw.iv (r := [2, 1]) (by decide) (by decide)).mono (by decide) (by decide))) rfl ?_
    walk_at "d"
    exact ⟨_, _, rfl⟩
  · obtain ⟨d1, d2, rfl⟩ := w1
    refine begin_run I1 rfl hl (fun k e q => ?_) (Nat.le_of_ble_eq_true rfl) hq fun S0 => ?_
    · match k, q with
      | 0, q => cases q; exact ⟨rfl, fun xs z => (by cases z)⟩
      | 1, q => cases q; exact ⟨rfl, fun xs z => (by cases z)⟩
      | 2, q => cases q; exact ⟨rfl, fun xs z => (by cases z)⟩
      | 3, q => cases q; exact ⟨rfl, fun xs z => (by cases z)⟩
      | 4, q => cases q; exact ⟨rfl, fun xs z => (by cases z)⟩
      | 5, q => cases q; exact ⟨rfl, fun xs z => (by cases z)⟩
      | 6, q => cases q; exact ⟨rfl, fun xs z => (by cases z)⟩
      | 7, q => cases q; exact ⟨rfl, fun xs z => (by cases z)⟩
      | n + 8, q => cases q
    dsimp only [List.set]
    walk_at "d"
    refine st_for (Pd := Da) ?_
    refine itn_1 ?_
    refine ea_cons ?_
    refine ev_cb ?_
    refine ea_cons ?_
    refine ev_lenS rfl ?_
    walk_at "d"
    obtain ⟨tn, htn, etn⟩ : ∃ n : Nat, n ≤ 2 ∧ (if (2 : Int) < (ns.length : Int) then (2 : Int) else (ns.length : Int)) = (n : Int) := by
      by_cases z : 2 < ns.length
      · exact ⟨2, Nat.le_refl _, if_pos (by omega)⟩
      · exact ⟨ns.length, by omega, if_neg (by omega)⟩
    rw [etn]
    refine ⟨tn, rfl, by omega, ?_⟩
    refine ⟨fun i ds => ∃ (mi : Nat) (e4 e5 e6 e7 : Ent), ds = [Ent.scr K ns, Ent.dat d1, Ent.dat d2, Ent.st mi, e4, e5, e6, e7] ∧ isSt e4 = false ∧ isSt e5 = false ∧ isSt e6 = false ∧ isSt e7 = false ∧ mi ≤ 5000 * i, ⟨0, _, _, _, _, rfl, rfl, rfl, rfl, rfl, Nat.zero_le _⟩, fun i d ds2 e1 iv2 => ?_, fun ds2 iv2 => ?_⟩
    · obtain ⟨mi, e4, e5, e6, e7, rfl, i4, i5, i6, i7, hmi⟩ := iv2
      obtain ⟨hi, z1⟩ := rmap_at e1
      subst z1
      walk_at "d"
      refine ev_callS (i := 3) (m := mi) rfl ?_
      walk_at "d"
      refine ⟨one_law rfl i5 i6 i7, use_draw (by decide) (by decide) (by omega) fun z hz => ?_⟩
      walk_at "d"
      generalize decide ((z : Int) = 0) = sg
      dsimp only [List.set]
      refine ev_callS (i := 3) (m := mi + 1) rfl ?_
      walk_at "d"
      refine ⟨one_law rfl rfl i6 i7, use_tab (by omega) fun m1 h1 w1 R1 hm1 k1 => ?_⟩
      refine ev_callS (i := 3) (m := m1) rfl ?_
      walk_at "d"
      refine ⟨one_law rfl rfl i6 i7, use_tab (by omega) fun m2 h2 w2 R2 hm2 k2 => ?_⟩
      dsimp only [List.set]
      walk_at "d"
      refine ev_callS (i := 3) (m := m2) rfl ?_
      walk_at "d"
      refine ⟨one_law rfl rfl rfl rfl, use_right k1 (by omega) fun m3 hm3 => ?_⟩
      dsimp only [List.set]
      walk_at "d"
      refine ev_callS (i := 3) (m := m3) rfl ?_
      walk_at "d"
      refine ⟨one_law rfl rfl rfl rfl, use_odd k1 k2 (by omega) fun m4 hm4 => ?_⟩
      dsimp only [List.set]
      walk_at "d"
      exact ⟨m4, _, _, _, _, rfl, rfl, rfl, rfl, rfl, by omega⟩
    · obtain ⟨mi, e4, e5, e6, e7, rfl, i4, i5, i6, i7, hmi⟩ := iv2
      walk_at "d"
      rfl
end JR
set_option Elab.async false
set_option linter.all false
set_option maxRecDepth 100000
set_option maxHeartbeats 0
/-! The promises together; the head; the law. -/
namespace JR
open PySem PySem.Spec L2
theorem law_ok {P : Program} {w : World} {K : PySem.W.Frag} {mg : Str → Option Value} {base : Heap} (T : Tx K mg) {fd : FuncData} (F : FunD K d_law.name d_law.qual d_law.params d_law.body d_law.scope [] [] (He.ga K "law") fd) : FnOkG P w K mg base 18 (He.ga K "law") fd ["_law_script"] (spLaw K) := by
  have c_is_from := ok_is_from (P := P) (w := w) (base := base) T 
  have c_is_item := ok_is_item (P := P) (w := w) (base := base) T 
  have c_is_side := ok_is_side (P := P) (w := w) (base := base) T 
  have c_column_items := ok_column_items (P := P) (w := w) (base := base) T 
  have c_quarter_rows := ok_quarter_rows (P := P) (w := w) (base := base) T c_column_items
  have c_quarter_rows_back := ok_quarter_rows_back (P := P) (w := w) (base := base) T c_column_items
  have c_transposed_rows := ok_transposed_rows (P := P) (w := w) (base := base) T c_column_items
  have c_crossed := ok_crossed (P := P) (w := w) (base := base) T c_quarter_rows c_transposed_rows
  have c_crossed_back := ok_crossed_back (P := P) (w := w) (base := base) T c_quarter_rows_back c_transposed_rows
  have c_is_table_row := ok_is_table_row (P := P) (w := w) (base := base) T c_is_side c_is_item
  have c_need_table := ok_need_table (P := P) (w := w) (base := base) T c_is_side c_is_table_row
  have c_need_many := ok_need_many (P := P) (w := w) (base := base) T c_is_from
  have c_need_pair := ok_need_pair (P := P) (w := w) (base := base) T c_need_many c_is_from
  have c_part_places := ok_part_places (P := P) (w := w) (base := base) T c_is_from
  have c_walked := ok_walked (P := P) (w := w) (base := base) T c_part_places 4
  have c_marks_of := ok_marks (P := P) (w := w) (base := base) T 4
  have c_width_of := ok_width (P := P) (w := w) (base := base) T 4
  have c_choices := ok_choices (P := P) (w := w) (base := base) T 
  have c_bare_size := ok_bare_size (P := P) (w := w) (base := base) T c_choices
  have c_size_of := ok_size (P := P) (w := w) (base := base) T c_bare_size 4
  have c_need_sort := ok_need_sort (P := P) (w := w) (base := base) T c_need_many c_walked c_marks_of c_width_of c_size_of
  have c_rising := ok_rising (P := P) (w := w) (base := base) T 
  have c_ml1 := ok_ml1 (P := P) (w := w) (base := base) T c_is_from
  have c_all_like := ok_all_like (P := P) (w := w) (base := base) T c_ml1
  have c_member_like := ok_ml (P := P) (w := w) (base := base) T c_is_from c_all_like c_rising 4
  have c_is_member := ok_is_member (P := P) (w := w) (base := base) T c_need_sort c_member_like
  have c_need_member := ok_need_member (P := P) (w := w) (base := base) T c_is_member
  have c_need_two := ok_need_two (P := P) (w := w) (base := base) T c_need_member c_need_pair
  have c_in_stead := ok_in_stead (P := P) (w := w) (base := base) T 
  have c_name_places := ok_name_places (P := P) (w := w) (base := base) T c_in_stead
  have c_places := ok_places (P := P) (w := w) (base := base) T c_name_places 4
  have c_free_numbers := ok_free_numbers (P := P) (w := w) (base := base) T 
  have c_moved_readings := ok_moved_readings (P := P) (w := w) (base := base) T c_places c_free_numbers
  have c_transfer := ok_transfer (P := P) (w := w) (base := base) T c_need_two c_moved_readings
  have c_paired := ok_paired (P := P) (w := w) (base := base) T 
  have c_sort_of := ok_sort_of (P := P) (w := w) (base := base) T c_column_items c_paired
  have c_member_of := ok_member_of (P := P) (w := w) (base := base) T c_column_items c_paired
  have c_table_of := ok_table_of (P := P) (w := w) (base := base) T 
  have c_moved_tables := ok_moved_tables (P := P) (w := w) (base := base) T c_sort_of c_member_of c_table_of c_transfer
  have c_law_spots := ok_law_spots (P := P) (w := w) (base := base) T 
  have c_law_loose := ok_law_loose (P := P) (w := w) (base := base) T c_law_spots
  have c_law_sums := ok_law_sums (P := P) (w := w) (base := base) T 
  have c_law_fault := ok_law_fault (P := P) (w := w) (base := base) T 
  have c_law_mixed := ok_law_mixed (P := P) (w := w) (base := base) T 
  have c_law_draw := ok_law_draw (P := P) (w := w) (base := base) T c_law_mixed
  have c_law_of := ok_law_of (P := P) (w := w) (base := base) T c_law_draw
  have c_law_table := ok_law_table (P := P) (w := w) (base := base) T c_law_draw c_law_of
  have c_law_moved := ok_law_moved (P := P) (w := w) (base := base) T 
  have c_law_step := ok_law_step (P := P) (w := w) (base := base) T c_law_loose c_law_moved
  have c_law_backs := ok_law_backs (P := P) (w := w) (base := base) T c_law_step
  have c_ntX := ok_ntX (P := P) (w := w) (base := base) T c_is_side c_is_table_row
  have c_law_begin := ok_law_begin (P := P) (w := w) (base := base) T 
  have c_way_up := ok_way_up (P := P) (w := w) (base := base) T c_moved_tables plP
  have c_up_names := ok_up_names (P := P) (w := w) (base := base) T c_way_up
  have c_up_columns := ok_up_columns (P := P) (w := w) (base := base) T c_way_up c_crossed c_crossed_back plP
  have c_names_root := ok_names_root (P := P) (w := w) (base := base) T c_need_table c_up_names
  have c_columns_root := ok_columns_root (P := P) (w := w) (base := base) T c_need_table c_up_columns
  have c_joined_roots := ok_joined_roots (P := P) (w := w) (base := base) T c_ntX c_up_names c_up_columns c_way_up c_moved_tables plP pjP
  have c_law_end := ok_law_end (P := P) (w := w) (base := base) T c_law_backs c_law_of plP
  have c_law_forth := ok_law_forth (P := P) (w := w) (base := base) T c_law_draw c_law_step plP
  have c_law_asked := ok_law_asked (P := P) (w := w) (base := base) T c_joined_roots
  have c_law_due := ok_law_due (P := P) (w := w) (base := base) T c_law_fault c_law_backs c_law_end c_law_sums
  have c_law_like := ok_law_like (P := P) (w := w) (base := base) T 
  have c_law_right := ok_law_right (P := P) (w := w) (base := base) T c_law_like c_law_asked c_law_end c_law_forth c_law_draw c_law_fault c_names_root c_columns_root
  have c_law_odd := ok_law_odd (P := P) (w := w) (base := base) T c_law_like c_law_asked c_law_end c_law_of c_law_due c_law_fault
  exact ok_law T F c_law_asked c_law_like c_law_begin c_law_draw c_law_table c_law_right c_law_odd
theorem facts {P : Program} {w : World} {K : PySem.W.Frag} {h : Heap} {mg : Str → Option Value} {f : Addr} (X : K.In h) (G : h.Ns mainGlobals mg) (hfa : mg ("law" : Str) = some (.ref f)) (c : He.SaysD fa fn K) (ex : exB K = true) :
    ∃ fd : FuncData, (∀ (s : Shared) (v : Value), BindsTo s fd ⟨[v], []⟩ [("_law_script", v)]) ∧ ∀ base : Heap, K.In base → base.Ns mainGlobals mg → FnOkG P w K mg base 18 f fd ["_law_script"] (spLaw K) := by
  have T : Tx K mg := ⟨c, ex, fun i x e => He.glo_ok X G (c.fact i e), fun i x e => He.free_ok X G (c.fact i e), fun i x n e => He.int_ok X G (c.fact i e)⟩
  obtain ⟨fd, F⟩ := c.def_ 63 (d := d_law) rfl
  have e := hfa.symm.trans (T.g 63)
  cases e
  have b := FunD.bindsA (ps := ["_law_script"]) F fun _ _ _ _ _ _ us hl => match us, hl with | [_], _ => rfl
  exact ⟨fd, fun s v => b s [v] rfl, fun base _ _ => law_ok T F⟩
end JR
open PySem PySem.W PySem.Calls PyProof.Rows
theorem PySem.Challenge.cw_unithouse_k63_whole_joined_roots_holds : PySem.Challenge.rw_unithouse_k63_whole_joined_roots.Holds := by
  refine JR.head_end ?_
  refine JR.walk_G (l := PySem.Challenge.rw_unithouse_k63_whole_joined_roots) (n := 63) (k := 18) (x := "_law_script") rfl (by decide) JR.dflt_law ⟨rfl, by decide, by decide⟩ ?F
  intro w mg fa h Y G hmg0
  obtain ⟨K, KX, c, ex⟩ := Y
  have hmg : mg ("law" : PySem.Str) = some (.ref fa) := by
    rw [← JR.name_law]
    exact hmg0
  obtain ⟨fd, hb, hF⟩ := JR.facts (P := (PySem.Challenge.rw_unithouse_k63_whole_joined_roots).prog) (w := w) KX G hmg c ex
  exact ⟨K, fd, JR.spLaw K, KX, hb, fun H a ns hl _ hS => ⟨a, ns, rfl, hS, hl, fun _ => rfl⟩, hF⟩
