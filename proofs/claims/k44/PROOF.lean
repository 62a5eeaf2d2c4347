import PyProof.Rows.All
import Wide.All
import OpenK.AllK
import Wide.FinOn
import KE.KStateDown
import Lean
import HandS.ForMost
import HandS.ForExc
import HandS.More
import HandS.Defaults
import HandS.Head0
import HandS.Head1
import HandS.Head2
import HandS.HeadEnd
import HandS.HeadHook1
import HandS.HeadHook2
import PySem.Challenge.RW_tablestore_k44_refusals
import HandS.Zip
import HandS.Walk
import HandS.Style
import HandS.TupAny
import HandS.IsInst
import HandS.Evl
import HandS.Deep
import HandS.SortInts
import KE.GoesNew
import KE.SortKeyHeap
import HandS.SortKw
import HandS.Keys
import HandS.TryMany
import HandS.ExcOwn
import HandS.ExcIs
import HandS.HotCalls
import HandS.SetFor
set_option Elab.async false
set_option linter.all false
set_option maxRecDepth 100000
set_option maxHeartbeats 0
/-! The defs of the row's top by their places, what is asked of the top, one theorem a fact. Printed by gen_td.py. -/
namespace TD
open PySem PySem.Spec PyProof.Rows L2
def topS (i : Nat) : Stmt := PySem.Challenge.pw_tablestore_k44_refusals.main.body.getD i (.Pass ⟨0, 0, 0, 0⟩)
abbrev s_is_whole : Stmt := topS 19
abbrev s_is_value : Stmt := topS 20
abbrev s_kind_of : Stmt := topS 21
abbrev s_rank_of : Stmt := topS 22
abbrev s_compare : Stmt := topS 23
abbrev s_is_name : Stmt := topS 29
abbrev s_is_column : Stmt := topS 30
abbrev s_is_shape : Stmt := topS 31
abbrev s_column_place : Stmt := topS 32
abbrev s_fits : Stmt := topS 33
abbrev s_comes_ahead : Stmt := topS 38
abbrev s_empty_index : Stmt := topS 39
abbrev s_entries_of : Stmt := topS 40
abbrev s_many_in : Stmt := topS 41
abbrev s_part_place : Stmt := topS 42
abbrev s_leaf_place : Stmt := topS 43
abbrev s_stands : Stmt := topS 44
abbrev s_is_entry : Stmt := topS 45
abbrev s_leaf_ends : Stmt := topS 46
abbrev s_part_ends : Stmt := topS 47
abbrev s_cell_ends : Stmt := topS 48
abbrev s_is_index : Stmt := topS 49
abbrev s_first_of_balance : Stmt := topS 51
abbrev s_part_of : Stmt := topS 53
abbrev s_cut : Stmt := topS 54
abbrev s_added : Stmt := topS 55
abbrev s_with_entry : Stmt := topS 56
abbrev s_filled : Stmt := topS 57
abbrev s_taken : Stmt := topS 58
abbrev s_without_entry : Stmt := topS 59
abbrev s_index_from : Stmt := topS 60
abbrev s_Table_init : Stmt := inClass (topS 63) 0
abbrev s_is_number : Stmt := topS 64
abbrev s_new_table : Stmt := topS 65
abbrev s_numbers_of : Stmt := topS 66
abbrev s_entries_for : Stmt := topS 67
abbrev s_indexes_without : Stmt := topS 68
abbrev s_without_row : Stmt := topS 69
abbrev s_with_row : Stmt := topS 70
abbrev s_with_index : Stmt := topS 71
abbrev s_are_rows : Stmt := topS 72
abbrev s_is_table : Stmt := topS 73
abbrev s_first_of_tables : Stmt := topS 74
abbrev s_has_table : Stmt := topS 77
abbrev s_with_table : Stmt := topS 78
abbrev s_size_of : Stmt := topS 79
abbrev s_need_table : Stmt := topS 80
abbrev s_made : Stmt := topS 81
abbrev s_ordered_by : Stmt := topS 82
abbrev s_put : Stmt := topS 83
abbrev s_dropped : Stmt := topS 84
abbrev s_changed : Stmt := topS 85
abbrev s_all_changed : Stmt := topS 86
abbrev s_is_state : Stmt := topS 87
abbrev s_key_of : Stmt := topS 88
abbrev s_keys_of : Stmt := topS 90
abbrev s_meets : Stmt := topS 91
abbrev s_has_row : Stmt := topS 92
abbrev s_Dealing_init : Stmt := inClass (topS 93) 0
abbrev s_Dealing_need_open : Stmt := inClass (topS 93) 1
abbrev s_Dealing_done : Stmt := inClass (topS 93) 2
abbrev s_Dealing_start : Stmt := inClass (topS 93) 3
abbrev s_Dealing_view : Stmt := inClass (topS 93) 4
abbrev s_Dealing_mine : Stmt := inClass (topS 93) 5
abbrev s_Dealing_make : Stmt := inClass (topS 93) 6
abbrev s_Dealing_order_by : Stmt := inClass (topS 93) 7
abbrev s_Dealing_put : Stmt := inClass (topS 93) 8
abbrev s_Dealing_change : Stmt := inClass (topS 93) 9
abbrev s_Dealing_drop : Stmt := inClass (topS 93) 10
abbrev s_Dealing_keep : Stmt := inClass (topS 93) 11
abbrev s_Dealing_leave : Stmt := inClass (topS 93) 12
abbrev s_Store_init : Stmt := inClass (topS 95) 0
abbrev s_Store_many : Stmt := inClass (topS 95) 1
abbrev s_Store_changes : Stmt := inClass (topS 95) 2
abbrev s_Store_state : Stmt := inClass (topS 95) 3
abbrev s_Store_newest : Stmt := inClass (topS 95) 4
abbrev s_Store_greatest : Stmt := inClass (topS 95) 5
abbrev s_Store_gave : Stmt := inClass (topS 95) 6
abbrev s_Store_grow : Stmt := inClass (topS 95) 7
abbrev s_begin : Stmt := topS 96
abbrev s_law_whole : Stmt := topS 98
abbrev s_law_cell_at : Stmt := topS 99
abbrev s_law_mixed : Stmt := topS 100
abbrev s_law_name_by : Stmt := topS 101
abbrev s_law_twin : Stmt := topS 102
abbrev s_law_shape_by : Stmt := topS 103
abbrev s_law_text_by : Stmt := topS 104
abbrev s_law_value_by : Stmt := topS 105
abbrev s_law_row_by : Stmt := topS 106
abbrev s_law_place : Stmt := topS 107
abbrev s_law_after : Stmt := topS 108
abbrev s_law_all_after : Stmt := topS 109
abbrev s_law_entry_key : Stmt := topS 110
abbrev s_law_rows_same : Stmt := topS 111
abbrev s_law_table_same : Stmt := topS 112
abbrev s_law_same : Stmt := topS 113
abbrev s_law_alone : Stmt := topS 114
abbrev s_law_call : Stmt := topS 115
abbrev s_law_refusal : Stmt := topS 116
abbrev s_law_one : Stmt := topS 117
abbrev s_law_due : Stmt := topS 118
abbrev s_law_row_of : Stmt := topS 119
abbrev s_law_given : Stmt := topS 120
abbrev s_law_once : Stmt := topS 121
abbrev s_law : Stmt := topS 122
abbrev dd (at_ : Str × Option Str) (name qual : Str) (st : Stmt) : He.DefD := ⟨at_, name, qual, defArgs st, defBody st, defScope st, [], []⟩
def fn0 : List He.DefD := [dd ("is_whole", none) "is_whole" "is_whole" s_is_whole,
  dd ("is_value", none) "is_value" "is_value" s_is_value,
  dd ("kind_of", none) "kind_of" "kind_of" s_kind_of,
  dd ("rank_of", none) "rank_of" "rank_of" s_rank_of,
  dd ("compare", none) "compare" "compare" s_compare,
  dd ("is_name", none) "is_name" "is_name" s_is_name,
  dd ("is_column", none) "is_column" "is_column" s_is_column,
  dd ("is_shape", none) "is_shape" "is_shape" s_is_shape,
  dd ("column_place", none) "column_place" "column_place" s_column_place,
  dd ("fits", none) "fits" "fits" s_fits,
  dd ("comes_ahead", none) "comes_ahead" "comes_ahead" s_comes_ahead,
  dd ("empty_index", none) "empty_index" "empty_index" s_empty_index,
  dd ("entries_of", none) "entries_of" "entries_of" s_entries_of,
  dd ("many_in", none) "many_in" "many_in" s_many_in,
  dd ("part_place", none) "part_place" "part_place" s_part_place,
  dd ("leaf_place", none) "leaf_place" "leaf_place" s_leaf_place,
  dd ("stands", none) "stands" "stands" s_stands,
  dd ("is_entry", none) "is_entry" "is_entry" s_is_entry,
  dd ("leaf_ends", none) "leaf_ends" "leaf_ends" s_leaf_ends,
  dd ("part_ends", none) "part_ends" "part_ends" s_part_ends]
def fn1 : List He.DefD := [dd ("cell_ends", none) "cell_ends" "cell_ends" s_cell_ends,
  dd ("is_index", none) "is_index" "is_index" s_is_index,
  dd ("first_of_balance", none) "first_of" "first_of" s_first_of_balance,
  dd ("part_of", none) "part_of" "part_of" s_part_of,
  dd ("cut", none) "cut" "cut" s_cut,
  dd ("added", none) "added" "added" s_added,
  dd ("with_entry", none) "with_entry" "with_entry" s_with_entry,
  dd ("filled", none) "filled" "filled" s_filled,
  dd ("taken", none) "taken" "taken" s_taken,
  dd ("without_entry", none) "without_entry" "without_entry" s_without_entry,
  dd ("index_from", none) "index_from" "index_from" s_index_from,
  dd ("Table", some "__init__") "__init__" "Table.__init__" s_Table_init,
  dd ("is_number", none) "is_number" "is_number" s_is_number,
  dd ("new_table", none) "new_table" "new_table" s_new_table,
  dd ("numbers_of", none) "numbers_of" "numbers_of" s_numbers_of,
  dd ("entries_for", none) "entries_for" "entries_for" s_entries_for,
  dd ("indexes_without", none) "indexes_without" "indexes_without" s_indexes_without,
  dd ("without_row", none) "without_row" "without_row" s_without_row,
  dd ("with_row", none) "with_row" "with_row" s_with_row,
  dd ("with_index", none) "with_index" "with_index" s_with_index]
def fn2 : List He.DefD := [dd ("are_rows", none) "are_rows" "are_rows" s_are_rows,
  dd ("is_table", none) "is_table" "is_table" s_is_table,
  dd ("first_of_tables", none) "first_of" "first_of" s_first_of_tables,
  dd ("has_table", none) "has_table" "has_table" s_has_table,
  dd ("with_table", none) "with_table" "with_table" s_with_table,
  dd ("size_of", none) "size_of" "size_of" s_size_of,
  dd ("need_table", none) "need_table" "need_table" s_need_table,
  dd ("made", none) "made" "made" s_made,
  dd ("ordered_by", none) "ordered_by" "ordered_by" s_ordered_by,
  dd ("put", none) "put" "put" s_put,
  dd ("dropped", none) "dropped" "dropped" s_dropped,
  dd ("changed", none) "changed" "changed" s_changed,
  dd ("all_changed", none) "all_changed" "all_changed" s_all_changed,
  dd ("is_state", none) "is_state" "is_state" s_is_state,
  dd ("key_of", none) "key_of" "key_of" s_key_of,
  dd ("keys_of", none) "keys_of" "keys_of" s_keys_of,
  dd ("meets", none) "meets" "meets" s_meets,
  dd ("has_row", none) "has_row" "has_row" s_has_row,
  dd ("Dealing", some "__init__") "__init__" "Dealing.__init__" s_Dealing_init,
  dd ("Dealing", some "need_open") "need_open" "Dealing.need_open" s_Dealing_need_open]
def fn3 : List He.DefD := [dd ("Dealing", some "done") "done" "Dealing.done" s_Dealing_done,
  dd ("Dealing", some "start") "start" "Dealing.start" s_Dealing_start,
  dd ("Dealing", some "view") "view" "Dealing.view" s_Dealing_view,
  dd ("Dealing", some "mine") "mine" "Dealing.mine" s_Dealing_mine,
  dd ("Dealing", some "make") "make" "Dealing.make" s_Dealing_make,
  dd ("Dealing", some "order_by") "order_by" "Dealing.order_by" s_Dealing_order_by,
  dd ("Dealing", some "put") "put" "Dealing.put" s_Dealing_put,
  dd ("Dealing", some "change") "change" "Dealing.change" s_Dealing_change,
  dd ("Dealing", some "drop") "drop" "Dealing.drop" s_Dealing_drop,
  dd ("Dealing", some "keep") "keep" "Dealing.keep" s_Dealing_keep,
  dd ("Dealing", some "leave") "leave" "Dealing.leave" s_Dealing_leave,
  dd ("Store", some "__init__") "__init__" "Store.__init__" s_Store_init,
  dd ("Store", some "many") "many" "Store.many" s_Store_many,
  dd ("Store", some "changes") "changes" "Store.changes" s_Store_changes,
  dd ("Store", some "state") "state" "Store.state" s_Store_state,
  dd ("Store", some "newest") "newest" "Store.newest" s_Store_newest,
  dd ("Store", some "greatest") "greatest" "Store.greatest" s_Store_greatest,
  dd ("Store", some "gave") "gave" "Store.gave" s_Store_gave,
  dd ("Store", some "grow") "grow" "Store.grow" s_Store_grow,
  dd ("begin", none) "begin" "begin" s_begin]
def fn4 : List He.DefD := [dd ("_law_whole", none) "_law_whole" "_law_whole" s_law_whole,
  dd ("_law_cell_at", none) "_law_cell_at" "_law_cell_at" s_law_cell_at,
  dd ("_law_mixed", none) "_law_mixed" "_law_mixed" s_law_mixed,
  dd ("_law_name_by", none) "_law_name_by" "_law_name_by" s_law_name_by,
  dd ("_law_twin", none) "_law_twin" "_law_twin" s_law_twin,
  dd ("_law_shape_by", none) "_law_shape_by" "_law_shape_by" s_law_shape_by,
  dd ("_law_text_by", none) "_law_text_by" "_law_text_by" s_law_text_by,
  dd ("_law_value_by", none) "_law_value_by" "_law_value_by" s_law_value_by,
  dd ("_law_row_by", none) "_law_row_by" "_law_row_by" s_law_row_by,
  dd ("_law_place", none) "_law_place" "_law_place" s_law_place,
  dd ("_law_after", none) "_law_after" "_law_after" s_law_after,
  dd ("_law_all_after", none) "_law_all_after" "_law_all_after" s_law_all_after,
  dd ("_law_entry_key", none) "_law_entry_key" "_law_entry_key" s_law_entry_key,
  dd ("_law_rows_same", none) "_law_rows_same" "_law_rows_same" s_law_rows_same,
  dd ("_law_table_same", none) "_law_table_same" "_law_table_same" s_law_table_same,
  dd ("_law_same", none) "_law_same" "_law_same" s_law_same,
  dd ("_law_alone", none) "_law_alone" "_law_alone" s_law_alone,
  dd ("_law_call", none) "_law_call" "_law_call" s_law_call,
  dd ("_law_refusal", none) "_law_refusal" "_law_refusal" s_law_refusal,
  dd ("_law_one", none) "_law_one" "_law_one" s_law_one]
def fn5 : List He.DefD := [dd ("_law_due", none) "_law_due" "_law_due" s_law_due,
  dd ("_law_row_of", none) "_law_row_of" "_law_row_of" s_law_row_of,
  dd ("_law_given", none) "_law_given" "_law_given" s_law_given,
  dd ("_law_once", none) "_law_once" "_law_once" s_law_once,
  dd ("law", none) "law" "law" s_law]
def fn : List He.DefD := fn0 ++ (fn1 ++ (fn2 ++ (fn3 ++ (fn4 ++ (fn5)))))
def fa0 : List He.Fa := [.glo "is_whole", .glo "is_value", .glo "kind_of", .glo "rank_of", .glo "compare", .glo "is_name", .glo "is_column", .glo "is_shape", .glo "column_place", .glo "fits", .glo "comes_ahead", .glo "empty_index", .glo "entries_of", .glo "many_in", .glo "part_place", .glo "leaf_place", .glo "stands", .glo "is_entry", .glo "leaf_ends", .glo "part_ends", .glo "cell_ends", .glo "is_index", .glo "first_of_balance", .glo "part_of", .glo "cut", .glo "added", .glo "with_entry", .glo "filled", .glo "taken", .glo "without_entry", .glo "index_from", .glo "is_number", .glo "new_table", .glo "numbers_of", .glo "entries_for", .glo "indexes_without", .glo "without_row", .glo "with_row", .glo "with_index", .glo "are_rows"]
def fa1 : List He.Fa := [.glo "is_table", .glo "first_of_tables", .glo "has_table", .glo "with_table", .glo "size_of", .glo "need_table", .glo "made", .glo "ordered_by", .glo "put", .glo "dropped", .glo "changed", .glo "all_changed", .glo "is_state", .glo "key_of", .glo "keys_of", .glo "meets", .glo "has_row", .glo "begin", .glo "_law_whole", .glo "_law_cell_at", .glo "_law_mixed", .glo "_law_name_by", .glo "_law_twin", .glo "_law_shape_by", .glo "_law_text_by", .glo "_law_value_by", .glo "_law_row_by", .glo "_law_place", .glo "_law_after", .glo "_law_all_after", .glo "_law_entry_key", .glo "_law_rows_same", .glo "_law_table_same", .glo "_law_same", .glo "_law_alone", .glo "_law_call", .glo "_law_refusal", .glo "_law_one", .glo "_law_due", .glo "_law_row_of"]
def fa2 : List He.Fa := [.glo "_law_given", .glo "_law_once", .glo "law", .glo "Table", .glo "Dealing", .glo "Store", .glo "TableError", .glo "BadValue", .glo "BadShape", .glo "BadChange", .glo "BadRow", .glo "NoTable", .glo "TableThere", .glo "NoColumn", .glo "IndexThere", .glo "NoRow", .glo "Over", .glo "Clash", .glo "BadLog", .glo "BadQuestion", .glo "BadDesk", .free "isinstance", .free "int", .free "bool", .free "str", .free "tuple", .free "dict", .free "list", .free "len", .free "enumerate", .free "zip", .free "range", .free "sorted", .free "max", .free "ValueError", .int "LIMIT" 1000000000000000000, .int "SIGNS" 40, .int "MOST_LETTERS" 8, .int "MOST_COLUMNS" 8, .int "LEAST" 4]
def fa3 : List He.Fa := [.int "MOST" 8, .int "MOST_NUMBER_ordered" 1000000000, .int "MOST_NUMBER_tables" 1000000000, .glo "WORDS", .str "LETTERS" "abcdefghijklmnopqrstuvwxyz", .cls "Table", .mkr "Table", .noat "Table" "shape", .noat "Table" "rows", .noat "Table" "indexes", .cls "Dealing", .mkr "Dealing", .noat "Dealing" "store", .noat "Dealing" "begun", .noat "Dealing" "seen", .noat "Dealing" "own", .noat "Dealing" "live", .meth "Dealing" "need_open", .meth "Dealing" "done", .meth "Dealing" "start", .meth "Dealing" "view", .meth "Dealing" "mine", .meth "Dealing" "make", .meth "Dealing" "order_by", .meth "Dealing" "put", .meth "Dealing" "change", .meth "Dealing" "drop", .meth "Dealing" "keep", .meth "Dealing" "leave", .cls "Store", .mkr "Store", .noat "Store" "kept", .noat "Store" "past", .noat "Store" "given", .meth "Store" "many", .meth "Store" "changes", .meth "Store" "state", .meth "Store" "newest", .meth "Store" "greatest", .meth "Store" "gave"]
def fa4 : List He.Fa := [.meth "Store" "grow", .exm "BadShape" "Over" false, .exm "BadShape" "BadShape" true, .exm "BadShape" "TableThere" false, .exm "BadShape" "NoTable" false, .exm "BadShape" "NoColumn" false, .exm "BadShape" "IndexThere" false, .exm "BadShape" "NoRow" false, .exm "BadShape" "BadRow" false, .exm "BadShape" "TableError" true, .exm "BadChange" "Over" false, .exm "BadChange" "BadShape" false, .exm "BadChange" "TableThere" false, .exm "BadChange" "NoTable" false, .exm "BadChange" "NoColumn" false, .exm "BadChange" "IndexThere" false, .exm "BadChange" "NoRow" false, .exm "BadChange" "BadRow" false, .exm "BadChange" "TableError" true, .exm "BadRow" "Over" false, .exm "BadRow" "BadShape" false, .exm "BadRow" "TableThere" false, .exm "BadRow" "NoTable" false, .exm "BadRow" "NoColumn" false, .exm "BadRow" "IndexThere" false, .exm "BadRow" "NoRow" false, .exm "BadRow" "BadRow" true, .exm "BadRow" "TableError" true, .exm "NoTable" "Over" false, .exm "NoTable" "BadShape" false, .exm "NoTable" "TableThere" false, .exm "NoTable" "NoTable" true, .exm "NoTable" "NoColumn" false, .exm "NoTable" "IndexThere" false, .exm "NoTable" "NoRow" false, .exm "NoTable" "BadRow" false, .exm "NoTable" "TableError" true, .exm "TableThere" "Over" false, .exm "TableThere" "BadShape" false, .exm "TableThere" "TableThere" true]
def fa5 : List He.Fa := [.exm "TableThere" "NoTable" false, .exm "TableThere" "NoColumn" false, .exm "TableThere" "IndexThere" false, .exm "TableThere" "NoRow" false, .exm "TableThere" "BadRow" false, .exm "TableThere" "TableError" true, .exm "NoColumn" "Over" false, .exm "NoColumn" "BadShape" false, .exm "NoColumn" "TableThere" false, .exm "NoColumn" "NoTable" false, .exm "NoColumn" "NoColumn" true, .exm "NoColumn" "IndexThere" false, .exm "NoColumn" "NoRow" false, .exm "NoColumn" "BadRow" false, .exm "NoColumn" "TableError" true, .exm "IndexThere" "Over" false, .exm "IndexThere" "BadShape" false, .exm "IndexThere" "TableThere" false, .exm "IndexThere" "NoTable" false, .exm "IndexThere" "NoColumn" false, .exm "IndexThere" "IndexThere" true, .exm "IndexThere" "NoRow" false, .exm "IndexThere" "BadRow" false, .exm "IndexThere" "TableError" true, .exm "NoRow" "Over" false, .exm "NoRow" "BadShape" false, .exm "NoRow" "TableThere" false, .exm "NoRow" "NoTable" false, .exm "NoRow" "NoColumn" false, .exm "NoRow" "IndexThere" false, .exm "NoRow" "NoRow" true, .exm "NoRow" "BadRow" false, .exm "NoRow" "TableError" true, .exm "Over" "Over" true, .exm "Over" "BadShape" false, .exm "Over" "TableThere" false, .exm "Over" "NoTable" false, .exm "Over" "NoColumn" false, .exm "Over" "IndexThere" false, .exm "Over" "NoRow" false]
def fa6 : List He.Fa := [.exm "Over" "BadRow" false, .exm "Over" "TableError" true, .exm "Clash" "Over" false, .exm "Clash" "BadShape" false, .exm "Clash" "TableThere" false, .exm "Clash" "NoTable" false, .exm "Clash" "NoColumn" false, .exm "Clash" "IndexThere" false, .exm "Clash" "NoRow" false, .exm "Clash" "BadRow" false, .exm "Clash" "TableError" true]
def fa : List He.Fa := fa0 ++ (fa1 ++ (fa2 ++ (fa3 ++ (fa4 ++ (fa5 ++ (fa6))))))
def wordsV : List Str := ["and", "by", "down", "from", "none", "not", "or", "order", "show", "take", "where"]
def raised : List Str := ["BadShape", "BadChange", "BadRow", "NoTable", "TableThere", "NoColumn", "IndexThere", "NoRow", "Over", "Clash"]
def kinds : List Str := ["BadValue", "BadShape", "BadChange", "BadRow", "NoTable", "TableThere", "NoColumn", "IndexThere", "NoRow", "Over", "Clash", "BadLog", "BadQuestion", "BadDesk"]
open He PySem.W in
/-- an own exception class, over ValueError, asked as isinstance and raise ask -/
def excB (K : PySem.W.Frag) (x : Str) : Bool := excIn K (ga K x) veBase "ValueError.__new__" && (keepIn K (.ref (ga K x)) && (decide (subIn K (.ref (ga K x)) (.type "BaseException") = some true) && (decide (typeIn K (.ref (ga K x)) = some (.type "type")) &&
  (eqO (findIn K (.ref (ga K x)) "__getattribute__") (some (some (.builtin "BaseException.__getattribute__"))) && (eqO (findIn K (.ref (ga K x)) "__getattr__") (some none) && (hasDictIn K (ga K x) && (eqO (findIn K (.ref (ga K x)) "__class__") (some (some (.builtin "object.__class__"))) &&
  (eqO (specialIn K (.builtin "object.__class__") "__get__") (some (some (.builtin "getset_descriptor.__get__"))) && (decide (takesIn K (.builtin "object.__class__") = some true) && (decide (mroIn K (ga K x) (.type "object") = some true) &&
  (decide (kitOne K (.ref (ga K x)) (.type "ValueError") = some true) && kinds.all fun y => decide (kitOne K (.ref (ga K x)) (.ref (ga K y)) = some (x == y)))))))))))))
open He PySem.W in
/-- an own plain class, asked by isinstance -/
def insB (K : PySem.W.Frag) (x : Str) : Bool := eqO (findIn K (.ref (ga K x)) "__class__") (some (some (.builtin "object.__class__"))) && (decide (mroIn K (ga K x) (.type "object") = some true) && (decide (kitOne K (.ref (ga K x)) (.ref (ga K x)) = some true)))
def moreB (K : PySem.W.Frag) : Bool := raised.all (excB K) && (insB K "Table" && He.tupB K "WORDS" (wordsV.map He.Dv.str))
abbrev AlM : Type := He.AlD × Bool
def obsM (K : PySem.W.Frag) : AlM := (He.obsD fa fn K, moreB K)
def valM : AlM := (He.valD fn, true)
def SaysM (K : PySem.W.Frag) : Prop := obsM K = valM
/-- what is looked at: the top's names, the classes' own names, the functions' code -/
def refsAt (g : Addr → Option Obj) (a : Addr) : List Addr := match g a with
  | some ⟨_, _, .dict es _, _⟩ => es.toList.flatMap fun e => He.refV e.val
  | _ => []
def nsAt (g : Addr → Option Obj) (a : Addr) : List Addr := match g a with
  | some ⟨_, _, .cls cd, _⟩ => [cd.ns]
  | _ => []
def codeAt (g : Addr → Option Obj) (a : Addr) : List Addr := match g a with
  | some ⟨_, _, .func fd, _⟩ => He.refV fd.code
  | _ => []
def seeds (g : Addr → Option Obj) : List Addr := mainGlobals :: (refsAt g mainGlobals ++ ((refsAt g mainGlobals).flatMap (nsAt g) ++ (((refsAt g mainGlobals).flatMap (nsAt g)).flatMap (refsAt g) ++
  ((refsAt g mainGlobals).flatMap (codeAt g) ++ (((refsAt g mainGlobals).flatMap (nsAt g)).flatMap (refsAt g)).flatMap (codeAt g)))))
def obsMG (g : Addr → Option Obj) : AlM := obsM (He.frG g (seeds g))
def hookM : PySem.W.Hook where
  α := AlM
  obs := fun s => obsMG s.heap.get?
  val := fun _ => valM
  says := fun _ h => ∃ K : PySem.W.Frag, K.In h ∧ SaysM K
  of := fun _ _ e => ⟨_, He.frG_in, e⟩
  keeps := fun _ _ _ ⟨K, hK, c⟩ k => ⟨K, PySem.W.Frag.In.keeps hK k, c⟩
theorem obsMG_eq {g : Addr → Option Obj} {s : Shared} (h : ∀ a, g a = s.heap.get? a) : obsMG g = hookM.obs s := by
  have e : g = s.heap.get? := funext h
  rw [e] <;> rfl
/-- all that is known of the top -/
structure Tx (K : PySem.W.Frag) (mg : Str → Option Value) : Prop where
  says : SaysM K
  glob : ∃ h : Heap, K.In h ∧ h.Ns mainGlobals mg
section
variable {K : PySem.W.Frag} {mg : Str → Option Value}
theorem Tx.d (T : Tx K mg) : He.SaysD fa fn K := congrArg (fun z : AlM => z.1) T.says
theorem Tx.m (T : Tx K mg) : moreB K = true := congrArg (fun z : AlM => z.2) T.says
theorem Tx.glo (T : Tx K mg) (i : Nat) {x : Str} (h : fa[i]? = some (.glo x)) : mg x = some (.ref (He.ga K x)) := by
  obtain ⟨hp, X, G⟩ := T.glob
  exact He.glo_ok X G (T.d.fact i h)
theorem Tx.free (T : Tx K mg) (i : Nat) {x : Str} (h : fa[i]? = some (.free x)) : mg x = none := by
  obtain ⟨hp, X, G⟩ := T.glob
  exact He.free_ok X G (T.d.fact i h)
theorem Tx.int (T : Tx K mg) (i : Nat) {x : Str} {z : Int} (h : fa[i]? = some (.int x z)) : ∃ t, mg x = some (.int z t) := by
  obtain ⟨hp, X, G⟩ := T.glob
  exact He.int_ok X G (T.d.fact i h)
theorem Tx.str (T : Tx K mg) (i : Nat) {x z : Str} (h : fa[i]? = some (.str x z)) : ∃ t, mg x = some (.str z t) := by
  obtain ⟨hp, X, G⟩ := T.glob
  exact He.str_ok X G (T.d.fact i h)
theorem Tx.cls (T : Tx K mg) (i : Nat) {x : Str} (h : fa[i]? = some (.cls x)) : Cls K (He.ga K x) := He.cls_ok (T.d.fact i h)
theorem Tx.noat (T : Tx K mg) (i : Nat) {x f : Str} (h : fa[i]? = some (.noat x f)) : NoAttr K (He.ga K x) f := He.noat_ok (T.d.fact i h)
theorem Tx.meth (T : Tx K mg) (i : Nat) {x m : Str} (h : fa[i]? = some (.meth x m)) : Meth K (He.ga K x) m (He.ma K (He.ga K x) m) := He.meth_ok (T.d.fact i h)
theorem Tx.mkr (T : Tx K mg) (i : Nat) {x : Str} (h : fa[i]? = some (.mkr x)) : Mk K (He.ga K x) (He.ma K (He.ga K x) "__init__") := He.mkr_ok (T.d.fact i h)
theorem Tx.exm (T : Tx K mg) (i : Nat) {x y : Str} {b : Bool} (h : fa[i]? = some (.exm x y b)) : PySem.W.exmOne K (.ref (He.ga K x)) (.ref (He.ga K y)) = some b := He.exm_ok (T.d.fact i h)
/-- a def of the top as it stands -/
def FunG (K : PySem.W.Frag) (mg : Str → Option Value) (x name : Str) (st : Stmt) : Prop := ∃ fd, mg x = some (.ref (He.ga K x)) ∧ FunD K name name (defArgs st) (defBody st) (defScope st) [] [] (He.ga K x) fd
/-- a method of a class of the top -/
def FunM (K : PySem.W.Frag) (c m qual : Str) (st : Stmt) : Prop := ∃ fd, FunD K m qual (defArgs st) (defBody st) (defScope st) [] [] (He.ma K (He.ga K c) m) fd
theorem f_is_whole (T : Tx K mg) : FunG K mg "is_whole" "is_whole" s_is_whole := (T.d.def_ 0 (d := dd ("is_whole", none) "is_whole" "is_whole" s_is_whole) rfl).imp fun _ h => ⟨T.glo 0 rfl, h⟩
theorem f_is_value (T : Tx K mg) : FunG K mg "is_value" "is_value" s_is_value := (T.d.def_ 1 (d := dd ("is_value", none) "is_value" "is_value" s_is_value) rfl).imp fun _ h => ⟨T.glo 1 rfl, h⟩
theorem f_kind_of (T : Tx K mg) : FunG K mg "kind_of" "kind_of" s_kind_of := (T.d.def_ 2 (d := dd ("kind_of", none) "kind_of" "kind_of" s_kind_of) rfl).imp fun _ h => ⟨T.glo 2 rfl, h⟩
theorem f_rank_of (T : Tx K mg) : FunG K mg "rank_of" "rank_of" s_rank_of := (T.d.def_ 3 (d := dd ("rank_of", none) "rank_of" "rank_of" s_rank_of) rfl).imp fun _ h => ⟨T.glo 3 rfl, h⟩
theorem f_compare (T : Tx K mg) : FunG K mg "compare" "compare" s_compare := (T.d.def_ 4 (d := dd ("compare", none) "compare" "compare" s_compare) rfl).imp fun _ h => ⟨T.glo 4 rfl, h⟩
theorem f_is_name (T : Tx K mg) : FunG K mg "is_name" "is_name" s_is_name := (T.d.def_ 5 (d := dd ("is_name", none) "is_name" "is_name" s_is_name) rfl).imp fun _ h => ⟨T.glo 5 rfl, h⟩
theorem f_is_column (T : Tx K mg) : FunG K mg "is_column" "is_column" s_is_column := (T.d.def_ 6 (d := dd ("is_column", none) "is_column" "is_column" s_is_column) rfl).imp fun _ h => ⟨T.glo 6 rfl, h⟩
theorem f_is_shape (T : Tx K mg) : FunG K mg "is_shape" "is_shape" s_is_shape := (T.d.def_ 7 (d := dd ("is_shape", none) "is_shape" "is_shape" s_is_shape) rfl).imp fun _ h => ⟨T.glo 7 rfl, h⟩
theorem f_column_place (T : Tx K mg) : FunG K mg "column_place" "column_place" s_column_place := (T.d.def_ 8 (d := dd ("column_place", none) "column_place" "column_place" s_column_place) rfl).imp fun _ h => ⟨T.glo 8 rfl, h⟩
theorem f_fits (T : Tx K mg) : FunG K mg "fits" "fits" s_fits := (T.d.def_ 9 (d := dd ("fits", none) "fits" "fits" s_fits) rfl).imp fun _ h => ⟨T.glo 9 rfl, h⟩
theorem f_comes_ahead (T : Tx K mg) : FunG K mg "comes_ahead" "comes_ahead" s_comes_ahead := (T.d.def_ 10 (d := dd ("comes_ahead", none) "comes_ahead" "comes_ahead" s_comes_ahead) rfl).imp fun _ h => ⟨T.glo 10 rfl, h⟩
theorem f_empty_index (T : Tx K mg) : FunG K mg "empty_index" "empty_index" s_empty_index := (T.d.def_ 11 (d := dd ("empty_index", none) "empty_index" "empty_index" s_empty_index) rfl).imp fun _ h => ⟨T.glo 11 rfl, h⟩
theorem f_entries_of (T : Tx K mg) : FunG K mg "entries_of" "entries_of" s_entries_of := (T.d.def_ 12 (d := dd ("entries_of", none) "entries_of" "entries_of" s_entries_of) rfl).imp fun _ h => ⟨T.glo 12 rfl, h⟩
theorem f_many_in (T : Tx K mg) : FunG K mg "many_in" "many_in" s_many_in := (T.d.def_ 13 (d := dd ("many_in", none) "many_in" "many_in" s_many_in) rfl).imp fun _ h => ⟨T.glo 13 rfl, h⟩
theorem f_part_place (T : Tx K mg) : FunG K mg "part_place" "part_place" s_part_place := (T.d.def_ 14 (d := dd ("part_place", none) "part_place" "part_place" s_part_place) rfl).imp fun _ h => ⟨T.glo 14 rfl, h⟩
theorem f_leaf_place (T : Tx K mg) : FunG K mg "leaf_place" "leaf_place" s_leaf_place := (T.d.def_ 15 (d := dd ("leaf_place", none) "leaf_place" "leaf_place" s_leaf_place) rfl).imp fun _ h => ⟨T.glo 15 rfl, h⟩
theorem f_stands (T : Tx K mg) : FunG K mg "stands" "stands" s_stands := (T.d.def_ 16 (d := dd ("stands", none) "stands" "stands" s_stands) rfl).imp fun _ h => ⟨T.glo 16 rfl, h⟩
theorem f_is_entry (T : Tx K mg) : FunG K mg "is_entry" "is_entry" s_is_entry := (T.d.def_ 17 (d := dd ("is_entry", none) "is_entry" "is_entry" s_is_entry) rfl).imp fun _ h => ⟨T.glo 17 rfl, h⟩
theorem f_leaf_ends (T : Tx K mg) : FunG K mg "leaf_ends" "leaf_ends" s_leaf_ends := (T.d.def_ 18 (d := dd ("leaf_ends", none) "leaf_ends" "leaf_ends" s_leaf_ends) rfl).imp fun _ h => ⟨T.glo 18 rfl, h⟩
theorem f_part_ends (T : Tx K mg) : FunG K mg "part_ends" "part_ends" s_part_ends := (T.d.def_ 19 (d := dd ("part_ends", none) "part_ends" "part_ends" s_part_ends) rfl).imp fun _ h => ⟨T.glo 19 rfl, h⟩
theorem f_cell_ends (T : Tx K mg) : FunG K mg "cell_ends" "cell_ends" s_cell_ends := (T.d.def_ 20 (d := dd ("cell_ends", none) "cell_ends" "cell_ends" s_cell_ends) rfl).imp fun _ h => ⟨T.glo 20 rfl, h⟩
theorem f_is_index (T : Tx K mg) : FunG K mg "is_index" "is_index" s_is_index := (T.d.def_ 21 (d := dd ("is_index", none) "is_index" "is_index" s_is_index) rfl).imp fun _ h => ⟨T.glo 21 rfl, h⟩
theorem f_first_of_balance (T : Tx K mg) : FunG K mg "first_of_balance" "first_of" s_first_of_balance := (T.d.def_ 22 (d := dd ("first_of_balance", none) "first_of" "first_of" s_first_of_balance) rfl).imp fun _ h => ⟨T.glo 22 rfl, h⟩
theorem f_part_of (T : Tx K mg) : FunG K mg "part_of" "part_of" s_part_of := (T.d.def_ 23 (d := dd ("part_of", none) "part_of" "part_of" s_part_of) rfl).imp fun _ h => ⟨T.glo 23 rfl, h⟩
theorem f_cut (T : Tx K mg) : FunG K mg "cut" "cut" s_cut := (T.d.def_ 24 (d := dd ("cut", none) "cut" "cut" s_cut) rfl).imp fun _ h => ⟨T.glo 24 rfl, h⟩
theorem f_added (T : Tx K mg) : FunG K mg "added" "added" s_added := (T.d.def_ 25 (d := dd ("added", none) "added" "added" s_added) rfl).imp fun _ h => ⟨T.glo 25 rfl, h⟩
theorem f_with_entry (T : Tx K mg) : FunG K mg "with_entry" "with_entry" s_with_entry := (T.d.def_ 26 (d := dd ("with_entry", none) "with_entry" "with_entry" s_with_entry) rfl).imp fun _ h => ⟨T.glo 26 rfl, h⟩
theorem f_filled (T : Tx K mg) : FunG K mg "filled" "filled" s_filled := (T.d.def_ 27 (d := dd ("filled", none) "filled" "filled" s_filled) rfl).imp fun _ h => ⟨T.glo 27 rfl, h⟩
theorem f_taken (T : Tx K mg) : FunG K mg "taken" "taken" s_taken := (T.d.def_ 28 (d := dd ("taken", none) "taken" "taken" s_taken) rfl).imp fun _ h => ⟨T.glo 28 rfl, h⟩
theorem f_without_entry (T : Tx K mg) : FunG K mg "without_entry" "without_entry" s_without_entry := (T.d.def_ 29 (d := dd ("without_entry", none) "without_entry" "without_entry" s_without_entry) rfl).imp fun _ h => ⟨T.glo 29 rfl, h⟩
theorem f_index_from (T : Tx K mg) : FunG K mg "index_from" "index_from" s_index_from := (T.d.def_ 30 (d := dd ("index_from", none) "index_from" "index_from" s_index_from) rfl).imp fun _ h => ⟨T.glo 30 rfl, h⟩
theorem f_Table_init (T : Tx K mg) : FunM K "Table" "__init__" "Table.__init__" s_Table_init := T.d.def_ 31 (d := dd ("Table", some "__init__") "__init__" "Table.__init__" s_Table_init) rfl
theorem f_is_number (T : Tx K mg) : FunG K mg "is_number" "is_number" s_is_number := (T.d.def_ 32 (d := dd ("is_number", none) "is_number" "is_number" s_is_number) rfl).imp fun _ h => ⟨T.glo 31 rfl, h⟩
theorem f_new_table (T : Tx K mg) : FunG K mg "new_table" "new_table" s_new_table := (T.d.def_ 33 (d := dd ("new_table", none) "new_table" "new_table" s_new_table) rfl).imp fun _ h => ⟨T.glo 32 rfl, h⟩
theorem f_numbers_of (T : Tx K mg) : FunG K mg "numbers_of" "numbers_of" s_numbers_of := (T.d.def_ 34 (d := dd ("numbers_of", none) "numbers_of" "numbers_of" s_numbers_of) rfl).imp fun _ h => ⟨T.glo 33 rfl, h⟩
theorem f_entries_for (T : Tx K mg) : FunG K mg "entries_for" "entries_for" s_entries_for := (T.d.def_ 35 (d := dd ("entries_for", none) "entries_for" "entries_for" s_entries_for) rfl).imp fun _ h => ⟨T.glo 34 rfl, h⟩
theorem f_indexes_without (T : Tx K mg) : FunG K mg "indexes_without" "indexes_without" s_indexes_without := (T.d.def_ 36 (d := dd ("indexes_without", none) "indexes_without" "indexes_without" s_indexes_without) rfl).imp fun _ h => ⟨T.glo 35 rfl, h⟩
theorem f_without_row (T : Tx K mg) : FunG K mg "without_row" "without_row" s_without_row := (T.d.def_ 37 (d := dd ("without_row", none) "without_row" "without_row" s_without_row) rfl).imp fun _ h => ⟨T.glo 36 rfl, h⟩
theorem f_with_row (T : Tx K mg) : FunG K mg "with_row" "with_row" s_with_row := (T.d.def_ 38 (d := dd ("with_row", none) "with_row" "with_row" s_with_row) rfl).imp fun _ h => ⟨T.glo 37 rfl, h⟩
theorem f_with_index (T : Tx K mg) : FunG K mg "with_index" "with_index" s_with_index := (T.d.def_ 39 (d := dd ("with_index", none) "with_index" "with_index" s_with_index) rfl).imp fun _ h => ⟨T.glo 38 rfl, h⟩
theorem f_are_rows (T : Tx K mg) : FunG K mg "are_rows" "are_rows" s_are_rows := (T.d.def_ 40 (d := dd ("are_rows", none) "are_rows" "are_rows" s_are_rows) rfl).imp fun _ h => ⟨T.glo 39 rfl, h⟩
theorem f_is_table (T : Tx K mg) : FunG K mg "is_table" "is_table" s_is_table := (T.d.def_ 41 (d := dd ("is_table", none) "is_table" "is_table" s_is_table) rfl).imp fun _ h => ⟨T.glo 40 rfl, h⟩
theorem f_first_of_tables (T : Tx K mg) : FunG K mg "first_of_tables" "first_of" s_first_of_tables := (T.d.def_ 42 (d := dd ("first_of_tables", none) "first_of" "first_of" s_first_of_tables) rfl).imp fun _ h => ⟨T.glo 41 rfl, h⟩
theorem f_has_table (T : Tx K mg) : FunG K mg "has_table" "has_table" s_has_table := (T.d.def_ 43 (d := dd ("has_table", none) "has_table" "has_table" s_has_table) rfl).imp fun _ h => ⟨T.glo 42 rfl, h⟩
theorem f_with_table (T : Tx K mg) : FunG K mg "with_table" "with_table" s_with_table := (T.d.def_ 44 (d := dd ("with_table", none) "with_table" "with_table" s_with_table) rfl).imp fun _ h => ⟨T.glo 43 rfl, h⟩
theorem f_size_of (T : Tx K mg) : FunG K mg "size_of" "size_of" s_size_of := (T.d.def_ 45 (d := dd ("size_of", none) "size_of" "size_of" s_size_of) rfl).imp fun _ h => ⟨T.glo 44 rfl, h⟩
theorem f_need_table (T : Tx K mg) : FunG K mg "need_table" "need_table" s_need_table := (T.d.def_ 46 (d := dd ("need_table", none) "need_table" "need_table" s_need_table) rfl).imp fun _ h => ⟨T.glo 45 rfl, h⟩
theorem f_made (T : Tx K mg) : FunG K mg "made" "made" s_made := (T.d.def_ 47 (d := dd ("made", none) "made" "made" s_made) rfl).imp fun _ h => ⟨T.glo 46 rfl, h⟩
theorem f_ordered_by (T : Tx K mg) : FunG K mg "ordered_by" "ordered_by" s_ordered_by := (T.d.def_ 48 (d := dd ("ordered_by", none) "ordered_by" "ordered_by" s_ordered_by) rfl).imp fun _ h => ⟨T.glo 47 rfl, h⟩
theorem f_put (T : Tx K mg) : FunG K mg "put" "put" s_put := (T.d.def_ 49 (d := dd ("put", none) "put" "put" s_put) rfl).imp fun _ h => ⟨T.glo 48 rfl, h⟩
theorem f_dropped (T : Tx K mg) : FunG K mg "dropped" "dropped" s_dropped := (T.d.def_ 50 (d := dd ("dropped", none) "dropped" "dropped" s_dropped) rfl).imp fun _ h => ⟨T.glo 49 rfl, h⟩
theorem f_changed (T : Tx K mg) : FunG K mg "changed" "changed" s_changed := (T.d.def_ 51 (d := dd ("changed", none) "changed" "changed" s_changed) rfl).imp fun _ h => ⟨T.glo 50 rfl, h⟩
theorem f_all_changed (T : Tx K mg) : FunG K mg "all_changed" "all_changed" s_all_changed := (T.d.def_ 52 (d := dd ("all_changed", none) "all_changed" "all_changed" s_all_changed) rfl).imp fun _ h => ⟨T.glo 51 rfl, h⟩
theorem f_is_state (T : Tx K mg) : FunG K mg "is_state" "is_state" s_is_state := (T.d.def_ 53 (d := dd ("is_state", none) "is_state" "is_state" s_is_state) rfl).imp fun _ h => ⟨T.glo 52 rfl, h⟩
theorem f_key_of (T : Tx K mg) : FunG K mg "key_of" "key_of" s_key_of := (T.d.def_ 54 (d := dd ("key_of", none) "key_of" "key_of" s_key_of) rfl).imp fun _ h => ⟨T.glo 53 rfl, h⟩
theorem f_keys_of (T : Tx K mg) : FunG K mg "keys_of" "keys_of" s_keys_of := (T.d.def_ 55 (d := dd ("keys_of", none) "keys_of" "keys_of" s_keys_of) rfl).imp fun _ h => ⟨T.glo 54 rfl, h⟩
theorem f_meets (T : Tx K mg) : FunG K mg "meets" "meets" s_meets := (T.d.def_ 56 (d := dd ("meets", none) "meets" "meets" s_meets) rfl).imp fun _ h => ⟨T.glo 55 rfl, h⟩
theorem f_has_row (T : Tx K mg) : FunG K mg "has_row" "has_row" s_has_row := (T.d.def_ 57 (d := dd ("has_row", none) "has_row" "has_row" s_has_row) rfl).imp fun _ h => ⟨T.glo 56 rfl, h⟩
theorem f_Dealing_init (T : Tx K mg) : FunM K "Dealing" "__init__" "Dealing.__init__" s_Dealing_init := T.d.def_ 58 (d := dd ("Dealing", some "__init__") "__init__" "Dealing.__init__" s_Dealing_init) rfl
theorem f_Dealing_need_open (T : Tx K mg) : FunM K "Dealing" "need_open" "Dealing.need_open" s_Dealing_need_open := T.d.def_ 59 (d := dd ("Dealing", some "need_open") "need_open" "Dealing.need_open" s_Dealing_need_open) rfl
theorem f_Dealing_done (T : Tx K mg) : FunM K "Dealing" "done" "Dealing.done" s_Dealing_done := T.d.def_ 60 (d := dd ("Dealing", some "done") "done" "Dealing.done" s_Dealing_done) rfl
theorem f_Dealing_start (T : Tx K mg) : FunM K "Dealing" "start" "Dealing.start" s_Dealing_start := T.d.def_ 61 (d := dd ("Dealing", some "start") "start" "Dealing.start" s_Dealing_start) rfl
theorem f_Dealing_view (T : Tx K mg) : FunM K "Dealing" "view" "Dealing.view" s_Dealing_view := T.d.def_ 62 (d := dd ("Dealing", some "view") "view" "Dealing.view" s_Dealing_view) rfl
theorem f_Dealing_mine (T : Tx K mg) : FunM K "Dealing" "mine" "Dealing.mine" s_Dealing_mine := T.d.def_ 63 (d := dd ("Dealing", some "mine") "mine" "Dealing.mine" s_Dealing_mine) rfl
theorem f_Dealing_make (T : Tx K mg) : FunM K "Dealing" "make" "Dealing.make" s_Dealing_make := T.d.def_ 64 (d := dd ("Dealing", some "make") "make" "Dealing.make" s_Dealing_make) rfl
theorem f_Dealing_order_by (T : Tx K mg) : FunM K "Dealing" "order_by" "Dealing.order_by" s_Dealing_order_by := T.d.def_ 65 (d := dd ("Dealing", some "order_by") "order_by" "Dealing.order_by" s_Dealing_order_by) rfl
theorem f_Dealing_put (T : Tx K mg) : FunM K "Dealing" "put" "Dealing.put" s_Dealing_put := T.d.def_ 66 (d := dd ("Dealing", some "put") "put" "Dealing.put" s_Dealing_put) rfl
theorem f_Dealing_change (T : Tx K mg) : FunM K "Dealing" "change" "Dealing.change" s_Dealing_change := T.d.def_ 67 (d := dd ("Dealing", some "change") "change" "Dealing.change" s_Dealing_change) rfl
theorem f_Dealing_drop (T : Tx K mg) : FunM K "Dealing" "drop" "Dealing.drop" s_Dealing_drop := T.d.def_ 68 (d := dd ("Dealing", some "drop") "drop" "Dealing.drop" s_Dealing_drop) rfl
theorem f_Dealing_keep (T : Tx K mg) : FunM K "Dealing" "keep" "Dealing.keep" s_Dealing_keep := T.d.def_ 69 (d := dd ("Dealing", some "keep") "keep" "Dealing.keep" s_Dealing_keep) rfl
theorem f_Dealing_leave (T : Tx K mg) : FunM K "Dealing" "leave" "Dealing.leave" s_Dealing_leave := T.d.def_ 70 (d := dd ("Dealing", some "leave") "leave" "Dealing.leave" s_Dealing_leave) rfl
theorem f_Store_init (T : Tx K mg) : FunM K "Store" "__init__" "Store.__init__" s_Store_init := T.d.def_ 71 (d := dd ("Store", some "__init__") "__init__" "Store.__init__" s_Store_init) rfl
theorem f_Store_many (T : Tx K mg) : FunM K "Store" "many" "Store.many" s_Store_many := T.d.def_ 72 (d := dd ("Store", some "many") "many" "Store.many" s_Store_many) rfl
theorem f_Store_changes (T : Tx K mg) : FunM K "Store" "changes" "Store.changes" s_Store_changes := T.d.def_ 73 (d := dd ("Store", some "changes") "changes" "Store.changes" s_Store_changes) rfl
theorem f_Store_state (T : Tx K mg) : FunM K "Store" "state" "Store.state" s_Store_state := T.d.def_ 74 (d := dd ("Store", some "state") "state" "Store.state" s_Store_state) rfl
theorem f_Store_newest (T : Tx K mg) : FunM K "Store" "newest" "Store.newest" s_Store_newest := T.d.def_ 75 (d := dd ("Store", some "newest") "newest" "Store.newest" s_Store_newest) rfl
theorem f_Store_greatest (T : Tx K mg) : FunM K "Store" "greatest" "Store.greatest" s_Store_greatest := T.d.def_ 76 (d := dd ("Store", some "greatest") "greatest" "Store.greatest" s_Store_greatest) rfl
theorem f_Store_gave (T : Tx K mg) : FunM K "Store" "gave" "Store.gave" s_Store_gave := T.d.def_ 77 (d := dd ("Store", some "gave") "gave" "Store.gave" s_Store_gave) rfl
theorem f_Store_grow (T : Tx K mg) : FunM K "Store" "grow" "Store.grow" s_Store_grow := T.d.def_ 78 (d := dd ("Store", some "grow") "grow" "Store.grow" s_Store_grow) rfl
theorem f_begin (T : Tx K mg) : FunG K mg "begin" "begin" s_begin := (T.d.def_ 79 (d := dd ("begin", none) "begin" "begin" s_begin) rfl).imp fun _ h => ⟨T.glo 57 rfl, h⟩
theorem f_law_whole (T : Tx K mg) : FunG K mg "_law_whole" "_law_whole" s_law_whole := (T.d.def_ 80 (d := dd ("_law_whole", none) "_law_whole" "_law_whole" s_law_whole) rfl).imp fun _ h => ⟨T.glo 58 rfl, h⟩
theorem f_law_cell_at (T : Tx K mg) : FunG K mg "_law_cell_at" "_law_cell_at" s_law_cell_at := (T.d.def_ 81 (d := dd ("_law_cell_at", none) "_law_cell_at" "_law_cell_at" s_law_cell_at) rfl).imp fun _ h => ⟨T.glo 59 rfl, h⟩
theorem f_law_mixed (T : Tx K mg) : FunG K mg "_law_mixed" "_law_mixed" s_law_mixed := (T.d.def_ 82 (d := dd ("_law_mixed", none) "_law_mixed" "_law_mixed" s_law_mixed) rfl).imp fun _ h => ⟨T.glo 60 rfl, h⟩
theorem f_law_name_by (T : Tx K mg) : FunG K mg "_law_name_by" "_law_name_by" s_law_name_by := (T.d.def_ 83 (d := dd ("_law_name_by", none) "_law_name_by" "_law_name_by" s_law_name_by) rfl).imp fun _ h => ⟨T.glo 61 rfl, h⟩
theorem f_law_twin (T : Tx K mg) : FunG K mg "_law_twin" "_law_twin" s_law_twin := (T.d.def_ 84 (d := dd ("_law_twin", none) "_law_twin" "_law_twin" s_law_twin) rfl).imp fun _ h => ⟨T.glo 62 rfl, h⟩
theorem f_law_shape_by (T : Tx K mg) : FunG K mg "_law_shape_by" "_law_shape_by" s_law_shape_by := (T.d.def_ 85 (d := dd ("_law_shape_by", none) "_law_shape_by" "_law_shape_by" s_law_shape_by) rfl).imp fun _ h => ⟨T.glo 63 rfl, h⟩
theorem f_law_text_by (T : Tx K mg) : FunG K mg "_law_text_by" "_law_text_by" s_law_text_by := (T.d.def_ 86 (d := dd ("_law_text_by", none) "_law_text_by" "_law_text_by" s_law_text_by) rfl).imp fun _ h => ⟨T.glo 64 rfl, h⟩
theorem f_law_value_by (T : Tx K mg) : FunG K mg "_law_value_by" "_law_value_by" s_law_value_by := (T.d.def_ 87 (d := dd ("_law_value_by", none) "_law_value_by" "_law_value_by" s_law_value_by) rfl).imp fun _ h => ⟨T.glo 65 rfl, h⟩
theorem f_law_row_by (T : Tx K mg) : FunG K mg "_law_row_by" "_law_row_by" s_law_row_by := (T.d.def_ 88 (d := dd ("_law_row_by", none) "_law_row_by" "_law_row_by" s_law_row_by) rfl).imp fun _ h => ⟨T.glo 66 rfl, h⟩
theorem f_law_place (T : Tx K mg) : FunG K mg "_law_place" "_law_place" s_law_place := (T.d.def_ 89 (d := dd ("_law_place", none) "_law_place" "_law_place" s_law_place) rfl).imp fun _ h => ⟨T.glo 67 rfl, h⟩
theorem f_law_after (T : Tx K mg) : FunG K mg "_law_after" "_law_after" s_law_after := (T.d.def_ 90 (d := dd ("_law_after", none) "_law_after" "_law_after" s_law_after) rfl).imp fun _ h => ⟨T.glo 68 rfl, h⟩
theorem f_law_all_after (T : Tx K mg) : FunG K mg "_law_all_after" "_law_all_after" s_law_all_after := (T.d.def_ 91 (d := dd ("_law_all_after", none) "_law_all_after" "_law_all_after" s_law_all_after) rfl).imp fun _ h => ⟨T.glo 69 rfl, h⟩
theorem f_law_entry_key (T : Tx K mg) : FunG K mg "_law_entry_key" "_law_entry_key" s_law_entry_key := (T.d.def_ 92 (d := dd ("_law_entry_key", none) "_law_entry_key" "_law_entry_key" s_law_entry_key) rfl).imp fun _ h => ⟨T.glo 70 rfl, h⟩
theorem f_law_rows_same (T : Tx K mg) : FunG K mg "_law_rows_same" "_law_rows_same" s_law_rows_same := (T.d.def_ 93 (d := dd ("_law_rows_same", none) "_law_rows_same" "_law_rows_same" s_law_rows_same) rfl).imp fun _ h => ⟨T.glo 71 rfl, h⟩
theorem f_law_table_same (T : Tx K mg) : FunG K mg "_law_table_same" "_law_table_same" s_law_table_same := (T.d.def_ 94 (d := dd ("_law_table_same", none) "_law_table_same" "_law_table_same" s_law_table_same) rfl).imp fun _ h => ⟨T.glo 72 rfl, h⟩
theorem f_law_same (T : Tx K mg) : FunG K mg "_law_same" "_law_same" s_law_same := (T.d.def_ 95 (d := dd ("_law_same", none) "_law_same" "_law_same" s_law_same) rfl).imp fun _ h => ⟨T.glo 73 rfl, h⟩
theorem f_law_alone (T : Tx K mg) : FunG K mg "_law_alone" "_law_alone" s_law_alone := (T.d.def_ 96 (d := dd ("_law_alone", none) "_law_alone" "_law_alone" s_law_alone) rfl).imp fun _ h => ⟨T.glo 74 rfl, h⟩
theorem f_law_call (T : Tx K mg) : FunG K mg "_law_call" "_law_call" s_law_call := (T.d.def_ 97 (d := dd ("_law_call", none) "_law_call" "_law_call" s_law_call) rfl).imp fun _ h => ⟨T.glo 75 rfl, h⟩
theorem f_law_refusal (T : Tx K mg) : FunG K mg "_law_refusal" "_law_refusal" s_law_refusal := (T.d.def_ 98 (d := dd ("_law_refusal", none) "_law_refusal" "_law_refusal" s_law_refusal) rfl).imp fun _ h => ⟨T.glo 76 rfl, h⟩
theorem f_law_one (T : Tx K mg) : FunG K mg "_law_one" "_law_one" s_law_one := (T.d.def_ 99 (d := dd ("_law_one", none) "_law_one" "_law_one" s_law_one) rfl).imp fun _ h => ⟨T.glo 77 rfl, h⟩
theorem f_law_due (T : Tx K mg) : FunG K mg "_law_due" "_law_due" s_law_due := (T.d.def_ 100 (d := dd ("_law_due", none) "_law_due" "_law_due" s_law_due) rfl).imp fun _ h => ⟨T.glo 78 rfl, h⟩
theorem f_law_row_of (T : Tx K mg) : FunG K mg "_law_row_of" "_law_row_of" s_law_row_of := (T.d.def_ 101 (d := dd ("_law_row_of", none) "_law_row_of" "_law_row_of" s_law_row_of) rfl).imp fun _ h => ⟨T.glo 79 rfl, h⟩
theorem f_law_given (T : Tx K mg) : FunG K mg "_law_given" "_law_given" s_law_given := (T.d.def_ 102 (d := dd ("_law_given", none) "_law_given" "_law_given" s_law_given) rfl).imp fun _ h => ⟨T.glo 80 rfl, h⟩
theorem f_law_once (T : Tx K mg) : FunG K mg "_law_once" "_law_once" s_law_once := (T.d.def_ 103 (d := dd ("_law_once", none) "_law_once" "_law_once" s_law_once) rfl).imp fun _ h => ⟨T.glo 81 rfl, h⟩
theorem f_law (T : Tx K mg) : FunG K mg "law" "law" s_law := (T.d.def_ 104 (d := dd ("law", none) "law" "law" s_law) rfl).imp fun _ h => ⟨T.glo 82 rfl, h⟩
theorem g_Table (T : Tx K mg) : mg "Table" = some (.ref (He.ga K "Table")) := T.glo 83 rfl
theorem g_Dealing (T : Tx K mg) : mg "Dealing" = some (.ref (He.ga K "Dealing")) := T.glo 84 rfl
theorem g_Store (T : Tx K mg) : mg "Store" = some (.ref (He.ga K "Store")) := T.glo 85 rfl
theorem g_TableError (T : Tx K mg) : mg "TableError" = some (.ref (He.ga K "TableError")) := T.glo 86 rfl
theorem g_BadValue (T : Tx K mg) : mg "BadValue" = some (.ref (He.ga K "BadValue")) := T.glo 87 rfl
theorem g_BadShape (T : Tx K mg) : mg "BadShape" = some (.ref (He.ga K "BadShape")) := T.glo 88 rfl
theorem g_BadChange (T : Tx K mg) : mg "BadChange" = some (.ref (He.ga K "BadChange")) := T.glo 89 rfl
theorem g_BadRow (T : Tx K mg) : mg "BadRow" = some (.ref (He.ga K "BadRow")) := T.glo 90 rfl
theorem g_NoTable (T : Tx K mg) : mg "NoTable" = some (.ref (He.ga K "NoTable")) := T.glo 91 rfl
theorem g_TableThere (T : Tx K mg) : mg "TableThere" = some (.ref (He.ga K "TableThere")) := T.glo 92 rfl
theorem g_NoColumn (T : Tx K mg) : mg "NoColumn" = some (.ref (He.ga K "NoColumn")) := T.glo 93 rfl
theorem g_IndexThere (T : Tx K mg) : mg "IndexThere" = some (.ref (He.ga K "IndexThere")) := T.glo 94 rfl
theorem g_NoRow (T : Tx K mg) : mg "NoRow" = some (.ref (He.ga K "NoRow")) := T.glo 95 rfl
theorem g_Over (T : Tx K mg) : mg "Over" = some (.ref (He.ga K "Over")) := T.glo 96 rfl
theorem g_Clash (T : Tx K mg) : mg "Clash" = some (.ref (He.ga K "Clash")) := T.glo 97 rfl
theorem g_BadLog (T : Tx K mg) : mg "BadLog" = some (.ref (He.ga K "BadLog")) := T.glo 98 rfl
theorem g_BadQuestion (T : Tx K mg) : mg "BadQuestion" = some (.ref (He.ga K "BadQuestion")) := T.glo 99 rfl
theorem g_BadDesk (T : Tx K mg) : mg "BadDesk" = some (.ref (He.ga K "BadDesk")) := T.glo 100 rfl
theorem g_WORDS (T : Tx K mg) : mg "WORDS" = some (.ref (He.ga K "WORDS")) := T.glo 123 rfl
theorem n_isinstance (T : Tx K mg) : mg "isinstance" = none := T.free 101 rfl
theorem n_int (T : Tx K mg) : mg "int" = none := T.free 102 rfl
theorem n_bool (T : Tx K mg) : mg "bool" = none := T.free 103 rfl
theorem n_str (T : Tx K mg) : mg "str" = none := T.free 104 rfl
theorem n_tuple (T : Tx K mg) : mg "tuple" = none := T.free 105 rfl
theorem n_dict (T : Tx K mg) : mg "dict" = none := T.free 106 rfl
theorem n_list (T : Tx K mg) : mg "list" = none := T.free 107 rfl
theorem n_len (T : Tx K mg) : mg "len" = none := T.free 108 rfl
theorem n_enumerate (T : Tx K mg) : mg "enumerate" = none := T.free 109 rfl
theorem n_zip (T : Tx K mg) : mg "zip" = none := T.free 110 rfl
theorem n_range (T : Tx K mg) : mg "range" = none := T.free 111 rfl
theorem n_sorted (T : Tx K mg) : mg "sorted" = none := T.free 112 rfl
theorem n_max (T : Tx K mg) : mg "max" = none := T.free 113 rfl
theorem n_ValueError (T : Tx K mg) : mg "ValueError" = none := T.free 114 rfl
theorem i_LIMIT (T : Tx K mg) : ∃ t, mg "LIMIT" = some (.int 1000000000000000000 t) := T.int 115 rfl
theorem i_SIGNS (T : Tx K mg) : ∃ t, mg "SIGNS" = some (.int 40 t) := T.int 116 rfl
theorem i_MOST_LETTERS (T : Tx K mg) : ∃ t, mg "MOST_LETTERS" = some (.int 8 t) := T.int 117 rfl
theorem i_MOST_COLUMNS (T : Tx K mg) : ∃ t, mg "MOST_COLUMNS" = some (.int 8 t) := T.int 118 rfl
theorem i_LEAST (T : Tx K mg) : ∃ t, mg "LEAST" = some (.int 4 t) := T.int 119 rfl
theorem i_MOST (T : Tx K mg) : ∃ t, mg "MOST" = some (.int 8 t) := T.int 120 rfl
theorem i_MOST_NUMBER_ordered (T : Tx K mg) : ∃ t, mg "MOST_NUMBER_ordered" = some (.int 1000000000 t) := T.int 121 rfl
theorem i_MOST_NUMBER_tables (T : Tx K mg) : ∃ t, mg "MOST_NUMBER_tables" = some (.int 1000000000 t) := T.int 122 rfl
theorem i_LETTERS (T : Tx K mg) : ∃ t, mg "LETTERS" = some (.str "abcdefghijklmnopqrstuvwxyz" t) := T.str 124 rfl
theorem c_Table (T : Tx K mg) : Cls K (He.ga K "Table") := T.cls 125 rfl
theorem mk_Table (T : Tx K mg) : Mk K (He.ga K "Table") (He.ma K (He.ga K "Table") "__init__") := T.mkr 126 rfl
theorem no_Table_shape (T : Tx K mg) : NoAttr K (He.ga K "Table") "shape" := T.noat 127 rfl
theorem no_Table_rows (T : Tx K mg) : NoAttr K (He.ga K "Table") "rows" := T.noat 128 rfl
theorem no_Table_indexes (T : Tx K mg) : NoAttr K (He.ga K "Table") "indexes" := T.noat 129 rfl
theorem c_Dealing (T : Tx K mg) : Cls K (He.ga K "Dealing") := T.cls 130 rfl
theorem mk_Dealing (T : Tx K mg) : Mk K (He.ga K "Dealing") (He.ma K (He.ga K "Dealing") "__init__") := T.mkr 131 rfl
theorem no_Dealing_store (T : Tx K mg) : NoAttr K (He.ga K "Dealing") "store" := T.noat 132 rfl
theorem no_Dealing_begun (T : Tx K mg) : NoAttr K (He.ga K "Dealing") "begun" := T.noat 133 rfl
theorem no_Dealing_seen (T : Tx K mg) : NoAttr K (He.ga K "Dealing") "seen" := T.noat 134 rfl
theorem no_Dealing_own (T : Tx K mg) : NoAttr K (He.ga K "Dealing") "own" := T.noat 135 rfl
theorem no_Dealing_live (T : Tx K mg) : NoAttr K (He.ga K "Dealing") "live" := T.noat 136 rfl
theorem m_Dealing_need_open (T : Tx K mg) : Meth K (He.ga K "Dealing") "need_open" (He.ma K (He.ga K "Dealing") "need_open") := T.meth 137 rfl
theorem m_Dealing_done (T : Tx K mg) : Meth K (He.ga K "Dealing") "done" (He.ma K (He.ga K "Dealing") "done") := T.meth 138 rfl
theorem m_Dealing_start (T : Tx K mg) : Meth K (He.ga K "Dealing") "start" (He.ma K (He.ga K "Dealing") "start") := T.meth 139 rfl
theorem m_Dealing_view (T : Tx K mg) : Meth K (He.ga K "Dealing") "view" (He.ma K (He.ga K "Dealing") "view") := T.meth 140 rfl
theorem m_Dealing_mine (T : Tx K mg) : Meth K (He.ga K "Dealing") "mine" (He.ma K (He.ga K "Dealing") "mine") := T.meth 141 rfl
theorem m_Dealing_make (T : Tx K mg) : Meth K (He.ga K "Dealing") "make" (He.ma K (He.ga K "Dealing") "make") := T.meth 142 rfl
theorem m_Dealing_order_by (T : Tx K mg) : Meth K (He.ga K "Dealing") "order_by" (He.ma K (He.ga K "Dealing") "order_by") := T.meth 143 rfl
theorem m_Dealing_put (T : Tx K mg) : Meth K (He.ga K "Dealing") "put" (He.ma K (He.ga K "Dealing") "put") := T.meth 144 rfl
theorem m_Dealing_change (T : Tx K mg) : Meth K (He.ga K "Dealing") "change" (He.ma K (He.ga K "Dealing") "change") := T.meth 145 rfl
theorem m_Dealing_drop (T : Tx K mg) : Meth K (He.ga K "Dealing") "drop" (He.ma K (He.ga K "Dealing") "drop") := T.meth 146 rfl
theorem m_Dealing_keep (T : Tx K mg) : Meth K (He.ga K "Dealing") "keep" (He.ma K (He.ga K "Dealing") "keep") := T.meth 147 rfl
theorem m_Dealing_leave (T : Tx K mg) : Meth K (He.ga K "Dealing") "leave" (He.ma K (He.ga K "Dealing") "leave") := T.meth 148 rfl
theorem c_Store (T : Tx K mg) : Cls K (He.ga K "Store") := T.cls 149 rfl
theorem mk_Store (T : Tx K mg) : Mk K (He.ga K "Store") (He.ma K (He.ga K "Store") "__init__") := T.mkr 150 rfl
theorem no_Store_kept (T : Tx K mg) : NoAttr K (He.ga K "Store") "kept" := T.noat 151 rfl
theorem no_Store_past (T : Tx K mg) : NoAttr K (He.ga K "Store") "past" := T.noat 152 rfl
theorem no_Store_given (T : Tx K mg) : NoAttr K (He.ga K "Store") "given" := T.noat 153 rfl
theorem m_Store_many (T : Tx K mg) : Meth K (He.ga K "Store") "many" (He.ma K (He.ga K "Store") "many") := T.meth 154 rfl
theorem m_Store_changes (T : Tx K mg) : Meth K (He.ga K "Store") "changes" (He.ma K (He.ga K "Store") "changes") := T.meth 155 rfl
theorem m_Store_state (T : Tx K mg) : Meth K (He.ga K "Store") "state" (He.ma K (He.ga K "Store") "state") := T.meth 156 rfl
theorem m_Store_newest (T : Tx K mg) : Meth K (He.ga K "Store") "newest" (He.ma K (He.ga K "Store") "newest") := T.meth 157 rfl
theorem m_Store_greatest (T : Tx K mg) : Meth K (He.ga K "Store") "greatest" (He.ma K (He.ga K "Store") "greatest") := T.meth 158 rfl
theorem m_Store_gave (T : Tx K mg) : Meth K (He.ga K "Store") "gave" (He.ma K (He.ga K "Store") "gave") := T.meth 159 rfl
theorem m_Store_grow (T : Tx K mg) : Meth K (He.ga K "Store") "grow" (He.ma K (He.ga K "Store") "grow") := T.meth 160 rfl
theorem x_BadShape_Over (T : Tx K mg) : PySem.W.exmOne K (.ref (He.ga K "BadShape")) (.ref (He.ga K "Over")) = some false := T.exm 161 rfl
theorem x_BadShape_BadShape (T : Tx K mg) : PySem.W.exmOne K (.ref (He.ga K "BadShape")) (.ref (He.ga K "BadShape")) = some true := T.exm 162 rfl
theorem x_BadShape_TableThere (T : Tx K mg) : PySem.W.exmOne K (.ref (He.ga K "BadShape")) (.ref (He.ga K "TableThere")) = some false := T.exm 163 rfl
theorem x_BadShape_NoTable (T : Tx K mg) : PySem.W.exmOne K (.ref (He.ga K "BadShape")) (.ref (He.ga K "NoTable")) = some false := T.exm 164 rfl
theorem x_BadShape_NoColumn (T : Tx K mg) : PySem.W.exmOne K (.ref (He.ga K "BadShape")) (.ref (He.ga K "NoColumn")) = some false := T.exm 165 rfl
theorem x_BadShape_IndexThere (T : Tx K mg) : PySem.W.exmOne K (.ref (He.ga K "BadShape")) (.ref (He.ga K "IndexThere")) = some false := T.exm 166 rfl
theorem x_BadShape_NoRow (T : Tx K mg) : PySem.W.exmOne K (.ref (He.ga K "BadShape")) (.ref (He.ga K "NoRow")) = some false := T.exm 167 rfl
theorem x_BadShape_BadRow (T : Tx K mg) : PySem.W.exmOne K (.ref (He.ga K "BadShape")) (.ref (He.ga K "BadRow")) = some false := T.exm 168 rfl
theorem x_BadShape_TableError (T : Tx K mg) : PySem.W.exmOne K (.ref (He.ga K "BadShape")) (.ref (He.ga K "TableError")) = some true := T.exm 169 rfl
theorem x_BadChange_Over (T : Tx K mg) : PySem.W.exmOne K (.ref (He.ga K "BadChange")) (.ref (He.ga K "Over")) = some false := T.exm 170 rfl
theorem x_BadChange_BadShape (T : Tx K mg) : PySem.W.exmOne K (.ref (He.ga K "BadChange")) (.ref (He.ga K "BadShape")) = some false := T.exm 171 rfl
theorem x_BadChange_TableThere (T : Tx K mg) : PySem.W.exmOne K (.ref (He.ga K "BadChange")) (.ref (He.ga K "TableThere")) = some false := T.exm 172 rfl
theorem x_BadChange_NoTable (T : Tx K mg) : PySem.W.exmOne K (.ref (He.ga K "BadChange")) (.ref (He.ga K "NoTable")) = some false := T.exm 173 rfl
theorem x_BadChange_NoColumn (T : Tx K mg) : PySem.W.exmOne K (.ref (He.ga K "BadChange")) (.ref (He.ga K "NoColumn")) = some false := T.exm 174 rfl
theorem x_BadChange_IndexThere (T : Tx K mg) : PySem.W.exmOne K (.ref (He.ga K "BadChange")) (.ref (He.ga K "IndexThere")) = some false := T.exm 175 rfl
theorem x_BadChange_NoRow (T : Tx K mg) : PySem.W.exmOne K (.ref (He.ga K "BadChange")) (.ref (He.ga K "NoRow")) = some false := T.exm 176 rfl
theorem x_BadChange_BadRow (T : Tx K mg) : PySem.W.exmOne K (.ref (He.ga K "BadChange")) (.ref (He.ga K "BadRow")) = some false := T.exm 177 rfl
theorem x_BadChange_TableError (T : Tx K mg) : PySem.W.exmOne K (.ref (He.ga K "BadChange")) (.ref (He.ga K "TableError")) = some true := T.exm 178 rfl
theorem x_BadRow_Over (T : Tx K mg) : PySem.W.exmOne K (.ref (He.ga K "BadRow")) (.ref (He.ga K "Over")) = some false := T.exm 179 rfl
theorem x_BadRow_BadShape (T : Tx K mg) : PySem.W.exmOne K (.ref (He.ga K "BadRow")) (.ref (He.ga K "BadShape")) = some false := T.exm 180 rfl
theorem x_BadRow_TableThere (T : Tx K mg) : PySem.W.exmOne K (.ref (He.ga K "BadRow")) (.ref (He.ga K "TableThere")) = some false := T.exm 181 rfl
theorem x_BadRow_NoTable (T : Tx K mg) : PySem.W.exmOne K (.ref (He.ga K "BadRow")) (.ref (He.ga K "NoTable")) = some false := T.exm 182 rfl
theorem x_BadRow_NoColumn (T : Tx K mg) : PySem.W.exmOne K (.ref (He.ga K "BadRow")) (.ref (He.ga K "NoColumn")) = some false := T.exm 183 rfl
theorem x_BadRow_IndexThere (T : Tx K mg) : PySem.W.exmOne K (.ref (He.ga K "BadRow")) (.ref (He.ga K "IndexThere")) = some false := T.exm 184 rfl
theorem x_BadRow_NoRow (T : Tx K mg) : PySem.W.exmOne K (.ref (He.ga K "BadRow")) (.ref (He.ga K "NoRow")) = some false := T.exm 185 rfl
theorem x_BadRow_BadRow (T : Tx K mg) : PySem.W.exmOne K (.ref (He.ga K "BadRow")) (.ref (He.ga K "BadRow")) = some true := T.exm 186 rfl
theorem x_BadRow_TableError (T : Tx K mg) : PySem.W.exmOne K (.ref (He.ga K "BadRow")) (.ref (He.ga K "TableError")) = some true := T.exm 187 rfl
theorem x_NoTable_Over (T : Tx K mg) : PySem.W.exmOne K (.ref (He.ga K "NoTable")) (.ref (He.ga K "Over")) = some false := T.exm 188 rfl
theorem x_NoTable_BadShape (T : Tx K mg) : PySem.W.exmOne K (.ref (He.ga K "NoTable")) (.ref (He.ga K "BadShape")) = some false := T.exm 189 rfl
theorem x_NoTable_TableThere (T : Tx K mg) : PySem.W.exmOne K (.ref (He.ga K "NoTable")) (.ref (He.ga K "TableThere")) = some false := T.exm 190 rfl
theorem x_NoTable_NoTable (T : Tx K mg) : PySem.W.exmOne K (.ref (He.ga K "NoTable")) (.ref (He.ga K "NoTable")) = some true := T.exm 191 rfl
theorem x_NoTable_NoColumn (T : Tx K mg) : PySem.W.exmOne K (.ref (He.ga K "NoTable")) (.ref (He.ga K "NoColumn")) = some false := T.exm 192 rfl
theorem x_NoTable_IndexThere (T : Tx K mg) : PySem.W.exmOne K (.ref (He.ga K "NoTable")) (.ref (He.ga K "IndexThere")) = some false := T.exm 193 rfl
theorem x_NoTable_NoRow (T : Tx K mg) : PySem.W.exmOne K (.ref (He.ga K "NoTable")) (.ref (He.ga K "NoRow")) = some false := T.exm 194 rfl
theorem x_NoTable_BadRow (T : Tx K mg) : PySem.W.exmOne K (.ref (He.ga K "NoTable")) (.ref (He.ga K "BadRow")) = some false := T.exm 195 rfl
theorem x_NoTable_TableError (T : Tx K mg) : PySem.W.exmOne K (.ref (He.ga K "NoTable")) (.ref (He.ga K "TableError")) = some true := T.exm 196 rfl
theorem x_TableThere_Over (T : Tx K mg) : PySem.W.exmOne K (.ref (He.ga K "TableThere")) (.ref (He.ga K "Over")) = some false := T.exm 197 rfl
theorem x_TableThere_BadShape (T : Tx K mg) : PySem.W.exmOne K (.ref (He.ga K "TableThere")) (.ref (He.ga K "BadShape")) = some false := T.exm 198 rfl
theorem x_TableThere_TableThere (T : Tx K mg) : PySem.W.exmOne K (.ref (He.ga K "TableThere")) (.ref (He.ga K "TableThere")) = some true := T.exm 199 rfl
theorem x_TableThere_NoTable (T : Tx K mg) : PySem.W.exmOne K (.ref (He.ga K "TableThere")) (.ref (He.ga K "NoTable")) = some false := T.exm 200 rfl
theorem x_TableThere_NoColumn (T : Tx K mg) : PySem.W.exmOne K (.ref (He.ga K "TableThere")) (.ref (He.ga K "NoColumn")) = some false := T.exm 201 rfl
theorem x_TableThere_IndexThere (T : Tx K mg) : PySem.W.exmOne K (.ref (He.ga K "TableThere")) (.ref (He.ga K "IndexThere")) = some false := T.exm 202 rfl
theorem x_TableThere_NoRow (T : Tx K mg) : PySem.W.exmOne K (.ref (He.ga K "TableThere")) (.ref (He.ga K "NoRow")) = some false := T.exm 203 rfl
theorem x_TableThere_BadRow (T : Tx K mg) : PySem.W.exmOne K (.ref (He.ga K "TableThere")) (.ref (He.ga K "BadRow")) = some false := T.exm 204 rfl
theorem x_TableThere_TableError (T : Tx K mg) : PySem.W.exmOne K (.ref (He.ga K "TableThere")) (.ref (He.ga K "TableError")) = some true := T.exm 205 rfl
theorem x_NoColumn_Over (T : Tx K mg) : PySem.W.exmOne K (.ref (He.ga K "NoColumn")) (.ref (He.ga K "Over")) = some false := T.exm 206 rfl
theorem x_NoColumn_BadShape (T : Tx K mg) : PySem.W.exmOne K (.ref (He.ga K "NoColumn")) (.ref (He.ga K "BadShape")) = some false := T.exm 207 rfl
theorem x_NoColumn_TableThere (T : Tx K mg) : PySem.W.exmOne K (.ref (He.ga K "NoColumn")) (.ref (He.ga K "TableThere")) = some false := T.exm 208 rfl
theorem x_NoColumn_NoTable (T : Tx K mg) : PySem.W.exmOne K (.ref (He.ga K "NoColumn")) (.ref (He.ga K "NoTable")) = some false := T.exm 209 rfl
theorem x_NoColumn_NoColumn (T : Tx K mg) : PySem.W.exmOne K (.ref (He.ga K "NoColumn")) (.ref (He.ga K "NoColumn")) = some true := T.exm 210 rfl
theorem x_NoColumn_IndexThere (T : Tx K mg) : PySem.W.exmOne K (.ref (He.ga K "NoColumn")) (.ref (He.ga K "IndexThere")) = some false := T.exm 211 rfl
theorem x_NoColumn_NoRow (T : Tx K mg) : PySem.W.exmOne K (.ref (He.ga K "NoColumn")) (.ref (He.ga K "NoRow")) = some false := T.exm 212 rfl
theorem x_NoColumn_BadRow (T : Tx K mg) : PySem.W.exmOne K (.ref (He.ga K "NoColumn")) (.ref (He.ga K "BadRow")) = some false := T.exm 213 rfl
theorem x_NoColumn_TableError (T : Tx K mg) : PySem.W.exmOne K (.ref (He.ga K "NoColumn")) (.ref (He.ga K "TableError")) = some true := T.exm 214 rfl
theorem x_IndexThere_Over (T : Tx K mg) : PySem.W.exmOne K (.ref (He.ga K "IndexThere")) (.ref (He.ga K "Over")) = some false := T.exm 215 rfl
theorem x_IndexThere_BadShape (T : Tx K mg) : PySem.W.exmOne K (.ref (He.ga K "IndexThere")) (.ref (He.ga K "BadShape")) = some false := T.exm 216 rfl
theorem x_IndexThere_TableThere (T : Tx K mg) : PySem.W.exmOne K (.ref (He.ga K "IndexThere")) (.ref (He.ga K "TableThere")) = some false := T.exm 217 rfl
theorem x_IndexThere_NoTable (T : Tx K mg) : PySem.W.exmOne K (.ref (He.ga K "IndexThere")) (.ref (He.ga K "NoTable")) = some false := T.exm 218 rfl
theorem x_IndexThere_NoColumn (T : Tx K mg) : PySem.W.exmOne K (.ref (He.ga K "IndexThere")) (.ref (He.ga K "NoColumn")) = some false := T.exm 219 rfl
theorem x_IndexThere_IndexThere (T : Tx K mg) : PySem.W.exmOne K (.ref (He.ga K "IndexThere")) (.ref (He.ga K "IndexThere")) = some true := T.exm 220 rfl
theorem x_IndexThere_NoRow (T : Tx K mg) : PySem.W.exmOne K (.ref (He.ga K "IndexThere")) (.ref (He.ga K "NoRow")) = some false := T.exm 221 rfl
theorem x_IndexThere_BadRow (T : Tx K mg) : PySem.W.exmOne K (.ref (He.ga K "IndexThere")) (.ref (He.ga K "BadRow")) = some false := T.exm 222 rfl
theorem x_IndexThere_TableError (T : Tx K mg) : PySem.W.exmOne K (.ref (He.ga K "IndexThere")) (.ref (He.ga K "TableError")) = some true := T.exm 223 rfl
theorem x_NoRow_Over (T : Tx K mg) : PySem.W.exmOne K (.ref (He.ga K "NoRow")) (.ref (He.ga K "Over")) = some false := T.exm 224 rfl
theorem x_NoRow_BadShape (T : Tx K mg) : PySem.W.exmOne K (.ref (He.ga K "NoRow")) (.ref (He.ga K "BadShape")) = some false := T.exm 225 rfl
theorem x_NoRow_TableThere (T : Tx K mg) : PySem.W.exmOne K (.ref (He.ga K "NoRow")) (.ref (He.ga K "TableThere")) = some false := T.exm 226 rfl
theorem x_NoRow_NoTable (T : Tx K mg) : PySem.W.exmOne K (.ref (He.ga K "NoRow")) (.ref (He.ga K "NoTable")) = some false := T.exm 227 rfl
theorem x_NoRow_NoColumn (T : Tx K mg) : PySem.W.exmOne K (.ref (He.ga K "NoRow")) (.ref (He.ga K "NoColumn")) = some false := T.exm 228 rfl
theorem x_NoRow_IndexThere (T : Tx K mg) : PySem.W.exmOne K (.ref (He.ga K "NoRow")) (.ref (He.ga K "IndexThere")) = some false := T.exm 229 rfl
theorem x_NoRow_NoRow (T : Tx K mg) : PySem.W.exmOne K (.ref (He.ga K "NoRow")) (.ref (He.ga K "NoRow")) = some true := T.exm 230 rfl
theorem x_NoRow_BadRow (T : Tx K mg) : PySem.W.exmOne K (.ref (He.ga K "NoRow")) (.ref (He.ga K "BadRow")) = some false := T.exm 231 rfl
theorem x_NoRow_TableError (T : Tx K mg) : PySem.W.exmOne K (.ref (He.ga K "NoRow")) (.ref (He.ga K "TableError")) = some true := T.exm 232 rfl
theorem x_Over_Over (T : Tx K mg) : PySem.W.exmOne K (.ref (He.ga K "Over")) (.ref (He.ga K "Over")) = some true := T.exm 233 rfl
theorem x_Over_BadShape (T : Tx K mg) : PySem.W.exmOne K (.ref (He.ga K "Over")) (.ref (He.ga K "BadShape")) = some false := T.exm 234 rfl
theorem x_Over_TableThere (T : Tx K mg) : PySem.W.exmOne K (.ref (He.ga K "Over")) (.ref (He.ga K "TableThere")) = some false := T.exm 235 rfl
theorem x_Over_NoTable (T : Tx K mg) : PySem.W.exmOne K (.ref (He.ga K "Over")) (.ref (He.ga K "NoTable")) = some false := T.exm 236 rfl
theorem x_Over_NoColumn (T : Tx K mg) : PySem.W.exmOne K (.ref (He.ga K "Over")) (.ref (He.ga K "NoColumn")) = some false := T.exm 237 rfl
theorem x_Over_IndexThere (T : Tx K mg) : PySem.W.exmOne K (.ref (He.ga K "Over")) (.ref (He.ga K "IndexThere")) = some false := T.exm 238 rfl
theorem x_Over_NoRow (T : Tx K mg) : PySem.W.exmOne K (.ref (He.ga K "Over")) (.ref (He.ga K "NoRow")) = some false := T.exm 239 rfl
theorem x_Over_BadRow (T : Tx K mg) : PySem.W.exmOne K (.ref (He.ga K "Over")) (.ref (He.ga K "BadRow")) = some false := T.exm 240 rfl
theorem x_Over_TableError (T : Tx K mg) : PySem.W.exmOne K (.ref (He.ga K "Over")) (.ref (He.ga K "TableError")) = some true := T.exm 241 rfl
theorem x_Clash_Over (T : Tx K mg) : PySem.W.exmOne K (.ref (He.ga K "Clash")) (.ref (He.ga K "Over")) = some false := T.exm 242 rfl
theorem x_Clash_BadShape (T : Tx K mg) : PySem.W.exmOne K (.ref (He.ga K "Clash")) (.ref (He.ga K "BadShape")) = some false := T.exm 243 rfl
theorem x_Clash_TableThere (T : Tx K mg) : PySem.W.exmOne K (.ref (He.ga K "Clash")) (.ref (He.ga K "TableThere")) = some false := T.exm 244 rfl
theorem x_Clash_NoTable (T : Tx K mg) : PySem.W.exmOne K (.ref (He.ga K "Clash")) (.ref (He.ga K "NoTable")) = some false := T.exm 245 rfl
theorem x_Clash_NoColumn (T : Tx K mg) : PySem.W.exmOne K (.ref (He.ga K "Clash")) (.ref (He.ga K "NoColumn")) = some false := T.exm 246 rfl
theorem x_Clash_IndexThere (T : Tx K mg) : PySem.W.exmOne K (.ref (He.ga K "Clash")) (.ref (He.ga K "IndexThere")) = some false := T.exm 247 rfl
theorem x_Clash_NoRow (T : Tx K mg) : PySem.W.exmOne K (.ref (He.ga K "Clash")) (.ref (He.ga K "NoRow")) = some false := T.exm 248 rfl
theorem x_Clash_BadRow (T : Tx K mg) : PySem.W.exmOne K (.ref (He.ga K "Clash")) (.ref (He.ga K "BadRow")) = some false := T.exm 249 rfl
theorem x_Clash_TableError (T : Tx K mg) : PySem.W.exmOne K (.ref (He.ga K "Clash")) (.ref (He.ga K "TableError")) = some true := T.exm 250 rfl
end
end TD
/-! The top's run, and what it leaves. -/
namespace TD
open PySem PySem.Spec PyProof.Rows L2
abbrev R : PySem.W.OpenRow := PySem.W.OpenLaw.row PySem.Challenge.rw_tablestore_k44_refusals
def nm0 : List PySem.Str := ["TableError", "BadValue", "BadShape", "BadChange", "BadRow", "NoTable", "TableThere", "NoColumn", "IndexThere", "NoRow", "Over", "Clash", "BadLog", "BadQuestion", "BadDesk", "LIMIT", "SIGNS", "is_whole", "is_value", "kind_of", "rank_of", "compare", "WORDS", "LETTERS", "MOST_LETTERS", "MOST_COLUMNS", "is_name", "is_column", "is_shape", "column_place"]
def nm1 : List PySem.Str := ["fits", "LEAST", "MOST", "MOST_NUMBER_ordered", "comes_ahead", "empty_index", "entries_of", "many_in", "part_place", "leaf_place", "stands", "is_entry", "leaf_ends", "part_ends", "cell_ends", "is_index", "first_of", "first_of_balance", "part_of", "cut", "added", "with_entry", "filled", "taken", "without_entry", "index_from", "MOST_NUMBER_tables", "Table", "is_number", "new_table"]
def nm2 : List PySem.Str := ["numbers_of", "entries_for", "indexes_without", "without_row", "with_row", "with_index", "are_rows", "is_table", "first_of_tables", "has_table", "with_table", "size_of", "need_table", "made", "ordered_by", "put", "dropped", "changed", "all_changed", "is_state", "key_of", "keys_of", "meets", "has_row", "Dealing", "Store", "begin", "_law_whole", "_law_cell_at", "_law_mixed"]
def nm3 : List PySem.Str := ["_law_name_by", "_law_twin", "_law_shape_by", "_law_text_by", "_law_value_by", "_law_row_by", "_law_place", "_law_after", "_law_all_after", "_law_entry_key", "_law_rows_same", "_law_table_same", "_law_same", "_law_alone", "_law_call", "_law_refusal", "_law_one", "_law_due", "_law_row_of", "_law_given", "_law_once"]
def names : List PySem.Str := nm0 ++ nm1 ++ nm2 ++ nm3
def ob (s : PySem.W.SharedT) : AlM := obsMG (HandSHeadRun.getT s)
theorem ob_eq (s : PySem.W.SharedT) : ob s = hookM.obs s.abs := obsMG_eq (HandSHeadRun.getT_eq s)
theorem run (w : World) : HandSHeadRun.RunEq R (PySem.W.view R.prog [122]) hookM ob 20000 names w := by
  intro os
  kernel_rfl
end TD
/-! Short words over the layer: a def of the top packed with all that its callers ask, names of the top, isinstance of data, plain cells. -/
namespace TB
open PySem PySem.Spec PyProof.Rows L2 TD
/-! ### heaps that only grow -/
abbrev Ex := Evl.Ex
theorem exr (H : Hp) : Ex H H := Evl.Ex.refl H
theorem Ex.tr {H H1 H2 : Hp} (a : Ex H H1) (b : Ex H1 H2) : Ex H H2 := Evl.Ex.trans a b
theorem Ex.nw {H : Hp} {p : Addr} {o : HO} (h : H p = none) : Ex H (upd H p o) := Evl.Ex.new h
theorem Ex.mu {H H' : Hp} {p : Addr} {o : HO} (e : Ex H H') (h : H p = none) : Ex H (upd H' p o) := Evl.Ex.mut e h
theorem Ex.l {K : PySem.W.Frag} {H H' : Hp} {a : Addr} {xs : List V} (e : Ex H H') (h : SqL K H a xs) : SqL K H' a xs := Evl.ex_l e h
theorem Ex.t {K : PySem.W.Frag} {H H' : Hp} {a : Addr} {xs : List V} (e : Ex H H') (h : SqT K H a xs) : SqT K H' a xs := Evl.ex_t e h
theorem Ex.rd {H H' : Hp} {a : Addr} {u : HO} (e : Ex H H') (h : Rd H a u) : Rd H' a u := Evl.ex_rd e h
theorem Ex.fr {H H' : Hp} {p : Addr} (e : Ex H H') (h : H' p = none) : H p = none := Evl.fresh_back e h
/-! ### data stay -/
mutual
theorem Dp.ex {K : PySem.W.Frag} {H H' : Hp} (e : Ex H H') : ∀ (d : PyData) (v : V), Dp K H v d → Dp K H' v d
  | .none, _, h => by cases h; exact .non
  | .bool b, _, h => by cases h; exact .bl b
  | .int i, _, h => by cases h; exact .int i
  | .str x, _, h => by cases h; exact .str x
  | .list ds, _, h => by
    cases h with
    | lst h1 h2 => exact .lst (e.l h1) (DpAll.ex e ds _ h2)
  | .tuple ds, _, h => by
    cases h with
    | tup h1 h2 => exact .tup (e.t h1) (DpAll.ex e ds _ h2)
  | .dict _, _, h => by cases h
theorem DpAll.ex {K : PySem.W.Frag} {H H' : Hp} (e : Ex H H') : ∀ (ds : List PyData) (vs : List V), DpAll K H vs ds → DpAll K H' vs ds
  | [], _, h => by cases h; exact .nil
  | d :: ds, _, h => by
    cases h with
    | cons h1 h2 => exact .cons (Dp.ex e d _ h1) (DpAll.ex e ds _ h2)
end
theorem DpAll.length {K : PySem.W.Frag} {H : Hp} : ∀ {ds : List PyData} {vs : List V}, DpAll K H vs ds → vs.length = ds.length
  | [], _, h => by cases h; rfl
  | d :: ds, _, h => by
    cases h with
    | cons h1 h2 => simp [DpAll.length h2]
theorem DpAll.at_ {K : PySem.W.Frag} {H : Hp} : ∀ {ds : List PyData} {vs : List V} {i : Nat} {d : PyData}, DpAll K H vs ds → ds[i]? = some d → ∃ v, vs[i]? = some v ∧ Dp K H v d
  | [], _, _, _, h, e => by simp at e
  | d :: ds, _, 0, _, h, e => by
    cases h with
    | cons h1 h2 => simp at e; subst e; exact ⟨_, rfl, h1⟩
  | d :: ds, _, i + 1, _, h, e => by
    cases h with
    | cons h1 h2 =>
      obtain ⟨v, a, b⟩ := DpAll.at_ h2 (i := i) (by simpa using e)
      exact ⟨v, by simpa using a, b⟩
theorem DpAll.at2 {K : PySem.W.Frag} {H : Hp} : ∀ {ds : List PyData} {vs : List V} {i : Nat} {v : V}, DpAll K H vs ds → vs[i]? = some v → ∃ d, ds[i]? = some d ∧ Dp K H v d
  | [], _, _, _, h, e => by cases h; simp at e
  | d :: ds, _, 0, _, h, e => by
    cases h with
    | cons h1 h2 => simp at e; subst e; exact ⟨_, rfl, h1⟩
  | d :: ds, _, i + 1, _, h, e => by
    cases h with
    | cons h1 h2 =>
      obtain ⟨w, a, b⟩ := DpAll.at2 h2 (i := i) (by simpa using e)
      exact ⟨w, by simpa using a, b⟩
theorem DpAll.app {K : PySem.W.Frag} {H : Hp} : ∀ {ds es : List PyData} {vs us : List V}, DpAll K H vs ds → DpAll K H us es → DpAll K H (vs ++ us) (ds ++ es)
  | [], _, _, _, h, k => by cases h; exact k
  | d :: ds, _, _, _, h, k => by
    cases h with
    | cons h1 h2 => exact .cons h1 (DpAll.app h2 k)
/-! ### isinstance of data -/
def dInt : PyData → Bool
  | .int _ => true | .bool _ => true | _ => false
def dBool : PyData → Bool
  | .bool _ => true | _ => false
def dStr : PyData → Bool
  | .str _ => true | _ => false
def dTup : PyData → Bool
  | .tuple _ => true | _ => false
def tyN : PyData → String
  | .none => "NoneType" | .bool _ => "bool" | .int _ => "int" | .str _ => "str" | .list _ => "list" | .tuple _ => "tuple" | .dict _ => "dict"
theorem tyx_l {K : PySem.W.Frag} {H : Hp} {a : Addr} {xs : List V} (h : SqL K H a xs) : TyX K H (.ref a) (.type "list") := by
  rcases h with (h | ⟨o, h⟩) | ⟨o, its, n, h, hc, _⟩
  · exact .base (.lst h)
  · exact .base (.frz h)
  · exact .kList h hc
theorem tyx_t {K : PySem.W.Frag} {H : Hp} {a : Addr} {xs : List V} (h : SqT K H a xs) : TyX K H (.ref a) (.type "tuple") := by
  rcases h with (h | ⟨o, h⟩) | ⟨o, its, n, h, hc, _⟩
  · exact .base (.tup h)
  · exact .fTuple h
  · exact .kTuple h hc
theorem tyx {K : PySem.W.Frag} {H : Hp} {x : V} {d : PyData} (h : Dp K H x d) : TyX K H x (.type (tyN d)) := by
  cases h with
  | non => exact .base .non
  | bl b => exact .base (.bl b)
  | int i => exact .base (.int i)
  | str z => exact .base (.str z)
  | lst h _ => exact tyx_l h
  | tup h _ => exact tyx_t h
theorem kb_NoneType_int : kitB "NoneType" "int" = some false := by decide +kernel
theorem kb_bool_int : kitB "bool" "int" = some true := by decide +kernel
theorem kb_int_int : kitB "int" "int" = some true := by decide +kernel
theorem kb_str_int : kitB "str" "int" = some false := by decide +kernel
theorem kb_list_int : kitB "list" "int" = some false := by decide +kernel
theorem kb_tuple_int : kitB "tuple" "int" = some false := by decide +kernel
theorem kb_NoneType_bool : kitB "NoneType" "bool" = some false := by decide +kernel
theorem kb_bool_bool : kitB "bool" "bool" = some true := by decide +kernel
theorem kb_int_bool : kitB "int" "bool" = some false := by decide +kernel
theorem kb_str_bool : kitB "str" "bool" = some false := by decide +kernel
theorem kb_list_bool : kitB "list" "bool" = some false := by decide +kernel
theorem kb_tuple_bool : kitB "tuple" "bool" = some false := by decide +kernel
theorem kb_NoneType_str : kitB "NoneType" "str" = some false := by decide +kernel
theorem kb_bool_str : kitB "bool" "str" = some false := by decide +kernel
theorem kb_int_str : kitB "int" "str" = some false := by decide +kernel
theorem kb_str_str : kitB "str" "str" = some true := by decide +kernel
theorem kb_list_str : kitB "list" "str" = some false := by decide +kernel
theorem kb_tuple_str : kitB "tuple" "str" = some false := by decide +kernel
theorem kb_NoneType_tuple : kitB "NoneType" "tuple" = some false := by decide +kernel
theorem kb_bool_tuple : kitB "bool" "tuple" = some false := by decide +kernel
theorem kb_int_tuple : kitB "int" "tuple" = some false := by decide +kernel
theorem kb_str_tuple : kitB "str" "tuple" = some false := by decide +kernel
theorem kb_list_tuple : kitB "list" "tuple" = some false := by decide +kernel
theorem kb_tuple_tuple : kitB "tuple" "tuple" = some true := by decide +kernel
section
variable {K : PySem.W.Frag} {H : Hp} {x : V} {d : PyData} {Q : VK}
theorem isi_of {T : String} {b : Bool} (h : Dp K H x d) (e : kitB (tyN d) T = some b) (q : Q (.bl b) H) : rIsi K [x, .ty T] H Q := ⟨x, .ty T, _, _, b, rfl, .ty T, tyx h, kit_ty e, q⟩
theorem isi_int (h : Dp K H x d) (q : Q (.bl (dInt d)) H) : rIsi K [x, .ty "int"] H Q := isi_of h (by cases h <;> first | exact kb_NoneType_int | exact kb_bool_int | exact kb_int_int | exact kb_str_int | exact kb_list_int | exact kb_tuple_int) q
theorem isi_bool (h : Dp K H x d) (q : Q (.bl (dBool d)) H) : rIsi K [x, .ty "bool"] H Q := isi_of h (by cases h <;> first | exact kb_NoneType_bool | exact kb_bool_bool | exact kb_int_bool | exact kb_str_bool | exact kb_list_bool | exact kb_tuple_bool) q
theorem isi_str (h : Dp K H x d) (q : Q (.bl (dStr d)) H) : rIsi K [x, .ty "str"] H Q := isi_of h (by cases h <;> first | exact kb_NoneType_str | exact kb_bool_str | exact kb_int_str | exact kb_str_str | exact kb_list_str | exact kb_tuple_str) q
theorem isi_tup (h : Dp K H x d) (q : Q (.bl (dTup d)) H) : rIsi K [x, .ty "tuple"] H Q := isi_of h (by cases h <;> first | exact kb_NoneType_tuple | exact kb_bool_tuple | exact kb_int_tuple | exact kb_str_tuple | exact kb_list_tuple | exact kb_tuple_tuple) q
theorem isi_dict {a : Addr} {kvs : List (Key × V)} (h : Rd H a (.dK kvs)) (q : Q (.bl true) H) : rIsi K [.ref a, .ty "dict"] H Q := by
  refine ⟨.ref a, .ty "dict", .type "dict", _, true, rfl, .ty "dict", ?_, kit_ty (by decide +kernel), q⟩
  rcases h with h | ⟨o, h⟩
  · exact .base (.dK h)
  · exact .fDict h
end
/-! ### names of the top -/
section
variable {X : Cx} {x : Str} {pos p : Pos}
theorem pe_gi {i : Int} (hm : ∃ t, X.mg x = some (.int i t)) (hg : Gl X x := by rfl) (hd : (x == ("__debug__" : Str)) = false := by decide) : PE X (.Name x pos) (tC (.int i)) := by
  obtain ⟨t, hm⟩ := hm
  exact pe_glob hg hm ⟨t, rfl⟩ hd
theorem pe_gs {z : Str} (hm : ∃ t, X.mg x = some (.str z t)) (hg : Gl X x := by rfl) (hd : (x == ("__debug__" : Str)) = false := by decide) : PE X (.Name x pos) (tC (.str z)) := by
  obtain ⟨t, hm⟩ := hm
  exact pe_glob hg hm ⟨t, rfl⟩ hd
theorem pe_gr {a : Addr} (hm : X.mg x = some (.ref a)) (hg : Gl X x := by rfl) (hd : (x == ("__debug__" : Str)) = false := by decide) : PE X (.Name x pos) (tC (.ref a)) := pe_glob hg hm rfl hd
theorem pe_bt {n : String} (hm : X.mg x = none) (hv : bootBuiltins x = some (.type n)) (hg : Gl X x := by rfl) (hn : x ≠ "__name__" := by decide) (hd : (x == ("__debug__" : Str)) = false := by decide) : PE X (.Name x pos) (tC (.ty n)) :=
  pe_bltn (v := .ty n) hg hm hv rfl hn hd
end
theorem b_int : bootBuiltins "int" = some (.type "int") := by decide +kernel
theorem b_bool : bootBuiltins "bool" = some (.type "bool") := by decide +kernel
theorem b_str : bootBuiltins "str" = some (.type "str") := by decide +kernel
theorem b_tuple : bootBuiltins "tuple" = some (.type "tuple") := by decide +kernel
theorem b_dict : bootBuiltins "dict" = some (.type "dict") := by decide +kernel
theorem b_list : bootBuiltins "list" = some (.type "list") := by decide +kernel
theorem b_isinstance : bootBuiltins "isinstance" = some (.builtin "isinstance") := by decide +kernel
theorem b_len : bootBuiltins "len" = some (.builtin "len") := by decide +kernel
theorem b_max : bootBuiltins "max" = some (.builtin "max") := by decide +kernel
theorem b_sorted : bootBuiltins "sorted" = some (.builtin "sorted") := by decide +kernel
theorem b_ValueError : bootBuiltins "ValueError" = some (.type "ValueError") := by decide +kernel
/-! ### a def of the top, with all that a caller asks -/
section
variable (P : Program) (w : World) (K : PySem.W.Frag) (mg : Str → Option Value) (base : Heap)
def Gd (CX : CXT) (k : Nat) (x : Str) (ps : List Str) (sp : Sp) : Prop :=
  ∃ fd, mg x = some (.ref (He.ga K x)) ∧ PySem.W.keepIn K (.ref (He.ga K x)) = true ∧ Binds K fd ps [] ∧ FnOk P w K mg base CX k (He.ga K x) fd ps sp
def Md (CX : CXT) (k : Nat) (c m : Str) (ps : List Str) (sp : Sp) : Prop :=
  ∃ fd, Binds K fd ps [] ∧ FnOk P w K mg base CX k (He.ma K (He.ga K c) m) fd ps sp
end
section
variable {P : Program} {w : World} {K : PySem.W.Frag} {mg : Str → Option Value} {base : Heap}
abbrev BindT (x name : Str) (st : Stmt) (ps : List Str) : Prop := ∀ (kV doc pm : Value) (an : Option Addr) (cdv ct : Value) (us : List Value), us.length = ps.length →
  bindArgs (PySem.W.fnOf x name (defArgs st) (defBody st) (defScope st) .none kV doc pm an cdv ct) ⟨us, []⟩ = pure (ps.zip us)
/-- a def that lets nothing out -/
theorem gd0 {x name : Str} {st : Stmt} {N ps : List Str} {k : Nat} {sp : Sp} (F : FunG K mg x name st) (S : FnScope N ps (defScope st)) (b : BindT name name st ps) (len : ∀ vs H Q E, sp vs H Q E → vs.length = ps.length)
    (hbody : ∀ (f : Addr) (cdv : Value) (A : Around) (outer : List Env) (s : Shared) (H : Hp) (vs : List V) (Q : VK) (E : XK), Room k (A.deeper (envOfC name (defScope st) s.heap.objs.size f cdv)) → sp vs H Q E →
      ∃ t, PSs (cxOf CX0 P w K mg base N name (defScope st) f cdv A outer s H E).nox (defBody st) t ∧ t { nx := fun _ H' => Q .non H', rt := Q } (start N vs) H) : Gd P w K mg base CX0 (k + 1) x ps sp := by
  obtain ⟨fd, hm, F⟩ := F
  exact ⟨fd, hm, F.kp, F.bindsN b, F.ok S len fun cdv A outer s H vs Q E hr h => let ⟨t, a, b⟩ := hbody _ cdv A outer s H vs Q E hr h; ⟨t, a.nox, b⟩⟩
/-- a def that may raise -/
theorem gdX {x name : Str} {st : Stmt} {N ps : List Str} {k : Nat} {sp : Sp} (F : FunG K mg x name st) (S : FnScope N ps (defScope st)) (b : BindT name name st ps) (len : ∀ vs H Q E, sp vs H Q E → vs.length = ps.length)
    (hbody : ∀ (f : Addr) (cdv : Value) (A : Around) (outer : List Env) (s : Shared) (H : Hp) (vs : List V) (Q : VK) (E : XK), Room k (A.deeper (envOfC name (defScope st) s.heap.objs.size f cdv)) → sp vs H Q E →
      ∃ t, PSs (cxOf (L2.CX P w) P w K mg base N name (defScope st) f cdv A outer s H E) (defBody st) t ∧ t { nx := fun _ H' => Q .non H', rt := Q } (start N vs) H) : Gd P w K mg base (L2.CX P w) (k + 1) x ps sp := by
  obtain ⟨fd, hm, F⟩ := F
  exact ⟨fd, hm, F.kp, F.bindsN b, F.ok S len fun cdv A outer s H vs Q E hr h => hbody _ cdv A outer s H vs Q E hr h⟩
theorem md0 {c m qual : Str} {st : Stmt} {N ps : List Str} {k : Nat} {sp : Sp} (F : FunM K c m qual st) (S : FnScope N ps (defScope st)) (b : BindT m qual st ps) (len : ∀ vs H Q E, sp vs H Q E → vs.length = ps.length)
    (hbody : ∀ (f : Addr) (cdv : Value) (A : Around) (outer : List Env) (s : Shared) (H : Hp) (vs : List V) (Q : VK) (E : XK), Room k (A.deeper (envOfC qual (defScope st) s.heap.objs.size f cdv)) → sp vs H Q E →
      ∃ t, PSs (cxOf CX0 P w K mg base N qual (defScope st) f cdv A outer s H E).nox (defBody st) t ∧ t { nx := fun _ H' => Q .non H', rt := Q } (start N vs) H) : Md P w K mg base CX0 (k + 1) c m ps sp := by
  obtain ⟨fd, F⟩ := F
  exact ⟨fd, F.bindsN b, F.ok S len fun cdv A outer s H vs Q E hr h => let ⟨t, a, b⟩ := hbody _ cdv A outer s H vs Q E hr h; ⟨t, a.nox, b⟩⟩
theorem mdX {c m qual : Str} {st : Stmt} {N ps : List Str} {k : Nat} {sp : Sp} (F : FunM K c m qual st) (S : FnScope N ps (defScope st)) (b : BindT m qual st ps) (len : ∀ vs H Q E, sp vs H Q E → vs.length = ps.length)
    (hbody : ∀ (f : Addr) (cdv : Value) (A : Around) (outer : List Env) (s : Shared) (H : Hp) (vs : List V) (Q : VK) (E : XK), Room k (A.deeper (envOfC qual (defScope st) s.heap.objs.size f cdv)) → sp vs H Q E →
      ∃ t, PSs (cxOf (L2.CX P w) P w K mg base N qual (defScope st) f cdv A outer s H E) (defBody st) t ∧ t { nx := fun _ H' => Q .non H', rt := Q } (start N vs) H) : Md P w K mg base (L2.CX P w) (k + 1) c m ps sp := by
  obtain ⟨fd, F⟩ := F
  exact ⟨fd, F.bindsN b, F.ok S len fun cdv A outer s H vs Q E hr h => hbody _ cdv A outer s H vs Q E hr h⟩
end
/-! ### calls -/
section
variable {X : Cx} {CX : CXT} {k j : Nat} {x : Str} {ps : List Str} {sp : Sp} {E : L2.St → XK} {e : Expr} {es : List Expr} {t : TA} {p pos : Pos}
theorem p0 (σ : L2.St) : PassesAt CX0 X σ E0 := fun _ _ _ _ _ _ h => h.elim
theorem pL (σ : L2.St) : PassesAt (L2.CX X.prog X.w) X σ E0 := fun pins H s e s' I c => passL pins σ H s e s' I c
theorem pE {W : WX} {E1 : XK} (tk : Takes X W) (hW : ∀ cls d σ H, E1 cls d H → W cls d σ H) (σ : L2.St) : PassesAt (L2.CX X.prog X.w) X σ E1 := fun pins H s e s' I c => passes_call tk hW pins σ H s e s' I c
theorem pe_g (G : Gd X.prog X.w X.K X.mg X.base CX k x ps sp) (hr : Room j X.A) (hj : k ≤ j) (hx : ∀ σ, PassesAt CX X σ (E σ)) (ha : PA X (e :: es) t) (hg : Gl X x := by rfl) (hdb : (x == ("__debug__" : Str)) = false := by decide)
    (he : starEach (e :: es) X.env = (false, eval e X.env) :: starEach es X.env := by rfl) (hpl : (backTo pos (starEach es X.env)).any (·.1) = false := by rfl) : PE X (.Call (.Name x p) (e :: es) [] pos) (tCallS sp E t) := by
  obtain ⟨fd, hm, kp, hb, F⟩ := G
  exact pe_callS F (hr.mono hj) hg hm kp hb hx ha hdb he hpl
/-- x() -/
theorem pe_g0 (G : Gd X.prog X.w X.K X.mg X.base CX0 k x ps sp) (hr : Room j X.A) (hj : k ≤ j) (hg : Gl X x := by rfl) (hdb : (x == ("__debug__" : Str)) = false := by decide) : PE X (.Call (.Name x p) [] [] pos) (tCall sp [] E0 tNil) := by
  obtain ⟨fd, hm, kp, hb, F⟩ := G
  exact pe_call0 F (hr.mono hj) hg hm kp hb .nil pass0 hdb
end
section
variable {X : Cx} {CX : CXT} {k j : Nat} {c m : Str} {ps : List Str} {sp : Sp} {E : L2.St → XK} {e o : Expr} {es : List Expr} {ta : TE} {t : TA} {pos apos : Pos} {pl : Sem Bool}
/-- o.m(e, ..) of an instance of the class named c -/
theorem pe_m (he : PE X o ta) (T : Cls X.K (He.ga X.K c)) (hm : Meth X.K (He.ga X.K c) m (He.ma X.K (He.ga X.K c) m)) (F : Md X.prog X.w X.K X.mg X.base CX k c m ps sp) (hr : Room j X.A) (hj : k ≤ j) (hx : ∀ σ, PassesAt CX X σ (E σ)) (ha : PA X (e :: es) t)
    (hst : starEach (e :: es) X.env = (false, eval e X.env) :: starEach es X.env := by rfl) (hpl : (backTo pos (starEach es X.env)).any (·.1) = false := by rfl)
    (ht : eval (.Call (.Attribute o m apos) (e :: es) [] pos) X.env = (do
      let ov ← eval o X.env
      standAt apos.atName
      let (f, first) ← holding [ov] (getMethod ov m pl)
      callWith pos f first (backTo pos (starEach (e :: es) X.env)) (backToKw pos (keywordEach [] X.env))) := by rfl) :
    PE X (.Call (.Attribute o m apos) (e :: es) [] pos) (fun σ H Q => ta σ H fun x H1 => ∃ a dx fs, x = .ref a ∧ H1 a = some (.ins (He.ga X.K c) dx fs) ∧ fs.lookup m = none ∧ t σ H1 fun vs H2 => sp (x :: vs) H2 Q (E σ)) := by
  obtain ⟨fd, hb, F⟩ := F
  refine ⟨fun pins s σ H Q I h => ?_⟩
  refine PySem.W.methodCall_KW (pl := pl) (thn (he.run pins s σ H _ I h) fun u s1 ⟨x, H1, I1, rx, a, dx, fs, ex, ea, l, q⟩ => ?_) ht
  subst ex
  obtain rfl : u = Value.ref a := rx
  refine getmeth_ok I1 ea T hm l ?_
  refine PySem.W.callWith_K (first := [.ref a]) (h₀ := X.base) I.ok.mod.kin hm.kp (thn (ha.run pos pins s1 σ H1 _ I1 q) fun us s2 ⟨vs, H2, I2, r, q2⟩ => ⟨I2.kIn, ?_⟩) hst hpl
  exact run_fnS (us := .ref a :: us) (vs := .ref a :: vs) F (hr.mono hj) hb (hx σ) I2 (.cons rfl r) q2
/-- o.m() -/
theorem pe_m0 {E1 : XK} (he : PE X o ta) (T : Cls X.K (He.ga X.K c)) (hm : Meth X.K (He.ga X.K c) m (He.ma X.K (He.ga X.K c) m)) (F : Md X.prog X.w X.K X.mg X.base CX k c m ps sp) (hr : Room j X.A) (hj : k ≤ j) (hx : Passes CX X E1)
    (ht : eval (.Call (.Attribute o m apos) [] [] pos) X.env = (do
      let ov ← eval o X.env
      standAt apos.atName
      let (f, first) ← holding [ov] (getMethod ov m pl)
      callWith pos f first (backTo pos (starEach [] X.env)) (backToKw pos (keywordEach [] X.env))) := by rfl) :
    PE X (.Call (.Attribute o m apos) [] [] pos) (tMeth (He.ga X.K c) m sp [] E1 ta tNil) := by
  obtain ⟨fd, hb, F⟩ := F
  exact pe_meth0 he T hm F (hr.mono hj) hb .nil hx ht
end
/-! ### plain cells -/
inductive Cv where
  | non | int (i : Int) | str (x : Str)
  deriving DecidableEq
def Cv.v : Cv → V
  | .non => .non | .int i => .int i | .str x => .str x
def Cv.d : Cv → PyData
  | .non => .none | .int i => .int i | .str x => .str x
theorem Cv.dp {K : PySem.W.Frag} {H : Hp} (c : Cv) : Dp K H c.v c.d := by
  cases c with
  | non => exact .non
  | int i => exact .int i
  | str x => exact .str x
end TB
/-! What the top says of the exceptions' classes, of Table, of WORDS. -/
namespace TB
open PySem PySem.Spec PyProof.Rows L2 TD
section
variable {K : PySem.W.Frag} {mg : Str → Option Value}
theorem words_T (T : Tx K mg) (H : Hp) : SqT K H (He.ga K "WORDS") (wordsV.map V.str) := by
  have h := (He.ba (He.ba T.m).2).2
  have e := He.tupB_ok h H
  rw [List.map_map] at e
  exact e
/-- an own exception's class, as it is asked -/
structure ExcF (K : PySem.W.Frag) (x : Str) : Prop where
  ei : PySem.W.excIn K (He.ga K x) He.veBase "ValueError.__new__" = true
  kp : PySem.W.keepIn K (.ref (He.ga K x)) = true
  sb : PySem.W.subIn K (.ref (He.ga K x)) (.type "BaseException") = some true
  ty : PySem.W.typeIn K (.ref (He.ga K x)) = some (.type "type")
  ga : PySem.W.findIn K (.ref (He.ga K x)) "__getattribute__" = some (some (.builtin "BaseException.__getattribute__"))
  gt : PySem.W.findIn K (.ref (He.ga K x)) "__getattr__" = some none
  hd : PySem.W.hasDictIn K (He.ga K x) = true
  cl : PySem.W.findIn K (.ref (He.ga K x)) "__class__" = some (some (.builtin "object.__class__"))
  gg : PySem.W.specialIn K (.builtin "object.__class__") "__get__" = some (some (.builtin "getset_descriptor.__get__"))
  tk : PySem.W.takesIn K (.builtin "object.__class__") = some true
  mo : PySem.W.mroIn K (He.ga K x) (.type "object") = some true
  ve : PySem.W.kitOne K (.ref (He.ga K x)) (.type "ValueError") = some true
  kk : ∀ y, y ∈ kinds → PySem.W.kitOne K (.ref (He.ga K x)) (.ref (He.ga K y)) = some (x == y)
theorem exc_f (T : Tx K mg) {x : Str} (hx : x ∈ raised) : ExcF K x := by
  have h : excB K x = true := List.all_eq_true.mp (He.ba T.m).1 x hx
  unfold excB at h
  simp only [Bool.and_eq_true, decide_eq_true_eq, List.all_eq_true] at h
  obtain ⟨h1, h2, h3, h4, h5, h6, h7, h8, h9, h10, h11, h12, h13⟩ := h
  exact ⟨h1, h2, h3, h4, He.eqO_ok h5, He.eqO_ok h6, h7, He.eqO_ok h8, He.eqO_ok h9, h10, h11, h12, h13⟩
theorem rs_BadShape : ("BadShape" : Str) ∈ raised := by decide +kernel
theorem rs_BadChange : ("BadChange" : Str) ∈ raised := by decide +kernel
theorem rs_BadRow : ("BadRow" : Str) ∈ raised := by decide +kernel
theorem rs_NoTable : ("NoTable" : Str) ∈ raised := by decide +kernel
theorem rs_TableThere : ("TableThere" : Str) ∈ raised := by decide +kernel
theorem rs_NoColumn : ("NoColumn" : Str) ∈ raised := by decide +kernel
theorem rs_IndexThere : ("IndexThere" : Str) ∈ raised := by decide +kernel
theorem rs_NoRow : ("NoRow" : Str) ∈ raised := by decide +kernel
theorem rs_Over : ("Over" : Str) ∈ raised := by decide +kernel
theorem rs_Clash : ("Clash" : Str) ∈ raised := by decide +kernel
/-- an instance of Table, asked by isinstance -/
theorem ty_Table (T : Tx K mg) {H : Hp} {a dx : Addr} {fs : List (Str × V)} (h : H a = some (.ins (He.ga K "Table") dx fs)) : TyX K H (.ref a) (.ref (He.ga K "Table")) := by
  have z := (He.ba (He.ba T.m).2).1
  unfold insB at z
  obtain ⟨z1, z2⟩ := He.ba z
  obtain ⟨z2, z3⟩ := He.ba z2
  have e := exc_f T rs_Over
  exact .base (.ins h (c_Table T) (He.eqO_ok z1) e.gg e.tk (of_decide_eq_true z2))
theorem isi_Table (T : Tx K mg) {H : Hp} {a dx : Addr} {fs : List (Str × V)} {Q : VK} (h : H a = some (.ins (He.ga K "Table") dx fs)) (q : Q (.bl true) H) : rIsi K [.ref a, .ref (He.ga K "Table")] H Q := by
  have z := (He.ba (He.ba T.m).2).1
  unfold insB at z
  obtain ⟨z1, z2⟩ := He.ba z
  obtain ⟨z2, z3⟩ := He.ba z2
  exact ⟨_, _, _, _, true, rfl, .own _, ty_Table T h, of_decide_eq_true z3, q⟩
end
section
variable {X : Cx} {W : WX} {x m : Str} {j : Nat} {p p2 pos pos' : Pos}
/-- raise X('..') -/
theorem ps_rs (hc : X.calm = true) (tk : Takes X W) (T : Tx X.K X.mg) (hx : x ∈ raised) (gC : X.mg x = some (.ref (He.ga X.K x))) (hg : Gl X x := by rfl) (hdb : (x == ("__debug__" : Str)) = false := by decide) :
    PS X (.Raise (some (.Call (.Name x p) [.Constant (.str m) j p2] [] pos)) none pos') (fun _ σ H => W (.ref (He.ga X.K x)) none σ H) := by
  have f := exc_f T hx
  exact ps_raise hc tk (pmk_own PySem.F.excBase_ValueError f.ei gC f.kp (raises_own f.sb f.ty) hg hdb)
end
end TB
/-! Readings as equations: what a reading says once its parts are known. -/
namespace TB
open PySem PySem.Spec PyProof.Rows L2 TD
/-! ### names for the operators' readings -/
def rLtS : R2 := fun x y H Q => ∃ i j, x = .str i ∧ y = .str j ∧ Q (.bl (decide (i.cps.toList < j.cps.toList))) H
def rLeS : R2 := fun x y H Q => ∃ i j, x = .str i ∧ y = .str j ∧ Q (.bl (!decide (j.cps.toList < i.cps.toList))) H
def rAddS : R2 := fun x y H Q => ∃ i j, x = .str i ∧ y = .str j ∧ i.length + j.length ≤ sizeLine ∧ Q (.str (i ++ j)) H
def rInS : R2 := fun x y H Q => ∃ (c : Nat) (z : Str), x = .str ⟨#[c]⟩ ∧ y = .str z ∧ Q (.bl (decide (c ∈ z.cps.toList))) H
def rNotInS : R2 := fun x y H Q => ∃ (c : Nat) (z : Str), x = .str ⟨#[c]⟩ ∧ y = .str z ∧ Q (.bl (!decide (c ∈ z.cps.toList))) H
def rIsN : R2 := fun x y H Q => y = .non ∧ Q (.bl (decide (x = .non))) H
def rNotN : R2 := fun x y H Q => y = .non ∧ Q (.bl (!decide (x = .non))) H
/-- a < b, both whole numbers or both texts -/
def rLtV : R2 := fun x y H Q => (∃ i j, x = .int i ∧ y = .int j ∧ Q (.bl (decide (i < j))) H) ∨ ∃ i j, x = .str i ∧ y = .str j ∧ Q (.bl (decide (i.cps.toList < j.cps.toList))) H
def rLenS : List V → Hp → VK → Prop := fun xs H Q => ∃ z, xs = [.str z] ∧ z.length ≤ sizeLine ∧ Q (.int z.length) H
def rLenQ (K : PySem.W.Frag) : List V → Hp → VK → Prop := fun xs H Q => ∃ p ys, xs = [.ref p] ∧ (SqL K H p ys ∨ SqT K H p ys) ∧ Q (.int ys.length) H
def rLenD : List V → Hp → VK → Prop := fun xs H Q => ∃ a kvs, xs = [V.ref a] ∧ H a = some (.dK kvs) ∧ Q (.int kvs.length) H
def rInt1 : List V → Hp → VK → Prop := fun xs H Q => (∃ i, xs = [.int i] ∧ Q (.int i) H) ∨ ∃ k, xs = [.bl k] ∧ Q (.int (if k then 1 else 0)) H
def rMax2 : List V → Hp → VK → Prop := fun xs H Q => ∃ i j, xs = [.int i, .int j] ∧ Q (.int (if j > i then j else i)) H
def rListQ (K : PySem.W.Frag) : List V → Hp → VK → Prop := fun xs H Q => ∃ p ys, xs = [.ref p] ∧ (SqL K H p ys ∨ SqT K H p ys) ∧ ∀ l, H l = none → Q (.ref l) (upd H l (.lst ys))
def rTupQ (K : PySem.W.Frag) : List V → Hp → VK → Prop := fun xs H Q => ∃ p ys, xs = [.ref p] ∧ ((SqL K H p ys ∧ ∀ l, H l = none → Q (.ref l) (upd H l (.tup ys))) ∨ (SqT K H p ys ∧ Q (.ref p) H))
def rDictD : List V → Hp → VK → Prop := fun xs H Q => ∃ (a : Addr) (kvs : List (Key × V)), xs = [.ref a] ∧ Rd H a (.dK kvs) ∧ ∀ p, H p = none → Q (.ref p) (upd H p (.dK kvs))
def rListD : List V → Hp → VK → Prop := fun xs H Q => ∃ (a : Addr) (kvs : List (Key × V)), xs = [.ref a] ∧ Rd H a (.dK kvs) ∧ ∀ p, H p = none → Q (.ref p) (upd H p (.lst (kvs.map fun kv => kV kv.1)))
section
variable {X : Cx}
theorem o_lt_str : OpR X (compareOp .Lt) rLtS := op_lt_str
theorem o_le_str : OpR X (compareOp .LtE) rLeS := op_le_str
theorem o_add_str : OpR X (binaryOp .Add) rAddS := op_add_str
theorem o_in_sign : OpR X (compareOp .In) rInS := op_in_sign
theorem o_notIn_sign : OpR X (compareOp .NotIn) rNotInS := op_notIn_sign
theorem o_isN : OpR X (compareOp .Is) rIsN := op_isN
theorem o_notN : OpR X (compareOp .IsNot) rNotN := op_notN
theorem o_ltV : OpR X (compareOp .Lt) rLtV := op_lt.or op_lt_str
theorem c_len_str : CallR X (.builtin "len") rLenS := call_len_str
theorem c_len_seq : CallR X (.builtin "len") (rLenQ X.K) := call_len_seq
theorem c_lenD : CallR X (.builtin "len") rLenD := call_lenD
theorem c_int1 : CallR X (.type "int") rInt1 := call_int1
theorem c_max2 (hc : X.calm = true) : CallR X (.builtin "max") rMax2 := call_max2 hc
theorem c_list_of : CallR X (.type "list") (rListQ X.K) := call_list_of
theorem c_tuple_of : CallR X (.type "tuple") (rTupQ X.K) := call_tuple_of
theorem c_dictD : CallR X (.type "dict") rDictD := call_dictD
theorem c_listD (hc : X.calm = true) : CallR X (.type "list") rListD := call_listD hc
def tNev : TE := fun _ _ _ => False
theorem pe_nev {e : Expr} : PE X e tNev := ⟨fun _ _ _ _ _ _ h => h.elim⟩
end
/-! ### named forms of what attributes and dicts ask -/
def fldR (K : PySem.W.Frag) (f : Str) (x : V) (H : Hp) (Q : VK) : Prop := ∃ a C dx fs v, x = .ref a ∧ H a = some (.ins C dx fs) ∧ Cls K C ∧ NoAttr K C f ∧ fs.lookup f = some v ∧ Q v H
def sfldR (K : PySem.W.Frag) (f : Str) (x y : V) (H : Hp) (N : Hp → Prop) : Prop := ∃ a C dx fs, x = .ref a ∧ H a = some (.ins C dx fs) ∧ Cls K C ∧ NoAttr K C f ∧ fs.length < 1000 ∧ N (upd H a (.ins C dx (putF f y fs)))
def dgetR (x y : V) (H : Hp) (Q : VK) : Prop := ∃ a v, x = .ref a ∧ DGet H a y (some v) ∧ Q v H
def dinR (x y : V) (H : Hp) (N : Bool → Prop) : Prop := ∃ a o, x = .ref a ∧ DGet H a y o ∧ N o.isSome
def dputR (x y v : V) (H : Hp) (N : Hp → Prop) : Prop := ∃ a H4, x = .ref a ∧ DPut H a y v H4 ∧ N H4
def dpopR (x : V) (tb : (VK → Prop)) (H : Hp) (Q : VK) : Prop := ∃ a, x = .ref a ∧ IsD H a ∧ tb fun y H2 => ∃ kvs k v, H2 a = some (.dK kvs) ∧ y = kV k ∧ valV kvs k = some v ∧ Q v (upd H2 a (.dK (dropK kvs k)))
def methR (C : Addr) (m : Str) (x : V) (H : Hp) (N : Addr → Prop) : Prop := ∃ a dx fs, x = .ref a ∧ H a = some (.ins C dx fs) ∧ fs.lookup m = none ∧ N a
/-! ### a reading's parts -/
section
variable {D : Ends} {σ : L2.St} {H : Hp} {Q : VK} {QT : Bool → Hp → Prop} {QA : List V → Hp → Prop} {t u : TS} {c c2 : TT} {ta tb tc : TE} {tt tr : TA} {r r2 : R2} {x y v : V} {i j : Int}
theorem r_seq : tSeq t u D σ H = t { D with nx := u D } σ H := rfl
/-- a statement, what follows it kept shut -/
theorem q_seq (h : ∀ nxt : L2.St → Hp → Prop, (∀ σ' H', u D σ' H' → nxt σ' H') → t { D with nx := nxt } σ H) : tSeq t u D σ H := h (u D) fun _ _ h => h
theorem r_next : tNext D σ H = D.nx σ H := rfl
theorem r_if : tIfS c t u D σ H = c σ H fun b H1 => if b = true then t D σ H1 else u D σ H1 := rfl
theorem r_ret : tRet ta D σ H = ta σ H D.rt := rfl
theorem r_retN : tRetN D σ H = D.rt .non H := rfl
theorem r_drop : tDrop ta D σ H = ta σ H fun _ H1 => D.nx σ H1 := rfl
theorem r_asg {n : Nat} : tAsg ta (gName n) D σ H = ta σ H fun x H1 => D.nx (σ.set n (some x)) H1 := rfl
theorem r_asgG {g : TG} : tAsg ta g D σ H = ta σ H fun x H1 => g x σ H1 D.nx := rfl
theorem r_name {n : Nat} {N : L2.St → Hp → Prop} : gName n v σ H N = N (σ.set n (some v)) H := rfl
theorem r_var {n : Nat} : tVar n σ H Q = ∃ v, σ[n]? = some (some v) ∧ Q v H := rfl
theorem r_v0 {s : L2.St} : tVar 0 (some v :: s) H Q = Q v H := by
  refine propext ⟨fun ⟨w, e, q⟩ => ?_, fun q => ⟨v, rfl, q⟩⟩
  have e : v = w := by simpa using e
  rw [e]; exact q
theorem r_vS {n : Nat} {o : Option V} {s : L2.St} : tVar (n + 1) (o :: s) H Q = tVar n s H Q := by
  unfold tVar
  simp
theorem r_v1 {a : Option V} {s : L2.St} : tVar 1 (a :: some v :: s) H Q = Q v H := r_vS.trans r_v0
theorem r_v2 {a b : Option V} {s : L2.St} : tVar 2 (a :: b :: some v :: s) H Q = Q v H := r_vS.trans r_v1
theorem r_v3 {a b c : Option V} {s : L2.St} : tVar 3 (a :: b :: c :: some v :: s) H Q = Q v H := r_vS.trans r_v2
theorem r_v4 {a b c d : Option V} {s : L2.St} : tVar 4 (a :: b :: c :: d :: some v :: s) H Q = Q v H := r_vS.trans r_v3
theorem r_v5 {a b c d e : Option V} {s : L2.St} : tVar 5 (a :: b :: c :: d :: e :: some v :: s) H Q = Q v H := r_vS.trans r_v4
theorem r_v6 {a b c d e f : Option V} {s : L2.St} : tVar 6 (a :: b :: c :: d :: e :: f :: some v :: s) H Q = Q v H := r_vS.trans r_v5
theorem r_v7 {a b c d e f g : Option V} {s : L2.St} : tVar 7 (a :: b :: c :: d :: e :: f :: g :: some v :: s) H Q = Q v H := r_vS.trans r_v6
theorem r_v8 {a b c d e f g h : Option V} {s : L2.St} : tVar 8 (a :: b :: c :: d :: e :: f :: g :: h :: some v :: s) H Q = Q v H := r_vS.trans r_v7
theorem r_v9 {a b c d e f g h k : Option V} {s : L2.St} : tVar 9 (a :: b :: c :: d :: e :: f :: g :: h :: k :: some v :: s) H Q = Q v H := r_vS.trans r_v8
theorem r_v10 {a b c d e f g h k l : Option V} {s : L2.St} : tVar 10 (a :: b :: c :: d :: e :: f :: g :: h :: k :: l :: some v :: s) H Q = Q v H := r_vS.trans r_v9
theorem r_v11 {a b c d e f g h k l m : Option V} {s : L2.St} : tVar 11 (a :: b :: c :: d :: e :: f :: g :: h :: k :: l :: m :: some v :: s) H Q = Q v H := r_vS.trans r_v10
theorem r_v12 {a b c d e f g h k l m n : Option V} {s : L2.St} : tVar 12 (a :: b :: c :: d :: e :: f :: g :: h :: k :: l :: m :: n :: some v :: s) H Q = Q v H := r_vS.trans r_v11
theorem r_v13 {x0 x1 x2 x3 x4 x5 x6 x7 x8 x9 x10 x11 x12 : Option V} {s : L2.St} : tVar 13 (x0 :: x1 :: x2 :: x3 :: x4 :: x5 :: x6 :: x7 :: x8 :: x9 :: x10 :: x11 :: x12 :: some v :: s) H Q = Q v H := r_vS.trans r_v12
theorem r_v14 {x0 x1 x2 x3 x4 x5 x6 x7 x8 x9 x10 x11 x12 x13 : Option V} {s : L2.St} : tVar 14 (x0 :: x1 :: x2 :: x3 :: x4 :: x5 :: x6 :: x7 :: x8 :: x9 :: x10 :: x11 :: x12 :: x13 :: some v :: s) H Q = Q v H := r_vS.trans r_v13
theorem r_v15 {x0 x1 x2 x3 x4 x5 x6 x7 x8 x9 x10 x11 x12 x13 x14 : Option V} {s : L2.St} : tVar 15 (x0 :: x1 :: x2 :: x3 :: x4 :: x5 :: x6 :: x7 :: x8 :: x9 :: x10 :: x11 :: x12 :: x13 :: x14 :: some v :: s) H Q = Q v H := r_vS.trans r_v14
theorem r_c : tC v σ H Q = Q v H := rfl
theorem r_op : tOp r ta tb σ H Q = ta σ H fun x H1 => tb σ H1 fun y H2 => r x y H2 Q := rfl
theorem r_un {ru : V → Hp → VK → Prop} : tUn ru ta σ H Q = ta σ H fun x H1 => ru x H1 Q := rfl
theorem r_test : tTest ta σ H QT = ta σ H fun x H1 => ∃ k, x = .bl k ∧ QT k H1 := rfl
theorem r_B : tB ta σ H QT = ta σ H fun x H1 => ∃ k, x = .bl k ∧ QT k H1 := rfl
theorem r_bl {b : Bool} {p : Bool → Prop} : (∃ k, V.bl b = V.bl k ∧ p k) = p b := by
  refine propext ⟨fun ⟨k, e, q⟩ => ?_, fun q => ⟨b, rfl, q⟩⟩
  cases e; exact q
theorem r_not : tNot c σ H QT = c σ H fun b H1 => QT (!b) H1 := rfl
theorem r_and : tAnd c c2 σ H QT = c σ H fun b H1 => if b = true then c2 σ H1 QT else QT false H1 := rfl
theorem r_or : tOr c c2 σ H QT = c σ H fun b H1 => if b = true then QT true H1 else c2 σ H1 QT := rfl
theorem r_notV : tNotV ta σ H Q = ta σ H fun x H1 => ∃ k, x = .bl k ∧ Q (.bl (!k)) H1 := rfl
theorem r_andV : tAndV ta tb σ H Q = ta σ H fun x H1 => ∃ k, x = .bl k ∧ if k = true then tb σ H1 Q else Q (.bl false) H1 := rfl
theorem r_orV : tOrV ta tb σ H Q = ta σ H fun x H1 => ∃ k, x = .bl k ∧ if k = true then Q (.bl true) H1 else tb σ H1 Q := rfl
theorem r_ifE : L2.tIf c ta tb σ H Q = c σ H fun b H1 => if b = true then ta σ H1 Q else tb σ H1 Q := rfl
theorem r_chain : tChain r r2 ta tb tc σ H Q = ta σ H fun x H1 => tb σ H1 fun y H2 => r x y H2 fun z H3 => ∃ k, z = .bl k ∧ if k = true then tc σ H3 fun w H4 => r2 y w H4 Q else Q (.bl false) H3 := rfl
theorem r_nil : tNil σ H QA = QA [] H := rfl
theorem r_cons : tCons ta tt σ H QA = ta σ H fun x H1 => tt σ H1 fun xs H2 => QA (x :: xs) H2 := rfl
theorem r_CB {rc : List V → Hp → VK → Prop} : tCB rc tt σ H Q = tt σ H fun vs H1 => rc vs H1 Q := rfl
theorem r_callS {sp : Sp} {E : L2.St → XK} : tCallS sp E tt σ H Q = tt σ H fun vs H1 => sp vs H1 Q (E σ) := rfl
theorem r_call {sp : Sp} {E : XK} : tCall sp [] E tt σ H Q = tt σ H fun vs H1 => sp vs H1 Q E := by
  show (tt σ H fun vs H1 => sp (vs ++ []) H1 Q E) = _
  simp only [List.append_nil]
theorem r_tup : tTup tt σ H Q = tt σ H fun xs H1 => xs.length ≤ sizeLine ∧ ∀ p, H1 p = none → Q (.ref p) (upd H1 p (.tup xs)) := rfl
theorem r_lst : tLst tt σ H Q = tt σ H fun xs H1 => xs.length ≤ sizeLine ∧ ∀ p, H1 p = none → Q (.ref p) (upd H1 p (.lst xs)) := rfl
theorem r_fld {K : PySem.W.Frag} {f : Str} : tFld K ta f σ H Q = ta σ H fun x H1 => fldR K f x H1 Q := rfl
theorem r_dget : tDGet ta tb σ H Q = ta σ H fun x H1 => tb σ H1 fun y H2 => dgetR x y H2 Q := rfl
theorem r_din : tDIn ta tb σ H Q = ta σ H fun y H1 => tb σ H1 fun x H2 => dinR x y H2 fun b => Q (.bl b) H2 := rfl
theorem r_dnotin : tDNotIn ta tb σ H Q = ta σ H fun y H1 => tb σ H1 fun x H2 => dinR x y H2 fun b => Q (.bl (!b)) H2 := rfl
theorem r_sl {rs : V → Option Int → Option Int → Hp → VK → Prop} {tl th : TO} : tSl rs ta tl th σ H Q = ta σ H fun x H1 => tl σ H1 fun l H2 => th σ H2 fun u H3 => rs x l u H3 Q := rfl
theorem r_BM {K : PySem.W.Frag} {T : String} {rm : V → List V → Hp → VK → Prop} : tBM K T rm ta tt σ H Q = ta σ H fun x H1 => tyV K T x H1 ∧ tt σ H1 fun xs H2 => rm x xs H2 Q := rfl
theorem r_M1 {rm : V → List V → Hp → VK → Prop} : tM1 rm ta tb σ H Q = ta σ H fun x H1 => (∃ a, x = .str a) ∧ tb σ H1 fun y H2 => rm x [y] H2 Q := rfl
theorem r_dpop : tDPop1 ta tb σ H Q = ta σ H fun x H1 => dpopR x (fun QQ => tb σ H1 QQ) H1 Q := rfl
theorem r_sDPut : sDPut ta tb tc D σ H = tc σ H fun v H1 => ta σ H1 fun x H2 => tb σ H2 fun y H3 => dputR x y v H3 fun H4 => D.nx σ H4 := rfl
theorem r_sFld {K : PySem.W.Frag} {f : Str} : sFld K ta tb f D σ H = tb σ H fun y H1 => ta σ H1 fun x H2 => sfldR K f x y H2 fun H3 => D.nx σ H3 := rfl
theorem r_meth {C : Addr} {m : Str} {sp : Sp} {E : XK} : tMeth C m sp [] E ta tNil σ H Q = ta σ H fun x H1 => methR C m x H1 fun a => sp [.ref a] H1 Q E := by
  refine congrArg (ta σ H) (funext fun x => funext fun H1 => propext ⟨fun ⟨a, dx, fs, e, h1, h2, q⟩ => ?_, fun ⟨a, dx, fs, e, h1, h2, q⟩ => ?_⟩)
  · subst e; exact ⟨a, dx, fs, rfl, h1, h2, q⟩
  · subst e; exact ⟨a, dx, fs, rfl, h1, h2, q⟩
theorem r_tup2 {K : PySem.W.Frag} {n : Nat} {gs : TGs} {N : L2.St → Hp → Prop} : gTup K n gs v σ H N = ∃ a xs, v = .ref a ∧ SqT K H a xs ∧ xs.length = n ∧ gs xs σ H N := rfl
theorem r_gnil {vs : List V} {N : L2.St → Hp → Prop} : gNil vs σ H N = (vs = [] ∧ N σ H) := rfl
theorem r_gcons {g : TG} {gs : TGs} {y : V} {vs : List V} {N : L2.St → Hp → Prop} : gCons g gs (y :: vs) σ H N = g y σ H fun σ' H' => gs vs σ' H' N := by
  refine propext ⟨fun ⟨_, _, e, q⟩ => ?_, fun q => ⟨_, _, rfl, q⟩⟩
  cases e; exact q
theorem r_noPart {QO : Option Int → Hp → Prop} : tNoPart σ H QO = QO none H := rfl
theorem r_part {QO : Option Int → Hp → Prop} : tPart ta σ H QO = ta σ H fun x H1 => ∃ i, x = .int i ∧ QO (some i) H1 := rfl
theorem r_int {p : Int → Prop} : (∃ k, V.int i = V.int k ∧ p k) = p i := by
  refine propext ⟨fun ⟨k, e, q⟩ => ?_, fun q => ⟨i, rfl, q⟩⟩
  cases e; exact q
theorem r_ref {a : Addr} {p : Addr → Prop} : (∃ k, V.ref a = V.ref k ∧ p k) = p a := by
  refine propext ⟨fun ⟨k, e, q⟩ => ?_, fun q => ⟨a, rfl, q⟩⟩
  cases e; exact q
theorem r_str {a : Str} {p : Str → Prop} : (∃ k, V.str a = V.str k ∧ p k) = p a := by
  refine propext ⟨fun ⟨k, e, q⟩ => ?_, fun q => ⟨a, rfl, q⟩⟩
  cases e; exact q
/-! ### operators on known values -/
theorem r_I0 {g : Int → Int → V} : rI0 g (.int i) (.int j) H Q = Q (g i j) H := by
  refine propext ⟨fun ⟨a, b, e, f, q⟩ => ?_, fun q => ⟨i, j, rfl, rfl, q⟩⟩
  cases e; cases f; exact q
theorem r_I {C : Int → Int → Prop} {g : Int → Int → V} : rI C g (.int i) (.int j) H Q = (C i j ∧ Q (g i j) H) := by
  refine propext ⟨fun ⟨a, b, e, f, q⟩ => ?_, fun q => ⟨i, j, rfl, rfl, q⟩⟩
  cases e; cases f; exact q
theorem r_U {g : Int → V} : rU g (.int i) H Q = Q (g i) H := by
  refine propext ⟨fun ⟨a, e, q⟩ => ?_, fun q => ⟨i, rfl, q⟩⟩
  cases e; exact q
theorem r_eqI : rEq (.int i) (.int j) H Q = Q (.bl (decide (i = j))) H := by
  unfold rEq
  simp [scal]
theorem r_neI : rNe (.int i) (.int j) H Q = Q (.bl (!decide (i = j))) H := by
  unfold rNe
  simp [scal]
theorem r_eqS {a b : Str} : rEq (.str a) (.str b) H Q = Q (.bl (decide (a = b))) H := by
  unfold rEq
  simp [scal]
theorem r_neS {a b : Str} : rNe (.str a) (.str b) H Q = Q (.bl (!decide (a = b))) H := by
  unfold rNe
  simp [scal]
theorem r_isN : rIsN x .non H Q = Q (.bl (decide (x = .non))) H := by
  unfold rIsN
  simp
theorem r_notN : rNotN x .non H Q = Q (.bl (!decide (x = .non))) H := by
  unfold rNotN
  simp
theorem r_ltS {a b : Str} : rLtS (.str a) (.str b) H Q = Q (.bl (decide (a.cps.toList < b.cps.toList))) H := by
  refine propext ⟨fun ⟨_, _, e, f, q⟩ => ?_, fun q => ⟨_, _, rfl, rfl, q⟩⟩
  cases e; cases f; exact q
theorem r_leS {a b : Str} : rLeS (.str a) (.str b) H Q = Q (.bl (!decide (b.cps.toList < a.cps.toList))) H := by
  refine propext ⟨fun ⟨_, _, e, f, q⟩ => ?_, fun q => ⟨_, _, rfl, rfl, q⟩⟩
  cases e; cases f; exact q
theorem r_addS {a b : Str} : TB.rAddS (.str a) (.str b) H Q = (a.length + b.length ≤ sizeLine ∧ Q (.str (a ++ b)) H) := by
  refine propext ⟨fun ⟨_, _, e, f, q⟩ => ?_, fun q => ⟨_, _, rfl, rfl, q⟩⟩
  cases e; cases f; exact q
theorem r_inS {n : Nat} {b : Str} : TB.rInS (.str ⟨#[n]⟩) (.str b) H Q = Q (.bl (decide (n ∈ b.cps.toList))) H := by
  refine propext ⟨fun ⟨_, _, e, f, q⟩ => ?_, fun q => ⟨_, _, rfl, rfl, q⟩⟩
  cases e; cases f; exact q
theorem r_notInS {n : Nat} {b : Str} : TB.rNotInS (.str ⟨#[n]⟩) (.str b) H Q = Q (.bl (!decide (n ∈ b.cps.toList))) H := by
  refine propext ⟨fun ⟨_, _, e, f, q⟩ => ?_, fun q => ⟨_, _, rfl, rfl, q⟩⟩
  cases e; cases f; exact q
theorem r_ltVI : rLtV (.int i) (.int j) H Q = Q (.bl (decide (i < j))) H := by
  refine propext ⟨fun h => ?_, fun q => .inl ⟨_, _, rfl, rfl, q⟩⟩
  rcases h with ⟨_, _, e, f, q⟩ | ⟨_, _, e, _⟩
  · cases e; cases f; exact q
  · cases e
theorem r_ltVS {a b : Str} : rLtV (.str a) (.str b) H Q = Q (.bl (decide (a.cps.toList < b.cps.toList))) H := by
  refine propext ⟨fun h => ?_, fun q => .inr ⟨_, _, rfl, rfl, q⟩⟩
  rcases h with ⟨_, _, e, _⟩ | ⟨_, _, e, f, q⟩
  · cases e
  · cases e; cases f; exact q
theorem r_lenS {z : Str} : TB.rLenS [.str z] H Q = (z.length ≤ sizeLine ∧ Q (.int z.length) H) := by
  refine propext ⟨fun ⟨_, e, q⟩ => ?_, fun q => ⟨_, rfl, q⟩⟩
  cases e; exact q
theorem r_int1I : rInt1 [.int i] H Q = Q (.int i) H := by
  refine propext ⟨fun h => ?_, fun q => .inl ⟨_, rfl, q⟩⟩
  rcases h with ⟨_, e, q⟩ | ⟨_, e, _⟩
  · cases e; exact q
  · cases e
theorem r_int1B {b : Bool} : rInt1 [.bl b] H Q = Q (.int (if b then 1 else 0)) H := by
  refine propext ⟨fun h => ?_, fun q => .inr ⟨_, rfl, q⟩⟩
  rcases h with ⟨_, e, _⟩ | ⟨_, e, q⟩
  · cases e
  · cases e; exact q
theorem r_max2 : TB.rMax2 [.int i, .int j] H Q = Q (.int (if j > i then j else i)) H := by
  refine propext ⟨fun ⟨_, _, e, q⟩ => ?_, fun q => ⟨_, _, rfl, q⟩⟩
  cases e; exact q
/-- what must be told of lists and tuples: an item, a length -/
theorem q_ixT {K : PySem.W.Frag} {a : Addr} {xs : List V} (h : SqT K H a xs) (e : atI xs i = some v) (q : Q v H) : rIxT K (.ref a) (.int i) H Q := ⟨a, xs, i, v, rfl, rfl, h, e, q⟩
theorem q_ixL {K : PySem.W.Frag} {a : Addr} {xs : List V} (h : SqL K H a xs) (e : atI xs i = some v) (q : Q v H) : rIxL K (.ref a) (.int i) H Q := ⟨a, xs, i, v, rfl, rfl, h, e, q⟩
theorem q_lenT {K : PySem.W.Frag} {a : Addr} {xs : List V} (h : SqT K H a xs) (q : Q (.int xs.length) H) : rLenQ K [.ref a] H Q := ⟨a, xs, rfl, .inr h, q⟩
theorem q_lenL {K : PySem.W.Frag} {a : Addr} {xs : List V} (h : SqL K H a xs) (q : Q (.int xs.length) H) : rLenQ K [.ref a] H Q := ⟨a, xs, rfl, .inl h, q⟩
theorem q_tup {K : PySem.W.Frag} {a : Addr} {xs : List V} {n : Nat} {gs : TGs} {N : L2.St → Hp → Prop} (h : SqT K H a xs) (hl : xs.length = n) (q : gs xs σ H N) : gTup K n gs (.ref a) σ H N := ⟨a, xs, rfl, h, hl, q⟩
theorem cutV_whole {xs : List V} {lo hi : Option Int} (h : HT.sIx xs.length 0 lo = 0 ∧ HT.sIx xs.length xs.length hi = xs.length) : cutV xs lo hi = xs := by
  unfold cutV
  rw [h.1, h.2]
  simp
theorem cutV_take {xs : List V} {k : Nat} (h : k ≤ xs.length) : cutV xs none (some (k : Int)) = xs.take k := by
  unfold cutV
  rw [HT.sIx_none, HT.sIx_nat, Nat.min_eq_left h]
  simp
theorem cutV_drop {xs : List V} {k : Nat} (h : k ≤ xs.length) : cutV xs (some (k : Int)) none = xs.drop k := by
  unfold cutV
  rw [HT.sIx_none, HT.sIx_nat, Nat.min_eq_left h]
  exact List.take_of_length_le (by rw [List.length_drop]; omega)
/-- t[lo:hi], t a tuple -/
theorem q_slT {K : PySem.W.Frag} {a : Addr} {xs : List V} {lo hi : Option Int} (h : SqT K H a xs) (q : ∀ p H', Ex H H' → SqT K H' p (cutV xs lo hi) → Q (.ref p) H') : rSlA K (.ref a) lo hi H Q :=
  ⟨a, xs, rfl, h, fun w => q a H (exr H) (by rw [cutV_whole w]; exact h), fun _ p hp => q p _ (Ex.nw hp) (SqT.of upd_same)⟩
/-- t + u, two tuples -/
theorem q_catT {K : PySem.W.Frag} {a b : Addr} {xs ys : List V} (ha : SqT K H a xs) (hb : SqT K H b ys) (hl : xs.length + ys.length ≤ sizeLine) (q : ∀ p H', Ex H H' → SqT K H' p (xs ++ ys) → Q (.ref p) H') : rCatA K (.ref a) (.ref b) H Q := by
  refine ⟨a, b, xs, ys, rfl, rfl, ha, hb, hl, fun e => ?_, fun _ e => ?_, fun _ _ p hp => q p _ (Ex.nw hp) (SqT.of upd_same)⟩
  · subst e
    exact q b H (exr H) hb
  · subst e
    exact q a H (exr H) (by rw [List.append_nil]; exact ha)
theorem q_iteP {p A B : Prop} [Decidable p] (h1 : p → A) (h2 : ¬ p → B) : if p then A else B := by
  by_cases h : p
  · rw [if_pos h]; exact h1 h
  · rw [if_neg h]; exact h2 h
theorem q_ite {A B : Prop} {b : Bool} (h1 : b = true → A) (h2 : b = false → B) : if b = true then A else B := by
  cases b with
  | true => rw [if_pos rfl]; exact h1 rfl
  | false => rw [if_neg Bool.false_ne_true]; exact h2 rfl
end
/-! ### loops, by what is left -/
section
variable {K : PySem.W.Frag} {g : TG} {tb : TS} {D : Ends} {σ : L2.St} {H : Hp} {a : Addr} {xs : List V} {te : TE} {j : Nat}
theorem drop_cons {α : Type} {l : List α} {i : Nat} (h : i < l.length) : ∃ x, l[i]? = some x ∧ l.drop i = x :: l.drop (i + 1) := ⟨l[i], by simp [h], by rw [List.drop_eq_getElem_cons h]⟩
theorem drop_at {α : Type} {l : List α} {i : Nat} {x : α} (h : l[i]? = some x) : l.drop i = x :: l.drop (i + 1) := by
  obtain ⟨h1, h2⟩ := List.getElem?_eq_some_iff.mp h
  rw [List.drop_eq_getElem_cons h1, h2]
/-- for x in t, t a tuple -/
theorem f_tup (hv : ∀ R : VK, R (.ref a) H → te σ H R) (hx : SqT K H a xs) (Pv : List V → L2.St → Hp → Prop) (h0 : Pv xs σ H) (hG : ∀ r σ H, Pv r σ H → SqT K H a xs)
    (hs : ∀ x r σ H, Pv (x :: r) σ H → g x σ H fun σ2 H2 => tb { D with nx := Pv r, ct := Pv r, bk := D.nx } σ2 H2) (hd : ∀ σ H, Pv [] σ H → D.nx σ H) : tFor (iTup K te) g tb D σ H := by
  show te σ H _
  refine hv _ ⟨a, rfl, ⟨xs, hx⟩, for_it walk_tup (fun i σ H => Pv (xs.drop i) σ H) (by simpa using h0) (fun i σ H _ p => hG _ _ _ p) (fun i x σ H H' hi p y => ?_) (fun σ H p => hd σ H (by simpa using p))⟩
  obtain ⟨rfl, hx⟩ := y
  have p2 : Pv (x :: xs.drop (i + 1)) σ H' := by rw [← drop_at hx]; exact p
  exact hs x _ σ H' p2
/-- for x in l, l a list -/
theorem f_lst (hv : ∀ R : VK, R (.ref a) H → te σ H R) (hx : SqL K H a xs) (Pv : List V → L2.St → Hp → Prop) (h0 : Pv xs σ H) (hG : ∀ r σ H, Pv r σ H → SqL K H a xs)
    (hs : ∀ x r σ H, Pv (x :: r) σ H → g x σ H fun σ2 H2 => tb { D with nx := Pv r, ct := Pv r, bk := D.nx } σ2 H2) (hd : ∀ σ H, Pv [] σ H → D.nx σ H) : tFor (iList K te) g tb D σ H := by
  show te σ H _
  refine hv _ ⟨a, rfl, ⟨xs, hx⟩, for_it walk_list (fun i σ H => Pv (xs.drop i) σ H) (by simpa using h0) (fun i σ H _ p => hG _ _ _ p) (fun i x σ H H' hi p y => ?_) (fun σ H p => hd σ H (by simpa using p))⟩
  obtain ⟨rfl, hx⟩ := y
  have p2 : Pv (x :: xs.drop (i + 1)) σ H' := by rw [← drop_at hx]; exact p
  exact hs x _ σ H' p2
/-- for c in z, z a text -/
theorem f_str {z : Str} (hv : ∀ R : VK, R (.str z) H → te σ H R) (Pv : List Nat → L2.St → Hp → Prop) (h0 : Pv z.cps.toList σ H)
    (hs : ∀ c r σ H, Pv (c :: r) σ H → tb { D with nx := Pv r, ct := Pv r, bk := D.nx } (σ.set j (some (.str ⟨#[c]⟩))) H) (hd : ∀ σ H, Pv [] σ H → D.nx σ H) : tFor (iStr te) (gName j) tb D σ H := by
  show te σ H _
  have e0 : z.cps.toList.drop z.cps.size = [] := by simp
  refine hv _ ⟨z, rfl, for_it walk_str (fun i σ H => Pv (z.cps.toList.drop i) σ H) (by simpa using h0) (fun i σ H _ p => trivial) (fun i x σ H H' hi p y => ?_) (fun σ H p => hd σ H (by rw [← e0]; exact p))⟩
  obtain ⟨rfl, c, hc, rfl⟩ := y
  have p2 : Pv (c :: z.cps.toList.drop (i + 1)) σ H' := by rw [← drop_at (l := z.cps.toList) (i := i) (x := c) (by simpa using hc)]; exact p
  exact hs c _ σ H' p2
/-- for k in d, d a dict, under its lock: within, d holds what it held, locked -/
theorem f_keys {d : Addr} {kvs : List (Key × V)} (hd0 : H d = some (.dK kvs)) (hv : ∀ (od : Obj) (R : VK), R (.ref d) (upd H d (.frz od (.dK kvs))) → te σ (upd H d (.frz od (.dK kvs))) R) (Pv : Obj → List (Key × V) → L2.St → Hp → Prop) (h0 : ∀ od, Pv od kvs σ (upd H d (.frz od (.dK kvs))))
    (hG : ∀ od r σ H, Pv od r σ H → H d = some (.frz od (.dK kvs)))
    (hs : ∀ od k v r σ H, Pv od ((k, v) :: r) σ H → tb ⟨Pv od r, fun u H' => H' d = some (.frz od (.dK kvs)) ∧ D.rt u (upd H' d (.dK kvs)), fun σ' H' => H' d = some (.frz od (.dK kvs)) ∧ D.nx σ' (upd H' d (.dK kvs)), Pv od r⟩ (σ.set j (some (kV k))) H)
    (hd : ∀ od σ H, Pv od [] σ H → D.nx σ (upd H d (.dK kvs))) : tLock (tFor (iKeys te) (gName j) tb) D σ H := by
  refine ⟨d, _, hd0, trivial, fun od => ?_⟩
  show te σ _ _
  refine hv od _ ⟨d, od, rfl, .inl ⟨kvs, upd_same, for_it walk_keys (fun i σ H => Pv od (kvs.drop i) σ H) (by simpa using h0 od) (fun i σ H _ p => hG _ _ _ _ p) (fun i x σ H H' hi p y => ?_) (fun σ H p => ?_)⟩⟩
  · obtain ⟨rfl, k, v, hk, rfl⟩ := y
    have p2 : Pv od ((k, v) :: kvs.drop (i + 1)) σ H' := by rw [← drop_at hk]; exact p
    exact hs od k v _ σ H' p2
  · have p2 : Pv od [] σ H := by simpa using p
    exact ⟨hG _ _ _ _ p2, hd od σ H p2⟩
/-- for i in range(n) -/
theorem f_rng {ta : TA} {n : Int} (hv : ∀ R : List V → Hp → Prop, R [.int n] H → ta σ H R) (hn : -(2 ^ 62) ≤ n ∧ n < 2 ^ 62) (Pv : Nat → L2.St → Hp → Prop) (h0 : Pv 0 σ H)
    (hs : ∀ (i : Nat) σ H, (i : Int) < n → Pv i σ H → tb { D with nx := Pv (i + 1), ct := Pv (i + 1), bk := D.nx } (σ.set j (some (.int (i : Int)))) H) (hd : ∀ σ H, Pv n.toNat σ H → D.nx σ H) : tFor (iRng1 ta) (gName j) tb D σ H := by
  show ta σ H _
  refine hv _ ⟨n, rfl, hn.1, hn.2, for_it walk_range Pv h0 (fun _ _ _ _ _ => trivial) (fun i x σ H H' hi p y => ?_) hd⟩
  obtain ⟨rfl, rfl⟩ := y
  have e0 : (0 : Int) + (i : Int) = (i : Int) := Int.zero_add _
  show tb { D with nx := Pv (i + 1), ct := Pv (i + 1), bk := D.nx } (σ.set j (some (.int ((0 : Int) + (i : Int))))) H'
  rw [e0]
  exact hs i σ H' (by omega) p
/-- for x, y in zip(t, u), two tuples of one length -/
theorem f_zip {ta : TA} {b : Addr} {ys : List V} (hv : ∀ R : List V → Hp → Prop, R [.ref a, .ref b] H → ta σ H R) (hx : SqT K H a xs) (hy : SqT K H b ys) (hl : xs.length = ys.length) (Pv : List V → List V → L2.St → Hp → Prop) (h0 : Pv xs ys σ H)
    (hG : ∀ r s σ H, Pv r s σ H → SqT K H a xs ∧ SqT K H b ys)
    (hs : ∀ x y r s T σ H, Pv (x :: r) (y :: s) σ H → H T = none → g (.ref T) σ (upd H T (.tup [x, y])) fun σ2 H2 => tb { D with nx := Pv r s, ct := Pv r s, bk := D.nx } σ2 H2) (hd : ∀ σ H, Pv [] [] σ H → D.nx σ H) : tFor (RZ.iZipA K ta) g tb D σ H := by
  show ta σ H _
  refine hv _ ⟨a, b, xs, ys, rfl, .inr ⟨hx, hy, RZ.for_zipT hl (fun i σ H => Pv (xs.drop i) (ys.drop i) σ H) (by simpa using h0) (fun i σ H p => hG _ _ _ _ p) (fun i x y T σ H ex ey p hT => ?_) (fun σ H p => hd σ H ?_)⟩⟩
  · have p2 : Pv (x :: xs.drop (i + 1)) (y :: ys.drop (i + 1)) σ H := by rw [← drop_at ex, ← drop_at ey]; exact p
    exact hs x y _ _ T σ H p2 hT
  · have h1 : xs.drop xs.length = [] := by simp
    have h2 : ys.drop xs.length = [] := by rw [hl]; simp
    have p2 : Pv (xs.drop xs.length) (ys.drop xs.length) σ H := p
    rw [h1, h2] at p2
    exact p2
end
/-! ### dicts, fields -/
section
variable {K : PySem.W.Frag} {H : Hp} {Q : VK} {a : Addr} {kvs : List (Key × V)} {k : Key} {y v : V} {D : Ends} {σ : L2.St}
theorem q_dget (h : Rd H a (.dK kvs)) (hy : y = kV k) (hv : valV kvs k = some v) (q : Q v H) : dgetR (.ref a) y H Q := ⟨a, v, rfl, .inl ⟨kvs, k, h, hy, hv.symm⟩, q⟩
theorem q_din {N : Bool → Prop} (h : Rd H a (.dK kvs)) (hy : y = kV k) (q : N (valV kvs k).isSome) : dinR (.ref a) y H N := ⟨a, _, rfl, .inl ⟨kvs, k, h, hy, rfl⟩, q⟩
theorem q_dput {N : Hp → Prop} (h : H a = some (.dK kvs)) (hy : y = kV k) (hl : kvs.length < sizeLine) (q : N (upd H a (.dK (putK kvs k v)))) : dputR (.ref a) y v H N := ⟨a, _, rfl, .inl ⟨kvs, k, h, hy, hl, rfl⟩, q⟩
theorem q_fld {C dx : Addr} {fs : List (Str × V)} {f : Str} (h : H a = some (.ins C dx fs)) (c : Cls K C) (n : NoAttr K C f) (l : fs.lookup f = some v) (q : Q v H) : fldR K f (.ref a) H Q := ⟨a, C, dx, fs, v, rfl, h, c, n, l, q⟩
theorem q_sfld {C dx : Addr} {fs : List (Str × V)} {f : Str} {N : Hp → Prop} (h : H a = some (.ins C dx fs)) (c : Cls K C) (n : NoAttr K C f) (l : fs.length < 1000) (q : N (upd H a (.ins C dx (putF f y fs)))) : sfldR K f (.ref a) y H N := ⟨a, C, dx, fs, rfl, h, c, n, l, q⟩
theorem q_meth {C dx : Addr} {fs : List (Str × V)} {m : Str} {N : Addr → Prop} (h : H a = some (.ins C dx fs)) (l : fs.lookup m = none) (q : N a) : methR C m (.ref a) H N := ⟨a, dx, fs, rfl, h, l, q⟩
theorem q_dictD (h : Rd H a (.dK kvs)) (q : ∀ p, H p = none → Q (.ref p) (upd H p (.dK kvs))) : rDictD [.ref a] H Q := ⟨a, kvs, rfl, h, q⟩
theorem q_listD (h : Rd H a (.dK kvs)) (q : ∀ p, H p = none → Q (.ref p) (upd H p (.lst (kvs.map fun kv => kV kv.1)))) : rListD [.ref a] H Q := ⟨a, kvs, rfl, h, q⟩
theorem upd_self {o : HO} (h : H a = some o) : upd H a o = H := by
  funext b
  by_cases e : b = a
  · rw [e, upd_same, h]
  · rw [upd_ne e]
theorem lk_here {f : Str} {v : V} {r : List (Str × V)} : List.lookup f ((f, v) :: r) = some v := by
  have e : (f == f) = true := beq_self_eq_true f
  simp only [List.lookup, e]
theorem lk_past {f g : Str} {v : V} {r : List (Str × V)} (h : (f == g) = false) : List.lookup f ((g, v) :: r) = List.lookup f r := by
  simp only [List.lookup, h]
theorem pf_here {f : Str} {v x : V} {r : List (Str × V)} : putF f v ((f, x) :: r) = (f, v) :: r := if_pos rfl
theorem pf_past {f g : Str} {v x : V} {r : List (Str × V)} (h : ¬ g = f) : putF f v ((g, x) :: r) = (g, x) :: putF f v r := if_neg h
end
/-! ### lists and tuples stay, whatever becomes of dicts -/
def seqO : HO → Bool
  | .lst _ => true
  | .tup _ => true
  | .frz _ u => seqO u
  | _ => false
def Lx (H H' : Hp) : Prop := ∀ a o, seqO o = true → H a = some o → H' a = some o
theorem Lx.of {H H' : Hp} (e : Ex H H') : Lx H H' := fun a o _ h => e a o h
theorem lxr (H : Hp) : Lx H H := fun _ _ _ h => h
theorem Lx.tr {H H1 H2 : Hp} (a : Lx H H1) (b : Lx H1 H2) : Lx H H2 := fun c o s h => b c o s (a c o s h)
/-- an object that is no list, no tuple changes -/
theorem Lx.up {H : Hp} {a : Addr} {o u : HO} (h : H a = some o) (s : seqO o = false) : Lx H (upd H a u) := fun b p sp hb => by
  have ne : b ≠ a := fun e => by
    rw [e, h] at hb
    cases hb
    rw [s] at sp
    cases sp
  rw [upd_ne ne]
  exact hb
theorem Lx.rd {H H' : Hp} {a : Addr} {u : HO} (e : Lx H H') (s : seqO u = true) (h : Rd H a u) : Rd H' a u := by
  rcases h with h | ⟨o, h⟩
  · exact .inl (e a _ s h)
  · exact .inr ⟨o, e a _ (show seqO (.frz o u) = true from s) h⟩
theorem Lx.l {K : PySem.W.Frag} {H H' : Hp} {a : Addr} {xs : List V} (e : Lx H H') (h : SqL K H a xs) : SqL K H' a xs := by
  rcases h with h | h
  · exact .inl (e.rd rfl h)
  · exact .inr h
theorem Lx.t {K : PySem.W.Frag} {H H' : Hp} {a : Addr} {xs : List V} (e : Lx H H') (h : SqT K H a xs) : SqT K H' a xs := by
  rcases h with h | h
  · exact .inl (e.rd rfl h)
  · exact .inr h
mutual
theorem Dp.lx {K : PySem.W.Frag} {H H' : Hp} (e : Lx H H') : ∀ (d : PyData) (v : V), Dp K H v d → Dp K H' v d
  | .none, _, h => by cases h; exact .non
  | .bool b, _, h => by cases h; exact .bl b
  | .int i, _, h => by cases h; exact .int i
  | .str x, _, h => by cases h; exact .str x
  | .list ds, _, h => by
    cases h with
    | lst h1 h2 => exact .lst (e.l h1) (DpAll.lx e ds _ h2)
  | .tuple ds, _, h => by
    cases h with
    | tup h1 h2 => exact .tup (e.t h1) (DpAll.lx e ds _ h2)
  | .dict _, _, h => by cases h
theorem DpAll.lx {K : PySem.W.Frag} {H H' : Hp} (e : Lx H H') : ∀ (ds : List PyData) (vs : List V), DpAll K H vs ds → DpAll K H' vs ds
  | [], _, h => by cases h; exact .nil
  | d :: ds, _, h => by
    cases h with
    | cons h1 h2 => exact .cons (Dp.lx e d _ h1) (DpAll.lx e ds _ h2)
end
/-! ### tuples stay -/
def tupO : HO → Bool
  | .tup _ => true
  | .frz _ u => tupO u
  | _ => false
def Tt (H H' : Hp) : Prop := ∀ a o, tupO o = true → H a = some o → H' a = some o
theorem Tt.of {H H' : Hp} (e : Ex H H') : Tt H H' := fun a o _ h => e a o h
theorem Tt.tr {H H1 H2 : Hp} (a : Tt H H1) (b : Tt H1 H2) : Tt H H2 := fun c o s h => b c o s (a c o s h)
theorem Tt.up {H : Hp} {a : Addr} {o u : HO} (h : H a = some o) (s : tupO o = false) : Tt H (upd H a u) := fun b p sp hb => by
  have ne : b ≠ a := fun e => by
    rw [e, h] at hb
    cases hb
    rw [s] at sp
    cases sp
  rw [upd_ne ne]
  exact hb
theorem Tt.t {K : PySem.W.Frag} {H H' : Hp} {a : Addr} {xs : List V} (e : Tt H H') (h : SqT K H a xs) : SqT K H' a xs := by
  rcases h with (h | ⟨o, h⟩) | h
  · exact .inl (.inl (e _ _ rfl h))
  · exact .inl (.inr ⟨o, e _ _ rfl h⟩)
  · exact .inr h
mutual
/-- no list in it -/
def noL : PyData → Bool
  | .list _ => false
  | .dict _ => false
  | .tuple ds => noLA ds
  | _ => true
def noLA : List PyData → Bool
  | [] => true
  | d :: ds => noL d && noLA ds
end
mutual
theorem Dp.tt {K : PySem.W.Frag} {H H' : Hp} (e : Tt H H') : ∀ (d : PyData) (v : V), noL d = true → Dp K H v d → Dp K H' v d
  | .none, _, _, h => by cases h; exact .non
  | .bool b, _, _, h => by cases h; exact .bl b
  | .int i, _, _, h => by cases h; exact .int i
  | .str x, _, _, h => by cases h; exact .str x
  | .list ds, _, n, h => by simp [noL] at n
  | .tuple ds, _, n, h => by
    cases h with
    | tup h1 h2 => exact .tup (e.t h1) (DpAll.tt e ds _ (by simpa [noL] using n) h2)
  | .dict _, _, _, h => by cases h
theorem DpAll.tt {K : PySem.W.Frag} {H H' : Hp} (e : Tt H H') : ∀ (ds : List PyData) (vs : List V), noLA ds = true → DpAll K H vs ds → DpAll K H' vs ds
  | [], _, _, h => by cases h; exact .nil
  | d :: ds, _, n, h => by
    simp only [noLA, Bool.and_eq_true] at n
    cases h with
    | cons h1 h2 => exact .cons (Dp.tt e d _ n.1 h1) (DpAll.tt e ds _ n.2 h2)
end
/-- a dict's lock, and behind it -/
theorem lk_lx {H : Hp} {d : Addr} {kvs : List (Key × V)} {u : HO} (h : H d = some (.dK kvs)) : Lx H (upd H d u) := Lx.up h rfl
theorem unlock_ex {H H' : Hp} {d : Addr} {kvs : List (Key × V)} {od : Obj} (h : H d = some (.dK kvs)) (e : Ex (upd H d (.frz od (.dK kvs))) H') : Ex H (upd H' d (.dK kvs)) := fun b o hb => by
  by_cases z : b = d
  · rw [z] at hb ⊢
    rw [upd_same, ← h]
    exact hb
  · rw [upd_ne z]
    exact e b o (by rw [upd_ne z]; exact hb)
theorem unlock_lx {H' : Hp} {d : Addr} {kvs : List (Key × V)} {od : Obj} (h : H' d = some (.frz od (.dK kvs))) : Lx H' (upd H' d (.dK kvs)) := Lx.up h rfl
/-! ### a new instance of a class of the top -/
section
variable {X : Cx} {k j : Nat} {c : Str} {ps : List Str} {sp : Sp} {e : Expr} {es : List Expr} {t : TA} {p pos : Pos}
def tMk (C : Addr) (sp : Sp) (t : TA) : TE := fun σ H Q => t σ H fun vs H1 => ∀ x dx, H1 x = none → H1 dx = none → dx ≠ x → sp (.ref x :: vs) (upd (upd H1 dx (.own x)) x (.ins C dx [])) (fun v H2 => v = .non ∧ Q (.ref x) H2) E0
theorem pe_mk (M : Mk X.K (He.ga X.K c) (He.ma X.K (He.ga X.K c) "__init__")) (F : Md X.prog X.w X.K X.mg X.base CX0 k c "__init__" ps sp) (hr : Room j X.A) (hj : k + 1 ≤ j) (hm : X.mg c = some (.ref (He.ga X.K c))) (ha : PA X (e :: es) t) (hg : Gl X c := by rfl)
    (hdb : (c == ("__debug__" : Str)) = false := by decide) (he : starEach (e :: es) X.env = (false, eval e X.env) :: starEach es X.env := by rfl) (hpl : (backTo pos (starEach es X.env)).any (·.1) = false := by rfl) : PE X (.Call (.Name c p) (e :: es) [] pos) (tMk (He.ga X.K c) sp t) := by
  obtain ⟨fd, hb, F⟩ := F
  have z := pe_make (E := E0) M F (hr.mono hj) hg hm hb .nil pass0 ha hdb he hpl (pos := pos) (p := p)
  refine ⟨fun pins s σ H Q I h => z.run pins s σ H Q I ?_⟩
  show t σ H fun vs H1 => ∀ x dx, H1 x = none → H1 dx = none → dx ≠ x → sp (.ref x :: (vs ++ [])) (upd (upd H1 dx (.own x)) x (.ins (He.ga X.K c) dx [])) (fun v H2 => v = .non ∧ Q (.ref x) H2) E0
  simp only [List.append_nil]
  exact h
theorem pe_mk0 (M : Mk X.K (He.ga X.K c) (He.ma X.K (He.ga X.K c) "__init__")) (F : Md X.prog X.w X.K X.mg X.base CX0 k c "__init__" ps sp) (hr : Room j X.A) (hj : k + 1 ≤ j) (hm : X.mg c = some (.ref (He.ga X.K c))) (hg : Gl X c := by rfl)
    (hdb : (c == ("__debug__" : Str)) = false := by decide) : PE X (.Call (.Name c p) [] [] pos) (tMk (He.ga X.K c) sp tNil) := by
  obtain ⟨fd, hb, F⟩ := F
  have z := pe_make0 (E := E0) M F (hr.mono hj) hg hm hb .nil pass0 hdb (pos := pos) (p := p)
  exact ⟨fun pins s σ H Q I h => z.run pins s σ H Q I h⟩
theorem r_mk {C : Addr} {σ : L2.St} {H : Hp} {Q : VK} : tMk C sp t σ H Q = t σ H fun vs H1 => ∀ x dx, H1 x = none → H1 dx = none → dx ≠ x → sp (.ref x :: vs) (upd (upd H1 dx (.own x)) x (.ins C dx [])) (fun v H2 => v = .non ∧ Q (.ref x) H2) E0 := rfl
end
/-! ### comprehensions, by what is left -/
section
variable {K : PySem.W.Frag} {g : TG} {te tl : TE} {ta : TA} {vs : List Nat} {σ : L2.St} {H : Hp} {Q : VK} {a : Addr} {xs : List V}
theorem r_wipe0 : wipe σ [] = σ := rfl
theorem r_wipeS {v : Nat} : wipe σ (v :: vs) = (wipe σ vs).set v none := rfl
/-- the element put into the list at D -/
def elR (D : Addr) (N : Hp → Prop) : VK := fun y H4 => ∃ acc, H4 D = some (.lst acc) ∧ acc.length < sizeLine ∧ N (upd H4 D (.lst (acc ++ [y])))
theorem q_el {D : Addr} {N : Hp → Prop} {acc : List V} {y : V} (h : H D = some (.lst acc)) (l : acc.length < sizeLine) (q : N (upd H D (.lst (acc ++ [y])))) : elR D N y H := ⟨acc, h, l, q⟩
def lcJ (J : It) (g : TG) (te : TE) (vs : List Nat) (σ : L2.St) (H1 : Hp) (Q : VK) : Prop := ∀ D, H1 D = none → ∃ W : Nat → Nat → Hp → Prop, (∃ m, W 0 m (upd H1 D (.lst []))) ∧ ∀ i m H, W i m H →
  (J.stop i H ∧ Q (.ref D) H) ∨ (J.go i H ∧ ∃ Nx : Hp → Prop, (∀ H', Nx H' → ∃ m', m' < m ∧ W (i + 1) m' H') ∧ ∀ x H', J.yld i H x H' → g x (wipe σ vs) H' fun σ2 H2 => wipe σ2 vs = wipe σ vs ∧ tYes σ2 H2 fun b H3 =>
    if b = true then te σ2 H3 fun y H4 => ∃ acc, H4 D = some (.lst acc) ∧ acc.length < sizeLine ∧ Nx (upd H4 D (.lst (acc ++ [y]))) else Nx H3)
def lcL (K : PySem.W.Frag) (g : TG) (te : TE) (vs : List Nat) (σ : L2.St) (x : V) (H : Hp) (Q : VK) : Prop := ∃ a, x = .ref a ∧ (∃ xs, SqL K H a xs) ∧ lcJ (Itl K a) g te vs σ H Q
def lcN (g : TG) (te : TE) (vs : List Nat) (σ : L2.St) (xs : List V) (H : Hp) (Q : VK) : Prop := ∃ j : Int, xs = [.int j] ∧ -(2 ^ 62) ≤ j ∧ j < 2 ^ 62 ∧ lcJ (Itr 0 j.toNat) g te vs σ H Q
theorem r_lcL : tLc (iList K tl) g tYes te vs σ H Q = tl σ H fun x H1 => lcL K g te vs σ x H1 Q := rfl
theorem r_lcN : tLc (iRng1 ta) g tYes te vs σ H Q = ta σ H fun xs H1 => lcN g te vs σ xs H1 Q := rfl
/-- over a list -/
theorem q_lcL (hx : SqL K H a xs) (P : Addr → List V → Hp → Prop) (h0 : ∀ D, H D = none → P D xs (upd H D (.lst []))) (hG : ∀ D r H', P D r H' → SqL K H' a xs)
    (hs : ∀ D x r H', P D (x :: r) H' → g x (wipe σ vs) H' fun σ2 H2 => wipe σ2 vs = wipe σ vs ∧ te σ2 H2 (elR D (P D r))) (hd : ∀ D H', P D [] H' → Q (.ref D) H') : lcL K g te vs σ (.ref a) H Q := by
  refine ⟨a, rfl, ⟨xs, hx⟩, fun D hD => lc_it (Qd := fun H' => Q (.ref D) H') walk_list (fun i H' => P D (xs.drop i) H') (by simpa using h0 D hD) (fun i H' _ p => hG _ _ _ p) (fun i x H1 H2 hi p y => ?_) (fun H' p => hd D H' (by simpa using p))⟩
  obtain ⟨rfl, hy⟩ := y
  have p2 : P D (x :: xs.drop (i + 1)) H2 := by rw [← drop_at hy]; exact p
  exact hs D x _ H2 p2
/-- over range(n) -/
theorem q_lcN {n : Int} (hn : -(2 ^ 62) ≤ n ∧ n < 2 ^ 62) (P : Addr → Nat → Hp → Prop) (h0 : ∀ D, H D = none → P D 0 (upd H D (.lst [])))
    (hs : ∀ D (i : Nat) H', (i : Int) < n → P D i H' → g (.int (i : Int)) (wipe σ vs) H' fun σ2 H2 => wipe σ2 vs = wipe σ vs ∧ te σ2 H2 (elR D (P D (i + 1)))) (hd : ∀ D H', P D n.toNat H' → Q (.ref D) H') : lcN g te vs σ [.int n] H Q := by
  refine ⟨n, rfl, hn.1, hn.2, fun D hD => lc_it (Qd := fun H' => Q (.ref D) H') walk_range (fun i H' => P D i H') (h0 D hD) (fun _ _ _ _ => trivial) (fun i x H1 H2 hi p y => ?_) (fun H' p => hd D H' p)⟩
  obtain ⟨rfl, rfl⟩ := y
  have e0 : (0 : Int) + (i : Int) = (i : Int) := Int.zero_add _
  show g (.int ((0 : Int) + (i : Int))) (wipe σ vs) H2 _
  rw [e0]
  exact hs D i H2 (by omega) p
def lcN2 (g : TG) (te : TE) (vs : List Nat) (σ : L2.St) (xs : List V) (H : Hp) (Q : VK) : Prop := ∃ i j : Int, xs = [.int i, .int j] ∧ (-(2 ^ 62) ≤ i ∧ i < 2 ^ 62 ∧ -(2 ^ 62) ≤ j ∧ j < 2 ^ 62) ∧ lcJ (Itr i (j - i).toNat) g te vs σ H Q
theorem r_lcN2 : tLc (iRng2 ta) g tYes te vs σ H Q = ta σ H fun xs H1 => lcN2 g te vs σ xs H1 Q := rfl
/-- over range(i, i) -/
theorem q_lcE {i : Int} (hn : -(2 ^ 62) ≤ i ∧ i < 2 ^ 62) (q : ∀ D, H D = none → Q (.ref D) (upd H D (.lst []))) : lcN2 g te vs σ [.int i, .int i] H Q := by
  refine ⟨i, i, rfl, ⟨hn.1, hn.2, hn.1, hn.2⟩, fun D hD => ?_⟩
  rw [show (i - i).toNat = 0 by omega]
  exact lc_it (Qd := fun H' => Q (.ref D) H') walk_range (fun _ H' => H' = upd H D (.lst [])) rfl (fun _ _ _ _ => trivial) (fun i x H1 H2 hi p y => absurd hi (Nat.not_lt_zero _)) (fun H' p => by rw [p]; exact q D hD)
/-- over a dict's keys, under its lock -/
theorem q_lcK {d : Addr} {kvs : List (Key × V)} (hd0 : H d = some (.dK kvs)) (hv : ∀ (od : Obj) (R : VK), R (.ref d) (upd H d (.frz od (.dK kvs))) → tl σ (upd H d (.frz od (.dK kvs))) R) (P : Obj → Addr → List (Key × V) → Hp → Prop) (h0 : ∀ od D, upd H d (.frz od (.dK kvs)) D = none → P od D kvs (upd (upd H d (.frz od (.dK kvs))) D (.lst [])))
    (hG : ∀ od D r H', P od D r H' → H' d = some (.frz od (.dK kvs)))
    (hs : ∀ od D k v r H', P od D ((k, v) :: r) H' → g (kV k) (wipe σ vs) H' fun σ2 H2 => wipe σ2 vs = wipe σ vs ∧ te σ2 H2 (elR D (P od D r))) (hd : ∀ od D H', P od D [] H' → Q (.ref D) (upd H' d (.dK kvs))) : tLockE (tLc (iKeys tl) g tYes te vs) σ H Q := by
  refine ⟨d, _, hd0, trivial, fun od => ?_⟩
  show tl σ _ _
  refine hv od _ ⟨d, od, rfl, .inl ⟨kvs, upd_same, fun D hD => lc_it (Qd := fun H' => H' d = some (.frz od (.dK kvs)) ∧ Q (.ref D) (upd H' d (.dK kvs))) walk_keys (fun i H' => P od D (kvs.drop i) H') (by simpa using h0 od D hD) (fun i H' _ p => hG _ _ _ _ p) (fun i x H1 H2 hi p y => ?_) (fun H' p => ?_)⟩⟩
  · obtain ⟨rfl, k, v, hk, rfl⟩ := y
    have p2 : P od D ((k, v) :: kvs.drop (i + 1)) H2 := by rw [← drop_at hk]; exact p
    exact hs od D k v _ H2 p2
  · have p2 : P od D [] H' := by simpa using p
    exact ⟨hG _ _ _ _ p2, hd od D H' p2⟩
end
theorem hu65 {A : Around} {k : Nat} (hr : Room k A) : A.units + 65 < cLine := by
  have z := hr.un
  omega
theorem r_lockSet {te : TE} {i : Nat} {D : Ends} {σ : L2.St} {H : Hp} : tLock (tAsg te (gName i)) D σ H = tLockE te σ H fun x H1 => D.nx (σ.set i (some x)) H1 := rfl
/-- the same data on both sides -/
theorem q_neD {K : PySem.W.Frag} {H : Hp} {Q : VK} {x y : V} {d : PyData} (hx : Dp K H x d) (hy : Dp K H y d) (hs : SeqAt.shaped d = true) (q : Q (.bl false) H) : rNeD K x y H Q := by
  refine ⟨d, d, hx, hy, hs, hs, ?_⟩
  rw [SeqAt.eqv_refl d (SeqAt.canLay_of_shaped hs)]
  exact q
/-! ### within a comprehension's block: the table of classes by name -/
section
variable {X : Cx} {e : Expr} {es : List Expr} {f : Str} {pos : Pos} {ta : TA} {te : TE} {k n : Nat} {t : TGs}
theorem pe_fldK (K : PySem.W.Frag) (he : PE X e te) (hb : attributeBase e f X.env (eval e X.env) = eval e X.env) (hK : X.K = K := by rfl) : PE X (.Attribute e f pos) (tFld K te f) := by
  subst hK
  exact pe_fld he hb
theorem ix_tupK (K : PySem.W.Frag) (hK : X.K = K := by rfl) : IxR X (rIxT K) := by
  subst hK
  exact ix_tup
theorem ix_listK (K : PySem.W.Frag) (hK : X.K = K := by rfl) : IxR X (rIxL K) := by
  subst hK
  exact ix_list
theorem pg_tupK (K : PySem.W.Frag) (hc : X.calm = true) (h : PGs X es t) (hK : X.K = K := by rfl) (hn : (assignEach es X.env).length = n := by rfl) (hst : (assignEach es X.env).findIdx? (·.1) = none := by rfl) : PG X (.Tuple es k pos) (gTup K n t) := by
  subst hK
  exact pg_tup hc h hn hst
end
/-! ### a method with arguments -/
section
variable {X : Cx} {CX : CXT} {k j : Nat} {c m : Str} {ps : List Str} {sp : Sp} {E : L2.St → XK} {e o : Expr} {es : List Expr} {ta : TE} {t : TA} {pos apos : Pos} {pl : Sem Bool}
def tMethS (C : Addr) (m : Str) (sp : Sp) (E : L2.St → XK) (ta : TE) (t : TA) : TE := fun σ H Q => ta σ H fun x H1 => methR C m x H1 fun a => t σ H1 fun vs H2 => sp (.ref a :: vs) H2 Q (E σ)
theorem methS_eq {C : Addr} : (fun σ H Q => ta σ H fun x H1 => ∃ a dx fs, x = .ref a ∧ H1 a = some (.ins C dx fs) ∧ fs.lookup m = none ∧ t σ H1 fun vs H2 => sp (x :: vs) H2 Q (E σ)) = tMethS C m sp E ta t := by
  funext σ H Q
  refine congrArg (ta σ H) (funext fun x => funext fun H1 => propext ⟨fun ⟨a, dx, fs, e, h1, h2, q⟩ => ?_, fun ⟨a, dx, fs, e, h1, h2, q⟩ => ?_⟩)
  · subst e; exact ⟨a, dx, fs, rfl, h1, h2, q⟩
  · subst e; exact ⟨a, dx, fs, rfl, h1, h2, q⟩
theorem pe_mS (he : PE X o ta) (T : Cls X.K (He.ga X.K c)) (hm : Meth X.K (He.ga X.K c) m (He.ma X.K (He.ga X.K c) m)) (F : Md X.prog X.w X.K X.mg X.base CX k c m ps sp) (hr : Room j X.A) (hj : k ≤ j) (hx : ∀ σ, PassesAt CX X σ (E σ)) (ha : PA X (e :: es) t)
    (hst : starEach (e :: es) X.env = (false, eval e X.env) :: starEach es X.env := by rfl) (hpl : (backTo pos (starEach es X.env)).any (·.1) = false := by rfl)
    (ht : eval (.Call (.Attribute o m apos) (e :: es) [] pos) X.env = (do
      let ov ← eval o X.env
      standAt apos.atName
      let (f, first) ← holding [ov] (getMethod ov m pl)
      callWith pos f first (backTo pos (starEach (e :: es) X.env)) (backToKw pos (keywordEach [] X.env))) := by rfl) :
    PE X (.Call (.Attribute o m apos) (e :: es) [] pos) (tMethS (He.ga X.K c) m sp E ta t) := by
  rw [← methS_eq]
  exact pe_m he T hm F hr hj hx ha hst hpl ht
theorem r_methS {C : Addr} {σ : L2.St} {H : Hp} {Q : VK} : tMethS C m sp E ta t σ H Q = ta σ H fun x H1 => methR C m x H1 fun a => t σ H1 fun vs H2 => sp (.ref a :: vs) H2 Q (E σ) := rfl
end
/-! ### dict displays -/
section
variable {σ : L2.St} {H : Hp} {Q : VK} {QP : List (V × V) → Hp → Prop} {tk tv : TE} {r trs : List (TE × TE)} {p : Addr}
def dispR (p : Addr) (ps : List (V × V)) (H2 : Hp) (Q : VK) : Prop := H2 p = some (.dK []) ∧ ∃ kvs : List (Key × V), ps = kvs.map (fun kv => (kV kv.1, kv.2)) ∧ kvs.length ≤ 15 ∧ Q (.ref p) (upd H2 p (.dK (mergeK [] kvs)))
theorem r_disp : tDisp trs σ H Q = ∀ p, H p = none → tPairs trs σ (upd H p (.dK [])) fun ps H2 => dispR p ps H2 Q := rfl
theorem r_tpn : tPairs [] σ H QP = QP [] H := rfl
theorem r_tpc : tPairs ((tk, tv) :: r) σ H QP = tk σ H fun x H1 => tv σ H1 fun y H2 => tPairs r σ H2 fun ps H3 => QP ((x, y) :: ps) H3 := rfl
theorem r_dnew : tDNewK σ H Q = ∀ p, H p = none → Q (.ref p) (upd H p (.dK [])) := rfl
theorem val_no : ∀ {kvs : List (Key × V)} {k : Key}, k ∉ kvs.map (·.1) → valV kvs k = none
  | [], _, _ => rfl
  | kv :: kvs, k, h => by
    have h1 : ¬ kv.1 = k := fun e => h (by rw [← e]; exact List.mem_cons_self ..)
    rw [valV_neg h1]
    exact val_no fun z => h (List.mem_cons_of_mem _ z)
theorem merge_nd : ∀ (more acc : List (Key × V)), ((acc ++ more).map (·.1)).Nodup → mergeK acc more = acc ++ more
  | [], acc, _ => by rw [List.append_nil]; rfl
  | kv :: more, acc, h => by
    have e : acc ++ kv :: more = (acc ++ [kv]) ++ more := by simp
    have hn : kv.1 ∉ acc.map (·.1) := fun z => by
      rw [List.map_append, List.map_cons] at h
      exact (List.nodup_append.mp h).2.2 _ z _ (List.mem_cons_self ..) rfl
    show mergeK (putK acc kv.1 kv.2) more = _
    rw [putK_new _ (val_no hn), e]
    rw [e] at h
    exact merge_nd more (acc ++ [(kv.1, kv.2)]) h
theorem q_disp {ps : List (V × V)} (kvs : List (Key × V)) (h : H p = some (.dK [])) (e : ps = kvs.map (fun kv => (kV kv.1, kv.2))) (l : kvs.length ≤ 15) (nd : (kvs.map (·.1)).Nodup) (q : Q (.ref p) (upd H p (.dK kvs))) : dispR p ps H Q :=
  ⟨h, kvs, e, l, by rw [merge_nd kvs [] nd]; exact q⟩
end
/-! ### contexts -/
section
variable {CX : CXT} {P : Program} {w : World} {K : PySem.W.Frag} {mg : Str → Option Value} {base : Heap} {N : List Str} {q : Str} {sc : Scope} {f : Addr} {cd : Value} {A : Around} {o : List Env} {s : Shared} {H : Hp} {E : XK} {X : Cx}
theorem r_K : (cxOf CX P w K mg base N q sc f cd A o s H E).K = K := rfl
theorem r_KN {W : Value → Shared → Prop} : (X.wish W).K = X.K := rfl
theorem r_KT {pn : List (Addr × Obj)} {xe : Value → Shared → Prop} : (X.tr pn xe).K = X.K := rfl
theorem r_KB {sc : Scope} {ce : Env} {fp : List Addr} : (X.blk s H sc ce fp).K = X.K := rfl
theorem r_KS {a : Addr} {pn : List (Addr × Obj)} : (X.suite a pn).K = X.K := rfl
end
end TB
/-! for i, x in enumerate(t), t a tuple. -/
namespace TB
open PySem PySem.Spec PyProof.Rows L2 TD
open AutoSeq1 (wpAny_loadPart')
theorem tup_iter_any (t : Addr) (items : Array Value) (n : Nat) (dct : Option Addr) (sl : Array (Option Value)) :
    Meets (Builtin.«enumerate.__new__» ⟨[.type "enumerate", .ref t], []⟩) (fun _ R s => s.heap.get? t = some { cls := .type "tuple", dict := dct, data := .seq items n, slots := sl } ∧
      R (.ok (.ret (.ref (s.heap.push { cls := .type "tuple_iterator", data := .fields #[.ref t, .int 0 0] }).objs.size)))
        { s with heap := (s.heap.push { cls := .type "tuple_iterator", data := .fields #[.ref t, .int 0 0] }).push { cls := .type "enumerate", data := .fields #[.none, .bool false, .ref s.heap.objs.size, rawInt 0, .none, .none] } }) := by
  refine .of_wp fun prog w A R s h => ?_
  obtain ⟨hp, g, d, tk, os⟩ := s
  obtain ⟨hl, h⟩ := h
  have hsub := sub_enumerate
  have hL : Heap.IsTuple (Shared.heap ⟨hp, g, d, tk, os⟩) t items := ⟨_, hl, rfl, n, rfl⟩
  wp_walk using wpAny_loadPart' hl
  refine wpAny_stack_any fun st => wpAny_pure ?_
  split
  · rename_i c _ _ _ _ _
    cases (c == Value.type "enumerate")
    · wp_walk using wpAny_loadPart' hl, wpAny_pyIter_tuple hL
      exact ⟨_, rfl, h⟩
    · wp_walk using wpAny_loadPart' hl, wpAny_pyIter_tuple hL
      exact ⟨_, rfl, h⟩
  · wp_walk using wpAny_loadPart' hl, wpAny_pyIter_tuple hL
    exact ⟨_, rfl, h⟩
theorem enum_tuple_call {prog : Program} {w : World} {A : Around} {E : Value → Shared → Prop} {s : Shared} {t : Addr} {items : Array Value} {Q : Value → Shared → Prop} (hT : IsTup s.heap t items)
    (h : ∀ h', IsEnum h' (s.heap.objs.size + 1) s.heap.objs.size 0 .none → h'.IsTupleIter s.heap.objs.size t 0 → h'.objs.size = s.heap.objs.size + 2 →
      (∀ b o, s.heap.get? b = some o → h'.get? b = some o) → Q (.ref (s.heap.objs.size + 1)) { s with heap := h' }) : wpAny (model prog w) A (call (.type "enumerate") [.ref t]) Q E s := by
  obtain ⟨⟨c, dct, dt, sl⟩, hl, hc, n, hd⟩ := hT
  obtain rfl : c = .type "tuple" := hc
  obtain rfl : dt = .seq items n := hd
  refine callType_new F.called_enumerate (by decide) (F.typeCall_enumerate_1 _) (F.newCall_enumerate_1 _) (fun obj => F.args_object_init_2 obj _) F.entry_enumerate_new (tup_iter_any t items n dct sl) ⟨hl, ?_⟩
  have hz : (s.heap.push { cls := .type "tuple_iterator", data := .fields #[.ref t, .int 0 0] }).objs.size = s.heap.objs.size + 1 := Heap.size_push ..
  show _ ∧ _
  rw [hz]
  have he : IsEnum ((s.heap.push { cls := .type "tuple_iterator", data := .fields #[.ref t, .int 0 0] }).push
      { cls := .type "enumerate", data := .fields #[.none, .bool false, .ref s.heap.objs.size, rawInt 0, .none, .none] }) (s.heap.objs.size + 1) s.heap.objs.size 0 .none := by
    have z := Heap.get?_push_size (s.heap.push { cls := .type "tuple_iterator", data := .fields #[.ref t, .int 0 0] })
      (o := { cls := .type "enumerate", data := .fields #[.none, .bool false, .ref s.heap.objs.size, rawInt 0, .none, .none] }) rfl
    rw [hz] at z
    exact z
  refine ⟨⟨_, he, rfl⟩, h _ he ⟨_, Heap.get?_push_of_some _ (Heap.get?_push_size _ rfl), rfl, rfl⟩ (by rw [Heap.size_push, hz]) fun b o x => Heap.get?_push_of_some _ (Heap.get?_push_of_some _ x)⟩
/-- the tuple at a as it stands at each turn, each item in a new pair -/
def Itet (K : PySem.W.Frag) (a : Addr) : It where
  go := fun i H => ∃ (xs : List V) (x : V), SqT K H a xs ∧ xs[i]? = some x
  yld := fun i H v H' => ∃ T x, v = .ref T ∧ H T = none ∧ H' = upd H T (.tup [.int (i : Nat), x]) ∧ ∀ xs, SqT K H a xs → xs[i]? = some x
  stop := fun i H => ∃ xs : List V, SqT K H a xs ∧ xs.length = i
theorem turn_enumT {P : Program} {w : World} {K : PySem.W.Frag} {elts : List Expr} {kk : Nat} {tpos : Pos} (a e it : Addr) :
    Turn P w K (.Tuple elts kk tpos) (Itet K a) [e, it] e (fun i h => (∃ old, IsEnum h e it ((i : Nat) : Int) old) ∧ h.IsTupleIter it a i ∧ e ≠ it) where
  mem := List.mem_cons_self
  obj := fun i h st b hb => by
    obtain ⟨⟨old, he⟩, ⟨o, ho, hc, hd⟩, _⟩ := st
    rcases List.mem_cons.mp hb with z | z
    · rw [z]
      exact ⟨_, he, fun v q => nomatch q⟩
    · rw [List.mem_singleton.mp z]
      exact ⟨o, ho, fun v q => by rw [hd] at q; cases q⟩
  keep := fun i h h' st k => by
    obtain ⟨⟨old, he⟩, hi, hne⟩ := st
    exact ⟨⟨old, k e List.mem_cons_self _ he⟩, hi.at fun o q => k it (by simp) o q, hne⟩
  item := by
    intro X hP hw hK hc i pins s σ H E I hf st hg
    subst hP hw hK
    obtain ⟨⟨old, he⟩, hit, hne⟩ := st
    obtain ⟨xs, x, hq, hx⟩ := hg
    obtain ⟨its, rv, p, hz⟩ := I.tuple hq
    obtain ⟨u, hu, ru⟩ := rv.get hx
    have p' : s.heap.IsTuple a its.toArray := p
    have hel : e < s.heap.objs.size := Heap.lt_size he
    have hil : it < s.heap.objs.size := by obtain ⟨_, q, _⟩ := hit; exact Heap.lt_size q
    have nae : a ≠ e := fun z => by
      obtain ⟨o, ho, hcl, _⟩ := p'
      rw [z, he] at ho
      cases ho
      exact absurd (Value.type.inj hcl) (by decide)
    have nai : a ≠ it := fun z => by
      obtain ⟨o, ho, hcl, _⟩ := p'
      obtain ⟨o2, ho2, hcl2, _⟩ := hit
      rw [z, ho2] at ho
      cases ho
      rw [hcl2] at hcl
      exact absurd (Value.type.inj hcl) (by decide)
    have G := GoesN.enumFrom (prog := X.prog) (w := X.w) (A := X.A) (elts := elts) (x1 := kk) (pos := tpos) 0 (Draws.tuple (prog := X.prog) (w := X.w) (A := X.A.in1) (I.ok.hd hc) it a nai its.toArray) e hne (by simp [hne, nae.symm]) (by simp)
    refine G.goes i s _ E (by rw [List.size_toArray]; exact (List.getElem?_eq_some_iff.mp hu).1) ⟨⟨old, by rw [Int.zero_add]; exact he⟩, hit, p'⟩ fun v h' tk hY hS hk htk => ?_
    obtain ⟨T, t, y, rfl, hT1, hy, hTt⟩ := hY
    obtain ⟨⟨old', he'⟩, hit', hp'⟩ := hS
    have ey : y = u := by
      have z : its.toArray[i]? = some u := by simpa using hu
      rw [z] at hy
      exact (Option.some.inj hy).symm
    subst ey
    have new : ObjOk X.prog X.w (upd H T (.tup [.int (i : Nat), x])) h' T (.tup [.int (i : Nat), x]) := by
      refine ⟨by show 2 ≤ sizeLine; decide, [.int (0 + (i : Int)) t, y], .cons ⟨t, by rw [Int.zero_add]⟩ (.cons ru .nil), ?_⟩
      exact hTt
    have I1 : Inv X pins σ (upd H T (.tup [.int (i : Nat), x])) { s with heap := h', toks := tk } := I.turnedNew (ch := [e, it]) hk hf hT1 new
    refine ⟨.ref T, _, I1, rfl, ⟨T, x, rfl, I.hok.fresh hT1, rfl, fun ys hy => by rw [I.tuple_inj hy hq]; exact hx⟩, ⟨⟨old', ?_⟩, hit', hne⟩, fun b hb => ?_⟩
    · rw [Int.zero_add] at he'
      exact he'
    · have hb' : b < s.heap.objs.size := by
        rcases List.mem_cons.mp hb with z | z
        · rw [z]; exact hel
        · rw [List.mem_singleton.mp z]; exact hil
      rw [upd_ne (Nat.ne_of_lt (Nat.lt_of_lt_of_le hb' hT1))]
      exact (hf b hb).1
  done := by
    intro X hP hw hK hc i pins s σ H E I hf st hg
    subst hP hw hK
    obtain ⟨⟨old, he⟩, hit, hne⟩ := st
    obtain ⟨xs, hq, hx⟩ := hg
    obtain ⟨its, rv, p, hz⟩ := I.tuple hq
    have p' : s.heap.IsTuple a its.toArray := p
    have nai : a ≠ it := fun z => by
      obtain ⟨o, ho, hcl, _⟩ := p'
      obtain ⟨o2, ho2, hcl2, _⟩ := hit
      rw [z, ho2] at ho
      cases ho
      rw [hcl2] at hcl
      exact absurd (Value.type.inj hcl) (by decide)
    have nae : a ≠ e := fun z => by
      obtain ⟨o, ho, hcl, _⟩ := p'
      rw [z, he] at ho
      cases ho
      exact absurd (Value.type.inj hcl) (by decide)
    have G := GoesN.enumFrom (prog := X.prog) (w := X.w) (A := X.A) (elts := elts) (x1 := kk) (pos := tpos) 0 (Draws.tuple (prog := X.prog) (w := X.w) (A := X.A.in1) (I.ok.hd hc) it a nai its.toArray) e hne (by simp [hne, nae.symm]) (by simp)
    have hl : its.toArray.size = i := by
      rw [List.size_toArray, ← rv.length]
      exact hx
    refine G.stops s (fun s1 => Inv X pins σ H s1) E ⟨⟨old, by rw [Int.zero_add, hl]; exact he⟩, by rw [hl]; exact hit, p'⟩ fun h' tk hk htk => ?_
    exact I.turnedL (ch := [e, it]) hk hf
  self := fun A i s Q E st h => let ⟨⟨_, he⟩, _⟩ := st; wpAny_pyIter_enum he h
def iEnumT (K : PySem.W.Frag) (ta : TA) : TI := fun σ H R => ta σ H fun vs H1 => ∃ a xs, vs = [.ref a] ∧ SqT K H1 a xs ∧ R (Itet K a) H1
theorem pi_enumT {X : Cx} {e : Expr} {ta : TA} {p pos tpos : Pos} {elts : List Expr} {kk : Nat} (hg : Gl X "enumerate") (hm : X.mg "enumerate" = none) (ha : PA X [e] ta) (hs : starEach [e] X.env = [(false, eval e X.env)] := by rfl) :
    PI X (.Tuple elts kk tpos) (.Call (.Name "enumerate" p) [e] [] pos) (iEnumT X.K ta) := by
  refine ⟨fun pins s σ H R I h => ?_⟩
  refine Call_ (ld_blt I hg hm boot_enumerate (PyProof.Rows.callWith_type1 (thn (ha.run pos pins s σ H _ I h) fun us s1 ⟨vs, H1, I1, r1, q1⟩ => ?_) hs rfl))
  obtain ⟨a, xs, ex, hq, q⟩ := q1
  subst ex
  cases r1 with
  | cons r rr =>
    cases rr
    cases r
    obtain ⟨its, rv, p', hz⟩ := I1.tuple hq
    refine enum_tuple_call p' fun h' he hit hsz hk => wpAny_pyIter_enum he ?_
    have I2 : Inv X pins σ H1 { s1 with heap := h' } := I1.kept (t' := s1.toks) hk
    refine ⟨s1.heap.objs.size + 1, [s1.heap.objs.size + 1, s1.heap.objs.size], _, _, H1, rfl, I2, turn_enumT a (s1.heap.objs.size + 1) s1.heap.objs.size, ⟨⟨.none, he⟩, hit, Nat.succ_ne_self _⟩, fun b hb => ?_, q⟩
    have hle : s1.heap.objs.size ≤ b := by
      rcases List.mem_cons.mp hb with z | z
      · rw [z]; exact Nat.le_add_right _ _
      · rw [List.mem_singleton.mp z]; exact Nat.le_refl _
    exact I1.fpOk hle (I1.hok.fresh hle)
theorem walk_enumT {K : PySem.W.Frag} {a : Addr} {xs : List V} : Walk (Itet K a) xs.length (fun H => SqT K H a xs) (YPair (fun i => some (.int (i : Nat))) (fun i => xs[i]?)) := by
  refine ⟨fun i _ hi q => ⟨xs, xs[i], q, by simp [hi]⟩, fun _ q => ⟨xs, q, rfl⟩, fun i H v H' _ q y => ?_⟩
  obtain ⟨T, x, h1, h2, h3, h4⟩ := y
  exact ⟨T, .int (i : Nat), x, h1, h2, h3, rfl, h4 xs q⟩
/-- for i, x in enumerate(t) -/
theorem f_enum {K : PySem.W.Frag} {g : TG} {tb : TS} {D : Ends} {σ : L2.St} {H : Hp} {a : Addr} {xs : List V} {ta : TA} (hv : ∀ R : List V → Hp → Prop, R [.ref a] H → ta σ H R) (hx : SqT K H a xs) (Pv : Nat → List V → L2.St → Hp → Prop) (h0 : Pv 0 xs σ H)
    (hG : ∀ i r σ H, Pv i r σ H → SqT K H a xs)
    (hs : ∀ (i : Nat) x r T σ H, Pv i (x :: r) σ H → H T = none → g (.ref T) σ (upd H T (.tup [.int (i : Nat), x])) fun σ2 H2 => tb { D with nx := Pv (i + 1) r, ct := Pv (i + 1) r, bk := D.nx } σ2 H2) (hd : ∀ i σ H, Pv i [] σ H → D.nx σ H) : tFor (iEnumT K ta) g tb D σ H := by
  show ta σ H _
  refine hv _ ⟨a, xs, rfl, hx, for_it walk_enumT (fun i σ H => Pv i (xs.drop i) σ H) (by simpa using h0) (fun i σ H _ p => hG _ _ _ _ p) (fun i x σ H H' hi p y => ?_) (fun σ H p => hd xs.length σ H ?_)⟩
  · obtain ⟨T, x1, x2, rfl, hT, rfl, e1, e2⟩ := y
    have e1 : V.int (i : Nat) = x1 := Option.some.inj e1
    rw [← e1]
    have p2 : Pv i (x2 :: xs.drop (i + 1)) σ H := by rw [← drop_at e2]; exact p
    exact hs i x2 _ T σ H p2 hT
  · have h1 : xs.drop xs.length = [] := by simp
    rw [← h1]
    exact p
end TB
/-! sorted(xs, key=f), f a def of the top: the items and the keys plain data. -/
namespace TB
open PySem PySem.Spec PySem.Calls PyProof.Rows L2 TD
/-! ### a heap with one address empty -/
theorem hole (h : Heap) (a : Addr) : ∃ h1 : Heap, h1.get? a = none ∧ ∀ b, b ≠ a → h1.get? b = h.get? b := by
  refine ⟨h.update a fun o => ⟨o.cls, o.dict, .freed, o.slots⟩, ?_, fun b hb => ?_⟩
  · unfold Heap.update Heap.get?
    simp only [Array.getElem?_modify]
    cases h.objs[a]? with
    | none => simp
    | some o => simp
  · unfold Heap.update Heap.get?
    simp only [Array.getElem?_modify]
    rw [if_neg (fun e => hb e.symm)]
section
variable {X : Cx} {pins : List (Addr × Obj)} {σ : L2.St} {H : Hp} {s : Shared}
/-- the heap has grown, nothing else -/
theorem inv_grow {h' : Heap} {t' : Nat} (I : Inv X pins σ H s) (k : ∀ b o, s.heap.get? b = some o → h'.get? b = some o) : Inv X pins σ H { s with heap := h', toks := t' } := by
  obtain ⟨f0, f1, f2, f3, f4, f5⟩ := I.fpOk (b := s.heap.objs.size) (Nat.le_refl _) (I.hok.fresh (Nat.le_refl _))
  exact I.turned (it := s.heap.objs.size) (fun b o _ e => k b o e) f0 f1 f3 f4 f5
/-- one of two untracked records turned, the other tracked from now on -/
theorem inv_take2 {h' : Heap} {t' : Nat} {it kS : Addr} {o : HO} (I : Inv X pins σ H s) (k : ∀ b ob, b ≠ it → b ≠ kS → s.heap.get? b = some ob → h'.get? b = some ob) (f : FpOk X pins H it) (g : FpOk X pins H kS) (ne : kS ≠ it)
    (new : ObjOk X.prog X.w (upd H it o) h' it o) : Inv X pins σ (upd H it o) { s with heap := h', toks := t' } := by
  obtain ⟨hn, hL, _, h1, h2, h3⟩ := f
  obtain ⟨gn, gL, _, g1, g2, g3⟩ := g
  have nit : ∀ b u, H b = some u → b ≠ it := fun b u e z => by rw [z, hn] at e; cases e
  have nkS : ∀ b u, H b = some u → b ≠ kS := fun b u e z => by rw [z, gn] at e; cases e
  have up : ∀ b u, H b = some u → upd H it o b = some u := fun b u e => by rw [upd_ne (nit b u e)]; exact e
  have no : ∀ {b : Addr}, b ∉ [it, kS] → b ≠ it ∧ b ≠ kS := fun {b} hc => ⟨fun z => hc (by simp [z]), fun z => hc (by simp [z])⟩
  refine I.step (g' := s.gens) (d' := s.drawn) (ch := [it, kS]) (fun b hb => ?_) (fun b ob _ _ hc e _ => k b ob (no hc).1 (no hc).2 e) (fun b ob _ _ hc e _ => ⟨ob.slots, k b ob (no hc).1 (no hc).2 e⟩)
    (fun b ob hc _ n => by rw [upd_ne (no hc).1]; exact n) (fun b ob hc e => ⟨ob, k b ob (no hc).1 (no hc).2 e⟩) (fun b _ e => up b _ e) (fun b _ _ e => up b _ e) (fun b ps e => ⟨#[], by rw [up b _ e]; simp⟩) (fun m hm => ?_) (fun b u e => ?_) I.bare
  · have e : b = it ∨ b = kS := by simpa using hb
    rcases e with e | e
    · subst e
      exact ⟨h1, hL, h2, h3⟩
    · subst e
      exact ⟨g1, gL, g2, g3⟩
  · obtain ⟨ob, es, ep, ho, r⟩ := hm
    exact ⟨ob, es, ep, k _ ob (Ne.symm hL) (Ne.symm gL) ho, r⟩
  · by_cases hb : b = it
    · rw [hb, upd_same] at e
      cases e
      rw [hb]
      exact new
    · rw [upd_ne hb] at e
      refine (I.hok b u e).stay (fun c v hc q => ?_) (fun c q => up c _ q) fun c _ q => up c _ q
      rcases hc with z | z
      · rw [z] at q ⊢
        exact k b v hb (nkS b u e) q
      · exact k c v (nit c _ z) (nkS c _ z) q
/-- the key function runs -/
theorem key_call {k : Nat} {f : Addr} {fd : FuncData} {ps : List Str} {sp : Sp} {x : V} {v : Value} {Q : VK} (F : FnOk X.prog X.w X.K X.mg X.base CX0 k f fd ps sp) (hr : Room k X.A.in1.in1) (hb : Binds X.K fd ps []) (I : Inv X pins σ H s) (r : RelV x v) (h : sp [x] H Q E0) :
    wpAny (model X.prog X.w) X.A.in1.in1 (call (.ref f) [v]) (EP X pins σ Q) (fun _ _ => False) s := by
  have hl : ([v] ++ [] : List Value).length = ps.length := by
    have e := F.len _ _ _ _ h
    simpa using e
  refine wpAny_call (codeAny_mono (F.run X.A.in1.in1 X.stack s H ⟨[v], []⟩ [v] [x] Q E0 hr I.env0.in1.in1 (hb s [v] I.kIn hl) (.cons r .nil) h) fun r s' hq => ?_)
  cases r with
  | error e => exact hq
  | ok fl =>
    cases fl with
    | ret u => exact I.after hq
    | next => exact False.elim hq
    | brk => exact False.elim hq
    | cont => exact False.elim hq
end
/-- sorted(xs, key=f): the items dp b, their keys kd b; f's promise is asked at every item -/
def rSK {β : Type} (K : PySem.W.Frag) (f : Addr) (sp : Sp) (dp kd : β → PyData) : List V → List V → Hp → VK → Prop := fun vs zs H Q => ∃ (a : Addr) (ys : List V) (bs : List β), vs = [.ref a] ∧ zs = [.ref f] ∧ SqL K H a ys ∧ DpAll K H ys (bs.map dp) ∧ bs.length ≤ 1000 ∧
  PySem.W.AllAlike (bs.map kd) ∧ PySem.W.Sortable (bs.map kd) ∧ (∀ b, b ∈ bs → (kd b).depth ≤ 8) ∧ (∀ x b H' (R : VK), b ∈ bs → Ex H H' → Dp K H' x (dp b) → (∀ v H2, Ex H' H2 → Dp K H2 v (kd b) → R v H2) → sp [x] H' R E0) ∧
  ∀ p us H', Ex H H' → H p = none → H' p = some (.lst us) → DpAll K H' us ((bs.mergeSort (PySem.W.dataLe false kd)).map dp) → Q (.ref p) H'
theorem vals_of {K : PySem.W.Frag} {H : Hp} {β : Type} {dp : β → PyData} : ∀ {out : List Value} {bs : List β}, PySem.W.EachIs (fun v b => ∃ y, RelV y v ∧ Dp K H y (dp b)) out bs → ∃ us, Vals us out ∧ DpAll K H us (bs.map dp)
  | _, _, .nil => ⟨[], .nil, .nil⟩
  | _, _, .cons ⟨y, r, d⟩ e => by
    obtain ⟨us, h1, h2⟩ := vals_of e
    exact ⟨y :: us, .cons r h1, .cons d h2⟩
theorem each_of {K : PySem.W.Frag} {H : Hp} {β : Type} {dp : β → PyData} {vs : List Value} {us : List V} (r : Vals us vs) : ∀ {bs : List β}, DpAll K H us (bs.map dp) → PySem.W.EachIs (fun v b => ∃ y, RelV y v ∧ Dp K H y (dp b)) vs bs := by
  induction r with
  | nil =>
    intro bs h
    cases bs with
    | nil => exact .nil
    | cons b bs => cases h
  | cons r rs ih =>
    intro bs h
    cases bs with
    | nil => cases h
    | cons b bs =>
      cases h with
      | cons d ds => exact .cons ⟨_, r, d⟩ (ih ds)
theorem each_map {α β γ : Type} {R : α → β → Prop} {S : α → γ → Prop} {f : β → γ} (h : ∀ a b, R a b → S a (f b)) : ∀ {as : List α} {bs : List β}, PySem.W.EachIs R as bs → PySem.W.EachIs S as (bs.map f)
  | _, _, .nil => .nil
  | _, _, .cons r e => .cons (h _ _ r) (each_map h e)
theorem vals_at {us : List V} {vs : List Value} (r : Vals us vs) : ∀ {j : Nat} {x : Value}, vs[j]? = some x → ∃ y, us[j]? = some y ∧ RelV y x := by
  induction r with
  | nil => intro j x h; simp at h
  | cons r rs ih =>
    intro j x h
    cases j with
    | zero =>
      simp only [List.getElem?_cons_zero, Option.some.injEq] at h
      subst h
      exact ⟨_, rfl, r⟩
    | succ j => exact ih (by simpa using h)
theorem cr_sk {β : Type} {X : Cx} {k : Nat} {f : Addr} {fd : FuncData} {ps : List Str} {sp : Sp} {dp kd : β → PyData} (F : FnOk X.prog X.w X.K X.mg X.base CX0 k f fd ps sp) (hr : Room (k + 2) X.A) (hb : Binds X.K fd ps []) :
    CallRK X (.builtin "sorted") [Str.ofString "key"] (rSK X.K f sp dp kd) := by
  intro pins s σ H vs zs us ws Q I r rz h
  obtain ⟨a, ys, bs, rfl, rfl, hs, hd, h1000, hal, hsk, hdep, hf, q⟩ := h
  obtain rfl := Vals.ref1 r
  obtain ⟨w1, rfl, e1⟩ := vals1 rz
  obtain rfl : w1 = Value.ref f := e1
  obtain ⟨its, rv, hl, hz⟩ := I.list hs
  have hlen : its.length = bs.length := by rw [← rv.length, DpAll.length hd, List.length_map]
  have hZ : its.length ≤ sizeLine := by rw [hlen]; exact Nat.le_trans h1000 (by decide)
  have hr2 : Room k X.A.in1.in1 := hr.in1.in1
  show wpAny _ _ (call (.builtin "sorted") [.ref a] [(Str.ofString "key", .ref f)]) _ _ _
  refine PySem.W.sorted_of_sort hl.isList hZ (PyProof.Rows.ksk_s1 _ _) (fun _ => PyProof.Rows.ksk_l1 _ _) fun E' => ?_
  rw [PyProof.Rows.ksk_t1]
  have ho := PySem.W.copyHeap_at s.heap its
  have hold : ∀ b o, s.heap.get? b = some o → (PySem.W.copyHeap s.heap its).get? b = some o := fun b o e => PySem.W.copyHeap_old e
  have hDn : H (s.heap.objs.size + 1) = none := I.hok.fresh (Nat.le_succ _)
  have hDge : s.heap.objs.size ≤ s.heap.objs.size + 1 := Nat.le_succ _
  have hDlt : ∀ b o, s.heap.get? b = some o → b ≠ s.heap.objs.size + 1 := fun b o e => Nat.ne_of_lt (Nat.lt_succ_of_lt (Heap.lt_size e))
  have hDc : s.heap.objs.size < (PySem.W.copyHeap s.heap its).objs.size := Nat.lt_of_succ_lt (Heap.lt_size ho)
  revert ho hold hDn hDge hDlt
  generalize s.heap.objs.size + 1 = D
  intro ho hold hDn hDge hDlt
  have ha := Heap.lt_size ho
  obtain ⟨e1, ho1⟩ : ∃ e1, ((PySem.W.copyHeap s.heap its).update D (Obj.mapSeq fun _ => (#[] : Array Value))).get? D = some (seqObj "list" #[] e1) := ⟨_, get?_update_seq ho fun _ => #[]⟩
  have hkS : (((PySem.W.copyHeap s.heap its).update D (Obj.mapSeq fun _ => (#[] : Array Value))).push (seqObj "tuple" its.toArray 0)).objs.size = (PySem.W.copyHeap s.heap its).objs.size + 1 := by rw [size_push', Heap.size_update]
  unfold PyProof.Rows.ksk_tree
  refine wpAny_bind (listItems_at ho rfl ?_)
  refine wpAny_bind (listUpdate_at ho rfl ?_ (by rw [List.size_toArray]; exact hZ) (Nat.zero_le _))
  refine wpAny_bind (seqEpoch_at ho1 rfl ?_)
  refine wpAny_bind (wpAny_newTuple ?_ (by show its.length ≤ _; exact hZ))
  refine wpAny_bind (wpAny_newList ?_ (Nat.zero_le _))
  refine wpAny_holding ?_
  have I0 : Inv X pins σ H { s with heap := (((PySem.W.copyHeap s.heap its).update D (Obj.mapSeq fun _ => (#[] : Array Value))).push (seqObj "tuple" its.toArray 0)).push (seqObj "list" #[] 0), toks := s.toks } :=
    inv_grow I fun b o e => PySem.W.sortingHeap_old (hDlt b o e) (hold b o e)
  have g0 : ((((PySem.W.copyHeap s.heap its).update D (Obj.mapSeq fun _ => (#[] : Array Value))).push (seqObj "tuple" its.toArray 0)).push (seqObj "list" #[] 0)).get? (((PySem.W.copyHeap s.heap its).update D (Obj.mapSeq fun _ => (#[] : Array Value))).push (seqObj "tuple" its.toArray 0)).objs.size = some (seqObj "list" #[] 0) := Heap.get?_push_size _ rfl
  have g1 : ((((PySem.W.copyHeap s.heap its).update D (Obj.mapSeq fun _ => (#[] : Array Value))).push (seqObj "tuple" its.toArray 0)).push (seqObj "list" #[] 0)).get? D = some (seqObj "list" #[] e1) := Heap.get?_push_of_some _ (Heap.get?_push_of_some _ ho1)
  have hkge : s.heap.objs.size ≤ (((PySem.W.copyHeap s.heap its).update D (Obj.mapSeq fun _ => (#[] : Array Value))).push (seqObj "tuple" its.toArray 0)).objs.size := by rw [hkS]; omega
  have hka : (((PySem.W.copyHeap s.heap its).update D (Obj.mapSeq fun _ => (#[] : Array Value))).push (seqObj "tuple" its.toArray 0)).objs.size ≠ D := by rw [hkS]; exact Nat.ne_of_gt (Nat.lt_succ_of_lt ha)
  revert I0 g0 g1 hkge hka
  generalize (((PySem.W.copyHeap s.heap its).update D (Obj.mapSeq fun _ => (#[] : Array Value))).push (seqObj "tuple" its.toArray 0)).push (seqObj "list" #[] 0) = hh
  generalize (((PySem.W.copyHeap s.heap its).update D (Obj.mapSeq fun _ => (#[] : Array Value))).push (seqObj "tuple" its.toArray 0)).objs.size = kS
  intro I0 g0 g1 hkge hka
  have hSn : H kS = none := I.hok.fresh hkge
  unfold PyProof.Rows.ksk_rest
  refine wpAny_bind (wpAny_rule ?_)
  first
    | rw [List.forIn_toArray]
    | (rw [← Array.forIn_toList]; simp only [List.toList_toArray])
    | rw [← Array.forIn_toList]
  refine wpAny_bind (PyProof.Rows.ksk_fold (fun i s' => ∃ (H' : Hp) (kA : Array Value) (e : Nat), Inv X pins σ H' s' ∧ Ex H H' ∧ H' kS = none ∧ H' D = none ∧ s'.heap.get? kS = some (seqObj "list" kA e) ∧ s'.heap.get? D = some (seqObj "list" #[] e1) ∧
      ∃ ks, Vals ks kA.toList ∧ DpAll X.K H' ks ((bs.take i).map kd)) its 0 _ ⟨H, #[], 0, I0, exr H, hSn, hDn, g0, g1, [], .nil, .nil⟩ ?step ?done)
  case step =>
    rintro j x s' hx ⟨H', kA, e, I', ex, n1, n2, q1, q2, ks, rk, dk⟩
    simp only [Nat.zero_add] at dk ⊢
    obtain ⟨y, hy, ry⟩ := vals_at rv hx
    obtain ⟨d, hdj, dy⟩ := DpAll.at2 hd hy
    rw [List.getElem?_map] at hdj
    cases hbj : bs[j]? with
    | none => rw [hbj] at hdj; simp at hdj
    | some b =>
      rw [hbj] at hdj
      obtain rfl : dp b = d := by simpa using hdj
      have hj : j < bs.length := (List.getElem?_eq_some_iff.mp hbj).1
      have hkl : kA.size ≤ its.length := by
        have h1 := rk.length
        rw [DpAll.length dk, List.length_map, List.length_take] at h1
        have h2 : kA.toList.length = kA.size := Array.length_toList
        omega
      have fS := I.fpOk (H' := H') hkge n1
      have fD := I.fpOk (H' := H') hDge n2
      have I2 : Inv X (pins ++ [(kS, seqObj "list" kA e), (D, seqObj "list" #[] e1)]) σ H' s' := I'.pins_of fun p hp => (List.mem_append.mp hp).elim (fun z => I'.pin p (List.mem_append_right _ z)) fun z => by
        rcases List.mem_cons.mp z with z | z
        · subst z
          exact ⟨q1, n1, fS.2.1, fS.2.2.1, fun v hv => by cases hv⟩
        · obtain rfl : p = _ := by simpa using z
          exact ⟨q2, n2, fD.2.1, fD.2.2.1, fun v hv => by cases hv⟩
      refine wpAny_bind (wpAny_attempt (wpAny_mono (key_call F hr2 hb I2 ry (hf y b H' (fun v H2 => Ex H' H2 ∧ Dp X.K H2 v (kd b)) (List.mem_of_getElem? hbj) ex (Dp.ex ex _ _ dy) fun v H2 e2 d2 => ⟨e2, d2⟩)) (fun v s'' he => ?_) fun _ _ hF => hF.elim))
      obtain ⟨v', H2, I3, rkv, ex2, d2⟩ := he
      try dsimp only
      have pS := I3.pin (kS, seqObj "list" kA e) (by simp)
      have pD := I3.pin (D, seqObj "list" #[] e1) (by simp)
      have I4 : Inv X pins σ H2 s'' := I3.unpinned
      have nk2 : s''.heap.get? kS = some (seqObj "list" kA e) := pS.1
      have na2 : s''.heap.get? D = some (seqObj "list" #[] e1) := pD.1
      have s1 := Heap.SameBut.update s''.heap kS (Obj.mapSeq (·.push v))
      obtain ⟨c2, hc2⟩ : ∃ c2, (s''.heap.update kS (Obj.mapSeq (·.push v))).get? kS = some (seqObj "list" (kA.push v) c2) := ⟨_, get?_update_seq nk2 (·.push v)⟩
      obtain ⟨f0, f1, f2, f3, f4, f5⟩ := I.fpOk (H' := H2) hkge pS.2.1
      have ek : bs.take (j + 1) = bs.take j ++ [b] := by rw [List.take_add_one, hbj]; simp
      refine wpAny_bind (listUpdate_at nk2 rfl ?_ (Nat.le_trans hkl hZ) (Nat.le_trans (Nat.le_of_eq (Array.size_push ..)) (Nat.succ_le_succ (Nat.le_trans hkl hZ))))
      refine wpAny_pure ⟨rfl, H2, kA.push v, c2, I4.turned (t' := s''.toks) (fun b o hb e => (s1.2 b hb).trans e) f0 f1 f3 f4 f5, ex.tr ex2, pS.2.1, pD.2.1, hc2, (s1.2 D hka.symm).trans na2, ks ++ [v'], ?_, ?_⟩
      · rw [Array.toList_push]
        exact rk.append (.cons rkv .nil)
      · rw [ek, List.map_append]
        exact DpAll.app (DpAll.ex ex2 _ _ dk) (.cons d2 .nil)
  case done =>
    rintro s' ⟨H', kA, e, I', ex, n1, n2, q1, q2, ks, rk, dk⟩
    have e3 : bs.take (0 + its.length) = bs := List.take_of_length_le (by omega)
    rw [e3] at dk
    have hk' : PySem.W.EachIs (fun v d => ∃ as, Reads s'.heap v d as) kA.toList (bs.map kd) := each_map (fun v b ⟨y, r, d⟩ => Dp.reads I' _ _ _ d r) (each_of rk dk)
    have hsz : kA.size = its.length := by
      have h1 := rk.length
      rw [DpAll.length dk, List.length_map] at h1
      have h2 : kA.toList.length = kA.size := Array.length_toList
      omega
    try dsimp only
    refine wpAny_bind (listItems_at q1 rfl ?_)
    obtain ⟨h1, hh1, hh2⟩ := hole s'.heap kS
    refine PySem.W.keyH_end (κ := PySem.W.dataKind s'.heap (bs.map kd)) (h₁ := h1) (fun b o hb e => ?_) hh1 q1 q2 hka (PySem.W.SortsAt.data hk' hal hsk ?_) hsz hZ fun h3 tk3 c k3 n3 => ⟨rfl, ?_⟩
    · have hbk : b ≠ kS := fun z => by rw [z, hh1] at e; cases e
      rw [← hh2 b hbk]
      exact e
    · intro d hdm
      obtain ⟨b, hb, rfl⟩ := List.mem_map.mp hdm
      have h8 := hdep b hb
      have hu := hr.units
      show X.A.units + 1 + 1 + (kd b).depth < cLine
      omega
    · have ko : PySem.W.KeyedOut false (bs.map kd) its (PySem.W.sortVals (PySem.W.dataKind s'.heap (bs.map kd)) false kA.toList its) := ⟨s'.heap, kA.toList, hal, rfl, hk'⟩
      have hd' : DpAll X.K H' ys (bs.map dp) := DpAll.ex ex _ _ hd
      have ke := PySem.W.keyedOut_each kd ko (each_of rv hd')
      obtain ⟨us, hv, hd3⟩ := vals_of ke
      have ex5 : Ex H' (upd H' D (.lst us)) := Ex.nw n2
      have hul : us.length ≤ sizeLine := by
        rw [DpAll.length hd3, List.length_map, List.length_mergeSort]
        exact Nat.le_trans h1000 (by decide)
      refine ⟨.ref D, upd H' D (.lst us), inv_take2 I' (fun b ob hb hbk e => k3 b ob hb (by rw [hh2 b hbk]; exact e)) (I.fpOk hDge n2) (I.fpOk hkge n1) hka ⟨hul, _, c, hv, n3⟩, rfl, ?_⟩
      exact q D us _ (ex.tr ex5) hDn upd_same (DpAll.ex ex5 _ _ hd3)
/-- sorted(xs, key=f) -/
theorem pe_sk {β : Type} (dp kd : β → PyData) {X : Cx} {k j : Nat} {fn : Str} {ps : List Str} {sp : Sp} {e : Expr} {t : TA} {p p2 kpos pos : Pos} (G : Gd X.prog X.w X.K X.mg X.base CX0 k fn ps sp) (hr : Room j X.A) (hj : k + 2 ≤ j) (hs : X.mg "sorted" = none) (ha : PA X [e] t) (hg : Gl X "sorted" := by rfl) (hgf : Gl X fn := by rfl) (hdf : (fn == ("__debug__" : Str)) = false := by decide)
    (he : backTo pos (starEach (e :: []) X.env) = (false, eval e X.env) :: backTo pos (starEach [] X.env) := by rfl) (hpl : (backTo pos (starEach (e :: []) X.env)).any (·.1) = false := by rfl) :
    PE X (.Call (.Name "sorted" p) [e] [⟨some "key", .Name fn p2, kpos⟩] pos) (tCKw (rSK X.K (He.ga X.K fn) sp dp kd) t (tCons (tC (.ref (He.ga X.K fn))) tNil)) := by
  obtain ⟨fd, hm, kp, hb, F⟩ := G
  exact pe_callBK (cr_sk F (hr.mono hj) hb) hg hs b_sorted ha (pk_cons (pe_gr hm hgf hdf) pk_nil) (by decide) (by decide) he hpl
theorem r_CKw {r : List V → List V → Hp → VK → Prop} {t tk : TA} {σ : L2.St} {H : Hp} {Q : VK} : tCKw r t tk σ H Q = t σ H fun vs H1 => tk σ H1 fun zs H2 => r vs zs H2 Q := rfl
end TB
/-! What an except suite may call: a def of the top that asks the exception's classes. -/
namespace TB
open PySem PySem.Spec PyProof.Rows L2 TD
/-! ### list.count of a truth value -/
def eqb : Value → Bool
  | .bool b => b
  | _ => false
def rCntB (K : PySem.W.Frag) : V → List V → Hp → VK → Prop := fun x xs H Q => ∃ (p : Addr) (bs : List Bool), x = .ref p ∧ xs = [.bl true] ∧ SqL K H p (bs.map V.bl) ∧ Q (.int (bs.count true : Nat)) H
theorem vals_bools {us : List Value} : ∀ {bs : List Bool}, Vals (bs.map V.bl) us → us = bs.map Value.bool := by
  induction us with
  | nil =>
    intro bs h
    cases bs with
    | nil => rfl
    | cons b bs => cases h
  | cons u us ih =>
    intro bs h
    cases bs with
    | nil => cases h
    | cons b bs =>
      cases h with
      | cons r rs =>
        rw [ih rs]
        have e : u = Value.bool b := r
        rw [e]
        rfl
theorem count_bools : ∀ bs : List Bool, (bs.map Value.bool).countP eqb = bs.count true
  | [] => rfl
  | b :: bs => by
    have ih := count_bools bs
    rw [List.map_cons, List.countP_cons, List.count_cons, ih]
    cases b <;> rfl
theorem mt_countB {X : Cx} : MtR X "list.count" (rCntB X.K) := by
  intro pins s σ H x xs v us Q I rx rxs h
  obtain ⟨p, bs, rfl, rfl, hs, q⟩ := h
  cases rx
  obtain ⟨u, rfl, ru⟩ := rxs.one
  obtain rfl : u = Value.bool true := ru
  obtain ⟨its, rv, ⟨⟨cls, dd, data, sl⟩, n, ho, hc, hdn, hd⟩, hlen⟩ := I.list hs
  simp only at hc hd
  subst hc hd
  have hi := vals_bools rv
  subst hi
  refine call_meets PySem.F.slot_list_count ⟨_, ho, rfl⟩ PySem.F.entry_list_count (PySem.F.args_list_count_2 _ _)
    (SeqAt.list_countAt p (bs.map Value.bool).toArray n dd sl (.bool true) eqb) ⟨ho, fun y hy => ?_, ?_⟩
  · have hy2 : y ∈ bs.map Value.bool := by simpa using hy
    obtain ⟨b, _, rfl⟩ := List.mem_map.mp hy2
    have e : eqb (.bool b) = eqV (.bl b) (.bl true) := by cases b <;> rfl
    rw [e]
    exact eqAt_V (y := .bl b) (x := .bl true) rfl rfl rfl rfl
  · have ec : (bs.map Value.bool).toArray.toList.countP eqb = bs.count true := count_bools bs
    refine ⟨.int (bs.count true : Nat), H, I.tok _, ⟨s.toks, ?_⟩, q⟩
    show Value.int (((bs.map Value.bool).toArray.toList.countP eqb : Nat) : Int) s.toks = Value.int ((bs.count true : Nat) : Int) s.toks
    rw [ec]
/-! ### isinstance of a pinned exception -/
theorem call_isE2 {X : Cx} {a D : Addr} {oe : Obj} (hp : (a, oe) ∈ X.pn) (C : ExcC X.K D) (hz : Zc (.ref D) none oe) (hf : ∃ vs, oe.data = .fields vs) : CallR X (.builtin "isinstance") (rIsE X.K D a) := by
  intro pins s σ H xs us Q I r h
  obtain ⟨c, cv, b, rfl, hcv, e, q⟩ := h
  cases r with
  | cons rx rr =>
    cases rr with
    | cons rt rr =>
      cases rr
      cases rx
      have ec := hcv _ rt
      subst ec
      obtain ⟨hget, _⟩ := I.pin (a, oe) (List.mem_append_left _ hp)
      obtain ⟨vs, hv⟩ := hf
      have J : PySem.W.InstAt s.heap a oe D none := by
        obtain ⟨oc, od, oda, osl⟩ := oe
        obtain ⟨h1, h2⟩ := hz
        dsimp only at h1 h2 hv
        subst h1 h2 hv
        exact ⟨hget, rfl, rfl, trivial⟩
      exact PySem.W.kia_one (PySem.W.handS_kitx_exc C.hg C.hk C.hs C.hd C.ha C.hn C.ht C.hm) I.kIn J e (fun z => nomatch z) fun tk => ⟨.bl b, H, I.kept (t' := tk) fun _ _ z => z, rfl, q⟩
theorem q_isE {K : PySem.W.Frag} {D a : Addr} {c : V} {cv : Value} {b : Bool} {H : Hp} {Q : VK} (hc : ∀ u, RelV c u → u = cv) (e : PySem.W.kitOne K (.ref D) cv = some b) (q : Q (.bl b) H) : rIsE K D a [.ref a, c] H Q := ⟨c, cv, b, rfl, hc, e, q⟩
/-! ### a def called in an except suite, handed the exception -/
structure FnE (P : Program) (w : World) (K : PySem.W.Frag) (mg : Str → Option Value) (base : Heap) (k : Nat) (f : Addr) (fd : FuncData) (ps : List Str) (sp : Addr → Addr → Sp) : Prop where
  len : ∀ a D vs H Q E, sp a D vs H Q E → vs.length = ps.length
  run : ∀ (A : Around) (outer : List Env) (s : Shared) (H : Hp) (args : Args) (us : List Value) (vs : List V) (Q : VK) (p : Addr × Obj) (D : Addr), L2H.RoomH k A → Zc (.ref D) none p.2 → (∃ vs, p.2.data = .fields vs) → L2H.PinOk outer H s p → Env0 P w K mg base A outer s H → BindsTo s fd args (ps.zip us) → Vals vs us → sp p.1 D vs H Q E0 →
    codeAny (model P w) A (.call (.ref f) args) (CR CX0 outer P w H s Q E0) s
theorem fnE_of {P : Program} {w : World} {K : PySem.W.Frag} {mg : Str → Option Value} {base : Heap} {k : Nat} {f : Addr} {fd : FuncData} {name qual : Str} {st : Stmt} {N ps : List Str} {sp : Addr → Addr → Sp} (F : FunD K name qual (defArgs st) (defBody st) (defScope st) [] [] f fd) (S : FnScope N ps (defScope st))
    (len : ∀ a D vs H Q E, sp a D vs H Q E → vs.length = ps.length)
    (hbody : ∀ (cdv : Value) (A : Around) (outer : List Env) (s : Shared) (H : Hp) (vs : List V) (Q : VK) (p : Addr × Obj) (D : Addr), Zc (.ref D) none p.2 → (∃ vs, p.2.data = .fields vs) → sp p.1 D vs H Q E0 →
      ∃ t, PSs (L2H.cxH CX0 P w K mg base N qual (defScope st) f cdv A outer s H E0 p) (defBody st) t ∧ t { nx := fun _ H' => Q .non H', rt := Q } (L2.start N vs) H) :
    FnE P w K mg base (k + 1) f fd ps sp := by
  obtain ⟨oc, od, dV, kV, doc, pm, an, cdv, ct, osl, rfl, lk, hcd, _, _⟩ := F.ex
  refine ⟨len, fun A outer s H args us vs Q p D hr hz hfl hpin e0 hb r hsp => ?_⟩
  have hl := len _ _ _ _ _ _ hsp
  have KX : K.In s.heap := e0.mod.kin.keeps fun b o e => (e0.bs b o e).1
  have lim : s.heap.NoLimit := e0.mod.nolimit.keeps fun b o e => (e0.bs b o e).1
  have hkind : ∀ y ∈ ps.zip us, (defScope st).names.lookup y.1 = some .local ∨ ((defScope st).names.lookup y.1 = some .cell ∧ ((cellsFrom (s.heap.objs.size + 1) (defScope st).names []).lookup y.1).isSome = true) := fun ⟨n, v⟩ hy => by
    rcases S.par n (List.of_mem_zip hy).1 with q | q
    · exact .inl q
    · exact .inr ⟨q, PySem.W.cellsFrom_some _ _ _ (.inl q)⟩
  refine codeAny_call_function hr.depth (KX _ _ lk) rfl S.co S.gen rfl (PySem.W.codeRec_of KX hcd) (hb _ _ _ _ ?_)
  refine wpAny_newFunctionEnv_cells S.kind hkind fun env he s1 x => ?_
  subst he
  refine ⟨lim.keeps x.toInCall.keep, codeAny_func ?_⟩
  obtain ⟨t, ht, hq⟩ := hbody cdv A outer s H vs Q p D hz hfl hsp
  have I : Inv (L2H.cxH CX0 P w K mg base N qual (defScope st) f cdv A outer s H E0 p) [] (L2.start N vs) H s1 := L2H.inv_startH S hpin e0 hl r x
  refine wpAny_mono (ht.run [] s1 (L2.start N vs) H _ I hq) (fun fl s' hs => ?_) fun e s' hs => hs
  have fin : ∀ {σ' : L2.St} {H' : Hp} {v : V} {u : Value}, Inv (L2H.cxH CX0 P w K mg base N qual (defScope st) f cdv A outer s H E0 p) [] σ' H' s' → RelV v u → Q v H' → CE outer P w H s Q u s' :=
    fun {σ' H' v u} J rv q => ⟨v, H', J.os, J.bare, J.base, J.hok, rv, q⟩
  cases fl with
  | ret u =>
    obtain ⟨v, σ', H', J, rv, q⟩ := hs
    exact fin J rv q
  | next =>
    obtain ⟨σ', H', J, q⟩ := hs
    exact fin (v := V.non) (u := Value.none) J rfl q
  | brk =>
    obtain ⟨_, _, _, q⟩ := hs
    exact False.elim q
  | cont =>
    obtain ⟨_, _, _, q⟩ := hs
    exact False.elim q
/-- f(e), in the suite that holds e -/
def tAl (sp : Addr → Addr → Sp) (a D : Addr) (t : TA) : TE := fun σ H Q => t σ H fun vs H1 => sp a D vs H1 Q E0
theorem pe_callE {X : Cx} {k : Nat} {f D : Addr} {fd : FuncData} {ps : List Str} {sp : Addr → Addr → Sp} {x : Str} {q pos : Pos} {e : Expr} {es : List Expr} {t : TA} {p : Addr × Obj} (F : FnE X.prog X.w X.K X.mg X.base k f fd ps sp) (hr : L2H.RoomH k X.A) (hp : p ∈ X.pn) (hz : Zc (.ref D) none p.2) (hfl : ∃ vs, p.2.data = .fields vs)
    (hm : X.mg x = some (.ref f)) (hk : PySem.W.keepIn X.K (.ref f) = true) (hb : Binds X.K fd ps []) (ha : PA X (e :: es) t) (hg : Gl X x := by rfl) (hdb : (x == ("__debug__" : Str)) = false := by decide) (he : starEach (e :: es) X.env = (false, eval e X.env) :: starEach es X.env := by rfl) (hpl : (backTo pos (starEach es X.env)).any (·.1) = false := by rfl) :
    PE X (.Call (.Name x q) (e :: es) [] pos) (tAl sp p.1 D t) := by
  refine ⟨fun pins s σ H Q I h => ?_⟩
  refine wpAny_Call_Name_kw (ld_glob I hg hm ?_ hdb)
  refine PySem.W.callWith_K (h₀ := X.base) I.ok.mod.kin hk (thn (ha.run pos pins s σ H _ I h) fun us s1 ⟨vs, H1, I1, r, q⟩ => ⟨I1.kIn, ?_⟩) he hpl
  have hl : us.length = ps.length := by rw [← r.length]; exact F.len _ _ _ _ _ _ q
  have b := hb s1 us I1.kIn (by rw [List.append_nil]; exact hl)
  rw [List.append_nil] at b
  have P1 := I1.pin p (List.mem_append_left _ hp)
  have hpin : L2H.PinOk X.stack H1 s1 p := ⟨P1.1, P1.2.1, fun hm => (List.mem_cons.mp (I1.stkSub p.1 hm)).elim P1.2.2.1 P1.2.2.2.1, P1.2.2.2.2⟩
  refine wpAny_call (codeAny_mono (F.run X.A X.stack s1 H1 ⟨us, []⟩ us vs Q p D hr hz hfl hpin I1.env0 b r q) fun r s' hq => ?_)
  cases r with
  | error e => exact False.elim hq
  | ok fl =>
    cases fl with
    | ret u => exact I1.after hq
    | next => exact False.elim hq
    | brk => exact False.elim hq
    | cont => exact False.elim hq
theorem r_al {sp : Addr → Addr → Sp} {a D : Addr} {t : TA} {σ : L2.St} {H : Hp} {Q : VK} : tAl sp a D t σ H Q = t σ H fun vs H1 => sp a D vs H1 Q E0 := rfl
theorem r_KH {CX : CXT} {P : Program} {w : World} {K : PySem.W.Frag} {mg : Str → Option Value} {base : Heap} {N : List Str} {q : Str} {sc : Scope} {f : Addr} {cd : Value} {A : Around} {o : List Env} {s : Shared} {H : Hp} {E : XK} {p : Addr × Obj} : (L2H.cxH CX P w K mg base N q sc f cd A o s H E p).K = K := rfl
def tAlE (sp : Addr → Addr → Sp) (a : Addr) (cls : Value) (d : Option Addr) (t : TA) : TE := fun σ H Q => ∃ D, cls = .ref D ∧ d = none ∧ tAl sp a D t σ H Q
theorem pe_callE2 {X : Cx} {k : Nat} {f : Addr} {fd : FuncData} {ps : List Str} {sp : Addr → Addr → Sp} {x : Str} {q pos : Pos} {e : Expr} {es : List Expr} {t : TA} {a : Addr} {oe : Obj} {cls : Value} {d : Option Addr} (F : FnE X.prog X.w X.K X.mg X.base k f fd ps sp) (hr : L2H.RoomH k X.A) (hp : (a, oe) ∈ X.pn) (hz : Zc cls d oe) (hfl : ∃ vs, oe.data = .fields vs)
    (hm : X.mg x = some (.ref f)) (hk : PySem.W.keepIn X.K (.ref f) = true) (hb : Binds X.K fd ps []) (ha : PA X (e :: es) t) (hg : Gl X x := by rfl) (hdb : (x == ("__debug__" : Str)) = false := by decide) (he : starEach (e :: es) X.env = (false, eval e X.env) :: starEach es X.env := by rfl) (hpl : (backTo pos (starEach es X.env)).any (·.1) = false := by rfl) :
    PE X (.Call (.Name x q) (e :: es) [] pos) (tAlE sp a cls d t) := by
  refine ⟨fun pins s σ H Q I h => ?_⟩
  obtain ⟨D, rfl, rfl, h⟩ := h
  exact (pe_callE (p := (a, oe)) F hr hp hz hfl hm hk hb ha hg hdb he hpl).run pins s σ H Q I h
theorem roomE {k j : Nat} {A : Around} {v : Option Value} (hr : Room j A) (h : k ≤ j) : L2H.RoomH k (A.mark v) := ⟨(hr.mono h).dp, (hr.mono h).un⟩
end TB
namespace TB
open PySem PySem.Spec PyProof.Rows L2 TD
/-! a reading, as far as its parts are known -/
local macro_rules | `(tactic| walk_at "rd") => `(tactic| try simp only [r_seq, r_next, r_if, r_ret, r_retN, r_drop, r_asg, r_name, r_v0, r_v1, r_v2, r_v3, r_v4, r_v5, r_v6, r_v7, r_v8, r_v9, r_v10, r_v11, r_v12, r_v13, r_v14, r_v15, r_c, r_op, r_un, r_test, r_B, r_bl, r_not, r_and, r_or, r_notV, r_andV, r_orV, r_ifE, r_chain,
  r_nil, r_cons, r_CB, r_callS, r_call, r_tup, r_lst, r_fld, r_dget, r_din, r_dnotin, r_sl, r_BM, r_M1, r_dpop, r_sDPut, r_sFld, r_meth, r_methS, r_mk, r_gnil, r_gcons, r_noPart, r_part, r_int, r_ref, r_str, r_I0, r_I, r_U, r_eqI, r_neI, r_eqS, r_neS, r_isN, r_notN, r_ltS, r_leS, r_addS, r_inS, r_notInS, r_ltVI, r_ltVS, r_lenS, r_int1I, r_int1B, r_max2,
  r_al, r_KH, r_lockSet, r_disp, r_tpn, r_tpc, r_dnew, r_lcL, r_lcN, r_lcN2, r_CKw, r_wipe0, r_wipeS, r_K, r_KN, r_KT, r_KB, r_KS, L2.start, List.map_cons, List.map_nil, List.length_cons, List.length_nil, List.replicate_succ, List.replicate_zero, List.cons_append, List.nil_append, List.append_nil, List.set_cons_zero, List.set_cons_succ, Nat.reduceAdd, Nat.reduceSub, Nat.zero_add, Nat.sub_self,
  reduceCtorEq, true_and, and_true, decide_true, decide_false, Bool.not_true, Bool.not_false, Bool.false_eq_true, if_true, if_false, ite_true, ite_false, decide_eq_true_eq, Bool.not_eq_true', decide_eq_false_iff_not])


section
variable {P : Program} {w : World} {K : PySem.W.Frag} {mg : Str → Option Value} {base : Heap}
mutual
/-- every text in it is short -/
def sm : PyData → Bool
  | .str s => decide (s.length ≤ 1000)
  | .list ds => smA ds
  | .tuple ds => smA ds
  | _ => true
def smA : List PyData → Bool
  | [] => true
  | d :: ds => sm d && smA ds
end
theorem line1000 {n : Nat} (h : n ≤ 1000) : n ≤ sizeLine := Nat.le_trans h (by decide)
def spD (K : PySem.W.Frag) (f : PyData → Bool) : Sp := fun vs H Q _ => ∃ x d, vs = [x] ∧ Dp K H x d ∧ sm d = true ∧ Q (.bl (f d)) H
def dWhole : PyData → Bool
  | .int _ => true
  | _ => false
theorem sc_is_whole : FnScope ["thing"] ["thing"] (defScope s_is_whole) := ⟨rfl, rfl, rfl, by decide +kernel, rfl, by decide +kernel, by decide +kernel⟩
theorem ok_is_whole (T : Tx K mg) : Gd P w K mg base CX0 1 "is_whole" ["thing"] (spD K dWhole) := by
  refine gd0 (f_is_whole T) sc_is_whole (fun _ _ _ _ _ _ us hl => match us, hl with | [_], _ => rfl) ?len (fun f cdv A outer s H vs Q E hr h => ⟨_, (pss_one (ps_ret (pe_and (pe_callB call_isi (by rfl) (n_isinstance T) b_isinstance (pa_cons (pv 0) (pa_cons (pe_bt (n_int T) b_int) pa_nil))) (pe_one (pe_not (pe_callB call_isi (by rfl) (n_isinstance T) b_isinstance (pa_cons (pv 0) (pa_cons (pe_bt (n_bool T) b_bool) pa_nil)))))))), ?_⟩)
  case len => rintro vs H Q E ⟨x, d, rfl, _⟩; rfl
  obtain ⟨x, d, rfl, hd, hs, q⟩ := h
  walk_at "rd"
  refine isi_int hd ?_
  cases hd with
  | int i => 
    simp only [dInt]
    walk_at "rd"
    refine isi_bool (.int i) ?_
    simp only [dBool]
    walk_at "rd"
    exact q
  | bl i => 
    simp only [dInt]
    walk_at "rd"
    refine isi_bool (.bl i) ?_
    simp only [dBool]
    walk_at "rd"
    exact q
  | _ => simp only [dInt]; walk_at "rd"; exact q
def lowSign (c : Nat) : Bool := decide (32 ≤ c) && decide (c ≤ 126)
def dVal : PyData → Bool
  | .none => true
  | .int i => decide (-1000000000000000000 < i) && decide (i < 1000000000000000000)
  | .str s => decide (s.length ≤ 40) && s.cps.toList.all lowSign
  | _ => false
theorem cps_blank : (Str.ofString " ").cps.toList = [32] := by decide +kernel
theorem cps_tilde : (Str.ofString "~").cps.toList = [126] := by decide +kernel
theorem lt1 (a b : Nat) : ([a] < [b]) = (a < b) := by
  apply propext
  constructor
  · intro h
    cases h with
    | rel h => exact h
    | cons h => cases h
  · intro h
    exact List.Lex.rel h
theorem sc_is_value : FnScope ["thing", "sign"] ["thing"] (defScope s_is_value) := ⟨rfl, rfl, rfl, by decide +kernel, rfl, by decide +kernel, by decide +kernel⟩
theorem ok_is_value (T : Tx K mg) : Gd P w K mg base CX0 2 "is_value" ["thing"] (spD K dVal) := by
  refine gd0 (f_is_value T) sc_is_value (fun _ _ _ _ _ _ us hl => match us, hl with | [_], _ => rfl) ?len (fun f cdv A outer s H vs Q E hr h => ⟨_, (pss_cons (ps_if (pt_cmpR o_isN (pv 0) pe_non (nomark _)) (pss_one (ps_ret pe_bl)) pss_nil)
      (pss_cons (ps_if (pt_val (pe_g (ok_is_whole T) hr (by decide) p0 (pa_cons (pv 0) pa_nil))) (pss_one (ps_ret (pe_chain op_lt op_lt (pe_un un_neg (pe_gi (i_LIMIT T))) (pv 0) (pe_gi (i_LIMIT T))))) pss_nil)
      (pss_cons (ps_if (PW.pt (pw_or (pt_not (pt_val (pe_callB call_isi (by rfl) (n_isinstance T) b_isinstance (pa_cons (pv 0) (pa_cons (pe_bt (n_str T) b_str) pa_nil))))) (pw_or1 (pt_cmpR op_gt (pe_callB c_len_str (by rfl) (n_len T) b_len (pa_cons (pv 0) pa_nil)) (pe_gi (i_SIGNS T)) (nomark _))))) (pss_one (ps_ret pe_bl)) pss_nil)
      (pss_cons (ps_for PassesOwn.never rfl (pi_str (pv 0)) (pg_name (i := 1) sc_is_value.nd rfl (Or.inl rfl)) (pss_one (ps_if (pt_not (pt_chain o_le_str o_le_str pe_str (pv 1) pe_str)) (pss_one (ps_ret pe_bl)) pss_nil)))
      (pss_one (ps_ret pe_bl)))))), ?_⟩)
  case len => rintro vs H Q E ⟨x, d, rfl, _⟩; rfl
  obtain ⟨x, d, rfl, hd, hs, q⟩ := h
  walk_at "rd"
  cases hd with
  | non => walk_at "rd"; exact q
  | bl b =>
    walk_at "rd"
    refine ⟨_, _, rfl, .bl b, hs, ?_⟩
    simp only [dWhole]
    walk_at "rd"
    refine isi_str (.bl b) ?_
    simp only [dStr]
    walk_at "rd"
    exact q
  | int i =>
    walk_at "rd"
    refine ⟨_, _, rfl, .int i, hs, ?_⟩
    simp only [dWhole]
    walk_at "rd"
    simp only [dVal] at q
    split
    · rename_i h; simp only [h, decide_true, Bool.true_and] at q; exact q
    · rename_i h; simp only [h, decide_false, Bool.false_and] at q; exact q
  | str z =>
    walk_at "rd"
    refine ⟨_, _, rfl, .str z, hs, ?_⟩
    simp only [dWhole]
    walk_at "rd"
    refine isi_str (.str z) ?_
    simp only [dStr]
    walk_at "rd"
    have hz : z.length ≤ 1000 := by simpa [sm] using hs
    refine ⟨line1000 hz, ?_⟩
    simp only [dVal] at q
    refine ite2 (fun hl => ?_) (fun hl => ?_)
    · rw [decide_eq_false (by omega : ¬ z.length ≤ 40), Bool.false_and] at q
      exact q
    · rw [decide_eq_true (by omega : z.length ≤ 40), Bool.true_and] at q
      refine f_str (z := z) (fun R r => by walk_at "rd"; exact r) (fun r σ H' => H' = H ∧ (∃ o, σ = [some (.str z), o]) ∧ z.cps.toList.all lowSign = r.all lowSign) ⟨rfl, ⟨_, rfl⟩, rfl⟩ ?_ ?_
      · rintro c r σ H' ⟨rfl, ⟨o, rfl⟩, e⟩
        walk_at "rd"
        simp only [cps_blank, cps_tilde, lt1, Bool.not_eq_true', decide_eq_false_iff_not]
        rw [List.all_cons] at e
        by_cases c1 : c < 32
        · rw [if_neg (by simpa using c1)]
          walk_at "rd"
          rw [e, show lowSign c = false by simp [lowSign]; omega, Bool.false_and] at q
          exact q
        · rw [if_pos (by simpa using c1)]
          by_cases c2 : 126 < c
          · rw [e, show lowSign c = false by simp [lowSign]; omega, Bool.false_and] at q
            rw [show decide (126 < c) = true from decide_eq_true c2]
            walk_at "rd"
            exact q
          · rw [show decide (126 < c) = false from decide_eq_false c2]
            walk_at "rd"
            refine ⟨⟨_, rfl⟩, ?_⟩
            rw [e, show lowSign c = true by simp [lowSign]; omega, Bool.true_and]
      · rintro σ H' ⟨rfl, ⟨o, rfl⟩, e⟩
        walk_at "rd"
        rw [e] at q
        exact q
  | lst h1 h2 =>
    walk_at "rd"
    refine ⟨_, _, rfl, .lst h1 h2, hs, ?_⟩
    simp only [dWhole]
    walk_at "rd"
    refine isi_str (.lst h1 h2) ?_
    simp only [dStr]
    walk_at "rd"
    exact q
  | tup h1 h2 =>
    walk_at "rd"
    refine ⟨_, _, rfl, .tup h1 h2, hs, ?_⟩
    simp only [dWhole]
    walk_at "rd"
    refine isi_str (.tup h1 h2) ?_
    simp only [dStr]
    walk_at "rd"
    exact q
end


section
variable {P : Program} {w : World} {K : PySem.W.Frag} {mg : Str → Option Value} {base : Heap}
/-! ### cells: kinds, ranks, order -/
def Cv.kd : Cv → Str
  | .non => "none" | .int _ => "number" | .str _ => "text"
def Cv.rk : Cv → Int
  | .non => 0 | .int _ => 1 | .str _ => 2
def Cv.lt : Cv → Cv → Bool
  | .int i, .int j => decide (i < j)
  | .str x, .str y => decide (x.cps.toList < y.cps.toList)
  | _, _ => false
def cmpC (a b : Cv) : Int := if a.rk ≠ b.rk then (if a.rk < b.rk then -1 else 1) else if a = .non ∨ a = b then 0 else if a.lt b = true then -1 else 1
def spKind : Sp := fun vs H Q _ => ∃ c : Cv, vs = [c.v] ∧ Q (.str c.kd) H
def spRank : Sp := fun vs H Q _ => ∃ c : Cv, vs = [c.v] ∧ Q (.int c.rk) H
def spCmp : Sp := fun vs H Q _ => ∃ a b : Cv, vs = [a.v, b.v] ∧ Q (.int (cmpC a b)) H
theorem sc_kind_of : FnScope ["value"] ["value"] (defScope s_kind_of) := ⟨rfl, rfl, rfl, by decide +kernel, rfl, by decide +kernel, by decide +kernel⟩
theorem ok_kind_of (T : Tx K mg) : Gd P w K mg base CX0 1 "kind_of" ["value"] spKind := by
  refine gd0 (f_kind_of T) sc_kind_of (fun _ _ _ _ _ _ us hl => match us, hl with | [_], _ => rfl) ?len (fun f cdv A outer s H vs Q E hr h => ⟨_, (pss_cons (ps_if (pt_cmpR o_isN (pv 0) pe_non (nomark _)) (pss_one (ps_ret pe_str)) pss_nil)
      (pss_cons (ps_if (pt_val (pe_callB call_isi (by rfl) (n_isinstance T) b_isinstance (pa_cons (pv 0) (pa_cons (pe_bt (n_str T) b_str) pa_nil)))) (pss_one (ps_ret pe_str)) pss_nil)
      (pss_one (ps_ret pe_str)))), ?_⟩)
  case len => rintro vs H Q E ⟨c, rfl, _⟩; rfl
  obtain ⟨c, rfl, q⟩ := h
  cases c with
  | non => simp only [Cv.v]; walk_at "rd"; exact q
  | int i => simp only [Cv.v]; walk_at "rd"; refine isi_str (.int i) ?_; simp only [dStr]; walk_at "rd"; exact q
  | str i => simp only [Cv.v]; walk_at "rd"; refine isi_str (.str i) ?_; simp only [dStr]; walk_at "rd"; exact q
theorem sc_rank_of : FnScope ["value"] ["value"] (defScope s_rank_of) := ⟨rfl, rfl, rfl, by decide +kernel, rfl, by decide +kernel, by decide +kernel⟩
theorem ok_rank_of (T : Tx K mg) : Gd P w K mg base CX0 1 "rank_of" ["value"] spRank := by
  refine gd0 (f_rank_of T) sc_rank_of (fun _ _ _ _ _ _ us hl => match us, hl with | [_], _ => rfl) ?len (fun f cdv A outer s H vs Q E hr h => ⟨_, (pss_cons (ps_if (pt_cmpR o_isN (pv 0) pe_non (nomark _)) (pss_one (ps_ret pe_int)) pss_nil)
      (pss_cons (ps_if (pt_val (pe_callB call_isi (by rfl) (n_isinstance T) b_isinstance (pa_cons (pv 0) (pa_cons (pe_bt (n_str T) b_str) pa_nil)))) (pss_one (ps_ret pe_int)) pss_nil)
      (pss_one (ps_ret pe_int)))), ?_⟩)
  case len => rintro vs H Q E ⟨c, rfl, _⟩; rfl
  obtain ⟨c, rfl, q⟩ := h
  cases c with
  | non => simp only [Cv.v]; walk_at "rd"; exact q
  | int i => simp only [Cv.v]; walk_at "rd"; refine isi_str (.int i) ?_; simp only [dStr]; walk_at "rd"; exact q
  | str i => simp only [Cv.v]; walk_at "rd"; refine isi_str (.str i) ?_; simp only [dStr]; walk_at "rd"; exact q
theorem sc_compare : FnScope ["one", "other"] ["one", "other"] (defScope s_compare) := ⟨rfl, rfl, rfl, by decide +kernel, rfl, by decide +kernel, by decide +kernel⟩
theorem ok_compare (T : Tx K mg) : Gd P w K mg base CX0 2 "compare" ["one", "other"] spCmp := by
  refine gd0 (f_compare T) sc_compare (fun _ _ _ _ _ _ us hl => match us, hl with | [_, _], _ => rfl) ?len (fun f cdv A outer s H vs Q E hr h => ⟨_, (pss_cons (ps_if (pt_cmpR op_ne (pe_g (ok_rank_of T) hr (by decide) p0 (pa_cons (pv 0) pa_nil)) (pe_g (ok_rank_of T) hr (by decide) p0 (pa_cons (pv 1) pa_nil)) (nomark _)) (pss_one (ps_ret (pe_ifExp (pt_cmpR op_lt (pe_g (ok_rank_of T) hr (by decide) p0 (pa_cons (pv 0) pa_nil)) (pe_g (ok_rank_of T) hr (by decide) p0 (pa_cons (pv 1) pa_nil)) (nomark _)) (pe_un un_neg pe_int) pe_int))) pss_nil)
      (pss_cons (ps_if (PW.pt (pw_or (pt_cmpR o_isN (pv 0) pe_non (nomark _)) (pw_or1 (pt_cmpR op_eq (pv 0) (pv 1) (nomark _))))) (pss_one (ps_ret pe_int)) pss_nil)
      (pss_one (ps_ret (pe_ifExp (pt_cmpR o_ltV (pv 0) (pv 1) (nomark _)) (pe_un un_neg pe_int) pe_int))))), ?_⟩)
  case len => rintro vs H Q E ⟨a, b, rfl, _⟩; rfl
  obtain ⟨a, b, rfl, q⟩ := h
  walk_at "rd"
  refine ⟨a, rfl, b, rfl, ?_⟩
  walk_at "rd"
  unfold cmpC at q
  by_cases hr : a.rk = b.rk
  · rw [if_neg (by simpa using hr)]
    rw [if_neg (by simpa using hr)] at q
    cases a with
    | non => simp only [Cv.v]; walk_at "rd"; simpa using q
    | int i =>
      cases b with
      | int j =>
        simp only [Cv.v]
        walk_at "rd"
        by_cases hij : i = j
        · rw [if_pos hij]; rw [if_pos (.inr (by rw [hij]))] at q; exact q
        · rw [if_neg hij]; rw [if_neg (by simpa using hij)] at q
          simp only [Cv.lt, decide_eq_true_eq] at q
          split at q
          · rename_i c; rw [if_pos c]; exact q
          · rename_i c; rw [if_neg c]; exact q
      | _ => simp [Cv.rk] at hr
    | str i =>
      cases b with
      | str j =>
        simp only [Cv.v]
        walk_at "rd"
        by_cases hij : i = j
        · rw [if_pos hij]; rw [if_pos (.inr (by rw [hij]))] at q; exact q
        · rw [if_neg hij]; rw [if_neg (by simpa using hij)] at q
          simp only [Cv.lt, decide_eq_true_eq] at q
          split at q
          · rename_i c; rw [if_pos c]; exact q
          · rename_i c; rw [if_neg c]; exact q
      | _ => simp [Cv.rk] at hr
  · rw [if_pos (by simpa using hr)]
    rw [if_pos (by simpa using hr)] at q
    refine ⟨a, rfl, b, rfl, ?_⟩
    walk_at "rd"
    split at q
    · rename_i c; rw [if_pos c]; exact q
    · rename_i c; rw [if_neg c]; exact q
/-! ### names, columns, shapes -/
def lett (c : Nat) : Bool := decide (97 ≤ c) && decide (c ≤ 122)
def dName : PyData → Bool
  | .str s => decide (1 ≤ s.length) && decide (s.length ≤ 8) && !inV (.str s) (wordsV.map V.str) && s.cps.toList.all lett
  | _ => false
theorem cps_letters : (Str.ofString "abcdefghijklmnopqrstuvwxyz").cps.toList = (List.range 26).map (· + 97) := by decide +kernel
theorem mem_letters (c : Nat) : (c ∈ (Str.ofString "abcdefghijklmnopqrstuvwxyz").cps.toList) = (lett c = true) := by
  rw [cps_letters]
  apply propext
  simp only [List.mem_map, List.mem_range, lett, Bool.and_eq_true, decide_eq_true_eq]
  constructor
  · rintro ⟨a, h, rfl⟩; omega
  · rintro ⟨h1, h2⟩; exact ⟨c - 97, by omega, by omega⟩
theorem flat_words : (wordsV.map V.str).all flatV = true := by decide +kernel
theorem sc_is_name : FnScope ["thing", "sign"] ["thing"] (defScope s_is_name) := ⟨rfl, rfl, rfl, by decide +kernel, rfl, by decide +kernel, by decide +kernel⟩
theorem ok_is_name (T : Tx K mg) : Gd P w K mg base CX0 1 "is_name" ["thing"] (spD K dName) := by
  refine gd0 (f_is_name T) sc_is_name (fun _ _ _ _ _ _ us hl => match us, hl with | [_], _ => rfl) ?len (fun f cdv A outer s H vs Q E hr h => ⟨_, (pss_cons (ps_if (PW.pt (pw_or (pt_not (pt_val (pe_callB call_isi (by rfl) (n_isinstance T) b_isinstance (pa_cons (pv 0) (pa_cons (pe_bt (n_str T) b_str) pa_nil))))) (pw_or (pt_not (pt_chain op_le op_le pe_int (pe_callB c_len_str (by rfl) (n_len T) b_len (pa_cons (pv 0) pa_nil)) (pe_gi (i_MOST_LETTERS T)))) (pw_or1 (pt_cmpR op_in_seq (pv 0) (pe_gr (g_WORDS T)) rfl))))) (pss_one (ps_ret pe_bl)) pss_nil)
      (pss_cons (ps_for PassesOwn.never rfl (pi_str (pv 0)) (pg_name (i := 1) sc_is_name.nd rfl (Or.inl rfl)) (pss_one (ps_if (pt_cmpR o_notIn_sign (pv 1) (pe_gs (i_LETTERS T)) rfl) (pss_one (ps_ret pe_bl)) pss_nil)))
      (pss_one (ps_ret pe_bl)))), ?_⟩)
  case len => rintro vs H Q E ⟨x, d, rfl, _⟩; rfl
  obtain ⟨x, d, rfl, hd, hs, q⟩ := h
  walk_at "rd"
  refine isi_str hd ?_
  cases hd with
  | str z =>
    simp only [dStr]
    walk_at "rd"
    have hz : z.length ≤ 1000 := by simpa [sm] using hs
    refine ⟨line1000 hz, ?_⟩
    simp only [dName] at q
    by_cases h1 : 1 ≤ z.length
    · by_cases h2 : z.length ≤ 8
      · have e1 : (1 : Int) ≤ (z.length : Int) := by omega
        have e2 : (z.length : Int) ≤ 8 := by omega
        simp only [e1, e2, h1, h2, decide_true, Bool.true_and] at q ⊢
        walk_at "rd"
        refine ⟨_, _, rfl, .inr (words_T T H), rfl, flat_words, ?_⟩
        simp only [Bool.false_eq_true, if_false]
        walk_at "rd"
        cases hw : inV (V.str z) (wordsV.map V.str) with
        | true =>
          simp only [hw] at q
          walk_at "rd"
          exact q
        | false =>
          simp only [hw, Bool.not_false, Bool.true_and] at q
          walk_at "rd"
          refine f_str (z := z) (fun R r => by walk_at "rd"; exact r) (fun r σ H' => H' = H ∧ (∃ o, σ = [some (.str z), o]) ∧ z.cps.toList.all lett = r.all lett) ⟨rfl, ⟨_, rfl⟩, rfl⟩ ?_ ?_
          · rintro c r σ H' ⟨rfl, ⟨o, rfl⟩, e⟩
            walk_at "rd"
            rw [List.all_cons] at e
            simp only [mem_letters]
            cases hc : lett c with
            | true =>
              rw [if_neg (by simp)]
              refine ⟨⟨_, rfl⟩, ?_⟩
              rw [e, hc, Bool.true_and]
            | false =>
              rw [if_pos (by simp)]
              rw [e, hc, Bool.false_and] at q
              exact q
          · rintro σ H' ⟨rfl, ⟨o, rfl⟩, e⟩
            walk_at "rd"
            rw [e] at q
            exact q
      · have e1 : (1 : Int) ≤ (z.length : Int) := by omega
        have e2 : ¬ (z.length : Int) ≤ 8 := by omega
        simp only [e1, e2, h1, h2, decide_true, decide_false, Bool.true_and, Bool.false_and] at q ⊢
        walk_at "rd"
        exact q
    · have e1 : ¬ (1 : Int) ≤ (z.length : Int) := by omega
      simp only [e1, h1, decide_false, Bool.false_and] at q ⊢
      walk_at "rd"
      exact q
  | _ => simp only [dStr]; walk_at "rd"; exact q
end


section
variable {P : Program} {w : World} {K : PySem.W.Frag} {mg : Str → Option Value} {base : Heap}
theorem at0 {x : V} {r : List V} : atI (x :: r) 0 = some x := atI_nat (j := 0) rfl
theorem at1 {x y : V} {r : List V} : atI (x :: y :: r) 1 = some y := atI_nat (j := 1) rfl
theorem at2 {x y z : V} {r : List V} : atI (x :: y :: z :: r) 2 = some z := atI_nat (j := 2) rfl
/-- a column: a name, "number" or "text" -/
def isKd (s : Str) : Bool := decide (s = "number") || decide (s = "text")
def dKd : PyData → Bool
  | .str s => isKd s
  | _ => false
def dCol : PyData → Bool
  | .tuple [a, b] => dName a && dKd b
  | _ => false
theorem dcol_len {ds : List PyData} (h : ds.length ≠ 2) : dCol (.tuple ds) = false := by
  match ds, h with
  | [], _ => rfl
  | [_], _ => rfl
  | [_, _], h => exact absurd rfl h
  | _ :: _ :: _ :: _, _ => rfl
theorem two_of {ds : List PyData} (h : ds.length = 2) : ∃ a b, ds = [a, b] := by
  match ds, h with
  | [a, b], _ => exact ⟨a, b, rfl⟩
theorem dp2 {H : Hp} {xs : List V} {a b : PyData} (h : DpAll K H xs [a, b]) : ∃ x y, xs = [x, y] ∧ Dp K H x a ∧ Dp K H y b := by
  cases h with
  | cons h1 h2 =>
    cases h2 with
    | cons h3 h4 =>
      cases h4
      exact ⟨_, _, rfl, h1, h3⟩
theorem sc_is_column : FnScope ["thing"] ["thing"] (defScope s_is_column) := ⟨rfl, rfl, rfl, by decide +kernel, rfl, by decide +kernel, by decide +kernel⟩
theorem ok_is_column (T : Tx K mg) : Gd P w K mg base CX0 2 "is_column" ["thing"] (spD K dCol) := by
  refine gd0 (f_is_column T) sc_is_column (fun _ _ _ _ _ _ us hl => match us, hl with | [_], _ => rfl) ?len (fun f cdv A outer s H vs Q E hr h => ⟨_, (pss_cons (ps_if (PW.pt (pw_or (pt_not (pt_val (pe_callB call_isi (by rfl) (n_isinstance T) b_isinstance (pa_cons (pv 0) (pa_cons (pe_bt (n_tuple T) b_tuple) pa_nil))))) (pw_or (pt_cmpR op_ne (pe_callB c_len_seq (by rfl) (n_len T) b_len (pa_cons (pv 0) pa_nil)) pe_int (nomark _)) (pw_or1 (pt_not (pt_val (pe_g (ok_is_name T) hr (by decide) p0 (pa_cons (pe_ix ix_tup (pv 0) pe_int (fun _ _ => rfl)) pa_nil)))))))) (pss_one (ps_ret pe_bl)) pss_nil)
      (pss_one (ps_ret (pe_and (pe_callB call_isi (by rfl) (n_isinstance T) b_isinstance (pa_cons (pe_ix ix_tup (pv 0) pe_int (fun _ _ => rfl)) (pa_cons (pe_bt (n_str T) b_str) pa_nil))) (pe_one (pe_or (pe_cmpR op_eq (pe_ix ix_tup (pv 0) pe_int (fun _ _ => rfl)) pe_str (nomark _)) (pe_one (pe_cmpR op_eq (pe_ix ix_tup (pv 0) pe_int (fun _ _ => rfl)) pe_str (nomark _))))))))), ?_⟩)
  case len => rintro vs H Q E ⟨x, d, rfl, _⟩; rfl
  obtain ⟨x, d, rfl, hd, hs, q⟩ := h
  walk_at "rd"
  refine isi_tup hd ?_
  cases hd with
  | @tup a xs ds h1 h2 =>
    simp only [dTup]
    walk_at "rd"
    refine q_lenT h1 ?_
    walk_at "rd"
    rw [DpAll.length h2]
    by_cases hl : ds.length = 2
    · obtain ⟨d1, d2, rfl⟩ := two_of hl
      obtain ⟨x1, x2, rfl, k1, k2⟩ := dp2 h2
      rw [if_neg (by simp)]
      have hs1 : sm d1 = true ∧ sm d2 = true := by simpa [sm, smA] using hs
      refine q_ixT h1 at0 ?_
      refine ⟨_, _, rfl, k1, hs1.1, ?_⟩
      walk_at "rd"
      cases hn : dName d1 with
      | false =>
        walk_at "rd"
        simp only [dCol, hn, Bool.false_and] at q
        exact q
      | true =>
        walk_at "rd"
        simp only [dCol, hn, Bool.true_and] at q
        refine q_ixT h1 at1 ?_
        refine isi_str k2 ?_
        cases k2 with
        | str z =>
          simp only [dStr]
          walk_at "rd"
          refine q_ixT h1 at1 ?_
          walk_at "rd"
          simp only [dKd, isKd] at q
          by_cases c1 : z = "number"
          · rw [if_pos c1]
            simp only [c1, decide_true, Bool.true_or] at q
            exact q
          · rw [if_neg c1]
            refine q_ixT h1 at1 ?_
            walk_at "rd"
            simp only [c1, decide_false, Bool.false_or] at q
            exact q
        | _ => simp only [dStr]; walk_at "rd"; exact q
    · rw [if_pos (by simpa using (by omega : ¬ (ds.length : Int) = 2))]
      rw [dcol_len hl] at q
      exact q
  | _ => simp only [dTup]; walk_at "rd"; exact q
/-! ### shapes -/
def dCols (seen : List Str) : List PyData → Bool
  | [] => true
  | .tuple [.str s, k] :: r => dCol (.tuple [.str s, k]) && (!inV (.str s) (seen.map V.str) && dCols (seen ++ [s]) r)
  | _ :: _ => false
def dShape : PyData → Bool
  | .tuple [n, .tuple cs] => dName n && (decide (1 ≤ cs.length) && decide (cs.length ≤ 8)) && dCols [] cs
  | _ => false
theorem dcols_no {seen : List Str} {c : PyData} {r : List PyData} (h : dCol c = false) : dCols seen (c :: r) = false := by
  unfold dCols
  split
  · rename_i e; cases e
  · rename_i s k r' e
    cases e
    rw [h, Bool.false_and]
  · rfl
theorem dcol_str {c : PyData} (h : dCol c = true) : ∃ s k, c = .tuple [.str s, k] := by
  unfold dCol at h
  split at h
  · rename_i a b
    cases a with
    | str s => exact ⟨s, b, rfl⟩
    | _ => simp [dName] at h
  · cases h
theorem dshape_len {ds : List PyData} (h : ds.length ≠ 2) : dShape (.tuple ds) = false := by
  match ds, h with
  | [], _ => rfl
  | [_], _ => rfl
  | [_, _], h => exact absurd rfl h
  | _ :: _ :: _ :: _, _ => simp [dShape]
theorem sma_mem : ∀ {cs : List PyData}, smA cs = true → ∀ c, c ∈ cs → sm c = true
  | [], _, c, h => by cases h
  | d :: ds, g, c, h => by
    simp only [smA, Bool.and_eq_true] at g
    rcases List.mem_cons.mp h with e | h
    · rw [e]; exact g.1
    · exact sma_mem g.2 c h
def spDX (K : PySem.W.Frag) (f : PyData → Bool) : Sp := fun vs H Q _ => ∃ x d, vs = [x] ∧ Dp K H x d ∧ sm d = true ∧ ∀ H', Ex H H' → Q (.bl (f d)) H'
theorem flat_strs (l : List Str) : (l.map V.str).all flatV = true := by
  rw [List.all_map]
  exact List.all_eq_true.mpr fun _ _ => rfl
theorem sc_is_shape : FnScope ["thing", "names", "column"] ["thing"] (defScope s_is_shape) := ⟨rfl, rfl, rfl, by decide +kernel, rfl, by decide +kernel, by decide +kernel⟩
theorem ok_is_shape (T : Tx K mg) : Gd P w K mg base CX0 3 "is_shape" ["thing"] (spDX K dShape) := by
  refine gd0 (f_is_shape T) sc_is_shape (fun _ _ _ _ _ _ us hl => match us, hl with | [_], _ => rfl) ?len (fun f cdv A outer s H vs Q E hr h => ⟨_, (pss_cons (ps_if (PW.pt (pw_or (pt_not (pt_val (pe_callB call_isi (by rfl) (n_isinstance T) b_isinstance (pa_cons (pv 0) (pa_cons (pe_bt (n_tuple T) b_tuple) pa_nil))))) (pw_or (pt_cmpR op_ne (pe_callB c_len_seq (by rfl) (n_len T) b_len (pa_cons (pv 0) pa_nil)) pe_int (nomark _)) (pw_or1 (pt_not (pt_val (pe_g (ok_is_name T) hr (by decide) p0 (pa_cons (pe_ix ix_tup (pv 0) pe_int (fun _ _ => rfl)) pa_nil)))))))) (pss_one (ps_ret pe_bl)) pss_nil)
      (pss_cons (ps_if (PW.pt (pw_or (pt_not (pt_val (pe_callB call_isi (by rfl) (n_isinstance T) b_isinstance (pa_cons (pe_ix ix_tup (pv 0) pe_int (fun _ _ => rfl)) (pa_cons (pe_bt (n_tuple T) b_tuple) pa_nil))))) (pw_or1 (pt_not (pt_chain op_le op_le pe_int (pe_callB c_len_seq (by rfl) (n_len T) b_len (pa_cons (pe_ix ix_tup (pv 0) pe_int (fun _ _ => rfl)) pa_nil)) (pe_gi (i_MOST_COLUMNS T))))))) (pss_one (ps_ret pe_bl)) pss_nil)
      (pss_cons (ps_set (i := 1) sc_is_shape.nd rfl (Or.inl rfl) (pe_lst pa_nil))
      (pss_cons (ps_for PassesOwn.never rfl (pi_tup (pe_ix ix_tup (pv 0) pe_int (fun _ _ => rfl))) (pg_name (i := 2) sc_is_shape.nd rfl (Or.inl rfl)) (pss_cons (ps_if (PW.pt (pw_or (pt_not (pt_val (pe_g (ok_is_column T) hr (by decide) p0 (pa_cons (pv 2) pa_nil)))) (pw_or1 (pt_cmpR op_in_seq (pe_ix ix_tup (pv 2) pe_int (fun _ _ => rfl)) (pv 1) rfl)))) (pss_one (ps_ret pe_bl)) pss_nil)
      (pss_one (ps_expr (pe_bm PySem.F.plainAttrs_list PySem.F.slot_list_append PySem.F.type_list_append mt_append (pv 1) (pa_cons (pe_ix ix_tup (pv 2) pe_int (fun _ _ => rfl)) pa_nil))))))
      (pss_one (ps_ret pe_bl)))))), ?_⟩)
  case len => rintro vs H Q E ⟨x, d, rfl, _⟩; rfl
  obtain ⟨x, d, rfl, hd, hs, q⟩ := h
  walk_at "rd"
  refine isi_tup hd ?_
  have q0 := q H (exr H)
  cases hd with
  | @tup a xs ds h1 h2 =>
    simp only [dTup]
    walk_at "rd"
    refine q_lenT h1 ?_
    walk_at "rd"
    rw [DpAll.length h2]
    by_cases hl : ds.length = 2
    · obtain ⟨d1, d2, rfl⟩ := two_of hl
      obtain ⟨x1, x2, rfl, k1, k2⟩ := dp2 h2
      rw [if_neg (by simp)]
      have hs1 : sm d1 = true ∧ sm d2 = true := by simpa [sm, smA] using hs
      refine q_ixT h1 at0 ?_
      refine ⟨_, _, rfl, k1, hs1.1, ?_⟩
      walk_at "rd"
      cases hn : dName d1 with
      | false =>
        walk_at "rd"
        have e : dShape (.tuple [d1, d2]) = false := by cases d2 <;> simp [dShape, hn]
        rw [e] at q0
        exact q0
      | true =>
        walk_at "rd"
        refine q_ixT h1 at1 ?_
        refine isi_tup k2 ?_
        cases k2 with
        | @tup a2 ys cs g1 g2 =>
          simp only [dTup]
          walk_at "rd"
          refine q_ixT h1 at1 ?_
          refine q_lenT g1 ?_
          walk_at "rd"
          rw [DpAll.length g2]
          simp only [dShape, hn, Bool.true_and] at q q0
          by_cases c1 : 1 ≤ cs.length
          · by_cases c2 : cs.length ≤ 8
            · have e1 : (1 : Int) ≤ (cs.length : Int) := by omega
              have e2 : (cs.length : Int) ≤ 8 := by omega
              simp only [e1, e2, c1, c2, decide_true, Bool.true_and] at q ⊢
              walk_at "rd"
              refine ⟨Nat.zero_le _, fun p hp => ?_⟩
              walk_at "rd"
              have ex1 : Ex H (upd H p (.lst [])) := Ex.nw hp
              have hsm : ∀ c, c ∈ cs → sm c = true := sma_mem (by simpa [sm] using hs1.2)
              refine f_tup (a := a2) (xs := ys) (fun R r => by
                  walk_at "rd"
                  exact q_ixT (ex1.t h1) at1 r) (ex1.t g1)
                (fun r σ H' => Ex H H' ∧ ∃ o cs' seen, σ = [some (.ref a), some (.ref p), o] ∧ H' p = some (.lst (seen.map V.str)) ∧ seen.length + cs'.length ≤ 8 ∧ DpAll K H r cs' ∧ (∀ c, c ∈ cs' → sm c = true) ∧ dCols [] cs = dCols seen cs')
                ⟨ex1, none, cs, [], rfl, upd_same, by simpa using c2, g2, hsm, rfl⟩ (fun r σ H' ⟨e, _⟩ => e.t g1) ?_ ?_
              · rintro c r σ H' ⟨ex, o, cs', seen, rfl, hp', hlen, hda, hsm', he⟩
                cases hda with
                | @cons _ _ dc ds' kc kr =>
                  walk_at "rd"
                  have sc := hsm' dc (List.mem_cons_self ..)
                  refine ⟨_, _, rfl, Dp.ex ex _ _ kc, sc, ?_⟩
                  walk_at "rd"
                  cases hc : dCol dc with
                  | false =>
                    walk_at "rd"
                    rw [he, dcols_no hc] at q
                    exact q H' ex
                  | true =>
                    walk_at "rd"
                    obtain ⟨s, k, rfl⟩ := dcol_str hc
                    cases kc with
                    | tup t1 t2 =>
                      obtain ⟨y1, y2, rfl, m1, m2⟩ := dp2 t2
                      cases m1
                      refine q_ixT (ex.t t1) at0 ?_
                      refine ⟨p, _, rfl, .inl (SqL.of hp'), rfl, flat_strs _, ?_⟩
                      simp only [Bool.false_eq_true, if_false]
                      walk_at "rd"
                      have he2 : dCols seen (.tuple [.str s, k] :: ds') = (!inV (.str s) (seen.map V.str) && dCols (seen ++ [s]) ds') := by
                        simp only [dCols, hc, Bool.true_and]
                      cases hi : inV (V.str s) (seen.map V.str) with
                      | true =>
                        walk_at "rd"
                        rw [he, he2, hi] at q
                        exact q H' ex
                      | false =>
                        walk_at "rd"
                        rw [hi, Bool.not_false, Bool.true_and] at he2
                        refine ⟨.inl ⟨rfl, _, SqL.of hp'⟩, ?_⟩
                        walk_at "rd"
                        refine q_ixT (ex.t t1) at0 ?_
                        have hl2 : seen.length < 8 := by
                          simp only [List.length_cons] at hlen
                          omega
                        refine ⟨p, _, _, rfl, rfl, hp', by rw [List.length_map]; exact Nat.lt_of_lt_of_le hl2 (by decide), ?_⟩
                        refine ⟨ex.mu hp, _, ds', seen ++ [s], rfl, by rw [List.map_append]; exact upd_same, ?_, kr, fun c hc => hsm' c (List.mem_cons_of_mem _ hc), he.trans he2⟩
                        simp only [List.length_cons] at hlen
                        rw [List.length_append, List.length_singleton]
                        omega
              · rintro σ H' ⟨ex, o, cs', seen, rfl, hp', hlen, hda, hsm', he⟩
                cases hda
                walk_at "rd"
                rw [he] at q
                exact q H' ex
            · have e1 : (1 : Int) ≤ (cs.length : Int) := by omega
              have e2 : ¬ (cs.length : Int) ≤ 8 := by omega
              simp only [e1, e2, c1, c2, decide_true, decide_false, Bool.true_and, Bool.false_and] at q0 ⊢
              walk_at "rd"
              exact q0
          · have e1 : ¬ (1 : Int) ≤ (cs.length : Int) := by omega
            simp only [e1, c1, decide_false, Bool.false_and] at q0 ⊢
            walk_at "rd"
            exact q0
        | _ => simp only [dTup]; walk_at "rd"; exact q0
    · rw [if_pos (by simpa using (by omega : ¬ (ds.length : Int) = 2))]
      rw [dshape_len hl] at q0
      exact q0
  | _ => simp only [dTup]; walk_at "rd"; exact q0
end


section
variable {P : Program} {w : World} {K : PySem.W.Frag} {mg : Str → Option Value} {base : Heap}
/-! ### a shape as plain data -/
abbrev Cols := List (Str × Bool)
def kdS (b : Bool) : Str := if b then "text" else "number"
def colD (c : Str × Bool) : PyData := .tuple [.str c.1, .str (kdS c.2)]
def shD (n : Str) (cs : Cols) : PyData := .tuple [.str n, .tuple (cs.map colD)]
theorem dp_shape {H : Hp} {a : Addr} {n : Str} {cs : Cols} (h : Dp K H (.ref a) (shD n cs)) : ∃ c ys, SqT K H a [.str n, .ref c] ∧ SqT K H c ys ∧ DpAll K H ys (cs.map colD) := by
  cases h with
  | tup h1 h2 =>
    obtain ⟨x, y, rfl, k1, k2⟩ := dp2 h2
    cases k1
    cases k2 with
    | tup g1 g2 => exact ⟨_, _, h1, g1, g2⟩
theorem dp_col {H : Hp} {x : V} {c : Str × Bool} (h : Dp K H x (colD c)) : ∃ a, x = .ref a ∧ SqT K H a [.str c.1, .str (kdS c.2)] := by
  cases h with
  | tup h1 h2 =>
    obtain ⟨x, y, rfl, k1, k2⟩ := dp2 h2
    cases k1
    cases k2
    exact ⟨_, rfl, h1⟩
/-- the place of a column -/
def colIx (c : Str) : Nat → Cols → Option Nat
  | _, [] => none
  | i, d :: r => if d.1 = c then some i else colIx c (i + 1) r
def plV : Option Nat → V
  | none => .non
  | some i => .int i
def spPlace (K : PySem.W.Frag) : Sp := fun vs H Q _ => ∃ a n cs c, vs = [.ref a, .str c] ∧ Dp K H (.ref a) (shD n cs) ∧ ∀ H', Ex H H' → Q (plV (colIx c 0 cs)) H'
theorem sc_column_place : FnScope ["shape", "column", "at", "one"] ["shape", "column"] (defScope s_column_place) := ⟨rfl, rfl, rfl, by decide +kernel, rfl, by decide +kernel, by decide +kernel⟩
theorem ok_column_place (T : Tx K mg) : Gd P w K mg base CX0 1 "column_place" ["shape", "column"] (spPlace K) := by
  refine gd0 (f_column_place T) sc_column_place (fun _ _ _ _ _ _ us hl => match us, hl with | [_, _], _ => rfl) ?len (fun f cdv A outer s H vs Q E hr h => ⟨_, (pss_cons (ps_for PassesOwn.never rfl (pi_enumT (by rfl) (n_enumerate T) (pa_cons (pe_ix ix_tup (pv 0) pe_int (fun _ _ => rfl)) pa_nil)) (pg_tup rfl (pgs_cons (pg_name (i := 2) sc_column_place.nd rfl (Or.inl rfl)) (pgs_cons (pg_name (i := 3) sc_column_place.nd rfl (Or.inl rfl)) pgs_nil))) (pss_one (ps_if (pt_cmpR op_eq (pe_ix ix_tup (pv 3) pe_int (fun _ _ => rfl)) (pv 1) (nomark _)) (pss_one (ps_ret (pv 2))) pss_nil)))
      (pss_one (ps_ret pe_non))), ?_⟩)
  case len => rintro vs H Q E ⟨a, n, cs, c, rfl, _⟩; rfl
  obtain ⟨a, n, cs, c, rfl, hd, q⟩ := h
  obtain ⟨ca, ys, h1, h2, h3⟩ := dp_shape hd
  walk_at "rd"
  refine f_enum (a := ca) (xs := ys) (fun R r => by
      walk_at "rd"
      exact q_ixT h1 at1 r) h2
    (fun i r σ H' => Ex H H' ∧ ∃ o1 o2 cs', σ = [some (.ref a), some (.str c), o1, o2] ∧ DpAll K H r (cs'.map colD) ∧ colIx c 0 cs = colIx c i cs') ⟨exr H, none, none, cs, rfl, h3, rfl⟩ (fun i r σ H' ⟨e, _⟩ => e.t h2) ?_ ?_
  · rintro i x r T σ H' ⟨ex, o1, o2, cs', rfl, hda, he⟩ hT
    match cs', hda with
    | c1 :: r1, .cons kc kr =>
      have ex2 : Ex H (upd H' T (.tup [.int (i : Nat), x])) := ex.tr (Ex.nw hT)
      refine q_tup (SqT.of upd_same) rfl ?_
      obtain ⟨b, rfl, hb⟩ := dp_col kc
      walk_at "rd"
      refine q_ixT (ex2.t hb) at0 ?_
      walk_at "rd"
      by_cases hc : c1.1 = c
      · rw [if_pos hc]
        simp only [colIx, if_pos hc] at he
        rw [he] at q
        exact q _ ex2
      · rw [if_neg hc]
        simp only [colIx, if_neg hc] at he
        exact ⟨ex2, _, _, r1, rfl, kr, he⟩
  · rintro i σ H' ⟨ex, o1, o2, cs', rfl, hda, he⟩
    match cs', hda with
    | [], _ =>
      walk_at "rd"
      simp only [colIx] at he
      rw [he] at q
      exact q _ ex
/-! ### what fits -/
def dCell (tx : Bool) (d : PyData) : Bool := dVal d && (match d with | .none => true | .str _ => tx | _ => !tx)
def dCells : Cols → List PyData → Bool
  | c :: cs, d :: ds => dCell c.2 d && dCells cs ds
  | _, _ => true
def dFits (cs : Cols) : PyData → Bool
  | .tuple ds => decide (ds.length = cs.length) && dCells cs ds
  | _ => false
def spFits (K : PySem.W.Frag) : Sp := fun vs H Q _ => ∃ a n cs x d, vs = [.ref a, x] ∧ Dp K H (.ref a) (shD n cs) ∧ Dp K H x d ∧ sm d = true ∧ ∀ H', Ex H H' → Q (.bl (dFits cs d)) H'
theorem val_cv {d : PyData} (h : dVal d = true) : ∃ c : Cv, d = c.d := by
  cases d with
  | none => exact ⟨.non, rfl⟩
  | int i => exact ⟨.int i, rfl⟩
  | str z => exact ⟨.str z, rfl⟩
  | _ => simp [dVal] at h
theorem dp_cv {H : Hp} {x : V} {c : Cv} (h : Dp K H x c.d) : x = c.v := by
  cases c <;> (cases h; rfl)
theorem kd_ne : ¬ (("number" : Str) = "text") := by decide +kernel
theorem kd_ne2 : ¬ (("text" : Str) = "number") := by decide +kernel
theorem sc_fits : FnScope ["shape", "row", "column", "value"] ["shape", "row"] (defScope s_fits) := ⟨rfl, rfl, rfl, by decide +kernel, rfl, by decide +kernel, by decide +kernel⟩
theorem ok_fits (T : Tx K mg) : Gd P w K mg base CX0 3 "fits" ["shape", "row"] (spFits K) := by
  refine gd0 (f_fits T) sc_fits (fun _ _ _ _ _ _ us hl => match us, hl with | [_, _], _ => rfl) ?len (fun f cdv A outer s H vs Q E hr h => ⟨_, (pss_cons (ps_if (PW.pt (pw_or (pt_not (pt_val (pe_callB call_isi (by rfl) (n_isinstance T) b_isinstance (pa_cons (pv 1) (pa_cons (pe_bt (n_tuple T) b_tuple) pa_nil))))) (pw_or1 (pt_cmpR op_ne (pe_callB c_len_seq (by rfl) (n_len T) b_len (pa_cons (pv 1) pa_nil)) (pe_callB c_len_seq (by rfl) (n_len T) b_len (pa_cons (pe_ix ix_tup (pv 0) pe_int (fun _ _ => rfl)) pa_nil)) (nomark _))))) (pss_one (ps_ret pe_bl)) pss_nil)
      (pss_cons (ps_for PassesOwn.never rfl (RZ.pi_zipA (by rfl) (n_zip T) (pa_cons (pe_ix ix_tup (pv 0) pe_int (fun _ _ => rfl)) (pa_cons (pv 1) pa_nil))) (pg_tup rfl (pgs_cons (pg_name (i := 2) sc_fits.nd rfl (Or.inl rfl)) (pgs_cons (pg_name (i := 3) sc_fits.nd rfl (Or.inl rfl)) pgs_nil))) (pss_one (ps_if (PW.pt (pw_or (pt_not (pt_val (pe_g (ok_is_value T) hr (by decide) p0 (pa_cons (pv 3) pa_nil)))) (pw_or1 (PW.pt (pw_and (pt_cmpR o_notN (pv 3) pe_non (nomark _)) (pw_and1 (pt_cmpR op_ne (pe_g (ok_kind_of T) hr (by decide) p0 (pa_cons (pv 3) pa_nil)) (pe_ix ix_tup (pv 2) pe_int (fun _ _ => rfl)) (nomark _)))))))) (pss_one (ps_ret pe_bl)) pss_nil)))
      (pss_one (ps_ret pe_bl)))), ?_⟩)
  case len => rintro vs H Q E ⟨a, n, cs, x, d, rfl, _⟩; rfl
  obtain ⟨a, n, cs, x, d, rfl, hd, hx, hs, q⟩ := h
  obtain ⟨ca, ys, h1, h2, h3⟩ := dp_shape hd
  have q0 := q H (exr H)
  walk_at "rd"
  refine isi_tup hx ?_
  cases hx with
  | @tup b xs ds g1 g2 =>
    simp only [dTup]
    walk_at "rd"
    refine q_lenT g1 ?_
    walk_at "rd"
    refine q_ixT h1 at1 ?_
    refine q_lenT h2 ?_
    walk_at "rd"
    rw [DpAll.length g2, DpAll.length h3, List.length_map]
    simp only [dFits] at q q0
    by_cases hl : ds.length = cs.length
    · rw [if_neg (by simpa using (by omega : (ds.length : Int) = (cs.length : Int)))]
      simp only [hl, decide_true, Bool.true_and] at q
      have hsm : ∀ c, c ∈ ds → sm c = true := sma_mem (by simpa [sm] using hs)
      have hlen : ys.length = xs.length := by rw [DpAll.length g2, DpAll.length h3, List.length_map, hl]
      refine f_zip (a := ca) (xs := ys) (b := b) (ys := xs) (fun R r => by
          walk_at "rd"
          refine q_ixT h1 at1 ?_
          walk_at "rd"
          exact r) h2 g1 hlen
        (fun r s σ H' => Ex H H' ∧ ∃ o1 o2 cs' ds', σ = [some (.ref a), some (.ref b), o1, o2] ∧ DpAll K H r (cs'.map colD) ∧ DpAll K H s ds' ∧ (∀ d, d ∈ ds' → sm d = true) ∧ dCells cs ds = dCells cs' ds')
        ⟨exr H, none, none, cs, ds, rfl, h3, g2, hsm, rfl⟩ (fun r s σ H' ⟨e, _⟩ => ⟨e.t h2, e.t g1⟩) ?_ ?_
      · rintro x y r s T σ H' ⟨ex, o1, o2, cs', ds', rfl, hda, hdb, hm, he⟩ hT
        match cs', hda, ds', hdb with
        | c1 :: r1, .cons kc kr, d1 :: s1, .cons kd ks =>
          have ex2 : Ex H (upd H' T (.tup [x, y])) := ex.tr (Ex.nw hT)
          refine q_tup (SqT.of upd_same) rfl ?_
          obtain ⟨b1, rfl, hb⟩ := dp_col kc
          walk_at "rd"
          refine ⟨_, _, rfl, Dp.ex ex2 _ _ kd, hm _ (List.mem_cons_self ..), ?_⟩
          walk_at "rd"
          cases hv : dVal d1 with
          | false =>
            walk_at "rd"
            simp only [dCells, dCell, hv, Bool.false_and] at he
            rw [he] at q
            exact q _ ex2
          | true =>
            walk_at "rd"
            obtain ⟨cv, rfl⟩ := val_cv hv
            obtain rfl := dp_cv kd
            have go : dCell c1.2 cv.d = true → Ex H (upd H' T (.tup [V.ref b1, cv.v])) ∧ ∃ o1 o2 cs'_1 ds'_1, [some (V.ref a), some (V.ref b), some (V.ref b1), some cv.v] = [some (.ref a), some (.ref b), o1, o2] ∧ DpAll K H r (cs'_1.map colD) ∧ DpAll K H s ds'_1 ∧ (∀ d, d ∈ ds'_1 → sm d = true) ∧ dCells cs ds = dCells cs'_1 ds'_1 := fun hc => by
              simp only [dCells, hc, Bool.true_and] at he
              exact ⟨ex2, _, _, r1, s1, rfl, kr, ks, fun d h => hm d (List.mem_cons_of_mem _ h), he⟩
            have no : dCell c1.2 cv.d = false → Q (.bl false) (upd H' T (.tup [V.ref b1, cv.v])) := fun hc => by
              simp only [dCells, hc, Bool.false_and] at he
              rw [he] at q
              exact q _ ex2
            cases cv with
            | non =>
              simp only [Cv.v]
              walk_at "rd"
              exact go (by simp [dCell, Cv.d, dVal])
            | int i =>
              simp only [Cv.v]
              walk_at "rd"
              refine ⟨.int i, rfl, ?_⟩
              walk_at "rd"
              refine q_ixT (ex2.t hb) at1 ?_
              walk_at "rd"
              have hv2 : dVal (.int i) = true := hv
              cases hk : c1.2 with
              | true =>
                simp only [Cv.kd, kdS, if_true, kd_ne, decide_false, Bool.not_false]
                walk_at "rd"
                exact no (by simp [dCell, Cv.d, hk])
              | false =>
                simp only [Cv.kd, kdS, Bool.false_eq_true, if_false, decide_true, Bool.not_true]
                walk_at "rd"
                exact go (by simp [dCell, Cv.d, hk, hv2])
            | str i =>
              simp only [Cv.v]
              walk_at "rd"
              refine ⟨.str i, rfl, ?_⟩
              walk_at "rd"
              refine q_ixT (ex2.t hb) at1 ?_
              walk_at "rd"
              have hv2 : dVal (.str i) = true := hv
              cases hk : c1.2 with
              | true =>
                simp only [Cv.kd, kdS, if_true, decide_true, Bool.not_true]
                walk_at "rd"
                exact go (by simp [dCell, Cv.d, hk, hv2])
              | false =>
                simp only [Cv.kd, kdS, Bool.false_eq_true, if_false, kd_ne2, decide_false, Bool.not_false]
                walk_at "rd"
                exact no (by simp [dCell, Cv.d, hk])
      · rintro σ H' ⟨ex, o1, o2, cs', ds', rfl, hda, hdb, hm, he⟩
        cases hdb
        match cs', hda with
        | [], _ =>
          walk_at "rd"
          simp only [dCells] at he
          rw [he] at q
          exact q _ ex
    · rw [if_pos (by simpa using (by omega : ¬ (ds.length : Int) = (cs.length : Int)))]
      simp only [hl, decide_false, Bool.false_and] at q0
      exact q0
  | _ => simp only [dTup]; walk_at "rd"; exact q0
end


section
variable {P : Program} {w : World} {K : PySem.W.Frag} {mg : Str → Option Value} {base : Heap}
/-! ### entries -/
abbrev En := Cv × Int
def enD (e : En) : PyData := .tuple [e.1.d, .int e.2]
def ahd (e f : En) : Bool := if cmpC e.1 f.1 ≠ 0 then decide (cmpC e.1 f.1 < 0) else decide (e.2 < f.2)
theorem dp_en {H : Hp} {x : V} {e : En} (h : Dp K H x (enD e)) : ∃ a, x = .ref a ∧ SqT K H a [e.1.v, .int e.2] := by
  cases h with
  | tup h1 h2 =>
    obtain ⟨x, y, rfl, k1, k2⟩ := dp2 h2
    obtain rfl := dp_cv k1
    cases k2
    exact ⟨_, rfl, h1⟩
theorem en_dp {H : Hp} {a : Addr} {e : En} (h : SqT K H a [e.1.v, .int e.2]) : Dp K H (.ref a) (enD e) := .tup h (.cons (Cv.dp _) (.cons (.int _) .nil))
def spAhd (K : PySem.W.Frag) : Sp := fun vs H Q _ => ∃ x y e f, vs = [x, y] ∧ Dp K H x (enD e) ∧ Dp K H y (enD f) ∧ Q (.bl (ahd e f)) H
theorem sc_comes_ahead : FnScope ["one", "other", "side"] ["one", "other"] (defScope s_comes_ahead) := ⟨rfl, rfl, rfl, by decide +kernel, rfl, by decide +kernel, by decide +kernel⟩
theorem ok_comes_ahead (T : Tx K mg) : Gd P w K mg base CX0 3 "comes_ahead" ["one", "other"] (spAhd K) := by
  refine gd0 (f_comes_ahead T) sc_comes_ahead (fun _ _ _ _ _ _ us hl => match us, hl with | [_, _], _ => rfl) ?len (fun f cdv A outer s H vs Q E hr h => ⟨_, (pss_cons (ps_set (i := 2) sc_comes_ahead.nd rfl (Or.inl rfl) (pe_g (ok_compare T) hr (by decide) p0 (pa_cons (pe_ix ix_tup (pv 0) pe_int (fun _ _ => rfl)) (pa_cons (pe_ix ix_tup (pv 1) pe_int (fun _ _ => rfl)) pa_nil))))
      (pss_cons (ps_if (pt_cmpR op_ne (pv 2) pe_int (nomark _)) (pss_one (ps_ret (pe_cmpR op_lt (pv 2) pe_int (nomark _)))) pss_nil)
      (pss_one (ps_ret (pe_cmpR op_lt (pe_ix ix_tup (pv 0) pe_int (fun _ _ => rfl)) (pe_ix ix_tup (pv 1) pe_int (fun _ _ => rfl)) (nomark _)))))), ?_⟩)
  case len => rintro vs H Q E ⟨x, y, e, f, rfl, _⟩; rfl
  obtain ⟨x, y, e, f, rfl, hx, hy, q⟩ := h
  obtain ⟨a, rfl, ha⟩ := dp_en hx
  obtain ⟨b, rfl, hb⟩ := dp_en hy
  walk_at "rd"
  refine q_ixT ha at0 ?_
  refine q_ixT hb at0 ?_
  refine ⟨e.1, f.1, rfl, ?_⟩
  walk_at "rd"
  unfold ahd at q
  by_cases hc : cmpC e.1 f.1 = 0
  · rw [if_neg (by simpa using hc)]
    rw [if_neg (by simpa using hc)] at q
    refine q_ixT ha at1 ?_
    refine q_ixT hb at1 ?_
    walk_at "rd"
    exact q
  · rw [if_pos hc]
    rw [if_pos hc] at q
    exact q
theorem sc_empty_index : FnScope [] [] (defScope s_empty_index) := ⟨rfl, rfl, rfl, by decide +kernel, rfl, by decide +kernel, by decide +kernel⟩
theorem ok_empty_index (T : Tx K mg) : Gd P w K mg base CX0 1 "empty_index" [] (fun vs H Q _ => vs = [] ∧ ∀ p H', Ex H H' → Dp K H' (.ref p) (.tuple [.str "leaf", .tuple []]) → Q (.ref p) H') := by
  refine gd0 (f_empty_index T) sc_empty_index (fun _ _ _ _ _ _ us hl => match us, hl with | [], _ => rfl) ?len (fun f cdv A outer s H vs Q E hr h => ⟨_, (pss_one (ps_ret (pe_tup (pa_cons pe_str (pa_cons (pe_tup pa_nil) pa_nil))))), ?_⟩)
  case len => rintro vs H Q E ⟨rfl, _⟩; rfl
  obtain ⟨rfl, q⟩ := h
  walk_at "rd"
  refine ⟨Nat.zero_le _, fun p hp => ⟨by show 2 ≤ sizeLine; decide, fun r hr => ?_⟩⟩
  refine q r _ ((Ex.nw hp).tr (Ex.nw hr)) (.tup (SqT.of upd_same) (.cons (.str _) (.cons (.tup (SqT.of ?_) .nil) .nil)))
  rw [upd_ne (ne_of_none upd_same hr)]
  exact upd_same
/-! ### leaves -/
def leafD (es : List En) : PyData := .tuple [.str "leaf", .tuple (es.map enD)]
theorem dp_leaf {H : Hp} {x : V} {es : List En} (h : Dp K H x (leafD es)) : ∃ a c ys, x = .ref a ∧ SqT K H a [.str "leaf", .ref c] ∧ SqT K H c ys ∧ DpAll K H ys (es.map enD) := by
  cases h with
  | tup h1 h2 =>
    obtain ⟨x, y, rfl, k1, k2⟩ := dp2 h2
    cases k1
    cases k2 with
    | tup g1 g2 => exact ⟨_, _, _, rfl, h1, g1, g2⟩
/-- how many entries come ahead of one -/
def lpl (es : List En) (e : En) : Nat := (es.takeWhile fun f => ahd f e).length
def spLpl (K : PySem.W.Frag) : Sp := fun vs H Q _ => ∃ c ys y es e, vs = [.ref c, y] ∧ SqT K H c ys ∧ DpAll K H ys (es.map enD) ∧ Dp K H y (enD e) ∧ Q (.int (lpl es e)) H
theorem sc_leaf_place : FnScope ["entries", "entry", "at"] ["entries", "entry"] (defScope s_leaf_place) := ⟨rfl, rfl, rfl, by decide +kernel, rfl, by decide +kernel, by decide +kernel⟩
theorem ok_leaf_place (T : Tx K mg) : Gd P w K mg base CX0 4 "leaf_place" ["entries", "entry"] (spLpl K) := by
  refine gd0 (f_leaf_place T) sc_leaf_place (fun _ _ _ _ _ _ us hl => match us, hl with | [_, _], _ => rfl) ?len (fun f cdv A outer s H vs Q E hr h => ⟨_, (pss_cons (ps_set (i := 2) sc_leaf_place.nd rfl (Or.inl rfl) pe_int)
      (pss_cons (ps_while PassesOwn.never (PW.pt (pw_and (pt_cmpR op_lt (pv 2) (pe_callB c_len_seq (by rfl) (n_len T) b_len (pa_cons (pv 0) pa_nil)) (nomark _)) (pw_and1 (pt_val (pe_g (ok_comes_ahead T) hr (by decide) p0 (pa_cons (pe_ix ix_tup (pv 0) (pv 2) (fun _ _ => rfl)) (pa_cons (pv 1) pa_nil))))))) (pss_one (ps_set (i := 2) sc_leaf_place.nd rfl (Or.inl rfl) (pe_op op_add (pv 2) pe_int))))
      (pss_one (ps_ret (pv 2))))), ?_⟩)
  case len => rintro vs H Q E ⟨c, ys, y, es, e, rfl, _⟩; rfl
  obtain ⟨c, ys, y, es, e, rfl, hc, hys, hy, q⟩ := h
  have hlen : ys.length = es.length := by rw [DpAll.length hys, List.length_map]
  walk_at "rd"
  refine ⟨fun m σ H' => H' = H ∧ ∃ (i : Nat), m = es.length - i ∧ i ≤ es.length ∧ σ = [some (.ref c), some y, some (.int i)] ∧ lpl es e = i + lpl (es.drop i) e, ⟨es.length, rfl, 0, rfl, Nat.zero_le _, rfl, by simp⟩, ?_⟩
  rintro m σ H' ⟨rfl, i, rfl, hi, rfl, he⟩
  walk_at "rd"
  refine q_lenT hc ?_
  walk_at "rd"
  rw [hlen]
  by_cases hlt : i < es.length
  · rw [if_pos (by omega)]
    obtain ⟨f, hf, hdr⟩ := drop_cons hlt
    obtain ⟨x, hx, dx⟩ := DpAll.at_ hys (i := i) (d := enD f) (by rw [List.getElem?_map, hf]; rfl)
    refine q_ixT hc (atI_nat hx) ?_
    refine ⟨x, y, f, e, rfl, dx, hy, ?_⟩
    walk_at "rd"
    rw [hdr] at he
    cases ha : ahd f e with
    | true =>
      walk_at "rd"
      refine ⟨fun σ' H2 => H2 = H' ∧ σ' = [some (.ref c), some y, some (.int (i + 1 : Nat))], fun σ' H2 ⟨e1, e2⟩ => ⟨es.length - (i + 1), by omega, e1, i + 1, rfl, hlt, e2, ?_⟩, ?_⟩
      · rw [he]
        simp only [lpl, List.takeWhile_cons, ha, if_true, List.length_cons]
        omega
      · walk_at "rd"
        exact rfl
    | false =>
      walk_at "rd"
      have e0 : lpl es e = i := by rw [he]; simp [lpl, List.takeWhile_cons, ha]
      rw [e0] at q
      exact q
  · rw [if_neg (by omega)]
    walk_at "rd"
    have e0 : lpl es e = i := by rw [he, List.drop_eq_nil_of_le (by omega)]; simp [lpl]
    rw [e0] at q
    exact q
def std (es : List En) (e : En) : Bool := match es[lpl es e]? with
  | some f => !ahd e f
  | none => false
def spStd (K : PySem.W.Frag) : Sp := fun vs H Q _ => ∃ c ys y es e, vs = [.ref c, y] ∧ SqT K H c ys ∧ DpAll K H ys (es.map enD) ∧ Dp K H y (enD e) ∧ Q (.bl (std es e)) H
theorem lpl_le (es : List En) (e : En) : lpl es e ≤ es.length := (List.takeWhile_sublist _).length_le
theorem sc_stands : FnScope ["entries", "entry", "at"] ["entries", "entry"] (defScope s_stands) := ⟨rfl, rfl, rfl, by decide +kernel, rfl, by decide +kernel, by decide +kernel⟩
theorem ok_stands (T : Tx K mg) : Gd P w K mg base CX0 5 "stands" ["entries", "entry"] (spStd K) := by
  refine gd0 (f_stands T) sc_stands (fun _ _ _ _ _ _ us hl => match us, hl with | [_, _], _ => rfl) ?len (fun f cdv A outer s H vs Q E hr h => ⟨_, (pss_cons (ps_set (i := 2) sc_stands.nd rfl (Or.inl rfl) (pe_g (ok_leaf_place T) hr (by decide) p0 (pa_cons (pv 0) (pa_cons (pv 1) pa_nil))))
      (pss_one (ps_ret (pe_and (pe_cmpR op_lt (pv 2) (pe_callB c_len_seq (by rfl) (n_len T) b_len (pa_cons (pv 0) pa_nil)) (nomark _)) (pe_one (pe_not (pe_g (ok_comes_ahead T) hr (by decide) p0 (pa_cons (pv 1) (pa_cons (pe_ix ix_tup (pv 0) (pv 2) (fun _ _ => rfl)) pa_nil))))))))), ?_⟩)
  case len => rintro vs H Q E ⟨c, ys, y, es, e, rfl, _⟩; rfl
  obtain ⟨c, ys, y, es, e, rfl, hc, hys, hy, q⟩ := h
  have hlen : ys.length = es.length := by rw [DpAll.length hys, List.length_map]
  walk_at "rd"
  refine ⟨c, ys, y, es, e, rfl, hc, hys, hy, ?_⟩
  walk_at "rd"
  refine q_lenT hc ?_
  walk_at "rd"
  rw [hlen]
  unfold std at q
  by_cases hlt : lpl es e < es.length
  · rw [if_pos (by omega)]
    obtain ⟨f, hf, hdr⟩ := drop_cons hlt
    obtain ⟨x, hx, dx⟩ := DpAll.at_ hys (i := lpl es e) (d := enD f) (by rw [List.getElem?_map, hf]; rfl)
    rw [hf] at q
    refine q_ixT hc (atI_nat hx) ?_
    refine ⟨y, x, e, f, rfl, hy, dx, ?_⟩
    walk_at "rd"
    exact q
  · rw [if_neg (by omega)]
    rw [List.getElem?_eq_none (by omega)] at q
    exact q
end


section
variable {P : Program} {w : World} {K : PySem.W.Frag} {mg : Str → Option Value} {base : Heap}
/-! ### sound entries, sound leaves -/
def okE (e : En) : Prop := dVal e.1.d = true ∧ 1 ≤ e.2 ∧ e.2 ≤ 1000000000
theorem sm_val {d : PyData} (h : dVal d = true) : sm d = true := by
  cases d with
  | str s =>
    simp only [dVal, Bool.and_eq_true, decide_eq_true_eq] at h
    simp only [sm, decide_eq_true_eq]
    omega
  | list _ => simp [dVal] at h
  | tuple _ => simp [dVal] at h
  | _ => simp [sm]
theorem lay_val {d : PyData} (h : dVal d = true) : d.canLay0 = true := by
  cases d with
  | str s =>
    simp only [dVal, Bool.and_eq_true, decide_eq_true_eq] at h
    simp only [PyData.canLay0, PyData.strOk]
    rw [← Array.all_toList]
    refine List.all_eq_true.mpr fun c hc => ?_
    have z := List.all_eq_true.mp h.2 c hc
    simp only [lowSign, Bool.and_eq_true, decide_eq_true_eq] at z
    simp only [decide_eq_true_eq]
    omega
  | list _ => simp [dVal] at h
  | tuple _ => simp [dVal] at h
  | dict _ => simp [dVal] at h
  | _ => simp [PyData.canLay0]
theorem sc_is_entry : FnScope ["thing"] ["thing"] (defScope s_is_entry) := ⟨rfl, rfl, rfl, by decide +kernel, rfl, by decide +kernel, by decide +kernel⟩
theorem ok_is_entry (T : Tx K mg) : Gd P w K mg base CX0 3 "is_entry" ["thing"] (fun vs H Q _ => ∃ x e, vs = [x] ∧ Dp K H x (enD e) ∧ okE e ∧ Q (.bl true) H) := by
  refine gd0 (f_is_entry T) sc_is_entry (fun _ _ _ _ _ _ us hl => match us, hl with | [_], _ => rfl) ?len (fun f cdv A outer s H vs Q E hr h => ⟨_, (pss_cons (ps_if (PW.pt (pw_or (pt_not (pt_val (pe_callB call_isi (by rfl) (n_isinstance T) b_isinstance (pa_cons (pv 0) (pa_cons (pe_bt (n_tuple T) b_tuple) pa_nil))))) (pw_or (pt_cmpR op_ne (pe_callB c_len_seq (by rfl) (n_len T) b_len (pa_cons (pv 0) pa_nil)) pe_int (nomark _)) (pw_or1 (pt_not (pt_val (pe_g (ok_is_value T) hr (by decide) p0 (pa_cons (pe_ix ix_tup (pv 0) pe_int (fun _ _ => rfl)) pa_nil)))))))) (pss_one (ps_ret pe_bl)) pss_nil)
      (pss_one (ps_ret (pe_and (pe_g (ok_is_whole T) hr (by decide) p0 (pa_cons (pe_ix ix_tup (pv 0) pe_int (fun _ _ => rfl)) pa_nil)) (pe_one (pe_chain op_le op_le pe_int (pe_ix ix_tup (pv 0) pe_int (fun _ _ => rfl)) (pe_gi (i_MOST_NUMBER_ordered T)))))))), ?_⟩)
  case len => rintro vs H Q E ⟨x, e, rfl, _⟩; rfl
  obtain ⟨x, e, rfl, hx, ⟨o1, o2, o3⟩, q⟩ := h
  obtain ⟨a, rfl, ha⟩ := dp_en hx
  walk_at "rd"
  refine isi_tup hx ?_
  simp only [enD, dTup]
  walk_at "rd"
  refine q_lenT ha ?_
  simp only [List.length_cons, List.length_nil]
  walk_at "rd"
  rw [if_neg (by simp)]
  refine q_ixT ha at0 ?_
  refine ⟨_, _, rfl, Cv.dp _, sm_val o1, ?_⟩
  rw [o1]
  walk_at "rd"
  refine q_ixT ha at1 ?_
  refine ⟨_, _, rfl, .int _, rfl, ?_⟩
  simp only [dWhole]
  walk_at "rd"
  refine q_ixT ha at1 ?_
  walk_at "rd"
  rw [if_pos o2]
  rw [show decide (e.2 ≤ 1000000000) = true from decide_eq_true o3]
  exact q
def okL (es : List En) : Prop := (∀ e, e ∈ es → okE e) ∧ es.Pairwise (fun e f => ahd e f = true)
theorem okL_next {es : List En} (h : okL es) {i : Nat} {e f : En} (h1 : es[i]? = some e) (h2 : es[i + 1]? = some f) : ahd e f = true := by
  obtain ⟨l1, e1⟩ := List.getElem?_eq_some_iff.mp h1
  obtain ⟨l2, e2⟩ := List.getElem?_eq_some_iff.mp h2
  rw [← e1, ← e2]
  exact List.pairwise_iff_getElem.mp h.2 i (i + 1) l1 l2 (Nat.lt_succ_self i)
mutual
theorem depth_ens : ∀ es : List En, PyData.depthAll (es.map enD) ≤ 1
  | [] => Nat.zero_le _
  | e :: es => by
    have h := depth_ens es
    have h1 : (enD e).depth = 1 := by
      unfold enD
      cases e.1 <;> simp [PyData.depth, PyData.depthAll, Cv.d]
    simp only [List.map_cons, PyData.depthAll, h1]
    omega
end
theorem lay_ens : ∀ es : List En, (∀ e, e ∈ es → okE e) → PyData.canLayAll0 (es.map enD) = true
  | [], _ => rfl
  | e :: es, h => by
    have h1 := lay_val (h e (List.mem_cons_self ..)).1
    have h2 := lay_ens es fun f hf => h f (List.mem_cons_of_mem _ hf)
    simp [PyData.canLayAll0, enD, PyData.canLay0, h1, h2]
theorem shaped_ens {es : List En} (h : ∀ e, e ∈ es → okE e) : SeqAt.shaped (.tuple (es.map enD)) = true := by
  unfold SeqAt.shaped
  have h1 := depth_ens es
  have h2 := lay_ens es h
  simp [PyData.canLay0, PyData.depth, h2]
  omega
theorem sc_leaf_ends : FnScope ["entries", "least", "k"] ["entries", "least"] (defScope s_leaf_ends) := ⟨rfl, rfl, rfl, by decide +kernel, rfl, by decide +kernel, by decide +kernel⟩
theorem ok_leaf_ends (T : Tx K mg) : Gd P w K mg base CX0 4 "leaf_ends" ["entries", "least"] (fun vs H Q _ => ∃ c ys es, vs = [.ref c, .int 0] ∧ SqT K H c ys ∧ DpAll K H ys (es.map enD) ∧ okL es ∧ es.length ≤ 8 ∧ ∀ p H', Ex H H' → Q (.ref p) H') := by
  refine gd0 (f_leaf_ends T) sc_leaf_ends (fun _ _ _ _ _ _ us hl => match us, hl with | [_, _], _ => rfl) ?len (fun f cdv A outer s H vs Q E hr h => ⟨_, (pss_cons (ps_if (PW.pt (pw_or (pt_not (pt_val (pe_callB call_isi (by rfl) (n_isinstance T) b_isinstance (pa_cons (pv 0) (pa_cons (pe_bt (n_tuple T) b_tuple) pa_nil))))) (pw_or1 (pt_not (pt_chain op_le op_le (pv 1) (pe_callB c_len_seq (by rfl) (n_len T) b_len (pa_cons (pv 0) pa_nil)) (pe_gi (i_MOST T))))))) (pss_one (ps_ret pe_non)) pss_nil)
      (pss_cons (ps_for PassesOwn.never rfl (pi_range1 (by rfl) (n_range T) (pa_cons (pe_callB c_len_seq (by rfl) (n_len T) b_len (pa_cons (pv 0) pa_nil)) pa_nil)) (pg_name (i := 2) sc_leaf_ends.nd rfl (Or.inl rfl)) (pss_one (ps_if (PW.pt (pw_or (pt_not (pt_val (pe_g (ok_is_entry T) hr (by decide) p0 (pa_cons (pe_ix ix_tup (pv 0) (pv 2) (fun _ _ => rfl)) pa_nil)))) (pw_or1 (PW.pt (pw_and (pt_cmpR op_gt (pv 2) pe_int (nomark _)) (pw_and1 (pt_not (pt_val (pe_g (ok_comes_ahead T) hr (by decide) p0 (pa_cons (pe_ix ix_tup (pv 0) (pe_op op_sub (pv 2) pe_int) (fun _ _ => rfl)) (pa_cons (pe_ix ix_tup (pv 0) (pv 2) (fun _ _ => rfl)) pa_nil))))))))))) (pss_one (ps_ret pe_non)) pss_nil)))
      (pss_cons (ps_if (pt_cmpR (op_eqD hr.units) (pv 0) (pe_tup pa_nil) (nomark _)) (pss_one (ps_ret (pe_tup (pa_cons pe_int (pa_cons pe_non (pa_cons pe_non pa_nil)))))) pss_nil)
      (pss_one (ps_ret (pe_tup (pa_cons pe_int (pa_cons (pe_ix ix_tup (pv 0) pe_int (fun _ _ => rfl)) (pa_cons (pe_ix ix_tup (pv 0) (pe_un un_neg pe_int) (fun _ _ => rfl)) pa_nil))))))))), ?_⟩)
  case len => rintro vs H Q E ⟨c, ys, es, rfl, _⟩; rfl
  obtain ⟨c, ys, es, rfl, hc, hys, hok, h8, q⟩ := h
  have hlen : ys.length = es.length := by rw [DpAll.length hys, List.length_map]
  walk_at "rd"
  refine isi_tup (.tup hc hys) ?_
  simp only [dTup]
  walk_at "rd"
  refine q_lenT hc ?_
  walk_at "rd"
  rw [if_pos (by omega), hlen]
  rw [if_neg (show ¬ ¬ ((es.length : Int) ≤ 8) by omega)]
  refine f_rng (n := (es.length : Int)) (fun R r => by
      walk_at "rd"
      refine q_lenT hc ?_
      rw [hlen]
      exact r) (by omega) (fun i σ H' => Ex H H' ∧ ∃ o, σ = [some (.ref c), some (.int 0), o]) ⟨exr H, none, rfl⟩ ?_ ?_
  · rintro i σ H' hi ⟨ex, o, rfl⟩
    walk_at "rd"
    have hi2 : i < es.length := by omega
    obtain ⟨e, he, _⟩ := drop_cons hi2
    obtain ⟨x, hx, dx⟩ := DpAll.at_ hys (i := i) (d := enD e) (by rw [List.getElem?_map, he]; rfl)
    refine q_ixT (ex.t hc) (atI_nat hx) ?_
    refine ⟨x, e, rfl, Dp.ex ex _ _ dx, hok.1 e (List.mem_of_getElem? he), ?_⟩
    walk_at "rd"
    cases i with
    | zero => 
      rw [if_neg (by omega)]
      walk_at "rd"
      exact ⟨ex, _, rfl⟩
    | succ j =>
      rw [if_pos (by omega)]
      have hj2 : j < es.length := by omega
      obtain ⟨f, hf, _⟩ := drop_cons hj2
      obtain ⟨y, hy, dy⟩ := DpAll.at_ hys (i := j) (d := enD f) (by rw [List.getElem?_map, hf]; rfl)
      refine q_ixT (ex.t hc) (by rw [show (((j + 1 : Nat) : Int) - 1) = (j : Int) by omega]; exact atI_nat hy) ?_
      refine q_ixT (ex.t hc) (atI_nat hx) ?_
      refine ⟨y, x, f, e, rfl, Dp.ex ex _ _ dy, Dp.ex ex _ _ dx, ?_⟩
      rw [okL_next hok hf he]
      walk_at "rd"
      exact ⟨ex, _, rfl⟩
  · rintro σ H' ⟨ex, o, rfl⟩
    walk_at "rd"
    refine ⟨Nat.zero_le _, fun p hp => ?_⟩
    have ex2 : Ex H (upd H' p (.tup [])) := ex.tr (Ex.nw hp)
    refine ⟨_, _, .tup (ex2.t hc) (DpAll.ex ex2 _ _ hys), .tup (SqT.of upd_same) .nil, shaped_ens hok.1, rfl, ?_⟩
    walk_at "rd"
    cases es with
    | nil =>
      simp only [List.map_nil, PyData.eqv, PyData.eqvAll]
      walk_at "rd"
      exact ⟨by show 3 ≤ sizeLine; decide, fun p2 hp2 => q _ _ (ex2.tr (Ex.nw hp2))⟩
    | cons e r =>
      simp only [List.map_cons, PyData.eqv, PyData.eqvAll]
      walk_at "rd"
      obtain ⟨x, hx, dx⟩ := DpAll.at_ hys (i := 0) (d := enD e) rfl
      refine q_ixT (ex2.t hc) (atI_nat (j := 0) hx) ?_
      have hne : ys ≠ [] := fun z => by rw [z] at hlen; simp at hlen
      refine q_ixT (ex2.t hc) (v := ys.getLast hne) (by
        have z := atI_last ys.dropLast (ys.getLast hne)
        rw [List.dropLast_concat_getLast] at z
        exact z) ?_
      walk_at "rd"
      exact ⟨by show 3 ≤ sizeLine; decide, fun p2 hp2 => q _ _ (ex2.tr (Ex.nw hp2))⟩
theorem leaf_ne : decide (("leaf" : Str) = "branch") = false := by decide +kernel
theorem sc_cell_ends : FnScope ["cell", "fewest", "least", "rows", "part", "ends"] ["cell", "fewest", "least"] (defScope s_cell_ends) := ⟨rfl, rfl, rfl, by decide +kernel, rfl, by decide +kernel, by decide +kernel⟩
theorem ok_cell_ends (T : Tx K mg) : Gd P w K mg base CX0 5 "cell_ends" ["cell", "fewest", "least"] (fun vs H Q _ => ∃ x es n, vs = [x, .int 0, .int n] ∧ Dp K H x (leafD es) ∧ okL es ∧ es.length ≤ 8 ∧ ∀ p H', Ex H H' → Q (.ref p) H') := by
  refine gd0 (f_cell_ends T) sc_cell_ends (fun _ _ _ _ _ _ us hl => match us, hl with | [_, _, _], _ => rfl) ?len (fun f cdv A outer s H vs Q E hr h => ⟨_, (pss_cons (ps_if (PW.pt (pw_or (pt_not (pt_val (pe_callB call_isi (by rfl) (n_isinstance T) b_isinstance (pa_cons (pv 0) (pa_cons (pe_bt (n_tuple T) b_tuple) pa_nil))))) (pw_or (pt_cmpR op_ne (pe_callB c_len_seq (by rfl) (n_len T) b_len (pa_cons (pv 0) pa_nil)) pe_int (nomark _)) (pw_or1 (pt_not (pt_val (pe_callB call_isi (by rfl) (n_isinstance T) b_isinstance (pa_cons (pe_ix ix_tup (pv 0) pe_int (fun _ _ => rfl)) (pa_cons (pe_bt (n_str T) b_str) pa_nil))))))))) (pss_one (ps_ret pe_non)) pss_nil)
      (pss_cons (ps_if (pt_cmpR op_eq (pe_ix ix_tup (pv 0) pe_int (fun _ _ => rfl)) pe_str (nomark _)) (pss_one (ps_ret (pe_g (ok_leaf_ends T) hr (by decide) p0 (pa_cons (pe_ix ix_tup (pv 0) pe_int (fun _ _ => rfl)) (pa_cons (pv 1) pa_nil))))) pss_nil)
      pss_never)), ?_⟩)
  case len => rintro vs H Q E ⟨x, es, n, rfl, _⟩; rfl
  obtain ⟨x, es, n, rfl, hd, hok, h8, q⟩ := h
  obtain ⟨a, c, ys, rfl, h1, h2, h3⟩ := dp_leaf hd
  walk_at "rd"
  refine isi_tup hd ?_
  simp only [leafD, dTup]
  walk_at "rd"
  refine q_lenT h1 ?_
  simp only [List.length_cons, List.length_nil]
  walk_at "rd"
  rw [if_neg (by simp)]
  refine q_ixT h1 at0 ?_
  refine isi_str (.str _) ?_
  simp only [dStr]
  walk_at "rd"
  refine q_ixT h1 at0 ?_
  walk_at "rd"
  refine q_ixT h1 at1 ?_
  exact ⟨c, ys, es, rfl, h2, h3, hok, h8, q⟩
theorem sc_is_index : FnScope ["thing"] ["thing"] (defScope s_is_index) := ⟨rfl, rfl, rfl, by decide +kernel, rfl, by decide +kernel, by decide +kernel⟩
theorem ok_is_index (T : Tx K mg) : Gd P w K mg base CX0 6 "is_index" ["thing"] (fun vs H Q _ => ∃ x es, vs = [x] ∧ Dp K H x (leafD es) ∧ okL es ∧ es.length ≤ 8 ∧ ∀ H', Ex H H' → Q (.bl true) H') := by
  refine gd0 (f_is_index T) sc_is_index (fun _ _ _ _ _ _ us hl => match us, hl with | [_], _ => rfl) ?len (fun f cdv A outer s H vs Q E hr h => ⟨_, (pss_one (ps_ret (pe_cmpR o_notN (pe_g (ok_cell_ends T) hr (by decide) p0 (pa_cons (pv 0) (pa_cons pe_int (pa_cons pe_int pa_nil)))) pe_non (nomark _)))), ?_⟩)
  case len => rintro vs H Q E ⟨x, es, rfl, _⟩; rfl
  obtain ⟨x, es, rfl, hd, hok, h8, q⟩ := h
  walk_at "rd"
  refine ⟨x, es, 2, rfl, hd, hok, h8, fun p H' ex => ?_⟩
  walk_at "rd"
  exact q H' ex
theorem sc_entries_of : FnScope ["index", "found", "first", "cell"] ["index"] (defScope s_entries_of) := ⟨rfl, rfl, rfl, by decide +kernel, rfl, by decide +kernel, by decide +kernel⟩
theorem ok_entries_of (T : Tx K mg) : Gd P w K mg base CX0 1 "entries_of" ["index"] (fun vs H Q _ => ∃ x es, vs = [x] ∧ Dp K H x (leafD es) ∧ ∀ p ys H', Ex H H' → H p = none → H' p = some (.lst ys) → DpAll K H' ys (es.map enD) → Q (.ref p) H') := by
  refine gd0 (f_entries_of T) sc_entries_of (fun _ _ _ _ _ _ us hl => match us, hl with | [_], _ => rfl) ?len (fun f cdv A outer s H vs Q E hr h => ⟨_, (pss_cons (ps_if (pt_cmpR op_eq (pe_ix ix_tup (pv 0) pe_int (fun _ _ => rfl)) pe_str (nomark _)) (pss_one (ps_ret (pe_callTy c_list_of (by rfl) (n_list T) b_list (pa_cons (pe_ix ix_tup (pv 0) pe_int (fun _ _ => rfl)) pa_nil)))) pss_nil)
      pss_never), ?_⟩)
  case len => rintro vs H Q E ⟨x, es, rfl, _⟩; rfl
  obtain ⟨x, es, rfl, hd, q⟩ := h
  obtain ⟨a, c, ys, rfl, h1, h2, h3⟩ := dp_leaf hd
  walk_at "rd"
  refine q_ixT h1 at0 ?_
  walk_at "rd"
  refine q_ixT h1 at1 ?_
  refine ⟨c, ys, rfl, .inr h2, fun l hl => ?_⟩
  exact q l ys _ (Ex.nw hl) hl upd_same (DpAll.ex (Ex.nw hl) _ _ h3)
theorem sc_many_in : FnScope ["index", "part"] ["index"] (defScope s_many_in) := ⟨rfl, rfl, rfl, by decide +kernel, rfl, by decide +kernel, by decide +kernel⟩
theorem ok_many_in (T : Tx K mg) : Gd P w K mg base CX0 1 "many_in" ["index"] (fun vs H Q _ => ∃ x es, vs = [x] ∧ Dp K H x (leafD es) ∧ Q (.int es.length) H) := by
  refine gd0 (f_many_in T) sc_many_in (fun _ _ _ _ _ _ us hl => match us, hl with | [_], _ => rfl) ?len (fun f cdv A outer s H vs Q E hr h => ⟨_, (pss_cons (ps_if (pt_cmpR op_eq (pe_ix ix_tup (pv 0) pe_int (fun _ _ => rfl)) pe_str (nomark _)) (pss_one (ps_ret (pe_callB c_len_seq (by rfl) (n_len T) b_len (pa_cons (pe_ix ix_tup (pv 0) pe_int (fun _ _ => rfl)) pa_nil)))) pss_nil)
      pss_never), ?_⟩)
  case len => rintro vs H Q E ⟨x, es, rfl, _⟩; rfl
  obtain ⟨x, es, rfl, hd, q⟩ := h
  obtain ⟨a, c, ys, rfl, h1, h2, h3⟩ := dp_leaf hd
  walk_at "rd"
  refine q_ixT h1 at0 ?_
  walk_at "rd"
  refine q_ixT h1 at1 ?_
  refine q_lenT h2 ?_
  rw [show ys.length = es.length by rw [DpAll.length h3, List.length_map]]
  exact q
end


section
variable {P : Program} {w : World} {K : PySem.W.Frag} {mg : Str → Option Value} {base : Heap}
theorem DpAll.take {H : Hp} : ∀ {ds : List PyData} {vs : List V} (n : Nat), DpAll K H vs ds → DpAll K H (vs.take n) (ds.take n)
  | _, _, 0, _ => .nil
  | [], _, n + 1, h => by cases h; exact .nil
  | d :: ds, _, n + 1, h => by
    cases h with
    | cons h1 h2 => exact .cons h1 (DpAll.take n h2)
theorem DpAll.drop {H : Hp} : ∀ {ds : List PyData} {vs : List V} (n : Nat), DpAll K H vs ds → DpAll K H (vs.drop n) (ds.drop n)
  | _, _, 0, h => h
  | [], _, n + 1, h => by cases h; exact .nil
  | d :: ds, _, n + 1, h => by
    cases h with
    | cons h1 h2 => exact DpAll.drop n h2
/-! ### an entry put in, taken out -/
def insE (es : List En) (e : En) : List En := if std es e = true then es else es.take (lpl es e) ++ (e :: es.drop (lpl es e))
def remE (es : List En) (e : En) : List En := if std es e = true then es.take (lpl es e) ++ es.drop (lpl es e + 1) else es
theorem insE_len (es : List En) (e : En) : (insE es e).length ≤ es.length + 1 := by
  unfold insE
  split
  · omega
  · have h := lpl_le es e
    rw [List.length_append, List.length_cons, List.length_take, List.length_drop]
    omega
theorem remE_len (es : List En) (e : En) : (remE es e).length ≤ es.length := by
  unfold remE
  split
  · have h := lpl_le es e
    rw [List.length_append, List.length_take, List.length_drop]
    omega
  · omega
theorem insE_mem {es : List En} {e f : En} (h : f ∈ insE es e) : f ∈ es ∨ f = e := by
  unfold insE at h
  split at h
  · exact .inl h
  · rcases List.mem_append.mp h with h | h
    · exact .inl (List.mem_of_mem_take h)
    · rcases List.mem_cons.mp h with h | h
      · exact .inr h
      · exact .inl (List.mem_of_mem_drop h)
theorem remE_mem {es : List En} {e f : En} (h : f ∈ remE es e) : f ∈ es := by
  unfold remE at h
  split at h
  · rcases List.mem_append.mp h with h | h
    · exact List.mem_of_mem_take h
    · exact List.mem_of_mem_drop h
  · exact h
theorem sc_cut : FnScope ["word", "row", "half"] ["word", "row"] (defScope s_cut) := ⟨rfl, rfl, rfl, by decide +kernel, rfl, by decide +kernel, by decide +kernel⟩
theorem ok_cut (T : Tx K mg) : Gd P w K mg base CX0 1 "cut" ["word", "row"] (fun vs H Q _ => ∃ c ys, vs = [.str "leaf", .ref c] ∧ SqT K H c ys ∧ ys.length ≤ 8 ∧ ∀ p t H', Ex H H' → H p = none → H' p = some (.lst [.ref t]) → SqT K H' t [.str "leaf", .ref c] → Q (.ref p) H') := by
  refine gd0 (f_cut T) sc_cut (fun _ _ _ _ _ _ us hl => match us, hl with | [_, _], _ => rfl) ?len (fun f cdv A outer s H vs Q E hr h => ⟨_, (pss_cons (ps_if (pt_cmpR op_le (pe_callB c_len_seq (by rfl) (n_len T) b_len (pa_cons (pv 1) pa_nil)) (pe_gi (i_MOST T)) (nomark _)) (pss_one (ps_ret (pe_lst (pa_cons (pe_tup (pa_cons (pv 0) (pa_cons (pv 1) pa_nil))) pa_nil)))) pss_nil)
      pss_never), ?_⟩)
  case len => rintro vs H Q E ⟨c, ys, rfl, _⟩; rfl
  obtain ⟨c, ys, rfl, hc, h8, q⟩ := h
  walk_at "rd"
  refine q_lenT hc ?_
  walk_at "rd"
  rw [if_pos (by omega)]
  refine ⟨by show 2 ≤ sizeLine; decide, fun t ht => ⟨by show 1 ≤ sizeLine; decide, fun p hp => ?_⟩⟩
  have ex1 : Ex H (upd H t (.tup [.str "leaf", .ref c])) := Ex.nw ht
  refine q p t _ (ex1.tr (Ex.nw hp)) (ex1.fr hp) upd_same (SqT.of ?_)
  rw [upd_ne (ne_of_none upd_same hp)]
  exact upd_same
theorem sc_added : FnScope ["cell", "entry", "word", "row", "at", "parts", "one"] ["cell", "entry"] (defScope s_added) := ⟨rfl, rfl, rfl, by decide +kernel, rfl, by decide +kernel, by decide +kernel⟩
theorem ok_added (T : Tx K mg) : Gd P w K mg base CX0 6 "added" ["cell", "entry"] (fun vs H Q _ => ∃ x y es e, vs = [x, y] ∧ Dp K H x (leafD es) ∧ Dp K H y (enD e) ∧ es.length ≤ 7 ∧ ∀ p t H', Ex H H' → H p = none → H' p = some (.lst [.ref t]) → Dp K H' (.ref t) (leafD (insE es e)) → Q (.ref p) H') := by
  refine gd0 (f_added T) sc_added (fun _ _ _ _ _ _ us hl => match us, hl with | [_, _], _ => rfl) ?len (fun f cdv A outer s H vs Q E hr h => ⟨_, (pss_cons (ps_asg (pv 0) (pg_tup rfl (pgs_cons (pg_name (i := 2) sc_added.nd rfl (Or.inl rfl)) (pgs_cons (pg_name (i := 3) sc_added.nd rfl (Or.inl rfl)) pgs_nil))))
      (pss_cons (ps_if (pt_cmpR op_eq (pv 2) pe_str (nomark _)) (pss_cons (ps_if (pt_val (pe_g (ok_stands T) hr (by decide) p0 (pa_cons (pv 3) (pa_cons (pv 1) pa_nil)))) (pss_one (ps_ret (pe_lst (pa_cons (pv 0) pa_nil)))) pss_nil)
      (pss_cons (ps_set (i := 4) sc_added.nd rfl (Or.inl rfl) (pe_g (ok_leaf_place T) hr (by decide) p0 (pa_cons (pv 3) (pa_cons (pv 1) pa_nil))))
      (pss_one (ps_ret (pe_g (ok_cut T) hr (by decide) p0 (pa_cons (pv 2) (pa_cons (pe_op op_catA (pe_op op_catA (pe_slice sl_tupA (pv 3) po_none (po_some (pv 4))) (pe_tup (pa_cons (pv 1) pa_nil))) (pe_slice sl_tupA (pv 3) (po_some (pv 4)) po_none)) pa_nil))))))) pss_nil)
      pss_never)), ?_⟩)
  case len => rintro vs H Q E ⟨x, y, es, e, rfl, _⟩; rfl
  obtain ⟨x, y, es, e, rfl, hd, hy, h7, q⟩ := h
  obtain ⟨a, c, ys, rfl, h1, h2, h3⟩ := dp_leaf hd
  have hlen : ys.length = es.length := by rw [DpAll.length h3, List.length_map]
  walk_at "rd"
  simp only [r_asgG]
  walk_at "rd"
  refine q_tup h1 rfl ?_
  walk_at "rd"
  refine ⟨c, ys, y, es, e, rfl, h2, h3, hy, ?_⟩
  walk_at "rd"
  unfold insE at q
  cases hst : std es e with
  | true =>
    rw [hst, if_pos rfl] at q
    walk_at "rd"
    refine ⟨by show 1 ≤ sizeLine; decide, fun p hp => ?_⟩
    exact q p a _ (Ex.nw hp) hp upd_same (Dp.ex (Ex.nw hp) _ _ hd)
  | false =>
    rw [hst, if_neg (by simp)] at q
    walk_at "rd"
    refine ⟨c, ys, y, es, e, rfl, h2, h3, hy, ?_⟩
    walk_at "rd"
    have hle := lpl_le es e
    refine q_slT h2 fun p1 H1 ex1 s1 => ?_
    rw [cutV_take (by omega)] at s1
    walk_at "rd"
    refine ⟨by show 1 ≤ sizeLine; decide, fun p2 hp2 => ?_⟩
    have ex2 : Ex H1 (upd H1 p2 (.tup [y])) := Ex.nw hp2
    refine q_catT (ex2.t s1) (SqT.of upd_same) (by rw [List.length_take]; exact Nat.le_trans (by simp; omega : _ ≤ 9) (by decide)) fun p3 H3 ex3 s3 => ?_
    walk_at "rd"
    have exA : Ex H H3 := (ex1.tr ex2).tr ex3
    refine q_slT (exA.t h2) fun p4 H4 ex4 s4 => ?_
    rw [cutV_drop (by omega)] at s4
    refine q_catT (ex4.t s3) s4 (by simp only [List.length_append, List.length_take, List.length_drop, List.length_singleton]; exact Nat.le_trans (by omega : _ ≤ 9) (by decide)) fun p5 H5 ex5 s5 => ?_
    have exB : Ex H H5 := (exA.tr ex4).tr ex5
    refine ⟨p5, _, rfl, s5, by simp only [List.length_append, List.length_take, List.length_drop, List.length_singleton]; omega, fun p t H6 ex6 hp e6 s6 => ?_⟩
    have exC : Ex H H6 := exB.tr ex6
    refine q p t H6 exC (exB.fr hp) e6 (.tup s6 (.cons (.str _) (.cons (.tup (ex6.t s5) ?_) .nil)))
    have d1 := DpAll.take (lpl es e) (DpAll.ex exC _ _ h3)
    have d2 := DpAll.drop (lpl es e) (DpAll.ex exC _ _ h3)
    rw [List.map_append, List.map_cons, List.map_take, List.map_drop]
    rw [List.append_assoc]
    exact DpAll.app d1 (.cons (Dp.ex exC _ _ hy) d2)
theorem sc_with_entry : FnScope ["index", "value", "number", "cells", "cell"] ["index", "value", "number"] (defScope s_with_entry) := ⟨rfl, rfl, rfl, by decide +kernel, rfl, by decide +kernel, by decide +kernel⟩
theorem ok_with_entry (T : Tx K mg) : Gd P w K mg base CX0 7 "with_entry" ["index", "value", "number"] (fun vs H Q _ => ∃ x es e, vs = [x, Cv.v (Prod.fst e), .int (Prod.snd e)] ∧ Dp K H x (leafD es) ∧ es.length ≤ 7 ∧ ∀ t H', Ex H H' → Dp K H' (.ref t) (leafD (insE es e)) → Q (.ref t) H') := by
  refine gd0 (f_with_entry T) sc_with_entry (fun _ _ _ _ _ _ us hl => match us, hl with | [_, _, _], _ => rfl) ?len (fun f cdv A outer s H vs Q E hr h => ⟨_, (pss_cons (ps_set (i := 3) sc_with_entry.nd rfl (Or.inl rfl) (pe_g (ok_added T) hr (by decide) p0 (pa_cons (pv 0) (pa_cons (pe_tup (pa_cons (pv 1) (pa_cons (pv 2) pa_nil))) pa_nil))))
      (pss_cons (ps_if (pt_cmpR op_eq (pe_callB c_len_seq (by rfl) (n_len T) b_len (pa_cons (pv 3) pa_nil)) pe_int (nomark _)) (pss_one (ps_ret (pe_ix ix_list (pv 3) pe_int (fun _ _ => rfl)))) pss_nil)
      pss_never)), ?_⟩)
  case len => rintro vs H Q E ⟨x, es, e, rfl, _⟩; rfl
  obtain ⟨x, es, e, rfl, hd, h7, q⟩ := h
  walk_at "rd"
  refine ⟨by show 2 ≤ sizeLine; decide, fun p1 hp1 => ?_⟩
  have ex1 : Ex H (upd H p1 (.tup [e.1.v, .int e.2])) := Ex.nw hp1
  refine ⟨x, .ref p1, es, e, rfl, Dp.ex ex1 _ _ hd, en_dp (SqT.of upd_same), h7, fun p t H2 ex2 hp e2 d2 => ?_⟩
  walk_at "rd"
  refine q_lenL (SqL.of e2) ?_
  simp only [List.length_cons, List.length_nil]
  walk_at "rd"
  rw [if_pos (by simp)]
  refine q_ixL (SqL.of e2) at0 ?_
  exact q t H2 (ex1.tr ex2) d2
theorem sc_taken : FnScope ["cell", "entry", "word", "row", "at"] ["cell", "entry"] (defScope s_taken) := ⟨rfl, rfl, rfl, by decide +kernel, rfl, by decide +kernel, by decide +kernel⟩
theorem ok_taken (T : Tx K mg) : Gd P w K mg base CX0 6 "taken" ["cell", "entry"] (fun vs H Q _ => ∃ x y es e, vs = [x, y] ∧ Dp K H x (leafD es) ∧ Dp K H y (enD e) ∧ es.length ≤ 7 ∧ ∀ t H', Ex H H' → Dp K H' (.ref t) (leafD (remE es e)) → Q (.ref t) H') := by
  refine gd0 (f_taken T) sc_taken (fun _ _ _ _ _ _ us hl => match us, hl with | [_, _], _ => rfl) ?len (fun f cdv A outer s H vs Q E hr h => ⟨_, (pss_cons (ps_asg (pv 0) (pg_tup rfl (pgs_cons (pg_name (i := 2) sc_taken.nd rfl (Or.inl rfl)) (pgs_cons (pg_name (i := 3) sc_taken.nd rfl (Or.inl rfl)) pgs_nil))))
      (pss_cons (ps_if (pt_cmpR op_eq (pv 2) pe_str (nomark _)) (pss_cons (ps_if (pt_not (pt_val (pe_g (ok_stands T) hr (by decide) p0 (pa_cons (pv 3) (pa_cons (pv 1) pa_nil))))) (pss_one (ps_ret (pv 0))) pss_nil)
      (pss_cons (ps_set (i := 4) sc_taken.nd rfl (Or.inl rfl) (pe_g (ok_leaf_place T) hr (by decide) p0 (pa_cons (pv 3) (pa_cons (pv 1) pa_nil))))
      (pss_one (ps_ret (pe_tup (pa_cons (pv 2) (pa_cons (pe_op op_catA (pe_slice sl_tupA (pv 3) po_none (po_some (pv 4))) (pe_slice sl_tupA (pv 3) (po_some (pe_op op_add (pv 4) pe_int)) po_none)) pa_nil))))))) pss_nil)
      pss_never)), ?_⟩)
  case len => rintro vs H Q E ⟨x, y, es, e, rfl, _⟩; rfl
  obtain ⟨x, y, es, e, rfl, hd, hy, h7, q⟩ := h
  obtain ⟨a, c, ys, rfl, h1, h2, h3⟩ := dp_leaf hd
  have hlen : ys.length = es.length := by rw [DpAll.length h3, List.length_map]
  walk_at "rd"
  simp only [r_asgG]
  walk_at "rd"
  refine q_tup h1 rfl ?_
  walk_at "rd"
  refine ⟨c, ys, y, es, e, rfl, h2, h3, hy, ?_⟩
  walk_at "rd"
  unfold remE at q
  cases hst : std es e with
  | false =>
    rw [hst, if_neg (by simp)] at q
    walk_at "rd"
    exact q a H (exr H) hd
  | true =>
    rw [hst, if_pos rfl] at q
    walk_at "rd"
    refine ⟨c, ys, y, es, e, rfl, h2, h3, hy, ?_⟩
    walk_at "rd"
    have hle := lpl_le es e
    have hlt : lpl es e < es.length := by
      unfold std at hst
      cases hg : es[lpl es e]? with
      | none => rw [hg] at hst; cases hst
      | some f => exact (List.getElem?_eq_some_iff.mp hg).1
    refine q_slT h2 fun p1 H1 ex1 s1 => ?_
    rw [cutV_take (by omega)] at s1
    walk_at "rd"
    refine q_slT (ex1.t h2) fun p2 H2 ex2 s2 => ?_
    rw [show ((lpl es e : Int) + 1) = ((lpl es e + 1 : Nat) : Int) by omega, cutV_drop (by omega)] at s2
    refine q_catT (ex2.t s1) s2 (by simp only [List.length_take, List.length_drop]; exact Nat.le_trans (by omega : _ ≤ 9) (by decide)) fun p3 H3 ex3 s3 => ?_
    refine ⟨by show 2 ≤ sizeLine; decide, fun t ht => ?_⟩
    have exC : Ex H (upd H3 t (.tup [.str "leaf", .ref p3])) := ((ex1.tr ex2).tr ex3).tr (Ex.nw ht)
    refine q t _ exC (.tup (SqT.of upd_same) (.cons (.str _) (.cons (.tup ((Ex.nw ht).t s3) ?_) .nil)))
    have d1 := DpAll.take (lpl es e) (DpAll.ex exC _ _ h3)
    have d2 := DpAll.drop (lpl es e + 1) (DpAll.ex exC _ _ h3)
    rw [List.map_append, List.map_take, List.map_drop]
    exact DpAll.app d1 d2
theorem sc_without_entry : FnScope ["index", "value", "number", "cell"] ["index", "value", "number"] (defScope s_without_entry) := ⟨rfl, rfl, rfl, by decide +kernel, rfl, by decide +kernel, by decide +kernel⟩
theorem ok_without_entry (T : Tx K mg) : Gd P w K mg base CX0 7 "without_entry" ["index", "value", "number"] (fun vs H Q _ => ∃ x es e, vs = [x, Cv.v (Prod.fst e), .int (Prod.snd e)] ∧ Dp K H x (leafD es) ∧ es.length ≤ 7 ∧ ∀ t H', Ex H H' → Dp K H' (.ref t) (leafD (remE es e)) → Q (.ref t) H') := by
  refine gd0 (f_without_entry T) sc_without_entry (fun _ _ _ _ _ _ us hl => match us, hl with | [_, _, _], _ => rfl) ?len (fun f cdv A outer s H vs Q E hr h => ⟨_, (pss_cons (ps_set (i := 3) sc_without_entry.nd rfl (Or.inl rfl) (pe_g (ok_taken T) hr (by decide) p0 (pa_cons (pv 0) (pa_cons (pe_tup (pa_cons (pv 1) (pa_cons (pv 2) pa_nil))) pa_nil))))
      (pss_cons (ps_if (PW.pt (pw_and (pt_cmpR op_eq (pe_ix ix_tup (pv 3) pe_int (fun _ _ => rfl)) pe_str (nomark _)) (pw_and1 (pt_cmpR op_eq (pe_callB c_len_seq (by rfl) (n_len T) b_len (pa_cons (pe_ix ix_tup (pv 3) pe_int (fun _ _ => rfl)) pa_nil)) pe_int (nomark _))))) pss_never pss_nil)
      (pss_one (ps_ret (pv 3))))), ?_⟩)
  case len => rintro vs H Q E ⟨x, es, e, rfl, _⟩; rfl
  obtain ⟨x, es, e, rfl, hd, h7, q⟩ := h
  walk_at "rd"
  refine ⟨by show 2 ≤ sizeLine; decide, fun p1 hp1 => ?_⟩
  have ex1 : Ex H (upd H p1 (.tup [e.1.v, .int e.2])) := Ex.nw hp1
  refine ⟨x, .ref p1, es, e, rfl, Dp.ex ex1 _ _ hd, en_dp (SqT.of upd_same), h7, fun t H2 ex2 d2 => ?_⟩
  obtain ⟨a, c, ys, ea, k1, k2, k3⟩ := dp_leaf d2
  cases ea
  walk_at "rd"
  refine q_ixT k1 at0 ?_
  walk_at "rd"
  rw [if_neg (of_decide_eq_false leaf_ne)]
  exact q t H2 (ex1.tr ex2) d2
def fillE (es : List En) (l : List En) : List En := l.foldl insE es
theorem fillE_len : ∀ (l es : List En), (fillE es l).length ≤ es.length + l.length
  | [], es => Nat.le_refl _
  | e :: l, es => by
    have h := fillE_len l (insE es e)
    have h2 := insE_len es e
    show (fillE (insE es e) l).length ≤ _
    rw [List.length_cons]
    omega
theorem sc_index_from : FnScope ["entries", "index", "value", "number"] ["entries"] (defScope s_index_from) := ⟨rfl, rfl, rfl, by decide +kernel, rfl, by decide +kernel, by decide +kernel⟩
theorem ok_index_from (T : Tx K mg) : Gd P w K mg base CX0 8 "index_from" ["entries"] (fun vs H Q _ => ∃ p ys es, vs = [.ref p] ∧ SqL K H p ys ∧ DpAll K H ys (es.map enD) ∧ es.length ≤ 8 ∧ ∀ t H', Ex H H' → Dp K H' (.ref t) (leafD (fillE [] es)) → Q (.ref t) H') := by
  refine gd0 (f_index_from T) sc_index_from (fun _ _ _ _ _ _ us hl => match us, hl with | [_], _ => rfl) ?len (fun f cdv A outer s H vs Q E hr h => ⟨_, (pss_cons (ps_set (i := 1) sc_index_from.nd rfl (Or.inl rfl) (pe_g0 (ok_empty_index T) hr (by decide)))
      (pss_cons (ps_for PassesOwn.never rfl (pi_list (pv 0)) (pg_tup rfl (pgs_cons (pg_name (i := 2) sc_index_from.nd rfl (Or.inl rfl)) (pgs_cons (pg_name (i := 3) sc_index_from.nd rfl (Or.inl rfl)) pgs_nil))) (pss_one (ps_set (i := 1) sc_index_from.nd rfl (Or.inl rfl) (pe_g (ok_with_entry T) hr (by decide) p0 (pa_cons (pv 1) (pa_cons (pv 2) (pa_cons (pv 3) pa_nil)))))))
      (pss_one (ps_ret (pv 1))))), ?_⟩)
  case len => rintro vs H Q E ⟨p, ys, es, rfl, _⟩; rfl
  obtain ⟨p, ys, es, rfl, hp, hys, h8, q⟩ := h
  walk_at "rd"
  refine fun p0 H0 ex0 d0 => ?_
  walk_at "rd"
  refine f_lst (a := p) (xs := ys) (fun R r => by walk_at "rd"; exact r) (ex0.l hp)
    (fun r σ H' => Ex H H' ∧ ∃ t o1 o2 l pre, σ = [some (.ref p), some (.ref t), o1, o2] ∧ DpAll K H r (l.map enD) ∧ Dp K H' (.ref t) (leafD pre) ∧ pre.length + l.length ≤ 8 ∧ fillE [] es = fillE pre l)
    ⟨ex0, p0, none, none, es, [], rfl, hys, d0, by simpa using h8, rfl⟩ (fun r σ H' ⟨e, _⟩ => e.l hp) ?_ ?_
  · rintro x r σ H' ⟨ex, t, o1, o2, l, pre, rfl, hda, dt, hl, he⟩
    cases l with
    | nil => cases hda
    | cons e l2 =>
      cases hda with | cons kc kr => ?_
      obtain ⟨b, rfl, hb⟩ := dp_en kc
      refine q_tup (ex.t hb) rfl ?_
      walk_at "rd"
      simp only [List.length_cons] at hl
      refine ⟨_, pre, e, rfl, dt, by omega, fun t2 H2 ex2 d2 => ?_⟩
      walk_at "rd"
      have h3 := insE_len pre e
      exact ⟨ex.tr ex2, t2, _, _, l2, insE pre e, rfl, kr, d2, by omega, he⟩
  · rintro σ H' ⟨ex, t, o1, o2, l, pre, rfl, hda, dt, hl, he⟩
    cases l with
    | cons e l2 => cases hda
    | nil =>
      walk_at "rd"
      rw [he] at q
      exact q t H' ex dt
end


section
variable {P : Program} {w : World} {K : PySem.W.Frag} {mg : Str → Option Value} {base : Heap}
/-! ### dicts of data -/
inductive KD {α : Type} (K : PySem.W.Frag) (H : Hp) (k : α → Key) (d : α → PyData) : List (Key × V) → List α → Prop
  | nil : KD K H k d [] []
  | cons {v : V} {kvs : List (Key × V)} {x : α} {xs : List α} : Dp K H v (d x) → KD K H k d kvs xs → KD K H k d ((k x, v) :: kvs) (x :: xs)
theorem KD.lx {α : Type} {H H' : Hp} {k : α → Key} {d : α → PyData} (e : Lx H H') : ∀ {kvs : List (Key × V)} {xs : List α}, KD K H k d kvs xs → KD K H' k d kvs xs
  | _, _, .nil => .nil
  | _, _, .cons h r => .cons (Dp.lx e _ _ h) (KD.lx e r)
theorem KD.length {α : Type} {H : Hp} {k : α → Key} {d : α → PyData} : ∀ {kvs : List (Key × V)} {xs : List α}, KD K H k d kvs xs → kvs.length = xs.length
  | _, _, .nil => rfl
  | _, _, .cons h r => by simp [KD.length r]
theorem KD.keys {α : Type} {H : Hp} {k : α → Key} {d : α → PyData} : ∀ {kvs : List (Key × V)} {xs : List α}, KD K H k d kvs xs → kvs.map (·.1) = xs.map k
  | _, _, .nil => rfl
  | _, _, .cons h r => by simp [KD.keys r]
theorem KD.none_ {α : Type} {H : Hp} {k : α → Key} {d : α → PyData} {y : Key} : ∀ {kvs : List (Key × V)} {xs : List α}, KD K H k d kvs xs → (∀ x, x ∈ xs → k x ≠ y) → valV kvs y = none
  | _, _, .nil, _ => rfl
  | _, _, .cons (x := x) h r, g => by
    rw [valV_neg (g x (List.mem_cons_self ..))]
    exact KD.none_ r fun z hz => g z (List.mem_cons_of_mem _ hz)
theorem KD.some_ {α : Type} {H : Hp} {k : α → Key} {d : α → PyData} : ∀ {kvs : List (Key × V)} {xs : List α} {x : α}, KD K H k d kvs xs → (xs.map k).Nodup → x ∈ xs → ∃ v, valV kvs (k x) = some v ∧ Dp K H v (d x)
  | _, _, _, .nil, _, g => by cases g
  | _, _, y, .cons (x := x) (v := v) h r, nd, g => by
    have nd2 := List.nodup_cons.mp (show (k x :: _).Nodup from nd)
    rcases List.mem_cons.mp g with e | g
    · subst e
      exact ⟨v, valV_pos rfl, h⟩
    · have ne : k x ≠ k y := fun e => nd2.1 (by rw [e]; exact List.mem_map.mpr ⟨y, g, rfl⟩)
      rw [valV_neg ne]
      exact KD.some_ r nd2.2 g
theorem KD.app {α : Type} {H : Hp} {k : α → Key} {d : α → PyData} {v : V} {x : α} (h : Dp K H v (d x)) : ∀ {kvs : List (Key × V)} {xs : List α}, KD K H k d kvs xs → KD K H k d (kvs ++ [(k x, v)]) (xs ++ [x])
  | _, _, .nil => .cons h .nil
  | _, _, .cons g r => .cons g (KD.app h r)
/-! ### tables as plain data -/
abbrev Rw := Int × List Cv
def rowD (r : List Cv) : PyData := .tuple (r.map Cv.d)
def rwK (x : Rw) : Key := .inl x.1
def rwD (x : Rw) : PyData := rowD x.2
theorem dp_row {H : Hp} {v : V} {r : List Cv} (h : Dp K H v (rowD r)) : ∃ a, v = .ref a ∧ SqT K H a (r.map Cv.v) := by
  cases h with
  | @tup a xs ds h1 h2 =>
    have e : xs = r.map Cv.v := by
      clear h1
      induction r generalizing xs with
      | nil => cases h2; rfl
      | cons c r ih =>
        cases h2 with
        | cons k1 k2 =>
          obtain rfl := dp_cv k1
          rw [ih k2]
          rfl
    exact ⟨a, rfl, e ▸ h1⟩
abbrev CT (K : PySem.W.Frag) : Addr := He.ga K "Table"
def tabF (sh r ix : Addr) : List (Str × V) := [("shape", .ref sh), ("rows", .ref r), ("indexes", .ref ix)]
theorem tf_shape (sh r ix : Addr) : (tabF sh r ix).lookup ("shape" : Str) = some (.ref sh) := lk_here
theorem tf_rows (sh r ix : Addr) : (tabF sh r ix).lookup ("rows" : Str) = some (.ref r) := (lk_past (by decide +kernel)).trans lk_here
theorem tf_indexes (sh r ix : Addr) : (tabF sh r ix).lookup ("indexes" : Str) = some (.ref ix) := (lk_past (by decide +kernel)).trans ((lk_past (by decide +kernel)).trans lk_here)
theorem tf_new (sh r ix : V) : putF "indexes" ix (putF "rows" r (putF "shape" sh [])) = ([("shape", sh), ("rows", r), ("indexes", ix)] : List (Str × V)) := by
  show putF "indexes" ix (putF "rows" r ([("shape", sh)] : List (Str × V))) = _
  rw [pf_past (by decide +kernel)]
  show putF "indexes" ix ([("shape", sh), ("rows", r)] : List (Str × V)) = _
  rw [pf_past (by decide +kernel), pf_past (by decide +kernel)]
  rfl
def RowsAt (K : PySem.W.Frag) (H : Hp) (r : Addr) (rows : List Rw) : Prop := ∃ kvs, H r = some (.dK kvs) ∧ KD K H rwK rwD kvs rows
/-- the indexes: none, or the first column's -/
def IxAt (K : PySem.W.Frag) (H : Hp) (ix : Addr) (cs : Cols) : Option (List En) → Prop
  | none => H ix = some (.dK [])
  | some es => ∃ c b cr v, cs = (c, b) :: cr ∧ H ix = some (.dK [(.inr c, v)]) ∧ Dp K H v (leafD es)
structure TabF (K : PySem.W.Frag) (H : Hp) (t : Addr) (n : Str) (cs : Cols) (rows : List Rw) (o : Option (List En)) (dx sh r ix : Addr) : Prop where
  ins : H t = some (.ins (CT K) dx (tabF sh r ix))
  ne : r ≠ ix
  shp : Dp K H (.ref sh) (shD n cs)
  row : RowsAt K H r rows
  idx : IxAt K H ix cs o
def TabAt (K : PySem.W.Frag) (H : Hp) (t : Addr) (n : Str) (cs : Cols) (rows : List Rw) (o : Option (List En)) : Prop := ∃ dx sh r ix, TabF K H t n cs rows o dx sh r ix
theorem RowsAt.ex {H H' : Hp} {r : Addr} {rows : List Rw} (e : Ex H H') (h : RowsAt K H r rows) : RowsAt K H' r rows := by
  obtain ⟨kvs, h1, h2⟩ := h
  exact ⟨kvs, e _ _ h1, h2.lx (.of e)⟩
theorem IxAt.ex {H H' : Hp} {ix : Addr} {cs : Cols} {o : Option (List En)} (e : Ex H H') (h : IxAt K H ix cs o) : IxAt K H' ix cs o := by
  cases o with
  | none => exact e _ _ h
  | some es =>
    obtain ⟨c, b, cr, v, h1, h2, h3⟩ := h
    exact ⟨c, b, cr, v, h1, e _ _ h2, Dp.ex e _ _ h3⟩
theorem TabF.ex {H H' : Hp} {t : Addr} {n : Str} {cs : Cols} {rows : List Rw} {o : Option (List En)} {dx sh r ix : Addr} (e : Ex H H') (h : TabF K H t n cs rows o dx sh r ix) : TabF K H' t n cs rows o dx sh r ix :=
  ⟨e _ _ h.ins, h.ne, Dp.ex e _ _ h.shp, h.row.ex e, h.idx.ex e⟩
theorem TabAt.ex {H H' : Hp} {t : Addr} {n : Str} {cs : Cols} {rows : List Rw} {o : Option (List En)} (e : Ex H H') (h : TabAt K H t n cs rows o) : TabAt K H' t n cs rows o := by
  obtain ⟨dx, sh, r, ix, h⟩ := h
  exact ⟨dx, sh, r, ix, h.ex e⟩
/-- Table(shape, rows, indexes) -/
def spTab (C : Addr) : Sp := fun vs H Q _ => ∃ p dx a b c, vs = [.ref p, a, b, c] ∧ H p = some (.ins C dx []) ∧ ∀ H', H' p = some (.ins C dx [("shape", a), ("rows", b), ("indexes", c)]) → (∀ x o, H x = some o → x ≠ p → H' x = some o) → Q .non H'
theorem sc_Table_init : FnScope ["self", "shape", "rows", "indexes"] ["self", "shape", "rows", "indexes"] (defScope s_Table_init) := ⟨rfl, rfl, rfl, by decide +kernel, rfl, by decide +kernel, by decide +kernel⟩
theorem ok_Table_init (T : Tx K mg) : Md P w K mg base CX0 1 "Table" "__init__" ["self", "shape", "rows", "indexes"] (spTab (CT K)) := by
  refine md0 (f_Table_init T) sc_Table_init (fun _ _ _ _ _ _ us hl => match us, hl with | [_, _, _, _], _ => rfl) ?len (fun f cdv A outer s H vs Q E hr h => ⟨_, (pss_cons (ps_fld (pv 0) (pv 1) rfl)
      (pss_cons (ps_fld (pv 0) (pv 2) rfl)
      (pss_one (ps_fld (pv 0) (pv 3) rfl)))), ?_⟩)
  case len => rintro vs H Q E ⟨p, dx, a, b, c, rfl, _⟩; rfl
  obtain ⟨p, dx, a, b, c, rfl, hp, q⟩ := h
  walk_at "rd"
  refine q_sfld hp (c_Table T) (no_Table_shape T) (by show 0 < 1000; decide) ?_
  refine q_sfld upd_same (c_Table T) (no_Table_rows T) (by show 1 < 1000; decide) ?_
  refine q_sfld upd_same (c_Table T) (no_Table_indexes T) (by
    show (putF "rows" b ([("shape", a)] : List (Str × V))).length < 1000
    rw [pf_past (by decide +kernel)]
    show 2 < 1000
    decide) ?_
  rw [tf_new]
  refine q _ upd_same fun x o hx ne => ?_
  rw [upd_ne ne, upd_ne ne, upd_ne ne]
  exact hx
/-- a new instance, made of three things -/
theorem mk_tab {H : Hp} {sh r ix : V} {Q : VK} (q : ∀ t dx H', Ex H H' → H t = none → H' t = some (.ins (CT K) dx [("shape", sh), ("rows", r), ("indexes", ix)]) → Q (.ref t) H') :
    ∀ x dx, H x = none → H dx = none → dx ≠ x → spTab (CT K) [.ref x, sh, r, ix] (upd (upd H dx (.own x)) x (.ins (CT K) dx [])) (fun v H2 => v = .non ∧ Q (.ref x) H2) E0 := by
  intro x dx hx hdx ne
  refine ⟨x, dx, sh, r, ix, rfl, upd_same, fun H' h1 h2 => ⟨rfl, q x dx H' (fun b o hb => ?_) hx h1⟩⟩
  refine h2 b o ?_ (ne_of_none hb hx)
  rw [upd_ne (ne_of_none hb hx), upd_ne (ne_of_none hb hdx)]
  exact hb
def dNum : PyData → Bool
  | .int i => decide (1 ≤ i) && decide (i ≤ 1000000000)
  | _ => false
theorem sc_is_number : FnScope ["thing"] ["thing"] (defScope s_is_number) := ⟨rfl, rfl, rfl, by decide +kernel, rfl, by decide +kernel, by decide +kernel⟩
theorem ok_is_number (T : Tx K mg) : Gd P w K mg base CX0 2 "is_number" ["thing"] (spD K dNum) := by
  refine gd0 (f_is_number T) sc_is_number (fun _ _ _ _ _ _ us hl => match us, hl with | [_], _ => rfl) ?len (fun f cdv A outer s H vs Q E hr h => ⟨_, (pss_one (ps_ret (pe_and (pe_g (ok_is_whole T) hr (by decide) p0 (pa_cons (pv 0) pa_nil)) (pe_one (pe_chain op_le op_le pe_int (pv 0) (pe_gi (i_MOST_NUMBER_tables T))))))), ?_⟩)
  case len => rintro vs H Q E ⟨x, d, rfl, _⟩; rfl
  obtain ⟨x, d, rfl, hd, hs, q⟩ := h
  walk_at "rd"
  refine ⟨_, _, rfl, hd, hs, ?_⟩
  cases hd with
  | int i =>
    simp only [dWhole]
    walk_at "rd"
    simp only [dNum] at q
    by_cases h : 1 ≤ i
    · rw [if_pos h]
      simp only [h, decide_true, Bool.true_and] at q
      exact q
    · rw [if_neg h]
      simp only [h, decide_false, Bool.false_and] at q
      exact q
  | _ => simp only [dWhole]; walk_at "rd"; exact q
theorem sc_new_table : FnScope ["shape"] ["shape"] (defScope s_new_table) := ⟨rfl, rfl, rfl, by decide +kernel, rfl, by decide +kernel, by decide +kernel⟩
theorem ok_new_table (T : Tx K mg) : Gd P w K mg base CX0 3 "new_table" ["shape"] (fun vs H Q _ => ∃ sh n cs, vs = [.ref sh] ∧ Dp K H (.ref sh) (shD n cs) ∧ ∀ t H', Ex H H' → H t = none → TabAt K H' t n cs [] none → Q (.ref t) H') := by
  refine gd0 (f_new_table T) sc_new_table (fun _ _ _ _ _ _ us hl => match us, hl with | [_], _ => rfl) ?len (fun f cdv A outer s H vs Q E hr h => ⟨_, (pss_one (ps_ret (pe_mk (mk_Table T) (ok_Table_init T) hr (by decide) (g_Table T) (pa_cons (pv 0) (pa_cons pe_dnewK (pa_cons pe_dnewK pa_nil)))))), ?_⟩)
  case len => rintro vs H Q E ⟨sh, n, cs, rfl, _⟩; rfl
  obtain ⟨sh, n, cs, rfl, hs, q⟩ := h
  walk_at "rd"
  intro r hr ix hix
  walk_at "rd"
  have ex1 : Ex H (upd H r (.dK [])) := Ex.nw hr
  have ex2 := ex1.tr (Ex.nw (o := .dK []) hix)
  refine mk_tab fun t dx H' ex3 ht hI => ?_
  have ex := ex2.tr ex3
  refine q t H' ex (ex2.fr ht) ⟨dx, sh, r, ix, hI, ne_of_none upd_same hix, Dp.ex ex _ _ hs, ⟨[], ex3 _ _ ?_, .nil⟩, ex3 _ _ upd_same⟩
  rw [upd_ne (ne_of_none upd_same hix)]
  exact upd_same
end


section
variable {K : PySem.W.Frag} {tb : TS} {D : Ends} {σ : L2.St} {H : Hp} {te : TE} {j : Nat}
theorem upd2 {H : Hp} {a : Addr} {o u : HO} : upd (upd H a o) a u = upd H a u := by
  funext b
  by_cases e : b = a
  · rw [e, upd_same, upd_same]
  · rw [upd_ne e, upd_ne e, upd_ne e]
/-- for k in d, d an empty dict -/
theorem f_keys0 {d : Addr} (hd0 : H d = some (.dK [])) (hv : ∀ (od : Obj) (R : VK), R (.ref d) (upd H d (.frz od (.dK []))) → te σ (upd H d (.frz od (.dK []))) R) (q : D.nx σ H) : tLock (tFor (iKeys te) (gName j) tb) D σ H :=
  f_keys hd0 hv (fun od r σ' H' => r = [] ∧ σ' = σ ∧ H' = upd H d (.frz od (.dK []))) (fun od => ⟨rfl, rfl, rfl⟩) (by rintro od r σ' H' ⟨_, _, rfl⟩; exact upd_same) (by rintro od k v r σ' H' ⟨e, _⟩; cases e)
    (by rintro od σ' H' ⟨_, rfl, rfl⟩; rw [upd2, upd_self hd0]; exact q)
def pv1 (d : Addr) (kvs : List (Key × V)) (A : Obj → L2.St → Hp → Prop) (σ : L2.St) (H : Hp) (od : Obj) : List (Key × V) → L2.St → Hp → Prop
  | [] => A od
  | x :: r => fun σ' H' => x :: r = kvs ∧ σ' = σ ∧ H' = upd H d (.frz od (.dK kvs))
def nx1 (d : Addr) (kvs : List (Key × V)) (D : Ends) (od : Obj) : L2.St → Hp → Prop := fun σ' H' => H' d = some (.frz od (.dK kvs)) ∧ D.nx σ' (upd H' d (.dK kvs))
/-- for k in d, d a dict of one entry -/
theorem f_keys1 {d : Addr} {k : Key} {v : V} (hd0 : H d = some (.dK [(k, v)])) (hv : ∀ (od : Obj) (R : VK), R (.ref d) (upd H d (.frz od (.dK [(k, v)]))) → te σ (upd H d (.frz od (.dK [(k, v)]))) R)
    (hs : ∀ od, tb ⟨nx1 d [(k, v)] D od, fun u H' => H' d = some (.frz od (.dK [(k, v)])) ∧ D.rt u (upd H' d (.dK [(k, v)])), nx1 d [(k, v)] D od, nx1 d [(k, v)] D od⟩ (σ.set j (some (kV k))) (upd H d (.frz od (.dK [(k, v)])))) : tLock (tFor (iKeys te) (gName j) tb) D σ H := by
  refine f_keys hd0 hv (pv1 d [(k, v)] (nx1 d [(k, v)] D) σ H) (fun od => ⟨rfl, rfl, rfl⟩) ?_ ?_ ?_
  · intro od r σ' H' h
    cases r with
    | nil => exact h.1
    | cons x r =>
      obtain ⟨_, _, rfl⟩ := h
      exact upd_same
  · rintro od k' v' r σ' H' ⟨e, rfl, rfl⟩
    cases e
    exact hs od
  · intro od σ' H' h
    exact h.2
/-- the lock's dict as it was, another one written -/
theorem lock_mu {H H0 H3 : Hp} {f d : Addr} {kvs : List (Key × V)} {od : Obj} {o2 : HO} (e0 : Ex H H0) (hf : H f = none) (hd : H0 d = some (.dK kvs)) (e : Ex (upd H0 d (.frz od (.dK kvs))) H3) : Ex H (upd (upd H3 f o2) d (.dK kvs)) := by
  intro b o hb
  have hne : b ≠ f := by rintro rfl; rw [hf] at hb; cases hb
  by_cases z : b = d
  · subst z
    rw [upd_same, ← hd]
    exact e0 _ _ hb
  · rw [upd_ne z, upd_ne hne]
    exact e b o (by rw [upd_ne z]; exact e0 b o hb)
end
section
variable {P : Program} {w : World} {K : PySem.W.Frag} {mg : Str → Option Value} {base : Heap}
/-! ### a table, its indexes' dict aside -/
structure TabR (K : PySem.W.Frag) (H : Hp) (t : Addr) (n : Str) (cs : Cols) (rows : List Rw) (dx sh r ix : Addr) : Prop where
  ins : H t = some (.ins (CT K) dx (tabF sh r ix))
  shp : Dp K H (.ref sh) (shD n cs)
  row : RowsAt K H r rows
theorem TabR.ex {H H' : Hp} {t : Addr} {n : Str} {cs : Cols} {rows : List Rw} {dx sh r ix : Addr} (e : Ex H H') (h : TabR K H t n cs rows dx sh r ix) : TabR K H' t n cs rows dx sh r ix := ⟨e _ _ h.ins, Dp.ex e _ _ h.shp, h.row.ex e⟩
theorem TabF.r {H : Hp} {t : Addr} {n : Str} {cs : Cols} {rows : List Rw} {o : Option (List En)} {dx sh r ix : Addr} (h : TabF K H t n cs rows o dx sh r ix) : TabR K H t n cs rows dx sh r ix := ⟨h.ins, h.shp, h.row⟩
theorem ixat_d {H : Hp} {ix : Addr} {cs : Cols} {o : Option (List En)} (h : IxAt K H ix cs o) : ∃ kvs, H ix = some (.dK kvs) := by
  cases o with
  | none => exact ⟨_, h⟩
  | some es =>
    obtain ⟨c, b, cr, v, _, h2, _⟩ := h
    exact ⟨_, h2⟩
theorem TabF.lock {H : Hp} {t : Addr} {n : Str} {cs : Cols} {rows : List Rw} {o : Option (List En)} {dx sh r ix : Addr} {u : HO} (h : TabF K H t n cs rows o dx sh r ix) : TabR K (upd H ix u) t n cs rows dx sh r ix := by
  obtain ⟨kvs0, hk⟩ := ixat_d h.idx
  have ne : t ≠ ix := fun e => by
    have hi := h.ins
    rw [e, hk] at hi
    cases hi
  have lx : Lx H (upd H ix u) := lk_lx hk
  obtain ⟨kvs, h1, h2⟩ := h.row
  exact ⟨by rw [upd_ne ne]; exact h.ins, Dp.lx lx _ _ h.shp, kvs, by rw [upd_ne h.ne]; exact h1, h2.lx lx⟩
/-- rows by number, ascending -/
def Asc (rows : List Rw) : Prop := (rows.map (·.1)).Pairwise (· < ·)
theorem Asc.nd {rows : List Rw} (h : Asc rows) : (rows.map rwK).Nodup := by
  have h1 : rows.Pairwise (fun x y => x.1 < y.1) := List.pairwise_map.mp h
  exact List.pairwise_map.mpr (h1.imp fun {x y} hlt e => by
    have e2 : x.1 = y.1 := Sum.inl.inj e
    omega)
def hdC (r : List Cv) : Cv := r.headD .non
def ent (x : Rw) : En := (hdC x.2, x.1)
theorem keys_ints {H : Hp} {kvs : List (Key × V)} {rows : List Rw} (h : KD K H rwK rwD kvs rows) : (kvs.map fun kv => kV kv.1) = (rows.map (·.1)).map V.int := by
  have e := congrArg (List.map kV) h.keys
  rw [List.map_map, List.map_map] at e
  rw [List.map_map]
  exact e
theorem sc_numbers_of : FnScope ["table"] ["table"] (defScope s_numbers_of) := ⟨rfl, rfl, rfl, by decide +kernel, rfl, by decide +kernel, by decide +kernel⟩
theorem ok_numbers_of (T : Tx K mg) : Gd P w K mg base CX0 1 "numbers_of" ["table"] (fun vs H Q _ => ∃ t n cs rows dx sh r ix, vs = [.ref t] ∧ TabR K H t n cs rows dx sh r ix ∧ Asc rows ∧ ∀ p H', Ex H H' → H p = none → H' p = some (.lst ((rows.map (·.1)).map V.int)) → Q (.ref p) H') := by
  refine gd0 (f_numbers_of T) sc_numbers_of (fun _ _ _ _ _ _ us hl => match us, hl with | [_], _ => rfl) ?len (fun f cdv A outer s H vs Q E hr h => ⟨_, (pss_one (ps_ret (pe_callB cr_sortedI (by rfl) (n_sorted T) b_sorted (pa_cons (pe_callTy (c_listD rfl) (by rfl) (n_list T) b_list (pa_cons (pe_fld (pv 0) rfl) pa_nil)) pa_nil)))), ?_⟩)
  case len => rintro vs H Q E ⟨t, n, cs, rows, dx, sh, r, ix, rfl, _⟩; rfl
  obtain ⟨t, n, cs, rows, dx, sh, r, ix, rfl, hT, ha, q⟩ := h
  obtain ⟨kvs, h1, h2⟩ := hT.row
  walk_at "rd"
  refine q_fld hT.ins (c_Table T) (no_Table_rows T) (tf_rows ..) ?_
  refine q_listD (.inl h1) fun p hp => ?_
  rw [keys_ints h2]
  refine ⟨p, rows.map (·.1), rfl, SqL.of upd_same, fun ns' p2 pm asc hp2 => ?_⟩
  have e := PySem.W.ksm_same pm asc (ha.imp fun h => Int.le_of_lt h)
  subst e
  have ex1 : Ex H (upd H p (.lst ((rows.map (·.1)).map V.int))) := Ex.nw hp
  exact q p2 _ (ex1.tr (Ex.nw hp2)) (ex1.fr hp2) upd_same
theorem sc_entries_for : FnScope ["table", "column", "at", "number"] ["table", "column"] (defScope s_entries_for) := ⟨rfl, rfl, rfl, by decide +kernel, rfl, by decide +kernel, by decide +kernel⟩
theorem ok_entries_for (T : Tx K mg) : Gd P w K mg base CX0 2 "entries_for" ["table", "column"] (fun vs H Q _ => ∃ t n cs rows dx sh r ix c b cr, vs = [.ref t, .str c] ∧ cs = (c, b) :: cr ∧ TabR K H t n cs rows dx sh r ix ∧ Asc rows ∧ (∀ x, x ∈ rows → x.2 ≠ []) ∧ rows.length ≤ 8 ∧
    ∀ p ys H', Ex H H' → H p = none → H' p = some (.lst ys) → DpAll K H' ys ((rows.map ent).map enD) → Q (.ref p) H') := by
  refine gd0 (f_entries_for T) sc_entries_for (fun _ _ _ _ _ _ us hl => match us, hl with | [_, _], _ => rfl) ?len (fun f cdv A outer s H vs Q E hr h => ⟨_, (pss_cons (ps_set (i := 2) sc_entries_for.nd rfl (Or.inr rfl) (pe_g (ok_column_place T) hr (by decide) p0 (pa_cons (pe_fld (pv 0) rfl) (pa_cons (pv 1) pa_nil))))
      (pss_one (ps_ret (pe_lc (own := [("number", 3)]) (tt := tYes) rfl sc_entries_for.nd (pi_list (pe_g (ok_numbers_of T) hr (by decide) p0 (pa_cons (pv 0) pa_nil))) (blkOk_by (own := [("number", 3)]) (N := ["table", "column", "at", "number"]) (sc := defScope s_entries_for) (by decide +kernel)) (fun _ _ _ _ _ => pg_name (i := 3) sc_entries_for.nd rfl (Or.inl rfl)) (fun _ _ _ _ _ => pts_nil) (fun _ _ _ _ _ => (pe_tup (pa_cons (pe_ix (ix_tupK K) (pe_dget (hu_of hr) (pe_fldK K (pv 0) rfl) (pv 3) (fun _ _ => rfl)) (pv 2) (fun _ _ => rfl)) (pa_cons (pv 3) pa_nil)))))))), ?_⟩)
  case len => rintro vs H Q E ⟨t, n, cs, rows, dx, sh, r, ix, c, b, cr, rfl, _⟩; rfl
  obtain ⟨t, n, cs, rows, dx, sh, r, ix, c, b, cr, rfl, hcs, hT, ha, hne, h8, q⟩ := h
  walk_at "rd"
  refine q_fld hT.ins (c_Table T) (no_Table_shape T) (tf_shape ..) ?_
  refine ⟨sh, n, cs, c, rfl, hT.shp, fun H1 ex1 => ?_⟩
  have e0 : colIx c 0 cs = some 0 := by rw [hcs]; simp [colIx]
  rw [e0]
  simp only [plV]
  walk_at "rd"
  have hT1 := hT.ex ex1
  refine ⟨t, n, cs, rows, dx, sh, r, ix, rfl, hT1, ha, fun p H2 ex2 hp e2 => ?_⟩
  refine q_lcL (SqL.of e2) (fun D rr H' => Ex H2 H' ∧ H2 D = none ∧ ∃ acc l pre, H' D = some (.lst acc) ∧ DpAll K H' acc ((List.map ent pre).map enD) ∧ rr = (l.map (·.1)).map V.int ∧ rows = pre ++ l)
    (fun D hD => ⟨Ex.nw hD, hD, [], rows, [], upd_same, .nil, rfl, rfl⟩) (fun D rr H' ⟨e, _⟩ => e.l (SqL.of e2)) ?_ ?_
  · rintro D x rr H' ⟨ex, hD, acc, l, pre, e3, e4, e5, e6⟩
    cases l with
    | nil => cases e5
    | cons y l =>
      cases e5
      walk_at "rd"
      have hT3 := hT1.ex (ex2.tr ex)
      obtain ⟨kvs, k1, k2⟩ := hT3.row
      have hy : y ∈ rows := by rw [e6]; simp
      obtain ⟨v, hv, dv⟩ := k2.some_ ha.nd hy
      obtain ⟨a, rfl, sa⟩ := dp_row dv
      refine q_fld hT3.ins (c_Table T) (no_Table_rows T) (tf_rows ..) ?_
      refine q_dget (.inl k1) (k := rwK y) rfl hv ?_
      cases hr : y.2 with
      | nil => exact absurd hr (hne y hy)
      | cons c0 cr0 =>
        rw [hr] at sa
        refine q_ixT sa at0 ?_
        refine ⟨by show 2 ≤ sizeLine; decide, fun z hz => ?_⟩
        have exz : Ex H' (upd H' z (.tup [c0.v, .int y.1])) := Ex.nw hz
        have hen : ent y = (c0, y.1) := by unfold ent hdC; rw [hr]; rfl
        refine q_el (exz _ _ e3) (Nat.lt_of_le_of_lt (?_ : acc.length ≤ 8) (by decide)) ?_
        · rw [DpAll.length e4, List.length_map, List.length_map]
          rw [e6] at h8
          simp only [List.length_append] at h8
          omega
        · have exD : Ex H2 (upd (upd H' z (.tup [c0.v, .int y.1])) D (.lst (acc ++ [.ref z]))) := (ex.tr exz).mu hD
          have lx : Tt (upd H' z (.tup [c0.v, .int y.1])) (upd (upd H' z (.tup [c0.v, .int y.1])) D (.lst (acc ++ [.ref z]))) := Tt.up (exz _ _ e3) rfl
          have nl : ∀ l : List En, noLA (l.map enD) = true := fun l => by
            induction l with
            | nil => rfl
            | cons e l ih =>
              show (noL (enD e) && noLA (l.map enD)) = true
              rw [ih, Bool.and_true]
              cases e with | mk c i => cases c <;> rfl
          refine ⟨exD, hD, acc ++ [.ref z], l, pre ++ [y], upd_same, ?_, rfl, by rw [e6]; simp⟩
          rw [List.map_append, List.map_append]
          refine DpAll.app (DpAll.tt lx _ _ (nl _) (DpAll.ex exz _ _ e4)) (.cons ?_ .nil)
          rw [hen]
          exact en_dp (lx.t (SqT.of upd_same))
  · rintro D H' ⟨ex, hD, acc, l, pre, e3, e4, e5, e6⟩
    cases l with
    | cons y l => cases e5
    | nil =>
      have e7 : pre = rows := by rw [e6]; simp
      subst e7
      exact q D acc H' ((ex1.tr ex2).tr ex) (ex1.fr (ex2.fr hD)) e3 e4
end


section
variable {P : Program} {w : World} {K : PySem.W.Frag} {mg : Str → Option Value} {base : Heap}
/-- a table that can be changed: numbers ascending, no row empty -/
structure RowsOk (rows : List Rw) : Prop where
  asc : Asc rows
  full : ∀ x, x ∈ rows → x.2 ≠ []
theorem row_at {H : Hp} {r : Addr} {rows : List Rw} {m : Int} {row : List Cv} (h : RowsAt K H r rows) (g : RowsOk rows) (hm : (m, row) ∈ rows) : ∃ kvs a, H r = some (.dK kvs) ∧ valV kvs (.inl m) = some (.ref a) ∧ ∃ tl, row = hdC row :: tl ∧ SqT K H a ((hdC row).v :: tl.map Cv.v) := by
  obtain ⟨kvs, k1, k2⟩ := h
  obtain ⟨v, hv, dv⟩ := k2.some_ g.asc.nd hm
  obtain ⟨a, rfl, sa⟩ := dp_row dv
  have hne := g.full _ hm
  cases row with
  | nil => exact absurd rfl hne
  | cons c tl => exact ⟨kvs, a, k1, hv, tl, rfl, sa⟩
theorem sc_indexes_without : FnScope ["table", "number", "found", "column", "value"] ["table", "number"] (defScope s_indexes_without) := ⟨rfl, rfl, rfl, by decide +kernel, rfl, by decide +kernel, by decide +kernel⟩
theorem ok_indexes_without (T : Tx K mg) : Gd P w K mg base CX0 8 "indexes_without" ["table", "number"] (fun vs H Q _ => ∃ t n cs rows o dx sh r ix m row, vs = [.ref t, .int m] ∧ TabF K H t n cs rows o dx sh r ix ∧ RowsOk rows ∧ (m, row) ∈ rows ∧ (∀ es, o = some es → es.length ≤ 7) ∧
    ∀ p H', Ex H H' → H p = none → IxAt K H' p cs (o.map fun es => remE es (hdC row, m)) → Q (.ref p) H') := by
  refine gd0 (f_indexes_without T) sc_indexes_without (fun _ _ _ _ _ _ us hl => match us, hl with | [_, _], _ => rfl) ?len (fun f cdv A outer s H vs Q E hr h => ⟨_, (pss_cons (ps_set (i := 2) sc_indexes_without.nd rfl (Or.inl rfl) pe_dnewK)
      (pss_cons (ps_lock (ps_for PassesOwn.never rfl (pi_keys (pe_fld (pv 0) rfl)) (pg_name (i := 3) sc_indexes_without.nd rfl (Or.inl rfl)) (pss_cons (ps_set (i := 4) sc_indexes_without.nd rfl (Or.inl rfl) (pe_ix ix_tup (pe_dget (hu_of hr) (pe_fld (pv 0) rfl) (pv 1) (fun _ _ => rfl)) (pe_g (ok_column_place T) hr (by decide) p0 (pa_cons (pe_fld (pv 0) rfl) (pa_cons (pv 3) pa_nil))) (fun _ _ => rfl)))
      (pss_one (ps_dput (hu_of hr) (pv 2) (pv 3) (pe_g (ok_without_entry T) hr (by decide) p0 (pa_cons (pe_dget (hu_of hr) (pe_fld (pv 0) rfl) (pv 3) (fun _ _ => rfl)) (pa_cons (pv 4) (pa_cons (pv 1) pa_nil)))) rfl)))))
      (pss_one (ps_ret (pv 2))))), ?_⟩)
  case len => rintro vs H Q E ⟨t, n, cs, rows, o, dx, sh, r, ix, m, row, rfl, _⟩; rfl
  obtain ⟨t, n, cs, rows, o, dx, sh, r, ix, m, row, rfl, hT, hk, hm, h7, q⟩ := h
  walk_at "rd"
  intro f hf
  have exf : Ex H (upd H f (.dK [])) := Ex.nw hf
  have hT1 := hT.ex exf
  cases o with
  | none =>
    refine f_keys0 (d := ix) hT1.idx (fun od R y => by
      walk_at "rd"
      exact q_fld hT1.lock.ins (c_Table T) (no_Table_indexes T) (tf_indexes ..) y) ?_
    walk_at "rd"
    exact q f _ exf hf upd_same
  | some es =>
    obtain ⟨c, b, cr, v, hcs, hix, dv⟩ := hT1.idx
    have hl7 := h7 es rfl
    have nfx : f ≠ ix := fun e => by
      have h0 := hT.idx
      obtain ⟨_, _, _, _, _, h1, _⟩ := h0
      rw [← e, hf] at h1
      cases h1
    refine f_keys1 (d := ix) hix (fun od R y => by
      walk_at "rd"
      exact q_fld hT1.lock.ins (c_Table T) (no_Table_indexes T) (tf_indexes ..) y) fun od => ?_
    have hT2 : TabR K (upd (upd H f (.dK [])) ix (.frz od (.dK [(.inr c, v)]))) t n cs rows dx sh r ix := hT1.lock
    have hx2 : (upd (upd H f (.dK [])) ix (.frz od (.dK [(.inr c, v)]))) ix = some (.frz od (.dK [(.inr c, v)])) := upd_same
    have hf2 : (upd (upd H f (.dK [])) ix (.frz od (.dK [(.inr c, v)]))) f = some (.dK []) := by rw [upd_ne nfx]; exact upd_same
    have dv2 : Dp K (upd (upd H f (.dK [])) ix (.frz od (.dK [(.inr c, v)]))) v (leafD es) := Dp.lx (lk_lx hix) _ _ dv
    have un := @lock_mu H (upd H f (.dK [])) (f := f) (d := ix) (kvs := [(.inr c, v)]) (od := od) (e0 := exf) (hf := hf) (hd := hix)
    revert hT2 hx2 hf2 dv2 un
    generalize upd (upd H f (.dK [])) ix (.frz od (.dK [(.inr c, v)])) = H2
    intro hT2 hx2 hf2 dv2 un
    obtain ⟨kvs, a, k1, k2, tl, hrow, sa⟩ := row_at hT2.row hk hm
    walk_at "rd"
    refine q_fld hT2.ins (c_Table T) (no_Table_rows T) (tf_rows ..) ?_
    refine q_dget (.inl k1) (k := .inl m) rfl k2 ?_
    refine q_fld hT2.ins (c_Table T) (no_Table_shape T) (tf_shape ..) ?_
    refine ⟨sh, n, cs, c, rfl, hT2.shp, fun H3 ex3 => ?_⟩
    have e0 : colIx c 0 cs = some 0 := by rw [hcs]; simp [colIx]
    rw [e0]
    refine q_ixT (ex3.t sa) at0 ?_
    walk_at "rd"
    refine q_fld (ex3 _ _ hT2.ins) (c_Table T) (no_Table_indexes T) (tf_indexes ..) ?_
    refine q_dget (.inr ⟨od, ex3 _ _ hx2⟩) (k := .inr c) rfl (valV_pos rfl) ?_
    refine ⟨_, es, (hdC row, m), rfl, Dp.ex ex3 _ _ dv2, hl7, fun t2 H4 ex4 d4 => ?_⟩
    walk_at "rd"
    have ex24 := ex3.tr ex4
    refine q_dput (ex24 _ _ hf2) (k := .inr c) rfl (by show 0 < sizeLine; decide) ?_
    refine ⟨?_, ?_⟩
    · rw [upd_ne (Ne.symm nfx)]
      exact ex24 _ _ hx2
    · walk_at "rd"
      refine q f _ (un _ _ ex24) hf ⟨c, b, cr, .ref t2, hcs, ?_, ?_⟩
      · rw [upd_ne nfx, upd_same]
        rfl
      · have l1 : Lx H4 (upd H4 f (.dK (putK [] (.inr c) (.ref t2)))) := Lx.up (ex24 _ _ hf2) rfl
        have l2 : Lx (upd H4 f (.dK (putK [] (.inr c) (.ref t2)))) (upd (upd H4 f (.dK (putK [] (.inr c) (.ref t2)))) ix (.dK [(.inr c, v)])) := Lx.up (o := .frz od (.dK [(.inr c, v)])) (by rw [upd_ne (Ne.symm nfx)]; exact ex24 _ _ hx2) rfl
        exact Dp.lx (l1.tr l2) _ _ d4
end


section
variable {P : Program} {w : World} {K : PySem.W.Frag} {mg : Str → Option Value} {base : Heap}
/-- an instance with the shape; of the rest nothing -/
def TabW (K : PySem.W.Frag) (H : Hp) (t : Addr) (n : Str) (cs : Cols) : Prop := ∃ dx sh rr ii, H t = some (.ins (CT K) dx [("shape", .ref sh), ("rows", rr), ("indexes", ii)]) ∧ Dp K H (.ref sh) (shD n cs)
theorem TabW.ex {H H' : Hp} {t : Addr} {n : Str} {cs : Cols} (e : Ex H H') (h : TabW K H t n cs) : TabW K H' t n cs := by
  obtain ⟨dx, sh, rr, ii, h1, h2⟩ := h
  exact ⟨dx, sh, rr, ii, e _ _ h1, Dp.ex e _ _ h2⟩
theorem sc_without_row : FnScope ["table", "number", "rows"] ["table", "number"] (defScope s_without_row) := ⟨rfl, rfl, rfl, by decide +kernel, rfl, by decide +kernel, by decide +kernel⟩
theorem ok_without_row (T : Tx K mg) : Gd P w K mg base CX0 9 "without_row" ["table", "number"] (fun vs H Q _ => ∃ t n cs rows o dx sh r ix m row, vs = [.ref t, .int m] ∧ TabF K H t n cs rows o dx sh r ix ∧ RowsOk rows ∧ (m, row) ∈ rows ∧ (∀ es, o = some es → es.length ≤ 7) ∧
    ∀ t' H', Ex H H' → H t' = none → TabW K H' t' n cs → Q (.ref t') H') := by
  refine gd0 (f_without_row T) sc_without_row (fun _ _ _ _ _ _ us hl => match us, hl with | [_, _], _ => rfl) ?len (fun f cdv A outer s H vs Q E hr h => ⟨_, (pss_cons (ps_set (i := 2) sc_without_row.nd rfl (Or.inl rfl) (pe_callTy c_dictD (by rfl) (n_dict T) b_dict (pa_cons (pe_fld (pv 0) rfl) pa_nil)))
      (pss_cons (ps_expr (pe_dpop1 (pv 2) (pv 1) (by first | exact ⟨rfl, rfl, rfl⟩ | constructor <;> rfl)))
      (pss_one (ps_ret (pe_mk (mk_Table T) (ok_Table_init T) hr (by decide) (g_Table T) (pa_cons (pe_fld (pv 0) rfl) (pa_cons (pv 2) (pa_cons (pe_g (ok_indexes_without T) hr (by decide) p0 (pa_cons (pv 0) (pa_cons (pv 1) pa_nil))) pa_nil)))))))), ?_⟩)
  case len => rintro vs H Q E ⟨t, n, cs, rows, o, dx, sh, r, ix, m, row, rfl, _⟩; rfl
  obtain ⟨t, n, cs, rows, o, dx, sh, r, ix, m, row, rfl, hT, hk, hm, h7, q⟩ := h
  obtain ⟨kvs, a, k1, k2, tl, hrow, sa⟩ := row_at hT.row hk hm
  walk_at "rd"
  refine q_fld hT.ins (c_Table T) (no_Table_rows T) (tf_rows ..) ?_
  refine q_dictD (.inl k1) fun p hp => ?_
  walk_at "rd"
  refine ⟨p, rfl, .inl ⟨kvs, .inl upd_same⟩, kvs, .inl m, _, upd_same, rfl, k2, ?_⟩
  walk_at "rd"
  have ex1 : Ex H (upd (upd H p (.dK kvs)) p (.dK (dropK kvs (.inl m)))) := (Ex.nw hp).mu hp
  have hT1 := hT.ex ex1
  refine q_fld hT1.ins (c_Table T) (no_Table_shape T) (tf_shape ..) ?_
  refine ⟨t, n, cs, rows, o, dx, sh, r, ix, m, row, rfl, hT1, hk, hm, h7, fun ip H2 ex2 hip _ => ?_⟩
  walk_at "rd"
  have ex02 := ex1.tr ex2
  refine mk_tab fun t' dx' H3 ex3 ht hI => ?_
  exact q t' H3 (ex02.tr ex3) (ex02.fr ht) ⟨dx', sh, _, _, hI, Dp.ex (ex02.tr ex3) _ _ hT.shp⟩
theorem sc_with_row : FnScope ["table", "number", "row", "indexes", "column", "value", "rows"] ["table", "number", "row"] (defScope s_with_row) := ⟨rfl, rfl, rfl, by decide +kernel, rfl, by decide +kernel, by decide +kernel⟩
theorem ok_with_row (T : Tx K mg) : Gd P w K mg base CX0 9 "with_row" ["table", "number", "row"] (fun vs H Q _ => ∃ t n cs rows o dx sh r ix m ra row, vs = [.ref t, .int m, .ref ra] ∧ TabF K H t n cs rows o dx sh r ix ∧ RowsOk rows ∧ Dp K H (.ref ra) (rowD row) ∧ row ≠ [] ∧ rows.length ≤ 7 ∧ (∀ es, o = some es → es.length ≤ 7) ∧
    (((∀ x, x ∈ rows → x.1 ≠ m) ∧ ∀ t' H', Ex H H' → H t' = none → TabAt K H' t' n cs (rows ++ [(m, row)]) (o.map fun es => insE es (hdC row, m)) → Q (.ref t') H') ∨
      ((∃ row0, (m, row0) ∈ rows) ∧ ∀ t' H', Ex H H' → H t' = none → TabW K H' t' n cs → Q (.ref t') H'))) := by
  refine gd0 (f_with_row T) sc_with_row (fun _ _ _ _ _ _ us hl => match us, hl with | [_, _, _], _ => rfl) ?len (fun f cdv A outer s H vs Q E hr h => ⟨_, (pss_cons (ps_set (i := 3) sc_with_row.nd rfl (Or.inl rfl) (pe_callTy c_dictD (by rfl) (n_dict T) b_dict (pa_cons (pe_fld (pv 0) rfl) pa_nil)))
      (pss_cons (ps_if (pt_cmp (pc_din (hu_of hr) (pv 1) (pe_fld (pv 0) rfl))) (pss_one (ps_set (i := 3) sc_with_row.nd rfl (Or.inl rfl) (pe_g (ok_indexes_without T) hr (by decide) p0 (pa_cons (pv 0) (pa_cons (pv 1) pa_nil))))) pss_nil)
      (pss_cons (ps_lock (ps_for PassesOwn.never rfl (pi_keys (pe_fld (pv 0) rfl)) (pg_name (i := 4) sc_with_row.nd rfl (Or.inl rfl)) (pss_cons (ps_set (i := 5) sc_with_row.nd rfl (Or.inl rfl) (pe_ix ix_tup (pv 2) (pe_g (ok_column_place T) hr (by decide) p0 (pa_cons (pe_fld (pv 0) rfl) (pa_cons (pv 4) pa_nil))) (fun _ _ => rfl)))
      (pss_one (ps_dput (hu_of hr) (pv 3) (pv 4) (pe_g (ok_with_entry T) hr (by decide) p0 (pa_cons (pe_dget (hu_of hr) (pv 3) (pv 4) (fun _ _ => rfl)) (pa_cons (pv 5) (pa_cons (pv 1) pa_nil)))) rfl)))))
      (pss_cons (ps_set (i := 6) sc_with_row.nd rfl (Or.inl rfl) (pe_callTy c_dictD (by rfl) (n_dict T) b_dict (pa_cons (pe_fld (pv 0) rfl) pa_nil)))
      (pss_cons (ps_dput (hu_of hr) (pv 6) (pv 1) (pv 2) rfl)
      (pss_one (ps_ret (pe_mk (mk_Table T) (ok_Table_init T) hr (by decide) (g_Table T) (pa_cons (pe_fld (pv 0) rfl) (pa_cons (pv 6) (pa_cons (pv 3) pa_nil))))))))))), ?_⟩)
  case len => rintro vs H Q E ⟨t, n, cs, rows, o, dx, sh, r, ix, m, ra, row, rfl, _⟩; rfl
  obtain ⟨t, n, cs, rows, o, dx, sh, r, ix, m, ra, row, rfl, hT, hk, dr, hrow, hr7, h7, q⟩ := h
  obtain ⟨kvs, k1, k2⟩ := hT.row
  obtain ⟨kvs0, hk0⟩ := ixat_d hT.idx
  have hhd : ∃ tl, row = hdC row :: tl := by
    cases row with
    | nil => exact absurd rfl hrow
    | cons c tl => exact ⟨tl, rfl⟩
  refine q_seq fun nx1 go1 => ?_
  walk_at "rd"
  refine q_fld hT.ins (c_Table T) (no_Table_indexes T) (tf_indexes ..) ?_
  refine q_dictD (.inl hk0) fun p hp => ?_
  walk_at "rd"
  refine go1 _ _ (q_seq fun nx2 go2 => ?_)
  have rest : ∀ p2 H2 oo, Ex H H2 → H p2 = none → IxAt K H2 p2 cs oo → o.isSome = oo.isSome → (∀ es, oo = some es → es.length ≤ 7) →
      (∀ t' dx' r2 H', Ex H H' → H t' = none → H' t' = some (.ins (CT K) dx' (tabF sh r2 p2)) → r2 ≠ p2 → H' r2 = some (.dK (putK kvs (.inl m) (.ref ra))) → IxAt K H' p2 cs (oo.map fun es => insE es (hdC row, m)) → Q (.ref t') H') →
      nx2 [some (.ref t), some (.int m), some (.ref ra), some (.ref p2), none, none, none] H2 := by
    intro p2 H2 oo ex2 hp2 ix2 hoo h72 q2
    have hT2 := hT.ex ex2
    refine go2 _ _ (q_seq fun nx3 go3 => ?_)
    have last : ∀ H3 a b, Ex H H3 → IxAt K H3 p2 cs (oo.map fun es => insE es (hdC row, m)) → nx3 [some (.ref t), some (.int m), some (.ref ra), some (.ref p2), a, b, none] H3 := by
      intro H3 a b ex3 ix3
      refine go3 _ _ ?_
      have hT3 := hT.ex ex3
      walk_at "rd"
      refine q_fld hT3.ins (c_Table T) (no_Table_rows T) (tf_rows ..) ?_
      refine q_dictD (.inl (ex3 _ _ k1)) fun r2 hr2 => ?_
      walk_at "rd"
      refine q_dput upd_same (k := .inl m) rfl (Nat.lt_of_le_of_lt (?_ : kvs.length ≤ 7) (by decide)) ?_
      · rw [k2.length]
        exact hr7
      rw [upd2]
      have ex4 : Ex H3 (upd H3 r2 (.dK (putK kvs (.inl m) (.ref ra)))) := Ex.nw hr2
      have ex04 := ex3.tr ex4
      refine q_fld (ex04 _ _ hT.ins) (c_Table T) (no_Table_shape T) (tf_shape ..) ?_
      refine mk_tab fun t' dx' H5 ex5 ht hI => ?_
      obtain ⟨z3, hz3⟩ := ixat_d ix3
      have nr : r2 ≠ p2 := fun e => by
        rw [← e, hr2] at hz3
        cases hz3
      exact q2 t' dx' r2 H5 (ex04.tr ex5) (ex04.fr ht) hI nr (ex5 _ _ upd_same) (ix3.ex (ex4.tr ex5))
    cases oo with
    | none =>
      cases o with
      | some _ => cases hoo
      | none =>
        refine f_keys0 (d := ix) hT2.idx (fun od R y => by
          walk_at "rd"
          exact q_fld hT2.lock.ins (c_Table T) (no_Table_indexes T) (tf_indexes ..) y) ?_
        exact last H2 _ _ ex2 ix2
    | some es2 =>
      cases o with
      | none => cases hoo
      | some es =>
        obtain ⟨c, b, cr, v, hcs, hix, dv⟩ := hT2.idx
        obtain ⟨c', b', cr', v2, hcs', hix2, dv2⟩ := ix2
        rw [hcs] at hcs'
        cases hcs'
        have hl7 := h72 es2 rfl
        have nfx : p2 ≠ ix := fun e => by
          rw [← e, hp2] at hk0
          cases hk0
        refine f_keys1 (d := ix) hix (fun od R y => by
          walk_at "rd"
          exact q_fld hT2.lock.ins (c_Table T) (no_Table_indexes T) (tf_indexes ..) y) fun od => ?_
        have hT3 : TabR K (upd H2 ix (.frz od (.dK [(.inr c, v)]))) t n cs rows dx sh r ix := hT2.lock
        have lx3 : Lx H2 (upd H2 ix (.frz od (.dK [(.inr c, v)]))) := lk_lx hix
        have hx3 : (upd H2 ix (.frz od (.dK [(.inr c, v)]))) ix = some (.frz od (.dK [(.inr c, v)])) := upd_same
        have hf3 : (upd H2 ix (.frz od (.dK [(.inr c, v)]))) p2 = some (.dK [(.inr c, v2)]) := by rw [upd_ne nfx]; exact hix2
        have dv3 := Dp.lx lx3 _ _ dv2
        have dr3 := Dp.lx lx3 _ _ (Dp.ex ex2 _ _ dr)
        have un := fun H3 o2 e => @lock_mu H H2 H3 p2 ix [(.inr c, v)] od o2 ex2 hp2 hix e
        revert hT3 hx3 hf3 dv3 dr3 un
        generalize upd H2 ix (.frz od (.dK [(.inr c, v)])) = H3
        intro hT3 hx3 hf3 dv3 dr3 un
        obtain ⟨tl, htl⟩ := hhd
        obtain ⟨ra', era, sa⟩ := dp_row dr3
        cases era
        rw [htl] at sa
        walk_at "rd"
        refine q_fld hT3.ins (c_Table T) (no_Table_shape T) (tf_shape ..) ?_
        refine ⟨sh, n, cs, c, rfl, hT3.shp, fun H4 ex4 => ?_⟩
        have e0 : colIx c 0 cs = some 0 := by rw [hcs]; simp [colIx]
        rw [e0]
        refine q_ixT (ex4.t sa) at0 ?_
        walk_at "rd"
        refine q_dget (.inl (ex4 _ _ hf3)) (k := .inr c) rfl (valV_pos rfl) ?_
        refine ⟨_, es2, (hdC row, m), rfl, Dp.ex ex4 _ _ dv3, hl7, fun t2 H5 ex5 d5 => ?_⟩
        walk_at "rd"
        have ex35 := ex4.tr ex5
        refine q_dput (ex35 _ _ hf3) (k := .inr c) rfl (by show 1 < sizeLine; decide) ?_
        refine ⟨?_, ?_⟩
        · rw [upd_ne (Ne.symm nfx)]
          exact ex35 _ _ hx3
        · refine last _ _ _ (un _ _ ex35) ⟨c, b, cr, .ref t2, hcs, ?_, ?_⟩
          · rw [upd_ne nfx, upd_same]
            simp [putK]
          · have l1 : Lx H5 (upd H5 p2 (.dK (putK [(.inr c, v2)] (.inr c) (.ref t2)))) := Lx.up (ex35 _ _ hf3) rfl
            have l2 : Lx (upd H5 p2 (.dK (putK [(.inr c, v2)] (.inr c) (.ref t2)))) (upd (upd H5 p2 (.dK (putK [(.inr c, v2)] (.inr c) (.ref t2)))) ix (.dK [(.inr c, v)])) := Lx.up (o := .frz od (.dK [(.inr c, v)])) (by rw [upd_ne (Ne.symm nfx)]; exact ex35 _ _ hx3) rfl
            exact Dp.lx (l1.tr l2) _ _ d5
  have exp : Ex H (upd H p (.dK kvs0)) := Ex.nw hp
  have hT1 := hT.ex exp
  have kv1 : (upd H p (.dK kvs0)) r = some (.dK kvs) := exp _ _ k1
  walk_at "rd"
  refine q_fld hT1.ins (c_Table T) (no_Table_rows T) (tf_rows ..) ?_
  refine q_din (.inl kv1) (k := .inl m) rfl ?_
  rcases q with ⟨hnew, q⟩ | ⟨⟨row0, h0⟩, q⟩
  · have hno : valV kvs (.inl m) = none := k2.none_ fun x hx e => hnew x hx (Sum.inl.inj e)
    rw [hno]
    simp only [Option.isSome_none]
    walk_at "rd"
    have ixp : IxAt K (upd H p (.dK kvs0)) p cs o := by
      have h1 := hT.idx
      cases o with
      | none =>
        have e : kvs0 = [] := by
          have h2 : H ix = some (.dK []) := h1
          rw [h2] at hk0
          cases hk0
          rfl
        rw [e]
        exact upd_same
      | some es =>
        obtain ⟨c, b, cr, v, hcs, hix, dv⟩ := h1
        rw [hix] at hk0
        cases hk0
        exact ⟨c, b, cr, v, hcs, upd_same, Dp.ex exp _ _ dv⟩
    refine rest p _ o exp hp ixp rfl h7 fun t' dx' r2 H' ex' ht' hI nr hr2 hix2 => ?_
    refine q t' H' ex' ht' ⟨dx', sh, r2, p, hI, nr, Dp.ex ex' _ _ hT.shp, ⟨_, hr2, ?_⟩, hix2⟩
    rw [putK_new _ hno]
    exact (k2.lx (.of ex')).app (x := (m, row)) (Dp.ex ex' _ _ dr)
  · obtain ⟨v, hv, _⟩ := k2.some_ hk.asc.nd h0
    rw [show valV kvs (.inl m) = some v from hv]
    simp only [Option.isSome_some]
    walk_at "rd"
    refine ⟨t, n, cs, rows, o, dx, sh, r, ix, m, row0, rfl, hT1, hk, h0, h7, fun p2 H2 ex2 hp2 ix2 => ?_⟩
    walk_at "rd"
    refine rest p2 _ _ (exp.tr ex2) (exp.fr hp2) ix2 (by cases o <;> rfl) (fun es he => ?_) fun t' dx' r2 H' ex' ht' hI nr hr2 hix2 => ?_
    · cases o with
      | none => cases he
      | some es0 =>
        cases he
        exact Nat.le_trans (remE_len _ _) (h7 es0 rfl)
    · exact q t' H' ex' ht' ⟨dx', sh, _, _, hI, Dp.ex ex' _ _ hT.shp⟩
theorem sc_with_index : FnScope ["table", "column", "indexes"] ["table", "column"] (defScope s_with_index) := ⟨rfl, rfl, rfl, by decide +kernel, rfl, by decide +kernel, by decide +kernel⟩
theorem ok_with_index (T : Tx K mg) : Gd P w K mg base CX0 9 "with_index" ["table", "column"] (fun vs H Q _ => ∃ t n cs rows dx sh r ix c b cr, vs = [.ref t, .str c] ∧ cs = (c, b) :: cr ∧ TabF K H t n cs rows none dx sh r ix ∧ RowsOk rows ∧ rows.length ≤ 8 ∧
    ∀ t' H', Ex H H' → H t' = none → TabAt K H' t' n cs rows (some (fillE [] (rows.map ent))) → Q (.ref t') H') := by
  refine gd0 (f_with_index T) sc_with_index (fun _ _ _ _ _ _ us hl => match us, hl with | [_, _], _ => rfl) ?len (fun f cdv A outer s H vs Q E hr h => ⟨_, (pss_cons (ps_set (i := 2) sc_with_index.nd rfl (Or.inl rfl) (pe_callTy c_dictD (by rfl) (n_dict T) b_dict (pa_cons (pe_fld (pv 0) rfl) pa_nil)))
      (pss_cons (ps_dput (hu_of hr) (pv 2) (pv 1) (pe_g (ok_index_from T) hr (by decide) p0 (pa_cons (pe_g (ok_entries_for T) hr (by decide) p0 (pa_cons (pv 0) (pa_cons (pv 1) pa_nil))) pa_nil)) rfl)
      (pss_one (ps_ret (pe_mk (mk_Table T) (ok_Table_init T) hr (by decide) (g_Table T) (pa_cons (pe_fld (pv 0) rfl) (pa_cons (pe_callTy c_dictD (by rfl) (n_dict T) b_dict (pa_cons (pe_fld (pv 0) rfl) pa_nil)) (pa_cons (pv 2) pa_nil)))))))), ?_⟩)
  case len => rintro vs H Q E ⟨t, n, cs, rows, dx, sh, r, ix, c, b, cr, rfl, _⟩; rfl
  obtain ⟨t, n, cs, rows, dx, sh, r, ix, c, b, cr, rfl, hcs, hT, hk, h8, q⟩ := h
  obtain ⟨kvs, k1, k2⟩ := hT.row
  walk_at "rd"
  refine q_fld hT.ins (c_Table T) (no_Table_indexes T) (tf_indexes ..) ?_
  refine q_dictD (.inl hT.idx) fun p hp => ?_
  walk_at "rd"
  have ex1 : Ex H (upd H p (.dK [])) := Ex.nw hp
  have hT1 := hT.ex ex1
  refine ⟨t, n, cs, rows, dx, sh, r, ix, c, b, cr, rfl, hcs, hT1.r, hk.asc, hk.full, h8, fun l ys H2 ex2 hl e2 d2 => ?_⟩
  walk_at "rd"
  refine ⟨l, ys, rows.map ent, rfl, SqL.of e2, d2, by rw [List.length_map]; exact h8, fun z H3 ex3 d3 => ?_⟩
  walk_at "rd"
  have ex13 := ex2.tr ex3
  refine q_dput (ex13 _ _ upd_same) (k := .inr c) rfl (by show 0 < sizeLine; decide) ?_
  have exm : Ex H (upd H3 p (.dK (putK [] (.inr c) (.ref z)))) := (ex1.tr ex13).mu hp
  have lx : Lx H3 (upd H3 p (.dK (putK [] (.inr c) (.ref z)))) := Lx.up (ex13 _ _ upd_same) rfl
  have d4 := Dp.lx lx _ _ d3
  have hp4 : upd H3 p (.dK (putK [] (.inr c) (.ref z))) p = some (.dK [(.inr c, .ref z)]) := upd_same
  revert exm d4 hp4
  generalize upd H3 p (.dK (putK [] (.inr c) (.ref z))) = H4
  intro exm d4 hp4
  have hT4 := hT.ex exm
  refine q_fld hT4.ins (c_Table T) (no_Table_shape T) (tf_shape ..) ?_
  refine q_fld hT4.ins (c_Table T) (no_Table_rows T) (tf_rows ..) ?_
  refine q_dictD (.inl (exm _ _ k1)) fun r2 hr2 => ?_
  walk_at "rd"
  have ex5 : Ex H4 (upd H4 r2 (.dK kvs)) := Ex.nw hr2
  refine mk_tab fun t' dx' H6 ex6 ht hI => ?_
  have ex06 := exm.tr (ex5.tr ex6)
  refine q t' H6 ex06 ((exm.tr ex5).fr ht) ⟨dx', sh, r2, p, hI, fun e => ?_, Dp.ex ex06 _ _ hT.shp, ⟨kvs, ex6 _ _ upd_same, k2.lx (.of ex06)⟩, c, b, cr, .ref z, hcs, (ex5.tr ex6) _ _ hp4, Dp.ex (ex5.tr ex6) _ _ d4⟩
  rw [e, hp4] at hr2
  cases hr2
end
/-! The plain law of entries: in order, each once. -/
/-- an entry's sort key -/
def keyD (e : En) : PyData := match e.1 with
  | .non => .tuple [.int 0, .int 0, .str "", .int e.2]
  | .str z => .tuple [.int 2, .int 0, .str z, .int e.2]
  | .int i => .tuple [.int 1, .int i, .str "", .int e.2]
theorem dl4 {a b c d a' b' c' d' : PyData} (ha : PySem.W.alike a a' = true) (hb : PySem.W.alike b b' = true) (hc : PySem.W.alike c c' = true) (hd : PySem.W.alike d d' = true) :
    PySem.W.dataLt (.tuple [a, b, c, d]) (.tuple [a', b', c', d']) = if PyData.eqv a a' = true then (if PyData.eqv b b' = true then (if PyData.eqv c c' = true then (if PyData.eqv d d' = true then false else PySem.W.dataLt d d') else PySem.W.dataLt c c') else PySem.W.dataLt b b') else PySem.W.dataLt a a' := by
  rw [PySem.W.dataLt_tuple, PySem.W.dataLt_cons ha, PySem.W.dataLt_cons hb, PySem.W.dataLt_cons hc, PySem.W.dataLt_cons hd]
  have e : PyProof.Rows.lexLt PyProof.Rows.itemOrd (PySem.W.keyToksAll []) (PySem.W.keyToksAll []) = false := PyProof.Rows.lex_irrefl _
  rw [e]
theorem key_i {a b d a' b' d' : Int} {s s' : Str} :
    PySem.W.dataLt (.tuple [.int a, .int b, .str s, .int d]) (.tuple [.int a', .int b', .str s', .int d']) = if a = a' then (if b = b' then (if s = s' then decide (d < d') else decide (s.cps.toList < s'.cps.toList)) else decide (b < b')) else decide (a < a') := by
  rw [dl4 (by simp [PySem.W.alike]) (by simp [PySem.W.alike]) (by simp [PySem.W.alike]) (by simp [PySem.W.alike])]
  simp only [PySem.W.dataLt_int, PySem.W.dataLt_str, PyData.eqv, beq_iff_eq]
  by_cases h1 : a = a' <;> by_cases h2 : b = b' <;> by_cases h3 : s = s' <;> by_cases h4 : d = d' <;> simp [h1, h2, h3, h4]
theorem key_lt (e f : En) : PySem.W.dataLt (keyD e) (keyD f) = ahd e f := by
  obtain ⟨c, i⟩ := e
  obtain ⟨d, j⟩ := f
  cases c with
  | non => cases d <;> simp only [keyD, key_i] <;> simp [ahd, cmpC, Cv.rk]
  | int x =>
    cases d with
    | int y =>
      simp only [keyD, key_i]
      simp only [ahd, cmpC, Cv.rk, Cv.lt]
      by_cases h : x = y
      · subst h
        simp
      · by_cases h2 : x < y <;> simp [h, h2]
    | _ => simp only [keyD, key_i] <;> simp [ahd, cmpC, Cv.rk]
  | str x =>
    cases d with
    | str y =>
      simp only [keyD, key_i]
      simp only [ahd, cmpC, Cv.rk, Cv.lt]
      by_cases h : x = y
      · subst h
        simp
      · by_cases h2 : x.cps.toList < y.cps.toList <;> simp [h, h2]
    | _ => simp only [keyD, key_i] <;> simp [ahd, cmpC, Cv.rk]
theorem ahd_irr (e : En) : ahd e e = false := by
  rw [← key_lt]
  exact (PyProof.Rows.listOrd PyProof.Rows.itemOrd).irrefl _
theorem ahd_tr {e f g : En} (h1 : ahd e f = true) (h2 : ahd f g = true) : ahd e g = true := by
  rw [← key_lt] at h1 h2 ⊢
  exact (PyProof.Rows.listOrd PyProof.Rows.itemOrd).trans _ _ _ h1 h2
theorem ahd_as {e f : En} (h : ahd e f = true) : ahd f e = false := by
  cases h2 : ahd f e with
  | false => rfl
  | true =>
    have h3 := ahd_tr h h2
    rw [ahd_irr] at h3
    cases h3
theorem ahd_eq {e f : En} (h1 : ahd e f = false) (h2 : ahd f e = false) : e = f := by
  obtain ⟨c, i⟩ := e
  obtain ⟨d, j⟩ := f
  have str : ∀ x y : Str, ¬ x.cps.toList < y.cps.toList → ¬ y.cps.toList < x.cps.toList → x = y := fun x y a b => PySem.W.str_of_cps (List.le_antisymm (List.not_lt.mp b) (List.not_lt.mp a))
  rw [← key_lt] at h1 h2
  cases c with
  | non =>
    cases d with
    | non =>
      simp only [keyD, key_i] at h1 h2
      simp at h1 h2
      have : i = j := by omega
      rw [this]
    | int y =>
      simp only [keyD, key_i] at h1
      simp at h1
    | str y =>
      simp only [keyD, key_i] at h1
      simp at h1
  | int x =>
    cases d with
    | non =>
      simp only [keyD, key_i] at h2
      simp at h2
    | str y =>
      simp only [keyD, key_i] at h1
      simp at h1
    | int y =>
      simp only [keyD, key_i] at h1 h2
      by_cases h : x = y
      · subst h
        simp at h1 h2
        have : i = j := by omega
        rw [this]
      · have h' : ¬ y = x := fun e => h e.symm
        simp [h, h'] at h1 h2
        omega
  | str x =>
    cases d with
    | non =>
      simp only [keyD, key_i] at h2
      simp at h2
    | int y =>
      simp only [keyD, key_i] at h2
      simp at h2
    | str y =>
      simp only [keyD, key_i] at h1 h2
      by_cases h : x = y
      · subst h
        simp at h1 h2
        have : i = j := by omega
        rw [this]
      · have h' : ¬ y = x := fun e => h e.symm
        simp only [h, h', if_true, if_false, decide_eq_false_iff_not] at h1 h2
        exact absurd (str x y (by simpa using h1) (by simpa using h2)) h
/-! ### put in order -/
theorem ins_perm {es : List En} {e : En} (h : e ∉ es) : (insE es e).Perm (es ++ [e]) := by
  unfold insE
  have hs : std es e = false := by
    cases hs : std es e with
    | false => rfl
    | true =>
      unfold std at hs
      cases hg : es[lpl es e]? with
      | none => rw [hg] at hs; cases hs
      | some f =>
        rw [hg] at hs
        have h1 : ahd e f = false := by simpa using hs
        have h2 : ahd f e = false := by
          have hd : es.dropWhile (fun f => ahd f e) = es.drop (lpl es e) := by
            have z := List.takeWhile_append_dropWhile (p := fun f => ahd f e) (l := es)
            have z2 := List.drop_left (l₁ := es.takeWhile fun f => ahd f e) (l₂ := es.dropWhile fun f => ahd f e)
            rw [z] at z2
            exact z2.symm
          obtain ⟨hl, he⟩ := List.getElem?_eq_some_iff.mp hg
          have e2 : es.drop (lpl es e) = f :: es.drop (lpl es e + 1) := by rw [List.drop_eq_getElem_cons hl, he]
          have e3 : (es.dropWhile fun f => ahd f e).head? = some f := by rw [hd, e2]; rfl
          have e4 := List.head?_dropWhile_not (p := fun f => ahd f e) (l := es)
          rw [e3] at e4
          simpa using e4
        have e5 := ahd_eq h1 h2
        exact absurd (by rw [e5]; exact List.mem_of_getElem? hg) h
  rw [hs, if_neg Bool.false_ne_true]
  have e1 : es = es.take (lpl es e) ++ es.drop (lpl es e) := (List.take_append_drop ..).symm
  have p1 : (es.take (lpl es e) ++ e :: es.drop (lpl es e)).Perm (e :: (es.take (lpl es e) ++ es.drop (lpl es e))) := List.perm_middle
  rw [← e1] at p1
  exact p1.trans (List.perm_append_singleton e es).symm
theorem ins_pw {es : List En} {e : En} (h : e ∉ es) (hp : es.Pairwise (fun e f => ahd e f = true)) : (insE es e).Pairwise (fun e f => ahd e f = true) := by
  unfold insE
  by_cases hs : std es e = true
  · rw [if_pos hs]
    exact hp
  · rw [if_neg hs]
    have tk : es.take (lpl es e) = es.takeWhile fun f => ahd f e := by
      have z := List.takeWhile_append_dropWhile (p := fun f => ahd f e) (l := es)
      have z2 := List.take_left (l₁ := es.takeWhile fun f => ahd f e) (l₂ := es.dropWhile fun f => ahd f e)
      rw [z] at z2
      exact z2
    have hd : es.drop (lpl es e) = es.dropWhile (fun f => ahd f e) := by
      have z := List.takeWhile_append_dropWhile (p := fun f => ahd f e) (l := es)
      have z2 := List.drop_left (l₁ := es.takeWhile fun f => ahd f e) (l₂ := es.dropWhile fun f => ahd f e)
      rw [z] at z2
      exact z2
    have hp2 : (es.take (lpl es e) ++ es.drop (lpl es e)).Pairwise (fun e f => ahd e f = true) := by rw [List.take_append_drop]; exact hp
    obtain ⟨q1, q2, q3⟩ := List.pairwise_append.mp hp2
    have fr : ∀ f, f ∈ es.take (lpl es e) → ahd f e = true := fun f hf => by
      rw [tk] at hf
      exact List.all_eq_true.mp (List.all_takeWhile (p := fun f => ahd f e) (l := es)) f hf
    have bk : ∀ f, f ∈ es.drop (lpl es e) → ahd e f = true := by
      intro f hf
      cases hg : es.drop (lpl es e) with
      | nil => rw [hg] at hf; cases hf
      | cons g r =>
        have hgg : es[lpl es e]? = some g := by
          have z : (es.drop (lpl es e))[0]? = some g := by rw [hg]; rfl
          simpa using z
        have e1 : ahd e g = true := by
          unfold std at hs
          rw [hgg] at hs
          simpa using hs
        rw [hg] at hf q2
        rcases List.mem_cons.mp hf with z | z
        · rw [z]; exact e1
        · exact ahd_tr e1 ((List.pairwise_cons.mp q2).1 f z)
    refine List.pairwise_append.mpr ⟨q1, List.pairwise_cons.mpr ⟨bk, q2⟩, fun a ha b hb => ?_⟩
    rcases List.mem_cons.mp hb with z | z
    · rw [z]; exact fr a ha
    · exact q3 a ha b z
theorem fill_ok : ∀ (l es : List En), (es ++ l).Nodup → es.Pairwise (fun e f => ahd e f = true) → (fillE es l).Perm (es ++ l) ∧ (fillE es l).Pairwise (fun e f => ahd e f = true)
  | [], es, _, hp => by
    rw [List.append_nil]
    exact ⟨List.Perm.refl _, hp⟩
  | e :: l, es, nd, hp => by
    have hn : e ∉ es := fun h => by
      have z := (List.nodup_append.mp nd).2.2
      exact z e h e (List.mem_cons_self ..) rfl
    have p1 := ins_perm hn
    have e1 : es ++ e :: l = (es ++ [e]) ++ l := by simp
    have nd2 : (insE es e ++ l).Nodup := by
      rw [e1] at nd
      exact ((p1.append_right l).nodup_iff).mpr nd
    obtain ⟨q1, q2⟩ := fill_ok l (insE es e) nd2 (ins_pw hn hp)
    refine ⟨?_, q2⟩
    rw [e1]
    exact q1.trans (p1.append_right l)
/-- a sorted list is the sort -/
theorem sort_is {β : Type} {kd : β → PyData} {l m : List β} (hp : m.Perm l) (hs : m.Pairwise (fun a b => PySem.W.dataLe false kd a b = true)) (ha : ∀ a b, a ∈ l → b ∈ l → PySem.W.dataLe false kd a b = true → PySem.W.dataLe false kd b a = true → a = b) :
    l.mergeSort (PySem.W.dataLe false kd) = m := by
  have s1 := PySem.W.sort_pairwise (le := PySem.W.dataLe false kd) (PySem.W.sortLe_total _ _ _) l
  have p1 : (l.mergeSort (PySem.W.dataLe false kd)).Perm m := (List.mergeSort_perm l _).trans hp.symm
  exact p1.eq_of_pairwise (fun a b ma mb h1 h2 => ha a b ((List.mergeSort_perm l _).mem_iff.mp ma) (hp.mem_iff.mp mb) h1 h2) s1 hs
theorem ents_nd {rows : List Rw} (h : Asc rows) : (rows.map ent).Nodup := by
  have h1 : rows.Pairwise (fun x y => x.1 < y.1) := List.pairwise_map.mp h
  exact List.pairwise_map.mpr (h1.imp fun {x y} hlt e => by
    have e2 : x.1 = y.1 := (Prod.mk.inj e).2
    omega)
/-- an index of rows -/
def ixE (rows : List Rw) : List En := fillE [] (rows.map ent)
theorem ixE_perm {rows : List Rw} (h : Asc rows) : (ixE rows).Perm (rows.map ent) := (fill_ok (rows.map ent) [] (by simpa using ents_nd h) .nil).1
theorem ixE_pw {rows : List Rw} (h : Asc rows) : (ixE rows).Pairwise (fun e f => ahd e f = true) := (fill_ok (rows.map ent) [] (by simpa using ents_nd h) .nil).2
theorem ixE_len (rows : List Rw) : (ixE rows).length ≤ rows.length := by
  have h := fillE_len (rows.map ent) []
  rw [List.length_map] at h
  simpa [ixE] using h
/-- sorted by their keys, the rows' entries are the index -/
theorem ixE_sort {rows : List Rw} (h : Asc rows) : (rows.map ent).mergeSort (PySem.W.dataLe false keyD) = ixE rows := by
  have le : ∀ a b, PySem.W.dataLe false keyD a b = !ahd b a := fun a b => by
    rw [PySem.W.dataLe_eq]
    show (!PySem.W.dataLt (keyD b) (keyD a)) = _
    rw [key_lt]
  refine sort_is (ixE_perm h) ((ixE_pw h).imp fun {a b} z => ?_) fun a b _ _ z1 z2 => ?_
  · rw [le, ahd_as z]; rfl
  · rw [le] at z1 z2
    exact ahd_eq (by simpa using z2) (by simpa using z1)
/-- sorted by their numbers, the index's pairs are the rows' -/
theorem ixE_numbers {rows : List Rw} (h : Asc rows) : ((ixE rows).map fun e => (e.2, e.1)).mergeSort (PySem.W.dataLe false fun b : Int × Cv => .int b.1) = (rows.map ent).map fun e => (e.2, e.1) := by
  have h1 : rows.Pairwise (fun x y => x.1 < y.1) := List.pairwise_map.mp h
  rw [PySem.W.dataLe_int]
  have key := @sort_is (Int × Cv) (fun b => .int b.1) ((ixE rows).map fun e => (e.2, e.1)) ((rows.map ent).map fun e => (e.2, e.1)) ((ixE_perm h).map _).symm
  rw [PySem.W.dataLe_int] at key
  refine key ?_ ?_
  · rw [List.pairwise_map, List.pairwise_map]
    refine h1.imp fun {x y} hlt => ?_
    show decide (x.1 ≤ y.1) = true
    exact decide_eq_true (by omega)
  · intro a b ma mb z1 z2
    have e1 : a.1 = b.1 := by
      have y1 : a.1 ≤ b.1 := of_decide_eq_true z1
      have y2 : b.1 ≤ a.1 := of_decide_eq_true z2
      omega
    have mem : ∀ c, c ∈ (ixE rows).map (fun e => (e.2, e.1)) → ∃ x, x ∈ rows ∧ c = (x.1, hdC x.2) := by
      intro c hc
      obtain ⟨e, he, rfl⟩ := List.mem_map.mp hc
      obtain ⟨x, hx, rfl⟩ := List.mem_map.mp ((ixE_perm h).mem_iff.mp he)
      exact ⟨x, hx, rfl⟩
    obtain ⟨x, hx, rfl⟩ := mem a ma
    obtain ⟨y, hy, rfl⟩ := mem b mb
    have e2 : x.1 = y.1 := e1
    have e3 : x = y := by
      have nd := h.nd
      have inj := List.pairwise_map.mp nd
      by_cases hxy : x = y
      · exact hxy
      · have : ∀ {l : List Rw}, l.Pairwise (fun a b => rwK a ≠ rwK b) → x ∈ l → y ∈ l → x = y := by
          intro l hl
          induction hl with
          | nil => intro h; cases h
          | cons h0 hl ih =>
            intro hx hy
            have er : rwK x = rwK y := by unfold rwK; rw [e2]
            rcases List.mem_cons.mp hx with u1 | u1 <;> rcases List.mem_cons.mp hy with u2 | u2
            · rw [u1, u2]
            · exact absurd (by rw [← u1]; exact er) (h0 y u2)
            · exact absurd (by rw [← u2]; exact er.symm) (h0 x u1)
            · exact ih u1 u2
        exact this inj hx hy
    rw [e3]


section
variable {P : Program} {w : World} {K : PySem.W.Frag} {mg : Str → Option Value} {base : Heap}
/-! ### sound tables -/
structure RwOk (cs : Cols) (x : Rw) : Prop where
  lo : 1 ≤ x.1
  hi : x.1 ≤ 1000000000
  fit : dFits cs (rowD x.2) = true
theorem dcells_vals : ∀ {cs : Cols} {r : List Cv}, r.length = cs.length → dCells cs (r.map Cv.d) = true → ∀ c, c ∈ r → dVal c.d = true
  | [], [], _, _, c, h => by cases h
  | [], _ :: _, h, _, _, _ => by cases h
  | _ :: _, [], h, _, _, _ => by cases h
  | k :: cs, d :: r, hl, h, c, hc => by
    simp only [List.map_cons, dCells, dCell, Bool.and_eq_true] at h
    rcases List.mem_cons.mp hc with z | z
    · rw [z]; exact h.1.1
    · exact dcells_vals (by simpa using hl) h.2 c z
theorem fits_row {cs : Cols} {r : List Cv} (h : dFits cs (rowD r) = true) : r.length = cs.length ∧ ∀ c, c ∈ r → dVal c.d = true := by
  simp only [rowD, dFits, Bool.and_eq_true, decide_eq_true_eq, List.length_map] at h
  exact ⟨h.1, dcells_vals h.1 h.2⟩
theorem sm_row {r : List Cv} (h : ∀ c, c ∈ r → dVal c.d = true) : sm (rowD r) = true := by
  simp only [rowD, sm]
  induction r with
  | nil => rfl
  | cons c r ih =>
    simp only [List.map_cons, smA, Bool.and_eq_true]
    exact ⟨sm_val (h c (List.mem_cons_self ..)), ih fun d hd => h d (List.mem_cons_of_mem _ hd)⟩
theorem sc_are_rows : FnScope ["shape", "rows", "number"] ["shape", "rows"] (defScope s_are_rows) := ⟨rfl, rfl, rfl, by decide +kernel, rfl, by decide +kernel, by decide +kernel⟩
theorem ok_are_rows (T : Tx K mg) : Gd P w K mg base CX0 4 "are_rows" ["shape", "rows"] (fun vs H Q _ => ∃ sh r n cs rows, vs = [.ref sh, .ref r] ∧ Dp K H (.ref sh) (shD n cs) ∧ RowsAt K H r rows ∧ Asc rows ∧ (∀ x, x ∈ rows → RwOk cs x) ∧ ∀ H', Ex H H' → Q (.bl true) H') := by
  refine gd0 (f_are_rows T) sc_are_rows (fun _ _ _ _ _ _ us hl => match us, hl with | [_, _], _ => rfl) ?len (fun f cdv A outer s H vs Q E hr h => ⟨_, (pss_cons (ps_if (pt_not (pt_val (pe_callB call_isi (by rfl) (n_isinstance T) b_isinstance (pa_cons (pv 1) (pa_cons (pe_bt (n_dict T) b_dict) pa_nil))))) (pss_one (ps_ret pe_bl)) pss_nil)
      (pss_cons (ps_lock (ps_for PassesOwn.never rfl (pi_keys (pv 1)) (pg_name (i := 2) sc_are_rows.nd rfl (Or.inl rfl)) (pss_one (ps_if (PW.pt (pw_or (pt_not (pt_val (pe_g (ok_is_number T) hr (by decide) p0 (pa_cons (pv 2) pa_nil)))) (pw_or1 (pt_not (pt_val (pe_g (ok_fits T) hr (by decide) p0 (pa_cons (pv 0) (pa_cons (pe_dget (hu_of hr) (pv 1) (pv 2) (fun _ _ => rfl)) pa_nil)))))))) (pss_one (ps_ret pe_bl)) pss_nil))))
      (pss_one (ps_ret pe_bl)))), ?_⟩)
  case len => rintro vs H Q E ⟨sh, r, n, cs, rows, rfl, _⟩; rfl
  obtain ⟨sh, r, n, cs, rows, rfl, hsh, ⟨kvs, k1, k2⟩, asc, hok, q⟩ := h
  walk_at "rd"
  refine isi_dict (.inl k1) ?_
  walk_at "rd"
  refine f_keys (d := r) k1 (fun od R y => by walk_at "rd"; exact y)
    (fun od rr σ H' => Ex (upd H r (.frz od (.dK kvs))) H' ∧ ∃ o1 l, σ = [some (.ref sh), some (.ref r), o1] ∧ KD K H rwK rwD rr l ∧ ∀ x, x ∈ l → x ∈ rows)
    (fun od => ⟨exr _, none, rows, rfl, k2, fun x h => h⟩) (fun od rr σ H' ⟨e, _⟩ => e _ _ upd_same) ?_ ?_
  · rintro od k v rr σ H' ⟨ex, o1, l, rfl, kd, sub⟩
    cases kd with
    | @cons v kvs' x xs dv kr =>
      have hx := sub x (List.mem_cons_self ..)
      have ok := hok x hx
      have lx : Lx H H' := (lk_lx k1).tr (.of ex)
      obtain ⟨v2, hv2, dv2⟩ := k2.some_ asc.nd hx
      obtain ⟨hlen, hvals⟩ := fits_row ok.fit
      walk_at "rd"
      refine ⟨.int x.1, .int x.1, rfl, .int _, rfl, ?_⟩
      have e1 : dNum (.int x.1) = true := by simp [dNum, ok.lo, ok.hi]
      rw [e1]
      walk_at "rd"
      refine q_dget (.inr ⟨od, ex _ _ upd_same⟩) (k := rwK x) rfl hv2 ?_
      refine ⟨sh, n, cs, v2, rowD x.2, rfl, Dp.lx lx _ _ hsh, Dp.lx lx _ _ dv2, sm_row hvals, fun H2 ex2 => ?_⟩
      rw [ok.fit]
      walk_at "rd"
      exact ⟨ex.tr ex2, _, xs, rfl, kr, fun y hy => sub y (List.mem_cons_of_mem _ hy)⟩
  · rintro od σ H' ⟨ex, o1, l, rfl, kd, sub⟩
    walk_at "rd"
    exact q _ (unlock_ex k1 ex)
theorem sc_first_of_tables : FnScope ["pair"] ["pair"] (defScope s_first_of_tables) := ⟨rfl, rfl, rfl, by decide +kernel, rfl, by decide +kernel, by decide +kernel⟩
theorem ok_first_of_tables (T : Tx K mg) : Gd P w K mg base CX0 1 "first_of_tables" ["pair"] (fun vs H Q _ => ∃ a x y, vs = [.ref a] ∧ SqT K H a [x, y] ∧ Q x H) := by
  refine gd0 (f_first_of_tables T) sc_first_of_tables (fun _ _ _ _ _ _ us hl => match us, hl with | [_], _ => rfl) ?len (fun f cdv A outer s H vs Q E hr h => ⟨_, (pss_one (ps_ret (pe_ix ix_tup (pv 0) pe_int (fun _ _ => rfl)))), ?_⟩)
  case len => rintro vs H Q E ⟨a, x, y, rfl, _⟩; rfl
  obtain ⟨a, x, y, rfl, h, q⟩ := h
  walk_at "rd"
  exact q_ixT h at0 q
def prD (b : Int × Cv) : PyData := .tuple [.int b.1, b.2.d]
theorem dp_pr {H : Hp} {x : V} {b : Int × Cv} (h : Dp K H x (prD b)) : ∃ a, x = .ref a ∧ SqT K H a [.int b.1, b.2.v] := by
  cases h with
  | tup h1 h2 =>
    obtain ⟨x, y, rfl, k1, k2⟩ := dp2 h2
    cases k1
    obtain rfl := dp_cv k2
    exact ⟨_, rfl, h1⟩
theorem pr_nl (l : List (Int × Cv)) : noLA (l.map prD) = true := by
  induction l with
  | nil => rfl
  | cons e l ih =>
    show (noL (prD e) && noLA (l.map prD)) = true
    rw [ih, Bool.and_true]
    cases e with | mk i c => cases c <;> rfl
def swp (e : En) : Int × Cv := (e.2, e.1)
/-- [(number, value) for value, number in entries] -/
theorem lc_swap {H : Hp} {Q : VK} {a : Addr} {xs : List V} {es : List En} {x0 x1 x2 x3 x4 x5 : Option V} (hx : SqL K H a xs) (hd : DpAll K H xs (es.map enD)) (h8 : es.length ≤ 8) (q : ∀ p us H', Ex H H' → H p = none → H' p = some (.lst us) → DpAll K H' us ((es.map swp).map prD) → Q (.ref p) H') :
    lcL K (gTup K 2 (gCons (gName 4) (gCons (gName 5) gNil))) (tTup (tCons (tVar 5) (tCons (tVar 4) tNil))) [4, 5] [x0, x1, x2, x3, x4, x5] (.ref a) H Q := by
  refine q_lcL hx (fun D rr H' => Ex H H' ∧ H D = none ∧ ∃ acc l pre, H' D = some (.lst acc) ∧ DpAll K H' acc ((List.map swp pre).map prD) ∧ DpAll K H rr (List.map enD l) ∧ es = pre ++ l)
    (fun D hD => ⟨Ex.nw hD, hD, [], es, [], upd_same, .nil, hd, rfl⟩) (fun D rr H' ⟨e, _⟩ => e.l hx) ?_ ?_
  · rintro D x rr H' ⟨ex, hD, acc, l, pre, e3, e4, e5, e6⟩
    cases l with
    | nil => cases e5
    | cons y l =>
      cases e5 with | cons kc kr => ?_
      obtain ⟨b, rfl, hb⟩ := dp_en kc
      refine q_tup (ex.t hb) rfl ?_
      walk_at "rd"
      refine ⟨by show 2 ≤ sizeLine; decide, fun z hz => ?_⟩
      have exz : Ex H' (upd H' z (.tup [.int y.2, y.1.v])) := Ex.nw hz
      refine q_el (exz _ _ e3) (Nat.lt_of_le_of_lt (?_ : acc.length ≤ 8) (by decide)) ?_
      · rw [DpAll.length e4, List.length_map, List.length_map]
        rw [e6] at h8
        simp only [List.length_append] at h8
        omega
      · have exD : Ex H (upd (upd H' z (.tup [.int y.2, y.1.v])) D (.lst (acc ++ [.ref z]))) := (ex.tr exz).mu hD
        have lx : Tt (upd H' z (.tup [.int y.2, y.1.v])) (upd (upd H' z (.tup [.int y.2, y.1.v])) D (.lst (acc ++ [.ref z]))) := Tt.up (exz _ _ e3) rfl
        refine ⟨exD, hD, acc ++ [.ref z], l, pre ++ [y], upd_same, ?_, kr, by rw [e6]; simp⟩
        rw [List.map_append, List.map_append]
        refine DpAll.app (DpAll.tt lx _ _ (pr_nl _) (DpAll.ex exz _ _ e4)) (.cons ?_ .nil)
        exact .tup (lx.t (SqT.of upd_same)) (.cons (.int _) (.cons (Cv.dp _) .nil))
  · rintro D H' ⟨ex, hD, acc, l, pre, e3, e4, e5, e6⟩
    cases e5' : l with
    | cons y l2 => rw [e5'] at e5; cases e5
    | nil =>
      have e7 : pre = es := by rw [e6, e5']; simp
      subst e7
      exact q D acc H' ex hD e3 e4
/-- a sound table -/
structure TbOk (cs : Cols) (rows : List Rw) : Prop where
  asc : Asc rows
  each : ∀ x, x ∈ rows → RwOk cs x
  few : rows.length ≤ 8
  cols : cs ≠ []
theorem TbOk.ok {cs : Cols} {rows : List Rw} (h : TbOk cs rows) : RowsOk rows := ⟨h.asc, fun x hx e => by
  have z := (fits_row (h.each x hx).fit).1
  rw [e] at z
  exact h.cols (List.length_eq_zero_iff.mp z.symm)⟩
theorem TbOk.ents {cs : Cols} {rows : List Rw} (h : TbOk cs rows) : okL (ixE rows) := by
  refine ⟨fun e he => ?_, ixE_pw h.asc⟩
  obtain ⟨x, hx, rfl⟩ := List.mem_map.mp ((ixE_perm h.asc).mem_iff.mp he)
  have ok := h.each x hx
  refine ⟨?_, ok.lo, ok.hi⟩
  have hne := h.ok.full x hx
  have hv := (fits_row ok.fit).2
  show dVal (hdC x.2).d = true
  cases hr : x.2 with
  | nil => exact absurd hr hne
  | cons c r => exact hv c (by rw [hr]; exact List.mem_cons_self ..)
def ixO (b : Bool) (rows : List Rw) : Option (List En) := if b then some (ixE rows) else none
end


section
variable {P : Program} {w : World} {K : PySem.W.Frag} {mg : Str → Option Value} {base : Heap}
theorem eqv_pr : ∀ l : List (Int × Cv), PyData.eqvAll (l.map prD) (l.map prD) = true
  | [] => rfl
  | (i, c) :: l => by
    show (PyData.eqv (prD (i, c)) (prD (i, c)) && PyData.eqvAll (l.map prD) (l.map prD)) = true
    rw [eqv_pr l, Bool.and_true]
    cases c <;> simp [prD, Cv.d, PyData.eqv, PyData.eqvAll]
theorem depth_pr : ∀ l : List (Int × Cv), PyData.depthAll (l.map prD) ≤ 1
  | [] => Nat.zero_le _
  | (i, c) :: l => by
    have h := depth_pr l
    cases c <;> simp only [List.map_cons, prD, Cv.d, PyData.depthAll, PyData.depth] <;> omega
theorem lay_pr : ∀ l : List (Int × Cv), (∀ b, b ∈ l → dVal b.2.d = true) → PyData.canLayAll0 (l.map prD) = true
  | [], _ => rfl
  | (i, c) :: l, h => by
    have h1 := lay_val (h _ (List.mem_cons_self ..))
    simp only [List.map_cons, PyData.canLayAll0, prD, PyData.canLay0, h1, lay_pr l fun b hb => h b (List.mem_cons_of_mem _ hb), Bool.and_true]
theorem shaped_pr {l : List (Int × Cv)} (h : ∀ b, b ∈ l → dVal b.2.d = true) : SeqAt.shaped (.list (l.map prD)) = true := by
  unfold SeqAt.shaped
  have h1 := depth_pr l
  have h2 := lay_pr l h
  simp [PyData.canLay0, PyData.depth, h2]
  omega
theorem sc_is_table : FnScope ["thing", "column", "index", "due", "value", "number"] ["thing"] (defScope s_is_table) := ⟨rfl, rfl, rfl, by decide +kernel, rfl, by decide +kernel, by decide +kernel⟩
theorem ok_is_table (T : Tx K mg) : Gd P w K mg base CX0 7 "is_table" ["thing"] (fun vs H Q _ => ∃ t n cs rows b dx sh r ix, vs = [.ref t] ∧ TabF K H t n cs rows (ixO b rows) dx sh r ix ∧ dShape (shD n cs) = true ∧ sm (shD n cs) = true ∧ TbOk cs rows ∧ ∀ H', Ex H H' → Q (.bl true) H') := by
  refine gd0 (f_is_table T) sc_is_table (fun _ _ _ _ _ _ us hl => match us, hl with | [_], _ => rfl) ?len (fun f cdv A outer s H vs Q E hr h => ⟨_, (pss_cons (ps_if (PW.pt (pw_or (pt_not (pt_val (pe_callB call_isi (by rfl) (n_isinstance T) b_isinstance (pa_cons (pv 0) (pa_cons (pe_gr (g_Table T)) pa_nil))))) (pw_or (pt_not (pt_val (pe_g (ok_is_shape T) hr (by decide) p0 (pa_cons (pe_fld (pv 0) rfl) pa_nil)))) (pw_or1 (pt_not (pt_val (pe_g (ok_are_rows T) hr (by decide) p0 (pa_cons (pe_fld (pv 0) rfl) (pa_cons (pe_fld (pv 0) rfl) pa_nil))))))))) (pss_one (ps_ret pe_bl)) pss_nil)
      (pss_cons (ps_if (pt_not (pt_val (pe_callB call_isi (by rfl) (n_isinstance T) b_isinstance (pa_cons (pe_fld (pv 0) rfl) (pa_cons (pe_bt (n_dict T) b_dict) pa_nil))))) (pss_one (ps_ret pe_bl)) pss_nil)
      (pss_cons (ps_lock (ps_for PassesOwn.never rfl (pi_keys (pe_fld (pv 0) rfl)) (pg_name (i := 1) sc_is_table.nd rfl (Or.inl rfl)) (pss_cons (ps_set (i := 2) sc_is_table.nd rfl (Or.inl rfl) (pe_dget (hu_of hr) (pe_fld (pv 0) rfl) (pv 1) (fun _ _ => rfl)))
      (pss_cons (ps_if (PW.pt (pw_or (pt_cmpR o_isN (pe_g (ok_column_place T) hr (by decide) p0 (pa_cons (pe_fld (pv 0) rfl) (pa_cons (pv 1) pa_nil))) pe_non (nomark _)) (pw_or (pt_not (pt_val (pe_g (ok_is_index T) hr (by decide) p0 (pa_cons (pv 2) pa_nil)))) (pw_or1 (pt_cmpR op_ne (pe_g (ok_many_in T) hr (by decide) p0 (pa_cons (pv 2) pa_nil)) (pe_callB c_lenD (by rfl) (n_len T) b_len (pa_cons (pe_fld (pv 0) rfl) pa_nil)) (nomark _)))))) (pss_one (ps_ret pe_bl)) pss_nil)
      (pss_cons (ps_set (i := 3) sc_is_table.nd rfl (Or.inl rfl) (pe_sk prD (fun b => .int b.1) (ok_first_of_tables T) hr (by decide) (n_sorted T) (pa_cons (pe_lc (own := [("value", 4), ("number", 5)]) (tt := tYes) rfl sc_is_table.nd (pi_list (pe_g (ok_entries_of T) hr (by decide) p0 (pa_cons (pv 2) pa_nil))) (blkOk_by (own := [("value", 4), ("number", 5)]) (N := ["thing", "column", "index", "due", "value", "number"]) (sc := defScope s_is_table) (by decide +kernel)) (fun _ _ _ _ _ => pg_tupK (n := 2) K rfl (pgs_cons (pg_name (i := 4) sc_is_table.nd rfl (Or.inl rfl)) (pgs_cons (pg_name (i := 5) sc_is_table.nd rfl (Or.inl rfl)) pgs_nil))) (fun _ _ _ _ _ => pts_nil) (fun _ _ _ _ _ => (pe_tup (pa_cons (pv 5) (pa_cons (pv 4) pa_nil))))) pa_nil)))
      (pss_one (ps_if (pt_cmpR (op_neD hr.units) (pe_lc (own := [("value", 4), ("number", 5)]) (tt := tYes) rfl sc_is_table.nd (pi_list (pe_g (ok_entries_for T) hr (by decide) p0 (pa_cons (pv 0) (pa_cons (pv 1) pa_nil)))) (blkOk_by (own := [("value", 4), ("number", 5)]) (N := ["thing", "column", "index", "due", "value", "number"]) (sc := defScope s_is_table) (by decide +kernel)) (fun _ _ _ _ _ => pg_tupK (n := 2) K rfl (pgs_cons (pg_name (i := 4) sc_is_table.nd rfl (Or.inl rfl)) (pgs_cons (pg_name (i := 5) sc_is_table.nd rfl (Or.inl rfl)) pgs_nil))) (fun _ _ _ _ _ => pts_nil) (fun _ _ _ _ _ => (pe_tup (pa_cons (pv 5) (pa_cons (pv 4) pa_nil))))) (pv 3) (nomark _)) (pss_one (ps_ret pe_bl)) pss_nil)))))))
      (pss_one (ps_ret pe_bl))))), ?_⟩)
  case len => rintro vs H Q E ⟨t, n, cs, rows, b, dx, sh, r, ix, rfl, _⟩; rfl
  obtain ⟨t, n, cs, rows, b, dx, sh, r, ix, rfl, hT, hds, hsm, hok, q⟩ := h
  walk_at "rd"
  refine isi_Table T hT.ins ?_
  walk_at "rd"
  refine q_fld hT.ins (c_Table T) (no_Table_shape T) (tf_shape ..) ?_
  refine ⟨_, shD n cs, rfl, hT.shp, hsm, fun H1 ex1 => ?_⟩
  rw [hds]
  walk_at "rd"
  have hT1 := hT.ex ex1
  refine q_fld hT1.ins (c_Table T) (no_Table_shape T) (tf_shape ..) ?_
  refine q_fld hT1.ins (c_Table T) (no_Table_rows T) (tf_rows ..) ?_
  refine ⟨sh, r, n, cs, rows, rfl, hT1.shp, hT1.row, hok.asc, hok.each, fun H2 ex2 => ?_⟩
  walk_at "rd"
  have ex02 := ex1.tr ex2
  have hT2 := hT.ex ex02
  refine q_fld hT2.ins (c_Table T) (no_Table_indexes T) (tf_indexes ..) ?_
  obtain ⟨kvs0, hix⟩ := ixat_d hT2.idx
  refine isi_dict (.inl hix) ?_
  walk_at "rd"
  cases b with
  | false =>
    refine f_keys0 (d := ix) hT2.idx (fun od R y => by
      walk_at "rd"
      exact q_fld hT2.lock.ins (c_Table T) (no_Table_indexes T) (tf_indexes ..) y) ?_
    walk_at "rd"
    exact q _ ex02
  | true =>
    obtain ⟨c, b, cr, v, hcs, hix, dv⟩ := hT2.idx
    refine f_keys1 (d := ix) hix (fun od R y => by
      walk_at "rd"
      exact q_fld hT2.lock.ins (c_Table T) (no_Table_indexes T) (tf_indexes ..) y) fun od => ?_
    have hT3 : TabR K (upd H2 ix (.frz od (.dK [(.inr c, v)]))) t n cs rows dx sh r ix := hT2.lock
    have hx3 : (upd H2 ix (.frz od (.dK [(.inr c, v)]))) ix = some (.frz od (.dK [(.inr c, v)])) := upd_same
    have dv3 := Dp.lx (lk_lx hix (u := .frz od (.dK [(.inr c, v)]))) _ _ dv
    have un := fun H3 e => @unlock_ex H2 H3 ix [(.inr c, v)] od hix e
    revert hT3 hx3 dv3 un
    generalize upd H2 ix (.frz od (.dK [(.inr c, v)])) = H3
    intro hT3 hx3 dv3 un
    have hl8 : (ixE rows).length ≤ 8 := Nat.le_trans (ixE_len rows) hok.few
    walk_at "rd"
    refine q_fld hT3.ins (c_Table T) (no_Table_indexes T) (tf_indexes ..) ?_
    refine q_dget (.inr ⟨od, hx3⟩) (k := .inr c) rfl (valV_pos rfl) ?_
    refine q_fld hT3.ins (c_Table T) (no_Table_shape T) (tf_shape ..) ?_
    refine ⟨sh, n, cs, c, rfl, hT3.shp, fun H4 ex4 => ?_⟩
    have e0 : colIx c 0 cs = some 0 := by rw [hcs]; simp [colIx]
    rw [e0]
    simp only [plV]
    walk_at "rd"
    refine ⟨_, ixE rows, rfl, Dp.ex ex4 _ _ dv3, hok.ents, hl8, fun H5 ex5 => ?_⟩
    walk_at "rd"
    have ex35 := ex4.tr ex5
    refine ⟨_, ixE rows, rfl, Dp.ex ex35 _ _ dv3, ?_⟩
    have hT5 := hT3.ex ex35
    refine q_fld hT5.ins (c_Table T) (no_Table_rows T) (tf_rows ..) ?_
    obtain ⟨kvs, k1, k2⟩ := hT5.row
    refine ⟨r, kvs, rfl, k1, ?_⟩
    have elen : (ixE rows).length = kvs.length := by rw [k2.length, (ixE_perm hok.asc).length_eq, List.length_map]
    walk_at "rd"
    rw [if_neg (by simpa using (by rw [elen] : ((ixE rows).length : Int) = (kvs.length : Int)))]
    walk_at "rd"
    refine ⟨_, ixE rows, rfl, Dp.ex ex35 _ _ dv3, fun p6 ys6 H6 ex6 hp6 e6 d6 => ?_⟩
    refine lc_swap (SqL.of e6) d6 hl8 fun p7 us7 H7 ex7 hp7 e7 d7 => ?_
    walk_at "rd"
    have ex37 := ex35.tr (ex6.tr ex7)
    refine ⟨p7, us7, (ixE rows).map swp, rfl, rfl, SqL.of e7, d7, by rw [List.length_map]; exact Nat.le_trans hl8 (by decide), PySem.W.AllAlike.of fun _ _ => by simp [PySem.W.alike], PySem.W.Sortable.others fun _ => ⟨by simp, by simp⟩, fun b _ => by simp [PyData.depth],
      fun x b H' R hb ex' dx' hR => ?_, fun p8 us8 H8 ex8 hp8 e8 d8 => ?_⟩
    · obtain ⟨a, rfl, sa⟩ := dp_pr dx'
      exact ⟨a, _, _, rfl, sa, hR _ H' (exr H') (.int _)⟩
    · walk_at "rd"
      have ex38 := ex37.tr ex8
      have hT8 := hT3.ex ex38
      refine ⟨t, n, cs, rows, dx, sh, r, ix, c, b, cr, rfl, hcs, hT8, hok.asc, hok.ok.full, hok.few, fun p9 ys9 H9 ex9 hp9 e9 d9 => ?_⟩
      refine lc_swap (SqL.of e9) d9 (by rw [List.length_map]; exact hok.few) fun pA usA HA exA hpA eA dA => ?_
      rw [show (ixE rows).map swp = (ixE rows).map (fun e => (e.2, e.1)) from rfl, ixE_numbers hok.asc] at d8
      have d8' := DpAll.ex (ex9.tr exA) _ _ d8
      have e8' := (ex9.tr exA) _ _ e8
      have hv : ∀ b, b ∈ (rows.map ent).map swp → dVal b.2.d = true := by
        intro b hb
        obtain ⟨e, he, rfl⟩ := List.mem_map.mp hb
        exact (hok.ents.1 e ((ixE_perm hok.asc).mem_iff.mpr he)).1
      refine ⟨_, _, .lst (SqL.of eA) dA, .lst (SqL.of e8') d8', shaped_pr hv, shaped_pr hv, ?_⟩
      have ee : PyData.eqv (.list (((rows.map ent).map swp).map prD)) (.list (((rows.map ent).map fun e => (e.2, e.1)).map prD)) = true := by
        simp only [PyData.eqv]
        exact eqv_pr _
      rw [ee]
      walk_at "rd"
      have ex3A := ex38.tr (ex9.tr exA)
      refine ⟨ex3A _ _ hx3, ?_⟩
      walk_at "rd"
      exact q _ (ex02.tr (un _ ex3A))
end


section
variable {P : Program} {w : World} {K : PySem.W.Frag} {mg : Str → Option Value} {base : Heap}
/-! ### states -/
abbrev Stt := Option (List Rw × Bool)
def StateAt (K : PySem.W.Frag) (H : Hp) (d : Addr) (n : Str) (cs : Cols) : Stt → Prop
  | none => H d = some (.dK [])
  | some (rows, b) => ∃ t dx sh r ix, H d = some (.dK [(.inr n, .ref t)]) ∧ TabF K H t n cs rows (ixO b rows) dx sh r ix ∧ r ≠ d ∧ ix ≠ d
theorem StateAt.new {H H' : Hp} {t p : Addr} {n : Str} {cs : Cols} {rows : List Rw} {b : Bool} (hT : TabAt K H t n cs rows (ixO b rows)) (hp : H p = none) (e : Ex H H') (h : H' p = some (.dK [(.inr n, .ref t)])) : StateAt K H' p n cs (some (rows, b)) := by
  obtain ⟨dx, sh, r, ix, hF⟩ := hT
  obtain ⟨kvs, k1, _⟩ := hF.row
  obtain ⟨kvs2, k2⟩ := ixat_d hF.idx
  exact ⟨t, dx, sh, r, ix, h, hF.ex e, fun z => (by rw [z, hp] at k1; cases k1), fun z => (by rw [z, hp] at k2; cases k2)⟩
theorem StateAt.ex {H H' : Hp} {d : Addr} {n : Str} {cs : Cols} {S : Stt} (e : Ex H H') (h : StateAt K H d n cs S) : StateAt K H' d n cs S := by
  cases S with
  | none => exact e _ _ h
  | some z =>
    obtain ⟨rows, b⟩ := z
    obtain ⟨t, dx, sh, r, ix, h1, h2, h3⟩ := h
    exact ⟨t, dx, sh, r, ix, e _ _ h1, h2.ex e, h3⟩
theorem StateAt.kvs {H : Hp} {d : Addr} {n : Str} {cs : Cols} {S : Stt} (h : StateAt K H d n cs S) : ∃ kvs, H d = some (.dK kvs) ∧ kvs.length ≤ 1 ∧ ∀ m, (valV kvs (.inr m)).isSome = (S.isSome && decide (m = n)) := by
  cases S with
  | none => exact ⟨_, h, Nat.zero_le _, fun _ => rfl⟩
  | some z =>
    obtain ⟨rows, b⟩ := z
    obtain ⟨t, dx, sh, r, ix, h1, h2⟩ := h
    refine ⟨_, h1, Nat.le_refl _, fun m => ?_⟩
    by_cases e : m = n
    · subst e
      rw [valV_pos rfl]
      simp
    · rw [valV_neg (fun z => e (Sum.inr.inj z).symm)]
      simp [e]
      rfl
theorem name_str {d : PyData} (h : dName d = true) : ∃ m, d = .str m := by
  cases d with
  | str m => exact ⟨m, rfl⟩
  | _ => simp [dName] at h
def hasT (n : Str) (S : Stt) (d : PyData) : Bool := dName d && (match d with | .str m => S.isSome && decide (m = n) | _ => false)
theorem hasT_at {n : Str} {S : Stt} {d : PyData} (h : hasT n S d = true) : d = .str n ∧ ∃ z, S = some z := by
  unfold hasT at h
  simp only [Bool.and_eq_true] at h
  obtain ⟨m, rfl⟩ := name_str h.1
  simp only [Bool.and_eq_true, decide_eq_true_eq] at h
  rw [h.2.2]
  cases S with
  | none => simp at h
  | some z => exact ⟨rfl, z, rfl⟩
theorem sc_has_table : FnScope ["state", "name"] ["state", "name"] (defScope s_has_table) := ⟨rfl, rfl, rfl, by decide +kernel, rfl, by decide +kernel, by decide +kernel⟩
theorem ok_has_table (T : Tx K mg) : Gd P w K mg base CX0 2 "has_table" ["state", "name"] (fun vs H Q _ => ∃ d x dx n cs S, vs = [.ref d, x] ∧ StateAt K H d n cs S ∧ Dp K H x dx ∧ sm dx = true ∧ Q (.bl (hasT n S dx)) H) := by
  refine gd0 (f_has_table T) sc_has_table (fun _ _ _ _ _ _ us hl => match us, hl with | [_, _], _ => rfl) ?len (fun f cdv A outer s H vs Q E hr h => ⟨_, (pss_one (ps_ret (pe_and (pe_g (ok_is_name T) hr (by decide) p0 (pa_cons (pv 1) pa_nil)) (pe_one (pe_cmp (pc_din (hu_of hr) (pv 1) (pv 0))))))), ?_⟩)
  case len => rintro vs H Q E ⟨d, x, dx, n, cs, S, rfl, _⟩; rfl
  obtain ⟨d, x, dx, n, cs, S, rfl, hS, hx, hs, q⟩ := h
  walk_at "rd"
  refine ⟨x, dx, rfl, hx, hs, ?_⟩
  walk_at "rd"
  unfold hasT at q
  cases hn : dName dx with
  | false =>
    rw [hn] at q
    walk_at "rd"
    exact q
  | true =>
    rw [hn] at q
    obtain ⟨m, rfl⟩ := name_str hn
    cases hx
    walk_at "rd"
    obtain ⟨kvs, h1, _, h3⟩ := hS.kvs
    refine q_din (.inl h1) (k := .inr m) rfl ?_
    rw [h3]
    exact q
theorem sc_with_table : FnScope ["state", "table", "found"] ["state", "table"] (defScope s_with_table) := ⟨rfl, rfl, rfl, by decide +kernel, rfl, by decide +kernel, by decide +kernel⟩
theorem ok_with_table (T : Tx K mg) : Gd P w K mg base CX0 1 "with_table" ["state", "table"] (fun vs H Q _ => ∃ d t n cs kvs, vs = [.ref d, .ref t] ∧ H d = some (.dK kvs) ∧ kvs.length ≤ 1 ∧ TabW K H t n cs ∧ ∀ p H', Ex H H' → H p = none → H' p = some (.dK (putK kvs (.inr n) (.ref t))) → Q (.ref p) H') := by
  refine gd0 (f_with_table T) sc_with_table (fun _ _ _ _ _ _ us hl => match us, hl with | [_, _], _ => rfl) ?len (fun f cdv A outer s H vs Q E hr h => ⟨_, (pss_cons (ps_set (i := 2) sc_with_table.nd rfl (Or.inl rfl) (pe_callTy c_dictD (by rfl) (n_dict T) b_dict (pa_cons (pv 0) pa_nil)))
      (pss_cons (ps_dput (hu_of hr) (pv 2) (pe_ix ix_tup (pe_fld (pv 1) rfl) pe_int (fun _ _ => rfl)) (pv 1) rfl)
      (pss_one (ps_ret (pv 2))))), ?_⟩)
  case len => rintro vs H Q E ⟨d, t, n, cs, kvs, rfl, _⟩; rfl
  obtain ⟨d, t, n, cs, kvs, rfl, hd, hl, ⟨dx, sh, rr, ii, hI, hsh⟩, q⟩ := h
  walk_at "rd"
  refine q_dictD (.inl hd) fun p hp => ?_
  walk_at "rd"
  have ex : Ex H (upd H p (.dK kvs)) := Ex.nw hp
  refine q_fld (ex _ _ hI) (c_Table T) (no_Table_shape T) lk_here ?_
  obtain ⟨c, ys, h1, h2, h3⟩ := dp_shape (Dp.ex ex _ _ hsh)
  refine q_ixT h1 at0 ?_
  refine q_dput upd_same (k := .inr n) rfl (Nat.lt_of_le_of_lt hl (by decide)) ?_
  rw [upd2]
  exact q p _ (Ex.nw hp) hp upd_same
def Er (K : PySem.W.Frag) (E : XK) (x : Str) (H : Hp) : Prop := E (.ref (He.ga K x)) none H
theorem sc_need_table : FnScope ["state", "name"] ["state", "name"] (defScope s_need_table) := ⟨rfl, rfl, rfl, by decide +kernel, rfl, by decide +kernel, by decide +kernel⟩
theorem ok_need_table (T : Tx K mg) : Gd P w K mg base (L2.CX P w) 3 "need_table" ["state", "name"] (fun vs H Q E => ∃ d x dx n cs S, vs = [.ref d, x] ∧ StateAt K H d n cs S ∧ Dp K H x dx ∧ sm dx = true ∧ (hasT n S dx = false → Er K E "NoTable" H) ∧
    ∀ rows b t, hasT n S dx = true → S = some (rows, b) → dx = .str n → H d = some (.dK [(.inr n, .ref t)]) → TabAt K H t n cs rows (ixO b rows) → Q (.ref t) H) := by
  refine gdX (f_need_table T) sc_need_table (fun _ _ _ _ _ _ us hl => match us, hl with | [_, _], _ => rfl) ?len (fun f cdv A outer s H vs Q E hr h => ⟨_, (pss_cons (ps_if (pt_not (pt_val (pe_g (ok_has_table T) hr (by decide) p0 (pa_cons (pv 0) (pa_cons (pv 1) pa_nil))))) (pss_one (ps_rs rfl (takes_of rfl rfl rfl rfl) T rs_NoTable (g_NoTable T))) pss_nil)
      (pss_one (ps_ret (pe_dget (hu_of hr) (pv 0) (pv 1) (fun _ _ => rfl))))), ?_⟩)
  case len => rintro vs H Q E ⟨d, x, dx, n, cs, S, rfl, _⟩; rfl
  obtain ⟨d, x, dx, n, cs, S, rfl, hS, hx, hs, hE, q⟩ := h
  walk_at "rd"
  refine ⟨d, x, dx, n, cs, S, rfl, hS, hx, hs, ?_⟩
  cases hh : hasT n S dx with
  | false =>
    walk_at "rd"
    exact hE hh
  | true =>
    walk_at "rd"
    obtain ⟨rfl, ⟨rows, b⟩, rfl⟩ := hasT_at hh
    obtain ⟨t, dx', sh, r, ix, h1, h2, _⟩ := hS
    cases hx
    exact q_dget (.inl h1) (k := .inr n) rfl (valV_pos rfl) (q rows b t hh rfl rfl h1 ⟨dx', sh, r, ix, h2⟩)
/-! ### a shape, out of its data -/
theorem dkd_inv {d : PyData} (h : dKd d = true) : ∃ b, d = .str (kdS b) := by
  cases d with
  | str s =>
    simp only [dKd, isKd, Bool.or_eq_true, decide_eq_true_eq] at h
    rcases h with h | h
    · exact ⟨false, by rw [h]; rfl⟩
    · exact ⟨true, by rw [h]; rfl⟩
  | _ => simp [dKd] at h
theorem dcol_inv {d : PyData} (h : dCol d = true) : ∃ c, d = colD c := by
  unfold dCol at h
  split at h
  · rename_i a b
    simp only [Bool.and_eq_true] at h
    obtain ⟨m, rfl⟩ := name_str h.1
    obtain ⟨k, rfl⟩ := dkd_inv h.2
    exact ⟨(m, k), rfl⟩
  · cases h
theorem dcols_inv : ∀ {ds : List PyData} {seen : List Str}, dCols seen ds = true → ∃ cs : Cols, ds = cs.map colD
  | [], _, _ => ⟨[], rfl⟩
  | d :: ds, seen, h => by
    have hd : dCol d = true := by
      cases hc : dCol d with
      | true => rfl
      | false => rw [dcols_no hc] at h; cases h
    obtain ⟨c, rfl⟩ := dcol_inv hd
    simp only [colD, dCols, Bool.and_eq_true] at h
    obtain ⟨cs, rfl⟩ := dcols_inv h.2.2
    exact ⟨c :: cs, rfl⟩
theorem dshape_inv {d : PyData} (h : dShape d = true) : ∃ n cs, d = shD n cs ∧ cs ≠ [] ∧ dName (.str n) = true := by
  unfold dShape at h
  split at h
  · rename_i a b
    simp only [Bool.and_eq_true, decide_eq_true_eq] at h
    obtain ⟨⟨h1, h2, h3⟩, h4⟩ := h
    obtain ⟨m, rfl⟩ := name_str h1
    obtain ⟨cs, rfl⟩ := dcols_inv h4
    refine ⟨m, cs, rfl, fun e => ?_, h1⟩
    rw [e] at h2
    simp at h2
  · cases h
theorem sh_inj {n m : Str} {cs ds : Cols} (h : shD n cs = shD m ds) : n = m := by
  simp only [shD, PyData.tuple.injEq, List.cons.injEq, PyData.str.injEq] at h
  exact h.1
def spMade (K : PySem.W.Frag) : Sp := fun vs H Q E => ∃ d x dx n cs S, vs = [.ref d, x] ∧ StateAt K H d n cs S ∧ Dp K H x dx ∧ sm dx = true ∧ (dShape dx = false → ∀ H', Ex H H' → Er K E "BadShape" H') ∧
    (∀ cs', S.isSome = true → dShape dx = true → dx = shD n cs' → ∀ H', Ex H H' → Er K E "TableThere" H') ∧
    (∀ n' cs' p H', dShape dx = true → dx = shD n' cs' → (S.isSome = true → n' ≠ n) → Ex H H' → H p = none → (S = none → n' = n → cs' = cs → StateAt K H' p n cs (some ([], false))) → Q (.ref p) H')
theorem sc_made : FnScope ["state", "shape"] ["state", "shape"] (defScope s_made) := ⟨rfl, rfl, rfl, by decide +kernel, rfl, by decide +kernel, by decide +kernel⟩
theorem ok_made (T : Tx K mg) : Gd P w K mg base (L2.CX P w) 4 "made" ["state", "shape"] (spMade K) := by
  refine gdX (f_made T) sc_made (fun _ _ _ _ _ _ us hl => match us, hl with | [_, _], _ => rfl) ?len (fun f cdv A outer s H vs Q E hr h => ⟨_, (pss_cons (ps_if (pt_not (pt_val (pe_g (ok_is_shape T) hr (by decide) p0 (pa_cons (pv 1) pa_nil)))) (pss_one (ps_rs rfl (takes_of rfl rfl rfl rfl) T rs_BadShape (g_BadShape T))) pss_nil)
      (pss_cons (ps_if (pt_cmp (pc_din (hu_of hr) (pe_ix ix_tup (pv 1) pe_int (fun _ _ => rfl)) (pv 0))) (pss_one (ps_rs rfl (takes_of rfl rfl rfl rfl) T rs_TableThere (g_TableThere T))) pss_nil)
      (pss_one (ps_ret (pe_g (ok_with_table T) hr (by decide) p0 (pa_cons (pv 0) (pa_cons (pe_g (ok_new_table T) hr (by decide) p0 (pa_cons (pv 1) pa_nil)) pa_nil))))))), ?_⟩)
  case len => rintro vs H Q E ⟨d, x, dx, n, cs, S, rfl, _⟩; rfl
  obtain ⟨d, x, dx, n, cs, S, rfl, hS, hx, hs, e1, e2, q⟩ := h
  walk_at "rd"
  refine ⟨x, dx, rfl, hx, hs, fun H1 ex1 => ?_⟩
  cases hsh : dShape dx with
  | false =>
    walk_at "rd"
    exact e1 hsh H1 ex1
  | true =>
    walk_at "rd"
    obtain ⟨n', cs', rfl, hne, hnm⟩ := dshape_inv hsh
    have hx1 := Dp.ex ex1 _ _ hx
    have hx0 := hx1
    cases hx0 with
    | @tup a xs ds g1 g2 =>
      obtain ⟨ca, ys, h1, h2, h3⟩ := dp_shape hx1
      refine q_ixT h1 at0 ?_
      obtain ⟨kvs, k1, k2, k3⟩ := (hS.ex ex1).kvs
      refine q_din (.inl k1) (k := .inr n') rfl ?_
      rw [k3]
      by_cases hin : S.isSome = true ∧ n' = n
      · rw [hin.1, hin.2]
        simp only [decide_true, Bool.and_self]
        walk_at "rd"
        obtain ⟨hi, rfl⟩ := hin
        exact e2 cs' hi hsh rfl H1 ex1
      · have hz : (S.isSome && decide (n' = n)) = false := by
          cases hi : S.isSome with
          | false => rfl
          | true =>
            have : ¬ n' = n := fun e => hin ⟨hi, e⟩
            simp [this]
        rw [hz]
        walk_at "rd"
        refine ⟨a, n', cs', rfl, hx1, fun t H2 ex2 ht hT => ?_⟩
        walk_at "rd"
        obtain ⟨dx2, sh2, r2, ix2, hF⟩ := hT
        have hT' : TabAt K H2 t n' cs' [] none := ⟨dx2, sh2, r2, ix2, hF⟩
        refine ⟨d, t, n', cs', kvs, rfl, ex2 _ _ k1, k2, ⟨dx2, sh2, _, _, hF.ins, hF.shp⟩, fun p H3 ex3 hp e3 => ?_⟩
        have ex13 := ex2.tr ex3
        refine q n' cs' p H3 hsh rfl (fun hi e => hin ⟨hi, e⟩) (ex1.tr ex13) ((ex1.tr ex2).fr hp) fun hS0 hn hc => ?_
        subst hS0
        subst hn
        subst hc
        have k0 : H1 d = some (.dK []) := ex1 _ _ hS
        rw [k0] at k1
        cases k1
        exact StateAt.new (b := false) hT' hp ex3 e3
/-- the first column's name -/
def fcol : Cols → Str
  | [] => ""
  | c :: _ => c.1
def colK (cs : Cols) (d : PyData) : Bool := dName d && (match d with | .str m => (colIx m 0 cs).isSome | _ => false)
def spOrd (K : PySem.W.Frag) : Sp := fun vs H Q E => ∃ d x dx y dy n cs S, vs = [.ref d, x, y] ∧ StateAt K H d n cs S ∧ Dp K H x dx ∧ sm dx = true ∧ Dp K H y dy ∧ sm dy = true ∧ (∀ rows b, S = some (rows, b) → TbOk cs rows) ∧ (colK cs dy = true → dy = .str (fcol cs)) ∧
    (hasT n S dx = false → ∀ H', Ex H H' → Er K E "NoTable" H') ∧ (hasT n S dx = true → colK cs dy = false → ∀ H', Ex H H' → Er K E "NoColumn" H') ∧ (∀ rows, hasT n S dx = true → colK cs dy = true → S = some (rows, true) → ∀ H', Ex H H' → Er K E "IndexThere" H') ∧
    (∀ rows p H', hasT n S dx = true → colK cs dy = true → S = some (rows, false) → Ex H H' → H p = none → StateAt K H' p n cs (some (rows, true)) → Q (.ref p) H')
theorem sc_ordered_by : FnScope ["state", "name", "column", "table"] ["state", "name", "column"] (defScope s_ordered_by) := ⟨rfl, rfl, rfl, by decide +kernel, rfl, by decide +kernel, by decide +kernel⟩
theorem ok_ordered_by (T : Tx K mg) : Gd P w K mg base (L2.CX P w) 10 "ordered_by" ["state", "name", "column"] (spOrd K) := by
  refine gdX (f_ordered_by T) sc_ordered_by (fun _ _ _ _ _ _ us hl => match us, hl with | [_, _, _], _ => rfl) ?len (fun f cdv A outer s H vs Q E hr h => ⟨_, (pss_cons (ps_set (i := 3) sc_ordered_by.nd rfl (Or.inl rfl) (pe_g (ok_need_table T) hr (by decide) (pE (takes_of rfl rfl rfl rfl) (fun _ _ _ _ h => h)) (pa_cons (pv 0) (pa_cons (pv 1) pa_nil))))
      (pss_cons (ps_if (PW.pt (pw_or (pt_not (pt_val (pe_g (ok_is_name T) hr (by decide) p0 (pa_cons (pv 2) pa_nil)))) (pw_or1 (pt_cmpR o_isN (pe_g (ok_column_place T) hr (by decide) p0 (pa_cons (pe_fld (pv 3) rfl) (pa_cons (pv 2) pa_nil))) pe_non (nomark _))))) (pss_one (ps_rs rfl (takes_of rfl rfl rfl rfl) T rs_NoColumn (g_NoColumn T))) pss_nil)
      (pss_cons (ps_if (pt_cmp (pc_din (hu_of hr) (pv 2) (pe_fld (pv 3) rfl))) (pss_one (ps_rs rfl (takes_of rfl rfl rfl rfl) T rs_IndexThere (g_IndexThere T))) pss_nil)
      (pss_one (ps_ret (pe_g (ok_with_table T) hr (by decide) p0 (pa_cons (pv 0) (pa_cons (pe_g (ok_with_index T) hr (by decide) p0 (pa_cons (pv 3) (pa_cons (pv 2) pa_nil))) pa_nil)))))))), ?_⟩)
  case len => rintro vs H Q E ⟨d, x, dx, y, dy, n, cs, S, rfl, _⟩; rfl
  obtain ⟨d, x, dx, y, dy, n, cs, S, rfl, hS, hx, hs, hy, hsy, hok, hfc, e1, e2, e3, q⟩ := h
  walk_at "rd"
  refine ⟨d, x, dx, n, cs, S, rfl, hS, hx, hs, fun hh => e1 hh H (exr H), fun rows b t hn hSe hdx hd hT => ?_⟩
  subst hSe
  subst hdx
  obtain ⟨dx', sh, r, ix, hF⟩ := hT
  have tok := hok rows b rfl
  walk_at "rd"
  refine ⟨y, dy, rfl, hy, hsy, ?_⟩
  cases hnm : dName dy with
  | false =>
    walk_at "rd"
    exact e2 hn (by simp [colK, hnm]) H (exr H)
  | true =>
    walk_at "rd"
    obtain ⟨m, rfl⟩ := name_str hnm
    cases hy
    refine q_fld hF.ins (c_Table T) (no_Table_shape T) (tf_shape ..) ?_
    refine ⟨sh, n, cs, m, rfl, hF.shp, fun H1 ex1 => ?_⟩
    cases hc : colIx m 0 cs with
    | none =>
      simp only [plV]
      walk_at "rd"
      exact e2 hn (by simp [colK, hnm, hc]) H1 ex1
    | some i =>
      simp only [plV]
      walk_at "rd"
      have hck : colK cs (.str m) = true := by simp [colK, hnm, hc]
      have hm : m = fcol cs := by
        have z := hfc hck
        cases z
        rfl
      have hF1 := hF.ex ex1
      refine q_fld hF1.ins (c_Table T) (no_Table_indexes T) (tf_indexes ..) ?_
      cases b with
      | true =>
        obtain ⟨c, b, cr, v, hcs, hix, dv⟩ := hF1.idx
        have hmc : m = c := by rw [hm, hcs]; rfl
        refine q_din (.inl hix) (k := .inr m) rfl ?_
        rw [hmc, valV_pos rfl]
        simp only [Option.isSome_some]
        walk_at "rd"
        exact e3 rows hn hck rfl H1 ex1
      | false =>
        refine q_din (.inl hF1.idx) (k := .inr m) rfl ?_
        rw [valV_nil]
        simp only [Option.isSome_none]
        walk_at "rd"
        cases hcs : cs with
        | nil => exact absurd hcs tok.cols
        | cons c cr =>
          subst hcs
          refine ⟨t, n, c :: cr, rows, dx', sh, r, ix, m, c.2, cr, rfl, by rw [hm]; rfl, hF1, tok.ok, tok.few, fun t' H2 ex2 ht hT' => ?_⟩
          walk_at "rd"
          obtain ⟨dx2, sh2, r2, ix2, hF2⟩ := hT'
          have hT2 : TabAt K H2 t' n (c :: cr) rows (some (fillE [] (rows.map ent))) := ⟨dx2, sh2, r2, ix2, hF2⟩
          have ex02 := ex1.tr ex2
          refine ⟨d, t', n, c :: cr, _, rfl, ex02 _ _ hd, Nat.le_refl _, ⟨dx2, sh2, _, _, hF2.ins, hF2.shp⟩, fun p H3 ex3 hp e3' => ?_⟩
          refine q rows p H3 hn hck rfl (ex02.tr ex3) (ex02.fr hp) (StateAt.new (b := true) hT2 hp ex3 ?_)
          rw [e3']
          simp [putK]
end


section
variable {P : Program} {w : World} {K : PySem.W.Frag} {mg : Str → Option Value} {base : Heap}
theorem dcells_inv : ∀ {cs : Cols} {ds : List PyData}, ds.length = cs.length → dCells cs ds = true → ∃ row : List Cv, ds = row.map Cv.d
  | [], [], _, _ => ⟨[], rfl⟩
  | [], _ :: _, h, _ => by cases h
  | _ :: _, [], h, _ => by cases h
  | c :: cs, d :: ds, hl, h => by
    simp only [dCells, dCell, Bool.and_eq_true] at h
    obtain ⟨v, rfl⟩ := val_cv h.1.1
    obtain ⟨row, rfl⟩ := dcells_inv (by simpa using hl) h.2
    exact ⟨v :: row, rfl⟩
theorem fits_inv {cs : Cols} {d : PyData} (h : dFits cs d = true) : ∃ row, d = rowD row := by
  cases d with
  | tuple ds =>
    simp only [dFits, Bool.and_eq_true, decide_eq_true_eq] at h
    obtain ⟨row, rfl⟩ := dcells_inv h.1 h.2
    exact ⟨row, rfl⟩
  | _ => simp [dFits] at h
theorem ixE_snoc (rows : List Rw) (x : Rw) : ixE (rows ++ [x]) = insE (ixE rows) (ent x) := by
  unfold ixE fillE
  rw [List.map_append, List.foldl_append]
  rfl
theorem ixO_snoc (b : Bool) (rows : List Rw) (m : Int) (row : List Cv) : ixO b (rows ++ [(m, row)]) = (ixO b rows).map fun es => insE es (hdC row, m) := by
  cases b with
  | false => rfl
  | true =>
    show some (ixE (rows ++ [(m, row)])) = some (insE (ixE rows) (hdC row, m))
    rw [ixE_snoc]
    rfl
def spPut (K : PySem.W.Frag) : Sp := fun vs H Q E => ∃ d x dx m y dy n cs S, vs = [.ref d, x, .int m, y] ∧ StateAt K H d n cs S ∧ Dp K H x dx ∧ sm dx = true ∧ Dp K H y dy ∧ sm dy = true ∧ 1 ≤ m ∧ m ≤ 1000000000 ∧ (∀ rows b, S = some (rows, b) → TbOk cs rows ∧ rows.length ≤ 7) ∧
    (hasT n S dx = false → ∀ H', Ex H H' → Er K E "NoTable" H') ∧ (hasT n S dx = true → dFits cs dy = false → ∀ H', Ex H H' → Er K E "BadRow" H') ∧
    (∀ rows b row p H', hasT n S dx = true → S = some (rows, b) → dy = rowD row → dFits cs dy = true → Ex H H' → H p = none → ((∀ z, z ∈ rows → z.1 ≠ m) → StateAt K H' p n cs (some (rows ++ [(m, row)], b))) → Q (.ref p) H')
theorem sc_put : FnScope ["state", "name", "number", "row", "table"] ["state", "name", "number", "row"] (defScope s_put) := ⟨rfl, rfl, rfl, by decide +kernel, rfl, by decide +kernel, by decide +kernel⟩
theorem ok_put (T : Tx K mg) : Gd P w K mg base (L2.CX P w) 10 "put" ["state", "name", "number", "row"] (spPut K) := by
  refine gdX (f_put T) sc_put (fun _ _ _ _ _ _ us hl => match us, hl with | [_, _, _, _], _ => rfl) ?len (fun f cdv A outer s H vs Q E hr h => ⟨_, (pss_cons (ps_set (i := 4) sc_put.nd rfl (Or.inl rfl) (pe_g (ok_need_table T) hr (by decide) (pE (takes_of rfl rfl rfl rfl) (fun _ _ _ _ h => h)) (pa_cons (pv 0) (pa_cons (pv 1) pa_nil))))
      (pss_cons (ps_if (pt_not (pt_val (pe_g (ok_is_number T) hr (by decide) p0 (pa_cons (pv 2) pa_nil)))) (pss_one (ps_rs rfl (takes_of rfl rfl rfl rfl) T rs_BadChange (g_BadChange T))) pss_nil)
      (pss_cons (ps_if (pt_not (pt_val (pe_g (ok_fits T) hr (by decide) p0 (pa_cons (pe_fld (pv 4) rfl) (pa_cons (pv 3) pa_nil))))) (pss_one (ps_rs rfl (takes_of rfl rfl rfl rfl) T rs_BadRow (g_BadRow T))) pss_nil)
      (pss_one (ps_ret (pe_g (ok_with_table T) hr (by decide) p0 (pa_cons (pv 0) (pa_cons (pe_g (ok_with_row T) hr (by decide) p0 (pa_cons (pv 4) (pa_cons (pv 2) (pa_cons (pv 3) pa_nil)))) pa_nil)))))))), ?_⟩)
  case len => rintro vs H Q E ⟨d, x, dx, m, y, dy, n, cs, S, rfl, _⟩; rfl
  obtain ⟨d, x, dx, m, y, dy, n, cs, S, rfl, hS, hx, hs, hy, hsy, m1, m2, hok, e1, e2, q⟩ := h
  walk_at "rd"
  refine ⟨d, x, dx, n, cs, S, rfl, hS, hx, hs, fun hh => e1 hh H (exr H), fun rows b t hn hSe hdx hd hT => ?_⟩
  subst hSe
  subst hdx
  obtain ⟨dx', sh, r, ix, hF⟩ := hT
  obtain ⟨tok, h7⟩ := hok rows b rfl
  walk_at "rd"
  refine ⟨.int m, .int m, rfl, .int _, rfl, ?_⟩
  rw [show dNum (.int m) = true by simp [dNum, m1, m2]]
  walk_at "rd"
  refine q_fld hF.ins (c_Table T) (no_Table_shape T) (tf_shape ..) ?_
  refine ⟨sh, n, cs, y, dy, rfl, hF.shp, hy, hsy, fun H1 ex1 => ?_⟩
  cases hf : dFits cs dy with
  | false =>
    walk_at "rd"
    exact e2 hn hf H1 ex1
  | true =>
    walk_at "rd"
    obtain ⟨row, rfl⟩ := fits_inv hf
    have hF1 := hF.ex ex1
    have hrow : row ≠ [] := fun e => by
      have z := (fits_row hf).1
      rw [e] at z
      exact tok.cols (List.length_eq_zero_iff.mp z.symm)
    have hy1 := Dp.ex ex1 _ _ hy
    have hy2 := hy1
    cases hy2 with
    | @tup ra xs ds g1 g2 =>
      have h7e : ∀ es, ixO b rows = some es → es.length ≤ 7 := fun es he => by
        cases b with
        | false => cases he
        | true =>
          cases he
          exact Nat.le_trans (ixE_len rows) h7
      have hd1 := ex1 _ _ hd
      by_cases hin : ∃ row0, (m, row0) ∈ rows
      · refine ⟨t, n, cs, rows, ixO b rows, dx', sh, r, ix, m, ra, row, rfl, hF1, tok.ok, hy1, hrow, h7, h7e, .inr ⟨hin, fun t' H2 ex2 ht hW => ?_⟩⟩
        walk_at "rd"
        refine ⟨d, t', n, cs, _, rfl, ex2 _ _ hd1, Nat.le_refl _, hW, fun p H3 ex3 hp e3 => ?_⟩
        refine q rows b row p H3 hn rfl rfl hf (ex1.tr (ex2.tr ex3)) ((ex1.tr ex2).fr hp) fun hno => ?_
        obtain ⟨row0, h0⟩ := hin
        exact absurd rfl (hno _ h0)
      · have hno : ∀ z, z ∈ rows → z.1 ≠ m := fun z hz e => hin ⟨z.2, by rw [← e]; exact hz⟩
        refine ⟨t, n, cs, rows, ixO b rows, dx', sh, r, ix, m, ra, row, rfl, hF1, tok.ok, hy1, hrow, h7, h7e, .inl ⟨hno, fun t' H2 ex2 ht hT' => ?_⟩⟩
        walk_at "rd"
        rw [← ixO_snoc] at hT'
        obtain ⟨dx2, sh2, r2, ix2, hF2⟩ := hT'
        have hT2 : TabAt K H2 t' n cs (rows ++ [(m, row)]) (ixO b (rows ++ [(m, row)])) := ⟨dx2, sh2, r2, ix2, hF2⟩
        refine ⟨d, t', n, cs, _, rfl, ex2 _ _ hd1, Nat.le_refl _, ⟨dx2, sh2, _, _, hF2.ins, hF2.shp⟩, fun p H3 ex3 hp e3 => ?_⟩
        refine q rows b row p H3 hn rfl rfl hf (ex1.tr (ex2.tr ex3)) ((ex1.tr ex2).fr hp) fun _ => StateAt.new hT2 hp ex3 ?_
        rw [e3]
        simp [putK]
def numIn (rows : List Rw) (d : PyData) : Bool := dNum d && (match d with | .int m => rows.any fun x => decide (x.1 = m) | _ => false)
def spDrp (K : PySem.W.Frag) : Sp := fun vs H Q E => ∃ d x dx y dy n cs S, vs = [.ref d, x, y] ∧ StateAt K H d n cs S ∧ Dp K H x dx ∧ sm dx = true ∧ Dp K H y dy ∧ sm dy = true ∧ (∀ rows b, S = some (rows, b) → TbOk cs rows ∧ rows.length ≤ 7) ∧
    (hasT n S dx = false → ∀ H', Ex H H' → Er K E "NoTable" H') ∧ (∀ rows b, hasT n S dx = true → S = some (rows, b) → numIn rows dy = false → ∀ H', Ex H H' → Er K E "NoRow" H') ∧
    (∀ rows b p H', hasT n S dx = true → S = some (rows, b) → numIn rows dy = true → Ex H H' → H p = none → Q (.ref p) H')
theorem sc_dropped : FnScope ["state", "name", "number", "table"] ["state", "name", "number"] (defScope s_dropped) := ⟨rfl, rfl, rfl, by decide +kernel, rfl, by decide +kernel, by decide +kernel⟩
theorem ok_dropped (T : Tx K mg) : Gd P w K mg base (L2.CX P w) 10 "dropped" ["state", "name", "number"] (spDrp K) := by
  refine gdX (f_dropped T) sc_dropped (fun _ _ _ _ _ _ us hl => match us, hl with | [_, _, _], _ => rfl) ?len (fun f cdv A outer s H vs Q E hr h => ⟨_, (pss_cons (ps_set (i := 3) sc_dropped.nd rfl (Or.inl rfl) (pe_g (ok_need_table T) hr (by decide) (pE (takes_of rfl rfl rfl rfl) (fun _ _ _ _ h => h)) (pa_cons (pv 0) (pa_cons (pv 1) pa_nil))))
      (pss_cons (ps_if (PW.pt (pw_or (pt_not (pt_val (pe_g (ok_is_number T) hr (by decide) p0 (pa_cons (pv 2) pa_nil)))) (pw_or1 (pt_cmp (pc_dnotin (hu_of hr) (pv 2) (pe_fld (pv 3) rfl)))))) (pss_one (ps_rs rfl (takes_of rfl rfl rfl rfl) T rs_NoRow (g_NoRow T))) pss_nil)
      (pss_one (ps_ret (pe_g (ok_with_table T) hr (by decide) p0 (pa_cons (pv 0) (pa_cons (pe_g (ok_without_row T) hr (by decide) p0 (pa_cons (pv 3) (pa_cons (pv 2) pa_nil))) pa_nil))))))), ?_⟩)
  case len => rintro vs H Q E ⟨d, x, dx, y, dy, n, cs, S, rfl, _⟩; rfl
  obtain ⟨d, x, dx, y, dy, n, cs, S, rfl, hS, hx, hs, hy, hsy, hok, e1, e2, q⟩ := h
  walk_at "rd"
  refine ⟨d, x, dx, n, cs, S, rfl, hS, hx, hs, fun hh => e1 hh H (exr H), fun rows b t hn hSe hdx hd hT => ?_⟩
  subst hSe
  subst hdx
  obtain ⟨dx', sh, r, ix, hF⟩ := hT
  obtain ⟨tok, h7⟩ := hok rows b rfl
  walk_at "rd"
  refine ⟨y, dy, rfl, hy, hsy, ?_⟩
  cases hf : dNum dy with
  | false =>
    walk_at "rd"
    exact e2 rows b hn rfl (by simp [numIn, hf]) H (exr H)
  | true =>
    walk_at "rd"
    cases hy with
    | int m =>
      refine q_fld hF.ins (c_Table T) (no_Table_rows T) (tf_rows ..) ?_
      obtain ⟨kvs, k1, k2⟩ := hF.row
      refine q_din (.inl k1) (k := .inl m) rfl ?_
      by_cases hin : ∃ row0, (m, row0) ∈ rows
      · obtain ⟨row0, h0⟩ := hin
        obtain ⟨v, hv, _⟩ := k2.some_ tok.asc.nd h0
        rw [show valV kvs (.inl m) = some v from hv]
        simp only [Option.isSome_some]
        walk_at "rd"
        have h7e : ∀ es, ixO b rows = some es → es.length ≤ 7 := fun es he => by
          cases b with
          | false => cases he
          | true =>
            cases he
            exact Nat.le_trans (ixE_len rows) h7
        refine ⟨t, n, cs, rows, ixO b rows, dx', sh, r, ix, m, row0, rfl, hF, tok.ok, h0, h7e, fun t' H2 ex2 ht hW => ?_⟩
        walk_at "rd"
        refine ⟨d, t', n, cs, _, rfl, ex2 _ _ hd, Nat.le_refl _, hW, fun p H3 ex3 hp e3 => ?_⟩
        refine q rows b p H3 hn rfl ?_ (ex2.tr ex3) (ex2.fr hp)
        simp only [numIn, hf, Bool.true_and]
        exact List.any_eq_true.mpr ⟨_, h0, decide_eq_true rfl⟩
      · have hno : valV kvs (.inl m) = none := k2.none_ fun z hz e => hin ⟨z.2, by rw [← (Sum.inl.inj e : z.1 = m)]; exact hz⟩
        rw [hno]
        simp only [Option.isSome_none]
        walk_at "rd"
        refine e2 rows b hn rfl ?_ H (exr H)
        simp only [numIn, hf, Bool.true_and]
        refine List.any_eq_false.mpr fun z hz e => hin ⟨z.2, ?_⟩
        rw [← of_decide_eq_true e]
        exact hz
    | _ => simp [dNum] at hf
/-! ### one change -/
theorem isi_tupT {H : Hp} {Q : VK} {a : Addr} {xs : List V} (h : SqT K H a xs) (q : Q (.bl true) H) : rIsi K [.ref a, .ty "tuple"] H Q := ⟨.ref a, .ty "tuple", _, _, true, rfl, .ty _, tyx_t h, kit_ty kb_tuple_tuple, q⟩
theorem w1 : decide (("index" : Str) = "table") = false := by decide +kernel
theorem w2 : decide (("put" : Str) = "table") = false := by decide +kernel
theorem w3 : decide (("drop" : Str) = "table") = false := by decide +kernel
theorem w4 : decide (("put" : Str) = "index") = false := by decide +kernel
theorem w5 : decide (("drop" : Str) = "index") = false := by decide +kernel
theorem w6 : decide (("put" : Str) = "drop") = false := by decide +kernel
theorem w7 : decide (("drop" : Str) = "put") = false := by decide +kernel
theorem w8 : decide (("index" : Str) = "put") = false := by decide +kernel
theorem w9 : decide (("index" : Str) = "drop") = false := by decide +kernel
theorem nf {p : Prop} [Decidable p] (h : decide p = false) : ¬ p := of_decide_eq_false h
def spSize (K : PySem.W.Frag) : Sp := fun vs H Q _ => ∃ a xs wd k, vs = [.ref a] ∧ SqT K H a (.str wd :: xs) ∧ ((wd = "table" ∧ k = 2) ∨ (wd = "index" ∧ k = 3) ∨ (wd = "put" ∧ k = 4) ∨ (wd = "drop" ∧ k = 3)) ∧ Q (.int k) H
theorem sc_size_of : FnScope ["change"] ["change"] (defScope s_size_of) := ⟨rfl, rfl, rfl, by decide +kernel, rfl, by decide +kernel, by decide +kernel⟩
theorem ok_size_of (T : Tx K mg) : Gd P w K mg base CX0 1 "size_of" ["change"] (spSize K) := by
  refine gd0 (f_size_of T) sc_size_of (fun _ _ _ _ _ _ us hl => match us, hl with | [_], _ => rfl) ?len (fun f cdv A outer s H vs Q E hr h => ⟨_, (pss_cons (ps_if (PW.pt (pw_or (pt_not (pt_val (pe_callB call_isi (by rfl) (n_isinstance T) b_isinstance (pa_cons (pv 0) (pa_cons (pe_bt (n_tuple T) b_tuple) pa_nil))))) (pw_or (pt_cmpR op_eq (pe_callB c_len_seq (by rfl) (n_len T) b_len (pa_cons (pv 0) pa_nil)) pe_int (nomark _)) (pw_or1 (pt_not (pt_val (pe_callB call_isi (by rfl) (n_isinstance T) b_isinstance (pa_cons (pe_ix ix_tup (pv 0) pe_int (fun _ _ => rfl)) (pa_cons (pe_bt (n_str T) b_str) pa_nil))))))))) (pss_one (ps_ret pe_int)) pss_nil)
      (pss_cons (ps_if (pt_cmpR op_eq (pe_ix ix_tup (pv 0) pe_int (fun _ _ => rfl)) pe_str (nomark _)) (pss_one (ps_ret pe_int)) pss_nil)
      (pss_cons (ps_if (PW.pt (pw_or (pt_cmpR op_eq (pe_ix ix_tup (pv 0) pe_int (fun _ _ => rfl)) pe_str (nomark _)) (pw_or1 (pt_cmpR op_eq (pe_ix ix_tup (pv 0) pe_int (fun _ _ => rfl)) pe_str (nomark _))))) (pss_one (ps_ret pe_int)) pss_nil)
      (pss_cons (ps_if (pt_cmpR op_eq (pe_ix ix_tup (pv 0) pe_int (fun _ _ => rfl)) pe_str (nomark _)) (pss_one (ps_ret pe_int)) pss_nil)
      (pss_one (ps_ret pe_int)))))), ?_⟩)
  case len => rintro vs H Q E ⟨a, xs, wd, k, rfl, _⟩; rfl
  obtain ⟨a, xs, wd, k, rfl, h, hw, q⟩ := h
  walk_at "rd"
  refine isi_tupT h ?_
  walk_at "rd"
  refine q_lenT h ?_
  simp only [List.length_cons]
  walk_at "rd"
  rw [if_neg (by omega)]
  refine q_ixT h at0 ?_
  refine isi_str (.str _) ?_
  simp only [dStr]
  walk_at "rd"
  refine q_ixT h at0 ?_
  walk_at "rd"
  rcases hw with ⟨rfl, rfl⟩ | ⟨rfl, rfl⟩ | ⟨rfl, rfl⟩ | ⟨rfl, rfl⟩
  · rw [if_pos rfl]
    exact q
  · rw [if_neg (nf w1)]
    refine q_ixT h at0 ?_
    walk_at "rd"
    exact q
  · rw [if_neg (nf w2)]
    refine q_ixT h at0 ?_
    walk_at "rd"
    rw [if_neg (nf w4)]
    refine q_ixT h at0 ?_
    walk_at "rd"
    rw [if_neg (nf w6)]
    refine q_ixT h at0 ?_
    walk_at "rd"
    exact q
  · rw [if_neg (nf w3)]
    refine q_ixT h at0 ?_
    walk_at "rd"
    rw [if_neg (nf w5)]
    refine q_ixT h at0 ?_
    walk_at "rd"
    exact q
def spChg (K : PySem.W.Frag) : Sp := fun vs H Q E => ∃ d a, vs = [.ref d, .ref a] ∧ ((∃ x, SqT K H a [.str "table", x] ∧ spMade K [.ref d, x] H Q E) ∨ (∃ x y, SqT K H a [.str "index", x, y] ∧ spOrd K [.ref d, x, y] H Q E) ∨
  (∃ x y z, SqT K H a [.str "put", x, y, z] ∧ spPut K [.ref d, x, y, z] H Q E) ∨ ∃ x y, SqT K H a [.str "drop", x, y] ∧ spDrp K [.ref d, x, y] H Q E)
theorem sc_changed : FnScope ["state", "change", "size"] ["state", "change"] (defScope s_changed) := ⟨rfl, rfl, rfl, by decide +kernel, rfl, by decide +kernel, by decide +kernel⟩
theorem ok_changed (T : Tx K mg) : Gd P w K mg base (L2.CX P w) 11 "changed" ["state", "change"] (spChg K) := by
  refine gdX (f_changed T) sc_changed (fun _ _ _ _ _ _ us hl => match us, hl with | [_, _], _ => rfl) ?len (fun f cdv A outer s H vs Q E hr h => ⟨_, (pss_cons (ps_set (i := 2) sc_changed.nd rfl (Or.inl rfl) (pe_g (ok_size_of T) hr (by decide) p0 (pa_cons (pv 1) pa_nil)))
      (pss_cons (ps_if (PW.pt (pw_or (pt_cmpR op_eq (pv 2) pe_int (nomark _)) (pw_or1 (pt_cmpR op_ne (pe_callB c_len_seq (by rfl) (n_len T) b_len (pa_cons (pv 1) pa_nil)) (pv 2) (nomark _))))) (pss_one (ps_rs rfl (takes_of rfl rfl rfl rfl) T rs_BadChange (g_BadChange T))) pss_nil)
      (pss_cons (ps_if (pt_cmpR op_eq (pe_ix ix_tup (pv 1) pe_int (fun _ _ => rfl)) pe_str (nomark _)) (pss_one (ps_ret (pe_g (ok_made T) hr (by decide) (pE (takes_of rfl rfl rfl rfl) (fun _ _ _ _ h => h)) (pa_cons (pv 0) (pa_cons (pe_ix ix_tup (pv 1) pe_int (fun _ _ => rfl)) pa_nil))))) pss_nil)
      (pss_cons (ps_if (pt_cmpR op_eq (pe_ix ix_tup (pv 1) pe_int (fun _ _ => rfl)) pe_str (nomark _)) (pss_one (ps_ret (pe_g (ok_ordered_by T) hr (by decide) (pE (takes_of rfl rfl rfl rfl) (fun _ _ _ _ h => h)) (pa_cons (pv 0) (pa_cons (pe_ix ix_tup (pv 1) pe_int (fun _ _ => rfl)) (pa_cons (pe_ix ix_tup (pv 1) pe_int (fun _ _ => rfl)) pa_nil)))))) pss_nil)
      (pss_cons (ps_if (pt_cmpR op_eq (pe_ix ix_tup (pv 1) pe_int (fun _ _ => rfl)) pe_str (nomark _)) (pss_one (ps_ret (pe_g (ok_put T) hr (by decide) (pE (takes_of rfl rfl rfl rfl) (fun _ _ _ _ h => h)) (pa_cons (pv 0) (pa_cons (pe_ix ix_tup (pv 1) pe_int (fun _ _ => rfl)) (pa_cons (pe_ix ix_tup (pv 1) pe_int (fun _ _ => rfl)) (pa_cons (pe_ix ix_tup (pv 1) pe_int (fun _ _ => rfl)) pa_nil))))))) pss_nil)
      (pss_one (ps_ret (pe_g (ok_dropped T) hr (by decide) (pE (takes_of rfl rfl rfl rfl) (fun _ _ _ _ h => h)) (pa_cons (pv 0) (pa_cons (pe_ix ix_tup (pv 1) pe_int (fun _ _ => rfl)) (pa_cons (pe_ix ix_tup (pv 1) pe_int (fun _ _ => rfl)) pa_nil))))))))))), ?_⟩)
  case len => rintro vs H Q E ⟨d, a, rfl, _⟩; rfl
  obtain ⟨d, a, rfl, h⟩ := h
  walk_at "rd"
  rcases h with ⟨x, h, sp⟩ | ⟨x, y, h, sp⟩ | ⟨x, y, z, h, sp⟩ | ⟨x, y, h, sp⟩
  · refine ⟨a, _, _, 2, rfl, h, .inl ⟨rfl, rfl⟩, ?_⟩
    walk_at "rd"
    rw [if_neg (by decide)]
    refine q_lenT h ?_
    simp only [List.length_cons, List.length_nil]
    walk_at "rd"
    rw [if_neg (by simp)]
    refine q_ixT h at0 ?_
    walk_at "rd"
    exact q_ixT h at1 sp
  · refine ⟨a, _, _, 3, rfl, h, .inr (.inl ⟨rfl, rfl⟩), ?_⟩
    walk_at "rd"
    rw [if_neg (by decide)]
    refine q_lenT h ?_
    simp only [List.length_cons, List.length_nil]
    walk_at "rd"
    rw [if_neg (by simp)]
    refine q_ixT h at0 ?_
    walk_at "rd"
    rw [if_neg (nf w1)]
    refine q_ixT h at0 ?_
    walk_at "rd"
    refine q_ixT h at1 ?_
    exact q_ixT h at2 sp
  · refine ⟨a, _, _, 4, rfl, h, .inr (.inr (.inl ⟨rfl, rfl⟩)), ?_⟩
    walk_at "rd"
    rw [if_neg (by decide)]
    refine q_lenT h ?_
    simp only [List.length_cons, List.length_nil]
    walk_at "rd"
    rw [if_neg (by simp)]
    refine q_ixT h at0 ?_
    walk_at "rd"
    rw [if_neg (nf w2)]
    refine q_ixT h at0 ?_
    walk_at "rd"
    rw [if_neg (nf w4)]
    refine q_ixT h at0 ?_
    walk_at "rd"
    refine q_ixT h at1 ?_
    refine q_ixT h at2 ?_
    exact q_ixT h (atI_nat (j := 3) rfl) sp
  · refine ⟨a, _, _, 3, rfl, h, .inr (.inr (.inr ⟨rfl, rfl⟩)), ?_⟩
    walk_at "rd"
    rw [if_neg (by decide)]
    refine q_lenT h ?_
    simp only [List.length_cons, List.length_nil]
    walk_at "rd"
    rw [if_neg (by simp)]
    refine q_ixT h at0 ?_
    walk_at "rd"
    rw [if_neg (nf w3)]
    refine q_ixT h at0 ?_
    walk_at "rd"
    rw [if_neg (nf w5)]
    refine q_ixT h at0 ?_
    walk_at "rd"
    rw [if_neg (nf w7)]
    refine q_ixT h at1 ?_
    exact q_ixT h at2 sp
end


section
variable {P : Program} {w : World} {K : PySem.W.Frag} {mg : Str → Option Value} {base : Heap}
/-! ### changes as plain data -/
inductive Op where
  | mk | ix | put (m : Int) (row : List Cv)
def opD (n : Str) (cs : Cols) : Op → PyData
  | .mk => .tuple [.str "table", shD n cs]
  | .ix => .tuple [.str "index", .str n, .str (fcol cs)]
  | .put m row => .tuple [.str "put", .str n, .int m, rowD row]
def Can (cs : Cols) : Stt → Op → Stt → Prop
  | none, .mk, S => S = some ([], false)
  | some (rows, b), .put m row, S => S = some (rows ++ [(m, row)], b) ∧ TbOk cs (rows ++ [(m, row)])
  | some (rows, false), .ix, S => S = some (rows, true) ∧ TbOk cs rows
  | _, _, _ => False
def Runs (cs : Cols) : Stt → List Op → Stt → Prop
  | S, [], S' => S = S'
  | S, op :: r, S' => ∃ S1, Can cs S op S1 ∧ Runs cs S1 r S'
/-- a name and columns that make a shape -/
structure ShOk (n : Str) (cs : Cols) : Prop where
  shp : dShape (shD n cs) = true
  sms : sm (shD n cs) = true
  ne : cs ≠ []
theorem ShOk.nm {n : Str} {cs : Cols} (h : ShOk n cs) : dName (.str n) = true := by
  have z := h.shp
  simp only [shD, dShape, Bool.and_eq_true] at z
  exact z.1.1
theorem name_sm {m : Str} (h : dName (.str m) = true) : sm (.str m) = true := by
  simp only [dName, Bool.and_eq_true, decide_eq_true_eq] at h
  simp only [sm, decide_eq_true_eq]
  omega
theorem TbOk.pre {cs : Cols} {rows : List Rw} {x : Rw} (h : TbOk cs (rows ++ [x])) : TbOk cs rows ∧ rows.length ≤ 7 ∧ (∀ z, z ∈ rows → z.1 ≠ x.1) ∧ RwOk cs x := by
  have h1 : (rows ++ [x]).Pairwise (fun a b => a.1 < b.1) := List.pairwise_map.mp h.asc
  obtain ⟨p1, p2, p3⟩ := List.pairwise_append.mp h1
  have hf := h.few
  simp only [List.length_append, List.length_singleton] at hf
  exact ⟨⟨List.pairwise_map.mpr p1, fun z hz => h.each z (List.mem_append_left _ hz), by omega, h.cols⟩, by omega, fun z hz e => by
    have := p3 z hz x (List.mem_singleton_self _)
    omega, h.each x (by simp)⟩
theorem hasT_some {n : Str} {z : List Rw × Bool} (h : dName (.str n) = true) : hasT n (some z) (.str n) = true := by simp [hasT, h]
theorem colK_first {n : Str} {cs : Cols} (h : ShOk n cs) : colK cs (.str (fcol cs)) = true := by
  cases cs with
  | nil => exact absurd rfl h.ne
  | cons c cr =>
    have z := h.shp
    simp only [shD, dShape, Bool.and_eq_true, List.map_cons, colD, dCols, dCol] at z
    have z2 : dName (.str c.1) = true := z.2.1.1
    simp [colK, fcol, z2, colIx]
/-- a change that can be made, made -/
theorem chg_can {H : Hp} {Q : VK} {E : XK} {d a : Addr} {n : Str} {cs : Cols} {S S' : Stt} {op : Op} (hsh : ShOk n cs) (hS : StateAt K H d n cs S) (hop : Dp K H (.ref a) (opD n cs op)) (hc : Can cs S op S') (q : ∀ p H', Ex H H' → H p = none → StateAt K H' p n cs S' → Q (.ref p) H') : spChg K [.ref d, .ref a] H Q E := by
  refine ⟨d, a, rfl, ?_⟩
  cases op with
  | mk =>
    cases S with
    | some z => cases z; cases hc
    | none =>
      cases hc
      cases hop with
      | tup h1 h2 =>
        obtain ⟨x, y, rfl, k1, k2⟩ := dp2 h2
        cases k1
        refine .inl ⟨y, h1, d, y, _, n, cs, none, rfl, hS, k2, hsh.sms, fun z => ?_, fun cs' z => ?_, fun n' cs' p H' h1 h2 h3 ex hp hq => ?_⟩
        · rw [hsh.shp] at z; cases z
        · cases z
        · have en : n = n' := sh_inj h2
          subst en
          have ec : cs = cs' := by
            simp only [shD, PyData.tuple.injEq, List.cons.injEq, and_true, true_and] at h2
            have inj : ∀ {l m : Cols}, l.map colD = m.map colD → l = m := fun {l} => by
              induction l with
              | nil => intro m e; cases m with
                | nil => rfl
                | cons _ _ => cases e
              | cons x l ih => intro m e; cases m with
                | nil => cases e
                | cons y m =>
                  simp only [List.map_cons, List.cons.injEq] at e
                  rw [ih e.2]
                  have e1 := e.1
                  simp only [colD, PyData.tuple.injEq, List.cons.injEq, PyData.str.injEq, and_true] at e1
                  obtain ⟨x1, x2⟩ := x
                  obtain ⟨y1, y2⟩ := y
                  simp only at e1
                  have e3 : x2 = y2 := by
                    have := e1.2
                    cases x2 <;> cases y2 <;> first | rfl | exact absurd this kd_ne | exact absurd this kd_ne2
                  rw [e1.1, e3]
            exact inj h2
          subst ec
          exact q p H' ex hp (hq rfl rfl rfl)
  | ix =>
    cases S with
    | none => cases hc
    | some z =>
      obtain ⟨rows, b⟩ := z
      cases b with
      | true => cases hc
      | false =>
        obtain ⟨rfl, tok⟩ := hc
        cases hop with
        | tup h1 h2 =>
          cases h2 with | cons k1 h2 => ?_
          obtain ⟨x, y, rfl, k2, k3⟩ := dp2 h2
          cases k1
          cases k2
          cases k3
          refine .inr (.inl ⟨_, _, h1, d, _, .str n, _, .str (fcol cs), n, cs, some (rows, false), rfl, hS, .str _, name_sm hsh.nm, .str _, ?_, fun rows' b' e => ?_, fun _ => rfl, fun z => ?_, fun _ z => ?_, fun rows' _ _ e => ?_, fun rows' p H' _ _ e ex hp hq => ?_⟩)
          · have z := colK_first hsh
            simp only [colK, Bool.and_eq_true] at z
            exact name_sm z.1
          · cases e
            exact tok
          · rw [hasT_some hsh.nm] at z; cases z
          · rw [colK_first hsh] at z; cases z
          · cases e
          · cases e
            exact q p H' ex hp hq
  | put m row =>
    cases S with
    | none => cases hc
    | some z =>
      obtain ⟨rows, b⟩ := z
      obtain ⟨rfl, tok⟩ := (by cases b <;> exact hc : S' = some (rows ++ [(m, row)], b) ∧ TbOk cs (rows ++ [(m, row)]))
      obtain ⟨tok0, h7, hnew, rok⟩ := tok.pre
      cases hop with
      | tup h1 h2 =>
        cases h2 with | cons k1 h2 => ?_
        cases h2 with | cons k2 h2 => ?_
        obtain ⟨x, y, rfl, k3, k4⟩ := dp2 h2
        cases k1
        cases k2
        cases k3
        refine .inr (.inr (.inl ⟨_, _, _, h1, d, _, .str n, m, y, rowD row, n, cs, some (rows, b), rfl, hS, .str _, name_sm hsh.nm, k4, sm_row (fits_row rok.fit).2, rok.lo, rok.hi, fun rows' b' e => ?_, fun z => ?_, fun _ z => ?_, fun rows' b' row' p H' _ e e2 hf ex hp hq => ?_⟩))
        · cases e
          exact ⟨tok0, h7⟩
        · rw [hasT_some hsh.nm] at z; cases z
        · rw [rok.fit] at z; cases z
        · cases e
          have er : row = row' := by
            simp only [rowD, PyData.tuple.injEq] at e2
            have inj : ∀ {l m : List Cv}, l.map Cv.d = m.map Cv.d → l = m := fun {l} => by
              induction l with
              | nil => intro m e; cases m with
                | nil => rfl
                | cons _ _ => cases e
              | cons x l ih => intro m e; cases m with
                | nil => cases e
                | cons y m =>
                  simp only [List.map_cons, List.cons.injEq] at e
                  rw [ih e.2]
                  have e1 := e.1
                  have : x = y := by cases x <;> cases y <;> simp_all [Cv.d]
                  rw [this]
            exact inj e2
          subst er
          exact q p H' ex hp (hq hnew)
theorem sc_all_changed : FnScope ["state", "changes", "found", "change"] ["state", "changes"] (defScope s_all_changed) := ⟨rfl, rfl, rfl, by decide +kernel, rfl, by decide +kernel, by decide +kernel⟩
theorem ok_all_changed (T : Tx K mg) : Gd P w K mg base (L2.CX P w) 12 "all_changed" ["state", "changes"] (fun vs H Q E => ∃ d l ys n cs S ops S', vs = [.ref d, .ref l] ∧ ShOk n cs ∧ StateAt K H d n cs S ∧ SqL K H l ys ∧ DpAll K H ys (ops.map (opD n cs)) ∧ Runs cs S ops S' ∧ ∀ p H', Ex H H' → H p = none → StateAt K H' p n cs S' → Q (.ref p) H') := by
  refine gdX (f_all_changed T) sc_all_changed (fun _ _ _ _ _ _ us hl => match us, hl with | [_, _], _ => rfl) ?len (fun f cdv A outer s H vs Q E hr h => ⟨_, (pss_cons (ps_set (i := 2) sc_all_changed.nd rfl (Or.inl rfl) (pe_callTy c_dictD (by rfl) (n_dict T) b_dict (pa_cons (pv 0) pa_nil)))
      (pss_cons (ps_for (passes_of rfl) rfl (pi_list (pv 1)) (pg_name (i := 3) sc_all_changed.nd rfl (Or.inl rfl)) (pss_one (ps_set (i := 2) sc_all_changed.nd rfl (Or.inl rfl) (pe_g (ok_changed T) hr (by decide) (pE (takes_of rfl rfl rfl rfl) (fun _ _ _ _ h => h)) (pa_cons (pv 2) (pa_cons (pv 3) pa_nil))))))
      (pss_one (ps_ret (pv 2))))), ?_⟩)
  case len => rintro vs H Q E ⟨d, l, ys, n, cs, S, ops, S', rfl, _⟩; rfl
  obtain ⟨d, l, ys, n, cs, S, ops, S', rfl, hsh, hS, hl, hys, hr', q⟩ := h
  walk_at "rd"
  obtain ⟨kvs, hd, _, _⟩ := hS.kvs
  refine q_dictD (.inl hd) fun p hp => ?_
  walk_at "rd"
  have ex1 : Ex H (upd H p (.dK kvs)) := Ex.nw hp
  have hS1 : StateAt K (upd H p (.dK kvs)) p n cs S := by
    cases S with
    | none =>
      have h0 : H d = some (.dK []) := hS
      rw [h0] at hd
      cases hd
      exact upd_same
    | some z =>
      obtain ⟨rows, b⟩ := z
      obtain ⟨t, dx, sh, r, ix, h1, h2, _⟩ := hS
      rw [h1] at hd
      cases hd
      exact StateAt.new ⟨dx, sh, r, ix, h2⟩ hp ex1 upd_same
  refine f_lst (a := l) (xs := ys) (fun R y => by walk_at "rd"; exact y) (ex1.l hl)
    (fun r σ H' => Ex H H' ∧ ∃ f o1 ops' S1, σ = [some (.ref d), some (.ref l), some (.ref f), o1] ∧ H f = none ∧ StateAt K H' f n cs S1 ∧ DpAll K H r (List.map (opD n cs) ops') ∧ Runs cs S1 ops' S')
    ⟨ex1, p, none, ops, S, rfl, hp, hS1, hys, hr'⟩ (fun r σ H' ⟨e, _⟩ => e.l hl) ?_ ?_
  · rintro x r σ H' ⟨ex, f, o1, ops', S1, rfl, hf, hSf, hda, hrun⟩
    cases ops' with
    | nil => cases hda
    | cons op ops' =>
      cases hda with | cons kc kr => ?_
      obtain ⟨S2, hcan, hrun2⟩ := hrun
      have hx : ∃ a, x = .ref a := by
        cases op <;> (cases kc; exact ⟨_, rfl⟩)
      obtain ⟨a, rfl⟩ := hx
      walk_at "rd"
      refine chg_can hsh hSf (Dp.ex ex _ _ kc) hcan fun p2 H2 ex2 hp2 hS2 => ?_
      walk_at "rd"
      exact ⟨ex.tr ex2, p2, _, ops', S2, rfl, ex.fr hp2, hS2, kr, hrun2⟩
  · rintro σ H' ⟨ex, f, o1, ops', S1, rfl, hf, hSf, hda, hrun⟩
    cases ops' with
    | cons op ops' => cases hda
    | nil =>
      cases hrun
      walk_at "rd"
      exact q f H' ex hf hSf
theorem sc_is_state : FnScope ["state", "name"] ["state"] (defScope s_is_state) := ⟨rfl, rfl, rfl, by decide +kernel, rfl, by decide +kernel, by decide +kernel⟩
theorem ok_is_state (T : Tx K mg) : Gd P w K mg base CX0 8 "is_state" ["state"] (fun vs H Q _ => ∃ d n cs rows b, vs = [.ref d] ∧ ShOk n cs ∧ StateAt K H d n cs (some (rows, b)) ∧ TbOk cs rows ∧ ∀ H', Ex H H' → Q (.bl true) H') := by
  refine gd0 (f_is_state T) sc_is_state (fun _ _ _ _ _ _ us hl => match us, hl with | [_], _ => rfl) ?len (fun f cdv A outer s H vs Q E hr h => ⟨_, (pss_cons (ps_lock (ps_for PassesOwn.never rfl (pi_keys (pv 0)) (pg_name (i := 1) sc_is_state.nd rfl (Or.inl rfl)) (pss_one (ps_if (PW.pt (pw_or (pt_not (pt_val (pe_g (ok_is_table T) hr (by decide) p0 (pa_cons (pe_dget (hu_of hr) (pv 0) (pv 1) (fun _ _ => rfl)) pa_nil)))) (pw_or1 (pt_cmpR op_ne (pe_ix ix_tup (pe_fld (pe_dget (hu_of hr) (pv 0) (pv 1) (fun _ _ => rfl)) rfl) pe_int (fun _ _ => rfl)) (pv 1) (nomark _))))) (pss_one (ps_ret pe_bl)) pss_nil))))
      (pss_one (ps_ret pe_bl))), ?_⟩)
  case len => rintro vs H Q E ⟨d, n, cs, rows, b, rfl, _⟩; rfl
  obtain ⟨d, n, cs, rows, b, rfl, hsh, ⟨t, dx, sh, r, ix, hd, hF, nr, nx⟩, tok, q⟩ := h
  walk_at "rd"
  refine f_keys1 (d := d) hd (fun od R y => by walk_at "rd"; exact y) fun od => ?_
  have lx : Lx H (upd H d (.frz od (.dK [(.inr n, .ref t)]))) := lk_lx hd
  have nt : t ≠ d := fun e => by
    have z := hF.ins
    rw [e, hd] at z
    cases z
  have hF1 : TabF K (upd H d (.frz od (.dK [(.inr n, .ref t)]))) t n cs rows (ixO b rows) dx sh r ix := by
    obtain ⟨kvs, k1, k2⟩ := hF.row
    refine ⟨by rw [upd_ne nt]; exact hF.ins, hF.ne, Dp.lx lx _ _ hF.shp, ⟨kvs, by rw [upd_ne nr]; exact k1, k2.lx lx⟩, ?_⟩
    cases b with
    | false =>
      show upd H d _ ix = _
      rw [upd_ne nx]
      exact hF.idx
    | true =>
      obtain ⟨c, b, cr, v, hcs, hix, dv⟩ := hF.idx
      exact ⟨c, b, cr, v, hcs, by rw [upd_ne nx]; exact hix, Dp.lx lx _ _ dv⟩
  have un := fun H3 e => @unlock_ex H H3 d [(.inr n, .ref t)] od hd e
  have hd1 : (upd H d (.frz od (.dK [(.inr n, .ref t)]))) d = some (.frz od (.dK [(.inr n, .ref t)])) := upd_same
  revert hF1 un hd1
  generalize upd H d (.frz od (.dK [(.inr n, .ref t)])) = H1
  intro hF1 un hd1
  walk_at "rd"
  refine q_dget (.inr ⟨od, hd1⟩) (k := .inr n) rfl (valV_pos rfl) ?_
  refine ⟨t, n, cs, rows, b, dx, sh, r, ix, rfl, hF1, hsh.shp, hsh.sms, tok, fun H2 ex2 => ?_⟩
  walk_at "rd"
  refine q_dget (.inr ⟨od, ex2 _ _ hd1⟩) (k := .inr n) rfl (valV_pos rfl) ?_
  have hF2 := hF1.ex ex2
  refine q_fld hF2.ins (c_Table T) (no_Table_shape T) (tf_shape ..) ?_
  obtain ⟨c, ys, h1, h2, h3⟩ := dp_shape hF2.shp
  refine q_ixT h1 at0 ?_
  show rNe (.str n) (.str n) H2 _
  walk_at "rd"
  refine ⟨ex2 _ _ hd1, ?_⟩
  walk_at "rd"
  exact q _ (un _ ex2)
end


section
variable {P : Program} {w : World} {K : PySem.W.Frag} {mg : Str → Option Value} {base : Heap}
/-! ### keys of changes -/
def kyD (n : Str) (cs : Cols) : Op → PyData
  | .mk => .tuple [.str "table", .str n]
  | .ix => .tuple [.str "index", .str n, .str (fcol cs)]
  | .put m _ => .tuple [.str "row", .str n, .int m]
theorem sc_key_of : FnScope ["change"] ["change"] (defScope s_key_of) := ⟨rfl, rfl, rfl, by decide +kernel, rfl, by decide +kernel, by decide +kernel⟩
theorem ok_key_of (T : Tx K mg) : Gd P w K mg base CX0 1 "key_of" ["change"] (fun vs H Q _ => ∃ a n cs op, vs = [.ref a] ∧ Dp K H (.ref a) (opD n cs op) ∧ ∀ p H', Ex H H' → H p = none → Dp K H' (.ref p) (kyD n cs op) → Q (.ref p) H') := by
  refine gd0 (f_key_of T) sc_key_of (fun _ _ _ _ _ _ us hl => match us, hl with | [_], _ => rfl) ?len (fun f cdv A outer s H vs Q E hr h => ⟨_, (pss_cons (ps_if (pt_cmpR op_eq (pe_ix ix_tup (pv 0) pe_int (fun _ _ => rfl)) pe_str (nomark _)) (pss_one (ps_ret (pe_tup (pa_cons pe_str (pa_cons (pe_ix ix_tup (pe_ix ix_tup (pv 0) pe_int (fun _ _ => rfl)) pe_int (fun _ _ => rfl)) pa_nil))))) pss_nil)
      (pss_cons (ps_if (pt_cmpR op_eq (pe_ix ix_tup (pv 0) pe_int (fun _ _ => rfl)) pe_str (nomark _)) (pss_one (ps_ret (pe_tup (pa_cons pe_str (pa_cons (pe_ix ix_tup (pv 0) pe_int (fun _ _ => rfl)) (pa_cons (pe_ix ix_tup (pv 0) pe_int (fun _ _ => rfl)) pa_nil)))))) pss_nil)
      (pss_one (ps_ret (pe_tup (pa_cons pe_str (pa_cons (pe_ix ix_tup (pv 0) pe_int (fun _ _ => rfl)) (pa_cons (pe_ix ix_tup (pv 0) pe_int (fun _ _ => rfl)) pa_nil)))))))), ?_⟩)
  case len => rintro vs H Q E ⟨a, n, cs, op, rfl, _⟩; rfl
  obtain ⟨a, n, cs, op, rfl, h, q⟩ := h
  cases op with
  | mk =>
    cases h with
    | tup h1 h2 =>
      obtain ⟨x, y, rfl, k1, k2⟩ := dp2 h2
      cases k1
      walk_at "rd"
      refine q_ixT h1 at0 ?_
      walk_at "rd"
      refine q_ixT h1 at1 ?_
      have hy : ∃ b, y = .ref b := by cases k2; exact ⟨_, rfl⟩
      obtain ⟨b, rfl⟩ := hy
      obtain ⟨c, ys, g1, _, _⟩ := dp_shape k2
      refine q_ixT g1 at0 ?_
      exact ⟨by show 2 ≤ sizeLine; decide, fun p hp => q p _ (Ex.nw hp) hp (.tup (SqT.of upd_same) (.cons (.str _) (.cons (.str _) .nil)))⟩
  | ix =>
    cases h with
    | tup h1 h2 =>
      cases h2 with | cons k1 h2 => ?_
      obtain ⟨x, y, rfl, k2, k3⟩ := dp2 h2
      cases k1
      cases k2
      cases k3
      walk_at "rd"
      refine q_ixT h1 at0 ?_
      walk_at "rd"
      rw [if_neg (nf w1)]
      refine q_ixT h1 at0 ?_
      walk_at "rd"
      refine q_ixT h1 at1 ?_
      refine q_ixT h1 at2 ?_
      exact ⟨by show 3 ≤ sizeLine; decide, fun p hp => q p _ (Ex.nw hp) hp (.tup (SqT.of upd_same) (.cons (.str _) (.cons (.str _) (.cons (.str _) .nil))))⟩
  | put m row =>
    cases h with
    | tup h1 h2 =>
      cases h2 with | cons k1 h2 => ?_
      cases h2 with | cons k2 h2 => ?_
      obtain ⟨x, y, rfl, k3, k4⟩ := dp2 h2
      cases k1
      cases k2
      cases k3
      walk_at "rd"
      refine q_ixT h1 at0 ?_
      walk_at "rd"
      rw [if_neg (nf w2)]
      refine q_ixT h1 at0 ?_
      walk_at "rd"
      rw [if_neg (nf w4)]
      refine q_ixT h1 at1 ?_
      refine q_ixT h1 at2 ?_
      exact ⟨by show 3 ≤ sizeLine; decide, fun p hp => q p _ (Ex.nw hp) hp (.tup (SqT.of upd_same) (.cons (.str _) (.cons (.str _) (.cons (.int _) .nil))))⟩
theorem name_lay {m : Str} (h : dName (.str m) = true) : PyData.strOk m = true := by
  simp only [dName, Bool.and_eq_true, decide_eq_true_eq] at h
  simp only [PyData.strOk]
  rw [← Array.all_toList]
  refine List.all_eq_true.mpr fun c hc => ?_
  have z : ∀ c, c ∈ m.cps.toList → lett c = true := by
    have h2 := h
    simp only [List.all_eq_true] at h2
    exact h2.2
  have z2 := z c hc
  simp only [lett, Bool.and_eq_true, decide_eq_true_eq] at z2
  simp only [decide_eq_true_eq]
  omega
theorem fcol_nm {n : Str} {cs : Cols} (h : ShOk n cs) : dName (.str (fcol cs)) = true := by
  have z := colK_first h
  simp only [colK, Bool.and_eq_true] at z
  exact z.1
theorem ky_ok {n : Str} {cs : Cols} (h : ShOk n cs) (op : Op) : (kyD n cs op).canLay0 = true ∧ (kyD n cs op).depth = 1 ∧ noL (kyD n cs op) = true := by
  have h1 := name_lay h.nm
  have h2 := name_lay (fcol_nm h)
  have k1 : PyData.strOk ("table" : Str) = true := by decide +kernel
  have k2 : PyData.strOk ("index" : Str) = true := by decide +kernel
  have k3 : PyData.strOk ("row" : Str) = true := by decide +kernel
  cases op <;> simp [kyD, PyData.canLay0, PyData.canLayAll0, PyData.depth, PyData.depthAll, noL, noLA, h1, h2, k1, k2, k3]
theorem kys_ok {n : Str} {cs : Cols} (h : ShOk n cs) : ∀ l : List Op, PyData.canLayAll0 (l.map (kyD n cs)) = true ∧ PyData.depthAll (l.map (kyD n cs)) ≤ 1 ∧ noLA (l.map (kyD n cs)) = true
  | [] => ⟨rfl, Nat.zero_le _, rfl⟩
  | op :: l => by
    obtain ⟨a1, a2, a3⟩ := ky_ok h op
    obtain ⟨b1, b2, b3⟩ := kys_ok h l
    simp only [List.map_cons, PyData.canLayAll0, PyData.depthAll, noLA, a1, a2, a3, b1, b3, Bool.and_self, true_and, and_true]
    omega
theorem sh_ky {n : Str} {cs : Cols} (h : ShOk n cs) (op : Op) : SeqAt.shaped (kyD n cs op) = true := by
  obtain ⟨a1, a2, a3⟩ := ky_ok h op
  unfold SeqAt.shaped
  rw [a1, a2]
  rfl
theorem sh_kys {n : Str} {cs : Cols} (h : ShOk n cs) (l : List Op) : SeqAt.shaped (.list (l.map (kyD n cs))) = true := by
  obtain ⟨a1, a2, a3⟩ := kys_ok h l
  unfold SeqAt.shaped
  simp [PyData.canLay0, PyData.depth, a1]
  omega
theorem sc_keys_of : FnScope ["changes", "found", "change", "key"] ["changes"] (defScope s_keys_of) := ⟨rfl, rfl, rfl, by decide +kernel, rfl, by decide +kernel, by decide +kernel⟩
theorem ok_keys_of (T : Tx K mg) : Gd P w K mg base CX0 2 "keys_of" ["changes"] (fun vs H Q _ => ∃ l ys n cs, ∃ ops : List Op, vs = [.ref l] ∧ ShOk n cs ∧ SqL K H l ys ∧ DpAll K H ys (ops.map (opD n cs)) ∧ ops.length ≤ 20 ∧ ∀ p us found H', Ex H H' → H p = none → H' p = some (.lst us) → DpAll K H' us (List.map (kyD n cs) found) → Q (.ref p) H') := by
  refine gd0 (f_keys_of T) sc_keys_of (fun _ _ _ _ _ _ us hl => match us, hl with | [_], _ => rfl) ?len (fun f cdv A outer s H vs Q E hr h => ⟨_, (pss_cons (ps_set (i := 1) sc_keys_of.nd rfl (Or.inl rfl) (pe_lst pa_nil))
      (pss_cons (ps_for PassesOwn.never rfl (pi_list (pv 0)) (pg_name (i := 2) sc_keys_of.nd rfl (Or.inl rfl)) (pss_cons (ps_set (i := 3) sc_keys_of.nd rfl (Or.inl rfl) (pe_g (ok_key_of T) hr (by decide) p0 (pa_cons (pv 2) pa_nil)))
      (pss_one (ps_if (pt_cmpR (op_notInD (hu65 hr)) (pv 3) (pv 1) rfl) (pss_one (ps_expr (pe_bm PySem.F.plainAttrs_list PySem.F.slot_list_append PySem.F.type_list_append mt_append (pv 1) (pa_cons (pv 3) pa_nil)))) pss_nil))))
      (pss_one (ps_ret (pv 1))))), ?_⟩)
  case len => rintro vs H Q E ⟨l, ys, n, cs, ops, rfl, _⟩; rfl
  obtain ⟨l, ys, n, cs, ops, rfl, hsh, hl, hys, h20, q⟩ := h
  walk_at "rd"
  refine ⟨Nat.zero_le _, fun p hp => ?_⟩
  walk_at "rd"
  have ex1 : Ex H (upd H p (.lst [])) := Ex.nw hp
  refine f_lst (a := l) (xs := ys) (fun R y => by walk_at "rd"; exact y) (ex1.l hl)
    (fun r σ H' => Ex H H' ∧ ∃ o1 o2 ops' us, ∃ found : List Op, σ = [some (.ref l), some (.ref p), o1, o2] ∧ H' p = some (.lst us) ∧ DpAll K H' us (List.map (kyD n cs) found) ∧ DpAll K H r (List.map (opD n cs) ops') ∧ found.length + ops'.length ≤ 20)
    ⟨ex1, none, none, ops, [], [], rfl, upd_same, .nil, hys, by simpa using h20⟩ (fun r σ H' ⟨e, _⟩ => e.l hl) ?_ ?_
  · rintro x r σ H' ⟨ex, o1, o2, ops', us, found, rfl, hp', hus, hda, hlen⟩
    cases ops' with
    | nil => cases hda
    | cons op ops' =>
      cases hda with | cons kc kr => ?_
      have hx : ∃ a, x = .ref a := by
        cases op <;> (cases kc; exact ⟨_, rfl⟩)
      obtain ⟨a, rfl⟩ := hx
      simp only [List.length_cons] at hlen
      walk_at "rd"
      refine ⟨a, n, cs, op, rfl, Dp.ex ex _ _ kc, fun k H2 ex2 hk dk => ?_⟩
      walk_at "rd"
      have hp2 := ex2 _ _ hp'
      have hus2 := DpAll.ex ex2 _ _ hus
      refine ⟨_, _, dk, .lst (SqL.of hp2) hus2, sh_ky hsh op, sh_kys hsh found, ?_⟩
      walk_at "rd"
      refine q_iteP (fun _ => ?_) fun _ => ?_
      · refine ⟨.inl ⟨rfl, _, SqL.of hp2⟩, ?_⟩
        walk_at "rd"
        have hl2 : us.length = found.length := by rw [DpAll.length hus, List.length_map]
        refine ⟨p, _, _, rfl, rfl, hp2, Nat.lt_of_le_of_lt (by omega : us.length ≤ 20) (by decide), ?_⟩
        walk_at "rd"
        have tt : Tt H2 (upd H2 p (.lst (us ++ [.ref k]))) := Tt.up hp2 rfl
        refine ⟨(ex.tr ex2).mu hp, _, _, ops', us ++ [.ref k], found ++ [op], rfl, upd_same, ?_, kr, by rw [List.length_append, List.length_singleton]; omega⟩
        rw [List.map_append]
        exact DpAll.app (DpAll.tt tt _ _ (kys_ok hsh found).2.2 hus2) (.cons (Dp.tt tt _ _ (ky_ok hsh op).2.2 dk) .nil)
      · walk_at "rd"
        exact ⟨ex.tr ex2, _, _, ops', us, found, rfl, hp2, hus2, kr, by omega⟩
  · rintro σ H' ⟨ex, o1, o2, ops', us, found, rfl, hp', hus, hda, hlen⟩
    walk_at "rd"
    exact q p us found H' ex hp hp' hus
theorem sc_meets : FnScope ["changes", "rows", "own", "other", "key"] ["changes", "rows"] (defScope s_meets) := ⟨rfl, rfl, rfl, by decide +kernel, rfl, by decide +kernel, by decide +kernel⟩
theorem ok_meets (T : Tx K mg) : Gd P w K mg base CX0 3 "meets" ["changes", "rows"] (fun vs H Q _ => ∃ l ys n cs e, ∃ ops : List Op, vs = [.ref l, .ref e] ∧ ShOk n cs ∧ SqL K H l ys ∧ DpAll K H ys (ops.map (opD n cs)) ∧ ops.length ≤ 20 ∧ SqL K H e [] ∧ ∀ H', Ex H H' → Q (.bl false) H') := by
  refine gd0 (f_meets T) sc_meets (fun _ _ _ _ _ _ us hl => match us, hl with | [_, _], _ => rfl) ?len (fun f cdv A outer s H vs Q E hr h => ⟨_, (pss_cons (ps_set (i := 2) sc_meets.nd rfl (Or.inl rfl) (pe_g (ok_keys_of T) hr (by decide) p0 (pa_cons (pv 0) pa_nil)))
      (pss_cons (ps_for PassesOwn.never rfl (pi_list (pv 1)) (pg_name (i := 3) sc_meets.nd rfl (Or.inl rfl)) (pss_one (ps_for PassesOwn.never rfl (pi_list (pe_g (ok_keys_of T) hr (by decide) p0 (pa_cons (pv 3) pa_nil))) (pg_name (i := 4) sc_meets.nd rfl (Or.inl rfl)) (pss_one (ps_if (pt_cmpR (op_inD (hu65 hr)) (pv 4) (pv 2) rfl) (pss_one (ps_ret pe_bl)) pss_nil)))))
      (pss_one (ps_ret pe_bl)))), ?_⟩)
  case len => rintro vs H Q E ⟨l, ys, n, cs, e, ops, rfl, _⟩; rfl
  obtain ⟨l, ys, n, cs, e, ops, rfl, hsh, hl, hys, h20, he, q⟩ := h
  walk_at "rd"
  refine ⟨l, ys, n, cs, ops, rfl, hsh, hl, hys, h20, fun p us found H1 ex1 hp e1 d1 => ?_⟩
  walk_at "rd"
  refine f_lst (a := e) (xs := []) (fun R y => by walk_at "rd"; exact y) (ex1.l he)
    (fun r σ H' => r = [] ∧ Ex H H') ⟨rfl, ex1⟩ (fun r σ H' ⟨_, ex⟩ => ex.l he) ?_ ?_
  · rintro x r σ H' ⟨h, _⟩
    cases h
  · rintro σ H' ⟨_, ex⟩
    walk_at "rd"
    exact q H' ex
def numW (rows : List Rw) (d : PyData) : Bool := match d with | .int m => rows.any fun x => decide (x.1 = m) | _ => false
theorem num_dec {H : Hp} {r : Addr} {rows : List Rw} {m : Int} (h : RowsAt K H r rows) (asc : Asc rows) : ∃ kvs, H r = some (.dK kvs) ∧ (valV kvs (.inl m)).isSome = rows.any fun x => decide (x.1 = m) := by
  obtain ⟨kvs, k1, k2⟩ := h
  refine ⟨kvs, k1, ?_⟩
  by_cases hin : ∃ row0, (m, row0) ∈ rows
  · obtain ⟨row0, h0⟩ := hin
    obtain ⟨v, hv, _⟩ := k2.some_ asc.nd h0
    rw [show valV kvs (.inl m) = some v from hv]
    exact (List.any_eq_true.mpr ⟨_, h0, decide_eq_true rfl⟩).symm
  · rw [k2.none_ fun z hz e => hin ⟨z.2, by rw [← (Sum.inl.inj e : z.1 = m)]; exact hz⟩]
    refine (List.any_eq_false.mpr fun z hz e => hin ⟨z.2, ?_⟩).symm
    rw [← of_decide_eq_true e]
    exact hz
theorem sc_has_row : FnScope ["state", "table", "number"] ["state", "table", "number"] (defScope s_has_row) := ⟨rfl, rfl, rfl, by decide +kernel, rfl, by decide +kernel, by decide +kernel⟩
theorem ok_has_row (T : Tx K mg) : Gd P w K mg base CX0 1 "has_row" ["state", "table", "number"] (fun vs H Q _ => ∃ d y dy n cs rows b, vs = [.ref d, .str n, y] ∧ StateAt K H d n cs (some (rows, b)) ∧ TbOk cs rows ∧ Dp K H y dy ∧ Q (.bl (numW rows dy)) H) := by
  refine gd0 (f_has_row T) sc_has_row (fun _ _ _ _ _ _ us hl => match us, hl with | [_, _, _], _ => rfl) ?len (fun f cdv A outer s H vs Q E hr h => ⟨_, (pss_one (ps_ret (pe_and (pe_callB call_isi (by rfl) (n_isinstance T) b_isinstance (pa_cons (pv 2) (pa_cons (pe_bt (n_int T) b_int) pa_nil))) (pe_and (pe_not (pe_callB call_isi (by rfl) (n_isinstance T) b_isinstance (pa_cons (pv 2) (pa_cons (pe_bt (n_bool T) b_bool) pa_nil)))) (pe_one (pe_cmp (pc_din (hu_of hr) (pv 2) (pe_fld (pe_dget (hu_of hr) (pv 0) (pv 1) (fun _ _ => rfl)) rfl)))))))), ?_⟩)
  case len => rintro vs H Q E ⟨d, y, dy, n, cs, rows, b, rfl, _⟩; rfl
  obtain ⟨d, y, dy, n, cs, rows, b, rfl, ⟨t, dx, sh, r, ix, hd, hF, _⟩, tok, hy, q⟩ := h
  walk_at "rd"
  refine isi_int hy ?_
  cases hy with
  | int m =>
    simp only [dInt]
    walk_at "rd"
    refine isi_bool (.int m) ?_
    simp only [dBool]
    walk_at "rd"
    refine q_dget (.inl hd) (k := .inr n) rfl (valV_pos rfl) ?_
    refine q_fld hF.ins (c_Table T) (no_Table_rows T) (tf_rows ..) ?_
    obtain ⟨kvs, k1, k2⟩ := num_dec (m := m) hF.row tok.asc
    refine q_din (.inl k1) (k := .inl m) rfl ?_
    rw [k2]
    exact q
  | bl b =>
    simp only [dInt]
    walk_at "rd"
    refine isi_bool (.bl b) ?_
    simp only [dBool]
    walk_at "rd"
    exact q
  | _ =>
    simp only [dInt]
    walk_at "rd"
    exact q
end


section
variable {P : Program} {w : World} {K : PySem.W.Frag} {mg : Str → Option Value} {base : Heap}
/-! ### what stays while dealings and stores change -/
def fstF : List (Str × V) → Bool
  | [] => false
  | (f, _) :: _ => decide (f = "shape")
def keepO : HO → Bool
  | .ins _ _ fs => fstF fs
  | .frz _ u => keepO u
  | _ => true
def Kp (H H' : Hp) : Prop := ∀ a o, keepO o = true → H a = some o → H' a = some o
theorem Kp.of {H H' : Hp} (e : Ex H H') : Kp H H' := fun a o _ h => e a o h
theorem kpr (H : Hp) : Kp H H := fun _ _ _ h => h
theorem Kp.tr {H H1 H2 : Hp} (a : Kp H H1) (b : Kp H1 H2) : Kp H H2 := fun c o s h => b c o s (a c o s h)
theorem seq_keep : ∀ o : HO, seqO o = true → keepO o = true
  | .lst _, _ => rfl
  | .tup _, _ => rfl
  | .frz _ u, h => seq_keep u h
  | .ins _ _ _, h => by cases h
  | .dK _, _ => rfl
  | .dT _, _ => rfl
  | .set _ _, _ => rfl
  | .own _, _ => rfl
  | .xd _, _ => rfl
  | .met _ _, _ => rfl
  | .rng _ _, _ => rfl
  | .tbl _, _ => rfl
theorem Kp.lx {H H' : Hp} (e : Kp H H') : Lx H H' := fun a o s h => e a o (seq_keep o s) h
theorem keep_tab (C dx sh r ix : Addr) : keepO (.ins C dx (tabF sh r ix)) = true := by
  show decide (("shape" : Str) = "shape") = true
  exact decide_eq_true rfl
/-- the one instance that changed -/
theorem Kp.one {H H' : Hp} {a C dx : Addr} {fs : List (Str × V)} (h : H a = some (.ins C dx fs)) (s : fstF fs = false) (k : ∀ x o, H x = some o → x ≠ a → H' x = some o) : Kp H H' := fun b o sp hb => k b o hb fun e => by
  rw [e, h] at hb
  cases hb
  have sp2 : fstF fs = true := sp
  rw [s] at sp2
  cases sp2
theorem RowsAt.kp {H H' : Hp} {r : Addr} {rows : List Rw} (e : Kp H H') (h : RowsAt K H r rows) : RowsAt K H' r rows := by
  obtain ⟨kvs, h1, h2⟩ := h
  exact ⟨kvs, e _ _ rfl h1, h2.lx e.lx⟩
theorem IxAt.kp {H H' : Hp} {ix : Addr} {cs : Cols} {o : Option (List En)} (e : Kp H H') (h : IxAt K H ix cs o) : IxAt K H' ix cs o := by
  cases o with
  | none => exact e _ _ rfl h
  | some es =>
    obtain ⟨c, b, cr, v, h1, h2, h3⟩ := h
    exact ⟨c, b, cr, v, h1, e _ _ rfl h2, Dp.lx e.lx _ _ h3⟩
theorem TabF.kp {H H' : Hp} {t : Addr} {n : Str} {cs : Cols} {rows : List Rw} {o : Option (List En)} {dx sh r ix : Addr} (e : Kp H H') (h : TabF K H t n cs rows o dx sh r ix) : TabF K H' t n cs rows o dx sh r ix :=
  ⟨e _ _ (keep_tab ..) h.ins, h.ne, Dp.lx e.lx _ _ h.shp, h.row.kp e, h.idx.kp e⟩
theorem StateAt.kp {H H' : Hp} {d : Addr} {n : Str} {cs : Cols} {S : Stt} (e : Kp H H') (h : StateAt K H d n cs S) : StateAt K H' d n cs S := by
  cases S with
  | none => exact e _ _ rfl h
  | some z =>
    obtain ⟨rows, b⟩ := z
    obtain ⟨t, dx, sh, r, ix, h1, h2, h3⟩ := h
    exact ⟨t, dx, sh, r, ix, e _ _ rfl h1, h2.kp e, h3⟩
/-! ### stores -/
abbrev CS (K : PySem.W.Frag) : Addr := He.ga K "Store"
abbrev CD (K : PySem.W.Frag) : Addr := He.ga K "Dealing"
def stF (k p g : V) : List (Str × V) := [("kept", k), ("past", p), ("given", g)]
def deF (st b d l lv : V) : List (Str × V) := [("store", st), ("begun", b), ("seen", d), ("own", l), ("live", lv)]
theorem fst_st (k p g : V) : fstF (stF k p g) = false := by
  show decide (("kept" : Str) = "shape") = false
  decide +kernel
theorem fst_de (st b d l lv : V) : fstF (deF st b d l lv) = false := by
  show decide (("store" : Str) = "shape") = false
  decide +kernel
theorem st_kept (k p g : V) : (stF k p g).lookup ("kept" : Str) = some k := lk_here
theorem st_past (k p g : V) : (stF k p g).lookup ("past" : Str) = some p := (lk_past (by decide +kernel)).trans lk_here
theorem st_given (k p g : V) : (stF k p g).lookup ("given" : Str) = some g := (lk_past (by decide +kernel)).trans ((lk_past (by decide +kernel)).trans lk_here)
theorem st_none {m : Str} (h1 : (m == ("kept" : Str)) = false) (h2 : (m == ("past" : Str)) = false) (h3 : (m == ("given" : Str)) = false) (k p g : V) : (stF k p g).lookup m = none := (lk_past h1).trans ((lk_past h2).trans ((lk_past h3).trans rfl))
theorem de_none {m : Str} (h1 : (m == ("store" : Str)) = false) (h2 : (m == ("begun" : Str)) = false) (h3 : (m == ("seen" : Str)) = false) (h4 : (m == ("own" : Str)) = false) (h5 : (m == ("live" : Str)) = false) (st b d l lv : V) : (deF st b d l lv).lookup m = none := (lk_past h1).trans ((lk_past h2).trans ((lk_past h3).trans ((lk_past h4).trans ((lk_past h5).trans rfl))))
theorem de_store (st b d l lv : V) : (deF st b d l lv).lookup ("store" : Str) = some st := lk_here
theorem de_begun (st b d l lv : V) : (deF st b d l lv).lookup ("begun" : Str) = some b := (lk_past (by decide +kernel)).trans lk_here
theorem de_seen (st b d l lv : V) : (deF st b d l lv).lookup ("seen" : Str) = some d := (lk_past (by decide +kernel)).trans ((lk_past (by decide +kernel)).trans lk_here)
theorem de_own (st b d l lv : V) : (deF st b d l lv).lookup ("own" : Str) = some l := (lk_past (by decide +kernel)).trans ((lk_past (by decide +kernel)).trans ((lk_past (by decide +kernel)).trans lk_here))
theorem de_live (st b d l lv : V) : (deF st b d l lv).lookup ("live" : Str) = some lv := (lk_past (by decide +kernel)).trans ((lk_past (by decide +kernel)).trans ((lk_past (by decide +kernel)).trans ((lk_past (by decide +kernel)).trans lk_here)))
theorem pf_cons {f g : Str} {v x : V} {r : List (Str × V)} (h : decide (g = f) = false) : putF f v ((g, x) :: r) = (g, x) :: putF f v r := if_neg (of_decide_eq_false h)
theorem st_pk (k p g v : V) : putF "kept" v (stF k p g) = stF v p g := pf_here
theorem st_pp (k p g v : V) : putF "past" v (stF k p g) = stF k v g := by
  unfold stF
  rw [pf_cons (by decide +kernel), pf_here]
theorem st_pg (k p g v : V) : putF "given" v (stF k p g) = stF k p v := by
  unfold stF
  rw [pf_cons (by decide +kernel), pf_cons (by decide +kernel), pf_here]
theorem st_new (k p g : V) : putF "given" g (putF "past" p (putF "kept" k [])) = stF k p g := by
  show putF "given" g (putF "past" p ([("kept", k)] : List (Str × V))) = _
  rw [pf_cons (by decide +kernel)]
  show putF "given" g ([("kept", k), ("past", p)] : List (Str × V)) = _
  rw [pf_cons (by decide +kernel), pf_cons (by decide +kernel)]
  rfl
theorem de_ps (st b d l lv v : V) : putF "seen" v (deF st b d l lv) = deF st b v l lv := by
  unfold deF
  rw [pf_cons (by decide +kernel), pf_cons (by decide +kernel), pf_here]
theorem de_po (st b d l lv v : V) : putF "own" v (deF st b d l lv) = deF st b d v lv := by
  unfold deF
  rw [pf_cons (by decide +kernel), pf_cons (by decide +kernel), pf_cons (by decide +kernel), pf_here]
theorem de_pl (st b d l lv v : V) : putF "live" v (deF st b d l lv) = deF st b d l v := by
  unfold deF
  rw [pf_cons (by decide +kernel), pf_cons (by decide +kernel), pf_cons (by decide +kernel), pf_cons (by decide +kernel), pf_here]
theorem sc_Store_init : FnScope ["self"] ["self"] (defScope s_Store_init) := ⟨rfl, rfl, rfl, by decide +kernel, rfl, by decide +kernel, by decide +kernel⟩
theorem ok_Store_init (T : Tx K mg) : Md P w K mg base CX0 1 "Store" "__init__" ["self"] (fun vs H Q _ => ∃ a dx, vs = [.ref a] ∧ H a = some (.ins (CS K) dx []) ∧ ∀ k p d H', (∀ x o, H x = some o → x ≠ a → H' x = some o) → H' a = some (.ins (CS K) dx (stF (.ref k) (.ref p) (.int 0))) → H' k = some (.lst []) → H' p = some (.lst [.ref d]) → H' d = some (.dK []) → Q .non H') := by
  refine md0 (f_Store_init T) sc_Store_init (fun _ _ _ _ _ _ us hl => match us, hl with | [_], _ => rfl) ?len (fun f cdv A outer s H vs Q E hr h => ⟨_, (pss_cons (ps_fld (pv 0) (pe_lst pa_nil) rfl)
      (pss_cons (ps_fld (pv 0) (pe_lst (pa_cons pe_dnewK pa_nil)) rfl)
      (pss_one (ps_fld (pv 0) pe_int rfl)))), ?_⟩)
  case len => rintro vs H Q E ⟨a, dx, rfl, _⟩; rfl
  obtain ⟨a, dx, rfl, ha, q⟩ := h
  walk_at "rd"
  refine ⟨Nat.zero_le _, fun k hk => ?_⟩
  have nk : k ≠ a := fun e => by rw [e, ha] at hk; cases hk
  refine q_sfld (by rw [upd_ne (Ne.symm nk)]; exact ha) (c_Store T) (no_Store_kept T) (by show 0 < 1000; decide) ?_
  walk_at "rd"
  intro d hd
  walk_at "rd"
  refine ⟨by show 1 ≤ sizeLine; decide, fun p hp => ?_⟩
  have nd : d ≠ a := fun e => by rw [e, upd_same] at hd; cases hd
  have np : p ≠ a := fun e => by rw [e, upd_ne (Ne.symm nd), upd_same] at hp; cases hp
  have ndp : d ≠ p := fun e => by rw [← e, upd_same] at hp; cases hp
  have hdk : d ≠ k := fun e => by rw [e, upd_ne nk, upd_same] at hd; cases hd
  have hpk : p ≠ k := fun e => by rw [e, upd_ne (Ne.symm hdk), upd_ne nk, upd_same] at hp; cases hp
  refine q_sfld (by rw [upd_ne (Ne.symm np), upd_ne (Ne.symm nd)]; exact upd_same) (c_Store T) (no_Store_past T) (by show 1 < 1000; decide) ?_
  walk_at "rd"
  refine q_sfld upd_same (c_Store T) (no_Store_given T) (by
    show (putF "past" (.ref p) ([("kept", .ref k)] : List (Str × V))).length < 1000
    rw [pf_cons (by decide +kernel)]
    show 2 < 1000
    decide) ?_
  rw [st_new]
  refine q k p d _ (fun x o hx hne => ?_) upd_same ?_ ?_ ?_
  · have h1 : x ≠ k := ne_of_none hx hk
    have h2 : x ≠ d := fun e => by
      rw [e] at hx
      rw [upd_ne nd, upd_ne hdk, hx] at hd
      cases hd
    have h3 : x ≠ p := fun e => by
      rw [e] at hx
      rw [upd_ne (Ne.symm ndp), upd_ne np, upd_ne hpk, hx] at hp
      cases hp
    rw [upd_ne hne, upd_ne hne, upd_ne h3, upd_ne h2, upd_ne hne, upd_ne h1]
    exact hx
  · rw [upd_ne nk, upd_ne nk, upd_ne (Ne.symm hpk), upd_ne (Ne.symm hdk), upd_ne nk]
    exact upd_same
  · rw [upd_ne np, upd_ne np]
    exact upd_same
  · rw [upd_ne nd, upd_ne nd, upd_ne ndp]
    exact upd_same
theorem sc_Store_many : FnScope ["self"] ["self"] (defScope s_Store_many) := ⟨rfl, rfl, rfl, by decide +kernel, rfl, by decide +kernel, by decide +kernel⟩
theorem ok_Store_many (T : Tx K mg) : Md P w K mg base CX0 1 "Store" "many" ["self"] (fun vs H Q _ => ∃ a dx k p g ks, vs = [.ref a] ∧ H a = some (.ins (CS K) dx (stF (.ref k) p g)) ∧ SqL K H k ks ∧ Q (.int (List.length ks)) H) := by
  refine md0 (f_Store_many T) sc_Store_many (fun _ _ _ _ _ _ us hl => match us, hl with | [_], _ => rfl) ?len (fun f cdv A outer s H vs Q E hr h => ⟨_, (pss_one (ps_ret (pe_callB c_len_seq (by rfl) (n_len T) b_len (pa_cons (pe_fld (pv 0) rfl) pa_nil)))), ?_⟩)
  case len => rintro vs H Q E ⟨a, dx, k, p, g, ks, rfl, _⟩; rfl
  obtain ⟨a, dx, k, p, g, ks, rfl, ha, hk, q⟩ := h
  walk_at "rd"
  refine q_fld ha (c_Store T) (no_Store_kept T) (st_kept ..) ?_
  exact q_lenL hk q
theorem sc_Store_newest : FnScope ["self"] ["self"] (defScope s_Store_newest) := ⟨rfl, rfl, rfl, by decide +kernel, rfl, by decide +kernel, by decide +kernel⟩
theorem ok_Store_newest (T : Tx K mg) : Md P w K mg base CX0 1 "Store" "newest" ["self"] (fun vs H Q _ => ∃ a dx k p g ps d, vs = [.ref a] ∧ H a = some (.ins (CS K) dx (stF k (.ref p) g)) ∧ SqL K H p (ps ++ [d]) ∧ Q d H) := by
  refine md0 (f_Store_newest T) sc_Store_newest (fun _ _ _ _ _ _ us hl => match us, hl with | [_], _ => rfl) ?len (fun f cdv A outer s H vs Q E hr h => ⟨_, (pss_one (ps_ret (pe_ix ix_list (pe_fld (pv 0) rfl) (pe_op op_sub (pe_callB c_len_seq (by rfl) (n_len T) b_len (pa_cons (pe_fld (pv 0) rfl) pa_nil)) pe_int) (fun _ _ => rfl)))), ?_⟩)
  case len => rintro vs H Q E ⟨a, dx, k, p, g, ps, d, rfl, _⟩; rfl
  obtain ⟨a, dx, k, p, g, ps, d, rfl, ha, hp, q⟩ := h
  walk_at "rd"
  refine q_fld ha (c_Store T) (no_Store_past T) (st_past ..) ?_
  refine q_fld ha (c_Store T) (no_Store_past T) (st_past ..) ?_
  refine q_lenL hp ?_
  walk_at "rd"
  refine q_ixL hp (v := d) ?_ q
  rw [show (((ps ++ [d]).length : Nat) : Int) - 1 = (ps.length : Int) by rw [List.length_append, List.length_singleton]; omega]
  exact atI_nat (by simp)
theorem sc_Store_greatest : FnScope ["self"] ["self"] (defScope s_Store_greatest) := ⟨rfl, rfl, rfl, by decide +kernel, rfl, by decide +kernel, by decide +kernel⟩
theorem ok_Store_greatest (T : Tx K mg) : Md P w K mg base CX0 1 "Store" "greatest" ["self"] (fun vs H Q _ => ∃ a dx k p g, vs = [.ref a] ∧ H a = some (.ins (CS K) dx (stF k p g)) ∧ Q g H) := by
  refine md0 (f_Store_greatest T) sc_Store_greatest (fun _ _ _ _ _ _ us hl => match us, hl with | [_], _ => rfl) ?len (fun f cdv A outer s H vs Q E hr h => ⟨_, (pss_one (ps_ret (pe_fld (pv 0) rfl))), ?_⟩)
  case len => rintro vs H Q E ⟨a, dx, k, p, g, rfl, _⟩; rfl
  obtain ⟨a, dx, k, p, g, rfl, ha, q⟩ := h
  walk_at "rd"
  exact q_fld ha (c_Store T) (no_Store_given T) (st_given ..) q
theorem sc_Store_gave : FnScope ["self", "number"] ["self", "number"] (defScope s_Store_gave) := ⟨rfl, rfl, rfl, by decide +kernel, rfl, by decide +kernel, by decide +kernel⟩
theorem ok_Store_gave (T : Tx K mg) : Md P w K mg base CX0 1 "Store" "gave" ["self", "number"] (fun vs H Q _ => ∃ a dx k p g m, vs = [.ref a, .int m] ∧ H a = some (.ins (CS K) dx (stF k p (.int g))) ∧ g ≤ m ∧ Q .non (upd H a (.ins (CS K) dx (stF k p (.int m))))) := by
  refine md0 (f_Store_gave T) sc_Store_gave (fun _ _ _ _ _ _ us hl => match us, hl with | [_, _], _ => rfl) ?len (fun f cdv A outer s H vs Q E hr h => ⟨_, (pss_one (ps_fld (pv 0) (pe_callB (c_max2 rfl) (by rfl) (n_max T) b_max (pa_cons (pe_fld (pv 0) rfl) (pa_cons (pv 1) pa_nil))) rfl)), ?_⟩)
  case len => rintro vs H Q E ⟨a, dx, k, p, g, m, rfl, _⟩; rfl
  obtain ⟨a, dx, k, p, g, m, rfl, ha, hgm, q⟩ := h
  walk_at "rd"
  refine q_fld ha (c_Store T) (no_Store_given T) (st_given ..) ?_
  walk_at "rd"
  refine q_sfld ha (c_Store T) (no_Store_given T) (by show 3 < 1000; decide) ?_
  rw [st_pg]
  have e : (if m > g then m else g) = m := by
    by_cases h : m > g
    · rw [if_pos h]
    · rw [if_neg h]; omega
  rw [e]
  exact q
end


section
variable {P : Program} {w : World} {K : PySem.W.Frag} {mg : Str → Option Value} {base : Heap}
/-! ### promises carried on -/
theorem made_map {vs : List V} {H H1 : Hp} {Q Q' : VK} {E : XK} (e : Ex H H1) (hq : ∀ v H2, Ex H1 H2 → Q v H2 → Q' v H2) (h : spMade K vs H Q E) : spMade K vs H1 Q' E := by
  obtain ⟨d, x, dx, n, cs, S, rfl, hS, hx, hs, e1, e2, q⟩ := h
  exact ⟨d, x, dx, n, cs, S, rfl, hS.ex e, Dp.ex e _ _ hx, hs, fun z H' ex => e1 z H' (e.tr ex), fun cs' a b c H' ex => e2 cs' a b c H' (e.tr ex), fun n' cs' p H' a b c ex hp hst => hq _ _ ex (q n' cs' p H' a b c (e.tr ex) (e.fr hp) hst)⟩
theorem ord_map {vs : List V} {H H1 : Hp} {Q Q' : VK} {E : XK} (e : Ex H H1) (hq : ∀ v H2, Ex H1 H2 → Q v H2 → Q' v H2) (h : spOrd K vs H Q E) : spOrd K vs H1 Q' E := by
  obtain ⟨d, x, dx, y, dy, n, cs, S, rfl, hS, hx, hs, hy, hsy, hok, hfc, e1, e2, e3, q⟩ := h
  exact ⟨d, x, dx, y, dy, n, cs, S, rfl, hS.ex e, Dp.ex e _ _ hx, hs, Dp.ex e _ _ hy, hsy, hok, hfc, fun z H' ex => e1 z H' (e.tr ex), fun a b H' ex => e2 a b H' (e.tr ex), fun r a b c H' ex => e3 r a b c H' (e.tr ex), fun r p H' a b c ex hp hst => hq _ _ ex (q r p H' a b c (e.tr ex) (e.fr hp) hst)⟩
theorem put_map {vs : List V} {H H1 : Hp} {Q Q' : VK} {E : XK} (e : Ex H H1) (hq : ∀ v H2, Ex H1 H2 → Q v H2 → Q' v H2) (h : spPut K vs H Q E) : spPut K vs H1 Q' E := by
  obtain ⟨d, x, dx, m, y, dy, n, cs, S, rfl, hS, hx, hs, hy, hsy, m1, m2, hok, e1, e2, q⟩ := h
  exact ⟨d, x, dx, m, y, dy, n, cs, S, rfl, hS.ex e, Dp.ex e _ _ hx, hs, Dp.ex e _ _ hy, hsy, m1, m2, hok, fun z H' ex => e1 z H' (e.tr ex), fun a b H' ex => e2 a b H' (e.tr ex), fun r b row p H' a c1 c2 c3 ex hp hst => hq _ _ ex (q r b row p H' a c1 c2 c3 (e.tr ex) (e.fr hp) hst)⟩
theorem drp_map {vs : List V} {H H1 : Hp} {Q Q' : VK} {E : XK} (e : Ex H H1) (hq : ∀ v H2, Ex H1 H2 → Q v H2 → Q' v H2) (h : spDrp K vs H Q E) : spDrp K vs H1 Q' E := by
  obtain ⟨d, x, dx, y, dy, n, cs, S, rfl, hS, hx, hs, hy, hsy, hok, e1, e2, q⟩ := h
  exact ⟨d, x, dx, y, dy, n, cs, S, rfl, hS.ex e, Dp.ex e _ _ hx, hs, Dp.ex e _ _ hy, hsy, hok, fun z H' ex => e1 z H' (e.tr ex), fun r b a c1 c2 H' ex => e2 r b a c1 c2 H' (e.tr ex), fun r b p H' a c1 c2 ex hp => hq _ _ ex (q r b p H' a c1 c2 (e.tr ex) (e.fr hp))⟩
theorem chg_map {vs : List V} {H H1 : Hp} {Q Q' : VK} {E : XK} (e : Ex H H1) (hq : ∀ v H2, Ex H1 H2 → Q v H2 → Q' v H2) (h : spChg K vs H Q E) : spChg K vs H1 Q' E := by
  obtain ⟨d, a, rfl, h⟩ := h
  refine ⟨d, a, rfl, ?_⟩
  rcases h with ⟨x, h, sp⟩ | ⟨x, y, h, sp⟩ | ⟨x, y, z, h, sp⟩ | ⟨x, y, h, sp⟩
  · exact .inl ⟨x, e.t h, made_map e hq sp⟩
  · exact .inr (.inl ⟨x, y, e.t h, ord_map e hq sp⟩)
  · exact .inr (.inr (.inl ⟨x, y, z, e.t h, put_map e hq sp⟩))
  · exact .inr (.inr (.inr ⟨x, y, e.t h, drp_map e hq sp⟩))
/-- all but the object at a stays -/
def Na (a : Addr) (H H' : Hp) : Prop := ∀ y o, H y = some o → y ≠ a → H' y = some o
theorem Na.of {a : Addr} {H H' : Hp} (e : Ex H H') : Na a H H' := fun y o h _ => e y o h
theorem Na.tr {a : Addr} {H H1 H2 : Hp} (x : Na a H H1) (y : Na a H1 H2) : Na a H H2 := fun z o h ne => y z o (x z o h ne) ne
theorem Na.up {a : Addr} {H : Hp} {u : HO} : Na a H (upd H a u) := fun y o h ne => by rw [upd_ne ne]; exact h
theorem q_cat {l b : Addr} {xs zs : List V} {H : Hp} {Q : VK} (hl : H l = some (.lst xs)) (hb : H b = some (.lst zs)) (z : xs.length + zs.length ≤ 1000) (q : ∀ p H', Ex H H' → H p = none → H' p = some (.lst (xs ++ zs)) → Q (.ref p) H') : rCat (.ref l) (.ref b) H Q :=
  ⟨l, b, xs, zs, rfl, rfl, hl, hb, Nat.le_trans z (by decide), fun p hp => q p _ (Ex.nw hp) hp upd_same⟩
theorem sc_Store_grow : FnScope ["self", "changes", "state"] ["self", "changes"] (defScope s_Store_grow) := ⟨rfl, rfl, rfl, by decide +kernel, rfl, by decide +kernel, by decide +kernel⟩
theorem ok_Store_grow (T : Tx K mg) : Md P w K mg base (L2.CX P w) 13 "Store" "grow" ["self", "changes"] (fun vs H Q E => ∃ a dx k p g ks ps d l ys n cs S S', ∃ ops : List Op, vs = [.ref a, .ref l] ∧ H a = some (.ins (CS K) dx (stF (.ref k) (.ref p) g)) ∧ H k = some (.lst ks) ∧ H p = some (.lst (ps ++ [.ref d])) ∧ List.length ks ≤ 20 ∧ List.length ps ≤ 20 ∧
    ShOk n cs ∧ StateAt K H d n cs S ∧ SqL K H l ys ∧ DpAll K H ys (ops.map (opD n cs)) ∧ Runs cs S ops S' ∧
    ∀ k' p' x d' H', Na a H H' → H' a = some (.ins (CS K) dx (stF (.ref k') (.ref p') g)) → H' k' = some (.lst (ks ++ [x])) → H' p' = some (.lst (ps ++ [.ref d] ++ [.ref d'])) → StateAt K H' d' n cs S' → Q .non H') := by
  refine mdX (f_Store_grow T) sc_Store_grow (fun _ _ _ _ _ _ us hl => match us, hl with | [_, _], _ => rfl) ?len (fun f cdv A outer s H vs Q E hr h => ⟨_, (pss_cons (ps_set (i := 2) sc_Store_grow.nd rfl (Or.inl rfl) (pe_g (ok_all_changed T) hr (by decide) (pE (takes_of rfl rfl rfl rfl) (fun _ _ _ _ h => h)) (pa_cons (pe_m0 (pv 0) (c_Store T) (m_Store_newest T) (ok_Store_newest T) hr (by decide) pass0) (pa_cons (pv 1) pa_nil))))
      (pss_cons (ps_fld (pv 0) (pe_op op_cat (pe_fld (pv 0) rfl) (pe_lst (pa_cons (pe_callTy c_list_of (by rfl) (n_list T) b_list (pa_cons (pv 1) pa_nil)) pa_nil))) rfl)
      (pss_one (ps_fld (pv 0) (pe_op op_cat (pe_fld (pv 0) rfl) (pe_lst (pa_cons (pv 2) pa_nil))) rfl)))), ?_⟩)
  case len => rintro vs H Q E ⟨a, dx, k, p, g, ks, ps, d, l, ys, n, cs, S, S', ops, rfl, _⟩; rfl
  obtain ⟨a, dx, k, p, g, ks, ps, d, l, ys, n, cs, S, S', ops, rfl, ha, hk, hp, hk20, hp20, hsh, hS, hl, hys, hrun, q⟩ := h
  walk_at "rd"
  refine q_meth ha (st_none (by decide +kernel) (by decide +kernel) (by decide +kernel) ..) ?_
  refine ⟨a, dx, .ref k, p, g, ps, .ref d, rfl, ha, SqL.of hp, ?_⟩
  walk_at "rd"
  refine ⟨d, l, ys, n, cs, S, ops, S', rfl, hsh, hS, hl, hys, hrun, fun d' H1 ex1 hd' hS' => ?_⟩
  walk_at "rd"
  refine q_fld (ex1 _ _ ha) (c_Store T) (no_Store_kept T) (st_kept ..) ?_
  refine ⟨l, ys, rfl, .inl (ex1.l hl), fun c1 hc1 => ?_⟩
  refine ⟨by show 1 ≤ sizeLine; decide, fun c2 hc2 => ?_⟩
  have ex2 : Ex H1 (upd (upd H1 c1 (.lst ys)) c2 (.lst [.ref c1])) := (Ex.nw hc1).tr (Ex.nw hc2)
  have hc2' : (upd (upd H1 c1 (.lst ys)) c2 (.lst [.ref c1])) c2 = some (.lst [.ref c1]) := upd_same
  revert ex2 hc2'
  generalize upd (upd H1 c1 (.lst ys)) c2 (.lst [.ref c1]) = H2
  intro ex2 hc2'
  have ex02 := ex1.tr ex2
  refine q_cat (ex02 _ _ hk) hc2' (by simp only [List.length_singleton]; omega) fun c3 H3 ex3 hc3 e3 => ?_
  have ex03 := ex02.tr ex3
  refine q_sfld (ex03 _ _ ha) (c_Store T) (no_Store_kept T) (by show 3 < 1000; decide) ?_
  rw [st_pk]
  have na4 : Na a H3 (upd H3 a (.ins (CS K) dx (stF (.ref c3) (.ref p) g))) := Na.up
  have ha4 : (upd H3 a (.ins (CS K) dx (stF (.ref c3) (.ref p) g))) a = some (.ins (CS K) dx (stF (.ref c3) (.ref p) g)) := upd_same
  revert na4 ha4
  generalize upd H3 a (.ins (CS K) dx (stF (.ref c3) (.ref p) g)) = H4
  intro na4 ha4
  have na04 : Na a H H4 := (Na.of ex03).tr na4
  have npa : p ≠ a := fun e => by rw [e, ha] at hp; cases hp
  have nca : c3 ≠ a := fun e => by rw [e, ex02 _ _ ha] at hc3; cases hc3
  refine q_fld ha4 (c_Store T) (no_Store_past T) (st_past ..) ?_
  walk_at "rd"
  refine ⟨by show 1 ≤ sizeLine; decide, fun c4 hc4 => ?_⟩
  have ex5 : Ex H4 (upd H4 c4 (.lst [.ref d'])) := Ex.nw hc4
  refine q_cat (ex5 _ _ (na04 _ _ hp npa)) upd_same (by simp only [List.length_append, List.length_singleton]; omega) fun c5 H6 ex6 hc5 e6 => ?_
  have ex46 := ex5.tr ex6
  refine q_sfld (ex46 _ _ ha4) (c_Store T) (no_Store_past T) (by show 3 < 1000; decide) ?_
  rw [st_pp]
  have nc5 : c5 ≠ a := fun e => by rw [e, ex5 _ _ ha4] at hc5; cases hc5
  have kp1 : Kp H1 H4 := (Kp.of (ex2.tr ex3)).tr (Kp.one (ex03 _ _ ha) (fst_st ..) na4)
  have kp2 : Kp H1 (upd H6 a (.ins (CS K) dx (stF (.ref c3) (.ref c5) g))) := (kp1.tr (.of ex46)).tr (Kp.one (ex46 _ _ ha4) (fst_st ..) Na.up)
  refine q c3 c5 (.ref c1) d' _ (na04.tr ((Na.of ex46).tr Na.up)) upd_same ?_ ?_ (hS'.kp kp2)
  · rw [upd_ne nca]
    exact ex46 _ _ (na4 _ _ e3 nca)
  · rw [upd_ne nc5]
    exact e6
/-! ### dealings -/
theorem de_n1 (st b : V) : putF "begun" b ([("store", st)] : List (Str × V)) = ([("store", st), ("begun", b)] : List (Str × V)) := by
  rw [pf_cons (by decide +kernel)]; rfl
theorem de_n2 (st b d : V) : putF "seen" d ([("store", st), ("begun", b)] : List (Str × V)) = ([("store", st), ("begun", b), ("seen", d)] : List (Str × V)) := by
  rw [pf_cons (by decide +kernel), pf_cons (by decide +kernel)]; rfl
theorem de_n3 (st b d l : V) : putF "own" l ([("store", st), ("begun", b), ("seen", d)] : List (Str × V)) = ([("store", st), ("begun", b), ("seen", d), ("own", l)] : List (Str × V)) := by
  rw [pf_cons (by decide +kernel), pf_cons (by decide +kernel), pf_cons (by decide +kernel)]; rfl
theorem de_n4 (st b d l lv : V) : putF "live" lv ([("store", st), ("begun", b), ("seen", d), ("own", l)] : List (Str × V)) = deF st b d l lv := by
  rw [pf_cons (by decide +kernel), pf_cons (by decide +kernel), pf_cons (by decide +kernel), pf_cons (by decide +kernel)]; rfl
theorem sc_Dealing_init : FnScope ["self", "store"] ["self", "store"] (defScope s_Dealing_init) := ⟨rfl, rfl, rfl, by decide +kernel, rfl, by decide +kernel, by decide +kernel⟩
theorem ok_Dealing_init (T : Tx K mg) : Md P w K mg base CX0 2 "Dealing" "__init__" ["self", "store"] (fun vs H Q _ => ∃ a dx st dxs k p g ks ps d, vs = [.ref a, .ref st] ∧ H a = some (.ins (CD K) dx []) ∧ H st = some (.ins (CS K) dxs (stF (.ref k) (.ref p) g)) ∧ H k = some (.lst ks) ∧ H p = some (.lst (ps ++ [d])) ∧
    ∀ l H', Na a H H' → H l = none → H' a = some (.ins (CD K) dx (deF (.ref st) (.int (List.length ks)) d (.ref l) (.bl true))) → H' l = some (.lst []) → Q .non H') := by
  refine md0 (f_Dealing_init T) sc_Dealing_init (fun _ _ _ _ _ _ us hl => match us, hl with | [_, _], _ => rfl) ?len (fun f cdv A outer s H vs Q E hr h => ⟨_, (pss_cons (ps_fld (pv 0) (pv 1) rfl)
      (pss_cons (ps_fld (pv 0) (pe_m0 (pv 1) (c_Store T) (m_Store_many T) (ok_Store_many T) hr (by decide) pass0) rfl)
      (pss_cons (ps_fld (pv 0) (pe_m0 (pv 1) (c_Store T) (m_Store_newest T) (ok_Store_newest T) hr (by decide) pass0) rfl)
      (pss_cons (ps_fld (pv 0) (pe_lst pa_nil) rfl)
      (pss_one (ps_fld (pv 0) pe_bl rfl)))))), ?_⟩)
  case len => rintro vs H Q E ⟨a, dx, st, dxs, k, p, g, ks, ps, d, rfl, _⟩; rfl
  obtain ⟨a, dx, st, dxs, k, p, g, ks, ps, d, rfl, ha, hst, hk, hp, q⟩ := h
  have ns : st ≠ a := fun e => by
    rw [e, ha] at hst
    injection hst with h1
    injection h1 with _ _ h3
    cases h3
  have nk : k ≠ a := fun e => by rw [e, ha] at hk; cases hk
  have np : p ≠ a := fun e => by rw [e, ha] at hp; cases hp
  walk_at "rd"
  refine q_sfld ha (c_Dealing T) (no_Dealing_store T) (by show 0 < 1000; decide) ?_
  show _
  have na1 : Na a H (upd H a (.ins (CD K) dx (putF "store" (.ref st) []))) := Na.up
  have ha1 : (upd H a (.ins (CD K) dx (putF "store" (.ref st) []))) a = some (.ins (CD K) dx [("store", .ref st)]) := upd_same
  revert na1 ha1
  generalize upd H a (.ins (CD K) dx (putF "store" (.ref st) [])) = H1
  intro na1 ha1
  refine q_meth (na1 _ _ hst ns) (st_none (by decide +kernel) (by decide +kernel) (by decide +kernel) ..) ?_
  refine ⟨st, dxs, k, .ref p, g, ks, rfl, na1 _ _ hst ns, SqL.of (na1 _ _ hk nk), ?_⟩
  refine q_sfld ha1 (c_Dealing T) (no_Dealing_begun T) (by show 1 < 1000; decide) ?_
  rw [de_n1]
  have na2 : Na a H1 (upd H1 a (.ins (CD K) dx [("store", .ref st), ("begun", .int (List.length ks))])) := Na.up
  have ha2 : (upd H1 a (.ins (CD K) dx [("store", .ref st), ("begun", .int (List.length ks))])) a = some (.ins (CD K) dx [("store", .ref st), ("begun", .int (List.length ks))]) := upd_same
  revert na2 ha2
  generalize upd H1 a (.ins (CD K) dx [("store", .ref st), ("begun", .int (List.length ks))]) = H2
  intro na2 ha2
  have na02 := na1.tr na2
  refine q_meth (na02 _ _ hst ns) (st_none (by decide +kernel) (by decide +kernel) (by decide +kernel) ..) ?_
  refine ⟨st, dxs, .ref k, p, g, ps, d, rfl, na02 _ _ hst ns, SqL.of (na02 _ _ hp np), ?_⟩
  refine q_sfld ha2 (c_Dealing T) (no_Dealing_seen T) (by show 2 < 1000; decide) ?_
  rw [de_n2]
  refine ⟨Nat.zero_le _, fun l hl => ?_⟩
  have nl : l ≠ a := fun e => by rw [e, upd_same] at hl; cases hl
  refine q_sfld (by rw [upd_ne (Ne.symm nl)]; exact upd_same) (c_Dealing T) (no_Dealing_own T) (by show 3 < 1000; decide) ?_
  rw [de_n3]
  refine q_sfld upd_same (c_Dealing T) (no_Dealing_live T) (by show 4 < 1000; decide) ?_
  rw [de_n4]
  refine q l _ (fun y o hy ne => ?_) ?_ upd_same ?_
  · have hy2 := na02 _ _ hy ne
    have nyl : y ≠ l := fun e => by
      rw [e] at hy2
      rw [upd_ne nl, hy2] at hl
      cases hl
    rw [upd_ne ne, upd_ne ne, upd_ne nyl, upd_ne ne]
    exact hy2
  · cases hH : H l with
    | none => rfl
    | some o =>
      have := na02 _ _ hH nl
      rw [upd_ne nl, this] at hl
      cases hl
  · rw [upd_ne nl, upd_ne nl]
    exact upd_same
theorem sc_begin : FnScope ["store"] ["store"] (defScope s_begin) := ⟨rfl, rfl, rfl, by decide +kernel, rfl, by decide +kernel, by decide +kernel⟩
theorem ok_begin (T : Tx K mg) : Gd P w K mg base CX0 4 "begin" ["store"] (fun vs H Q _ => ∃ st dxs k p g ks ps d, vs = [.ref st] ∧ H st = some (.ins (CS K) dxs (stF (.ref k) (.ref p) g)) ∧ H k = some (.lst ks) ∧ H p = some (.lst (ps ++ [d])) ∧
    ∀ a dx l H', Ex H H' → H a = none → H l = none → H' a = some (.ins (CD K) dx (deF (.ref st) (.int (List.length ks)) d (.ref l) (.bl true))) → H' l = some (.lst []) → Q (.ref a) H') := by
  refine gd0 (f_begin T) sc_begin (fun _ _ _ _ _ _ us hl => match us, hl with | [_], _ => rfl) ?len (fun f cdv A outer s H vs Q E hr h => ⟨_, (pss_one (ps_ret (pe_mk (mk_Dealing T) (ok_Dealing_init T) hr (by decide) (g_Dealing T) (pa_cons (pv 0) pa_nil)))), ?_⟩)
  case len => rintro vs H Q E ⟨st, dxs, k, p, g, ks, ps, d, rfl, _⟩; rfl
  obtain ⟨st, dxs, k, p, g, ks, ps, d, rfl, hst, hk, hp, q⟩ := h
  walk_at "rd"
  intro a dx ha hdx ne
  have ex1 : Ex H (upd (upd H dx (.own a)) a (.ins (CD K) dx [])) := (Ex.nw hdx).tr (Ex.nw (by rw [upd_ne (Ne.symm ne)]; exact ha))
  refine ⟨a, dx, st, dxs, k, p, g, ks, ps, d, rfl, upd_same, ex1 _ _ hst, ex1 _ _ hk, ex1 _ _ hp, fun l H' na hl h1 h2 => ?_⟩
  exact q a dx l H' (fun y o hy => na _ _ (ex1 _ _ hy) (ne_of_none hy ha)) ha (ex1.fr hl) h1 h2
theorem sc_Dealing_need_open : FnScope ["self"] ["self"] (defScope s_Dealing_need_open) := ⟨rfl, rfl, rfl, by decide +kernel, rfl, by decide +kernel, by decide +kernel⟩
theorem ok_Dealing_need_open (T : Tx K mg) : Md P w K mg base (L2.CX P w) 1 "Dealing" "need_open" ["self"] (fun vs H Q E => ∃ a dx st b d l, ∃ lv : Bool, vs = [.ref a] ∧ H a = some (.ins (CD K) dx (deF st b d l (.bl lv))) ∧ (lv = false → Er K E "Over" H) ∧ (lv = true → Q .non H)) := by
  refine mdX (f_Dealing_need_open T) sc_Dealing_need_open (fun _ _ _ _ _ _ us hl => match us, hl with | [_], _ => rfl) ?len (fun f cdv A outer s H vs Q E hr h => ⟨_, (pss_one (ps_if (pt_not (pt_val (pe_fld (pv 0) rfl))) (pss_one (ps_rs rfl (takes_of rfl rfl rfl rfl) T rs_Over (g_Over T))) pss_nil)), ?_⟩)
  case len => rintro vs H Q E ⟨a, dx, st, b, d, l, lv, rfl, _⟩; rfl
  obtain ⟨a, dx, st, b, d, l, lv, rfl, ha, e1, q⟩ := h
  walk_at "rd"
  refine q_fld ha (c_Dealing T) (no_Dealing_live T) (de_live ..) ?_
  walk_at "rd"
  cases lv with
  | false =>
    walk_at "rd"
    exact e1 rfl
  | true =>
    walk_at "rd"
    exact q rfl
end


section
variable {P : Program} {w : World} {K : PySem.W.Frag} {mg : Str → Option Value} {base : Heap}
/-- fresh behind one change: fresh ahead of it -/
theorem na_none {a x : Addr} {H H' : Hp} {o u : HO} (na : Na a H H') (h' : H' a = some u) (h : H a = some o) (hx : H' x = none) : H x = none := by
  cases e : H x with
  | none => rfl
  | some z =>
    by_cases hxa : x = a
    · rw [hxa, h'] at hx
      cases hx
    · rw [na _ _ e hxa] at hx
      cases hx
def deO (K : PySem.W.Frag) (dx : Addr) (st b d l : V) (lv : Bool) : HO := .ins (CD K) dx (deF st b d l (.bl lv))
/-- behind done: the state seen is v, the change at c is the dealing's own -/
def dnQ (K : PySem.W.Frag) (H0 : Hp) (de dx : Addr) (st b : V) (lv : Bool) (ys : List V) (c : Addr) (N : Hp → Prop) : VK := fun v H1 => Ex H0 H1 → ∀ l' H', H1 l' = none → Na de H1 H' → H' de = some (deO K dx st b v (.ref l') lv) → H' l' = some (.lst (ys ++ [.ref c])) → N H'
theorem sc_Dealing_done : FnScope ["self", "change"] ["self", "change"] (defScope s_Dealing_done) := ⟨rfl, rfl, rfl, by decide +kernel, rfl, by decide +kernel, by decide +kernel⟩
theorem ok_Dealing_done (T : Tx K mg) : Md P w K mg base (L2.CX P w) 12 "Dealing" "done" ["self", "change"] (fun vs H Q E => ∃ de c dx st b d l, ∃ lv : Bool, ∃ ys : List V, vs = [.ref de, .ref c] ∧ H de = some (deO K dx st b (.ref d) (.ref l) lv) ∧ H l = some (.lst ys) ∧ ys.length ≤ 100 ∧
    spChg K [.ref d, .ref c] H (dnQ K H de dx st b lv ys c fun H' => Q .non H') E) := by
  refine mdX (f_Dealing_done T) sc_Dealing_done (fun _ _ _ _ _ _ us hl => match us, hl with | [_, _], _ => rfl) ?len (fun f cdv A outer s H vs Q E hr h => ⟨_, (pss_cons (ps_fld (pv 0) (pe_g (ok_changed T) hr (by decide) (pE (takes_of rfl rfl rfl rfl) (fun _ _ _ _ h => h)) (pa_cons (pe_fld (pv 0) rfl) (pa_cons (pv 1) pa_nil))) rfl)
      (pss_one (ps_fld (pv 0) (pe_op op_cat (pe_fld (pv 0) rfl) (pe_lst (pa_cons (pv 1) pa_nil))) rfl))), ?_⟩)
  case len => rintro vs H Q E ⟨de, c, dx, st, b, d, l, lv, ys, rfl, _⟩; rfl
  obtain ⟨de, c, dx, st, b, d, l, lv, ys, rfl, hde, hl, h100, sp⟩ := h
  have nl : l ≠ de := fun e => by rw [e, hde] at hl; cases hl
  walk_at "rd"
  refine q_fld hde (c_Dealing T) (no_Dealing_seen T) (de_seen ..) ?_
  refine chg_map (exr H) (fun v H1 ex1 hq => ?_) sp
  have hq := hq ex1
  have hde1 := ex1 _ _ hde
  refine q_sfld (ex1 _ _ hde) (c_Dealing T) (no_Dealing_seen T) (by show 5 < 1000; decide) ?_
  rw [de_ps]
  have na1 : Na de H1 (upd H1 de (.ins (CD K) dx (deF st b v (.ref l) (.bl lv)))) := Na.up
  have hd1 : (upd H1 de (.ins (CD K) dx (deF st b v (.ref l) (.bl lv)))) de = some (.ins (CD K) dx (deF st b v (.ref l) (.bl lv))) := upd_same
  revert na1 hd1
  generalize upd H1 de (.ins (CD K) dx (deF st b v (.ref l) (.bl lv))) = H2
  intro na1 hd1
  refine q_fld hd1 (c_Dealing T) (no_Dealing_own T) (de_own ..) ?_
  walk_at "rd"
  refine ⟨by show 1 ≤ sizeLine; decide, fun c1 hc1 => ?_⟩
  have ex3 : Ex H2 (upd H2 c1 (.lst [.ref c])) := Ex.nw hc1
  refine q_cat (ex3 _ _ (na1 _ _ (ex1 _ _ hl) nl)) upd_same (by simp only [List.length_singleton]; omega) fun c2 H4 ex4 hc2 e4 => ?_
  have ex24 := ex3.tr ex4
  refine q_sfld (ex24 _ _ hd1) (c_Dealing T) (no_Dealing_own T) (by show 5 < 1000; decide) ?_
  rw [de_po]
  have n2 : c2 ≠ de := fun e => by rw [e, ex3 _ _ hd1] at hc2; cases hc2
  exact hq c2 _ (na_none na1 hd1 hde1 (ex3.fr hc2)) (na1.tr ((Na.of ex24).tr Na.up)) upd_same (by rw [upd_ne n2]; exact e4)
def spD_start (K : PySem.W.Frag) : Sp := fun vs H Q E => ∃ a dx st b d l, ∃ lv : Bool, vs = [.ref a] ∧ H a = some (deO K dx st b d l lv) ∧ (lv = false → Er K E "Over" H) ∧ (lv = true → Q b H)
theorem sc_Dealing_start : FnScope ["self"] ["self"] (defScope s_Dealing_start) := ⟨rfl, rfl, rfl, by decide +kernel, rfl, by decide +kernel, by decide +kernel⟩
theorem ok_Dealing_start (T : Tx K mg) : Md P w K mg base (L2.CX P w) 2 "Dealing" "start" ["self"] (spD_start K) := by
  refine mdX (f_Dealing_start T) sc_Dealing_start (fun _ _ _ _ _ _ us hl => match us, hl with | [_], _ => rfl) ?len (fun f cdv A outer s H vs Q E hr h => ⟨_, (pss_cons (ps_expr (pe_m0 (pv 0) (c_Dealing T) (m_Dealing_need_open T) (ok_Dealing_need_open T) hr (by decide) (passes_call (takes_of rfl rfl rfl rfl) (fun _ _ _ _ h => h))))
      (pss_one (ps_ret (pe_fld (pv 0) rfl)))), ?_⟩)
  case len => rintro vs H Q E ⟨a, dx, st, b, d, l, lv, rfl, _⟩; rfl
  obtain ⟨a, dx, st, b, d, l, lv, rfl, ha, e1, q⟩ := h
  walk_at "rd"
  refine q_meth ha (de_none (by decide +kernel) (by decide +kernel) (by decide +kernel) (by decide +kernel) (by decide +kernel) ..) ?_
  refine ⟨a, dx, st, b, d, l, lv, rfl, ha, e1, fun z => ?_⟩
  exact q_fld ha (c_Dealing T) (no_Dealing_begun T) (de_begun ..) (q z)
def spD_view (K : PySem.W.Frag) : Sp := fun vs H Q E => ∃ a dx st b d l, ∃ lv : Bool, vs = [.ref a] ∧ H a = some (deO K dx st b d l lv) ∧ (lv = false → Er K E "Over" H) ∧ (lv = true → Q d H)
theorem sc_Dealing_view : FnScope ["self"] ["self"] (defScope s_Dealing_view) := ⟨rfl, rfl, rfl, by decide +kernel, rfl, by decide +kernel, by decide +kernel⟩
theorem ok_Dealing_view (T : Tx K mg) : Md P w K mg base (L2.CX P w) 2 "Dealing" "view" ["self"] (spD_view K) := by
  refine mdX (f_Dealing_view T) sc_Dealing_view (fun _ _ _ _ _ _ us hl => match us, hl with | [_], _ => rfl) ?len (fun f cdv A outer s H vs Q E hr h => ⟨_, (pss_cons (ps_expr (pe_m0 (pv 0) (c_Dealing T) (m_Dealing_need_open T) (ok_Dealing_need_open T) hr (by decide) (passes_call (takes_of rfl rfl rfl rfl) (fun _ _ _ _ h => h))))
      (pss_one (ps_ret (pe_fld (pv 0) rfl)))), ?_⟩)
  case len => rintro vs H Q E ⟨a, dx, st, b, d, l, lv, rfl, _⟩; rfl
  obtain ⟨a, dx, st, b, d, l, lv, rfl, ha, e1, q⟩ := h
  walk_at "rd"
  refine q_meth ha (de_none (by decide +kernel) (by decide +kernel) (by decide +kernel) (by decide +kernel) (by decide +kernel) ..) ?_
  refine ⟨a, dx, st, b, d, l, lv, rfl, ha, e1, fun z => ?_⟩
  exact q_fld ha (c_Dealing T) (no_Dealing_seen T) (de_seen ..) (q z)
def spD_mine (K : PySem.W.Frag) : Sp := fun vs H Q E => ∃ a dx st b d l, ∃ lv : Bool, ∃ ys : List V, vs = [.ref a] ∧ H a = some (deO K dx st b d (.ref l) lv) ∧ H l = some (.lst ys) ∧ (lv = false → Er K E "Over" H) ∧ (lv = true → ∀ p H', Ex H H' → H' p = some (.lst ys) → Q (.ref p) H')
theorem sc_Dealing_mine : FnScope ["self"] ["self"] (defScope s_Dealing_mine) := ⟨rfl, rfl, rfl, by decide +kernel, rfl, by decide +kernel, by decide +kernel⟩
theorem ok_Dealing_mine (T : Tx K mg) : Md P w K mg base (L2.CX P w) 2 "Dealing" "mine" ["self"] (spD_mine K) := by
  refine mdX (f_Dealing_mine T) sc_Dealing_mine (fun _ _ _ _ _ _ us hl => match us, hl with | [_], _ => rfl) ?len (fun f cdv A outer s H vs Q E hr h => ⟨_, (pss_cons (ps_expr (pe_m0 (pv 0) (c_Dealing T) (m_Dealing_need_open T) (ok_Dealing_need_open T) hr (by decide) (passes_call (takes_of rfl rfl rfl rfl) (fun _ _ _ _ h => h))))
      (pss_one (ps_ret (pe_callTy c_list_of (by rfl) (n_list T) b_list (pa_cons (pe_fld (pv 0) rfl) pa_nil))))), ?_⟩)
  case len => rintro vs H Q E ⟨a, dx, st, b, d, l, lv, ys, rfl, _⟩; rfl
  obtain ⟨a, dx, st, b, d, l, lv, ys, rfl, ha, hl, e1, q⟩ := h
  walk_at "rd"
  refine q_meth ha (de_none (by decide +kernel) (by decide +kernel) (by decide +kernel) (by decide +kernel) (by decide +kernel) ..) ?_
  refine ⟨a, dx, st, b, d, .ref l, lv, rfl, ha, e1, fun z => ?_⟩
  refine q_fld ha (c_Dealing T) (no_Dealing_own T) (de_own ..) ?_
  exact ⟨l, ys, rfl, .inl (SqL.of hl), fun p hp => q z p _ (Ex.nw hp) upd_same⟩
def spD_leave (K : PySem.W.Frag) : Sp := fun vs H Q E => ∃ a dx st b d l, ∃ lv : Bool, vs = [.ref a] ∧ H a = some (deO K dx st b d l lv) ∧ (lv = false → Er K E "Over" H) ∧ (lv = true → Q .non (upd H a (deO K dx st b d l false)))
theorem sc_Dealing_leave : FnScope ["self"] ["self"] (defScope s_Dealing_leave) := ⟨rfl, rfl, rfl, by decide +kernel, rfl, by decide +kernel, by decide +kernel⟩
theorem ok_Dealing_leave (T : Tx K mg) : Md P w K mg base (L2.CX P w) 2 "Dealing" "leave" ["self"] (spD_leave K) := by
  refine mdX (f_Dealing_leave T) sc_Dealing_leave (fun _ _ _ _ _ _ us hl => match us, hl with | [_], _ => rfl) ?len (fun f cdv A outer s H vs Q E hr h => ⟨_, (pss_cons (ps_expr (pe_m0 (pv 0) (c_Dealing T) (m_Dealing_need_open T) (ok_Dealing_need_open T) hr (by decide) (passes_call (takes_of rfl rfl rfl rfl) (fun _ _ _ _ h => h))))
      (pss_one (ps_fld (pv 0) pe_bl rfl))), ?_⟩)
  case len => rintro vs H Q E ⟨a, dx, st, b, d, l, lv, rfl, _⟩; rfl
  obtain ⟨a, dx, st, b, d, l, lv, rfl, ha, e1, q⟩ := h
  walk_at "rd"
  refine q_meth ha (de_none (by decide +kernel) (by decide +kernel) (by decide +kernel) (by decide +kernel) (by decide +kernel) ..) ?_
  refine ⟨a, dx, st, b, d, l, lv, rfl, ha, e1, fun z => ?_⟩
  refine q_sfld ha (c_Dealing T) (no_Dealing_live T) (by show 5 < 1000; decide) ?_
  rw [de_pl]
  exact q z
/-- behind a change told by its parts -/
def mkQ (K : PySem.W.Frag) (H0 : Hp) (de dx : Addr) (st b : V) (ys ch : List V) (N : Hp → Prop) : VK := fun v H1 => Ex H0 H1 → ∀ c l' H', H1 l' = none → SqT K H1 c ch → Na de H1 H' → H' de = some (deO K dx st b v (.ref l') true) → H' l' = some (.lst (ys ++ [.ref c])) → N H'
theorem mk_dn {H0 H1 : Hp} {de dx c : Addr} {st b v : V} {ys ch : List V} {N : Hp → Prop} {H2 : Hp} (e : Ex H0 H1) (hc : SqT K H1 c ch) (h : mkQ K H0 de dx st b ys ch N v H2) : dnQ K H1 de dx st b true ys c N v H2 := fun e2 l' H' hn na h1 h2 => h (e.tr e2) c l' H' hn (e2.t hc) na h1 h2
def spD_make (K : PySem.W.Frag) : Sp := fun vs H Q E => ∃ de dx st b d l x, ∃ lv : Bool, ∃ ys : List V, vs = [.ref de, x] ∧ H de = some (deO K dx st b (.ref d) (.ref l) lv) ∧ H l = some (.lst ys) ∧ ys.length ≤ 100 ∧ (lv = false → Er K E "Over" H) ∧
    (lv = true → spMade K [.ref d, x] H (mkQ K H de dx st b ys [.str "table", x] fun H' => Q .non H') E)
theorem sc_Dealing_make : FnScope ["self", "shape"] ["self", "shape"] (defScope s_Dealing_make) := ⟨rfl, rfl, rfl, by decide +kernel, rfl, by decide +kernel, by decide +kernel⟩
theorem ok_Dealing_make (T : Tx K mg) : Md P w K mg base (L2.CX P w) 13 "Dealing" "make" ["self", "shape"] (spD_make K) := by
  refine mdX (f_Dealing_make T) sc_Dealing_make (fun _ _ _ _ _ _ us hl => match us, hl with | [_, _], _ => rfl) ?len (fun f cdv A outer s H vs Q E hr h => ⟨_, (pss_cons (ps_expr (pe_m0 (pv 0) (c_Dealing T) (m_Dealing_need_open T) (ok_Dealing_need_open T) hr (by decide) (passes_call (takes_of rfl rfl rfl rfl) (fun _ _ _ _ h => h))))
      (pss_one (ps_expr (pe_mS (pv 0) (c_Dealing T) (m_Dealing_done T) (ok_Dealing_done T) hr (by decide) (pE (takes_of rfl rfl rfl rfl) (fun _ _ _ _ h => h)) (pa_cons (pe_tup (pa_cons pe_str (pa_cons (pv 1) pa_nil))) pa_nil))))), ?_⟩)
  case len => rintro vs H Q E ⟨de, dx, st, b, d, l, x, lv, ys, rfl, _⟩; rfl
  obtain ⟨de, dx, st, b, d, l, x, lv, ys, rfl, hde, hl, h100, e1, sp⟩ := h
  walk_at "rd"
  refine q_meth hde (de_none (by decide +kernel) (by decide +kernel) (by decide +kernel) (by decide +kernel) (by decide +kernel) ..) ?_
  refine ⟨de, dx, st, b, .ref d, .ref l, lv, rfl, hde, e1, fun z => ?_⟩
  subst z
  refine q_meth hde (de_none (by decide +kernel) (by decide +kernel) (by decide +kernel) (by decide +kernel) (by decide +kernel) ..) ?_
  walk_at "rd"
  refine ⟨by show 2 ≤ sizeLine; decide, fun c hc => ?_⟩
  have ex : Ex H (upd H c (.tup [.str "table", x])) := Ex.nw hc
  refine ⟨de, c, dx, st, b, d, l, true, ys, rfl, ex _ _ hde, ex _ _ hl, h100, d, c, rfl, .inl ⟨x, SqT.of upd_same, made_map ex (fun v H2 e2 hq => mk_dn ex (SqT.of upd_same) hq) (sp rfl)⟩⟩
def spD_order_by (K : PySem.W.Frag) : Sp := fun vs H Q E => ∃ de dx st b d l x y, ∃ lv : Bool, ∃ ys : List V, vs = [.ref de, x, y] ∧ H de = some (deO K dx st b (.ref d) (.ref l) lv) ∧ H l = some (.lst ys) ∧ ys.length ≤ 100 ∧ (lv = false → Er K E "Over" H) ∧
    (lv = true → spOrd K [.ref d, x, y] H (mkQ K H de dx st b ys [.str "index", x, y] fun H' => Q .non H') E)
theorem sc_Dealing_order_by : FnScope ["self", "table", "column"] ["self", "table", "column"] (defScope s_Dealing_order_by) := ⟨rfl, rfl, rfl, by decide +kernel, rfl, by decide +kernel, by decide +kernel⟩
theorem ok_Dealing_order_by (T : Tx K mg) : Md P w K mg base (L2.CX P w) 13 "Dealing" "order_by" ["self", "table", "column"] (spD_order_by K) := by
  refine mdX (f_Dealing_order_by T) sc_Dealing_order_by (fun _ _ _ _ _ _ us hl => match us, hl with | [_, _, _], _ => rfl) ?len (fun f cdv A outer s H vs Q E hr h => ⟨_, (pss_cons (ps_expr (pe_m0 (pv 0) (c_Dealing T) (m_Dealing_need_open T) (ok_Dealing_need_open T) hr (by decide) (passes_call (takes_of rfl rfl rfl rfl) (fun _ _ _ _ h => h))))
      (pss_one (ps_expr (pe_mS (pv 0) (c_Dealing T) (m_Dealing_done T) (ok_Dealing_done T) hr (by decide) (pE (takes_of rfl rfl rfl rfl) (fun _ _ _ _ h => h)) (pa_cons (pe_tup (pa_cons pe_str (pa_cons (pv 1) (pa_cons (pv 2) pa_nil)))) pa_nil))))), ?_⟩)
  case len => rintro vs H Q E ⟨de, dx, st, b, d, l, x, y, lv, ys, rfl, _⟩; rfl
  obtain ⟨de, dx, st, b, d, l, x, y, lv, ys, rfl, hde, hl, h100, e1, sp⟩ := h
  walk_at "rd"
  refine q_meth hde (de_none (by decide +kernel) (by decide +kernel) (by decide +kernel) (by decide +kernel) (by decide +kernel) ..) ?_
  refine ⟨de, dx, st, b, .ref d, .ref l, lv, rfl, hde, e1, fun z => ?_⟩
  subst z
  refine q_meth hde (de_none (by decide +kernel) (by decide +kernel) (by decide +kernel) (by decide +kernel) (by decide +kernel) ..) ?_
  walk_at "rd"
  refine ⟨by show 3 ≤ sizeLine; decide, fun c hc => ?_⟩
  have ex : Ex H (upd H c (.tup [.str "index", x, y])) := Ex.nw hc
  refine ⟨de, c, dx, st, b, d, l, true, ys, rfl, ex _ _ hde, ex _ _ hl, h100, d, c, rfl, .inr (.inl ⟨x, y, SqT.of upd_same, ord_map ex (fun v H2 e2 hq => mk_dn ex (SqT.of upd_same) hq) (sp rfl)⟩)⟩
def spD_drop (K : PySem.W.Frag) : Sp := fun vs H Q E => ∃ de dx st b d l x y, ∃ lv : Bool, ∃ ys : List V, vs = [.ref de, x, y] ∧ H de = some (deO K dx st b (.ref d) (.ref l) lv) ∧ H l = some (.lst ys) ∧ ys.length ≤ 100 ∧ (lv = false → Er K E "Over" H) ∧
    (lv = true → spDrp K [.ref d, x, y] H (mkQ K H de dx st b ys [.str "drop", x, y] fun H' => Q .non H') E)
theorem sc_Dealing_drop : FnScope ["self", "table", "number"] ["self", "table", "number"] (defScope s_Dealing_drop) := ⟨rfl, rfl, rfl, by decide +kernel, rfl, by decide +kernel, by decide +kernel⟩
theorem ok_Dealing_drop (T : Tx K mg) : Md P w K mg base (L2.CX P w) 13 "Dealing" "drop" ["self", "table", "number"] (spD_drop K) := by
  refine mdX (f_Dealing_drop T) sc_Dealing_drop (fun _ _ _ _ _ _ us hl => match us, hl with | [_, _, _], _ => rfl) ?len (fun f cdv A outer s H vs Q E hr h => ⟨_, (pss_cons (ps_expr (pe_m0 (pv 0) (c_Dealing T) (m_Dealing_need_open T) (ok_Dealing_need_open T) hr (by decide) (passes_call (takes_of rfl rfl rfl rfl) (fun _ _ _ _ h => h))))
      (pss_one (ps_expr (pe_mS (pv 0) (c_Dealing T) (m_Dealing_done T) (ok_Dealing_done T) hr (by decide) (pE (takes_of rfl rfl rfl rfl) (fun _ _ _ _ h => h)) (pa_cons (pe_tup (pa_cons pe_str (pa_cons (pv 1) (pa_cons (pv 2) pa_nil)))) pa_nil))))), ?_⟩)
  case len => rintro vs H Q E ⟨de, dx, st, b, d, l, x, y, lv, ys, rfl, _⟩; rfl
  obtain ⟨de, dx, st, b, d, l, x, y, lv, ys, rfl, hde, hl, h100, e1, sp⟩ := h
  walk_at "rd"
  refine q_meth hde (de_none (by decide +kernel) (by decide +kernel) (by decide +kernel) (by decide +kernel) (by decide +kernel) ..) ?_
  refine ⟨de, dx, st, b, .ref d, .ref l, lv, rfl, hde, e1, fun z => ?_⟩
  subst z
  refine q_meth hde (de_none (by decide +kernel) (by decide +kernel) (by decide +kernel) (by decide +kernel) (by decide +kernel) ..) ?_
  walk_at "rd"
  refine ⟨by show 3 ≤ sizeLine; decide, fun c hc => ?_⟩
  have ex : Ex H (upd H c (.tup [.str "drop", x, y])) := Ex.nw hc
  refine ⟨de, c, dx, st, b, d, l, true, ys, rfl, ex _ _ hde, ex _ _ hl, h100, d, c, rfl, .inr (.inr (.inr ⟨x, y, SqT.of upd_same, drp_map ex (fun v H2 e2 hq => mk_dn ex (SqT.of upd_same) hq) (sp rfl)⟩))⟩
/-- behind a row put: the store's number too -/
def ptQ (K : PySem.W.Frag) (H0 : Hp) (de dx sa dxs : Addr) (b k p : V) (g : Int) (ys ch : List V) (Q : VK) : VK := fun v H1 => Ex H0 H1 → ∀ c l' H', H1 l' = none → SqT K H1 c ch → (∀ z o, H1 z = some o → z ≠ de → z ≠ sa → H' z = some o) → H' de = some (deO K dx (.ref sa) b v (.ref l') true) → H' sa = some (.ins (CS K) dxs (stF k p (.int (g + 1)))) → H' l' = some (.lst (ys ++ [.ref c])) → Q (.int (g + 1)) H'
theorem ins_ne {H : Hp} {a b C D dx dy : Addr} {f g : Str} {v u : V} {r s : List (Str × V)} (h1 : H a = some (.ins C dx ((f, v) :: r))) (h2 : H b = some (.ins D dy ((g, u) :: s))) (hne : decide (f = g) = false) : a ≠ b := fun e => by
  rw [e, h2] at h1
  injection h1 with h3
  injection h3 with _ _ h4
  injection h4 with h5 _
  injection h5 with h6 _
  exact of_decide_eq_false hne h6.symm
theorem de_sa {H : Hp} {de sa dx dxs : Addr} {st b d l k p g : V} {lv : Bool} (h1 : H de = some (deO K dx st b d l lv)) (h2 : H sa = some (.ins (CS K) dxs (stF k p g))) : sa ≠ de := Ne.symm (ins_ne h1 h2 (by decide +kernel))
def spD_put (K : PySem.W.Frag) : Sp := fun vs H Q E => ∃ de dx sa dxs b k p d l x y, ∃ g : Int, ∃ lv : Bool, ∃ ys : List V, vs = [.ref de, x, y] ∧ H de = some (deO K dx (.ref sa) b (.ref d) (.ref l) lv) ∧ H sa = some (.ins (CS K) dxs (stF k p (.int g))) ∧ H l = some (.lst ys) ∧ ys.length ≤ 100 ∧ (lv = false → Er K E "Over" H) ∧
    (lv = true → spPut K [.ref d, x, .int (g + 1), y] H (ptQ K H de dx sa dxs b k p g ys [.str "put", x, .int (g + 1), y] Q) E)
theorem sc_Dealing_put : FnScope ["self", "table", "row", "number"] ["self", "table", "row"] (defScope s_Dealing_put) := ⟨rfl, rfl, rfl, by decide +kernel, rfl, by decide +kernel, by decide +kernel⟩
theorem ok_Dealing_put (T : Tx K mg) : Md P w K mg base (L2.CX P w) 13 "Dealing" "put" ["self", "table", "row"] (spD_put K) := by
  refine mdX (f_Dealing_put T) sc_Dealing_put (fun _ _ _ _ _ _ us hl => match us, hl with | [_, _, _], _ => rfl) ?len (fun f cdv A outer s H vs Q E hr h => ⟨_, (pss_cons (ps_expr (pe_m0 (pv 0) (c_Dealing T) (m_Dealing_need_open T) (ok_Dealing_need_open T) hr (by decide) (passes_call (takes_of rfl rfl rfl rfl) (fun _ _ _ _ h => h))))
      (pss_cons (ps_set (i := 3) sc_Dealing_put.nd rfl (Or.inl rfl) (pe_op op_add (pe_m0 (pe_fld (pv 0) rfl) (c_Store T) (m_Store_greatest T) (ok_Store_greatest T) hr (by decide) pass0) pe_int))
      (pss_cons (ps_expr (pe_mS (pv 0) (c_Dealing T) (m_Dealing_done T) (ok_Dealing_done T) hr (by decide) (pE (takes_of rfl rfl rfl rfl) (fun _ _ _ _ h => h)) (pa_cons (pe_tup (pa_cons pe_str (pa_cons (pv 1) (pa_cons (pv 3) (pa_cons (pv 2) pa_nil))))) pa_nil)))
      (pss_cons (ps_expr (pe_mS (pe_fld (pv 0) rfl) (c_Store T) (m_Store_gave T) (ok_Store_gave T) hr (by decide) p0 (pa_cons (pv 3) pa_nil)))
      (pss_one (ps_ret (pv 3))))))), ?_⟩)
  case len => rintro vs H Q E ⟨de, dx, sa, dxs, b, k, p, d, l, x, y, g, lv, ys, rfl, _⟩; rfl
  obtain ⟨de, dx, sa, dxs, b, k, p, d, l, x, y, g, lv, ys, rfl, hde, hsa, hl, h100, e1, sp⟩ := h
  have nsa := de_sa hde hsa
  have nl : l ≠ sa := fun e => by rw [e, hsa] at hl; cases hl
  walk_at "rd"
  refine q_meth hde (de_none (by decide +kernel) (by decide +kernel) (by decide +kernel) (by decide +kernel) (by decide +kernel) ..) ?_
  refine ⟨de, dx, .ref sa, b, .ref d, .ref l, lv, rfl, hde, e1, fun z => ?_⟩
  subst z
  refine q_fld hde (c_Dealing T) (no_Dealing_store T) (de_store ..) ?_
  refine q_meth hsa (st_none (by decide +kernel) (by decide +kernel) (by decide +kernel) ..) ?_
  refine ⟨sa, dxs, k, p, .int g, rfl, hsa, ?_⟩
  walk_at "rd"
  refine q_meth hde (de_none (by decide +kernel) (by decide +kernel) (by decide +kernel) (by decide +kernel) (by decide +kernel) ..) ?_
  walk_at "rd"
  refine ⟨by show 4 ≤ sizeLine; decide, fun c hc => ?_⟩
  have ex : Ex H (upd H c (.tup [.str "put", x, .int (g + 1), y])) := Ex.nw hc
  refine ⟨de, c, dx, .ref sa, b, d, l, true, ys, rfl, ex _ _ hde, ex _ _ hl, h100, d, c, rfl, .inr (.inr (.inl ⟨x, .int (g + 1), y, SqT.of upd_same, put_map ex (fun v H2 e2 hq => ?_) (sp rfl)⟩))⟩
  intro e3 l' H3 hln na h1 h2
  have ex02 := ex.tr e2
  have hsa3 := na _ _ (ex02 _ _ hsa) nsa
  have nl' : l' ≠ sa := fun e => by rw [e, hsa3] at h2; cases h2
  refine q_fld h1 (c_Dealing T) (no_Dealing_store T) (de_store ..) ?_
  refine q_meth hsa3 (st_none (by decide +kernel) (by decide +kernel) (by decide +kernel) ..) ?_
  refine ⟨sa, dxs, k, p, g, g + 1, rfl, hsa3, by omega, ?_⟩
  refine hq ex02 c l' _ hln (e2.t (SqT.of upd_same)) (fun z o hz n1 n2 => by rw [upd_ne n2]; exact na _ _ hz n1) (by rw [upd_ne (Ne.symm nsa)]; exact h1) upd_same (by rw [upd_ne nl']; exact h2)
def tIn (n : Str) (d : PyData) : Bool := match d with | .str m => decide (m = n) | _ => false
theorem tIn_at {n : Str} {d : PyData} (h : tIn n d = true) : d = .str n := by
  cases d with
  | str m =>
    simp only [tIn, decide_eq_true_eq] at h
    rw [h]
  | _ => simp [tIn] at h
def spD_change (K : PySem.W.Frag) : Sp := fun vs H Q E => ∃ de dx st b d l x dx' y dy z n cs rows bb, ∃ lv : Bool, ∃ ys : List V, vs = [.ref de, x, y, z] ∧ H de = some (deO K dx st b (.ref d) (.ref l) lv) ∧ H l = some (.lst ys) ∧ ys.length ≤ 100 ∧ (lv = false → Er K E "Over" H) ∧
    (lv = true → StateAt K H d n cs (some (rows, bb)) ∧ TbOk cs rows ∧ Dp K H x dx' ∧ Dp K H y dy ∧ (tIn n dx' = false → Er K E "NoTable" H) ∧ (tIn n dx' = true → numW rows dy = false → Er K E "NoRow" H) ∧
      (∀ m, tIn n dx' = true → numW rows dy = true → dy = .int m → spPut K [.ref d, x, .int m, z] H (mkQ K H de dx st b ys [.str "put", x, .int m, z] fun H' => Q .non H') E))
theorem sc_Dealing_change : FnScope ["self", "table", "number", "row"] ["self", "table", "number", "row"] (defScope s_Dealing_change) := ⟨rfl, rfl, rfl, by decide +kernel, rfl, by decide +kernel, by decide +kernel⟩
theorem ok_Dealing_change (T : Tx K mg) : Md P w K mg base (L2.CX P w) 13 "Dealing" "change" ["self", "table", "number", "row"] (spD_change K) := by
  refine mdX (f_Dealing_change T) sc_Dealing_change (fun _ _ _ _ _ _ us hl => match us, hl with | [_, _, _, _], _ => rfl) ?len (fun f cdv A outer s H vs Q E hr h => ⟨_, (pss_cons (ps_expr (pe_m0 (pv 0) (c_Dealing T) (m_Dealing_need_open T) (ok_Dealing_need_open T) hr (by decide) (passes_call (takes_of rfl rfl rfl rfl) (fun _ _ _ _ h => h))))
      (pss_cons (ps_if (PW.pt (pw_or (pt_not (pt_val (pe_callB call_isi (by rfl) (n_isinstance T) b_isinstance (pa_cons (pv 1) (pa_cons (pe_bt (n_str T) b_str) pa_nil))))) (pw_or1 (pt_cmp (pc_dnotin (hu_of hr) (pv 1) (pe_fld (pv 0) rfl)))))) (pss_one (ps_rs rfl (takes_of rfl rfl rfl rfl) T rs_NoTable (g_NoTable T))) pss_nil)
      (pss_cons (ps_if (pt_not (pt_val (pe_g (ok_has_row T) hr (by decide) p0 (pa_cons (pe_fld (pv 0) rfl) (pa_cons (pv 1) (pa_cons (pv 2) pa_nil)))))) (pss_one (ps_rs rfl (takes_of rfl rfl rfl rfl) T rs_NoRow (g_NoRow T))) pss_nil)
      (pss_one (ps_expr (pe_mS (pv 0) (c_Dealing T) (m_Dealing_done T) (ok_Dealing_done T) hr (by decide) (pE (takes_of rfl rfl rfl rfl) (fun _ _ _ _ h => h)) (pa_cons (pe_tup (pa_cons pe_str (pa_cons (pv 1) (pa_cons (pv 2) (pa_cons (pv 3) pa_nil))))) pa_nil))))))), ?_⟩)
  case len => rintro vs H Q E ⟨de, dx, st, b, d, l, x, dx', y, dy, z, n, cs, rows, bb, lv, ys, rfl, _⟩; rfl
  obtain ⟨de, dx, st, b, d, l, x, dx', y, dy, z, n, cs, rows, bb, lv, ys, rfl, hde, hl, h100, e1, sp⟩ := h
  walk_at "rd"
  refine q_meth hde (de_none (by decide +kernel) (by decide +kernel) (by decide +kernel) (by decide +kernel) (by decide +kernel) ..) ?_
  refine ⟨de, dx, st, b, .ref d, .ref l, lv, rfl, hde, e1, fun z => ?_⟩
  subst z
  obtain ⟨hS, tok, hx, hy, e2, e3, q⟩ := sp rfl
  refine isi_str hx ?_
  cases hx with
  | str m =>
    simp only [dStr]
    walk_at "rd"
    refine q_fld hde (c_Dealing T) (no_Dealing_seen T) (de_seen ..) ?_
    obtain ⟨kvs, k1, _, k3⟩ := hS.kvs
    refine q_din (.inl k1) (k := .inr m) rfl ?_
    rw [k3]
    simp only [Option.isSome_some, Bool.true_and]
    by_cases hm : m = n
    · subst hm
      have ht : tIn m (.str m) = true := decide_eq_true rfl
      walk_at "rd"
      refine q_fld hde (c_Dealing T) (no_Dealing_seen T) (de_seen ..) ?_
      refine ⟨d, y, dy, m, cs, rows, bb, rfl, hS, tok, hy, ?_⟩
      walk_at "rd"
      cases hn : numW rows dy with
      | false =>
        walk_at "rd"
        exact e3 ht hn
      | true =>
        walk_at "rd"
        cases hy with
        | int i =>
          refine q_meth hde (de_none (by decide +kernel) (by decide +kernel) (by decide +kernel) (by decide +kernel) (by decide +kernel) ..) ?_
          walk_at "rd"
          refine ⟨by show 4 ≤ sizeLine; decide, fun c hc => ?_⟩
          have ex : Ex H (upd H c (.tup [.str "put", .str m, .int i, z])) := Ex.nw hc
          refine ⟨de, c, dx, st, b, d, l, true, ys, rfl, ex _ _ hde, ex _ _ hl, h100, d, c, rfl, .inr (.inr (.inl ⟨_, _, z, SqT.of upd_same, put_map ex (fun v H2 e2 hq => mk_dn ex (SqT.of upd_same) hq) (q i ht hn rfl)⟩))⟩
        | _ => simp [numW] at hn
    · have ht : tIn n (.str m) = false := decide_eq_false hm
      walk_at "rd"
      rw [if_pos hm]
      exact e2 ht
  | _ =>
    simp only [dStr]
    walk_at "rd"
    exact e2 rfl
end


section
variable {P : Program} {w : World} {K : PySem.W.Frag} {mg : Str → Option Value} {base : Heap}
/-! ### changes are shaped -/
theorem dcols_lay : ∀ {cs : Cols} {seen : List Str}, dCols seen (cs.map colD) = true → PyData.canLayAll0 (cs.map colD) = true
  | [], _, _ => rfl
  | c :: cs, seen, h => by
    simp only [List.map_cons, colD, dCols, Bool.and_eq_true] at h
    have h1 : dName (.str c.1) = true := by
      have z := h.1
      simp only [dCol, Bool.and_eq_true] at z
      exact z.1
    have h2 : PyData.strOk (kdS c.2) = true := by
      cases c.2
      · show PyData.strOk ("number" : Str) = true
        decide +kernel
      · show PyData.strOk ("text" : Str) = true
        decide +kernel
    have h3 := dcols_lay h.2.2
    simp only [List.map_cons, PyData.canLayAll0, colD, PyData.canLay0, name_lay h1, h2, Bool.and_true, Bool.true_and]
    exact h3
theorem cols_depth : ∀ cs : Cols, PyData.depthAll (cs.map colD) ≤ 1
  | [] => Nat.zero_le _
  | c :: cs => by
    have h := cols_depth cs
    simp only [List.map_cons, PyData.depthAll, colD, PyData.depth]
    omega
theorem row_lay : ∀ r : List Cv, (∀ c, c ∈ r → dVal c.d = true) → PyData.canLayAll0 (r.map Cv.d) = true
  | [], _ => rfl
  | c :: r, h => by
    simp only [List.map_cons, PyData.canLayAll0, lay_val (h c (List.mem_cons_self ..)), row_lay r fun d hd => h d (List.mem_cons_of_mem _ hd), Bool.and_self]
theorem row_depth : ∀ r : List Cv, PyData.depthAll (r.map Cv.d) = 0
  | [] => rfl
  | c :: r => by
    have h := row_depth r
    cases c <;> simp [List.map_cons, PyData.depthAll, Cv.d, PyData.depth, h]
def opOk : Op → Prop
  | .put _ row => ∀ c, c ∈ row → dVal c.d = true
  | _ => True
theorem op_lay {n : Str} {cs : Cols} (h : ShOk n cs) (op : Op) (ok : opOk op) : (opD n cs op).canLay0 = true ∧ (opD n cs op).depth ≤ 4 := by
  have h1 := name_lay h.nm
  have h2 := name_lay (fcol_nm h)
  have k1 : PyData.strOk ("table" : Str) = true := by decide +kernel
  have k2 : PyData.strOk ("index" : Str) = true := by decide +kernel
  have k3 : PyData.strOk ("put" : Str) = true := by decide +kernel
  have hc : PyData.canLayAll0 (cs.map colD) = true := by
    have z := h.shp
    simp only [shD, dShape, Bool.and_eq_true] at z
    exact dcols_lay z.2
  have hd := cols_depth cs
  cases op with
  | mk =>
    refine ⟨by simp [opD, shD, PyData.canLay0, PyData.canLayAll0, h1, k1, hc], ?_⟩
    simp only [opD, shD, PyData.depth, PyData.depthAll]
    omega
  | ix =>
    refine ⟨by simp [opD, PyData.canLay0, PyData.canLayAll0, h1, h2, k2], ?_⟩
    simp only [opD, PyData.depth, PyData.depthAll]
    omega
  | put m row =>
    have r1 := row_lay row ok
    have r2 := row_depth row
    refine ⟨by simp [opD, rowD, PyData.canLay0, PyData.canLayAll0, h1, k3, r1], ?_⟩
    simp only [opD, rowD, PyData.depth, PyData.depthAll, r2]
    omega
theorem ops_lay {n : Str} {cs : Cols} (h : ShOk n cs) : ∀ ops : List Op, (∀ op, op ∈ ops → opOk op) → PyData.canLayAll0 (ops.map (opD n cs)) = true ∧ PyData.depthAll (ops.map (opD n cs)) ≤ 4
  | [], _ => ⟨rfl, Nat.zero_le _⟩
  | op :: ops, ok => by
    obtain ⟨a1, a2⟩ := op_lay h op (ok op (List.mem_cons_self ..))
    obtain ⟨b1, b2⟩ := ops_lay h ops fun o ho => ok o (List.mem_cons_of_mem _ ho)
    simp only [List.map_cons, PyData.canLayAll0, PyData.depthAll, a1, b1, Bool.and_self, true_and]
    omega
theorem sh_ops {n : Str} {cs : Cols} (h : ShOk n cs) (ops : List Op) (ok : ∀ op, op ∈ ops → opOk op) : SeqAt.shaped (.list (ops.map (opD n cs))) = true := by
  obtain ⟨a1, a2⟩ := ops_lay h ops ok
  unfold SeqAt.shaped
  simp [PyData.canLay0, PyData.depth, a1]
  omega
theorem can_ok {cs : Cols} {S S' : Stt} {op : Op} (h : Can cs S op S') : opOk op := by
  cases op with
  | put m row =>
    cases S with
    | none => cases h
    | some z =>
      obtain ⟨rows, b⟩ := z
      obtain ⟨_, tok⟩ := (by cases b <;> exact h : S' = some (rows ++ [(m, row)], b) ∧ TbOk cs (rows ++ [(m, row)]))
      exact (fits_row tok.pre.2.2.2.fit).2
  | _ => trivial
theorem runs_ok {cs : Cols} : ∀ {ops : List Op} {S S' : Stt}, Runs cs S ops S' → ∀ op, op ∈ ops → opOk op
  | [], _, _, _, op, h => by cases h
  | o :: ops, S, S', ⟨S1, c, r⟩, op, h => by
    rcases List.mem_cons.mp h with e | h
    · rw [e]; exact can_ok c
    · exact runs_ok r op h
def spD_keep (K : PySem.W.Frag) : Sp := fun vs H Q E => ∃ de dx sa dxs k p g d l ks ps d0 ys n cs S S', ∃ ops : List Op, ∃ lv : Bool, vs = [.ref de] ∧ H de = some (deO K dx (.ref sa) (.int (List.length ks)) d (.ref l) lv) ∧ (lv = false → Er K E "Over" H) ∧
    (lv = true → H sa = some (.ins (CS K) dxs (stF (.ref k) (.ref p) g)) ∧ H k = some (.lst ks) ∧ H p = some (.lst (ps ++ [.ref d0])) ∧ List.length ks ≤ 20 ∧ List.length ps ≤ 20 ∧ H l = some (.lst ys) ∧ ShOk n cs ∧ StateAt K H d0 n cs S ∧ DpAll K H ys (ops.map (opD n cs)) ∧ Runs cs S ops S' ∧ ops ≠ [] ∧ ops.length ≤ 20 ∧
      ∀ k' p' x d' H', (∀ z o, H z = some o → z ≠ de → z ≠ sa → H' z = some o) → H' de = some (deO K dx (.ref sa) (.int (List.length ks)) d (.ref l) false) → H' sa = some (.ins (CS K) dxs (stF (.ref k') (.ref p') g)) → H' k' = some (.lst (ks ++ [x])) → H' p' = some (.lst (ps ++ [.ref d0] ++ [.ref d'])) → StateAt K H' d' n cs S' → Q (.int (List.length ks + 1)) H')
theorem sc_Dealing_keep : FnScope ["self", "k"] ["self"] (defScope s_Dealing_keep) := ⟨rfl, rfl, rfl, by decide +kernel, rfl, by decide +kernel, by decide +kernel⟩
theorem ok_Dealing_keep (T : Tx K mg) : Md P w K mg base (L2.CX P w) 14 "Dealing" "keep" ["self"] (spD_keep K) := by
  refine mdX (f_Dealing_keep T) sc_Dealing_keep (fun _ _ _ _ _ _ us hl => match us, hl with | [_], _ => rfl) ?len (fun f cdv A outer s H vs Q E hr h => ⟨_, (pss_cons (ps_expr (pe_m0 (pv 0) (c_Dealing T) (m_Dealing_need_open T) (ok_Dealing_need_open T) hr (by decide) (passes_call (takes_of rfl rfl rfl rfl) (fun _ _ _ _ h => h))))
      (pss_cons (ps_fld (pv 0) pe_bl rfl)
      (pss_cons (ps_if (pt_val (pe_g (ok_meets T) hr (by decide) p0 (pa_cons (pe_fld (pv 0) rfl) (pa_cons (pe_lc (own := [("k", 1)]) (tt := tYes) rfl sc_Dealing_keep.nd (pi_range2 (by rfl) (n_range T) (pa_cons (pe_fld (pv 0) rfl) (pa_cons (pe_m0 (pe_fld (pv 0) rfl) (c_Store T) (m_Store_many T) (ok_Store_many T) hr (by decide) pass0) pa_nil))) (blkOk_by (own := [("k", 1)]) (N := ["self", "k"]) (sc := defScope s_Dealing_keep) (by decide +kernel)) (fun _ _ _ _ _ => pg_name (i := 1) sc_Dealing_keep.nd rfl (Or.inl rfl)) (fun _ _ _ _ _ => pts_nil) (fun _ _ _ _ _ => pe_nev)) pa_nil)))) (pss_one (ps_rs rfl (takes_of rfl rfl rfl rfl) T rs_Clash (g_Clash T))) pss_nil)
      (pss_cons (ps_if (pt_cmpR (op_neD hr.units) (pe_fld (pv 0) rfl) (pe_lst pa_nil) (nomark _)) (pss_one (ps_expr (pe_mS (pe_fld (pv 0) rfl) (c_Store T) (m_Store_grow T) (ok_Store_grow T) hr (by decide) (pE (takes_of rfl rfl rfl rfl) (fun _ _ _ _ h => h)) (pa_cons (pe_fld (pv 0) rfl) pa_nil)))) pss_nil)
      (pss_one (ps_ret (pe_m0 (pe_fld (pv 0) rfl) (c_Store T) (m_Store_many T) (ok_Store_many T) hr (by decide) pass0))))))), ?_⟩)
  case len => rintro vs H Q E ⟨de, dx, sa, dxs, k, p, g, d, l, ks, ps, d0, ys, n, cs, S, S', ops, lv, rfl, _⟩; rfl
  obtain ⟨de, dx, sa, dxs, k, p, g, d, l, ks, ps, d0, ys, n, cs, S, S', ops, lv, rfl, hde, e1, q⟩ := h
  walk_at "rd"
  refine q_meth hde (de_none (by decide +kernel) (by decide +kernel) (by decide +kernel) (by decide +kernel) (by decide +kernel) ..) ?_
  refine ⟨de, dx, .ref sa, .int (List.length ks), d, .ref l, lv, rfl, hde, e1, fun z => ?_⟩
  subst z
  obtain ⟨hsa, hk, hp, hk20, hp20, hl, hsh, hS, hys, hrun, hne, h20, q⟩ := q rfl
  have nsa := de_sa hde hsa
  have nk : k ≠ de := fun e => by rw [e, hde] at hk; cases hk
  have np : p ≠ de := fun e => by rw [e, hde] at hp; cases hp
  have nl : l ≠ de := fun e => by rw [e, hde] at hl; cases hl
  refine q_sfld hde (c_Dealing T) (no_Dealing_live T) (by show 5 < 1000; decide) ?_
  rw [de_pl]
  have na1 : Na de H (upd H de (.ins (CD K) dx (deF (.ref sa) (.int (List.length ks)) d (.ref l) (.bl false)))) := Na.up
  have hd1 : (upd H de (.ins (CD K) dx (deF (.ref sa) (.int (List.length ks)) d (.ref l) (.bl false)))) de = some (deO K dx (.ref sa) (.int (List.length ks)) d (.ref l) false) := upd_same
  revert na1 hd1
  generalize upd H de (.ins (CD K) dx (deF (.ref sa) (.int (List.length ks)) d (.ref l) (.bl false))) = H1
  intro na1 hd1
  have kp1 : Kp H H1 := Kp.one hde (fst_de ..) na1
  have hsa1 := na1 _ _ hsa nsa
  have hk1 := na1 _ _ hk nk
  have hl1 := na1 _ _ hl nl
  have hys1 := DpAll.lx kp1.lx _ _ hys
  refine q_fld hd1 (c_Dealing T) (no_Dealing_own T) (de_own ..) ?_
  refine q_fld hd1 (c_Dealing T) (no_Dealing_begun T) (de_begun ..) ?_
  refine q_fld hd1 (c_Dealing T) (no_Dealing_store T) (de_store ..) ?_
  refine q_meth hsa1 (st_none (by decide +kernel) (by decide +kernel) (by decide +kernel) ..) ?_
  refine ⟨sa, dxs, k, .ref p, g, ks, rfl, hsa1, SqL.of hk1, ?_⟩
  refine q_lcE (by omega) fun c hc => ?_
  have ex2 : Ex H1 (upd H1 c (.lst [])) := Ex.nw hc
  refine ⟨l, ys, n, cs, c, ops, rfl, hsh, ex2.l (SqL.of hl1), DpAll.ex ex2 _ _ hys1, h20, SqL.of upd_same, fun H3 ex3 => ?_⟩
  have ex13 := ex2.tr ex3
  walk_at "rd"
  refine q_fld (ex13 _ _ hd1) (c_Dealing T) (no_Dealing_own T) (de_own ..) ?_
  refine ⟨Nat.zero_le _, fun c2 hc2 => ?_⟩
  have ex4 : Ex H3 (upd H3 c2 (.lst [])) := Ex.nw hc2
  have ex14 := ex13.tr ex4
  refine ⟨_, _, .lst (SqL.of (ex14 _ _ hl1)) (DpAll.ex ex14 _ _ hys1), .lst (SqL.of upd_same) .nil, sh_ops hsh ops (runs_ok hrun), rfl, ?_⟩
  have ee : PyData.eqv (.list (ops.map (opD n cs))) (.list []) = false := by
    cases ops with
    | nil => exact absurd rfl hne
    | cons op ops => simp [PyData.eqv, PyData.eqvAll]
  rw [ee]
  revert ex4 ex14
  generalize upd H3 c2 (.lst []) = H4
  intro ex4 ex14
  have na4 : Na de H H4 := na1.tr (Na.of ex14)
  have kp4 : Kp H H4 := kp1.tr (.of ex14)
  have hd4 := ex14 _ _ hd1
  have hsa4 := na4 _ _ hsa nsa
  walk_at "rd"
  refine q_fld hd4 (c_Dealing T) (no_Dealing_store T) (de_store ..) ?_
  refine q_meth hsa4 (st_none (by decide +kernel) (by decide +kernel) (by decide +kernel) ..) ?_
  refine q_fld hd4 (c_Dealing T) (no_Dealing_own T) (de_own ..) ?_
  refine ⟨sa, dxs, k, p, g, ks, ps, d0, l, ys, n, cs, S, S', ops, rfl, hsa4, na4 _ _ hk nk, na4 _ _ hp np, hk20, hp20, hsh, hS.kp kp4, SqL.of (na4 _ _ hl nl), DpAll.lx kp4.lx _ _ hys, hrun, fun k' p' x d' H5 na5 hsa5 hk5 hp5 hS5 => ?_⟩
  have hd5 := na5 _ _ hd4 (Ne.symm nsa)
  walk_at "rd"
  refine q_fld hd5 (c_Dealing T) (no_Dealing_store T) (de_store ..) ?_
  refine q_meth hsa5 (st_none (by decide +kernel) (by decide +kernel) (by decide +kernel) ..) ?_
  refine ⟨sa, dxs, k', .ref p', g, ks ++ [x], rfl, hsa5, SqL.of hk5, ?_⟩
  have z := q k' p' x d' H5 (fun y o hy n1 n2 => na5 _ _ (na4 _ _ hy n1) n2) hd5 hsa5 hk5 hp5 hS5
  rw [show (((ks ++ [x]).length : Nat) : Int) = (List.length ks : Int) + 1 by rw [List.length_append, List.length_singleton]; omega]
  exact z
end


section
variable {P : Program} {w : World} {K : PySem.W.Frag} {mg : Str → Option Value} {base : Heap}
/-! ### the law's own helpers: numbers, names -/
theorem sc_law_whole : FnScope ["_law_found"] ["_law_found"] (defScope s_law_whole) := ⟨rfl, rfl, rfl, by decide +kernel, rfl, by decide +kernel, by decide +kernel⟩
theorem ok_law_whole (T : Tx K mg) : Gd P w K mg base CX0 1 "_law_whole" ["_law_found"] (spD K dWhole) := by
  refine gd0 (f_law_whole T) sc_law_whole (fun _ _ _ _ _ _ us hl => match us, hl with | [_], _ => rfl) ?len (fun f cdv A outer s H vs Q E hr h => ⟨_, (pss_one (ps_ret (pe_and (pe_callB call_isi (by rfl) (n_isinstance T) b_isinstance (pa_cons (pv 0) (pa_cons (pe_bt (n_int T) b_int) pa_nil))) (pe_one (pe_not (pe_callB call_isi (by rfl) (n_isinstance T) b_isinstance (pa_cons (pv 0) (pa_cons (pe_bt (n_bool T) b_bool) pa_nil)))))))), ?_⟩)
  case len => rintro vs H Q E ⟨x, d, rfl, _⟩; rfl
  obtain ⟨x, d, rfl, hd, hs, q⟩ := h
  walk_at "rd"
  refine isi_int hd ?_
  cases hd with
  | int i =>
    simp only [dInt]
    walk_at "rd"
    refine isi_bool (.int i) ?_
    simp only [dBool]
    walk_at "rd"
    exact q
  | bl b =>
    simp only [dInt]
    walk_at "rd"
    refine isi_bool (.bl b) ?_
    simp only [dBool]
    walk_at "rd"
    exact q
  | _ => simp only [dInt]; walk_at "rd"; exact q
theorem sc_law_cell_at : FnScope ["_law_script", "_law_k"] ["_law_script", "_law_k"] (defScope s_law_cell_at) := ⟨rfl, rfl, rfl, by decide +kernel, rfl, by decide +kernel, by decide +kernel⟩
theorem ok_law_cell_at (T : Tx K mg) : Gd P w K mg base CX0 1 "_law_cell_at" ["_law_script", "_law_k"] (fun vs H Q _ => ∃ a k, ∃ ns : List Int, vs = [.ref a, .int k] ∧ 0 ≤ k ∧ SqL K H a (ns.map V.int) ∧ ∀ i : Int, Q (.int i) H) := by
  refine gd0 (f_law_cell_at T) sc_law_cell_at (fun _ _ _ _ _ _ us hl => match us, hl with | [_, _], _ => rfl) ?len (fun f cdv A outer s H vs Q E hr h => ⟨_, (pss_cons (ps_if (pt_cmpR op_lt (pv 1) (pe_callB c_len_seq (by rfl) (n_len T) b_len (pa_cons (pv 0) pa_nil)) (nomark _)) (pss_one (ps_ret (pe_ix ix_list (pv 0) (pv 1) (fun _ _ => rfl)))) pss_nil)
      (pss_one (ps_ret pe_int))), ?_⟩)
  case len => rintro vs H Q E ⟨a, k, ns, rfl, _⟩; rfl
  obtain ⟨a, k, ns, rfl, hk, ha, q⟩ := h
  walk_at "rd"
  refine q_lenL ha ?_
  walk_at "rd"
  refine q_iteP (fun hl => ?_) fun _ => q 0
  rw [List.length_map] at hl
  obtain ⟨j, rfl⟩ : ∃ j : Nat, k = (j : Int) := ⟨k.toNat, by omega⟩
  have hl2 : j < ns.length := by omega
  exact q_ixL ha (v := .int ns[j]) (atI_nat (by rw [List.getElem?_map, List.getElem?_eq_getElem hl2]; rfl)) (q _)
theorem sc_law_mixed : FnScope ["_law_number"] ["_law_number"] (defScope s_law_mixed) := ⟨rfl, rfl, rfl, by decide +kernel, rfl, by decide +kernel, by decide +kernel⟩
theorem ok_law_mixed (T : Tx K mg) : Gd P w K mg base CX0 1 "_law_mixed" ["_law_number"] (fun vs H Q _ => ∃ i : Int, vs = [.int i] ∧ ∀ j : Int, 0 ≤ j → j < 2147483647 → Q (.int j) H) := by
  refine gd0 (f_law_mixed T) sc_law_mixed (fun _ _ _ _ _ _ us hl => match us, hl with | [_], _ => rfl) ?len (fun f cdv A outer s H vs Q E hr h => ⟨_, (pss_one (ps_ret (pe_op op_mod (pe_op op_add (pe_op op_mul (pv 0) pe_int) pe_int) pe_int))), ?_⟩)
  case len => rintro vs H Q E ⟨i, rfl, _⟩; rfl
  obtain ⟨i, rfl, q⟩ := h
  walk_at "rd"
  refine ⟨.inr ⟨by decide, by decide⟩, by decide, ?_⟩
  exact q _ (Int.emod_nonneg _ (by decide)) (Int.emod_lt_of_pos _ (by decide))
/-! ### texts by their signs -/
theorem cps_app (a b : Str) : (a ++ b).cps.toList = a.cps.toList ++ b.cps.toList := by
  show (a.cps ++ b.cps).toList = _
  exact Array.toList_append
theorem len_cps (a : Str) : a.length = a.cps.toList.length := (Array.length_toList).symm
theorem str_eq {a b : Str} (h : a.cps.toList = b.cps.toList) : a = b := PySem.W.str_of_cps h
theorem inV_str (s : Str) (l : List Str) : inV (.str s) (l.map V.str) = l.any fun w => w == s := by
  unfold inV
  rw [List.any_map]
  rfl
def lettL (l : List Nat) : Bool := l.all lett
theorem dname_of {s : Str} (h1 : 1 ≤ s.cps.toList.length) (h2 : s.cps.toList.length ≤ 8) (h3 : inV (.str s) (wordsV.map V.str) = false) (h4 : lettL s.cps.toList = true) : dName (.str s) = true := by
  simp only [dName, len_cps, h3, Bool.not_false, Bool.and_true, Bool.and_eq_true, decide_eq_true_eq]
  exact ⟨⟨h1, h2⟩, h4⟩
theorem dname_is {s : Str} (h : dName (.str s) = true) : 1 ≤ s.cps.toList.length ∧ s.cps.toList.length ≤ 8 ∧ inV (.str s) (wordsV.map V.str) = false ∧ lettL s.cps.toList = true := by
  simp only [dName, len_cps, Bool.and_eq_true, decide_eq_true_eq, Bool.not_eq_true'] at h
  exact ⟨h.1.1.1, h.1.1.2, h.1.2, h.2⟩
theorem words_z : ∀ w, w ∈ wordsV → dName (.str (w ++ "z")) = true ∧ (w ++ ("z" : Str)).cps.toList.length = w.cps.toList.length + 1 := by decide +kernel
theorem word_z {s : Str} (h : inV (.str s) (wordsV.map V.str) = true) : dName (.str (s ++ "z")) = true ∧ (s ++ ("z" : Str)).cps.toList.length = s.cps.toList.length + 1 := by
  rw [inV_str] at h
  obtain ⟨w, hw, e⟩ := List.any_eq_true.mp h
  have e2 : w = s := by simpa using e
  rw [← e2]
  exact words_z w hw
theorem at_letters (i : Int) (h0 : 0 ≤ i) (h1 : i < 26) : atI (Str.ofString "abcdefghijklmnopqrstuvwxyz").cps.toList i = some (97 + i.toNat) := by
  have e : i = ((i.toNat : Nat) : Int) := by omega
  rw [e, cps_letters]
  refine atI_nat ?_
  rw [List.getElem?_map, List.getElem?_range (by omega)]
  simp
  omega
theorem lett_at {c : Nat} (h : c < 26) : lett (97 + c) = true := by
  simp only [lett, Bool.and_eq_true, decide_eq_true_eq]
  omega
theorem wordsL : ([V.str "and", V.str "by", V.str "down", V.str "from", V.str "none", V.str "not", V.str "or", V.str "order", V.str "show", V.str "take", V.str "where"] : List V) = wordsV.map V.str := rfl
theorem lettL_app {a b : List Nat} (h1 : lettL a = true) (h2 : lettL b = true) : lettL (a ++ b) = true := by
  unfold lettL at *
  rw [List.all_append, h1, h2]
  rfl
theorem lettL_one {c : Nat} (h : c < 26) : lettL [97 + c] = true := by
  unfold lettL
  simp [lett_at h]
theorem sc_law_name_by : FnScope ["_law_cell", "_law_some", "_law_found", "_law_number", "_law_k"] ["_law_cell"] (defScope s_law_name_by) := ⟨rfl, rfl, rfl, by decide +kernel, rfl, by decide +kernel, by decide +kernel⟩
theorem ok_law_name_by (T : Tx K mg) : Gd P w K mg base CX0 2 "_law_name_by" ["_law_cell"] (fun vs H Q _ => ∃ i : Int, vs = [.int i] ∧ ∀ s H', Ex H H' → dName (.str s) = true → Q (.str s) H') := by
  refine gd0 (f_law_name_by T) sc_law_name_by (fun _ _ _ _ _ _ us hl => match us, hl with | [_], _ => rfl) ?len (fun f cdv A outer s H vs Q E hr h => ⟨_, (pss_cons (ps_set (i := 1) sc_law_name_by.nd rfl (Or.inl rfl) pe_str)
      (pss_cons (ps_set (i := 2) sc_law_name_by.nd rfl (Or.inl rfl) pe_str)
      (pss_cons (ps_set (i := 3) sc_law_name_by.nd rfl (Or.inl rfl) (pv 0))
      (pss_cons (ps_for PassesOwn.never rfl (pi_range1 (by rfl) (n_range T) (pa_cons (pe_op op_add pe_int (pe_op op_mod (pv 0) pe_int)) pa_nil)) (pg_name (i := 4) sc_law_name_by.nd rfl (Or.inl rfl)) (pss_cons (ps_set (i := 3) sc_law_name_by.nd rfl (Or.inl rfl) (pe_g (ok_law_mixed T) hr (by decide) p0 (pa_cons (pv 3) pa_nil)))
      (pss_one (ps_set (i := 2) sc_law_name_by.nd rfl (Or.inl rfl) (pe_op o_add_str (pv 2) (pe_ix ix_str (pv 1) (pe_op op_mod (pv 3) pe_int) (fun _ _ => rfl)))))))
      (pss_cons (ps_if (pt_cmpR op_in_seq (pv 2) (pe_lst (pa_cons pe_str (pa_cons pe_str (pa_cons pe_str (pa_cons pe_str (pa_cons pe_str (pa_cons pe_str (pa_cons pe_str (pa_cons pe_str (pa_cons pe_str (pa_cons pe_str (pa_cons pe_str pa_nil)))))))))))) rfl) (pss_one (ps_ret (pe_op o_add_str (pv 2) pe_str))) pss_nil)
      (pss_one (ps_ret (pv 2)))))))), ?_⟩)
  case len => rintro vs H Q E ⟨i, rfl, _⟩; rfl
  obtain ⟨i, rfl, q⟩ := h
  have m1 := Int.emod_nonneg i (by decide : (8 : Int) ≠ 0)
  have m2 := Int.emod_lt_of_pos i (by decide : (0 : Int) < 8)
  walk_at "rd"
  refine f_rng (n := 1 + i % 8) (fun R r => by walk_at "rd"; exact ⟨by decide, r⟩) (by omega)
    (fun k σ H' => H' = H ∧ k ≤ 8 ∧ ∃ (s : Str) (j : Int) (o : Option V), σ = [some (.int i), some (.str "abcdefghijklmnopqrstuvwxyz"), some (.str s), some (.int j), o] ∧ s.cps.toList.length = k ∧ lettL s.cps.toList = true)
    ⟨rfl, by omega, ("" : Str), i, none, rfl, rfl, rfl⟩ ?_ ?_
  · rintro k σ H' hk ⟨rfl, h8, s, j, o, rfl, hl, hs⟩
    walk_at "rd"
    refine ⟨j, rfl, fun j2 h0 h1 => ?_⟩
    walk_at "rd"
    have n1 := Int.emod_nonneg j2 (by decide : (26 : Int) ≠ 0)
    have n2 := Int.emod_lt_of_pos j2 (by decide : (0 : Int) < 26)
    refine ⟨by decide, _, _, _, rfl, rfl, by decide +kernel, at_letters _ n1 n2, ?_⟩
    walk_at "rd"
    refine ⟨?_, ?_⟩
    · rw [len_cps, hl]
      exact Nat.le_trans (by show k + 1 ≤ 9; omega) (by decide)
    refine ⟨by omega, _, j2, _, rfl, ?_, ?_⟩
    · rw [cps_app, List.length_append, hl]
      rfl
    · rw [cps_app]
      exact lettL_app hs (lettL_one (by omega))
  · rintro σ H' ⟨rfl, h8, s, j, o, rfl, hl, hs⟩
    walk_at "rd"
    refine ⟨by show 11 ≤ sizeLine; decide, fun p hp => ?_⟩
    refine ⟨p, _, rfl, .inl (SqL.of upd_same), rfl, flat_words, ?_⟩
    walk_at "rd"
    rw [wordsL]
    have ex : Ex H' (upd H' p (.lst (wordsV.map V.str))) := Ex.nw hp
    cases hw : inV (V.str s) (wordsV.map V.str) with
    | true =>
      walk_at "rd"
      obtain ⟨z1, z2⟩ := word_z hw
      refine ⟨Nat.le_trans (by rw [len_cps, hl]; show _ + 1 ≤ 9; omega) (by decide), q _ _ ex z1⟩
    | false =>
      walk_at "rd"
      refine q s _ ex (dname_of (by omega) (by omega) hw hs)
end


section
variable {P : Program} {w : World} {K : PySem.W.Frag} {mg : Str → Option Value} {base : Heap}
theorem find_lett : ∀ c, c < 26 → Txt.find (Str.ofString "abcdefghijklmnopqrstuvwxyz") ⟨#[97 + c]⟩ = (c : Int) := by
  have h : ∀ c, c ∈ List.range 26 → Txt.find (Str.ofString "abcdefghijklmnopqrstuvwxyz") ⟨#[97 + c]⟩ = (c : Int) := by decide +kernel
  exact fun c hc => h c (List.mem_range.mpr hc)
theorem cut_take {z : Str} {k : Nat} (h : k ≤ z.cps.toList.length) : (cutS z none (some (k : Int))).cps.toList = z.cps.toList.take k := by
  unfold cutS
  rw [HT.sIx_none, HT.sIx_nat, len_cps, Nat.min_eq_left h]
  simp
theorem cut_drop {z : Str} {k : Nat} (h : k ≤ z.cps.toList.length) : (cutS z (some (k : Int)) none).cps.toList = z.cps.toList.drop k := by
  unfold cutS
  rw [HT.sIx_none, HT.sIx_nat, len_cps, Nat.min_eq_left h]
  exact List.take_of_length_le (by rw [List.length_drop]; omega)
theorem lettL_at {l : List Nat} (h : lettL l = true) {i : Nat} {c : Nat} (hi : l[i]? = some c) : lett c = true := List.all_eq_true.mp h c (List.mem_of_getElem? hi)
theorem lettL_take {l : List Nat} (h : lettL l = true) (k : Nat) : lettL (l.take k) = true := List.all_eq_true.mpr fun c hc => List.all_eq_true.mp h c (List.mem_of_mem_take hc)
theorem lettL_drop {l : List Nat} (h : lettL l = true) (k : Nat) : lettL (l.drop k) = true := List.all_eq_true.mpr fun c hc => List.all_eq_true.mp h c (List.mem_of_mem_drop hc)
theorem short {n : Nat} (h : n ≤ 100) : n ≤ sizeLine := Nat.le_trans h (by decide)
theorem sc_law_twin : FnScope ["_law_name", "_law_cell", "_law_some", "_law_at", "_law_step", "_law_found"] ["_law_name", "_law_cell"] (defScope s_law_twin) := ⟨rfl, rfl, rfl, by decide +kernel, rfl, by decide +kernel, by decide +kernel⟩
theorem ok_law_twin (T : Tx K mg) : Gd P w K mg base CX0 1 "_law_twin" ["_law_name", "_law_cell"] (fun vs H Q _ => ∃ (n : Str) (i : Int), vs = [.str n, .int i] ∧ dName (.str n) = true ∧ ∀ s H', Ex H H' → dName (.str s) = true → s ≠ n → Q (.str s) H') := by
  refine gd0 (f_law_twin T) sc_law_twin (fun _ _ _ _ _ _ us hl => match us, hl with | [_, _], _ => rfl) ?len (fun f cdv A outer s H vs Q E hr h => ⟨_, (pss_cons (ps_set (i := 2) sc_law_twin.nd rfl (Or.inl rfl) pe_str)
      (pss_cons (ps_set (i := 3) sc_law_twin.nd rfl (Or.inl rfl) (pe_op op_mod (pv 1) (pe_callB c_len_str (by rfl) (n_len T) b_len (pa_cons (pv 0) pa_nil))))
      (pss_cons (ps_set (i := 4) sc_law_twin.nd rfl (Or.inl rfl) (pe_op op_add (pe_op op_add (pe_m1 PySem.F.slot_str_find PySem.F.type_str_find mt_find (pv 2) (pe_ix ix_str (pv 0) (pv 3) (fun _ _ => rfl))) pe_int) (pe_op op_mod (pe_op op_fdiv (pv 1) pe_int) pe_int)))
      (pss_cons (ps_set (i := 5) sc_law_twin.nd rfl (Or.inl rfl) (pe_op o_add_str (pe_op o_add_str (pe_slice sl_str (pv 0) po_none (po_some (pv 3))) (pe_ix ix_str (pv 2) (pe_op op_mod (pv 4) pe_int) (fun _ _ => rfl))) (pe_slice sl_str (pv 0) (po_some (pe_op op_add (pv 3) pe_int)) po_none)))
      (pss_cons (ps_if (pt_cmpR op_in_seq (pv 5) (pe_lst (pa_cons pe_str (pa_cons pe_str (pa_cons pe_str (pa_cons pe_str (pa_cons pe_str (pa_cons pe_str (pa_cons pe_str (pa_cons pe_str (pa_cons pe_str (pa_cons pe_str (pa_cons pe_str pa_nil)))))))))))) rfl) (pss_one (ps_ret (pe_op o_add_str (pv 5) pe_str))) pss_nil)
      (pss_one (ps_ret (pv 5)))))))), ?_⟩)
  case len => rintro vs H Q E ⟨n, i, rfl, _⟩; rfl
  obtain ⟨n, i, rfl, hn, q⟩ := h
  obtain ⟨n1, n2, n3, n4⟩ := dname_is hn
  have nl : n.length ≤ sizeLine := by rw [len_cps]; exact short (by omega)
  walk_at "rd"
  refine ⟨nl, ?_⟩
  rw [len_cps]
  have hpos : (0 : Int) < (n.cps.toList.length : Int) := by omega
  refine ⟨hpos, ?_⟩
  have a1 := Int.emod_nonneg i (by omega : (n.cps.toList.length : Int) ≠ 0)
  have a2 := Int.emod_lt_of_pos i hpos
  obtain ⟨a, ha⟩ : ∃ a : Nat, i % (n.cps.toList.length : Int) = (a : Int) := ⟨(i % (n.cps.toList.length : Int)).toNat, by omega⟩
  rw [ha] at a1 a2 ⊢
  have hal : a < n.cps.toList.length := by omega
  obtain ⟨c, hc, hdr⟩ := drop_cons hal
  have hcl := lettL_at n4 hc
  simp only [lett, Bool.and_eq_true, decide_eq_true_eq] at hcl
  obtain ⟨c0, rfl⟩ : ∃ c0, c = 97 + c0 := ⟨c - 97, by omega⟩
  have hc0 : c0 < 26 := by omega
  refine ⟨⟨_, rfl⟩, ?_⟩
  refine ⟨n, _, _, rfl, rfl, nl, atI_nat hc, ?_⟩
  walk_at "rd"
  refine ⟨_, _, rfl, rfl, ?_⟩
  rw [find_lett c0 hc0]
  walk_at "rd"
  refine ⟨⟨by decide, by decide⟩, by decide, ?_⟩
  have b1 := Int.emod_nonneg (i / 8) (by decide : (25 : Int) ≠ 0)
  have b2 := Int.emod_lt_of_pos (i / 8) (by decide : (0 : Int) < 25)
  refine ⟨n, rfl, nl, ?_⟩
  walk_at "rd"
  have s1 := Int.emod_nonneg ((c0 : Int) + 1 + i / 8 % 25) (by decide : (26 : Int) ≠ 0)
  have s2 := Int.emod_lt_of_pos ((c0 : Int) + 1 + i / 8 % 25) (by decide : (0 : Int) < 26)
  have s3 : ((c0 : Int) + 1 + i / 8 % 25) % 26 ≠ c0 := by omega
  obtain ⟨d, hd⟩ : ∃ d : Nat, ((c0 : Int) + 1 + i / 8 % 25) % 26 = (d : Int) := ⟨(((c0 : Int) + 1 + i / 8 % 25) % 26).toNat, by omega⟩
  rw [hd] at s1 s2 s3 ⊢
  refine ⟨by decide, _, _, _, rfl, rfl, by decide +kernel, at_letters _ s1 s2, ?_⟩
  walk_at "rd"
  have t1 : (cutS n none (some (a : Int))).cps.toList = n.cps.toList.take a := cut_take (by omega)
  refine ⟨by rw [len_cps, t1, List.length_take]; exact short (by show min a _ + 1 ≤ 100; omega), ?_⟩
  refine ⟨n, rfl, nl, ?_⟩
  walk_at "rd"
  have t2 : (cutS n (some ((a : Int) + 1)) none).cps.toList = n.cps.toList.drop (a + 1) := by
    rw [show ((a : Int) + 1) = ((a + 1 : Nat) : Int) by omega]
    exact cut_drop (by omega)
  have t3 : ((cutS n none (some (a : Int)) ++ (⟨#[97 + (d : Int).toNat]⟩ : Str)) ++ cutS n (some ((a : Int) + 1)) none).cps.toList = n.cps.toList.take a ++ [97 + d] ++ n.cps.toList.drop (a + 1) := by
    rw [cps_app, cps_app, t1, t2]
    rfl
  have t4 : (n.cps.toList.take a ++ [97 + d] ++ n.cps.toList.drop (a + 1)).length = n.cps.toList.length := by
    simp only [List.length_append, List.length_take, List.length_drop, List.length_singleton]
    omega
  have t5 : lettL (n.cps.toList.take a ++ [97 + d] ++ n.cps.toList.drop (a + 1)) = true := lettL_app (lettL_app (lettL_take n4 _) (lettL_one (by omega))) (lettL_drop n4 _)
  refine ⟨by rw [len_cps, len_cps, cps_app, t1, t2]; simp only [List.length_append, List.length_take, List.length_drop]; exact short (by show min a _ + 1 + _ ≤ 100; omega), ?_⟩
  have t6 : ((cutS n none (some (a : Int)) ++ (⟨#[97 + (d : Int).toNat]⟩ : Str)) ++ cutS n (some ((a : Int) + 1)) none) ≠ n := fun e => by
    have e2 := congrArg (fun z : Str => z.cps.toList[a]?) e
    simp only [t3] at e2
    rw [hc, List.append_assoc, List.getElem?_append_right (by rw [List.length_take]; omega)] at e2
    have e3 : a - (n.cps.toList.take a).length = 0 := by rw [List.length_take]; omega
    rw [e3] at e2
    have e4 : 97 + d = 97 + c0 := by simpa using e2
    omega
  revert t3 t6
  generalize ((cutS n none (some (a : Int)) ++ (⟨#[97 + (d : Int).toNat]⟩ : Str)) ++ cutS n (some ((a : Int) + 1)) none) = s
  intro t3 t6
  refine ⟨by show 11 ≤ sizeLine; decide, fun p hp => ?_⟩
  refine ⟨p, _, rfl, .inl (SqL.of upd_same), rfl, flat_words, ?_⟩
  walk_at "rd"
  rw [wordsL]
  have ex : Ex H (upd H p (.lst (wordsV.map V.str))) := Ex.nw hp
  cases hw : inV (V.str s) (wordsV.map V.str) with
  | true =>
    walk_at "rd"
    obtain ⟨z1, z2⟩ := word_z hw
    refine ⟨by rw [len_cps, t3, t4]; exact short (by show _ + 1 ≤ 100; omega), q _ _ ex z1 fun e => ?_⟩
    rw [e, t3, t4] at z2
    omega
  | false =>
    walk_at "rd"
    exact q s _ ex (dname_of (by rw [t3, t4]; omega) (by rw [t3, t4]; omega) hw (by rw [t3]; exact t5)) t6
end


section
variable {P : Program} {w : World} {K : PySem.W.Frag} {mg : Str → Option Value} {base : Heap}
/-! ### shapes made -/
theorem words_noz : ∀ w, w ∈ wordsV → 122 ∉ w.cps.toList := by decide +kernel
theorem noword {s : Str} (h : 122 ∈ s.cps.toList) : inV (.str s) (wordsV.map V.str) = false := by
  rw [inV_str]
  refine List.any_eq_false.mpr fun w hw e => ?_
  have e2 : w = s := by simpa using e
  exact words_noz w hw (by rw [e2]; exact h)
theorem dcols_of : ∀ (cs : Cols) (seen : List Str), (∀ c, c ∈ cs → dName (.str c.1) = true) → (∀ c, c ∈ cs → c.1 ∉ seen) → (cs.map (·.1)).Nodup → dCols seen (cs.map colD) = true
  | [], _, _, _, _ => rfl
  | c :: cs, seen, h1, h2, h3 => by
    have nd := List.nodup_cons.mp (show (c.1 :: cs.map (·.1)).Nodup from h3)
    have hk : dKd (.str (kdS c.2)) = true := by
      cases c.2
      · show isKd ("number" : Str) = true
        simp [isKd]
      · show isKd ("text" : Str) = true
        simp [isKd]
    have hi : inV (.str c.1) (seen.map V.str) = false := by
      rw [inV_str]
      refine List.any_eq_false.mpr fun w hw e => ?_
      have e2 : w = c.1 := by simpa using e
      exact h2 c (List.mem_cons_self ..) (by rw [← e2]; exact hw)
    have ih := dcols_of cs (seen ++ [c.1]) (fun d hd => h1 d (List.mem_cons_of_mem _ hd)) (fun d hd hm => by
      rcases List.mem_append.mp hm with z | z
      · exact h2 d (List.mem_cons_of_mem _ hd) z
      · have e : d.1 = c.1 := by simpa using z
        exact nd.1 (List.mem_map.mpr ⟨d, hd, e⟩)) nd.2
    simp only [List.map_cons, colD, dCols, dCol, h1 c (List.mem_cons_self ..), hk, hi, Bool.and_self, Bool.not_false, Bool.true_and]
    exact ih
/-- the j-th column's signs -/
def nmj (fl : Bool) (b : List Nat) (j : Nat) : List Nat := if fl then [97 + j, 122] ++ b else b ++ [122, 97 + j]
theorem nmj_len (fl : Bool) (b : List Nat) (j : Nat) : (nmj fl b j).length = b.length + 2 := by
  cases fl <;> simp [nmj]
theorem nmj_inj {fl : Bool} {b : List Nat} {i j : Nat} (h : nmj fl b i = nmj fl b j) : i = j := by
  cases fl with
  | true =>
    simp only [nmj, if_true, List.cons_append, List.cons.injEq] at h
    omega
  | false =>
    simp only [nmj, Bool.false_eq_true, if_false] at h
    have h2 := List.append_cancel_left h
    simp only [List.cons.injEq, and_true, true_and] at h2
    omega
theorem nmj_ok {fl : Bool} {b : List Nat} {j : Nat} {s : Str} (hb : lettL b = true) (h5 : b.length ≤ 5) (hj : j < 26) (hs : s.cps.toList = nmj fl b j) : dName (.str s) = true := by
  have hl := nmj_len fl b j
  refine dname_of (by rw [hs]; omega) (by rw [hs]; omega) (noword ?_) ?_
  · rw [hs]
    cases fl <;> simp [nmj]
  · rw [hs]
    have hz : lettL [122] = true := rfl
    cases fl with
    | true =>
      show lettL ([97 + j] ++ ([122] ++ b)) = true
      exact lettL_app (lettL_one hj) (lettL_app hz hb)
    | false =>
      show lettL (b ++ ([122] ++ [97 + j])) = true
      exact lettL_app hb (lettL_app hz (lettL_one hj))
theorem at_eight (j : Nat) (h : j < 8) : atI (Str.ofString "abcdefgh").cps.toList (j : Int) = some (97 + j) := by
  have e : (Str.ofString "abcdefgh").cps.toList = (List.range 8).map (· + 97) := by decide +kernel
  rw [e]
  refine atI_nat ?_
  rw [List.getElem?_map, List.getElem?_range h]
  simp
  omega
theorem many_at (i : Int) : ∃ m : Nat, 1 ≤ m ∧ m ≤ 8 ∧ atI [V.int 1, V.int 2, V.int 3, V.int 4, V.int 2, V.int 3, V.int 1, V.int 8] (i % 8) = some (.int (m : Int)) := by
  have a1 := Int.emod_nonneg i (by decide : (8 : Int) ≠ 0)
  have a2 := Int.emod_lt_of_pos i (by decide : (0 : Int) < 8)
  obtain ⟨a, ha⟩ : ∃ a : Nat, i % 8 = (a : Int) := ⟨(i % 8).toNat, by omega⟩
  rw [ha]
  have : a < 8 := by omega
  have h : a = 0 ∨ a = 1 ∨ a = 2 ∨ a = 3 ∨ a = 4 ∨ a = 5 ∨ a = 6 ∨ a = 7 := by omega
  rcases h with h | h | h | h | h | h | h | h <;> subst h
  · exact ⟨1, by decide, by decide, atI_nat rfl⟩
  · exact ⟨2, by decide, by decide, atI_nat rfl⟩
  · exact ⟨3, by decide, by decide, atI_nat rfl⟩
  · exact ⟨4, by decide, by decide, atI_nat rfl⟩
  · exact ⟨2, by decide, by decide, atI_nat rfl⟩
  · exact ⟨3, by decide, by decide, atI_nat rfl⟩
  · exact ⟨1, by decide, by decide, atI_nat rfl⟩
  · exact ⟨8, by decide, by decide, atI_nat rfl⟩
theorem kind_at (i : Int) : ∃ b : Bool, atI [V.str "number", V.str "text"] (i % 2) = some (.str (kdS b)) := by
  have a1 := Int.emod_nonneg i (by decide : (2 : Int) ≠ 0)
  have a2 := Int.emod_lt_of_pos i (by decide : (0 : Int) < 2)
  by_cases h : i % 2 = 0
  · rw [h]
    exact ⟨false, at0⟩
  · rw [show i % 2 = 1 by omega]
    exact ⟨true, at1⟩
theorem col_nl (cs : Cols) : noLA (cs.map colD) = true := by
  induction cs with
  | nil => rfl
  | cons c cs ih =>
    show (noL (colD c) && noLA (cs.map colD)) = true
    rw [ih]
    rfl
/-- columns of one length -/
def LenC (cs : Cols) : Prop := ∃ L, L ≤ 7 ∧ ∀ c, c ∈ cs → c.1.cps.toList.length = L
theorem sc_law_shape_by : FnScope ["_law_name", "_law_cell", "_law_base", "_law_many", "_law_columns", "_law_more", "_law_j", "_law_column"] ["_law_name", "_law_cell"] (defScope s_law_shape_by) := ⟨rfl, rfl, rfl, by decide +kernel, rfl, by decide +kernel, by decide +kernel⟩
theorem ok_law_shape_by (T : Tx K mg) : Gd P w K mg base CX0 3 "_law_shape_by" ["_law_name", "_law_cell"] (fun vs H Q _ => ∃ (n : Str) (i : Int), vs = [.str n, .int i] ∧ dName (.str n) = true ∧ ∀ a cs H', Ex H H' → Dp K H' (.ref a) (shD n cs) → ShOk n cs → LenC cs → Q (.ref a) H') := by
  refine gd0 (f_law_shape_by T) sc_law_shape_by (fun _ _ _ _ _ _ us hl => match us, hl with | [_, _], _ => rfl) ?len (fun f cdv A outer s H vs Q E hr h => ⟨_, (pss_cons (ps_set (i := 2) sc_law_shape_by.nd rfl (Or.inl rfl) (pe_slice sl_str (pe_g (ok_law_name_by T) hr (by decide) p0 (pa_cons (pe_op op_fdiv (pv 1) pe_int) pa_nil)) po_none (po_some pe_int)))
      (pss_cons (ps_set (i := 3) sc_law_shape_by.nd rfl (Or.inl rfl) (pe_ix ix_list (pe_lst (pa_cons pe_int (pa_cons pe_int (pa_cons pe_int (pa_cons pe_int (pa_cons pe_int (pa_cons pe_int (pa_cons pe_int (pa_cons pe_int pa_nil))))))))) (pe_op op_mod (pv 1) pe_int) (fun _ _ => rfl)))
      (pss_cons (ps_set (i := 4) sc_law_shape_by.nd rfl (Or.inl rfl) (pe_lst pa_nil))
      (pss_cons (ps_set (i := 5) sc_law_shape_by.nd rfl (Or.inl rfl) (pv 1))
      (pss_cons (ps_for PassesOwn.never rfl (pi_range1 (by rfl) (n_range T) (pa_cons (pv 3) pa_nil)) (pg_name (i := 6) sc_law_shape_by.nd rfl (Or.inl rfl)) (pss_cons (ps_set (i := 5) sc_law_shape_by.nd rfl (Or.inl rfl) (pe_g (ok_law_mixed T) hr (by decide) p0 (pa_cons (pv 5) pa_nil)))
      (pss_cons (ps_set (i := 7) sc_law_shape_by.nd rfl (Or.inl rfl) (pe_op o_add_str (pe_op o_add_str (pv 2) pe_str) (pe_ix ix_str pe_str (pv 6) (fun _ _ => rfl))))
      (pss_cons (ps_if (pt_cmpR op_eq (pe_op op_mod (pe_op op_fdiv (pv 1) pe_int) pe_int) pe_int (nomark _)) (pss_one (ps_set (i := 7) sc_law_shape_by.nd rfl (Or.inl rfl) (pe_op o_add_str (pe_op o_add_str (pe_ix ix_str pe_str (pv 6) (fun _ _ => rfl)) pe_str) (pv 2)))) pss_nil)
      (pss_one (ps_expr (pe_bm PySem.F.plainAttrs_list PySem.F.slot_list_append PySem.F.type_list_append mt_append (pv 4) (pa_cons (pe_tup (pa_cons (pv 7) (pa_cons (pe_ix ix_list (pe_lst (pa_cons pe_str (pa_cons pe_str pa_nil))) (pe_op op_mod (pe_op op_fdiv (pv 5) pe_int) pe_int) (fun _ _ => rfl)) pa_nil))) pa_nil))))))))
      (pss_one (ps_ret (pe_tup (pa_cons (pv 0) (pa_cons (pe_callTy c_tuple_of (by rfl) (n_tuple T) b_tuple (pa_cons (pv 4) pa_nil)) pa_nil)))))))))), ?_⟩)
  case len => rintro vs H Q E ⟨n, i, rfl, _⟩; rfl
  obtain ⟨n, i, rfl, hn, q⟩ := h
  walk_at "rd"
  refine ⟨⟨by decide, by decide⟩, ?_⟩
  refine ⟨_, rfl, fun s H1 ex1 hs => ?_⟩
  obtain ⟨s1, s2, s3, s4⟩ := dname_is hs
  refine ⟨s, rfl, by rw [len_cps]; exact short (by omega), ?_⟩
  walk_at "rd"
  have hb5 : (cutS s none (some 5)).cps.toList.length ≤ 5 ∧ lettL (cutS s none (some 5)).cps.toList = true := by
    unfold cutS
    rw [HT.sIx_none, show (5 : Int) = ((5 : Nat) : Int) from rfl, HT.sIx_nat]
    simp only [List.drop_zero, Nat.sub_zero]
    refine ⟨?_, lettL_take s4 _⟩
    rw [List.length_take]
    omega
  revert hb5
  generalize cutS s none (some 5) = bs
  rintro ⟨hb5, hbl⟩
  refine ⟨by show 8 ≤ sizeLine; decide, fun p0 hp0 => ?_⟩
  refine ⟨by decide, ?_⟩
  obtain ⟨m, hm1, hm8, hm⟩ := many_at i
  refine q_ixL (SqL.of upd_same) hm ?_
  walk_at "rd"
  refine ⟨Nat.zero_le _, fun p hp => ?_⟩
  walk_at "rd"
  have ex2 : Ex H (upd (upd H1 p0 (.lst [.int 1, .int 2, .int 3, .int 4, .int 2, .int 3, .int 1, .int 8])) p (.lst [])) := (ex1.tr (Ex.nw hp0)).tr (Ex.nw hp)
  have hp2 : (upd (upd H1 p0 (.lst [.int 1, .int 2, .int 3, .int 4, .int 2, .int 3, .int 1, .int 8])) p (.lst [])) p = some (.lst []) := upd_same
  have hpn : H p = none := (ex1.tr (Ex.nw hp0)).fr hp
  revert ex2 hp2
  generalize upd (upd H1 p0 (.lst [.int 1, .int 2, .int 3, .int 4, .int 2, .int 3, .int 1, .int 8])) p (.lst []) = H2
  intro ex2 hp2
  refine f_rng (n := (m : Int)) (fun R r => by walk_at "rd"; exact r) (by omega)
    (fun k σ H' => Ex H H' ∧ k ≤ m ∧ ∃ (j : Int) (o1 o2 : Option V) (ys : List V) (cs : Cols), σ = [some (.str n), some (.int i), some (.str bs), some (.int (m : Int)), some (.ref p), some (.int j), o1, o2] ∧ H' p = some (.lst ys) ∧ DpAll K H' ys (cs.map colD) ∧ cs.length = k ∧ ∀ x c, cs[x]? = some c → c.1.cps.toList = nmj (decide (i / 8 % 2 = 1)) bs.cps.toList x)
    ⟨ex2, Nat.zero_le _, i, none, none, [], [], rfl, hp2, .nil, rfl, fun x c h => by simp at h⟩ ?_ ?_
  · rintro k σ H' hk ⟨ex, hkm, j, o1, o2, ys, cs, rfl, hp', hys, hl, hcs⟩
    have hk8 : k < 8 := by omega
    walk_at "rd"
    refine ⟨j, rfl, fun j2 h0 h1 => ?_⟩
    walk_at "rd"
    have hbl5 : bs.length ≤ 5 := by rw [len_cps]; exact hb5
    refine ⟨Nat.le_trans (by show bs.length + 1 ≤ 100; omega) (by decide), ?_⟩
    refine ⟨_, _, _, rfl, rfl, by decide +kernel, at_eight k hk8, ?_⟩
    walk_at "rd"
    refine ⟨by rw [len_cps, cps_app, List.length_append]; exact short (by show bs.cps.toList.length + 1 + 1 ≤ 100; omega), ?_⟩
    refine ⟨⟨by decide, by decide⟩, by decide, ?_⟩
    by_cases hf : i / 8 % 2 = 1
    · rw [if_pos hf]
      refine ⟨_, _, _, rfl, rfl, by decide +kernel, at_eight k hk8, ?_⟩
      walk_at "rd"
      refine ⟨Nat.le_trans (by show 1 + 1 ≤ 100; decide) (by decide), ?_⟩
      refine ⟨Nat.le_trans (by show 1 + 1 + bs.length ≤ 100; omega) (by decide), ?_⟩
      have hcol : (((⟨#[97 + k]⟩ : Str) ++ ("z" : Str)) ++ bs).cps.toList = nmj (decide (i / 8 % 2 = 1)) bs.cps.toList k := by
        rw [cps_app, cps_app, decide_eq_true hf]
        rfl
      revert hcol
      generalize ((⟨#[97 + k]⟩ : Str) ++ ("z" : Str)) ++ bs = col
      intro hcol
      refine ⟨.inl ⟨rfl, _, SqL.of hp'⟩, ?_⟩
      walk_at "rd"
      refine ⟨by show 2 ≤ sizeLine; decide, fun p3 hp3 => ?_⟩
      walk_at "rd"
      obtain ⟨kb, hkb⟩ := kind_at (j2 / 7)
      refine ⟨⟨by decide, by decide⟩, by decide, q_ixL (SqL.of upd_same) hkb ?_⟩
      refine ⟨by show 2 ≤ sizeLine; decide, fun z hz => ?_⟩
      have exa : Ex H' (upd H' p3 (.lst [.str "number", .str "text"])) := Ex.nw hp3
      have exb : Ex H' (upd (upd H' p3 (.lst [.str "number", .str "text"])) z (.tup [.str col, .str (kdS kb)])) := exa.tr (Ex.nw hz)
      have hzt : (upd (upd H' p3 (.lst [.str "number", .str "text"])) z (.tup [.str col, .str (kdS kb)])) z = some (.tup [.str col, .str (kdS kb)]) := upd_same
      revert exb hzt
      generalize upd (upd H' p3 (.lst [.str "number", .str "text"])) z (.tup [.str col, .str (kdS kb)]) = H3
      intro exb hzt
      have hp3' := exb _ _ hp'
      have hyl : ys.length = k := by rw [DpAll.length hys, List.length_map, hl]
      refine ⟨p, _, _, rfl, rfl, hp3', Nat.lt_of_le_of_lt (by omega : ys.length ≤ 8) (by decide), ?_⟩
      walk_at "rd"
      have tt : Tt H3 (upd H3 p (.lst (ys ++ [.ref z]))) := Tt.up hp3' rfl
      refine ⟨(ex.tr exb).mu hpn, by omega, j2, _, _, ys ++ [.ref z], cs ++ [(col, kb)], rfl, upd_same, ?_, by rw [List.length_append, hl]; rfl, fun x c hx => ?_⟩
      · rw [List.map_append]
        exact DpAll.app (DpAll.tt tt _ _ (col_nl cs) (DpAll.ex exb _ _ hys)) (.cons (.tup (tt.t (SqT.of hzt)) (.cons (.str _) (.cons (.str _) .nil))) .nil)
      · by_cases hxk : x < cs.length
        · rw [List.getElem?_append_left hxk] at hx
          exact hcs x c hx
        · rw [List.getElem?_append_right (by omega)] at hx
          have hx0 : x - cs.length = 0 := by
            cases hq : x - cs.length with
            | zero => rfl
            | succ y => rw [hq] at hx; simp at hx
          rw [hx0] at hx
          have hc : (col, kb) = c := by simpa using hx
          rw [← hc]
          have hxe : x = k := by omega
          rw [hxe]
          exact hcol
    · rw [if_neg hf]
      have hcol : ((bs ++ ("z" : Str)) ++ (⟨#[97 + k]⟩ : Str)).cps.toList = nmj (decide (i / 8 % 2 = 1)) bs.cps.toList k := by
        rw [cps_app, cps_app, decide_eq_false hf, List.append_assoc]
        rfl
      revert hcol
      generalize (bs ++ ("z" : Str)) ++ (⟨#[97 + k]⟩ : Str) = col
      intro hcol
      refine ⟨.inl ⟨rfl, _, SqL.of hp'⟩, ?_⟩
      walk_at "rd"
      refine ⟨by show 2 ≤ sizeLine; decide, fun p3 hp3 => ?_⟩
      walk_at "rd"
      obtain ⟨kb, hkb⟩ := kind_at (j2 / 7)
      refine ⟨⟨by decide, by decide⟩, by decide, q_ixL (SqL.of upd_same) hkb ?_⟩
      refine ⟨by show 2 ≤ sizeLine; decide, fun z hz => ?_⟩
      have exa : Ex H' (upd H' p3 (.lst [.str "number", .str "text"])) := Ex.nw hp3
      have exb : Ex H' (upd (upd H' p3 (.lst [.str "number", .str "text"])) z (.tup [.str col, .str (kdS kb)])) := exa.tr (Ex.nw hz)
      have hzt : (upd (upd H' p3 (.lst [.str "number", .str "text"])) z (.tup [.str col, .str (kdS kb)])) z = some (.tup [.str col, .str (kdS kb)]) := upd_same
      revert exb hzt
      generalize upd (upd H' p3 (.lst [.str "number", .str "text"])) z (.tup [.str col, .str (kdS kb)]) = H3
      intro exb hzt
      have hp3' := exb _ _ hp'
      have hyl : ys.length = k := by rw [DpAll.length hys, List.length_map, hl]
      refine ⟨p, _, _, rfl, rfl, hp3', Nat.lt_of_le_of_lt (by omega : ys.length ≤ 8) (by decide), ?_⟩
      walk_at "rd"
      have tt : Tt H3 (upd H3 p (.lst (ys ++ [.ref z]))) := Tt.up hp3' rfl
      refine ⟨(ex.tr exb).mu hpn, by omega, j2, _, _, ys ++ [.ref z], cs ++ [(col, kb)], rfl, upd_same, ?_, by rw [List.length_append, hl]; rfl, fun x c hx => ?_⟩
      · rw [List.map_append]
        exact DpAll.app (DpAll.tt tt _ _ (col_nl cs) (DpAll.ex exb _ _ hys)) (.cons (.tup (tt.t (SqT.of hzt)) (.cons (.str _) (.cons (.str _) .nil))) .nil)
      · by_cases hxk : x < cs.length
        · rw [List.getElem?_append_left hxk] at hx
          exact hcs x c hx
        · rw [List.getElem?_append_right (by omega)] at hx
          have hx0 : x - cs.length = 0 := by
            cases hq : x - cs.length with
            | zero => rfl
            | succ y => rw [hq] at hx; simp at hx
          rw [hx0] at hx
          have hc : (col, kb) = c := by simpa using hx
          rw [← hc]
          have hxe : x = k := by omega
          rw [hxe]
          exact hcol
  · rintro σ H' ⟨ex, hkm, j, o1, o2, ys, cs, rfl, hp', hys, hl, hcs⟩
    walk_at "rd"
    refine ⟨p, ys, rfl, .inl ⟨SqL.of hp', fun l hlf => ?_⟩⟩
    refine ⟨by show 2 ≤ sizeLine; decide, fun a ha => ?_⟩
    have ex3 : Ex H' (upd (upd H' l (.tup ys)) a (.tup [.str n, .ref l])) := (Ex.nw hlf).tr (Ex.nw ha)
    have hlm : cs.length = m := by rw [hl]; exact Int.toNat_natCast m
    have nms : ∀ c, c ∈ cs → dName (.str c.1) = true := fun c hc => by
      obtain ⟨x, hx, hxc⟩ := List.mem_iff_getElem.mp hc
      have hx2 : cs[x]? = some c := by rw [List.getElem?_eq_getElem hx, hxc]
      exact nmj_ok hbl hb5 (by omega) (hcs x c hx2)
    have hcne : cs ≠ [] := fun e => by rw [e] at hlm; simp at hlm; omega
    have nd : (cs.map (·.1)).Nodup := by
      refine List.pairwise_iff_getElem.mpr fun x y hx hy hxy e => ?_
      rw [List.length_map] at hx hy
      rw [List.getElem_map, List.getElem_map] at e
      have e1 := hcs x _ (List.getElem?_eq_getElem hx)
      have e2 := hcs y _ (List.getElem?_eq_getElem hy)
      rw [e, e2] at e1
      have := nmj_inj e1
      omega
    have dcs := dcols_of cs [] nms (fun _ _ h => by cases h) nd
    have smc : ∀ l : Cols, (∀ c, c ∈ l → dName (.str c.1) = true) → smA (l.map colD) = true := fun l => by
      induction l with
      | nil => intro _; rfl
      | cons c l ih =>
        intro h
        have h1 := name_sm (h c (List.mem_cons_self ..))
        have h2 : sm (.str (kdS c.2)) = true := by
          cases c.2
          · show sm (.str "number") = true
            decide +kernel
          · show sm (.str "text") = true
            decide +kernel
        simp only [List.map_cons, smA, colD, sm, Bool.and_true]
        simp only [sm] at h1 h2
        rw [h1, h2, ih fun d hd => h d (List.mem_cons_of_mem _ hd)]
        rfl
    refine q a cs _ (ex.tr ex3) (.tup (SqT.of upd_same) (.cons (.str _) (.cons (.tup ((Ex.nw ha).t (SqT.of upd_same)) (DpAll.ex ex3 _ _ hys)) .nil))) ⟨?_, ?_, hcne⟩ ⟨bs.cps.toList.length + 2, by omega, fun c hc => ?_⟩
    · simp only [shD, dShape, hn, dcs, List.length_map, hlm, Bool.true_and, Bool.and_true, Bool.and_eq_true, decide_eq_true_eq]
      exact ⟨hm1, hm8⟩
    · simp only [shD, sm, smA, Bool.and_true, Bool.and_eq_true]
      have h1 := name_sm hn
      simp only [sm] at h1
      exact ⟨h1, smc cs nms⟩
    · obtain ⟨x, hx, hxc⟩ := List.mem_iff_getElem.mp hc
      have hx2 : cs[x]? = some c := by rw [List.getElem?_eq_getElem hx, hxc]
      rw [hcs x c hx2, nmj_len]
end


section
variable {P : Program} {w : World} {K : PySem.W.Frag} {mg : Str → Option Value} {base : Heap}
/-! ### values, rows -/
def signsV : Str := " !\"#$&'()*+,-./0123456789:;<=>?@ABCDEFGHIJKLMNOPQRSTUVWXYZ[\\]^_`abcdefghijklmnopqrstuvwxyz{|}~"
theorem signs_ok : signsV.cps.toList.length = 94 ∧ signsV.cps.toList.all lowSign = true := by decide +kernel
theorem at_signs (i : Int) (h0 : 0 ≤ i) (h1 : i < 94) : ∃ c, atI signsV.cps.toList i = some c ∧ lowSign c = true := by
  obtain ⟨a, rfl⟩ : ∃ a : Nat, i = (a : Int) := ⟨i.toNat, by omega⟩
  have hl : a < signsV.cps.toList.length := by rw [signs_ok.1]; omega
  obtain ⟨c, hc, _⟩ := drop_cons hl
  exact ⟨c, atI_nat hc, List.all_eq_true.mp signs_ok.2 c (List.mem_of_getElem? hc)⟩
theorem sc_law_text_by : FnScope ["_law_cell", "_law_some", "_law_size", "_law_found", "_law_number", "_law_k"] ["_law_cell"] (defScope s_law_text_by) := ⟨rfl, rfl, rfl, by decide +kernel, rfl, by decide +kernel, by decide +kernel⟩
theorem ok_law_text_by (T : Tx K mg) : Gd P w K mg base CX0 2 "_law_text_by" ["_law_cell"] (fun vs H Q _ => ∃ i : Int, vs = [.int i] ∧ ∀ s : Str, dVal (.str s) = true → Q (.str s) H) := by
  refine gd0 (f_law_text_by T) sc_law_text_by (fun _ _ _ _ _ _ us hl => match us, hl with | [_], _ => rfl) ?len (fun f cdv A outer s H vs Q E hr h => ⟨_, (pss_cons (ps_set (i := 1) sc_law_text_by.nd rfl (Or.inl rfl) pe_str)
      (pss_cons (ps_set (i := 2) sc_law_text_by.nd rfl (Or.inl rfl) (pe_op op_mod (pv 0) pe_int))
      (pss_cons (ps_if (pt_cmpR op_eq (pe_op op_mod (pe_op op_fdiv (pv 0) pe_int) pe_int) pe_int (nomark _)) (pss_one (ps_set (i := 2) sc_law_text_by.nd rfl (Or.inl rfl) (pe_op op_mod (pe_op op_fdiv (pv 0) pe_int) pe_int))) pss_nil)
      (pss_cons (ps_set (i := 3) sc_law_text_by.nd rfl (Or.inl rfl) pe_str)
      (pss_cons (ps_set (i := 4) sc_law_text_by.nd rfl (Or.inl rfl) (pv 0))
      (pss_cons (ps_for PassesOwn.never rfl (pi_range1 (by rfl) (n_range T) (pa_cons (pv 2) pa_nil)) (pg_name (i := 5) sc_law_text_by.nd rfl (Or.inl rfl)) (pss_cons (ps_set (i := 4) sc_law_text_by.nd rfl (Or.inl rfl) (pe_g (ok_law_mixed T) hr (by decide) p0 (pa_cons (pv 4) pa_nil)))
      (pss_one (ps_set (i := 3) sc_law_text_by.nd rfl (Or.inl rfl) (pe_op o_add_str (pv 3) (pe_ix ix_str (pv 1) (pe_op op_mod (pv 4) pe_int) (fun _ _ => rfl)))))))
      (pss_one (ps_ret (pv 3))))))))), ?_⟩)
  case len => rintro vs H Q E ⟨i, rfl, _⟩; rfl
  obtain ⟨i, rfl, q⟩ := h
  refine q_seq fun nx1 go1 => ?_
  walk_at "rd"
  refine go1 _ _ (q_seq fun nx2 go2 => ?_)
  walk_at "rd"
  refine ⟨by decide, ?_⟩
  refine go2 _ _ (q_seq fun nx3 go3 => ?_)
  have rest : ∀ n : Int, 0 ≤ n → n ≤ 40 → nx3 [some (.int i), some (.str signsV), some (.int n), none, none, none] H := by
    intro n h0 h40
    refine go3 _ _ ?_
    walk_at "rd"
    refine f_rng (n := n) (fun R r => by walk_at "rd"; exact r) (by omega)
      (fun k σ H' => H' = H ∧ (k : Int) ≤ n ∧ ∃ (s : Str) (j : Int) (o : Option V), σ = [some (.int i), some (.str signsV), some (.int n), some (.str s), some (.int j), o] ∧ s.cps.toList.length = k ∧ s.cps.toList.all lowSign = true)
      ⟨rfl, by omega, ("" : Str), i, none, rfl, rfl, rfl⟩ ?_ ?_
    · rintro k σ H' hk ⟨rfl, hkn, s, j, o, rfl, hl, hs⟩
      walk_at "rd"
      refine ⟨j, rfl, fun j2 h0 h1 => ?_⟩
      walk_at "rd"
      have n1 := Int.emod_nonneg j2 (by decide : (94 : Int) ≠ 0)
      have n2 := Int.emod_lt_of_pos j2 (by decide : (0 : Int) < 94)
      obtain ⟨c, hc, hlow⟩ := at_signs _ n1 n2
      refine ⟨by decide, _, _, _, rfl, rfl, by rw [len_cps, signs_ok.1]; decide, hc, ?_⟩
      walk_at "rd"
      refine ⟨?_, ?_⟩
      · rw [len_cps, hl]
        exact short (by show k + 1 ≤ 100; omega)
      refine ⟨by omega, _, j2, _, rfl, ?_, ?_⟩
      · rw [cps_app, List.length_append, hl]
        rfl
      · rw [cps_app, List.all_append, hs]
        simp [hlow]
    · rintro σ H' ⟨rfl, hkn, s, j, o, rfl, hl, hs⟩
      walk_at "rd"
      refine q s ?_
      simp only [dVal, Bool.and_eq_true, decide_eq_true_eq]
      refine ⟨by rw [len_cps, hl]; omega, hs⟩
  walk_at "rd"
  refine ⟨⟨by decide, by decide⟩, by decide, ?_⟩
  have a1 := Int.emod_nonneg i (by decide : (6 : Int) ≠ 0)
  have a2 := Int.emod_lt_of_pos i (by decide : (0 : Int) < 6)
  have b1 := Int.emod_nonneg (i / 48) (by decide : (41 : Int) ≠ 0)
  have b2 := Int.emod_lt_of_pos (i / 48) (by decide : (0 : Int) < 41)
  refine q_iteP (fun _ => ?_) fun _ => ?_
  · refine ⟨⟨by decide, by decide⟩, by decide, ?_⟩
    exact rest _ b1 (by omega)
  · exact rest _ a1 (by omega)
theorem sc_law_value_by : FnScope ["_law_kind", "_law_cell"] ["_law_kind", "_law_cell"] (defScope s_law_value_by) := ⟨rfl, rfl, rfl, by decide +kernel, rfl, by decide +kernel, by decide +kernel⟩
theorem ok_law_value_by (T : Tx K mg) : Gd P w K mg base CX0 3 "_law_value_by" ["_law_kind", "_law_cell"] (fun vs H Q _ => ∃ (b : Bool) (i : Int), vs = [.str (kdS b), .int i] ∧ 0 ≤ i ∧ i < 2147483648 ∧ ∀ c : Cv, dCell b c.d = true → Q c.v H) := by
  refine gd0 (f_law_value_by T) sc_law_value_by (fun _ _ _ _ _ _ us hl => match us, hl with | [_, _], _ => rfl) ?len (fun f cdv A outer s H vs Q E hr h => ⟨_, (pss_cons (ps_if (pt_cmpR op_eq (pe_op op_mod (pv 1) pe_int) pe_int (nomark _)) (pss_one (ps_ret pe_non)) pss_nil)
      (pss_cons (ps_if (pt_cmpR op_eq (pv 0) pe_str (nomark _)) (pss_one (ps_ret (pe_g (ok_law_text_by T) hr (by decide) p0 (pa_cons (pe_op op_fdiv (pv 1) pe_int) pa_nil)))) pss_nil)
      (pss_cons (ps_if (pt_cmpR op_eq (pe_op op_mod (pv 1) pe_int) pe_int (nomark _)) (pss_one (ps_ret (pe_op op_sub (pe_op op_mod (pe_op op_mul (pe_op op_mul (pv 1) (pv 1)) pe_int) (pe_op op_sub (pe_op op_mul pe_int (pe_op op_pow pe_int pe_int)) pe_int)) (pe_op op_sub (pe_op op_pow pe_int pe_int) pe_int)))) pss_nil)
      (pss_one (ps_ret (pe_op op_sub (pe_op op_mod (pe_op op_fdiv (pv 1) pe_int) pe_int) pe_int)))))), ?_⟩)
  case len => rintro vs H Q E ⟨b, i, rfl, _⟩; rfl
  obtain ⟨b, i, rfl, h0, h1, q⟩ := h
  walk_at "rd"
  refine ⟨by decide, ?_⟩
  refine q_iteP (fun _ => ?_) fun _ => ?_
  · exact q .non (by simp [dCell, Cv.d, dVal])
  cases b with
  | true =>
    rw [if_pos (by rfl)]
    walk_at "rd"
    refine ⟨⟨by decide, by decide⟩, _, rfl, fun s hs => q (.str s) ?_⟩
    simp only [dCell, Cv.d, hs, Bool.and_self]
  | false =>
    rw [if_neg (by exact kd_ne)]
    refine ⟨by decide, ?_⟩
    refine q_iteP (fun _ => ?_) fun _ => ?_
    · refine ⟨.inl ⟨by omega, by omega⟩, .inr ⟨by decide, by decide⟩, ⟨by decide, by decide, by decide⟩, .inl ⟨by decide, by decide⟩, ?_⟩
      have hp : (2 : Int) * 10 ^ (18 : Int).toNat - 1 = 1999999999999999999 := by decide
      have hp2 : (10 : Int) ^ (18 : Int).toNat - 1 = 999999999999999999 := by decide
      rw [hp]
      refine ⟨by decide, ⟨by decide, by decide, by decide⟩, ?_⟩
      rw [hp2]
      have e1 := Int.emod_nonneg (i * i * 48271) (by decide : (1999999999999999999 : Int) ≠ 0)
      have e2 := Int.emod_lt_of_pos (i * i * 48271) (by decide : (0 : Int) < 1999999999999999999)
      refine q (.int _) ?_
      simp only [dCell, Cv.d, dVal, Bool.not_false, Bool.and_true, Bool.and_eq_true, decide_eq_true_eq]
      omega
    · refine ⟨⟨by decide, by decide⟩, by decide, ?_⟩
      have e1 := Int.emod_nonneg (i / 5) (by decide : (9 : Int) ≠ 0)
      have e2 := Int.emod_lt_of_pos (i / 5) (by decide : (0 : Int) < 9)
      refine q (.int _) ?_
      simp only [dCell, Cv.d, dVal, Bool.not_false, Bool.and_true, Bool.and_eq_true, decide_eq_true_eq]
      omega
end


section
variable {P : Program} {w : World} {K : PySem.W.Frag} {mg : Str → Option Value} {base : Heap}
theorem mixed_third {j : Int} (h0 : 0 ≤ j) (h1 : j < 2147483647) : 0 ≤ j / 3 ∧ j / 3 < 2147483648 := by omega
theorem cv_nl (l : List Cv) : noLA (l.map Cv.d) = true := by
  induction l with
  | nil => rfl
  | cons c l ih =>
    show (noL c.d && noLA (l.map Cv.d)) = true
    rw [ih, Bool.and_true]
    cases c <;> rfl
theorem dp_cells {H : Hp} : ∀ row : List Cv, DpAll K H (row.map Cv.v) (row.map Cv.d)
  | [] => .nil
  | c :: r => .cons (Cv.dp c) (dp_cells r)
theorem sc_law_row_by : FnScope ["_law_shape", "_law_cell", "_law_found", "_law_column"] ["_law_shape", "_law_cell"] (defScope s_law_row_by) := ⟨rfl, rfl, rfl, by decide +kernel, rfl, by decide +kernel, by decide +kernel⟩
theorem ok_law_row_by (T : Tx K mg) : Gd P w K mg base CX0 4 "_law_row_by" ["_law_shape", "_law_cell"] (fun vs H Q _ => ∃ (a : Addr) (i : Int) (n : Str) (cs : Cols), vs = [.ref a, .int i] ∧ Dp K H (.ref a) (shD n cs) ∧ cs.length ≤ 8 ∧ ∀ p row H', Ex H H' → Dp K H' (.ref p) (rowD row) → dFits cs (rowD row) = true → Q (.ref p) H') := by
  refine gd0 (f_law_row_by T) sc_law_row_by (fun _ _ _ _ _ _ us hl => match us, hl with | [_, _], _ => rfl) ?len (fun f cdv A outer s H vs Q E hr h => ⟨_, (pss_cons (ps_set (i := 2) sc_law_row_by.nd rfl (Or.inl rfl) (pe_lst pa_nil))
      (pss_cons (ps_for PassesOwn.never rfl (pi_tup (pe_ix ix_tup (pv 0) pe_int (fun _ _ => rfl))) (pg_name (i := 3) sc_law_row_by.nd rfl (Or.inl rfl)) (pss_cons (ps_set (i := 1) sc_law_row_by.nd rfl (Or.inl rfl) (pe_g (ok_law_mixed T) hr (by decide) p0 (pa_cons (pv 1) pa_nil)))
      (pss_one (ps_expr (pe_bm PySem.F.plainAttrs_list PySem.F.slot_list_append PySem.F.type_list_append mt_append (pv 2) (pa_cons (pe_g (ok_law_value_by T) hr (by decide) p0 (pa_cons (pe_ix ix_tup (pv 3) pe_int (fun _ _ => rfl)) (pa_cons (pe_op op_fdiv (pv 1) pe_int) pa_nil))) pa_nil))))))
      (pss_one (ps_ret (pe_callTy c_tuple_of (by rfl) (n_tuple T) b_tuple (pa_cons (pv 2) pa_nil)))))), ?_⟩)
  case len => rintro vs H Q E ⟨a, i, n, cs, rfl, _⟩; rfl
  obtain ⟨a, i, n, cs, rfl, hd, h8, q⟩ := h
  obtain ⟨ca, ys, h1, h2, h3⟩ := dp_shape hd
  walk_at "rd"
  refine ⟨Nat.zero_le _, fun p hp => ?_⟩
  walk_at "rd"
  have ex1 : Ex H (upd H p (.lst [])) := Ex.nw hp
  refine f_tup (a := ca) (xs := ys) (fun R r => by
      walk_at "rd"
      exact q_ixT (ex1.t h1) at1 r) (ex1.t h2)
    (fun r σ H' => Ex H H' ∧ ∃ (j : Int) (o : Option V) (cs1 cs2 : Cols) (row : List Cv), σ = [some (.ref a), some (.int j), some (.ref p), o] ∧ H' p = some (.lst (row.map Cv.v)) ∧ cs = cs1 ++ cs2 ∧ DpAll K H r (cs2.map colD) ∧ row.length = cs1.length ∧ (∀ rest, dCells (cs1 ++ cs2) (row.map Cv.d ++ rest) = dCells cs2 rest))
    ⟨ex1, i, none, [], cs, [], rfl, upd_same, rfl, h3, rfl, fun _ => rfl⟩ (fun r σ H' ⟨e, _⟩ => e.t h2) ?_ ?_
  · rintro x r σ H' ⟨ex, j, o, cs1, cs2, row, rfl, hp', hcs, hda, hl, hc⟩
    cases cs2 with
    | nil => cases hda
    | cons c cs2 =>
      cases hda with | cons kc kr => ?_
      obtain ⟨b, rfl, hb⟩ := dp_col kc
      walk_at "rd"
      refine ⟨j, rfl, fun j2 g0 g1 => ?_⟩
      walk_at "rd"
      refine ⟨.inl ⟨rfl, _, SqL.of hp'⟩, ?_⟩
      refine q_ixT (ex.t hb) at1 ?_
      refine ⟨⟨by decide, by decide⟩, ?_⟩
      refine ⟨c.2, _, rfl, (mixed_third g0 g1).1, (mixed_third g0 g1).2, fun v hv => ?_⟩
      walk_at "rd"
      have hrl : row.length ≤ 8 := by
        rw [hcs, List.length_append] at h8
        omega
      refine ⟨p, _, _, rfl, rfl, hp', by rw [List.length_map]; exact Nat.lt_of_le_of_lt hrl (by decide), ?_⟩
      walk_at "rd"
      refine ⟨ex.mu hp, j2, _, cs1 ++ [c], cs2, row ++ [v], rfl, by rw [List.map_append]; exact upd_same, by rw [hcs]; simp, kr, by rw [List.length_append, List.length_append, hl]; rfl, fun rest => ?_⟩
      have z := hc (v.d :: rest)
      simp only [dCells, hv, Bool.true_and] at z
      rw [List.map_append, List.append_assoc, List.append_assoc]
      exact z
  · rintro σ H' ⟨ex, j, o, cs1, cs2, row, rfl, hp', hcs, hda, hl, hc⟩
    cases cs2 with
    | cons c cs2 => cases hda
    | nil =>
      walk_at "rd"
      refine ⟨p, _, rfl, .inl ⟨SqL.of hp', fun l hlf => ?_⟩⟩
      have ecs : cs = cs1 := by rw [hcs]; simp
      have z := hc []
      rw [List.append_nil, List.append_nil, ← ecs] at z
      refine q l row _ (ex.tr (Ex.nw hlf)) (.tup (SqT.of upd_same) (dp_cells row)) ?_
      simp only [rowD, dFits, List.length_map, hl, ← ecs, decide_true, Bool.true_and]
      rw [z]
      rfl
theorem sc_law_place : FnScope ["_law_shape", "_law_column", "_law_j"] ["_law_shape", "_law_column"] (defScope s_law_place) := ⟨rfl, rfl, rfl, by decide +kernel, rfl, by decide +kernel, by decide +kernel⟩
theorem ok_law_place (T : Tx K mg) : Gd P w K mg base CX0 1 "_law_place" ["_law_shape", "_law_column"] (fun vs H Q _ => ∃ (a : Addr) (n c : Str) (b : Bool) (cr : Cols), vs = [.ref a, .str c] ∧ Dp K H (.ref a) (shD n ((c, b) :: cr)) ∧ cr.length ≤ 7 ∧ Q (.int 0) H) := by
  refine gd0 (f_law_place T) sc_law_place (fun _ _ _ _ _ _ us hl => match us, hl with | [_, _], _ => rfl) ?len (fun f cdv A outer s H vs Q E hr h => ⟨_, (pss_cons (ps_for PassesOwn.never rfl (pi_range1 (by rfl) (n_range T) (pa_cons (pe_callB c_len_seq (by rfl) (n_len T) b_len (pa_cons (pe_ix ix_tup (pv 0) pe_int (fun _ _ => rfl)) pa_nil)) pa_nil)) (pg_name (i := 2) sc_law_place.nd rfl (Or.inl rfl)) (pss_one (ps_if (pt_cmpR op_eq (pe_ix ix_tup (pe_ix ix_tup (pe_ix ix_tup (pv 0) pe_int (fun _ _ => rfl)) (pv 2) (fun _ _ => rfl)) pe_int (fun _ _ => rfl)) (pv 1) (nomark _)) (pss_one (ps_ret (pv 2))) pss_nil)))
      (pss_one (ps_ret (pe_un un_neg pe_int)))), ?_⟩)
  case len => rintro vs H Q E ⟨a, n, c, b, cr, rfl, _⟩; rfl
  obtain ⟨a, n, c, b, cr, rfl, hd, h7, q⟩ := h
  obtain ⟨ca, ys, h1, h2, h3⟩ := dp_shape hd
  have hl : ys.length = cr.length + 1 := by rw [DpAll.length h3]; simp
  walk_at "rd"
  refine f_rng (n := (ys.length : Int)) (fun R r => by
      walk_at "rd"
      refine q_ixT h1 at1 ?_
      exact q_lenT h2 r) (by omega)
    (fun k σ H' => k = 0 ∧ H' = H ∧ ∃ o, σ = [some (.ref a), some (.str c), o]) ⟨rfl, rfl, none, rfl⟩ ?_ ?_
  · rintro k σ H' hk ⟨rfl, rfl, o, rfl⟩
    walk_at "rd"
    refine q_ixT h1 at1 ?_
    obtain ⟨x, hx, dx⟩ := DpAll.at_ h3 (i := 0) (d := colD (c, b)) rfl
    refine q_ixT h2 (atI_nat hx) ?_
    obtain ⟨y, rfl, hy⟩ := dp_col dx
    refine q_ixT hy at0 ?_
    walk_at "rd"
    exact q
  · rintro σ H' ⟨hk, _⟩
    omega
/-! ### the law's model -/
def MdAt (K : PySem.W.Frag) (H : Hp) (d : Addr) (n : Str) (cs : Cols) : Stt → Prop
  | none => H d = some (.dK [])
  | some (rows, b) => ∃ e sh r l, H d = some (.dK [(.inr n, .ref e)]) ∧ H e = some (.dK [(.inr "shape", .ref sh), (.inr "rows", .ref r), (.inr "columns", .ref l)]) ∧ Dp K H (.ref sh) (shD n cs) ∧ RowsAt K H r rows ∧ H l = some (.lst (if b then [.str (fcol cs)] else []))
theorem MdAt.ex {H H' : Hp} {d : Addr} {n : Str} {cs : Cols} {S : Stt} (e : Ex H H') (h : MdAt K H d n cs S) : MdAt K H' d n cs S := by
  cases S with
  | none => exact e _ _ h
  | some z =>
    obtain ⟨rows, b⟩ := z
    obtain ⟨x, sh, r, l, h1, h2, h3, h4, h5⟩ := h
    exact ⟨x, sh, r, l, e _ _ h1, e _ _ h2, Dp.ex e _ _ h3, h4.ex e, e _ _ h5⟩
theorem kd3 : (([.inr "shape", .inr "rows", .inr "columns"] : List Key)).Nodup := by decide +kernel
theorem v_shape (a b c : V) : valV ([(.inr "shape", a), (.inr "rows", b), (.inr "columns", c)] : List (Key × V)) (.inr "shape") = some a := valV_pos rfl
theorem v_rows (a b c : V) : valV ([(.inr "shape", a), (.inr "rows", b), (.inr "columns", c)] : List (Key × V)) (.inr "rows") = some b := (valV_neg (by show ¬ ((.inr "shape" : Key) = .inr "rows"); decide +kernel)).trans (valV_pos rfl)
theorem v_columns (a b c : V) : valV ([(.inr "shape", a), (.inr "rows", b), (.inr "columns", c)] : List (Key × V)) (.inr "columns") = some c := (valV_neg (by show ¬ ((.inr "shape" : Key) = .inr "columns"); decide +kernel)).trans ((valV_neg (by show ¬ ((.inr "rows" : Key) = .inr "columns"); decide +kernel)).trans (valV_pos rfl))
theorem e_sr : ((.inr "shape" : Key) = .inr "rows") = False := eq_false (by decide +kernel)
theorem e_sc : ((.inr "shape" : Key) = .inr "columns") = False := eq_false (by decide +kernel)
theorem e_rc : ((.inr "rows" : Key) = .inr "columns") = False := eq_false (by decide +kernel)
theorem e_cr : ((.inr "columns" : Key) = .inr "rows") = False := eq_false (by decide +kernel)
theorem p_columns (a b c v : V) : putK ([(.inr "shape", a), (.inr "rows", b), (.inr "columns", c)] : List (Key × V)) (.inr "columns") v = [(.inr "shape", a), (.inr "rows", b), (.inr "columns", v)] := by
  unfold putK
  simp only [List.any_cons, List.any_nil, List.map_cons, List.map_nil, e_sc, e_rc, decide_true, decide_false, Bool.or_true, Bool.or_false, Bool.false_or, Bool.true_or, if_true, if_false]
theorem p_rows (a b c v : V) : putK ([(.inr "shape", a), (.inr "rows", b), (.inr "columns", c)] : List (Key × V)) (.inr "rows") v = [(.inr "shape", a), (.inr "rows", v), (.inr "columns", c)] := by
  unfold putK
  simp only [List.any_cons, List.any_nil, List.map_cons, List.map_nil, e_sr, e_cr, decide_true, decide_false, Bool.or_true, Bool.or_false, Bool.false_or, Bool.true_or, if_true, if_false]
theorem put1 (n : Str) (a v : V) : putK ([(.inr n, a)] : List (Key × V)) (.inr n) v = [(.inr n, v)] := by
  simp [putK]
end


section
variable {P : Program} {w : World} {K : PySem.W.Frag} {mg : Str → Option Value} {base : Heap}
theorem np_of {H : Hp} {a b : Addr} {o : HO} (h : H a = some o) (n : H b = none) : a ≠ b := fun e => by rw [e, n] at h; cases h
theorem rr (l : List Cv) : (l.map Cv.d).map id = l.map Cv.d := by simp
theorem no_put {rows : List Rw} {H : Hp} {kvs : List (Key × V)} {m : Int} (h : KD K H rwK rwD kvs rows) (hn : ∀ z, z ∈ rows → z.1 ≠ m) : valV kvs (.inl m) = none := h.none_ fun x hx e => hn x hx (Sum.inl.inj e)
theorem sc_law_after : FnScope ["_law_model", "_law_change", "_law_found", "_law_one_here", "_law_rows"] ["_law_model", "_law_change"] (defScope s_law_after) := ⟨rfl, rfl, rfl, by decide +kernel, rfl, by decide +kernel, by decide +kernel⟩
theorem ok_law_after (T : Tx K mg) : Gd P w K mg base CX0 1 "_law_after" ["_law_model", "_law_change"] (fun vs H Q _ => ∃ d c n cs S S' op, vs = [.ref d, .ref c] ∧ MdAt K H d n cs S ∧ Dp K H (.ref c) (opD n cs op) ∧ Can cs S op S' ∧ ∀ p H', Ex H H' → H p = none → MdAt K H' p n cs S' → Q (.ref p) H') := by
  refine gd0 (f_law_after T) sc_law_after (fun _ _ _ _ _ _ us hl => match us, hl with | [_, _], _ => rfl) ?len (fun f cdv A outer s H vs Q E hr h => ⟨_, (pss_cons (ps_set (i := 2) sc_law_after.nd rfl (Or.inl rfl) (pe_callTy c_dictD (by rfl) (n_dict T) b_dict (pa_cons (pv 0) pa_nil)))
      (pss_cons (ps_if (pt_cmpR op_eq (pe_ix ix_tup (pv 1) pe_int (fun _ _ => rfl)) pe_str (nomark _)) (pss_cons (ps_dput (hu_of hr) (pv 2) (pe_ix ix_tup (pe_ix ix_tup (pv 1) pe_int (fun _ _ => rfl)) pe_int (fun _ _ => rfl)) (pe_disp (pps_cons pe_str (pe_ix ix_tup (pv 1) pe_int (fun _ _ => rfl)) (pps_cons pe_str pe_dnewK (pps_cons pe_str (pe_lst pa_nil) pps_nil))) (by rfl) (by rfl) (fun z => by cases z) (by decide)) rfl)
      (pss_one (ps_ret (pv 2)))) pss_nil)
      (pss_cons (ps_set (i := 3) sc_law_after.nd rfl (Or.inl rfl) (pe_callTy c_dictD (by rfl) (n_dict T) b_dict (pa_cons (pe_dget (hu_of hr) (pv 0) (pe_ix ix_tup (pv 1) pe_int (fun _ _ => rfl)) (fun _ _ => rfl)) pa_nil)))
      (pss_cons (ps_if (pt_cmpR op_eq (pe_ix ix_tup (pv 1) pe_int (fun _ _ => rfl)) pe_str (nomark _)) (pss_one (ps_dput (hu_of hr) (pv 3) pe_str (pe_op op_cat (pe_dget (hu_of hr) (pv 3) pe_str (fun _ _ => rfl)) (pe_lst (pa_cons (pe_ix ix_tup (pv 1) pe_int (fun _ _ => rfl)) pa_nil))) rfl)) (pss_cons (ps_set (i := 4) sc_law_after.nd rfl (Or.inl rfl) (pe_callTy c_dictD (by rfl) (n_dict T) b_dict (pa_cons (pe_dget (hu_of hr) (pv 3) pe_str (fun _ _ => rfl)) pa_nil)))
      (pss_cons (ps_if (pt_cmpR op_eq (pe_ix ix_tup (pv 1) pe_int (fun _ _ => rfl)) pe_str (nomark _)) (pss_one (ps_dput (hu_of hr) (pv 4) (pe_ix ix_tup (pv 1) pe_int (fun _ _ => rfl)) (pe_ix ix_tup (pv 1) pe_int (fun _ _ => rfl)) rfl)) pss_never)
      (pss_one (ps_dput (hu_of hr) (pv 3) pe_str (pv 4) rfl)))))
      (pss_cons (ps_dput (hu_of hr) (pv 2) (pe_ix ix_tup (pv 1) pe_int (fun _ _ => rfl)) (pv 3) rfl)
      (pss_one (ps_ret (pv 2)))))))), ?_⟩)
  case len => rintro vs H Q E ⟨d, c, n, cs, S, S', op, rfl, _⟩; rfl
  obtain ⟨d, c, n, cs, S, S', op, rfl, hM, hop, hc, q⟩ := h
  cases op with
  | mk =>
    cases S with
    | some z => cases z; cases hc
    | none =>
      cases hc
      have hd : H d = some (.dK []) := hM
      cases hop with
      | tup h1 h2 =>
        obtain ⟨x, y, rfl, k1, k2⟩ := dp2 h2
        cases k1
        have hy : ∃ b, y = .ref b := by cases k2; exact ⟨_, rfl⟩
        obtain ⟨b, rfl⟩ := hy
        walk_at "rd"
        refine q_dictD (.inl hd) fun p hp => ?_
        have ex1 : Ex H (upd H p (.dK [])) := Ex.nw hp
        walk_at "rd"
        refine q_ixT (ex1.t h1) at0 ?_
        walk_at "rd"
        intro p2 hp2
        have ex2 : Ex H (upd (upd H p (.dK [])) p2 (.dK [])) := ex1.tr (Ex.nw hp2)
        refine q_ixT (ex2.t h1) at1 ?_
        walk_at "rd"
        intro r hr
        refine ⟨Nat.zero_le _, fun l hl => ?_⟩
        have n21 : p ≠ p2 := np_of upd_same hp2
        have e2 : (upd (upd H p (.dK [])) p2 (.dK [])) p2 = some (.dK []) := upd_same
        have e1 : (upd (upd H p (.dK [])) p2 (.dK [])) p = some (.dK []) := by rw [upd_ne n21]; exact upd_same
        have nr2 : p2 ≠ r := np_of e2 hr
        have nr1 : p ≠ r := np_of e1 hr
        have e3 : (upd (upd (upd H p (.dK [])) p2 (.dK [])) r (.dK [])) r = some (.dK []) := upd_same
        have nl3 : r ≠ l := np_of e3 hl
        have nl2 : p2 ≠ l := np_of (by rw [upd_ne nr2]; exact e2) hl
        have nl1 : p ≠ l := np_of (by rw [upd_ne nr1]; exact e1) hl
        have ex4 : Ex H (upd (upd (upd (upd H p (.dK [])) p2 (.dK [])) r (.dK [])) l (.lst [])) := (ex2.tr (Ex.nw hr)).tr (Ex.nw hl)
        have hp20 : H p2 = none := ex1.fr hp2
        refine q_disp [(.inr "shape", .ref b), (.inr "rows", .ref r), (.inr "columns", .ref l)] (by rw [upd_ne nl2, upd_ne nr2]; exact e2) rfl (by show 3 ≤ 15; decide) kd3 ?_
        have ex5 := ex4.mu (o := .dK [(.inr "shape", .ref b), (.inr "rows", .ref r), (.inr "columns", .ref l)]) hp20
        walk_at "rd"
        refine q_ixT (ex5.t h1) at1 ?_
        obtain ⟨ca, ys, g1, g2, g3⟩ := dp_shape k2
        refine q_ixT (ex5.t g1) at0 ?_
        refine q_dput (by rw [upd_ne n21, upd_ne nl1, upd_ne nr1]; exact e1) (k := .inr n) rfl (by show 0 < sizeLine; decide) ?_
        have ex6 := ex5.mu (o := .dK (putK [] (.inr n) (.ref p2))) hp
        refine q p _ ex6 hp ⟨p2, b, r, l, upd_same, ?_, Dp.ex ex6 _ _ k2, ⟨[], ?_, .nil⟩, ?_⟩
        · rw [upd_ne (Ne.symm n21), upd_same]
        · rw [upd_ne (Ne.symm nr1), upd_ne (Ne.symm nr2), upd_ne nl3]
          exact e3
        · rw [upd_ne (Ne.symm nl1), upd_ne (Ne.symm nl2), upd_same]
          rfl
  | ix =>
    cases S with
    | none => cases hc
    | some z =>
      obtain ⟨rows, b⟩ := z
      cases b with
      | true => cases hc
      | false =>
        obtain ⟨rfl, tok⟩ := hc
        obtain ⟨e, sh, r, l, m1, m2, m3, m4, m5⟩ := hM
        cases hop with
        | tup h1 h2 =>
          cases h2 with | cons k1 h2 => ?_
          obtain ⟨x, y, rfl, k2, k3⟩ := dp2 h2
          cases k1
          cases k2
          cases k3
          walk_at "rd"
          refine q_dictD (.inl m1) fun p hp => ?_
          have ex1 : Ex H (upd H p (.dK [(.inr n, .ref e)])) := Ex.nw hp
          walk_at "rd"
          refine q_ixT (ex1.t h1) at0 ?_
          walk_at "rd"
          rw [if_neg (nf w1)]
          refine q_ixT (ex1.t h1) at1 ?_
          refine q_dget (.inl (ex1 _ _ m1)) (k := .inr n) rfl (valV_pos rfl) ?_
          refine q_dictD (.inl (ex1 _ _ m2)) fun p2 hp2 => ?_
          have ex2 : Ex H (upd (upd H p (.dK [(.inr n, .ref e)])) p2 (.dK [(.inr "shape", .ref sh), (.inr "rows", .ref r), (.inr "columns", .ref l)])) := ex1.tr (Ex.nw hp2)
          have n21 : p ≠ p2 := np_of upd_same hp2
          have hp20 : H p2 = none := ex1.fr hp2
          walk_at "rd"
          refine q_ixT (ex2.t h1) at0 ?_
          walk_at "rd"
          refine q_dget (.inl upd_same) (k := .inr "columns") rfl (v_columns ..) ?_
          refine q_ixT (ex2.t h1) at2 ?_
          refine ⟨by show 1 ≤ sizeLine; decide, fun c3 hc3 => ?_⟩
          have e2 : (upd (upd H p (.dK [(.inr n, .ref e)])) p2 (.dK [(.inr "shape", .ref sh), (.inr "rows", .ref r), (.inr "columns", .ref l)])) p2 = some (.dK [(.inr "shape", .ref sh), (.inr "rows", .ref r), (.inr "columns", .ref l)]) := upd_same
          have e1 : (upd (upd H p (.dK [(.inr n, .ref e)])) p2 (.dK [(.inr "shape", .ref sh), (.inr "rows", .ref r), (.inr "columns", .ref l)])) p = some (.dK [(.inr n, .ref e)]) := by rw [upd_ne n21]; exact upd_same
          have ex3 := Ex.nw (o := .lst [.str (fcol cs)]) hc3
          refine q_cat (ex3 _ _ (ex2 _ _ m5)) upd_same (by show 0 + 1 ≤ 1000; decide) fun l2 H4 ex4 hl2 e4 => ?_
          have ex24 := ex3.tr ex4
          have ex04 := ex2.tr ex24
          have nl2 : p2 ≠ l2 := np_of (ex3 _ _ e2) hl2
          have nl1 : p ≠ l2 := np_of (ex3 _ _ e1) hl2
          refine q_dput (ex24 _ _ e2) (k := .inr "columns") rfl (by show 3 < sizeLine; decide) ?_
          rw [p_columns]
          have ex5 := ex04.mu (o := .dK [(.inr "shape", .ref sh), (.inr "rows", .ref r), (.inr "columns", .ref l2)]) hp20
          refine q_ixT (ex5.t h1) at1 ?_
          refine q_dput (by rw [upd_ne n21]; exact ex24 _ _ e1) (k := .inr n) rfl (by show 1 < sizeLine; decide) ?_
          rw [put1]
          have ex6 := ex5.mu (o := .dK [(.inr n, .ref p2)]) hp
          refine q p _ ex6 hp ⟨p2, sh, r, l2, upd_same, ?_, Dp.ex ex6 _ _ m3, m4.ex ex6, ?_⟩
          · rw [upd_ne (Ne.symm n21), upd_same]
          · rw [upd_ne (Ne.symm nl1), upd_ne (Ne.symm nl2)]
            exact e4
  | put m row =>
    cases S with
    | none => cases hc
    | some z =>
      obtain ⟨rows, b⟩ := z
      obtain ⟨rfl, tok⟩ := (by cases b <;> exact hc : S' = some (rows ++ [(m, row)], b) ∧ TbOk cs (rows ++ [(m, row)]))
      obtain ⟨tok0, h7, hnew, rok⟩ := tok.pre
      obtain ⟨e, sh, r, l, m1, m2, m3, ⟨kvs, k1', k2'⟩, m5⟩ := hM
      cases hop with
      | tup h1 h2 =>
        cases h2 with | cons k1 h2 => ?_
        cases h2 with | cons k2 h2 => ?_
        obtain ⟨x, y, rfl, k3, k4⟩ := dp2 h2
        cases k1
        cases k2
        cases k3
        walk_at "rd"
        refine q_dictD (.inl m1) fun p hp => ?_
        have ex1 : Ex H (upd H p (.dK [(.inr n, .ref e)])) := Ex.nw hp
        walk_at "rd"
        refine q_ixT (ex1.t h1) at0 ?_
        walk_at "rd"
        rw [if_neg (nf w2)]
        refine q_ixT (ex1.t h1) at1 ?_
        refine q_dget (.inl (ex1 _ _ m1)) (k := .inr n) rfl (valV_pos rfl) ?_
        refine q_dictD (.inl (ex1 _ _ m2)) fun p2 hp2 => ?_
        have ex2 : Ex H (upd (upd H p (.dK [(.inr n, .ref e)])) p2 (.dK [(.inr "shape", .ref sh), (.inr "rows", .ref r), (.inr "columns", .ref l)])) := ex1.tr (Ex.nw hp2)
        have n21 : p ≠ p2 := np_of upd_same hp2
        have hp20 : H p2 = none := ex1.fr hp2
        have e2 : (upd (upd H p (.dK [(.inr n, .ref e)])) p2 (.dK [(.inr "shape", .ref sh), (.inr "rows", .ref r), (.inr "columns", .ref l)])) p2 = some (.dK [(.inr "shape", .ref sh), (.inr "rows", .ref r), (.inr "columns", .ref l)]) := upd_same
        have e1 : (upd (upd H p (.dK [(.inr n, .ref e)])) p2 (.dK [(.inr "shape", .ref sh), (.inr "rows", .ref r), (.inr "columns", .ref l)])) p = some (.dK [(.inr n, .ref e)]) := by rw [upd_ne n21]; exact upd_same
        walk_at "rd"
        refine q_ixT (ex2.t h1) at0 ?_
        walk_at "rd"
        rw [if_neg (nf w4)]
        refine q_dget (.inl upd_same) (k := .inr "rows") rfl (v_rows ..) ?_
        refine q_dictD (.inl (ex2 _ _ k1')) fun r2 hr2 => ?_
        have ex3 := ex2.tr (Ex.nw (o := .dK kvs) hr2)
        have nr2 : p2 ≠ r2 := np_of e2 hr2
        have nr1 : p ≠ r2 := np_of e1 hr2
        walk_at "rd"
        refine q_ixT (ex3.t h1) at0 ?_
        walk_at "rd"
        refine q_ixT (ex3.t h1) (atI_nat (j := 3) rfl) ?_
        refine q_ixT (ex3.t h1) at2 ?_
        refine q_dput upd_same (k := .inl m) rfl (Nat.lt_of_le_of_lt (by rw [k2'.length]; exact h7) (by decide)) ?_
        rw [upd2, putK_new _ (no_put k2' hnew)]
        refine q_dput (by rw [upd_ne nr2]; exact e2) (k := .inr "rows") rfl (by show 3 < sizeLine; decide) ?_
        rw [p_rows]
        have ex4 : Ex H (upd (upd (upd H p (.dK [(.inr n, .ref e)])) p2 (.dK [(.inr "shape", .ref sh), (.inr "rows", .ref r), (.inr "columns", .ref l)])) r2 (.dK (kvs ++ [(.inl m, y)]))) := ex2.tr (Ex.nw hr2)
        have ex5 := ex4.mu (o := .dK [(.inr "shape", .ref sh), (.inr "rows", .ref r2), (.inr "columns", .ref l)]) hp20
        refine q_ixT (ex5.t h1) at1 ?_
        refine q_dput (by rw [upd_ne n21, upd_ne nr1]; exact e1) (k := .inr n) rfl (by show 1 < sizeLine; decide) ?_
        rw [put1]
        have ex6 := ex5.mu (o := .dK [(.inr n, .ref p2)]) hp
        refine q p _ ex6 hp ⟨p2, sh, r2, l, upd_same, ?_, Dp.ex ex6 _ _ m3, ⟨_, ?_, (k2'.lx (.of ex6)).app (x := (m, row)) (Dp.ex ex6 _ _ k4)⟩, ex6 _ _ m5⟩
        · rw [upd_ne (Ne.symm n21), upd_same]
        · rw [upd_ne (Ne.symm nr1), upd_ne (Ne.symm nr2), upd_same]
          rfl
theorem sc_law_all_after : FnScope ["_law_model", "_law_changes", "_law_change"] ["_law_model", "_law_changes"] (defScope s_law_all_after) := ⟨rfl, rfl, rfl, by decide +kernel, rfl, by decide +kernel, by decide +kernel⟩
theorem ok_law_all_after (T : Tx K mg) : Gd P w K mg base CX0 2 "_law_all_after" ["_law_model", "_law_changes"] (fun vs H Q _ => ∃ d l ys n cs S S', ∃ ops : List Op, vs = [.ref d, .ref l] ∧ MdAt K H d n cs S ∧ SqL K H l ys ∧ DpAll K H ys (ops.map (opD n cs)) ∧ Runs cs S ops S' ∧ ops ≠ [] ∧ ∀ p H', Ex H H' → H p = none → MdAt K H' p n cs S' → Q (.ref p) H') := by
  refine gd0 (f_law_all_after T) sc_law_all_after (fun _ _ _ _ _ _ us hl => match us, hl with | [_, _], _ => rfl) ?len (fun f cdv A outer s H vs Q E hr h => ⟨_, (pss_cons (ps_for PassesOwn.never rfl (pi_list (pv 1)) (pg_name (i := 2) sc_law_all_after.nd rfl (Or.inl rfl)) (pss_one (ps_set (i := 0) sc_law_all_after.nd rfl (Or.inl rfl) (pe_g (ok_law_after T) hr (by decide) p0 (pa_cons (pv 0) (pa_cons (pv 2) pa_nil))))))
      (pss_one (ps_ret (pv 0)))), ?_⟩)
  case len => rintro vs H Q E ⟨d, l, ys, n, cs, S, S', ops, rfl, _⟩; rfl
  obtain ⟨d, l, ys, n, cs, S, S', ops, rfl, hM, hl, hys, hr', hne, q⟩ := h
  walk_at "rd"
  refine f_lst (a := l) (xs := ys) (fun R y => by walk_at "rd"; exact y) hl
    (fun r σ H' => Ex H H' ∧ ∃ f o1 ops' S1, σ = [some (.ref f), some (.ref l), o1] ∧ (ops' = [] → H f = none) ∧ MdAt K H' f n cs S1 ∧ DpAll K H r (List.map (opD n cs) ops') ∧ Runs cs S1 ops' S')
    ⟨exr H, d, none, ops, S, rfl, fun e => absurd e hne, hM, hys, hr'⟩ (fun r σ H' ⟨e, _⟩ => e.l hl) ?_ ?_
  · rintro x r σ H' ⟨ex, f, o1, ops', S1, rfl, hfn, hf, hda, hrun⟩
    cases ops' with
    | nil => cases hda
    | cons op ops' =>
      cases hda with | cons kc kr => ?_
      obtain ⟨S2, hcan, hrun2⟩ := hrun
      have hx : ∃ a, x = .ref a := by
        cases op <;> (cases kc; exact ⟨_, rfl⟩)
      obtain ⟨a, rfl⟩ := hx
      walk_at "rd"
      refine ⟨f, a, n, cs, S1, S2, op, rfl, hf, Dp.ex ex _ _ kc, hcan, fun p2 H2 ex2 hp2 hM2 => ?_⟩
      walk_at "rd"
      exact ⟨ex.tr ex2, p2, _, ops', S2, rfl, fun _ => ex.fr hp2, hM2, kr, hrun2⟩
  · rintro σ H' ⟨ex, f, o1, ops', S1, rfl, hfn, hf, hda, hrun⟩
    cases ops' with
    | cons op ops' => cases hda
    | nil =>
      cases hrun
      walk_at "rd"
      exact q f H' ex (hfn rfl) hf
end


section
variable {P : Program} {w : World} {K : PySem.W.Frag} {mg : Str → Option Value} {base : Heap}
theorem sc_law_entry_key : FnScope ["_law_entry", "_law_value"] ["_law_entry"] (defScope s_law_entry_key) := ⟨rfl, rfl, rfl, by decide +kernel, rfl, by decide +kernel, by decide +kernel⟩
theorem ok_law_entry_key (T : Tx K mg) : Gd P w K mg base CX0 1 "_law_entry_key" ["_law_entry"] (fun vs H Q _ => ∃ x e, vs = [x] ∧ Dp K H x (enD e) ∧ ∀ v H', Ex H H' → Dp K H' v (keyD e) → Q v H') := by
  refine gd0 (f_law_entry_key T) sc_law_entry_key (fun _ _ _ _ _ _ us hl => match us, hl with | [_], _ => rfl) ?len (fun f cdv A outer s H vs Q E hr h => ⟨_, (pss_cons (ps_set (i := 1) sc_law_entry_key.nd rfl (Or.inl rfl) (pe_ix ix_tup (pv 0) pe_int (fun _ _ => rfl)))
      (pss_cons (ps_if (pt_cmpR o_isN (pv 1) pe_non (nomark _)) (pss_one (ps_ret (pe_tup (pa_cons pe_int (pa_cons pe_int (pa_cons pe_str (pa_cons (pe_ix ix_tup (pv 0) pe_int (fun _ _ => rfl)) pa_nil))))))) pss_nil)
      (pss_cons (ps_if (pt_val (pe_callB call_isi (by rfl) (n_isinstance T) b_isinstance (pa_cons (pv 1) (pa_cons (pe_bt (n_str T) b_str) pa_nil)))) (pss_one (ps_ret (pe_tup (pa_cons pe_int (pa_cons pe_int (pa_cons (pv 1) (pa_cons (pe_ix ix_tup (pv 0) pe_int (fun _ _ => rfl)) pa_nil))))))) pss_nil)
      (pss_one (ps_ret (pe_tup (pa_cons pe_int (pa_cons (pv 1) (pa_cons pe_str (pa_cons (pe_ix ix_tup (pv 0) pe_int (fun _ _ => rfl)) pa_nil)))))))))), ?_⟩)
  case len => rintro vs H Q E ⟨x, e, rfl, _⟩; rfl
  obtain ⟨x, e, rfl, hx, q⟩ := h
  obtain ⟨a, rfl, ha⟩ := dp_en hx
  obtain ⟨c, i⟩ := e
  walk_at "rd"
  refine q_ixT ha at0 ?_
  cases c with
  | non =>
    simp only [Cv.v]
    walk_at "rd"
    refine q_ixT ha at1 ?_
    exact ⟨by show 4 ≤ sizeLine; decide, fun p hp => q _ _ (Ex.nw hp) (.tup (SqT.of upd_same) (.cons (.int _) (.cons (.int _) (.cons (.str _) (.cons (.int _) .nil)))))⟩
  | str z =>
    simp only [Cv.v]
    walk_at "rd"
    refine isi_str (.str z) ?_
    simp only [dStr]
    walk_at "rd"
    refine q_ixT ha at1 ?_
    exact ⟨by show 4 ≤ sizeLine; decide, fun p hp => q _ _ (Ex.nw hp) (.tup (SqT.of upd_same) (.cons (.int _) (.cons (.int _) (.cons (.str _) (.cons (.int _) .nil)))))⟩
  | int z =>
    simp only [Cv.v]
    walk_at "rd"
    refine isi_str (.int z) ?_
    simp only [dStr]
    walk_at "rd"
    refine q_ixT ha at1 ?_
    exact ⟨by show 4 ≤ sizeLine; decide, fun p hp => q _ _ (Ex.nw hp) (.tup (SqT.of upd_same) (.cons (.int _) (.cons (.int _) (.cons (.str _) (.cons (.int _) .nil)))))⟩
theorem dp_ints {H : Hp} : ∀ ns : List Int, DpAll K H (ns.map V.int) (ns.map PyData.int)
  | [] => .nil
  | n :: ns => .cons (.int n) (dp_ints ns)
theorem dp_strs {H : Hp} : ∀ ns : List Str, DpAll K H (ns.map V.str) (ns.map PyData.str)
  | [] => .nil
  | n :: ns => .cons (.str n) (dp_strs ns)
theorem sh_ints (ns : List Int) : SeqAt.shaped (.list (ns.map .int)) = true := by
  have h1 : PyData.canLayAll0 (ns.map .int) = true := by
    induction ns with
    | nil => rfl
    | cons n ns ih => simp only [List.map_cons, PyData.canLayAll0, PyData.canLay0, ih, Bool.and_self]
  have h2 : PyData.depthAll (ns.map .int) = 0 := PySem.W.depth_ints ns
  unfold SeqAt.shaped
  simp [PyData.canLay0, PyData.depth, h1, h2]
theorem sh_strs {ns : List Str} (h : ∀ s, s ∈ ns → PyData.strOk s = true) : SeqAt.shaped (.list (ns.map .str)) = true := by
  have h1 : PyData.canLayAll0 (ns.map .str) = true ∧ PyData.depthAll (ns.map .str) = 0 := by
    induction ns with
    | nil => exact ⟨rfl, rfl⟩
    | cons n ns ih =>
      obtain ⟨i1, i2⟩ := ih fun s hs => h s (List.mem_cons_of_mem _ hs)
      simp [PyData.canLayAll0, PyData.canLay0, PyData.depthAll, PyData.depth, h n (List.mem_cons_self ..), i1, i2]
  unfold SeqAt.shaped
  simp [PyData.canLay0, PyData.depth, h1.1, h1.2]
theorem sh_row {r : List Cv} (h : ∀ c, c ∈ r → dVal c.d = true) : SeqAt.shaped (rowD r) = true := by
  have h1 := row_lay r h
  have h2 := row_depth r
  unfold SeqAt.shaped
  simp [rowD, PyData.canLay0, PyData.depth, h1, h2]
theorem sh_shape {n : Str} {cs : Cols} (h : ShOk n cs) : SeqAt.shaped (shD n cs) = true := by
  have h1 := name_lay h.nm
  have hc : PyData.canLayAll0 (cs.map colD) = true := by
    have z := h.shp
    simp only [shD, dShape, Bool.and_eq_true] at z
    exact dcols_lay z.2
  have hd := cols_depth cs
  unfold SeqAt.shaped
  simp [shD, PyData.canLay0, PyData.canLayAll0, PyData.depth, PyData.depthAll, h1, hc]
  omega
theorem sh_ens {es : List En} (h : ∀ e, e ∈ es → okE e) : SeqAt.shaped (.list (es.map enD)) = true := by
  unfold SeqAt.shaped
  have h1 := depth_ens es
  have h2 := lay_ens es h
  simp [PyData.canLay0, PyData.depth, h2]
  omega
/-- sorted(list(d)), d by numbers -/
theorem q_sortKeys {H : Hp} {Q : VK} {r : Addr} {kvs : List (Key × V)} {rows : List Rw} (h1 : H r = some (.dK kvs)) (h2 : KD K H rwK rwD kvs rows) (asc : Asc rows) (q : ∀ p H', Ex H H' → Dp K H' (.ref p) (.list ((rows.map (·.1)).map .int)) → Q (.ref p) H') :
    rListD [.ref r] H fun v H1 => rSortedI K [v] H1 Q := by
  refine q_listD (.inl h1) fun p hp => ?_
  rw [keys_ints h2]
  refine ⟨p, rows.map (·.1), rfl, SqL.of upd_same, fun ns' p2 pm as hp2 => ?_⟩
  have e := PySem.W.ksm_same pm as (asc.imp fun h => Int.le_of_lt h)
  subst e
  exact q p2 _ ((Ex.nw hp).tr (Ex.nw hp2)) (.lst (SqL.of upd_same) (dp_ints _))
theorem sc_law_rows_same : FnScope ["_law_told", "_law_due_here", "_law_number"] ["_law_told", "_law_due_here"] (defScope s_law_rows_same) := ⟨rfl, rfl, rfl, by decide +kernel, rfl, by decide +kernel, by decide +kernel⟩
theorem ok_law_rows_same (T : Tx K mg) : Gd P w K mg base CX0 2 "_law_rows_same" ["_law_told", "_law_due_here"] (fun vs H Q _ => ∃ a b cs rows, vs = [.ref a, .ref b] ∧ RowsAt K H a rows ∧ RowsAt K H b rows ∧ TbOk cs rows ∧ ∀ H', Ex H H' → Q (.bl true) H') := by
  refine gd0 (f_law_rows_same T) sc_law_rows_same (fun _ _ _ _ _ _ us hl => match us, hl with | [_, _], _ => rfl) ?len (fun f cdv A outer s H vs Q E hr h => ⟨_, (pss_cons (ps_if (PW.pt (pw_or (pt_not (pt_val (pe_callB call_isi (by rfl) (n_isinstance T) b_isinstance (pa_cons (pv 0) (pa_cons (pe_bt (n_dict T) b_dict) pa_nil))))) (pw_or1 (pt_cmpR (op_neD hr.units) (pe_callB cr_sortedI (by rfl) (n_sorted T) b_sorted (pa_cons (pe_callTy (c_listD rfl) (by rfl) (n_list T) b_list (pa_cons (pv 0) pa_nil)) pa_nil)) (pe_callB cr_sortedI (by rfl) (n_sorted T) b_sorted (pa_cons (pe_callTy (c_listD rfl) (by rfl) (n_list T) b_list (pa_cons (pv 1) pa_nil)) pa_nil)) (nomark _))))) (pss_one (ps_ret pe_bl)) pss_nil)
      (pss_cons (ps_lock (ps_for PassesOwn.never rfl (pi_keys (pv 1)) (pg_name (i := 2) sc_law_rows_same.nd rfl (Or.inl rfl)) (pss_one (ps_if (PW.pt (pw_or (pt_not (pt_val (pe_g (ok_law_whole T) hr (by decide) p0 (pa_cons (pv 2) pa_nil)))) (pw_or (pt_not (pt_val (pe_callB call_isi (by rfl) (n_isinstance T) b_isinstance (pa_cons (pe_dget (hu_of hr) (pv 0) (pv 2) (fun _ _ => rfl)) (pa_cons (pe_bt (n_tuple T) b_tuple) pa_nil))))) (pw_or1 (pt_cmpR (op_neD hr.units) (pe_dget (hu_of hr) (pv 0) (pv 2) (fun _ _ => rfl)) (pe_dget (hu_of hr) (pv 1) (pv 2) (fun _ _ => rfl)) (nomark _)))))) (pss_one (ps_ret pe_bl)) pss_nil))))
      (pss_one (ps_ret pe_bl)))), ?_⟩)
  case len => rintro vs H Q E ⟨a, b, cs, rows, rfl, _⟩; rfl
  obtain ⟨a, b, cs, rows, rfl, ⟨ka, a1, a2⟩, ⟨kb, b1, b2⟩, tok, q⟩ := h
  walk_at "rd"
  refine isi_dict (.inl a1) ?_
  walk_at "rd"
  refine q_sortKeys a1 a2 tok.asc fun p1 H1 ex1 d1 => ?_
  refine q_sortKeys (ex1 _ _ b1) (b2.lx (.of ex1)) tok.asc fun p2 H2 ex2 d2 => ?_
  refine q_neD (Dp.ex ex2 _ _ d1) d2 (sh_ints _) ?_
  walk_at "rd"
  have ex02 := ex1.tr ex2
  have hb2 := ex02 _ _ b1
  refine f_keys (d := b) hb2 (fun od R y => by walk_at "rd"; exact y)
    (fun od rr σ H' => Ex (upd H2 b (.frz od (.dK kb))) H' ∧ ∃ o1 l, σ = [some (.ref a), some (.ref b), o1] ∧ KD K H rwK rwD rr l ∧ ∀ x, x ∈ l → x ∈ rows)
    (fun od => ⟨exr _, none, rows, rfl, b2, fun x h => h⟩) (fun od rr σ H' ⟨e, _⟩ => e _ _ upd_same) ?_ ?_
  · rintro od k v rr σ H' ⟨ex, o1, l, rfl, kd, sub⟩
    cases kd with
    | @cons v kvs' x xs dv kr =>
      have hx := sub x (List.mem_cons_self ..)
      have ok := tok.each x hx
      have lx : Lx H H' := (Lx.of ex02).tr ((lk_lx hb2).tr (.of ex))
      have rb : Rd H' b (.dK kb) := .inr ⟨od, ex _ _ upd_same⟩
      have ra : Rd H' a (.dK ka) := by
        by_cases e : a = b
        · subst e
          have e2 : ka = kb := by rw [a1] at b1; cases b1; rfl
          rw [e2]
          exact rb
        · exact .inl (ex _ _ (by rw [upd_ne e]; exact ex02 _ _ a1))
      obtain ⟨va, hva, dva⟩ := a2.some_ tok.asc.nd hx
      obtain ⟨vb, hvb, dvb⟩ := b2.some_ tok.asc.nd hx
      obtain ⟨hlen, hvals⟩ := fits_row ok.fit
      have dva' := Dp.lx lx _ _ dva
      have dvb' := Dp.lx lx _ _ dvb
      walk_at "rd"
      refine ⟨.int x.1, .int x.1, rfl, .int _, rfl, ?_⟩
      simp only [dWhole]
      walk_at "rd"
      refine q_dget ra (k := rwK x) rfl hva ?_
      refine isi_tup dva' ?_
      simp only [rwD, rowD, dTup]
      walk_at "rd"
      refine q_dget ra (k := rwK x) rfl hva ?_
      refine q_dget rb (k := rwK x) rfl hvb ?_
      refine q_neD dva' dvb' (sh_row hvals) ?_
      walk_at "rd"
      exact ⟨ex, _, xs, rfl, kr, fun y hy => sub y (List.mem_cons_of_mem _ hy)⟩
  · rintro od σ H' ⟨ex, o1, l, rfl, kd, sub⟩
    walk_at "rd"
    exact q _ (ex02.tr (unlock_ex hb2 ex))
end


section
variable {P : Program} {w : World} {K : PySem.W.Frag} {mg : Str → Option Value} {base : Heap}
theorem q_sortS {H : Hp} {Q : VK} {p : Addr} {xs : List Str} (h : SqL K H p (xs.map V.str)) (h1 : xs.length ≤ 1) (q : ∀ p2 H2, Ex H H2 → Dp K H2 (.ref p2) (.list (xs.map .str)) → Q (.ref p2) H2) : L2.rSortedS K [.ref p] H Q := by
  refine ⟨p, xs, rfl, h, by omega, fun ys p2 pm _ hp2 => ?_⟩
  have e : ys = xs := by
    match xs, h1, pm with
    | [], _, pm => exact pm.eq_nil
    | [x], _, pm => exact List.perm_singleton.mp pm
    | _ :: _ :: _, h1, _ => simp at h1
  rw [e]
  exact q p2 _ (Ex.nw hp2) (.lst (SqL.of upd_same) (dp_strs _))
theorem alike_key (e f : En) : PySem.W.alike (keyD e) (keyD f) = true := by
  obtain ⟨c, i⟩ := e
  obtain ⟨d, j⟩ := f
  cases c <;> cases d <;> simp [keyD, PySem.W.alike, PySem.W.alikeAll]
theorem tup_key (e : En) : ∃ x r, keyD e = .tuple (x :: r) := by
  obtain ⟨c, i⟩ := e
  cases c <;> exact ⟨_, _, rfl⟩
theorem depth_key (e : En) : (keyD e).depth ≤ 8 := by
  obtain ⟨c, i⟩ := e
  cases c <;> simp [keyD, PyData.depth, PyData.depthAll]
theorem ens_nl (l : List En) : noLA (l.map enD) = true := by
  induction l with
  | nil => rfl
  | cons e l ih =>
    show (noL (enD e) && noLA (l.map enD)) = true
    rw [ih, Bool.and_true]
    cases e with | mk c i => cases c <;> rfl
/-- the columns that have an index -/
def colsO (b : Bool) (cs : Cols) : List Str := if b then [fcol cs] else []
theorem colsO_v (b : Bool) (cs : Cols) : (if b then [V.str (fcol cs)] else []) = (colsO b cs).map V.str := by cases b <;> rfl
theorem colsO_l (b : Bool) (cs : Cols) : (colsO b cs).length ≤ 1 := by cases b <;> simp [colsO]
theorem ix_keys {H : Hp} {ix : Addr} {cs : Cols} {rows : List Rw} {b : Bool} (h : IxAt K H ix cs (ixO b rows)) : ∃ kvs, H ix = some (.dK kvs) ∧ (kvs.map fun kv => kV kv.1) = (colsO b cs).map V.str := by
  cases b with
  | false => exact ⟨_, h, rfl⟩
  | true =>
    obtain ⟨c, b, cr, v, hcs, h2, _⟩ := h
    exact ⟨_, h2, by rw [hcs]; rfl⟩
theorem sc_law_table_same : FnScope ["_law_told", "_law_due_here", "_law_column", "_law_at", "_law_pairs", "_law_number"] ["_law_told", "_law_due_here"] (defScope s_law_table_same) := ⟨rfl, rfl, rfl, by decide +kernel, rfl, by decide +kernel, by decide +kernel⟩
theorem ok_law_table_same (T : Tx K mg) : Gd P w K mg base CX0 4 "_law_table_same" ["_law_told", "_law_due_here"] (fun vs H Q _ => ∃ t e n cs rows b dx sh r ix s2 r2 l2, vs = [.ref t, .ref e] ∧ TabF K H t n cs rows (ixO b rows) dx sh r ix ∧
    H e = some (.dK [(.inr "shape", .ref s2), (.inr "rows", .ref r2), (.inr "columns", .ref l2)]) ∧ Dp K H (.ref s2) (shD n cs) ∧ RowsAt K H r2 rows ∧ H l2 = some (.lst (if b then [.str (fcol cs)] else [])) ∧ ShOk n cs ∧ TbOk cs rows ∧ cs.length ≤ 8 ∧ ∀ H', Ex H H' → Q (.bl true) H') := by
  refine gd0 (f_law_table_same T) sc_law_table_same (fun _ _ _ _ _ _ us hl => match us, hl with | [_, _], _ => rfl) ?len (fun f cdv A outer s H vs Q E hr h => ⟨_, (pss_cons (ps_if (PW.pt (pw_or (pt_cmpR (op_neD hr.units) (pe_fld (pv 0) rfl) (pe_dget (hu_of hr) (pv 1) pe_str (fun _ _ => rfl)) (nomark _)) (pw_or1 (pt_not (pt_val (pe_g (ok_law_rows_same T) hr (by decide) p0 (pa_cons (pe_fld (pv 0) rfl) (pa_cons (pe_dget (hu_of hr) (pv 1) pe_str (fun _ _ => rfl)) pa_nil)))))))) (pss_one (ps_ret pe_bl)) pss_nil)
      (pss_cons (ps_if (pt_cmpR (op_neD hr.units) (pe_callB cr_sortedS (by rfl) (n_sorted T) b_sorted (pa_cons (pe_callTy (c_listD rfl) (by rfl) (n_list T) b_list (pa_cons (pe_fld (pv 0) rfl) pa_nil)) pa_nil)) (pe_callB cr_sortedS (by rfl) (n_sorted T) b_sorted (pa_cons (pe_dget (hu_of hr) (pv 1) pe_str (fun _ _ => rfl)) pa_nil)) (nomark _)) (pss_one (ps_ret pe_bl)) pss_nil)
      (pss_cons (ps_for PassesOwn.never rfl (pi_list (pe_dget (hu_of hr) (pv 1) pe_str (fun _ _ => rfl))) (pg_name (i := 2) sc_law_table_same.nd rfl (Or.inl rfl)) (pss_cons (ps_set (i := 3) sc_law_table_same.nd rfl (Or.inr rfl) (pe_g (ok_law_place T) hr (by decide) p0 (pa_cons (pe_dget (hu_of hr) (pv 1) pe_str (fun _ _ => rfl)) (pa_cons (pv 2) pa_nil))))
      (pss_cons (ps_lock (ps_setLc (i := 4) (own := [("_law_number", 5)]) (tt := tYes) rfl sc_law_table_same.nd rfl rfl (sw_true rfl rfl rfl (by decide +kernel)) (pi_keys (pe_dget (hu_of hr) (pv 1) pe_str (fun _ _ => rfl))) (blkOk_by (own := [("_law_number", 5)]) (N := ["_law_told", "_law_due_here", "_law_column", "_law_at", "_law_pairs", "_law_number"]) (sc := defScope s_law_table_same) (by decide +kernel)) (fun _ _ _ _ _ => pg_name (i := 5) sc_law_table_same.nd rfl (Or.inl rfl)) (fun _ _ _ _ _ => pts_nil) (fun _ _ _ _ _ => (pe_tup (pa_cons (pe_ix (ix_tupK K) (pe_dget (hu_of hr) (pe_dget (hu_of hr) (pv 1) pe_str (fun _ _ => rfl)) (pv 5) (fun _ _ => rfl)) (pv 3) (fun _ _ => rfl)) (pa_cons (pv 5) pa_nil))))))
      (pss_one (ps_if (pt_cmpR (op_neD hr.units) (pe_g (ok_entries_of T) hr (by decide) p0 (pa_cons (pe_dget (hu_of hr) (pe_fld (pv 0) rfl) (pv 2) (fun _ _ => rfl)) pa_nil)) (pe_sk enD keyD (ok_law_entry_key T) hr (by decide) (n_sorted T) (pa_cons (pv 4) pa_nil)) (nomark _)) (pss_one (ps_ret pe_bl)) pss_nil)))))
      (pss_one (ps_ret pe_bl))))), ?_⟩)
  case len => rintro vs H Q E ⟨t, e, n, cs, rows, b, dx, sh, r, ix, s2, r2, l2, rfl, _⟩; rfl
  obtain ⟨t, e, n, cs, rows, b, dx, sh, r, ix, s2, r2, l2, rfl, hT, he, hs2, hr2, hl2, hsh, tok, h8, q⟩ := h
  have nf1 := name_lay (fcol_nm hsh)
  have shc : SeqAt.shaped (.list ((colsO b cs).map .str)) = true := sh_strs fun s hs => by
    cases b with
    | false => cases hs
    | true =>
      have e : s = fcol cs := by simpa [colsO] using hs
      rw [e]
      exact nf1
  walk_at "rd"
  refine q_fld hT.ins (c_Table T) (no_Table_shape T) (tf_shape ..) ?_
  refine q_dget (.inl he) (k := .inr "shape") rfl (v_shape ..) ?_
  refine q_neD hT.shp hs2 (sh_shape hsh) ?_
  walk_at "rd"
  refine q_fld hT.ins (c_Table T) (no_Table_rows T) (tf_rows ..) ?_
  refine q_dget (.inl he) (k := .inr "rows") rfl (v_rows ..) ?_
  refine ⟨r, r2, cs, rows, rfl, hT.row, hr2, tok, fun H1 ex1 => ?_⟩
  walk_at "rd"
  have hT1 := hT.ex ex1
  refine q_fld hT1.ins (c_Table T) (no_Table_indexes T) (tf_indexes ..) ?_
  obtain ⟨kvi, hki, eki⟩ := ix_keys hT1.idx
  refine q_listD (.inl hki) fun p1 hp1 => ?_
  rw [eki]
  have exa : Ex H1 (upd H1 p1 (.lst ((colsO b cs).map V.str))) := Ex.nw hp1
  refine q_sortS (SqL.of upd_same) (colsO_l b cs) fun p2 H2 ex2 d2 => ?_
  have ex02 := ex1.tr (exa.tr ex2)
  refine q_dget (.inl (ex02 _ _ he)) (k := .inr "columns") rfl (v_columns ..) ?_
  rw [colsO_v] at hl2
  refine q_sortS (SqL.of (ex02 _ _ hl2)) (colsO_l b cs) fun p3 H3 ex3 d3 => ?_
  refine q_neD (Dp.ex ex3 _ _ d2) d3 shc ?_
  walk_at "rd"
  have ex03 := ex02.tr ex3
  have hl3 := ex03 _ _ hl2
  refine f_lst (a := l2) (xs := (colsO b cs).map V.str) (fun R y => by
      walk_at "rd"
      exact q_dget (.inl (ex03 _ _ he)) (k := .inr "columns") rfl (v_columns ..) y) (SqL.of hl3)
    (fun rr σ H' => Ex H H' ∧ (rr = [] ∨ (b = true ∧ rr = [.str (fcol cs)])) ∧ ∃ o1 o2 o3 o4, σ = [some (.ref t), some (.ref e), o1, o2, o3, o4])
    ⟨ex03, by cases b <;> simp [colsO], none, none, none, none, rfl⟩ (fun rr σ H' ⟨e, _⟩ => SqL.of (e _ _ hl2)) ?_ ?_
  · rintro x rr σ H' ⟨ex, hrr, o1, o2, o3, o4, rfl⟩
    rcases hrr with hrr | ⟨rfl, hrr⟩
    · cases hrr
    cases hrr
    have hT4 := hT.ex ex
    obtain ⟨c, b, cr, v, hcs, hix, dv⟩ := hT4.idx
    have hfc : fcol cs = c := by rw [hcs]; rfl
    rw [hfc]
    have he4 := ex _ _ he
    walk_at "rd"
    refine q_dget (.inl he4) (k := .inr "shape") rfl (v_shape ..) ?_
    have hs4 := Dp.ex ex _ _ hs2
    refine ⟨s2, n, c, b, cr, rfl, by rw [← hcs]; exact hs4, by rw [hcs] at h8; simp at h8; exact h8, ?_⟩
    walk_at "rd"
    obtain ⟨kvs, k1, k2⟩ := hr2.ex ex
    have ner : e ≠ r2 := fun z => by
      rw [z, k1] at he4
      have e1 : kvs = [(.inr "shape", .ref s2), (.inr "rows", .ref r2), (.inr "columns", .ref l2)] := by
        cases he4
        rfl
      rw [e1] at k2
      cases rows with
      | nil => cases k2
      | cons y ys =>
        have e2 := k2.keys
        simp [rwK] at e2
    have hlock : ∀ od, (upd H' r2 (.frz od (.dK kvs))) e = some (.dK [(.inr "shape", .ref s2), (.inr "rows", .ref r2), (.inr "columns", .ref l2)]) := fun od => by rw [upd_ne ner]; exact he4
    refine q_lcK (d := r2) k1 (fun od R y => by
        walk_at "rd"
        exact q_dget (.inl (hlock od)) (k := .inr "rows") rfl (v_rows ..) y)
      (fun od D rr H5 => Ex (upd H' r2 (.frz od (.dK kvs))) H5 ∧ upd H' r2 (.frz od (.dK kvs)) D = none ∧ ∃ acc l pre, H5 D = some (.lst acc) ∧ DpAll K H5 acc ((List.map ent pre).map enD) ∧ KD K H' rwK rwD rr l ∧ rows = pre ++ l)
      (fun od D hD => ⟨Ex.nw hD, hD, [], rows, [], upd_same, .nil, k2, rfl⟩) (fun od D rr H5 ⟨e, _⟩ => e _ _ upd_same) ?_ ?_
    · rintro od D k vv rr H5 ⟨ex5, hD, acc, l, pre, e3, e4, e5, e6⟩
      cases e5 with
      | @cons vv kvs' y l dvv kr =>
        walk_at "rd"
        have hy : y ∈ rows := by rw [e6]; simp
        obtain ⟨u, hu, du⟩ := k2.some_ tok.asc.nd hy
        have lx5 : Lx H' H5 := (lk_lx k1).tr (.of ex5)
        obtain ⟨a, rfl, sa⟩ := dp_row (Dp.lx lx5 _ _ du)
        refine q_dget (.inl (ex5 _ _ (hlock od))) (k := .inr "rows") rfl (v_rows ..) ?_
        refine q_dget (.inr ⟨od, ex5 _ _ upd_same⟩) (k := rwK y) rfl hu ?_
        cases hyr : y.2 with
        | nil => exact absurd hyr (tok.ok.full y hy)
        | cons c0 cr0 =>
          rw [hyr] at sa
          refine q_ixT sa at0 ?_
          refine ⟨by show 2 ≤ sizeLine; decide, fun z hz => ?_⟩
          have exz : Ex H5 (upd H5 z (.tup [c0.v, .int y.1])) := Ex.nw hz
          have hen : ent y = (c0, y.1) := by unfold ent hdC; rw [hyr]; rfl
          have hpl : pre.length ≤ 8 := by
            have hf := tok.few
            rw [e6] at hf
            simp only [List.length_append] at hf
            omega
          refine q_el (exz _ _ e3) (Nat.lt_of_le_of_lt (?_ : acc.length ≤ 8) (by decide)) ?_
          · rw [DpAll.length e4, List.length_map, List.length_map]
            exact hpl
          · have tt : Tt (upd H5 z (.tup [c0.v, .int y.1])) (upd (upd H5 z (.tup [c0.v, .int y.1])) D (.lst (acc ++ [.ref z]))) := Tt.up (exz _ _ e3) rfl
            refine ⟨(ex5.tr exz).mu hD, hD, acc ++ [.ref z], l, pre ++ [y], upd_same, ?_, kr, by rw [e6]; simp⟩
            rw [List.map_append, List.map_append]
            refine DpAll.app (DpAll.tt tt _ _ (ens_nl _) (DpAll.ex exz _ _ e4)) (.cons ?_ .nil)
            rw [hen]
            exact en_dp (tt.t (SqT.of upd_same))
    · rintro od D H5 ⟨ex5, hD, acc, l, pre, e3, e4, e5, e6⟩
      cases e5 with
      | nil =>
        have e7 : pre = rows := by rw [e6]; simp
        subst e7
        have ex6 : Ex H' (upd H5 r2 (.dK kvs)) := unlock_ex k1 ex5
        have nD : D ≠ r2 := fun z => by rw [z, upd_same] at hD; cases hD
        have hD6 : (upd H5 r2 (.dK kvs)) D = some (.lst acc) := by rw [upd_ne nD]; exact e3
        have lx6 : Lx H5 (upd H5 r2 (.dK kvs)) := Lx.up (ex5 _ _ upd_same) rfl
        have d6 := DpAll.lx lx6 _ _ e4
        revert ex6 hD6 d6
        generalize upd H5 r2 (.dK kvs) = H6
        intro ex6 hD6 d6
        have hT6 := hT4.ex ex6
        refine q_fld hT6.ins (c_Table T) (no_Table_indexes T) (tf_indexes ..) ?_
        refine q_dget (.inl (ex6 _ _ hix)) (k := .inr c) rfl (valV_pos rfl) ?_
        refine ⟨v, ixE pre, rfl, Dp.ex ex6 _ _ dv, fun p7 ys7 H7 ex7 hp7 e7 d7 => ?_⟩
        walk_at "rd"
        refine ⟨D, acc, pre.map ent, rfl, rfl, SqL.of (ex7 _ _ hD6), DpAll.ex ex7 _ _ d6, by rw [List.length_map]; exact Nat.le_trans tok.few (by decide), PySem.W.AllAlike.of alike_key, PySem.W.Sortable.tuples tup_key, fun b _ => depth_key b,
          fun x b H' R hb ex' dx' hR => ⟨x, b, rfl, dx', fun v H2 e2 d2 => hR v H2 e2 d2⟩, fun p8 us8 H8 ex8 hp8 e8 d8 => ?_⟩
        rw [ixE_sort tok.asc] at d8
        refine q_neD (.lst (SqL.of (ex8 _ _ e7)) (DpAll.ex ex8 _ _ d7)) (.lst (SqL.of e8) d8) (sh_ens tok.ents.1) ?_
        walk_at "rd"
        exact ⟨ex.tr (ex6.tr (ex7.tr ex8)), .inl trivial, _, _, _, _, rfl⟩
  · rintro σ H' ⟨ex, _, o1, o2, o3, o4, rfl⟩
    walk_at "rd"
    exact q H' ex
end


section
variable {P : Program} {w : World} {K : PySem.W.Frag} {mg : Str → Option Value} {base : Heap}
theorem sc_law_same : FnScope ["_law_told", "_law_due_here", "_law_name"] ["_law_told", "_law_due_here"] (defScope s_law_same) := ⟨rfl, rfl, rfl, by decide +kernel, rfl, by decide +kernel, by decide +kernel⟩
theorem ok_law_same (T : Tx K mg) : Gd P w K mg base CX0 9 "_law_same" ["_law_told", "_law_due_here"] (fun vs H Q _ => ∃ a d n cs rows b t dx sh r ix, vs = [.ref a, .ref d] ∧ H a = some (.dK [(.inr n, .ref t)]) ∧ TabF K H t n cs rows (ixO b rows) dx sh r ix ∧ r ≠ a ∧ ix ≠ a ∧ a ≠ d ∧ r ≠ d ∧ ix ≠ d ∧
    MdAt K H d n cs (some (rows, b)) ∧ ShOk n cs ∧ TbOk cs rows ∧ cs.length ≤ 8 ∧ ∀ H', Ex H H' → Q (.bl true) H') := by
  refine gd0 (f_law_same T) sc_law_same (fun _ _ _ _ _ _ us hl => match us, hl with | [_, _], _ => rfl) ?len (fun f cdv A outer s H vs Q E hr h => ⟨_, (pss_cons (ps_if (PW.pt (pw_or (pt_not (pt_val (pe_callB call_isi (by rfl) (n_isinstance T) b_isinstance (pa_cons (pv 0) (pa_cons (pe_bt (n_dict T) b_dict) pa_nil))))) (pw_or (pt_cmpR (op_neD hr.units) (pe_callB cr_sortedS (by rfl) (n_sorted T) b_sorted (pa_cons (pe_callTy (c_listD rfl) (by rfl) (n_list T) b_list (pa_cons (pv 0) pa_nil)) pa_nil)) (pe_callB cr_sortedS (by rfl) (n_sorted T) b_sorted (pa_cons (pe_callTy (c_listD rfl) (by rfl) (n_list T) b_list (pa_cons (pv 1) pa_nil)) pa_nil)) (nomark _)) (pw_or1 (pt_cmpR op_notBl (pe_g (ok_is_state T) hr (by decide) p0 (pa_cons (pv 0) pa_nil)) pe_bl (nomark _)))))) (pss_one (ps_ret pe_bl)) pss_nil)
      (pss_cons (ps_lock (ps_for PassesOwn.never rfl (pi_keys (pv 1)) (pg_name (i := 2) sc_law_same.nd rfl (Or.inl rfl)) (pss_one (ps_if (PW.pt (pw_or (pt_not (pt_val (pe_callB call_isi (by rfl) (n_isinstance T) b_isinstance (pa_cons (pe_dget (hu_of hr) (pv 0) (pv 2) (fun _ _ => rfl)) (pa_cons (pe_gr (g_Table T)) pa_nil))))) (pw_or1 (pt_not (pt_val (pe_g (ok_law_table_same T) hr (by decide) p0 (pa_cons (pe_dget (hu_of hr) (pv 0) (pv 2) (fun _ _ => rfl)) (pa_cons (pe_dget (hu_of hr) (pv 1) (pv 2) (fun _ _ => rfl)) pa_nil)))))))) (pss_one (ps_ret pe_bl)) pss_nil))))
      (pss_one (ps_ret pe_bl)))), ?_⟩)
  case len => rintro vs H Q E ⟨a, d, n, cs, rows, b, t, dx, sh, r, ix, rfl, _⟩; rfl
  obtain ⟨a, d, n, cs, rows, b, t, dx, sh, r, ix, rfl, ha, hT, nra, nxa, nad, nrd, nxd, ⟨e, s2, r2, l2, hd, he, hs2, hr2, hl2⟩, hsh, tok, h8, q⟩ := h
  have nm1 : SeqAt.shaped (.list ([n].map .str)) = true := sh_strs fun s hs => by
    have e : s = n := by simpa using hs
    rw [e]
    exact name_lay hsh.nm
  walk_at "rd"
  refine isi_dict (.inl ha) ?_
  walk_at "rd"
  refine q_listD (.inl ha) fun p1 hp1 => ?_
  have ex1 : Ex H (upd H p1 (.lst [.str n])) := Ex.nw hp1
  refine q_sortS (xs := [n]) (SqL.of upd_same) (Nat.le_refl _) fun p2 H2 ex2 d2 => ?_
  have ex02 := ex1.tr ex2
  refine q_listD (.inl (ex02 _ _ hd)) fun p3 hp3 => ?_
  have ex3 : Ex H2 (upd H2 p3 (.lst [.str n])) := Ex.nw hp3
  refine q_sortS (xs := [n]) (SqL.of upd_same) (Nat.le_refl _) fun p4 H4 ex4 d4 => ?_
  have ex24 := ex3.tr ex4
  have ex04 := ex02.tr ex24
  refine q_neD (Dp.ex ex24 _ _ d2) d4 nm1 ?_
  walk_at "rd"
  refine ⟨a, n, cs, rows, b, rfl, hsh, ⟨t, dx, sh, r, ix, ex04 _ _ ha, hT.ex ex04, nra, nxa⟩, tok, fun H5 ex5 => ?_⟩
  refine ⟨true, true, rfl, rfl, ?_⟩
  walk_at "rd"
  have ex05 := ex04.tr ex5
  have hd5 := ex05 _ _ hd
  refine f_keys1 (d := d) hd5 (fun od R y => by walk_at "rd"; exact y) fun od => ?_
  have lx : Lx H5 (upd H5 d (.frz od (.dK [(.inr n, .ref e)]))) := lk_lx hd5
  have un := fun H3 e' => @unlock_ex H5 H3 d [(.inr n, .ref e)] od hd5 e'
  have hT5 := hT.ex ex05
  have ntd : t ≠ d := fun z => by
    have h1 := hT5.ins
    rw [z, hd5] at h1
    cases h1
  have ned : e ≠ d := fun z => by
    have h1 := ex05 _ _ he
    rw [z, hd5] at h1
    cases h1
  have nr2d : r2 ≠ d := fun z => by
    obtain ⟨kvs, k1, k2⟩ := hr2
    rw [z, hd] at k1
    have e1 : kvs = [(.inr n, .ref e)] := by cases k1; rfl
    rw [e1] at k2
    cases rows with
    | nil => cases k2
    | cons y ys =>
      have e2 := k2.keys
      simp [rwK] at e2
  have nl2d : l2 ≠ d := fun z => by rw [z, hd] at hl2; cases hl2
  have rows_at : ∀ x, x ≠ d → RowsAt K H5 x rows → RowsAt K (upd H5 d (.frz od (.dK [(.inr n, .ref e)]))) x rows := fun x nx ⟨kvs, k1, k2⟩ => ⟨kvs, by rw [upd_ne nx]; exact k1, k2.lx lx⟩
  have hT6 : TabF K (upd H5 d (.frz od (.dK [(.inr n, .ref e)]))) t n cs rows (ixO b rows) dx sh r ix := by
    refine ⟨by rw [upd_ne ntd]; exact hT5.ins, hT5.ne, Dp.lx lx _ _ hT5.shp, rows_at r nrd hT5.row, ?_⟩
    have hix := hT5.idx
    cases b with
    | false =>
      show upd H5 d _ ix = _
      rw [upd_ne nxd]
      exact hix
    | true =>
      obtain ⟨c, b, cr, v, hcs, h1, dv⟩ := hix
      exact ⟨c, b, cr, v, hcs, by rw [upd_ne nxd]; exact h1, Dp.lx lx _ _ dv⟩
  have ha6 : (upd H5 d (.frz od (.dK [(.inr n, .ref e)]))) a = some (.dK [(.inr n, .ref t)]) := by rw [upd_ne nad]; exact ex05 _ _ ha
  have hd6 : (upd H5 d (.frz od (.dK [(.inr n, .ref e)]))) d = some (.frz od (.dK [(.inr n, .ref e)])) := upd_same
  have he6 : (upd H5 d (.frz od (.dK [(.inr n, .ref e)]))) e = some (.dK [(.inr "shape", .ref s2), (.inr "rows", .ref r2), (.inr "columns", .ref l2)]) := by rw [upd_ne ned]; exact ex05 _ _ he
  have hs6 := Dp.lx lx _ _ (Dp.ex ex05 _ _ hs2)
  have hr6 := rows_at r2 nr2d (hr2.ex ex05)
  have hl6 : (upd H5 d (.frz od (.dK [(.inr n, .ref e)]))) l2 = some (.lst (if b then [.str (fcol cs)] else [])) := by rw [upd_ne nl2d]; exact ex05 _ _ hl2
  revert un hT6 ha6 hd6 he6 hs6 hr6 hl6
  generalize upd H5 d (.frz od (.dK [(.inr n, .ref e)])) = H6
  intro un hT6 ha6 hd6 he6 hs6 hr6 hl6
  walk_at "rd"
  refine q_dget (.inl ha6) (k := .inr n) rfl (valV_pos rfl) ?_
  refine isi_Table T hT6.ins ?_
  walk_at "rd"
  refine q_dget (.inl ha6) (k := .inr n) rfl (valV_pos rfl) ?_
  refine q_dget (.inr ⟨od, hd6⟩) (k := .inr n) rfl (valV_pos rfl) ?_
  refine ⟨t, e, n, cs, rows, b, dx, sh, r, ix, s2, r2, l2, rfl, hT6, he6, hs6, hr6, hl6, hsh, tok, h8, fun H7 ex7 => ?_⟩
  walk_at "rd"
  refine ⟨ex7 _ _ hd6, ?_⟩
  walk_at "rd"
  exact q _ (ex05.tr (un _ ex7))
end


section
variable {P : Program} {w : World} {K : PySem.W.Frag} {mg : Str → Option Value} {base : Heap}
/-! ### one call, told by its way -/
def gvD (xs xt xc xn xr : V) : List (Key × V) := [(.inr "shape", xs), (.inr "table", xt), (.inr "column", xc), (.inr "number", xn), (.inr "row", xr)]
theorem g_shape (a b c d e : V) : valV (gvD a b c d e) (.inr "shape") = some a := valV_pos rfl
theorem g_table (a b c d e : V) : valV (gvD a b c d e) (.inr "table") = some b := (valV_neg (by show ¬ ((.inr "shape" : Key) = .inr "table"); decide +kernel)).trans (valV_pos rfl)
theorem g_column (a b c d e : V) : valV (gvD a b c d e) (.inr "column") = some c := (valV_neg (by show ¬ ((.inr "shape" : Key) = .inr "column"); decide +kernel)).trans ((valV_neg (by show ¬ ((.inr "table" : Key) = .inr "column"); decide +kernel)).trans (valV_pos rfl))
theorem g_number (a b c d e : V) : valV (gvD a b c d e) (.inr "number") = some d := (valV_neg (by show ¬ ((.inr "shape" : Key) = .inr "number"); decide +kernel)).trans ((valV_neg (by show ¬ ((.inr "table" : Key) = .inr "number"); decide +kernel)).trans ((valV_neg (by show ¬ ((.inr "column" : Key) = .inr "number"); decide +kernel)).trans (valV_pos rfl)))
theorem g_row (a b c d e : V) : valV (gvD a b c d e) (.inr "row") = some e := (valV_neg (by show ¬ ((.inr "shape" : Key) = .inr "row"); decide +kernel)).trans ((valV_neg (by show ¬ ((.inr "table" : Key) = .inr "row"); decide +kernel)).trans ((valV_neg (by show ¬ ((.inr "column" : Key) = .inr "row"); decide +kernel)).trans ((valV_neg (by show ¬ ((.inr "number" : Key) = .inr "row"); decide +kernel)).trans (valV_pos rfl))))
def spCall (K : PySem.W.Frag) : Sp := fun vs H Q E => ∃ (de g : Addr) (way : Int) (xs xt xc xn xr : V) (dx : Addr) (fs : List (Str × V)), vs = [.ref de, .int way, .ref g] ∧ H g = some (.dK (gvD xs xt xc xn xr)) ∧ H de = some (.ins (CD K) dx fs) ∧ (∃ a b c d e, fs = deF a b c d e) ∧ 0 ≤ way ∧ way ≤ 12 ∧
  (way = 0 → spD_make K [.ref de, xs] H (fun _ H1 => Q .non H1) E) ∧ (way = 1 ∨ way = 2 → spD_order_by K [.ref de, xt, xc] H (fun _ H1 => Q .non H1) E) ∧
  (way = 3 ∨ way = 4 → spD_put K [.ref de, xt, xr] H (fun _ H1 => Q .non H1) E) ∧ (way = 5 ∨ way = 6 → spD_change K [.ref de, xt, xn, xr] H (fun _ H1 => Q .non H1) E) ∧
  (way = 7 → spD_drop K [.ref de, xt, xn] H (fun _ H1 => Q .non H1) E) ∧ (way = 8 → spD_start K [.ref de] H (fun _ H1 => Q .non H1) E) ∧ (way = 9 → spD_view K [.ref de] H (fun _ H1 => Q .non H1) E) ∧
  (way = 10 → spD_mine K [.ref de] H (fun _ H1 => Q .non H1) E) ∧ (way = 11 → spD_keep K [.ref de] H (fun _ H1 => Q .non H1) E) ∧ (way = 12 → spD_leave K [.ref de] H (fun _ H1 => Q .non H1) E)
theorem sc_law_call : FnScope ["_law_deal", "_law_way", "_law_given_here"] ["_law_deal", "_law_way", "_law_given_here"] (defScope s_law_call) := ⟨rfl, rfl, rfl, by decide +kernel, rfl, by decide +kernel, by decide +kernel⟩
theorem ok_law_call (T : Tx K mg) : Gd P w K mg base (L2.CX P w) 15 "_law_call" ["_law_deal", "_law_way", "_law_given_here"] (spCall K) := by
  refine gdX (f_law_call T) sc_law_call (fun _ _ _ _ _ _ us hl => match us, hl with | [_, _, _], _ => rfl) ?len (fun f cdv A outer s H vs Q E hr h => ⟨_, (pss_one (ps_if (pt_cmpR op_eq (pv 1) pe_int (nomark _)) (pss_one (ps_expr (pe_mS (pv 0) (c_Dealing T) (m_Dealing_make T) (ok_Dealing_make T) hr (by decide) (pE (takes_of rfl rfl rfl rfl) (fun _ _ _ _ h => h)) (pa_cons (pe_dget (hu_of hr) (pv 2) pe_str (fun _ _ => rfl)) pa_nil)))) (pss_one (ps_if (PW.pt (pw_or (pt_cmpR op_eq (pv 1) pe_int (nomark _)) (pw_or1 (pt_cmpR op_eq (pv 1) pe_int (nomark _))))) (pss_one (ps_expr (pe_mS (pv 0) (c_Dealing T) (m_Dealing_order_by T) (ok_Dealing_order_by T) hr (by decide) (pE (takes_of rfl rfl rfl rfl) (fun _ _ _ _ h => h)) (pa_cons (pe_dget (hu_of hr) (pv 2) pe_str (fun _ _ => rfl)) (pa_cons (pe_dget (hu_of hr) (pv 2) pe_str (fun _ _ => rfl)) pa_nil))))) (pss_one (ps_if (PW.pt (pw_or (pt_cmpR op_eq (pv 1) pe_int (nomark _)) (pw_or1 (pt_cmpR op_eq (pv 1) pe_int (nomark _))))) (pss_one (ps_expr (pe_mS (pv 0) (c_Dealing T) (m_Dealing_put T) (ok_Dealing_put T) hr (by decide) (pE (takes_of rfl rfl rfl rfl) (fun _ _ _ _ h => h)) (pa_cons (pe_dget (hu_of hr) (pv 2) pe_str (fun _ _ => rfl)) (pa_cons (pe_dget (hu_of hr) (pv 2) pe_str (fun _ _ => rfl)) pa_nil))))) (pss_one (ps_if (PW.pt (pw_or (pt_cmpR op_eq (pv 1) pe_int (nomark _)) (pw_or1 (pt_cmpR op_eq (pv 1) pe_int (nomark _))))) (pss_one (ps_expr (pe_mS (pv 0) (c_Dealing T) (m_Dealing_change T) (ok_Dealing_change T) hr (by decide) (pE (takes_of rfl rfl rfl rfl) (fun _ _ _ _ h => h)) (pa_cons (pe_dget (hu_of hr) (pv 2) pe_str (fun _ _ => rfl)) (pa_cons (pe_dget (hu_of hr) (pv 2) pe_str (fun _ _ => rfl)) (pa_cons (pe_dget (hu_of hr) (pv 2) pe_str (fun _ _ => rfl)) pa_nil)))))) (pss_one (ps_if (pt_cmpR op_eq (pv 1) pe_int (nomark _)) (pss_one (ps_expr (pe_mS (pv 0) (c_Dealing T) (m_Dealing_drop T) (ok_Dealing_drop T) hr (by decide) (pE (takes_of rfl rfl rfl rfl) (fun _ _ _ _ h => h)) (pa_cons (pe_dget (hu_of hr) (pv 2) pe_str (fun _ _ => rfl)) (pa_cons (pe_dget (hu_of hr) (pv 2) pe_str (fun _ _ => rfl)) pa_nil))))) (pss_one (ps_if (pt_cmpR op_eq (pv 1) pe_int (nomark _)) (pss_one (ps_expr (pe_m0 (pv 0) (c_Dealing T) (m_Dealing_start T) (ok_Dealing_start T) hr (by decide) (passes_call (takes_of rfl rfl rfl rfl) (fun _ _ _ _ h => h))))) (pss_one (ps_if (pt_cmpR op_eq (pv 1) pe_int (nomark _)) (pss_one (ps_expr (pe_m0 (pv 0) (c_Dealing T) (m_Dealing_view T) (ok_Dealing_view T) hr (by decide) (passes_call (takes_of rfl rfl rfl rfl) (fun _ _ _ _ h => h))))) (pss_one (ps_if (pt_cmpR op_eq (pv 1) pe_int (nomark _)) (pss_one (ps_expr (pe_m0 (pv 0) (c_Dealing T) (m_Dealing_mine T) (ok_Dealing_mine T) hr (by decide) (passes_call (takes_of rfl rfl rfl rfl) (fun _ _ _ _ h => h))))) (pss_one (ps_if (pt_cmpR op_eq (pv 1) pe_int (nomark _)) (pss_one (ps_expr (pe_m0 (pv 0) (c_Dealing T) (m_Dealing_keep T) (ok_Dealing_keep T) hr (by decide) (passes_call (takes_of rfl rfl rfl rfl) (fun _ _ _ _ h => h))))) (pss_one (ps_expr (pe_m0 (pv 0) (c_Dealing T) (m_Dealing_leave T) (ok_Dealing_leave T) hr (by decide) (passes_call (takes_of rfl rfl rfl rfl) (fun _ _ _ _ h => h))))))))))))))))))))))), ?_⟩)
  case len => rintro vs H Q E ⟨de, g, way, xs, xt, xc, xn, xr, dx, fs, rfl, _⟩; rfl
  obtain ⟨de, g, way, xs, xt, xc, xn, xr, dx, fs, rfl, hg, hde, ⟨fa, fb, fc, fd, fe, rfl⟩, w0, w12, p0, p1, p3, p5, p7, p8, p9, p10, p11, p12⟩ := h
  walk_at "rd"
  refine q_iteP (fun e => ?_) fun n0 => ?_
  · refine q_meth hde (de_none (by decide +kernel) (by decide +kernel) (by decide +kernel) (by decide +kernel) (by decide +kernel) ..) ?_
    exact q_dget (.inl hg) (k := .inr "shape") rfl (g_shape ..) (p0 e)
  have o1 : way = 1 ∨ way = 2 → methR (He.ga K "Dealing") "order_by" (.ref de) H fun a => dgetR (.ref g) (.str "table") H fun x H1 => dgetR (.ref g) (.str "column") H1 fun y H2 => spD_order_by K [.ref a, x, y] H2 (fun _ H1 => Q .non H1) E := fun e => by
    refine q_meth hde (de_none (by decide +kernel) (by decide +kernel) (by decide +kernel) (by decide +kernel) (by decide +kernel) ..) ?_
    exact q_dget (.inl hg) (k := .inr "table") rfl (g_table ..) (q_dget (.inl hg) (k := .inr "column") rfl (g_column ..) (p1 e))
  have o3 : way = 3 ∨ way = 4 → methR (He.ga K "Dealing") "put" (.ref de) H fun a => dgetR (.ref g) (.str "table") H fun x H1 => dgetR (.ref g) (.str "row") H1 fun y H2 => spD_put K [.ref a, x, y] H2 (fun _ H1 => Q .non H1) E := fun e => by
    refine q_meth hde (de_none (by decide +kernel) (by decide +kernel) (by decide +kernel) (by decide +kernel) (by decide +kernel) ..) ?_
    exact q_dget (.inl hg) (k := .inr "table") rfl (g_table ..) (q_dget (.inl hg) (k := .inr "row") rfl (g_row ..) (p3 e))
  have o5 : way = 5 ∨ way = 6 → methR (He.ga K "Dealing") "change" (.ref de) H fun a => dgetR (.ref g) (.str "table") H fun x H1 => dgetR (.ref g) (.str "number") H1 fun y H2 => dgetR (.ref g) (.str "row") H2 fun z H3 => spD_change K [.ref a, x, y, z] H3 (fun _ H1 => Q .non H1) E := fun e => by
    refine q_meth hde (de_none (by decide +kernel) (by decide +kernel) (by decide +kernel) (by decide +kernel) (by decide +kernel) ..) ?_
    exact q_dget (.inl hg) (k := .inr "table") rfl (g_table ..) (q_dget (.inl hg) (k := .inr "number") rfl (g_number ..) (q_dget (.inl hg) (k := .inr "row") rfl (g_row ..) (p5 e)))
  refine q_iteP (fun e => o1 (.inl e)) fun n1 => ?_
  refine q_iteP (fun e => o1 (.inr e)) fun n2 => ?_
  refine q_iteP (fun e => o3 (.inl e)) fun n3 => ?_
  refine q_iteP (fun e => o3 (.inr e)) fun n4 => ?_
  refine q_iteP (fun e => o5 (.inl e)) fun n5 => ?_
  refine q_iteP (fun e => o5 (.inr e)) fun n6 => ?_
  refine q_iteP (fun e => ?_) fun n7 => ?_
  · refine q_meth hde (de_none (by decide +kernel) (by decide +kernel) (by decide +kernel) (by decide +kernel) (by decide +kernel) ..) ?_
    exact q_dget (.inl hg) (k := .inr "table") rfl (g_table ..) (q_dget (.inl hg) (k := .inr "number") rfl (g_number ..) (p7 e))
  refine q_iteP (fun e => ?_) fun n8 => ?_
  · exact q_meth hde (de_none (by decide +kernel) (by decide +kernel) (by decide +kernel) (by decide +kernel) (by decide +kernel) ..) (p8 e)
  refine q_iteP (fun e => ?_) fun n9 => ?_
  · exact q_meth hde (de_none (by decide +kernel) (by decide +kernel) (by decide +kernel) (by decide +kernel) (by decide +kernel) ..) (p9 e)
  refine q_iteP (fun e => ?_) fun n10 => ?_
  · exact q_meth hde (de_none (by decide +kernel) (by decide +kernel) (by decide +kernel) (by decide +kernel) (by decide +kernel) ..) (p10 e)
  refine q_iteP (fun e => ?_) fun n11 => ?_
  · exact q_meth hde (de_none (by decide +kernel) (by decide +kernel) (by decide +kernel) (by decide +kernel) (by decide +kernel) ..) (p11 e)
  · exact q_meth hde (de_none (by decide +kernel) (by decide +kernel) (by decide +kernel) (by decide +kernel) (by decide +kernel) ..) (p12 (by omega))
end


section
variable {P : Program} {w : World} {K : PySem.W.Frag} {mg : Str → Option Value} {base : Heap}
theorem excC (T : Tx K mg) {x : Str} (hx : x ∈ raised) : ExcC K (He.ga K x) := by
  have f := exc_f T hx
  exact ⟨f.ga, f.gt, f.sb, f.hd, f.cl, f.gg, f.tk, f.mo⟩
theorem one_kind : ∀ x, x ∈ raised → ([x == "BadValue", x == "BadShape", x == "BadChange", x == "BadRow", x == "NoTable", x == "TableThere", x == "NoColumn", x == "IndexThere", x == "NoRow", x == "Over", x == "Clash", x == "BadLog", x == "BadQuestion", x == "BadDesk"] : List Bool).count true = 1 := by decide +kernel
theorem kd_BadValue : ("BadValue" : Str) ∈ kinds := by decide +kernel
theorem kd_BadShape : ("BadShape" : Str) ∈ kinds := by decide +kernel
theorem kd_BadChange : ("BadChange" : Str) ∈ kinds := by decide +kernel
theorem kd_BadRow : ("BadRow" : Str) ∈ kinds := by decide +kernel
theorem kd_NoTable : ("NoTable" : Str) ∈ kinds := by decide +kernel
theorem kd_TableThere : ("TableThere" : Str) ∈ kinds := by decide +kernel
theorem kd_NoColumn : ("NoColumn" : Str) ∈ kinds := by decide +kernel
theorem kd_IndexThere : ("IndexThere" : Str) ∈ kinds := by decide +kernel
theorem kd_NoRow : ("NoRow" : Str) ∈ kinds := by decide +kernel
theorem kd_Over : ("Over" : Str) ∈ kinds := by decide +kernel
theorem kd_Clash : ("Clash" : Str) ∈ kinds := by decide +kernel
theorem kd_BadLog : ("BadLog" : Str) ∈ kinds := by decide +kernel
theorem kd_BadQuestion : ("BadQuestion" : Str) ∈ kinds := by decide +kernel
theorem kd_BadDesk : ("BadDesk" : Str) ∈ kinds := by decide +kernel
def spAl (K : PySem.W.Frag) (a D : Addr) : Sp := fun vs H Q _ => ∃ x, x ∈ raised ∧ D = He.ga K x ∧ vs = [.ref a] ∧ ∀ H', Ex H H' → Q (.bl true) H'
theorem sc_law_alone : FnScope ["_law_e", "_law_told"] ["_law_e"] (defScope s_law_alone) := ⟨rfl, rfl, rfl, by decide +kernel, rfl, by decide +kernel, by decide +kernel⟩
theorem ok_law_alone (T : Tx K mg) : ∃ fd, mg "_law_alone" = some (.ref (He.ga K "_law_alone")) ∧ Binds K fd ["_law_e"] [] ∧ PySem.W.keepIn K (.ref (He.ga K "_law_alone")) = true ∧ FnE P w K mg base 1 (He.ga K "_law_alone") fd ["_law_e"] (spAl K) := by
  obtain ⟨fd, hm, F⟩ := f_law_alone T
  refine ⟨fd, hm, F.bindsN (fun _ _ _ _ _ _ us hl => match us, hl with | [_], _ => rfl), F.kp, fnE_of F sc_law_alone ?len fun cdv A outer s H vs Q p D hz hf h => ?_⟩
  case len => rintro a D vs H Q E ⟨x, _, _, rfl, _⟩; rfl
  obtain ⟨x, hx, rfl, rfl, q⟩ := h
  have hC := excC T hx
  have f := exc_f T hx
  refine ⟨_, (pss_cons (ps_set (i := 1) sc_law_alone.nd rfl (Or.inl rfl) (pe_lst (pa_cons (pe_callB (call_isE2 (List.mem_singleton_self _) hC hz hf) (by rfl) (n_isinstance T) b_isinstance (pa_cons (pv 0) (pa_cons (pe_gr (g_BadValue T)) pa_nil))) (pa_cons (pe_callB (call_isE2 (List.mem_singleton_self _) hC hz hf) (by rfl) (n_isinstance T) b_isinstance (pa_cons (pv 0) (pa_cons (pe_gr (g_BadShape T)) pa_nil))) (pa_cons (pe_callB (call_isE2 (List.mem_singleton_self _) hC hz hf) (by rfl) (n_isinstance T) b_isinstance (pa_cons (pv 0) (pa_cons (pe_gr (g_BadChange T)) pa_nil))) (pa_cons (pe_callB (call_isE2 (List.mem_singleton_self _) hC hz hf) (by rfl) (n_isinstance T) b_isinstance (pa_cons (pv 0) (pa_cons (pe_gr (g_BadRow T)) pa_nil))) pa_nil))))))
      (pss_cons (ps_set (i := 1) sc_law_alone.nd rfl (Or.inl rfl) (pe_op op_cat (pv 1) (pe_lst (pa_cons (pe_callB (call_isE2 (List.mem_singleton_self _) hC hz hf) (by rfl) (n_isinstance T) b_isinstance (pa_cons (pv 0) (pa_cons (pe_gr (g_NoTable T)) pa_nil))) (pa_cons (pe_callB (call_isE2 (List.mem_singleton_self _) hC hz hf) (by rfl) (n_isinstance T) b_isinstance (pa_cons (pv 0) (pa_cons (pe_gr (g_TableThere T)) pa_nil))) (pa_cons (pe_callB (call_isE2 (List.mem_singleton_self _) hC hz hf) (by rfl) (n_isinstance T) b_isinstance (pa_cons (pv 0) (pa_cons (pe_gr (g_NoColumn T)) pa_nil))) pa_nil))))))
      (pss_cons (ps_set (i := 1) sc_law_alone.nd rfl (Or.inl rfl) (pe_op op_cat (pv 1) (pe_lst (pa_cons (pe_callB (call_isE2 (List.mem_singleton_self _) hC hz hf) (by rfl) (n_isinstance T) b_isinstance (pa_cons (pv 0) (pa_cons (pe_gr (g_IndexThere T)) pa_nil))) (pa_cons (pe_callB (call_isE2 (List.mem_singleton_self _) hC hz hf) (by rfl) (n_isinstance T) b_isinstance (pa_cons (pv 0) (pa_cons (pe_gr (g_NoRow T)) pa_nil))) (pa_cons (pe_callB (call_isE2 (List.mem_singleton_self _) hC hz hf) (by rfl) (n_isinstance T) b_isinstance (pa_cons (pv 0) (pa_cons (pe_gr (g_Over T)) pa_nil))) (pa_cons (pe_callB (call_isE2 (List.mem_singleton_self _) hC hz hf) (by rfl) (n_isinstance T) b_isinstance (pa_cons (pv 0) (pa_cons (pe_gr (g_Clash T)) pa_nil))) pa_nil)))))))
      (pss_cons (ps_set (i := 1) sc_law_alone.nd rfl (Or.inl rfl) (pe_op op_cat (pv 1) (pe_lst (pa_cons (pe_callB (call_isE2 (List.mem_singleton_self _) hC hz hf) (by rfl) (n_isinstance T) b_isinstance (pa_cons (pv 0) (pa_cons (pe_gr (g_BadLog T)) pa_nil))) (pa_cons (pe_callB (call_isE2 (List.mem_singleton_self _) hC hz hf) (by rfl) (n_isinstance T) b_isinstance (pa_cons (pv 0) (pa_cons (pe_gr (g_BadQuestion T)) pa_nil))) (pa_cons (pe_callB (call_isE2 (List.mem_singleton_self _) hC hz hf) (by rfl) (n_isinstance T) b_isinstance (pa_cons (pv 0) (pa_cons (pe_gr (g_BadDesk T)) pa_nil))) pa_nil))))))
      (pss_one (ps_ret (pe_and (pe_callB (call_isE2 (List.mem_singleton_self _) hC hz hf) (by rfl) (n_isinstance T) b_isinstance (pa_cons (pv 0) (pa_cons (pe_bt (n_ValueError T) b_ValueError) pa_nil))) (pe_one (pe_cmpR op_eq (pe_bm PySem.F.plainAttrs_list PySem.F.slot_list_count PySem.F.type_list_count mt_countB (pv 1) (pa_cons pe_bl pa_nil)) pe_int (nomark _)))))))))), ?_⟩
  walk_at "rd"
  refine q_isE (fun u r => r) (f.kk _ kd_BadValue) ?_
  refine q_isE (fun u r => r) (f.kk _ kd_BadShape) ?_
  refine q_isE (fun u r => r) (f.kk _ kd_BadChange) ?_
  refine q_isE (fun u r => r) (f.kk _ kd_BadRow) ?_
  refine ⟨by show 4 ≤ sizeLine; decide, fun l1 hl1 => ?_⟩
  have ex1 : Ex H (upd H l1 (.lst [.bl (x == "BadValue"), .bl (x == "BadShape"), .bl (x == "BadChange"), .bl (x == "BadRow")])) := Ex.nw hl1
  have e1 : (upd H l1 (.lst [.bl (x == "BadValue"), .bl (x == "BadShape"), .bl (x == "BadChange"), .bl (x == "BadRow")])) l1 = some (.lst [.bl (x == "BadValue"), .bl (x == "BadShape"), .bl (x == "BadChange"), .bl (x == "BadRow")]) := upd_same
  revert ex1 e1
  generalize upd H l1 (.lst [.bl (x == "BadValue"), .bl (x == "BadShape"), .bl (x == "BadChange"), .bl (x == "BadRow")]) = H1
  intro ex1 e1
  walk_at "rd"
  refine q_isE (fun u r => r) (f.kk _ kd_NoTable) ?_
  refine q_isE (fun u r => r) (f.kk _ kd_TableThere) ?_
  refine q_isE (fun u r => r) (f.kk _ kd_NoColumn) ?_
  refine ⟨by show 3 ≤ sizeLine; decide, fun c2 hc2 => ?_⟩
  have ex2 := Ex.nw (o := .lst [.bl (x == "NoTable"), .bl (x == "TableThere"), .bl (x == "NoColumn")]) hc2
  refine q_cat (ex2 _ _ e1) upd_same (by show 4 + 3 ≤ 1000; decide) fun l3 H3 ex3 hl3 e3 => ?_
  walk_at "rd"
  refine q_isE (fun u r => r) (f.kk _ kd_IndexThere) ?_
  refine q_isE (fun u r => r) (f.kk _ kd_NoRow) ?_
  refine q_isE (fun u r => r) (f.kk _ kd_Over) ?_
  refine q_isE (fun u r => r) (f.kk _ kd_Clash) ?_
  refine ⟨by show 4 ≤ sizeLine; decide, fun c4 hc4 => ?_⟩
  have ex4 := Ex.nw (o := .lst [.bl (x == "IndexThere"), .bl (x == "NoRow"), .bl (x == "Over"), .bl (x == "Clash")]) hc4
  refine q_cat (ex4 _ _ e3) upd_same (by show 7 + 4 ≤ 1000; decide) fun l5 H5 ex5 hl5 e5 => ?_
  walk_at "rd"
  refine q_isE (fun u r => r) (f.kk _ kd_BadLog) ?_
  refine q_isE (fun u r => r) (f.kk _ kd_BadQuestion) ?_
  refine q_isE (fun u r => r) (f.kk _ kd_BadDesk) ?_
  refine ⟨by show 3 ≤ sizeLine; decide, fun c6 hc6 => ?_⟩
  have ex6 := Ex.nw (o := .lst [.bl (x == "BadLog"), .bl (x == "BadQuestion"), .bl (x == "BadDesk")]) hc6
  refine q_cat (ex6 _ _ e5) upd_same (by show 11 + 3 ≤ 1000; decide) fun l7 H7 ex7 hl7 e7 => ?_
  walk_at "rd"
  refine q_isE (c := .ty "ValueError") (fun u r => r) f.ve ?_
  walk_at "rd"
  refine ⟨.inl ⟨rfl, _, SqL.of e7⟩, ?_⟩
  refine ⟨l7, [x == "BadValue", x == "BadShape", x == "BadChange", x == "BadRow", x == "NoTable", x == "TableThere", x == "NoColumn", x == "IndexThere", x == "NoRow", x == "Over", x == "Clash", x == "BadLog", x == "BadQuestion", x == "BadDesk"], rfl, rfl, SqL.of e7, ?_⟩
  rw [one_kind x hx]
  walk_at "rd"
  exact q _ (ex1.tr (ex2.tr (ex3.tr (ex4.tr (ex5.tr (ex6.tr ex7))))))
end


section
variable {P : Program} {w : World} {K : PySem.W.Frag} {mg : Str → Option Value} {base : Heap}
/-- the exceptions that a call may end in, and the words for them -/
inductive Rf where
  | over | shape | there | table | column | index | number | row
def Rf.c : Rf → Str
  | .over => "Over" | .shape => "BadShape" | .there => "TableThere" | .table => "NoTable" | .column => "NoColumn" | .index => "IndexThere" | .number => "NoRow" | .row => "BadRow"
def Rf.wd : Rf → Str
  | .over => "over" | .shape => "shape" | .there => "there" | .table => "table" | .column => "column" | .index => "index" | .number => "number" | .row => "row"
def spRef (K : PySem.W.Frag) : Sp := fun vs H Q _ => ∃ x y z, vs = [x, y, z] ∧ ∀ E' : XK, (∀ (r : Rf) H1, Q (.str r.wd) H1 → Er K E' r.c H1) → spCall K vs H (fun _ H1 => Q (.str "none") H1) E'
theorem sc_law_refusal : FnScope ["_law_deal", "_law_way", "_law_given_here"] ["_law_deal", "_law_way", "_law_given_here"] (defScope s_law_refusal) := ⟨rfl, rfl, rfl, by decide +kernel, rfl, by decide +kernel, by decide +kernel⟩
theorem ok_law_refusal (T : Tx K mg) : Gd P w K mg base CX0 16 "_law_refusal" ["_law_deal", "_law_way", "_law_given_here"] (spRef K) := by
  refine gd0 (f_law_refusal T) sc_law_refusal (fun _ _ _ _ _ _ us hl => match us, hl with | [_, _, _], _ => rfl) ?len (fun f cdv A outer s H vs Q E hr h => ⟨_, (pss_cons (ps_try_many rfl rfl takes_none5 (fun W pn xe tk _ => (pss_one (ps_expr (pe_g (ok_law_call T) hr (by decide) (fun σ => passAt tk σ) (pa_cons (pv 0) (pa_cons (pv 1) (pa_cons (pv 2) pa_nil))))))) (HdsOk.cons ⟨rfl, by decide, Or.inl (g_Over T)⟩ (fun a oe cls d pn _ _ => (pss_one (ps_ret pe_str))) (HdsOk.cons ⟨rfl, by decide, Or.inl (g_BadShape T)⟩ (fun a oe cls d pn _ _ => (pss_one (ps_ret pe_str))) (HdsOk.cons ⟨rfl, by decide, Or.inl (g_TableThere T)⟩ (fun a oe cls d pn _ _ => (pss_one (ps_ret pe_str))) (HdsOk.cons ⟨rfl, by decide, Or.inl (g_NoTable T)⟩ (fun a oe cls d pn _ _ => (pss_one (ps_ret pe_str))) (HdsOk.cons ⟨rfl, by decide, Or.inl (g_NoColumn T)⟩ (fun a oe cls d pn _ _ => (pss_one (ps_ret pe_str))) (HdsOk.cons ⟨rfl, by decide, Or.inl (g_IndexThere T)⟩ (fun a oe cls d pn _ _ => (pss_one (ps_ret pe_str))) (HdsOk.cons ⟨rfl, by decide, Or.inl (g_NoRow T)⟩ (fun a oe cls d pn _ _ => (pss_one (ps_ret pe_str))) (HdsOk.cons ⟨rfl, by decide, Or.inl (g_BadRow T)⟩ (fun a oe cls d pn _ _ => (pss_one (ps_ret pe_str))) HdsOk.nil)))))))))
      (pss_one (ps_ret pe_str))), ?_⟩)
  case len => rintro vs H Q E ⟨x, y, z, rfl, _⟩; rfl
  obtain ⟨x, y, z, rfl, h⟩ := h
  walk_at "rd"
  refine h _ fun r H1 hq => ?_
  cases r
  · exact ⟨true, x_Over_Over T, fun _ a ha => hq, fun z => by cases z⟩
  · exact ⟨false, x_BadShape_Over T, fun z => (by cases z), fun _ => ⟨true, x_BadShape_BadShape T, fun _ a ha => hq, fun z => by cases z⟩⟩
  · exact ⟨false, x_TableThere_Over T, fun z => (by cases z), fun _ => ⟨false, x_TableThere_BadShape T, fun z => (by cases z), fun _ => ⟨true, x_TableThere_TableThere T, fun _ a ha => hq, fun z => by cases z⟩⟩⟩
  · exact ⟨false, x_NoTable_Over T, fun z => (by cases z), fun _ => ⟨false, x_NoTable_BadShape T, fun z => (by cases z), fun _ => ⟨false, x_NoTable_TableThere T, fun z => (by cases z), fun _ => ⟨true, x_NoTable_NoTable T, fun _ a ha => hq, fun z => by cases z⟩⟩⟩⟩
  · exact ⟨false, x_NoColumn_Over T, fun z => (by cases z), fun _ => ⟨false, x_NoColumn_BadShape T, fun z => (by cases z), fun _ => ⟨false, x_NoColumn_TableThere T, fun z => (by cases z), fun _ => ⟨false, x_NoColumn_NoTable T, fun z => (by cases z), fun _ => ⟨true, x_NoColumn_NoColumn T, fun _ a ha => hq, fun z => by cases z⟩⟩⟩⟩⟩
  · exact ⟨false, x_IndexThere_Over T, fun z => (by cases z), fun _ => ⟨false, x_IndexThere_BadShape T, fun z => (by cases z), fun _ => ⟨false, x_IndexThere_TableThere T, fun z => (by cases z), fun _ => ⟨false, x_IndexThere_NoTable T, fun z => (by cases z), fun _ => ⟨false, x_IndexThere_NoColumn T, fun z => (by cases z), fun _ => ⟨true, x_IndexThere_IndexThere T, fun _ a ha => hq, fun z => by cases z⟩⟩⟩⟩⟩⟩
  · exact ⟨false, x_NoRow_Over T, fun z => (by cases z), fun _ => ⟨false, x_NoRow_BadShape T, fun z => (by cases z), fun _ => ⟨false, x_NoRow_TableThere T, fun z => (by cases z), fun _ => ⟨false, x_NoRow_NoTable T, fun z => (by cases z), fun _ => ⟨false, x_NoRow_NoColumn T, fun z => (by cases z), fun _ => ⟨false, x_NoRow_IndexThere T, fun z => (by cases z), fun _ => ⟨true, x_NoRow_NoRow T, fun _ a ha => hq, fun z => by cases z⟩⟩⟩⟩⟩⟩⟩
  · exact ⟨false, x_BadRow_Over T, fun z => (by cases z), fun _ => ⟨false, x_BadRow_BadShape T, fun z => (by cases z), fun _ => ⟨false, x_BadRow_TableThere T, fun z => (by cases z), fun _ => ⟨false, x_BadRow_NoTable T, fun z => (by cases z), fun _ => ⟨false, x_BadRow_NoColumn T, fun z => (by cases z), fun _ => ⟨false, x_BadRow_IndexThere T, fun z => (by cases z), fun _ => ⟨false, x_BadRow_NoRow T, fun z => (by cases z), fun _ => ⟨true, x_BadRow_BadRow T, fun _ a ha => hq, fun z => by cases z⟩⟩⟩⟩⟩⟩⟩⟩
def spOne (K : PySem.W.Frag) : Sp := fun vs H Q _ => ∃ x y z, vs = [x, y, z] ∧ ∀ E' : XK, (∀ (r : Rf) H1, (∀ H2, Ex H1 H2 → Q (.bl true) H2) → Er K E' r.c H1) → spCall K vs H (fun _ H1 => Q (.bl false) H1) E'
theorem sc_law_one : FnScope ["_law_deal", "_law_way", "_law_given_here", "_law_e"] ["_law_deal", "_law_way", "_law_given_here"] (defScope s_law_one) := ⟨rfl, rfl, rfl, by decide +kernel, rfl, by decide +kernel, by decide +kernel⟩
theorem ok_law_one (T : Tx K mg) : Gd P w K mg base CX0 16 "_law_one" ["_law_deal", "_law_way", "_law_given_here"] (spOne K) := by
  obtain ⟨fdA, mm, bb, kk, FF⟩ := ok_law_alone (P := P) (w := w) (base := base) T
  refine gd0 (f_law_one T) sc_law_one (fun _ _ _ _ _ _ us hl => match us, hl with | [_, _, _], _ => rfl) ?len (fun f cdv A outer s H vs Q E hr h => ⟨_, (pss_cons (ps_try_as (i := 3) rfl rfl sc_law_one.nd rfl rfl ⟨rfl, by decide, Or.inl (g_TableError T)⟩ takes_none5 (fun W pn xe tk _ => (pss_one (ps_expr (pe_g (ok_law_call T) hr (by decide) (fun σ => passAt tk σ) (pa_cons (pv 0) (pa_cons (pv 1) (pa_cons (pv 2) pa_nil))))))) (fun a oe cls d pn hz hf => pss_one (ps_ret (pe_callE2 FF (roomE hr (by decide)) (List.mem_cons_self ..) hz hf mm kk bb (pa_cons (pv 3) pa_nil)))))
      (pss_one (ps_ret pe_bl))), ?_⟩)
  case len => rintro vs H Q E ⟨x, y, z, rfl, _⟩; rfl
  obtain ⟨x, y, z, rfl, h⟩ := h
  walk_at "rd"
  refine h _ fun r H1 hq => ?_
  cases r
  · exact ⟨true, x_Over_TableError T, fun _ a ha => ⟨_, rfl, rfl, .ref a, rfl, _, rs_Over, rfl, rfl, hq⟩, fun z => by cases z⟩
  · exact ⟨true, x_BadShape_TableError T, fun _ a ha => ⟨_, rfl, rfl, .ref a, rfl, _, rs_BadShape, rfl, rfl, hq⟩, fun z => by cases z⟩
  · exact ⟨true, x_TableThere_TableError T, fun _ a ha => ⟨_, rfl, rfl, .ref a, rfl, _, rs_TableThere, rfl, rfl, hq⟩, fun z => by cases z⟩
  · exact ⟨true, x_NoTable_TableError T, fun _ a ha => ⟨_, rfl, rfl, .ref a, rfl, _, rs_NoTable, rfl, rfl, hq⟩, fun z => by cases z⟩
  · exact ⟨true, x_NoColumn_TableError T, fun _ a ha => ⟨_, rfl, rfl, .ref a, rfl, _, rs_NoColumn, rfl, rfl, hq⟩, fun z => by cases z⟩
  · exact ⟨true, x_IndexThere_TableError T, fun _ a ha => ⟨_, rfl, rfl, .ref a, rfl, _, rs_IndexThere, rfl, rfl, hq⟩, fun z => by cases z⟩
  · exact ⟨true, x_NoRow_TableError T, fun _ a ha => ⟨_, rfl, rfl, .ref a, rfl, _, rs_NoRow, rfl, rfl, hq⟩, fun z => by cases z⟩
  · exact ⟨true, x_BadRow_TableError T, fun _ a ha => ⟨_, rfl, rfl, .ref a, rfl, _, rs_BadRow, rfl, rfl, hq⟩, fun z => by cases z⟩
end


section
variable {P : Program} {w : World} {K : PySem.W.Frag} {mg : Str → Option Value} {base : Heap}
/-! ### what is due -/
def duR (way : Int) (gs gt gc gn gr ov th od : Bool) : Option Rf :=
  if ov = true then some .over
  else if way = 0 then (if gs = true then (if th = true then some .there else none) else some .shape)
  else if way < 8 ∧ gt = false then some .table
  else if way = 1 ∨ way = 2 then (if gc = true then (if od = true then some .index else none) else some .column)
  else if (4 < way ∧ way < 8) ∧ gn = false then some .number
  else if (2 < way ∧ way < 7) ∧ gr = false then some .row
  else none
def duW : Option Rf → Str
  | none => "none"
  | some r => r.wd
def flD (gs gt gc gn gr : Bool) : List (Key × V) := gvD (.bl gs) (.bl gt) (.bl gc) (.bl gn) (.bl gr)
theorem two_at {x y : V} (b : Bool) : atI [x, y] (if b then (1 : Int) else 0) = some (if b then y else x) := by
  cases b
  · exact at0
  · exact at1
theorem sc_law_due : FnScope ["_law_way", "_law_good", "_law_over", "_law_there", "_law_ordered"] ["_law_way", "_law_good", "_law_over", "_law_there", "_law_ordered"] (defScope s_law_due) := ⟨rfl, rfl, rfl, by decide +kernel, rfl, by decide +kernel, by decide +kernel⟩
theorem ok_law_due (T : Tx K mg) : Gd P w K mg base CX0 1 "_law_due" ["_law_way", "_law_good", "_law_over", "_law_there", "_law_ordered"] (fun vs H Q _ => ∃ (way : Int) (g : Addr) (gs gt gc gn gr ov th od : Bool), vs = [.int way, .ref g, .bl ov, .bl th, .bl od] ∧ H g = some (.dK (flD gs gt gc gn gr)) ∧ ∀ H', Ex H H' → Q (.str (duW (duR way gs gt gc gn gr ov th od))) H') := by
  refine gd0 (f_law_due T) sc_law_due (fun _ _ _ _ _ _ us hl => match us, hl with | [_, _, _, _, _], _ => rfl) ?len (fun f cdv A outer s H vs Q E hr h => ⟨_, (pss_cons (ps_if (pt_val (pv 2)) (pss_one (ps_ret pe_str)) pss_nil)
      (pss_cons (ps_if (pt_cmpR op_eq (pv 0) pe_int (nomark _)) (pss_one (ps_ret (pe_ix ix_list (pe_lst (pa_cons pe_str (pa_cons (pe_ix ix_list (pe_lst (pa_cons pe_str (pa_cons pe_str pa_nil))) (pe_callTy c_int1 (by rfl) (n_int T) b_int (pa_cons (pv 3) pa_nil)) (fun _ _ => rfl)) pa_nil))) (pe_callTy c_int1 (by rfl) (n_int T) b_int (pa_cons (pe_dget (hu_of hr) (pv 1) pe_str (fun _ _ => rfl)) pa_nil)) (fun _ _ => rfl)))) pss_nil)
      (pss_cons (ps_if (PW.pt (pw_and (pt_cmpR op_lt (pv 0) pe_int (nomark _)) (pw_and1 (pt_not (pt_val (pe_dget (hu_of hr) (pv 1) pe_str (fun _ _ => rfl))))))) (pss_one (ps_ret pe_str)) pss_nil)
      (pss_cons (ps_if (PW.pt (pw_or (pt_cmpR op_eq (pv 0) pe_int (nomark _)) (pw_or1 (pt_cmpR op_eq (pv 0) pe_int (nomark _))))) (pss_one (ps_ret (pe_ix ix_list (pe_lst (pa_cons pe_str (pa_cons (pe_ix ix_list (pe_lst (pa_cons pe_str (pa_cons pe_str pa_nil))) (pe_callTy c_int1 (by rfl) (n_int T) b_int (pa_cons (pv 4) pa_nil)) (fun _ _ => rfl)) pa_nil))) (pe_callTy c_int1 (by rfl) (n_int T) b_int (pa_cons (pe_dget (hu_of hr) (pv 1) pe_str (fun _ _ => rfl)) pa_nil)) (fun _ _ => rfl)))) pss_nil)
      (pss_cons (ps_if (PW.pt (pw_and (pt_cmpR op_gt (pv 0) pe_int (nomark _)) (pw_and (pt_cmpR op_lt (pv 0) pe_int (nomark _)) (pw_and1 (pt_not (pt_val (pe_dget (hu_of hr) (pv 1) pe_str (fun _ _ => rfl)))))))) (pss_one (ps_ret pe_str)) pss_nil)
      (pss_cons (ps_if (PW.pt (pw_and (pt_cmpR op_gt (pv 0) pe_int (nomark _)) (pw_and (pt_cmpR op_lt (pv 0) pe_int (nomark _)) (pw_and1 (pt_not (pt_val (pe_dget (hu_of hr) (pv 1) pe_str (fun _ _ => rfl)))))))) (pss_one (ps_ret pe_str)) pss_nil)
      (pss_one (ps_ret pe_str)))))))), ?_⟩)
  case len => rintro vs H Q E ⟨way, g, gs, gt, gc, gn, gr, ov, th, od, rfl, _⟩; rfl
  obtain ⟨way, g, gs, gt, gc, gn, gr, ov, th, od, rfl, hg, q⟩ := h
  have qn := q H (exr H)
  refine q_seq fun nx1 go1 => ?_
  walk_at "rd"
  cases ov with
  | true =>
    walk_at "rd"
    exact qn
  | false =>
    unfold duR at q qn
    simp only [Bool.false_eq_true, if_false] at q qn
    walk_at "rd"
    refine go1 _ _ (q_seq fun nx2 go2 => ?_)
    walk_at "rd"
    by_cases h0 : way = 0
    · rw [if_pos h0]
      simp only [if_pos h0] at q
      refine ⟨by show 2 ≤ sizeLine; decide, fun p1 hp1 => ?_⟩
      refine q_ixL (SqL.of upd_same) (two_at th) ?_
      refine ⟨by show 2 ≤ sizeLine; decide, fun p2 hp2 => ?_⟩
      have ex2 : Ex H (upd (upd H p1 (.lst [.str "none", .str "there"])) p2 (.lst [.str "shape", if th = true then V.str "there" else V.str "none"])) := (Ex.nw hp1).tr (Ex.nw hp2)
      refine q_dget (.inl (ex2 _ _ hg)) (k := .inr "shape") rfl (g_shape ..) ?_
      walk_at "rd"
      refine q_ixL (SqL.of upd_same) (two_at gs) ?_
      have z := q _ ex2
      cases gs with
      | false => exact z
      | true =>
        cases th with
        | false => exact z
        | true => exact z
    rw [if_neg h0]
    simp only [if_neg h0] at q qn
    refine go2 _ _ (q_seq fun nx3 go3 => ?_)
    have rest : ¬ (way < 8 ∧ gt = false) → nx3 [some (.int way), some (.ref g), some (.bl false), some (.bl th), some (.bl od)] H := by
      intro h3
      simp only [if_neg h3] at q qn
      refine go3 _ _ (q_seq fun nx4 go4 => ?_)
      have rest4 : ¬ (way = 1 ∨ way = 2) → nx4 [some (.int way), some (.ref g), some (.bl false), some (.bl th), some (.bl od)] H := by
        intro h4
        simp only [if_neg h4] at q qn
        refine go4 _ _ (q_seq fun nx5 go5 => ?_)
        have rest5 : ¬ ((4 < way ∧ way < 8) ∧ gn = false) → nx5 [some (.int way), some (.ref g), some (.bl false), some (.bl th), some (.bl od)] H := by
          intro h5
          simp only [if_neg h5] at q qn
          refine go5 _ _ ?_
          have fin : ¬ ((2 < way ∧ way < 7) ∧ gr = false) → Q (.str "none") H := fun h6 => by
            rw [if_neg h6] at qn
            exact qn
          walk_at "rd"
          refine q_iteP (fun a1 => ?_) fun a1 => fin fun z => a1 z.1.1
          refine q_iteP (fun a2 => ?_) fun a2 => fin fun z => a2 z.1.2
          refine q_dget (.inl hg) (k := .inr "row") rfl (g_row ..) ?_
          walk_at "rd"
          cases gr with
          | false =>
            walk_at "rd"
            rw [if_pos ⟨⟨a1, a2⟩, rfl⟩] at qn
            exact qn
          | true =>
            walk_at "rd"
            exact fin fun z => by cases z.2
        walk_at "rd"
        refine q_iteP (fun a1 => ?_) fun a1 => rest5 fun z => a1 z.1.1
        refine q_iteP (fun a2 => ?_) fun a2 => rest5 fun z => a2 z.1.2
        refine q_dget (.inl hg) (k := .inr "number") rfl (g_number ..) ?_
        walk_at "rd"
        cases gn with
        | false =>
          walk_at "rd"
          rw [if_pos ⟨⟨a1, a2⟩, rfl⟩] at qn
          exact qn
        | true =>
          walk_at "rd"
          exact rest5 fun z => by cases z.2
      have col : (way = 1 ∨ way = 2) → ∀ p1 p2, H p1 = none → (upd H p1 (.lst [.str "none", .str "index"])) p2 = none → Q (if gc = true then (if od = true then .str "index" else .str "none") else .str "column") (upd (upd H p1 (.lst [.str "none", .str "index"])) p2 (.lst [.str "column", if od = true then .str "index" else .str "none"])) := by
        intro h4 p1 p2 hp1 hp2
        simp only [if_pos h4] at q
        have z := q _ ((Ex.nw hp1).tr (Ex.nw (o := .lst [.str "column", if od = true then .str "index" else .str "none"]) hp2))
        cases gc with
        | false => exact z
        | true =>
          cases od with
          | false => exact z
          | true => exact z
      walk_at "rd"
      have body : (way = 1 ∨ way = 2) → 2 ≤ sizeLine ∧ ∀ p1, H p1 = none → rIxL K (.ref p1) (.int (if od = true then 1 else 0)) (upd H p1 (.lst [.str "none", .str "index"])) fun x H1 => 2 ≤ sizeLine ∧ ∀ p2, H1 p2 = none → dgetR (.ref g) (.str "column") (upd H1 p2 (.lst [.str "column", x])) fun y H2 => rInt1 [y] H2 fun z H3 => rIxL K (.ref p2) z H3 Q := by
        intro h4
        refine ⟨by decide, fun p1 hp1 => ?_⟩
        refine q_ixL (SqL.of upd_same) (two_at od) ?_
        refine ⟨by decide, fun p2 hp2 => ?_⟩
        have ex2 := (Ex.nw (o := .lst [.str "none", .str "index"]) hp1).tr (Ex.nw (o := .lst [.str "column", if od = true then .str "index" else .str "none"]) hp2)
        refine q_dget (.inl (ex2 _ _ hg)) (k := .inr "column") rfl (g_column ..) ?_
        walk_at "rd"
        exact q_ixL (SqL.of upd_same) (two_at gc) (col h4 p1 p2 hp1 hp2)
      refine q_iteP (fun a1 => body (.inl a1)) fun a1 => ?_
      refine q_iteP (fun a2 => body (.inr a2)) fun a2 => rest4 fun z => z.elim a1 a2
    walk_at "rd"
    refine q_iteP (fun a1 => ?_) fun a1 => rest fun z => a1 z.1
    refine q_dget (.inl hg) (k := .inr "table") rfl (g_table ..) ?_
    walk_at "rd"
    cases gt with
    | false =>
      walk_at "rd"
      rw [if_pos ⟨a1, rfl⟩] at qn
      exact qn
    | true =>
      walk_at "rd"
      exact rest fun z => by cases z.2
end


section
variable {P : Program} {w : World} {K : PySem.W.Frag} {mg : Str → Option Value} {base : Heap}
theorem cutV_init {xs : List V} (h : xs ≠ []) : cutV xs none (some (-1)) = xs.take (xs.length - 1) := by
  unfold cutV HT.sIx
  have h2 : 1 ≤ xs.length := Nat.pos_of_ne_zero fun e => h (List.length_eq_zero_iff.mp e)
  have e : ((-1 : Int) + (xs.length : Int)).toNat = xs.length - 1 := by omega
  simp [e]
theorem rowF {cs : Cols} {r : List Cv} (h : dFits cs (rowD r) = true) : r.length = cs.length := (fits_row h).1
theorem nofit_len {cs : Cols} {ds : List PyData} (h : ds.length ≠ cs.length) : dFits cs (.tuple ds) = false := by
  simp [dFits, h]
theorem nofit_head {c : Str × Bool} {cr : Cols} {d : PyData} {ds : List PyData} (h : dVal d = false) : dFits (c :: cr) (.tuple (d :: ds)) = false := by
  simp [dFits, dCells, dCell, h]
theorem sma_row {r : List Cv} (h : ∀ c, c ∈ r → dVal c.d = true) : smA (r.map Cv.d) = true := sm_row h
theorem sma_app {a b : List PyData} (h1 : smA a = true) (h2 : smA b = true) : smA (a ++ b) = true := by
  induction a with
  | nil => exact h2
  | cons d a ih =>
    simp only [smA, Bool.and_eq_true] at h1
    simp only [List.cons_append, smA, h1.1, ih h1.2, Bool.and_self]
theorem ne_of_lt9 (i : Int) (h : 0 < i % 9) : ∃ k : Nat, k < 8 ∧ i % 9 - 1 = (k : Int) := by
  have h2 := Int.emod_lt_of_pos i (by decide : (0 : Int) < 9)
  exact ⟨(i % 9 - 1).toNat, by omega, by omega⟩
theorem sc_law_row_of : FnScope ["_law_shape", "_law_cell", "_law_row", "_law_wrong"] ["_law_shape", "_law_cell"] (defScope s_law_row_of) := ⟨rfl, rfl, rfl, by decide +kernel, rfl, by decide +kernel, by decide +kernel⟩
theorem ok_law_row_of (T : Tx K mg) : Gd P w K mg base CX0 5 "_law_row_of" ["_law_shape", "_law_cell"] (fun vs H Q _ => ∃ (a : Addr) (i : Int) (n : Str) (cs : Cols), vs = [.ref a, .int i] ∧ Dp K H (.ref a) (shD n cs) ∧ cs.length ≤ 8 ∧ cs ≠ [] ∧
    ∀ v d H', Ex H H' → Dp K H' v d → sm d = true → dFits cs d = decide (i % 9 = 0) → Q v H') := by
  refine gd0 (f_law_row_of T) sc_law_row_of (fun _ _ _ _ _ _ us hl => match us, hl with | [_, _], _ => rfl) ?len (fun f cdv A outer s H vs Q E hr h => ⟨_, (pss_cons (ps_set (i := 2) sc_law_row_of.nd rfl (Or.inl rfl) (pe_g (ok_law_row_by T) hr (by decide) p0 (pa_cons (pv 0) (pa_cons (pe_op op_fdiv (pv 1) pe_int) pa_nil))))
      (pss_cons (ps_set (i := 3) sc_law_row_of.nd rfl (Or.inl rfl) (pe_lst (pa_cons pe_non (pa_cons (pe_callTy c_list_of (by rfl) (n_list T) b_list (pa_cons (pv 2) pa_nil)) (pa_cons (pe_op op_catA (pv 2) (pe_tup (pa_cons pe_non pa_nil))) (pa_cons (pe_slice sl_tupA (pv 2) po_none (po_some (pe_un un_neg pe_int))) (pa_cons (pe_op op_catA (pe_tup (pa_cons pe_bl pa_nil)) (pe_slice sl_tupA (pv 2) (po_some pe_int) po_none)) (pa_cons (pe_op op_catA (pe_tup (pa_cons (pe_op op_pow pe_int pe_int) pa_nil)) (pe_slice sl_tupA (pv 2) (po_some pe_int) po_none)) (pa_cons (pe_op op_catA (pe_tup (pa_cons pe_str pa_nil)) (pe_slice sl_tupA (pv 2) (po_some pe_int) po_none)) (pa_cons pe_int pa_nil))))))))))
      (pss_cons (ps_if (pt_cmpR op_gt (pe_op op_mod (pv 1) pe_int) pe_int (nomark _)) (pss_one (ps_ret (pe_ix ix_list (pv 3) (pe_op op_sub (pe_op op_mod (pv 1) pe_int) pe_int) (fun _ _ => rfl)))) pss_nil)
      (pss_one (ps_ret (pv 2)))))), ?_⟩)
  case len => rintro vs H Q E ⟨a, i, n, cs, rfl, _⟩; rfl
  obtain ⟨a, i, n, cs, rfl, hd, h8, hne, q⟩ := h
  walk_at "rd"
  refine ⟨⟨by decide, by decide⟩, ?_⟩
  refine ⟨a, _, n, cs, rfl, hd, h8, fun r row H1 ex1 dr fr => ?_⟩
  obtain ⟨r', er, sr⟩ := dp_row dr
  cases er
  have hrl := rowF fr
  obtain ⟨_, hvals⟩ := fits_row fr
  have hrne : row ≠ [] := fun e => by rw [e] at hrl; exact hne (List.length_eq_zero_iff.mp hrl.symm)
  walk_at "rd"
  refine ⟨r, _, rfl, .inr sr, fun l2 hl2 => ?_⟩
  have ex2 : Ex H1 (upd H1 l2 (.lst (row.map Cv.v))) := Ex.nw hl2
  have s2 : (upd H1 l2 (.lst (row.map Cv.v))) l2 = some (.lst (row.map Cv.v)) := upd_same
  revert ex2 s2
  generalize upd H1 l2 (.lst (row.map Cv.v)) = H2
  intro ex2 s2
  walk_at "rd"
  refine ⟨by show 1 ≤ sizeLine; decide, fun c3 hc3 => ?_⟩
  have ex3 : Ex H2 (upd H2 c3 (.tup [.non])) := Ex.nw hc3
  have sc3 : SqT K (upd H2 c3 (.tup [.non])) c3 [.non] := SqT.of upd_same
  revert ex3 sc3
  generalize upd H2 c3 (.tup [.non]) = H3
  intro ex3 sc3
  walk_at "rd"
  refine q_catT (ex3.t (ex2.t sr)) sc3 (by simp only [List.length_map, List.length_singleton]; exact Nat.le_trans (by omega : _ ≤ 9) (by decide)) fun r4 H4 ex4 s4 => ?_
  walk_at "rd"
  have ex14 := ex2.tr (ex3.tr ex4)
  refine q_slT (ex14.t sr) fun r5 H5 ex5 s5 => ?_
  rw [cutV_init (by simpa using hrne)] at s5
  walk_at "rd"
  refine ⟨by show 1 ≤ sizeLine; decide, fun c6 hc6 => ?_⟩
  have ex6 : Ex H5 (upd H5 c6 (.tup [.bl true])) := Ex.nw hc6
  have sc6 : SqT K (upd H5 c6 (.tup [.bl true])) c6 [.bl true] := SqT.of upd_same
  revert ex6 sc6
  generalize upd H5 c6 (.tup [.bl true]) = H6
  intro ex6 sc6
  walk_at "rd"
  have ex16 := ex14.tr (ex5.tr ex6)
  refine q_slT (ex16.t sr) fun r7 H7 ex7 s7 => ?_
  rw [show (some (1 : Int)) = some ((1 : Nat) : Int) from rfl, cutV_drop (by rw [List.length_map]; have := List.length_pos_iff.mpr hrne; omega)] at s7
  refine q_catT (ex7.t sc6) s7 (by simp only [List.length_drop, List.length_map, List.length_singleton]; exact Nat.le_trans (by omega : _ ≤ 9) (by decide)) fun r8 H8 ex8 s8 => ?_
  walk_at "rd"
  refine ⟨⟨by decide, by decide, by decide⟩, ?_⟩
  rw [show (10 : Int) ^ (18 : Int).toNat = 1000000000000000000 by decide]
  refine ⟨by show 1 ≤ sizeLine; decide, fun c9 hc9 => ?_⟩
  have ex9 : Ex H8 (upd H8 c9 (.tup [.int 1000000000000000000])) := Ex.nw hc9
  have sc9 : SqT K (upd H8 c9 (.tup [.int 1000000000000000000])) c9 [.int 1000000000000000000] := SqT.of upd_same
  revert ex9 sc9
  generalize upd H8 c9 (.tup [.int 1000000000000000000]) = H9
  intro ex9 sc9
  walk_at "rd"
  have ex18 := ex16.tr (ex7.tr ex8)
  have ex19 := ex18.tr ex9
  refine q_slT (ex19.t sr) fun r10 H10 ex10 s10 => ?_
  rw [show (some (1 : Int)) = some ((1 : Nat) : Int) from rfl, cutV_drop (by rw [List.length_map]; have := List.length_pos_iff.mpr hrne; omega)] at s10
  refine q_catT (ex10.t sc9) s10 (by simp only [List.length_drop, List.length_map, List.length_singleton]; exact Nat.le_trans (by omega : _ ≤ 9) (by decide)) fun r11 H11 ex11 s11 => ?_
  walk_at "rd"
  refine ⟨by show 1 ≤ sizeLine; decide, fun c12 hc12 => ?_⟩
  have ex12 : Ex H11 (upd H11 c12 (.tup [.str "\n"])) := Ex.nw hc12
  have sc12 : SqT K (upd H11 c12 (.tup [.str "\n"])) c12 [.str "\n"] := SqT.of upd_same
  revert ex12 sc12
  generalize upd H11 c12 (.tup [.str "\n"]) = H12
  intro ex12 sc12
  walk_at "rd"
  have ex1B := ex19.tr (ex10.tr ex11)
  have ex1C := ex1B.tr ex12
  refine q_slT (ex1C.t sr) fun r13 H13 ex13 s13 => ?_
  rw [show (some (1 : Int)) = some ((1 : Nat) : Int) from rfl, cutV_drop (by rw [List.length_map]; have := List.length_pos_iff.mpr hrne; omega)] at s13
  refine q_catT (ex13.t sc12) s13 (by simp only [List.length_drop, List.length_map, List.length_singleton]; exact Nat.le_trans (by omega : _ ≤ 9) (by decide)) fun r14 H14 ex14' s14 => ?_
  walk_at "rd"
  refine ⟨by show 8 ≤ sizeLine; decide, fun pw hpw => ?_⟩
  have ex15 : Ex H14 (upd H14 pw (.lst [.non, .ref l2, .ref r4, .ref r5, .ref r8, .ref r11, .ref r14, .int 5])) := Ex.nw hpw
  have spw : (upd H14 pw (.lst [.non, .ref l2, .ref r4, .ref r5, .ref r8, .ref r11, .ref r14, .int 5])) pw = some (.lst [.non, .ref l2, .ref r4, .ref r5, .ref r8, .ref r11, .ref r14, .int 5]) := upd_same
  revert ex15 spw
  generalize upd H14 pw (.lst [.non, .ref l2, .ref r4, .ref r5, .ref r8, .ref r11, .ref r14, .int 5]) = H15
  intro ex15 spw
  walk_at "rd"
  have e1F := ex1C.tr (ex13.tr (ex14'.tr ex15))
  have e4F : Ex H4 H15 := ex5.tr (ex6.tr (ex7.tr (ex8.tr (ex9.tr (ex10.tr (ex11.tr (ex12.tr (ex13.tr (ex14'.tr ex15)))))))))
  have e5F : Ex H5 H15 := ex6.tr (ex7.tr (ex8.tr (ex9.tr (ex10.tr (ex11.tr (ex12.tr (ex13.tr (ex14'.tr ex15))))))))
  have e8F : Ex H8 H15 := ex9.tr (ex10.tr (ex11.tr (ex12.tr (ex13.tr (ex14'.tr ex15)))))
  have eBF : Ex H11 H15 := ex12.tr (ex13.tr (ex14'.tr ex15))
  have eEF : Ex H14 H15 := ex15
  have e2F : Ex H2 H15 := ex3.tr (ex4.tr e4F)
  refine ⟨by decide, ?_⟩
  have h0 := Int.emod_nonneg i (by decide : (9 : Int) ≠ 0)
  obtain ⟨c, cr, hcs⟩ : ∃ c cr, cs = c :: cr := by
    cases cs with
    | nil => exact absurd rfl hne
    | cons c cr => exact ⟨c, cr, rfl⟩
  have drop_dp : ∀ H', DpAll K H' ((row.map Cv.v).drop 1) ((row.map Cv.d).drop 1) := fun H' => DpAll.drop 1 (dp_cells row)
  have smr := sma_row hvals
  have smd : smA ((row.map Cv.d).drop 1) = true := by
    cases row with
    | nil => rfl
    | cons c r =>
      simp only [List.map_cons, smA, Bool.and_eq_true] at smr
      exact smr.2
  have smt : ∀ k, smA ((row.map Cv.d).take k) = true := by
    have : ∀ (l : List PyData) (k : Nat), smA l = true → smA (l.take k) = true := fun l => by
      induction l with
      | nil => intro k _; cases k <;> rfl
      | cons d l ih =>
        intro k h
        cases k with
        | zero => rfl
        | succ k =>
          simp only [smA, Bool.and_eq_true] at h
          simp only [List.take_succ_cons, smA, h.1, ih k h.2, Bool.and_self]
    exact fun k => this _ k smr
  refine q_iteP (fun hpos => ?_) fun hz => ?_
  · obtain ⟨k, hk8, hk⟩ := ne_of_lt9 i hpos
    have hdz : decide (i % 9 = 0) = false := decide_eq_false (by omega)
    rw [hdz] at q
    refine ⟨by decide, ?_⟩
    rw [hk]
    have qq : ∀ v d, [V.non, .ref l2, .ref r4, .ref r5, .ref r8, .ref r11, .ref r14, .int 5][k]? = some v → Dp K H15 v d → sm d = true → dFits cs d = false → rIxL K (.ref pw) (.int (k : Int)) H15 Q := fun v d e1 e2 e3 e4 => q_ixL (SqL.of spw) (atI_nat e1) (q v d H15 (ex1.tr e1F) e2 e3 e4)
    have hk' : k = 0 ∨ k = 1 ∨ k = 2 ∨ k = 3 ∨ k = 4 ∨ k = 5 ∨ k = 6 ∨ k = 7 := by omega
    rcases hk' with z | z | z | z | z | z | z | z <;> subst z
    · exact qq _ .none rfl .non rfl rfl
    · exact qq _ (.list (row.map Cv.d)) rfl (.lst (SqL.of (e2F _ _ s2)) (dp_cells row)) smr rfl
    · refine qq _ (.tuple (row.map Cv.d ++ [.none])) rfl (.tup (e4F.t s4) (DpAll.app (dp_cells row) (.cons .non .nil))) (sma_app smr rfl) (nofit_len ?_)
      rw [List.length_append, List.length_map, hrl, List.length_singleton]
      omega
    · refine qq _ (.tuple ((row.map Cv.d).take ((row.map Cv.v).length - 1))) rfl (.tup (e5F.t s5) (DpAll.take _ (dp_cells row))) (smt _) (nofit_len ?_)
      rw [List.length_take, List.length_map, List.length_map, hrl]
      have := List.length_pos_iff.mpr hne
      omega
    · refine qq _ (.tuple (.bool true :: (row.map Cv.d).drop 1)) rfl (.tup (e8F.t s8) (.cons (.bl true) (drop_dp _))) (by simp only [sm, smA, Bool.true_and]; exact smd) ?_
      rw [hcs]
      exact nofit_head rfl
    · refine qq _ (.tuple (.int 1000000000000000000 :: (row.map Cv.d).drop 1)) rfl (.tup (eBF.t s11) (.cons (.int _) (drop_dp _))) (by simp only [sm, smA, Bool.true_and]; exact smd) ?_
      rw [hcs]
      exact nofit_head (by decide)
    · refine qq _ (.tuple (.str "\n" :: (row.map Cv.d).drop 1)) rfl (.tup (eEF.t s14) (.cons (.str _) (drop_dp _))) ?_ ?_
      · have h1 : sm (.str "\n") = true := by decide +kernel
        simp only [sm] at h1
        simp only [sm, smA, h1, Bool.true_and]
        exact smd
      · rw [hcs]
        exact nofit_head (by decide +kernel)
    · exact qq _ (.int 5) rfl (.int 5) rfl rfl
  · have hdz : decide (i % 9 = 0) = true := decide_eq_true (by omega)
    rw [hdz] at q
    exact q _ _ H15 (ex1.tr e1F) (Dp.ex e1F _ _ dr) (sm_row hvals) fr
end


section
variable {P : Program} {w : World} {K : PySem.W.Frag} {mg : Str → Option Value} {base : Heap}
theorem at_cells {ns : List Int} (h : ns.length = 10) {k : Nat} (hk : k < 10) : atI (ns.map V.int) (k : Int) = some (.int (ns[k]!)) := by
  refine atI_nat ?_
  rw [List.getElem?_map, List.getElem?_eq_getElem (by omega)]
  simp [getElem!_pos, h, hk]
theorem pick (i : Int) (m : Nat) (h : 0 < m) : ∃ k : Nat, k < m ∧ i % (m : Int) = (k : Int) := by
  have a1 := Int.emod_nonneg i (by omega : (m : Int) ≠ 0)
  have a2 := Int.emod_lt_of_pos i (by omega : (0 : Int) < (m : Int))
  exact ⟨(i % (m : Int)).toNat, by omega, by omega⟩
theorem sh_as {n m : Str} {cs : Cols} (h : ShOk n cs) (hm : dName (.str m) = true) : ShOk m cs := by
  have h1 := h.shp
  have h2 := h.sms
  refine ⟨?_, ?_, h.ne⟩
  · simp only [shD, dShape, Bool.and_eq_true] at h1 ⊢
    exact ⟨⟨hm, h1.1.2⟩, h1.2⟩
  · have h3 := name_sm hm
    simp only [sm] at h3
    simp only [shD, sm, smA, Bool.and_eq_true] at h2 ⊢
    exact ⟨h3, h2.2⟩
theorem colIx_none {s : Str} : ∀ {cs : Cols} {i : Nat}, (∀ c, c ∈ cs → c.1 ≠ s) → colIx s i cs = none
  | [], _, _ => rfl
  | c :: cs, i, h => by
    rw [colIx, if_neg (h c (List.mem_cons_self ..))]
    exact colIx_none fun d hd => h d (List.mem_cons_of_mem _ hd)
theorem fcol_mem {cs : Cols} (h : cs ≠ []) : ∃ c, c ∈ cs ∧ fcol cs = c.1 := by
  cases cs with
  | nil => exact absurd rfl h
  | cons c cr => exact ⟨c, List.mem_cons_self .., rfl⟩
/-- what the given things are -/
def Giv (K : PySem.W.Frag) (H : Hp) (n : Str) (cs : Cols) (xs xt xc xn xr : V) (gs gt gc gn gr th : Bool) : Prop := ∃ ds dt dc dn dr, (Dp K H xs ds ∧ Dp K H xt dt ∧ Dp K H xc dc ∧ Dp K H xn dn ∧ Dp K H xr dr) ∧ (sm ds = true ∧ sm dt = true ∧ sm dc = true ∧ sm dn = true ∧ sm dr = true) ∧
  (gs = true → ∃ n', ds = shD n' cs ∧ dShape ds = true ∧ th = decide (n' = n)) ∧ (gs = false → dShape ds = false) ∧ (gt = true → dt = .str n) ∧ (gt = false → tIn n dt = false) ∧ (gc = true → dc = .str (fcol cs)) ∧ (gc = false → colK cs dc = false) ∧
  (gn = true → ∃ i, 1 ≤ i ∧ i ≤ 3 ∧ dn = .int i) ∧ (gn = false → ∀ i, dn = .int i → i < 1 ∨ 3 < i) ∧ dFits cs dr = gr
theorem p_num (a b c d : V) : putK ([(.inr "shape", a), (.inr "table", b), (.inr "column", c)] : List (Key × V)) (.inr "number") d = [(.inr "shape", a), (.inr "table", b), (.inr "column", c), (.inr "number", d)] :=
  putK_new _ (val_no (by
    show (.inr "number" : Key) ∉ ([.inr "shape", .inr "table", .inr "column"] : List Key)
    intro h
    simp only [List.mem_cons, List.not_mem_nil, or_false] at h
    rcases h with h | h | h <;> exact absurd h (by decide +kernel)))
theorem p_row (a b c d e : V) : putK ([(.inr "shape", a), (.inr "table", b), (.inr "column", c), (.inr "number", d)] : List (Key × V)) (.inr "row") e = gvD a b c d e :=
  putK_new _ (val_no (by
    show (.inr "row" : Key) ∉ ([.inr "shape", .inr "table", .inr "column", .inr "number"] : List Key)
    intro h
    simp only [List.mem_cons, List.not_mem_nil, or_false] at h
    rcases h with h | h | h | h <;> exact absurd h (by decide +kernel)))
theorem kd4 : (([.inr "shape", .inr "table", .inr "column"] : List Key)).Nodup := by decide +kernel
theorem kd5 : (([.inr "shape", .inr "table", .inr "column", .inr "number"] : List Key)).Nodup := by decide +kernel
theorem nm_A {n : Str} (h : dName (.str n) = true) : n ≠ "A" := fun e => by
  rw [e] at h
  revert h
  decide +kernel
theorem sc_law_given : FnScope ["_law_shape", "_law_cells", "_law_name", "_law_shapes", "_law_tables", "_law_columns", "_law_numbers", "_law_picks", "_law_given_here", "_law_good"] ["_law_shape", "_law_cells"] (defScope s_law_given) := ⟨rfl, rfl, rfl, by decide +kernel, rfl, by decide +kernel, by decide +kernel⟩
theorem ok_law_given (T : Tx K mg) : Gd P w K mg base CX0 6 "_law_given" ["_law_shape", "_law_cells"] (fun vs H Q _ => ∃ (a cl : Addr) (n : Str) (cs : Cols) (ns : List Int), vs = [.ref a, .ref cl] ∧ Dp K H (.ref a) (shD n cs) ∧ ShOk n cs ∧ LenC cs ∧ cs.length ≤ 8 ∧ SqL K H cl (ns.map V.int) ∧ ns.length = 10 ∧ ∀ p g f xs xt xc xn xr gs gt gc gn gr th H', Ex H H' → SqT K H' p [.ref g, .ref f, .bl th] → H' g = some (.dK (gvD xs xt xc xn xr)) → H' f = some (.dK (flD gs gt gc gn gr)) → Giv K H' n cs xs xt xc xn xr gs gt gc gn gr th → Q (.ref p) H') := by
  refine gd0 (f_law_given T) sc_law_given (fun _ _ _ _ _ _ us hl => match us, hl with | [_, _], _ => rfl) ?len (fun f cdv A outer s H vs Q E hr h => ⟨_, (pss_cons (ps_set (i := 2) sc_law_given.nd rfl (Or.inl rfl) (pe_ix ix_tup (pv 0) pe_int (fun _ _ => rfl)))
      (pss_cons (ps_set (i := 3) sc_law_given.nd rfl (Or.inl rfl) (pe_lst (pa_cons (pe_tup (pa_cons (pe_g (ok_law_twin T) hr (by decide) p0 (pa_cons (pv 2) (pa_cons (pe_ix ix_list (pv 1) pe_int (fun _ _ => rfl)) pa_nil))) (pa_cons (pe_ix ix_tup (pv 0) pe_int (fun _ _ => rfl)) pa_nil))) (pa_cons (pv 0) (pa_cons (pe_tup (pa_cons (pv 2) (pa_cons (pe_tup pa_nil) pa_nil))) (pa_cons (pe_tup (pa_cons (pv 2) (pa_cons (pe_callTy c_list_of (by rfl) (n_list T) b_list (pa_cons (pe_ix ix_tup (pv 0) pe_int (fun _ _ => rfl)) pa_nil)) pa_nil))) (pa_cons (pe_tup (pa_cons pe_int (pa_cons (pe_ix ix_tup (pv 0) pe_int (fun _ _ => rfl)) pa_nil))) (pa_cons pe_non pa_nil))))))))
      (pss_cons (ps_set (i := 4) sc_law_given.nd rfl (Or.inl rfl) (pe_lst (pa_cons (pv 2) (pa_cons (pv 2) (pa_cons (pv 2) (pa_cons (pe_g (ok_law_twin T) hr (by decide) p0 (pa_cons (pv 2) (pa_cons (pe_ix ix_list (pv 1) pe_int (fun _ _ => rfl)) pa_nil))) (pa_cons pe_non (pa_cons pe_int (pa_cons (pe_lst (pa_cons (pv 2) pa_nil)) (pa_cons pe_str pa_nil))))))))))
      (pss_cons (ps_set (i := 5) sc_law_given.nd rfl (Or.inl rfl) (pe_lst (pa_cons (pe_ix ix_tup (pe_ix ix_tup (pe_ix ix_tup (pv 0) pe_int (fun _ _ => rfl)) pe_int (fun _ _ => rfl)) pe_int (fun _ _ => rfl)) (pa_cons (pe_ix ix_tup (pe_ix ix_tup (pe_ix ix_tup (pv 0) pe_int (fun _ _ => rfl)) pe_int (fun _ _ => rfl)) pe_int (fun _ _ => rfl)) (pa_cons (pe_op o_add_str (pe_ix ix_tup (pe_ix ix_tup (pe_ix ix_tup (pv 0) pe_int (fun _ _ => rfl)) pe_int (fun _ _ => rfl)) pe_int (fun _ _ => rfl)) pe_str) (pa_cons pe_non (pa_cons pe_int (pa_cons (pe_lst (pa_cons (pe_ix ix_tup (pe_ix ix_tup (pe_ix ix_tup (pv 0) pe_int (fun _ _ => rfl)) pe_int (fun _ _ => rfl)) pe_int (fun _ _ => rfl)) pa_nil)) pa_nil))))))))
      (pss_cons (ps_set (i := 6) sc_law_given.nd rfl (Or.inl rfl) (pe_lst (pa_cons pe_int (pa_cons pe_int (pa_cons pe_int (pa_cons pe_int (pa_cons pe_int (pa_cons (pe_un un_neg pe_int) (pa_cons pe_bl (pa_cons pe_non (pa_cons pe_str (pa_cons (pe_op op_pow pe_int pe_int) (pa_cons (pe_lst (pa_cons pe_int pa_nil)) pa_nil)))))))))))))
      (pss_cons (ps_set (i := 7) sc_law_given.nd rfl (Or.inl rfl) (pe_lst (pa_cons (pe_op op_mod (pe_ix ix_list (pv 1) pe_int (fun _ _ => rfl)) pe_int) (pa_cons (pe_op op_mod (pe_ix ix_list (pv 1) pe_int (fun _ _ => rfl)) pe_int) (pa_cons (pe_op op_mod (pe_ix ix_list (pv 1) pe_int (fun _ _ => rfl)) pe_int) (pa_cons (pe_op op_mod (pe_ix ix_list (pv 1) pe_int (fun _ _ => rfl)) pe_int) pa_nil))))))
      (pss_cons (ps_set (i := 8) sc_law_given.nd rfl (Or.inl rfl) (pe_disp (pps_cons pe_str (pe_ix ix_list (pv 3) (pe_ix ix_list (pv 7) pe_int (fun _ _ => rfl)) (fun _ _ => rfl)) (pps_cons pe_str (pe_ix ix_list (pv 4) (pe_ix ix_list (pv 7) pe_int (fun _ _ => rfl)) (fun _ _ => rfl)) (pps_cons pe_str (pe_ix ix_list (pv 5) (pe_ix ix_list (pv 7) pe_int (fun _ _ => rfl)) (fun _ _ => rfl)) pps_nil))) (by rfl) (by rfl) (fun z => by cases z) (by decide)))
      (pss_cons (ps_dput (hu_of hr) (pv 8) pe_str (pe_ix ix_list (pv 6) (pe_ix ix_list (pv 7) pe_int (fun _ _ => rfl)) (fun _ _ => rfl)) rfl)
      (pss_cons (ps_dput (hu_of hr) (pv 8) pe_str (pe_g (ok_law_row_of T) hr (by decide) p0 (pa_cons (pv 0) (pa_cons (pe_ix ix_list (pv 1) pe_int (fun _ _ => rfl)) pa_nil))) rfl)
      (pss_cons (ps_set (i := 9) sc_law_given.nd rfl (Or.inl rfl) (pe_disp (pps_cons pe_str (pe_cmpR op_lt (pe_ix ix_list (pv 7) pe_int (fun _ _ => rfl)) pe_int (nomark _)) (pps_cons pe_str (pe_cmpR op_lt (pe_ix ix_list (pv 7) pe_int (fun _ _ => rfl)) pe_int (nomark _)) (pps_cons pe_str (pe_cmpR op_lt (pe_ix ix_list (pv 7) pe_int (fun _ _ => rfl)) pe_int (nomark _)) (pps_cons pe_str (pe_cmpR op_lt (pe_ix ix_list (pv 7) pe_int (fun _ _ => rfl)) pe_int (nomark _)) pps_nil)))) (by rfl) (by rfl) (fun z => by cases z) (by decide)))
      (pss_cons (ps_dput (hu_of hr) (pv 9) pe_str (pe_cmpR op_eq (pe_op op_mod (pe_ix ix_list (pv 1) pe_int (fun _ _ => rfl)) pe_int) pe_int (nomark _)) rfl)
      (pss_one (ps_ret (pe_tup (pa_cons (pv 8) (pa_cons (pv 9) (pa_cons (pe_cmpR op_eq (pe_ix ix_list (pv 7) pe_int (fun _ _ => rfl)) pe_int (nomark _)) pa_nil))))))))))))))))), ?_⟩)
  case len => rintro vs H Q E ⟨a, cl, n, cs, ns, rfl, _⟩; rfl
  obtain ⟨a, cl, n, cs, ns, rfl, hd, hsh, hLen, h8, hcl, hl, q⟩ := h
  obtain ⟨ca, ys, h1, h2, h3⟩ := dp_shape hd
  have hnm := hsh.nm
  obtain ⟨c0, cr, hcs⟩ : ∃ c cr, cs = c :: cr := by
    cases hc : cs with
    | nil => exact absurd hc hsh.ne
    | cons c cr => exact ⟨c, cr, rfl⟩
  obtain ⟨y0, hy0, dy0⟩ := DpAll.at_ h3 (i := 0) (d := colD c0) (by rw [hcs]; rfl)
  obtain ⟨yb, rfl, hyb⟩ := dp_col dy0
  have hfc : c0.1 = fcol cs := by rw [hcs]; rfl
  rw [hfc] at hyb
  have lenq : (fcol cs).length + (Str.ofString "q").length ≤ sizeLine := by
    have z := (dname_is (fcol_nm hsh)).2.1
    rw [len_cps]
    exact short (by show _ + 1 ≤ 100; omega)
  obtain ⟨k0, hk0b, hk0⟩ := pick (ns[2]!) 6 (by decide)
  replace hk0 : ns[2]! % 6 = (k0 : Int) := hk0
  obtain ⟨k1, hk1b, hk1⟩ := pick (ns[3]!) 8 (by decide)
  replace hk1 : ns[3]! % 8 = (k1 : Int) := hk1
  obtain ⟨k2, hk2b, hk2⟩ := pick (ns[4]!) 6 (by decide)
  replace hk2 : ns[4]! % 6 = (k2 : Int) := hk2
  obtain ⟨k3, hk3b, hk3⟩ := pick (ns[5]!) 11 (by decide)
  replace hk3 : ns[5]! % 11 = (k3 : Int) := hk3
  walk_at "rd"
  refine q_ixT h1 at0 ?_
  walk_at "rd"
  refine q_ixL hcl (at_cells hl (k := 0) (by decide)) ?_
  walk_at "rd"
  refine ⟨n, ns[0]!, rfl, hnm, fun tw H1 ex1 htw htn => ?_⟩
  have g1 : Ex H H1 := ex1
  walk_at "rd"
  refine q_ixT (g1.t h1) at1 ?_
  walk_at "rd"
  refine ⟨by show 2 ≤ sizeLine; decide, fun t0 ht0 => ?_⟩
  have ex2 : Ex H1 (upd H1 t0 (.tup [.str tw, .ref ca])) := Ex.nw ht0
  have st0 : SqT K (upd H1 t0 (.tup [.str tw, .ref ca])) t0 [.str tw, .ref ca] := SqT.of upd_same
  revert ex2 st0
  generalize (upd H1 t0 (.tup [.str tw, .ref ca])) = H2
  intro ex2 st0
  have g2 : Ex H H2 := g1.tr ex2
  walk_at "rd"
  refine ⟨by show 0 ≤ sizeLine; decide, fun u2 hu2 => ?_⟩
  have ex3 : Ex H2 (upd H2 u2 (.tup [])) := Ex.nw hu2
  have su2 : SqT K (upd H2 u2 (.tup [])) u2 [] := SqT.of upd_same
  revert ex3 su2
  generalize (upd H2 u2 (.tup [])) = H3
  intro ex3 su2
  have g3 : Ex H H3 := g2.tr ex3
  walk_at "rd"
  refine ⟨by show 2 ≤ sizeLine; decide, fun t2 ht2 => ?_⟩
  have ex4 : Ex H3 (upd H3 t2 (.tup [.str n, .ref u2])) := Ex.nw ht2
  have st2 : SqT K (upd H3 t2 (.tup [.str n, .ref u2])) t2 [.str n, .ref u2] := SqT.of upd_same
  revert ex4 st2
  generalize (upd H3 t2 (.tup [.str n, .ref u2])) = H4
  intro ex4 st2
  have g4 : Ex H H4 := g3.tr ex4
  walk_at "rd"
  refine q_ixT (g4.t h1) at1 ?_
  walk_at "rd"
  refine ⟨ca, ys, rfl, .inr (g4.t h2), fun l3 hl3 => ?_⟩
  have ex5 : Ex H4 (upd H4 l3 (.lst ys)) := Ex.nw hl3
  have sl3 : (upd H4 l3 (.lst ys)) l3 = some (.lst ys) := upd_same
  revert ex5 sl3
  generalize upd H4 l3 (.lst ys) = H5
  intro ex5 sl3
  have g5 : Ex H H5 := g4.tr ex5
  walk_at "rd"
  refine ⟨by show 2 ≤ sizeLine; decide, fun t3 ht3 => ?_⟩
  have ex6 : Ex H5 (upd H5 t3 (.tup [.str n, .ref l3])) := Ex.nw ht3
  have st3 : SqT K (upd H5 t3 (.tup [.str n, .ref l3])) t3 [.str n, .ref l3] := SqT.of upd_same
  revert ex6 st3
  generalize (upd H5 t3 (.tup [.str n, .ref l3])) = H6
  intro ex6 st3
  have g6 : Ex H H6 := g5.tr ex6
  walk_at "rd"
  refine q_ixT (g6.t h1) at1 ?_
  walk_at "rd"
  refine ⟨by show 2 ≤ sizeLine; decide, fun t4 ht4 => ?_⟩
  have ex7 : Ex H6 (upd H6 t4 (.tup [.int 1, .ref ca])) := Ex.nw ht4
  have st4 : SqT K (upd H6 t4 (.tup [.int 1, .ref ca])) t4 [.int 1, .ref ca] := SqT.of upd_same
  revert ex7 st4
  generalize (upd H6 t4 (.tup [.int 1, .ref ca])) = H7
  intro ex7 st4
  have g7 : Ex H H7 := g6.tr ex7
  walk_at "rd"
  refine ⟨by show 6 ≤ sizeLine; decide, fun ls hls => ?_⟩
  have ex8 : Ex H7 (upd H7 ls (.lst [.ref t0, .ref a, .ref t2, .ref t3, .ref t4, .non])) := Ex.nw hls
  have sls : (upd H7 ls (.lst [.ref t0, .ref a, .ref t2, .ref t3, .ref t4, .non])) ls = some (.lst [.ref t0, .ref a, .ref t2, .ref t3, .ref t4, .non]) := upd_same
  revert ex8 sls
  generalize (upd H7 ls (.lst [.ref t0, .ref a, .ref t2, .ref t3, .ref t4, .non])) = H8
  intro ex8 sls
  have g8 : Ex H H8 := g7.tr ex8
  walk_at "rd"
  refine q_ixL (g8.l hcl) (at_cells hl (k := 1) (by decide)) ?_
  walk_at "rd"
  refine ⟨n, ns[1]!, rfl, hnm, fun tw2 H9 ex9 htw2 htn2 => ?_⟩
  have g9 : Ex H H9 := g8.tr ex9
  walk_at "rd"
  refine ⟨by show 1 ≤ sizeLine; decide, fun l6 hl6 => ?_⟩
  have ex10 : Ex H9 (upd H9 l6 (.lst [.str n])) := Ex.nw hl6
  have sl6 : (upd H9 l6 (.lst [.str n])) l6 = some (.lst [.str n]) := upd_same
  revert ex10 sl6
  generalize (upd H9 l6 (.lst [.str n])) = H10
  intro ex10 sl6
  have g10 : Ex H H10 := g9.tr ex10
  walk_at "rd"
  refine ⟨by show 8 ≤ sizeLine; decide, fun lt hlt => ?_⟩
  have ex11 : Ex H10 (upd H10 lt (.lst [.str n, .str n, .str n, .str tw2, .non, .int 5, .ref l6, .str "A"])) := Ex.nw hlt
  have slt : (upd H10 lt (.lst [.str n, .str n, .str n, .str tw2, .non, .int 5, .ref l6, .str "A"])) lt = some (.lst [.str n, .str n, .str n, .str tw2, .non, .int 5, .ref l6, .str "A"]) := upd_same
  revert ex11 slt
  generalize (upd H10 lt (.lst [.str n, .str n, .str n, .str tw2, .non, .int 5, .ref l6, .str "A"])) = H11
  intro ex11 slt
  have g11 : Ex H H11 := g10.tr ex11
  walk_at "rd"
  refine q_ixT (g11.t h1) at1 ?_
  walk_at "rd"
  refine q_ixT (g11.t h2) (atI_nat (j := 0) hy0) ?_
  walk_at "rd"
  refine q_ixT (g11.t hyb) at0 ?_
  walk_at "rd"
  refine q_ixT (g11.t h1) at1 ?_
  walk_at "rd"
  refine q_ixT (g11.t h2) (atI_nat (j := 0) hy0) ?_
  walk_at "rd"
  refine q_ixT (g11.t hyb) at0 ?_
  walk_at "rd"
  refine q_ixT (g11.t h1) at1 ?_
  walk_at "rd"
  refine q_ixT (g11.t h2) (atI_nat (j := 0) hy0) ?_
  walk_at "rd"
  refine q_ixT (g11.t hyb) at0 ?_
  walk_at "rd"
  refine ⟨lenq, ?_⟩
  walk_at "rd"
  refine q_ixT (g11.t h1) at1 ?_
  walk_at "rd"
  refine q_ixT (g11.t h2) (atI_nat (j := 0) hy0) ?_
  walk_at "rd"
  refine q_ixT (g11.t hyb) at0 ?_
  walk_at "rd"
  refine ⟨by show 1 ≤ sizeLine; decide, fun lq hlq => ?_⟩
  have ex12 : Ex H11 (upd H11 lq (.lst [.str (fcol cs)])) := Ex.nw hlq
  have slq : (upd H11 lq (.lst [.str (fcol cs)])) lq = some (.lst [.str (fcol cs)]) := upd_same
  revert ex12 slq
  generalize (upd H11 lq (.lst [.str (fcol cs)])) = H12
  intro ex12 slq
  have g12 : Ex H H12 := g11.tr ex12
  walk_at "rd"
  refine ⟨by show 6 ≤ sizeLine; decide, fun lc hlc => ?_⟩
  have ex13 : Ex H12 (upd H12 lc (.lst [.str (fcol cs), .str (fcol cs), .str (fcol cs ++ "q"), .non, .int 7, .ref lq])) := Ex.nw hlc
  have slc : (upd H12 lc (.lst [.str (fcol cs), .str (fcol cs), .str (fcol cs ++ "q"), .non, .int 7, .ref lq])) lc = some (.lst [.str (fcol cs), .str (fcol cs), .str (fcol cs ++ "q"), .non, .int 7, .ref lq]) := upd_same
  revert ex13 slc
  generalize (upd H12 lc (.lst [.str (fcol cs), .str (fcol cs), .str (fcol cs ++ "q"), .non, .int 7, .ref lq])) = H13
  intro ex13 slc
  have g13 : Ex H H13 := g12.tr ex13
  walk_at "rd"
  refine ⟨⟨by decide, by decide, by decide⟩, ?_⟩
  rw [show (10 : Int) ^ (9 : Int).toNat = 1000000000 by decide]
  refine ⟨by show 1 ≤ sizeLine; decide, fun l10 hl10 => ?_⟩
  have ex14 : Ex H13 (upd H13 l10 (.lst [.int 1])) := Ex.nw hl10
  have sl10 : (upd H13 l10 (.lst [.int 1])) l10 = some (.lst [.int 1]) := upd_same
  revert ex14 sl10
  generalize (upd H13 l10 (.lst [.int 1])) = H14
  intro ex14 sl10
  have g14 : Ex H H14 := g13.tr ex14
  walk_at "rd"
  refine ⟨by show 11 ≤ sizeLine; decide, fun ln hln => ?_⟩
  have ex15 : Ex H14 (upd H14 ln (.lst [.int 1, .int 2, .int 3, .int 4, .int 0, .int (-1), .bl true, .non, .str "1", .int 1000000000, .ref l10])) := Ex.nw hln
  have sln : (upd H14 ln (.lst [.int 1, .int 2, .int 3, .int 4, .int 0, .int (-1), .bl true, .non, .str "1", .int 1000000000, .ref l10])) ln = some (.lst [.int 1, .int 2, .int 3, .int 4, .int 0, .int (-1), .bl true, .non, .str "1", .int 1000000000, .ref l10]) := upd_same
  revert ex15 sln
  generalize (upd H14 ln (.lst [.int 1, .int 2, .int 3, .int 4, .int 0, .int (-1), .bl true, .non, .str "1", .int 1000000000, .ref l10])) = H15
  intro ex15 sln
  have g15 : Ex H H15 := g14.tr ex15
  walk_at "rd"
  refine q_ixL (g15.l hcl) (at_cells hl (k := 2) (by decide)) ?_
  walk_at "rd"
  refine ⟨by decide, ?_⟩
  refine q_ixL (g15.l hcl) (at_cells hl (k := 3) (by decide)) ?_
  walk_at "rd"
  refine ⟨by decide, ?_⟩
  refine q_ixL (g15.l hcl) (at_cells hl (k := 4) (by decide)) ?_
  walk_at "rd"
  refine ⟨by decide, ?_⟩
  refine q_ixL (g15.l hcl) (at_cells hl (k := 5) (by decide)) ?_
  walk_at "rd"
  refine ⟨by decide, ?_⟩
  refine ⟨by show 4 ≤ sizeLine; decide, fun lp hlp => ?_⟩
  have ex16 : Ex H15 (upd H15 lp (.lst [.int (ns[2]! % 6), .int (ns[3]! % 8), .int (ns[4]! % 6), .int (ns[5]! % 11)])) := Ex.nw hlp
  have slp : (upd H15 lp (.lst [.int (ns[2]! % 6), .int (ns[3]! % 8), .int (ns[4]! % 6), .int (ns[5]! % 11)])) lp = some (.lst [.int (ns[2]! % 6), .int (ns[3]! % 8), .int (ns[4]! % 6), .int (ns[5]! % 11)]) := upd_same
  revert ex16 slp
  generalize (upd H15 lp (.lst [.int (ns[2]! % 6), .int (ns[3]! % 8), .int (ns[4]! % 6), .int (ns[5]! % 11)])) = H16
  intro ex16 slp
  have g16 : Ex H H16 := g15.tr ex16
  walk_at "rd"
  rw [hk0, hk1, hk2, hk3] at slp
  have e_a0 : Ex H2 H16 := ((((((((((((((ex3).tr ex4).tr ex5).tr ex6).tr ex7).tr ex8).tr ex9).tr ex10).tr ex11).tr ex12).tr ex13).tr ex14).tr ex15).tr ex16)
  have e_a2a : Ex H3 H16 := (((((((((((((ex4).tr ex5).tr ex6).tr ex7).tr ex8).tr ex9).tr ex10).tr ex11).tr ex12).tr ex13).tr ex14).tr ex15).tr ex16)
  have e_a2 : Ex H4 H16 := ((((((((((((ex5).tr ex6).tr ex7).tr ex8).tr ex9).tr ex10).tr ex11).tr ex12).tr ex13).tr ex14).tr ex15).tr ex16)
  have e_a3l : Ex H5 H16 := (((((((((((ex6).tr ex7).tr ex8).tr ex9).tr ex10).tr ex11).tr ex12).tr ex13).tr ex14).tr ex15).tr ex16)
  have e_a3 : Ex H6 H16 := ((((((((((ex7).tr ex8).tr ex9).tr ex10).tr ex11).tr ex12).tr ex13).tr ex14).tr ex15).tr ex16)
  have e_a4 : Ex H7 H16 := (((((((((ex8).tr ex9).tr ex10).tr ex11).tr ex12).tr ex13).tr ex14).tr ex15).tr ex16)
  have e_als : Ex H8 H16 := ((((((((ex9).tr ex10).tr ex11).tr ex12).tr ex13).tr ex14).tr ex15).tr ex16)
  have e_atn : Ex H10 H16 := ((((((ex11).tr ex12).tr ex13).tr ex14).tr ex15).tr ex16)
  have e_alt : Ex H11 H16 := (((((ex12).tr ex13).tr ex14).tr ex15).tr ex16)
  have e_acn : Ex H12 H16 := ((((ex13).tr ex14).tr ex15).tr ex16)
  have e_alc : Ex H13 H16 := (((ex14).tr ex15).tr ex16)
  have e_an1 : Ex H14 H16 := ((ex15).tr ex16)
  have e_aln : Ex H15 H16 := (ex16)
  have e_alp : Ex H16 H16 := (exr _)
  have hd16 := Dp.ex g16 _ _ hd
  have hsub : Dp K H16 (.ref ca) (.tuple (cs.map colD)) := .tup (g16.t h2) (DpAll.ex g16 _ _ h3)
  have smc : smA (cs.map colD) = true := by
    have z := hsh.sms
    simp only [shD, sm, smA, Bool.and_eq_true] at z
    exact z.2.1
  have smn : sm (.str n) = true := name_sm hnm
  have PS : ∃ xs ds, [V.ref t0, .ref a, .ref t2, .ref t3, .ref t4, .non][k0]? = some xs ∧ Dp K H16 xs ds ∧ sm ds = true ∧ (decide ((k0 : Int) < 2) = true → ∃ n', ds = shD n' cs ∧ dShape ds = true ∧ decide ((k0 : Int) = 1) = decide (n' = n)) ∧ (decide ((k0 : Int) < 2) = false → dShape ds = false) := by
    have hk' : k0 = 0 ∨ k0 = 1 ∨ k0 = 2 ∨ k0 = 3 ∨ k0 = 4 ∨ k0 = 5 := by omega
    rcases hk' with z | z | z | z | z | z <;> subst z
    · have hw := sh_as hsh htw
      refine ⟨_, shD tw cs, rfl, .tup (e_a0.t st0) (.cons (.str _) (.cons hsub .nil)), hw.sms, fun _ => ⟨tw, rfl, hw.shp, ?_⟩, fun z => by simp at z⟩
      rw [decide_eq_false htn]
      rfl
    · refine ⟨_, shD n cs, rfl, hd16, hsh.sms, fun _ => ⟨n, rfl, hsh.shp, ?_⟩, fun z => by simp at z⟩
      simp
    · refine ⟨_, .tuple [.str n, .tuple []], rfl, .tup (e_a2.t st2) (.cons (.str _) (.cons (.tup (e_a2a.t su2) .nil) .nil)), ?_, fun z => by simp at z, fun _ => ?_⟩
      · simp only [sm] at smn
        simp only [sm, smA, smn, Bool.and_self]
      · simp [dShape]
    · refine ⟨_, .tuple [.str n, .list (cs.map colD)], rfl, .tup (e_a3.t st3) (.cons (.str _) (.cons (.lst (SqL.of (e_a3l _ _ sl3)) (DpAll.ex g16 _ _ h3)) .nil)), ?_, fun z => by simp at z, fun _ => rfl⟩
      simp only [sm] at smn
      simp only [sm, smA, smn, smc, Bool.and_self]
    · refine ⟨_, .tuple [.int 1, .tuple (cs.map colD)], rfl, .tup (e_a4.t st4) (.cons (.int _) (.cons hsub .nil)), ?_, fun z => by simp at z, fun _ => ?_⟩
      · simp only [sm, smA, smc, Bool.and_self]
      · simp [dShape, dName]
    · exact ⟨_, .none, rfl, .non, rfl, fun z => by simp at z, fun _ => rfl⟩
  have PT : ∃ xt dt, [V.str n, .str n, .str n, .str tw2, .non, .int 5, .ref l6, .str "A"][k1]? = some xt ∧ Dp K H16 xt dt ∧ sm dt = true ∧ (decide ((k1 : Int) < 3) = true → dt = .str n) ∧ (decide ((k1 : Int) < 3) = false → tIn n dt = false) := by
    have hk' : k1 = 0 ∨ k1 = 1 ∨ k1 = 2 ∨ k1 = 3 ∨ k1 = 4 ∨ k1 = 5 ∨ k1 = 6 ∨ k1 = 7 := by omega
    rcases hk' with z | z | z | z | z | z | z | z <;> subst z
    · exact ⟨_, .str n, rfl, .str _, smn, fun _ => rfl, fun z => by simp at z⟩
    · exact ⟨_, .str n, rfl, .str _, smn, fun _ => rfl, fun z => by simp at z⟩
    · exact ⟨_, .str n, rfl, .str _, smn, fun _ => rfl, fun z => by simp at z⟩
    · exact ⟨_, .str tw2, rfl, .str _, name_sm htw2, fun z => by simp at z, fun _ => decide_eq_false htn2⟩
    · exact ⟨_, .none, rfl, .non, rfl, fun z => by simp at z, fun _ => rfl⟩
    · exact ⟨_, .int 5, rfl, .int 5, rfl, fun z => by simp at z, fun _ => rfl⟩
    · refine ⟨_, .list [.str n], rfl, .lst (SqL.of (e_atn _ _ sl6)) (.cons (.str _) .nil), ?_, fun z => by simp at z, fun _ => rfl⟩
      simp only [sm] at smn
      simp only [sm, smA, smn, Bool.and_self]
    · exact ⟨_, .str "A", rfl, .str _, by decide +kernel, fun z => by simp at z, fun _ => decide_eq_false (Ne.symm (nm_A hnm))⟩
  have smf : sm (.str (fcol cs)) = true := name_sm (fcol_nm hsh)
  have PC : ∃ xc dc, [V.str (fcol cs), .str (fcol cs), .str (fcol cs ++ "q"), .non, .int 7, .ref lq][k2]? = some xc ∧ Dp K H16 xc dc ∧ sm dc = true ∧ (decide ((k2 : Int) < 2) = true → dc = .str (fcol cs)) ∧ (decide ((k2 : Int) < 2) = false → colK cs dc = false) := by
    have hk' : k2 = 0 ∨ k2 = 1 ∨ k2 = 2 ∨ k2 = 3 ∨ k2 = 4 ∨ k2 = 5 := by omega
    rcases hk' with z | z | z | z | z | z <;> subst z
    · exact ⟨_, .str (fcol cs), rfl, .str _, smf, fun _ => rfl, fun z => by simp at z⟩
    · exact ⟨_, .str (fcol cs), rfl, .str _, smf, fun _ => rfl, fun z => by simp at z⟩
    · obtain ⟨L, hL, hLc⟩ := hLen
      obtain ⟨c, hc, hce⟩ := fcol_mem hsh.ne
      have hfl : (fcol cs).cps.toList.length = L := by rw [hce]; exact hLc c hc
      have hql : (fcol cs ++ ("q" : Str)).cps.toList.length = L + 1 := by rw [cps_app, List.length_append, hfl]; rfl
      refine ⟨_, .str (fcol cs ++ "q"), rfl, .str _, ?_, fun z => by simp at z, fun _ => ?_⟩
      · simp only [sm, decide_eq_true_eq]
        rw [len_cps, hql]
        omega
      · have hn : colIx (fcol cs ++ "q") 0 cs = none := colIx_none fun d hd e => by
          have z := hLc d hd
          rw [e, hql] at z
          omega
        simp [colK, hn]
    · exact ⟨_, .none, rfl, .non, rfl, fun z => by simp at z, fun _ => rfl⟩
    · exact ⟨_, .int 7, rfl, .int 7, rfl, fun z => by simp at z, fun _ => rfl⟩
    · refine ⟨_, .list [.str (fcol cs)], rfl, .lst (SqL.of (e_acn _ _ slq)) (.cons (.str _) .nil), ?_, fun z => by simp at z, fun _ => rfl⟩
      simp only [sm] at smf
      simp only [sm, smA, smf, Bool.and_self]
  have PN : ∃ xn dn, [V.int 1, .int 2, .int 3, .int 4, .int 0, .int (-1), .bl true, .non, .str "1", .int 1000000000, .ref l10][k3]? = some xn ∧ Dp K H16 xn dn ∧ sm dn = true ∧ (decide ((k3 : Int) < 3) = true → ∃ i, 1 ≤ i ∧ i ≤ 3 ∧ dn = .int i) ∧ (decide ((k3 : Int) < 3) = false → ∀ i, dn = .int i → i < 1 ∨ 3 < i) := by
    have hk' : k3 = 0 ∨ k3 = 1 ∨ k3 = 2 ∨ k3 = 3 ∨ k3 = 4 ∨ k3 = 5 ∨ k3 = 6 ∨ k3 = 7 ∨ k3 = 8 ∨ k3 = 9 ∨ k3 = 10 := by omega
    have hint : ∀ (j i : Int), PyData.int j = .int i → j = i := fun j i e => by simpa using e
    rcases hk' with z | z | z | z | z | z | z | z | z | z | z <;> subst z
    · exact ⟨_, .int 1, rfl, .int _, rfl, fun _ => ⟨1, by decide, by decide, rfl⟩, fun z => by simp at z⟩
    · exact ⟨_, .int 2, rfl, .int _, rfl, fun _ => ⟨2, by decide, by decide, rfl⟩, fun z => by simp at z⟩
    · exact ⟨_, .int 3, rfl, .int _, rfl, fun _ => ⟨3, by decide, by decide, rfl⟩, fun z => by simp at z⟩
    · exact ⟨_, .int 4, rfl, .int _, rfl, fun z => by simp at z, fun _ i e => by have := hint _ _ e; omega⟩
    · exact ⟨_, .int 0, rfl, .int _, rfl, fun z => by simp at z, fun _ i e => by have := hint _ _ e; omega⟩
    · exact ⟨_, .int (-1), rfl, .int _, rfl, fun z => by simp at z, fun _ i e => by have := hint _ _ e; omega⟩
    · exact ⟨_, .bool true, rfl, .bl _, rfl, fun z => by simp at z, fun _ i e => by cases e⟩
    · exact ⟨_, .none, rfl, .non, rfl, fun z => by simp at z, fun _ i e => by cases e⟩
    · exact ⟨_, .str "1", rfl, .str _, by decide +kernel, fun z => by simp at z, fun _ i e => by cases e⟩
    · exact ⟨_, .int 1000000000, rfl, .int _, rfl, fun z => by simp at z, fun _ i e => by have := hint _ _ e; omega⟩
    · exact ⟨_, .list [.int 1], rfl, .lst (SqL.of (e_an1 _ _ sl10)) (.cons (.int _) .nil), rfl, fun z => by simp at z, fun _ i e => by cases e⟩
  obtain ⟨xs, ds, vs1, dp1, sm1, t1, f1⟩ := PS
  obtain ⟨xt, dt, vs2, dp2', sm2, t2', f2⟩ := PT
  obtain ⟨xc, dc, vs3, dp3, sm3, t3', f3⟩ := PC
  obtain ⟨xn, dn, vs4, dp4, sm4, t4', f4⟩ := PN
  intro pg hpg
  have exg : Ex H16 (upd H16 pg (.dK [])) := Ex.nw hpg
  refine q_ixL (SqL.of (exg _ _ slp)) at0 ?_
  refine q_ixL (SqL.of (exg _ _ (e_als _ _ sls))) (atI_nat vs1) ?_
  refine q_ixL (SqL.of (exg _ _ slp)) at1 ?_
  refine q_ixL (SqL.of (exg _ _ (e_alt _ _ slt))) (atI_nat vs2) ?_
  refine q_ixL (SqL.of (exg _ _ slp)) at2 ?_
  refine q_ixL (SqL.of (exg _ _ (e_alc _ _ slc))) (atI_nat vs3) ?_
  refine q_disp [(.inr "shape", xs), (.inr "table", xt), (.inr "column", xc)] upd_same rfl (by show 3 ≤ 15; decide) kd4 ?_
  rw [upd2]
  have exg3 : Ex H16 (upd H16 pg (.dK [(.inr "shape", xs), (.inr "table", xt), (.inr "column", xc)])) := Ex.nw hpg
  refine q_ixL (SqL.of (exg3 _ _ slp)) (atI_nat (j := 3) rfl) ?_
  refine q_ixL (SqL.of (exg3 _ _ (e_aln _ _ sln))) (atI_nat vs4) ?_
  refine q_dput upd_same (k := .inr "number") rfl (by show 3 < sizeLine; decide) ?_
  rw [upd2, p_num]
  have exg4 : Ex H16 (upd H16 pg (.dK [(.inr "shape", xs), (.inr "table", xt), (.inr "column", xc), (.inr "number", xn)])) := Ex.nw hpg
  have sg4 : (upd H16 pg (.dK [(.inr "shape", xs), (.inr "table", xt), (.inr "column", xc), (.inr "number", xn)])) pg = some (.dK [(.inr "shape", xs), (.inr "table", xt), (.inr "column", xc), (.inr "number", xn)]) := upd_same
  revert exg4 sg4
  generalize upd H16 pg (.dK [(.inr "shape", xs), (.inr "table", xt), (.inr "column", xc), (.inr "number", xn)]) = HG
  intro exg4 sg4
  refine q_ixL ((g16.tr exg4).l hcl) (at_cells hl (k := 6) (by decide)) ?_
  refine ⟨a, ns[6]!, n, cs, rfl, Dp.ex exg4 _ _ hd16, h8, hsh.ne, fun xr dr H17 ex17 dxr smr fr => ?_⟩
  refine q_dput (ex17 _ _ sg4) (k := .inr "row") rfl (by show 4 < sizeLine; decide) ?_
  rw [p_row]
  have ex18 : Ex H16 (upd H17 pg (.dK (gvD xs xt xc xn xr))) := (exg4.tr ex17).mu hpg
  have sg5 : (upd H17 pg (.dK (gvD xs xt xc xn xr))) pg = some (.dK (gvD xs xt xc xn xr)) := upd_same
  have dxr5 : Dp K (upd H17 pg (.dK (gvD xs xt xc xn xr))) xr dr := Dp.lx (Lx.up (ex17 _ _ sg4) rfl) _ _ dxr
  revert ex18 sg5 dxr5
  generalize upd H17 pg (.dK (gvD xs xt xc xn xr)) = H18
  intro ex18 sg5 dxr5
  walk_at "rd"
  intro pf hpf
  have exf : Ex H18 (upd H18 pf (.dK [])) := Ex.nw hpf
  have lpf := exf _ _ (ex18 _ _ slp)
  refine q_ixL (SqL.of lpf) at0 ?_
  walk_at "rd"
  refine q_ixL (SqL.of lpf) at1 ?_
  walk_at "rd"
  refine q_ixL (SqL.of lpf) at2 ?_
  walk_at "rd"
  refine q_ixL (SqL.of lpf) (atI_nat (j := 3) rfl) ?_
  walk_at "rd"
  refine q_disp [(.inr "shape", .bl (decide ((k0 : Int) < 2))), (.inr "table", .bl (decide ((k1 : Int) < 3))), (.inr "column", .bl (decide ((k2 : Int) < 2))), (.inr "number", .bl (decide ((k3 : Int) < 3)))] upd_same rfl (by show 4 ≤ 15; decide) kd5 ?_
  rw [upd2]
  have exf4 : Ex H18 (upd H18 pf (.dK [(.inr "shape", .bl (decide ((k0 : Int) < 2))), (.inr "table", .bl (decide ((k1 : Int) < 3))), (.inr "column", .bl (decide ((k2 : Int) < 2))), (.inr "number", .bl (decide ((k3 : Int) < 3)))])) := Ex.nw hpf
  refine q_ixL ((g16.tr (ex18.tr exf4)).l hcl) (at_cells hl (k := 6) (by decide)) ?_
  walk_at "rd"
  refine ⟨by decide, ?_⟩
  refine q_dput upd_same (k := .inr "row") rfl (by show 4 < sizeLine; decide) ?_
  rw [upd2, p_row]
  have exf5 : Ex H18 (upd H18 pf (.dK (flD (decide ((k0 : Int) < 2)) (decide ((k1 : Int) < 3)) (decide ((k2 : Int) < 2)) (decide ((k3 : Int) < 3)) (decide (ns[6]! % 9 = 0))))) := Ex.nw hpf
  have sf5 : (upd H18 pf (.dK (flD (decide ((k0 : Int) < 2)) (decide ((k1 : Int) < 3)) (decide ((k2 : Int) < 2)) (decide ((k3 : Int) < 3)) (decide (ns[6]! % 9 = 0))))) pf = some (.dK (flD (decide ((k0 : Int) < 2)) (decide ((k1 : Int) < 3)) (decide ((k2 : Int) < 2)) (decide ((k3 : Int) < 3)) (decide (ns[6]! % 9 = 0)))) := upd_same
  show rIxL K (.ref lp) (.int 0) (upd H18 pf (.dK (flD (decide ((k0 : Int) < 2)) (decide ((k1 : Int) < 3)) (decide ((k2 : Int) < 2)) (decide ((k3 : Int) < 3)) (decide (ns[6]! % 9 = 0))))) _
  revert exf5 sf5
  generalize upd H18 pf (.dK (flD (decide ((k0 : Int) < 2)) (decide ((k1 : Int) < 3)) (decide ((k2 : Int) < 2)) (decide ((k3 : Int) < 3)) (decide (ns[6]! % 9 = 0)))) = H19
  intro exf5 sf5
  have g19 := ex18.tr exf5
  refine q_ixL (SqL.of (g19 _ _ slp)) at0 ?_
  walk_at "rd"
  refine ⟨by show 3 ≤ sizeLine; decide, fun p20 h20 => ?_⟩
  have ex20 : Ex H19 (upd H19 p20 (.tup [.ref pg, .ref pf, .bl (decide ((k0 : Int) = 1))])) := Ex.nw h20
  have g20 := g19.tr ex20
  exact q p20 pg pf xs xt xc xn xr _ _ _ _ _ _ _ (g16.tr g20) (SqT.of upd_same) (ex20 _ _ (exf5 _ _ sg5)) (ex20 _ _ sf5)
    ⟨ds, dt, dc, dn, dr, ⟨Dp.ex g20 _ _ dp1, Dp.ex g20 _ _ dp2', Dp.ex g20 _ _ dp3, Dp.ex g20 _ _ dp4, Dp.ex (exf5.tr ex20) _ _ dxr5⟩, ⟨sm1, sm2, sm3, sm4, smr⟩, t1, f1, t2', f2, t3', f3, t4', f4, fr⟩
end


section
variable {P : Program} {w : World} {K : PySem.W.Frag} {mg : Str → Option Value} {base : Heap}
theorem tIn_has {n : Str} {S : Stt} {d : PyData} (h : tIn n d = false) : hasT n S d = false := by
  cases d with
  | str m =>
    have e : decide (m = n) = false := h
    simp [hasT, e]
  | _ => simp [hasT, dName]
theorem has_tIn {n : Str} {S : Stt} {d : PyData} (h : hasT n S d = true) : tIn n d = true := by
  cases e : tIn n d with
  | true => rfl
  | false => rw [tIn_has e] at h; cases h
/-- all but two instances stays -/
theorem Kp.two {H H' : Hp} {a b C D dx dy : Addr} {fs gs : List (Str × V)} (h1 : H a = some (.ins C dx fs)) (s1 : fstF fs = false) (h2 : H b = some (.ins D dy gs)) (s2 : fstF gs = false) (k : ∀ x o, H x = some o → x ≠ a → x ≠ b → H' x = some o) : Kp H H' := fun x o sp hx => k x o hx
  (fun e => by
    rw [e, h1] at hx
    cases hx
    have sp2 : fstF fs = true := sp
    rw [s1] at sp2
    cases sp2)
  fun e => by
    rw [e, h2] at hx
    cases hx
    have sp2 : fstF gs = true := sp
    rw [s2] at sp2
    cases sp2
/-- the dealing is over: every call says so -/
theorem call_over {H : Hp} {de dx sa dxs d l k p g : Addr} {gv way : Int} {ys : List V} {xs xt xc xn xr : V} {N : Hp → Prop} {E : XK} (hde : H de = some (deO K dx (.ref sa) (.int 1) (.ref d) (.ref l) false)) (hsa : H sa = some (.ins (CS K) dxs (stF (.ref k) (.ref p) (.int gv)))) (hl : H l = some (.lst ys)) (h100 : ys.length ≤ 100)
    (hg : H g = some (.dK (gvD xs xt xc xn xr))) (w0 : 0 ≤ way) (w12 : way ≤ 12) (hE : ∀ H1, Ex H H1 → Er K E "Over" H1) : spCall K [.ref de, .int way, .ref g] H (fun _ H1 => N H1) E := by
  have e0 := hE H (exr H)
  refine ⟨de, g, way, xs, xt, xc, xn, xr, dx, _, rfl, hg, hde, ⟨_, _, _, _, _, rfl⟩, w0, w12, fun _ => ?_, fun _ => ?_, fun _ => ?_, fun _ => ?_, fun _ => ?_, fun _ => ?_, fun _ => ?_, fun _ => ?_, fun _ => ?_, fun _ => ?_⟩
  · exact ⟨de, dx, _, _, d, l, xs, false, ys, rfl, hde, hl, h100, fun _ => e0, fun z => by cases z⟩
  · exact ⟨de, dx, _, _, d, l, xt, xc, false, ys, rfl, hde, hl, h100, fun _ => e0, fun z => by cases z⟩
  · exact ⟨de, dx, sa, dxs, _, _, _, d, l, xt, xr, gv, false, ys, rfl, hde, hsa, hl, h100, fun _ => e0, fun z => by cases z⟩
  · exact ⟨de, dx, _, _, d, l, xt, .none, xn, .none, xr, "", [], [], false, false, ys, rfl, hde, hl, h100, fun _ => e0, fun z => by cases z⟩
  · exact ⟨de, dx, _, _, d, l, xt, xn, false, ys, rfl, hde, hl, h100, fun _ => e0, fun z => by cases z⟩
  · exact ⟨de, dx, _, _, _, _, false, rfl, hde, fun _ => e0, fun z => by cases z⟩
  · exact ⟨de, dx, _, _, _, _, false, rfl, hde, fun _ => e0, fun z => by cases z⟩
  · exact ⟨de, dx, _, _, _, l, false, ys, rfl, hde, hl, fun _ => e0, fun z => by cases z⟩
  · exact ⟨de, dx, sa, dxs, k, p, .int gv, .ref d, l, [.non], [], 0, ys, "", [], none, none, [], false, rfl, hde, fun _ => e0, fun z => by cases z⟩
  · exact ⟨de, dx, _, _, _, _, false, rfl, hde, fun _ => e0, fun z => by cases z⟩
/-- the dealing is open -/
theorem call_live {H : Hp} {de dx sa dxs d l k p g d0 : Addr} {way : Int} {ys ks ps : List V} {xs xt xc xn xr : V} {N : Hp → Prop} {E : XK} {n : Str} {cs : Cols} {rows : List Rw} {b : Bool} {S0 S1 : Stt} {ops : List Op} {gs gt gc gn gr th : Bool}
    (hde : H de = some (deO K dx (.ref sa) (.int (List.length ks)) (.ref d) (.ref l) true)) (hsa : H sa = some (.ins (CS K) dxs (stF (.ref k) (.ref p) (.int 3)))) (hl : H l = some (.lst ys)) (h100 : ys.length ≤ 100)
    (hk : H k = some (.lst ks)) (hp : H p = some (.lst (ps ++ [.ref d0]))) (hk20 : ks.length ≤ 20) (hp20 : ps.length ≤ 20) (hS0 : StateAt K H d0 n cs S0) (hys : DpAll K H ys (ops.map (opD n cs))) (hrun : Runs cs S0 ops S1) (hne : ops ≠ []) (h20 : ops.length ≤ 20)
    (hsh : ShOk n cs) (hS : StateAt K H d n cs (some (rows, b))) (tok : TbOk cs rows) (h7 : rows.length ≤ 7) (hin : ∀ i, 1 ≤ i → i ≤ 3 → ∃ row, (i, row) ∈ rows) (hout : ∀ x, x ∈ rows → 1 ≤ x.1 ∧ x.1 ≤ 3)
    (hg : H g = some (.dK (gvD xs xt xc xn xr))) (hgv : Giv K H n cs xs xt xc xn xr gs gt gc gn gr th) (w0 : 0 ≤ way) (w12 : way ≤ 12)
    (hE : ∀ r, duR way gs gt gc gn gr false th b = some r → ∀ H1, Ex H H1 → Er K E r.c H1) (hN : duR way gs gt gc gn gr false th b = none → ∀ H1, Lx H H1 → N H1) : spCall K [.ref de, .int way, .ref g] H (fun _ H1 => N H1) E := by
  obtain ⟨ds, dt, dc, dn, dr, ⟨p1, p2, p3, p4, p5⟩, ⟨m1, m2, m3, m4, m5⟩, t1, f1, t2, f2, t3, f3, t4, f4, fr⟩ := hgv
  have oks : ∀ rows' b', some (rows, b) = some (rows', b') → TbOk cs rows' := fun rows' b' e => by cases e; exact tok
  have oks7 : ∀ rows' b', some (rows, b) = some (rows', b') → TbOk cs rows' ∧ rows'.length ≤ 7 := fun rows' b' e => by cases e; exact ⟨tok, h7⟩
  have hT : hasT n (some (rows, b)) dt = gt := by
    cases gt with
    | true => rw [t2 rfl]; exact hasT_some hsh.nm
    | false => exact tIn_has (f2 rfl)
  have hI : tIn n dt = gt := by
    cases gt with
    | true => rw [t2 rfl]; exact decide_eq_true rfl
    | false => exact f2 rfl
  have hC : colK cs dc = gc := by
    cases gc with
    | true => rw [t3 rfl]; exact colK_first hsh
    | false => exact f3 rfl
  have hW : numW rows dn = gn := by
    cases gn with
    | true =>
      obtain ⟨i, i1, i3, rfl⟩ := t4 rfl
      obtain ⟨row, hr⟩ := hin i i1 i3
      exact List.any_eq_true.mpr ⟨_, hr, decide_eq_true rfl⟩
    | false =>
      cases dn with
      | int i =>
        refine List.any_eq_false.mpr fun x hx e => ?_
        have e2 : x.1 = i := of_decide_eq_true e
        have := hout x hx
        have := f4 rfl i rfl
        omega
      | _ => rfl
  have hNI : numIn rows dn = gn := by
    cases gn with
    | true =>
      obtain ⟨i, i1, i3, rfl⟩ := t4 rfl
      have h1 : dNum (.int i) = true := by
        simp only [dNum, Bool.and_eq_true, decide_eq_true_eq]
        omega
      simp only [numIn, h1, Bool.true_and]
      exact hW
    | false =>
      cases dn with
      | int i =>
        have z : (rows.any fun x => decide (x.1 = i)) = false := hW
        simp [numIn, z]
      | _ => simp [numIn]
  refine ⟨de, g, way, xs, xt, xc, xn, xr, dx, _, rfl, hg, hde, ⟨_, _, _, _, _, rfl⟩, w0, w12, fun hw => ?_, fun hw => ?_, fun hw => ?_, fun hw => ?_, fun hw => ?_, fun hw => ?_, fun hw => ?_, fun hw => ?_, fun hw => ?_, fun hw => ?_⟩
  · subst hw
    refine ⟨de, dx, _, _, d, l, xs, true, ys, rfl, hde, hl, h100, fun z => (by cases z), fun _ => ⟨d, xs, ds, n, cs, some (rows, b), rfl, hS, p1, m1, fun z => ?_, fun cs' _ z1 z2 => ?_, fun n' cs' p' H' z1 z2 z3 ex hp' _ => ?_⟩⟩
    · cases gs with
      | true =>
        obtain ⟨n', e, z2, _⟩ := t1 rfl
        rw [z] at z2
        cases z2
      | false => exact hE .shape (by simp [duR])
    · cases gs with
      | false => rw [f1 rfl] at z1; cases z1
      | true =>
        obtain ⟨n', e, _, e2⟩ := t1 rfl
        have e3 : n' = n := sh_inj (e.symm.trans z2)
        have e4 : th = true := by rw [e2]; exact decide_eq_true e3
        exact hE .there (by simp [duR, e4])
    · cases gs with
      | false => rw [f1 rfl] at z1; cases z1
      | true =>
        obtain ⟨n2, e, _, e2⟩ := t1 rfl
        have e3 : n2 = n' := sh_inj (e.symm.trans z2)
        have e4 : th = false := by rw [e2]; exact decide_eq_false (by rw [e3]; exact z3 rfl)
        intro ex2 c l' H2 _ _ na _ _
        have lx : Lx H H2 := (Lx.of ex2).tr (Kp.one (ex2 _ _ hde) (fst_de ..) na).lx
        exact hN (by simp [duR, e4]) H2 lx
  · refine ⟨de, dx, _, _, d, l, xt, xc, true, ys, rfl, hde, hl, h100, fun z => (by cases z), fun _ => ⟨d, xt, dt, xc, dc, n, cs, some (rows, b), rfl, hS, p2, m2, p3, m3, oks, fun z => ?_, fun z => ?_, fun z1 z2 => ?_, fun rows' z1 z2 z3 => ?_, fun rows' p' H' z1 z2 z3 ex hp' _ => ?_⟩⟩
    · rw [hC] at z
      exact t3 z
    · rw [hT] at z
      refine hE .table ?_
      subst z
      rcases hw with hw | hw <;> subst hw <;> simp [duR]
    · rw [hT] at z1
      rw [hC] at z2
      refine hE .column ?_
      subst z1
      subst z2
      rcases hw with hw | hw <;> subst hw <;> simp [duR]
    · rw [hT] at z1
      rw [hC] at z2
      cases z3
      refine hE .index ?_
      subst z1
      subst z2
      rcases hw with hw | hw <;> subst hw <;> simp [duR]
    · rw [hT] at z1
      rw [hC] at z2
      cases z3
      intro ex2 c l' H2 _ _ na _ _
      have lx : Lx H H2 := (Lx.of ex2).tr (Kp.one (ex2 _ _ hde) (fst_de ..) na).lx
      refine hN ?_ H2 lx
      subst z1
      subst z2
      rcases hw with hw | hw <;> subst hw <;> simp [duR]
  · refine ⟨de, dx, sa, dxs, _, _, _, d, l, xt, xr, 3, true, ys, rfl, hde, hsa, hl, h100, fun z => (by cases z), fun _ => ⟨d, xt, dt, _, xr, dr, n, cs, some (rows, b), rfl, hS, p2, m2, p5, m5, by decide, by decide, oks7, fun z => ?_, fun z1 z2 => ?_, fun rows' b' row p' H' z1 z2 z3 z4 ex hp' _ => ?_⟩⟩
    · rw [hT] at z
      refine hE .table ?_
      subst z
      rcases hw with hw | hw <;> subst hw <;> simp [duR]
    · rw [hT] at z1
      rw [fr] at z2
      refine hE .row ?_
      subst z1
      subst z2
      rcases hw with hw | hw <;> subst hw <;> simp [duR]
    · rw [hT] at z1
      rw [fr] at z4
      intro ex2 c l' H2 _ _ na _ _ _
      have lx : Lx H H2 := (Lx.of ex2).tr (Kp.two (ex2 _ _ hde) (fst_de ..) (ex2 _ _ hsa) (fst_st ..) na).lx
      refine hN ?_ H2 lx
      subst z1
      subst z4
      rcases hw with hw | hw <;> subst hw <;> simp [duR]
  · refine ⟨de, dx, _, _, d, l, xt, dt, xn, dn, xr, n, cs, rows, b, true, ys, rfl, hde, hl, h100, fun z => (by cases z), fun _ => ⟨hS, tok, p2, p4, fun z => ?_, fun z1 z2 => ?_, fun m z1 z2 z3 => ?_⟩⟩
    · rw [hI] at z
      refine hE .table ?_ H (exr H)
      subst z
      rcases hw with hw | hw <;> subst hw <;> simp [duR]
    · rw [hI] at z1
      rw [hW] at z2
      refine hE .number ?_ H (exr H)
      subst z1
      subst z2
      rcases hw with hw | hw <;> subst hw <;> simp [duR]
    · rw [hI] at z1
      rw [hW] at z2
      subst z1
      subst z2
      obtain ⟨i, i1, i3, e⟩ := t4 rfl
      have em : m = i := by
        rw [e] at z3
        simpa using z3.symm
      refine ⟨d, xt, dt, m, xr, dr, n, cs, some (rows, b), rfl, hS, p2, m2, p5, m5, by omega, by omega, oks7, fun z => ?_, fun z1 z2 => ?_, fun rows' b' row p' H' z1 z2 z3 z4 ex hp' _ => ?_⟩
      · rw [hT] at z; cases z
      · rw [fr] at z2
        refine hE .row ?_
        subst z2
        rcases hw with hw | hw <;> subst hw <;> simp [duR]
      · rw [fr] at z4
        intro ex2 c l' H2 _ _ na _ _
        have lx : Lx H H2 := (Lx.of ex2).tr (Kp.one (ex2 _ _ hde) (fst_de ..) na).lx
        refine hN ?_ H2 lx
        subst z4
        rcases hw with hw | hw <;> subst hw <;> simp [duR]
  · subst hw
    refine ⟨de, dx, _, _, d, l, xt, xn, true, ys, rfl, hde, hl, h100, fun z => (by cases z), fun _ => ⟨d, xt, dt, xn, dn, n, cs, some (rows, b), rfl, hS, p2, m2, p4, m4, oks7, fun z => ?_, fun rows' b' z1 z2 z3 => ?_, fun rows' b' p' H' z1 z2 z3 ex hp' => ?_⟩⟩
    · rw [hT] at z
      refine hE .table ?_
      subst z
      simp [duR]
    · cases z2
      rw [hT] at z1
      rw [hNI] at z3
      refine hE .number ?_
      subst z1
      subst z3
      simp [duR]
    · cases z2
      rw [hT] at z1
      rw [hNI] at z3
      intro ex2 c l' H2 _ _ na _ _
      have lx : Lx H H2 := (Lx.of ex2).tr (Kp.one (ex2 _ _ hde) (fst_de ..) na).lx
      refine hN ?_ H2 lx
      subst z1
      subst z3
      simp [duR]
  · subst hw
    exact ⟨de, dx, _, _, _, _, true, rfl, hde, fun z => (by cases z), fun _ => hN (by simp [duR]) _ (lxr _)⟩
  · subst hw
    exact ⟨de, dx, _, _, _, _, true, rfl, hde, fun z => (by cases z), fun _ => hN (by simp [duR]) _ (lxr _)⟩
  · subst hw
    exact ⟨de, dx, _, _, _, l, true, ys, rfl, hde, hl, fun z => (by cases z), fun _ p' H' ex _ => hN (by simp [duR]) _ (.of ex)⟩
  · subst hw
    exact ⟨de, dx, sa, dxs, k, p, _, _, l, ks, ps, d0, ys, n, cs, S0, S1, ops, true, rfl, hde, fun z => (by cases z), fun _ => ⟨hsa, hk, hp, hk20, hp20, hl, hsh, hS0, hys, hrun, hne, h20, fun _ _ _ _ H' na _ _ _ _ _ => hN (by simp [duR]) H' (Kp.two hde (fst_de ..) hsa (fst_st ..) na).lx⟩⟩
  · subst hw
    exact ⟨de, dx, _, _, _, _, true, rfl, hde, fun z => (by cases z), fun _ => hN (by simp [duR]) _ (Lx.up hde rfl)⟩
end


section
variable {P : Program} {w : World} {K : PySem.W.Frag} {mg : Str → Option Value} {base : Heap}
theorem cols_inj {n : Str} {cs ds : Cols} (h : shD n cs = shD n ds) : cs = ds := by
  simp only [shD, PyData.tuple.injEq, List.cons.injEq, and_true, true_and] at h
  have inj : ∀ {l m : Cols}, l.map colD = m.map colD → l = m := fun {l} => by
    induction l with
    | nil => intro m e; cases m with
      | nil => rfl
      | cons _ _ => cases e
    | cons x l ih => intro m e; cases m with
      | nil => cases e
      | cons y m =>
        simp only [List.map_cons, List.cons.injEq] at e
        rw [ih e.2]
        have e1 := e.1
        simp only [colD, PyData.tuple.injEq, List.cons.injEq, PyData.str.injEq, and_true] at e1
        obtain ⟨x1, x2⟩ := x
        obtain ⟨y1, y2⟩ := y
        simp only at e1
        have e3 : x2 = y2 := by
          have := e1.2
          cases x2 <;> cases y2 <;> first | rfl | exact absurd this kd_ne | exact absurd this kd_ne2
        rw [e1.1, e3]
  exact inj h
theorem row_inj {r s : List Cv} (h : rowD r = rowD s) : r = s := by
  simp only [rowD, PyData.tuple.injEq] at h
  have inj : ∀ {l m : List Cv}, l.map Cv.d = m.map Cv.d → l = m := fun {l} => by
    induction l with
    | nil => intro m e; cases m with
      | nil => rfl
      | cons _ _ => cases e
    | cons x l ih => intro m e; cases m with
      | nil => cases e
      | cons y m =>
        simp only [List.map_cons, List.cons.injEq] at e
        rw [ih e.2]
        have e1 := e.1
        have : x = y := by cases x <;> cases y <;> simp_all [Cv.d]
        rw [this]
  exact inj h
/-- a dealing and its store -/
structure Wd (K : PySem.W.Frag) (H : Hp) (n : Str) (cs : Cols) (de dx sa dxs k p d l d0 : Addr) (ks ps : List V) (S0 Sv : Stt) (gv : Int) (ys : List V) (ops : List Op) : Prop where
  hde : H de = some (deO K dx (.ref sa) (.int (List.length ks)) (.ref d) (.ref l) true)
  hsa : H sa = some (.ins (CS K) dxs (stF (.ref k) (.ref p) (.int gv)))
  hk : H k = some (.lst ks)
  hp : H p = some (.lst (ps ++ [.ref d0]))
  hS0 : StateAt K H d0 n cs S0
  hS : StateAt K H d n cs Sv
  hl : H l = some (.lst ys)
  hys : DpAll K H ys (ops.map (opD n cs))
theorem Wd.ex {H H' : Hp} {n : Str} {cs : Cols} {de dx sa dxs k p d l d0 : Addr} {ks ps : List V} {S0 Sv : Stt} {gv : Int} {ys : List V} {ops : List Op} (e : Ex H H') (W : Wd K H n cs de dx sa dxs k p d l d0 ks ps S0 Sv gv ys ops) : Wd K H' n cs de dx sa dxs k p d l d0 ks ps S0 Sv gv ys ops :=
  ⟨e _ _ W.hde, e _ _ W.hsa, e _ _ W.hk, e _ _ W.hp, W.hS0.ex e, W.hS.ex e, e _ _ W.hl, DpAll.ex e _ _ W.hys⟩
theorem kv_lst {H : Hp} {a : Addr} {xs : List V} {C dx : Addr} {fs : List (Str × V)} {b : Addr} (h : H a = some (.lst xs)) (h2 : H b = some (.ins C dx fs)) : a ≠ b := fun e => by rw [e, h2] at h; cases h
variable {H : Hp} {n : Str} {cs : Cols} {de dx sa dxs k p d l d0 : Addr} {ks ps : List V} {S0 Sv : Stt} {gv : Int} {ys : List V} {ops : List Op}
theorem wd_make (W : Wd K H n cs de dx sa dxs k p d l d0 ks ps S0 none gv ys ops) {sh : Addr} (hsh : ShOk n cs) (hd : Dp K H (.ref sh) (shD n cs)) (h100 : ys.length ≤ 20) {Q : VK}
    (q : ∀ d' l' c H', Kp H H' → H l' = none → Wd K H' n cs de dx sa dxs k p d' l' d0 ks ps S0 (some ([], false)) gv (ys ++ [.ref c]) (ops ++ [.mk]) → Q .non H') : spD_make K [.ref de, .ref sh] H Q E0 := by
  have nsa := de_sa W.hde W.hsa
  refine ⟨de, dx, _, _, d, l, .ref sh, true, ys, rfl, W.hde, W.hl, by omega, fun z => (by cases z), fun _ => ⟨d, .ref sh, shD n cs, n, cs, none, rfl, W.hS, hd, hsh.sms, fun z => ?_, fun cs' z => (by cases z), fun n' cs' p' H1 z1 z2 z3 ex hp' hst => ?_⟩⟩
  · rw [hsh.shp] at z; cases z
  · have e1 : n' = n := sh_inj z2.symm
    have e2 : cs' = cs := by
      subst e1
      exact (cols_inj z2).symm
    have hst := hst rfl e1 e2
    intro _ c l' H2 hln hc na h1 h2
    have W1 := W.ex ex
    have kp2 : Kp H1 H2 := Kp.one W1.hde (fst_de ..) na
    refine q p' l' c H2 ((Kp.of ex).tr kp2) (ex.fr hln) ⟨h1, na _ _ W1.hsa nsa, na _ _ W1.hk (kv_lst W1.hk W1.hde), na _ _ W1.hp (kv_lst W1.hp W1.hde), W1.hS0.kp kp2, hst.kp kp2, h2, ?_⟩
    rw [List.map_append]
    exact DpAll.app (DpAll.lx kp2.lx _ _ W1.hys) (.cons (.tup (kp2.lx.t hc) (.cons (.str _) (.cons (Dp.lx kp2.lx _ _ (Dp.ex ex _ _ hd)) .nil))) .nil)
theorem wd_put {rows : List Rw} {b : Bool} (W : Wd K H n cs de dx sa dxs k p d l d0 ks ps S0 (some (rows, b)) gv ys ops) {xr : V} {row : List Cv} (hsh : ShOk n cs) (hd : Dp K H xr (rowD row)) (tok : TbOk cs (rows ++ [(gv + 1, row)])) (h100 : ys.length ≤ 20) {Q : VK}
    (q : ∀ d' l' c H', Kp H H' → H l' = none → Wd K H' n cs de dx sa dxs k p d' l' d0 ks ps S0 (some (rows ++ [(gv + 1, row)], b)) (gv + 1) (ys ++ [.ref c]) (ops ++ [.put (gv + 1) row]) → Q (.int (gv + 1)) H') : spD_put K [.ref de, .str n, xr] H Q E0 := by
  have nsa := de_sa W.hde W.hsa
  obtain ⟨tok0, h7, hnew, rok⟩ := tok.pre
  refine ⟨de, dx, sa, dxs, _, _, _, d, l, .str n, xr, gv, true, ys, rfl, W.hde, W.hsa, W.hl, by omega, fun z => (by cases z), fun _ => ⟨d, .str n, .str n, gv + 1, xr, rowD row, n, cs, some (rows, b), rfl, W.hS, .str _, name_sm hsh.nm, hd, sm_row (fits_row rok.fit).2, rok.lo, rok.hi, fun rows' b' e => ?_, fun z => ?_, fun _ z => ?_, fun rows' b' row' p' H1 z1 z2 z3 z4 ex hp' hst => ?_⟩⟩
  · cases e
    exact ⟨tok0, h7⟩
  · rw [hasT_some hsh.nm] at z; cases z
  · rw [rok.fit] at z; cases z
  · cases z2
    have er : row = row' := row_inj z3
    subst er
    have hst := hst hnew
    intro _ c l' H2 hln hc na h1 h2 h3
    have W1 := W.ex ex
    have kp2 : Kp H1 H2 := Kp.two W1.hde (fst_de ..) W1.hsa (fst_st ..) na
    refine q p' l' c H2 ((Kp.of ex).tr kp2) (ex.fr hln) ⟨h1, h2, na _ _ W1.hk (kv_lst W1.hk W1.hde) (kv_lst W1.hk W1.hsa), na _ _ W1.hp (kv_lst W1.hp W1.hde) (kv_lst W1.hp W1.hsa), W1.hS0.kp kp2, hst.kp kp2, h3, ?_⟩
    rw [List.map_append]
    exact DpAll.app (DpAll.lx kp2.lx _ _ W1.hys) (.cons (.tup (kp2.lx.t hc) (.cons (.str _) (.cons (.str _) (.cons (.int _) (.cons (Dp.lx kp2.lx _ _ (Dp.ex ex _ _ hd)) .nil))))) .nil)
theorem wd_ord {rows : List Rw} (W : Wd K H n cs de dx sa dxs k p d l d0 ks ps S0 (some (rows, false)) gv ys ops) (hsh : ShOk n cs) (tok : TbOk cs rows) (h100 : ys.length ≤ 20) {Q : VK}
    (q : ∀ d' l' c H', Kp H H' → H l' = none → Wd K H' n cs de dx sa dxs k p d' l' d0 ks ps S0 (some (rows, true)) gv (ys ++ [.ref c]) (ops ++ [.ix]) → Q .non H') : spD_order_by K [.ref de, .str n, .str (fcol cs)] H Q E0 := by
  have nsa := de_sa W.hde W.hsa
  refine ⟨de, dx, _, _, d, l, .str n, .str (fcol cs), true, ys, rfl, W.hde, W.hl, by omega, fun z => (by cases z), fun _ => ⟨d, .str n, .str n, .str (fcol cs), .str (fcol cs), n, cs, some (rows, false), rfl, W.hS, .str _, name_sm hsh.nm, .str _, name_sm (fcol_nm hsh), fun rows' b' e => ?_, fun _ => rfl, fun z => ?_, fun _ z => ?_, fun rows' _ _ e => ?_, fun rows' p' H1 z1 z2 z3 ex hp' hst => ?_⟩⟩
  · cases e
    exact tok
  · rw [hasT_some hsh.nm] at z; cases z
  · rw [colK_first hsh] at z; cases z
  · cases e
  · cases z3
    intro _ c l' H2 hln hc na h1 h2
    have W1 := W.ex ex
    have kp2 : Kp H1 H2 := Kp.one W1.hde (fst_de ..) na
    refine q p' l' c H2 ((Kp.of ex).tr kp2) (ex.fr hln) ⟨h1, na _ _ W1.hsa nsa, na _ _ W1.hk (kv_lst W1.hk W1.hde), na _ _ W1.hp (kv_lst W1.hp W1.hde), W1.hS0.kp kp2, hst.kp kp2, h2, ?_⟩
    rw [List.map_append]
    exact DpAll.app (DpAll.lx kp2.lx _ _ W1.hys) (.cons (.tup (kp2.lx.t hc) (.cons (.str _) (.cons (.str _) (.cons (.str _) .nil)))) .nil)
theorem wd_keep {S1 : Stt} (W : Wd K H n cs de dx sa dxs k p d l d0 ks ps S0 Sv gv ys ops) (hsh : ShOk n cs) (hrun : Runs cs S0 ops S1) (hne : ops ≠ []) (h20 : ops.length ≤ 20) (hk20 : ks.length ≤ 20) (hp20 : ps.length ≤ 20) {Q : VK}
    (q : ∀ k' p' d' x H', Kp H H' → H' de = some (deO K dx (.ref sa) (.int (List.length ks)) (.ref d) (.ref l) false) → H' sa = some (.ins (CS K) dxs (stF (.ref k') (.ref p') (.int gv))) → H' k' = some (.lst (ks ++ [x])) → H' p' = some (.lst ((ps ++ [.ref d0]) ++ [.ref d'])) → StateAt K H' d' n cs S1 → H' l = some (.lst ys) → Q (.int (List.length ks + 1)) H') : spD_keep K [.ref de] H Q E0 := by
  refine ⟨de, dx, sa, dxs, k, p, _, _, l, ks, ps, d0, ys, n, cs, S0, S1, ops, true, rfl, W.hde, fun z => (by cases z), fun _ => ⟨W.hsa, W.hk, W.hp, hk20, hp20, W.hl, hsh, W.hS0, W.hys, hrun, hne, h20, fun k' p' x d' H' na h1 h2 h3 h4 h5 => ?_⟩⟩
  exact q k' p' d' x H' (Kp.two W.hde (fst_de ..) W.hsa (fst_st ..) na) h1 h2 h3 h4 h5 (na _ _ W.hl (kv_lst W.hl W.hde) (kv_lst W.hl W.hsa))
end


section
variable {P : Program} {w : World} {K : PySem.W.Frag} {mg : Str → Option Value} {base : Heap}
theorem q_eqD {H : Hp} {Q : VK} {x y : V} {d : PyData} (hx : Dp K H x d) (hy : Dp K H y d) (hs : SeqAt.shaped d = true) (q : Q (.bl true) H) : rEqD K x y H Q := by
  refine ⟨d, d, hx, hy, hs, hs, ?_⟩
  rw [SeqAt.eqv_refl d (SeqAt.canLay_of_shaped hs)]
  exact q
theorem op_nl (n : Str) (cs : Cols) (op : Op) : noL (opD n cs op) = true := by
  cases op with
  | mk =>
    show (true && (true && (noLA (cs.map colD) && true)) && true) = true
    rw [col_nl]
    rfl
  | ix => rfl
  | put m row =>
    show (true && (true && (true && (noLA (row.map Cv.d) && true)))) = true
    rw [cv_nl]
    rfl
theorem ops_nl (n : Str) (cs : Cols) : ∀ ops : List Op, noLA (ops.map (opD n cs)) = true
  | [] => rfl
  | op :: ops => by
    show (noL (opD n cs op) && noLA (ops.map (opD n cs))) = true
    rw [op_nl, ops_nl n cs ops]
    rfl
/-! ### one list written, all that is no list stays -/
theorem na_tt {a : Addr} {H H' : Hp} {xs : List V} (na : Na a H H') (h : H a = some (.lst xs)) : Tt H H' := fun b o sp hb => na b o hb fun e => by
  rw [e, h] at hb
  cases hb
  cases sp
theorem na_d {a b : Addr} {H H' : Hp} {xs : List V} {kvs : List (Key × V)} (na : Na a H H') (h : H a = some (.lst xs)) (hb : H b = some (.dK kvs)) : H' b = some (.dK kvs) := na b _ hb fun e => by rw [e, h] at hb; cases hb
theorem na_i {a b C dx : Addr} {H H' : Hp} {xs : List V} {fs : List (Str × V)} (na : Na a H H') (h : H a = some (.lst xs)) (hb : H b = some (.ins C dx fs)) : H' b = some (.ins C dx fs) := na b _ hb fun e => by rw [e, h] at hb; cases hb
theorem row_nl (r : List Cv) : noL (rowD r) = true := cv_nl r
theorem leaf_nl (es : List En) : noL (leafD es) = true := by
  show (true && (noLA (es.map enD) && true)) = true
  rw [ens_nl]
  rfl
theorem shp_nl (n : Str) (cs : Cols) : noL (shD n cs) = true := by
  show (true && (noLA (cs.map colD) && true)) = true
  rw [col_nl]
  rfl
theorem KD.tt {H H' : Hp} (e : Tt H H') : ∀ {kvs : List (Key × V)} {xs : List Rw}, KD K H rwK rwD kvs xs → KD K H' rwK rwD kvs xs
  | _, _, .nil => .nil
  | _, _, .cons h r => .cons (Dp.tt e _ _ (row_nl _) h) (KD.tt e r)
theorem StateAt.na {H H' : Hp} {a d : Addr} {n : Str} {cs : Cols} {S : Stt} {xs : List V} (na : Na a H H') (h : H a = some (.lst xs)) (hS : StateAt K H d n cs S) : StateAt K H' d n cs S := by
  have tt := na_tt na h
  cases S with
  | none => exact na_d na h hS
  | some z =>
    obtain ⟨rows, b⟩ := z
    obtain ⟨t, dx, sh, r, ix, h1, hF, h3⟩ := hS
    obtain ⟨kvs, k1, k2⟩ := hF.row
    refine ⟨t, dx, sh, r, ix, na_d na h h1, ⟨na_i na h hF.ins, hF.ne, Dp.tt tt _ _ (shp_nl ..) hF.shp, ⟨kvs, na_d na h k1, k2.tt tt⟩, ?_⟩, h3⟩
    cases b with
    | false => exact na_d na h hF.idx
    | true =>
      obtain ⟨c, b, cr, v, hcs, hix, dv⟩ := hF.idx
      exact ⟨c, b, cr, v, hcs, na_d na h hix, Dp.tt tt _ _ (leaf_nl _) dv⟩
theorem Wd.na {H H' : Hp} {a : Addr} {xs : List V} {n : Str} {cs : Cols} {de dx sa dxs k p d l d0 : Addr} {ks ps : List V} {S0 Sv : Stt} {gv : Int} {ys : List V} {ops : List Op} (na : Na a H H') (h : H a = some (.lst xs)) (hka : k ≠ a) (hpa : p ≠ a) (hla : l ≠ a)
    (W : Wd K H n cs de dx sa dxs k p d l d0 ks ps S0 Sv gv ys ops) : Wd K H' n cs de dx sa dxs k p d l d0 ks ps S0 Sv gv ys ops :=
  ⟨na_i na h W.hde, na_i na h W.hsa, na _ _ W.hk hka, na _ _ W.hp hpa, W.hS0.na na h, W.hS.na na h, na _ _ W.hl hla, DpAll.tt (na_tt na h) _ _ (ops_nl ..) W.hys⟩
/-- for x in a list that is made for it -/
theorem f_lstN {g : TG} {tb : TS} {D : Ends} {σ : L2.St} {H : Hp} {xs : List V} {te : TE} (hv : ∀ R : VK, (∀ p H1, Ex H H1 → SqL K H1 p xs → R (.ref p) H1) → te σ H R) (Pv : Addr → List V → L2.St → Hp → Prop) (h0 : ∀ p H1, Ex H H1 → SqL K H1 p xs → Pv p xs σ H1) (hG : ∀ p r σ H, Pv p r σ H → SqL K H p xs)
    (hs : ∀ p x r σ H, Pv p (x :: r) σ H → g x σ H fun σ2 H2 => tb { D with nx := Pv p r, ct := Pv p r, bk := D.nx } σ2 H2) (hd : ∀ p σ H, Pv p [] σ H → D.nx σ H) : tFor (iList K te) g tb D σ H := by
  show te σ H _
  refine hv _ fun p H1 ex sq => ⟨p, rfl, ⟨xs, sq⟩, for_it walk_list (fun i σ H => Pv p (xs.drop i) σ H) (by simpa using h0 p H1 ex sq) (fun i σ H _ q => hG _ _ _ _ q) (fun i x σ H H' hi q y => ?_) (fun σ H q => hd p σ H (by simpa using q))⟩
  obtain ⟨rfl, hx⟩ := y
  have p2 : Pv p (x :: xs.drop (i + 1)) σ H' := by rw [← drop_at hx]; exact q
  exact hs p x _ σ H' p2
theorem tok3 {cs : Cols} (hne : cs ≠ []) {r1 r2 r3 : List Cv} (f1 : dFits cs (rowD r1) = true) (f2 : dFits cs (rowD r2) = true) (f3 : dFits cs (rowD r3) = true) : TbOk cs [(1, r1), (2, r2), (3, r3)] := by
  refine ⟨?_, fun x hx => ?_, by show 3 ≤ 8; decide, hne⟩
  · unfold Asc
    simp
  · rcases List.mem_cons.mp hx with e | hx
    · rw [e]; exact ⟨by show (1 : Int) ≤ 1; decide, by show (1 : Int) ≤ 1000000000; decide, f1⟩
    rcases List.mem_cons.mp hx with e | hx
    · rw [e]; exact ⟨by show (1 : Int) ≤ 2; decide, by show (2 : Int) ≤ 1000000000; decide, f2⟩
    · have e : x = (3, r3) := by simpa using hx
      rw [e]; exact ⟨by show (1 : Int) ≤ 3; decide, by show (3 : Int) ≤ 1000000000; decide, f3⟩
theorem tok2 {cs : Cols} (hne : cs ≠ []) {r1 r2 : List Cv} (f1 : dFits cs (rowD r1) = true) (f2 : dFits cs (rowD r2) = true) : TbOk cs [(1, r1), (2, r2)] := (TbOk.pre (rows := [(1, r1), (2, r2)]) (x := (3, r2)) (tok3 hne f1 f2 f2)).1
theorem tok1 {cs : Cols} (hne : cs ≠ []) {r1 : List Cv} (f1 : dFits cs (rowD r1) = true) : TbOk cs [(1, r1)] := (TbOk.pre (rows := [(1, r1)]) (x := (2, r1)) (tok2 hne f1 f1)).1
theorem put_row {H : Hp} {x : V} {n : Str} {cs : Cols} {m : Int} {row : List Cv} (h : Dp K H x (opD n cs (.put m row))) : ∃ a xr, x = .ref a ∧ SqT K H a [.str "put", .str n, .int m, xr] ∧ Dp K H xr (rowD row) := by
  cases h with
  | tup h1 h2 =>
    cases h2 with | cons k1 h2 => ?_
    cases h2 with | cons k2 h2 => ?_
    obtain ⟨x, y, rfl, k3, k4⟩ := dp2 h2
    cases k1
    cases k2
    cases k3
    exact ⟨_, _, rfl, h1, k4⟩
def opsO (od : Bool) (r1 r2 : List Cv) : List Op := if od then [.mk, .put 1 r1, .put 2 r2, .ix] else [.mk, .put 1 r1, .put 2 r2]
theorem runsO {cs : Cols} (hne : cs ≠ []) (od : Bool) {r1 r2 : List Cv} (f1 : dFits cs (rowD r1) = true) (f2 : dFits cs (rowD r2) = true) : Runs cs none (opsO od r1 r2) (some ([(1, r1), (2, r2)], od)) := by
  cases od with
  | false => exact ⟨_, rfl, _, ⟨rfl, tok1 hne f1⟩, _, ⟨rfl, tok2 hne f1 f2⟩, rfl⟩
  | true => exact ⟨_, rfl, _, ⟨rfl, tok1 hne f1⟩, _, ⟨rfl, tok2 hne f1 f2⟩, _, ⟨rfl, tok2 hne f1 f2⟩, rfl⟩
theorem runs3 {cs : Cols} (hne : cs ≠ []) (od : Bool) {r1 r2 r3 : List Cv} (f1 : dFits cs (rowD r1) = true) (f2 : dFits cs (rowD r2) = true) (f3 : dFits cs (rowD r3) = true) : Runs cs none (opsO od r1 r2 ++ [.put 3 r3]) (some ([(1, r1), (2, r2), (3, r3)], od)) := by
  cases od with
  | false => exact ⟨_, rfl, _, ⟨rfl, tok1 hne f1⟩, _, ⟨rfl, tok2 hne f1 f2⟩, _, ⟨rfl, tok3 hne f1 f2 f3⟩, rfl⟩
  | true => exact ⟨_, rfl, _, ⟨rfl, tok1 hne f1⟩, _, ⟨rfl, tok2 hne f1 f2⟩, _, ⟨rfl, tok2 hne f1 f2⟩, _, ⟨rfl, tok3 hne f1 f2 f3⟩, rfl⟩
theorem wd_none (r : Rf) : ¬ r.wd = "none" := by
  cases r <;> (simp only [Rf.wd]; decide +kernel)
def Two (cs : Cols) (i : Nat) (os : List Op) : Prop := (i = 0 ∧ os = []) ∨ (i = 1 ∧ ∃ r1, os = [.put 1 r1] ∧ dFits cs (rowD r1) = true) ∨ (i = 2 ∧ ∃ r1 r2, os = [.put 1 r1, .put 2 r2] ∧ dFits cs (rowD r1) = true ∧ dFits cs (rowD r2) = true)
theorem Two.next {cs : Cols} {i : Nat} {os : List Op} {r : List Cv} (h : Two cs i os) (hi : i < 2) (hr : dFits cs (rowD r) = true) : Two cs (i + 1) (os ++ [.put ((i : Int) + 1) r]) := by
  rcases h with ⟨rfl, rfl⟩ | ⟨rfl, r1, rfl, h1⟩ | ⟨rfl, _⟩
  · exact .inr (.inl ⟨rfl, r, rfl, hr⟩)
  · exact .inr (.inr ⟨rfl, r1, r, rfl, h1, hr⟩)
  · omega
theorem Two.len {cs : Cols} {i : Nat} {os : List Op} (h : Two cs i os) : os.length ≤ 2 := by
  rcases h with ⟨rfl, rfl⟩ | ⟨rfl, r1, rfl, h1⟩ | ⟨rfl, r1, r2, rfl, _⟩ <;> simp
theorem sc_law_once : FnScope ["_law_script", "_law_at", "_law_cells", "_law_shape", "_law_store", "_law_deal", "_law_ordered", "_law_changes", "_law_change", "_law_own", "_law_ended", "_law_over", "_law_way", "_law_found", "_law_due_here", "_law_j"] ["_law_script", "_law_at"] (defScope s_law_once) := ⟨rfl, rfl, rfl, by decide +kernel, rfl, by decide +kernel, by decide +kernel⟩
theorem ok_law_once (T : Tx K mg) : Gd P w K mg base CX0 17 "_law_once" ["_law_script", "_law_at"] (fun vs H Q _ => ∃ (a : Addr) (at_ : Int) (sc : List Int), vs = [.ref a, .int at_] ∧ 0 ≤ at_ ∧ SqL K H a (sc.map V.int) ∧ ∀ H', Lx H H' → Q (.bl true) H') := by
  refine gd0 (f_law_once T) sc_law_once (fun _ _ _ _ _ _ us hl => match us, hl with | [_, _], _ => rfl) ?len (fun f cdv A outer s H vs Q E hr h => ⟨_, (pss_cons (ps_set (i := 2) sc_law_once.nd rfl (Or.inr rfl) (pe_lc (own := [("_law_j", 15)]) (tt := tYes) rfl sc_law_once.nd (pi_range1 (by rfl) (n_range T) (pa_cons pe_int pa_nil)) (blkOk_by (own := [("_law_j", 15)]) (N := ["_law_script", "_law_at", "_law_cells", "_law_shape", "_law_store", "_law_deal", "_law_ordered", "_law_changes", "_law_change", "_law_own", "_law_ended", "_law_over", "_law_way", "_law_found", "_law_due_here", "_law_j"]) (sc := defScope s_law_once) (by decide +kernel)) (fun _ _ _ _ _ => pg_name (i := 15) sc_law_once.nd rfl (Or.inl rfl)) (fun _ _ _ _ _ => pts_nil) (fun _ _ _ _ _ => (pe_g (ok_law_cell_at T) hr (by decide) p0 (pa_cons (pv 0) (pa_cons (pe_op op_add (pv 1) (pv 15)) pa_nil))))))
      (pss_cons (ps_set (i := 3) sc_law_once.nd rfl (Or.inr rfl) (pe_g (ok_law_shape_by T) hr (by decide) p0 (pa_cons (pe_g (ok_law_name_by T) hr (by decide) p0 (pa_cons (pe_ix ix_list (pv 2) pe_int (fun _ _ => rfl)) pa_nil)) (pa_cons (pe_ix ix_list (pv 2) pe_int (fun _ _ => rfl)) pa_nil))))
      (pss_cons (ps_set (i := 4) sc_law_once.nd rfl (Or.inl rfl) (pe_mk0 (mk_Store T) (ok_Store_init T) hr (by decide) (g_Store T)))
      (pss_cons (ps_set (i := 5) sc_law_once.nd rfl (Or.inl rfl) (pe_g (ok_begin T) hr (by decide) p0 (pa_cons (pv 4) pa_nil)))
      (pss_cons (ps_set (i := 6) sc_law_once.nd rfl (Or.inl rfl) (pe_cmpR op_eq (pe_op op_mod (pe_ix ix_list (pv 2) pe_int (fun _ _ => rfl)) pe_int) pe_int (nomark _)))
      (pss_cons (ps_set (i := 7) sc_law_once.nd rfl (Or.inl rfl) (pe_op op_cat (pe_lst (pa_cons (pe_tup (pa_cons pe_str (pa_cons (pv 3) pa_nil))) pa_nil)) (pe_lc (own := [("_law_j", 15)]) (tt := tYes) rfl sc_law_once.nd (pi_range1 (by rfl) (n_range T) (pa_cons pe_int pa_nil)) (blkOk_by (own := [("_law_j", 15)]) (N := ["_law_script", "_law_at", "_law_cells", "_law_shape", "_law_store", "_law_deal", "_law_ordered", "_law_changes", "_law_change", "_law_own", "_law_ended", "_law_over", "_law_way", "_law_found", "_law_due_here", "_law_j"]) (sc := defScope s_law_once) (by decide +kernel)) (fun _ _ _ _ _ => pg_name (i := 15) sc_law_once.nd rfl (Or.inl rfl)) (fun _ _ _ _ _ => pts_nil) (fun _ _ _ _ _ => (pe_tup (pa_cons pe_str (pa_cons (pe_ix (ix_tupK K) (pv 3) pe_int (fun _ _ => rfl)) (pa_cons (pe_op op_add (pv 15) pe_int) (pa_cons (pe_g (ok_law_row_by T) hr (by decide) p0 (pa_cons (pv 3) (pa_cons (pe_op op_add (pe_ix (ix_listK K) (pv 2) pe_int (fun _ _ => rfl)) (pv 15)) pa_nil))) pa_nil)))))))))
      (pss_cons (ps_expr (pe_mS (pv 5) (c_Dealing T) (m_Dealing_make T) (ok_Dealing_make T) hr (by decide) pL (pa_cons (pv 3) pa_nil)))
      (pss_cons (ps_for PassesOwn.never rfl (pi_list (pe_slice sl_list (pv 7) (po_some pe_int) po_none)) (pg_name (i := 8) sc_law_once.nd rfl (Or.inl rfl)) (pss_one (ps_expr (pe_mS (pv 5) (c_Dealing T) (m_Dealing_put T) (ok_Dealing_put T) hr (by decide) pL (pa_cons (pe_ix ix_tup (pv 3) pe_int (fun _ _ => rfl)) (pa_cons (pe_ix ix_tup (pv 8) pe_int (fun _ _ => rfl)) pa_nil))))))
      (pss_cons (ps_if (pt_val (pv 6)) (pss_cons (ps_expr (pe_mS (pv 5) (c_Dealing T) (m_Dealing_order_by T) (ok_Dealing_order_by T) hr (by decide) pL (pa_cons (pe_ix ix_tup (pv 3) pe_int (fun _ _ => rfl)) (pa_cons (pe_ix ix_tup (pe_ix ix_tup (pe_ix ix_tup (pv 3) pe_int (fun _ _ => rfl)) pe_int (fun _ _ => rfl)) pe_int (fun _ _ => rfl)) pa_nil))))
      (pss_one (ps_expr (pe_bm PySem.F.plainAttrs_list PySem.F.slot_list_append PySem.F.type_list_append mt_append (pv 7) (pa_cons (pe_tup (pa_cons pe_str (pa_cons (pe_ix ix_tup (pv 3) pe_int (fun _ _ => rfl)) (pa_cons (pe_ix ix_tup (pe_ix ix_tup (pe_ix ix_tup (pv 3) pe_int (fun _ _ => rfl)) pe_int (fun _ _ => rfl)) pe_int (fun _ _ => rfl)) pa_nil)))) pa_nil))))) pss_nil)
      (pss_cons (ps_expr (pe_m0 (pv 5) (c_Dealing T) (m_Dealing_keep T) (ok_Dealing_keep T) hr (by decide) passL))
      (pss_cons (ps_set (i := 5) sc_law_once.nd rfl (Or.inl rfl) (pe_g (ok_begin T) hr (by decide) p0 (pa_cons (pv 4) pa_nil)))
      (pss_cons (ps_set (i := 9) sc_law_once.nd rfl (Or.inl rfl) (pe_lst (pa_cons (pe_tup (pa_cons pe_str (pa_cons (pe_ix ix_tup (pv 3) pe_int (fun _ _ => rfl)) (pa_cons pe_int (pa_cons (pe_g (ok_law_row_by T) hr (by decide) p0 (pa_cons (pv 3) (pa_cons (pe_op op_add (pe_ix ix_list (pv 2) pe_int (fun _ _ => rfl)) pe_int) pa_nil))) pa_nil))))) pa_nil)))
      (pss_cons (ps_expr (pe_mS (pv 5) (c_Dealing T) (m_Dealing_put T) (ok_Dealing_put T) hr (by decide) pL (pa_cons (pe_ix ix_tup (pv 3) pe_int (fun _ _ => rfl)) (pa_cons (pe_ix ix_tup (pe_ix ix_list (pv 9) pe_int (fun _ _ => rfl)) pe_int (fun _ _ => rfl)) pa_nil))))
      (pss_cons (ps_set (i := 10) sc_law_once.nd rfl (Or.inl rfl) (pe_op op_mod (pe_op op_fdiv (pe_ix ix_list (pv 2) pe_int (fun _ _ => rfl)) pe_int) pe_int))
      (pss_cons (ps_set (i := 11) sc_law_once.nd rfl (Or.inl rfl) (pe_or (pe_cmpR op_eq (pv 10) pe_int (nomark _)) (pe_one (pe_cmpR op_eq (pv 10) pe_int (nomark _)))))
      (pss_cons (ps_if (pt_cmpR op_eq (pv 10) pe_int (nomark _)) (pss_one (ps_expr (pe_m0 (pv 5) (c_Dealing T) (m_Dealing_leave T) (ok_Dealing_leave T) hr (by decide) passL))) pss_nil)
      (pss_cons (ps_if (pt_cmpR op_eq (pv 10) pe_int (nomark _)) (pss_one (ps_expr (pe_m0 (pv 5) (c_Dealing T) (m_Dealing_keep T) (ok_Dealing_keep T) hr (by decide) passL))) pss_nil)
      (pss_cons (ps_set (i := 12) sc_law_once.nd rfl (Or.inl rfl) (pe_op op_mod (pe_op op_fdiv (pe_ix ix_list (pv 2) pe_int (fun _ _ => rfl)) pe_int) pe_int))
      (pss_cons (ps_set (i := 13) sc_law_once.nd rfl (Or.inl rfl) (pe_g (ok_law_given T) hr (by decide) p0 (pa_cons (pv 3) (pa_cons (pv 2) pa_nil))))
      (pss_cons (ps_set (i := 14) sc_law_once.nd rfl (Or.inl rfl) (pe_g (ok_law_due T) hr (by decide) p0 (pa_cons (pv 12) (pa_cons (pe_ix ix_tup (pv 13) pe_int (fun _ _ => rfl)) (pa_cons (pv 11) (pa_cons (pe_ix ix_tup (pv 13) pe_int (fun _ _ => rfl)) (pa_cons (pv 6) pa_nil)))))))
      (pss_cons (ps_if (pt_cmpR op_ne (pe_g (ok_law_refusal T) hr (by decide) p0 (pa_cons (pv 5) (pa_cons (pv 12) (pa_cons (pe_ix ix_tup (pv 13) pe_int (fun _ _ => rfl)) pa_nil)))) (pv 14) (nomark _)) (pss_one (ps_ret pe_bl)) pss_nil)
      (pss_cons (ps_if (pt_cmpR op_eq (pv 14) pe_str (nomark _)) (pss_one (ps_ret pe_bl)) pss_nil)
      (pss_cons (ps_if (PW.pt (pw_or (pt_cmpR op_ne (pe_m0 (pv 4) (c_Store T) (m_Store_greatest T) (ok_Store_greatest T) hr (by decide) pass0) pe_int (nomark _)) (pw_or (pt_cmpR op_ne (pe_m0 (pv 4) (c_Store T) (m_Store_many T) (ok_Store_many T) hr (by decide) pass0) (pe_op op_add pe_int (pe_callTy c_int1 (by rfl) (n_int T) b_int (pa_cons (pe_cmpR op_eq (pv 10) pe_int (nomark _)) pa_nil))) (nomark _)) (pw_or1 (pt_not (pt_val (pe_g (ok_law_one T) hr (by decide) p0 (pa_cons (pv 5) (pa_cons (pv 12) (pa_cons (pe_ix ix_tup (pv 13) pe_int (fun _ _ => rfl)) pa_nil)))))))))) (pss_one (ps_ret pe_bl)) pss_nil)
      (pss_one (ps_ret (pe_or (pv 11) (pe_one (pe_and (pe_cmpR (op_eqD hr.units) (pe_m0 (pv 5) (c_Dealing T) (m_Dealing_mine T) (ok_Dealing_mine T) hr (by decide) passL) (pv 9) (nomark _)) (pe_one (pe_g (ok_law_same T) hr (by decide) p0 (pa_cons (pe_m0 (pv 5) (c_Dealing T) (m_Dealing_view T) (ok_Dealing_view T) hr (by decide) passL) (pa_cons (pe_g (ok_law_all_after T) hr (by decide) p0 (pa_cons pe_dnewK (pa_cons (pe_op op_cat (pv 7) (pv 9)) pa_nil))) pa_nil)))))))))))))))))))))))))))))))), ?_⟩)
  case len => rintro vs H Q E ⟨a, at_, sc, rfl, _⟩; rfl
  obtain ⟨a, at_, sc, rfl, hat, ha, q⟩ := h
  refine q_seq fun nx1 go1 => ?_
  walk_at "rd"
  refine q_lcN (by decide) (fun D i H' => Ex H H' ∧ H D = none ∧ ∃ ns : List Int, H' D = some (.lst (ns.map V.int)) ∧ ns.length = i) (fun D hD => ⟨Ex.nw hD, hD, [], upd_same, rfl⟩) ?_ ?_
  · rintro D i H' hi ⟨ex, hD, ns, e1, e2⟩
    walk_at "rd"
    refine ⟨a, _, sc, rfl, by omega, ex.l ha, fun j => ?_⟩
    refine q_el e1 (Nat.lt_of_le_of_lt (by rw [List.length_map]; omega : _ ≤ 10) (by decide)) ?_
    exact ⟨ex.mu hD, hD, ns ++ [j], by rw [List.map_append]; exact upd_same, by rw [List.length_append, e2]; rfl⟩
  rintro cl H1 ⟨ex1, hcl, ns, scl, hns⟩
  refine go1 _ _ (q_seq fun nx2 go2 => ?_)
  walk_at "rd"
  refine q_ixL (SqL.of scl) (at_cells hns (k := 7) (by decide)) ?_
  refine ⟨_, rfl, fun n H2 ex2 hn => ?_⟩
  walk_at "rd"
  refine q_ixL (SqL.of (ex2 _ _ scl)) (at_cells hns (k := 8) (by decide)) ?_
  refine ⟨n, _, rfl, hn, fun sh cs H3 ex3 dsh hsh hlen => ?_⟩
  walk_at "rd"
  have ex03 := ex1.tr (ex2.tr ex3)
  have scl3 := ex3 _ _ (ex2 _ _ scl)
  have h8 : cs.length ≤ 8 := by
    have z := hsh.shp
    simp only [shD, dShape, Bool.and_eq_true, decide_eq_true_eq, List.length_map] at z
    exact z.1.2.2
  refine go2 _ _ (q_seq fun nx3 go3 => ?_)
  walk_at "rd"
  intro sa dxs hsa0 hdxs ne
  have ex4 : Ex H3 (upd (upd H3 dxs (.own sa)) sa (.ins (CS K) dxs [])) := (Ex.nw hdxs).tr (Ex.nw (by rw [upd_ne (Ne.symm ne)]; exact hsa0))
  refine ⟨sa, dxs, rfl, upd_same, fun k p d0 H4 na4 hsa hk hp hd0 => ?_⟩
  have ex34 : Ex H3 H4 := fun y o hy => na4 _ _ (ex4 _ _ hy) (ne_of_none hy hsa0)
  have ex04 := ex03.tr ex34
  refine go3 _ _ (q_seq fun nx4 go4 => ?_)
  walk_at "rd"
  refine ⟨sa, dxs, k, p, _, [], [], .ref d0, rfl, hsa, hk, hp, fun de dx l H5 ex5 hde0 hl0 hde hl => ?_⟩
  have W0 : Wd K H5 n cs de dx sa dxs k p d0 l d0 [] [] none none 0 [] [] := ⟨hde, ex5 _ _ hsa, ex5 _ _ hk, ex5 _ _ hp, ex5 _ _ hd0, ex5 _ _ hd0, hl, .nil⟩
  have ex05 := ex04.tr ex5
  have dsh5 := Dp.ex (ex34.tr ex5) _ _ dsh
  have scl5 := (ex34.tr ex5) _ _ scl3
  have cl5 : Kp H H5 := Kp.of ex05
  refine go4 _ _ (q_seq fun nx5 go5 => ?_)
  walk_at "rd"
  refine q_ixL (SqL.of scl5) (at_cells hns (k := 9) (by decide)) ?_
  walk_at "rd"
  refine ⟨by decide, ?_⟩
  generalize hod : decide (ns[9]! % 2 = 1) = od
  refine go5 _ _ (q_seq fun nx6 go6 => ?_)
  walk_at "rd"
  obtain ⟨ca, ysh, sh1, sh2, sh3⟩ := dp_shape dsh5
  refine ⟨by decide, fun t0 ht0 => ⟨by decide, fun c0 hc0 => ?_⟩⟩
  have ex6 : Ex H5 (upd (upd H5 t0 (.tup [.str "table", .ref sh])) c0 (.lst [.ref t0])) := (Ex.nw ht0).tr (Ex.nw hc0)
  have sc0 : (upd (upd H5 t0 (.tup [.str "table", .ref sh])) c0 (.lst [.ref t0])) c0 = some (.lst [.ref t0]) := upd_same
  have st0 : SqT K (upd (upd H5 t0 (.tup [.str "table", .ref sh])) c0 (.lst [.ref t0])) t0 [.str "table", .ref sh] := (Ex.nw hc0).t (SqT.of upd_same)
  revert ex6 sc0 st0
  generalize upd (upd H5 t0 (.tup [.str "table", .ref sh])) c0 (.lst [.ref t0]) = H6
  intro ex6 sc0 st0
  refine q_lcN (by decide) (fun D i H' => Ex H6 H' ∧ H6 D = none ∧ ∃ zs os, H' D = some (.lst zs) ∧ DpAll K H' zs (List.map (opD n cs) os) ∧ Two cs i os) (fun D hD => ⟨Ex.nw hD, hD, [], [], upd_same, .nil, .inl ⟨rfl, rfl⟩⟩) ?_ ?_
  · rintro D i H' hi ⟨ex, hD, zs, os, e1, e2, e3⟩
    walk_at "rd"
    have ex5' := ex6.tr ex
    refine q_ixT (ex5'.t sh1) at0 ?_
    refine q_ixL (SqL.of (ex5' _ _ scl5)) (at_cells hns (k := 8) (by decide)) ?_
    walk_at "rd"
    refine ⟨sh, _, n, cs, rfl, Dp.ex ex5' _ _ dsh5, h8, fun pr row H2' ex2' dr fr => ?_⟩
    walk_at "rd"
    refine ⟨by show 4 ≤ sizeLine; decide, fun z hz => ?_⟩
    have exz : Ex H2' (upd H2' z (.tup [.str "put", .str n, .int ((i : Int) + 1), .ref pr])) := Ex.nw hz
    have e1' := exz _ _ (ex2' _ _ e1)
    have hzl : zs.length ≤ 2 := by rw [DpAll.length e2, List.length_map]; exact e3.len
    refine q_el e1' (Nat.lt_of_le_of_lt hzl (by decide)) ?_
    have tt : Tt (upd H2' z (.tup [.str "put", .str n, .int ((i : Int) + 1), .ref pr])) (upd (upd H2' z (.tup [.str "put", .str n, .int ((i : Int) + 1), .ref pr])) D (.lst (zs ++ [.ref z]))) := Tt.up e1' rfl
    refine ⟨(ex.tr (ex2'.tr exz)).mu hD, hD, zs ++ [.ref z], os ++ [.put ((i : Int) + 1) row], upd_same, ?_, e3.next (by omega) fr⟩
    rw [List.map_append]
    refine DpAll.app (DpAll.tt tt _ _ (ops_nl n cs os) (DpAll.ex (ex2'.tr exz) _ _ e2)) (.cons (.tup (tt.t (SqT.of upd_same)) (.cons (.str _) (.cons (.str _) (.cons (.int _) (.cons ?_ .nil))))) .nil)
    exact Dp.tt tt _ _ (cv_nl row) (Dp.ex exz _ _ dr)
  rintro c1 H7 ⟨ex7, hc1, zs, os, e1, e2, e3⟩
  have e3' : ∃ r1 r2, os = [.put 1 r1, .put 2 r2] ∧ dFits cs (rowD r1) = true ∧ dFits cs (rowD r2) = true := by
    rcases e3 with ⟨z, _⟩ | ⟨z, _⟩ | ⟨_, h⟩
    · cases z
    · cases z
    · exact h
  obtain ⟨r1, r2, rfl, fr1, fr2⟩ := e3'
  refine q_cat (ex7 _ _ sc0) e1 (by rw [DpAll.length e2]; show 1 + 2 ≤ 1000; decide) fun lch H8 ex8 hlch e8 => ?_
  have ex58 := ex6.tr (ex7.tr ex8)
  have dops : DpAll K H8 ([.ref t0] ++ zs) (List.map (opD n cs) [.mk, .put 1 r1, .put 2 r2]) :=
    .cons (.tup ((ex7.tr ex8).t st0) (.cons (.str _) (.cons (Dp.ex ex58 _ _ dsh5) .nil))) (DpAll.ex ex8 _ _ e2)
  have W1 := W0.ex ex58
  have dsh8 := Dp.ex ex58 _ _ dsh5
  have scl8 := ex58 _ _ scl5
  refine go6 _ _ (q_seq fun nx7 go7 => ?_)
  walk_at "rd"
  refine q_meth W1.hde (de_none (by decide +kernel) (by decide +kernel) (by decide +kernel) (by decide +kernel) (by decide +kernel) ..) ?_
  refine wd_make W1 hsh dsh8 (by decide) fun d1 l1 c1' H9 kp9 hl1 W2 => ?_
  have dsh9 := Dp.lx kp9.lx _ _ dsh8
  have scl9 := kp9 _ _ rfl scl8
  have e9 := kp9 _ _ rfl e8
  have dops9 := DpAll.lx kp9.lx _ _ dops
  refine go7 _ _ (q_seq fun nx8 go8 => ?_)
  walk_at "rd"
  have lk : k ≠ lch := np_of (ex6.tr ex7 _ _ W0.hk) hlch
  have lp : p ≠ lch := np_of (ex6.tr ex7 _ _ W0.hp) hlch
  obtain ⟨z1, z2, rfl, dz1, dz2⟩ := dp2 (show DpAll K H9 zs [opD n cs (.put 1 r1), opD n cs (.put 2 r2)] from by
    cases dops9 with
    | cons _ h => exact h)
  have hk1 : l1 ≠ lch := fun e => by rw [e, e8] at hl1; cases hl1
  refine f_lstN (xs := [z1, z2]) (fun R hR => by
      walk_at "rd"
      exact ⟨lch, _, rfl, SqL.of e9, fun p hp => hR p _ (Ex.nw hp) (SqL.of upd_same)⟩)
    (fun pl r σ H' => Kp H9 H' ∧ SqL K H' pl [z1, z2] ∧ ∃ o8 d2 l2 ys2 rws ops2 gv, σ = [some (.ref a), some (.int at_), some (.ref cl), some (.ref sh), some (.ref sa), some (.ref de), some (.bl od), some (.ref lch), o8, none, none, none, none, none, none, none] ∧ l2 ≠ lch ∧
      Wd K H' n cs de dx sa dxs k p d2 l2 d0 [] [] none (some (rws, false)) gv ys2 ops2 ∧ ((r = [z1, z2] ∧ gv = 0 ∧ rws = [] ∧ ops2 = [.mk]) ∨ (r = [z2] ∧ gv = 1 ∧ rws = [(1, r1)] ∧ ops2 = [.mk, .put 1 r1]) ∨ (r = [] ∧ gv = 2 ∧ rws = [(1, r1), (2, r2)] ∧ ops2 = [.mk, .put 1 r1, .put 2 r2])))
    (fun pl H' ex sq => ⟨.of ex, sq, none, d1, l1, _, [], _, 0, rfl, hk1, W2.ex ex, .inl ⟨rfl, rfl, rfl, rfl⟩⟩) (fun pl r σ H' h => h.2.1) ?_ ?_
  · rintro pl x r σ H' ⟨kp, sq, o8, d2, l2, ys2, rws, ops2, gv, rfl, hl2, W3, hcase⟩
    have hy2 : ys2.length = ops2.length := by rw [DpAll.length W3.hys, List.length_map]
    walk_at "rd"
    have nm5 := kp.lx.t (kp9.lx.t ((ex6.tr (ex7.tr ex8)).t sh1))
    refine q_meth W3.hde (de_none (by decide +kernel) (by decide +kernel) (by decide +kernel) (by decide +kernel) (by decide +kernel) ..) ?_
    refine q_ixT nm5 at0 ?_
    rcases hcase with ⟨hr, rfl, rfl, rfl⟩ | ⟨hr, rfl, rfl, rfl⟩ | ⟨hr, _⟩
    · cases hr
      obtain ⟨az, xr, rfl, saz, dxr⟩ := put_row (Dp.lx kp.lx _ _ dz1)
      walk_at "rd"
      refine q_ixT saz (atI_nat (j := 3) rfl) ?_
      refine wd_put (rows := []) W3 hsh dxr (tok1 hsh.ne fr1) (by simp [hy2]) fun d3 l3 c3 H10 kp10 hl3 W4 => ?_
      walk_at "rd"
      refine ⟨kp.tr kp10, kp10.lx.l sq, _, d3, l3, _, _, _, _, rfl, fun e => ?_, W4, by first | exact .inr (.inl ⟨rfl, rfl, rfl, rfl⟩) | simp⟩
      rw [e, kp _ _ rfl e9] at hl3
      cases hl3
    · cases hr
      obtain ⟨az, xr, rfl, saz, dxr⟩ := put_row (Dp.lx kp.lx _ _ dz2)
      walk_at "rd"
      refine q_ixT saz (atI_nat (j := 3) rfl) ?_
      refine wd_put (rows := [(1, r1)]) W3 hsh dxr (tok2 hsh.ne fr1 fr2) (by simp [hy2]) fun d3 l3 c3 H10 kp10 hl3 W4 => ?_
      walk_at "rd"
      refine ⟨kp.tr kp10, kp10.lx.l sq, _, d3, l3, _, _, _, _, rfl, fun e => ?_, W4, by first | exact .inr (.inr ⟨rfl, rfl, rfl, rfl⟩) | simp⟩
      rw [e, kp _ _ rfl e9] at hl3
      cases hl3
    · cases hr
  rintro pl σ H10 ⟨kp10, _, o8, d2, l2, ys2, rws, ops2, gv, rfl, hl2, W3, hcase⟩
  rcases hcase with ⟨hr, _⟩ | ⟨hr, _⟩ | ⟨_, rfl, rfl, rfl⟩
  · cases hr
  · cases hr
  refine go8 _ _ (q_seq fun nx9 go9 => ?_)
  have e10 : H10 lch = some (.lst ([.ref t0] ++ [z1, z2])) := kp10 _ _ rfl e9
  have dops10 := DpAll.lx kp10.lx _ _ dops9
  have lx10 : Lx H H10 := ((Lx.of ex05).tr (Lx.of ex58)).tr (kp9.lx.tr kp10.lx)
  have dsh10 := Dp.lx kp10.lx _ _ dsh9
  have scl10 := kp10 _ _ rfl scl9
  have lchH : H lch = none := (ex05.tr (ex6.tr ex7)).fr hlch
  have clch : cl ≠ lch := np_of ((ex6.tr ex7) _ _ scl5) hlch
  have rest9 : ∀ H11 o8 d3 l3 ys3 chs, Lx H H11 → Dp K H11 (.ref sh) (shD n cs) → H11 cl = some (.lst (ns.map V.int)) → H11 lch = some (.lst chs) → DpAll K H11 chs (List.map (opD n cs) (opsO od r1 r2)) →
      Wd K H11 n cs de dx sa dxs k p d3 l3 d0 [] [] none (some ([(1, r1), (2, r2)], od)) 2 ys3 (opsO od r1 r2) →
      nx9 [some (.ref a), some (.int at_), some (.ref cl), some (.ref sh), some (.ref sa), some (.ref de), some (.bl od), some (.ref lch), o8, none, none, none, none, none, none, none] H11 := by
    intro H11 o8 d3 l3 ys3 chs lx11 dsh11 scl11 e11 dops11 W
    refine go9 _ _ (q_seq fun nx10 go10 => ?_)
    walk_at "rd"
    refine q_meth W.hde (de_none (by decide +kernel) (by decide +kernel) (by decide +kernel) (by decide +kernel) (by decide +kernel) ..) ?_
    refine wd_keep W hsh (runsO hsh.ne od fr1 fr2) (by cases od <;> simp [opsO]) (by cases od <;> simp [opsO]) (by decide) (by decide) fun k' p' d' x' H12 kp12 hde' hsa' hk' hp' hd' hl' => ?_
    walk_at "rd"
    refine go10 _ _ (q_seq fun nx11 go11 => ?_)
    walk_at "rd"
    refine ⟨sa, dxs, k', p', .int 2, [] ++ [x'], [] ++ [.ref d0], .ref d', rfl, hsa', hk', hp', fun de2 dx2 l4 H13 ex13 hde20 hl40 hde2 hl4 => ?_⟩
    have W5 : Wd K H13 n cs de2 dx2 sa dxs k' p' d' l4 d' [x'] [.ref d0] (some ([(1, r1), (2, r2)], od)) (some ([(1, r1), (2, r2)], od)) 2 [] [] := ⟨hde2, ex13 _ _ hsa', ex13 _ _ hk', ex13 _ _ hp', hd'.ex ex13, hd'.ex ex13, hl4, .nil⟩
    have dsh13 := Dp.ex ex13 _ _ (Dp.lx kp12.lx _ _ dsh11)
    have scl13 := ex13 _ _ (kp12 _ _ rfl scl11)
    have e13 := ex13 _ _ (kp12 _ _ rfl e11)
    have dops13 := DpAll.ex ex13 _ _ (DpAll.lx kp12.lx _ _ dops11)
    have lx13 : Lx H H13 := lx11.tr (kp12.lx.tr (.of ex13))
    obtain ⟨cb, yb2, b1, b2, b3⟩ := dp_shape dsh13
    refine go11 _ _ (q_seq fun nx12 go12 => ?_)
    walk_at "rd"
    refine q_ixT b1 at0 ?_
    refine q_ixL (SqL.of scl13) (at_cells hns (k := 8) (by decide)) ?_
    walk_at "rd"
    refine ⟨sh, _, n, cs, rfl, dsh13, h8, fun pr r3 H14 ex14 dr3 fr3 => ?_⟩
    walk_at "rd"
    refine ⟨by show 4 ≤ sizeLine; decide, fun z3 hz3 => ⟨by show 1 ≤ sizeLine; decide, fun lo hlo => ?_⟩⟩
    have ex15 : Ex H14 (upd (upd H14 z3 (.tup [.str "put", .str n, .int 3, .ref pr])) lo (.lst [.ref z3])) := (Ex.nw hz3).tr (Ex.nw hlo)
    have sz3 : SqT K (upd (upd H14 z3 (.tup [.str "put", .str n, .int 3, .ref pr])) lo (.lst [.ref z3])) z3 [.str "put", .str n, .int 3, .ref pr] := (Ex.nw hlo).t (SqT.of upd_same)
    have slo : (upd (upd H14 z3 (.tup [.str "put", .str n, .int 3, .ref pr])) lo (.lst [.ref z3])) lo = some (.lst [.ref z3]) := upd_same
    revert ex15 sz3 slo
    generalize upd (upd H14 z3 (.tup [.str "put", .str n, .int 3, .ref pr])) lo (.lst [.ref z3]) = H15
    intro ex15 sz3 slo
    have ex35 := ex14.tr ex15
    have dr15 := Dp.ex ex15 _ _ dr3
    refine go12 _ _ (q_seq fun nx13 go13 => ?_)
    walk_at "rd"
    have W6 := W5.ex ex35
    refine q_meth W6.hde (de_none (by decide +kernel) (by decide +kernel) (by decide +kernel) (by decide +kernel) (by decide +kernel) ..) ?_
    refine q_ixT (ex35.t b1) at0 ?_
    refine q_ixL (SqL.of slo) at0 ?_
    refine q_ixT sz3 (atI_nat (j := 3) rfl) ?_
    refine wd_put W6 hsh dr15 (tok3 hsh.ne fr1 fr2 fr3) (by decide) fun d5 l5 c5 H16 kp16 hl5 W7 => ?_
    have W7' : Wd K H16 n cs de2 dx2 sa dxs k' p' d5 l5 d' [x'] [.ref d0] (some ([(1, r1), (2, r2)], od)) (some ([(1, r1), (2, r2), (3, r3)], od)) 3 [.ref c5] [.put 3 r3] := W7
    walk_at "rd"
    have lx16 : Lx H H16 := lx13.tr ((Lx.of ex35).tr kp16.lx)
    have dsh16 := Dp.lx kp16.lx _ _ (Dp.ex ex35 _ _ dsh13)
    have scl16 := kp16 _ _ rfl (ex35 _ _ scl13)
    have e16 := kp16 _ _ rfl (ex35 _ _ e13)
    have dops16 := DpAll.lx kp16.lx _ _ (DpAll.ex ex35 _ _ dops13)
    have slo16 := kp16 _ _ rfl slo
    have down16 : DpAll K H16 [.ref z3] (List.map (opD n cs) [.put 3 r3]) := .cons (.tup (kp16.lx.t sz3) (.cons (.str _) (.cons (.str _) (.cons (.int _) (.cons (Dp.lx kp16.lx _ _ dr15) .nil))))) .nil
    refine go13 _ _ (q_seq fun nx14 go14 => ?_)
    walk_at "rd"
    refine q_ixL (SqL.of scl16) (at_cells hns (k := 9) (by decide)) ?_
    walk_at "rd"
    refine ⟨⟨by decide, by decide⟩, by decide, ?_⟩
    generalize ns[9]! / 2 % 5 = en
    refine go14 _ _ (q_seq fun nx15 go15 => ?_)
    have restO : ∀ ov, ov = (decide (en = 1) || decide (en = 2)) → nx15 [some (.ref a), some (.int at_), some (.ref cl), some (.ref sh), some (.ref sa), some (.ref de2), some (.bl od), some (.ref lch), o8, some (.ref lo), some (.int en), some (.bl ov), none, none, none, none] H16 := by
      intro ov hov
      refine go15 _ _ (q_seq fun nx16 go16 => ?_)
      have restL : ∀ H17, ((en = 1 ∧ H17 = upd H16 de2 (deO K dx2 (.ref sa) (.int 1) (.ref d5) (.ref l5) false)) ∨ (en ≠ 1 ∧ H17 = H16)) → nx16 [some (.ref a), some (.int at_), some (.ref cl), some (.ref sh), some (.ref sa), some (.ref de2), some (.bl od), some (.ref lch), o8, some (.ref lo), some (.int en), some (.bl ov), none, none, none, none] H17 := by
        intro H17 h17
        refine go16 _ _ (q_seq fun nx17 go17 => ?_)
        have restW : ∀ H18, Kp H16 H18 → (∃ k2 p2 ks2, H18 sa = some (.ins (CS K) dxs (stF (.ref k2) (.ref p2) (.int 3))) ∧ H18 k2 = some (.lst ks2) ∧ (List.length ks2 : Int) = 1 + (if decide (en = 2) = true then 1 else 0)) → H18 l5 = some (.lst [.ref c5]) →
            ((ov = false ∧ H18 = H16) ∨ (ov = true ∧ H18 de2 = some (deO K dx2 (.ref sa) (.int 1) (.ref d5) (.ref l5) false))) →
            nx17 [some (.ref a), some (.int at_), some (.ref cl), some (.ref sh), some (.ref sa), some (.ref de2), some (.bl od), some (.ref lch), o8, some (.ref lo), some (.int en), some (.bl ov), none, none, none, none] H18 := by
          intro H18 kp18 hst hl18 hov18
          obtain ⟨k2, p2, ks2, hsa18, hk18, hks2⟩ := hst
          have lx18 : Lx H H18 := lx16.tr kp18.lx
          have dsh18 := Dp.lx kp18.lx _ _ dsh16
          have scl18 := kp18 _ _ rfl scl16
          have e18 := kp18 _ _ rfl e16
          have dops18 := DpAll.lx kp18.lx _ _ dops16
          have slo18 := kp18 _ _ rfl slo16
          have down18 := DpAll.lx kp18.lx _ _ down16
          refine go17 _ _ (q_seq fun nx18 go18 => ?_)
          walk_at "rd"
          refine q_ixL (SqL.of scl18) (at_cells hns (k := 9) (by decide)) ?_
          walk_at "rd"
          refine ⟨⟨by decide, by decide⟩, by decide, ?_⟩
          have w0 := Int.emod_nonneg (ns[9]! / 10) (by decide : (13 : Int) ≠ 0)
          have w13 := Int.emod_lt_of_pos (ns[9]! / 10) (by decide : (0 : Int) < 13)
          revert w0 w13
          generalize ns[9]! / 10 % 13 = way
          intro w0 w13
          refine go18 _ _ (q_seq fun nx19 go19 => ?_)
          walk_at "rd"
          refine ⟨sh, cl, n, cs, ns, rfl, dsh18, hsh, hlen, h8, SqL.of scl18, hns, fun pf g fl xs xt xc xn xr gs gt gc gn gr th H19 ex19 spf hg hfl hgv => ?_⟩
          walk_at "rd"
          refine go19 _ _ (q_seq fun nx20 go20 => ?_)
          walk_at "rd"
          refine q_ixT spf at1 ?_
          refine q_ixT spf at2 ?_
          refine ⟨way, fl, gs, gt, gc, gn, gr, ov, th, od, rfl, hfl, fun H20 ex20 => ?_⟩
          walk_at "rd"
          have ex80 := ex19.tr ex20
          have spf20 := ex20.t spf
          have hg20 := ex20 _ _ hg
          have hgv20 : Giv K H20 n cs xs xt xc xn xr gs gt gc gn gr th := by
            obtain ⟨ds, dt, dc, dn, dr, ⟨p1, p2, p3, p4, p5⟩, rest⟩ := hgv
            exact ⟨ds, dt, dc, dn, dr, ⟨Dp.ex ex20 _ _ p1, Dp.ex ex20 _ _ p2, Dp.ex ex20 _ _ p3, Dp.ex ex20 _ _ p4, Dp.ex ex20 _ _ p5⟩, rest⟩
          refine go20 _ _ (q_seq fun nx21 go21 => ?_)
          -- a call, at any heap that has grown
          have call : ∀ (HA : Hp) (N : Hp → Prop) (E' : XK), Ex H20 HA → (∀ r, duR way gs gt gc gn gr ov th od = some r → ∀ H1, Ex HA H1 → Er K E' r.c H1) → (duR way gs gt gc gn gr ov th od = none → ∀ H1, Lx HA H1 → N H1) → spCall K [.ref de2, .int way, .ref g] HA (fun _ H1 => N H1) E' := by
            intro HA N E' exA hE hN
            have ex8A := ex80.tr exA
            rcases hov18 with ⟨rfl, rfl⟩ | ⟨rfl, hd18⟩
            · have WA := W7'.ex ex8A
              obtain ⟨ds, dt, dc, dn, dr, ⟨p1, p2, p3, p4, p5⟩, rest⟩ := hgv20
              refine call_live (S1 := some ([(1, r1), (2, r2), (3, r3)], od)) WA.hde WA.hsa WA.hl (by show 1 ≤ 100; decide) WA.hk WA.hp (by show 1 ≤ 20; decide) (by show 1 ≤ 20; decide) WA.hS0 WA.hys ⟨_, ⟨rfl, tok3 hsh.ne fr1 fr2 fr3⟩, rfl⟩ (by simp) (by simp) hsh WA.hS (tok3 hsh.ne fr1 fr2 fr3) (by show 3 ≤ 7; decide) (fun i i1 i3 => ?_) (fun x hx => ?_) (exA _ _ hg20)
                ⟨ds, dt, dc, dn, dr, ⟨Dp.ex exA _ _ p1, Dp.ex exA _ _ p2, Dp.ex exA _ _ p3, Dp.ex exA _ _ p4, Dp.ex exA _ _ p5⟩, rest⟩ w0 (by omega) hE hN
              · have hi : i = 1 ∨ i = 2 ∨ i = 3 := by omega
                rcases hi with rfl | rfl | rfl
                · exact ⟨r1, by simp⟩
                · exact ⟨r2, by simp⟩
                · exact ⟨r3, by simp⟩
              · rcases List.mem_cons.mp hx with e | hx
                · rw [e]; exact ⟨by show (1 : Int) ≤ 1; decide, by show (1 : Int) ≤ 3; decide⟩
                rcases List.mem_cons.mp hx with e | hx
                · rw [e]; exact ⟨by show (1 : Int) ≤ 2; decide, by show (2 : Int) ≤ 3; decide⟩
                · have e : x = (3, r3) := by simpa using hx
                  rw [e]; exact ⟨by show (1 : Int) ≤ 3; decide, by show (3 : Int) ≤ 3; decide⟩
            · refine call_over (ex8A _ _ hd18) (ex8A _ _ hsa18) (ex8A _ _ hl18) (by show 1 ≤ 100; decide) (exA _ _ hg20) w0 (by omega) (hE .over ?_)
              simp [duR]
          have fin0 : ∀ H21, Lx H20 H21 → duR way gs gt gc gn gr ov th od = none → nx21 [some (.ref a), some (.int at_), some (.ref cl), some (.ref sh), some (.ref sa), some (.ref de2), some (.bl od), some (.ref lch), o8, some (.ref lo), some (.int en), some (.bl ov), some (.int way), some (.ref pf), some (.str (duW (duR way gs gt gc gn gr ov th od))), none] H21 := by
            intro H21 lx21 hr
            rw [hr]
            refine go21 _ _ ?_
            walk_at "rd"
            rw [if_pos (by rfl)]
            exact q H21 (lx18.tr ((Lx.of ex80).tr lx21))
          have fin1 : ∀ r H21, Ex H20 H21 → duR way gs gt gc gn gr ov th od = some r → nx21 [some (.ref a), some (.int at_), some (.ref cl), some (.ref sh), some (.ref sa), some (.ref de2), some (.bl od), some (.ref lch), o8, some (.ref lo), some (.int en), some (.bl ov), some (.int way), some (.ref pf), some (.str (duW (duR way gs gt gc gn gr ov th od))), none] H21 := by
            intro r H21 ex21 hr
            have ex8B := ex80.tr ex21
            refine go21 _ _ (q_seq fun nx22 go22 => ?_)
            walk_at "rd"
            rw [hr]
            refine q_iteP (fun e => absurd e (wd_none r)) fun _ => ?_
            refine go22 _ _ (q_seq fun nx23 go23 => ?_)
            walk_at "rd"
            have hsa21 := ex8B _ _ hsa18
            refine q_meth hsa21 (st_none (by decide +kernel) (by decide +kernel) (by decide +kernel) ..) ?_
            refine ⟨sa, dxs, _, _, _, rfl, hsa21, ?_⟩
            walk_at "rd"
            refine q_meth hsa21 (st_none (by decide +kernel) (by decide +kernel) (by decide +kernel) ..) ?_
            refine ⟨sa, dxs, k2, _, _, ks2, rfl, hsa21, SqL.of (ex8B _ _ hk18), ?_⟩
            walk_at "rd"
            rw [if_neg (fun z => z (by simpa using hks2))]
            have spf21 := ex21.t spf20
            refine q_ixT spf21 at0 ?_
            refine ⟨_, _, _, rfl, fun E' hE' => call H21 _ E' ex21 (fun r' hr' H1 ex => hE' r' H1 fun H22 ex22 => ?_) fun hr' => ?_⟩
            · walk_at "rd"
              have exF := ex8B.tr (ex.tr ex22)
              refine go23 _ _ ?_
              walk_at "rd"
              have lxF : Lx H H22 := lx18.tr (.of exF)
              rcases hov18 with ⟨rfl, rfl⟩ | ⟨rfl, hd18⟩
              · walk_at "rd"
                have WF := W7'.ex exF
                refine q_meth WF.hde (de_none (by decide +kernel) (by decide +kernel) (by decide +kernel) (by decide +kernel) (by decide +kernel) ..) ?_
                refine ⟨de2, dx2, _, _, _, l5, true, _, rfl, WF.hde, WF.hl, fun z => (by cases z), fun _ pm H23 ex23 em => ?_⟩
                have opk : ∀ op, op ∈ [Op.put 3 r3] → opOk op := fun op ho => by
                  have e : op = .put 3 r3 := by simpa using ho
                  rw [e]
                  exact (fits_row fr3).2
                refine q_eqD (.lst (SqL.of em) (DpAll.ex ex23 _ _ WF.hys)) (.lst (SqL.of (ex23 _ _ (exF _ _ slo18))) (DpAll.ex (exF.tr ex23) _ _ down18)) (sh_ops hsh _ opk) ?_
                walk_at "rd"
                have WG := WF.ex ex23
                have exG := exF.tr ex23
                refine q_meth WG.hde (de_none (by decide +kernel) (by decide +kernel) (by decide +kernel) (by decide +kernel) (by decide +kernel) ..) ?_
                refine ⟨de2, dx2, _, _, _, _, true, rfl, WG.hde, fun z => (by cases z), fun _ => ?_⟩
                walk_at "rd"
                intro dm hdm
                have exm : Ex H23 (upd H23 dm (.dK [])) := Ex.nw hdm
                have sdm : (upd H23 dm (.dK [])) dm = some (.dK []) := upd_same
                revert exm sdm
                generalize upd H23 dm (.dK []) = H24
                intro exm sdm
                refine q_cat ((exG.tr exm) _ _ e18) ((exG.tr exm) _ _ slo18) (by rw [DpAll.length dops18, List.length_map]; cases od <;> (show _ + 1 ≤ 1000; simp [opsO])) fun lcat H25 ex25 hlcat e25 => ?_
                have ex3' := exm.tr ex25
                refine ⟨dm, lcat, _, n, cs, none, some ([(1, r1), (2, r2), (3, r3)], od), opsO od r1 r2 ++ [.put 3 r3], rfl, ex25 _ _ sdm, SqL.of e25, ?_, runs3 hsh.ne od fr1 fr2 fr3, by simp, fun pmd H26 ex26 hpmd hM => ?_⟩
                · rw [List.map_append]
                  exact DpAll.app (DpAll.ex (exG.tr ex3') _ _ dops18) (DpAll.ex (exG.tr ex3') _ _ down18)
                obtain ⟨t, dxt, sht, rt, ixt, q1, q2, q3, q4⟩ := (WG.ex ex3').hS
                obtain ⟨kvr, kr1, _⟩ := q2.row
                obtain ⟨kvi, ki1⟩ := ixat_d q2.idx
                refine ⟨d5, pmd, n, cs, [(1, r1), (2, r2), (3, r3)], od, t, dxt, sht, rt, ixt, rfl, ex26 _ _ q1, q2.ex ex26, q3, q4, np_of q1 hpmd, np_of kr1 hpmd, np_of ki1 hpmd, hM, hsh, tok3 hsh.ne fr1 fr2 fr3, h8, fun H27 ex27 => ?_⟩
                exact q H27 (lxF.tr (.of (ex23.tr (ex3'.tr (ex26.tr ex27)))))
              · walk_at "rd"
                exact q H22 lxF
            · rw [hr] at hr'
              cases hr'
          walk_at "rd"
          refine q_ixT spf20 at0 ?_
          refine ⟨_, _, _, rfl, fun E' hE' => call H20 _ E' (exr _) (fun r hr H1 ex => hE' r H1 ?_) fun hr H1 lx => ?_⟩
          · have z := fin1 r H1 ex hr
            rw [hr] at z ⊢
            walk_at "rd"
            simp only [duW] at z ⊢
            walk_at "rd"
            exact z
          · have z := fin0 H1 lx hr
            rw [hr] at z ⊢
            simp only [duW] at z ⊢
            walk_at "rd"
            exact z
        walk_at "rd"
        rcases h17 with ⟨h1, rfl⟩ | ⟨h1, rfl⟩
        · rw [if_neg (by omega)]
          have nsa := de_sa W7'.hde W7'.hsa
          refine restW _ (Kp.one W7'.hde (fst_de ..) Na.up) ⟨k', p', [x'], by rw [upd_ne nsa]; exact W7'.hsa, by rw [upd_ne (kv_lst W7'.hk W7'.hde)]; exact W7'.hk, ?_⟩ (by rw [upd_ne (kv_lst W7'.hl W7'.hde)]; exact W7'.hl) (.inr ⟨?_, upd_same⟩)
          · rw [decide_eq_false (by omega : ¬ en = 2)]
            rfl
          · rw [hov, decide_eq_true h1]
            rfl
        · by_cases h2 : en = 2
          · rw [if_pos h2]
            refine q_meth W7'.hde (de_none (by decide +kernel) (by decide +kernel) (by decide +kernel) (by decide +kernel) (by decide +kernel) ..) ?_
            refine wd_keep (S1 := some ([(1, r1), (2, r2), (3, r3)], od)) W7' hsh ⟨_, ⟨rfl, tok3 hsh.ne fr1 fr2 fr3⟩, rfl⟩ (by simp) (by simp) (by show 1 ≤ 20; decide) (by show 1 ≤ 20; decide) fun k6 p6 d6 x6 H18 kp18 h1' h2' h3' h4' h5' h6' => ?_
            walk_at "rd"
            refine restW _ kp18 ⟨k6, p6, _, h2', h3', ?_⟩ h6' (.inr ⟨?_, h1'⟩)
            · rw [decide_eq_true h2]
              rfl
            · rw [hov, decide_eq_true h2]
              simp
          · rw [if_neg h2]
            refine restW _ (kpr _) ⟨k', p', [x'], W7'.hsa, W7'.hk, ?_⟩ W7'.hl (.inl ⟨?_, rfl⟩)
            · rw [decide_eq_false h2]
              rfl
            · rw [hov, decide_eq_false h1, decide_eq_false h2]
              rfl
      walk_at "rd"
      refine q_iteP (fun h1 => ?_) fun h1 => restL _ (.inr ⟨h1, rfl⟩)
      refine q_meth W7'.hde (de_none (by decide +kernel) (by decide +kernel) (by decide +kernel) (by decide +kernel) (by decide +kernel) ..) ?_
      refine ⟨de2, dx2, _, _, _, _, true, rfl, W7'.hde, fun z => (by cases z), fun _ => ?_⟩
      walk_at "rd"
      exact restL _ (.inl ⟨h1, rfl⟩)
    walk_at "rd"
    refine q_iteP (fun h1 => ?_) fun h1 => ?_
    · exact restO true (by rw [decide_eq_true h1]; rfl)
    · exact restO _ (by rw [decide_eq_false h1]; rfl)
  walk_at "rd"
  cases od with
  | false =>
    walk_at "rd"
    exact rest9 H10 o8 d2 l2 ys2 _ lx10 dsh10 scl10 e10 dops10 W3
  | true =>
    walk_at "rd"
    obtain ⟨ca', ysh', s1, s2, s3⟩ := dp_shape dsh10
    obtain ⟨cc, cr, hcs⟩ : ∃ c cr, cs = c :: cr := by
      cases hc : cs with
      | nil => exact absurd hc hsh.ne
      | cons c cr => exact ⟨c, cr, rfl⟩
    obtain ⟨y0, hy0, dy0⟩ := DpAll.at_ s3 (i := 0) (d := colD cc) (by rw [hcs]; rfl)
    obtain ⟨yb, rfl, hyb⟩ := dp_col dy0
    have hfc : cc.1 = fcol cs := by rw [hcs]; rfl
    rw [hfc] at hyb
    refine q_meth W3.hde (de_none (by decide +kernel) (by decide +kernel) (by decide +kernel) (by decide +kernel) (by decide +kernel) ..) ?_
    refine q_ixT s1 at0 ?_
    refine q_ixT s1 at1 ?_
    refine q_ixT s2 (atI_nat (j := 0) hy0) ?_
    refine q_ixT hyb at0 ?_
    have hy2 : ys2.length = 3 := by rw [DpAll.length W3.hys]; rfl
    refine wd_ord W3 hsh (tok2 hsh.ne fr1 fr2) (by omega) fun d3 l3 c3 H11 kp11 hl3 W4 => ?_
    walk_at "rd"
    have e11 := kp11 _ _ rfl e10
    have s1' := kp11.lx.t s1
    refine ⟨.inl ⟨rfl, _, SqL.of e11⟩, ?_⟩
    refine q_ixT s1' at0 ?_
    refine q_ixT s1' at1 ?_
    refine q_ixT (kp11.lx.t s2) (atI_nat (j := 0) hy0) ?_
    refine q_ixT (kp11.lx.t hyb) at0 ?_
    refine ⟨by show 3 ≤ sizeLine; decide, fun zi hzi => ?_⟩
    have exz : Ex H11 (upd H11 zi (.tup [.str "index", .str n, .str (fcol cs)])) := Ex.nw hzi
    have e12 := exz _ _ e11
    refine ⟨lch, _, _, rfl, rfl, e12, by show 3 < sizeLine; decide, ?_⟩
    have na : Na lch (upd H11 zi (.tup [.str "index", .str n, .str (fcol cs)])) (upd (upd H11 zi (.tup [.str "index", .str n, .str (fcol cs)])) lch (.lst (([.ref t0] ++ [z1, z2]) ++ [.ref zi]))) := Na.up
    have tt := na_tt na e12
    have lx12 : Lx H (upd (upd H11 zi (.tup [.str "index", .str n, .str (fcol cs)])) lch (.lst (([.ref t0] ++ [z1, z2]) ++ [.ref zi]))) := fun x o so hx => na _ _ (exz _ _ (kp11.lx _ _ so (lx10 _ _ so hx))) (np_of hx lchH)
    have hkl : l3 ≠ lch := fun e => by rw [e, e10] at hl3; cases hl3
    walk_at "rd"
    refine rest9 _ o8 d3 l3 _ _ lx12 (Dp.tt tt _ _ (shp_nl ..) (Dp.ex exz _ _ (Dp.lx kp11.lx _ _ dsh10))) (na _ _ (exz _ _ (kp11 _ _ rfl scl10)) clch) upd_same ?_ ((W4.ex exz).na na e12 lk lp hkl)
    exact DpAll.app (DpAll.tt tt _ _ (ops_nl n cs [.mk, .put 1 r1, .put 2 r2]) (DpAll.ex exz _ _ (DpAll.lx kp11.lx _ _ dops10))) (.cons (.tup (tt.t (SqT.of upd_same)) (.cons (.str _) (.cons (.str _) (.cons (.str _) .nil)))) .nil)
end


section
variable {P : Program} {w : World} {K : PySem.W.Frag} {mg : Str → Option Value} {base : Heap}
theorem sc_law : FnScope ["_law_script", "_law_j"] ["_law_script"] (defScope s_law) := ⟨rfl, rfl, rfl, by decide +kernel, rfl, by decide +kernel, by decide +kernel⟩
def spLaw (K : PySem.W.Frag) : Sp := fun vs H Q _ => ∃ (a : Addr) (sc : List Int), vs = [.ref a] ∧ SqL K H a (sc.map V.int) ∧ ∀ H', Q (.bl true) H'
theorem law_body (T : Tx K mg) (f : Addr) (cdv : Value) (A : Around) (outer : List Env) (s : Shared) (H : Hp) (vs : List V) (Q : VK) (E : XK) (hr : Room 17 (A.deeper (envOfC "law" (defScope s_law) s.heap.objs.size f cdv))) (h : spLaw K vs H Q E) :
    ∃ t, PSs (cxOf CX0 P w K mg base ["_law_script", "_law_j"] "law" (defScope s_law) f cdv A outer s H E).nox (defBody s_law) t ∧ t { nx := fun _ H' => Q .non H', rt := Q } (start ["_law_script", "_law_j"] vs) H := by
  refine ⟨_, (pss_cons (ps_for PassesOwn.never rfl (pi_range1 (by rfl) (n_range T) (pa_cons pe_int pa_nil)) (pg_name (i := 1) sc_law.nd rfl (Or.inl rfl)) (pss_one (ps_if (pt_not (pt_val (pe_g (ok_law_once T) hr (by decide) p0 (pa_cons (pv 0) (pa_cons (pe_op op_mul pe_int (pv 1)) pa_nil))))) (pss_one (ps_ret pe_bl)) pss_nil)))
      (pss_one (ps_ret pe_bl))), ?_⟩
  obtain ⟨a, sc, rfl, ha, q⟩ := h
  walk_at "rd"
  refine f_rng (n := 6) (fun R r => by walk_at "rd"; exact r) (by decide) (fun k σ H' => Lx H H' ∧ ∃ o, σ = [some (.ref a), o]) ⟨lxr _, none, rfl⟩ ?_ ?_
  · rintro k σ H' hk ⟨lx, o, rfl⟩
    walk_at "rd"
    refine ⟨.inr ⟨by omega, by omega⟩, ?_⟩
    refine ⟨a, _, sc, rfl, by omega, lx.l ha, fun H2 lx2 => ?_⟩
    walk_at "rd"
    exact ⟨lx.tr lx2, _, rfl⟩
  · rintro σ H' ⟨lx, o, rfl⟩
    walk_at "rd"
    exact q H'
end
theorem facts {P : Program} {w : World} {K : PySem.W.Frag} {h : Heap} {mg : Str → Option Value} {f : Addr} (X : K.In h) (G : h.Ns mainGlobals mg) (hfa : mg ("law" : Str) = some (.ref f)) (c : SaysM K) :
    ∃ fd : FuncData, (∀ (s : Shared) (v : Value), BindsTo s fd ⟨[v], []⟩ [("_law_script", v)]) ∧ ∀ base : Heap, K.In base → base.Ns mainGlobals mg → FnOk P w K mg base CX0 18 f fd ["_law_script"] (spLaw K) := by
  have T : Tx K mg := ⟨c, h, X, G⟩
  obtain ⟨fd, hm, F⟩ := f_law T
  have e := hfa.symm.trans hm
  cases e
  have b := FunD.bindsA (ps := ["_law_script"]) F fun _ _ _ _ _ _ us hl => match us, hl with | [_], _ => rfl
  refine ⟨fd, fun s v => b s [v] rfl, fun base _ _ => F.ok sc_law (fun vs H Q E hsp => ?_) fun cdv A outer s H vs Q E hr hsp => ?_⟩
  · obtain ⟨a, sc, rfl, _⟩ := hsp
    rfl
  · obtain ⟨t, a, b⟩ := law_body (P := P) (w := w) (base := base) T _ cdv A outer s H vs Q E hr hsp
    exact ⟨t, a.nox, b⟩
end TB
open PySem PySem.W PySem.Calls PyProof.Rows
theorem PySem.Challenge.cw_tablestore_k44_refusals_holds : PySem.Challenge.rw_tablestore_k44_refusals.Holds := by
  w_on; o_law
  refine HandSHeadRun.head_any (r := OpenLaw.row PySem.Challenge.rw_tablestore_k44_refusals) (q := view (OpenLaw.row PySem.Challenge.rw_tablestore_k44_refusals).prog [122]) (H := TD.hookM) (ob := TD.ob) (M := 20000) (loose := TD.names) (d := HandSHeadRun.topDef (OpenLaw.row PySem.Challenge.rw_tablestore_k44_refusals).prog 122) (kwd := []) TD.ob_eq
    (by kernel_rfl) (fun s => by kernel_rfl) TD.run (by kernel_rfl) (by kernel_rfl) (by kernel_rfl) (by rfl) (by first | assumption | decide +kernel) (by decide +kernel) ⟨rfl, rfl, rfl, rfl, rfl, by decide +kernel⟩ ?hw ?hc
  case hw => w_witness2
  case hc =>
    refine L2.walk_ofE (l := PySem.Challenge.rw_tablestore_k44_refusals) (n := 63) (k := 18) (x := "_law_script") (CX := L2.CX0) rfl (by decide) (by kernel_rfl) ⟨rfl, by decide, by decide⟩ ?F (fun _ _ _ _ z => z)
    intro w mg fa h Y G hmg0
    obtain ⟨K, KX, c⟩ := Y
    have hmg : mg ("law" : PySem.Str) = some (.ref fa) := by
      have e : (HandSHeadRun.topDef (OpenLaw.row PySem.Challenge.rw_tablestore_k44_refusals).prog 122).name = ("law" : PySem.Str) := by kernel_rfl
      rw [← e]
      exact hmg0
    obtain ⟨fd, hb, hF⟩ := TB.facts (P := (PySem.Challenge.rw_tablestore_k44_refusals).prog) (w := w) KX G hmg c
    exact ⟨K, fd, TB.spLaw K, KX, hb, fun H a ns hl _ hS => ⟨a, ns, rfl, hS, fun _ => rfl⟩, hF⟩
