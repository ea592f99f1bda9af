import PyProof.Rows.All
import Wide.All
import OpenK.AllK
import Wide.FinOn
import KE.KStateDown
import KE.KEqNest
import Lean
import HandS.Base
import HandS.Call
import HandS.List
import HandS.Comp
import HandS.Ends
import HandS.Dict
import HandS.Iter
import HandS.Walk
import HandS.DictEq
import HandS.DeepEq
import HandS.Text
import HandS.Exc
import HandS.TryOnly
import HandS.ExcOwn
import HandS.Words
import HandS.WordsList
import HandS.WordsDict
import HandS.WordsExc
import HandS.More
import HandS.Deep
import HandS.IsInst
import HandS.Defaults
import HandS.Conv
import HandS.RaiseMore
import HandS.Small
import HandS.Wide
import HandS.Head0
import HandS.Head1
import HandS.Head2
import HandS.HeadEnd
import HandS.HeadHook1
import HandS.HeadHook2
import PySem.Challenge.RW_planstore_k26_whole_falls
import PyProof.NeKinds
set_option Elab.async false
set_option linter.all false
set_option maxRecDepth 100000
/-! The falls: the text of the program by places, the defs as data, the facts of the head. -/
namespace Fl
open PySem PySem.Spec PyProof.Rows L2
/-! ### the text by places -/
def top (i : Nat) : Stmt := PySem.Challenge.pw_planstore_k26_whole_falls.main.body.getD i (.Pass ⟨0, 0, 0, 0⟩)
abbrev s_is_name : Stmt := top 6
abbrev s_is_kind : Stmt := top 7
abbrev s_value_text : Stmt := top 8
abbrev s_figures_in : Stmt := top 9
abbrev s_value_in : Stmt := top 10
abbrev s_row_text : Stmt := top 13
abbrev s_count_in : Stmt := top 14
abbrev s_values_in : Stmt := top 15
abbrev s_stuff_in : Stmt := top 16
abbrev s_row_in : Stmt := top 17
abbrev s_whole_rows : Stmt := top 18
abbrev s_kept_many_rows : Stmt := top 19
abbrev s_page_text : Stmt := top 22
abbrev s_count_from : Stmt := top 23
abbrev s_rows_in : Stmt := top 24
abbrev s_page_in : Stmt := top 25
abbrev s_slots_of : Stmt := top 26
abbrev s_newest : Stmt := top 27
abbrev s_late_page : Stmt := top 28
abbrev s_trim_log : Stmt := top 29
abbrev s_kept_stuff : Stmt := top 31
abbrev s_table_now : Stmt := top 32
abbrev s_numbers_now : Stmt := top 33
abbrev s_seen : Stmt := top 34
abbrev s_come_up : Stmt := top 35
abbrev s_D_init : Stmt := inClass (top 43) 0
abbrev s_D_log_rows : Stmt := inClass (top 43) 1
abbrev s_D_page : Stmt := inClass (top 43) 2
abbrev s_D_writes : Stmt := inClass (top 43) 3
abbrev s_D_fall_at : Stmt := inClass (top 43) 4
abbrev s_D_power : Stmt := inClass (top 43) 5
abbrev s_D_coming : Stmt := inClass (top 43) 6
abbrev s_D_add_row : Stmt := inClass (top 43) 7
abbrev s_D_put_page : Stmt := inClass (top 43) 8
abbrev s_D_cut_to : Stmt := inClass (top 43) 9
abbrev s_D_cut_tail : Stmt := inClass (top 43) 10
abbrev s_D_cut_head : Stmt := inClass (top 43) 11
abbrev s_is_row_of : Stmt := top 48
abbrev s_need_pair : Stmt := top 49
abbrev s_columns_in : Stmt := top 50
abbrev s_tables_in : Stmt := top 51
abbrev s_orders_in : Stmt := top 52
abbrev s_S_init : Stmt := inClass (top 53) 0
abbrev s_S_need_table : Stmt := inClass (top 53) 1
abbrev s_S_table_names : Stmt := inClass (top 53) 2
abbrev s_S_columns_of : Stmt := inClass (top 53) 3
abbrev s_l_cell : Stmt := top 55
abbrev s_l_draws : Stmt := top 56
abbrev s_l_names : Stmt := top 57
abbrev s_l_schema : Stmt := top 58
abbrev s_l_value : Stmt := top 59
abbrev s_l_row : Stmt := top 60
abbrev s_l_stuff : Stmt := top 61
abbrev s_l_done : Stmt := top 62
abbrev s_l_copy : Stmt := top 63
abbrev s_l_lists : Stmt := top 64
abbrev s_l_kept : Stmt := top 65
abbrev s_l_paged : Stmt := top 66
abbrev s_l_trimmed : Stmt := top 67
abbrev s_l_due : Stmt := top 68
abbrev s_l_come : Stmt := top 69
abbrev s_l_tail : Stmt := top 70
abbrev s_l_up : Stmt := top 71
abbrev s_law : Stmt := top 72
/-! ### the defs as data -/
def d_is_name : He.DefD := ⟨("is_name", none), "is_name", "is_name", defArgs s_is_name, defBody s_is_name, defScope s_is_name, [], []⟩
def d_is_kind : He.DefD := ⟨("is_kind", none), "is_kind", "is_kind", defArgs s_is_kind, defBody s_is_kind, defScope s_is_kind, [], []⟩
def d_value_text : He.DefD := ⟨("value_text", none), "value_text", "value_text", defArgs s_value_text, defBody s_value_text, defScope s_value_text, [], []⟩
def d_figures_in : He.DefD := ⟨("figures_in", none), "figures_in", "figures_in", defArgs s_figures_in, defBody s_figures_in, defScope s_figures_in, [], []⟩
def d_value_in : He.DefD := ⟨("value_in", none), "value_in", "value_in", defArgs s_value_in, defBody s_value_in, defScope s_value_in, [], []⟩
def d_row_text : He.DefD := ⟨("row_text", none), "row_text", "row_text", defArgs s_row_text, defBody s_row_text, defScope s_row_text, [], []⟩
def d_count_in : He.DefD := ⟨("count_in", none), "count_in", "count_in", defArgs s_count_in, defBody s_count_in, defScope s_count_in, [], []⟩
def d_values_in : He.DefD := ⟨("values_in", none), "values_in", "values_in", defArgs s_values_in, defBody s_values_in, defScope s_values_in, [], []⟩
def d_stuff_in : He.DefD := ⟨("stuff_in", none), "stuff_in", "stuff_in", defArgs s_stuff_in, defBody s_stuff_in, defScope s_stuff_in, [], []⟩
def d_row_in : He.DefD := ⟨("row_in", none), "row_in", "row_in", defArgs s_row_in, defBody s_row_in, defScope s_row_in, [], []⟩
def d_whole_rows : He.DefD := ⟨("whole_rows", none), "whole_rows", "whole_rows", defArgs s_whole_rows, defBody s_whole_rows, defScope s_whole_rows, [], []⟩
def d_kept_many_rows : He.DefD := ⟨("kept_many_rows", none), "kept_many_rows", "kept_many_rows", defArgs s_kept_many_rows, defBody s_kept_many_rows, defScope s_kept_many_rows, [], []⟩
def d_page_text : He.DefD := ⟨("page_text", none), "page_text", "page_text", defArgs s_page_text, defBody s_page_text, defScope s_page_text, [], []⟩
def d_count_from : He.DefD := ⟨("count_from", none), "count_from", "count_from", defArgs s_count_from, defBody s_count_from, defScope s_count_from, [], []⟩
def d_rows_in : He.DefD := ⟨("rows_in", none), "rows_in", "rows_in", defArgs s_rows_in, defBody s_rows_in, defScope s_rows_in, [], []⟩
def d_page_in : He.DefD := ⟨("page_in", none), "page_in", "page_in", defArgs s_page_in, defBody s_page_in, defScope s_page_in, [], []⟩
def d_slots_of : He.DefD := ⟨("slots_of", none), "slots_of", "slots_of", defArgs s_slots_of, defBody s_slots_of, defScope s_slots_of, [], []⟩
def d_newest : He.DefD := ⟨("newest", none), "newest", "newest", defArgs s_newest, defBody s_newest, defScope s_newest, [], []⟩
def d_late_page : He.DefD := ⟨("late_page", none), "late_page", "late_page", defArgs s_late_page, defBody s_late_page, defScope s_late_page, [], []⟩
def d_trim_log : He.DefD := ⟨("trim_log", none), "trim_log", "trim_log", defArgs s_trim_log, defBody s_trim_log, defScope s_trim_log, [], []⟩
def d_kept_stuff : He.DefD := ⟨("kept_stuff", none), "kept_stuff", "kept_stuff", defArgs s_kept_stuff, defBody s_kept_stuff, defScope s_kept_stuff, [], []⟩
def d_table_now : He.DefD := ⟨("table_now", none), "table_now", "table_now", defArgs s_table_now, defBody s_table_now, defScope s_table_now, [], []⟩
def d_numbers_now : He.DefD := ⟨("numbers_now", none), "numbers_now", "numbers_now", defArgs s_numbers_now, defBody s_numbers_now, defScope s_numbers_now, [], []⟩
def d_seen : He.DefD := ⟨("seen", none), "seen", "seen", defArgs s_seen, defBody s_seen, defScope s_seen, [], []⟩
def d_come_up : He.DefD := ⟨("come_up", none), "come_up", "come_up", defArgs s_come_up, defBody s_come_up, defScope s_come_up, [], []⟩
def d_D_init : He.DefD := ⟨("Disk", some "__init__"), "__init__", "Disk.__init__", defArgs s_D_init, defBody s_D_init, defScope s_D_init, [], []⟩
def d_D_log_rows : He.DefD := ⟨("Disk", some "log_rows"), "log_rows", "Disk.log_rows", defArgs s_D_log_rows, defBody s_D_log_rows, defScope s_D_log_rows, [], []⟩
def d_D_page : He.DefD := ⟨("Disk", some "page"), "page", "Disk.page", defArgs s_D_page, defBody s_D_page, defScope s_D_page, [], []⟩
def d_D_writes : He.DefD := ⟨("Disk", some "writes"), "writes", "Disk.writes", defArgs s_D_writes, defBody s_D_writes, defScope s_D_writes, [], []⟩
def d_D_fall_at : He.DefD := ⟨("Disk", some "fall_at"), "fall_at", "Disk.fall_at", defArgs s_D_fall_at, defBody s_D_fall_at, defScope s_D_fall_at, [], []⟩
def d_D_power : He.DefD := ⟨("Disk", some "power"), "power", "Disk.power", defArgs s_D_power, defBody s_D_power, defScope s_D_power, [], []⟩
def d_D_coming : He.DefD := ⟨("Disk", some "coming"), "coming", "Disk.coming", defArgs s_D_coming, defBody s_D_coming, defScope s_D_coming, [], []⟩
def d_D_add_row : He.DefD := ⟨("Disk", some "add_row"), "add_row", "Disk.add_row", defArgs s_D_add_row, defBody s_D_add_row, defScope s_D_add_row, [], []⟩
def d_D_put_page : He.DefD := ⟨("Disk", some "put_page"), "put_page", "Disk.put_page", defArgs s_D_put_page, defBody s_D_put_page, defScope s_D_put_page, [], []⟩
def d_D_cut_to : He.DefD := ⟨("Disk", some "cut_to"), "cut_to", "Disk.cut_to", defArgs s_D_cut_to, defBody s_D_cut_to, defScope s_D_cut_to, [], []⟩
def d_D_cut_tail : He.DefD := ⟨("Disk", some "cut_tail"), "cut_tail", "Disk.cut_tail", defArgs s_D_cut_tail, defBody s_D_cut_tail, defScope s_D_cut_tail, [], []⟩
def d_D_cut_head : He.DefD := ⟨("Disk", some "cut_head"), "cut_head", "Disk.cut_head", defArgs s_D_cut_head, defBody s_D_cut_head, defScope s_D_cut_head, [], []⟩
def d_is_row_of : He.DefD := ⟨("is_row_of", none), "is_row_of", "is_row_of", defArgs s_is_row_of, defBody s_is_row_of, defScope s_is_row_of, [], []⟩
def d_need_pair : He.DefD := ⟨("need_pair", none), "need_pair", "need_pair", defArgs s_need_pair, defBody s_need_pair, defScope s_need_pair, [], []⟩
def d_columns_in : He.DefD := ⟨("columns_in", none), "columns_in", "columns_in", defArgs s_columns_in, defBody s_columns_in, defScope s_columns_in, [], []⟩
def d_tables_in : He.DefD := ⟨("tables_in", none), "tables_in", "tables_in", defArgs s_tables_in, defBody s_tables_in, defScope s_tables_in, [], []⟩
def d_orders_in : He.DefD := ⟨("orders_in", none), "orders_in", "orders_in", defArgs s_orders_in, defBody s_orders_in, defScope s_orders_in, [], []⟩
def d_S_init : He.DefD := ⟨("Schema", some "__init__"), "__init__", "Schema.__init__", defArgs s_S_init, defBody s_S_init, defScope s_S_init, [.non], []⟩
def d_S_need_table : He.DefD := ⟨("Schema", some "need_table"), "need_table", "Schema.need_table", defArgs s_S_need_table, defBody s_S_need_table, defScope s_S_need_table, [], []⟩
def d_S_table_names : He.DefD := ⟨("Schema", some "table_names"), "table_names", "Schema.table_names", defArgs s_S_table_names, defBody s_S_table_names, defScope s_S_table_names, [], []⟩
def d_S_columns_of : He.DefD := ⟨("Schema", some "columns_of"), "columns_of", "Schema.columns_of", defArgs s_S_columns_of, defBody s_S_columns_of, defScope s_S_columns_of, [], []⟩
def d_l_cell : He.DefD := ⟨("_law_cell", none), "_law_cell", "_law_cell", defArgs s_l_cell, defBody s_l_cell, defScope s_l_cell, [], []⟩
def d_l_draws : He.DefD := ⟨("_law_draws", none), "_law_draws", "_law_draws", defArgs s_l_draws, defBody s_l_draws, defScope s_l_draws, [], []⟩
def d_l_names : He.DefD := ⟨("_law_names", none), "_law_names", "_law_names", defArgs s_l_names, defBody s_l_names, defScope s_l_names, [], []⟩
def d_l_schema : He.DefD := ⟨("_law_schema", none), "_law_schema", "_law_schema", defArgs s_l_schema, defBody s_l_schema, defScope s_l_schema, [], []⟩
def d_l_value : He.DefD := ⟨("_law_value", none), "_law_value", "_law_value", defArgs s_l_value, defBody s_l_value, defScope s_l_value, [], []⟩
def d_l_row : He.DefD := ⟨("_law_row", none), "_law_row", "_law_row", defArgs s_l_row, defBody s_l_row, defScope s_l_row, [], []⟩
def d_l_stuff : He.DefD := ⟨("_law_stuff", none), "_law_stuff", "_law_stuff", defArgs s_l_stuff, defBody s_l_stuff, defScope s_l_stuff, [], []⟩
def d_l_done : He.DefD := ⟨("_law_done", none), "_law_done", "_law_done", defArgs s_l_done, defBody s_l_done, defScope s_l_done, [], []⟩
def d_l_copy : He.DefD := ⟨("_law_copy", none), "_law_copy", "_law_copy", defArgs s_l_copy, defBody s_l_copy, defScope s_l_copy, [], []⟩
def d_l_lists : He.DefD := ⟨("_law_lists", none), "_law_lists", "_law_lists", defArgs s_l_lists, defBody s_l_lists, defScope s_l_lists, [], []⟩
def d_l_kept : He.DefD := ⟨("_law_kept", none), "_law_kept", "_law_kept", defArgs s_l_kept, defBody s_l_kept, defScope s_l_kept, [], []⟩
def d_l_paged : He.DefD := ⟨("_law_paged", none), "_law_paged", "_law_paged", defArgs s_l_paged, defBody s_l_paged, defScope s_l_paged, [], []⟩
def d_l_trimmed : He.DefD := ⟨("_law_trimmed", none), "_law_trimmed", "_law_trimmed", defArgs s_l_trimmed, defBody s_l_trimmed, defScope s_l_trimmed, [], []⟩
def d_l_due : He.DefD := ⟨("_law_due", none), "_law_due", "_law_due", defArgs s_l_due, defBody s_l_due, defScope s_l_due, [], []⟩
def d_l_come : He.DefD := ⟨("_law_come", none), "_law_come", "_law_come", defArgs s_l_come, defBody s_l_come, defScope s_l_come, [], []⟩
def d_l_tail : He.DefD := ⟨("_law_tail", none), "_law_tail", "_law_tail", defArgs s_l_tail, defBody s_l_tail, defScope s_l_tail, [], []⟩
def d_l_up : He.DefD := ⟨("_law_up", none), "_law_up", "_law_up", defArgs s_l_up, defBody s_l_up, defScope s_l_up, [], []⟩
def d_law : He.DefD := ⟨("law", none), "law", "law", defArgs s_law, defBody s_law, defScope s_law, [], []⟩
def fn : List He.DefD := [d_is_name, d_is_kind, d_value_text, d_figures_in, d_value_in, d_row_text, d_count_in, d_values_in, d_stuff_in, d_row_in, d_whole_rows, d_kept_many_rows, d_page_text, d_count_from, d_rows_in, d_page_in, d_slots_of, d_newest, d_late_page, d_trim_log, d_kept_stuff, d_table_now, d_numbers_now, d_seen, d_come_up, d_D_init, d_D_log_rows, d_D_page, d_D_writes, d_D_fall_at, d_D_power, d_D_coming, d_D_add_row, d_D_put_page, d_D_cut_to, d_D_cut_tail, d_D_cut_head, d_is_row_of, d_need_pair, d_columns_in, d_tables_in, d_orders_in, d_S_init, d_S_need_table, d_S_table_names, d_S_columns_of, d_l_cell, d_l_draws, d_l_names, d_l_schema, d_l_value, d_l_row, d_l_stuff, d_l_done, d_l_copy, d_l_lists, d_l_kept, d_l_paged, d_l_trimmed, d_l_due, d_l_come, d_l_tail, d_l_up, d_law]
/-! ### the facts -/
def fa : List He.Fa := [.glo "is_name", .glo "is_kind", .glo "value_text", .glo "figures_in", .glo "value_in", .glo "row_text", .glo "count_in", .glo "values_in", .glo "stuff_in", .glo "row_in", .glo "whole_rows", .glo "kept_many_rows", .glo "page_text", .glo "count_from", .glo "rows_in", .glo "page_in", .glo "slots_of", .glo "newest", .glo "late_page", .glo "trim_log", .glo "kept_stuff", .glo "table_now", .glo "numbers_now", .glo "seen", .glo "come_up", .glo "is_row_of", .glo "need_pair", .glo "columns_in", .glo "tables_in", .glo "orders_in", .glo "_law_cell", .glo "_law_draws", .glo "_law_names", .glo "_law_schema", .glo "_law_value", .glo "_law_row", .glo "_law_stuff", .glo "_law_done", .glo "_law_copy", .glo "_law_lists", .glo "_law_kept", .glo "_law_paged", .glo "_law_trimmed", .glo "_law_due", .glo "_law_come", .glo "_law_tail", .glo "_law_up", .glo "law", .free "isinstance", .free "len", .free "str", .free "int", .free "zip", .free "enumerate", .free "tuple", .free "list", .free "dict", .free "sorted", .free "min", .free "max", .free "range", .free "abs", .free "bool", .glo "Disk", .cls "Disk", .mkr "Disk", .noat "Disk" "held_rows", .noat "Disk" "held_pages", .noat "Disk" "many_writes", .noat "Disk" "due", .noat "Disk" "is_down", .meth "Disk" "log_rows", .meth "Disk" "page", .meth "Disk" "writes", .meth "Disk" "fall_at", .meth "Disk" "power", .meth "Disk" "coming", .meth "Disk" "add_row", .meth "Disk" "put_page", .meth "Disk" "cut_to", .meth "Disk" "cut_tail", .meth "Disk" "cut_head", .glo "Schema", .cls "Schema", .mkr "Schema", .noat "Schema" "columns", .noat "Schema" "kept_orders", .meth "Schema" "need_table", .meth "Schema" "table_names", .meth "Schema" "columns_of", .glo "Fell", .exc "Fell", .exm "Fell" "Fell" true, .int "MOST_SIGNS" 8, .int "MOST_NUMBER_words" 1000000000, .int "MOST_NUMBER_logrows" 1000000000, .int "MOST_ROWS" 60, .int "MOST_SLOTS" 8, .int "MOST_TABLES" 4, .int "MOST_COLUMNS" 4, .int "MOST_ORDERS" 4, .str "LETTERS" "abcdefghijklmnopqrstuvwxyz", .str "FIGURES" "0123456789"]
def nm0 : List PySem.Str := ["_wall", "__name__", "LETTERS", "FIGURES", "MOST_SIGNS", "MOST_NUMBER_words", "is_name", "is_kind", "value_text", "figures_in", "value_in", "MOST_NUMBER_logrows", "row_text", "count_in", "values_in"]
def nm1 : List PySem.Str := ["stuff_in", "row_in", "whole_rows", "kept_many_rows", "MOST_ROWS", "page_text", "count_from", "rows_in", "page_in", "slots_of", "newest", "late_page", "trim_log", "kept_stuff", "table_now"]
def nm2 : List PySem.Str := ["numbers_now", "seen", "come_up", "StoreError", "NoSchema", "Fell", "NoTable", "MOST_SLOTS", "Disk", "MOST_TABLES", "MOST_COLUMNS", "MOST_ORDERS", "is_row_of", "need_pair", "columns_in"]
def nm3 : List PySem.Str := ["tables_in", "orders_in", "Schema", "_law_cell", "_law_draws", "_law_names", "_law_schema", "_law_value", "_law_row", "_law_stuff", "_law_done", "_law_copy", "_law_lists", "_law_kept", "_law_paged"]
def nm4 : List PySem.Str := ["_law_trimmed", "_law_due", "_law_come", "_law_tail", "_law_up"]
def names : List PySem.Str := nm0 ++ nm1 ++ nm2 ++ nm3 ++ nm4
/-! ### what the walk is told: each fact by its name -/
structure Tx (K : PySem.W.Frag) (mg : Str → Option Value) : Prop where
  g_is_name : mg "is_name" = some (.ref (He.ga K "is_name"))
  g_is_kind : mg "is_kind" = some (.ref (He.ga K "is_kind"))
  g_value_text : mg "value_text" = some (.ref (He.ga K "value_text"))
  g_figures_in : mg "figures_in" = some (.ref (He.ga K "figures_in"))
  g_value_in : mg "value_in" = some (.ref (He.ga K "value_in"))
  g_row_text : mg "row_text" = some (.ref (He.ga K "row_text"))
  g_count_in : mg "count_in" = some (.ref (He.ga K "count_in"))
  g_values_in : mg "values_in" = some (.ref (He.ga K "values_in"))
  g_stuff_in : mg "stuff_in" = some (.ref (He.ga K "stuff_in"))
  g_row_in : mg "row_in" = some (.ref (He.ga K "row_in"))
  g_whole_rows : mg "whole_rows" = some (.ref (He.ga K "whole_rows"))
  g_kept_many_rows : mg "kept_many_rows" = some (.ref (He.ga K "kept_many_rows"))
  g_page_text : mg "page_text" = some (.ref (He.ga K "page_text"))
  g_count_from : mg "count_from" = some (.ref (He.ga K "count_from"))
  g_rows_in : mg "rows_in" = some (.ref (He.ga K "rows_in"))
  g_page_in : mg "page_in" = some (.ref (He.ga K "page_in"))
  g_slots_of : mg "slots_of" = some (.ref (He.ga K "slots_of"))
  g_newest : mg "newest" = some (.ref (He.ga K "newest"))
  g_late_page : mg "late_page" = some (.ref (He.ga K "late_page"))
  g_trim_log : mg "trim_log" = some (.ref (He.ga K "trim_log"))
  g_kept_stuff : mg "kept_stuff" = some (.ref (He.ga K "kept_stuff"))
  g_table_now : mg "table_now" = some (.ref (He.ga K "table_now"))
  g_numbers_now : mg "numbers_now" = some (.ref (He.ga K "numbers_now"))
  g_seen : mg "seen" = some (.ref (He.ga K "seen"))
  g_come_up : mg "come_up" = some (.ref (He.ga K "come_up"))
  g_is_row_of : mg "is_row_of" = some (.ref (He.ga K "is_row_of"))
  g_need_pair : mg "need_pair" = some (.ref (He.ga K "need_pair"))
  g_columns_in : mg "columns_in" = some (.ref (He.ga K "columns_in"))
  g_tables_in : mg "tables_in" = some (.ref (He.ga K "tables_in"))
  g_orders_in : mg "orders_in" = some (.ref (He.ga K "orders_in"))
  g_l_cell : mg "_law_cell" = some (.ref (He.ga K "_law_cell"))
  g_l_draws : mg "_law_draws" = some (.ref (He.ga K "_law_draws"))
  g_l_names : mg "_law_names" = some (.ref (He.ga K "_law_names"))
  g_l_schema : mg "_law_schema" = some (.ref (He.ga K "_law_schema"))
  g_l_value : mg "_law_value" = some (.ref (He.ga K "_law_value"))
  g_l_row : mg "_law_row" = some (.ref (He.ga K "_law_row"))
  g_l_stuff : mg "_law_stuff" = some (.ref (He.ga K "_law_stuff"))
  g_l_done : mg "_law_done" = some (.ref (He.ga K "_law_done"))
  g_l_copy : mg "_law_copy" = some (.ref (He.ga K "_law_copy"))
  g_l_lists : mg "_law_lists" = some (.ref (He.ga K "_law_lists"))
  g_l_kept : mg "_law_kept" = some (.ref (He.ga K "_law_kept"))
  g_l_paged : mg "_law_paged" = some (.ref (He.ga K "_law_paged"))
  g_l_trimmed : mg "_law_trimmed" = some (.ref (He.ga K "_law_trimmed"))
  g_l_due : mg "_law_due" = some (.ref (He.ga K "_law_due"))
  g_l_come : mg "_law_come" = some (.ref (He.ga K "_law_come"))
  g_l_tail : mg "_law_tail" = some (.ref (He.ga K "_law_tail"))
  g_l_up : mg "_law_up" = some (.ref (He.ga K "_law_up"))
  g_law : mg "law" = some (.ref (He.ga K "law"))
  f_isinstance : mg "isinstance" = none
  f_len : mg "len" = none
  f_str : mg "str" = none
  f_int : mg "int" = none
  f_zip : mg "zip" = none
  f_enumerate : mg "enumerate" = none
  f_tuple : mg "tuple" = none
  f_list : mg "list" = none
  f_dict : mg "dict" = none
  f_sorted : mg "sorted" = none
  f_min : mg "min" = none
  f_max : mg "max" = none
  f_range : mg "range" = none
  f_abs : mg "abs" = none
  f_bool : mg "bool" = none
  g_Disk : mg "Disk" = some (.ref (He.ga K "Disk"))
  c_Disk : Cls K (He.ga K "Disk")
  k_Disk : Mk K (He.ga K "Disk") (He.ma K (He.ga K "Disk") "__init__")
  n_Disk_held_rows : NoAttr K (He.ga K "Disk") "held_rows"
  n_Disk_held_pages : NoAttr K (He.ga K "Disk") "held_pages"
  n_Disk_many_writes : NoAttr K (He.ga K "Disk") "many_writes"
  n_Disk_due : NoAttr K (He.ga K "Disk") "due"
  n_Disk_is_down : NoAttr K (He.ga K "Disk") "is_down"
  m_Disk_log_rows : Meth K (He.ga K "Disk") "log_rows" (He.ma K (He.ga K "Disk") "log_rows")
  m_Disk_page : Meth K (He.ga K "Disk") "page" (He.ma K (He.ga K "Disk") "page")
  m_Disk_writes : Meth K (He.ga K "Disk") "writes" (He.ma K (He.ga K "Disk") "writes")
  m_Disk_fall_at : Meth K (He.ga K "Disk") "fall_at" (He.ma K (He.ga K "Disk") "fall_at")
  m_Disk_power : Meth K (He.ga K "Disk") "power" (He.ma K (He.ga K "Disk") "power")
  m_Disk_coming : Meth K (He.ga K "Disk") "coming" (He.ma K (He.ga K "Disk") "coming")
  m_Disk_add_row : Meth K (He.ga K "Disk") "add_row" (He.ma K (He.ga K "Disk") "add_row")
  m_Disk_put_page : Meth K (He.ga K "Disk") "put_page" (He.ma K (He.ga K "Disk") "put_page")
  m_Disk_cut_to : Meth K (He.ga K "Disk") "cut_to" (He.ma K (He.ga K "Disk") "cut_to")
  m_Disk_cut_tail : Meth K (He.ga K "Disk") "cut_tail" (He.ma K (He.ga K "Disk") "cut_tail")
  m_Disk_cut_head : Meth K (He.ga K "Disk") "cut_head" (He.ma K (He.ga K "Disk") "cut_head")
  g_Schema : mg "Schema" = some (.ref (He.ga K "Schema"))
  c_Schema : Cls K (He.ga K "Schema")
  k_Schema : Mk K (He.ga K "Schema") (He.ma K (He.ga K "Schema") "__init__")
  n_Schema_columns : NoAttr K (He.ga K "Schema") "columns"
  n_Schema_kept_orders : NoAttr K (He.ga K "Schema") "kept_orders"
  m_Schema_need_table : Meth K (He.ga K "Schema") "need_table" (He.ma K (He.ga K "Schema") "need_table")
  m_Schema_table_names : Meth K (He.ga K "Schema") "table_names" (He.ma K (He.ga K "Schema") "table_names")
  m_Schema_columns_of : Meth K (He.ga K "Schema") "columns_of" (He.ma K (He.ga K "Schema") "columns_of")
  g_Fell : mg "Fell" = some (.ref (He.ga K "Fell"))
  e_Fell : PySem.W.excIn K (He.ga K "Fell") He.veBase "ValueError.__new__" = true ∧ PySem.W.keepIn K (.ref (He.ga K "Fell")) = true ∧ PySem.W.subIn K (.ref (He.ga K "Fell")) (.type "BaseException") = some true ∧ PySem.W.typeIn K (.ref (He.ga K "Fell")) = some (.type "type")
  x_Fell : PySem.W.exmOne K (.ref (He.ga K "Fell")) (.ref (He.ga K "Fell")) = some true
  i_MOST_SIGNS : ∃ t, mg "MOST_SIGNS" = some (.int 8 t)
  i_MOST_NUMBER_words : ∃ t, mg "MOST_NUMBER_words" = some (.int 1000000000 t)
  i_MOST_NUMBER_logrows : ∃ t, mg "MOST_NUMBER_logrows" = some (.int 1000000000 t)
  i_MOST_ROWS : ∃ t, mg "MOST_ROWS" = some (.int 60 t)
  i_MOST_SLOTS : ∃ t, mg "MOST_SLOTS" = some (.int 8 t)
  i_MOST_TABLES : ∃ t, mg "MOST_TABLES" = some (.int 4 t)
  i_MOST_COLUMNS : ∃ t, mg "MOST_COLUMNS" = some (.int 4 t)
  i_MOST_ORDERS : ∃ t, mg "MOST_ORDERS" = some (.int 4 t)
  s_LETTERS : ∃ t, mg "LETTERS" = some (.str "abcdefghijklmnopqrstuvwxyz" t)
  s_FIGURES : ∃ t, mg "FIGURES" = some (.str "0123456789" t)
theorem tx_of {K : PySem.W.Frag} {h : Heap} {mg : Str → Option Value} (X : K.In h) (G : h.Ns mainGlobals mg) (c : He.SaysD fa fn K) : Tx K mg :=
  ⟨He.glo_ok X G (c.fact 0 (f := .glo "is_name") rfl),
   He.glo_ok X G (c.fact 1 (f := .glo "is_kind") rfl),
   He.glo_ok X G (c.fact 2 (f := .glo "value_text") rfl),
   He.glo_ok X G (c.fact 3 (f := .glo "figures_in") rfl),
   He.glo_ok X G (c.fact 4 (f := .glo "value_in") rfl),
   He.glo_ok X G (c.fact 5 (f := .glo "row_text") rfl),
   He.glo_ok X G (c.fact 6 (f := .glo "count_in") rfl),
   He.glo_ok X G (c.fact 7 (f := .glo "values_in") rfl),
   He.glo_ok X G (c.fact 8 (f := .glo "stuff_in") rfl),
   He.glo_ok X G (c.fact 9 (f := .glo "row_in") rfl),
   He.glo_ok X G (c.fact 10 (f := .glo "whole_rows") rfl),
   He.glo_ok X G (c.fact 11 (f := .glo "kept_many_rows") rfl),
   He.glo_ok X G (c.fact 12 (f := .glo "page_text") rfl),
   He.glo_ok X G (c.fact 13 (f := .glo "count_from") rfl),
   He.glo_ok X G (c.fact 14 (f := .glo "rows_in") rfl),
   He.glo_ok X G (c.fact 15 (f := .glo "page_in") rfl),
   He.glo_ok X G (c.fact 16 (f := .glo "slots_of") rfl),
   He.glo_ok X G (c.fact 17 (f := .glo "newest") rfl),
   He.glo_ok X G (c.fact 18 (f := .glo "late_page") rfl),
   He.glo_ok X G (c.fact 19 (f := .glo "trim_log") rfl),
   He.glo_ok X G (c.fact 20 (f := .glo "kept_stuff") rfl),
   He.glo_ok X G (c.fact 21 (f := .glo "table_now") rfl),
   He.glo_ok X G (c.fact 22 (f := .glo "numbers_now") rfl),
   He.glo_ok X G (c.fact 23 (f := .glo "seen") rfl),
   He.glo_ok X G (c.fact 24 (f := .glo "come_up") rfl),
   He.glo_ok X G (c.fact 25 (f := .glo "is_row_of") rfl),
   He.glo_ok X G (c.fact 26 (f := .glo "need_pair") rfl),
   He.glo_ok X G (c.fact 27 (f := .glo "columns_in") rfl),
   He.glo_ok X G (c.fact 28 (f := .glo "tables_in") rfl),
   He.glo_ok X G (c.fact 29 (f := .glo "orders_in") rfl),
   He.glo_ok X G (c.fact 30 (f := .glo "_law_cell") rfl),
   He.glo_ok X G (c.fact 31 (f := .glo "_law_draws") rfl),
   He.glo_ok X G (c.fact 32 (f := .glo "_law_names") rfl),
   He.glo_ok X G (c.fact 33 (f := .glo "_law_schema") rfl),
   He.glo_ok X G (c.fact 34 (f := .glo "_law_value") rfl),
   He.glo_ok X G (c.fact 35 (f := .glo "_law_row") rfl),
   He.glo_ok X G (c.fact 36 (f := .glo "_law_stuff") rfl),
   He.glo_ok X G (c.fact 37 (f := .glo "_law_done") rfl),
   He.glo_ok X G (c.fact 38 (f := .glo "_law_copy") rfl),
   He.glo_ok X G (c.fact 39 (f := .glo "_law_lists") rfl),
   He.glo_ok X G (c.fact 40 (f := .glo "_law_kept") rfl),
   He.glo_ok X G (c.fact 41 (f := .glo "_law_paged") rfl),
   He.glo_ok X G (c.fact 42 (f := .glo "_law_trimmed") rfl),
   He.glo_ok X G (c.fact 43 (f := .glo "_law_due") rfl),
   He.glo_ok X G (c.fact 44 (f := .glo "_law_come") rfl),
   He.glo_ok X G (c.fact 45 (f := .glo "_law_tail") rfl),
   He.glo_ok X G (c.fact 46 (f := .glo "_law_up") rfl),
   He.glo_ok X G (c.fact 47 (f := .glo "law") rfl),
   He.free_ok X G (c.fact 48 (f := .free "isinstance") rfl),
   He.free_ok X G (c.fact 49 (f := .free "len") rfl),
   He.free_ok X G (c.fact 50 (f := .free "str") rfl),
   He.free_ok X G (c.fact 51 (f := .free "int") rfl),
   He.free_ok X G (c.fact 52 (f := .free "zip") rfl),
   He.free_ok X G (c.fact 53 (f := .free "enumerate") rfl),
   He.free_ok X G (c.fact 54 (f := .free "tuple") rfl),
   He.free_ok X G (c.fact 55 (f := .free "list") rfl),
   He.free_ok X G (c.fact 56 (f := .free "dict") rfl),
   He.free_ok X G (c.fact 57 (f := .free "sorted") rfl),
   He.free_ok X G (c.fact 58 (f := .free "min") rfl),
   He.free_ok X G (c.fact 59 (f := .free "max") rfl),
   He.free_ok X G (c.fact 60 (f := .free "range") rfl),
   He.free_ok X G (c.fact 61 (f := .free "abs") rfl),
   He.free_ok X G (c.fact 62 (f := .free "bool") rfl),
   He.glo_ok X G (c.fact 63 (f := .glo "Disk") rfl),
   He.cls_ok (c.fact 64 (f := .cls "Disk") rfl),
   He.mkr_ok (c.fact 65 (f := .mkr "Disk") rfl),
   He.noat_ok (c.fact 66 (f := .noat "Disk" "held_rows") rfl),
   He.noat_ok (c.fact 67 (f := .noat "Disk" "held_pages") rfl),
   He.noat_ok (c.fact 68 (f := .noat "Disk" "many_writes") rfl),
   He.noat_ok (c.fact 69 (f := .noat "Disk" "due") rfl),
   He.noat_ok (c.fact 70 (f := .noat "Disk" "is_down") rfl),
   He.meth_ok (c.fact 71 (f := .meth "Disk" "log_rows") rfl),
   He.meth_ok (c.fact 72 (f := .meth "Disk" "page") rfl),
   He.meth_ok (c.fact 73 (f := .meth "Disk" "writes") rfl),
   He.meth_ok (c.fact 74 (f := .meth "Disk" "fall_at") rfl),
   He.meth_ok (c.fact 75 (f := .meth "Disk" "power") rfl),
   He.meth_ok (c.fact 76 (f := .meth "Disk" "coming") rfl),
   He.meth_ok (c.fact 77 (f := .meth "Disk" "add_row") rfl),
   He.meth_ok (c.fact 78 (f := .meth "Disk" "put_page") rfl),
   He.meth_ok (c.fact 79 (f := .meth "Disk" "cut_to") rfl),
   He.meth_ok (c.fact 80 (f := .meth "Disk" "cut_tail") rfl),
   He.meth_ok (c.fact 81 (f := .meth "Disk" "cut_head") rfl),
   He.glo_ok X G (c.fact 82 (f := .glo "Schema") rfl),
   He.cls_ok (c.fact 83 (f := .cls "Schema") rfl),
   He.mkr_ok (c.fact 84 (f := .mkr "Schema") rfl),
   He.noat_ok (c.fact 85 (f := .noat "Schema" "columns") rfl),
   He.noat_ok (c.fact 86 (f := .noat "Schema" "kept_orders") rfl),
   He.meth_ok (c.fact 87 (f := .meth "Schema" "need_table") rfl),
   He.meth_ok (c.fact 88 (f := .meth "Schema" "table_names") rfl),
   He.meth_ok (c.fact 89 (f := .meth "Schema" "columns_of") rfl),
   He.glo_ok X G (c.fact 90 (f := .glo "Fell") rfl),
   He.exc_ok (c.fact 91 (f := .exc "Fell") rfl),
   He.exm_ok (c.fact 92 (f := .exm "Fell" "Fell" true) rfl),
   He.int_ok X G (c.fact 93 (f := .int "MOST_SIGNS" 8) rfl),
   He.int_ok X G (c.fact 94 (f := .int "MOST_NUMBER_words" 1000000000) rfl),
   He.int_ok X G (c.fact 95 (f := .int "MOST_NUMBER_logrows" 1000000000) rfl),
   He.int_ok X G (c.fact 96 (f := .int "MOST_ROWS" 60) rfl),
   He.int_ok X G (c.fact 97 (f := .int "MOST_SLOTS" 8) rfl),
   He.int_ok X G (c.fact 98 (f := .int "MOST_TABLES" 4) rfl),
   He.int_ok X G (c.fact 99 (f := .int "MOST_COLUMNS" 4) rfl),
   He.int_ok X G (c.fact 100 (f := .int "MOST_ORDERS" 4) rfl),
   He.str_ok X G (c.fact 101 (f := .str "LETTERS" "abcdefghijklmnopqrstuvwxyz") rfl),
   He.str_ok X G (c.fact 102 (f := .str "FIGURES" "0123456789") rfl)⟩
/-- the def of that data at f -/
abbrev Fd (K : PySem.W.Frag) (d : He.DefD) (fd : FuncData) : Prop := FunD K d.name d.qual d.params d.body d.scope (d.dvs K) (d.kws K) (He.fAd K d.at_) fd
theorem fd_of {K : PySem.W.Frag} (c : He.SaysD fa fn K) (i : Nat) {d : He.DefD} (h : fn[i]? = some d) : ∃ fd, Fd K d fd := c.def_ i h
-- 0:is_name 1:is_kind 2:value_text 3:figures_in 4:value_in 5:row_text 6:count_in 7:values_in 8:stuff_in 9:row_in 10:whole_rows 11:kept_many_rows 12:page_text 13:count_from 14:rows_in 15:page_in 16:slots_of 17:newest 18:late_page 19:trim_log 20:kept_stuff 21:table_now 22:numbers_now 23:seen 24:come_up 25:D_init 26:D_log_rows 27:D_page 28:D_writes 29:D_fall_at 30:D_power 31:D_coming 32:D_add_row 33:D_put_page 34:D_cut_to 35:D_cut_tail 36:D_cut_head 37:is_row_of 38:need_pair 39:columns_in 40:tables_in 41:orders_in 42:S_init 43:S_need_table 44:S_table_names 45:S_columns_of 46:l_cell 47:l_draws 48:l_names 49:l_schema 50:l_value 51:l_row 52:l_stuff 53:l_done 54:l_copy 55:l_lists 56:l_kept 57:l_paged 58:l_trimmed 59:l_due 60:l_come 61:l_tail 62:l_up 63:law
end Fl

set_option Elab.async false
set_option linter.all false
set_option maxRecDepth 100000
set_option maxHeartbeats 0
namespace Fl
open PySem PySem.Spec PyProof.Rows L2
abbrev R : PySem.W.OpenRow := PySem.W.OpenLaw.row PySem.Challenge.rw_planstore_k26_whole_falls
abbrev hk : PySem.W.Hook := He.hookD 5 fa fn
def ob (s : PySem.W.SharedT) : He.AlD := He.obsDG 5 fa fn (HandSHeadRun.getT s)
theorem ob_eq (s : PySem.W.SharedT) : ob s = hk.obs s.abs := He.obsDG_eq (HandSHeadRun.getT_eq s)
theorem run (w : PySem.World) : HandSHeadRun.RunEq R (PySem.W.view R.prog [72]) hk ob 30000 names w := by
  intro os
  kernel_rfl
end Fl

set_option Elab.async false
set_option linter.all false
set_option maxRecDepth 100000
set_option maxHeartbeats 2000000
/-! Rules that the hand layer lacks for this program: C() of an own exception class, != of nested data with dicts, a list against the empty list, dict(d), a def called with its default. -/
namespace PySem.SeqAt
open AutoSeq1 (wpAny_loadPart')
open MeetsSeq MeetsSeq2 MeetsSeq3 SeqRoads2
section
variable {prog : Program} {w : World}
theorem fl_tuple_neIn (l b : Addr) (items items2 : Array Value) (n n2 : Nat) (dd dd2 : Option Addr) (sl sl2 : Array (Option Value)) (e : Nat → Bool) :
    MeetsIn prog w (Builtin.«tuple.__ne__» ⟨[.ref l, .ref b], []⟩)
      (fun A R s => s.heap.get? l = some { cls := .type "tuple", dict := dd, data := .seq items n, slots := sl } ∧ s.heap.get? b = some { cls := .type "tuple", dict := dd2, data := .seq items2 n2, slots := sl2 } ∧
        (∀ j (h1 : j < items.size) (h2 : j < items2.size), EqIn prog w A.in1 s items[j] items2[j] (e j)) ∧
        R (.ok (.ret (.bool (!((List.range (min items.size items2.size)).all e && items.size == items2.size))))) s) :=
  .of_wp fun A R s h => by
    obtain ⟨hp, g, d, tk, os⟩ := s; obtain ⟨hl, hb, he, h⟩ := h
    have f2 := AutoSeq1.sub_tuple_tuple
    have hZ : (items.toList.zip items2.toList).length = min items.size items2.size := by simp
    wp_walk using wpAny_loadPart' hl, wpAny_loadPart' hb, wpAny_forIn_list _ (fun rest b s' => b.1 = none ∧ s' = ⟨hp, g, d, tk, os⟩ ∧ ∃ i, rest = (items.toList.zip items2.toList).drop i ∧
      R (.ok (.ret (.bool (!(((List.range (min items.size items2.size)).drop i).all e && items.size == items2.size))))) ⟨hp, g, d, tk, os⟩) _
    case turn =>
      rintro ⟨y, x⟩ rest b s' ⟨hb', rfl, i, hz, hR⟩
      have hlt : i < (items.toList.zip items2.toList).length := by
        rcases Nat.lt_or_ge i (items.toList.zip items2.toList).length with h' | h'
        · exact h'
        · rw [List.drop_of_length_le h'] at hz; cases hz
      have hm : i < min items.size items2.size := hZ ▸ hlt
      have h1 : i < items.size := Nat.lt_of_lt_of_le hm (Nat.min_le_left _ _)
      have h2 : i < items2.size := Nat.lt_of_lt_of_le hm (Nat.min_le_right _ _)
      rw [List.drop_eq_getElem_cons hlt] at hz
      injection hz with hyx hrest
      have hy : y = items[i] := by have := congrArg Prod.fst hyx; simpa using this
      have hx : x = items2[i] := by have := congrArg Prod.snd hyx; simpa using this
      subst hy hx
      have hd : (List.range (min items.size items2.size)).drop i = i :: (List.range (min items.size items2.size)).drop (i + 1) := by simp [List.drop_eq_getElem_cons, hm]
      rw [hd, List.all_cons] at hR
      refine wpAny_bind (he i h1 h2 _ _ ?_)
      cases hy : e i with
      | true =>
        rw [hy] at hR
        wp_walk
        exact ⟨rfl, rfl, i + 1, hrest, by simpa using hR⟩
      | false =>
        rw [hy] at hR
        wp_walk
        exact ⟨_, rfl, by simpa using hR⟩
    case fin =>
      rintro ⟨b1, b2⟩ s' ⟨hb', rfl, i, hz, hR⟩
      simp only at hb'
      subst hb'
      have hge : min items.size items2.size ≤ i := by
        rcases Nat.lt_or_ge i (items.toList.zip items2.toList).length with h' | h'
        · rw [List.drop_eq_getElem_cons h'] at hz; cases hz
        · exact hZ ▸ h'
      rw [List.drop_of_length_le (by simpa using hge)] at hR
      wp_walk
      exact ⟨_, rfl, by simpa [Builtin.Tuple.tupleCompareSizes, bne] using hR⟩
    case h =>
      exact ⟨rfl, rfl, 0, rfl, by simpa using h⟩
theorem fl_rcNe_tuples {A : Around} {s : Shared} {E : Value → Shared → Prop} {l b : Addr} {items items2 : Array Value} {e : Nat → Bool} {Q : Value → Shared → Prop} (hl : s.heap.IsTuple l items) (hb : s.heap.IsTuple b items2) (hu : A.units < cLine)
    (he : ∀ j (h1 : j < items.size) (h2 : j < items2.size), EqIn prog w A.in1 s items[j] items2[j] (e j)) (h : Q (.bool (!((List.range (min items.size items2.size)).all e && items.size == items2.size))) s) :
    wpAny (model prog w) A (richCompare .NotEq (.ref l) (.ref b)) Q E s := by
  obtain ⟨⟨cls, dd, data, sl⟩, ho, hc, n, hd⟩ := id hl
  obtain ⟨⟨cls2, dd2, data2, sl2⟩, ho2, hc2, n2, hd2⟩ := id hb
  simp only at hc hd hc2 hd2
  subst hc hd hc2 hd2
  exact wpAny_richCompare_same_room (T := "tuple") (op := .NotEq) ⟨_, ho, rfl⟩ ⟨_, ho2, rfl⟩ F.slot_tuple_ne (call_meetsIn F.slot_tuple_ne ⟨_, ho, rfl⟩ F.entry_tuple_ne (F.args_tuple_ne_2 _ _) (fl_tuple_neIn l b items items2 n n2 dd dd2 sl sl2 e)
    ⟨ho, ho2, he, show Value.bool (!((List.range (min items.size items2.size)).all e && items.size == items2.size)) ≠ Value.notImplemented ∧ Q (.bool (!((List.range (min items.size items2.size)).all e && items.size == items2.size))) s from ⟨(fun x => nomatch x), h⟩⟩) hu
end
end PySem.SeqAt
namespace Fl
open PySem PySem.Spec PyProof.Rows L2
/-- two tuples, two lists, two dicts of equal things -/
def DqR (K : PySem.W.Frag) (H : Hp) (E : V → V → Prop) (x y : V) : Prop :=
  (∃ a b xs ys, x = .ref a ∧ y = .ref b ∧ SqT K H a xs ∧ SqT K H b ys ∧ Paired E xs ys) ∨ EqR K H E x y
/-- equal, of nesting below n -/
def Dq (K : PySem.W.Frag) (H : Hp) : Nat → V → V → Prop
  | 0 => fun _ _ => False
  | n + 1 => fun x y => (x = y ∧ flatB x = true) ∨ DqR K H (Dq K H n) x y
section
variable {X : Cx} {pins : List (Addr × Obj)} {σ : L2.St} {H : Hp} {s : Shared}
theorem tups_size {xs ys : List V} {us ws : List Value} {E : V → V → Prop} (r1 : Vals xs us) (r2 : Vals ys ws) (hp : Paired E xs ys) : us.toArray.size = ws.toArray.size := by
  rw [List.size_toArray, List.size_toArray, ← r1.length, ← r2.length]
  exact Paired.length hp
theorem all_yes (n : Nat) : ((List.range n).all fun _ => true) = true := List.all_eq_true.mpr fun _ _ => rfl
theorem dqR_run (I : Inv X pins σ H s) {A : Around} {F : V → V → Prop} (hu : A.units < cLine) (ih : ∀ x y v u, F x y → RelV x v → RelV y u → SeqAt.EqP X.prog X.w A.in1 s v u true) {x y : V} {v u : Value} (h : DqR X.K H F x y) (rx : RelV x v) (ry : RelV y u)
    (E Q : Value → Shared → Prop) (q : Q (.bool true) s) : wpAny (model X.prog X.w) A (richCompare .Eq v u) Q E s := by
  rcases h with ⟨a, b, xs, ys, rfl, rfl, ha, hb, hp⟩ | h
  · cases (show v = Value.ref a from rx)
    cases (show u = Value.ref b from ry)
    obtain ⟨us, r1, p1, _⟩ := I.tuple ha
    obtain ⟨ws, r2, p2, _⟩ := I.tuple hb
    have hsz := tups_size r1 r2 hp
    refine SeqAt.rcIn_tuples (e := fun _ => true) p1 p2 hu (fun j h1 h2 => ?_) ?_
    · have k := items_run ih hp r1 r2 j (by simpa using h1) (by simpa using h2)
      exact fun E Q hq => by
        have := k E Q hq
        simpa using this
    · rw [all_yes, hsz, beq_self_eq_true]
      exact q
  · exact eqR_run I hu ih h rx ry E Q q
theorem dqR_refs {F : V → V → Prop} {x y : V} (h : DqR X.K H F x y) : ∃ a b, x = .ref a ∧ y = .ref b := by
  rcases h with ⟨a, b, _, _, e1, e2, _⟩ | ⟨a, b, _, _, e1, e2, _⟩ | ⟨a, b, _, _, e1, e2, _⟩
  · exact ⟨a, b, e1, e2⟩
  · exact ⟨a, b, e1, e2⟩
  · exact ⟨a, b, e1, e2⟩
theorem dq_run (I : Inv X pins σ H s) : ∀ (n : Nat) (A : Around), A.units + n < cLine → ∀ (x y : V) (v u : Value), Dq X.K H n x y → RelV x v → RelV y u → SeqAt.EqP X.prog X.w A s v u true
  | 0, _, _, _, _, _, _, h, _, _ => (show False from h).elim
  | n + 1, A, hu, x, y, v, u, h, rx, ry => by
    rcases h with ⟨rfl, f⟩ | h
    · exact (eqAt_same rx ry f).eqP
    · have step := dqR_run I (A := A) (by omega) (dq_run I n A.in1 (by show A.units + 1 + n < cLine; omega)) h rx ry
      obtain ⟨a, b, rfl, rfl⟩ := dqR_refs h
      cases (show v = Value.ref a from rx)
      cases (show u = Value.ref b from ry)
      by_cases e : a = b
      · subst e
        exact (SeqAt.EqAt.same _).eqP
      · exact SeqAt.eqP_refs e step
end
/-- two equal tuples, or None twice: == -/
def rEqT (K : PySem.W.Frag) : R2 := fun x y H Q => (∃ n a b xs ys, n ≤ 60 ∧ x = .ref a ∧ y = .ref b ∧ SqT K H a xs ∧ SqT K H b ys ∧ Paired (Dq K H n) xs ys ∧ Q (.bl true) H) ∨ (x = .non ∧ y = .non ∧ Q (.bl true) H)
/-- two equal tuples, or None twice: != -/
def rNeT (K : PySem.W.Frag) : R2 := fun x y H Q => (∃ n a b xs ys, n ≤ 60 ∧ x = .ref a ∧ y = .ref b ∧ SqT K H a xs ∧ SqT K H b ys ∧ Paired (Dq K H n) xs ys ∧ Q (.bl false) H) ∨ (x = .non ∧ y = .non ∧ Q (.bl false) H)
section
variable {X : Cx}
theorem op_eqT (hu : X.A.units + 64 < cLine) : OpR X (compareOp .Eq) (rEqT X.K) := by
  intro pins s σ H x y v u Q I rx ry h
  rcases h with ⟨n, a, b, xs, ys, hn, rfl, rfl, ha, hb, hp, q⟩ | ⟨rfl, rfl, q⟩
  · exact dqR_run I (A := X.A) (by omega) (dq_run I n X.A.in1 (by show X.A.units + 1 + n < cLine; omega)) (.inl ⟨a, b, xs, ys, rfl, rfl, ha, hb, hp⟩) rx ry _ _ ⟨.bl true, H, I, rfl, q⟩
  · refine op_eq pins s σ H .non .non v u Q I rx ry ⟨rfl, ?_⟩
    rw [decide_eq_true rfl]
    exact q
theorem op_neT (hu : X.A.units + 64 < cLine) : OpR X (compareOp .NotEq) (rNeT X.K) := by
  intro pins s σ H x y v u Q I rx ry h
  rcases h with ⟨n, a, b, xs, ys, hn, rfl, rfl, ha, hb, hp, q⟩ | ⟨rfl, rfl, q⟩
  · cases (show v = Value.ref a from rx)
    cases (show u = Value.ref b from ry)
    obtain ⟨us, r1, p1, _⟩ := I.tuple ha
    obtain ⟨ws, r2, p2, _⟩ := I.tuple hb
    have hsz := tups_size r1 r2 hp
    have ih := dq_run I n X.A.in1 (by show X.A.units + 1 + n < cLine; omega)
    refine SeqAt.fl_rcNe_tuples (e := fun _ => true) p1 p2 (by omega) (fun j h1 h2 => ?_) ?_
    · have k := items_run ih hp r1 r2 j (by simpa using h1) (by simpa using h2)
      exact fun E Q hq => by
        have := k E Q hq
        simpa using this
    · rw [all_yes, hsz, beq_self_eq_true]
      exact ⟨.bl false, H, I, rfl, q⟩
  · refine op_ne pins s σ H .non .non v u Q I rx ry ⟨rfl, ?_⟩
    rw [decide_eq_true rfl]
    exact q
/-- a list against a list without items -/
def rNeNil (K : PySem.W.Frag) : R2 := fun x y H Q => ∃ a b xs, x = .ref a ∧ y = .ref b ∧ SqL K H a xs ∧ SqL K H b [] ∧ Q (.bl (!xs.isEmpty)) H
theorem op_neNil (hu : X.A.units + 64 < cLine) : OpR X (compareOp .NotEq) (rNeNil X.K) := by
  intro pins s σ H x y v u Q I rx ry h
  obtain ⟨a, b, xs, rfl, rfl, ha, hb, q⟩ := h
  cases (show v = Value.ref a from rx)
  cases (show u = Value.ref b from ry)
  obtain ⟨us, r1, p1, _⟩ := I.list ha
  obtain ⟨ws, r2, p2, _⟩ := I.list hb
  cases r2
  cases xs with
  | nil =>
    cases r1
    exact SeqAt.RcNeAt.lists (e := fun _ => true) p1.isList p2.isList rfl (by omega) (fun j h1 _ => absurd h1 (Nat.not_lt_zero j)) _ _ _ _ ⟨.bl false, H, I, rfl, q⟩
  | cons z zs =>
    cases r1 with
    | cons _ _ => exact SeqAt.RcNeAt.lists_lengths p1.isList p2.isList (by simp) (by omega) _ _ _ _ ⟨.bl true, H, I, rfl, q⟩
/-- dict(d) of a dict -/
theorem call_dictD : CallR X (.type "dict") (fun xs H Q => ∃ a kvs, xs = [.ref a] ∧ Rd H a (.dK kvs) ∧ ∀ p, H p = none → Q (.ref p) (upd H p (.dK kvs))) := by
  intro pins s σ H xs us Q I r h
  obtain ⟨a, kvs, rfl, hd, q⟩ := h
  obtain rfl := Vals.ref1 r
  exact d_copyOf I hd fun p s' hp I' => ⟨.ref p, _, I', rfl, q p hp⟩
/-- X(), X an own exception class without own __init__ -/
theorem pmk_own0 {C : Addr} {bmB : List Value} {B newId initId : String} {x : Str} {p pos : Pos} (F : ExcBaseFacts B newId initId bmB) (q : PySem.W.excIn X.K C bmB newId = true) (gC : X.mg x = some (.ref C)) (kC : PySem.W.keepIn X.K (.ref C) = true)
    (r : Raises X (.ref C)) (hg : Gl X x) (hdb : (x == ("__debug__" : Str)) = false := by decide) : PMk X (.Call (.Name x p) [] [] pos) (fun _ H Q => Q (.ref C) none H) := by
  intro pins s σ H Q I h
  refine wpAny_Call_Name_kw (ld_glob I hg gC ?_ hdb)
  refine PySem.W.callWith_K0 I.kIn kC ?_
  show wpAny _ _ (call (.ref C) []) _ _ _
  obtain ⟨bm, N, nm, qn, bs, hdct, sn, sub, ab, col, dd, k0, k1, k2, k3, k5, mN, hC, hN, hni, T⟩ := exc_obj I.kIn q
  refine wpAny_call_exc_subT F T hC hN hni (fun h' e hm => ?_) (Nat.zero_le _)
  exact mk_of I hm r h (I.hok.gone hm.new)
end
end Fl

set_option Elab.async false
set_option linter.all false
set_option maxRecDepth 100000
set_option maxHeartbeats 1000000
/-! The mathematics of the texts: values, rows of the log, pages; written, cut, read back. -/
namespace Fl
open PySem PySem.Spec PyProof.Rows L2
open TL (tl)
abbrev Row := List V
/-! ### values and their texts -/
def iT (i : Int) : Str := Str.ofString (toString i)
def vT : V → Str
  | .int i => iT i
  | .str z => z
  | _ => Str.empty
def NameOk (z : Str) : Prop := 1 ≤ z.length ∧ z.length ≤ 8 ∧ ∀ c ∈ tl z, 97 ≤ c ∧ c ≤ 122
def KNum : Str := "number"
def KWord : Str := "word"
def OkV (k : Str) (v : V) : Prop := (k = KNum ∧ ∃ i : Int, v = .int i ∧ -1000000000 ≤ i ∧ i ≤ 1000000000) ∨ (k = KWord ∧ ∃ z : Str, v = .str z ∧ NameOk z)
/-- no blank, no semicolon, no stroke -/
def Pl (z : Str) : Prop := ∀ c ∈ tl z, c ≠ 32 ∧ c ≠ 59 ∧ c ≠ 124
theorem len_tl (z : Str) : z.length = (tl z).length := TL.len_tl z
theorem NameOk.pl {z : Str} (h : NameOk z) : Pl z := fun c hc => by
  have := h.2.2 c hc
  omega
theorem tl_nat (n : Nat) : tl (iT (n : Int)) = TL.numL n := TL.tl_num n
theorem tl_neg (n : Nat) (h : 0 < n) : tl (iT (-(n : Int))) = 45 :: TL.numL n := by
  obtain ⟨m, rfl⟩ : ∃ m, n = m + 1 := ⟨n - 1, by omega⟩
  have e : (-((m + 1 : Nat) : Int)) = Int.negSucc m := rfl
  rw [e]
  unfold iT
  rw [TL.tl_ofString]
  have e2 : toString (Int.negSucc m) = "-" ++ toString (m + 1) := rfl
  rw [e2, String.toList_append, List.map_append]
  show [45] ++ ((toString (m + 1)).toList.map Char.toNat) = 45 :: TL.numL (m + 1)
  rw [← tl_nat (m + 1)]
  unfold iT
  rw [TL.tl_ofString]
  rfl
theorem int_cases (i : Int) : (∃ n : Nat, i = (n : Int)) ∨ ∃ n : Nat, 0 < n ∧ i = -(n : Int) := by
  by_cases h : 0 ≤ i
  · exact .inl ⟨i.toNat, by omega⟩
  · exact .inr ⟨i.natAbs, by omega, by omega⟩
theorem numL_range {n c : Nat} (h : c ∈ TL.numL n) : 48 ≤ c ∧ c ≤ 57 := TL.numL_digits n c h
theorem pl_iT (i : Int) : Pl (iT i) := by
  intro c hc
  rcases int_cases i with ⟨n, rfl⟩ | ⟨n, hn, rfl⟩
  · rw [tl_nat] at hc
    have := numL_range hc
    omega
  · rw [tl_neg n hn] at hc
    rcases List.mem_cons.mp hc with e | h
    · omega
    · have := numL_range h
      omega
theorem OkV.pl {k : Str} {v : V} (h : OkV k v) : Pl (vT v) := by
  rcases h with ⟨_, i, rfl, _⟩ | ⟨_, z, rfl, hz⟩
  · exact pl_iT i
  · exact hz.pl
theorem iT_len {i : Int} (h : i.natAbs < 10000000000) : (iT i).length ≤ 11 := by
  rw [len_tl]
  rcases int_cases i with ⟨n, rfl⟩ | ⟨n, hn, rfl⟩
  · rw [tl_nat]
    have := TL.numL_len (n := n) (k := 10) (by decide) (by omega)
    omega
  · rw [tl_neg n hn, List.length_cons]
    have := TL.numL_len (n := n) (k := 10) (by decide) (by omega)
    omega
theorem OkV.len {k : Str} {v : V} (h : OkV k v) : (vT v).length ≤ 11 := by
  rcases h with ⟨_, i, rfl, _⟩ | ⟨_, z, rfl, hz⟩
  · exact iT_len (by omega)
  · exact Nat.le_trans hz.2.1 (by decide)
theorem numL_head {n : Nat} : ∀ {c : Nat} {r : List Nat}, TL.numL n = c :: r → c = 48 → n = 0 := by
  induction n using Nat.strongRecOn with
  | _ n ih =>
    intro c r e hc
    by_cases h : n < 10
    · rw [TL.numL_lt h] at e
      injection e with e1 _
      omega
    · rw [TL.numL_step (by omega)] at e
      cases hq : TL.numL (n / 10) with
      | nil => exact absurd hq (TL.numL_ne _)
      | cons d t =>
        rw [hq, List.cons_append] at e
        injection e with e1 _
        have := ih (n / 10) (by omega) hq (by omega)
        omega
/-! ### cuts -/
theorem tl_cut (z : Str) (lo hi : Option Int) : tl (cutS z lo hi) = ((tl z).drop (HT.sIx z.length 0 lo)).take (HT.sIx z.length z.length hi - HT.sIx z.length 0 lo) := TL.tl_mk _
theorem sIx_m1 (n d : Nat) : HT.sIx n d (some (-1)) = n - 1 := by
  unfold HT.sIx
  simp only
  rw [if_pos (by decide)]
  omega
theorem cut_but1 (z : Str) : tl (cutS z none (some (-1))) = (tl z).dropLast := by
  rw [tl_cut, HT.sIx_none, sIx_m1, List.drop_zero, List.dropLast_eq_take, len_tl, Nat.sub_zero]
theorem cut_last (z : Str) : tl (cutS z (some (-1)) none) = (tl z).drop ((tl z).length - 1) := by
  rw [tl_cut, HT.sIx_none, sIx_m1, len_tl]
  rw [List.take_of_length_le]
  rw [List.length_drop]
  omega
theorem cut_nat (z : Str) (k : Nat) : tl (cutS z none (some (k : Int))) = (tl z).take k := by
  rw [tl_cut, HT.sIx_none, HT.sIx_nat, List.drop_zero, Nat.sub_zero, len_tl]
  by_cases h : k ≤ (tl z).length
  · rw [Nat.min_eq_left h]
  · rw [Nat.min_eq_right (by omega), List.take_length, List.take_of_length_le (by omega)]
theorem cut_from (z : Str) (k : Nat) : tl (cutS z (some (k : Int)) none) = (tl z).drop k := by
  rw [tl_cut, HT.sIx_none, HT.sIx_nat, len_tl]
  by_cases h : k ≤ (tl z).length
  · rw [Nat.min_eq_left h, List.take_of_length_le]
    rw [List.length_drop]
    omega
  · rw [Nat.min_eq_right (by omega), List.drop_length, List.drop_of_length_le (by omega), List.take_nil]
def semi : Str := ";"
theorem tl_semi : tl semi = [59] := by decide +kernel
/-- what does not end with a semicolon -/
def NoEnd (z : Str) : Prop := (tl z).getLast? ≠ some 59
theorem NoEnd.ne {z : Str} (h : NoEnd z) : cutS z (some (-1)) none ≠ semi := by
  intro e
  have e2 := congrArg tl e
  rw [cut_last, tl_semi] at e2
  refine h ?_
  cases q : tl z with
  | nil =>
    rw [q] at e2
    cases e2
  | cons a r =>
    have hne : tl z ≠ [] := by
      rw [q]
      exact List.cons_ne_nil _ _
    rw [← q, List.getLast?_eq_some_getLast hne]
    have : (tl z).drop ((tl z).length - 1) = [(tl z).getLast hne] := by
      conv => lhs; rw [← List.dropLast_concat_getLast hne]
      rw [List.length_append, List.length_singleton, Nat.add_sub_cancel, List.drop_left]
    rw [this] at e2
    injection e2 with e3 _
    rw [e3]
/-- a text with a semicolon behind it -/
theorem ends_semi (b : Str) : cutS (b ++ semi) (some (-1)) none = semi := TL.ext_tl (by
  rw [cut_last, TL.tl_append, tl_semi, List.length_append]
  show List.drop ((tl b).length + 1 - 1) _ = _
  rw [Nat.add_sub_cancel, List.drop_left])
theorem cut_semi (b : Str) : cutS (b ++ semi) none (some (-1)) = b := TL.ext_tl (by
  rw [cut_but1, TL.tl_append, tl_semi, List.dropLast_concat])
/-- a beginning of a text that has its only semicolon at its end -/
theorem cut_short {b : Str} (h : ∀ c ∈ tl b, c ≠ 59) (k : Nat) : (k < (b ++ semi).length → NoEnd (cutS (b ++ semi) none (some (k : Int)))) ∧ ((b ++ semi).length ≤ k → cutS (b ++ semi) none (some (k : Int)) = b ++ semi) := by
  have hl : (b ++ semi).length = (tl b).length + 1 := by
    rw [len_tl, TL.tl_append, tl_semi, List.length_append]
    rfl
  refine ⟨fun hk => ?_, fun hk => TL.ext_tl ?_⟩
  · intro e
    rw [cut_nat, TL.tl_append, List.take_append_of_le_length (by omega)] at e
    have := List.mem_of_getLast? e
    exact h 59 (List.mem_of_mem_take this) rfl
  · rw [cut_nat, List.take_of_length_le]
    rw [← len_tl]
    exact hk
theorem cut_none {b : Str} {k : Nat} : cutS b none (some (k : Int)) = Str.empty ↔ (k = 0 ∨ tl b = []) := by
  constructor
  · intro e
    have e2 := congrArg tl e
    rw [cut_nat] at e2
    have e3 : List.take k (tl b) = [] := e2
    rcases List.take_eq_nil_iff.mp e3 with h | h
    · exact .inl h
    · exact .inr h
  · intro h
    refine TL.ext_tl ?_
    rw [cut_nat]
    rcases h with h | h
    · rw [h]; rfl
    · rw [h, List.take_nil]; rfl
/-! ### joined words -/
def blank : Str := " "
def bar : Str := " | "
theorem tl_blank : tl blank = [32] := by decide +kernel
theorem tl_bar : tl bar = [32, 124, 32] := by decide +kernel
theorem split_words {ws : List Str} (hne : ws ≠ []) (h : ∀ w ∈ ws, Pl w) : Txt.split (Txt.join blank ws) blank = ws :=
  TL.split_join (y := blank) (s := 32) (S := []) tl_blank (by decide +kernel) hne fun p hp hc => (h p hp 32 hc).1 rfl
theorem mem_joinL {S : List Nat} {c : Nat} : ∀ {ps : List (List Nat)}, c ∈ TL.joinL S ps → c ∈ S ∨ ∃ p ∈ ps, c ∈ p
  | [], h => by cases h
  | [p], h => .inr ⟨p, List.mem_singleton.mpr rfl, h⟩
  | p :: q :: r, h => by
    have h' : c ∈ p ++ (S ++ TL.joinL S (q :: r)) := h
    rcases List.mem_append.mp h' with h | h
    · exact .inr ⟨p, List.mem_cons_self, h⟩
    · rcases List.mem_append.mp h with h | h
      · exact .inl h
      · rcases mem_joinL h with h | ⟨x, hx, hc⟩
        · exact .inl h
        · exact .inr ⟨x, List.mem_cons_of_mem _ hx, hc⟩
theorem mem_join {y : Str} {c : Nat} {ws : List Str} (h : c ∈ tl (Txt.join y ws)) : c ∈ tl y ∨ ∃ w ∈ ws, c ∈ tl w := by
  rw [TL.join_eq, TL.tl_join] at h
  rcases mem_joinL h with h | ⟨p, hp, hc⟩
  · exact .inl h
  · obtain ⟨w, hw, rfl⟩ := List.mem_map.mp hp
    exact .inr ⟨w, hw, hc⟩
theorem words_59 {ws : List Str} (h : ∀ w ∈ ws, Pl w) : ∀ c ∈ tl (Txt.join blank ws), c ≠ 59 ∧ c ≠ 124 := fun c hc => by
  rcases mem_join hc with hc | ⟨w, hw, hc⟩
  · rw [tl_blank] at hc
    have := List.mem_singleton.mp hc
    omega
  · have := h w hw c hc
    omega
theorem bar_no {p q : List Nat} (hp : 124 ∉ p) (i : Nat) (hi : i < p.length) : TL.pre [32, 124, 32] ((p ++ ([32, 124, 32] ++ q)).drop i) = false ∧ TL.pre [32, 124, 32] (p.drop i) = false := by
  have key : ∀ (l : List Nat), l[1]? ≠ some 124 → TL.pre [32, 124, 32] l = false := by
    intro l hl
    match l, hl with
    | [], _ => rfl
    | [a], _ =>
      unfold TL.pre
      simp
    | a :: b :: r, hl =>
      unfold TL.pre
      have hb : b ≠ 124 := fun e => hl (by rw [e]; rfl)
      simp [hb]
  constructor
  · refine key _ ?_
    rw [List.getElem?_drop]
    by_cases h : i + 1 < p.length
    · rw [List.getElem?_append_left h]
      intro e
      exact hp (List.mem_of_getElem? e)
    · have e : i + 1 = p.length := by omega
      rw [e, List.getElem?_append_right (Nat.le_refl _), Nat.sub_self]
      simp
  · refine key _ ?_
    rw [List.getElem?_drop]
    intro e
    exact hp (List.mem_of_getElem? e)
theorem spl_bar : ∀ {parts : List (List Nat)}, parts ≠ [] → (∀ p ∈ parts, 124 ∉ p) → TL.spl [32, 124, 32] 0 [] (TL.joinL [32, 124, 32] parts) = parts
  | [], h, _ => absurd rfl h
  | [p], _, hp => by
    have := TL.spl_last (S := [32, 124, 32]) (p := p) (acc := []) fun i hi => (bar_no (q := []) (hp p List.mem_cons_self) i hi).2
    rw [List.nil_append] at this
    exact this
  | p :: q :: r, _, hp => by
    show TL.spl [32, 124, 32] 0 [] (p ++ ([32, 124, 32] ++ TL.joinL [32, 124, 32] (q :: r))) = p :: q :: r
    rw [TL.spl_part (by simp) fun i hi => (bar_no (hp p List.mem_cons_self) i hi).1, List.nil_append, spl_bar (by simp) fun x hx => hp x (List.mem_cons_of_mem _ hx)]
theorem split_bar {ps : List Str} (hne : ps ≠ []) (h : ∀ p ∈ ps, 124 ∉ tl p) : Txt.split (Txt.join bar ps) bar = ps := by
  refine TL.map_tl_inj ?_
  rw [TL.split_spl _ bar (by rw [tl_bar]; simp) (TL.kind_ok (by decide +kernel)), TL.join_eq, TL.tl_join, tl_bar]
  refine spl_bar (fun e => hne (List.map_eq_nil_iff.mp e)) fun p hp => ?_
  obtain ⟨w, hw, rfl⟩ := List.mem_map.mp hp
  exact h w hw
theorem joinL_len (S : List Nat) (b : Nat) : ∀ ps : List (List Nat), (∀ p ∈ ps, p.length ≤ b) → (TL.joinL S ps).length ≤ ps.length * (b + S.length)
  | [], _ => Nat.zero_le _
  | [p], h => by
    have := h p List.mem_cons_self
    show p.length ≤ 1 * _
    omega
  | p :: q :: r, h => by
    have h1 := h p List.mem_cons_self
    have h2 := joinL_len S b (q :: r) fun x hx => h x (List.mem_cons_of_mem _ hx)
    show (p ++ (S ++ TL.joinL S (q :: r))).length ≤ ((q :: r).length + 1) * (b + S.length)
    rw [List.length_append, List.length_append, Nat.add_mul, Nat.one_mul]
    omega
theorem join_len {y : Str} {b : Nat} {ws : List Str} (h : ∀ w ∈ ws, w.length ≤ b) : (Txt.join y ws).length ≤ ws.length * (b + y.length) := by
  rw [len_tl, TL.join_eq, TL.tl_join, len_tl y]
  refine Nat.le_trans (joinL_len (tl y) b _ fun p hp => ?_) (by rw [List.length_map]; exact Nat.le_refl _)
  obtain ⟨w, hw, rfl⟩ := List.mem_map.mp hp
  rw [← len_tl]
  exact h w hw
theorem sum_len {b : Nat} : ∀ {ws : List Str}, (∀ w ∈ ws, w.length ≤ b) → (ws.map (·.length)).sum ≤ ws.length * b
  | [], _ => Nat.zero_le _
  | w :: r, h => by
    have h1 := h w List.mem_cons_self
    have h2 := sum_len (ws := r) fun x hx => h x (List.mem_cons_of_mem _ hx)
    rw [List.map_cons, List.sum_cons, List.length_cons, Nat.add_mul, Nat.one_mul]
    omega
end Fl

set_option Elab.async false
set_option linter.all false
set_option maxRecDepth 100000
set_option maxHeartbeats 1000000
/-! The mathematics of the log, the pages and the tables. -/
namespace Fl
open PySem PySem.Spec PyProof.Rows L2
open TL (tl)
/-! ### stuff, schemas -/
inductive Stf where
  | set (t : Str) (r : Row) | cut (t : Str) (k : V) | keep (m : Int)
abbrev Col := Str × Str
abbrev Cols := List Col
abbrev Tabs := List (Str × Cols)
def RowOk (cs : Cols) (r : Row) : Prop := Paired (fun (c : Col) (v : V) => OkV c.2 v) cs r
structure ColsOk (cs : Cols) : Prop where
  len : 1 ≤ cs.length ∧ cs.length ≤ 4
  nm : ∀ c ∈ cs, NameOk c.1
  nd : (cs.map (·.1)).Nodup
  kd : ∀ c ∈ cs, c.2 = KNum ∨ c.2 = KWord
structure TabsOk (T : Tabs) : Prop where
  len : 1 ≤ T.length ∧ T.length ≤ 4
  nm : ∀ t ∈ T, NameOk t.1
  nd : (T.map (·.1)).Nodup
  cols : ∀ t ∈ T, ColsOk t.2
def StfOk (T : Tabs) : Stf → Prop
  | .set t r => ∃ cs, (t, cs) ∈ T ∧ RowOk cs r
  | .cut t k => ∃ c cs, (t, c :: cs) ∈ T ∧ OkV c.2 k
  | .keep m => 1 ≤ m ∧ m ≤ 1000000000
def Stf.isKeep : Stf → Bool
  | .keep _ => true
  | _ => false
def Stf.words : Stf → List Str
  | .set t r => ("set" : Str) :: t :: r.map vT
  | .cut t k => [("cut" : Str), t, vT k]
  | .keep m => [("keep" : Str), iT m]
def rowB (n : Int) (s : Stf) : Str := Txt.join blank (iT n :: s.words)
def rowT (n : Int) (s : Stf) : Str := rowB n s ++ semi
theorem pl_set : Pl ("set" : Str) := by
  unfold Pl
  decide +kernel
theorem pl_cut : Pl ("cut" : Str) := by
  unfold Pl
  decide +kernel
theorem pl_keep : Pl ("keep" : Str) := by
  unfold Pl
  decide +kernel
theorem pl_page : Pl ("page" : Str) := by
  unfold Pl
  decide +kernel
theorem paired_mem {α β : Type} {F : α → β → Prop} {l : List α} {m : List β} (h : Paired F l m) : ∀ b ∈ m, ∃ a ∈ l, F a b := by
  induction h with
  | nil => intro b hb; cases hb
  | cons r _ ih =>
    intro b hb
    rcases List.mem_cons.mp hb with rfl | hb
    · exact ⟨_, List.mem_cons_self, r⟩
    · obtain ⟨a, ha, q⟩ := ih b hb
      exact ⟨a, List.mem_cons_of_mem _ ha, q⟩
theorem paired_len {α β : Type} {F : α → β → Prop} {l : List α} {m : List β} (h : Paired F l m) : l.length = m.length := Paired.length h
theorem paired_at {α β : Type} {F : α → β → Prop} {l : List α} {m : List β} (h : Paired F l m) : ∀ {i : Nat} {a : α}, l[i]? = some a → ∃ b, m[i]? = some b ∧ F a b := by
  induction h with
  | nil => intro i a e; simp at e
  | cons r _ ih =>
    intro i a e
    cases i with
    | zero =>
      have e' : _ = a := Option.some.inj e
      exact ⟨_, rfl, e' ▸ r⟩
    | succ i => exact ih (i := i) e
theorem paired_at2 {α β : Type} {F : α → β → Prop} {l : List α} {m : List β} (h : Paired F l m) : ∀ {i : Nat} {b : β}, m[i]? = some b → ∃ a, l[i]? = some a ∧ F a b := by
  induction h with
  | nil => intro i a e; simp at e
  | cons r _ ih =>
    intro i a e
    cases i with
    | zero =>
      have e' : _ = a := Option.some.inj e
      exact ⟨_, rfl, e' ▸ r⟩
    | succ i => exact ih (i := i) e
theorem paired_snoc {α β : Type} {F : α → β → Prop} {l : List α} {m : List β} {a : α} {b : β} (h : Paired F l m) (r : F a b) : Paired F (l ++ [a]) (m ++ [b]) := by
  induction h with
  | nil => exact .cons r .nil
  | cons q _ ih => exact .cons q ih
theorem paired_imp {α β : Type} {F G : α → β → Prop} {l : List α} {m : List β} (h : Paired F l m) (k : ∀ a b, F a b → G a b) : Paired G l m := Paired.mapP h k
theorem paired_app {α β : Type} {F : α → β → Prop} {l l' : List α} {m m' : List β} (h : Paired F l m) (h' : Paired F l' m') : Paired F (l ++ l') (m ++ m') := by
  induction h with
  | nil => exact h'
  | cons q _ ih => exact .cons q ih
theorem paired_take {α β : Type} {F : α → β → Prop} {l : List α} {m : List β} (h : Paired F l m) : ∀ n, Paired F (l.take n) (m.take n) := by
  induction h with
  | nil => intro n; rw [List.take_nil, List.take_nil]; exact .nil
  | cons q _ ih =>
    intro n
    cases n with
    | zero => exact .nil
    | succ n => exact .cons q (ih n)
theorem paired_drop {α β : Type} {F : α → β → Prop} {l : List α} {m : List β} (h : Paired F l m) : ∀ n, Paired F (l.drop n) (m.drop n) := by
  induction h with
  | nil => intro n; rw [List.drop_nil, List.drop_nil]; exact .nil
  | cons q r ih =>
    intro n
    cases n with
    | zero => exact .cons q r
    | succ n => exact ih n
theorem RowOk.pl {cs : Cols} {r : Row} (h : RowOk cs r) : ∀ w ∈ r.map vT, Pl w ∧ w.length ≤ 11 := fun w hw => by
  obtain ⟨v, hv, rfl⟩ := List.mem_map.mp hw
  obtain ⟨c, _, q⟩ := paired_mem h v hv
  exact ⟨q.pl, q.len⟩
theorem StfOk.words {T : Tabs} (TO : TabsOk T) {s : Stf} (h : StfOk T s) : ∀ w ∈ s.words, Pl w ∧ w.length ≤ 11 := by
  intro w hw
  cases s with
  | set t r =>
    obtain ⟨cs, ht, hr⟩ := h
    rcases List.mem_cons.mp hw with rfl | hw
    · exact ⟨pl_set, by decide +kernel⟩
    · rcases List.mem_cons.mp hw with rfl | hw
      · exact ⟨(TO.nm _ ht).pl, Nat.le_trans (TO.nm _ ht).2.1 (by decide)⟩
      · exact hr.pl w hw
  | cut t k =>
    obtain ⟨c, cs, ht, hk⟩ := h
    rcases List.mem_cons.mp hw with rfl | hw
    · exact ⟨pl_cut, by decide +kernel⟩
    · rcases List.mem_cons.mp hw with rfl | hw
      · exact ⟨(TO.nm _ ht).pl, Nat.le_trans (TO.nm _ ht).2.1 (by decide)⟩
      · rcases List.mem_cons.mp hw with rfl | hw
        · exact ⟨hk.pl, hk.len⟩
        · cases hw
  | keep m =>
    obtain ⟨h1, h2⟩ := h
    rcases List.mem_cons.mp hw with rfl | hw
    · exact ⟨pl_keep, by decide +kernel⟩
    · rcases List.mem_cons.mp hw with rfl | hw
      · exact ⟨pl_iT m, iT_len (by omega)⟩
      · cases hw
theorem words_len {T : Tabs} (TO : TabsOk T) {s : Stf} (h : StfOk T s) : s.words.length ≤ 6 := by
  cases s with
  | set t r =>
    obtain ⟨cs, ht, hr⟩ := h
    have h1 := (TO.cols _ ht).len.2
    have h2 := paired_len hr
    show (r.map vT).length + 1 + 1 ≤ 6
    rw [List.length_map]
    have h1' : cs.length ≤ 4 := h1
    omega
  | cut t k => exact (by decide : 3 ≤ 6)
  | keep m => exact (by decide : 2 ≤ 6)
section
variable {T : Tabs} (TO : TabsOk T) {s : Stf} (h : StfOk T s) {n : Int} (hn : 0 ≤ n ∧ n ≤ 1000000000)
include TO h hn
theorem row_words : ∀ w ∈ iT n :: s.words, Pl w ∧ w.length ≤ 11 := fun w hw => by
  rcases List.mem_cons.mp hw with rfl | hw
  · exact ⟨pl_iT n, iT_len (by omega)⟩
  · exact h.words TO w hw
theorem row_split : Txt.split (rowB n s) blank = iT n :: s.words := split_words (List.cons_ne_nil _ _) fun w hw => (row_words TO h hn w hw).1
theorem row_59 : ∀ c ∈ tl (rowB n s), c ≠ 59 := fun c hc => (words_59 (fun w hw => (row_words TO h hn w hw).1) c hc).1
theorem rowB_len : (rowB n s).length ≤ 84 := by
  have h1 := join_len (y := blank) (b := 11) fun w hw => (row_words TO h hn w hw).2
  have h2 := words_len TO h
  have h3 : (blank).length = 1 := by decide +kernel
  unfold rowB
  rw [List.length_cons, h3] at h1
  have : (s.words.length + 1) * (11 + 1) ≤ 7 * 12 := Nat.mul_le_mul (by omega) (by decide)
  omega
theorem rowT_len : (rowT n s).length ≤ 85 := by
  have := rowB_len TO h hn
  unfold rowT
  rw [len_tl, TL.tl_append, tl_semi, List.length_append, ← len_tl]
  show _ + 1 ≤ 85
  omega
end
/-! ### pages -/
structure Pg where
  last : Nat
  many : Int
  rows : List Row
def rwT (r : Row) : Str := Txt.join blank (r.map vT)
def pageH (t : Str) (g : Pg) : Str := Txt.join blank [("page" : Str), t, iT g.last, iT g.many]
def pageB (t : Str) (g : Pg) : Str := Txt.join bar (pageH t g :: g.rows.map rwT)
def pageT (t : Str) (g : Pg) : Str := pageB t g ++ semi
/-! ### keys, the order -/
def keyOf : V → Key
  | .int i => .inl i
  | .str z => .inr z
  | _ => .inl 0
def rk (r : Row) : Key := keyOf (r.headD .non)
def kLt : Key → Key → Prop
  | .inl a, .inl b => a < b
  | .inr x, .inr y => tl x < tl y
  | _, _ => False
def rLt (r s : Row) : Prop := kLt (rk r) (rk s)
theorem OkV.key {k : Str} {v : V} (h : OkV k v) : kV (keyOf v) = v := by
  rcases h with ⟨_, i, rfl, _⟩ | ⟨_, z, rfl, _⟩
  · rfl
  · rfl
/-- a key of the kind -/
def KindK (k : Str) : Key → Prop
  | .inl _ => k = KNum
  | .inr _ => k = KWord
theorem OkV.kind {k : Str} {v : V} (h : OkV k v) : KindK k (keyOf v) := by
  rcases h with ⟨e, i, rfl, _⟩ | ⟨e, z, rfl, _⟩
  · exact e
  · exact e
theorem kind_ne : KNum ≠ KWord := by decide +kernel
theorem kLt_asymm {a b : Key} (h : kLt a b) : ¬ kLt b a := by
  intro g
  cases a with
  | inl a =>
    cases b with
    | inl b =>
      have h' : a < b := h
      have g' : b < a := g
      omega
    | inr b => exact h
  | inr a =>
    cases b with
    | inl b => exact h
    | inr b => exact List.lt_asymm (show tl a < tl b from h) g
/-- of one kind, unlike: one is the lesser -/
theorem kLt_total {k : Str} {a b : Key} (ha : KindK k a) (hb : KindK k b) (h : ¬ kLt b a) (hne : a ≠ b) : kLt a b := by
  cases a with
  | inl a =>
    cases b with
    | inl b =>
      show a < b
      have h' : ¬ b < a := h
      have : a ≠ b := fun e => hne (by rw [e])
      omega
    | inr b => exact absurd ((show k = KNum from ha).symm.trans hb) kind_ne
  | inr a =>
    cases b with
    | inl b => exact absurd ((show k = KNum from hb).symm.trans ha) kind_ne
    | inr b =>
      show tl a < tl b
      have h' : ¬ tl b < tl a := h
      have hn : tl a ≠ tl b := fun e => hne (congrArg Sum.inr (TL.ext_tl e))
      rcases Std.le_iff_lt_or_eq.mp (List.not_lt.mp h') with h | h
      · exact h
      · exact absurd h hn
theorem uniq_rise {α : Type} {R : α → α → Prop} (as : ∀ a b, R a b → ¬ R b a) : ∀ {l m : List α}, l.Pairwise R → m.Pairwise R → (∀ x, x ∈ l ↔ x ∈ m) → l = m
  | [], [], _, _, _ => rfl
  | [], b :: t, _, _, h => by
    have := (h b).mpr List.mem_cons_self
    cases this
  | a :: r, [], _, _, h => by
    have := (h a).mp List.mem_cons_self
    cases this
  | a :: r, b :: t, p, q, h => by
    obtain ⟨p1, p2⟩ := List.pairwise_cons.mp p
    obtain ⟨q1, q2⟩ := List.pairwise_cons.mp q
    have e : a = b := by
      rcases List.mem_cons.mp ((h a).mp List.mem_cons_self) with e | e
      · exact e
      · rcases List.mem_cons.mp ((h b).mpr List.mem_cons_self) with e' | e'
        · exact e'.symm
        · exact absurd (p1 b e') (as _ _ (q1 a e))
    subst e
    have ih := uniq_rise as p2 q2 fun x => by
      constructor
      · intro hx
        rcases List.mem_cons.mp ((h x).mp (List.mem_cons_of_mem _ hx)) with e | e
        · subst e
          exact absurd (p1 x hx) (as _ _ (p1 x hx))
        · exact e
      · intro hx
        rcases List.mem_cons.mp ((h x).mpr (List.mem_cons_of_mem _ hx)) with e | e
        · subst e
          exact absurd (q1 x hx) (as _ _ (q1 x hx))
        · exact e
    rw [ih]
/-! ### tables as functions from keys -/
abbrev TF := Key → Option Row
/-- L is the table f, by rising key -/
def Lists (f : TF) (L : List Row) : Prop := L.Pairwise rLt ∧ ∀ k r, f k = some r ↔ (r ∈ L ∧ rk r = k)
theorem Lists.uniq {f : TF} {L M : List Row} (h : Lists f L) (g : Lists f M) : L = M :=
  uniq_rise (fun a b => kLt_asymm) h.1 g.1 fun x => by
    constructor
    · intro hx
      exact ((g.2 (rk x) x).mp ((h.2 (rk x) x).mpr ⟨hx, rfl⟩)).1
    · intro hx
      exact ((h.2 (rk x) x).mp ((g.2 (rk x) x).mpr ⟨hx, rfl⟩)).1
/-- each row stands at its own key -/
def KeyF (f : TF) : Prop := ∀ k r, f k = some r → rk r = k
/-- the rows of rising keys -/
theorem lists_of {f : TF} (hk : KeyF f) {ks : List Key} {L : List Row} (hs : ks.Pairwise kLt) (hp : Paired (fun k r => f k = some r) ks L) (hall : ∀ k, f k ≠ none → k ∈ ks) : Lists f L := by
  constructor
  · clear hall
    induction hp with
    | nil => exact .nil
    | @cons k r ks L h hp ih =>
      obtain ⟨s1, s2⟩ := List.pairwise_cons.mp hs
      refine List.pairwise_cons.mpr ⟨fun x hx => ?_, ih s2⟩
      obtain ⟨k', hk', e⟩ := paired_mem hp x hx
      show kLt (rk r) (rk x)
      rw [hk _ _ h, hk _ _ e]
      exact s1 k' hk'
  · intro k r
    constructor
    · intro e
      have hm := hall k (by rw [e]; exact fun z => nomatch z)
      obtain ⟨i, hi⟩ := List.getElem?_of_mem hm
      obtain ⟨x, hx, ex⟩ := paired_at hp hi
      have : x = r := Option.some.inj (ex.symm.trans e)
      subst this
      exact ⟨List.mem_of_getElem? hx, hk _ _ e⟩
    · rintro ⟨hm, rfl⟩
      obtain ⟨k', _, e⟩ := paired_mem hp r hm
      rw [hk _ _ e]
      exact e
/-- one row of the log, for the table t -/
def appT (t : Str) (s : Stf) (f : TF) : TF := match s with
  | .set t' r => if t' = t then fun k => if k = rk r then some r else f k else f
  | .cut t' v => if t' = t then fun k => if k = keyOf v then none else f k else f
  | .keep _ => f
def runT (t : Str) (h : List Stf) (f : TF) : TF := h.foldl (fun f s => appT t s f) f
def stT (t : Str) (h : List Stf) : TF := runT t h fun _ => none
theorem runT_app (t : Str) (h g : List Stf) (f : TF) : runT t (h ++ g) f = runT t g (runT t h f) := List.foldl_append
theorem keyF_app {t : Str} {s : Stf} {f : TF} (h : KeyF f) : KeyF (appT t s f) := by
  intro k r e
  cases s with
  | set t' x =>
    unfold appT at e
    simp only at e
    split at e
    · dsimp only at e
      split at e
      · rename_i hk
        cases e
        exact hk.symm
      · exact h k r e
    · exact h k r e
  | cut t' v =>
    unfold appT at e
    simp only at e
    split at e
    · dsimp only at e
      split at e
      · cases e
      · exact h k r e
    · exact h k r e
  | keep m => exact h k r e
theorem keyF_run {t : Str} : ∀ {h : List Stf} {f : TF}, KeyF f → KeyF (runT t h f)
  | [], _, hf => hf
  | s :: r, f, hf => keyF_run (h := r) (keyF_app hf)
theorem keyF_st (t : Str) (h : List Stf) : KeyF (stT t h) := keyF_run fun _ _ e => nomatch e
/-! ### numbered rows -/
abbrev Ent := Int × Stf
def ents (n : Int) : List Stf → List Ent
  | [] => []
  | s :: r => (n, s) :: ents (n + 1) r
theorem ents_len : ∀ (n : Int) (ss : List Stf), (ents n ss).length = ss.length
  | _, [] => rfl
  | n, s :: r => by
    show (ents (n + 1) r).length + 1 = r.length + 1
    rw [ents_len]
theorem ents_at : ∀ (n : Int) (ss : List Stf) (i : Nat), (ents n ss)[i]? = (ss[i]?).map fun s => (n + (i : Int), s)
  | _, [], _ => rfl
  | n, s :: r, 0 => by
    show some (n, s) = some (n + ((0 : Nat) : Int), s)
    rw [show n + ((0 : Nat) : Int) = n by omega]
  | n, s :: r, i + 1 => by
    show (ents (n + 1) r)[i]? = (r[i]?).map _
    rw [ents_at (n + 1) r i]
    congr 1
    funext x
    rw [show n + 1 + (i : Int) = n + ((i + 1 : Nat) : Int) by omega]
theorem ents_app : ∀ (n : Int) (a b : List Stf), ents n (a ++ b) = ents n a ++ ents (n + (a.length : Int)) b
  | n, [], b => by
    show ents n b = ents (n + ((0 : Nat) : Int)) b
    rw [show n + ((0 : Nat) : Int) = n by omega]
  | n, s :: r, b => by
    show (n, s) :: ents (n + 1) (r ++ b) = (n, s) :: (ents (n + 1) r ++ ents (n + ((r.length + 1 : Nat) : Int)) b)
    rw [ents_app (n + 1) r b, show n + 1 + (r.length : Int) = n + ((r.length + 1 : Nat) : Int) by omega]
theorem ents_take (n : Int) (ss : List Stf) (k : Nat) : (ents n ss).take k = ents n (ss.take k) := by
  by_cases h : k ≤ ss.length
  · conv => lhs; rw [← List.take_append_drop k ss, ents_app]
    rw [List.take_append_of_le_length (by rw [ents_len, List.length_take]; omega), List.take_of_length_le (by rw [ents_len, List.length_take]; omega)]
  · rw [List.take_of_length_le (by rw [ents_len]; omega), List.take_of_length_le (by omega)]
/-- the rows of the log that stand behind the page -/
def repE (t : Str) (last : Int) (es : List Ent) (f : TF) : TF := es.foldl (fun f e => if last < e.1 then appT t e.2 f else f) f
theorem repE_low (t : Str) (last : Int) : ∀ (n : Int) (ss : List Stf) (f : TF), n + (ss.length : Int) ≤ last + 1 → repE t last (ents n ss) f = f
  | _, [], _, _ => rfl
  | n, s :: r, f, h => by
    have h' : n + ((r.length + 1 : Nat) : Int) ≤ last + 1 := h
    show repE t last (ents (n + 1) r) (if last < n then appT t s f else f) = f
    rw [if_neg (by omega)]
    exact repE_low t last (n + 1) r f (by omega)
theorem repE_high (t : Str) (last : Int) : ∀ (n : Int) (ss : List Stf) (f : TF), last < n → repE t last (ents n ss) f = runT t ss f
  | _, [], _, _ => rfl
  | n, s :: r, f, h => by
    show repE t last (ents (n + 1) r) (if last < n then appT t s f else f) = runT t r (appT t s f)
    rw [if_pos h]
    exact repE_high t last (n + 1) r _ (by omega)
theorem repE_app (t : Str) (last : Int) (a b : List Ent) (f : TF) : repE t last (a ++ b) f = repE t last b (repE t last a f) := List.foldl_append
theorem rep_all (t : Str) {h : List Stf} {first l : Nat} (h1 : first ≤ l) (h2 : l ≤ h.length) : repE t (l : Int) (ents ((first : Int) + 1) (h.drop first)) (stT t (h.take l)) = stT t h := by
  have e : h.drop first = (h.drop first).take (l - first) ++ h.drop l := by
    conv => lhs; rw [← List.take_append_drop (l - first) (h.drop first)]
    rw [List.drop_drop]
    rw [show first + (l - first) = l by omega]
  have z : ((h.drop first).take (l - first)).length = l - first := by
    rw [List.length_take, List.length_drop]
    omega
  rw [e, ents_app, repE_app, repE_low t l _ ((h.drop first).take (l - first)) _ (by rw [z]; omega), repE_high t l _ (h.drop l) _ (by rw [z]; omega)]
  unfold stT
  rw [← runT_app, List.take_append_drop]
/-! ### keeps -/
def keeps (h : List Stf) : Int := ((h.filter Stf.isKeep).length : Int)
theorem keeps_app (a b : List Stf) : keeps (a ++ b) = keeps a + keeps b := by
  unfold keeps
  rw [List.filter_append, List.length_append]
  omega
theorem keeps_none {b : List Stf} (h : ∀ s ∈ b, s.isKeep = false) : keeps b = 0 := by
  unfold keeps
  rw [List.filter_eq_nil_iff.mpr fun s hs => by rw [h s hs]; exact Bool.false_ne_true]
  rfl
theorem keeps_keep (m : Int) : keeps [.keep m] = 1 := rfl
theorem keeps_nn (h : List Stf) : 0 ≤ keeps h ∧ keeps h ≤ (h.length : Int) := by
  unfold keeps
  have := List.length_filter_le Stf.isKeep h
  omega
/-- how many rows stand up to the last keep row -/
def km : Nat → Nat → List Stf → Nat
  | _, m, [] => m
  | i, m, s :: r => km (i + 1) (if s.isKeep = true then i + 1 else m) r
theorem km_app : ∀ (i m : Nat) (a b : List Stf), km i m (a ++ b) = km (i + a.length) (km i m a) b
  | i, m, [], b => rfl
  | i, m, s :: r, b => by
    show km (i + 1) _ (r ++ b) = km (i + (r.length + 1)) (km (i + 1) _ r) b
    rw [km_app (i + 1) _ r b, show i + 1 + r.length = i + (r.length + 1) by omega]
theorem km_none : ∀ (i m : Nat) (b : List Stf), (∀ s ∈ b, s.isKeep = false) → km i m b = m
  | _, _, [], _ => rfl
  | i, m, s :: r, h => by
    show km (i + 1) (if s.isKeep = true then i + 1 else m) r = m
    rw [h s List.mem_cons_self]
    exact km_none (i + 1) m r fun x hx => h x (List.mem_cons_of_mem _ hx)
/-- ends with a keep row, or is empty -/
def KeepEnd (c : List Stf) : Prop := c = [] ∨ ∃ h m, c = h ++ [.keep m]
theorem km_kept {c j : List Stf} (hc : KeepEnd c) (hj : ∀ s ∈ j, s.isKeep = false) : km 0 0 (c ++ j) = c.length := by
  rw [km_app, km_none _ _ _ hj]
  rcases hc with rfl | ⟨h, m, rfl⟩
  · rfl
  · rw [km_app, List.length_append]
    show 0 + h.length + 1 = h.length + 1
    omega
theorem KeepEnd.drop {c : List Stf} (h : KeepEnd c) (n : Nat) : KeepEnd (c.drop n) := by
  rcases h with rfl | ⟨h, m, rfl⟩
  · exact .inl List.drop_nil
  · by_cases hn : n ≤ h.length
    · exact .inr ⟨h.drop n, m, List.drop_append_of_le_length hn⟩
    · exact .inl (List.drop_of_length_le (by rw [List.length_append]; show h.length + 1 ≤ n; omega))
end Fl

set_option Elab.async false
set_option linter.all false
set_option maxRecDepth 100000
set_option maxHeartbeats 1000000
/-! Defs as bundles, calls of them, what stands on the heap. -/
namespace Fl
open PySem PySem.Spec PyProof.Rows L2
open TL (tl)
/-! ### a def that is called by its name, a method -/
structure Df (P : Program) (w : World) (K : PySem.W.Frag) (mg : Str → Option Value) (base : Heap) (CX : CXT) (k : Nat) (x : Str) (ps : List Str) (sp : Sp) : Prop where
  ex : ∃ f fd, FnOk P w K mg base CX k f fd ps sp ∧ mg x = some (.ref f) ∧ PySem.W.keepIn K (.ref f) = true ∧ Binds K fd ps []
structure Md (P : Program) (w : World) (K : PySem.W.Frag) (mg : Str → Option Value) (base : Heap) (CX : CXT) (k : Nat) (C : Addr) (m : Str) (ps : List Str) (sp : Sp) : Prop where
  cl : Cls K C
  ex : ∃ f fd, FnOk P w K mg base CX k f fd ps sp ∧ Meth K C m f ∧ Binds K fd ps []
def tMethW (C : Addr) (m : Str) (sp : Sp) (E : L2.St → XK) (ta : TE) (t : TA) : TE := fun σ H Q => ta σ H fun x H1 => ∃ a dx fs, x = .ref a ∧ H1 a = some (.ins C dx fs) ∧ fs.lookup m = none ∧
  t σ H1 fun vs H2 => sp (x :: vs) H2 Q (E σ)
section
variable {X : Cx} {CX : CXT} {k : Nat} {C : Addr} {x m : Str} {ps : List Str} {sp : Sp} {E : XK} {p pos apos : Pos} {e o : Expr} {es : List Expr} {ta : TE} {t : TA}
theorem pe_df (D : Df X.prog X.w X.K X.mg X.base CX k x ps sp) (hr : Room k X.A) (hx : Passes CX X E) (ha : PA X (e :: es) t) (hg : Gl X x := by rfl) (hdb : (x == ("__debug__" : Str)) = false := by decide)
    (he : starEach (e :: es) X.env = (false, eval e X.env) :: starEach es X.env := by rfl) (hpl : (backTo pos (starEach es X.env)).any (·.1) = false := by rfl) : PE X (.Call (.Name x p) (e :: es) [] pos) (tCall sp [] E t) := by
  obtain ⟨f, fd, F, hm, hk, hb⟩ := D.ex
  exact pe_call F hr hg hm hk hb .nil hx ha hdb he hpl
theorem pe_dfS {E : L2.St → XK} (D : Df X.prog X.w X.K X.mg X.base CX k x ps sp) (hr : Room k X.A) (hx : ∀ σ, PassesAt CX X σ (E σ)) (ha : PA X (e :: es) t) (hg : Gl X x := by rfl) (hdb : (x == ("__debug__" : Str)) = false := by decide)
    (he : starEach (e :: es) X.env = (false, eval e X.env) :: starEach es X.env := by rfl) (hpl : (backTo pos (starEach es X.env)).any (·.1) = false := by rfl) : PE X (.Call (.Name x p) (e :: es) [] pos) (tCallS sp E t) := by
  obtain ⟨f, fd, F, hm, hk, hb⟩ := D.ex
  exact pe_callS F hr hg hm hk hb hx ha hdb he hpl
theorem pe_md {pl : Sem Bool} (M : Md X.prog X.w X.K X.mg X.base CX k C m ps sp) (hr : Room k X.A) (hx : Passes CX X E) (he : PE X o ta) (ha : PA X (e :: es) t)
    (hst : starEach (e :: es) X.env = (false, eval e X.env) :: starEach es X.env := by rfl) (hpl : (backTo pos (starEach es X.env)).any (·.1) = false := by rfl)
    (ht : eval (.Call (.Attribute o m apos) (e :: es) [] pos) X.env = (do
      let ov ← eval o X.env
      standAt apos.atName
      let (f, first) ← holding [ov] (getMethod ov m pl)
      callWith pos f first (backTo pos (starEach (e :: es) X.env)) (backToKw pos (keywordEach [] X.env))) := by rfl) :
    PE X (.Call (.Attribute o m apos) (e :: es) [] pos) (tMeth C m sp [] E ta t) := by
  obtain ⟨f, fd, F, hm, hb⟩ := M.ex
  exact pe_meth he M.cl hm F hr hb .nil hx ha hst hpl ht
theorem pe_md0 {pl : Sem Bool} (M : Md X.prog X.w X.K X.mg X.base CX k C m ps sp) (hr : Room k X.A) (hx : Passes CX X E) (he : PE X o ta)
    (ht : eval (.Call (.Attribute o m apos) [] [] pos) X.env = (do
      let ov ← eval o X.env
      standAt apos.atName
      let (f, first) ← holding [ov] (getMethod ov m pl)
      callWith pos f first (backTo pos (starEach [] X.env)) (backToKw pos (keywordEach [] X.env))) := by rfl) :
    PE X (.Call (.Attribute o m apos) [] [] pos) (tMeth C m sp [] E ta tNil) := by
  obtain ⟨f, fd, F, hm, hb⟩ := M.ex
  exact pe_meth0 he M.cl hm F hr hb .nil hx ht
theorem pe_mdS {pl : Sem Bool} {E : L2.St → XK} (M : Md X.prog X.w X.K X.mg X.base CX k C m ps sp) (hr : Room k X.A) (hx : ∀ σ, PassesAt CX X σ (E σ)) (he : PE X o ta) (ha : PA X (e :: es) t)
    (hst : starEach (e :: es) X.env = (false, eval e X.env) :: starEach es X.env := by rfl) (hpl : (backTo pos (starEach es X.env)).any (·.1) = false := by rfl)
    (ht : eval (.Call (.Attribute o m apos) (e :: es) [] pos) X.env = (do
      let ov ← eval o X.env
      standAt apos.atName
      let (f, first) ← holding [ov] (getMethod ov m pl)
      callWith pos f first (backTo pos (starEach (e :: es) X.env)) (backToKw pos (keywordEach [] X.env))) := by rfl) :
    PE X (.Call (.Attribute o m apos) (e :: es) [] pos) (tMethW C m sp E ta t) := by
  obtain ⟨f, fd, F, hm, hb⟩ := M.ex
  refine ⟨fun pins s σ H Q I h => ?_⟩
  refine PySem.W.methodCall_KW (pl := pl) (thn (he.run pins s σ H _ I h) fun u s1 ⟨x, H1, I1, rx, a, dx, fs, ex, ea, l, q⟩ => ?_) ht
  subst ex
  obtain rfl : u = Value.ref a := rx
  refine getmeth_ok I1 ea M.cl hm l ?_
  refine PySem.W.callWith_K (first := [.ref a]) (h₀ := X.base) I.ok.mod.kin hm.kp (thn (ha.run pos pins s1 σ H1 _ I1 q) fun us s2 ⟨vs, H2, I2, r, q2⟩ => ⟨I2.kIn, ?_⟩) hst hpl
  exact run_fnS (us := .ref a :: us) (vs := .ref a :: vs) F hr hb (hx σ) I2 (.cons rfl r) q2
end
/-! ### the bodies: a def that lets nothing out, a def that may raise -/
section
variable {P : Program} {w : World} {K : PySem.W.Frag} {mg : Str → Option Value} {base : Heap}
theorem ok0 {d : He.DefD} {fd : FuncData} {N ps : List Str} {k : Nat} {sp : Sp} (F : Fd K d fd) (S : FnScope N ps d.scope) (len : ∀ vs H Q E, sp vs H Q E → vs.length = ps.length)
    (hbody : ∀ (cdv : Value) (A : Around) (outer : List Env) (s : Shared) (H : Hp) (vs : List V) (Q : VK) (E : XK), Room k (A.deeper (envOfC d.qual d.scope s.heap.objs.size (He.fAd K d.at_) cdv)) → sp vs H Q E →
      ∃ t, PSs (cxOf CX0 P w K mg base N d.qual d.scope (He.fAd K d.at_) cdv A outer s H E).nox d.body t ∧ t { nx := fun _ H' => Q .non H', rt := Q } (start N vs) H) : FnOk P w K mg base CX0 (k + 1) (He.fAd K d.at_) fd ps sp :=
  F.ok S len fun cdv A outer s H vs Q E hr h => by
    obtain ⟨t, h1, h2⟩ := hbody cdv A outer s H vs Q E hr h
    exact ⟨t, h1.nox, h2⟩
theorem okX {d : He.DefD} {fd : FuncData} {N ps : List Str} {k : Nat} {sp : Sp} (F : Fd K d fd) (S : FnScope N ps d.scope) (len : ∀ vs H Q E, sp vs H Q E → vs.length = ps.length)
    (hbody : ∀ (cdv : Value) (A : Around) (outer : List Env) (s : Shared) (H : Hp) (vs : List V) (Q : VK) (E : XK), Room k (A.deeper (envOfC d.qual d.scope s.heap.objs.size (He.fAd K d.at_) cdv)) → sp vs H Q E →
      ∃ t, PSs (cxOf (L2.CX P w) P w K mg base N d.qual d.scope (He.fAd K d.at_) cdv A outer s H E) d.body t ∧ t { nx := fun _ H' => Q .non H', rt := Q } (start N vs) H) : FnOk P w K mg base (L2.CX P w) (k + 1) (He.fAd K d.at_) fd ps sp :=
  F.ok S len hbody
end
/-! ### sorted(d) -/
def rSortK : List V → Hp → VK → Prop := fun xs H Q => ∃ (a : Addr) (kvs : List (Key × V)) (kd : Str), xs = [.ref a] ∧ Rd H a (.dK kvs) ∧ (∀ k ∈ kvs.map (·.1), KindK kd k) ∧ (kvs.map (·.1)).Nodup ∧ kvs.length < 64 ∧
  ∀ (ks : List Key) (p : Addr), ks.Perm (kvs.map (·.1)) → ks.Pairwise kLt → H p = none → Q (.ref p) (upd H p (.lst (ks.map kV)))
theorem inl_of : ∀ {l : List Key}, (∀ k ∈ l, KindK KNum k) → ∃ ns : List Int, l = ns.map Sum.inl
  | [], _ => ⟨[], rfl⟩
  | k :: r, h => by
    obtain ⟨ns, e⟩ := inl_of (l := r) fun x hx => h x (List.mem_cons_of_mem _ hx)
    have hk := h k List.mem_cons_self
    cases k with
    | inl i => exact ⟨i :: ns, by rw [e]; rfl⟩
    | inr z => exact absurd hk kind_ne
theorem inr_of : ∀ {l : List Key}, (∀ k ∈ l, KindK KWord k) → ∃ ns : List Str, l = ns.map Sum.inr
  | [], _ => ⟨[], rfl⟩
  | k :: r, h => by
    obtain ⟨ns, e⟩ := inr_of (l := r) fun x hx => h x (List.mem_cons_of_mem _ hx)
    have hk := h k List.mem_cons_self
    cases k with
    | inr i => exact ⟨i :: ns, by rw [e]; rfl⟩
    | inl z => exact absurd (show KWord = KNum from hk).symm kind_ne
theorem rising_pw : ∀ {r : List Str} {p : Str}, risingS p r = true → (p :: r).Pairwise fun a b => ¬ tl b < tl a
  | [], p, _ => List.pairwise_singleton _ _
  | x :: r, p, h => by
    have h' : (!ltCps x.cps.toList p.cps.toList && risingS x r) = true := h
    obtain ⟨h1, h2⟩ := Bool.and_eq_true_iff.mp h'
    have ih := rising_pw h2
    have n1 : ¬ tl x < tl p := by
      rw [ltCps_eq, Bool.not_eq_true', decide_eq_false_iff_not] at h1
      exact h1
    refine List.pairwise_cons.mpr ⟨fun y hy => ?_, ih⟩
    rcases List.mem_cons.mp hy with rfl | hy
    · exact n1
    · have n2 := (List.pairwise_cons.mp ih).1 y hy
      exact List.not_lt.mpr (List.le_trans (List.not_lt.mp n1) (List.not_lt.mp n2))
theorem sorted_pw {l : List Str} (h : sortedS l = true) : l.Pairwise fun a b => ¬ tl b < tl a := by
  cases l with
  | nil => exact .nil
  | cons x r => exact rising_pw h
theorem call_sortK {X : Cx} (hc : X.calm = true) : CallR X (.builtin "sorted") rSortK := by
  intro pins s σ H xs us Q I r h
  obtain ⟨a, kvs, kd, rfl, hd, hk, nd, hl, q⟩ := h
  by_cases e : ∃ ns : List Int, kvs.map (·.1) = ns.map Sum.inl
  · obtain ⟨ns, e⟩ := e
    have l1 : ns.length < 64 := by
      have := congrArg List.length e
      rw [List.length_map, List.length_map] at this
      omega
    refine call_sortedDI hc pins s σ H _ us Q I r ⟨a, kvs, ns, rfl, hd, e, l1, fun ys p hp hs np => ?_⟩
    have nd' : ys.Nodup := hp.nodup_iff.mpr (by rw [e] at nd; exact (List.pairwise_map.mp nd).imp fun h e => h (congrArg _ e))
    have hq := q (ys.map Sum.inl) p (by rw [e]; exact hp.map _) (List.pairwise_map.mpr ((List.pairwise_and_iff.mpr ⟨hs, nd'⟩).imp fun ⟨h1, h2⟩ => by
      show _ < _
      omega)) np
    rw [List.map_map] at hq
    exact hq
  · have hw : ∀ k ∈ kvs.map (·.1), KindK KWord k := by
      intro k hk1
      have hk2 := hk k hk1
      cases k with
      | inr z =>
        rfl
      | inl i =>
        exfalso
        refine e (inl_of fun x hx => ?_)
        rw [← (show kd = KNum from hk2)]
        exact hk x hx
    obtain ⟨ns, e2⟩ := inr_of hw
    have l1 : ns.length < 64 := by
      have := congrArg List.length e2
      rw [List.length_map, List.length_map] at this
      omega
    refine call_sortedD hc pins s σ H _ us Q I r ⟨a, kvs, ns, rfl, hd, e2, l1, fun ys p hp hs np => ?_⟩
    have nd' : ys.Nodup := hp.nodup_iff.mpr (by rw [e2] at nd; exact (List.pairwise_map.mp nd).imp fun h e => h (congrArg _ e))
    have hq := q (ys.map Sum.inr) p (by rw [e2]; exact hp.map _) (List.pairwise_map.mpr ((List.pairwise_and_iff.mpr ⟨sorted_pw hs, nd'⟩).imp fun ⟨h1, h2⟩ =>
      kLt_total (k := KWord) (a := Sum.inr _) (b := Sum.inr _) rfl rfl h1 fun z => h2 (Sum.inr.inj z))) np
    rw [List.map_map] at hq
    exact hq
/-! ### the heap: tuples stay -/
def TS (H H' : Hp) : Prop := ∀ b xs, H b = some (.tup xs) → H' b = some (.tup xs)
theorem TS.refl (H : Hp) : TS H H := fun _ _ h => h
theorem TS.trans {H H1 H2 : Hp} (a : TS H H1) (b : TS H1 H2) : TS H H2 := fun c o h => b c o (a c o h)
theorem _root_.L2.Same.ts {H H' : Hp} (h : Same H H') : TS H H' := fun b _ e => h b _ e
theorem _root_.L2.Same.new {H : Hp} {p : Addr} {o : HO} (h : H p = none) : Same H (upd H p o) := fun a u e => by
  rw [upd_ne (ne_of_none e h)]
  exact e
/-- a new object may change -/
theorem _root_.L2.Same.mut {H H' : Hp} {p : Addr} {o : HO} (e : Same H H') (h : H p = none) : Same H (upd H' p o) := fun a u ha => by
  rw [upd_ne (ne_of_none ha h)]
  exact e a u ha
theorem _root_.L2.Same.rd {H H' : Hp} {a : Addr} {u : HO} (e : Same H H') (h : Rd H a u) : Rd H' a u := by
  rcases h with h | ⟨o, h⟩
  · exact .inl (e _ _ h)
  · exact .inr ⟨o, e _ _ h⟩
theorem _root_.L2.Same.sqt {K : PySem.W.Frag} {H H' : Hp} {a : Addr} {xs : List V} (e : Same H H') (h : SqT K H a xs) : SqT K H' a xs := by
  rcases h with (h | ⟨o, h⟩) | h
  · exact .inl (.inl (e _ _ h))
  · exact .inl (.inr ⟨o, e _ _ h⟩)
  · exact .inr h
def RowAt (H : Hp) (r : Row) (x : V) : Prop := ∃ a, x = .ref a ∧ H a = some (.tup r)
theorem RowAt.ts {H H' : Hp} (k : TS H H') {r : Row} {x : V} : RowAt H r x → RowAt H' r x := fun ⟨a, e, h⟩ => ⟨a, e, k _ _ h⟩
def StfAt (H : Hp) (s : Stf) (x : V) : Prop := match s with
  | .set t r => ∃ a b, x = .ref a ∧ H a = some (.tup [.str ("set" : Str), .str t, .ref b]) ∧ H b = some (.tup r)
  | .cut t v => ∃ a, x = .ref a ∧ H a = some (.tup [.str ("cut" : Str), .str t, v])
  | .keep m => ∃ a, x = .ref a ∧ H a = some (.tup [.str ("keep" : Str), .int m])
theorem StfAt.ts {H H' : Hp} (k : TS H H') {s : Stf} {x : V} (h : StfAt H s x) : StfAt H' s x := by
  cases s with
  | set t r =>
    obtain ⟨a, b, e, h1, h2⟩ := h
    exact ⟨a, b, e, k _ _ h1, k _ _ h2⟩
  | cut t v =>
    obtain ⟨a, e, h1⟩ := h
    exact ⟨a, e, k _ _ h1⟩
  | keep m =>
    obtain ⟨a, e, h1⟩ := h
    exact ⟨a, e, k _ _ h1⟩
def EntAt (H : Hp) (e : Ent) (x : V) : Prop := ∃ a w, x = .ref a ∧ H a = some (.tup [.int e.1, w]) ∧ StfAt H e.2 w
theorem EntAt.ts {H H' : Hp} (k : TS H H') {e : Ent} {x : V} : EntAt H e x → EntAt H' e x := fun ⟨a, w, e, h, g⟩ => ⟨a, w, e, k _ _ h, g.ts k⟩
def RowsAt (H : Hp) (rows : List Row) (l : Addr) : Prop := ∃ xs, H l = some (.lst xs) ∧ Paired (RowAt H) rows xs
theorem RowsAt.same {H H' : Hp} (k : Same H H') {rows : List Row} {l : Addr} : RowsAt H rows l → RowsAt H' rows l := fun ⟨xs, h, p⟩ => ⟨xs, k _ _ h, paired_imp p fun _ _ => RowAt.ts k.ts⟩
def EntsAt (H : Hp) (es : List Ent) (l : Addr) : Prop := ∃ xs, H l = some (.lst xs) ∧ Paired (EntAt H) es xs
theorem EntsAt.same {H H' : Hp} (k : Same H H') {es : List Ent} {l : Addr} : EntsAt H es l → EntsAt H' es l := fun ⟨xs, h, p⟩ => ⟨xs, k _ _ h, paired_imp p fun _ _ => EntAt.ts k.ts⟩
/-! ### the schema -/
def ColAt (H : Hp) (c : Col) (x : V) : Prop := ∃ q, x = .ref q ∧ H q = some (.tup [.str c.1, .str c.2])
theorem ColAt.ts {H H' : Hp} (k : TS H H') {c : Col} {x : V} : ColAt H c x → ColAt H' c x := fun ⟨a, e, h⟩ => ⟨a, e, k _ _ h⟩
def TabAt (H : Hp) (t : Str × Cols) (kv : Key × V) : Prop := kv.1 = .inr t.1 ∧ ∃ a xs, kv.2 = .ref a ∧ H a = some (.tup xs) ∧ Paired (ColAt H) t.2 xs
theorem TabAt.ts {H H' : Hp} (k : TS H H') {t : Str × Cols} {kv : Key × V} : TabAt H t kv → TabAt H' t kv := fun ⟨e, a, xs, e2, h, p⟩ => ⟨e, a, xs, e2, k _ _ h, paired_imp p fun _ _ => ColAt.ts k⟩
structure SchAt (C : Addr) (H : Hp) (s : Addr) (T : Tabs) : Prop where
  ok : TabsOk T
  at_ : ∃ dx dc ko kvs, H s = some (.ins C dx [("columns", .ref dc), ("kept_orders", ko)]) ∧ H dc = some (.dK kvs) ∧ Paired (TabAt H) T kvs
theorem SchAt.same {C : Addr} {H H' : Hp} (k : Same H H') {s : Addr} {T : Tabs} (h : SchAt C H s T) : SchAt C H' s T := by
  obtain ⟨dx, dc, ko, kvs, h1, h2, h3⟩ := h.at_
  exact ⟨h.ok, dx, dc, ko, kvs, k _ _ h1, k _ _ h2, paired_imp h3 fun _ _ => TabAt.ts k.ts⟩
theorem tabs_keys {H : Hp} {T : Tabs} {kvs : List (Key × V)} (p : Paired (TabAt H) T kvs) : kvs.map (·.1) = T.map fun t => Sum.inr t.1 := by
  induction p with
  | nil => rfl
  | cons h _ ih =>
    rw [List.map_cons, List.map_cons, ih, h.1]
theorem names_uniq {T : Tabs} (TO : TabsOk T) {t : Str} {c1 c2 : Cols} (h1 : (t, c1) ∈ T) (h2 : (t, c2) ∈ T) : c1 = c2 := by
  have nd := TO.nd
  clear TO
  induction T with
  | nil => cases h1
  | cons x r ih =>
    rw [List.map_cons, List.nodup_cons] at nd
    rcases List.mem_cons.mp h1 with e1 | g1
    · rcases List.mem_cons.mp h2 with e2 | g2
      · exact (Prod.mk.inj (e1.trans e2.symm)).2
      · exact absurd (List.mem_map_of_mem g2) (by rw [← e1] at nd; exact nd.1)
    · rcases List.mem_cons.mp h2 with e2 | g2
      · exact absurd (List.mem_map_of_mem g1) (by rw [← e2] at nd; exact nd.1)
      · exact ih g1 g2 nd.2
/-- a table's columns in the dict -/
theorem tabs_get {H : Hp} {T : Tabs} {kvs : List (Key × V)} (p : Paired (TabAt H) T kvs) (nd : (T.map (·.1)).Nodup) {t : Str} {cs : Cols} (h : (t, cs) ∈ T) : ∃ a xs, valV kvs (.inr t) = some (.ref a) ∧ H a = some (.tup xs) ∧ Paired (ColAt H) cs xs := by
  induction p with
  | nil => cases h
  | @cons y kv T' kvs' hy hp ih =>
    rw [List.map_cons, List.nodup_cons] at nd
    obtain ⟨e1, a, xs, e2, h1, h2⟩ := hy
    rcases List.mem_cons.mp h with e | g
    · subst e
      exact ⟨a, xs, by rw [valV_pos e1, e2], h1, h2⟩
    · have hne : ¬ kv.1 = Sum.inr t := by
        rw [e1]
        intro z
        have z2 := Sum.inr.inj z
        refine nd.1 ?_
        rw [z2]
        exact List.mem_map_of_mem g
      obtain ⟨a', xs', q⟩ := ih nd.2 g
      exact ⟨a', xs', by rw [valV_neg hne]; exact q.1, q.2⟩
theorem tabs_none {H : Hp} {T : Tabs} {kvs : List (Key × V)} (p : Paired (TabAt H) T kvs) {t : Str} (h : t ∉ T.map (·.1)) : valV kvs (.inr t) = none := by
  induction p with
  | nil => rfl
  | @cons y kv T' kvs' hy hp ih =>
    rw [List.map_cons, List.mem_cons, not_or] at h
    rw [valV_neg (by rw [hy.1]; exact fun z => h.1 (Sum.inr.inj z).symm)]
    exact ih h.2
end Fl

set_option Elab.async false
set_option linter.all false
set_option maxRecDepth 100000
set_option maxHeartbeats 1000000
/-! Words: values and their texts. -/
namespace Fl
open PySem PySem.Spec PyProof.Rows L2
open TL (tl)
def sp_is_name : Sp := fun vs H Q _ => ∃ z, vs = [.str z] ∧ NameOk z ∧ Q (.bl true) H
def sp_is_kind : Sp := fun vs H Q _ => ∃ k, vs = [.str k] ∧ (k = KNum ∨ k = KWord) ∧ ∀ H', Same H H' → Q (.bl true) H'
def sp_value_text : Sp := fun vs H Q _ => ∃ k v, vs = [v] ∧ OkV k v ∧ Q (.str (vT v)) H
def sp_figures_in : Sp := fun vs H Q _ => ∃ (n : Nat) (z : Str), vs = [.str z] ∧ tl z = TL.numL n ∧ n ≤ 1000000000 ∧ Q (.int n) H
def sp_value_in : Sp := fun vs H Q _ => ∃ k v, vs = [.str k, .str (vT v)] ∧ OkV k v ∧ Q v H
theorem sl_small {n : Nat} (h : n ≤ 1000000) : n ≤ sizeLine := Nat.le_trans h (by decide)
theorem name_small {z : Str} (h : NameOk z) : z.length ≤ sizeLine := Nat.le_trans h.2.1 (by decide)
theorem cps_at {z : Str} {i c : Nat} (h : z.cps[i]? = some c) : (tl z)[i]? = some c := by
  rw [← h]
  exact Array.getElem?_toList
theorem in_letters {c : Nat} (h : 97 ≤ c ∧ c ≤ 122) : c ∈ tl ("abcdefghijklmnopqrstuvwxyz" : Str) := by
  have e : tl ("abcdefghijklmnopqrstuvwxyz" : Str) = (List.range 26).map (· + 97) := by decide +kernel
  rw [e]
  exact List.mem_map.mpr ⟨c - 97, List.mem_range.mpr (by omega), by omega⟩
theorem in_figures {c : Nat} (h : 48 ≤ c ∧ c ≤ 57) : c ∈ tl ("0123456789" : Str) := by
  have e : tl ("0123456789" : Str) = (List.range 10).map (· + 48) := by decide +kernel
  rw [e]
  exact List.mem_map.mpr ⟨c - 48, List.mem_range.mpr (by omega), by omega⟩
theorem ite_of {c : Bool} {A B : Prop} (h1 : c = true → A) (h2 : c = false → B) : if c = true then A else B := by
  cases c with
  | true => exact iteT (h1 rfl)
  | false => exact iteF (h2 rfl)
theorem if_t {c : Bool} {A B : Prop} (h : c = true) (q : A) : if c = true then A else B := by
  rw [if_pos h]
  exact q
theorem if_f {c : Bool} {A B : Prop} (h : c = false) (q : B) : if c = true then A else B := by
  rw [h, if_neg Bool.false_ne_true]
  exact q
section
variable {P : Program} {w : World} {K : PySem.W.Frag} {mg : Str → Option Value} {base : Heap} {fd : FuncData}
theorem sc_is_name : FnScope ["thing", "sign"] ["thing"] d_is_name.scope := ⟨rfl, rfl, rfl, by decide +kernel, rfl, by decide +kernel, by decide +kernel⟩
theorem ok_is_name (T : Tx K mg) (F : Fd K d_is_name fd) : FnOk P w K mg base CX0 1 (He.fAd K d_is_name.at_) fd ["thing"] sp_is_name := by
  obtain ⟨t1, e_MOST_SIGNS⟩ := T.i_MOST_SIGNS
  obtain ⟨t2, e_LETTERS⟩ := T.s_LETTERS
  refine ok0 F sc_is_name (fun vs H Q E h => ?_) (fun cdv A outer s H vs Q E hr h => ?_)
  · obtain ⟨z, rfl, _⟩ := h
    rfl
  · obtain ⟨z, rfl, hz, k⟩ := h
    refine ⟨_, (pss_cons (ps_if (PW.pt (pw_or (pt_not (pt_val (pe_callB call_isi (by rfl) T.f_isinstance (by decide +kernel) (pa_cons (pv 0) (pa_cons (pe_bltn (v := .ty "str") (by rfl) T.f_str (by decide +kernel) rfl) pa_nil))))) (pw_or1 (pt_not (pt_chain op_le op_le pe_int (pe_callB call_len_str (by rfl) T.f_len PySem.boot_len (pa_cons (pv 0) pa_nil)) (pe_glob (v := V.int 8) rfl e_MOST_SIGNS ⟨_, rfl⟩)))))) (pss_one (ps_ret pe_bl)) pss_nil)
    (pss_cons (ps_for PassesOwn.never rfl (pi_str (pv 0)) (pg_name (i := 1) sc_is_name.nd rfl (Or.inl rfl)) (pss_one (ps_if (pt_cmpR op_notIn_sign (pv 1) (pe_glob (v := V.str "abcdefghijklmnopqrstuvwxyz") rfl e_LETTERS ⟨_, rfl⟩) (by rfl)) (pss_one (ps_ret pe_bl)) pss_nil)))
    (pss_one (ps_ret pe_bl)))), ?_⟩
    refine ⟨_, rfl, _, _, _, _, true, rfl, .ty _, .base (.str _), kit_ty (by decide +kernel), _, rfl, iteF ?_⟩
    refine ⟨_, rfl, _, rfl, name_small hz, _, _, rfl, rfl, _, rfl, if_t (decide_eq_true ?_) ?_⟩
    · have := hz.1
      omega
    refine ⟨_, _, rfl, rfl, _, rfl, if_f (by rw [decide_eq_true]; rfl; have := hz.2.1; omega) ?_⟩
    refine ⟨_, rfl, z, rfl, for_it walk_str (fun i σ H' => H' = H ∧ ∃ v, σ = [some (.str z), v]) ⟨rfl, _, rfl⟩ (fun _ _ _ _ _ => trivial) ?_ ?_⟩
    · rintro i x σ H1 H2 hi ⟨rfl, v, rfl⟩ ⟨rfl, c, hc, rfl⟩
      have hm := hz.2.2 c (List.mem_of_getElem? (cps_at hc))
      refine ⟨_, rfl, _, _, rfl, rfl, _, rfl, if_f ?_ ⟨rfl, _, rfl⟩⟩
      rw [decide_eq_true (in_letters hm)]
      rfl
    · rintro σ H1 ⟨rfl, v, rfl⟩
      exact k
theorem sc_is_kind : FnScope ["thing"] ["thing"] d_is_kind.scope := ⟨rfl, rfl, rfl, by decide +kernel, rfl, by decide +kernel, by decide +kernel⟩
theorem ok_is_kind (T : Tx K mg) (F : Fd K d_is_kind fd) : FnOk P w K mg base CX0 1 (He.fAd K d_is_kind.at_) fd ["thing"] sp_is_kind := by
  refine ok0 F sc_is_kind (fun vs H Q E h => ?_) (fun cdv A outer s H vs Q E hr h => ?_)
  · obtain ⟨z, rfl, _⟩ := h
    rfl
  · obtain ⟨z, rfl, hz, k⟩ := h
    refine ⟨_, (pss_one (ps_ret (pe_and (pe_callB call_isi (by rfl) T.f_isinstance (by decide +kernel) (pa_cons (pv 0) (pa_cons (pe_bltn (v := .ty "str") (by rfl) T.f_str (by decide +kernel) rfl) pa_nil))) (pe_one (pe_cmpR op_in_seq (pv 0) (pe_tup (pa_cons pe_str (pa_cons pe_str pa_nil))) (by rfl)))))), ?_⟩
    refine ⟨_, rfl, _, _, _, _, true, rfl, .ty _, .base (.str _), kit_ty (by decide +kernel), true, rfl, iteT ?_⟩
    refine ⟨_, rfl, (by show 2 ≤ sizeLine; decide), fun p hp => ⟨p, _, rfl, .inr (SqT.of upd_same), rfl, rfl, ?_⟩⟩
    have e : inV (.str z) [.str ("number" : Str), .str ("word" : Str)] = true := by
      rcases hz with rfl | rfl
      · decide +kernel
      · decide +kernel
    show Q (.bl (inV (.str z) [.str ("number" : Str), .str ("word" : Str)])) _
    rw [e]
    exact k _ (Same.new hp)
theorem sc_value_text : FnScope ["value"] ["value"] d_value_text.scope := ⟨rfl, rfl, rfl, by decide +kernel, rfl, by decide +kernel, by decide +kernel⟩
theorem ok_value_text (T : Tx K mg) (F : Fd K d_value_text fd) : FnOk P w K mg base CX0 1 (He.fAd K d_value_text.at_) fd ["value"] sp_value_text := by
  refine ok0 F sc_value_text (fun vs H Q E h => ?_) (fun cdv A outer s H vs Q E hr h => ?_)
  · obtain ⟨_, _, rfl, _⟩ := h
    rfl
  · obtain ⟨kd, v, rfl, hv, k⟩ := h
    refine ⟨_, (pss_one (ps_ret (pe_callTy (CallR.or call_str_int SkE.call_str_str) (by rfl) T.f_str (by decide +kernel) (pa_cons (pv 0) pa_nil)))), ?_⟩
    refine ⟨_, rfl, ?_⟩
    rcases hv with ⟨_, i, rfl, h1, h2⟩ | ⟨_, z, rfl, hz⟩
    · refine .inl ⟨i, rfl, ?_, k⟩
      have : i.natAbs < 2 ^ 30 := by omega
      exact Nat.lt_trans (PySem.Flt.log2_lt_of (by decide) this) (by decide)
    · exact .inr ⟨z, rfl, k⟩
theorem sc_figures_in : FnScope ["text", "sign"] ["text"] d_figures_in.scope := ⟨rfl, rfl, rfl, by decide +kernel, rfl, by decide +kernel, by decide +kernel⟩
theorem ok_figures_in (T : Tx K mg) (F : Fd K d_figures_in fd) : FnOk P w K mg base CX0 1 (He.fAd K d_figures_in.at_) fd ["text"] sp_figures_in := by
  obtain ⟨t2, e_FIGURES⟩ := T.s_FIGURES
  refine ok0 F sc_figures_in (fun vs H Q E h => ?_) (fun cdv A outer s H vs Q E hr h => ?_)
  · obtain ⟨_, _, rfl, _⟩ := h
    rfl
  · obtain ⟨n, z, rfl, hz, hn, k⟩ := h
    have hl : z.length ≤ 10 := by
      rw [len_tl, hz]
      exact TL.numL_len (by decide) (by omega)
    have hls : z.length ≤ sizeLine := sl_small (by omega)
    have hne : tl z ≠ [] := by
      rw [hz]
      exact TL.numL_ne n
    refine ⟨_, (pss_cons (ps_if (PW.pt (pw_or (pt_cmpR op_eq (pv 0) pe_str (nomark _)) (pw_or (pt_cmpR op_gt (pe_callB call_len_str (by rfl) T.f_len PySem.boot_len (pa_cons (pv 0) pa_nil)) pe_int (nomark _)) (pw_or1 (PW.pt (pw_and (pt_cmpR op_eq (pe_ix ix_str (pv 0) pe_int (fun _ _ => rfl)) pe_str (nomark _)) (pw_and1 (pt_cmpR op_gt (pe_callB call_len_str (by rfl) T.f_len PySem.boot_len (pa_cons (pv 0) pa_nil)) pe_int (nomark _))))))))) (pss_one (ps_ret pe_non)) pss_nil)
    (pss_cons (ps_for PassesOwn.never rfl (pi_str (pv 0)) (pg_name (i := 1) sc_figures_in.nd rfl (Or.inl rfl)) (pss_one (ps_if (pt_cmpR op_notIn_sign (pv 1) (pe_glob (v := V.str "0123456789") rfl e_FIGURES ⟨_, rfl⟩) (by rfl)) (pss_one (ps_ret pe_non)) pss_nil)))
    (pss_one (ps_ret (pe_callTy call_int_str (by rfl) T.f_int (by decide +kernel) (pa_cons (pv 0) pa_nil)))))), ?_⟩
    -- text == ''
    refine ⟨_, rfl, rfl, _, rfl, if_f (decide_eq_false fun e => hne ?_) ?_⟩
    · have := congrArg tl (V.str.inj e)
      rw [this]
      decide +kernel
    -- len(text) > 10
    refine ⟨_, rfl, z, rfl, hls, _, _, rfl, rfl, _, rfl, if_f (decide_eq_false (by omega)) ?_⟩
    -- text[0] == '0' and len(text) > 1
    obtain ⟨c, r, hc⟩ : ∃ c r, tl z = c :: r := by
      cases q : tl z with
      | nil => exact absurd q hne
      | cons c r => exact ⟨c, r, rfl⟩
    refine ⟨_, rfl, z, 0, c, rfl, rfl, hls, atI_nat (j := 0) (by rw [show z.cps.toList = tl z from rfl, hc]; rfl), rfl, _, rfl, ?_⟩
    have hz0 : c = 48 → z.length = 1 := by
      intro e
      have n0 := numL_head (hz ▸ hc) e
      rw [len_tl, hz, n0]
      decide +kernel
    refine ite_of (fun h => ?_) (fun _ => iteF ?_)
    have h2 := of_decide_eq_true h
    have h3 := congrArg tl (V.str.inj h2)
    have e0 : tl ("0" : Str) = [48] := by decide +kernel
    rw [e0] at h3
    have h4 : [c] = [48] := h3
    have h5 := hz0 (List.cons.inj h4).1
    refine ⟨_, rfl, z, rfl, hls, _, _, rfl, rfl, _, rfl, ?_⟩
    rw [h5]
    refine iteF ?_
    all_goals
      refine ⟨_, rfl, z, rfl, for_it walk_str (fun i σ H' => H' = H ∧ ∃ v, σ = [some (.str z), v]) ⟨rfl, _, rfl⟩ (fun _ _ _ _ _ => trivial) ?_ ?_⟩
      · rintro i x σ H1 H2 hi ⟨rfl, v, rfl⟩ ⟨rfl, c, hc, rfl⟩
        have hm : c ∈ tl z := List.mem_of_getElem? (cps_at hc)
        rw [hz] at hm
        refine ⟨_, rfl, _, _, rfl, rfl, _, rfl, if_f ?_ ⟨rfl, _, rfl⟩⟩
        rw [decide_eq_true (in_figures (numL_range hm))]
        rfl
      · rintro σ H1 ⟨rfl, v, rfl⟩
        have ez : z = iT (n : Int) := TL.ext_tl (by rw [tl_nat, hz])
        refine ⟨_, rfl, z, (n : Int), rfl, ?_, by omega, k⟩
        rw [ez]
        refine TL.int_num ?_
        have := TL.numL_len (n := n) (k := 10) (by decide) (by omega)
        omega
/-- the text of a number, read -/
theorem vT_num_neg {n : Nat} (h : 0 < n) : cutS (iT (-(n : Int))) none (some ((1 : Nat) : Int)) = ("-" : Str) := TL.ext_tl (by
  rw [cut_nat, tl_neg n h]
  have : tl ("-" : Str) = [45] := by decide +kernel
  rw [this]
  rfl)
theorem vT_num_pos (n : Nat) : cutS (iT (n : Int)) none (some ((1 : Nat) : Int)) ≠ ("-" : Str) := by
  intro e
  have e2 := congrArg tl e
  have : tl ("-" : Str) = [45] := by decide +kernel
  rw [cut_nat, tl_nat, this] at e2
  have hm : 45 ∈ TL.numL n := List.mem_of_mem_take (i := 1) (by rw [e2]; exact List.mem_cons_self)
  have := numL_range hm
  omega
theorem not_m0 {i : Int} : iT i ≠ ("-0" : Str) := by
  intro e
  have e2 := congrArg tl e
  have : tl ("-0" : Str) = [45, 48] := by decide +kernel
  rw [this] at e2
  rcases int_cases i with ⟨n, rfl⟩ | ⟨n, hn, rfl⟩
  · rw [tl_nat] at e2
    have hm : 45 ∈ TL.numL n := by rw [e2]; exact List.mem_cons_self
    have := numL_range hm
    omega
  · rw [tl_neg n hn] at e2
    injection e2 with _ e3
    have := numL_head e3 rfl
    omega
theorem sc_value_in : FnScope ["kind", "text", "figures", "number"] ["kind", "text"] d_value_in.scope := ⟨rfl, rfl, rfl, by decide +kernel, rfl, by decide +kernel, by decide +kernel⟩
theorem ok_value_in (T : Tx K mg) (F : Fd K d_value_in fd) (D_is_name : Df P w K mg base CX0 1 "is_name" ["thing"] sp_is_name) (D_figures_in : Df P w K mg base CX0 1 "figures_in" ["text"] sp_figures_in) :
    FnOk P w K mg base CX0 2 (He.fAd K d_value_in.at_) fd ["kind", "text"] sp_value_in := by
  obtain ⟨t1, e_MOST_NUMBER_words⟩ := T.i_MOST_NUMBER_words
  refine ok0 F sc_value_in (fun vs H Q E h => ?_) (fun cdv A outer s H vs Q E hr h => ?_)
  · obtain ⟨_, _, rfl, _⟩ := h
    rfl
  · obtain ⟨kd, v, rfl, hv, k⟩ := h
    have hl : (vT v).length ≤ sizeLine := sl_small (by have := hv.len; omega)
    refine ⟨_, (pss_cons (ps_if (pt_cmpR op_eq (pv 0) pe_str (nomark _)) (pss_cons (ps_if (pt_val (pe_df D_is_name (hr.mono (by decide)) pass0 (pa_cons (pv 1) pa_nil))) (pss_one (ps_ret (pv 1))) pss_nil)
    (pss_one (ps_ret pe_non))) pss_nil)
    (pss_cons (ps_set (i := 2) sc_value_in.nd rfl (Or.inl rfl) (pv 1))
    (pss_cons (ps_if (pt_cmpR op_eq (pe_slice sl_str (pv 1) po_none (po_some pe_int)) pe_str (nomark _)) (pss_one (ps_set (i := 2) sc_value_in.nd rfl (Or.inl rfl) (pe_slice sl_str (pv 1) (po_some pe_int) po_none))) pss_nil)
    (pss_cons (ps_set (i := 3) sc_value_in.nd rfl (Or.inl rfl) (pe_df D_figures_in (hr.mono (by decide)) pass0 (pa_cons (pv 2) pa_nil)))
    (pss_cons (ps_if (PW.pt (pw_or (pt_cmpR op_isN (pv 3) pe_non (nomark _)) (pw_or (pt_cmpR op_gt (pv 3) (pe_glob (v := V.int 1000000000) rfl e_MOST_NUMBER_words ⟨_, rfl⟩) (nomark _)) (pw_or1 (pt_cmpR op_eq (pv 1) pe_str (nomark _)))))) (pss_one (ps_ret pe_non)) pss_nil)
    (pss_cons (ps_if (pt_cmpR op_eq (pe_slice sl_str (pv 1) po_none (po_some pe_int)) pe_str (nomark _)) (pss_one (ps_ret (pe_op op_sub pe_int (pv 3)))) pss_nil)
    (pss_one (ps_ret (pv 3))))))))), ?_⟩
    rcases hv with ⟨rfl, i, rfl, h1, h2⟩ | ⟨rfl, z, rfl, hz⟩
    · -- a number
      refine ⟨_, rfl, rfl, _, rfl, if_f (by decide +kernel) ?_⟩
      refine ⟨_, rfl, ?_⟩
      rcases int_cases i with ⟨n, rfl⟩ | ⟨n, hn, rfl⟩
      · have e1 := vT_num_pos n
        refine ⟨_, rfl, _, rfl, _, rfl, hl, rfl, _, rfl, if_f (decide_eq_false fun e => e1 (V.str.inj e)) ?_⟩
        refine ⟨_, rfl, n, _, rfl, tl_nat n, by omega, ?_⟩
        refine ⟨_, rfl, rfl, _, rfl, if_f (by rfl) ?_⟩
        refine ⟨_, rfl, _, _, rfl, rfl, _, rfl, if_f (decide_eq_false (by omega)) ?_⟩
        refine ⟨_, rfl, rfl, _, rfl, if_f (decide_eq_false fun e => not_m0 (V.str.inj e)) ?_⟩
        refine ⟨_, rfl, _, rfl, _, rfl, hl, rfl, _, rfl, if_f (decide_eq_false fun e => e1 (V.str.inj e)) ?_⟩
        exact ⟨_, rfl, k⟩
      · have e1 := vT_num_neg hn
        refine ⟨_, rfl, _, rfl, _, rfl, hl, rfl, _, rfl, if_t (decide_eq_true (congrArg V.str e1)) ?_⟩
        refine ⟨_, rfl, _, rfl, _, rfl, hl, ?_⟩
        refine ⟨_, rfl, n, _, rfl, ?_, by omega, ?_⟩
        · have := cut_from (iT (-(n : Int))) 1
          rw [tl_neg n hn] at this
          exact this
        refine ⟨_, rfl, rfl, _, rfl, if_f (by rfl) ?_⟩
        refine ⟨_, rfl, _, _, rfl, rfl, _, rfl, if_f (decide_eq_false (by omega)) ?_⟩
        refine ⟨_, rfl, rfl, _, rfl, if_f (decide_eq_false fun e => not_m0 (V.str.inj e)) ?_⟩
        refine ⟨_, rfl, _, rfl, _, rfl, hl, rfl, _, rfl, if_t (decide_eq_true (congrArg V.str e1)) ?_⟩
        refine ⟨_, rfl, _, _, rfl, rfl, ?_⟩
        show Q (.int (0 - (n : Int))) H
        rw [Int.zero_sub]
        exact k
    · -- a word
      refine ⟨_, rfl, rfl, _, rfl, if_t (by decide +kernel) ?_⟩
      refine ⟨_, rfl, z, rfl, hz, _, rfl, iteT ?_⟩
      exact ⟨_, rfl, k⟩
end
end Fl

set_option Elab.async false
set_option linter.all false
set_option maxRecDepth 100000
set_option maxHeartbeats 1000000
/-! Rows of the log, written and read. -/
namespace Fl
open PySem PySem.Spec PyProof.Rows L2
open TL (tl)
abbrev DkC (K : PySem.W.Frag) : Addr := He.ga K "Disk"
abbrev ScC (K : PySem.W.Frag) : Addr := He.ga K "Schema"
/-- the texts of a log: the rows of ss, numbered from n; behind them perhaps one torn text -/
def logT (n : Int) (ss : List Stf) (torn : List Str) : List Str := (ents n ss).map (fun e => rowT e.1 e.2) ++ torn
structure LogOk (T : Tabs) (n : Int) (ss : List Stf) (torn : List Str) : Prop where
  ok : ∀ s ∈ ss, StfOk T s
  lo : 1 ≤ n
  hi : n + (ss.length : Int) ≤ 1000000000
  tn : torn = [] ∨ ∃ z, torn = [z] ∧ NoEnd z ∧ z.length ≤ 1000000
  few : ss.length ≤ 100000
def sp_row_text : Sp := fun vs H Q _ => ∃ T n s x, vs = [.int n, x] ∧ TabsOk T ∧ StfOk T s ∧ (0 ≤ n ∧ n ≤ 1000000000) ∧ StfAt H s x ∧ ∀ H', Same H H' → Q (.str (rowT n s)) H'
def sp_count_in : Sp := fun vs H Q _ => ∃ n : Int, vs = [.str (iT n)] ∧ 1 ≤ n ∧ n ≤ 1000000000 ∧ Q (.int n) H
def sp_values_in : Sp := fun vs H Q _ => ∃ a b cs r xs, vs = [.ref a, .ref b] ∧ RowOk cs r ∧ cs.length ≤ 4 ∧ H a = some (.lst xs) ∧ Paired (ColAt H) cs xs ∧ H b = some (.lst (r.map fun v => .str (vT v))) ∧
  ∀ H' p, Same H H' → H p = none → H' p = some (.tup r) → Q (.ref p) H'
def sp_need_table (K : PySem.W.Frag) : Sp := fun vs H Q _ => ∃ s T t cs, vs = [.ref s, .str t] ∧ SchAt (ScC K) H s T ∧ (t, cs) ∈ T ∧ Q .non H
def sp_table_names (K : PySem.W.Frag) : Sp := fun vs H Q _ => ∃ s T, vs = [.ref s] ∧ SchAt (ScC K) H s T ∧ ∀ p, H p = none → Q (.ref p) (upd H p (.lst (T.map fun t => .str t.1)))
def sp_columns_of (K : PySem.W.Frag) : Sp := fun vs H Q _ => ∃ s T t cs, vs = [.ref s, .str t] ∧ SchAt (ScC K) H s T ∧ (t, cs) ∈ T ∧ ∀ p xs, H p = none → Paired (ColAt H) cs xs → Q (.ref p) (upd H p (.lst xs))
def sp_stuff_in (K : PySem.W.Frag) : Sp := fun vs H Q _ => ∃ s T b st, vs = [.ref s, .ref b] ∧ SchAt (ScC K) H s T ∧ StfOk T st ∧ H b = some (.lst (st.words.map .str)) ∧ ∀ H' x, Same H H' → StfAt H' st x → Q x H'
def sp_row_in (K : PySem.W.Frag) : Sp := fun vs H Q _ => ∃ s T z, vs = [.ref s, .str z] ∧ SchAt (ScC K) H s T ∧ z.length ≤ 1000000 ∧
  ((NoEnd z ∧ ∀ H', Same H H' → Q .non H') ∨ ∃ n st, z = rowT n st ∧ StfOk T st ∧ (1 ≤ n ∧ n ≤ 1000000000) ∧ ∀ H' x, Same H H' → EntAt H' (n, st) x → Q x H')
def sp_whole_rows (K : PySem.W.Frag) : Sp := fun vs H Q _ => ∃ s T b n ss torn, vs = [.ref s, .ref b] ∧ SchAt (ScC K) H s T ∧ LogOk T n ss torn ∧ H b = some (.lst ((logT n ss torn).map .str)) ∧ ∀ H' p, Same H H' → H p = none → EntsAt H' (ents n ss) p → Q (.ref p) H'
def sp_kept_many_rows (K : PySem.W.Frag) : Sp := fun vs H Q _ => ∃ s T b n ss torn, vs = [.ref s, .ref b] ∧ SchAt (ScC K) H s T ∧ LogOk T n ss torn ∧ H b = some (.lst ((logT n ss torn).map .str)) ∧ ∀ H', Same H H' → Q (.int ((km 0 0 ss : Nat) : Int)) H'
theorem take_snoc {α : Type} {l : List α} {i : Nat} {x : α} (h : l[i]? = some x) : l.take (i + 1) = l.take i ++ [x] := by
  rw [List.take_add_one, h]
  rfl
/-- a comprehension without a test -/
theorem tyes {σ : L2.St} {H : Hp} {A B : Hp → Prop} (h : A H) : tYes σ H fun b H3 => if b = true then A H3 else B H3 := by
  show (if true = true then A H else B H)
  rw [if_pos rfl]
  exact h
theorem two_small : 2 ≤ sizeLine := by decide
theorem lookup1 {f : Str} {v : V} {r : List (Str × V)} : List.lookup f ((f, v) :: r) = some v := by
  rw [List.lookup_cons, beq_self_eq_true]
theorem hp_ne {H : Hp} {a b : Addr} {o u : HO} (h : H a = some o) (h' : H b = some u) (d : o ≠ u) : a ≠ b := ne_of h h' d
section
variable {P : Program} {w : World} {K : PySem.W.Frag} {mg : Str → Option Value} {base : Heap} {fd : FuncData}
theorem sc_count_in : FnScope ["word", "number"] ["word"] d_count_in.scope := ⟨rfl, rfl, rfl, by decide +kernel, rfl, by decide +kernel, by decide +kernel⟩
theorem ok_count_in (T : Tx K mg) (F : Fd K d_count_in fd) (D_value_in : Df P w K mg base CX0 2 "value_in" ["kind", "text"] sp_value_in) : FnOk P w K mg base CX0 3 (He.fAd K d_count_in.at_) fd ["word"] sp_count_in := by
  obtain ⟨t1, e_MOST_NUMBER_logrows⟩ := T.i_MOST_NUMBER_logrows
  refine ok0 F sc_count_in (fun vs H Q E h => ?_) (fun cdv A outer s H vs Q E hr h => ?_)
  · obtain ⟨z, rfl, _⟩ := h
    rfl
  · obtain ⟨n, rfl, h1, h2, k⟩ := h
    refine ⟨_, (pss_cons (ps_set (i := 1) sc_count_in.nd rfl (Or.inl rfl) (pe_df D_value_in (hr.mono (by decide)) pass0 (pa_cons pe_str (pa_cons (pv 0) pa_nil))))
    (pss_cons (ps_if (PW.pt (pw_or (pt_cmpR op_isN (pv 1) pe_non (nomark _)) (pw_or1 (pt_not (pt_chain op_le op_le pe_int (pv 1) (pe_glob (v := V.int 1000000000) rfl e_MOST_NUMBER_logrows ⟨_, rfl⟩)))))) (pss_one (ps_ret pe_non)) pss_nil)
    (pss_one (ps_ret (pv 1))))), ?_⟩
    refine ⟨_, rfl, KNum, .int n, rfl, .inl ⟨rfl, n, rfl, by omega, by omega⟩, ?_⟩
    refine ⟨_, rfl, rfl, _, rfl, iteF ?_⟩
    refine ⟨_, rfl, _, _, rfl, rfl, _, rfl, if_t (decide_eq_true h1) ?_⟩
    refine ⟨_, _, rfl, rfl, _, rfl, if_f (by rw [decide_eq_true h2]; rfl) ?_⟩
    exact ⟨_, rfl, k⟩
theorem sc_values_in : FnScope ["columns", "words", "values", "column", "word"] ["columns", "words"] d_values_in.scope := ⟨rfl, rfl, rfl, by decide +kernel, rfl, by decide +kernel, by decide +kernel⟩
theorem ok_values_in (T : Tx K mg) (F : Fd K d_values_in fd) (D_value_in : Df P w K mg base CX0 2 "value_in" ["kind", "text"] sp_value_in) : FnOk P w K mg base CX0 3 (He.fAd K d_values_in.at_) fd ["columns", "words"] sp_values_in := by
  refine ok0 F sc_values_in (fun vs H Q E h => ?_) (fun cdv A outer s H vs Q E hr h => ?_)
  · obtain ⟨a, b, _, _, _, rfl, _⟩ := h
    rfl
  · obtain ⟨a, b, cs, r, xs, rfl, ok, hl, ha, hp, hb, k⟩ := h
    have l1 := paired_len ok
    have l2 := paired_len hp
    have lr : r.length ≤ 4 := by omega
    refine ⟨_, (pss_cons (ps_if (pt_cmpR op_ne (pe_callB call_len_seq (by rfl) T.f_len PySem.boot_len (pa_cons (pv 1) pa_nil)) (pe_callB call_len_seq (by rfl) T.f_len PySem.boot_len (pa_cons (pv 0) pa_nil)) (nomark _)) (pss_one (ps_ret pe_non)) pss_nil)
    (pss_cons (ps_setLc (i := 2) (own := [("column", 3), ("word", 4)]) (g := gTup K 2 (gCons (gName 3) (gCons (gName 4) gNil))) (tt := tYes) (te := tCall sp_value_in [] E0 (tCons (tOp (rIxT K) (tVar 3) (tC (.int 1))) (tCons (tVar 4) tNil))) rfl sc_values_in.nd rfl rfl (sw_true rfl rfl rfl (by decide +kernel)) (pi_zip (by rfl) T.f_zip (pa_cons (pv 0) (pa_cons (pv 1) pa_nil))) (blkOk_by (N := ["columns", "words", "values", "column", "word"]) (sc := d_values_in.scope) (by decide +kernel)) (fun _ _ _ _ _ => (pg_tup rfl (pgs_cons (pg_name (i := 3) sc_values_in.nd rfl (Or.inl rfl)) (pgs_cons (pg_name (i := 4) sc_values_in.nd rfl (Or.inl rfl)) pgs_nil)))) (fun _ _ _ _ _ => pts_nil) (fun _ _ _ _ _ => (pe_df D_value_in (hr.mono (by decide)) pass0 (pa_cons (pe_ix ix_tup (pv 3) pe_int (fun _ _ => rfl)) (pa_cons (pv 4) pa_nil)))))
    (pss_cons (ps_if (pt_cmpR op_in_seq pe_non (pv 2) (by rfl)) (pss_one (ps_ret pe_non)) pss_nil)
    (pss_one (ps_ret (pe_callTy call_tuple_of (by rfl) T.f_tuple (by decide +kernel) (pa_cons (pv 2) pa_nil))))))), ?_⟩
    -- if len(words) != len(columns)
    refine ⟨_, rfl, b, _, rfl, .inl (SqL.of hb), _, rfl, a, _, rfl, .inl (SqL.of ha), rfl, _, rfl, if_f ?_ ?_⟩
    · rw [List.length_map, ← l1, l2, decide_eq_true rfl]
      rfl
    refine ⟨_, rfl, _, rfl, a, b, xs, _, rfl, SqL.of ha, SqL.of hb, fun D hD => lc_it (walk_zip (n := r.length) (by rw [List.length_map]; omega)) (fun i H' => Same H H' ∧ H' D = some (.lst (r.take i))) ⟨Same.new hD, upd_same⟩
      (fun i H' _ ⟨e, _⟩ => ⟨e.seq (SqL.of ha), e.seq (SqL.of hb)⟩) ?_ ?_⟩
    · rintro i x H1 H2 hi ⟨e1, hD1⟩ ⟨q, y, z, rfl, hq, rfl, hy, hz⟩
      have eq : Same H1 (upd H1 q (.tup [y, z])) := Same.new hq
      obtain ⟨c, hc, cq, rfl, hcq⟩ := paired_at2 hp hy
      obtain ⟨v, hv, okv⟩ := paired_at ok hc
      replace hz : (r.map fun v => V.str (vT v))[i]? = some z := hz
      rw [List.getElem?_map, hv] at hz
      obtain rfl := Option.some.inj hz
      refine ⟨q, _, rfl, SqT.of upd_same, rfl, _, _, rfl, _, _, rfl, rfl, rfl, tyes ?_⟩
      have hcq' : (upd H1 q (.tup [V.ref cq, V.str (vT v)])) cq = some (.tup [.str c.1, .str c.2]) := eq _ _ (e1 _ _ hcq)
      refine ⟨_, rfl, cq, _, 1, .str c.2, rfl, rfl, SqT.of hcq', rfl, ?_⟩
      refine ⟨_, rfl, c.2, v, rfl, okv, ?_⟩
      refine ⟨r.take i, eq _ _ hD1, by rw [List.length_take]; exact Nat.lt_of_le_of_lt (Nat.min_le_right _ _) (small1000 (by omega)), ?_⟩
      refine ⟨Same.mut (e1.trans eq) hD, ?_⟩
      rw [take_snoc hv]
      exact upd_same
    · rintro H1 ⟨e1, hD1⟩
      rw [List.take_length] at hD1
      have flat : ∀ v ∈ r, flatV v = true ∧ eqV v .non = false := fun v hv => by
        obtain ⟨c, _, okv⟩ := paired_mem ok v hv
        rcases okv with ⟨_, i, rfl, _⟩ | ⟨_, z, rfl, _⟩
        · exact ⟨rfl, rfl⟩
        · exact ⟨rfl, rfl⟩
      refine ⟨_, rfl, D, r, rfl, .inl (SqL.of hD1), rfl, List.all_eq_true.mpr fun v hv => (flat v hv).1, _, rfl, if_f ?_ ?_⟩
      · show inV .non r = false
        unfold inV
        rw [List.any_eq_false]
        intro v hv
        rw [(flat v hv).2]
        exact Bool.false_ne_true
      refine ⟨_, rfl, D, r, rfl, .inl ⟨SqL.of hD1, fun l hl => ?_⟩⟩
      exact k _ l (e1.trans (Same.new hl)) (e1.free hl) upd_same
theorem sc_row_text : FnScope ["number", "stuff", "words", "value"] ["number", "stuff"] d_row_text.scope := ⟨rfl, rfl, rfl, by decide +kernel, rfl, by decide +kernel, by decide +kernel⟩
theorem ok_row_text (T : Tx K mg) (F : Fd K d_row_text fd) (D_value_text : Df P w K mg base CX0 1 "value_text" ["value"] sp_value_text) : FnOk P w K mg base CX0 2 (He.fAd K d_row_text.at_) fd ["number", "stuff"] sp_row_text := by
  refine ok0 F sc_row_text (fun vs H Q E h => ?_) (fun cdv A outer s H vs Q E hr h => ?_)
  · obtain ⟨_, _, _, _, rfl, _⟩ := h
    rfl
  · obtain ⟨Tb, n, st, x, rfl, TO, ok, hn, at_, k⟩ := h
    refine ⟨_, (pss_cons (ps_set (i := 2) sc_row_text.nd rfl (Or.inl rfl) (pe_lst (pa_cons (pe_callTy call_str_int (by rfl) T.f_str (by decide +kernel) (pa_cons (pv 0) pa_nil)) (pa_cons (pe_ix ix_tup (pv 1) pe_int (fun _ _ => rfl)) pa_nil))))
    (pss_cons (ps_if (pt_cmpR op_eq (pe_ix ix_tup (pv 1) pe_int (fun _ _ => rfl)) pe_str (nomark _)) (pss_cons (ps_expr (pe_bm PySem.F.plainAttrs_list PySem.F.slot_list_append PySem.F.type_list_append mt_append (pv 2) (pa_cons (pe_ix ix_tup (pv 1) pe_int (fun _ _ => rfl)) pa_nil)))
    (pss_one (ps_expr (pe_bm PySem.F.plainAttrs_list PySem.F.slot_list_extend PySem.F.type_list_extend mt_extend (pv 2) (pa_cons (pe_lc (own := [("value", 3)]) rfl sc_row_text.nd (pi_tup (pe_ix ix_tup (pv 1) pe_int (fun _ _ => rfl))) (blkOk_by (N := ["number", "stuff", "words", "value"]) (sc := d_row_text.scope) (by decide +kernel)) (fun _ _ _ _ _ => (pg_name (i := 3) sc_row_text.nd rfl (Or.inl rfl))) (fun _ _ _ _ _ => pts_nil) (fun _ _ _ _ _ => (pe_df D_value_text (hr.mono (by decide)) pass0 (pa_cons (pv 3) pa_nil)))) pa_nil))))) (pss_one (ps_if (pt_cmpR op_eq (pe_ix ix_tup (pv 1) pe_int (fun _ _ => rfl)) pe_str (nomark _)) (pss_one (ps_expr (pe_bm PySem.F.plainAttrs_list PySem.F.slot_list_extend PySem.F.type_list_extend mt_extend (pv 2) (pa_cons (pe_lst (pa_cons (pe_ix ix_tup (pv 1) pe_int (fun _ _ => rfl)) (pa_cons (pe_df D_value_text (hr.mono (by decide)) pass0 (pa_cons (pe_ix ix_tup (pv 1) pe_int (fun _ _ => rfl)) pa_nil)) pa_nil))) pa_nil)))) (pss_one (ps_expr (pe_bm PySem.F.plainAttrs_list PySem.F.slot_list_append PySem.F.type_list_append mt_append (pv 2) (pa_cons (pe_callTy call_str_int (by rfl) T.f_str (by decide +kernel) (pa_cons (pe_ix ix_tup (pv 1) pe_int (fun _ _ => rfl)) pa_nil)) pa_nil)))))))
    (pss_one (ps_ret (pe_op op_add_str (pe_join pe_str (pv 2)) pe_str))))), ?_⟩
    have l30 : n.natAbs.log2 < 1920 := Nat.lt_trans (PySem.Flt.log2_lt_of (k := 30) (by decide) (by omega)) (by decide)
    have wsz := fun w hw => (row_words TO ok hn w hw).2
    have wl := words_len TO ok
    have bl := rowB_len TO ok hn
    have hb1 : blank.length = 1 := by decide +kernel
    have hs1 : semi.length = 1 := by decide +kernel
    have jz : ((iT n :: st.words).map (·.length)).sum + (iT n :: st.words).length * blank.length ≤ 16777216 := by
      have h1 := sum_len (ws := iT n :: st.words) (b := 11) wsz
      rw [hb1]
      rw [List.length_cons] at h1 ⊢
      have : (st.words.length + 1) * 11 ≤ 7 * 11 := Nat.mul_le_mul (by omega) (Nat.le_refl _)
      omega
    have sz : (rowB n st).length + semi.length ≤ sizeLine := sl_small (by omega)
    cases st with
    | set t r =>
      obtain ⟨a, b, rfl, h1, h2⟩ := at_
      obtain ⟨cs, ht, hrow⟩ := ok
      have lr : r.length ≤ 4 := by
        have := paired_len hrow
        have h4 : cs.length ≤ 4 := (TO.cols _ ht).len.2
        omega
      refine ⟨_, rfl, n, rfl, l30, _, rfl, a, _, 0, _, rfl, rfl, SqT.of h1, rfl, two_small, fun p hp => ?_⟩
      have s1 := Same.new (o := .lst [V.str (iT n), V.str ("set" : Str)]) hp
      refine ⟨_, rfl, a, _, 0, _, rfl, rfl, SqT.of (s1 _ _ h1), rfl, rfl, _, rfl, if_t (by decide +kernel) ?_⟩
      refine ⟨_, rfl, .inl ⟨rfl, _, SqL.of upd_same⟩, _, rfl, a, _, 1, _, rfl, rfl, SqT.of (s1 _ _ h1), rfl, p, _, _, rfl, rfl, upd_same, (by show 2 < sizeLine; decide), ?_⟩
      rw [upd_upd]
      have s2 := Same.new (o := .lst [V.str (iT n), V.str ("set" : Str), V.str t]) hp
      refine ⟨_, rfl, .inl ⟨rfl, _, SqL.of upd_same⟩, ?_⟩
      refine ⟨_, rfl, a, _, 2, _, rfl, rfl, SqT.of (s2 _ _ h1), rfl, b, rfl, ⟨_, SqT.of (s2 _ _ h2)⟩, fun D hD => lc_it (walk_tup (xs := r)) (fun i H' => Same (upd H p (.lst [V.str (iT n), V.str ("set" : Str), V.str t])) H' ∧ H' D = some (.lst ((r.take i).map fun v => .str (vT v)))) ⟨Same.new hD, upd_same⟩
        (fun i H' _ ⟨e, _⟩ => e.sqt (SqT.of (s2 _ _ h2))) ?_ ?_⟩
      · rintro i y H1 H2 hi ⟨e1, hD1⟩ ⟨rfl, hy⟩
        obtain ⟨c, hc, okv⟩ := paired_at2 hrow hy
        refine ⟨rfl, tyes ?_⟩
        refine ⟨_, rfl, c.2, y, rfl, okv, ?_⟩
        refine ⟨_, hD1, by rw [List.length_map, List.length_take]; exact Nat.lt_of_le_of_lt (Nat.min_le_right _ _) (small1000 (by omega)), ?_⟩
        refine ⟨Same.mut e1 hD, ?_⟩
        rw [take_snoc hy, List.map_append]
        exact upd_same
      · rintro H1 ⟨e1, hD1⟩
        rw [List.take_length] at hD1
        have hp1 := e1 _ _ (upd_same (H := H) (a := p))
        refine ⟨p, D, _, _, rfl, rfl, hp1, hD1, ?_, ?_⟩
        · rw [List.length_map]
          exact Nat.le_of_lt (small1000 (by show 3 + r.length ≤ 1000; omega))
        have e2 : [V.str (iT n), V.str ("set" : Str), V.str t] ++ r.map (fun v => V.str (vT v)) = (iT n :: (Stf.set t r).words).map V.str := by
          show _ = V.str (iT n) :: V.str ("set" : Str) :: V.str t :: (r.map vT).map V.str
          rw [List.map_map]
          rfl
        rw [e2]
        refine ⟨⟨_, rfl⟩, _, rfl, blank, p, iT n :: (Stf.set t r).words, rfl, rfl, .inl (SqL.of upd_same), jz, _, _, rfl, rfl, sz, ?_⟩
        exact k _ (Same.mut ((Same.new hp).trans e1) hp)
    | cut t v =>
      obtain ⟨a, rfl, h1⟩ := at_
      obtain ⟨c, cs, ht, okv⟩ := ok
      refine ⟨_, rfl, n, rfl, l30, _, rfl, a, _, 0, _, rfl, rfl, SqT.of h1, rfl, two_small, fun p hp => ?_⟩
      have s1 := Same.new (o := .lst [V.str (iT n), V.str ("cut" : Str)]) hp
      refine ⟨_, rfl, a, _, 0, _, rfl, rfl, SqT.of (s1 _ _ h1), rfl, rfl, _, rfl, if_f (by decide +kernel) ?_⟩
      refine ⟨_, rfl, a, _, 0, _, rfl, rfl, SqT.of (s1 _ _ h1), rfl, rfl, _, rfl, if_t (by decide +kernel) ?_⟩
      refine ⟨_, rfl, .inl ⟨rfl, _, SqL.of upd_same⟩, _, rfl, a, _, 1, _, rfl, rfl, SqT.of (s1 _ _ h1), rfl, _, rfl, a, _, 2, _, rfl, rfl, SqT.of (s1 _ _ h1), rfl, c.2, v, rfl, okv, two_small, fun q hq => ?_⟩
      have npq : p ≠ q := ne_of_none upd_same hq
      refine ⟨p, q, _, _, rfl, rfl, (by rw [upd_ne npq]; exact upd_same), upd_same, (by show 2 + 2 ≤ sizeLine; decide), ?_⟩
      refine ⟨⟨_, rfl⟩, _, rfl, blank, p, iT n :: (Stf.cut t v).words, rfl, rfl, .inl (SqL.of upd_same), jz, _, _, rfl, rfl, sz, ?_⟩
      exact k _ (Same.mut ((Same.new hp).trans (Same.new hq)) hp)
    | keep m =>
      obtain ⟨a, rfl, h1⟩ := at_
      have m30 : m.natAbs.log2 < 1920 := Nat.lt_trans (PySem.Flt.log2_lt_of (k := 30) (by decide) (by have := ok.1; have := ok.2; omega)) (by decide)
      refine ⟨_, rfl, n, rfl, l30, _, rfl, a, _, 0, _, rfl, rfl, SqT.of h1, rfl, two_small, fun p hp => ?_⟩
      have s1 := Same.new (o := .lst [V.str (iT n), V.str ("keep" : Str)]) hp
      refine ⟨_, rfl, a, _, 0, _, rfl, rfl, SqT.of (s1 _ _ h1), rfl, rfl, _, rfl, if_f (by decide +kernel) ?_⟩
      refine ⟨_, rfl, a, _, 0, _, rfl, rfl, SqT.of (s1 _ _ h1), rfl, rfl, _, rfl, if_f (by decide +kernel) ?_⟩
      refine ⟨_, rfl, .inl ⟨rfl, _, SqL.of upd_same⟩, _, rfl, a, _, 1, _, rfl, rfl, SqT.of (s1 _ _ h1), rfl, m, rfl, m30, p, _, _, rfl, rfl, upd_same, (by show 2 < sizeLine; decide), ?_⟩
      rw [upd_upd]
      refine ⟨⟨_, rfl⟩, _, rfl, blank, p, iT n :: (Stf.keep m).words, rfl, rfl, .inl (SqL.of upd_same), jz, _, _, rfl, rfl, sz, ?_⟩
      exact k _ (Same.new hp)
theorem sc_S_need_table : FnScope ["self", "table"] ["self", "table"] d_S_need_table.scope := ⟨rfl, rfl, rfl, by decide +kernel, rfl, by decide +kernel, by decide +kernel⟩
theorem ok_need_table (T : Tx K mg) (F : Fd K d_S_need_table fd) (D_is_name : Df P w K mg base CX0 1 "is_name" ["thing"] sp_is_name) : FnOk P w K mg base CX0 2 (He.fAd K d_S_need_table.at_) fd ["self", "table"] (sp_need_table K) := by
  refine ok0 F sc_S_need_table (fun vs H Q E h => ?_) (fun cdv A outer s H vs Q E hr h => ?_)
  · obtain ⟨_, _, _, _, rfl, _⟩ := h
    rfl
  · obtain ⟨s, Tb, t, cs, rfl, S, ht, k⟩ := h
    have hu := hu_of hr
    obtain ⟨dx, dc, ko, kvs, h1, h2, h3⟩ := S.at_
    obtain ⟨a, xs, hv, _⟩ := tabs_get h3 S.ok.nd ht
    refine ⟨_, (pss_one (ps_if (PW.pt (pw_or (pt_not (pt_val (pe_df D_is_name (hr.mono (by decide)) pass0 (pa_cons (pv 1) pa_nil)))) (pw_or1 (pt_cmp (pc_dnotin hu (pv 1) (pe_fld (pv 0) rfl)))))) (pss_one ps_never) pss_nil)), ?_⟩
    refine ⟨_, rfl, t, rfl, S.ok.nm _ ht, _, rfl, iteF ?_⟩
    refine ⟨_, rfl, _, rfl, s, _, dx, _, _, rfl, h1, T.c_Schema, T.n_Schema_columns, lookup1, dc, _, rfl, DGet.k (k := Sum.inr t) h2, _, rfl, if_f ?_ k⟩
    rw [hv]
    rfl
theorem sc_S_table_names : FnScope ["self"] ["self"] d_S_table_names.scope := ⟨rfl, rfl, rfl, by decide +kernel, rfl, by decide +kernel, by decide +kernel⟩
theorem ok_table_names (T : Tx K mg) (F : Fd K d_S_table_names fd) : FnOk P w K mg base CX0 1 (He.fAd K d_S_table_names.at_) fd ["self"] (sp_table_names K) := by
  refine ok0 F sc_S_table_names (fun vs H Q E h => ?_) (fun cdv A outer s H vs Q E hr h => ?_)
  · obtain ⟨_, _, rfl, _⟩ := h
    rfl
  · obtain ⟨s, Tb, rfl, S, k⟩ := h
    obtain ⟨dx, dc, ko, kvs, h1, h2, h3⟩ := S.at_
    refine ⟨_, (pss_one (ps_ret (pe_callTy (call_list_dK rfl) (by rfl) T.f_list (by decide +kernel) (pa_cons (pe_fld (pv 0) rfl) pa_nil)))), ?_⟩
    refine ⟨_, rfl, s, _, dx, _, _, rfl, h1, T.c_Schema, T.n_Schema_columns, lookup1, dc, kvs, rfl, h2, fun q hq => ?_⟩
    have e : (kvs.map fun kv => kV kv.1) = Tb.map fun t => V.str t.1 := by
      have := congrArg (List.map kV) (tabs_keys h3)
      rw [List.map_map, List.map_map] at this
      exact this
    rw [e]
    exact k q hq
theorem sc_S_columns_of : FnScope ["self", "table"] ["self", "table"] d_S_columns_of.scope := ⟨rfl, rfl, rfl, by decide +kernel, rfl, by decide +kernel, by decide +kernel⟩
theorem ok_columns_of (T : Tx K mg) (F : Fd K d_S_columns_of fd) (M_need_table : Md P w K mg base CX0 2 (ScC K) "need_table" ["self", "table"] (sp_need_table K)) : FnOk P w K mg base CX0 3 (He.fAd K d_S_columns_of.at_) fd ["self", "table"] (sp_columns_of K) := by
  refine ok0 F sc_S_columns_of (fun vs H Q E h => ?_) (fun cdv A outer s H vs Q E hr h => ?_)
  · obtain ⟨_, _, _, _, rfl, _⟩ := h
    rfl
  · obtain ⟨s, Tb, t, cs, rfl, S, ht, k⟩ := h
    have hu := hu_of hr
    obtain ⟨dx, dc, ko, kvs, h1, h2, h3⟩ := S.at_
    obtain ⟨a, xs, hv, ha, hp⟩ := tabs_get h3 S.ok.nd ht
    refine ⟨_, (pss_cons (ps_expr (pe_md M_need_table (hr.mono (by decide)) pass0 (pv 0) (pa_cons (pv 1) pa_nil)))
    (pss_one (ps_ret (pe_callTy call_list_of (by rfl) T.f_list (by decide +kernel) (pa_cons (pe_dget hu (pe_fld (pv 0) rfl) (pv 1) (fun _ _ => rfl)) pa_nil))))), ?_⟩
    refine ⟨_, rfl, s, dx, _, rfl, h1, rfl, _, rfl, s, Tb, t, cs, rfl, S, ht, ?_⟩
    refine ⟨_, rfl, s, _, dx, _, _, rfl, h1, T.c_Schema, T.n_Schema_columns, lookup1, _, rfl, dc, .ref a, rfl, ?_, a, xs, rfl, .inr (SqT.of ha), fun l hl => k l xs hl hp⟩
    have := DGet.k (k := Sum.inr t) h2
    rw [hv] at this
    exact this
end
end Fl

set_option Elab.async false
set_option linter.all false
set_option maxRecDepth 100000
set_option maxHeartbeats 1000000
/-! Rows of the log: read. -/
namespace Fl
open PySem PySem.Spec PyProof.Rows L2
open TL (tl)
theorem cutV_from (xs : List V) (k : Nat) : cutV xs (some (k : Int)) none = xs.drop k := by
  unfold cutV
  rw [HT.sIx_none, HT.sIx_nat]
  by_cases h : k ≤ xs.length
  · rw [Nat.min_eq_left h, List.take_of_length_le]
    rw [List.length_drop]
    omega
  · rw [Nat.min_eq_right (by omega), List.drop_length, List.drop_of_length_le (by omega), List.take_nil]
theorem cutV_to (xs : List V) (k : Nat) : cutV xs none (some (k : Int)) = xs.take k := by
  unfold cutV
  rw [HT.sIx_none, HT.sIx_nat, List.drop_zero, Nat.sub_zero]
  by_cases h : k ≤ xs.length
  · rw [Nat.min_eq_left h]
  · rw [Nat.min_eq_right (by omega), List.take_length, List.take_of_length_le (by omega)]
theorem ne_t {x y : V} (h : x ≠ y) : (!decide (x = y)) = true := by
  rw [decide_eq_false h]
  rfl
theorem ne_f {x y : V} (h : x = y) : (!decide (x = y)) = false := by
  rw [decide_eq_true h]
  rfl
theorem at0 {x : V} {r : List V} : atI (x :: r) 0 = some x := atI_nat (j := 0) rfl
theorem at1 {x y : V} {r : List V} : atI (x :: y :: r) 1 = some y := atI_nat (j := 1) rfl
theorem str_flat {α : Type} (f : α → Str) (l : List α) : (l.map fun x => V.str (f x)).all flatV = true := by
  rw [List.all_eq_true]
  intro v hv
  obtain ⟨x, _, rfl⟩ := List.mem_map.mp hv
  rfl
theorem inV_str {α : Type} (f : α → Str) {l : List α} {z : Str} : inV (.str z) (l.map fun x => V.str (f x)) = true ↔ z ∈ l.map f := by
  unfold inV
  rw [List.any_eq_true]
  constructor
  · rintro ⟨v, hv, e⟩
    obtain ⟨x, hx, rfl⟩ := List.mem_map.mp hv
    have e' : (f x == z) = true := e
    exact List.mem_map.mpr ⟨x, hx, by simpa using e'⟩
  · intro h
    obtain ⟨x, hx, rfl⟩ := List.mem_map.mp h
    exact ⟨_, List.mem_map.mpr ⟨x, hx, rfl⟩, beq_self_eq_true (f x)⟩
theorem tab_in {T : Tabs} {t : Str} {cs : Cols} (h : (t, cs) ∈ T) : inV (.str t) (T.map fun t => V.str t.1) = true := (inV_str fun t : Str × Cols => t.1).mpr (List.mem_map.mpr ⟨_, h, rfl⟩)
section
variable {P : Program} {w : World} {K : PySem.W.Frag} {mg : Str → Option Value} {base : Heap} {fd : FuncData}
theorem sc_stuff_in : FnScope ["schema", "words", "many", "columns", "values"] ["schema", "words"] d_stuff_in.scope := ⟨rfl, rfl, rfl, by decide +kernel, rfl, by decide +kernel, by decide +kernel⟩
theorem ok_stuff_in (T : Tx K mg) (F : Fd K d_stuff_in fd) (D_count_in : Df P w K mg base CX0 3 "count_in" ["word"] sp_count_in) (D_values_in : Df P w K mg base CX0 3 "values_in" ["columns", "words"] sp_values_in)
    (M_table_names : Md P w K mg base CX0 1 (ScC K) "table_names" ["self"] (sp_table_names K)) (M_columns_of : Md P w K mg base CX0 3 (ScC K) "columns_of" ["self", "table"] (sp_columns_of K)) :
    FnOk P w K mg base CX0 4 (He.fAd K d_stuff_in.at_) fd ["schema", "words"] (sp_stuff_in K) := by
  refine ok0 F sc_stuff_in (fun vs H Q E h => ?_) (fun cdv A outer s H vs Q E hr h => ?_)
  · obtain ⟨_, _, _, _, rfl, _⟩ := h
    rfl
  · obtain ⟨s, Tb, b, st, rfl, S, ok, hb, k⟩ := h
    obtain ⟨dx, dc, ko, kvs, h1, h2, h3⟩ := S.at_
    refine ⟨_, (pss_cons (ps_if (PW.pt (pw_and (pt_cmpR op_eq (pe_callB call_len_seq (by rfl) T.f_len PySem.boot_len (pa_cons (pv 1) pa_nil)) pe_int (nomark _)) (pw_and1 (pt_cmpR op_eq (pe_ix ix_list (pv 1) pe_int (fun _ _ => rfl)) pe_str (nomark _))))) (pss_cons (ps_set (i := 2) sc_stuff_in.nd rfl (Or.inl rfl) (pe_df D_count_in (hr.mono (by decide)) pass0 (pa_cons (pe_ix ix_list (pv 1) pe_int (fun _ _ => rfl)) pa_nil)))
    (pss_cons (ps_if (pt_cmpR op_isN (pv 2) pe_non (nomark _)) (pss_one (ps_ret pe_non)) pss_nil)
    (pss_one (ps_ret (pe_tup (pa_cons pe_str (pa_cons (pv 2) pa_nil))))))) pss_nil)
    (pss_cons (ps_if (PW.pt (pw_or (pt_cmpR op_lt (pe_callB call_len_seq (by rfl) T.f_len PySem.boot_len (pa_cons (pv 1) pa_nil)) pe_int (nomark _)) (pw_or (pt_cmpR op_notIn_seq (pe_ix ix_list (pv 1) pe_int (fun _ _ => rfl)) (pe_tup (pa_cons pe_str (pa_cons pe_str pa_nil))) (by rfl)) (pw_or1 (pt_cmpR op_notIn_seq (pe_ix ix_list (pv 1) pe_int (fun _ _ => rfl)) (pe_md0 M_table_names (hr.mono (by decide)) pass0 (pv 0)) (by rfl)))))) (pss_one (ps_ret pe_non)) pss_nil)
    (pss_cons (ps_set (i := 3) sc_stuff_in.nd rfl (Or.inl rfl) (pe_md M_columns_of (hr.mono (by decide)) pass0 (pv 0) (pa_cons (pe_ix ix_list (pv 1) pe_int (fun _ _ => rfl)) pa_nil)))
    (pss_cons (ps_if (pt_cmpR op_eq (pe_ix ix_list (pv 1) pe_int (fun _ _ => rfl)) pe_str (nomark _)) (pss_one (ps_set (i := 3) sc_stuff_in.nd rfl (Or.inl rfl) (pe_slice sl_list (pv 3) po_none (po_some pe_int)))) pss_nil)
    (pss_cons (ps_set (i := 4) sc_stuff_in.nd rfl (Or.inl rfl) (pe_df D_values_in (hr.mono (by decide)) pass0 (pa_cons (pv 3) (pa_cons (pe_slice sl_list (pv 1) (po_some pe_int) po_none) pa_nil))))
    (pss_cons (ps_if (pt_cmpR op_isN (pv 4) pe_non (nomark _)) (pss_one (ps_ret pe_non)) pss_nil)
    (pss_cons (ps_if (pt_cmpR op_eq (pe_ix ix_list (pv 1) pe_int (fun _ _ => rfl)) pe_str (nomark _)) (pss_one (ps_ret (pe_tup (pa_cons pe_str (pa_cons (pe_ix ix_list (pv 1) pe_int (fun _ _ => rfl)) (pa_cons (pe_ix ix_tup (pv 4) pe_int (fun _ _ => rfl)) pa_nil)))))) pss_nil)
    (pss_one (ps_ret (pe_tup (pa_cons pe_str (pa_cons (pe_ix ix_list (pv 1) pe_int (fun _ _ => rfl)) (pa_cons (pv 4) pa_nil))))))))))))), ?_⟩
    cases st with
    | keep m =>
      obtain ⟨m1, m2⟩ := ok
      have hb' : H b = some (.lst [V.str ("keep" : Str), V.str (iT m)]) := hb
      refine ⟨_, rfl, b, _, rfl, .inl (SqL.of hb'), rfl, _, rfl, iteT ?_⟩
      refine ⟨_, rfl, b, _, 0, _, rfl, rfl, SqL.of hb', at0, rfl, _, rfl, if_t (by decide +kernel) ?_⟩
      refine ⟨_, rfl, b, _, 1, _, rfl, rfl, SqL.of hb', at1, m, rfl, m1, m2, ?_⟩
      refine ⟨_, rfl, rfl, _, rfl, iteF ?_⟩
      refine ⟨_, rfl, two_small, fun p hp => ?_⟩
      exact k _ _ (Same.new hp) ⟨p, rfl, upd_same⟩
    | set t r =>
      obtain ⟨cs, ht, hrow⟩ := ok
      have hb' : H b = some (.lst (V.str ("set" : Str) :: V.str t :: (r.map vT).map V.str)) := hb
      have lr := paired_len hrow
      have lc := (S.ok.cols _ ht).len
      have l3 : (V.str ("set" : Str) :: V.str t :: (r.map vT).map V.str).length = r.length + 2 := by
        rw [List.length_cons, List.length_cons, List.length_map, List.length_map]
      refine ⟨_, rfl, b, _, rfl, .inl (SqL.of hb'), rfl, _, rfl, ?_⟩
      rw [l3]
      refine if_f (decide_eq_false fun e => ?_) ?_
      · have e2 := V.int.inj e
        have : 1 ≤ cs.length := lc.1
        omega
      refine ⟨_, rfl, b, _, rfl, .inl (SqL.of hb'), _, _, rfl, rfl, _, rfl, ?_⟩
      rw [l3]
      refine if_f (decide_eq_false (by have : 1 ≤ cs.length := lc.1; omega)) ?_
      refine ⟨_, rfl, b, _, 0, _, rfl, rfl, SqL.of hb', at0, two_small, fun p hp => ⟨p, _, rfl, .inr (SqT.of upd_same), rfl, rfl, _, rfl, if_f (by decide +kernel) ?_⟩⟩
      have sp := Same.new (o := .tup [V.str ("set" : Str), V.str ("cut" : Str)]) hp
      refine ⟨_, rfl, b, _, 1, _, rfl, rfl, SqL.of (sp _ _ hb'), at1, _, rfl, s, dx, _, rfl, sp _ _ h1, rfl, s, Tb, rfl, S.same sp, fun q hq => ?_⟩
      have sq := Same.new (o := .lst (Tb.map fun t => V.str t.1)) hq
      refine ⟨q, _, rfl, .inl (SqL.of upd_same), rfl, str_flat _ _, _, rfl, if_f ?_ ?_⟩
      · show (!inV (.str t) (Tb.map fun t => V.str t.1)) = false
        rw [tab_in ht]
        rfl
      have s2 := sp.trans sq
      refine ⟨_, rfl, s, dx, _, rfl, s2 _ _ h1, rfl, _, rfl, b, _, 1, _, rfl, rfl, SqL.of (s2 _ _ hb'), at1, s, Tb, t, cs, rfl, S.same s2, ht, fun c xs hc hp2 => ?_⟩
      have s3 := s2.trans (Same.new (o := .lst xs) hc)
      refine ⟨_, rfl, b, _, 0, _, rfl, rfl, SqL.of (s3 _ _ hb'), at0, rfl, _, rfl, if_f (by decide +kernel) ?_⟩
      refine ⟨_, rfl, _, rfl, _, rfl, b, _, rfl, SqL.of (s3 _ _ hb'), fun d hd => ?_⟩
      have ncd : c ≠ d := ne_of_none upd_same hd
      have s4 := s3.trans (Same.new (o := .lst (cutV (V.str ("set" : Str) :: V.str t :: (r.map vT).map V.str) (some ((2 : Nat) : Int)) none)) hd)
      have ed : cutV (V.str ("set" : Str) :: V.str t :: (r.map vT).map V.str) (some ((2 : Nat) : Int)) none = r.map fun v => V.str (vT v) := by
        rw [cutV_from, List.map_map]
        rfl
      refine ⟨c, d, cs, r, xs, rfl, hrow, lc.2, ?_, paired_imp hp2 fun _ _ => ColAt.ts ((Same.new (o := .lst xs) hc).trans (Same.new hd)).ts, ?_, fun H' v s5 nv hv => ?_⟩
      · rw [upd_ne ncd]
        exact upd_same
      · refine Eq.trans upd_same ?_
        exact congrArg (fun l => some (HO.lst l)) ed
      have s6 := s4.trans s5
      refine ⟨_, rfl, rfl, _, rfl, iteF ?_⟩
      refine ⟨_, rfl, b, _, 0, _, rfl, rfl, SqL.of (s6 _ _ hb'), at0, rfl, _, rfl, if_f (by decide +kernel) ?_⟩
      refine ⟨_, rfl, b, _, 1, _, rfl, rfl, SqL.of (s6 _ _ hb'), at1, _, rfl, (by show 3 ≤ sizeLine; decide), fun q hq => ?_⟩
      exact k _ _ (s6.trans (Same.new hq)) ⟨q, v, rfl, upd_same, (by rw [upd_ne (ne_of_none hv hq)]; exact hv)⟩
    | cut t v =>
      obtain ⟨cl, cs, ht, okv⟩ := ok
      have hb' : H b = some (.lst [V.str ("cut" : Str), V.str t, V.str (vT v)]) := hb
      refine ⟨_, rfl, b, _, rfl, .inl (SqL.of hb'), rfl, _, rfl, if_f (decide_eq_false fun e => absurd (V.int.inj e) (show ¬ ((3 : Nat) : Int) = 2 by decide)) ?_⟩
      refine ⟨_, rfl, b, _, rfl, .inl (SqL.of hb'), _, _, rfl, rfl, _, rfl, if_f (decide_eq_false (show ¬ ((3 : Nat) : Int) < 3 by decide)) ?_⟩
      refine ⟨_, rfl, b, _, 0, _, rfl, rfl, SqL.of hb', at0, two_small, fun p hp => ⟨p, _, rfl, .inr (SqT.of upd_same), rfl, rfl, _, rfl, if_f (by decide +kernel) ?_⟩⟩
      have sp := Same.new (o := .tup [V.str ("set" : Str), V.str ("cut" : Str)]) hp
      refine ⟨_, rfl, b, _, 1, _, rfl, rfl, SqL.of (sp _ _ hb'), at1, _, rfl, s, dx, _, rfl, sp _ _ h1, rfl, s, Tb, rfl, S.same sp, fun q hq => ?_⟩
      have sq := Same.new (o := .lst (Tb.map fun t => V.str t.1)) hq
      refine ⟨q, _, rfl, .inl (SqL.of upd_same), rfl, str_flat _ _, _, rfl, if_f ?_ ?_⟩
      · show (!inV (.str t) (Tb.map fun t => V.str t.1)) = false
        rw [tab_in ht]
        rfl
      have s2 := sp.trans sq
      refine ⟨_, rfl, s, dx, _, rfl, s2 _ _ h1, rfl, _, rfl, b, _, 1, _, rfl, rfl, SqL.of (s2 _ _ hb'), at1, s, Tb, t, cl :: cs, rfl, S.same s2, ht, fun c xs hc hp2 => ?_⟩
      have s3 := s2.trans (Same.new (o := .lst xs) hc)
      refine ⟨_, rfl, b, _, 0, _, rfl, rfl, SqL.of (s3 _ _ hb'), at0, rfl, _, rfl, if_t (by decide +kernel) ?_⟩
      refine ⟨_, rfl, _, rfl, c, _, rfl, SqL.of upd_same, fun e he => ?_⟩
      have ee : cutV xs none (some ((1 : Nat) : Int)) = xs.take 1 := cutV_to xs 1
      have s3' := s3.trans (Same.new (o := .lst (cutV xs none (some ((1 : Nat) : Int)))) he)
      refine ⟨_, rfl, _, rfl, _, rfl, b, _, rfl, SqL.of (s3' _ _ hb'), fun d hd => ?_⟩
      have ned : e ≠ d := ne_of_none upd_same hd
      have s4 := s3'.trans (Same.new (o := .lst (cutV [V.str ("cut" : Str), V.str t, V.str (vT v)] (some ((2 : Nat) : Int)) none)) hd)
      refine ⟨e, d, [cl], [v], xs.take 1, rfl, .cons okv .nil, (show 1 ≤ 4 by decide), ?_, ?_, ?_, fun H' y s5 nv hv => ?_⟩
      · rw [upd_ne ned]
        refine Eq.trans upd_same ?_
        exact congrArg (fun l => some (HO.lst l)) ee
      · exact paired_imp (paired_take hp2 1) fun _ _ => ColAt.ts (((Same.new (o := .lst xs) hc).trans (Same.new he)).trans (Same.new hd)).ts
      · exact upd_same
      have s6 := s4.trans s5
      refine ⟨_, rfl, rfl, _, rfl, iteF ?_⟩
      refine ⟨_, rfl, b, _, 0, _, rfl, rfl, SqL.of (s6 _ _ hb'), at0, rfl, _, rfl, if_t (by decide +kernel) ?_⟩
      refine ⟨_, rfl, b, _, 1, _, rfl, rfl, SqL.of (s6 _ _ hb'), at1, _, rfl, y, _, 0, v, rfl, rfl, SqT.of hv, rfl, (by show 3 ≤ sizeLine; decide), fun q hq => ?_⟩
      exact k _ _ (s6.trans (Same.new hq)) ⟨q, rfl, upd_same⟩
theorem sc_row_in : FnScope ["schema", "thing", "words", "number", "stuff"] ["schema", "thing"] d_row_in.scope := ⟨rfl, rfl, rfl, by decide +kernel, rfl, by decide +kernel, by decide +kernel⟩
theorem ok_row_in (T : Tx K mg) (F : Fd K d_row_in fd) (D_count_in : Df P w K mg base CX0 3 "count_in" ["word"] sp_count_in) (D_stuff_in : Df P w K mg base CX0 4 "stuff_in" ["schema", "words"] (sp_stuff_in K)) :
    FnOk P w K mg base CX0 5 (He.fAd K d_row_in.at_) fd ["schema", "thing"] (sp_row_in K) := by
  refine ok0 F sc_row_in (fun vs H Q E h => ?_) (fun cdv A outer s H vs Q E hr h => ?_)
  · obtain ⟨_, _, _, rfl, _⟩ := h
    rfl
  · obtain ⟨s, Tb, z, rfl, S, hz, k⟩ := h
    have hzs : z.length ≤ sizeLine := sl_small hz
    refine ⟨_, (pss_cons (ps_if (PW.pt (pw_or (pt_not (pt_val (pe_callB call_isi (by rfl) T.f_isinstance (by decide +kernel) (pa_cons (pv 1) (pa_cons (pe_bltn (v := .ty "str") (by rfl) T.f_str (by decide +kernel) rfl) pa_nil))))) (pw_or1 (pt_cmpR op_ne (pe_slice sl_str (pv 1) (po_some (pe_un un_neg pe_int)) po_none) pe_str (nomark _))))) (pss_one (ps_ret pe_non)) pss_nil)
    (pss_cons (ps_set (i := 2) sc_row_in.nd rfl (Or.inl rfl) (pe_split (pe_slice sl_str (pv 1) po_none (po_some (pe_un un_neg pe_int))) pe_str))
    (pss_cons (ps_set (i := 3) sc_row_in.nd rfl (Or.inl rfl) (pe_df D_count_in (hr.mono (by decide)) pass0 (pa_cons (pe_ix ix_list (pv 2) pe_int (fun _ _ => rfl)) pa_nil)))
    (pss_cons (ps_set (i := 4) sc_row_in.nd rfl (Or.inl rfl) (pe_df D_stuff_in (hr.mono (by decide)) pass0 (pa_cons (pv 0) (pa_cons (pe_slice sl_list (pv 2) (po_some pe_int) po_none) pa_nil))))
    (pss_cons (ps_if (PW.pt (pw_or (pt_cmpR op_isN (pv 3) pe_non (nomark _)) (pw_or1 (pt_cmpR op_isN (pv 4) pe_non (nomark _))))) (pss_one (ps_ret pe_non)) pss_nil)
    (pss_one (ps_ret (pe_tup (pa_cons (pv 3) (pa_cons (pv 4) pa_nil)))))))))), ?_⟩
    refine ⟨_, rfl, _, _, _, _, true, rfl, .ty _, .base (.str _), kit_ty (by decide +kernel), _, rfl, iteF ?_⟩
    refine ⟨_, rfl, _, rfl, _, rfl, z, rfl, hzs, rfl, _, rfl, ?_⟩
    rcases k with ⟨ne, k⟩ | ⟨n, st, rfl, ok, hn, k⟩
    · exact if_t (ne_t fun e => ne.ne (V.str.inj e)) (k _ (Same.refl H))
    · refine if_f (ne_f (congrArg V.str (ends_semi (rowB n st)))) ?_
      have e2 : cutS (rowT n st) none (some (-1)) = rowB n st := cut_semi (rowB n st)
      have hn0 : 0 ≤ n ∧ n ≤ 1000000000 := by omega
      refine ⟨_, rfl, _, rfl, _, rfl, rowT n st, rfl, hzs, ⟨_, rfl⟩, _, blank, rfl, rfl, by decide +kernel, ?_, fun p hp => ?_⟩
      · show (cutS (rowT n st) none (some (-1))).length + 2 ≤ sizeLine
        rw [e2]
        have := rowB_len S.ok ok hn0
        exact sl_small (by omega)
      have e3 : Txt.split (cutS (rowT n st) none (some (-1))) blank = iT n :: st.words := by
        rw [e2]
        exact row_split S.ok ok hn0
      have s1 := Same.new (o := .lst ((Txt.split (cutS (rowT n st) none (some (-1))) blank).map V.str)) hp
      have hp1 : (upd H p (.lst ((Txt.split (cutS (rowT n st) none (some (-1))) blank).map V.str))) p = some (.lst (V.str (iT n) :: st.words.map V.str)) := by
        rw [upd_same, e3]
        rfl
      refine ⟨_, rfl, p, _, 0, _, rfl, rfl, SqL.of hp1, at0, n, rfl, hn.1, hn.2, ?_⟩
      refine ⟨_, rfl, _, rfl, _, rfl, p, _, rfl, SqL.of hp1, fun q hq => ?_⟩
      have eq : cutV (V.str (iT n) :: st.words.map V.str) (some ((1 : Nat) : Int)) none = st.words.map V.str := cutV_from _ 1
      have s2 := s1.trans (Same.new (o := .lst (cutV (V.str (iT n) :: st.words.map V.str) (some ((1 : Nat) : Int)) none)) hq)
      refine ⟨s, Tb, q, st, rfl, S.same s2, ok, Eq.trans upd_same (congrArg (fun l => some (HO.lst l)) eq), fun H' x s3 hx => ?_⟩
      have nx : x ≠ .non := by
        cases st with
        | set t r => obtain ⟨a, b, rfl, _⟩ := hx; exact fun z => nomatch z
        | cut t r => obtain ⟨a, rfl, _⟩ := hx; exact fun z => nomatch z
        | keep m => obtain ⟨a, rfl, _⟩ := hx; exact fun z => nomatch z
      refine ⟨_, rfl, rfl, _, rfl, iteF ?_⟩
      refine ⟨_, rfl, rfl, _, rfl, if_f (decide_eq_false nx) ?_⟩
      refine ⟨_, rfl, _, rfl, two_small, fun q2 hq2 => ?_⟩
      have s4 := Same.new (o := .tup [V.int n, x]) hq2
      exact k _ _ ((s2.trans s3).trans s4) ⟨q2, x, rfl, upd_same, hx.ts s4.ts⟩
end
end Fl

set_option Elab.async false
set_option linter.all false
set_option maxRecDepth 100000
set_option maxHeartbeats 1000000
/-! The whole rows of the log. -/
namespace Fl
open PySem PySem.Spec PyProof.Rows L2
open TL (tl)
theorem atI_end {α : Type} {xs : List α} {j : Nat} {v : α} (hl : xs.length = j + 1) (h : xs[j]? = some v) : atI xs (-1) = some v := by
  have e : xs = xs.dropLast ++ [v] := by
    have hne : xs ≠ [] := by
      intro z
      rw [z] at hl
      cases hl
    conv => lhs; rw [← List.dropLast_concat_getLast hne]
    congr 2
    have : xs.getLast? = some v := by
      rw [List.getLast?_eq_getElem?, hl]
      exact h
    rw [List.getLast?_eq_some_getLast hne] at this
    exact Option.some.inj this
  rw [e]
  exact atI_last _ _
theorem logT_at {n : Int} {ss : List Stf} {torn : List Str} {i : Nat} {s : Stf} (h : ss[i]? = some s) : (logT n ss torn)[i]? = some (rowT (n + i) s) := by
  unfold logT
  have hl : i < ss.length := (List.getElem?_eq_some_iff.mp h).1
  rw [List.getElem?_append_left (by rw [List.length_map, ents_len]; exact hl), List.getElem?_map, ents_at, h]
  rfl
theorem logT_len (n : Int) (ss : List Stf) (torn : List Str) : (logT n ss torn).length = ss.length + torn.length := by
  unfold logT
  rw [List.length_append, List.length_map, ents_len]
theorem logT_torn {n : Int} {ss : List Stf} {torn : List Str} {i : Nat} {z : Str} (h : (logT n ss torn)[i]? = some z) (hi : ss.length ≤ i) : torn[i - ss.length]? = some z := by
  unfold logT at h
  rw [List.getElem?_append_right (by rw [List.length_map, ents_len]; exact hi), List.length_map, ents_len] at h
  exact h
theorem stf_ne {H : Hp} {s : Stf} {x : V} (h : StfAt H s x) : ∃ a z r, x = .ref a ∧ H a = some (.tup (.str z :: r)) ∧ (decide (V.str z = V.str ("keep" : Str)) = s.isKeep) := by
  cases s with
  | set t r =>
    obtain ⟨a, b, rfl, h, _⟩ := h
    exact ⟨a, _, _, rfl, h, (by decide +kernel : decide (V.str ("set" : Str) = V.str ("keep" : Str)) = false)⟩
  | cut t r =>
    obtain ⟨a, rfl, h⟩ := h
    exact ⟨a, _, _, rfl, h, (by decide +kernel : decide (V.str ("cut" : Str) = V.str ("keep" : Str)) = false)⟩
  | keep m =>
    obtain ⟨a, rfl, h⟩ := h
    exact ⟨a, _, _, rfl, h, (by decide +kernel : decide (V.str ("keep" : Str) = V.str ("keep" : Str)) = true)⟩
section
variable {P : Program} {w : World} {K : PySem.W.Frag} {mg : Str → Option Value} {base : Heap} {fd : FuncData}
theorem sc_whole_rows : FnScope ["schema", "texts", "found", "text", "row"] ["schema", "texts"] d_whole_rows.scope := ⟨rfl, rfl, rfl, by decide +kernel, rfl, by decide +kernel, by decide +kernel⟩
theorem ok_whole_rows (T : Tx K mg) (F : Fd K d_whole_rows fd) (D_row_in : Df P w K mg base CX0 5 "row_in" ["schema", "thing"] (sp_row_in K)) : FnOk P w K mg base CX0 6 (He.fAd K d_whole_rows.at_) fd ["schema", "texts"] (sp_whole_rows K) := by
  refine ok0 F sc_whole_rows (fun vs H Q E h => ?_) (fun cdv A outer s H vs Q E hr h => ?_)
  · obtain ⟨_, _, _, _, _, _, rfl, _⟩ := h
    rfl
  · obtain ⟨s, Tb, b, n, ss, torn, rfl, S, L, hb, k⟩ := h
    refine ⟨_, (pss_cons (ps_set (i := 2) sc_whole_rows.nd rfl (Or.inl rfl) (pe_lst pa_nil))
    (pss_cons (ps_for PassesOwn.never rfl (pi_list (pv 1)) (pg_name (i := 3) sc_whole_rows.nd rfl (Or.inl rfl)) (pss_cons (ps_set (i := 4) sc_whole_rows.nd rfl (Or.inl rfl) (pe_df D_row_in (hr.mono (by decide)) pass0 (pa_cons (pv 0) (pa_cons (pv 3) pa_nil))))
    (pss_cons (ps_if (PW.pt (pw_or (pt_cmpR op_isN (pv 4) pe_non (nomark _)) (pw_or1 (PW.pt (pw_and (pt_cmpR (op_neNil hr.units) (pv 2) (pe_lst pa_nil) (nomark _)) (pw_and1 (pt_cmpR op_ne (pe_ix ix_tup (pv 4) pe_int (fun _ _ => rfl)) (pe_op op_add (pe_ix ix_tup (pe_ix ix_list (pv 2) (pe_un un_neg pe_int) (fun _ _ => rfl)) pe_int (fun _ _ => rfl)) pe_int) (nomark _)))))))) (pss_one (ps_ret (pv 2))) pss_nil)
    (pss_one (ps_expr (pe_bm PySem.F.plainAttrs_list PySem.F.slot_list_append PySem.F.type_list_append mt_append (pv 2) (pa_cons (pv 4) pa_nil)))))))
    (pss_one (ps_ret (pv 2))))), ?_⟩
    refine ⟨Nat.zero_le _, fun p hp => ?_⟩
    have s0 := Same.new (o := .lst []) hp
    refine ⟨_, rfl, b, rfl, ⟨_, SqL.of (s0 _ _ hb)⟩, for_it (walk_list (xs := (logT n ss torn).map V.str)) (fun i σ H' => ∃ u v, σ = [some (.ref s), some (.ref b), some (.ref p), u, v] ∧ Same H H' ∧ i ≤ ss.length ∧ EntsAt H' (ents n (ss.take i)) p)
      ⟨_, _, rfl, s0, Nat.zero_le _, [], upd_same, .nil⟩ (fun i σ H' _ ⟨_, _, _, e, _⟩ => e.seq (SqL.of hb)) ?_ ?_⟩
    · rintro i x σ H1 H2 hi ⟨u, v, rfl, s1, hle, xs, hx, hp1⟩ ⟨rfl, hix⟩
      rw [List.getElem?_map] at hix
      by_cases hlt : i < ss.length
      · -- a whole row
        obtain ⟨st, hst⟩ : ∃ st, ss[i]? = some st := ⟨_, List.getElem?_eq_getElem hlt⟩
        rw [logT_at hst] at hix
        obtain rfl := Option.some.inj hix
        have okst := L.ok st (List.mem_of_getElem? hst)
        have hn1 : 1 ≤ n + (i : Int) ∧ n + (i : Int) ≤ 1000000000 := by
          have := L.lo
          have := L.hi
          omega
        have hlen := rowT_len (n := n + (i : Int)) S.ok okst (by omega)
        refine ⟨_, rfl, _, rfl, s, Tb, _, rfl, S.same s1, by omega, .inr ⟨n + (i : Int), st, rfl, okst, hn1, fun H3 x s2 hx3 => ?_⟩⟩
        obtain ⟨a, y, rfl, ha, hy⟩ := id hx3
        refine ⟨_, rfl, rfl, _, rfl, iteF ?_⟩
        have hx4 := s2 _ _ hx
        have lx : xs.length = i := by
          have := paired_len hp1
          rw [ents_len, List.length_take] at this
          omega
        have app : ∀ H4, Same H3 H4 → (tDrop (tBM K "list" rAppend (tVar 2) (tCons (tVar 4) tNil)) : L2.TS) { nx := fun σ' H' => ∃ u v, σ' = [some (.ref s), some (.ref b), some (.ref p), u, v] ∧ Same H H' ∧ i + 1 ≤ ss.length ∧ EntsAt H' (ents n (ss.take (i + 1))) p, rt := Q }
            [some (.ref s), some (.ref b), some (.ref p), some (.str (rowT (n + (i : Int)) st)), some (.ref a)] H4 := fun H4 s4 => by
          refine ⟨_, rfl, .inl ⟨rfl, _, SqL.of (s4 _ _ hx4)⟩, _, rfl, p, xs, .ref a, rfl, rfl, s4 _ _ hx4, Nat.lt_of_le_of_lt (by rw [lx]; have := L.few; omega) (show 100000 < sizeLine by decide), ?_⟩
          refine ⟨_, _, rfl, Same.mut ((s1.trans s2).trans s4) hp, hlt, xs ++ [.ref a], upd_same, ?_⟩
          have s5 : TS H4 (upd H4 p (.lst (xs ++ [.ref a]))) := fun c zs hc => by
            rw [upd_ne (ne_of hc (s4 _ _ hx4) (by intro z; cases z))]
            exact hc
          rw [take_snoc hst, ents_app]
          have el : n + ((ss.take i).length : Int) = n + (i : Int) := by
            rw [List.length_take, Nat.min_eq_left hle]
          rw [el]
          exact paired_snoc (paired_imp hp1 fun _ _ q => ((q.ts s2.ts).ts s4.ts).ts s5) ((hx3.ts s4.ts).ts s5)
        refine ⟨_, rfl, Nat.zero_le _, fun q hq => ?_⟩
        have s6 := Same.new (o := .lst []) hq
        refine ⟨p, q, xs, rfl, rfl, SqL.of (s6 _ _ hx4), SqL.of upd_same, _, rfl, ?_⟩
        refine ite_of (fun he => ?_) (fun _ => iteF ?_)
        have hpos : 0 < i := by
          cases xs with
          | nil => cases he
          | cons z zs => rw [← lx, List.length_cons]; omega
        obtain ⟨j, rfl⟩ : ∃ j, i = j + 1 := ⟨i - 1, by omega⟩
        obtain ⟨st', hst'⟩ : ∃ st', ss[j]? = some st' := ⟨_, List.getElem?_eq_getElem (by omega)⟩
        have hej : (ents n (ss.take (j + 1)))[j]? = some (n + (j : Int), st') := by
          rw [ents_at, List.getElem?_take, if_pos (Nat.lt_succ_self j), hst']
          rfl
        obtain ⟨y', hy', a', w', rfl, ha', _⟩ := paired_at hp1 hej
        have sx := s2.trans s6
        refine ⟨_, rfl, a, _, 0, _, rfl, rfl, SqT.of (s6 _ _ ha), rfl, _, rfl, _, rfl, p, xs, -1, _, rfl, rfl, SqL.of (s6 _ _ hx4), atI_end lx hy', a', _, 0, _, rfl, rfl, SqT.of (sx _ _ ha'), rfl, _, _, rfl, rfl, rfl, _, rfl, ?_⟩
        refine if_f (ne_f (congrArg V.int (by show n + ((j + 1 : Nat) : Int) = n + (j : Int) + 1; omega))) ?_
        all_goals exact app _ s6
      · -- the torn text
        have hie : i = ss.length := by omega
        cases hz : (logT n ss torn)[i]? with
        | none =>
          rw [hz] at hix
          cases hix
        | some z =>
          rw [hz] at hix
          obtain rfl := Option.some.inj hix
          have ht := logT_torn hz (by omega)
          rcases L.tn with e | ⟨z', e, ne, hzl⟩
          · rw [e] at ht
            cases ht
          · rw [e, hie, Nat.sub_self] at ht
            obtain rfl := Option.some.inj ht
            refine ⟨_, rfl, _, rfl, s, Tb, _, rfl, S.same s1, hzl, .inl ⟨ne, fun H3 s2 => ?_⟩⟩
            refine ⟨_, rfl, rfl, _, rfl, iteT ?_⟩
            refine ⟨_, rfl, k _ p (s1.trans s2) hp ?_⟩
            have he : EntsAt H2 (ents n ss) p := by
              refine ⟨xs, hx, ?_⟩
              rw [hie, List.take_length] at hp1
              exact hp1
            exact he.same s2
    · rintro σ H1 ⟨u, v, rfl, s1, hle, he⟩
      rw [List.length_map, logT_len] at hle he
      have e0 : torn.length = 0 := by omega
      rw [e0, Nat.add_zero, List.take_length] at he
      exact ⟨_, rfl, k _ p s1 hp he⟩
theorem sc_kept_many_rows : FnScope ["schema", "texts", "many", "at", "row"] ["schema", "texts"] d_kept_many_rows.scope := ⟨rfl, rfl, rfl, by decide +kernel, rfl, by decide +kernel, by decide +kernel⟩
theorem ok_kept_many_rows (T : Tx K mg) (F : Fd K d_kept_many_rows fd) (D_whole_rows : Df P w K mg base CX0 6 "whole_rows" ["schema", "texts"] (sp_whole_rows K)) : FnOk P w K mg base CX0 7 (He.fAd K d_kept_many_rows.at_) fd ["schema", "texts"] (sp_kept_many_rows K) := by
  refine ok0 F sc_kept_many_rows (fun vs H Q E h => ?_) (fun cdv A outer s H vs Q E hr h => ?_)
  · obtain ⟨_, _, _, _, _, _, rfl, _⟩ := h
    rfl
  · obtain ⟨s, Tb, b, n, ss, torn, rfl, S, L, hb, k⟩ := h
    refine ⟨_, (pss_cons (ps_set (i := 2) sc_kept_many_rows.nd rfl (Or.inl rfl) pe_int)
    (pss_cons (ps_for PassesOwn.never rfl (pi_enum (by rfl) T.f_enumerate (pa_cons (pe_df D_whole_rows (hr.mono (by decide)) pass0 (pa_cons (pv 0) (pa_cons (pv 1) pa_nil))) pa_nil)) (pg_tup rfl (pgs_cons (pg_name (i := 3) sc_kept_many_rows.nd rfl (Or.inl rfl)) (pgs_cons (pg_name (i := 4) sc_kept_many_rows.nd rfl (Or.inl rfl)) pgs_nil))) (pss_one (ps_if (pt_cmpR op_eq (pe_ix ix_tup (pe_ix ix_tup (pv 4) pe_int (fun _ _ => rfl)) pe_int (fun _ _ => rfl)) pe_str (nomark _)) (pss_one (ps_set (i := 2) sc_kept_many_rows.nd rfl (Or.inl rfl) (pe_op op_add (pv 3) pe_int))) pss_nil)))
    (pss_one (ps_ret (pv 2))))), ?_⟩
    refine ⟨_, rfl, _, rfl, s, Tb, b, n, ss, torn, rfl, S, L, hb, fun H1 p s1 hp ⟨xs, hx, hpx⟩ => ?_⟩
    have lx := paired_len hpx
    rw [ents_len] at lx
    refine ⟨p, xs, rfl, SqL.of hx, for_it walk_enum (fun i σ H' => ∃ u v, σ = [some (.ref s), some (.ref b), some (.int ((km 0 0 (ss.take i) : Nat) : Int)), u, v] ∧ Same H1 H') ⟨_, _, rfl, Same.refl _⟩
      (fun i σ H' _ ⟨_, _, _, e⟩ => e.seq (SqL.of hx)) ?_ ?_⟩
    · rintro i x σ H2 H3 hi ⟨u, v, rfl, s2⟩ ⟨q, y, z, rfl, hq, rfl, hy, hz⟩
      obtain rfl := Option.some.inj hy
      replace hz : xs[i]? = some z := hz
      obtain ⟨e, he, hez⟩ := paired_at2 hpx hz
      rw [ents_at] at he
      obtain ⟨st, hst⟩ : ∃ st, ss[i]? = some st := ⟨_, List.getElem?_eq_getElem (by omega)⟩
      rw [hst] at he
      obtain rfl := Option.some.inj he
      have s3 := Same.new (o := .tup [V.int (i : Nat), z]) hq
      have s4 := s2.trans s3
      refine ⟨q, _, rfl, SqT.of upd_same, rfl, _, _, rfl, _, _, rfl, rfl, ?_⟩
      obtain ⟨a, y, rfl, ha, hs⟩ := hez.ts s4.ts
      obtain ⟨a2, z2, r2, rfl, ha2, ek⟩ := stf_ne hs
      refine ⟨_, rfl, a, _, 1, _, rfl, rfl, SqT.of ha, rfl, a2, _, 0, _, rfl, rfl, SqT.of ha2, at0, rfl, _, rfl, ?_⟩
      have ekm : km 0 0 (ss.take (i + 1)) = if st.isKeep = true then i + 1 else km 0 0 (ss.take i) := by
        rw [take_snoc hst, km_app, List.length_take, Nat.min_eq_left (by omega), Nat.zero_add]
        rfl
      refine ite_of (fun h => ?_) (fun h => ?_)
      · rw [ek] at h
        rw [if_pos h] at ekm
        refine ⟨_, rfl, _, _, rfl, rfl, some (.int (i : Nat)), some (.ref a), ?_, s4⟩
        rw [ekm, show ((i + 1 : Nat) : Int) = (i : Int) + 1 by omega]
        rfl
      · rw [ek] at h
        rw [h, if_neg Bool.false_ne_true] at ekm
        exact ⟨_, _, by rw [ekm]; rfl, s4⟩
    · rintro σ H2 ⟨u, v, rfl, s2⟩
      rw [← lx, List.take_length]
      exact ⟨_, rfl, k _ (s1.trans s2)⟩
end
end Fl

set_option Elab.async false
set_option linter.all false
set_option maxRecDepth 100000
set_option maxHeartbeats 1000000
/-! The disk. -/
namespace Fl
open PySem PySem.Spec PyProof.Rows L2
open TL (tl)
structure Dk where
  rows : List Str
  pages : List Str
  writes : Int
  due : Option (Int × Int)
  down : Bool
/-- a write comes -/
def Dk.come (d : Dk) : Dk := match d.due with
  | none => { d with writes := d.writes + 1 }
  | some (a, s) => if 0 < a then { d with writes := d.writes + 1, due := some (a - 1, s) } else { d with writes := d.writes + 1, due := none, down := true }
/-- how many signs of it come, where it falls -/
def Dk.sig (d : Dk) : Option Int := match d.due with
  | none => none
  | some (a, s) => if 0 < a then none else some s
def optV : Option Int → V
  | none => .non
  | some s => .int s
def DFl (lr lp : Addr) (n : Int) (dv : V) (b : Bool) : List (Str × V) := [("held_rows", .ref lr), ("held_pages", .ref lp), ("many_writes", .int n), ("due", dv), ("is_down", .bl b)]
def DueAt (H : Hp) (v : V) : Option (Int × Int) → Prop
  | none => v = .non
  | some (a, s) => ∃ q, v = .ref q ∧ H q = some (.tup [.int a, .int s])
theorem DueAt.ts {H H' : Hp} (k : TS H H') {v : V} {o : Option (Int × Int)} (h : DueAt H v o) : DueAt H' v o := by
  cases o with
  | none => exact h
  | some x =>
    obtain ⟨q, e, h⟩ := h
    exact ⟨q, e, k _ _ h⟩
structure DiskAt (C : Addr) (H : Hp) (p lr lp : Addr) (d : Dk) : Prop where
  ob : ∃ dx dv, H p = some (.ins C dx (DFl lr lp d.writes dv d.down)) ∧ DueAt H dv d.due
  rw : H lr = some (.lst (d.rows.map V.str))
  pg : H lp = some (.lst (d.pages.map V.str))
  ne : lr ≠ lp
  n8 : d.pages.length = 8
  few : d.rows.length ≤ 1000000
theorem DiskAt.same {C : Addr} {H H' : Hp} {p lr lp : Addr} {d : Dk} (k : Same H H') (h : DiskAt C H p lr lp d) : DiskAt C H' p lr lp d := by
  obtain ⟨dx, dv, h1, h2⟩ := h.ob
  exact ⟨⟨dx, dv, k _ _ h1, h2.ts k.ts⟩, k _ _ h.rw, k _ _ h.pg, h.ne, h.n8, h.few⟩
/-- all but the object at p is as it was -/
def Bt (p : Addr) (H H' : Hp) : Prop := ∀ b o, H b = some o → b ≠ p → H' b = some o
/-- all but the disk's three objects is as it was -/
def Bt3 (p lr lp : Addr) (H H' : Hp) : Prop := ∀ b o, H b = some o → b ≠ p → b ≠ lr → b ≠ lp → H' b = some o
theorem _root_.L2.Same.bt3 {p lr lp : Addr} {H H' : Hp} (h : Same H H') : Bt3 p lr lp H H' := fun b o e _ _ _ => h b o e
theorem Bt3.trans {p lr lp : Addr} {H H1 H2 : Hp} (a : Bt3 p lr lp H H1) (b : Bt3 p lr lp H1 H2) : Bt3 p lr lp H H2 := fun c o h h1 h2 h3 => b c o (a c o h h1 h2 h3) h1 h2 h3
theorem Bt3.wr {p lr lp a : Addr} {H H1 : Hp} {o : HO} (h : Bt3 p lr lp H H1) (ha : a = p ∨ a = lr ∨ a = lp) : Bt3 p lr lp H (upd H1 a o) := fun c u hc h1 h2 h3 => by
  have : c ≠ a := by
    rcases ha with rfl | rfl | rfl
    · exact h1
    · exact h2
    · exact h3
  rw [upd_ne this]
  exact h c u hc h1 h2 h3
theorem Bt3.new {p lr lp a : Addr} {H H1 : Hp} {o : HO} (h : Bt3 p lr lp H H1) (ha : H1 a = none) : Bt3 p lr lp H (upd H1 a o) := h.trans (Same.new ha).bt3
theorem DiskAt.ts {C : Addr} {H H' : Hp} {p lr lp : Addr} {d : Dk} (D : DiskAt C H p lr lp d) (h : Bt3 p lr lp H H') : TS H H' := fun b xs e => by
  obtain ⟨dx, dv, h1, _⟩ := D.ob
  exact h b _ e (ne_of e h1 (by intro z; cases z)) (ne_of e D.rw (by intro z; cases z)) (ne_of e D.pg (by intro z; cases z))
theorem SchAt.bt3 {Cd C : Addr} {H H' : Hp} {p lr lp : Addr} {d : Dk} {s : Addr} {T : Tabs} (D : DiskAt Cd H p lr lp d) (h : Bt3 p lr lp H H') (S : SchAt C H s T) : SchAt C H' s T := by
  obtain ⟨dx, dc, ko, kvs, h1, h2, h3⟩ := S.at_
  obtain ⟨dx', dv, g1, _⟩ := D.ob
  refine ⟨S.ok, dx, dc, ko, kvs, h _ _ h1 (ne_of h1 g1 ?_) (ne_of h1 D.rw (by intro z; cases z)) (ne_of h1 D.pg (by intro z; cases z)), h _ _ h2 (ne_of h2 g1 (by intro z; cases z)) (ne_of h2 D.rw (by intro z; cases z)) (ne_of h2 D.pg (by intro z; cases z)),
    paired_imp h3 fun _ _ => TabAt.ts (D.ts h)⟩
  intro z
  injection z with _ _ z
  have := congrArg List.length z
  cases this
/-! ### the fields' names -/
theorem k12 : (("held_rows" : Str) = "held_pages") = False := eq_false (by decide +kernel)
theorem k13 : (("held_rows" : Str) = "many_writes") = False := eq_false (by decide +kernel)
theorem k14 : (("held_rows" : Str) = "due") = False := eq_false (by decide +kernel)
theorem k15 : (("held_rows" : Str) = "is_down") = False := eq_false (by decide +kernel)
theorem k23 : (("held_pages" : Str) = "many_writes") = False := eq_false (by decide +kernel)
theorem k24 : (("held_pages" : Str) = "due") = False := eq_false (by decide +kernel)
theorem k25 : (("held_pages" : Str) = "is_down") = False := eq_false (by decide +kernel)
theorem k34 : (("many_writes" : Str) = "due") = False := eq_false (by decide +kernel)
theorem k35 : (("many_writes" : Str) = "is_down") = False := eq_false (by decide +kernel)
theorem k45 : (("due" : Str) = "is_down") = False := eq_false (by decide +kernel)
section
variable {lr lp : Addr} {n : Int} {dv : V} {b : Bool}
theorem dfl_eq : putF "is_down" (.bl b) (putF "due" dv (putF "many_writes" (.int n) (putF "held_pages" (.ref lp) (putF "held_rows" (.ref lr) [])))) = DFl lr lp n dv b := by
  simp only [putF, DFl, k12, k13, k14, k15, k23, k24, k25, k34, k35, k45, if_false]
theorem dfl_rows : (DFl lr lp n dv b).lookup ("held_rows" : Str) = some (.ref lr) := by
  rw [← dfl_eq]
  simp only [lookup_putF, k12, k13, k14, k15, if_false, if_true]
theorem dfl_pages : (DFl lr lp n dv b).lookup ("held_pages" : Str) = some (.ref lp) := by
  rw [← dfl_eq]
  simp only [lookup_putF, k23, k24, k25, if_false, if_true]
theorem dfl_writes : (DFl lr lp n dv b).lookup ("many_writes" : Str) = some (.int n) := by
  rw [← dfl_eq]
  simp only [lookup_putF, k34, k35, if_false, if_true]
theorem dfl_due : (DFl lr lp n dv b).lookup ("due" : Str) = some dv := by
  rw [← dfl_eq]
  simp only [lookup_putF, k45, if_false, if_true]
theorem dfl_down : (DFl lr lp n dv b).lookup ("is_down" : Str) = some (.bl b) := by
  rw [← dfl_eq]
  simp only [lookup_putF, if_true]
theorem dfl_no {m : Str} (h1 : ¬ m = "is_down") (h2 : ¬ m = "due") (h3 : ¬ m = "many_writes") (h4 : ¬ m = "held_pages") (h5 : ¬ m = "held_rows") : (DFl lr lp n dv b).lookup m = none := by
  rw [← dfl_eq]
  simp only [lookup_putF, h1, h2, h3, h4, h5, if_false, List.lookup_nil]
theorem dfl_setrows (x : Addr) : putF "held_rows" (.ref x) (DFl lr lp n dv b) = DFl x lp n dv b := by
  simp only [putF, DFl, if_true]
theorem dfl_setwrites (x : Int) : putF "many_writes" (.int x) (DFl lr lp n dv b) = DFl lr lp x dv b := by
  simp only [putF, DFl, k13, k23, if_false, if_true]
theorem dfl_setdue (x : V) : putF "due" x (DFl lr lp n dv b) = DFl lr lp n x b := by
  simp only [putF, DFl, k14, k24, k34, if_false, if_true]
theorem dfl_setdown (x : Bool) : putF "is_down" (.bl x) (DFl lr lp n dv b) = DFl lr lp n dv x := by
  simp only [putF, DFl, k15, k25, k35, k45, if_false, if_true]
theorem dfl_len : (DFl lr lp n dv b).length < 1000 := by
  show 5 < 1000
  decide
end
/-! ### the promises -/
def dk0 : Dk := ⟨[], List.replicate 8 Str.empty, 0, none, false⟩
def sp_D_init (K : PySem.W.Frag) : Sp := fun vs H Q _ => ∃ p dx, vs = [.ref p] ∧ H p = some (.ins (DkC K) dx []) ∧ ∀ H' lr lp, Bt p H H' → H lr = none → H lp = none → DiskAt (DkC K) H' p lr lp dk0 → Q .non H'
def sp_log_rows (K : PySem.W.Frag) : Sp := fun vs H Q _ => ∃ p lr lp d, vs = [.ref p] ∧ DiskAt (DkC K) H p lr lp d ∧ ∀ q, H q = none → Q (.ref q) (upd H q (.lst (d.rows.map V.str)))
def sp_page (K : PySem.W.Frag) : Sp := fun vs H Q _ => ∃ p lr lp d i z, vs = [.ref p, .int ((i : Nat) : Int)] ∧ DiskAt (DkC K) H p lr lp d ∧ d.pages[i]? = some z ∧ Q (.str z) H
def sp_writes (K : PySem.W.Frag) : Sp := fun vs H Q _ => ∃ p lr lp d, vs = [.ref p] ∧ DiskAt (DkC K) H p lr lp d ∧ Q (.int d.writes) H
def sp_fall_at (K : PySem.W.Frag) : Sp := fun vs H Q _ => ∃ p lr lp d a s, vs = [.ref p, .int a, .int s] ∧ DiskAt (DkC K) H p lr lp d ∧ ∀ H', Bt3 p lr lp H H' → DiskAt (DkC K) H' p lr lp { d with due := some (a, s) } → Q .non H'
def sp_power (K : PySem.W.Frag) : Sp := fun vs H Q _ => ∃ p lr lp d, vs = [.ref p] ∧ DiskAt (DkC K) H p lr lp d ∧ ∀ H', Bt3 p lr lp H H' → DiskAt (DkC K) H' p lr lp { d with due := none, down := false } → Q .non H'
abbrev FlC (K : PySem.W.Frag) : Value := .ref (He.ga K "Fell")
def sp_coming (K : PySem.W.Frag) : Sp := fun vs H Q E => ∃ p lr lp d, vs = [.ref p] ∧ DiskAt (DkC K) H p lr lp d ∧ (d.down = true → E (FlC K) none H) ∧
  (d.down = false → ∀ H', Bt3 p lr lp H H' → DiskAt (DkC K) H' p lr lp d.come → Q (optV d.sig) H')
/-- a row is added, as far as it comes -/
def Dk.addRow (d : Dk) (z : Str) : Dk := match d.sig with
  | none => { d.come with rows := d.rows ++ [z] }
  | some s => if cutS z none (some s) = Str.empty then d.come else { d.come with rows := d.rows ++ [cutS z none (some s)] }
def Dk.putPage (d : Dk) (i : Nat) (z : Str) : Dk := match d.sig with
  | none => { d.come with pages := d.pages.set i z }
  | some s => { d.come with pages := d.pages.set i (cutS z none (some s)) }
def Dk.cutTo (d : Dk) (rows : List Str) : Dk := match d.sig with
  | none => { d.come with rows := rows }
  | some s => if 0 < s then { d.come with rows := rows } else d.come
theorem come_pages (d : Dk) : d.come.pages = d.pages ∧ d.come.rows = d.rows := by
  unfold Dk.come
  split
  · exact ⟨rfl, rfl⟩
  · split
    · exact ⟨rfl, rfl⟩
    · exact ⟨rfl, rfl⟩
def sp_add_row (K : PySem.W.Frag) : Sp := fun vs H Q E => ∃ p lr lp d z, vs = [.ref p, .str z] ∧ DiskAt (DkC K) H p lr lp d ∧ d.rows.length < 1000000 ∧ z.length ≤ 1000000 ∧ (d.down = true → E (FlC K) none H) ∧
  (d.down = false → ∀ H', Bt3 p lr lp H H' → DiskAt (DkC K) H' p lr lp (d.addRow z) → (d.sig = none → Q .non H') ∧ (d.sig ≠ none → E (FlC K) none H'))
def sp_put_page (K : PySem.W.Frag) : Sp := fun vs H Q E => ∃ p lr lp d i z, vs = [.ref p, .int ((i : Nat) : Int), .str z] ∧ DiskAt (DkC K) H p lr lp d ∧ i < 8 ∧ z.length ≤ 1000000 ∧ (d.down = true → E (FlC K) none H) ∧
  (d.down = false → ∀ H', Bt3 p lr lp H H' → DiskAt (DkC K) H' p lr lp (d.putPage i z) → (d.sig = none → Q .non H') ∧ (d.sig ≠ none → E (FlC K) none H'))
def sp_cut_to (K : PySem.W.Frag) : Sp := fun vs H Q E => ∃ p lr lp d q rows, vs = [.ref p, .ref q] ∧ DiskAt (DkC K) H p lr lp d ∧ H q = some (.lst (rows.map V.str)) ∧ q ≠ lp ∧ rows.length ≤ 1000000 ∧ (d.down = true → E (FlC K) none H) ∧
  (d.down = false → ∀ H' lr', Bt3 p lr lp H H' → (lr' = lr ∨ lr' = q) → DiskAt (DkC K) H' p lr' lp (d.cutTo rows) → (d.sig = none → Q .non H') ∧ (d.sig ≠ none → E (FlC K) none H'))
def sp_cut_tail (K : PySem.W.Frag) : Sp := fun vs H Q E => ∃ p lr lp d n, vs = [.ref p, .int ((n : Nat) : Int)] ∧ DiskAt (DkC K) H p lr lp d ∧ (d.down = true → ∀ H', Same H H' → E (FlC K) none H') ∧
  (d.down = false → ∀ H' lr', Bt3 p lr lp H H' → (lr' = lr ∨ H lr' = none) → DiskAt (DkC K) H' p lr' lp (d.cutTo (d.rows.take n)) → (d.sig = none → Q .non H') ∧ (d.sig ≠ none → E (FlC K) none H'))
def sp_cut_head (K : PySem.W.Frag) : Sp := fun vs H Q E => ∃ p lr lp d n, vs = [.ref p, .int ((n : Nat) : Int)] ∧ DiskAt (DkC K) H p lr lp d ∧ (d.down = true → ∀ H', Same H H' → E (FlC K) none H') ∧
  (d.down = false → ∀ H' lr', Bt3 p lr lp H H' → (lr' = lr ∨ H lr' = none) → DiskAt (DkC K) H' p lr' lp (d.cutTo (d.rows.drop n)) → (d.sig = none → Q .non H') ∧ (d.sig ≠ none → E (FlC K) none H'))
section
variable {P : Program} {w : World} {K : PySem.W.Frag} {mg : Str → Option Value} {base : Heap} {fd : FuncData}
theorem sc_D_init : FnScope ["self"] ["self"] d_D_init.scope := ⟨rfl, rfl, rfl, by decide +kernel, rfl, by decide +kernel, by decide +kernel⟩
theorem ok_D_init (T : Tx K mg) (F : Fd K d_D_init fd) : FnOk P w K mg base CX0 1 (He.fAd K d_D_init.at_) fd ["self"] (sp_D_init K) := by
  obtain ⟨t1, e_MOST_SLOTS⟩ := T.i_MOST_SLOTS
  refine ok0 F sc_D_init (fun vs H Q E h => ?_) (fun cdv A outer s H vs Q E hr h => ?_)
  · obtain ⟨_, _, rfl, _⟩ := h
    rfl
  · obtain ⟨p, dx, rfl, hp, k⟩ := h
    refine ⟨_, (pss_cons (ps_fld (pv 0) (pe_lst pa_nil) rfl)
    (pss_cons (ps_fld (pv 0) (pe_op op_rep (pe_lst (pa_cons pe_str pa_nil)) (pe_glob (v := V.int 8) rfl e_MOST_SLOTS ⟨_, rfl⟩)) rfl)
    (pss_cons (ps_fld (pv 0) pe_int rfl)
    (pss_cons (ps_fld (pv 0) pe_non rfl)
    (pss_one (ps_fld (pv 0) pe_bl rfl)))))), ?_⟩
    refine ⟨Nat.zero_le _, fun lr hlr => ?_⟩
    have n1 : p ≠ lr := ne_of_none hp hlr
    refine ⟨_, rfl, p, _, dx, _, rfl, (by rw [upd_ne n1]; exact hp), T.c_Disk, T.n_Disk_held_rows, (by show 0 < 1000; decide), ?_⟩
    refine ⟨by show 1 ≤ sizeLine; decide, fun l1 hl1 => ?_⟩
    have n2 : p ≠ l1 := ne_of_none upd_same hl1
    have n3 : lr ≠ l1 := ne_of_none (by rw [upd_ne n1.symm]; exact upd_same) hl1
    refine ⟨l1, 8, _, rfl, rfl, upd_same, by decide, by decide, by show 1 * 8 ≤ sizeLine; decide, fun lp hlp => ?_⟩
    have n4 : l1 ≠ lp := ne_of_none upd_same hlp
    have n5 : p ≠ lp := ne_of_none (by rw [upd_ne n2]; exact upd_same) hlp
    have n6 : lr ≠ lp := ne_of_none (by rw [upd_ne n3, upd_ne n1.symm]; exact upd_same) hlp
    refine ⟨_, rfl, p, _, dx, _, rfl, (by rw [upd_ne n5, upd_ne n2]; exact upd_same), T.c_Disk, T.n_Disk_held_pages, (by show 1 < 1000; decide), ?_⟩
    refine ⟨_, rfl, p, _, dx, _, rfl, upd_same, T.c_Disk, T.n_Disk_many_writes, (Nat.lt_of_le_of_lt (length_putF _ _ _) (by show 1 + 1 < 1000; decide)), ?_⟩
    refine ⟨_, rfl, p, _, dx, _, rfl, upd_same, T.c_Disk, T.n_Disk_due, (Nat.lt_of_le_of_lt (length_putF _ _ _) (Nat.lt_of_le_of_lt (Nat.succ_le_succ (length_putF _ _ _)) (by show 1 + 1 + 1 < 1000; decide))), ?_⟩
    refine ⟨_, rfl, p, _, dx, _, rfl, upd_same, T.c_Disk, T.n_Disk_is_down, (Nat.lt_of_le_of_lt (length_putF _ _ _) (Nat.lt_of_le_of_lt (Nat.succ_le_succ (Nat.le_trans (length_putF _ _ _) (Nat.succ_le_succ (length_putF _ _ _)))) (by show 1 + 1 + 1 + 1 < 1000; decide))), ?_⟩
    have h0 : H lp = none := by
      have := hlp
      rw [upd_ne n4.symm, upd_ne n5.symm, upd_ne n6.symm] at this
      exact this
    refine k _ lr lp ?_ hlr h0 ⟨⟨dx, .non, ?_, rfl⟩, ?_, ?_, n6, rfl, Nat.zero_le _⟩
    · intro b o hb hne
      have b1 : b ≠ lr := ne_of_none hb hlr
      have b2 : b ≠ lp := ne_of_none hb h0
      have b3 : b ≠ l1 := fun z => by
        subst z
        have := hl1
        rw [upd_ne n2.symm, upd_ne n3.symm] at this
        rw [this] at hb
        cases hb
      rw [upd_ne hne, upd_ne hne, upd_ne hne, upd_ne hne, upd_ne b2, upd_ne b3, upd_ne hne, upd_ne b1]
      exact hb
    · rw [upd_same]
      exact congrArg (fun l => some (HO.ins (DkC K) dx l)) dfl_eq
    · rw [upd_ne n1.symm, upd_ne n1.symm, upd_ne n1.symm, upd_ne n1.symm, upd_ne n6, upd_ne n3, upd_ne n1.symm]
      exact upd_same
    · rw [upd_ne n5.symm, upd_ne n5.symm, upd_ne n5.symm, upd_ne n5.symm]
      exact upd_same
theorem sc_D_log_rows : FnScope ["self"] ["self"] d_D_log_rows.scope := ⟨rfl, rfl, rfl, by decide +kernel, rfl, by decide +kernel, by decide +kernel⟩
theorem ok_log_rows (T : Tx K mg) (F : Fd K d_D_log_rows fd) : FnOk P w K mg base CX0 1 (He.fAd K d_D_log_rows.at_) fd ["self"] (sp_log_rows K) := by
  refine ok0 F sc_D_log_rows (fun vs H Q E h => ?_) (fun cdv A outer s H vs Q E hr h => ?_)
  · obtain ⟨_, _, _, _, rfl, _⟩ := h
    rfl
  · obtain ⟨p, lr, lp, d, rfl, D, k⟩ := h
    obtain ⟨dx, dv, h1, h2⟩ := D.ob
    refine ⟨_, (pss_one (ps_ret (pe_callTy call_list_of (by rfl) T.f_list (by decide +kernel) (pa_cons (pe_fld (pv 0) rfl) pa_nil)))), ?_⟩
    exact ⟨_, rfl, p, _, dx, _, _, rfl, h1, T.c_Disk, T.n_Disk_held_rows, dfl_rows, lr, _, rfl, .inl (SqL.of D.rw), fun q hq => k q hq⟩
theorem sc_D_page : FnScope ["self", "slot"] ["self", "slot"] d_D_page.scope := ⟨rfl, rfl, rfl, by decide +kernel, rfl, by decide +kernel, by decide +kernel⟩
theorem ok_page (T : Tx K mg) (F : Fd K d_D_page fd) : FnOk P w K mg base CX0 1 (He.fAd K d_D_page.at_) fd ["self", "slot"] (sp_page K) := by
  refine ok0 F sc_D_page (fun vs H Q E h => ?_) (fun cdv A outer s H vs Q E hr h => ?_)
  · obtain ⟨_, _, _, _, _, _, rfl, _⟩ := h
    rfl
  · obtain ⟨p, lr, lp, d, i, z, rfl, D, hz, k⟩ := h
    obtain ⟨dx, dv, h1, h2⟩ := D.ob
    refine ⟨_, (pss_one (ps_ret (pe_ix ix_list (pe_fld (pv 0) rfl) (pv 1) (fun _ _ => rfl)))), ?_⟩
    exact ⟨_, rfl, p, _, dx, _, _, rfl, h1, T.c_Disk, T.n_Disk_held_pages, dfl_pages, _, rfl, lp, _, (i : Int), _, rfl, rfl, SqL.of D.pg, atI_nat (by rw [List.getElem?_map, hz]; rfl), k⟩
theorem sc_D_writes : FnScope ["self"] ["self"] d_D_writes.scope := ⟨rfl, rfl, rfl, by decide +kernel, rfl, by decide +kernel, by decide +kernel⟩
theorem ok_writes (T : Tx K mg) (F : Fd K d_D_writes fd) : FnOk P w K mg base CX0 1 (He.fAd K d_D_writes.at_) fd ["self"] (sp_writes K) := by
  refine ok0 F sc_D_writes (fun vs H Q E h => ?_) (fun cdv A outer s H vs Q E hr h => ?_)
  · obtain ⟨_, _, _, _, rfl, _⟩ := h
    rfl
  · obtain ⟨p, lr, lp, d, rfl, D, k⟩ := h
    obtain ⟨dx, dv, h1, h2⟩ := D.ob
    refine ⟨_, (pss_one (ps_ret (pe_fld (pv 0) rfl))), ?_⟩
    exact ⟨_, rfl, p, _, dx, _, _, rfl, h1, T.c_Disk, T.n_Disk_many_writes, dfl_writes, k⟩
/-- the disk's object is written -/
theorem DiskAt.put {H H1 : Hp} {p lr lp : Addr} {d d' : Dk} {dx : Addr} {dv : V} {fs0 : List (Str × V)} {C0 dx0 : Addr} (D : DiskAt (DkC K) H p lr lp d) (s : Bt p H H1) (hp1 : H1 p = some (.ins C0 dx0 fs0)) (hd : DueAt H1 dv d'.due) (er : d'.rows = d.rows) (ep : d'.pages = d.pages) :
    DiskAt (DkC K) (upd H1 p (.ins (DkC K) dx (DFl lr lp d'.writes dv d'.down))) p lr lp d' := by
  obtain ⟨dx1, dv0, h1, h2⟩ := D.ob
  have n1 : lr ≠ p := ne_of D.rw h1 (by intro z; cases z)
  have n2 : lp ≠ p := ne_of D.pg h1 (by intro z; cases z)
  refine ⟨⟨dx, dv, upd_same, ?_⟩, ?_, ?_, D.ne, by rw [ep]; exact D.n8, by rw [er]; exact D.few⟩
  · cases e : d'.due with
    | none =>
      rw [e] at hd
      exact hd
    | some x =>
      rw [e] at hd
      obtain ⟨q, e1, e2⟩ := hd
      refine ⟨q, e1, ?_⟩
      rw [upd_ne (ne_of e2 hp1 (by intro z; cases z))]
      exact e2
  · rw [upd_ne n1, er]
    exact s _ _ D.rw n1
  · rw [upd_ne n2, ep]
    exact s _ _ D.pg n2
end
end Fl

set_option Elab.async false
set_option linter.all false
set_option maxRecDepth 100000
set_option maxHeartbeats 1000000
/-! The disk's writes. -/
namespace Fl
open PySem PySem.Spec PyProof.Rows L2
open TL (tl)
theorem Bt.refl (p : Addr) (H : Hp) : Bt p H H := fun _ _ h _ => h
theorem Bt.wr {p : Addr} {H H1 : Hp} {o : HO} (h : Bt p H H1) : Bt p H (upd H1 p o) := fun c u hc hne => by
  rw [upd_ne hne]
  exact h c u hc hne
theorem Bt.new {p a : Addr} {H H1 : Hp} {o : HO} (h : Bt p H H1) (ha : H1 a = none) : Bt p H (upd H1 a o) := fun c u hc hne => by
  have := h c u hc hne
  rw [upd_ne (ne_of_none this ha)]
  exact this
theorem Bt.bt3 {p lr lp : Addr} {H H1 : Hp} (h : Bt p H H1) : Bt3 p lr lp H H1 := fun c u hc h1 _ _ => h c u hc h1
/-- the disk's lists are written anew -/
theorem DiskAt.lists {C : Addr} {H H1 : Hp} {p lr lp lr' : Addr} {d d' : Dk} {dx : Addr} {dv : V} (D : DiskAt C H p lr lp d) (hp1 : H1 p = some (.ins C dx (DFl lr' lp d'.writes dv d'.down))) (hd : DueAt H1 dv d'.due)
    (hr : H1 lr' = some (.lst (d'.rows.map V.str))) (hg : H1 lp = some (.lst (d'.pages.map V.str))) (hn : lr' ≠ lp) (h8 : d'.pages.length = 8) (hf : d'.rows.length ≤ 1000000) : DiskAt C H1 p lr' lp d' :=
  ⟨⟨dx, dv, hp1, hd⟩, hr, hg, hn, h8, hf⟩
theorem cut_le (z : Str) (a b : Option Int) : (cutS z a b).length ≤ z.length := cutS_length z a b
section
variable {P : Program} {w : World} {K : PySem.W.Frag} {mg : Str → Option Value} {base : Heap} {fd : FuncData}
theorem sc_D_fall_at : FnScope ["self", "after", "signs"] ["self", "after", "signs"] d_D_fall_at.scope := ⟨rfl, rfl, rfl, by decide +kernel, rfl, by decide +kernel, by decide +kernel⟩
theorem ok_fall_at (T : Tx K mg) (F : Fd K d_D_fall_at fd) : FnOk P w K mg base CX0 1 (He.fAd K d_D_fall_at.at_) fd ["self", "after", "signs"] (sp_fall_at K) := by
  refine ok0 F sc_D_fall_at (fun vs H Q E h => ?_) (fun cdv A outer s H vs Q E hr h => ?_)
  · obtain ⟨_, _, _, _, _, _, rfl, _⟩ := h
    rfl
  · obtain ⟨p, lr, lp, d, a, sg, rfl, D, k⟩ := h
    obtain ⟨dx, dv, h1, h2⟩ := D.ob
    refine ⟨_, (pss_one (ps_fld (pv 0) (pe_tup (pa_cons (pv 1) (pa_cons (pv 2) pa_nil))) rfl)), ?_⟩
    refine ⟨_, rfl, _, rfl, two_small, fun q hq => ?_⟩
    have sq := Same.new (o := .tup [V.int a, V.int sg]) hq
    refine ⟨_, rfl, p, _, dx, _, rfl, sq _ _ h1, T.c_Disk, T.n_Disk_due, dfl_len, ?_⟩
    rw [dfl_setdue]
    have b1 : Bt p H (upd H q (.tup [V.int a, V.int sg])) := (Bt.refl p H).new hq
    exact k _ b1.wr.bt3 (D.put (d' := { d with due := some (a, sg) }) b1 (sq _ _ h1) ⟨q, rfl, upd_same⟩ rfl rfl)
theorem sc_D_power : FnScope ["self"] ["self"] d_D_power.scope := ⟨rfl, rfl, rfl, by decide +kernel, rfl, by decide +kernel, by decide +kernel⟩
theorem ok_power (T : Tx K mg) (F : Fd K d_D_power fd) : FnOk P w K mg base CX0 1 (He.fAd K d_D_power.at_) fd ["self"] (sp_power K) := by
  refine ok0 F sc_D_power (fun vs H Q E h => ?_) (fun cdv A outer s H vs Q E hr h => ?_)
  · obtain ⟨_, _, _, _, rfl, _⟩ := h
    rfl
  · obtain ⟨p, lr, lp, d, rfl, D, k⟩ := h
    obtain ⟨dx, dv, h1, h2⟩ := D.ob
    refine ⟨_, (pss_cons (ps_fld (pv 0) pe_non rfl)
    (pss_one (ps_fld (pv 0) pe_bl rfl))), ?_⟩
    refine ⟨_, rfl, p, _, dx, _, rfl, h1, T.c_Disk, T.n_Disk_due, dfl_len, ?_⟩
    rw [dfl_setdue]
    refine ⟨_, rfl, p, _, dx, _, rfl, upd_same, T.c_Disk, T.n_Disk_is_down, dfl_len, ?_⟩
    rw [dfl_setdown]
    have b1 : Bt p H (upd H p (.ins (DkC K) dx (DFl lr lp d.writes .non d.down))) := (Bt.refl p H).wr
    exact k _ b1.wr.bt3 (D.put (d' := { d with due := none, down := false }) b1 upd_same rfl rfl rfl)
theorem sc_D_coming : FnScope ["self", "after", "signs"] ["self"] d_D_coming.scope := ⟨rfl, rfl, rfl, by decide +kernel, rfl, by decide +kernel, by decide +kernel⟩
theorem ok_coming (T : Tx K mg) (F : Fd K d_D_coming fd) : FnOk P w K mg base (L2.CX P w) 1 (He.fAd K d_D_coming.at_) fd ["self"] (sp_coming K) := by
  refine okX F sc_D_coming (fun vs H Q E h => ?_) (fun cdv A outer s H vs Q E hr h => ?_)
  · obtain ⟨_, _, _, _, rfl, _⟩ := h
    rfl
  · obtain ⟨p, lr, lp, d, rfl, D, kx, k⟩ := h
    obtain ⟨dx, dv, h1, h2⟩ := D.ob
    refine ⟨_, (pss_cons (ps_if (pt_val (pe_fld (pv 0) rfl)) (pss_one (ps_raise rfl (takes_of rfl rfl rfl rfl) (pmk_own0 PySem.F.excBase_ValueError T.e_Fell.1 T.g_Fell T.e_Fell.2.1 (raises_own T.e_Fell.2.2.1 T.e_Fell.2.2.2) rfl))) pss_nil)
    (pss_cons (ps_fldaug (pv 0) pe_int in_add)
    (pss_cons (ps_if (pt_cmpR op_isN (pe_fld (pv 0) rfl) pe_non (nomark _)) (pss_one (ps_ret pe_non)) pss_nil)
    (pss_cons (ps_asg (pe_fld (pv 0) rfl) (pg_tup rfl (pgs_cons (pg_name (i := 1) sc_D_coming.nd rfl (Or.inl rfl)) (pgs_cons (pg_name (i := 2) sc_D_coming.nd rfl (Or.inl rfl)) pgs_nil))))
    (pss_cons (ps_fld (pv 0) (pe_tup (pa_cons (pe_op op_sub (pv 1) pe_int) (pa_cons (pv 2) pa_nil))) rfl)
    (pss_cons (ps_if (pt_cmpR op_gt (pv 1) pe_int (nomark _)) (pss_one (ps_ret pe_non)) pss_nil)
    (pss_cons (ps_fld (pv 0) pe_non rfl)
    (pss_cons (ps_fld (pv 0) pe_bl rfl)
    (pss_one (ps_ret (pv 2))))))))))), ?_⟩
    refine ⟨_, rfl, p, _, dx, _, _, rfl, h1, T.c_Disk, T.n_Disk_is_down, dfl_down, _, rfl, ?_⟩
    cases ed : d.down with
    | true =>
      refine iteT ?_
      exact kx ed
    | false =>
      refine iteF ?_
      have k := k ed
      refine ⟨_, rfl, p, _, dx, _, _, rfl, h1, T.c_Disk, T.n_Disk_many_writes, dfl_writes, _, _, rfl, rfl, dx, _, h1, dfl_len, ?_⟩
      rw [dfl_setwrites]
      have b1 : Bt p H (upd H p (.ins (DkC K) dx (DFl lr lp (d.writes + 1) dv d.down))) := (Bt.refl p H).wr
      refine ⟨_, rfl, p, _, dx, _, _, rfl, upd_same, T.c_Disk, T.n_Disk_due, dfl_due, rfl, _, rfl, ?_⟩
      cases e : d.due with
      | none =>
        rw [e] at h2
        have h2' : dv = .non := h2
        refine if_t (decide_eq_true h2') ?_
        have ec : d.come = { d with writes := d.writes + 1 } := by
          unfold Dk.come
          rw [e]
        have es : d.sig = none := by
          unfold Dk.sig
          rw [e]
        have hk := k _ b1.bt3 (D.put (d' := d.come) (dx := dx) (dv := dv) (Bt.refl p H) h1 (by rw [ec]; show DueAt H dv d.due; rw [e]; exact h2') (by rw [ec]) (by rw [ec]) |> fun z => by
          rw [ec] at z ⊢
          exact z)
        rw [es] at hk
        exact hk
      | some x =>
        obtain ⟨a, sg⟩ := x
        rw [e] at h2
        obtain ⟨q, rfl, hq⟩ := h2
        have nqp : q ≠ p := ne_of hq h1 (by intro z; cases z)
        refine if_f (by rfl) ?_
        refine ⟨_, rfl, p, _, dx, _, _, rfl, upd_same, T.c_Disk, T.n_Disk_due, dfl_due, q, _, rfl, SqT.of (by rw [upd_ne nqp]; exact hq), rfl, _, _, rfl, _, _, rfl, rfl, ?_⟩
        refine ⟨_, rfl, _, _, rfl, rfl, _, rfl, two_small, fun q2 hq2 => ?_⟩
        have np2 : p ≠ q2 := ne_of_none upd_same hq2
        refine ⟨_, rfl, p, _, dx, _, rfl, (by rw [upd_ne np2]; exact upd_same), T.c_Disk, T.n_Disk_due, dfl_len, ?_⟩
        rw [dfl_setdue]
        have b2 := b1.new (o := .tup [V.int (a - 1), V.int sg]) hq2
        refine ⟨_, rfl, _, _, rfl, rfl, _, rfl, ?_⟩
        by_cases ha : 0 < a
        · refine if_t (decide_eq_true ha) ?_
          have ec : d.come = { d with writes := d.writes + 1, due := some (a - 1, sg) } := by
            unfold Dk.come
            rw [e]
            exact if_pos ha
          have es : d.sig = none := by
            unfold Dk.sig
            rw [e]
            exact if_pos ha
          have hk := k _ b2.wr.bt3 (D.put (d' := d.come) (dx := dx) (dv := .ref q2) b2 (by rw [upd_ne np2]; exact upd_same) (by rw [ec]; exact ⟨q2, rfl, upd_same⟩) (by rw [ec]) (by rw [ec]) |> fun z => by
            rw [ec] at z ⊢
            exact z)
          rw [es] at hk
          exact hk
        · refine if_f (decide_eq_false ha) ?_
          refine ⟨_, rfl, p, _, dx, _, rfl, upd_same, T.c_Disk, T.n_Disk_due, dfl_len, ?_⟩
          rw [dfl_setdue]
          refine ⟨_, rfl, p, _, dx, _, rfl, upd_same, T.c_Disk, T.n_Disk_is_down, dfl_len, ?_⟩
          rw [dfl_setdown]
          have ec : d.come = { d with writes := d.writes + 1, due := none, down := true } := by
            unfold Dk.come
            rw [e]
            exact if_neg ha
          have es : d.sig = some sg := by
            unfold Dk.sig
            rw [e]
            exact if_neg ha
          rw [es] at k
          refine ⟨_, rfl, k _ b2.wr.wr.wr.bt3 ?_⟩
          rw [ec]
          exact D.put (d' := { d with writes := d.writes + 1, due := none, down := true }) b2.wr.wr upd_same rfl rfl rfl
theorem sc_D_add_row : FnScope ["self", "text", "signs"] ["self", "text"] d_D_add_row.scope := ⟨rfl, rfl, rfl, by decide +kernel, rfl, by decide +kernel, by decide +kernel⟩
theorem ok_add_row (T : Tx K mg) (F : Fd K d_D_add_row fd) (M_coming : Md P w K mg base (L2.CX P w) 1 (DkC K) "coming" ["self"] (sp_coming K)) : FnOk P w K mg base (L2.CX P w) 2 (He.fAd K d_D_add_row.at_) fd ["self", "text"] (sp_add_row K) := by
  refine okX F sc_D_add_row (fun vs H Q E h => ?_) (fun cdv A outer s H vs Q E hr h => ?_)
  · obtain ⟨_, _, _, _, _, rfl, _⟩ := h
    rfl
  · obtain ⟨p, lr, lp, d, z, rfl, D, hf, hz, kx, k⟩ := h
    obtain ⟨dx, dv, h1, h2⟩ := D.ob
    have hzs := sl_small hz
    refine ⟨_, (pss_cons (ps_set (i := 2) sc_D_add_row.nd rfl (Or.inl rfl) (pe_md0 M_coming (hr.mono (by decide)) (passes_call (takes_of rfl rfl rfl rfl) (fun _ _ _ _ h => h)) (pv 0)))
    (pss_cons (ps_if (pt_cmpR op_isN (pv 2) pe_non (nomark _)) (pss_cons (ps_expr (pe_bm PySem.F.plainAttrs_list PySem.F.slot_list_append PySem.F.type_list_append mt_append (pe_fld (pv 0) rfl) (pa_cons (pv 1) pa_nil)))
    (pss_one ps_retN)) pss_nil)
    (pss_cons (ps_if (pt_cmpR op_ne (pe_slice sl_str (pv 1) po_none (po_some (pv 2))) pe_str (nomark _)) (pss_one (ps_expr (pe_bm PySem.F.plainAttrs_list PySem.F.slot_list_append PySem.F.type_list_append mt_append (pe_fld (pv 0) rfl) (pa_cons (pe_slice sl_str (pv 1) po_none (po_some (pv 2))) pa_nil)))) pss_nil)
    (pss_one (ps_raise rfl (takes_of rfl rfl rfl rfl) (pmk_own0 PySem.F.excBase_ValueError T.e_Fell.1 T.g_Fell T.e_Fell.2.1 (raises_own T.e_Fell.2.2.1 T.e_Fell.2.2.2) rfl)))))), ?_⟩
    refine ⟨_, rfl, p, dx, _, rfl, h1, dfl_no (by decide +kernel) (by decide +kernel) (by decide +kernel) (by decide +kernel) (by decide +kernel), p, lr, lp, d, rfl, D, kx, fun hd H1 b1 D1 => ?_⟩
    have k := k hd
    obtain ⟨dx1, dv1, g1, g2⟩ := D1.ob
    have nlr : lr ≠ p := ne_of D1.rw g1 (by intro z; cases z)
    have lz : d.come.rows.length < sizeLine := Nat.lt_of_lt_of_le (by rw [(come_pages d).2]; exact hf) (show 1000000 ≤ sizeLine by decide)
    -- the row comes
    have fin : ∀ y : Str, d.addRow z = { d.come with rows := d.rows ++ [y] } → DiskAt (DkC K) (upd H1 lr (.lst (d.come.rows.map V.str ++ [V.str y]))) p lr lp (d.addRow z) := fun y e => by
      rw [e]
      refine D1.lists (dx := dx1) (dv := dv1) (by rw [upd_ne nlr.symm]; exact g1) ?_ ?_ ?_ D1.ne D1.n8 ?_
      · refine DueAt.ts (fun b xs hb => ?_) g2
        rw [upd_ne (ne_of hb D1.rw (by intro z; cases z))]
        exact hb
      · rw [upd_same, (come_pages d).2, List.map_append]
        rfl
      · rw [upd_ne D1.ne.symm]
        exact D1.pg
      · rw [List.length_append]
        exact hf
    cases e : d.sig with
    | none =>
      have ea : d.addRow z = { d.come with rows := d.rows ++ [z] } := by
        unfold Dk.addRow
        rw [e]
      refine ⟨_, rfl, rfl, _, rfl, iteT ?_⟩
      refine ⟨_, rfl, p, _, dx1, _, _, rfl, g1, T.c_Disk, T.n_Disk_held_rows, dfl_rows, .inl ⟨rfl, _, SqL.of D1.rw⟩, _, rfl, lr, _, _, rfl, rfl, D1.rw, (by rw [List.length_map]; exact lz), ?_⟩
      exact (k _ (b1.wr (.inr (.inl rfl))) (fin z ea)).1 e
    | some sg =>
      refine ⟨_, rfl, rfl, _, rfl, if_f (by rfl) ?_⟩
      refine ⟨_, rfl, _, rfl, sg, rfl, z, rfl, hzs, rfl, _, rfl, ?_⟩
      by_cases hc : cutS z none (some sg) = Str.empty
      · refine if_f (ne_f (congrArg V.str hc)) ?_
        have ea : d.addRow z = d.come := by
          unfold Dk.addRow
          rw [e]
          exact if_pos hc
        have hk := k H1 b1
        rw [ea] at hk
        exact (hk D1).2 (by rw [e]; exact fun z => nomatch z)
      · refine if_t (ne_t fun q => hc (V.str.inj q)) ?_
        have ea : d.addRow z = { d.come with rows := d.rows ++ [cutS z none (some sg)] } := by
          unfold Dk.addRow
          rw [e]
          exact if_neg hc
        refine ⟨_, rfl, p, _, dx1, _, _, rfl, g1, T.c_Disk, T.n_Disk_held_rows, dfl_rows, .inl ⟨rfl, _, SqL.of D1.rw⟩, _, rfl, _, rfl, sg, rfl, z, rfl, hzs, lr, _, _, rfl, rfl, D1.rw, (by rw [List.length_map]; exact lz), ?_⟩
        exact (k _ (b1.wr (.inr (.inl rfl))) (fin _ ea)).2 (by rw [e]; exact fun z => nomatch z)
theorem sc_D_put_page : FnScope ["self", "slot", "text", "signs"] ["self", "slot", "text"] d_D_put_page.scope := ⟨rfl, rfl, rfl, by decide +kernel, rfl, by decide +kernel, by decide +kernel⟩
theorem ok_put_page (T : Tx K mg) (F : Fd K d_D_put_page fd) (M_coming : Md P w K mg base (L2.CX P w) 1 (DkC K) "coming" ["self"] (sp_coming K)) : FnOk P w K mg base (L2.CX P w) 2 (He.fAd K d_D_put_page.at_) fd ["self", "slot", "text"] (sp_put_page K) := by
  refine okX F sc_D_put_page (fun vs H Q E h => ?_) (fun cdv A outer s H vs Q E hr h => ?_)
  · obtain ⟨_, _, _, _, _, _, rfl, _⟩ := h
    rfl
  · obtain ⟨p, lr, lp, d, i, z, rfl, D, hi, hz, kx, k⟩ := h
    obtain ⟨dx, dv, h1, h2⟩ := D.ob
    have hzs := sl_small hz
    refine ⟨_, (pss_cons (ps_set (i := 3) sc_D_put_page.nd rfl (Or.inl rfl) (pe_md0 M_coming (hr.mono (by decide)) (passes_call (takes_of rfl rfl rfl rfl) (fun _ _ _ _ h => h)) (pv 0)))
    (pss_cons (ps_if (pt_cmpR op_isN (pv 3) pe_non (nomark _)) (pss_cons (ps_asg (pv 2) (pg_sub (pe_fld (pv 0) rfl) (pv 1) set_list))
    (pss_one ps_retN)) pss_nil)
    (pss_cons (ps_asg (pe_slice sl_str (pv 2) po_none (po_some (pv 3))) (pg_sub (pe_fld (pv 0) rfl) (pv 1) set_list))
    (pss_one (ps_raise rfl (takes_of rfl rfl rfl rfl) (pmk_own0 PySem.F.excBase_ValueError T.e_Fell.1 T.g_Fell T.e_Fell.2.1 (raises_own T.e_Fell.2.2.1 T.e_Fell.2.2.2) rfl)))))), ?_⟩
    refine ⟨_, rfl, p, dx, _, rfl, h1, dfl_no (by decide +kernel) (by decide +kernel) (by decide +kernel) (by decide +kernel) (by decide +kernel), p, lr, lp, d, rfl, D, kx, fun hd H1 b1 D1 => ?_⟩
    have k := k hd
    obtain ⟨dx1, dv1, g1, g2⟩ := D1.ob
    have nlp : lp ≠ p := ne_of D1.pg g1 (by intro z; cases z)
    have hix : ixN (d.come.pages.map V.str).length ((i : Nat) : Int) = some i := by
      unfold ixN
      rw [List.length_map, D1.n8, if_pos (by omega), if_pos (by omega)]
      rfl
    have fin : ∀ y : Str, d.putPage i z = { d.come with pages := d.pages.set i y } → DiskAt (DkC K) (upd H1 lp (.lst ((d.come.pages.map V.str).set i (V.str y)))) p lr lp (d.putPage i z) := fun y e => by
      rw [e]
      refine D1.lists (dx := dx1) (dv := dv1) (by rw [upd_ne nlp.symm]; exact g1) ?_ ?_ ?_ D1.ne ?_ D1.few
      · refine DueAt.ts (fun b xs hb => ?_) g2
        rw [upd_ne (ne_of hb D1.pg (by intro z; cases z))]
        exact hb
      · rw [upd_ne D1.ne]
        exact D1.rw
      · rw [upd_same, (come_pages d).1, List.map_set]
      · rw [List.length_set]
        exact D.n8
    cases e : d.sig with
    | none =>
      have ea : d.putPage i z = { d.come with pages := d.pages.set i z } := by
        unfold Dk.putPage
        rw [e]
      refine ⟨_, rfl, rfl, _, rfl, iteT ?_⟩
      refine ⟨_, rfl, _, rfl, p, _, dx1, _, _, rfl, g1, T.c_Disk, T.n_Disk_held_pages, dfl_pages, _, rfl, lp, _, _, i, rfl, rfl, D1.pg, hix, ?_⟩
      exact (k _ (b1.wr (.inr (.inr rfl))) (fin z ea)).1 e
    | some sg =>
      have ea : d.putPage i z = { d.come with pages := d.pages.set i (cutS z none (some sg)) } := by
        unfold Dk.putPage
        rw [e]
      refine ⟨_, rfl, rfl, _, rfl, if_f (by rfl) ?_⟩
      refine ⟨_, rfl, _, rfl, sg, rfl, z, rfl, hzs, _, rfl, p, _, dx1, _, _, rfl, g1, T.c_Disk, T.n_Disk_held_pages, dfl_pages, _, rfl, lp, _, _, i, rfl, rfl, D1.pg, hix, ?_⟩
      exact (k _ (b1.wr (.inr (.inr rfl))) (fin _ ea)).2 (by rw [e]; exact fun z => nomatch z)
theorem sc_D_cut_to : FnScope ["self", "rows", "signs"] ["self", "rows"] d_D_cut_to.scope := ⟨rfl, rfl, rfl, by decide +kernel, rfl, by decide +kernel, by decide +kernel⟩
theorem ok_cut_to (T : Tx K mg) (F : Fd K d_D_cut_to fd) (M_coming : Md P w K mg base (L2.CX P w) 1 (DkC K) "coming" ["self"] (sp_coming K)) : FnOk P w K mg base (L2.CX P w) 2 (He.fAd K d_D_cut_to.at_) fd ["self", "rows"] (sp_cut_to K) := by
  refine okX F sc_D_cut_to (fun vs H Q E h => ?_) (fun cdv A outer s H vs Q E hr h => ?_)
  · obtain ⟨_, _, _, _, _, _, rfl, _⟩ := h
    rfl
  · obtain ⟨p, lr, lp, d, q, rows, rfl, D, hq, nq, hf, kx, k⟩ := h
    obtain ⟨dx, dv, h1, h2⟩ := D.ob
    refine ⟨_, (pss_cons (ps_set (i := 2) sc_D_cut_to.nd rfl (Or.inl rfl) (pe_md0 M_coming (hr.mono (by decide)) (passes_call (takes_of rfl rfl rfl rfl) (fun _ _ _ _ h => h)) (pv 0)))
    (pss_cons (ps_if (PW.pt (pw_or (pt_cmpR op_isN (pv 2) pe_non (nomark _)) (pw_or1 (pt_cmpR op_gt (pv 2) pe_int (nomark _))))) (pss_one (ps_fld (pv 0) (pv 1) rfl)) pss_nil)
    (pss_one (ps_if (pt_cmpR op_notN (pv 2) pe_non (nomark _)) (pss_one (ps_raise rfl (takes_of rfl rfl rfl rfl) (pmk_own0 PySem.F.excBase_ValueError T.e_Fell.1 T.g_Fell T.e_Fell.2.1 (raises_own T.e_Fell.2.2.1 T.e_Fell.2.2.2) rfl))) pss_nil)))), ?_⟩
    refine ⟨_, rfl, p, dx, _, rfl, h1, dfl_no (by decide +kernel) (by decide +kernel) (by decide +kernel) (by decide +kernel) (by decide +kernel), p, lr, lp, d, rfl, D, kx, fun hd H1 b1 D1 => ?_⟩
    have k := k hd
    obtain ⟨dx1, dv1, g1, g2⟩ := D1.ob
    have nqp : q ≠ p := ne_of hq h1 (by intro z; cases z)
    have hq1 : q ≠ lr → H1 q = some (.lst (rows.map V.str)) := fun n => b1 _ _ hq nqp n nq
    have hqr : q = lr → rows.map V.str = d.come.rows.map V.str := fun e => by
      subst e
      have := hq.symm.trans D.rw
      rw [(come_pages d).2]
      injection this with this
      injection this
    have hq2 : H1 q = some (.lst (rows.map V.str)) := by
      by_cases e : q = lr
      · rw [hqr e, e]
        exact D1.rw
      · exact hq1 e
    have fin : d.cutTo rows = { d.come with rows := rows } → DiskAt (DkC K) (upd H1 p (.ins (DkC K) dx1 (DFl q lp d.come.writes dv1 d.come.down))) p q lp (d.cutTo rows) := fun e => by
      rw [e]
      refine D1.lists (dx := dx1) (dv := dv1) upd_same ?_ ?_ ?_ nq D1.n8 hf
      · refine DueAt.ts (fun b xs hb => ?_) g2
        rw [upd_ne (ne_of hb g1 (by intro z; cases z))]
        exact hb
      · rw [upd_ne nqp]
        exact hq2
      · rw [upd_ne (ne_of D1.pg g1 (by intro z; cases z))]
        exact D1.pg
    cases e : d.sig with
    | none =>
      have ea : d.cutTo rows = { d.come with rows := rows } := by
        unfold Dk.cutTo
        rw [e]
      refine ⟨_, rfl, rfl, _, rfl, iteT ?_⟩
      refine ⟨_, rfl, _, rfl, p, _, dx1, _, rfl, g1, T.c_Disk, T.n_Disk_held_rows, dfl_len, ?_⟩
      rw [dfl_setrows]
      refine ⟨_, rfl, rfl, _, rfl, if_f (by rfl) ?_⟩
      exact (k _ q (b1.wr (.inl rfl)) (.inr rfl) (fin ea)).1 e
    | some sg =>
      refine ⟨_, rfl, rfl, _, rfl, if_f (by rfl) ?_⟩
      refine ⟨_, rfl, _, _, rfl, rfl, _, rfl, ?_⟩
      by_cases hs : 0 < sg
      · refine if_t (decide_eq_true hs) ?_
        have ea : d.cutTo rows = { d.come with rows := rows } := by
          unfold Dk.cutTo
          rw [e]
          exact if_pos hs
        refine ⟨_, rfl, _, rfl, p, _, dx1, _, rfl, g1, T.c_Disk, T.n_Disk_held_rows, dfl_len, ?_⟩
        rw [dfl_setrows]
        refine ⟨_, rfl, rfl, _, rfl, if_t (by rfl) ?_⟩
        exact (k _ q (b1.wr (.inl rfl)) (.inr rfl) (fin ea)).2 (by rw [e]; exact fun z => nomatch z)
      · refine if_f (decide_eq_false hs) ?_
        have ea : d.cutTo rows = d.come := by
          unfold Dk.cutTo
          rw [e]
          exact if_neg hs
        refine ⟨_, rfl, rfl, _, rfl, if_t (by rfl) ?_⟩
        have hk := k H1 lr b1 (.inl rfl)
        rw [ea] at hk
        exact (hk D1).2 (by rw [e]; exact fun z => nomatch z)
theorem sc_D_cut_tail : FnScope ["self", "many"] ["self", "many"] d_D_cut_tail.scope := ⟨rfl, rfl, rfl, by decide +kernel, rfl, by decide +kernel, by decide +kernel⟩
theorem ok_cut_tail (T : Tx K mg) (F : Fd K d_D_cut_tail fd) (M_cut_to : Md P w K mg base (L2.CX P w) 2 (DkC K) "cut_to" ["self", "rows"] (sp_cut_to K)) : FnOk P w K mg base (L2.CX P w) 3 (He.fAd K d_D_cut_tail.at_) fd ["self", "many"] (sp_cut_tail K) := by
  refine okX F sc_D_cut_tail (fun vs H Q E h => ?_) (fun cdv A outer s H vs Q E hr h => ?_)
  · obtain ⟨_, _, _, _, _, rfl, _⟩ := h
    rfl
  · obtain ⟨p, lr, lp, d, n, rfl, D, kx, k⟩ := h
    obtain ⟨dx, dv, h1, h2⟩ := D.ob
    refine ⟨_, (pss_one (ps_expr (pe_md M_cut_to (hr.mono (by decide)) (passes_call (takes_of rfl rfl rfl rfl) (fun _ _ _ _ h => h)) (pv 0) (pa_cons (pe_slice sl_list (pe_fld (pv 0) rfl) po_none (po_some (pv 1))) pa_nil)))), ?_⟩
    refine ⟨_, rfl, p, dx, _, rfl, h1, dfl_no (by decide +kernel) (by decide +kernel) (by decide +kernel) (by decide +kernel) (by decide +kernel), ?_⟩
    refine ⟨_, rfl, p, _, dx, _, _, rfl, h1, T.c_Disk, T.n_Disk_held_rows, dfl_rows, _, rfl, (n : Int), rfl, lr, _, rfl, SqL.of D.rw, fun q hq => ?_⟩
    have sq := Same.new (o := .lst (cutV (d.rows.map V.str) none (some (n : Int)))) hq
    have nq : q ≠ lp := fun e => by
      rw [e, D.pg] at hq
      cases hq
    refine ⟨p, lr, lp, d, q, d.rows.take n, rfl, D.same sq, ?_, nq, by rw [List.length_take]; exact Nat.le_trans (Nat.min_le_right _ _) D.few, fun hd => kx hd _ sq, fun hd H' lr' b1 hl D' => k hd H' lr' (sq.bt3.trans b1) ?_ D'⟩
    · rw [upd_same, cutV_to, List.map_take]
    · rcases hl with e | e
      · exact .inl e
      · exact .inr (by rw [e]; exact hq)
theorem sc_D_cut_head : FnScope ["self", "many"] ["self", "many"] d_D_cut_head.scope := ⟨rfl, rfl, rfl, by decide +kernel, rfl, by decide +kernel, by decide +kernel⟩
theorem ok_cut_head (T : Tx K mg) (F : Fd K d_D_cut_head fd) (M_cut_to : Md P w K mg base (L2.CX P w) 2 (DkC K) "cut_to" ["self", "rows"] (sp_cut_to K)) : FnOk P w K mg base (L2.CX P w) 3 (He.fAd K d_D_cut_head.at_) fd ["self", "many"] (sp_cut_head K) := by
  refine okX F sc_D_cut_head (fun vs H Q E h => ?_) (fun cdv A outer s H vs Q E hr h => ?_)
  · obtain ⟨_, _, _, _, _, rfl, _⟩ := h
    rfl
  · obtain ⟨p, lr, lp, d, n, rfl, D, kx, k⟩ := h
    obtain ⟨dx, dv, h1, h2⟩ := D.ob
    refine ⟨_, (pss_one (ps_expr (pe_md M_cut_to (hr.mono (by decide)) (passes_call (takes_of rfl rfl rfl rfl) (fun _ _ _ _ h => h)) (pv 0) (pa_cons (pe_slice sl_list (pe_fld (pv 0) rfl) (po_some (pv 1)) po_none) pa_nil)))), ?_⟩
    refine ⟨_, rfl, p, dx, _, rfl, h1, dfl_no (by decide +kernel) (by decide +kernel) (by decide +kernel) (by decide +kernel) (by decide +kernel), ?_⟩
    refine ⟨_, rfl, p, _, dx, _, _, rfl, h1, T.c_Disk, T.n_Disk_held_rows, dfl_rows, _, rfl, (n : Int), rfl, lr, _, rfl, SqL.of D.rw, fun q hq => ?_⟩
    have sq := Same.new (o := .lst (cutV (d.rows.map V.str) (some (n : Int)) none)) hq
    have nq : q ≠ lp := fun e => by
      rw [e, D.pg] at hq
      cases hq
    refine ⟨p, lr, lp, d, q, d.rows.drop n, rfl, D.same sq, ?_, nq, by rw [List.length_drop]; exact Nat.le_trans (Nat.sub_le _ _) D.few, fun hd => kx hd _ sq, fun hd H' lr' b1 hl D' => k hd H' lr' (sq.bt3.trans b1) ?_ D'⟩
    · rw [upd_same, cutV_from, List.map_drop]
    · rcases hl with e | e
      · exact .inl e
      · exact .inr (by rw [e]; exact hq)
end
end Fl

set_option Elab.async false
set_option linter.all false
set_option maxRecDepth 100000
set_option maxHeartbeats 1000000
/-! Pages. -/
namespace Fl
open PySem PySem.Spec PyProof.Rows L2
open TL (tl)
structure PgOk (cs : Cols) (g : Pg) : Prop where
  last : g.last ≤ 1000000000
  many : 0 ≤ g.many ∧ g.many ≤ 1000000000
  few : g.rows.length ≤ 60
  rows : ∀ r ∈ g.rows, RowOk cs r
  rise : g.rows.Pairwise rLt
section
variable {T : Tabs} {t : Str} {cs : Cols} {g : Pg}
theorem head_words (TO : TabsOk T) (ht : (t, cs) ∈ T) (G : PgOk cs g) : ∀ w ∈ [("page" : Str), t, iT g.last, iT g.many], Pl w ∧ w.length ≤ 11 := by
  intro w hw
  have hl := G.last
  have hm := G.many
  rcases List.mem_cons.mp hw with rfl | hw
  · exact ⟨pl_page, by decide +kernel⟩
  rcases List.mem_cons.mp hw with rfl | hw
  · exact ⟨(TO.nm _ ht).pl, Nat.le_trans (TO.nm _ ht).2.1 (by decide)⟩
  rcases List.mem_cons.mp hw with rfl | hw
  · exact ⟨pl_iT _, iT_len (by omega)⟩
  rcases List.mem_cons.mp hw with rfl | hw
  · exact ⟨pl_iT _, iT_len (by omega)⟩
  cases hw
theorem head_split (TO : TabsOk T) (ht : (t, cs) ∈ T) (G : PgOk cs g) : Txt.split (pageH t g) blank = [("page" : Str), t, iT g.last, iT g.many] := split_words (List.cons_ne_nil _ _) fun w hw => (head_words TO ht G w hw).1
theorem row_split2 {r : Row} (h : RowOk cs r) (hc : 1 ≤ cs.length) : Txt.split (rwT r) blank = r.map vT := by
  refine split_words ?_ fun w hw => (h.pl w hw).1
  have := paired_len h
  intro e
  have e2 := congrArg List.length e
  rw [List.length_map] at e2
  have e3 : r.length = 0 := e2
  omega
theorem row_len2 {r : Row} (h : RowOk cs r) (hc : cs.length ≤ 4) : (rwT r).length ≤ 48 := by
  have h1 := join_len (y := blank) (b := 11) fun w hw => (h.pl w hw).2
  have h2 := paired_len h
  have h3 : (blank).length = 1 := by decide +kernel
  unfold rwT
  rw [List.length_map, h3] at h1
  have : r.length * (11 + 1) ≤ 4 * 12 := Nat.mul_le_mul (by omega) (by decide)
  omega
theorem parts_ok (TO : TabsOk T) (ht : (t, cs) ∈ T) (G : PgOk cs g) : ∀ p ∈ pageH t g :: g.rows.map rwT, (∀ c ∈ tl p, c ≠ 59 ∧ c ≠ 124) ∧ p.length ≤ 48 := by
  intro p hp
  rcases List.mem_cons.mp hp with rfl | hp
  · refine ⟨words_59 fun w hw => (head_words TO ht G w hw).1, ?_⟩
    have h1 := join_len (y := blank) (b := 11) fun w hw => (head_words TO ht G w hw).2
    have h3 : (blank).length = 1 := by decide +kernel
    rw [h3] at h1
    exact h1
  · obtain ⟨r, hr, rfl⟩ := List.mem_map.mp hp
    exact ⟨words_59 fun w hw => ((G.rows r hr).pl w hw).1, row_len2 (G.rows r hr) (TO.cols _ ht).len.2⟩
theorem page_split (TO : TabsOk T) (ht : (t, cs) ∈ T) (G : PgOk cs g) : Txt.split (pageB t g) bar = pageH t g :: g.rows.map rwT :=
  split_bar (List.cons_ne_nil _ _) fun p hp hc => ((parts_ok TO ht G p hp).1 124 hc).2 rfl
theorem page_59 (TO : TabsOk T) (ht : (t, cs) ∈ T) (G : PgOk cs g) : ∀ c ∈ tl (pageB t g), c ≠ 59 := fun c hc => by
  rcases mem_join hc with hc | ⟨p, hp, hc⟩
  · rw [tl_bar] at hc
    intro e
    rw [e] at hc
    exact absurd hc (by decide)
  · exact ((parts_ok TO ht G p hp).1 c hc).1
theorem pageB_len (TO : TabsOk T) (ht : (t, cs) ∈ T) (G : PgOk cs g) : (pageB t g).length ≤ 3200 := by
  have h1 := join_len (y := bar) (b := 48) fun p hp => (parts_ok TO ht G p hp).2
  have h3 : (bar).length = 3 := by decide +kernel
  rw [h3, List.length_cons, List.length_map] at h1
  have := G.few
  have : (g.rows.length + 1) * (48 + 3) ≤ 61 * 51 := Nat.mul_le_mul (by omega) (by decide)
  unfold pageB
  omega
theorem pageT_len (TO : TabsOk T) (ht : (t, cs) ∈ T) (G : PgOk cs g) : (pageT t g).length ≤ 3201 := by
  have := pageB_len TO ht G
  unfold pageT
  rw [len_tl, TL.tl_append, tl_semi, List.length_append, ← len_tl]
  show _ + 1 ≤ 3201
  omega
end
/-- what stands in a slot -/
def SlotOk (t : Str) (cs : Cols) (pages : List Str) (i : Nat) (o : Option Pg) : Prop := ∃ z, pages[i]? = some z ∧ z.length ≤ 1000000 ∧ match o with
  | none => NoEnd z
  | some g => z = pageT t g ∧ PgOk cs g
/-- the newest of two pages, its slot -/
def newM (k : Nat) (o0 o1 : Option Pg) : Option Nat × Pg := match o0, o1 with
  | none, none => (none, ⟨0, 0, []⟩)
  | some g, none => (some (2 * k), g)
  | none, some g => (some (2 * k + 1), g)
  | some g, some h => if g.last < h.last then (some (2 * k + 1), h) else (some (2 * k), g)
def slotV : Option Nat → V
  | none => .non
  | some i => .int (i : Int)
def NewAt (H : Hp) (q : Addr) (x : Option Nat × Pg) : Prop := ∃ l, H q = some (.tup [slotV x.1, .int x.2.last, .int x.2.many, .ref l]) ∧ RowsAt H x.2.rows l
theorem NewAt.same {H H' : Hp} (k : Same H H') {q : Addr} {x : Option Nat × Pg} : NewAt H q x → NewAt H' q x := fun ⟨l, h, r⟩ => ⟨l, k _ _ h, r.same k⟩
def sp_page_text : Sp := fun vs H Q _ => ∃ T t cs g l, vs = [.str t, .int ((g : Pg).last : Int), .int g.many, .ref l] ∧ TabsOk T ∧ (t, cs) ∈ T ∧ PgOk cs g ∧ RowsAt H g.rows l ∧ ∀ H', Same H H' → Q (.str (pageT t g)) H'
def sp_count_from : Sp := fun vs H Q _ => ∃ n : Int, vs = [.str (iT n)] ∧ 0 ≤ n ∧ n ≤ 1000000000 ∧ Q (.int n) H
def sp_rows_in : Sp := fun vs H Q _ => ∃ a b cs rows xs, vs = [.ref a, .ref b] ∧ H a = some (.lst xs) ∧ Paired (ColAt H) cs xs ∧ (1 ≤ cs.length ∧ cs.length ≤ 4) ∧ H b = some (.lst ((rows : List Row).map fun r => .str (rwT r))) ∧ (∀ r ∈ rows, RowOk cs r) ∧ rows.Pairwise rLt ∧ rows.length ≤ 60 ∧
  ∀ H' p, Same H H' → H p = none → RowsAt H' rows p → Q (.ref p) H'
def sp_page_in (K : PySem.W.Frag) : Sp := fun vs H Q _ => ∃ s T z, vs = [.ref s, .str z] ∧ SchAt (ScC K) H s T ∧ z.length ≤ 1000000 ∧
  ((NoEnd z ∧ ∀ H', Same H H' → Q .non H') ∨ ∃ t cs g, z = pageT t g ∧ (t, cs) ∈ T ∧ PgOk cs g ∧ ∀ H' q l, Same H H' → H' q = some (.tup [.str t, .int (g.last : Int), .int g.many, .ref l]) → RowsAt H' g.rows l → Q (.ref q) H')
def sp_slots_of (K : PySem.W.Frag) : Sp := fun vs H Q _ => ∃ s T k t cs, vs = [.ref s, .str t] ∧ SchAt (ScC K) H s T ∧ T[k]? = some (t, cs) ∧ ∀ H' p, Same H H' → H' p = some (.tup [.int ((2 * k : Nat) : Int), .int ((2 * k + 1 : Nat) : Int)]) → Q (.ref p) H'
def sp_newest (K : PySem.W.Frag) : Sp := fun vs H Q _ => ∃ p lr lp d s T k t cs o0 o1, vs = [.ref p, .ref s, .str t] ∧ DiskAt (DkC K) H p lr lp d ∧ SchAt (ScC K) H s T ∧ T[k]? = some (t, cs) ∧ SlotOk t cs d.pages (2 * k) o0 ∧ SlotOk t cs d.pages (2 * k + 1) o1 ∧
  ∀ H' q, Same H H' → NewAt H' q (newM k o0 o1) → Q (.ref q) H'
section
variable {P : Program} {w : World} {K : PySem.W.Frag} {mg : Str → Option Value} {base : Heap} {fd : FuncData}
theorem sc_count_from : FnScope ["word", "number"] ["word"] d_count_from.scope := ⟨rfl, rfl, rfl, by decide +kernel, rfl, by decide +kernel, by decide +kernel⟩
theorem ok_count_from (T : Tx K mg) (F : Fd K d_count_from fd) (D_value_in : Df P w K mg base CX0 2 "value_in" ["kind", "text"] sp_value_in) : FnOk P w K mg base CX0 3 (He.fAd K d_count_from.at_) fd ["word"] sp_count_from := by
  refine ok0 F sc_count_from (fun vs H Q E h => ?_) (fun cdv A outer s H vs Q E hr h => ?_)
  · obtain ⟨z, rfl, _⟩ := h
    rfl
  · obtain ⟨n, rfl, h1, h2, k⟩ := h
    refine ⟨_, (pss_cons (ps_set (i := 1) sc_count_from.nd rfl (Or.inl rfl) (pe_df D_value_in (hr.mono (by decide)) pass0 (pa_cons pe_str (pa_cons (pv 0) pa_nil))))
    (pss_cons (ps_if (PW.pt (pw_or (pt_cmpR op_isN (pv 1) pe_non (nomark _)) (pw_or1 (pt_cmpR op_lt (pv 1) pe_int (nomark _))))) (pss_one (ps_ret pe_non)) pss_nil)
    (pss_one (ps_ret (pv 1))))), ?_⟩
    refine ⟨_, rfl, KNum, .int n, rfl, .inl ⟨rfl, n, rfl, by omega, by omega⟩, ?_⟩
    refine ⟨_, rfl, rfl, _, rfl, iteF ?_⟩
    refine ⟨_, rfl, _, _, rfl, rfl, _, rfl, if_f (decide_eq_false (by omega)) ?_⟩
    exact ⟨_, rfl, k⟩
theorem sc_page_text : FnScope ["table", "last", "many", "rows", "parts", "row", "value"] ["table", "last", "many", "rows"] d_page_text.scope := ⟨rfl, rfl, rfl, by decide +kernel, rfl, by decide +kernel, by decide +kernel⟩
theorem ok_page_text (T : Tx K mg) (F : Fd K d_page_text fd) (D_value_text : Df P w K mg base CX0 1 "value_text" ["value"] sp_value_text) : FnOk P w K mg base CX0 2 (He.fAd K d_page_text.at_) fd ["table", "last", "many", "rows"] sp_page_text := by
  refine ok0 F sc_page_text (fun vs H Q E h => ?_) (fun cdv A outer s H vs Q E hr h => ?_)
  · obtain ⟨_, _, _, _, _, rfl, _⟩ := h
    rfl
  · obtain ⟨Tb, t, cs, g, l, rfl, TO, ht, G, ⟨xs, hl, hp⟩, k⟩ := h
    refine ⟨_, (pss_cons (ps_set (i := 4) sc_page_text.nd rfl (Or.inl rfl) (pe_lst (pa_cons (pe_join pe_str (pe_lst (pa_cons pe_str (pa_cons (pv 0) (pa_cons (pe_callTy call_str_int (by rfl) T.f_str (by decide +kernel) (pa_cons (pv 1) pa_nil)) (pa_cons (pe_callTy call_str_int (by rfl) T.f_str (by decide +kernel) (pa_cons (pv 2) pa_nil)) pa_nil)))))) pa_nil)))
    (pss_cons (ps_for PassesOwn.never rfl (pi_list (pv 3)) (pg_name (i := 5) sc_page_text.nd rfl (Or.inl rfl)) (pss_one (ps_expr (pe_bm PySem.F.plainAttrs_list PySem.F.slot_list_append PySem.F.type_list_append mt_append (pv 4) (pa_cons (pe_join pe_str (pe_lc (own := [("value", 6)]) rfl sc_page_text.nd (pi_tup (pv 5)) (blkOk_by (N := ["table", "last", "many", "rows", "parts", "row", "value"]) (sc := d_page_text.scope) (by decide +kernel)) (fun _ _ _ _ _ => (pg_name (i := 6) sc_page_text.nd rfl (Or.inl rfl))) (fun _ _ _ _ _ => pts_nil) (fun _ _ _ _ _ => (pe_df D_value_text (hr.mono (by decide)) pass0 (pa_cons (pv 6) pa_nil))))) pa_nil)))))
    (pss_one (ps_ret (pe_op op_add_str (pe_join pe_str (pv 4)) pe_str))))), ?_⟩
    have hb1 : blank.length = 1 := by decide +kernel
    have hb3 : bar.length = 3 := by decide +kernel
    have hs1 : semi.length = 1 := by decide +kernel
    have gl := G.last
    have gm := G.many
    have l30 : (g.last : Int).natAbs.log2 < 1920 := Nat.lt_trans (PySem.Flt.log2_lt_of (k := 30) (by decide) (by omega)) (by decide)
    have m30 : g.many.natAbs.log2 < 1920 := Nat.lt_trans (PySem.Flt.log2_lt_of (k := 30) (by decide) (by omega)) (by decide)
    have small : ∀ {ws : List Str} {b n : Nat} (y : Str), (∀ w ∈ ws, w.length ≤ b) → ws.length ≤ n → n * (b + y.length) ≤ 16777216 → (ws.map (·.length)).sum + ws.length * y.length ≤ 16777216 := fun {ws b n} y h1 h2 h3 => by
      have a1 := sum_len h1
      have a2 : ws.length * (b + y.length) ≤ n * (b + y.length) := Nat.mul_le_mul_right _ h2
      rw [Nat.mul_add] at a2
      omega
    refine ⟨⟨_, rfl⟩, _, rfl, _, rfl, _, rfl, l30, _, rfl, _, rfl, m30, ?_⟩
    refine ⟨by show 4 ≤ sizeLine; decide, fun q hq => ?_⟩
    have sq := Same.new (o := .lst [V.str ("page" : Str), V.str t, V.str (iT g.last), V.str (iT g.many)]) hq
    refine ⟨blank, q, [("page" : Str), t, iT g.last, iT g.many], rfl, rfl, .inl (SqL.of upd_same), small (b := 11) (n := 4) blank (fun w hw => (head_words TO ht G w hw).2) (Nat.le_refl _) (by rw [hb1]; decide), (by show 1 ≤ sizeLine; decide), fun p hpn => ?_⟩
    have sp := sq.trans (Same.new (o := .lst [V.str (pageH t g)]) hpn)
    refine ⟨_, rfl, l, rfl, ⟨_, SqL.of (sp _ _ hl)⟩, for_it (walk_list (xs := xs)) (fun i σ H' => ∃ v, σ = [some (.str t), some (.int (g.last : Int)), some (.int g.many), some (.ref l), some (.ref p), v, none] ∧ Same H H' ∧ H' p = some (.lst ((pageH t g :: (g.rows.take i).map rwT).map V.str)))
      ⟨_, rfl, sp, upd_same⟩ (fun i σ H' _ ⟨_, _, e, _⟩ => e.seq (SqL.of hl)) ?_ ?_⟩
    · rintro i x σ H1 H2 hi ⟨v, rfl, s1, hp1⟩ ⟨rfl, hix⟩
      obtain ⟨r, hri, a, rfl, ha⟩ := paired_at2 hp hix
      have okr := G.rows r (List.mem_of_getElem? hri)
      have c4 := (TO.cols _ ht).len.2
      have lr : r.length ≤ 4 := by
        have := paired_len okr
        have h4 : cs.length ≤ 4 := c4
        omega
      have ha1 := s1 _ _ ha
      have hpn0 : H p = none := sq.free hpn
      refine ⟨_, rfl, .inl ⟨rfl, _, SqL.of hp1⟩, ⟨_, rfl⟩, _, rfl, a, rfl, ⟨_, SqT.of ha1⟩, fun D hD => lc_it (walk_tup (xs := r)) (fun j H' => Same H2 H' ∧ H' D = some (.lst ((r.take j).map fun v => .str (vT v)))) ⟨Same.new hD, upd_same⟩
        (fun j H' _ ⟨e, _⟩ => e.sqt (SqT.of ha1)) ?_ ?_⟩
      · rintro j y H3 H4 hj ⟨e1, hD1⟩ ⟨rfl, hy⟩
        obtain ⟨c, hc, okv⟩ := paired_at2 okr hy
        refine ⟨rfl, tyes ?_⟩
        refine ⟨_, rfl, c.2, y, rfl, okv, ?_⟩
        refine ⟨_, hD1, by rw [List.length_map, List.length_take]; exact Nat.lt_of_le_of_lt (Nat.min_le_right _ _) (small1000 (by omega)), ?_⟩
        refine ⟨Same.mut e1 hD, ?_⟩
        rw [take_snoc hy, List.map_append]
        exact upd_same
      · rintro H3 ⟨e1, hD1⟩
        rw [List.take_length] at hD1
        have hD2 : H3 D = some (.lst ((r.map vT).map V.str)) := by
          rw [List.map_map]
          exact hD1
        refine ⟨blank, D, r.map vT, rfl, rfl, .inl (SqL.of hD2), small (b := 11) (n := 4) blank (fun w hw => (okr.pl w hw).2) (by rw [List.length_map]; exact lr) (by rw [hb1]; decide), ?_⟩
        have hp3 := e1 _ _ hp1
        have few := G.few
        refine ⟨p, _, _, rfl, rfl, hp3, ?_, ?_⟩
        · rw [List.length_map, List.length_cons, List.length_map, List.length_take]
          exact small1000 (by omega)
        refine ⟨_, rfl, Same.mut (s1.trans e1) hpn0, ?_⟩
        rw [take_snoc hri, List.map_append, ← List.cons_append, List.map_append]
        exact upd_same
    · rintro σ H1 ⟨v, rfl, s1, hp1⟩
      rw [← paired_len hp, List.take_length] at hp1
      have few := G.few
      have bl := pageB_len TO ht G
      refine ⟨⟨_, rfl⟩, _, rfl, bar, p, pageH t g :: g.rows.map rwT, rfl, rfl, .inl (SqL.of hp1), small (b := 48) (n := 61) bar (fun w hw => (parts_ok TO ht G w hw).2) (by rw [List.length_cons, List.length_map]; omega) (by rw [hb3]; decide), ?_⟩
      refine ⟨_, _, rfl, rfl, ?_, k _ s1⟩
      show (pageB t g).length + semi.length ≤ sizeLine
      exact sl_small (by omega)
end
end Fl

set_option Elab.async false
set_option linter.all false
set_option maxRecDepth 100000
set_option maxHeartbeats 1000000
/-! Pages: read, the newest, written late. -/
namespace Fl
open PySem PySem.Spec PyProof.Rows L2
open TL (tl)
/-- one slot more is looked at -/
def nstep (c : Option Nat × Pg) (j : Nat) : Option Pg → Option Nat × Pg
  | none => c
  | some g => match c.1 with
    | none => (some j, g)
    | some _ => if c.2.last < g.last then (some j, g) else c
theorem newM_eq (k : Nat) (o0 o1 : Option Pg) : newM k o0 o1 = nstep (nstep (none, ⟨0, 0, []⟩) (2 * k) o0) (2 * k + 1) o1 := by
  cases o0 <;> cases o1 <;> rfl
/-- where a page is written -/
def tgtM (k : Nat) (o0 o1 : Option Pg) : Nat := if (newM k o0 o1).1 = some (2 * k) then 2 * k + 1 else 2 * k
theorem newM_slot (k : Nat) (o0 o1 : Option Pg) : (newM k o0 o1).1 = none ∨ (newM k o0 o1).1 = some (2 * k) ∨ (newM k o0 o1).1 = some (2 * k + 1) := by
  cases o0 <;> cases o1
  · exact .inl rfl
  · exact .inr (.inr rfl)
  · exact .inr (.inl rfl)
  · unfold newM
    simp only
    split
    · exact .inr (.inr rfl)
    · exact .inr (.inl rfl)
def sp_late_page (K : PySem.W.Frag) : Sp := fun vs H Q E => ∃ p lr lp d s T k t cs o0 o1 g l, vs = [.ref p, .ref s, .str t, .int ((g : Pg).last : Int), .int g.many, .ref l] ∧ DiskAt (DkC K) H p lr lp d ∧ SchAt (ScC K) H s T ∧ T[k]? = some (t, cs) ∧ SlotOk t cs d.pages (2 * k) o0 ∧ SlotOk t cs d.pages (2 * k + 1) o1 ∧
  PgOk cs g ∧ RowsAt H g.rows l ∧ (d.down = true → ∀ H', Same H H' → E (FlC K) none H') ∧
  (d.down = false → ∀ H', Bt3 p lr lp H H' → DiskAt (DkC K) H' p lr lp (d.putPage (tgtM k o0 o1) (pageT t g)) → (d.sig = none → Q .non H') ∧ (d.sig ≠ none → E (FlC K) none H'))
theorem row_head {cs : Cols} {r : Row} (h : RowOk cs r) (hc : 1 ≤ cs.length) : ∃ c cs' v rest, cs = c :: cs' ∧ r = v :: rest ∧ OkV c.2 v := by
  cases h with
  | nil => exact absurd hc (by decide)
  | cons q _ => exact ⟨_, _, _, _, rfl, rfl, q⟩
/-- the keys of two rows, compared -/
theorem key_lt {c : Col} {v v' : V} {rest rest' : Row} (h1 : OkV c.2 v) (h2 : OkV c.2 v') (h : rLt (v :: rest) (v' :: rest')) (H : Hp) (Q : VK) (q : Q (.bl true) H) :
    (fun x y H Q => (rI0 fun i j => V.bl (decide (i < j))) x y H Q ∨ (fun x y H Q => ∃ i j, x = V.str i ∧ y = V.str j ∧ Q (V.bl (decide (i.cps.toList < j.cps.toList))) H) x y H Q) v v' H Q := by
  rcases h1 with ⟨e1, i, rfl, _⟩ | ⟨e1, z, rfl, _⟩
  · rcases h2 with ⟨_, j, rfl, _⟩ | ⟨e2, _⟩
    · refine .inl ⟨i, j, rfl, rfl, ?_⟩
      have h' : i < j := h
      show Q (.bl (decide (i < j))) H
      rw [decide_eq_true h']
      exact q
    · exact absurd (e1.symm.trans e2) kind_ne
  · rcases h2 with ⟨e2, _⟩ | ⟨_, y, rfl, _⟩
    · exact absurd (e2.symm.trans e1) kind_ne
    · refine .inr ⟨z, y, rfl, rfl, ?_⟩
      have h' : z.cps.toList < y.cps.toList := h
      show Q (.bl (decide (z.cps.toList < y.cps.toList))) H
      rw [decide_eq_true h']
      exact q
section
variable {P : Program} {w : World} {K : PySem.W.Frag} {mg : Str → Option Value} {base : Heap} {fd : FuncData}
theorem sc_rows_in : FnScope ["columns", "parts", "rows", "part", "row"] ["columns", "parts"] d_rows_in.scope := ⟨rfl, rfl, rfl, by decide +kernel, rfl, by decide +kernel, by decide +kernel⟩
theorem ok_rows_in (T : Tx K mg) (F : Fd K d_rows_in fd) (D_values_in : Df P w K mg base CX0 3 "values_in" ["columns", "words"] sp_values_in) : FnOk P w K mg base CX0 4 (He.fAd K d_rows_in.at_) fd ["columns", "parts"] sp_rows_in := by
  refine ok0 F sc_rows_in (fun vs H Q E h => ?_) (fun cdv A outer s H vs Q E hr h => ?_)
  · obtain ⟨_, _, _, _, _, rfl, _⟩ := h
    rfl
  · obtain ⟨a, b, cs, rows, xs, rfl, ha, hp, hc, hb, ok, rise, few, k⟩ := h
    refine ⟨_, (pss_cons (ps_set (i := 2) sc_rows_in.nd rfl (Or.inl rfl) (pe_lst pa_nil))
    (pss_cons (ps_for PassesOwn.never rfl (pi_list (pv 1)) (pg_name (i := 3) sc_rows_in.nd rfl (Or.inl rfl)) (pss_cons (ps_set (i := 4) sc_rows_in.nd rfl (Or.inl rfl) (pe_df D_values_in (hr.mono (by decide)) pass0 (pa_cons (pv 0) (pa_cons (pe_split (pv 3) pe_str) pa_nil))))
    (pss_cons (ps_if (PW.pt (pw_or (pt_cmpR op_isN (pv 4) pe_non (nomark _)) (pw_or1 (PW.pt (pw_and (pt_cmpR (op_neNil hr.units) (pv 2) (pe_lst pa_nil) (nomark _)) (pw_and1 (pt_not (pt_cmpR (OpR.or op_lt op_lt_str) (pe_ix ix_tup (pe_ix ix_list (pv 2) (pe_un un_neg pe_int) (fun _ _ => rfl)) pe_int (fun _ _ => rfl)) (pe_ix ix_tup (pv 4) pe_int (fun _ _ => rfl)) (nomark _))))))))) (pss_one (ps_ret pe_non)) pss_nil)
    (pss_one (ps_expr (pe_bm PySem.F.plainAttrs_list PySem.F.slot_list_append PySem.F.type_list_append mt_append (pv 2) (pa_cons (pv 4) pa_nil)))))))
    (pss_one (ps_ret (pv 2))))), ?_⟩
    refine ⟨Nat.zero_le _, fun p hpn => ?_⟩
    have s0 := Same.new (o := .lst []) hpn
    refine ⟨_, rfl, b, rfl, ⟨_, SqL.of (s0 _ _ hb)⟩, for_it (walk_list (xs := rows.map fun r => V.str (rwT r))) (fun i σ H' => ∃ u v, σ = [some (.ref a), some (.ref b), some (.ref p), u, v] ∧ Same H H' ∧ RowsAt H' (rows.take i) p)
      ⟨_, _, rfl, s0, [], upd_same, .nil⟩ (fun i σ H' _ ⟨_, _, _, e, _⟩ => e.seq (SqL.of hb)) ?_ ?_⟩
    · rintro i x σ H1 H2 hi ⟨u, v, rfl, s1, ys, hy, hpy⟩ ⟨rfl, hix⟩
      rw [List.getElem?_map] at hix
      have hir : i < rows.length := by
        rw [List.length_map] at hi
        exact hi
      obtain ⟨r, hr0⟩ : ∃ r, rows[i]? = some r := ⟨_, List.getElem?_eq_getElem hir⟩
      rw [hr0] at hix
      obtain rfl := Option.some.inj hix
      have okr := ok r (List.mem_of_getElem? hr0)
      obtain ⟨c, cs', v0, rest, ec, rfl, okv⟩ := row_head okr hc.1
      have ly : ys.length = i := by
        have := paired_len hpy
        rw [List.length_take] at this
        omega
      refine ⟨_, rfl, _, rfl, ⟨_, rfl⟩, _, blank, rfl, rfl, by decide +kernel, ?_, fun q hq => ?_⟩
      · have := row_len2 okr hc.2
        exact sl_small (by omega)
      have sq := s1.trans (Same.new (o := .lst ((Txt.split (rwT (v0 :: rest)) blank).map V.str)) hq)
      refine ⟨a, q, cs, v0 :: rest, xs, rfl, okr, hc.2, sq _ _ ha, paired_imp hp fun _ _ => ColAt.ts sq.ts, ?_, fun H3 rr s3 nrr hrr => ?_⟩
      · rw [upd_same, row_split2 okr hc.1, List.map_map]
        rfl
      have s13 : Same H2 H3 := (Same.new hq).trans s3
      have hy3 := s13 _ _ hy
      refine ⟨_, rfl, rfl, _, rfl, iteF ?_⟩
      have app : ∀ H4, Same H3 H4 → (tDrop (tBM K "list" rAppend (tVar 2) (tCons (tVar 4) tNil)) : L2.TS) { nx := fun σ' H' => ∃ u v, σ' = [some (.ref a), some (.ref b), some (.ref p), u, v] ∧ Same H H' ∧ RowsAt H' (rows.take (i + 1)) p, rt := Q }
          [some (.ref a), some (.ref b), some (.ref p), some (.str (rwT (v0 :: rest))), some (.ref rr)] H4 := fun H4 s4 => by
        refine ⟨_, rfl, .inl ⟨rfl, _, SqL.of (s4 _ _ hy3)⟩, _, rfl, p, ys, .ref rr, rfl, rfl, s4 _ _ hy3, Nat.lt_of_le_of_lt (by rw [ly]; omega) (show 60 < sizeLine by decide), ?_⟩
        have s5 : TS H4 (upd H4 p (.lst (ys ++ [.ref rr]))) := fun e zs he => by
          rw [upd_ne (ne_of he (s4 _ _ hy3) (by intro z; cases z))]
          exact he
        refine ⟨_, _, rfl, Same.mut ((s1.trans s13).trans s4) hpn, ys ++ [.ref rr], upd_same, ?_⟩
        rw [take_snoc hr0]
        exact paired_snoc (paired_imp hpy fun _ _ g => ((g.ts s13.ts).ts s4.ts).ts s5) ⟨rr, rfl, s5 _ _ (s4 _ _ hrr)⟩
      refine ⟨_, rfl, Nat.zero_le _, fun e he => ?_⟩
      have s6 := Same.new (o := .lst []) he
      refine ⟨p, e, ys, rfl, rfl, SqL.of (s6 _ _ hy3), SqL.of upd_same, _, rfl, ?_⟩
      refine ite_of (fun hne => ?_) (fun _ => iteF ?_)
      have hpos : 0 < i := by
        cases ys with
        | nil => cases hne
        | cons z zs => rw [← ly, List.length_cons]; omega
      obtain ⟨j, rfl⟩ : ∃ j, i = j + 1 := ⟨i - 1, by omega⟩
      obtain ⟨r', hr'⟩ : ∃ r', rows[j]? = some r' := ⟨_, List.getElem?_eq_getElem (by omega)⟩
      have okr' := ok r' (List.mem_of_getElem? hr')
      obtain ⟨c', cs'', v1, rest', ec', rfl, okv'⟩ := row_head okr' hc.1
      rw [ec] at ec'
      obtain ⟨rfl, rfl⟩ := List.cons.inj ec'
      have hej : (rows.take (j + 1))[j]? = some (v1 :: rest') := by
        rw [List.getElem?_take, if_pos (Nat.lt_succ_self j)]
        exact hr'
      obtain ⟨y', hy', a', rfl, ha'⟩ := paired_at hpy hej
      have sx := s13.trans s6
      refine ⟨_, rfl, _, rfl, p, ys, -1, _, rfl, rfl, SqL.of (s6 _ _ hy3), atI_end ly hy', a', _, 0, _, rfl, rfl, SqT.of (sx _ _ ha'), at0, _, rfl, rr, _, 0, _, rfl, rfl, SqT.of (s6 _ _ hrr), at0, ?_⟩
      have lt : rLt (v1 :: rest') (v0 :: rest) := by
        obtain ⟨h1, e1⟩ := List.getElem?_eq_some_iff.mp hr'
        obtain ⟨h2, e2⟩ := List.getElem?_eq_some_iff.mp hr0
        rw [← e1, ← e2]
        exact List.pairwise_iff_getElem.mp rise j (j + 1) h1 h2 (Nat.lt_succ_self j)
      refine key_lt okv' okv lt _ _ ⟨_, rfl, iteF ?_⟩
      all_goals exact app _ s6
    · rintro σ H1 ⟨u, v, rfl, s1, he⟩
      rw [List.length_map, List.take_length] at he
      exact ⟨_, rfl, k _ p s1 hpn he⟩
theorem sc_page_in : FnScope ["schema", "text", "parts", "words", "last", "many", "rows"] ["schema", "text"] d_page_in.scope := ⟨rfl, rfl, rfl, by decide +kernel, rfl, by decide +kernel, by decide +kernel⟩
theorem ok_page_in (T : Tx K mg) (F : Fd K d_page_in fd) (D_count_from : Df P w K mg base CX0 3 "count_from" ["word"] sp_count_from) (D_rows_in : Df P w K mg base CX0 4 "rows_in" ["columns", "parts"] sp_rows_in)
    (M_table_names : Md P w K mg base CX0 1 (ScC K) "table_names" ["self"] (sp_table_names K)) (M_columns_of : Md P w K mg base CX0 3 (ScC K) "columns_of" ["self", "table"] (sp_columns_of K)) :
    FnOk P w K mg base CX0 5 (He.fAd K d_page_in.at_) fd ["schema", "text"] (sp_page_in K) := by
  obtain ⟨t1, e_MOST_ROWS⟩ := T.i_MOST_ROWS
  refine ok0 F sc_page_in (fun vs H Q E h => ?_) (fun cdv A outer s H vs Q E hr h => ?_)
  · obtain ⟨_, _, _, rfl, _⟩ := h
    rfl
  · obtain ⟨s, Tb, z, rfl, S, hz, k⟩ := h
    have hzs : z.length ≤ sizeLine := sl_small hz
    obtain ⟨dx, dc, ko, kvs, h1, h2, h3⟩ := S.at_
    refine ⟨_, (pss_cons (ps_if (PW.pt (pw_or (pt_not (pt_val (pe_callB call_isi (by rfl) T.f_isinstance (by decide +kernel) (pa_cons (pv 1) (pa_cons (pe_bltn (v := .ty "str") (by rfl) T.f_str (by decide +kernel) rfl) pa_nil))))) (pw_or1 (pt_cmpR op_ne (pe_slice sl_str (pv 1) (po_some (pe_un un_neg pe_int)) po_none) pe_str (nomark _))))) (pss_one (ps_ret pe_non)) pss_nil)
    (pss_cons (ps_set (i := 2) sc_page_in.nd rfl (Or.inl rfl) (pe_split (pe_slice sl_str (pv 1) po_none (po_some (pe_un un_neg pe_int))) pe_str))
    (pss_cons (ps_set (i := 3) sc_page_in.nd rfl (Or.inl rfl) (pe_split (pe_ix ix_list (pv 2) pe_int (fun _ _ => rfl)) pe_str))
    (pss_cons (ps_if (PW.pt (pw_or (pt_cmpR op_ne (pe_callB call_len_seq (by rfl) T.f_len PySem.boot_len (pa_cons (pv 3) pa_nil)) pe_int (nomark _)) (pw_or (pt_cmpR op_ne (pe_ix ix_list (pv 3) pe_int (fun _ _ => rfl)) pe_str (nomark _)) (pw_or (pt_cmpR op_notIn_seq (pe_ix ix_list (pv 3) pe_int (fun _ _ => rfl)) (pe_md0 M_table_names (hr.mono (by decide)) pass0 (pv 0)) (by rfl)) (pw_or1 (pt_cmpR op_gt (pe_callB call_len_seq (by rfl) T.f_len PySem.boot_len (pa_cons (pv 2) pa_nil)) (pe_op op_add (pe_glob (v := V.int 60) rfl e_MOST_ROWS ⟨_, rfl⟩) pe_int) (nomark _))))))) (pss_one (ps_ret pe_non)) pss_nil)
    (pss_cons (ps_set (i := 4) sc_page_in.nd rfl (Or.inl rfl) (pe_df D_count_from (hr.mono (by decide)) pass0 (pa_cons (pe_ix ix_list (pv 3) pe_int (fun _ _ => rfl)) pa_nil)))
    (pss_cons (ps_set (i := 5) sc_page_in.nd rfl (Or.inl rfl) (pe_df D_count_from (hr.mono (by decide)) pass0 (pa_cons (pe_ix ix_list (pv 3) pe_int (fun _ _ => rfl)) pa_nil)))
    (pss_cons (ps_set (i := 6) sc_page_in.nd rfl (Or.inl rfl) (pe_df D_rows_in (hr.mono (by decide)) pass0 (pa_cons (pe_md M_columns_of (hr.mono (by decide)) pass0 (pv 0) (pa_cons (pe_ix ix_list (pv 3) pe_int (fun _ _ => rfl)) pa_nil)) (pa_cons (pe_slice sl_list (pv 2) (po_some pe_int) po_none) pa_nil))))
    (pss_cons (ps_if (PW.pt (pw_or (pt_cmpR op_isN (pv 4) pe_non (nomark _)) (pw_or (pt_cmpR op_isN (pv 5) pe_non (nomark _)) (pw_or1 (pt_cmpR op_isN (pv 6) pe_non (nomark _)))))) (pss_one (ps_ret pe_non)) pss_nil)
    (pss_one (ps_ret (pe_tup (pa_cons (pe_ix ix_list (pv 3) pe_int (fun _ _ => rfl)) (pa_cons (pv 4) (pa_cons (pv 5) (pa_cons (pv 6) pa_nil))))))))))))))), ?_⟩
    refine ⟨_, rfl, _, _, _, _, true, rfl, .ty _, .base (.str _), kit_ty (by decide +kernel), _, rfl, iteF ?_⟩
    refine ⟨_, rfl, _, rfl, _, rfl, z, rfl, hzs, rfl, _, rfl, ?_⟩
    rcases k with ⟨ne, k⟩ | ⟨t, cs, g, rfl, ht, G, k⟩
    · exact if_t (ne_t fun e => ne.ne (V.str.inj e)) (k _ (Same.refl H))
    · refine if_f (ne_f (congrArg V.str (ends_semi (pageB t g)))) ?_
      have e2 : cutS (pageT t g) none (some (-1)) = pageB t g := cut_semi (pageB t g)
      have few := G.few
      have lc := (S.ok.cols _ ht).len
      have gl := G.last
      refine ⟨_, rfl, _, rfl, _, rfl, pageT t g, rfl, hzs, ⟨_, rfl⟩, _, bar, rfl, rfl, by decide +kernel, ?_, fun p hp => ?_⟩
      · show (cutS (pageT t g) none (some (-1))).length + 2 ≤ sizeLine
        rw [e2]
        have := pageB_len S.ok ht G
        exact sl_small (by omega)
      have e3 : Txt.split (cutS (pageT t g) none (some (-1))) bar = pageH t g :: g.rows.map rwT := by
        rw [e2]
        exact page_split S.ok ht G
      have s1 := Same.new (o := .lst ((Txt.split (cutS (pageT t g) none (some (-1))) bar).map V.str)) hp
      have hp1 : (upd H p (.lst ((Txt.split (cutS (pageT t g) none (some (-1))) bar).map V.str))) p = some (.lst (V.str (pageH t g) :: g.rows.map fun r => V.str (rwT r))) := by
        rw [upd_same, e3, List.map_cons, List.map_map]
        rfl
      refine ⟨_, rfl, p, _, 0, _, rfl, rfl, SqL.of hp1, at0, ⟨_, rfl⟩, _, blank, rfl, rfl, by decide +kernel, ?_, fun q hq => ?_⟩
      · have := (parts_ok S.ok ht G _ List.mem_cons_self).2
        exact sl_small (by omega)
      have npq : p ≠ q := ne_of_none hp1 hq
      have s2 := s1.trans (Same.new (o := .lst ((Txt.split (pageH t g) blank).map V.str)) hq)
      have hq1 : upd (upd H p (.lst ((Txt.split (cutS (pageT t g) none (some (-1))) bar).map V.str))) q (.lst ((Txt.split (pageH t g) blank).map V.str)) q = some (.lst [V.str ("page" : Str), V.str t, V.str (iT g.last), V.str (iT g.many)]) := by
        rw [upd_same, head_split S.ok ht G]
        rfl
      have hp2 := (Same.new (o := .lst ((Txt.split (pageH t g) blank).map V.str)) hq) _ _ hp1
      refine ⟨_, rfl, q, _, rfl, .inl (SqL.of hq1), rfl, _, rfl, iteF ?_⟩
      refine ⟨_, rfl, q, _, 0, _, rfl, rfl, SqL.of hq1, at0, rfl, _, rfl, if_f (by decide +kernel) ?_⟩
      refine ⟨_, rfl, q, _, 1, _, rfl, rfl, SqL.of hq1, at1, _, rfl, s, dx, _, rfl, s2 _ _ h1, rfl, s, Tb, rfl, S.same s2, fun e he => ?_⟩
      have s3' := Same.new (o := .lst (Tb.map fun t => V.str t.1)) he
      have s3 := s2.trans s3'
      refine ⟨e, _, rfl, .inl (SqL.of upd_same), rfl, str_flat _ _, _, rfl, if_f ?_ ?_⟩
      · show (!inV (.str t) (Tb.map fun t => V.str t.1)) = false
        rw [tab_in ht]
        rfl
      refine ⟨_, rfl, p, _, rfl, .inl (SqL.of (s3' _ _ hp2)), _, _, rfl, rfl, _, _, rfl, rfl, _, rfl, if_f (decide_eq_false ?_) ?_⟩
      · rw [List.length_cons, List.length_map]
        show ¬ (60 + 1 : Int) < ((g.rows.length + 1 : Nat) : Int)
        omega
      refine ⟨_, rfl, q, _, 2, _, rfl, rfl, SqL.of (s3' _ _ hq1), rfl, (g.last : Int), rfl, by omega, by omega, ?_⟩
      refine ⟨_, rfl, q, _, 3, _, rfl, rfl, SqL.of (s3' _ _ hq1), rfl, g.many, rfl, G.many.1, G.many.2, ?_⟩
      refine ⟨_, rfl, s, dx, _, rfl, s3 _ _ h1, rfl, _, rfl, q, _, 1, _, rfl, rfl, SqL.of (s3' _ _ hq1), at1, s, Tb, t, cs, rfl, S.same s3, ht, fun c xs hc hcp => ?_⟩
      have s4' := Same.new (o := .lst xs) hc
      have s4 := s3.trans s4'
      refine ⟨_, rfl, _, rfl, p, _, rfl, SqL.of (s4' _ _ (s3' _ _ hp2)), fun d hd => ?_⟩
      have s5' := Same.new (o := .lst (cutV (V.str (pageH t g) :: g.rows.map fun r => V.str (rwT r)) (some ((1 : Nat) : Int)) none)) hd
      have s5 := s4.trans s5'
      have ncd : c ≠ d := ne_of_none upd_same hd
      refine ⟨c, d, cs, g.rows, xs, rfl, (by rw [upd_ne ncd]; exact upd_same), paired_imp hcp fun _ _ => ColAt.ts (s4'.trans s5').ts, lc, ?_, G.rows, G.rise, few, fun H' l s6 nl hl => ?_⟩
      · refine Eq.trans upd_same ?_
        exact congrArg (fun l => some (HO.lst l)) (cutV_from _ 1)
      refine ⟨_, rfl, rfl, _, rfl, iteF ?_⟩
      refine ⟨_, rfl, rfl, _, rfl, iteF ?_⟩
      refine ⟨_, rfl, rfl, _, rfl, iteF ?_⟩
      refine ⟨_, rfl, q, _, 1, _, rfl, rfl, SqL.of (s6 _ _ (s5' _ _ (s4' _ _ (s3' _ _ hq1)))), at1, _, rfl, _, rfl, _, rfl, (by show 4 ≤ sizeLine; decide), fun r hr => ?_⟩
      exact k _ r l ((s5.trans s6).trans (Same.new hr)) upd_same (hl.same (Same.new hr))
end
end Fl

set_option Elab.async false
set_option linter.all false
set_option maxRecDepth 100000
set_option maxHeartbeats 1000000
/-! Pages: the slots, the newest, written late. -/
namespace Fl
open PySem PySem.Spec PyProof.Rows L2
open TL (tl)
/-- what is known behind i slots -/
def nst (j : Nat) (o0 o1 : Option Pg) : Nat → Option Nat × Pg
  | 0 => (none, ⟨0, 0, []⟩)
  | 1 => nstep (none, ⟨0, 0, []⟩) (2 * j) o0
  | _ + 2 => nstep (nstep (none, ⟨0, 0, []⟩) (2 * j) o0) (2 * j + 1) o1
theorem tab_nd {T : Tabs} (TO : TabsOk T) {k m : Nat} {a b : Str × Cols} (h1 : T[k]? = some a) (h2 : T[m]? = some b) (e : a.1 = b.1) : k = m := by
  refine nd_ix TO.nd (x := a.1) ?_ ?_
  · rw [List.getElem?_map, h1]
    rfl
  · rw [List.getElem?_map, h2, e]
    rfl
theorem slotV_eq (o : Option Nat) (j : Nat) : decide (slotV o = V.int (j : Int)) = decide (o = some j) := by
  cases o with
  | none => rfl
  | some i =>
    by_cases h : i = j
    · subst h
      rw [decide_eq_true (show slotV (some i) = V.int (i : Int) from rfl), decide_eq_true rfl]
    · rw [decide_eq_false fun e => h (by have := V.int.inj e; omega), decide_eq_false fun e => h (Option.some.inj e)]
theorem slotV_non (o : Option Nat) : decide (slotV o = V.non) = decide (o = none) := by
  cases o with
  | none => rfl
  | some i => rfl
section
variable {P : Program} {w : World} {K : PySem.W.Frag} {mg : Str → Option Value} {base : Heap} {fd : FuncData}
theorem sc_slots_of : FnScope ["schema", "table", "place"] ["schema", "table"] d_slots_of.scope := ⟨rfl, rfl, rfl, by decide +kernel, rfl, by decide +kernel, by decide +kernel⟩
theorem ok_slots_of (T : Tx K mg) (F : Fd K d_slots_of fd) (M_need_table : Md P w K mg base CX0 2 (ScC K) "need_table" ["self", "table"] (sp_need_table K)) (M_table_names : Md P w K mg base CX0 1 (ScC K) "table_names" ["self"] (sp_table_names K)) :
    FnOk P w K mg base CX0 3 (He.fAd K d_slots_of.at_) fd ["schema", "table"] (sp_slots_of K) := by
  refine ok0 F sc_slots_of (fun vs H Q E h => ?_) (fun cdv A outer s H vs Q E hr h => ?_)
  · obtain ⟨_, _, _, _, _, rfl, _⟩ := h
    rfl
  · obtain ⟨s, Tb, j, t, cs, rfl, S, ht, k⟩ := h
    obtain ⟨dx, dc, ko, kvs, h1, h2, h3⟩ := S.at_
    refine ⟨_, (pss_cons (ps_expr (pe_md M_need_table (hr.mono (by decide)) pass0 (pv 0) (pa_cons (pv 1) pa_nil)))
    (pss_cons (ps_set (i := 2) sc_slots_of.nd rfl (Or.inl rfl) (pe_bm PySem.F.plainAttrs_list PySem.F.slot_list_index PySem.F.type_list_index mt_index (pe_md0 M_table_names (hr.mono (by decide)) pass0 (pv 0)) (pa_cons (pv 1) pa_nil)))
    (pss_one (ps_ret (pe_tup (pa_cons (pe_op op_mul pe_int (pv 2)) (pa_cons (pe_op op_add (pe_op op_mul pe_int (pv 2)) pe_int) pa_nil))))))), ?_⟩
    refine ⟨_, rfl, s, dx, _, rfl, h1, rfl, _, rfl, s, Tb, t, cs, rfl, S, List.mem_of_getElem? ht, ?_⟩
    refine ⟨_, rfl, s, dx, _, rfl, h1, rfl, s, Tb, rfl, S, fun q hq => ⟨.inl ⟨rfl, _, SqL.of upd_same⟩, _, rfl, q, _, .str t, j, .str t, rfl, rfl, SqL.of upd_same, rfl, str_flat _ _, ?_, beq_self_eq_true t, ?_, ?_⟩⟩
    · rw [List.getElem?_map, ht]
      rfl
    · intro m z hm hz
      rw [List.getElem?_map] at hz
      cases e : Tb[m]? with
      | none =>
        rw [e] at hz
        cases hz
      | some x =>
        rw [e] at hz
        obtain rfl := Option.some.inj hz
        show (x.1 == t) = false
        refine beq_eq_false_iff_ne.mpr fun e2 => ?_
        have := tab_nd S.ok e ht e2
        omega
    refine ⟨_, rfl, _, _, rfl, rfl, .inl ⟨by decide, by decide⟩, _, rfl, _, _, rfl, rfl, .inl ⟨by decide, by decide⟩, _, _, rfl, rfl, two_small, fun p hp => ?_⟩
    refine k _ p ((Same.new hq).trans (Same.new hp)) ?_
    rw [upd_same]
    have e1 : ((2 * j : Nat) : Int) = 2 * (j : Int) := by omega
    have e2 : ((2 * j + 1 : Nat) : Int) = 2 * (j : Int) + 1 := by omega
    rw [e1, e2]
theorem sc_newest : FnScope ["disk", "schema", "table", "found", "slot", "told"] ["disk", "schema", "table"] d_newest.scope := ⟨rfl, rfl, rfl, by decide +kernel, rfl, by decide +kernel, by decide +kernel⟩
theorem ok_newest (T : Tx K mg) (F : Fd K d_newest fd) (D_slots_of : Df P w K mg base CX0 3 "slots_of" ["schema", "table"] (sp_slots_of K)) (D_page_in : Df P w K mg base CX0 5 "page_in" ["schema", "text"] (sp_page_in K))
    (M_page : Md P w K mg base CX0 1 (DkC K) "page" ["self", "slot"] (sp_page K)) : FnOk P w K mg base CX0 6 (He.fAd K d_newest.at_) fd ["disk", "schema", "table"] (sp_newest K) := by
  refine ok0 F sc_newest (fun vs H Q E h => ?_) (fun cdv A outer s H vs Q E hr h => ?_)
  · obtain ⟨_, _, _, _, _, _, _, _, _, _, _, rfl, _⟩ := h
    rfl
  · obtain ⟨p, lr, lp, d, s, Tb, j, t, cs, o0, o1, rfl, D, S, ht, S0, S1, k⟩ := h
    refine ⟨_, (pss_cons (ps_set (i := 3) sc_newest.nd rfl (Or.inl rfl) (pe_tup (pa_cons pe_non (pa_cons pe_int (pa_cons pe_int (pa_cons (pe_lst pa_nil) pa_nil))))))
    (pss_cons (ps_for PassesOwn.never rfl (pi_tup (pe_df D_slots_of (hr.mono (by decide)) pass0 (pa_cons (pv 1) (pa_cons (pv 2) pa_nil)))) (pg_name (i := 4) sc_newest.nd rfl (Or.inl rfl)) (pss_cons (ps_set (i := 5) sc_newest.nd rfl (Or.inl rfl) (pe_df D_page_in (hr.mono (by decide)) pass0 (pa_cons (pv 1) (pa_cons (pe_md M_page (hr.mono (by decide)) pass0 (pv 0) (pa_cons (pv 4) pa_nil)) pa_nil))))
    (pss_one (ps_if (PW.pt (pw_and (pt_cmpR op_notN (pv 5) pe_non (nomark _)) (pw_and (pt_cmpR op_eq (pe_ix ix_tup (pv 5) pe_int (fun _ _ => rfl)) (pv 2) (nomark _)) (pw_and1 (PW.pt (pw_or (pt_cmpR op_isN (pe_ix ix_tup (pv 3) pe_int (fun _ _ => rfl)) pe_non (nomark _)) (pw_or1 (pt_cmpR op_gt (pe_ix ix_tup (pv 5) pe_int (fun _ _ => rfl)) (pe_ix ix_tup (pv 3) pe_int (fun _ _ => rfl)) (nomark _))))))))) (pss_one (ps_set (i := 3) sc_newest.nd rfl (Or.inl rfl) (pe_tup (pa_cons (pv 4) (pa_cons (pe_ix ix_tup (pv 5) pe_int (fun _ _ => rfl)) (pa_cons (pe_ix ix_tup (pv 5) pe_int (fun _ _ => rfl)) (pa_cons (pe_ix ix_tup (pv 5) pe_int (fun _ _ => rfl)) pa_nil))))))) pss_nil))))
    (pss_one (ps_ret (pv 3))))), ?_⟩
    obtain ⟨dx, dv, hd1, _⟩ := D.ob
    refine ⟨Nat.zero_le _, fun l hl => ⟨by show 4 ≤ sizeLine; decide, fun f hf => ?_⟩⟩
    have sl := Same.new (o := .lst []) hl
    have s0 := sl.trans (Same.new (o := .tup [V.non, V.int 0, V.int 0, V.ref l]) hf)
    have nlf : l ≠ f := ne_of_none upd_same hf
    have N0 : NewAt (upd (upd H l (.lst [])) f (.tup [V.non, V.int 0, V.int 0, V.ref l])) f (none, ⟨0, 0, []⟩) := ⟨l, upd_same, [], by rw [upd_ne nlf]; exact upd_same, .nil⟩
    refine ⟨_, rfl, _, rfl, s, Tb, j, t, cs, rfl, S.same s0, ht, fun H1 q s1 hq => ?_⟩
    have s01 := s0.trans s1
    refine ⟨q, rfl, ⟨_, SqT.of hq⟩, for_it (walk_tup (xs := [V.int ((2 * j : Nat) : Int), V.int ((2 * j + 1 : Nat) : Int)])) (fun i σ H' => ∃ f u v, σ = [some (.ref p), some (.ref s), some (.str t), some (.ref f), u, v] ∧ Same H1 H' ∧
      NewAt H' f (nst j o0 o1 i))
      ⟨f, _, _, rfl, Same.refl _, N0.same s1⟩ (fun i σ H' _ ⟨_, _, _, _, e, _⟩ => e.sqt (SqT.of hq)) ?_ ?_⟩
    · rintro i x σ H2 H3 hi ⟨f, u, v, rfl, s2, N⟩ ⟨rfl, hix⟩
      -- the slot, what stands there, what is known so far
      obtain ⟨m, o, c, hx, hS, hN, goal⟩ : ∃ (m : Nat) (o : Option Pg) (c : Option Nat × Pg), x = .int (m : Int) ∧ SlotOk t cs d.pages m o ∧ NewAt H3 f c ∧ ∀ (f' : Addr) (u' v' : Option V) (H' : Hp), Same H1 H' → NewAt H' f' (nstep c m o) →
          ∃ f u v, [some (V.ref p), some (V.ref s), some (V.str t), some (V.ref f'), u', v'] = [some (.ref p), some (.ref s), some (.str t), some (.ref f), u, v] ∧ Same H1 H' ∧
            NewAt H' f (nst j o0 o1 (i + 1)) := by
        match i, hi, hix, N with
        | 0, _, hix, N => exact ⟨2 * j, o0, _, (Option.some.inj hix).symm, S0, N, fun f' u v H' e n => ⟨f', u, v, rfl, e, n⟩⟩
        | 1, _, hix, N => exact ⟨2 * j + 1, o1, _, (Option.some.inj hix).symm, S1, N, fun f' u v H' e n => ⟨f', u, v, rfl, e, n⟩⟩
        | n + 2, hi, _, _ => exact absurd hi (by show ¬ n + 2 < 2; omega)
      subst hx
      have s02 := s01.trans s2
      obtain ⟨z, hz, hzl, ho⟩ := hS
      refine ⟨_, rfl, _, rfl, p, dx, _, rfl, s02 _ _ hd1, dfl_no (by decide +kernel) (by decide +kernel) (by decide +kernel) (by decide +kernel) (by decide +kernel), _, rfl, p, lr, lp, d, m, z, rfl, D.same s02, hz, s, Tb, z, rfl, S.same s02, hzl, ?_⟩
      cases o with
      | none =>
        refine .inl ⟨ho, fun H4 s3 => ?_⟩
        refine ⟨_, rfl, rfl, _, rfl, iteF (iteF ?_)⟩
        exact goal f (some (.int (m : Int))) (some .non) H4 (s2.trans s3) (hN.same s3)
      | some g =>
        obtain ⟨rfl, G⟩ := ho
        refine .inr ⟨t, cs, g, rfl, List.mem_of_getElem? ht, G, fun H4 q2 l2 s3 hq2 hl2 => ?_⟩
        obtain ⟨l1, hf1, hr1⟩ := hN.same s3
        refine ⟨_, rfl, rfl, _, rfl, iteT ?_⟩
        refine ⟨_, rfl, q2, _, 0, _, rfl, rfl, SqT.of hq2, at0, _, rfl, rfl, _, rfl, if_t (decide_eq_true rfl) ?_⟩
        refine ⟨_, rfl, f, _, 0, _, rfl, rfl, SqT.of hf1, at0, rfl, _, rfl, ?_⟩
        rw [slotV_non]
        have put : ∀ (e : nstep c m (some g) = (some m, g)), (tAsg (tTup (tCons (tVar 4) (tCons (tOp (rIxT K) (tVar 5) (tC (.int 1))) (tCons (tOp (rIxT K) (tVar 5) (tC (.int 2))) (tCons (tOp (rIxT K) (tVar 5) (tC (.int 3))) tNil))))) (gName 3) : L2.TS)
            { nx := fun σ' H' => ∃ f u v, σ' = [some (.ref p), some (.ref s), some (.str t), some (.ref f), u, v] ∧ Same H1 H' ∧ NewAt H' f (nst j o0 o1 (i + 1)), rt := Q }
            [some (.ref p), some (.ref s), some (.str t), some (.ref f), some (.int (m : Int)), some (.ref q2)] H4 := fun e => by
          refine ⟨_, rfl, _, rfl, q2, _, 1, _, rfl, rfl, SqT.of hq2, at1, _, rfl, q2, _, 2, _, rfl, rfl, SqT.of hq2, rfl, _, rfl, q2, _, 3, _, rfl, rfl, SqT.of hq2, rfl, (by show 4 ≤ sizeLine; decide), fun f2 hf2 => ?_⟩
          refine goal f2 (some (.int (m : Int))) (some (.ref q2)) _ ((s2.trans s3).trans (Same.new hf2)) ?_
          rw [e]
          exact ⟨l2, upd_same, hl2.same (Same.new hf2)⟩
        obtain ⟨c1, c2⟩ := c
        cases c1 with
        | none => exact iteT (iteT (put rfl))
        | some i1 =>
          refine iteF ?_
          refine ⟨_, rfl, q2, _, 1, _, rfl, rfl, SqT.of hq2, at1, _, rfl, f, _, 1, _, rfl, rfl, SqT.of hf1, at1, _, _, rfl, rfl, _, rfl, ?_⟩
          by_cases hlt : c2.last < g.last
          · refine if_t (decide_eq_true (by show (c2.last : Int) < (g.last : Int); omega)) (put ?_)
            unfold nstep
            simp only
            rw [if_pos hlt]
          · refine if_f (decide_eq_false (by show ¬ (c2.last : Int) < (g.last : Int); omega)) ?_
            refine goal f (some (.int (m : Int))) (some (.ref q2)) H4 (s2.trans s3) ?_
            have e : nstep (some i1, c2) m (some g) = (some i1, c2) := by
              unfold nstep
              simp only
              rw [if_neg hlt]
            rw [e]
            exact ⟨l1, hf1, hr1⟩
    · rintro σ H2 ⟨f, u, v, rfl, s2, N⟩
      refine ⟨_, rfl, k _ f (s01.trans s2) ?_⟩
      rw [newM_eq]
      exact N
theorem sc_late_page : FnScope ["disk", "schema", "table", "last", "many", "rows", "one", "other", "slot"] ["disk", "schema", "table", "last", "many", "rows"] d_late_page.scope := ⟨rfl, rfl, rfl, by decide +kernel, rfl, by decide +kernel, by decide +kernel⟩
theorem ok_late_page (T : Tx K mg) (F : Fd K d_late_page fd) (D_slots_of : Df P w K mg base CX0 3 "slots_of" ["schema", "table"] (sp_slots_of K)) (D_newest : Df P w K mg base CX0 6 "newest" ["disk", "schema", "table"] (sp_newest K))
    (D_page_text : Df P w K mg base CX0 2 "page_text" ["table", "last", "many", "rows"] sp_page_text) (M_put_page : Md P w K mg base (L2.CX P w) 2 (DkC K) "put_page" ["self", "slot", "text"] (sp_put_page K)) :
    FnOk P w K mg base (L2.CX P w) 7 (He.fAd K d_late_page.at_) fd ["disk", "schema", "table", "last", "many", "rows"] (sp_late_page K) := by
  refine okX F sc_late_page (fun vs H Q E h => ?_) (fun cdv A outer s H vs Q E hr h => ?_)
  · obtain ⟨_, _, _, _, _, _, _, _, _, _, _, _, _, rfl, _⟩ := h
    rfl
  · obtain ⟨p, lr, lp, d, s, Tb, j, t, cs, o0, o1, g, l, rfl, D, S, ht, S0, S1, G, hl, kx, k⟩ := h
    have hm := List.mem_of_getElem? ht
    refine ⟨_, (pss_cons (ps_asg (pe_df D_slots_of (hr.mono (by decide)) pass0 (pa_cons (pv 1) (pa_cons (pv 2) pa_nil))) (pg_tup rfl (pgs_cons (pg_name (i := 6) sc_late_page.nd rfl (Or.inl rfl)) (pgs_cons (pg_name (i := 7) sc_late_page.nd rfl (Or.inl rfl)) pgs_nil))))
    (pss_cons (ps_set (i := 8) sc_late_page.nd rfl (Or.inl rfl) (pv 6))
    (pss_cons (ps_if (pt_cmpR op_eq (pe_ix ix_tup (pe_df D_newest (hr.mono (by decide)) pass0 (pa_cons (pv 0) (pa_cons (pv 1) (pa_cons (pv 2) pa_nil)))) pe_int (fun _ _ => rfl)) (pv 6) (nomark _)) (pss_one (ps_set (i := 8) sc_late_page.nd rfl (Or.inl rfl) (pv 7))) pss_nil)
    (pss_one (ps_expr (pe_md M_put_page (hr.mono (by decide)) (passes_call (takes_of rfl rfl rfl rfl) (fun _ _ _ _ h => h)) (pv 0) (pa_cons (pv 8) (pa_cons (pe_df D_page_text (hr.mono (by decide)) pass0 (pa_cons (pv 2) (pa_cons (pv 3) (pa_cons (pv 4) (pa_cons (pv 5) pa_nil))))) pa_nil)))))))), ?_⟩
    refine ⟨_, rfl, _, rfl, s, Tb, j, t, cs, rfl, S, ht, fun H1 q s1 hq => ?_⟩
    refine ⟨q, _, rfl, SqT.of hq, rfl, _, _, rfl, _, _, rfl, rfl, ?_⟩
    refine ⟨_, rfl, ?_⟩
    refine ⟨_, rfl, _, rfl, _, rfl, p, lr, lp, d, s, Tb, j, t, cs, o0, o1, rfl, D.same s1, S.same s1, ht, S0, S1, fun H2 f s2 N => ?_⟩
    obtain ⟨l2, hf2, _⟩ := N
    have s12 := s1.trans s2
    have D2 := D.same s12
    obtain ⟨dx, dv, hd1, _⟩ := D2.ob
    have j4 : j < 4 := by
      have := (List.getElem?_eq_some_iff.mp ht).1
      have := S.ok.len.2
      have e : List.length Tb = Tb.length := rfl
      omega
    have hsl := newM_slot j o0 o1
    have tl8 : tgtM j o0 o1 < 8 := by
      unfold tgtM
      split <;> omega
    have sc : scal (slotV (newM j o0 o1).1) (V.int ((2 * j : Nat) : Int)) = true := by
      rcases hsl with e | e | e <;> rw [e] <;> rfl
    have cont : ∀ σ3, σ3[0]? = some (some (V.ref p)) → σ3[2]? = some (some (V.str t)) → σ3[3]? = some (some (V.int (g.last : Int))) → σ3[4]? = some (some (V.int g.many)) → σ3[5]? = some (some (V.ref l)) → σ3[8]? = some (some (V.int ((tgtM j o0 o1 : Nat) : Int))) →
        (tDrop (tMeth (DkC K) "put_page" (sp_put_page K) [] E (tVar 0) (tCons (tVar 8) (tCons (tCall sp_page_text [] E0 (tCons (tVar 2) (tCons (tVar 3) (tCons (tVar 4) (tCons (tVar 5) tNil))))) tNil))) : L2.TS) { nx := fun _ H' => Q .non H', rt := Q } σ3 H2 := fun σ3 e0 e2 e3 e4 e5 e8 => by
      refine ⟨_, e0, p, dx, _, rfl, hd1, dfl_no (by decide +kernel) (by decide +kernel) (by decide +kernel) (by decide +kernel) (by decide +kernel), _, e8, _, e2, _, e3, _, e4, _, e5, Tb, t, cs, g, l, rfl, S.ok, hm, G, hl.same s12, fun H3 s3 => ?_⟩
      have s123 := s12.trans s3
      refine ⟨p, lr, lp, d, tgtM j o0 o1, pageT t g, rfl, D.same s123, tl8, ?_, fun hd => kx hd _ s123, fun hd H' b D' => k hd H' (s123.bt3.trans b) D'⟩
      have := pageT_len S.ok hm G
      omega
    refine ⟨f, _, 0, _, rfl, rfl, SqT.of hf2, at0, _, rfl, sc, _, rfl, ?_⟩
    rw [slotV_eq]
    by_cases e : (newM j o0 o1).1 = some (2 * j)
    · refine if_t (decide_eq_true e) ?_
      refine ⟨_, rfl, cont _ rfl rfl rfl rfl rfl ?_⟩
      unfold tgtM
      rw [if_pos e]
      rfl
    · refine if_f (decide_eq_false e) ?_
      refine cont _ rfl rfl rfl rfl rfl ?_
      unfold tgtM
      rw [if_neg e]
      rfl
end
end Fl

set_option Elab.async false
set_option linter.all false
set_option maxRecDepth 100000
set_option maxHeartbeats 1000000
/-! Dicts that are tables; what a page and the log say of a table. -/
namespace Fl
open PySem PySem.Spec PyProof.Rows L2
open TL (tl)
/-! ### dicts -/
theorem keys_putK {kvs : List (Key × V)} {k : Key} {v : V} (h : valV kvs k ≠ none) : (putK kvs k v).map (·.1) = kvs.map (·.1) := by
  unfold putK
  rw [if_pos (by rw [valV_any]; cases e : valV kvs k with | none => exact absurd e h | some _ => rfl), List.map_map]
  refine List.map_congr_left fun p _ => ?_
  show (if p.1 = k then (p.1, v) else p).1 = p.1
  split <;> rfl
theorem nd_put {kvs : List (Key × V)} {k : Key} (v : V) (hn : (kvs.map (·.1)).Nodup) : ((putK kvs k v).map (·.1)).Nodup := by
  cases e : valV kvs k with
  | none => exact nd_putK v hn e
  | some x =>
    rw [keys_putK (by rw [e]; exact fun z => nomatch z)]
    exact hn
theorem put_len {kvs : List (Key × V)} {k : Key} (v : V) : (putK kvs k v).length ≤ kvs.length + 1 := length_putK kvs k v
theorem mem_put {kvs : List (Key × V)} {k x : Key} {v : V} (h : x ∈ (putK kvs k v).map (·.1)) : x = k ∨ x ∈ kvs.map (·.1) := by
  cases e : valV kvs k with
  | none =>
    rw [putK_new v e, List.map_append] at h
    rcases List.mem_append.mp h with h | h
    · exact .inr h
    · exact .inl (List.mem_singleton.mp h)
  | some y =>
    rw [keys_putK (by rw [e]; exact fun z => nomatch z)] at h
    exact .inr h
theorem mem_drop {kvs : List (Key × V)} {k x : Key} (h : x ∈ (dropK kvs k).map (·.1)) : x ∈ kvs.map (·.1) := by
  obtain ⟨p, hp, rfl⟩ := List.mem_map.mp h
  exact List.mem_map.mpr ⟨p, dropK_mem hp, rfl⟩
theorem valV_drop : ∀ (kvs : List (Key × V)) (k j : Key), valV (dropK kvs k) j = if j = k then none else valV kvs j
  | [], k, j => by
    show valV [] j = _
    split <;> rfl
  | p :: r, k, j => by
    by_cases h : p.1 = k
    · rw [dropK_pos h, valV_drop r k j]
      by_cases hj : j = k
      · rw [if_pos hj, if_pos hj]
      · rw [if_neg hj, if_neg hj, valV_neg fun e => hj (e.symm.trans h)]
    · rw [dropK_neg h]
      by_cases hp : p.1 = j
      · rw [valV_pos hp, valV_pos hp, if_neg fun e => h (hp.trans e)]
      · rw [valV_neg hp, valV_neg hp, valV_drop r k j]
/-- a dict that is the table f -/
structure FoundAt (H : Hp) (kd : Str) (kvs : List (Key × V)) (f : TF) : Prop where
  nd : (kvs.map (·.1)).Nodup
  kind : ∀ k ∈ kvs.map (·.1), KindK kd k
  at_ : ∀ k, match valV kvs k with
    | none => f k = none
    | some v => ∃ r, f k = some r ∧ RowAt H r v
theorem FoundAt.ts {H H' : Hp} {kd : Str} {kvs : List (Key × V)} {f : TF} (h : FoundAt H kd kvs f) (k : TS H H') : FoundAt H' kd kvs f := by
  refine ⟨h.nd, h.kind, fun x => ?_⟩
  have := h.at_ x
  cases e : valV kvs x with
  | none =>
    rw [e] at this
    exact this
  | some v =>
    rw [e] at this
    obtain ⟨r, h1, h2⟩ := this
    exact ⟨r, h1, h2.ts k⟩
theorem FoundAt.nl (H : Hp) (kd : Str) : FoundAt H kd [] fun _ => none := ⟨List.nodup_nil, fun _ h => (by cases h), fun _ => rfl⟩
theorem FoundAt.st {H : Hp} {kd t : Str} {kvs : List (Key × V)} {f : TF} (h : FoundAt H kd kvs f) {r : Row} {v : V} (hv : RowAt H r v) (hk : KindK kd (rk r)) : FoundAt H kd (putK kvs (rk r) v) (appT t (.set t r) f) := by
  have e0 : appT t (.set t r) f = fun k => if k = rk r then some r else f k := by
    show (if t = t then _ else _) = _
    rw [if_pos rfl]
  rw [e0]
  refine ⟨nd_put v h.nd, fun k hm => ?_, fun k => ?_⟩
  · rcases mem_put hm with rfl | hm
    · exact hk
    · exact h.kind k hm
  · rw [valV_put]
    by_cases e : k = rk r
    · rw [if_pos e]
      exact ⟨r, if_pos e, hv⟩
    · rw [if_neg e]
      have := h.at_ k
      rw [if_neg e]
      exact this
theorem FoundAt.ct {H : Hp} {kd t : Str} {kvs : List (Key × V)} {f : TF} (h : FoundAt H kd kvs f) (v : V) : FoundAt H kd (dropK kvs (keyOf v)) (appT t (.cut t v) f) := by
  have e0 : appT t (.cut t v) f = fun k => if k = keyOf v then none else f k := by
    show (if t = t then _ else _) = _
    rw [if_pos rfl]
  rw [e0]
  refine ⟨nd_dropK h.nd, fun k hm => h.kind k (mem_drop hm), fun k => ?_⟩
  rw [valV_drop]
  by_cases e : k = keyOf v
  · rw [if_pos e]
    exact if_pos e
  · rw [if_neg e]
    have := h.at_ k
    rw [if_neg e]
    exact this
theorem FoundAt.ct0 {H : Hp} {kd t : Str} {kvs : List (Key × V)} {f : TF} (h : FoundAt H kd kvs f) {v : V} (e : valV kvs (keyOf v) = none) : FoundAt H kd kvs (appT t (.cut t v) f) := by
  have := h.ct (t := t) v
  rw [dropK_no (valV_not e)] at this
  exact this
theorem FoundAt.sm {H : Hp} {kd : Str} {kvs : List (Key × V)} {f : TF} (h : FoundAt H kd kvs f) {k : Key} {r : Row} (e : f k = some r) : ∃ v, valV kvs k = some v ∧ RowAt H r v := by
  have := h.at_ k
  cases q : valV kvs k with
  | none =>
    rw [q] at this
    rw [this] at e
    cases e
  | some v =>
    rw [q] at this
    obtain ⟨r', h1, h2⟩ := this
    rw [h1] at e
    cases e
    exact ⟨v, rfl, h2⟩
theorem FoundAt.nn {H : Hp} {kd : Str} {kvs : List (Key × V)} {f : TF} (h : FoundAt H kd kvs f) {k : Key} (e : f k = none) : valV kvs k = none := by
  have := h.at_ k
  cases q : valV kvs k with
  | none => rfl
  | some v =>
    rw [q] at this
    obtain ⟨r', h1, h2⟩ := this
    rw [h1] at e
    cases e
theorem FoundAt.has {H : Hp} {kd : Str} {kvs : List (Key × V)} {f : TF} (h : FoundAt H kd kvs f) {k : Key} (hm : k ∈ kvs.map (·.1)) : ∃ r v, f k = some r ∧ valV kvs k = some v ∧ RowAt H r v := by
  have := h.at_ k
  cases q : valV kvs k with
  | none => exact absurd hm (valV_not q)
  | some v =>
    rw [q] at this
    obtain ⟨r', h1, h2⟩ := this
    exact ⟨r', v, h1, rfl, h2⟩
/-- as many keys as rows -/
theorem perm_len {α : Type} [DecidableEq α] : ∀ {l m : List α}, l.Nodup → (∀ x ∈ l, x ∈ m) → l.length ≤ m.length
  | [], _, _, _ => Nat.zero_le _
  | a :: r, m, nd, h => by
    obtain ⟨n1, n2⟩ := List.nodup_cons.mp nd
    have h1 := h a List.mem_cons_self
    have ih := perm_len (l := r) (m := m.erase a) n2 fun x hx => by
      have hne : x ≠ a := fun e => n1 (e ▸ hx)
      exact (List.mem_erase_of_ne hne).mpr (h x (List.mem_cons_of_mem _ hx))
    rw [List.length_erase_of_mem h1] at ih
    have : 0 < m.length := List.length_pos_of_mem h1
    rw [List.length_cons]
    omega
theorem FoundAt.len {H : Hp} {kd : Str} {kvs : List (Key × V)} {f : TF} (h : FoundAt H kd kvs f) {L : List Row} (hL : Lists f L) : kvs.length ≤ L.length := by
  have := perm_len (m := L.map rk) h.nd fun k hk => by
    obtain ⟨r, v, e, _, _⟩ := h.has hk
    obtain ⟨m, e2⟩ := (hL.2 k r).mp e
    exact List.mem_map.mpr ⟨r, m, e2⟩
  rw [List.length_map, List.length_map] at this
  exact this
/-- the sorted keys' rows are the list -/
theorem FoundAt.rows {H : Hp} {kd : Str} {kvs : List (Key × V)} {f : TF} (h : FoundAt H kd kvs f) (kf : KeyF f) {ks : List Key} (hp : ks.Perm (kvs.map (·.1))) (hs : ks.Pairwise kLt) {L : List Row} (hL : Lists f L) :
    ∃ vs : List V, Paired (fun k v => valV kvs k = some v) ks vs ∧ Paired (RowAt H) L vs := by
  have hall : ∀ k ∈ ks, k ∈ kvs.map (·.1) := fun k hk => hp.mem_iff.mp hk
  obtain ⟨M, vs, h1, h2, h3⟩ : ∃ (M : List Row) (vs : List V), Paired (fun k r => f k = some r) ks M ∧ Paired (fun k v => valV kvs k = some v) ks vs ∧ Paired (RowAt H) M vs := by
    clear hp hs
    induction ks with
    | nil => exact ⟨[], [], .nil, .nil, .nil⟩
    | cons k r ih =>
      obtain ⟨M, vs, h1, h2, h3⟩ := ih fun x hx => hall x (List.mem_cons_of_mem _ hx)
      obtain ⟨rw, v, e1, e2, e3⟩ := h.has (hall k List.mem_cons_self)
      exact ⟨rw :: M, v :: vs, .cons e1 h1, .cons e2 h2, .cons e3 h3⟩
  have hM : Lists f M := lists_of kf hs h1 fun k hk => by
    refine hp.mem_iff.mpr ?_
    cases q : valV kvs k with
    | none =>
      have := h.at_ k
      rw [q] at this
      exact absurd this hk
    | some v => exact valV_in q
  rw [hL.uniq hM]
  exact ⟨vs, h2, h3⟩
/-! ### the rows of a page, one by one -/
def rowsF (t : Str) (rows : List Row) : TF := runT t (rows.map (Stf.set t)) fun _ => none
theorem rowsF_gen (t : Str) : ∀ (rows : List Row) (f : TF), rows.Pairwise rLt → ∀ k r, runT t (rows.map (Stf.set t)) f k = some r ↔ ((r ∈ rows ∧ rk r = k) ∨ (f k = some r ∧ ∀ x ∈ rows, rk x ≠ k))
  | [], f, _, k, r => by
    constructor
    · intro h
      exact .inr ⟨h, fun x hx => by cases hx⟩
    · rintro (⟨h, _⟩ | ⟨h, _⟩)
      · cases h
      · exact h
  | a :: l, f, hp, k, r => by
    obtain ⟨h1, h2⟩ := List.pairwise_cons.mp hp
    have e0 : runT t ((a :: l).map (Stf.set t)) f = runT t (l.map (Stf.set t)) (fun k => if k = rk a then some a else f k) := by
      show runT t (l.map (Stf.set t)) (if t = t then _ else _) = _
      rw [if_pos rfl]
    rw [e0, rowsF_gen t l _ h2 k r]
    have ne : ∀ x ∈ l, rk x ≠ rk a := fun x hx e => by
      have := h1 x hx
      unfold rLt at this
      rw [e] at this
      exact kLt_asymm this this
    constructor
    · rintro (⟨m, e⟩ | ⟨e, m⟩)
      · exact .inl ⟨List.mem_cons_of_mem _ m, e⟩
      · by_cases hk : k = rk a
        · rw [if_pos hk] at e
          cases e
          exact .inl ⟨List.mem_cons_self, hk.symm⟩
        · rw [if_neg hk] at e
          refine .inr ⟨e, fun x hx => ?_⟩
          rcases List.mem_cons.mp hx with rfl | hx
          · exact fun z => hk z.symm
          · exact m x hx
    · rintro (⟨m, e⟩ | ⟨e, m⟩)
      · rcases List.mem_cons.mp m with rfl | m
        · refine .inr ⟨if_pos e.symm, fun x hx => ?_⟩
          rw [← e]
          exact ne x hx
        · exact .inl ⟨m, e⟩
      · have hk : k ≠ rk a := fun z => m a List.mem_cons_self z.symm
        exact .inr ⟨by rw [if_neg hk]; exact e, fun x hx => m x (List.mem_cons_of_mem _ hx)⟩
theorem rowsF_lists {t : Str} {f : TF} {rows : List Row} (h : Lists f rows) : rowsF t rows = f := by
  funext k
  have h1 := fun r => rowsF_gen t rows (fun _ => none) h.1 k r
  have h2 := fun r => h.2 k r
  have h3 : ∀ r, rowsF t rows k = some r ↔ f k = some r := fun r => by
    rw [h2 r]
    unfold rowsF
    rw [h1 r]
    constructor
    · rintro (z | ⟨z, _⟩)
      · exact z
      · cases z
    · exact .inl
  cases e : rowsF t rows k with
  | none =>
    cases e2 : f k with
    | none => rfl
    | some r =>
      have := (h3 r).mpr e2
      rw [e] at this
      cases this
  | some r => exact ((h3 r).mp e).symm
theorem keyF_rowsF (t : Str) (rows : List Row) : KeyF (rowsF t rows) := keyF_run fun _ _ e => nomatch e
theorem keyF_repE {t : Str} {last : Int} : ∀ {es : List Ent} {f : TF}, KeyF f → KeyF (repE t last es f)
  | [], _, h => h
  | e :: r, f, h => by
    show KeyF (repE t last r (if last < e.1 then appT t e.2 f else f))
    refine keyF_repE ?_
    split
    · exact keyF_app h
    · exact h
end Fl

set_option Elab.async false
set_option linter.all false
set_option maxRecDepth 100000
set_option maxHeartbeats 1000000
/-! Coming up: what counts, a table. -/
namespace Fl
open PySem PySem.Spec PyProof.Rows L2
open TL (tl)
/-- what a disk says: its log: c what counts, j what does not, torn; its slots -/
structure Vw (T : Tabs) (d : Dk) (n : Int) (c j : List Stf) (torn : List Str) (pg : Nat → Option Pg) : Prop where
  rows : d.rows = logT n (c ++ j) torn
  log : LogOk T n (c ++ j) torn
  ke : KeepEnd c
  nk : ∀ s ∈ j, s.isKeep = false
  slots : ∀ k t cs, T[k]? = some (t, cs) → SlotOk t cs d.pages (2 * k) (pg (2 * k)) ∧ SlotOk t cs d.pages (2 * k + 1) (pg (2 * k + 1))
def newP (pg : Nat → Option Pg) (k : Nat) : Option Nat × Pg := newM k (pg (2 * k)) (pg (2 * k + 1))
theorem newP_ok {T : Tabs} {d : Dk} {n : Int} {c j : List Stf} {torn : List Str} {pg : Nat → Option Pg} (v : Vw T d n c j torn pg) {k : Nat} {t : Str} {cs : Cols} (h : T[k]? = some (t, cs)) : PgOk cs (newP pg k).2 := by
  obtain ⟨⟨_, _, _, h0⟩, ⟨_, _, _, h1⟩⟩ := v.slots k t cs h
  have z : PgOk cs ⟨0, 0, []⟩ := ⟨Nat.zero_le _, ⟨Int.le_refl 0, (by decide : (0 : Int) ≤ 1000000000)⟩, Nat.zero_le _, fun _ hr => (by cases hr), .nil⟩
  unfold newP
  cases e0 : pg (2 * k) with
  | none =>
    cases e1 : pg (2 * k + 1) with
    | none => exact z
    | some g =>
      rw [e1] at h1
      exact h1.2
  | some g =>
    rw [e0] at h0
    cases e1 : pg (2 * k + 1) with
    | none => exact h0.2
    | some g' =>
      rw [e1] at h1
      unfold newM
      simp only
      split
      · exact h1.2
      · exact h0.2
def sp_kept_stuff (K : PySem.W.Frag) : Sp := fun vs H Q _ => ∃ p lr lp d s T n c j torn pg, vs = [.ref p, .ref s] ∧ DiskAt (DkC K) H p lr lp d ∧ SchAt (ScC K) H s T ∧ Vw T d n c j torn pg ∧
  ∀ H' q, Same H H' → EntsAt H' (ents n c) q → Q (.ref q) H'
def sp_table_now (K : PySem.W.Frag) : Sp := fun vs H Q _ => ∃ p lr lp d s T n c j torn pg k t cs b L, vs = [.ref p, .ref s, .str t, .ref b] ∧ DiskAt (DkC K) H p lr lp d ∧ SchAt (ScC K) H s T ∧ Vw T d n c j torn pg ∧ T[k]? = some (t, cs) ∧ EntsAt H (ents n c) b ∧
  Lists (repE t (newP pg k).2.last (ents n c) (rowsF t (newP pg k).2.rows)) L ∧ L.length < 64 ∧ ∀ H' q, Same H H' → RowsAt H' L q → Q (.ref q) H'
theorem runT_snoc (t : Str) (h : List Stf) (s : Stf) (f : TF) : runT t (h ++ [s]) f = appT t s (runT t h f) := by
  rw [runT_app]
  rfl
theorem repE_snoc (t : Str) (last : Int) (es : List Ent) (e : Ent) (f : TF) : repE t last (es ++ [e]) f = if last < e.1 then appT t e.2 (repE t last es f) else repE t last es f := by
  rw [repE_app]
  rfl
section
variable {P : Program} {w : World} {K : PySem.W.Frag} {mg : Str → Option Value} {base : Heap} {fd : FuncData}
theorem sc_kept_stuff : FnScope ["disk", "schema", "texts"] ["disk", "schema"] d_kept_stuff.scope := ⟨rfl, rfl, rfl, by decide +kernel, rfl, by decide +kernel, by decide +kernel⟩
theorem ok_kept_stuff (T : Tx K mg) (F : Fd K d_kept_stuff fd) (D_whole_rows : Df P w K mg base CX0 6 "whole_rows" ["schema", "texts"] (sp_whole_rows K)) (D_kept_many_rows : Df P w K mg base CX0 7 "kept_many_rows" ["schema", "texts"] (sp_kept_many_rows K))
    (M_log_rows : Md P w K mg base CX0 1 (DkC K) "log_rows" ["self"] (sp_log_rows K)) : FnOk P w K mg base CX0 8 (He.fAd K d_kept_stuff.at_) fd ["disk", "schema"] (sp_kept_stuff K) := by
  refine ok0 F sc_kept_stuff (fun vs H Q E h => ?_) (fun cdv A outer s H vs Q E hr h => ?_)
  · obtain ⟨_, _, _, _, _, _, _, _, _, _, _, rfl, _⟩ := h
    rfl
  · obtain ⟨p, lr, lp, d, s, Tb, n, c, j, torn, pg, rfl, D, S, v, k⟩ := h
    obtain ⟨dx, dv, hd1, _⟩ := D.ob
    refine ⟨_, (pss_cons (ps_set (i := 2) sc_kept_stuff.nd rfl (Or.inl rfl) (pe_md0 M_log_rows (hr.mono (by decide)) pass0 (pv 0)))
    (pss_one (ps_ret (pe_slice sl_list (pe_df D_whole_rows (hr.mono (by decide)) pass0 (pa_cons (pv 1) (pa_cons (pv 2) pa_nil))) po_none (po_some (pe_df D_kept_many_rows (hr.mono (by decide)) pass0 (pa_cons (pv 1) (pa_cons (pv 2) pa_nil)))))))), ?_⟩
    refine ⟨_, rfl, p, dx, _, rfl, hd1, dfl_no (by decide +kernel) (by decide +kernel) (by decide +kernel) (by decide +kernel) (by decide +kernel), p, lr, lp, d, rfl, D, fun b hb => ?_⟩
    have s1 := Same.new (o := .lst (d.rows.map V.str)) hb
    have hb1 : (upd H b (.lst (d.rows.map V.str))) b = some (.lst ((logT n (c ++ j) torn).map V.str)) := by
      rw [upd_same, v.rows]
    refine ⟨_, rfl, _, rfl, s, Tb, b, n, c ++ j, torn, rfl, S.same s1, v.log, hb1, fun H1 q s2 nq he => ?_⟩
    have s12 := s1.trans s2
    refine ⟨_, rfl, _, rfl, s, Tb, b, n, c ++ j, torn, rfl, S.same s12, v.log, s2 _ _ hb1, fun H2 s3 => ⟨_, rfl, ?_⟩⟩
    obtain ⟨xs, hx, hp⟩ := he.same s3
    refine ⟨q, xs, rfl, SqL.of hx, fun r hr => ?_⟩
    refine k _ r ((s12.trans s3).trans (Same.new hr)) ⟨xs.take c.length, ?_, ?_⟩
    · rw [upd_same, km_kept v.ke v.nk, cutV_to]
    · have e : ents n c = (ents n (c ++ j)).take c.length := by
        rw [ents_take, List.take_left]
      rw [e]
      exact paired_imp (paired_take hp _) fun _ _ => EntAt.ts (Same.new hr).ts
theorem sc_table_now : FnScope ["disk", "schema", "table", "stuffs", "last", "many", "rows", "found", "row", "number", "stuff", "key"] ["disk", "schema", "table", "stuffs"] d_table_now.scope := ⟨rfl, rfl, rfl, by decide +kernel, rfl, by decide +kernel, by decide +kernel⟩
theorem ok_table_now (T : Tx K mg) (F : Fd K d_table_now fd) (D_newest : Df P w K mg base CX0 6 "newest" ["disk", "schema", "table"] (sp_newest K)) : FnOk P w K mg base CX0 7 (He.fAd K d_table_now.at_) fd ["disk", "schema", "table", "stuffs"] (sp_table_now K) := by
  refine ok0 F sc_table_now (fun vs H Q E h => ?_) (fun cdv A outer s H vs Q E hr h => ?_)
  · obtain ⟨_, _, _, _, _, _, _, _, _, _, _, _, _, _, _, _, rfl, _⟩ := h
    rfl
  · obtain ⟨p, lr, lp, d, s, Tb, n, c, j, torn, pg, kx, t, cs, b, L, rfl, D, S, v, ht, ⟨ys, hys, hpy⟩, hL, hl64, k⟩ := h
    have hu := hu_of hr
    have hm := List.mem_of_getElem? ht
    have lc := (S.ok.cols _ hm).len
    have G := newP_ok v ht
    obtain ⟨hS0, hS1⟩ := v.slots kx t cs ht
    obtain ⟨c0, cs0, ecs⟩ : ∃ c0 cs0, cs = c0 :: cs0 := by
      cases cs with
      | nil => exact absurd lc.1 (show ¬ (1 : Nat) ≤ 0 by decide)
      | cons a r => exact ⟨a, r, rfl⟩
    have headOf : ∀ r, RowOk cs r → ∃ v0 rest, r = v0 :: rest ∧ OkV c0.2 v0 := fun r hr0 => by
      obtain ⟨c1, cs1, v0, rest, e1, e2, okv⟩ := row_head hr0 lc.1
      rw [ecs] at e1
      obtain ⟨rfl, rfl⟩ := List.cons.inj e1
      exact ⟨v0, rest, e2, okv⟩
    have few := G.few
    have clen : c.length ≤ 100000 := by
      have := v.log.few
      rw [List.length_append] at this
      omega
    have lys : ys.length = c.length := by
      rw [← paired_len hpy, ents_len]
    refine ⟨_, (pss_cons (ps_asg (pe_slice sl_tup (pe_df D_newest (hr.mono (by decide)) pass0 (pa_cons (pv 0) (pa_cons (pv 1) (pa_cons (pv 2) pa_nil)))) (po_some pe_int) po_none) (pg_tup rfl (pgs_cons (pg_name (i := 4) sc_table_now.nd rfl (Or.inl rfl)) (pgs_cons (pg_name (i := 5) sc_table_now.nd rfl (Or.inl rfl)) (pgs_cons (pg_name (i := 6) sc_table_now.nd rfl (Or.inl rfl)) pgs_nil)))))
    (pss_cons (ps_set (i := 7) sc_table_now.nd rfl (Or.inr rfl) pe_dnewK)
    (pss_cons (ps_for PassesOwn.never rfl (pi_list (pv 6)) (pg_name (i := 8) sc_table_now.nd rfl (Or.inl rfl)) (pss_one (ps_dput hu (pv 7) (pe_ix ix_tup (pv 8) pe_int (fun _ _ => rfl)) (pv 8) rfl)))
    (pss_cons (ps_for PassesOwn.never rfl (pi_list (pv 3)) (pg_tup rfl (pgs_cons (pg_name (i := 9) sc_table_now.nd rfl (Or.inl rfl)) (pgs_cons (pg_name (i := 10) sc_table_now.nd rfl (Or.inl rfl)) pgs_nil))) (pss_one (ps_if (PW.pt (pw_and (pt_cmpR op_gt (pv 9) (pv 4) (nomark _)) (pw_and (pt_cmpR op_eq (pe_ix ix_tup (pv 10) pe_int (fun _ _ => rfl)) pe_str (nomark _)) (pw_and1 (pt_cmpR op_eq (pe_ix ix_tup (pv 10) pe_int (fun _ _ => rfl)) (pv 2) (nomark _)))))) (pss_one (ps_dput hu (pv 7) (pe_ix ix_tup (pe_ix ix_tup (pv 10) pe_int (fun _ _ => rfl)) pe_int (fun _ _ => rfl)) (pe_ix ix_tup (pv 10) pe_int (fun _ _ => rfl)) rfl)) (pss_one (ps_if (PW.pt (pw_and (pt_cmpR op_gt (pv 9) (pv 4) (nomark _)) (pw_and (pt_cmpR op_eq (pe_ix ix_tup (pv 10) pe_int (fun _ _ => rfl)) pe_str (nomark _)) (pw_and1 (pt_cmpR op_eq (pe_ix ix_tup (pv 10) pe_int (fun _ _ => rfl)) (pv 2) (nomark _)))))) (pss_one (ps_expr (pe_dpop2 (pv 7) (pe_ix ix_tup (pv 10) pe_int (fun _ _ => rfl)) pe_non ⟨rfl, rfl, rfl, rfl⟩))) pss_nil)))))
    (pss_one (ps_ret (pe_lc (own := [("key", 11)]) rfl sc_table_now.nd (pi_list (pe_callB (call_sortK rfl) (by rfl) T.f_sorted (by decide +kernel) (pa_cons (pv 7) pa_nil))) (blkOk_by (N := ["disk", "schema", "table", "stuffs", "last", "many", "rows", "found", "row", "number", "stuff", "key"]) (sc := d_table_now.scope) (by decide +kernel)) (fun _ _ _ _ _ => (pg_name (i := 11) sc_table_now.nd rfl (Or.inl rfl))) (fun _ _ _ _ _ => pts_nil) (fun _ _ _ _ _ => (pe_dget hu (pv 7) (pv 11) (fun _ _ => rfl)))))))))), ?_⟩
    refine ⟨_, rfl, _, rfl, _, rfl, p, lr, lp, d, s, Tb, kx, t, cs, pg (2 * kx), pg (2 * kx + 1), rfl, D, S, ht, hS0, hS1, fun H1 q s1 ⟨l, hq, hl⟩ => ⟨_, rfl, ?_⟩⟩
    -- last, many, rows = newest(..)[1:]
    refine ⟨q, _, rfl, SqT.of hq, fun z => absurd z.1 (by decide : ¬ (1 = 0)), fun q2 hq2 => ?_⟩
    have s2 := s1.trans (Same.new (o := .tup (cutV [slotV (newP pg kx).1, .int (newP pg kx).2.last, .int (newP pg kx).2.many, .ref l] (some 1) none)) hq2)
    have hl2 := hl.same (Same.new (o := .tup (cutV [slotV (newP pg kx).1, .int (newP pg kx).2.last, .int (newP pg kx).2.many, .ref l] (some 1) none)) hq2)
    refine ⟨q2, [.int (newP pg kx).2.last, .int (newP pg kx).2.many, .ref l], rfl, SqT.of (by rw [upd_same]; rfl), rfl, _, _, rfl, _, _, rfl, _, _, rfl, rfl, ?_⟩
    -- found = {}
    intro f hf
    have hfH : H f = none := s2.free hf
    have s3 := s2.trans (Same.new (o := .dK []) hf)
    obtain ⟨xs, hx, hpx⟩ := hl2
    replace hpx : Paired (RowAt _) (newP pg kx).2.rows xs := hpx
    have hx3 := (Same.new (o := .dK []) hf) _ _ hx
    -- for row in rows: found[row[0]] = row
    refine ⟨_, rfl, l, rfl, ⟨_, SqL.of hx3⟩, for_it (walk_list (xs := xs)) (fun i σ H' => ∃ kvs u, σ = [some (.ref p), some (.ref s), some (.str t), some (.ref b), some (.int (newP pg kx).2.last), some (.int (newP pg kx).2.many), some (.ref l), some (.ref f), u, none, none, none] ∧
      Same H H' ∧ H' l = some (.lst xs) ∧ Paired (RowAt H') (newP pg kx).2.rows xs ∧ H' f = some (.dK kvs) ∧ kvs.length ≤ i ∧ FoundAt H' c0.2 kvs (rowsF t ((newP pg kx).2.rows.take i)))
      ⟨[], _, rfl, s3, hx3, paired_imp hpx fun _ _ => RowAt.ts (Same.new hf).ts, upd_same, Nat.le_refl _, FoundAt.nl _ _⟩ (fun i σ H' _ ⟨_, _, _, _, e, _⟩ => SqL.of e) ?_ ?_⟩
    · rintro i x σ H2 H3 hi ⟨kvs, u, rfl, s4, hl4, hp4, hf4, hk4, fa⟩ ⟨rfl, hix⟩
      obtain ⟨r, hri, a, rfl, ha⟩ := paired_at2 hp4 hix
      have okr := G.rows r (List.mem_of_getElem? hri)
      obtain ⟨v0, rest, rfl, okv⟩ := headOf r okr
      have nfl : l ≠ f := ne_of hl4 hf4 (by intro z; cases z)
      have ts : ∀ o, TS H3 (upd H3 f (.dK o)) := fun o e zs he => by
        rw [upd_ne (ne_of he hf4 (by intro z; cases z))]
        exact he
      have ipg : i < 60 := by
        have := paired_len hpx
        omega
      refine ⟨_, rfl, _, rfl, _, rfl, a, _, 0, _, rfl, rfl, SqT.of ha, at0, f, _, rfl, .inl ⟨kvs, keyOf v0, hf4, okv.key.symm, small1000 (by omega), rfl⟩, ?_⟩
      refine ⟨_, _, rfl, Same.mut s4 hfH, by rw [upd_ne nfl]; exact hl4, paired_imp hp4 fun _ _ => RowAt.ts (ts _), upd_same, Nat.le_trans (put_len _) (by omega), ?_⟩
      have e1 : rowsF t ((newP pg kx).2.rows.take (i + 1)) = appT t (.set t (v0 :: rest)) (rowsF t ((newP pg kx).2.rows.take i)) := by
        unfold rowsF
        rw [take_snoc hri, List.map_append]
        exact runT_snoc _ _ _ _
      rw [e1]
      exact (fa.st ⟨a, rfl, ha⟩ okv.kind).ts (ts _)
    rintro σ H2 ⟨kvs, u, rfl, s4, hl4, hp4, hf4, hk4, fa⟩
    rw [← paired_len hpx, List.take_length] at fa
    -- for number, stuff in stuffs
    have hys4 := s4 _ _ hys
    refine ⟨_, rfl, b, rfl, ⟨_, SqL.of hys4⟩, for_it (walk_list (xs := ys)) (fun i σ H' => ∃ kvs u2 u3, σ = [some (.ref p), some (.ref s), some (.str t), some (.ref b), some (.int (newP pg kx).2.last), some (.int (newP pg kx).2.many), some (.ref l), some (.ref f), u, u2, u3, none] ∧
      Same H H' ∧ H' f = some (.dK kvs) ∧ kvs.length ≤ 60 + i ∧ FoundAt H' c0.2 kvs (repE t (newP pg kx).2.last ((ents n c).take i) (rowsF t (newP pg kx).2.rows)))
      ⟨kvs, _, _, rfl, s4, hf4, Nat.le_trans hk4 (by rw [← paired_len hpx]; omega), fa⟩ (fun i σ H' _ ⟨_, _, _, _, e, _⟩ => SqL.of (e _ _ hys)) ?_ ?_⟩
    · clear fa hk4 hf4 hp4 hl4 s4 kvs
      rintro i x σ H2 H3 hi ⟨kvs, u2, u3, rfl, s4, hf4, hk4, fa⟩ ⟨rfl, hix⟩
      have hbig : kvs.length < sizeLine := Nat.lt_of_le_of_lt hk4 (Nat.lt_of_le_of_lt (by rw [lys] at hi; omega) (show 200000 < sizeLine by decide))
      obtain ⟨e, hei, he⟩ := paired_at2 hpy hix
      obtain ⟨a, wv, rfl, ha, hw⟩ := he.ts s4.ts
      have hes : (ents n c).take (i + 1) = (ents n c).take i ++ [e] := take_snoc hei
      have okE : StfOk Tb e.2 := by
        rw [ents_at] at hei
        cases q : c[i]? with
        | none =>
          rw [q] at hei
          cases hei
        | some st =>
          rw [q] at hei
          obtain rfl := Option.some.inj hei
          exact v.log.ok _ (List.mem_append_left _ (List.mem_of_getElem? q))
      have ts : ∀ o, TS H3 (upd H3 f (.dK o)) := fun o e zs he => by
        rw [upd_ne (ne_of he hf4 (by intro z; cases z))]
        exact he
      have stay : repE t (newP pg kx).2.last ((ents n c).take (i + 1)) (rowsF t (newP pg kx).2.rows) = repE t (newP pg kx).2.last ((ents n c).take i) (rowsF t (newP pg kx).2.rows) → FoundAt H3 c0.2 kvs (repE t (newP pg kx).2.last ((ents n c).take (i + 1)) (rowsF t (newP pg kx).2.rows)) := fun e => by
        rw [e]
        exact fa
      refine ⟨a, _, rfl, SqT.of ha, rfl, _, _, rfl, _, _, rfl, rfl, ?_⟩
      refine ⟨_, rfl, _, rfl, _, _, rfl, rfl, _, rfl, ?_⟩
      by_cases hlt : ((newP pg kx).2.last : Int) < e.1
      · have er := repE_snoc t (newP pg kx).2.last ((ents n c).take i) e (rowsF t (newP pg kx).2.rows)
        rw [if_pos hlt, ← hes] at er
        refine if_t (decide_eq_true hlt) ?_
        obtain ⟨e1, e2⟩ := e
        cases e2 with
        | set t' r =>
          obtain ⟨a1, b1, rfl, ha1, hb1⟩ := hw
          obtain ⟨cs', ht', okr⟩ := okE
          refine ⟨_, rfl, a1, _, 0, _, rfl, rfl, SqT.of ha1, at0, rfl, _, rfl, if_t (by decide +kernel) ?_⟩
          refine ⟨_, rfl, a1, _, 1, _, rfl, rfl, SqT.of ha1, at1, _, rfl, rfl, _, rfl, ?_⟩
          by_cases htt : t' = t
          · subst htt
            refine if_t (decide_eq_true rfl) ?_
            have ecs' := names_uniq S.ok ht' hm
            subst ecs'
            obtain ⟨v0, rest, rfl, okv⟩ := headOf r okr
            refine ⟨_, rfl, a1, _, 2, _, rfl, rfl, SqT.of ha1, rfl, _, rfl, _, rfl, a1, _, 2, _, rfl, rfl, SqT.of ha1, rfl, b1, _, 0, _, rfl, rfl, SqT.of hb1, at0, f, _, rfl, .inl ⟨kvs, keyOf v0, hf4, okv.key.symm, hbig, rfl⟩, ?_⟩
            refine ⟨_, _, _, rfl, Same.mut s4 hfH, upd_same, Nat.le_trans (put_len _) (by omega), ?_⟩
            rw [er]
            exact (fa.st ⟨b1, rfl, hb1⟩ okv.kind).ts (ts _)
          · refine if_f (decide_eq_false fun z => htt (V.str.inj z)) ?_
            refine ⟨_, rfl, _, rfl, _, _, rfl, rfl, _, rfl, if_t (decide_eq_true hlt) ?_⟩
            refine ⟨_, rfl, a1, _, 0, _, rfl, rfl, SqT.of ha1, at0, rfl, _, rfl, if_f (by decide +kernel) (iteF ?_)⟩
            refine ⟨kvs, _, _, rfl, s4, hf4, by omega, stay ?_⟩
            rw [er]
            show (if t' = t then _ else _) = _
            rw [if_neg htt]
        | cut t' kv =>
          obtain ⟨a1, rfl, ha1⟩ := hw
          obtain ⟨c', cs', ht', okv⟩ := okE
          refine ⟨_, rfl, a1, _, 0, _, rfl, rfl, SqT.of ha1, at0, rfl, _, rfl, if_f (by decide +kernel) (iteF ?_)⟩
          refine ⟨_, rfl, _, rfl, _, _, rfl, rfl, _, rfl, if_t (decide_eq_true hlt) ?_⟩
          refine ⟨_, rfl, a1, _, 0, _, rfl, rfl, SqT.of ha1, at0, rfl, _, rfl, if_t (by decide +kernel) ?_⟩
          refine ⟨_, rfl, a1, _, 1, _, rfl, rfl, SqT.of ha1, at1, _, rfl, rfl, _, rfl, ?_⟩
          by_cases htt : t' = t
          · subst htt
            refine if_t (decide_eq_true rfl) ?_
            refine ⟨_, rfl, f, rfl, .inl ⟨kvs, Rd.of hf4⟩, _, rfl, a1, _, 2, _, rfl, rfl, SqT.of ha1, rfl, kvs, keyOf kv, hf4, okv.key.symm, fun y hy => ?_, fun hn => ?_⟩
            · refine ⟨_, _, _, rfl, Same.mut s4 hfH, upd_same, Nat.le_trans (dropK_le _ _) (by omega), ?_⟩
              rw [er]
              exact (fa.ct kv).ts (ts _)
            · refine ⟨kvs, _, _, rfl, s4, hf4, by omega, ?_⟩
              rw [er]
              exact fa.ct0 hn
          · refine if_f (decide_eq_false fun z => htt (V.str.inj z)) ?_
            refine ⟨kvs, _, _, rfl, s4, hf4, by omega, stay ?_⟩
            rw [er]
            show (if t' = t then _ else _) = _
            rw [if_neg htt]
        | keep m =>
          obtain ⟨a1, rfl, ha1⟩ := hw
          refine ⟨_, rfl, a1, _, 0, _, rfl, rfl, SqT.of ha1, at0, rfl, _, rfl, if_f (by decide +kernel) (iteF ?_)⟩
          refine ⟨_, rfl, _, rfl, _, _, rfl, rfl, _, rfl, if_t (decide_eq_true hlt) ?_⟩
          refine ⟨_, rfl, a1, _, 0, _, rfl, rfl, SqT.of ha1, at0, rfl, _, rfl, if_f (by decide +kernel) (iteF ?_)⟩
          exact ⟨kvs, _, _, rfl, s4, hf4, by omega, stay er⟩
      · refine if_f (decide_eq_false hlt) (iteF ?_)
        refine ⟨_, rfl, _, rfl, _, _, rfl, rfl, _, rfl, if_f (decide_eq_false hlt) (iteF ?_)⟩
        refine ⟨kvs, _, _, rfl, s4, hf4, by omega, stay ?_⟩
        rw [hes, repE_snoc, if_neg hlt]
    clear fa hk4 hf4 hp4 hl4 s4 kvs
    rintro σ H3 ⟨kvs, u2, u3, rfl, s4, hf4, hk4, fa⟩
    rw [lys, ← ents_len n c, List.take_length] at fa
    -- return [found[key] for key in sorted(found)]
    have kf := keyF_repE (t := t) (last := (newP pg kx).2.last) (es := ents n c) (keyF_rowsF t (newP pg kx).2.rows)
    refine ⟨_, rfl, f, kvs, c0.2, rfl, Rd.of hf4, fa.kind, fa.nd, Nat.lt_of_le_of_lt (fa.len hL) hl64, fun ks p2 hperm hsort hp2 => ?_⟩
    have s5 := Same.new (o := .lst (ks.map kV)) hp2
    obtain ⟨vs, hv1, hv2⟩ := fa.rows kf hperm hsort hL
    refine ⟨p2, rfl, ⟨_, SqL.of upd_same⟩, fun D2 hD2 => lc_it (walk_list (xs := ks.map kV)) (fun i H' => Same (upd H3 p2 (.lst (ks.map kV))) H' ∧ H' D2 = some (.lst (vs.take i))) ⟨Same.new hD2, upd_same⟩
      (fun i H' _ ⟨e, _⟩ => SqL.of (e _ _ upd_same)) ?_ ?_⟩
    · rintro i x H4 H5 hi ⟨s6, hD4⟩ ⟨rfl, hix⟩
      rw [List.getElem?_map] at hix
      cases q : ks[i]? with
      | none =>
        rw [q] at hix
        cases hix
      | some key =>
        rw [q] at hix
        obtain rfl := Option.some.inj hix
        obtain ⟨y, hy, ey⟩ := paired_at hv1 q
        refine ⟨rfl, tyes ?_⟩
        refine ⟨_, rfl, _, rfl, f, y, rfl, .inl ⟨kvs, key, Rd.of (s6 _ _ (s5 _ _ hf4)), rfl, ey.symm⟩, ?_⟩
        refine ⟨_, hD4, ?_, ?_⟩
        · rw [List.length_take]
          refine Nat.lt_of_le_of_lt (Nat.min_le_right _ _) ?_
          rw [← paired_len hv2]
          exact small1000 (by omega)
        refine ⟨Same.mut s6 hD2, ?_⟩
        rw [take_snoc hy]
        exact upd_same
    · rintro H4 ⟨s6, hD4⟩
      rw [List.length_map, paired_len hv1, List.take_length] at hD4
      exact k _ D2 ((s4.trans s5).trans s6) ⟨vs, hD4, paired_imp hv2 fun _ _ => RowAt.ts (s5.trans s6).ts⟩
end
end Fl

set_option Elab.async false
set_option linter.all false
set_option maxRecDepth 100000
set_option maxHeartbeats 1000000
/-! Coming up: what is seen, cut off, trimmed. -/
namespace Fl
open PySem PySem.Spec PyProof.Rows L2
open TL (tl)
/-- the last number and the keeps by the pages -/
def numsM (pg : Nat → Option Pg) : Nat → Int × Int
  | 0 => (0, 0)
  | k + 1 => if (numsM pg k).1 < ((newP pg k).2.last : Int) then ((newP pg k).2.last, (newP pg k).2.many) else numsM pg k
/-- and by the log -/
def numsN (x : Int × Int) (n : Int) (c : List Stf) : Int × Int := match c.getLast? with
  | some (.keep m) => if x.1 < n + (c.length : Int) - 1 then (n + (c.length : Int) - 1, m) else x
  | _ => x
def TabsAt (H : Hp) (T : Tabs) (Lf : Str → List Row) (kvs : List (Key × V)) : Prop := Paired (fun (t : Str × Cols) kv => kv.1 = Sum.inr t.1 ∧ ∃ a, kv.2 = V.ref a ∧ RowsAt H (Lf t.1) a) T kvs
theorem TabsAt.same {H H' : Hp} (k : Same H H') {T : Tabs} {Lf : Str → List Row} {kvs : List (Key × V)} (h : TabsAt H T Lf kvs) : TabsAt H' T Lf kvs := paired_imp h fun _ _ ⟨e, a, e2, r⟩ => ⟨e, a, e2, r.same k⟩
/-- the tuple of the tables, the last number, the keeps -/
def DueT (H : Hp) (q : Addr) (T : Tabs) (Lf : Str → List Row) (x : Int × Int) : Prop := ∃ a kvs, H q = some (.tup [.ref a, .int x.1, .int x.2]) ∧ H a = some (.dK kvs) ∧ TabsAt H T Lf kvs
theorem DueT.same {H H' : Hp} (k : Same H H') {q : Addr} {T : Tabs} {Lf : Str → List Row} {x : Int × Int} : DueT H q T Lf x → DueT H' q T Lf x := fun ⟨a, kvs, h1, h2, h3⟩ => ⟨a, kvs, k _ _ h1, k _ _ h2, h3.same k⟩
/-- what is seen of a disk -/
def SeenL (T : Tabs) (n : Int) (c : List Stf) (pg : Nat → Option Pg) (Lf : Str → List Row) : Prop :=
  ∀ k t cs, T[k]? = some (t, cs) → Lists (repE t (newP pg k).2.last (ents n c) (rowsF t (newP pg k).2.rows)) (Lf t) ∧ (Lf t).length < 64
def sp_numbers_now (K : PySem.W.Frag) : Sp := fun vs H Q _ => ∃ p lr lp d s T n c j torn pg b, vs = [.ref p, .ref s, .ref b] ∧ DiskAt (DkC K) H p lr lp d ∧ SchAt (ScC K) H s T ∧ Vw T d n c j torn pg ∧ EntsAt H (ents n c) b ∧
  ∀ H' q, Same H H' → H' q = some (.tup [.int (numsN (numsM pg T.length) n c).1, .int (numsN (numsM pg T.length) n c).2]) → Q (.ref q) H'
def sp_seen (K : PySem.W.Frag) : Sp := fun vs H Q _ => ∃ p lr lp d s T n c j torn pg Lf, vs = [.ref p, .ref s] ∧ DiskAt (DkC K) H p lr lp d ∧ SchAt (ScC K) H s T ∧ Vw T d n c j torn pg ∧ SeenL T n c pg Lf ∧
  ∀ H' q, Same H H' → DueT H' q T Lf (numsN (numsM pg T.length) n c) → Q (.ref q) H'
def sp_come_up (K : PySem.W.Frag) : Sp := fun vs H Q E => ∃ p lr lp d s T n c j torn pg Lf, vs = [.ref p, .ref s] ∧ DiskAt (DkC K) H p lr lp d ∧ SchAt (ScC K) H s T ∧ Vw T d n c j torn pg ∧ SeenL T n c pg Lf ∧
  ((j = [] ∧ torn = []) → ∀ H' q, Same H H' → DueT H' q T Lf (numsN (numsM pg T.length) n c) → Q (.ref q) H') ∧
  (¬ (j = [] ∧ torn = []) → (d.down = true → ∀ H', Same H H' → E (FlC K) none H') ∧
    (d.down = false → ∀ H' lr', Bt3 p lr lp H H' → (lr' = lr ∨ H lr' = none) → DiskAt (DkC K) H' p lr' lp (d.cutTo (logT n c [])) →
      (d.sig = none → ∀ H'' q, Same H' H'' → DueT H'' q T Lf (numsN (numsM pg T.length) n c) → Q (.ref q) H'') ∧ (d.sig ≠ none → E (FlC K) none H')))
def sp_trim_log (K : PySem.W.Frag) : Sp := fun vs H Q E => ∃ p lr lp d s T n c j torn pg m, vs = [.ref p, .ref s] ∧ DiskAt (DkC K) H p lr lp d ∧ SchAt (ScC K) H s T ∧ Vw T d n c j torn pg ∧ m ≤ (c ++ j).length ∧
  (∀ l0 : Int, (∃ k, k < T.length ∧ l0 = (newP pg k).2.last) → (∀ k, k < T.length → l0 ≤ (newP pg k).2.last) → ∀ i, i < (c ++ j).length → (n + (i : Int) ≤ l0 ↔ i < m)) ∧
  (m = 0 → ∀ H', Same H H' → Q (.int 0) H') ∧
  (0 < m → (d.down = true → ∀ H', Same H H' → E (FlC K) none H') ∧
    (d.down = false → ∀ H' lr', Bt3 p lr lp H H' → (lr' = lr ∨ H lr' = none) → DiskAt (DkC K) H' p lr' lp (d.cutTo (d.rows.drop m)) → (d.sig = none → Q (.int ((m : Nat) : Int)) H') ∧ (d.sig ≠ none → E (FlC K) none H')))
theorem keep_last {c : List Stf} (h : KeepEnd c) (hne : c ≠ []) : ∃ j m, c.length = j + 1 ∧ c[j]? = some (.keep m) ∧ c.getLast? = some (.keep m) := by
  rcases h with rfl | ⟨h, m, rfl⟩
  · exact absurd rfl hne
  · refine ⟨h.length, m, by rw [List.length_append]; rfl, ?_, by rw [List.getLast?_append]; rfl⟩
    rw [List.getElem?_append_right (Nat.le_refl _), Nat.sub_self]
    rfl
section
variable {P : Program} {w : World} {K : PySem.W.Frag} {mg : Str → Option Value} {base : Heap} {fd : FuncData}
theorem sc_numbers_now : FnScope ["disk", "schema", "stuffs", "last", "many", "table", "page"] ["disk", "schema", "stuffs"] d_numbers_now.scope := ⟨rfl, rfl, rfl, by decide +kernel, rfl, by decide +kernel, by decide +kernel⟩
theorem ok_numbers_now (T : Tx K mg) (F : Fd K d_numbers_now fd) (D_newest : Df P w K mg base CX0 6 "newest" ["disk", "schema", "table"] (sp_newest K)) (M_table_names : Md P w K mg base CX0 1 (ScC K) "table_names" ["self"] (sp_table_names K)) :
    FnOk P w K mg base CX0 7 (He.fAd K d_numbers_now.at_) fd ["disk", "schema", "stuffs"] (sp_numbers_now K) := by
  refine ok0 F sc_numbers_now (fun vs H Q E h => ?_) (fun cdv A outer s H vs Q E hr h => ?_)
  · obtain ⟨_, _, _, _, _, _, _, _, _, _, _, _, rfl, _⟩ := h
    rfl
  · obtain ⟨p, lr, lp, d, s, Tb, n, c, j, torn, pg, b, rfl, D, S, v, ⟨ys, hys, hpy⟩, k⟩ := h
    obtain ⟨dxs, dc, ko, kvs0, hs1, _, _⟩ := S.at_
    have lys : ys.length = c.length := by
      rw [← paired_len hpy, ents_len]
    refine ⟨_, (pss_cons (ps_set (i := 3) sc_numbers_now.nd rfl (Or.inl rfl) pe_int)
    (pss_cons (ps_set (i := 4) sc_numbers_now.nd rfl (Or.inl rfl) pe_int)
    (pss_cons (ps_for PassesOwn.never rfl (pi_list (pe_md0 M_table_names (hr.mono (by decide)) pass0 (pv 1))) (pg_name (i := 5) sc_numbers_now.nd rfl (Or.inl rfl)) (pss_cons (ps_set (i := 6) sc_numbers_now.nd rfl (Or.inl rfl) (pe_df D_newest (hr.mono (by decide)) pass0 (pa_cons (pv 0) (pa_cons (pv 1) (pa_cons (pv 5) pa_nil)))))
    (pss_one (ps_if (pt_cmpR op_gt (pe_ix ix_tup (pv 6) pe_int (fun _ _ => rfl)) (pv 3) (nomark _)) (pss_one (ps_asg (pe_slice sl_tup (pv 6) (po_some pe_int) (po_some pe_int)) (pg_tup rfl (pgs_cons (pg_name (i := 3) sc_numbers_now.nd rfl (Or.inl rfl)) (pgs_cons (pg_name (i := 4) sc_numbers_now.nd rfl (Or.inl rfl)) pgs_nil))))) pss_nil))))
    (pss_cons (ps_if (PW.pt (pw_and (pt_cmpR (op_neNil hr.units) (pv 2) (pe_lst pa_nil) (nomark _)) (pw_and1 (pt_cmpR op_gt (pe_ix ix_tup (pe_ix ix_list (pv 2) (pe_un un_neg pe_int) (fun _ _ => rfl)) pe_int (fun _ _ => rfl)) (pv 3) (nomark _))))) (pss_cons (ps_set (i := 3) sc_numbers_now.nd rfl (Or.inl rfl) (pe_ix ix_tup (pe_ix ix_list (pv 2) (pe_un un_neg pe_int) (fun _ _ => rfl)) pe_int (fun _ _ => rfl)))
    (pss_one (ps_set (i := 4) sc_numbers_now.nd rfl (Or.inl rfl) (pe_ix ix_tup (pe_ix ix_tup (pe_ix ix_list (pv 2) (pe_un un_neg pe_int) (fun _ _ => rfl)) pe_int (fun _ _ => rfl)) pe_int (fun _ _ => rfl))))) pss_nil)
    (pss_one (ps_ret (pe_tup (pa_cons (pv 3) (pa_cons (pv 4) pa_nil))))))))), ?_⟩
    refine ⟨_, rfl, s, dxs, _, rfl, hs1, rfl, s, Tb, rfl, S, fun nl hnl => ?_⟩
    have s1 := Same.new (o := .lst (Tb.map fun t => V.str t.1)) hnl
    refine ⟨nl, rfl, ⟨_, SqL.of upd_same⟩, for_it (walk_list (xs := Tb.map fun t => V.str t.1)) (fun i σ H' => ∃ u w', σ = [some (.ref p), some (.ref s), some (.ref b), some (.int (numsM pg i).1), some (.int (numsM pg i).2), u, w'] ∧ Same (upd H nl (.lst (Tb.map fun t => V.str t.1))) H')
      ⟨_, _, rfl, Same.refl _⟩ (fun i σ H' _ ⟨_, _, _, e⟩ => SqL.of (e _ _ upd_same)) ?_ ?_⟩
    · rintro i x σ H1 H2 hi ⟨u, w', rfl, s2⟩ ⟨rfl, hix⟩
      rw [List.getElem?_map] at hix
      cases q : Tb[i]? with
      | none =>
        rw [q] at hix
        cases hix
      | some tc =>
        obtain ⟨t, cs⟩ := tc
        rw [q] at hix
        obtain rfl := Option.some.inj hix
        obtain ⟨hS0, hS1⟩ := v.slots i t cs q
        have s12 := s1.trans s2
        refine ⟨_, rfl, _, rfl, _, rfl, p, lr, lp, d, s, Tb, i, t, cs, pg (2 * i), pg (2 * i + 1), rfl, D.same s12, S.same s12, q, hS0, hS1, fun H3 q3 s3 ⟨l, hq3, _⟩ => ?_⟩
        refine ⟨_, rfl, q3, _, 1, _, rfl, rfl, SqT.of hq3, at1, _, rfl, _, _, rfl, rfl, _, rfl, ?_⟩
        by_cases hlt : (numsM pg i).1 < ((newP pg i).2.last : Int)
        · have e : numsM pg (i + 1) = (((newP pg i).2.last : Int), (newP pg i).2.many) := by
            show (if _ then _ else _) = _
            rw [if_pos hlt]
          refine if_t (decide_eq_true hlt) ?_
          refine ⟨_, rfl, _, rfl, _, rfl, q3, _, rfl, SqT.of hq3, fun z => absurd z.1 (by decide : ¬ (1 = 0)), fun q4 hq4 => ?_⟩
          refine ⟨q4, [.int (newP pg i).2.last, .int (newP pg i).2.many], rfl, SqT.of (by rw [upd_same]; rfl), rfl, _, _, rfl, _, _, rfl, rfl, ?_⟩
          refine ⟨some (.str t), some (.ref q3), ?_, (s2.trans s3).trans (Same.new hq4)⟩
          rw [e]
          rfl
        · have e : numsM pg (i + 1) = numsM pg i := by
            show (if _ then _ else _) = _
            rw [if_neg hlt]
          refine if_f (decide_eq_false hlt) ?_
          refine ⟨some (.str t), some (.ref q3), ?_, s2.trans s3⟩
          rw [e]
          rfl
    rintro σ H1 ⟨u, w', rfl, s2⟩
    rw [List.length_map]
    have s12 := s1.trans s2
    have hys1 := s12 _ _ hys
    have hpy1 := paired_imp hpy fun _ _ => EntAt.ts s12.ts
    refine ⟨_, rfl, Nat.zero_le _, fun e he => ?_⟩
    have se := Same.new (o := .lst []) he
    refine ⟨b, e, ys, rfl, rfl, SqL.of (se _ _ hys1), SqL.of upd_same, _, rfl, ?_⟩
    have same : numsN (numsM pg Tb.length) n c = numsM pg Tb.length → ∀ H2, Same H1 H2 → (tRet (tTup (tCons (tVar 3) (tCons (tVar 4) tNil))) : L2.TS) { nx := fun _ H' => Q .non H', rt := Q }
        [some (.ref p), some (.ref s), some (.ref b), some (.int (numsM pg Tb.length).1), some (.int (numsM pg Tb.length).2), u, w'] H2 := fun e H2 s3 => by
      refine ⟨_, rfl, _, rfl, two_small, fun q hq => k _ q ((s12.trans s3).trans (Same.new hq)) ?_⟩
      rw [e]
      exact upd_same
    by_cases hc : c = []
    · have hy0 : ys = [] := by
        rw [hc] at lys
        exact List.length_eq_zero_iff.mp lys
      rw [hy0]
      refine iteF (iteF ?_)
      refine same ?_ _ se
      rw [hc]
      rfl
    · obtain ⟨i, m, hl, hi, hg⟩ := keep_last v.ke hc
      have hyne : (!ys.isEmpty) = true := by
        cases ys with
        | nil =>
          rw [List.length_nil, hl] at lys
          cases lys
        | cons _ _ => rfl
      refine if_t hyne ?_
      have hei : (ents n c)[i]? = some (n + (i : Int), .keep m) := by
        rw [ents_at, hi]
        rfl
      obtain ⟨y, hy, a, wv, rfl, ha, hw⟩ := paired_at hpy1 hei
      obtain ⟨a2, rfl, ha2⟩ := hw
      have lyi : ys.length = i + 1 := by omega
      have ei : n + (c.length : Int) - 1 = n + (i : Int) := by omega
      refine ⟨_, rfl, _, rfl, b, ys, -1, _, rfl, rfl, SqL.of (se _ _ hys1), atI_end lyi hy, a, _, 0, _, rfl, rfl, SqT.of (se _ _ ha), at0, _, rfl, _, _, rfl, rfl, _, rfl, ?_⟩
      by_cases hlt : (numsM pg Tb.length).1 < n + (i : Int)
      · refine if_t (decide_eq_true hlt) ?_
        refine ⟨_, rfl, _, rfl, b, ys, -1, _, rfl, rfl, SqL.of (se _ _ hys1), atI_end lyi hy, a, _, 0, _, rfl, rfl, SqT.of (se _ _ ha), at0, ?_⟩
        refine ⟨_, rfl, _, rfl, b, ys, -1, _, rfl, rfl, SqL.of (se _ _ hys1), atI_end lyi hy, a, _, 1, _, rfl, rfl, SqT.of (se _ _ ha), at1, a2, _, 1, _, rfl, rfl, SqT.of (se _ _ ha2), at1, ?_⟩
        refine ⟨_, rfl, _, rfl, two_small, fun q hq => k _ q ((s12.trans se).trans (Same.new hq)) ?_⟩
        have en : numsN (numsM pg Tb.length) n c = (n + (i : Int), m) := by
          unfold numsN
          rw [hg]
          simp only
          rw [ei, if_pos hlt]
        rw [en]
        exact upd_same
      · refine if_f (decide_eq_false hlt) ?_
        refine same ?_ _ se
        unfold numsN
        rw [hg]
        simp only
        rw [ei, if_neg hlt]
theorem sc_seen : FnScope ["disk", "schema", "stuffs", "tables", "table", "last", "many"] ["disk", "schema"] d_seen.scope := ⟨rfl, rfl, rfl, by decide +kernel, rfl, by decide +kernel, by decide +kernel⟩
theorem ok_seen (T : Tx K mg) (F : Fd K d_seen fd) (D_kept_stuff : Df P w K mg base CX0 8 "kept_stuff" ["disk", "schema"] (sp_kept_stuff K)) (D_table_now : Df P w K mg base CX0 7 "table_now" ["disk", "schema", "table", "stuffs"] (sp_table_now K))
    (D_numbers_now : Df P w K mg base CX0 7 "numbers_now" ["disk", "schema", "stuffs"] (sp_numbers_now K)) (M_table_names : Md P w K mg base CX0 1 (ScC K) "table_names" ["self"] (sp_table_names K)) :
    FnOk P w K mg base CX0 9 (He.fAd K d_seen.at_) fd ["disk", "schema"] (sp_seen K) := by
  refine ok0 F sc_seen (fun vs H Q E h => ?_) (fun cdv A outer s H vs Q E hr h => ?_)
  · obtain ⟨_, _, _, _, _, _, _, _, _, _, _, _, rfl, _⟩ := h
    rfl
  · obtain ⟨p, lr, lp, d, s, Tb, n, c, j, torn, pg, Lf, rfl, D, S, v, hL, k⟩ := h
    have hu := hu_of hr
    obtain ⟨dxs, dc, ko, kvs0, hs1, _, _⟩ := S.at_
    refine ⟨_, (pss_cons (ps_set (i := 2) sc_seen.nd rfl (Or.inl rfl) (pe_df D_kept_stuff (hr.mono (by decide)) pass0 (pa_cons (pv 0) (pa_cons (pv 1) pa_nil))))
    (pss_cons (ps_set (i := 3) sc_seen.nd rfl (Or.inl rfl) pe_dnewK)
    (pss_cons (ps_for PassesOwn.never rfl (pi_list (pe_md0 M_table_names (hr.mono (by decide)) pass0 (pv 1))) (pg_name (i := 4) sc_seen.nd rfl (Or.inl rfl)) (pss_one (ps_dput hu (pv 3) (pv 4) (pe_df D_table_now (hr.mono (by decide)) pass0 (pa_cons (pv 0) (pa_cons (pv 1) (pa_cons (pv 4) (pa_cons (pv 2) pa_nil))))) rfl)))
    (pss_cons (ps_asg (pe_df D_numbers_now (hr.mono (by decide)) pass0 (pa_cons (pv 0) (pa_cons (pv 1) (pa_cons (pv 2) pa_nil)))) (pg_tup rfl (pgs_cons (pg_name (i := 5) sc_seen.nd rfl (Or.inl rfl)) (pgs_cons (pg_name (i := 6) sc_seen.nd rfl (Or.inl rfl)) pgs_nil))))
    (pss_one (ps_ret (pe_tup (pa_cons (pv 3) (pa_cons (pv 5) (pa_cons (pv 6) pa_nil)))))))))), ?_⟩
    refine ⟨_, rfl, _, rfl, p, lr, lp, d, s, Tb, n, c, j, torn, pg, rfl, D, S, v, fun H1 b s1 he => ?_⟩
    intro tb htb
    have s2 := s1.trans (Same.new (o := .dK []) htb)
    have htbH : H tb = none := s1.free htb
    refine ⟨_, rfl, s, dxs, _, rfl, s2 _ _ hs1, rfl, s, Tb, rfl, S.same s2, fun nl hnl => ?_⟩
    have ntn : tb ≠ nl := ne_of_none upd_same hnl
    have s3 := s2.trans (Same.new (o := .lst (Tb.map fun t => V.str t.1)) hnl)
    have heN := (he.same (Same.new (o := .dK []) htb)).same (Same.new (o := .lst (Tb.map fun t => V.str t.1)) hnl)
    have htbN : (upd (upd H1 tb (.dK [])) nl (.lst (Tb.map fun t => V.str t.1))) tb = some (.dK []) := by
      rw [upd_ne ntn]
      exact upd_same
    refine ⟨nl, rfl, ⟨_, SqL.of upd_same⟩, for_it (walk_list (xs := Tb.map fun t => V.str t.1)) (fun i σ H' => ∃ kvs u, σ = [some (.ref p), some (.ref s), some (.ref b), some (.ref tb), u, none, none] ∧ Same H H' ∧ H' nl = some (.lst (Tb.map fun t => V.str t.1)) ∧ EntsAt H' (ents n c) b ∧
      H' tb = some (.dK kvs) ∧ TabsAt H' (Tb.take i) Lf kvs) ⟨[], _, rfl, s3, upd_same, heN, htbN, .nil⟩ (fun i σ H' _ ⟨_, _, _, _, e, _⟩ => SqL.of e) ?_ ?_⟩
    · rintro i x σ H2 H3 hi ⟨kvs, u, rfl, s4, hnl4, he4, ht4, hp4⟩ ⟨rfl, hix⟩
      rw [List.getElem?_map] at hix
      cases q : Tb[i]? with
      | none =>
        rw [q] at hix
        cases hix
      | some tc =>
        obtain ⟨t, cs⟩ := tc
        rw [q] at hix
        obtain rfl := Option.some.inj hix
        obtain ⟨hLi, h64⟩ := hL i t cs q
        refine ⟨_, rfl, _, rfl, _, rfl, _, rfl, p, lr, lp, d, s, Tb, n, c, j, torn, pg, i, t, cs, b, Lf t, rfl, D.same s4, S.same s4, v, q, he4, hLi, h64, fun H4 q4 s5 hr4 => ?_⟩
        have ht5 := s5 _ _ ht4
        have lk : kvs.length = i := by
          rw [← paired_len hp4, List.length_take]
          have := (List.getElem?_eq_some_iff.mp q).1
          omega
        have i4 : i < 4 := by
          have h1 := (List.getElem?_eq_some_iff.mp q).1
          have h2 : List.length Tb ≤ 4 := S.ok.len.2
          omega
        have hnone : valV kvs (Sum.inr t) = none := by
          cases e : valV kvs (Sum.inr t) with
          | none => rfl
          | some y =>
            obtain ⟨kv, hkv, ekv⟩ := List.mem_map.mp (valV_in e)
            obtain ⟨m, hm⟩ := List.getElem?_of_mem hkv
            obtain ⟨tc, htc, e1, _⟩ := paired_at2 hp4 hm
            rw [ekv] at e1
            have e2 : t = tc.1 := Sum.inr.inj e1
            rw [List.getElem?_take] at htc
            split at htc
            · rename_i hmi
              have := tab_nd S.ok q htc e2
              omega
            · cases htc
        refine ⟨_, rfl, _, rfl, tb, _, rfl, .inl ⟨kvs, Sum.inr t, ht5, rfl, small1000 (by omega), rfl⟩, ?_⟩
        have key : ∀ (e : Addr) (o : HO), H4 e = some o → (∀ z, o ≠ .dK z) → (upd H4 tb (.dK (putK kvs (Sum.inr t) (.ref q4)))) e = some o := fun e o he no => by
          rw [upd_ne fun z => by subst z; rw [ht5] at he; exact no _ (Option.some.inj he).symm]
          exact he
        have ts : TS H4 (upd H4 tb (.dK (putK kvs (Sum.inr t) (.ref q4)))) := fun e zs he => key e _ he fun z => by intro y; cases y
        have rowsK : ∀ rows l, RowsAt H4 rows l → RowsAt (upd H4 tb (.dK (putK kvs (Sum.inr t) (.ref q4)))) rows l := fun rows l ⟨xs, h1, h2⟩ => ⟨xs, key _ _ h1 (fun z => by intro y; cases y), paired_imp h2 fun _ _ => RowAt.ts ts⟩
        have ek : putK kvs (Sum.inr t) (.ref q4) = kvs ++ [(Sum.inr t, .ref q4)] := putK_new _ hnone
        rw [ek] at key ts rowsK ⊢
        refine ⟨_, _, rfl, Same.mut (s4.trans s5) htbH, key _ _ (s5 _ _ hnl4) (fun z => by intro y; cases y), ?_, upd_same, ?_⟩
        · obtain ⟨xs, h1, h2⟩ := he4.same s5
          exact ⟨xs, key _ _ h1 (fun z => by intro y; cases y), paired_imp h2 fun _ _ => EntAt.ts ts⟩
        · show Paired _ _ _
          rw [take_snoc q]
          refine paired_snoc (paired_imp (TabsAt.same s5 hp4) fun _ _ ⟨e, a, e2, r⟩ => ⟨e, a, e2, rowsK _ _ r⟩) ⟨rfl, q4, rfl, rowsK _ _ hr4⟩
    rintro σ H2 ⟨kvs, u, rfl, s4, hnl4, he4, ht4, hp4⟩
    rw [List.length_map, List.take_length] at hp4
    refine ⟨_, rfl, _, rfl, _, rfl, p, lr, lp, d, s, Tb, n, c, j, torn, pg, b, rfl, D.same s4, S.same s4, v, he4, fun H3 q s5 hq => ?_⟩
    refine ⟨q, _, rfl, SqT.of hq, rfl, _, _, rfl, _, _, rfl, rfl, ?_⟩
    refine ⟨_, rfl, _, rfl, _, rfl, (by show 3 ≤ sizeLine; decide), fun r hr => ?_⟩
    refine k _ r ((s4.trans s5).trans (Same.new hr)) ⟨tb, kvs, upd_same, (Same.new hr) _ _ (s5 _ _ ht4), TabsAt.same (s5.trans (Same.new hr)) hp4⟩
end
end Fl

set_option Elab.async false
set_option linter.all false
set_option maxRecDepth 100000
set_option maxHeartbeats 1000000
/-! Coming up, trimming. -/
namespace Fl
open PySem PySem.Spec PyProof.Rows L2
open TL (tl)
theorem cutTo_pages (d : Dk) (r : List Str) : (d.cutTo r).pages = d.pages := by
  unfold Dk.cutTo
  split
  · exact (come_pages d).1
  · split
    · exact (come_pages d).1
    · exact (come_pages d).1
theorem cutTo_rows {d : Dk} (h : d.sig = none) (r : List Str) : (d.cutTo r).rows = r := by
  unfold Dk.cutTo
  rw [h]
theorem logT_take (n : Int) (c j : List Stf) (torn : List Str) : (logT n (c ++ j) torn).take c.length = logT n c [] := by
  unfold logT
  rw [List.append_nil, List.take_append_of_le_length, ← List.map_take, ents_take, List.take_left]
  rw [List.length_map, ents_len, List.length_append]
  omega
theorem LogOk.keepOnly {T : Tabs} {n : Int} {c j : List Stf} {torn : List Str} (h : LogOk T n (c ++ j) torn) : LogOk T n (c ++ []) [] where
  ok := fun s hs => h.ok s (by
    rw [List.append_nil] at hs
    exact List.mem_append_left _ hs)
  lo := h.lo
  hi := by
    have := h.hi
    rw [List.length_append] at this
    rw [List.append_nil]
    omega
  tn := .inl rfl
  few := by
    have := h.few
    rw [List.length_append] at this
    rw [List.append_nil]
    omega
section
variable {P : Program} {w : World} {K : PySem.W.Frag} {mg : Str → Option Value} {base : Heap} {fd : FuncData}
theorem sc_come_up : FnScope ["disk", "schema", "texts", "many"] ["disk", "schema"] d_come_up.scope := ⟨rfl, rfl, rfl, by decide +kernel, rfl, by decide +kernel, by decide +kernel⟩
theorem ok_come_up (T : Tx K mg) (F : Fd K d_come_up fd) (D_kept_many_rows : Df P w K mg base CX0 7 "kept_many_rows" ["schema", "texts"] (sp_kept_many_rows K)) (D_seen : Df P w K mg base CX0 9 "seen" ["disk", "schema"] (sp_seen K))
    (M_log_rows : Md P w K mg base CX0 1 (DkC K) "log_rows" ["self"] (sp_log_rows K)) (M_cut_tail : Md P w K mg base (L2.CX P w) 3 (DkC K) "cut_tail" ["self", "many"] (sp_cut_tail K)) :
    FnOk P w K mg base (L2.CX P w) 10 (He.fAd K d_come_up.at_) fd ["disk", "schema"] (sp_come_up K) := by
  refine okX F sc_come_up (fun vs H Q E h => ?_) (fun cdv A outer s H vs Q E hr h => ?_)
  · obtain ⟨_, _, _, _, _, _, _, _, _, _, _, _, rfl, _⟩ := h
    rfl
  · obtain ⟨p, lr, lp, d, s, Tb, n, c, j, torn, pg, Lf, rfl, D, S, v, hL, k1, k2⟩ := h
    obtain ⟨dx, dv, hd1, _⟩ := D.ob
    refine ⟨_, (pss_cons (ps_set (i := 2) sc_come_up.nd rfl (Or.inl rfl) (pe_md0 M_log_rows (hr.mono (by decide)) pass0 (pv 0)))
    (pss_cons (ps_set (i := 3) sc_come_up.nd rfl (Or.inl rfl) (pe_df D_kept_many_rows (hr.mono (by decide)) pass0 (pa_cons (pv 1) (pa_cons (pv 2) pa_nil))))
    (pss_cons (ps_if (pt_cmpR op_lt (pv 3) (pe_callB call_len_seq (by rfl) T.f_len PySem.boot_len (pa_cons (pv 2) pa_nil)) (nomark _)) (pss_one (ps_expr (pe_md M_cut_tail (hr.mono (by decide)) (passes_call (takes_of rfl rfl rfl rfl) (fun _ _ _ _ h => h)) (pv 0) (pa_cons (pv 3) pa_nil)))) pss_nil)
    (pss_one (ps_ret (pe_df D_seen (hr.mono (by decide)) pass0 (pa_cons (pv 0) (pa_cons (pv 1) pa_nil)))))))), ?_⟩
    refine ⟨_, rfl, p, dx, _, rfl, hd1, dfl_no (by decide +kernel) (by decide +kernel) (by decide +kernel) (by decide +kernel) (by decide +kernel), p, lr, lp, d, rfl, D, fun b hb => ?_⟩
    have s1 := Same.new (o := .lst (d.rows.map V.str)) hb
    have hb1 : (upd H b (.lst (d.rows.map V.str))) b = some (.lst ((logT n (c ++ j) torn).map V.str)) := by
      rw [upd_same, v.rows]
    refine ⟨_, rfl, _, rfl, s, Tb, b, n, c ++ j, torn, rfl, S.same s1, v.log, hb1, fun H1 s2 => ?_⟩
    rw [km_kept v.ke v.nk]
    have s12 := s1.trans s2
    refine ⟨_, rfl, _, rfl, b, _, rfl, .inl (SqL.of (s2 _ _ hb1)), _, _, rfl, rfl, _, rfl, ?_⟩
    have hlen : (((logT n (c ++ j) torn).map V.str).length : Int) = c.length + j.length + torn.length := by
      rw [List.length_map, logT_len, List.length_append]
      omega
    rw [hlen]
    by_cases hz : j = [] ∧ torn = []
    · obtain ⟨rfl, rfl⟩ := hz
      refine if_f (decide_eq_false (by simp only [List.length_nil]; omega)) ?_
      refine ⟨_, rfl, _, rfl, p, lr, lp, d, s, Tb, n, c, [], [], pg, Lf, rfl, D.same s12, S.same s12, v, hL, fun H2 q s3 hq => k1 ⟨rfl, rfl⟩ _ _ (s12.trans s3) hq⟩
    · have hpos : 0 < j.length + torn.length := by
        rcases Nat.eq_zero_or_pos (j.length + torn.length) with e | e
        · exact absurd ⟨List.length_eq_zero_iff.mp (by omega), List.length_eq_zero_iff.mp (by omega)⟩ hz
        · exact e
      obtain ⟨kx, k⟩ := k2 hz
      have D1 := D.same s12
      refine if_t (decide_eq_true (by omega)) ?_
      refine ⟨_, rfl, p, dx, _, rfl, s12 _ _ hd1, dfl_no (by decide +kernel) (by decide +kernel) (by decide +kernel) (by decide +kernel) (by decide +kernel), _, rfl, p, lr, lp, d, c.length, rfl, D1, fun hd H2 s3 => kx hd _ (s12.trans s3), fun hd H2 lr' bt hlr D2 => ?_⟩
      have e : d.rows.take c.length = logT n c [] := by
        rw [v.rows]
        exact logT_take n c j torn
      rw [e] at D2
      have hlr' : lr' = lr ∨ H lr' = none := hlr.imp id fun z => s12.free z
      obtain ⟨ka, kb⟩ := k hd H2 lr' (s12.bt3.trans bt) hlr' D2
      refine ⟨fun hs => ?_, kb⟩
      have S2 := SchAt.bt3 D1 bt (S.same s12)
      have v2 : Vw Tb (d.cutTo (logT n c [])) n c [] [] pg := ⟨by rw [cutTo_rows hs, List.append_nil], v.log.keepOnly, v.ke, fun _ h => absurd h (List.not_mem_nil), fun kk t cs h => by rw [cutTo_pages]; exact v.slots kk t cs h⟩
      exact ⟨_, rfl, _, rfl, p, lr', lp, _, s, Tb, n, c, [], [], pg, Lf, rfl, D2, S2, v2, hL, fun H3 q s3 hq => ka hs _ q s3 hq⟩
theorem sc_trim_log : FnScope ["disk", "schema", "least", "table", "many", "number", "stuff"] ["disk", "schema"] d_trim_log.scope := ⟨rfl, rfl, rfl, by decide +kernel, rfl, by decide +kernel, by decide +kernel⟩
theorem ok_trim_log (T : Tx K mg) (F : Fd K d_trim_log fd) (D_newest : Df P w K mg base CX0 6 "newest" ["disk", "schema", "table"] (sp_newest K)) (D_whole_rows : Df P w K mg base CX0 6 "whole_rows" ["schema", "texts"] (sp_whole_rows K))
    (M_table_names : Md P w K mg base CX0 1 (ScC K) "table_names" ["self"] (sp_table_names K)) (M_log_rows : Md P w K mg base CX0 1 (DkC K) "log_rows" ["self"] (sp_log_rows K)) (M_cut_head : Md P w K mg base (L2.CX P w) 3 (DkC K) "cut_head" ["self", "many"] (sp_cut_head K)) :
    FnOk P w K mg base (L2.CX P w) 7 (He.fAd K d_trim_log.at_) fd ["disk", "schema"] (sp_trim_log K) := by
  refine okX F sc_trim_log (fun vs H Q E h => ?_) (fun cdv A outer s H vs Q E hr h => ?_)
  · obtain ⟨_, _, _, _, _, _, _, _, _, _, _, _, rfl, _⟩ := h
    rfl
  · obtain ⟨p, lr, lp, d, s, Tb, n, c, j, torn, pg, m, rfl, D, S, v, hm, hcut, k0, k1⟩ := h
    obtain ⟨dxs, dc, ko, kvs0, hs1, _, _⟩ := S.at_
    have T4 : Tb.length ≤ 4 := S.ok.len.2
    have T1 : 1 ≤ Tb.length := S.ok.len.1
    refine ⟨_, (pss_cons (ps_set (i := 2) sc_trim_log.nd rfl (Or.inr rfl) (pe_callB (cr_min rfl) (by rfl) T.f_min (by decide +kernel) (pa_cons (pe_lc (own := [("table", 3)]) (g := gName 3) (tt := tYes) (te := tOp (rIxT K) (tCall (sp_newest K) [] E0 (tCons (tVar 0) (tCons (tVar 1) (tCons (tVar 3) tNil)))) (tC (.int 1))) rfl sc_trim_log.nd (pi_list (pe_md0 M_table_names (hr.mono (by decide)) pass0 (pv 1))) (blkOk_by (N := ["disk", "schema", "least", "table", "many", "number", "stuff"]) (sc := d_trim_log.scope) (by decide +kernel)) (fun _ _ _ _ _ => (pg_name (i := 3) sc_trim_log.nd rfl (Or.inl rfl))) (fun _ _ _ _ _ => pts_nil) (fun _ _ _ _ _ => (pe_ix ix_tup (pe_df D_newest (hr.mono (by decide)) pass0 (pa_cons (pv 0) (pa_cons (pv 1) (pa_cons (pv 3) pa_nil)))) pe_int (fun _ _ => rfl)))) pa_nil)))
    (pss_cons (ps_set (i := 4) sc_trim_log.nd rfl (Or.inl rfl) (pe_callB call_len_seq (by rfl) T.f_len PySem.boot_len (pa_cons (pe_lc (own := [("number", 5), ("stuff", 6)]) (g := gTup K 2 (gCons (gName 5) (gCons (gName 6) gNil))) (tt := tTest (tOp (rI0 fun i j => .bl (decide (i ≤ j))) (tVar 5) (tVar 2))) (te := tVar 5) rfl sc_trim_log.nd (pi_list (pe_df D_whole_rows (hr.mono (by decide)) pass0 (pa_cons (pv 1) (pa_cons (pe_md0 M_log_rows (hr.mono (by decide)) pass0 (pv 0)) pa_nil)))) (blkOk_by (N := ["disk", "schema", "least", "table", "many", "number", "stuff"]) (sc := d_trim_log.scope) (by decide +kernel)) (fun _ _ _ _ _ => (pg_tup rfl (pgs_cons (pg_name (i := 5) sc_trim_log.nd rfl (Or.inl rfl)) (pgs_cons (pg_name (i := 6) sc_trim_log.nd rfl (Or.inl rfl)) pgs_nil)))) (fun _ _ _ _ _ => (pts_one (pt_cmpR op_le (pv 5) (pv 2) (nomark _)))) (fun _ _ _ _ _ => (pv 5))) pa_nil)))
    (pss_cons (ps_if (pt_cmpR op_gt (pv 4) pe_int (nomark _)) (pss_one (ps_expr (pe_md M_cut_head (hr.mono (by decide)) (passes_call (takes_of rfl rfl rfl rfl) (fun _ _ _ _ h => h)) (pv 0) (pa_cons (pv 4) pa_nil)))) pss_nil)
    (pss_one (ps_ret (pv 4)))))), ?_⟩
    refine ⟨_, rfl, s, dxs, _, rfl, hs1, rfl, s, Tb, rfl, S, fun nl hnl => ?_⟩
    have s1 := Same.new (o := .lst (Tb.map fun t => V.str t.1)) hnl
    refine ⟨nl, rfl, ⟨_, SqL.of upd_same⟩, fun D0 hD0 => lc_it (walk_list (xs := Tb.map fun t => V.str t.1)) (fun i H' => Same H H' ∧ H' nl = some (.lst (Tb.map fun t => V.str t.1)) ∧ H' D0 = some (.lst (((List.range i).map fun k => ((newP pg k).2.last : Int)).map V.int)))
      ⟨s1.trans (Same.new hD0), (Same.new hD0) _ _ upd_same, upd_same⟩ (fun i H' _ ⟨_, e, _⟩ => SqL.of e) ?_ ?_⟩
    · rintro i x H1 H2 hi ⟨s2, hnl2, hD2⟩ ⟨rfl, hix⟩
      rw [List.getElem?_map] at hix
      cases q : Tb[i]? with
      | none =>
        rw [q] at hix
        cases hix
      | some tc =>
        obtain ⟨t, cs⟩ := tc
        rw [q] at hix
        obtain rfl := Option.some.inj hix
        obtain ⟨hS0, hS1⟩ := v.slots i t cs q
        refine ⟨rfl, tyes ?_⟩
        refine ⟨_, rfl, _, rfl, _, rfl, p, lr, lp, d, s, Tb, i, t, cs, pg (2 * i), pg (2 * i + 1), rfl, D.same s2, S.same s2, q, hS0, hS1, fun H3 q3 s3 ⟨l, hq3, _⟩ => ?_⟩
        refine ⟨q3, _, 1, _, rfl, rfl, SqT.of hq3, at1, _, s3 _ _ hD2, ?_, ?_⟩
        · rw [List.length_map, List.length_map, List.length_range]
          have : i < 4 := by
            have := (List.getElem?_eq_some_iff.mp q).1
            have e : List.length Tb = Tb.length := rfl
            omega
          exact small1000 (by omega)
        · refine ⟨Same.mut (s2.trans s3) (s1.free hD0), ?_, ?_⟩
          · rw [upd_ne (ne_of_none upd_same hD0)]
            exact s3 _ _ hnl2
          · rw [upd_same, List.range_succ, List.map_append, List.map_append]
            rfl
    rintro H1 ⟨s2, _, hD2⟩
    rw [List.length_map] at hD2
    refine ⟨D0, _, rfl, SqL.of hD2, ?_, fun l0 hl0 hmin => ?_⟩
    · rw [List.length_map, List.length_range]
      omega
    have hc := hcut l0 (by
      obtain ⟨k, hk, e⟩ := List.mem_map.mp hl0
      exact ⟨k, List.mem_range.mp hk, e.symm⟩) fun k hk => hmin _ (List.mem_map.mpr ⟨k, List.mem_range.mpr hk, rfl⟩)
    refine ⟨_, rfl, _, rfl, p, ?_⟩
    obtain ⟨dx, dv, hd1, _⟩ := (D.same s2).ob
    refine ⟨dx, _, rfl, hd1, dfl_no (by decide +kernel) (by decide +kernel) (by decide +kernel) (by decide +kernel) (by decide +kernel), p, lr, lp, d, rfl, D.same s2, fun b hb => ?_⟩
    have s3 := s2.trans (Same.new (o := .lst (d.rows.map V.str)) hb)
    have hb1 : (upd H1 b (.lst (d.rows.map V.str))) b = some (.lst ((logT n (c ++ j) torn).map V.str)) := by
      rw [upd_same, v.rows]
    refine ⟨s, Tb, b, n, c ++ j, torn, rfl, S.same s3, v.log, hb1, fun H2 q s4 nq ⟨xs, hx, hp⟩ => ?_⟩
    have s34 := s3.trans s4
    have lxs : xs.length = (c ++ j).length := by
      rw [← paired_len hp, ents_len]
    refine ⟨q, rfl, ⟨_, SqL.of hx⟩, fun E0 hE0 => lc_it (walk_list (xs := xs)) (fun i H' => Same H H' ∧ H' q = some (.lst xs) ∧ Paired (EntAt H') (ents n (c ++ j)) xs ∧ H' E0 = some (.lst ((List.range (min i m)).map fun (k : Nat) => V.int (n + (k : Int)))))
      ⟨s34.trans (Same.new hE0), (Same.new hE0) _ _ hx, paired_imp hp fun _ _ => EntAt.ts (Same.new hE0).ts, by rw [Nat.zero_min]; exact upd_same⟩ (fun i H' _ ⟨_, e, _⟩ => SqL.of e) ?_ ?_⟩
    · rintro i x H3 H4 hi ⟨s5, hx5, hp5, hE5⟩ ⟨rfl, hix⟩
      rw [lxs] at hi
      obtain ⟨e, he, a, wv, rfl, ha, _⟩ := paired_at2 hp5 hix
      rw [ents_at] at he
      obtain ⟨st, hst⟩ : ∃ st, (c ++ j)[i]? = some st := ⟨_, List.getElem?_eq_getElem hi⟩
      rw [hst] at he
      obtain rfl := Option.some.inj he
      refine ⟨a, _, rfl, SqT.of ha, rfl, _, _, rfl, _, _, rfl, rfl, rfl, ?_⟩
      refine ⟨_, rfl, _, rfl, _, _, rfl, rfl, _, rfl, ?_⟩
      by_cases him : i < m
      · have hle : n + (i : Int) ≤ l0 := (hc i hi).mpr him
        refine if_t (decide_eq_true hle) ?_
        refine ⟨_, rfl, _, hE5, ?_, Same.mut s5 (s34.free hE0), ?_, ?_, ?_⟩
        · have := v.log.few
          rw [List.length_map, List.length_range]
          have e : min i m ≤ 100000 := by omega
          exact Nat.lt_of_le_of_lt e (by decide)
        · rw [upd_ne (ne_of_none hx hE0)]
          exact hx5
        · refine paired_imp hp5 fun _ _ => EntAt.ts ?_
          intro bb zs hbb
          rw [upd_ne fun z => by subst z; rw [hE5] at hbb; cases hbb]
          exact hbb
        · have e1 : min i m = i := by omega
          have e2 : min (i + 1) m = i + 1 := by omega
          rw [upd_same, e1, e2, List.range_succ, List.map_append]
          rfl
      · have hle : ¬ n + (i : Int) ≤ l0 := fun z => him ((hc i hi).mp z)
        have e1 : min (i + 1) m = min i m := by omega
        refine if_f (decide_eq_false hle) ?_
        rw [e1]
        exact ⟨s5, hx5, hp5, hE5⟩
    rintro H3 ⟨s5, hx5, hp5, hE5⟩
    rw [lxs] at hE5
    have e1 : min (c ++ j).length m = m := by omega
    rw [e1] at hE5
    refine ⟨E0, _, rfl, .inl (SqL.of hE5), ?_⟩
    rw [List.length_map, List.length_range]
    refine ⟨_, rfl, _, _, rfl, rfl, _, rfl, ?_⟩
    rcases Nat.eq_zero_or_pos m with rfl | hpos
    · refine if_f (decide_eq_false (by omega)) ?_
      exact ⟨_, rfl, k0 rfl _ s5⟩
    · refine if_t (decide_eq_true (by omega)) ?_
      obtain ⟨kx, k⟩ := k1 hpos
      have D5 := D.same s5
      obtain ⟨dx, dv, hd1, _⟩ := D5.ob
      refine ⟨_, rfl, p, dx, _, rfl, hd1, dfl_no (by decide +kernel) (by decide +kernel) (by decide +kernel) (by decide +kernel) (by decide +kernel), _, rfl, p, lr, lp, d, m, rfl, D5, fun hd H4 s6 => kx hd _ (s5.trans s6), fun hd H4 lr' bt hlr D2 => ?_⟩
      have hlr' : lr' = lr ∨ H lr' = none := hlr.imp id fun z => s5.free z
      obtain ⟨ka, kb⟩ := k hd H4 lr' (s5.bt3.trans bt) hlr' D2
      exact ⟨fun hs => ⟨_, rfl, ka hs⟩, kb⟩
end
end Fl

set_option Elab.async false
set_option linter.all false
set_option maxRecDepth 100000
set_option maxHeartbeats 1000000
/-! A schema, made of lists. -/
namespace Fl
open PySem PySem.Spec PyProof.Rows L2
open TL (tl)
theorem _root_.L2.Room.u65 {k : Nat} {A : Around} (r : Room k A) : A.units + 65 < cLine := by
  have := r.un
  omega
/-- a table as it is told: a tuple of its name and a list of columns -/
def TabIn (H : Hp) (t : Str × Cols) (x : V) : Prop := ∃ q l xs, x = .ref q ∧ H q = some (.tup [.str t.1, .ref l]) ∧ H l = some (.lst xs) ∧ Paired (ColAt H) t.2 xs
theorem TabIn.same {H H' : Hp} (k : Same H H') {t : Str × Cols} {x : V} : TabIn H t x → TabIn H' t x := fun ⟨q, l, xs, e, h1, h2, h3⟩ => ⟨q, l, xs, e, k _ _ h1, k _ _ h2, paired_imp h3 fun _ _ => ColAt.ts k.ts⟩
/-- the orders are orders of the tables -/
structure OrdsOk (T : Tabs) (os : List Col) : Prop where
  few : os.length ≤ 4
  nd : os.Nodup
  ok : ∀ o ∈ os, ∃ cs, (o.1, cs) ∈ T ∧ o.2 ∈ (cs.drop 1).map (·.1)
def sp_is_row_of : Sp := fun vs H Q _ => ∃ a xs lo hi, vs = [.ref a, .int lo, .int hi] ∧ H a = some (.lst xs) ∧ lo ≤ (xs.length : Int) ∧ (xs.length : Int) ≤ hi ∧ ∀ H', Same H H' → Q (.bl true) H'
def sp_need_pair : Sp := fun vs H Q _ => ∃ q x y, vs = [.ref q] ∧ H q = some (.tup [x, y]) ∧ Q .non H
def sp_columns_in : Sp := fun vs H Q _ => ∃ a xs cs, vs = [.ref a] ∧ H a = some (.lst xs) ∧ Paired (ColAt H) cs xs ∧ ColsOk cs ∧ ∀ H' q, Same H H' → H' q = some (.tup xs) → Q (.ref q) H'
def sp_tables_in : Sp := fun vs H Q _ => ∃ a xs T, vs = [.ref a] ∧ H a = some (.lst xs) ∧ Paired (TabIn H) T xs ∧ TabsOk T ∧ ∀ H' q kvs, Same H H' → H' q = some (.dK kvs) → Paired (TabAt H') T kvs → Q (.ref q) H'
def sp_orders_in : Sp := fun vs H Q _ => ∃ a xs T os dc kvs, vs = [.ref a, .ref dc] ∧ H a = some (.lst xs) ∧ Paired (ColAt H) os xs ∧ TabsOk T ∧ H dc = some (.dK kvs) ∧ Paired (TabAt H) T kvs ∧ OrdsOk T os ∧ ∀ H' q, Same H H' → Q (.ref q) H'
def sp_S_init (K : PySem.W.Frag) : Sp := fun vs H Q _ => ∃ p dx a xs b ys T os, vs = [.ref p, .ref a, .ref b] ∧ H p = some (.ins (ScC K) dx []) ∧ H a = some (.lst xs) ∧ Paired (TabIn H) T xs ∧ TabsOk T ∧ H b = some (.lst ys) ∧ Paired (ColAt H) os ys ∧ OrdsOk T os ∧
  ∀ H', Bt p H H' → SchAt (ScC K) H' p T → Q .non H'
theorem ordD {K : PySem.W.Frag} {H : Hp} {os : List Col} {xs : List V} (h : Paired (ColAt H) os xs) : DpAll K H xs (os.map fun o => PyData.tuple [.str o.1, .str o.2]) := by
  induction h with
  | nil => exact .nil
  | cons r _ ih =>
    obtain ⟨q, rfl, hq⟩ := r
    exact .cons (.tup (SqT.of hq) (.cons (.str _) (.cons (.str _) .nil))) ih
theorem name_strOk {z : Str} (h : NameOk z) : PyData.strOk z = true := by
  unfold PyData.strOk
  rw [← Array.all_toList, List.all_eq_true]
  intro c hc
  have := (h.2.2 c hc).2
  exact decide_eq_true (by omega)
theorem ordS {os : List Col} (h : ∀ o ∈ os, NameOk o.1 ∧ NameOk o.2) : PyData.canLayAll0 (os.map fun o => PyData.tuple [.str o.1, .str o.2]) = true := by
  induction os with
  | nil => rfl
  | cons o r ih =>
    have := h o (List.mem_cons_self ..)
    rw [List.map_cons, PyData.canLayAll0, ih fun o' ho => h o' (List.mem_cons_of_mem _ ho), Bool.and_true]
    rw [PyData.canLay0, PyData.canLayAll0, PyData.canLayAll0, PyData.canLayAll0, PyData.canLay0, PyData.canLay0, name_strOk this.1, name_strOk this.2]
    rfl
theorem ordDep (os : List Col) : PyData.depthAll (os.map fun o => PyData.tuple [.str o.1, .str o.2]) ≤ 10 := by
  induction os with
  | nil => decide
  | cons o r ih =>
    rw [List.map_cons, PyData.depthAll]
    have : (PyData.tuple [.str o.1, .str o.2]).depth ≤ 10 := by
      simp [PyData.depth, PyData.depthAll]
    omega
theorem ordNo {os : List Col} {o : Col} (h : o ∉ os) : ((os.map fun o => PyData.tuple [.str o.1, .str o.2]).any fun z => PyData.eqv z (.tuple [.str o.1, .str o.2])) = false := by
  rw [List.any_eq_false]
  intro z hz
  obtain ⟨o', ho', rfl⟩ := List.mem_map.mp hz
  simp only [PyData.eqv, PyData.eqvAll, Bool.and_true, Bool.and_eq_true, beq_iff_eq]
  rintro ⟨e1, e2⟩
  apply h
  have : o' = o := Prod.ext e1 e2
  exact this ▸ ho'
theorem take_new {α β : Type} (f : α → β) {l : List α} (nd : (l.map f).Nodup) {i : Nat} {x : α} (h : l[i]? = some x) : f x ∉ (l.take i).map f := fun z => by
  obtain ⟨c', hc', e⟩ := List.mem_map.mp z
  obtain ⟨m, hm'⟩ := List.getElem?_of_mem hc'
  rw [List.getElem?_take] at hm'
  split at hm'
  · rename_i hmi
    have e1 : (l.map f)[m]? = some (f x) := by
      rw [List.getElem?_map, hm']
      exact congrArg some e
    have e2 : (l.map f)[i]? = some (f x) := by
      rw [List.getElem?_map, h]
      rfl
    have lt := (List.getElem?_eq_some_iff.mp e1).1
    have := (List.getElem?_inj lt nd).mp (e1.trans e2.symm)
    omega
  · cases hm'
theorem inV_no {α : Type} (f : α → Str) {l : List α} {z : Str} (h : z ∉ l.map f) : inV (.str z) (l.map fun x => V.str (f x)) = false := by
  cases e : inV (.str z) (l.map fun x => V.str (f x)) with
  | false => rfl
  | true => exact absurd ((inV_str f).mp e) h
theorem kco : (("columns" : Str) = "kept_orders") = False := eq_false (by decide +kernel)
theorem kok : (("kept_orders" : Str) = "columns") = False := eq_false (by decide +kernel)
theorem sfl_eq (x y : V) : putF "kept_orders" y (putF "columns" x []) = [(("columns" : Str), x), (("kept_orders" : Str), y)] := by
  simp only [putF, kco, kok, if_false]
theorem sfl_eq2 (x y z : V) : putF "kept_orders" z (putF "kept_orders" y (putF "columns" x [])) = [(("columns" : Str), x), (("kept_orders" : Str), z)] := by
  simp only [putF, kco, kok, if_false, if_true]
section
variable {P : Program} {w : World} {K : PySem.W.Frag} {mg : Str → Option Value} {base : Heap} {fd : FuncData}
theorem sc_is_row_of : FnScope ["thing", "least", "most"] ["thing", "least", "most"] d_is_row_of.scope := ⟨rfl, rfl, rfl, by decide +kernel, rfl, by decide +kernel, by decide +kernel⟩
theorem ok_is_row_of (T : Tx K mg) (F : Fd K d_is_row_of fd) : FnOk P w K mg base CX0 1 (He.fAd K d_is_row_of.at_) fd ["thing", "least", "most"] sp_is_row_of := by
  refine ok0 F sc_is_row_of (fun vs H Q E h => ?_) (fun cdv A outer s H vs Q E hr h => ?_)
  · obtain ⟨_, _, _, _, rfl, _⟩ := h
    rfl
  · obtain ⟨a, xs, lo, hi, rfl, ha, h1, h2, k⟩ := h
    refine ⟨_, (pss_one (ps_ret (pe_and (pe_callB call_isiT (by rfl) T.f_isinstance (by decide +kernel) (pa_cons (pv 0) (pa_cons (pe_tup (pa_cons (pe_bltn (v := .ty "list") (by rfl) T.f_list (by decide +kernel) rfl) (pa_cons (pe_bltn (v := .ty "tuple") (by rfl) T.f_tuple (by decide +kernel) rfl) pa_nil))) pa_nil))) (pe_one (pe_chain op_le op_le (pv 1) (pe_callB call_len_seq (by rfl) T.f_len PySem.boot_len (pa_cons (pv 0) pa_nil)) (pv 2)))))), ?_⟩
    refine ⟨_, rfl, two_small, fun q hq => ?_⟩
    have s1 := Same.new (o := .tup [.ty "list", .ty "tuple"]) hq
    refine ⟨_, q, _, _, _, true, rfl, upd_same, .cons (.ty _) (.cons (.ty _) .nil), .base (.lst (s1 _ _ ha)), kitAny_cons (b := true) (kit_ty (by decide +kernel)) (fun z => by cases z) (fun _ => rfl), true, rfl, if_t rfl ?_⟩
    refine ⟨_, rfl, _, rfl, a, xs, rfl, .inl (SqL.of (s1 _ _ ha)), _, _, rfl, rfl, _, rfl, if_t (decide_eq_true h1) ?_⟩
    refine ⟨_, rfl, _, _, rfl, rfl, ?_⟩
    show Q (.bl (decide ((xs.length : Int) ≤ hi))) _
    rw [decide_eq_true h2]
    exact k _ s1
theorem sc_need_pair : FnScope ["thing"] ["thing"] d_need_pair.scope := ⟨rfl, rfl, rfl, by decide +kernel, rfl, by decide +kernel, by decide +kernel⟩
theorem ok_need_pair (T : Tx K mg) (F : Fd K d_need_pair fd) : FnOk P w K mg base CX0 1 (He.fAd K d_need_pair.at_) fd ["thing"] sp_need_pair := by
  refine ok0 F sc_need_pair (fun vs H Q E h => ?_) (fun cdv A outer s H vs Q E hr h => ?_)
  · obtain ⟨_, _, _, rfl, _⟩ := h
    rfl
  · obtain ⟨q, x, y, rfl, hq, k⟩ := h
    refine ⟨_, (pss_one (ps_if (PW.pt (pw_or (pt_not (pt_val (pe_callB call_isi (by rfl) T.f_isinstance (by decide +kernel) (pa_cons (pv 0) (pa_cons (pe_bltn (v := .ty "tuple") (by rfl) T.f_tuple (by decide +kernel) rfl) pa_nil))))) (pw_or1 (pt_cmpR op_ne (pe_callB call_len_seq (by rfl) T.f_len PySem.boot_len (pa_cons (pv 0) pa_nil)) pe_int (nomark _))))) (pss_one ps_never) pss_nil)), ?_⟩
    refine ⟨_, rfl, _, _, _, _, true, rfl, .ty _, .base (.tup hq), kit_ty (by decide +kernel), _, rfl, iteF ?_⟩
    refine ⟨_, rfl, q, _, rfl, .inr (SqT.of hq), rfl, _, rfl, if_f (show (!decide (V.int 2 = V.int 2)) = false by rw [decide_eq_true rfl]; rfl) k⟩
theorem sc_columns_in : FnScope ["thing", "names", "column", "name", "kind"] ["thing"] d_columns_in.scope := ⟨rfl, rfl, rfl, by decide +kernel, rfl, by decide +kernel, by decide +kernel⟩
theorem ok_columns_in (T : Tx K mg) (F : Fd K d_columns_in fd) (D_is_row_of : Df P w K mg base CX0 1 "is_row_of" ["thing", "least", "most"] sp_is_row_of) (D_need_pair : Df P w K mg base CX0 1 "need_pair" ["thing"] sp_need_pair)
    (D_is_name : Df P w K mg base CX0 1 "is_name" ["thing"] sp_is_name) (D_is_kind : Df P w K mg base CX0 1 "is_kind" ["thing"] sp_is_kind) : FnOk P w K mg base CX0 2 (He.fAd K d_columns_in.at_) fd ["thing"] sp_columns_in := by
  obtain ⟨t1, e_MOST_COLUMNS⟩ := T.i_MOST_COLUMNS
  refine ok0 F sc_columns_in (fun vs H Q E h => ?_) (fun cdv A outer s H vs Q E hr h => ?_)
  · obtain ⟨_, _, _, rfl, _⟩ := h
    rfl
  · obtain ⟨a, xs, cs, rfl, ha, hp, C, k⟩ := h
    have lx := paired_len hp
    have c1 : 1 ≤ cs.length := C.len.1
    have c4 : cs.length ≤ 4 := C.len.2
    refine ⟨_, (pss_cons (ps_if (pt_not (pt_val (pe_df D_is_row_of (hr.mono (by decide)) pass0 (pa_cons (pv 0) (pa_cons pe_int (pa_cons (pe_glob (v := V.int 4) rfl e_MOST_COLUMNS ⟨_, rfl⟩) pa_nil)))))) (pss_one ps_never) pss_nil)
    (pss_cons (ps_set (i := 1) sc_columns_in.nd rfl (Or.inl rfl) (pe_lst pa_nil))
    (pss_cons (ps_for PassesOwn.never rfl (pi_list (pv 0)) (pg_name (i := 2) sc_columns_in.nd rfl (Or.inl rfl)) (pss_cons (ps_expr (pe_df D_need_pair (hr.mono (by decide)) pass0 (pa_cons (pv 2) pa_nil)))
    (pss_cons (ps_asg (pv 2) (pg_tup rfl (pgs_cons (pg_name (i := 3) sc_columns_in.nd rfl (Or.inl rfl)) (pgs_cons (pg_name (i := 4) sc_columns_in.nd rfl (Or.inl rfl)) pgs_nil))))
    (pss_cons (ps_if (PW.pt (pw_or (pt_not (pt_val (pe_df D_is_name (hr.mono (by decide)) pass0 (pa_cons (pv 3) pa_nil)))) (pw_or (pt_cmpR op_in_seq (pv 3) (pv 1) (by rfl)) (pw_or1 (pt_not (pt_val (pe_df D_is_kind (hr.mono (by decide)) pass0 (pa_cons (pv 4) pa_nil)))))))) (pss_one ps_never) pss_nil)
    (pss_one (ps_expr (pe_bm PySem.F.plainAttrs_list PySem.F.slot_list_append PySem.F.type_list_append mt_append (pv 1) (pa_cons (pv 3) pa_nil))))))))
    (pss_one (ps_ret (pe_callTy call_tuple_of (by rfl) T.f_tuple (by decide +kernel) (pa_cons (pv 0) pa_nil))))))), ?_⟩
    refine ⟨_, rfl, a, xs, 1, 4, rfl, ha, by omega, by omega, fun H1 s1 => ⟨_, rfl, if_f rfl ?_⟩⟩
    refine ⟨Nat.zero_le _, fun nl hnl => ?_⟩
    have s2 := s1.trans (Same.new (o := .lst []) hnl)
    refine ⟨_, rfl, a, rfl, ⟨_, SqL.of (s2 _ _ ha)⟩, for_it (walk_list (xs := xs)) (fun i σ H' => ∃ u v v2, σ = [some (.ref a), some (.ref nl), u, v, v2] ∧ Same H H' ∧ H' nl = some (.lst ((cs.take i).map fun c => V.str c.1)))
      ⟨_, _, _, rfl, s2, upd_same⟩ (fun i σ H' _ ⟨_, _, _, _, e, _⟩ => SqL.of (e _ _ ha)) ?_ ?_⟩
    · rintro i x σ H2 H3 hi ⟨u, v, v2, rfl, s3, hn⟩ ⟨rfl, hix⟩
      obtain ⟨c, hc, q, rfl, hq⟩ := paired_at2 hp hix
      have hm := List.mem_of_getElem? hc
      have hq3 := s3 _ _ hq
      refine ⟨_, rfl, q, _, _, rfl, hq3, ?_⟩
      refine ⟨_, rfl, q, _, rfl, SqT.of hq3, rfl, _, _, rfl, _, _, rfl, rfl, ?_⟩
      refine ⟨_, rfl, c.1, rfl, C.nm _ hm, _, rfl, iteF ?_⟩
      refine ⟨_, rfl, _, rfl, nl, _, rfl, .inl (SqL.of hn), rfl, str_flat _ _, _, rfl, if_f (inV_no _ (take_new _ C.nd hc)) ?_⟩
      refine ⟨_, rfl, c.2, rfl, C.kd _ hm, fun H4 s4 => ⟨_, rfl, iteF ?_⟩⟩
      have s34 := s3.trans s4
      have hn4 := s4 _ _ hn
      have lt : ((cs.take i).map fun c => V.str c.1).length < sizeLine := by
        rw [List.length_map, List.length_take]
        exact small1000 (by omega)
      refine ⟨_, rfl, .inl ⟨rfl, _, SqL.of hn4⟩, _, rfl, nl, _, _, rfl, rfl, hn4, lt, _, _, _, rfl, Same.mut s34 (s1.free hnl), ?_⟩
      rw [take_snoc hc, List.map_append]
      exact upd_same
    rintro σ H2 ⟨u, v, v2, rfl, s3, _⟩
    exact ⟨_, rfl, a, xs, rfl, .inl ⟨SqL.of (s3 _ _ ha), fun q hq => k _ q (s3.trans (Same.new hq)) upd_same⟩⟩
theorem sc_tables_in : FnScope ["thing", "found", "table"] ["thing"] d_tables_in.scope := ⟨rfl, rfl, rfl, by decide +kernel, rfl, by decide +kernel, by decide +kernel⟩
theorem ok_tables_in (T : Tx K mg) (F : Fd K d_tables_in fd) (D_is_row_of : Df P w K mg base CX0 1 "is_row_of" ["thing", "least", "most"] sp_is_row_of) (D_need_pair : Df P w K mg base CX0 1 "need_pair" ["thing"] sp_need_pair)
    (D_is_name : Df P w K mg base CX0 1 "is_name" ["thing"] sp_is_name) (D_columns_in : Df P w K mg base CX0 2 "columns_in" ["thing"] sp_columns_in) : FnOk P w K mg base CX0 3 (He.fAd K d_tables_in.at_) fd ["thing"] sp_tables_in := by
  obtain ⟨t1, e_MOST_TABLES⟩ := T.i_MOST_TABLES
  refine ok0 F sc_tables_in (fun vs H Q E h => ?_) (fun cdv A outer s H vs Q E hr h => ?_)
  · obtain ⟨_, _, _, rfl, _⟩ := h
    rfl
  · obtain ⟨a, xs, Tb, rfl, ha, hp, TO, k⟩ := h
    have hu := hu_of hr
    have lx := paired_len hp
    have c1 : 1 ≤ Tb.length := TO.len.1
    have c4 : Tb.length ≤ 4 := TO.len.2
    refine ⟨_, (pss_cons (ps_if (pt_not (pt_val (pe_df D_is_row_of (hr.mono (by decide)) pass0 (pa_cons (pv 0) (pa_cons pe_int (pa_cons (pe_glob (v := V.int 4) rfl e_MOST_TABLES ⟨_, rfl⟩) pa_nil)))))) (pss_one ps_never) pss_nil)
    (pss_cons (ps_set (i := 1) sc_tables_in.nd rfl (Or.inl rfl) pe_dnewK)
    (pss_cons (ps_for PassesOwn.never rfl (pi_list (pv 0)) (pg_name (i := 2) sc_tables_in.nd rfl (Or.inl rfl)) (pss_cons (ps_expr (pe_df D_need_pair (hr.mono (by decide)) pass0 (pa_cons (pv 2) pa_nil)))
    (pss_cons (ps_if (PW.pt (pw_or (pt_not (pt_val (pe_df D_is_name (hr.mono (by decide)) pass0 (pa_cons (pe_ix ix_tup (pv 2) pe_int (fun _ _ => rfl)) pa_nil)))) (pw_or1 (pt_cmp (pc_din hu (pe_ix ix_tup (pv 2) pe_int (fun _ _ => rfl)) (pv 1)))))) (pss_one ps_never) pss_nil)
    (pss_one (ps_dput hu (pv 1) (pe_ix ix_tup (pv 2) pe_int (fun _ _ => rfl)) (pe_df D_columns_in (hr.mono (by decide)) pass0 (pa_cons (pe_ix ix_tup (pv 2) pe_int (fun _ _ => rfl)) pa_nil)) rfl)))))
    (pss_one (ps_ret (pv 1)))))), ?_⟩
    refine ⟨_, rfl, a, xs, 1, 4, rfl, ha, by omega, by omega, fun H1 s1 => ⟨_, rfl, if_f rfl ?_⟩⟩
    intro f hf
    have s2 := s1.trans (Same.new (o := .dK []) hf)
    refine ⟨_, rfl, a, rfl, ⟨_, SqL.of (s2 _ _ ha)⟩, for_it (walk_list (xs := xs)) (fun i σ H' => ∃ kvs u, σ = [some (.ref a), some (.ref f), u] ∧ Same H H' ∧ H' f = some (.dK kvs) ∧ Paired (TabAt H') (Tb.take i) kvs)
      ⟨[], _, rfl, s2, upd_same, .nil⟩ (fun i σ H' _ ⟨_, _, _, e, _⟩ => SqL.of (e _ _ ha)) ?_ ?_⟩
    · rintro i x σ H2 H3 hi ⟨kvs, u, rfl, s3, hf3, hp3⟩ ⟨rfl, hix⟩
      obtain ⟨t, ht, htx⟩ := paired_at2 hp hix
      have hm := List.mem_of_getElem? ht
      obtain ⟨q, l, ys, rfl, hq, hl, hc⟩ := htx.same s3
      have hq' : SqT K H3 q [.str t.1, .ref l] := SqT.of hq
      refine ⟨_, rfl, q, _, _, rfl, hq, ?_⟩
      refine ⟨_, rfl, q, _, 0, _, rfl, rfl, SqT.of hq, at0, t.1, rfl, TO.nm _ hm, _, rfl, iteF ?_⟩
      have lk : kvs.length ≤ 4 := by
        rw [← paired_len hp3, List.length_take]
        omega
      have hnone : valV kvs (Sum.inr t.1) = none := tabs_none hp3 (take_new _ TO.nd ht)
      refine ⟨_, rfl, q, _, 0, _, rfl, rfl, SqT.of hq, at0, _, rfl, f, _, rfl, DGet.k (k := Sum.inr t.1) hf3, _, rfl, if_f (by rw [hnone]; rfl) ?_⟩
      refine ⟨_, rfl, q, _, 1, _, rfl, rfl, SqT.of hq, at1, l, ys, t.2, rfl, hl, hc, TO.cols _ hm, fun H4 q2 s4 hq2 => ?_⟩
      have hf4 := s4 _ _ hf3
      refine ⟨_, rfl, _, rfl, q, _, 0, _, rfl, rfl, SqT.of (s4 _ _ hq), at0, f, _, rfl, .inl ⟨kvs, Sum.inr t.1, hf4, rfl, small1000 (by omega), rfl⟩, ?_⟩
      have ek : putK kvs (Sum.inr t.1) (.ref q2) = kvs ++ [(Sum.inr t.1, .ref q2)] := putK_new _ hnone
      rw [ek]
      have ts : TS H4 (upd H4 f (.dK (kvs ++ [(Sum.inr t.1, .ref q2)]))) := fun e zs he => by
        rw [upd_ne (ne_of he hf4 (by intro z; cases z))]
        exact he
      refine ⟨_, _, rfl, Same.mut (s3.trans s4) (s1.free hf), upd_same, ?_⟩
      rw [take_snoc ht]
      exact paired_snoc (paired_imp hp3 fun _ _ => TabAt.ts (s4.ts.trans ts)) ⟨rfl, q2, ys, rfl, ts _ _ hq2, paired_imp hc fun _ _ => ColAt.ts (s4.ts.trans ts)⟩
    rintro σ H2 ⟨kvs, u, rfl, s3, hf3, hp3⟩
    rw [← paired_len hp, List.take_length] at hp3
    exact ⟨_, rfl, k _ f kvs s3 hf3 hp3⟩
theorem sc_orders_in : FnScope ["thing", "tables", "found", "order", "table", "column", "name", "kind"] ["thing", "tables"] d_orders_in.scope := ⟨rfl, rfl, rfl, by decide +kernel, rfl, by decide +kernel, by decide +kernel⟩
theorem ok_orders_in (T : Tx K mg) (F : Fd K d_orders_in fd) (D_is_row_of : Df P w K mg base CX0 1 "is_row_of" ["thing", "least", "most"] sp_is_row_of) (D_need_pair : Df P w K mg base CX0 1 "need_pair" ["thing"] sp_need_pair)
    (D_is_name : Df P w K mg base CX0 1 "is_name" ["thing"] sp_is_name) : FnOk P w K mg base CX0 2 (He.fAd K d_orders_in.at_) fd ["thing", "tables"] sp_orders_in := by
  obtain ⟨t1, e_MOST_ORDERS⟩ := T.i_MOST_ORDERS
  refine ok0 F sc_orders_in (fun vs H Q E h => ?_) (fun cdv A outer s H vs Q E hr h => ?_)
  · obtain ⟨_, _, _, _, _, _, rfl, _⟩ := h
    rfl
  · obtain ⟨a, xs, Tb, os, dc, kvs, rfl, ha, hp, TO, hdc, hpk, O, k⟩ := h
    have hu := hu_of hr
    have lx := paired_len hp
    have c4 := O.few
    have nmOf : ∀ o ∈ os, NameOk o.1 ∧ NameOk o.2 := fun o ho => by
      obtain ⟨cs, h1, h2⟩ := O.ok o ho
      obtain ⟨c, hc, e⟩ := List.mem_map.mp h2
      exact ⟨TO.nm _ h1, e ▸ (TO.cols _ h1).nm _ (List.mem_of_mem_drop hc)⟩
    refine ⟨_, (pss_cons (ps_if (pt_not (pt_val (pe_df D_is_row_of (hr.mono (by decide)) pass0 (pa_cons (pv 0) (pa_cons pe_int (pa_cons (pe_glob (v := V.int 4) rfl e_MOST_ORDERS ⟨_, rfl⟩) pa_nil)))))) (pss_one ps_never) pss_nil)
    (pss_cons (ps_set (i := 2) sc_orders_in.nd rfl (Or.inl rfl) (pe_lst pa_nil))
    (pss_cons (ps_for PassesOwn.never rfl (pi_list (pv 0)) (pg_name (i := 3) sc_orders_in.nd rfl (Or.inl rfl)) (pss_cons (ps_expr (pe_df D_need_pair (hr.mono (by decide)) pass0 (pa_cons (pv 3) pa_nil)))
    (pss_cons (ps_asg (pv 3) (pg_tup rfl (pgs_cons (pg_name (i := 4) sc_orders_in.nd rfl (Or.inl rfl)) (pgs_cons (pg_name (i := 5) sc_orders_in.nd rfl (Or.inl rfl)) pgs_nil))))
    (pss_cons (ps_if (PW.pt (pw_or (pt_not (pt_val (pe_df D_is_name (hr.mono (by decide)) pass0 (pa_cons (pv 4) pa_nil)))) (pw_or (pt_not (pt_val (pe_df D_is_name (hr.mono (by decide)) pass0 (pa_cons (pv 5) pa_nil)))) (pw_or (pt_cmp (pc_dnotin hu (pv 4) (pv 1))) (pw_or1 (pt_cmpR (op_inD hr.u65) (pv 3) (pv 2) (by rfl))))))) (pss_one ps_never) pss_nil)
    (pss_cons (ps_if (pt_cmpR op_notIn_seq (pv 5) (pe_lc (own := [("name", 6), ("kind", 7)]) (g := gTup K 2 (gCons (gName 6) (gCons (gName 7) gNil))) (tt := tYes) (te := tVar 6) rfl sc_orders_in.nd (pi_tup (pe_slice sl_tup (pe_dget hu (pv 1) (pv 4) (fun _ _ => rfl)) (po_some pe_int) po_none)) (blkOk_by (N := ["thing", "tables", "found", "order", "table", "column", "name", "kind"]) (sc := d_orders_in.scope) (by decide +kernel)) (fun _ _ _ _ _ => (pg_tup rfl (pgs_cons (pg_name (i := 6) sc_orders_in.nd rfl (Or.inl rfl)) (pgs_cons (pg_name (i := 7) sc_orders_in.nd rfl (Or.inl rfl)) pgs_nil)))) (fun _ _ _ _ _ => pts_nil) (fun _ _ _ _ _ => (pv 6))) (by rfl)) (pss_one ps_never) pss_nil)
    (pss_one (ps_expr (pe_bm PySem.F.plainAttrs_list PySem.F.slot_list_append PySem.F.type_list_append mt_append (pv 2) (pa_cons (pv 3) pa_nil)))))))))
    (pss_one (ps_ret (pe_callTy call_tuple_of (by rfl) T.f_tuple (by decide +kernel) (pa_cons (pv 2) pa_nil))))))), ?_⟩
    refine ⟨_, rfl, a, xs, 0, 4, rfl, ha, by omega, by omega, fun H1 s1 => ⟨_, rfl, if_f rfl ?_⟩⟩
    refine ⟨Nat.zero_le _, fun f hf => ?_⟩
    have s2 := s1.trans (Same.new (o := .lst []) hf)
    refine ⟨_, rfl, a, rfl, ⟨_, SqL.of (s2 _ _ ha)⟩, for_it (walk_list (xs := xs)) (fun i σ H' => ∃ u v v2, σ = [some (.ref a), some (.ref dc), some (.ref f), u, v, v2, none, none] ∧ Same H H' ∧ H' f = some (.lst (xs.take i)))
      ⟨_, _, _, rfl, s2, upd_same⟩ (fun i σ H' _ ⟨_, _, _, _, e, _⟩ => SqL.of (e _ _ ha)) ?_ ?_⟩
    · rintro i x σ H2 H3 hi ⟨u, v, v2, rfl, s3, hf3⟩ ⟨rfl, hix⟩
      obtain ⟨o, ho, q, rfl, hq⟩ := paired_at2 hp hix
      have hm := List.mem_of_getElem? ho
      obtain ⟨n1, n2⟩ := nmOf o hm
      obtain ⟨cs, hcs, hco⟩ := O.ok o hm
      obtain ⟨ca, ys, hva, hca, hpc⟩ := tabs_get hpk TO.nd hcs
      have hq3 := s3 _ _ hq
      have hdc3 := s3 _ _ hdc
      have hca3 := s3 _ _ hca
      refine ⟨_, rfl, q, _, _, rfl, hq3, ?_⟩
      refine ⟨_, rfl, q, _, rfl, SqT.of hq3, rfl, _, _, rfl, _, _, rfl, rfl, ?_⟩
      refine ⟨_, rfl, o.1, rfl, n1, _, rfl, iteF ?_⟩
      refine ⟨_, rfl, o.2, rfl, n2, _, rfl, iteF ?_⟩
      refine ⟨_, rfl, _, rfl, dc, _, rfl, DGet.k (k := Sum.inr o.1) hdc3, _, rfl, if_f (by rw [hva]; rfl) ?_⟩
      have hpt : Paired (ColAt H3) (os.take i) (xs.take i) := paired_imp (paired_take hp i) fun _ _ => ColAt.ts s3.ts
      have nin : o ∉ os.take i := by
        have := take_new (fun o : Col => o) (by rw [List.map_id']; exact O.nd) ho
        rw [List.map_id'] at this
        exact this
      refine ⟨_, rfl, _, rfl, .tuple [.str o.1, .str o.2], (os.take i).map fun o => PyData.tuple [.str o.1, .str o.2], .tup (SqT.of hq3) (.cons (.str _) (.cons (.str _) .nil)), .lst (SqL.of hf3) (ordD hpt), ?_, ?_, _, rfl, if_f (ordNo nin) ?_⟩
      · have := ordS (os := [o]) fun o' ho' => by
          rw [List.mem_singleton] at ho'
          subst ho'
          exact ⟨n1, n2⟩
        have d := ordDep [o]
        rw [List.map_cons, List.map_nil, PyData.canLayAll0, PyData.canLayAll0, Bool.and_true] at this
        rw [List.map_cons, List.map_nil, PyData.depthAll] at d
        unfold SeqAt.shaped
        rw [this, Bool.true_and, decide_eq_true]
        omega
      · have := ordS (os := os.take i) fun o' ho' => nmOf o' (List.mem_of_mem_take ho')
        have d := ordDep (os.take i)
        unfold SeqAt.shaped
        rw [PyData.canLay0, PyData.depth, this, Bool.true_and, decide_eq_true]
        omega
      refine ⟨_, rfl, _, rfl, _, rfl, dc, _, rfl, (by rw [← hva]; exact DGet.k (k := Sum.inr o.1) hdc3), _, rfl, ?_⟩
      refine ⟨ca, _, rfl, SqT.of hca3, fun z => absurd z.1 ?_, fun q2 hq2 => ?_⟩
      · have l1 := (TO.cols _ hcs).len.1
        have ly := paired_len hpc
        rw [show (some (1 : Int)) = some ((1 : Nat) : Int) from rfl, HT.sIx_nat]
        have e : 1 ≤ List.length cs := l1
        omega
      have s4 := s3.trans (Same.new (o := .tup (cutV ys (some 1) none)) hq2)
      have ecut : cutV ys (some 1) none = ys.drop 1 := cutV_from ys 1
      have hq2' : (upd H3 q2 (.tup (cutV ys (some 1) none))) q2 = some (.tup (ys.drop 1)) := by
        rw [upd_same, ecut]
      have hf4 := (Same.new (o := .tup (cutV ys (some 1) none)) hq2) _ _ hf3
      have hpd := paired_drop hpc 1
      refine ⟨q2, rfl, ⟨_, SqT.of hq2'⟩, fun D hD => lc_it (walk_tup (xs := ys.drop 1)) (fun j H' => Same H H' ∧ H' q2 = some (.tup (ys.drop 1)) ∧ H' f = some (.lst (xs.take i)) ∧ H' D = some (.lst (((cs.drop 1).take j).map fun c => V.str c.1)))
        ⟨s4.trans (Same.new hD), (Same.new hD) _ _ hq2', (Same.new hD) _ _ hf4, upd_same⟩ (fun j H' _ ⟨_, e, _⟩ => SqT.of e) ?_ ?_⟩
      · rintro j y H5 H6 hj ⟨s5, hq5, hf5, hD5⟩ ⟨rfl, hy⟩
        obtain ⟨c, hc, qc, rfl, hqc⟩ := paired_at2 hpd hy
        refine ⟨qc, _, rfl, SqT.of (s5 _ _ hqc), rfl, _, _, rfl, _, _, rfl, rfl, rfl, tyes ?_⟩
        have cl := (TO.cols _ hcs).len.2
        refine ⟨_, rfl, _, hD5, ?_, Same.mut s5 (s4.free hD), ?_, ?_, ?_⟩
        · rw [List.length_map, List.length_take, List.length_drop]
          have e : List.length cs ≤ 4 := cl
          exact small1000 (by omega)
        · rw [upd_ne (ne_of_none hq2' hD)]
          exact hq5
        · rw [upd_ne (ne_of_none hf4 hD)]
          exact hf5
        · rw [upd_same, take_snoc hc, List.map_append]
          rfl
      rintro H5 ⟨s5, hq5, hf5, hD5⟩
      rw [← paired_len hpd, List.take_length] at hD5
      have yes : inV (.str o.2) ((cs.drop 1).map fun c => V.str c.1) = true := (inV_str fun c : Col => c.1).mpr hco
      refine ⟨D, _, rfl, .inl (SqL.of hD5), rfl, str_flat _ _, _, rfl, if_f ?_ ?_⟩
      · show (!inV (.str o.2) ((cs.drop 1).map fun c => V.str c.1)) = false
        rw [yes]
        rfl
      refine ⟨_, rfl, .inl ⟨rfl, _, SqL.of hf5⟩, _, rfl, f, _, _, rfl, rfl, hf5, ?_, _, _, _, rfl, Same.mut s5 (s1.free hf), ?_⟩
      · rw [List.length_take]
        exact small1000 (by omega)
      · rw [take_snoc hix]
        exact upd_same
    rintro σ H2 ⟨u, v, v2, rfl, s3, hf3⟩
    exact ⟨_, rfl, f, _, rfl, .inl ⟨SqL.of hf3, fun q hq => k _ q (s3.trans (Same.new hq))⟩⟩
theorem sc_S_init : FnScope ["self", "tables", "orders"] ["self", "tables", "orders"] d_S_init.scope := ⟨rfl, rfl, rfl, by decide +kernel, rfl, by decide +kernel, by decide +kernel⟩
theorem ok_S_init (T : Tx K mg) (F : Fd K d_S_init fd) (D_tables_in : Df P w K mg base CX0 3 "tables_in" ["thing"] sp_tables_in) (D_orders_in : Df P w K mg base CX0 2 "orders_in" ["thing", "tables"] sp_orders_in) :
    FnOk P w K mg base CX0 4 (He.fAd K d_S_init.at_) fd ["self", "tables", "orders"] (sp_S_init K) := by
  refine ok0 F sc_S_init (fun vs H Q E h => ?_) (fun cdv A outer s H vs Q E hr h => ?_)
  · obtain ⟨_, _, _, _, _, _, _, _, rfl, _⟩ := h
    rfl
  · obtain ⟨p, dx, a, xs, b, ys, Tb, os, rfl, hp, ha, hpa, TO, hb, hpb, O, k⟩ := h
    refine ⟨_, (pss_cons (ps_fld (pv 0) (pe_df D_tables_in (hr.mono (by decide)) pass0 (pa_cons (pv 1) pa_nil)) rfl)
    (pss_cons (ps_fld (pv 0) (pe_tup pa_nil) rfl)
    (pss_one (ps_if (pt_cmpR op_notN (pv 2) pe_non (nomark _)) (pss_one (ps_fld (pv 0) (pe_df D_orders_in (hr.mono (by decide)) pass0 (pa_cons (pv 2) (pa_cons (pe_fld (pv 0) rfl) pa_nil))) rfl)) pss_nil)))), ?_⟩
    refine ⟨_, rfl, a, xs, Tb, rfl, ha, hpa, TO, fun H1 q kvs s1 hq hpk => ?_⟩
    have hp1 := s1 _ _ hp
    have npq : q ≠ p := fun z => by
      subst z
      rw [hp1] at hq
      cases hq
    refine ⟨_, rfl, p, _, dx, _, rfl, hp1, T.c_Schema, T.n_Schema_columns, (by show 0 < 1000; decide), ?_⟩
    refine ⟨Nat.zero_le _, fun et het => ?_⟩
    have npe : p ≠ et := ne_of_none upd_same het
    refine ⟨_, rfl, p, _, dx, _, rfl, (by rw [upd_ne npe]; exact upd_same), T.c_Schema, T.n_Schema_kept_orders, (Nat.lt_of_le_of_lt (length_putF _ _ _) (by show 1 < 1000; decide)), ?_⟩
    have hq3 : q ≠ et := ne_of_none (by rw [upd_ne npq]; exact hq) het
    have h0 : H1 et = none := by
      have := het
      rw [upd_ne npe.symm] at this
      exact this
    refine ⟨_, rfl, rfl, _, rfl, if_t rfl ?_⟩
    obtain ⟨H4, hH4⟩ : ∃ H4, H4 = upd (upd (upd H1 p (.ins (ScC K) dx (putF "columns" (.ref q) []))) et (.tup [])) p (.ins (ScC K) dx (putF "kept_orders" (.ref et) (putF "columns" (.ref q) []))) := ⟨_, rfl⟩
    rw [← hH4]
    have bt : Bt p H1 H4 := fun c o hc hne => by
      rw [hH4, upd_ne hne, upd_ne (ne_of_none hc h0), upd_ne hne]
      exact hc
    have hp4 : H4 p = some (.ins (ScC K) dx (putF "kept_orders" (.ref et) (putF "columns" (.ref q) []))) := by
      rw [hH4]
      exact upd_same
    have ts : TS H1 H4 := fun e zs he => bt e _ he fun z => by
      subst z
      rw [hp1] at he
      cases he
    have nb : b ≠ p := fun z => by
      subst z
      rw [hp] at hb
      cases hb
    have lkc : (putF "kept_orders" (V.ref et) (putF "columns" (V.ref q) [])).lookup ("columns" : Str) = some (V.ref q) := by
      rw [sfl_eq]
      exact lookup1
    refine ⟨_, rfl, _, rfl, p, _, dx, _, _, rfl, hp4, T.c_Schema, T.n_Schema_columns, lkc, b, ys, Tb, os, q, kvs, rfl, bt _ _ (s1 _ _ hb) nb, paired_imp hpb fun _ _ => ColAt.ts (s1.ts.trans ts), TO, bt _ _ hq npq, paired_imp hpk fun _ _ => TabAt.ts ts, O, fun H5 q5 s5 => ?_⟩
    refine ⟨_, rfl, p, _, dx, _, rfl, s5 _ _ hp4, T.c_Schema, T.n_Schema_kept_orders, ?_, ?_⟩
    · rw [sfl_eq]
      show 2 < 1000
      decide
    rw [sfl_eq2]
    refine k _ (fun c o hc hne => ?_) ⟨TO, dx, q, .ref q5, kvs, upd_same, ?_, ?_⟩
    · rw [upd_ne hne]
      exact s5 _ _ (bt _ _ (s1 _ _ hc) hne)
    · rw [upd_ne npq]
      exact s5 _ _ (bt _ _ hq npq)
    · refine paired_imp hpk fun _ _ => TabAt.ts ((ts.trans s5.ts).trans fun e zs he => ?_)
      rw [upd_ne fun z => by subst z; rw [s5 _ _ hp4] at he; cases he]
      exact he
end
end Fl

set_option Elab.async false
set_option linter.all false
set_option maxRecDepth 100000
set_option maxHeartbeats 1000000
/-! The law's draws: numbers, names. -/
namespace Fl
open PySem PySem.Spec PyProof.Rows L2
open TL (tl)
def sp_l_cell (K : PySem.W.Frag) : Sp := fun vs H Q _ => ∃ a ns k, vs = [.ref a, .int ((k : Nat) : Int)] ∧ SqL K H a ((ns : List Int).map V.int) ∧ ∀ c, Q (.int c) H
def NumsAt (H : Hp) (ns : List Int) (a : Addr) : Prop := H a = some (.lst (ns.map V.int)) ∧ ∀ n ∈ ns, 0 ≤ n
theorem NumsAt.same {H H' : Hp} (k : Same H H') {ns : List Int} {a : Addr} (h : NumsAt H ns a) : NumsAt H' ns a := ⟨k _ _ h.1, h.2⟩
def sp_l_draws : Sp := fun vs H Q _ => ∃ (c : Int) (m : Nat), vs = [.int c, .int (m : Int)] ∧ m ≤ 40 ∧ ∀ H' q ns, Same H H' → H q = none → ns.length = m → NumsAt H' ns q → Q (.ref q) H'
/-- the k-th name -/
def nmL (ns : List Int) (size at_ : Nat) (k : Nat) : List Nat := (List.range size).map fun j => 97 + (((ns.getD (2 + j) 0) + (k : Int) * (if j = at_ then 1 else 0)) % 26).toNat
def nmT (ns : List Int) (size at_ : Nat) (k : Nat) : Str := ⟨(nmL ns size at_ k).toArray⟩
theorem nmL_len (ns : List Int) (size at_ k : Nat) : (nmL ns size at_ k).length = size := by
  unfold nmL
  rw [List.length_map, List.length_range]
theorem nmT_ok {ns : List Int} {size at_ k : Nat} (h1 : 1 ≤ size) (h8 : size ≤ 8) : NameOk (nmT ns size at_ k) := by
  have e : tl (nmT ns size at_ k) = nmL ns size at_ k := rfl
  refine ⟨?_, ?_, fun c hc => ?_⟩
  · rw [len_tl, e, nmL_len]
    exact h1
  · rw [len_tl, e, nmL_len]
    exact h8
  · rw [e] at hc
    obtain ⟨j, _, rfl⟩ := List.mem_map.mp hc
    omega
theorem nmT_ne {ns : List Int} {size at_ k k' : Nat} (ha : at_ < size) (hk : k < 26) (hk' : k' < 26) (h : nmT ns size at_ k = nmT ns size at_ k') : k = k' := by
  have e : nmL ns size at_ k = nmL ns size at_ k' := congrArg tl h
  have e2 := congrArg (fun l => l[at_]?) e
  unfold nmL at e2
  simp only [List.getElem?_map, List.getElem?_range ha, Option.map_some] at e2
  have e3 := Option.some.inj e2
  simp only [if_true] at e3
  omega
theorem names_nd {ns : List Int} {size at_ m : Nat} (ha : at_ < size) (hm : m ≤ 26) : ((List.range m).map (nmT ns size at_)).Nodup := by
  refine List.pairwise_map.mpr (List.Pairwise.imp_of_mem (fun {a b} h1 h2 hne => fun z => hne (nmT_ne ha (by have := List.mem_range.mp h1; omega) (by have := List.mem_range.mp h2; omega) z)) List.nodup_range)
def sp_l_names : Sp := fun vs H Q _ => ∃ (c : Int) (m : Nat), vs = [.int c, .int (m : Int)] ∧ m ≤ 4 ∧ ∀ H' q zs, Same H H' → H q = none → zs.length = m → zs.Nodup → (∀ z ∈ zs, NameOk z) → H' q = some (.lst ((zs : List Str).map V.str)) → Q (.ref q) H'
theorem letters_at {i : Nat} (h : i < 26) : (tl ("abcdefghijklmnopqrstuvwxyz" : Str))[i]? = some (97 + i) := by
  have : ∀ i, i < 26 → (tl ("abcdefghijklmnopqrstuvwxyz" : Str))[i]? = some (97 + i) := by decide +kernel
  exact this i h
theorem joinL_nil : ∀ l : List Nat, TL.joinL [] (l.map fun c => [c]) = l
  | [] => rfl
  | [_] => rfl
  | a :: b :: r => by
    show [a] ++ ([] ++ TL.joinL [] ((b :: r).map fun c => [c])) = a :: b :: r
    rw [joinL_nil (b :: r)]
    rfl
theorem join_sgn (l : List Nat) : Txt.join ("" : Str) (l.map fun c => (⟨#[c]⟩ : Str)) = ⟨l.toArray⟩ := by
  refine TL.ext_tl ?_
  rw [TL.join_eq, TL.tl_join, List.map_map]
  exact joinL_nil l
section
variable {P : Program} {w : World} {K : PySem.W.Frag} {mg : Str → Option Value} {base : Heap} {fd : FuncData}
theorem sc_l_cell : FnScope ["_law_script", "_law_k"] ["_law_script", "_law_k"] d_l_cell.scope := ⟨rfl, rfl, rfl, by decide +kernel, rfl, by decide +kernel, by decide +kernel⟩
theorem ok_l_cell (T : Tx K mg) (F : Fd K d_l_cell fd) : FnOk P w K mg base CX0 1 (He.fAd K d_l_cell.at_) fd ["_law_script", "_law_k"] (sp_l_cell K) := by
  refine ok0 F sc_l_cell (fun vs H Q E h => ?_) (fun cdv A outer s H vs Q E hr h => ?_)
  · obtain ⟨_, _, _, rfl, _⟩ := h
    rfl
  · obtain ⟨a, ns, k, rfl, ha, q⟩ := h
    refine ⟨_, (pss_cons (ps_if (pt_cmpR op_lt (pv 1) (pe_callB call_len_seq (by rfl) T.f_len PySem.boot_len (pa_cons (pv 0) pa_nil)) (nomark _)) (pss_one (ps_ret (pe_ix ix_list (pv 0) (pv 1) (fun _ _ => rfl)))) pss_nil)
    (pss_one (ps_ret (pe_op op_add (pe_op op_mul pe_int (pv 1)) pe_int)))), ?_⟩
    refine ⟨_, rfl, _, rfl, a, _, rfl, .inl ha, _, _, rfl, rfl, _, rfl, ?_⟩
    by_cases hlt : (k : Int) < ((ns.map V.int).length : Int)
    · refine if_t (decide_eq_true hlt) ?_
      obtain ⟨c, hc⟩ : ∃ c, ns[k]? = some c := ⟨_, List.getElem?_eq_getElem (by rw [List.length_map] at hlt; omega)⟩
      exact ⟨_, rfl, _, rfl, a, _, (k : Int), _, rfl, rfl, ha, atI_nat (by rw [List.getElem?_map, hc]; rfl), q c⟩
    · refine if_f (decide_eq_false hlt) ?_
      exact ⟨_, rfl, _, _, rfl, rfl, .inl ⟨by decide, by decide⟩, _, _, rfl, rfl, q _⟩
theorem sc_l_draws : FnScope ["_law_cell_here", "_law_many", "_law_found", "_law_left", "_law_mixed", "_law_k"] ["_law_cell_here", "_law_many"] d_l_draws.scope := ⟨rfl, rfl, rfl, by decide +kernel, rfl, by decide +kernel, by decide +kernel⟩
theorem ok_l_draws (T : Tx K mg) (F : Fd K d_l_draws fd) : FnOk P w K mg base CX0 1 (He.fAd K d_l_draws.at_) fd ["_law_cell_here", "_law_many"] sp_l_draws := by
  refine ok0 F sc_l_draws (fun vs H Q E h => ?_) (fun cdv A outer s H vs Q E hr h => ?_)
  · obtain ⟨_, _, rfl, _⟩ := h
    rfl
  · obtain ⟨c, m, rfl, hm, k⟩ := h
    refine ⟨_, (pss_cons (ps_set (i := 2) sc_l_draws.nd rfl (Or.inl rfl) (pe_lst pa_nil))
    (pss_cons (ps_set (i := 3) sc_l_draws.nd rfl (Or.inl rfl) (pe_callB call_abs (by rfl) T.f_abs (by decide +kernel) (pa_cons (pv 0) pa_nil)))
    (pss_cons (ps_set (i := 4) sc_l_draws.nd rfl (Or.inl rfl) (pe_op op_mod (pv 3) pe_int))
    (pss_cons (ps_for PassesOwn.never rfl (pi_range1 rfl T.f_range (pa_cons (pv 1) pa_nil)) (pg_name (i := 5) sc_l_draws.nd rfl (Or.inl rfl)) (pss_cons (ps_set (i := 4) sc_l_draws.nd rfl (Or.inl rfl) (pe_op op_mod (pe_op op_add (pe_op op_add (pe_op op_mul (pv 4) pe_int) (pe_op op_mul pe_int (pv 5))) pe_int) pe_int))
    (pss_one (ps_if (pt_cmpR op_ge (pv 3) (pe_op op_pow pe_int pe_int) (nomark _)) (pss_cons (ps_expr (pe_bm PySem.F.plainAttrs_list PySem.F.slot_list_append PySem.F.type_list_append mt_append (pv 2) (pa_cons (pe_op op_mod (pv 3) (pe_op op_pow pe_int pe_int)) pa_nil)))
    (pss_one (ps_set (i := 3) sc_l_draws.nd rfl (Or.inl rfl) (pe_op op_fdivW (pv 3) (pe_op op_pow pe_int pe_int))))) (pss_one (ps_expr (pe_bm PySem.F.plainAttrs_list PySem.F.slot_list_append PySem.F.type_list_append mt_append (pv 2) (pa_cons (pe_op op_mod (pe_op op_mul (pv 4) (pe_op op_add (pv 4) pe_int)) pe_int) pa_nil))))))))
    (pss_one (ps_ret (pv 2))))))), ?_⟩
    refine ⟨Nat.zero_le _, fun f hf => ?_⟩
    have s1 := Same.new (o := .lst []) hf
    have h0 : 0 ≤ (if c < 0 then -c else c) := by
      split <;> omega
    refine ⟨_, rfl, c, rfl, _, rfl, _, _, rfl, rfl, (show (0 : Int) < 2147483647 by decide), ?_⟩
    refine ⟨_, rfl, (m : Int), rfl, by omega, by omega, for_it walk_range (fun i σ H' => ∃ (l x : Int) (u : Option V) (ns : List Int), σ = [some (.int c), some (.int (m : Int)), some (.ref f), some (.int l), some (.int x), u] ∧ Same H H' ∧ 0 ≤ l ∧ 0 ≤ x ∧ x < 2147483647 ∧ ns.length = i ∧ NumsAt H' ns f)
      ⟨_, _, _, [], rfl, s1, h0, Int.emod_nonneg _ (by decide), Int.emod_lt_of_pos _ (by decide), rfl, upd_same, fun _ h => by cases h⟩ (fun _ _ _ _ _ => trivial) ?_ ?_⟩
    · rintro i x σ H1 H2 hi ⟨l, x, u, ns, rfl, s2, hl, hx0, hx1, hn, hf2, hnn⟩ ⟨rfl, rfl⟩
      have hi' : i < m := by
        rw [Int.toNat_natCast] at hi
        exact hi
      refine ⟨_, rfl, _, _, rfl, rfl, .inr ⟨by decide, by decide⟩, _, rfl, _, _, rfl, rfl, .inl ⟨by decide, by decide⟩, _, _, rfl, rfl, _, _, rfl, rfl, _, _, rfl, rfl, (show (0 : Int) < 2147483647 by decide), ?_⟩
      have y0 : 0 ≤ (x * 48271 + 7919 * (0 + (i : Int)) + 11) % 2147483647 := Int.emod_nonneg _ (by decide)
      have y1 : (x * 48271 + 7919 * (0 + (i : Int)) + 11) % 2147483647 < 2147483647 := Int.emod_lt_of_pos _ (by decide)
      refine ⟨_, rfl, _, _, rfl, rfl, ⟨by decide, by decide, by decide⟩, _, _, rfl, rfl, _, rfl, ?_⟩
      have small : (ns.map V.int).length < sizeLine := by
        rw [List.length_map]
        exact small1000 (by omega)
      have snoc : ∀ z : Int, 0 ≤ z → NumsAt (upd H2 f (.lst (ns.map V.int ++ [.int z]))) (ns ++ [z]) f := fun z hz => ⟨by rw [upd_same, List.map_append]; rfl, fun n hn => by
        rcases List.mem_append.mp hn with h | h
        · exact hnn n h
        · rw [List.mem_singleton.mp h]
          exact hz⟩
      have hfH := hf
      by_cases hge : l ≥ (10 : Int) ^ (18 : Int).toNat
      · refine if_t (decide_eq_true hge) ?_
        refine ⟨_, rfl, .inl ⟨rfl, _, SqL.of hf2⟩, _, rfl, _, _, rfl, rfl, ⟨by decide, by decide, by decide⟩, _, _, rfl, rfl, (show (0 : Int) < 10 ^ (10 : Int).toNat by decide), f, _, _, rfl, rfl, hf2, small, ?_⟩
        refine ⟨_, rfl, _, _, rfl, rfl, ⟨by decide, by decide, by decide⟩, _, _, rfl, rfl, ⟨show (0 : Int) < 10 ^ (10 : Int).toNat by decide, by decide +kernel⟩, ?_⟩
        exact ⟨_, _, _, _, rfl, Same.mut s2 hf, Int.ediv_nonneg hl (by decide), y0, y1, by rw [List.length_append, hn]; rfl, snoc _ (Int.emod_nonneg _ (by decide))⟩
      · refine if_f (decide_eq_false hge) ?_
        refine ⟨_, rfl, .inl ⟨rfl, _, SqL.of hf2⟩, _, rfl, _, rfl, _, _, rfl, rfl, _, _, rfl, rfl, .inl ⟨by omega, by omega⟩, _, _, rfl, rfl, (show (0 : Int) < 2147483629 by decide), f, _, _, rfl, rfl, hf2, small, ?_⟩
        exact ⟨_, _, _, _, rfl, Same.mut s2 hf, hl, y0, y1, by rw [List.length_append, hn]; rfl, snoc _ (Int.emod_nonneg _ (by decide))⟩
    · rintro σ H1 ⟨l, x, u, ns, rfl, s2, hl, hx0, hx1, hn, hf2⟩
      exact ⟨_, rfl, k _ f ns s2 hf (by rw [hn, Int.toNat_natCast]) hf2⟩
theorem sc_l_names : FnScope ["_law_cell_here", "_law_many", "_law_letters", "_law_draws_here", "_law_size", "_law_at", "_law_names_here", "_law_k", "_law_signs", "_law_j", "_law_sign"] ["_law_cell_here", "_law_many"] d_l_names.scope := ⟨rfl, rfl, rfl, by decide +kernel, rfl, by decide +kernel, by decide +kernel⟩
theorem ok_l_names (T : Tx K mg) (F : Fd K d_l_names fd) (D_l_draws : Df P w K mg base CX0 1 "_law_draws" ["_law_cell_here", "_law_many"] sp_l_draws) : FnOk P w K mg base CX0 2 (He.fAd K d_l_names.at_) fd ["_law_cell_here", "_law_many"] sp_l_names := by
  refine ok0 F sc_l_names (fun vs H Q E h => ?_) (fun cdv A outer s H vs Q E hr h => ?_)
  · obtain ⟨_, _, rfl, _⟩ := h
    rfl
  · obtain ⟨c, m, rfl, hm, k⟩ := h
    refine ⟨_, (pss_cons (ps_set (i := 2) sc_l_names.nd rfl (Or.inr rfl) pe_str)
    (pss_cons (ps_set (i := 3) sc_l_names.nd rfl (Or.inr rfl) (pe_df D_l_draws (hr.mono (by decide)) pass0 (pa_cons (pv 0) (pa_cons pe_int pa_nil))))
    (pss_cons (ps_set (i := 4) sc_l_names.nd rfl (Or.inl rfl) (pe_op op_add pe_int (pe_op op_mod (pe_ix ix_list (pv 3) pe_int (fun _ _ => rfl)) pe_int)))
    (pss_cons (ps_set (i := 5) sc_l_names.nd rfl (Or.inr rfl) (pe_op op_mod (pe_ix ix_list (pv 3) pe_int (fun _ _ => rfl)) (pv 4)))
    (pss_cons (ps_set (i := 6) sc_l_names.nd rfl (Or.inl rfl) (pe_lst pa_nil))
    (pss_cons (ps_for PassesOwn.never rfl (pi_range1 rfl T.f_range (pa_cons (pv 1) pa_nil)) (pg_name (i := 7) sc_l_names.nd rfl (Or.inr rfl)) (pss_cons (ps_setLc (i := 8) (own := [("_law_j", 9)]) (g := gName 9) (tt := tYes) (te := tOp (rI (fun _ j => 0 < j) fun i j => .int (i % j)) (tOp (rI0 fun i j => .int (i + j)) (tOp (rIxL K) (tVar 3) (tOp (rI0 fun i j => .int (i + j)) (tC (.int 2)) (tVar 9))) (tOp (rI CMul fun i j => .int (i * j)) (tVar 7) (tCB (fun xs H Q => (∃ i, xs = [.int i] ∧ Q (.int i) H) ∨ ∃ k, xs = [.bl k] ∧ Q (.int (if k then 1 else 0)) H) (tCons (tOp rEq (tVar 9) (tVar 5)) tNil)))) (tC (.int 26))) rfl sc_l_names.nd rfl rfl (sw_true rfl rfl rfl (by decide +kernel)) (pi_range1 rfl T.f_range (pa_cons (pv 4) pa_nil)) (blkOk_by (N := ["_law_cell_here", "_law_many", "_law_letters", "_law_draws_here", "_law_size", "_law_at", "_law_names_here", "_law_k", "_law_signs", "_law_j", "_law_sign"]) (sc := d_l_names.scope) (by decide +kernel)) (fun _ _ _ _ _ => (pg_name (i := 9) sc_l_names.nd rfl (Or.inl rfl))) (fun _ _ _ _ _ => pts_nil) (fun _ _ _ _ _ => (pe_op op_mod (pe_op op_add (pe_ix ix_list (pv 3) (pe_op op_add pe_int (pv 9)) (fun _ _ => rfl)) (pe_op op_mul (pv 7) (pe_callTy call_int1 (by rfl) T.f_int (by decide +kernel) (pa_cons (pe_cmpR op_eq (pv 9) (pv 5) (nomark _)) pa_nil)))) pe_int)))
    (pss_one (ps_expr (pe_bm PySem.F.plainAttrs_list PySem.F.slot_list_append PySem.F.type_list_append mt_append (pv 6) (pa_cons (pe_join pe_str (pe_lc (own := [("_law_sign", 10)]) (g := gName 10) (tt := tYes) (te := tOp rIxS (tVar 2) (tVar 10)) rfl sc_l_names.nd (pi_list (pv 8)) (blkOk_by (N := ["_law_cell_here", "_law_many", "_law_letters", "_law_draws_here", "_law_size", "_law_at", "_law_names_here", "_law_k", "_law_signs", "_law_j", "_law_sign"]) (sc := d_l_names.scope) (by decide +kernel)) (fun _ _ _ _ _ => (pg_name (i := 10) sc_l_names.nd rfl (Or.inl rfl))) (fun _ _ _ _ _ => pts_nil) (fun _ _ _ _ _ => (pe_ix ix_str (pv 2) (pv 10) (fun _ _ => rfl))))) pa_nil))))))
    (pss_one (ps_ret (pv 6))))))))), ?_⟩
    refine ⟨_, rfl, c, 10, rfl, by decide, fun H1 dr ns s1 ndr hl hns => ?_⟩
    obtain ⟨a, b, rest, rfl⟩ : ∃ a b rest, ns = a :: b :: rest := by
      match ns, hl with
      | a :: b :: rest, _ => exact ⟨a, b, rest, rfl⟩
    obtain ⟨hdr, hnn⟩ := hns
    refine ⟨_, rfl, dr, _, 0, _, rfl, rfl, SqL.of hdr, at0, _, _, rfl, rfl, (show (0 : Int) < 8 by decide), _, _, rfl, rfl, ?_⟩
    obtain ⟨size, hsz⟩ : ∃ size : Nat, (1 + a % 8 : Int) = size := ⟨(1 + a % 8).toNat, by omega⟩
    show gName 4 (V.int (1 + a % 8)) _ _ _
    rw [hsz]
    have sz1 : 1 ≤ size := by omega
    have sz8 : size ≤ 8 := by omega
    refine ⟨_, rfl, dr, _, 1, _, rfl, rfl, SqL.of hdr, at1, _, rfl, _, _, rfl, rfl, (show (0 : Int) < (size : Int) by omega), ?_⟩
    obtain ⟨at_, hat⟩ : ∃ at_ : Nat, (b % (size : Int)) = at_ := ⟨(b % (size : Int)).toNat, by have := Int.emod_nonneg b (show (size : Int) ≠ 0 by omega); omega⟩
    show gName 5 (V.int (b % (size : Int))) _ _ _
    rw [hat]
    have hats : at_ < size := by
      have := Int.emod_lt_of_pos b (show (0 : Int) < (size : Int) by omega)
      omega
    refine ⟨Nat.zero_le _, fun nl hnl => ?_⟩
    have hdrn := (Same.new (o := .lst []) hnl) _ _ hdr
    have s2 := s1.trans (Same.new (o := .lst []) hnl)
    have hnlH : H nl = none := s1.free hnl
    refine ⟨_, rfl, (m : Int), rfl, by omega, by omega, for_it walk_range (fun i σ H' => ∃ u1 u2, σ = [some (.int c), some (.int (m : Int)), some (.str "abcdefghijklmnopqrstuvwxyz"), some (.ref dr), some (.int (size : Int)), some (.int (at_ : Int)), some (.ref nl), u1, u2, none, none] ∧
      Same H H' ∧ H' dr = some (.lst ((a :: b :: rest).map V.int)) ∧ H' nl = some (.lst (((List.range i).map (nmT (a :: b :: rest) size at_)).map V.str)))
      ⟨_, _, rfl, s2, hdrn, upd_same⟩ (fun _ _ _ _ _ => trivial) ?_ ?_⟩
    · rintro i x σ H2 H3 hi ⟨u1, u2, rfl, s3, hd3, hn3⟩ ⟨rfl, rfl⟩
      have hi' : i < m := by
        rw [Int.toNat_natCast] at hi
        exact hi
      refine ⟨_, rfl, (size : Int), rfl, by omega, by omega, fun D hD => lc_it walk_range (fun j H' => Same H H' ∧ H' dr = some (.lst ((a :: b :: rest).map V.int)) ∧ H' nl = some (.lst (((List.range i).map (nmT (a :: b :: rest) size at_)).map V.str)) ∧
        H' D = some (.lst (((List.range j).map fun j => (((a :: b :: rest).getD (2 + j) 0) + (i : Int) * (if j = at_ then 1 else 0)) % 26).map V.int)))
        ⟨s3.trans (Same.new hD), (Same.new hD) _ _ hd3, (Same.new hD) _ _ hn3, upd_same⟩ (fun _ _ _ _ => trivial) ?_ ?_⟩
      · rintro j y H4 H5 hj ⟨s4, hd4, hn4, hD4⟩ ⟨rfl, rfl⟩
        have hj' : j < size := by
          rw [Int.toNat_natCast] at hj
          exact hj
        refine ⟨rfl, tyes ?_⟩
        obtain ⟨z, hz⟩ : ∃ z, (a :: b :: rest)[2 + j]? = some z := ⟨_, List.getElem?_eq_getElem (by omega)⟩
        have hat2 : atI ((a :: b :: rest).map V.int) ((2 : Int) + (0 + (j : Int))) = some (.int z) := by
          rw [show (2 : Int) + (0 + (j : Int)) = ((2 + j : Nat) : Int) by omega]
          exact atI_nat (by rw [List.getElem?_map, hz]; rfl)
        refine ⟨_, rfl, _, rfl, _, _, rfl, rfl, dr, _, _, _, rfl, rfl, SqL.of hd4, hat2, _, rfl, _, rfl, _, rfl, rfl, .inr ⟨_, rfl, _, _, rfl, rfl, .inl ⟨by omega, by omega⟩, _, _, rfl, rfl, _, _, rfl, rfl, (show (0 : Int) < 26 by decide), ?_⟩⟩
        refine ⟨_, hD4, ?_, Same.mut s4 (s3.free hD), ?_, ?_, ?_⟩
        · rw [List.length_map, List.length_map, List.length_range]
          exact small1000 (by omega)
        · rw [upd_ne (ne_of_none hd3 hD)]
          exact hd4
        · rw [upd_ne (ne_of_none hn3 hD)]
          exact hn4
        · rw [upd_same, List.range_succ, List.map_append, List.map_append]
          have e : (a :: b :: rest).getD (2 + j) 0 = z := by
            rw [List.getD_eq_getElem?_getD, hz]
            rfl
          have e2 : (if (decide (V.int (0 + (j : Int)) = V.int (at_ : Int))) = true then (1 : Int) else 0) = if j = at_ then 1 else 0 := by
            by_cases h : j = at_
            · rw [if_pos h, if_pos (decide_eq_true (by rw [h, Int.zero_add]))]
            · rw [if_neg h, if_neg (by rw [decide_eq_true_iff]; intro hh; have := V.int.inj hh; omega)]
          show some (HO.lst (_ ++ [V.int ((z + (0 + (i : Int)) * (if (decide (V.int (0 + (j : Int)) = V.int (at_ : Int))) = true then (1 : Int) else 0)) % 26)])) = some (HO.lst (_ ++ [V.int (((a :: b :: rest).getD (2 + j) 0 + (i : Int) * (if j = at_ then 1 else 0)) % 26)]))
          rw [e2, e, Int.zero_add]
      rintro H4 ⟨s4, hd4, hn4, hD4⟩
      rw [Int.toNat_natCast] at hD4
      have hnm : (nmL (a :: b :: rest) size at_ i).map (fun c => (⟨#[c]⟩ : Str)) = (List.range size).map fun j => (⟨#[97 + ((((a :: b :: rest).getD (2 + j) 0) + (i : Int) * (if j = at_ then 1 else 0)) % 26).toNat]⟩ : Str) := by
        unfold nmL
        rw [List.map_map]
        rfl
      generalize hSG : (List.range size).map (fun j => (((a :: b :: rest).getD (2 + j) 0) + (i : Int) * (if j = at_ then 1 else 0)) % 26) = SG at hD4
      have lSG : SG.length = size := by
        rw [← hSG, List.length_map, List.length_range]
      have rSG : ∀ z ∈ SG, 0 ≤ z ∧ z < 26 := fun z hz => by
        rw [← hSG] at hz
        obtain ⟨j, _, rfl⟩ := List.mem_map.mp hz
        exact ⟨Int.emod_nonneg _ (by decide), Int.emod_lt_of_pos _ (by decide)⟩
      have hnm2 : SG.map (fun z => (⟨#[97 + z.toNat]⟩ : Str)) = (nmL (a :: b :: rest) size at_ i).map (fun c => (⟨#[c]⟩ : Str)) := by
        rw [hnm, ← hSG, List.map_map]
        rfl
      refine ⟨_, rfl, .inl ⟨rfl, _, SqL.of hn4⟩, ⟨_, rfl⟩, _, rfl, D, rfl, ⟨_, SqL.of hD4⟩, fun D2 hD2 => lc_it (walk_list (xs := SG.map V.int)) (fun j H' => Same H H' ∧ H' D = some (.lst (SG.map V.int)) ∧ H' dr = some (.lst ((a :: b :: rest).map V.int)) ∧ H' nl = some (.lst (((List.range i).map (nmT (a :: b :: rest) size at_)).map V.str)) ∧
        H' D2 = some (.lst ((SG.take j).map fun z => V.str ⟨#[97 + z.toNat]⟩)))
        ⟨s4.trans (Same.new hD2), (Same.new hD2) _ _ hD4, (Same.new hD2) _ _ hd4, (Same.new hD2) _ _ hn4, upd_same⟩ (fun _ _ _ ⟨_, e, _⟩ => SqL.of e) ?_ ?_⟩
      · rintro j y H5 H6 hj ⟨s5, hD5, hd5, hn5, hE5⟩ ⟨rfl, hy⟩
        rw [List.getElem?_map] at hy
        cases q : SG[j]? with
        | none =>
          rw [q] at hy
          cases hy
        | some z =>
          rw [q] at hy
          obtain rfl := Option.some.inj hy
          have zr := rSG z (List.mem_of_getElem? q)
          refine ⟨rfl, tyes ?_⟩
          have hat3 : atI ("abcdefghijklmnopqrstuvwxyz" : Str).cps.toList z = some (97 + z.toNat) := by
            have := atI_nat (letters_at (i := z.toNat) (by omega))
            rw [show ((z.toNat : Nat) : Int) = z by omega] at this
            exact this
          refine ⟨_, rfl, _, rfl, _, _, _, rfl, rfl, (by decide +kernel), hat3, _, hE5, ?_, Same.mut s5 (s4.free hD2), ?_, ?_, ?_, ?_⟩
          · rw [List.length_map, List.length_take]
            exact small1000 (by omega)
          · rw [upd_ne (ne_of_none hD4 hD2)]
            exact hD5
          · rw [upd_ne (ne_of_none hd4 hD2)]
            exact hd5
          · rw [upd_ne (ne_of_none hn4 hD2)]
            exact hn5
          · rw [upd_same, take_snoc q, List.map_append]
            rfl
      rintro H5 ⟨s5, hD5, hd5, hn5, hE5⟩
      rw [List.length_map, List.take_length] at hE5
      have hE6 : H5 D2 = some (.lst (((nmL (a :: b :: rest) size at_ i).map fun c => (⟨#[c]⟩ : Str)).map V.str)) := by
        rw [← hnm2, List.map_map]
        exact hE5
      have hj : Txt.join ("" : Str) ((nmL (a :: b :: rest) size at_ i).map fun c => (⟨#[c]⟩ : Str)) = nmT (a :: b :: rest) size at_ i := join_sgn _
      refine ⟨("" : Str), D2, (nmL (a :: b :: rest) size at_ i).map fun c => (⟨#[c]⟩ : Str), rfl, rfl, .inl (SqL.of hE6), ?_, ?_⟩
      · have e0 : ("" : Str).length = 0 := by decide +kernel
        have e1 : ∀ l : List Nat, ((l.map fun c => (⟨#[c]⟩ : Str)).map (·.length)).sum = l.length := fun l => by
          induction l with
          | nil => rfl
          | cons c r ih =>
            rw [List.map_cons, List.map_cons, List.sum_cons, ih, List.length_cons]
            show 1 + r.length = _
            omega
        rw [e0, e1, Nat.mul_zero, nmL_len]
        omega
      rw [hj]
      refine ⟨nl, _, _, rfl, rfl, hn5, ?_, _, _, rfl, Same.mut s5 hnlH, ?_, ?_⟩
      · rw [List.length_map, List.length_map, List.length_range]
        exact small1000 (by omega)
      · rw [upd_ne (ne_of_none hdr hnl)]
        exact hd5
      · rw [upd_same, List.range_succ, List.map_append, List.map_append]
        rfl
    · rintro σ H2 ⟨u1, u2, rfl, s3, hd3, hn3⟩
      rw [Int.toNat_natCast] at hn3
      refine ⟨_, rfl, k _ nl ((List.range m).map (nmT (a :: b :: rest) size at_)) s3 hnlH ?_ (names_nd hats (by omega)) (fun z hz => ?_) hn3⟩
      · rw [List.length_map, List.length_range]
      · obtain ⟨j, _, rfl⟩ := List.mem_map.mp hz
        exact nmT_ok sz1 sz8
end
end Fl

set_option Elab.async false
set_option linter.all false
set_option maxRecDepth 100000
set_option maxHeartbeats 1000000
/-! The law's draws: values, rows, schemas. -/
namespace Fl
open PySem PySem.Spec PyProof.Rows L2
open TL (tl)
def sp_l_value : Sp := fun vs H Q _ => ∃ (kd : Str) (d : Int), vs = [.str kd, .int d] ∧ (kd = KNum ∨ kd = KWord) ∧ 0 ≤ d ∧ ∀ H' v, Same H H' → OkV kd v → Q v H'
def sp_l_row : Sp := fun vs H Q _ => ∃ a xs cs b ns, vs = [.ref a, .ref b] ∧ H a = some (.lst xs) ∧ Paired (ColAt H) cs xs ∧ ColsOk cs ∧ NumsAt H ns b ∧ cs.length ≤ ns.length ∧ ∀ H' v r, Same H H' → RowAt H' r v → RowOk cs r → Q v H'
section
variable {P : Program} {w : World} {K : PySem.W.Frag} {mg : Str → Option Value} {base : Heap} {fd : FuncData}
theorem sc_l_value : FnScope ["_law_kind", "_law_draw", "_law_number"] ["_law_kind", "_law_draw"] d_l_value.scope := ⟨rfl, rfl, rfl, by decide +kernel, rfl, by decide +kernel, by decide +kernel⟩
theorem ok_l_value (T : Tx K mg) (F : Fd K d_l_value fd) (D_l_names : Df P w K mg base CX0 2 "_law_names" ["_law_cell_here", "_law_many"] sp_l_names) : FnOk P w K mg base CX0 3 (He.fAd K d_l_value.at_) fd ["_law_kind", "_law_draw"] sp_l_value := by
  refine ok0 F sc_l_value (fun vs H Q E h => ?_) (fun cdv A outer s H vs Q E hr h => ?_)
  · obtain ⟨_, _, rfl, _⟩ := h
    rfl
  · obtain ⟨kd, d, rfl, hk, hd, k⟩ := h
    have d0 : 0 ≤ d % 3 := Int.emod_nonneg _ (by decide)
    have d1 : d % 3 < 3 := Int.emod_lt_of_pos _ (by decide)
    refine ⟨_, (pss_cons (ps_if (pt_cmpR op_eq (pv 0) pe_str (nomark _)) (pss_one (ps_ret (pe_ix ix_list (pe_df D_l_names (hr.mono (by decide)) pass0 (pa_cons (pe_op op_fdiv (pv 1) pe_int) (pa_cons (pe_op op_add pe_int (pe_op op_mod (pv 1) pe_int)) pa_nil))) (pe_op op_mod (pv 1) pe_int) (fun _ _ => rfl)))) pss_nil)
    (pss_cons (ps_set (i := 2) sc_l_value.nd rfl (Or.inl rfl) (pe_ix ix_list (pe_lst (pa_cons (pe_op op_mod (pv 1) pe_int) (pa_cons (pe_op op_mod (pv 1) (pe_op op_add (pe_op op_pow pe_int pe_int) pe_int)) (pa_cons (pe_op op_sub (pe_op op_pow pe_int pe_int) (pe_op op_mod (pv 1) pe_int)) pa_nil)))) (pe_op op_mod (pe_op op_fdiv (pv 1) pe_int) pe_int) (fun _ _ => rfl)))
    (pss_one (ps_ret (pe_op op_mul (pv 2) (pe_ix ix_list (pe_lst (pa_cons pe_int (pa_cons (pe_un un_neg pe_int) pa_nil))) (pe_op op_mod (pe_op op_fdiv (pv 1) pe_int) pe_int) (fun _ _ => rfl))))))), ?_⟩
    refine ⟨_, rfl, rfl, _, rfl, ?_⟩
    rcases hk with rfl | rfl
    · refine if_f (by decide +kernel) ?_
      refine ⟨_, rfl, _, _, rfl, rfl, (show (0 : Int) < 5 by decide), _, rfl, _, _, rfl, rfl, ⟨by decide, by decide, by decide⟩, _, _, rfl, rfl, _, _, rfl, rfl, (show (0 : Int) < 10 ^ (9 : Int).toNat + 1 by decide),
        _, _, rfl, rfl, ⟨by decide, by decide, by decide⟩, _, rfl, _, _, rfl, rfl, (show (0 : Int) < 3 by decide), _, _, rfl, rfl, (by show 3 ≤ sizeLine; decide), fun p hp => ?_⟩
      have s1 := Same.new (o := .lst [V.int (d % 5), V.int (d % ((10 : Int) ^ (9 : Int).toNat + 1)), V.int ((10 : Int) ^ (9 : Int).toNat - d % 3)]) hp
      have j0 : 0 ≤ d / 7 % 3 := Int.emod_nonneg _ (by decide)
      have j1 : d / 7 % 3 < 3 := Int.emod_lt_of_pos _ (by decide)
      obtain ⟨x, hx, x0, x1⟩ : ∃ x : Int, atI [V.int (d % 5), V.int (d % ((10 : Int) ^ (9 : Int).toNat + 1)), V.int ((10 : Int) ^ (9 : Int).toNat - d % 3)] (d / 7 % 3) = some (V.int x) ∧ 0 ≤ x ∧ x ≤ 1000000000 := by
        have a0 : 0 ≤ d % 5 := Int.emod_nonneg _ (by decide)
        have a1 : d % 5 < 5 := Int.emod_lt_of_pos _ (by decide)
        have b0 : 0 ≤ d % ((10 : Int) ^ (9 : Int).toNat + 1) := Int.emod_nonneg _ (by decide)
        have b1 : d % ((10 : Int) ^ (9 : Int).toNat + 1) < (10 : Int) ^ (9 : Int).toNat + 1 := Int.emod_lt_of_pos _ (by decide)
        have e9 : (10 : Int) ^ (9 : Int).toNat = 1000000000 := by decide
        rcases (by omega : d / 7 % 3 = ((0 : Nat) : Int) ∨ d / 7 % 3 = ((1 : Nat) : Int) ∨ d / 7 % 3 = ((2 : Nat) : Int)) with e | e | e
        · exact ⟨_, by rw [e]; exact atI_nat rfl, a0, by omega⟩
        · exact ⟨_, by rw [e]; exact atI_nat rfl, b0, by omega⟩
        · exact ⟨_, by rw [e]; exact atI_nat rfl, by omega, by omega⟩
      refine ⟨_, rfl, _, _, rfl, rfl, ⟨by decide, by decide⟩, _, _, rfl, rfl, (show (0 : Int) < 3 by decide), p, _, _, _, rfl, rfl, SqL.of upd_same, hx, ?_⟩
      refine ⟨_, rfl, _, rfl, (by show 2 ≤ sizeLine; decide), fun p2 hp2 => ?_⟩
      have s2 := s1.trans (Same.new (o := .lst [V.int 1, V.int (-1)]) hp2)
      have i0 : 0 ≤ d / 21 % 2 := Int.emod_nonneg _ (by decide)
      have i1 : d / 21 % 2 < 2 := Int.emod_lt_of_pos _ (by decide)
      obtain ⟨y, hy, hy2⟩ : ∃ y : Int, atI [V.int 1, V.int (-1)] (d / 21 % 2) = some (V.int y) ∧ (y = 1 ∨ y = -1) := by
        rcases (by omega : d / 21 % 2 = ((0 : Nat) : Int) ∨ d / 21 % 2 = ((1 : Nat) : Int)) with e | e
        · exact ⟨_, by rw [e]; exact atI_nat rfl, .inl rfl⟩
        · exact ⟨_, by rw [e]; exact atI_nat rfl, .inr rfl⟩
      refine ⟨_, rfl, _, _, rfl, rfl, ⟨by decide, by decide⟩, _, _, rfl, rfl, (show (0 : Int) < 2 by decide), p2, _, _, _, rfl, rfl, SqL.of upd_same, hy, _, _, rfl, rfl, .inl ⟨by omega, by omega⟩, ?_⟩
      refine k _ _ s2 (.inl ⟨rfl, x * y, rfl, ?_, ?_⟩)
      · rcases hy2 with rfl | rfl <;> omega
      · rcases hy2 with rfl | rfl <;> omega
    · refine if_t (by decide +kernel) ?_
      obtain ⟨m, hm⟩ : ∃ m : Nat, d % 3 = m := ⟨(d % 3).toNat, by omega⟩
      refine ⟨_, rfl, _, _, rfl, rfl, ⟨by decide, by decide⟩, _, rfl, _, _, rfl, rfl, (show (0 : Int) < 3 by decide), _, _, rfl, rfl, d / 3, m + 1, ?_, by omega, fun H' q zs s1 nq hl _ hok hq => ?_⟩
      · show [V.int (d / 3), V.int (1 + d % 3)] = _
        rw [hm, show (1 : Int) + (m : Int) = ((m + 1 : Nat) : Int) by omega]
      obtain ⟨z, hz⟩ : ∃ z, zs[m]? = some z := ⟨_, List.getElem?_eq_getElem (by omega)⟩
      refine ⟨_, rfl, _, _, rfl, rfl, (show (0 : Int) < 3 by decide), q, _, _, _, rfl, rfl, SqL.of hq, ?_, k _ _ s1 (.inr ⟨rfl, z, rfl, hok z (List.mem_of_getElem? hz)⟩)⟩
      rw [hm]
      exact atI_nat (by rw [List.getElem?_map, hz]; rfl)
theorem sc_l_row : FnScope ["_law_columns", "_law_draws_here", "_law_k", "_law_name", "_law_kind"] ["_law_columns", "_law_draws_here"] d_l_row.scope := ⟨rfl, rfl, rfl, by decide +kernel, rfl, by decide +kernel, by decide +kernel⟩
theorem ok_l_row (T : Tx K mg) (F : Fd K d_l_row fd) (D_l_value : Df P w K mg base CX0 3 "_law_value" ["_law_kind", "_law_draw"] sp_l_value) : FnOk P w K mg base CX0 4 (He.fAd K d_l_row.at_) fd ["_law_columns", "_law_draws_here"] sp_l_row := by
  refine ok0 F sc_l_row (fun vs H Q E h => ?_) (fun cdv A outer s H vs Q E hr h => ?_)
  · obtain ⟨_, _, _, _, _, rfl, _⟩ := h
    rfl
  · obtain ⟨a, xs, cs, b, ns, rfl, ha, hp, C, hns, hln, k⟩ := h
    have c4 : List.length cs ≤ 4 := C.len.2
    refine ⟨_, (pss_one (ps_ret (pe_callTy call_tuple_of (by rfl) T.f_tuple (by decide +kernel) (pa_cons (pe_lc (own := [("_law_k", 2), ("_law_name", 3), ("_law_kind", 4)]) (g := gTup K 2 (gCons (gName 2) (gCons (gTup K 2 (gCons (gName 3) (gCons (gName 4) gNil))) gNil))) (tt := tYes) (te := tCall sp_l_value [] E0 (tCons (tVar 4) (tCons (tOp (rIxL K) (tVar 1) (tVar 2)) tNil))) rfl sc_l_row.nd (pi_enum (by rfl) T.f_enumerate (pa_cons (pv 0) pa_nil)) (blkOk_by (N := ["_law_columns", "_law_draws_here", "_law_k", "_law_name", "_law_kind"]) (sc := d_l_row.scope) (by decide +kernel)) (fun _ _ _ _ _ => (pg_tup rfl (pgs_cons (pg_name (i := 2) sc_l_row.nd rfl (Or.inl rfl)) (pgs_cons (pg_tup rfl (pgs_cons (pg_name (i := 3) sc_l_row.nd rfl (Or.inl rfl)) (pgs_cons (pg_name (i := 4) sc_l_row.nd rfl (Or.inl rfl)) pgs_nil))) pgs_nil)))) (fun _ _ _ _ _ => pts_nil) (fun _ _ _ _ _ => (pe_df D_l_value (hr.mono (by decide)) pass0 (pa_cons (pv 4) (pa_cons (pe_ix ix_list (pv 1) (pv 2) (fun _ _ => rfl)) pa_nil))))) pa_nil)))), ?_⟩
    refine ⟨_, rfl, a, xs, rfl, SqL.of ha, fun D hD => lc_it walk_enum (fun i H' => Same H H' ∧ ∃ r : Row, H' D = some (.lst r) ∧ RowOk (cs.take i) r) ⟨Same.new hD, [], upd_same, .nil⟩ (fun i H' _ ⟨e, _⟩ => SqL.of (e _ _ ha)) ?_ ?_⟩
    · rintro i x H1 H2 hi ⟨s1, r, hD1, okr⟩ ⟨q, y, z, rfl, hq, rfl, hy, hz⟩
      obtain rfl := Option.some.inj hy
      replace hz : xs[i]? = some z := hz
      obtain ⟨c, hc, q2, rfl, hq2⟩ := paired_at2 hp hz
      have s2 := s1.trans (Same.new (o := .tup [V.int (i : Nat), .ref q2]) hq)
      have il : i < List.length cs := (List.getElem?_eq_some_iff.mp hc).1
      obtain ⟨n, hn⟩ : ∃ n, ns[i]? = some n := ⟨_, List.getElem?_eq_getElem (Nat.lt_of_lt_of_le il hln)⟩
      refine ⟨q, _, rfl, SqT.of upd_same, rfl, _, _, rfl, _, _, rfl, q2, _, rfl, SqT.of (s2 _ _ hq2), rfl, _, _, rfl, _, _, rfl, rfl, rfl, rfl, tyes ?_⟩
      refine ⟨_, rfl, _, rfl, _, rfl, b, _, _, _, rfl, rfl, SqL.of (s2 _ _ hns.1), atI_nat (v := V.int n) (by rw [List.getElem?_map, hn]; rfl), c.2, n, rfl, C.kd _ (List.mem_of_getElem? hc), hns.2 n (List.mem_of_getElem? hn), fun H3 v s3 okv => ?_⟩
      have hD3 := s3 _ _ ((Same.new (o := .tup [V.int (i : Nat), .ref q2]) hq) _ _ hD1)
      refine ⟨r, hD3, ?_, Same.mut (s2.trans s3) hD, r ++ [v], upd_same, ?_⟩
      · rw [← paired_len okr, List.length_take]
        exact small1000 (by omega)
      · rw [take_snoc hc]
        exact paired_snoc okr okv
    rintro H1 ⟨s1, r, hD1, okr⟩
    rw [← paired_len hp, List.take_length] at okr
    exact ⟨D, r, rfl, .inl ⟨SqL.of hD1, fun q hq => k _ _ r (s1.trans (Same.new hq)) ⟨q, rfl, upd_same⟩ okr⟩⟩
end
end Fl

set_option Elab.async false
set_option linter.all false
set_option maxRecDepth 100000
set_option maxHeartbeats 2000000
/-! The law's schema. -/
namespace Fl
open PySem PySem.Spec PyProof.Rows L2
open TL (tl)
/-- the orders that may be -/
def allO : Tabs → List Col
  | [] => []
  | t :: r => ((t.2.drop 1).map fun c => (t.1, c.1)) ++ allO r
theorem allO_app : ∀ (a b : Tabs), allO (a ++ b) = allO a ++ allO b
  | [], _ => rfl
  | t :: r, b => by
    show _ ++ allO (r ++ b) = (_ ++ allO r) ++ allO b
    rw [allO_app r b, List.append_assoc]
theorem allO_fst : ∀ {T : Tabs} {o : Col}, o ∈ allO T → o.1 ∈ T.map (·.1)
  | t :: r, o, h => by
    rcases List.mem_append.mp h with h | h
    · obtain ⟨c, _, rfl⟩ := List.mem_map.mp h
      exact List.mem_cons_self
    · exact List.mem_cons_of_mem _ (allO_fst h)
theorem allO_ok : ∀ {T : Tabs} {o : Col}, o ∈ allO T → ∃ cs, (o.1, cs) ∈ T ∧ o.2 ∈ (cs.drop 1).map (·.1)
  | t :: r, o, h => by
    rcases List.mem_append.mp h with h | h
    · obtain ⟨c, hc, rfl⟩ := List.mem_map.mp h
      exact ⟨t.2, List.mem_cons_self, List.mem_map.mpr ⟨c, hc, rfl⟩⟩
    · obtain ⟨cs, h1, h2⟩ := allO_ok h
      exact ⟨cs, List.mem_cons_of_mem _ h1, h2⟩
theorem allO_nd : ∀ {T : Tabs}, (T.map (·.1)).Nodup → (∀ t ∈ T, (t.2.map (·.1)).Nodup) → (allO T).Nodup
  | [], _, _ => List.nodup_nil
  | t :: r, h1, h2 => by
    obtain ⟨n1, n2⟩ := List.nodup_cons.mp h1
    refine List.nodup_append.mpr ⟨?_, allO_nd n2 fun x hx => h2 x (List.mem_cons_of_mem _ hx), fun a ha b hb e => ?_⟩
    · have h : (t.2.map (·.1)).Nodup := h2 t List.mem_cons_self
      have hd : ((t.2.drop 1).map (·.1)).Nodup := by
        rw [List.map_drop]
        exact h.sublist (List.drop_sublist _ _)
      refine List.pairwise_map.mpr ((List.pairwise_map.mp hd).imp fun {a b} hne => fun z => hne ?_)
      exact congrArg Prod.snd z
    · subst e
      obtain ⟨c, hc, rfl⟩ := List.mem_map.mp ha
      exact n1 (allO_fst hb)
theorem allO_len {T : Tabs} (h : ∀ t ∈ T, t.2.length ≤ 4) : (allO T).length ≤ 4 * T.length := by
  induction T with
  | nil => exact Nat.le_refl _
  | cons t r ih =>
    have h1 := ih fun x hx => h x (List.mem_cons_of_mem _ hx)
    have h2 := h t List.mem_cons_self
    show (((t.2.drop 1).map fun c => (t.1, c.1)) ++ allO r).length ≤ 4 * (r.length + 1)
    rw [List.length_append, List.length_map, List.length_drop]
    have e : List.length t.2 ≤ 4 := h2
    omega
/-- kept, but for two -/
def Kp (a b : Addr) (H H' : Hp) : Prop := ∀ c o, H c = some o → c ≠ a → c ≠ b → H' c = some o
def TabInN (H : Hp) (a b : Addr) (t : Str × Cols) (x : V) : Prop := ∃ q l xs, x = .ref q ∧ H q = some (.tup [.str t.1, .ref l]) ∧ H l = some (.lst xs) ∧ Paired (ColAt H) t.2 xs ∧ l ≠ a ∧ l ≠ b
theorem Kp.ts {a b : Addr} {H H' : Hp} (k : Kp a b H H') {xs ys : List V} (ha : H a = some (.lst xs)) (hb : H b = some (.lst ys)) : TS H H' := fun e zs he =>
  k e _ he (fun z => by subst z; rw [ha] at he; cases he) (fun z => by subst z; rw [hb] at he; cases he)
theorem TabInN.kp {a b : Addr} {H H' : Hp} (k : Kp a b H H') {xs ys : List V} (ha : H a = some (.lst xs)) (hb : H b = some (.lst ys)) {t : Str × Cols} {x : V} : TabInN H a b t x → TabInN H' a b t x := fun ⟨q, l, zs, e, h1, h2, h3, h4, h5⟩ =>
  ⟨q, l, zs, e, k.ts ha hb _ _ h1, k _ _ h2 h4 h5, paired_imp h3 fun _ _ => ColAt.ts (k.ts ha hb), h4, h5⟩
theorem _root_.L2.Same.kp {a b : Addr} {H H' : Hp} (k : Same H H') : Kp a b H H' := fun c o h _ _ => k c o h
def sp_l_schema : Sp := fun vs H Q _ => ∃ c : Int, vs = [.int c] ∧ ∀ H' q lt lo xs ys T os, Same H H' → H' q = some (.tup [.ref lt, .ref lo]) → H' lt = some (.lst xs) → Paired (TabIn H') T xs → TabsOk T → H' lo = some (.lst ys) → Paired (ColAt H') os ys → OrdsOk T os → Q (.ref q) H'
theorem nums_at {ns : List Int} {j : Nat} {n : Int} (h : ns[j]? = some n) {i : Int} (e : i = (j : Int)) : atI (ns.map V.int) i = some (.int n) := by
  rw [e]
  exact atI_nat (by rw [List.getElem?_map, h]; rfl)
theorem perm_erase {α : Type} : ∀ {l : List α} {i : Nat} {x : α}, l[i]? = some x → (x :: l.eraseIdx i).Perm l
  | a :: r, 0, x, h => by
    obtain rfl := Option.some.inj h
    exact List.Perm.refl _
  | a :: r, i + 1, x, h => (List.Perm.swap a x _).trans (List.Perm.cons a (perm_erase (l := r) (i := i) h))
theorem paired_erase {α β : Type} {F : α → β → Prop} {l : List α} {m : List β} (h : Paired F l m) : ∀ i, Paired F (l.eraseIdx i) (m.eraseIdx i) := by
  induction h with
  | nil => exact fun _ => .nil
  | cons r t ih =>
    intro i
    cases i with
    | zero => exact t
    | succ i => exact .cons r (ih i)
section
variable {P : Program} {w : World} {K : PySem.W.Frag} {mg : Str → Option Value} {base : Heap} {fd : FuncData}
theorem sc_l_schema : FnScope ["_law_cell_here", "_law_draws_here", "_law_tables", "_law_some", "_law_k", "_law_name", "_law_columns", "_law_names_here", "_law_j", "_law_column", "_law_orders"] ["_law_cell_here"] d_l_schema.scope := ⟨rfl, rfl, rfl, by decide +kernel, rfl, by decide +kernel, by decide +kernel⟩
theorem ok_l_schema (T : Tx K mg) (F : Fd K d_l_schema fd) (D_l_draws : Df P w K mg base CX0 1 "_law_draws" ["_law_cell_here", "_law_many"] sp_l_draws) (D_l_names : Df P w K mg base CX0 2 "_law_names" ["_law_cell_here", "_law_many"] sp_l_names) :
    FnOk P w K mg base CX0 3 (He.fAd K d_l_schema.at_) fd ["_law_cell_here"] sp_l_schema := by
  refine ok0 F sc_l_schema (fun vs H Q E h => ?_) (fun cdv A outer s H vs Q E hr h => ?_)
  · obtain ⟨_, rfl, _⟩ := h
    rfl
  · obtain ⟨c, rfl, k⟩ := h
    refine ⟨_, (pss_cons (ps_set (i := 1) sc_l_schema.nd rfl (Or.inl rfl) (pe_df D_l_draws (hr.mono (by decide)) pass0 (pa_cons (pv 0) (pa_cons pe_int pa_nil))))
    (pss_cons (ps_set (i := 2) sc_l_schema.nd rfl (Or.inl rfl) (pe_lst pa_nil))
    (pss_cons (ps_set (i := 3) sc_l_schema.nd rfl (Or.inl rfl) (pe_lst pa_nil))
    (pss_cons (ps_for PassesOwn.never rfl (pi_enum (by rfl) T.f_enumerate (pa_cons (pe_df D_l_names (hr.mono (by decide)) pass0 (pa_cons (pe_ix ix_list (pv 1) pe_int (fun _ _ => rfl)) (pa_cons (pe_op op_add pe_int (pe_op op_mod (pe_ix ix_list (pv 1) pe_int (fun _ _ => rfl)) pe_int)) pa_nil))) pa_nil)) (pg_tup rfl (pgs_cons (pg_name (i := 4) sc_l_schema.nd rfl (Or.inl rfl)) (pgs_cons (pg_name (i := 5) sc_l_schema.nd rfl (Or.inr rfl)) pgs_nil))) (pss_cons (ps_set (i := 6) sc_l_schema.nd rfl (Or.inl rfl) (pe_lst pa_nil))
    (pss_cons (ps_set (i := 7) sc_l_schema.nd rfl (Or.inl rfl) (pe_df D_l_names (hr.mono (by decide)) pass0 (pa_cons (pe_ix ix_list (pv 1) (pe_op op_add pe_int (pv 4)) (fun _ _ => rfl)) (pa_cons (pe_op op_add pe_int (pe_op op_mod (pe_ix ix_list (pv 1) (pe_op op_add pe_int (pv 4)) (fun _ _ => rfl)) pe_int)) pa_nil))))
    (pss_cons (ps_for PassesOwn.never rfl (pi_enum (by rfl) T.f_enumerate (pa_cons (pv 7) pa_nil)) (pg_tup rfl (pgs_cons (pg_name (i := 8) sc_l_schema.nd rfl (Or.inl rfl)) (pgs_cons (pg_name (i := 9) sc_l_schema.nd rfl (Or.inl rfl)) pgs_nil))) (pss_one (ps_expr (pe_bm PySem.F.plainAttrs_list PySem.F.slot_list_append PySem.F.type_list_append mt_append (pv 6) (pa_cons (pe_tup (pa_cons (pv 9) (pa_cons (pe_ix ix_list (pe_lst (pa_cons pe_str (pa_cons pe_str pa_nil))) (pe_op op_mod (pe_ix ix_list (pv 1) (pe_op op_add (pe_op op_add pe_int (pe_op op_mul pe_int (pv 4))) (pv 8)) (fun _ _ => rfl)) pe_int) (fun _ _ => rfl)) pa_nil))) pa_nil)))))
    (pss_cons (ps_expr (pe_bm PySem.F.plainAttrs_list PySem.F.slot_list_append PySem.F.type_list_append mt_append (pv 2) (pa_cons (pe_tup (pa_cons (pv 5) (pa_cons (pv 6) pa_nil))) pa_nil)))
    (pss_one (ps_expr (pe_bm PySem.F.plainAttrs_list PySem.F.slot_list_extend PySem.F.type_list_extend mt_extend (pv 3) (pa_cons (pe_lc (own := [("_law_column", 9)]) rfl sc_l_schema.nd (pi_list (pe_slice sl_list (pv 7) (po_some pe_int) po_none)) (blkOk_by (N := ["_law_cell_here", "_law_draws_here", "_law_tables", "_law_some", "_law_k", "_law_name", "_law_columns", "_law_names_here", "_law_j", "_law_column", "_law_orders"]) (sc := d_l_schema.scope) (by decide +kernel)) (fun _ _ _ _ _ => (pg_name (i := 9) sc_l_schema.nd rfl (Or.inl rfl))) (fun _ _ _ _ _ => pts_nil) (fun _ _ _ _ _ => (pe_tup (pa_cons (pv 5) (pa_cons (pv 9) pa_nil))))) pa_nil)))))))))
    (pss_cons (ps_set (i := 10) sc_l_schema.nd rfl (Or.inl rfl) (pe_lst pa_nil))
    (pss_cons (ps_for PassesOwn.never rfl (pi_range1 rfl T.f_range (pa_cons pe_int pa_nil)) (pg_name (i := 4) sc_l_schema.nd rfl (Or.inl rfl)) (pss_one (ps_if (PW.pt (pw_and (pt_cmpR (op_neNil hr.units) (pv 3) (pe_lst pa_nil) (nomark _)) (pw_and1 (pt_cmpR op_gt (pe_op op_mod (pe_ix ix_list (pv 1) (pe_op op_add pe_int (pv 4)) (fun _ _ => rfl)) pe_int) pe_int (nomark _))))) (pss_one (ps_expr (pe_bm PySem.F.plainAttrs_list PySem.F.slot_list_append PySem.F.type_list_append mt_append (pv 10) (pa_cons (pe_bm PySem.F.plainAttrs_list PySem.F.slot_list_pop PySem.F.type_list_pop mt_popAt (pv 3) (pa_cons (pe_op op_mod (pe_op op_fdiv (pe_ix ix_list (pv 1) (pe_op op_add pe_int (pv 4)) (fun _ _ => rfl)) pe_int) (pe_callB call_len_seq (by rfl) T.f_len PySem.boot_len (pa_cons (pv 3) pa_nil))) pa_nil)) pa_nil)))) pss_nil)))
    (pss_one (ps_ret (pe_tup (pa_cons (pv 2) (pa_cons (pv 10) pa_nil))))))))))), ?_⟩
    refine ⟨_, rfl, c, 30, rfl, by decide, fun H1 dr ns s1 ndr hl ⟨hdr, hnn⟩ => ?_⟩
    have dat : ∀ j : Nat, j < 30 → ∃ n, ns[j]? = some n ∧ 0 ≤ n := fun j hj => by
      refine ⟨_, List.getElem?_eq_getElem (by omega), hnn _ (List.getElem_mem _)⟩
    refine ⟨Nat.zero_le _, fun lt hlt => ?_⟩
    have e1 := Same.new (o := .lst []) hlt
    refine ⟨Nat.zero_le _, fun ls hls => ?_⟩
    have e2 := e1.trans (Same.new (o := .lst []) hls)
    have ntl : lt ≠ ls := ne_of_none upd_same hls
    have hltH : H1 lt = none := hlt
    have hlsH : H1 ls = none := e1.free hls
    have hlt2 := (Same.new (o := .lst []) hls) _ _ (upd_same (H := H1) (a := lt) (o := .lst []))
    obtain ⟨n0, hn0, _⟩ := dat 0 (by decide)
    obtain ⟨n1, hn1, _⟩ := dat 1 (by decide)
    obtain ⟨m, hm⟩ : ∃ m : Nat, 1 + n1 % 4 = (m : Int) := ⟨(1 + n1 % 4).toNat, by omega⟩
    refine ⟨_, rfl, dr, _, _, _, rfl, rfl, SqL.of (e2 _ _ hdr), nums_at hn0 rfl, _, rfl, dr, _, _, _, rfl, rfl, SqL.of (e2 _ _ hdr), nums_at hn1 rfl, _, _, rfl, rfl, (show (0 : Int) < 4 by decide), _, _, rfl, rfl, n0, m, ?_, by omega, fun H2 nl zs s2 nnl lz zn zok hz => ?_⟩
    · show [V.int n0, V.int (1 + n1 % 4)] = _
      rw [hm]
    have e3 := e2.trans s2
    have nln1 : nl ≠ lt := (ne_of_none hlt2 nnl).symm
    have nln2 : nl ≠ ls := (ne_of_none upd_same nnl).symm
    refine ⟨nl, _, rfl, SqL.of hz, for_it walk_enum (fun i σ H' => ∃ Tb kxs oxs u4 u5 u6 u7 u8 u9, σ = [some (.int c), some (.ref dr), some (.ref lt), some (.ref ls), u4, u5, u6, u7, u8, u9, none] ∧ Same H1 H' ∧ H' nl = some (.lst (zs.map V.str)) ∧
      H' lt = some (.lst kxs) ∧ Paired (TabInN H' lt ls) Tb kxs ∧ H' ls = some (.lst oxs) ∧ Paired (ColAt H') (allO Tb) oxs ∧ Tb.map (·.1) = zs.take i ∧ ∀ t ∈ Tb, ColsOk t.2)
      ⟨[], [], [], _, _, _, _, _, _, rfl, e3, hz, s2 _ _ hlt2, .nil, s2 _ _ upd_same, .nil, rfl, fun _ h => by cases h⟩ (fun i σ H' _ ⟨_, _, _, _, _, _, _, _, _, _, _, e, _⟩ => SqL.of e) ?_ ?_⟩
    · rintro i x σ H3 H4 hi ⟨Tb, kxs, oxs, u4, u5, u6, u7, u8, u9, rfl, s3, hz3, hlt3, hp3, hls3, hq3, hT, hC⟩ ⟨q0, y, z, rfl, hq0, rfl, hy, hzz⟩
      obtain rfl := Option.some.inj hy
      replace hzz : (zs.map V.str)[i]? = some z := hzz
      rw [List.getElem?_map] at hzz
      cases qz : zs[i]? with
      | none =>
        rw [qz] at hzz
        cases hzz
      | some t =>
        rw [qz] at hzz
        obtain rfl := Option.some.inj hzz
        have hi4 : i < 4 := by
          have := (List.getElem?_eq_some_iff.mp qz).1
          omega
        refine ⟨q0, _, rfl, SqT.of upd_same, rfl, _, _, rfl, _, _, rfl, rfl, ?_⟩
        generalize hH4 : upd H3 q0 (.tup [V.int (i : Nat), V.str t]) = H4
        have s34 : Same H3 H4 := hH4 ▸ Same.new hq0
        have s4 := s3.trans s34
        -- columns = []
        refine ⟨Nat.zero_le _, fun lc hlc => ?_⟩
        have s5 := s4.trans (Same.new (o := .lst []) hlc)
        obtain ⟨n2, hn2, _⟩ := dat (2 + i) (by omega)
        obtain ⟨n6, hn6, _⟩ := dat (6 + i) (by omega)
        obtain ⟨m2, hm2⟩ : ∃ m : Nat, 1 + n6 % 4 = (m : Int) := ⟨(1 + n6 % 4).toNat, by omega⟩
        refine ⟨_, rfl, _, rfl, _, _, rfl, rfl, dr, _, _, _, rfl, rfl, SqL.of (s5 _ _ hdr), nums_at hn2 (by omega), _, rfl, _, rfl, _, _, rfl, rfl, dr, _, _, _, rfl, rfl, SqL.of (s5 _ _ hdr), nums_at hn6 (by omega), _, _, rfl, rfl, (show (0 : Int) < 4 by decide), _, _, rfl, rfl, n2, m2, ?_, by omega, fun H5 nl2 zs2 s6 nnl2 lz2 zn2 zok2 hz2 => ?_⟩
        · show [V.int n2, V.int (1 + n6 % 4)] = _
          rw [hm2]
        have hlc5 := s6 _ _ (upd_same (H := H4) (a := lc) (o := .lst []))
        have s45 : Same H4 H5 := (Same.new (o := .lst []) hlc).trans s6
        have nln : lc ≠ nl2 := ne_of_none (upd_same (H := H4) (a := lc) (o := .lst [])) nnl2
        -- for j, column in enumerate(names_here)
        refine ⟨_, rfl, nl2, _, rfl, SqL.of hz2, for_it walk_enum (fun j σ H' => ∃ cs ys u8 u9, σ = [some (.int c), some (.ref dr), some (.ref lt), some (.ref ls), some (.int (i : Nat)), some (.str t), some (.ref lc), some (.ref nl2), u8, u9, none] ∧ Same H4 H' ∧
          H' nl2 = some (.lst (zs2.map V.str)) ∧ H' lc = some (.lst ys) ∧ Paired (ColAt H') cs ys ∧ (cs : Cols).map (·.1) = zs2.take j ∧ ∀ c ∈ cs, c.2 = KNum ∨ c.2 = KWord)
          ⟨[], [], _, _, rfl, s45, hz2, hlc5, .nil, rfl, fun _ h => by cases h⟩ (fun j σ H' _ ⟨_, _, _, _, _, _, e, _⟩ => SqL.of e) ?_ ?_⟩
        · rintro j x σ H6 H7 hj ⟨cs, ys, v8, v9, rfl, s7, hz7, hlc7, hp7, hcs, hkd⟩ ⟨q1, y, z, rfl, hq1, rfl, hy, hzz⟩
          obtain rfl := Option.some.inj hy
          replace hzz : (zs2.map V.str)[j]? = some z := hzz
          rw [List.getElem?_map] at hzz
          cases qz2 : zs2[j]? with
          | none =>
            rw [qz2] at hzz
            cases hzz
          | some cn =>
            rw [qz2] at hzz
            obtain rfl := Option.some.inj hzz
            have hj4 : j < 4 := by
              have := (List.getElem?_eq_some_iff.mp qz2).1
              omega
            have s8 := s7.trans (Same.new (o := .tup [V.int (j : Nat), V.str cn]) hq1)
            obtain ⟨nd, hnd, nd0⟩ := dat (10 + 4 * i + j) (by omega)
            refine ⟨q1, _, rfl, SqT.of upd_same, rfl, _, _, rfl, _, _, rfl, rfl, ?_⟩
            have hlc8 := (Same.new (o := .tup [V.int (j : Nat), V.str cn]) hq1) _ _ hlc7
            refine ⟨_, rfl, .inl ⟨rfl, _, SqL.of hlc8⟩, _, rfl, two_small, fun p hp => ?_⟩
            have s9 := s8.trans (Same.new (o := .lst [V.str "number", V.str "word"]) hp)
            refine ⟨_, rfl, _, rfl, _, _, rfl, rfl, .inl ⟨by decide, by decide⟩, _, _, rfl, rfl, _, rfl, _, _, rfl, rfl, dr, _, _, _, rfl, rfl, SqL.of ((s4.trans s9) _ _ hdr), nums_at hnd (by omega), _, _, rfl, rfl, (show (0 : Int) < 2 by decide), ?_⟩
            obtain ⟨kd, hkk, hkd2⟩ : ∃ kd : Str, atI [V.str "number", V.str "word"] (nd % 2) = some (V.str kd) ∧ (kd = KNum ∨ kd = KWord) := by
              rcases (by omega : nd % 2 = ((0 : Nat) : Int) ∨ nd % 2 = ((1 : Nat) : Int)) with e | e
              · exact ⟨"number", by rw [e]; exact atI_nat rfl, .inl rfl⟩
              · exact ⟨"word", by rw [e]; exact atI_nat rfl, .inr rfl⟩
            refine ⟨p, _, _, _, rfl, rfl, SqL.of upd_same, hkk, two_small, fun q2 hq2 => ?_⟩
            have sp := Same.new (o := .lst [V.str "number", V.str "word"]) hp
            have sq := Same.new (o := .tup [V.str cn, V.str kd]) hq2
            have hlc9 := sq _ _ (sp _ _ hlc8)
            have tsl : TS (upd (upd (upd H6 q1 (.tup [V.int (j : Nat), V.str cn])) p (.lst [V.str "number", V.str "word"])) q2 (.tup [V.str cn, V.str kd])) (upd (upd (upd (upd H6 q1 (.tup [V.int (j : Nat), V.str cn])) p (.lst [V.str "number", V.str "word"])) q2 (.tup [V.str cn, V.str kd])) lc (.lst (ys ++ [.ref q2]))) := fun e zs he => by
              rw [upd_ne fun z => by subst z; rw [hlc9] at he; cases he]
              exact he
            have hz9 := sq _ _ (sp _ _ ((Same.new (o := .tup [V.int (j : Nat), V.str cn]) hq1) _ _ hz7))
            refine ⟨lc, ys, _, rfl, rfl, hlc9, ?_, cs ++ [(cn, kd)], ys ++ [.ref q2], _, _, rfl, Same.mut (s9.trans sq) hlc, ?_, upd_same, ?_, ?_, ?_⟩
            · have l1 := congrArg List.length hcs
              rw [List.length_map, List.length_take] at l1
              rw [← paired_len hp7]
              exact small1000 (by omega)
            · rw [upd_ne nln.symm]
              exact hz9
            · refine paired_snoc (paired_imp hp7 fun _ _ => ColAt.ts (((Same.new hq1).ts.trans (sp.trans sq).ts).trans tsl)) ⟨q2, rfl, tsl _ _ upd_same⟩
            · rw [List.map_append, hcs, take_snoc qz2]
              rfl
            · intro c' hc'
              rcases List.mem_append.mp hc' with h | h
              · exact hkd c' h
              · rw [List.mem_singleton.mp h]
                exact hkd2
        rintro σ H6 ⟨cs, ys, v8, v9, rfl, s7, hz7, hlc7, hp7, hcs, hkd⟩
        rw [List.length_map, List.take_length] at hcs
        have lcs : cs.length = m2 := by
          have := congrArg List.length hcs
          rw [List.length_map] at this
          omega
        have CO : ColsOk cs := ⟨⟨by show 1 ≤ cs.length; omega, by show cs.length ≤ 4; omega⟩, fun c hc => zok2 _ (hcs ▸ List.mem_map.mpr ⟨c, hc, rfl⟩), hcs ▸ zn2, hkd⟩
        have nlt : lc ≠ lt := (ne_of_none (s34 _ _ hlt3) hlc).symm
        have nls : lc ≠ ls := (ne_of_none (s34 _ _ hls3) hlc).symm
        have s37 := s34.trans s7
        have hlt7 := s37 _ _ hlt3
        have hls7 := s37 _ _ hls3
        have hp37 := paired_imp hp3 fun _ _ => TabInN.kp s37.kp hlt3 hls3
        have hq37 := paired_imp hq3 fun _ _ => ColAt.ts s37.ts
        -- tables.append((name, columns))
        refine ⟨_, rfl, .inl ⟨rfl, _, SqL.of hlt7⟩, _, rfl, _, rfl, two_small, fun q3 hq3' => ?_⟩
        have s8 := Same.new (o := .tup [V.str t, .ref lc]) hq3'
        have lTb : Tb.length = i := by
          have := congrArg List.length hT
          rw [List.length_map, List.length_take] at this
          have := (List.getElem?_eq_some_iff.mp qz).1
          omega
        refine ⟨lt, kxs, _, rfl, rfl, s8 _ _ hlt7, by rw [← paired_len hp3]; exact small1000 (by omega), ?_⟩
        obtain ⟨H7, hH7⟩ : ∃ H7, H7 = upd (upd H6 q3 (.tup [V.str t, .ref lc])) lt (.lst (kxs ++ [.ref q3])) := ⟨_, rfl⟩
        rw [← hH7]
        have k7 : Kp lt ls H6 H7 := fun e o he h1 h2 => by
          rw [hH7, upd_ne h1]
          exact s8 _ _ he
        have hlt8 : H7 lt = some (.lst (kxs ++ [.ref q3])) := by
          rw [hH7]
          exact upd_same
        have hls8 : H7 ls = some (.lst oxs) := by
          rw [hH7, upd_ne ntl.symm]
          exact s8 _ _ hls7
        have nq3 : q3 ≠ lt := (ne_of_none hlt7 hq3').symm
        have hq38 : H7 q3 = some (.tup [V.str t, .ref lc]) := by
          rw [hH7, upd_ne nq3]
          exact upd_same
        have hz8 : H7 nl2 = some (.lst (zs2.map V.str)) := by
          rw [hH7, upd_ne fun z => ?_]
          · exact s8 _ _ hz7
          · subst z
            have := hz2
            have h0 : H5 nl2 = some (.lst kxs) := (s34.trans s45) _ _ hlt3
            have h1 : upd H4 lc (.lst []) nl2 = some (.lst kxs) := (Same.new (o := .lst []) hlc) _ _ (s34 _ _ hlt3)
            rw [nnl2] at h1
            cases h1
        have ts7 := k7.ts hlt7 hls7
        have T8 : Paired (TabInN H7 lt ls) (Tb ++ [(t, cs)]) (kxs ++ [.ref q3]) := paired_snoc (paired_imp hp37 fun _ _ => TabInN.kp k7 hlt7 hls7)
          ⟨q3, lc, ys, rfl, hq38, k7 _ _ hlc7 nlt nls, paired_imp hp7 fun _ _ => ColAt.ts ts7, nlt, nls⟩
        have s18 : Same H1 H7 := hH7 ▸ Same.mut ((s4.trans s7).trans s8) hltH
        -- some.extend(..)
        refine ⟨_, rfl, .inl ⟨rfl, _, SqL.of hls8⟩, _, rfl, _, rfl, nl2, _, rfl, SqL.of hz8, fun r hr => ?_⟩
        have sr := Same.new (o := .lst (cutV (zs2.map V.str) (some 1) none)) hr
        have ecut : cutV (zs2.map V.str) (some 1) none = (zs2.drop 1).map V.str := by
          rw [show (some (1 : Int)) = some ((1 : Nat) : Int) from rfl, cutV_from, List.map_drop]
        have hr' : (upd H7 r (.lst (cutV (zs2.map V.str) (some 1) none))) r = some (.lst ((zs2.drop 1).map V.str)) := by
          rw [upd_same, ecut]
        refine ⟨r, rfl, ⟨_, SqL.of hr'⟩, fun D hD => lc_it (walk_list (xs := (zs2.drop 1).map V.str)) (fun j H' => Same H7 H' ∧ H' r = some (.lst ((zs2.drop 1).map V.str)) ∧ ∃ dxs, H' D = some (.lst dxs) ∧ Paired (ColAt H') (((zs2.drop 1).take j).map fun z => (t, z)) dxs)
          ⟨sr.trans (Same.new hD), (Same.new hD) _ _ hr', [], upd_same, .nil⟩ (fun j H' _ ⟨_, e, _⟩ => SqL.of e) ?_ ?_⟩
        · rintro j y H8 H9 hj ⟨s9, hr9, dxs, hD9, hpD⟩ ⟨rfl, hy⟩
          rw [List.getElem?_map] at hy
          cases qq : (zs2.drop 1)[j]? with
          | none =>
            rw [qq] at hy
            cases hy
          | some z =>
            rw [qq] at hy
            obtain rfl := Option.some.inj hy
            refine ⟨rfl, tyes ?_⟩
            refine ⟨_, rfl, _, rfl, two_small, fun q4 hq4 => ?_⟩
            have sn := Same.new (o := .tup [V.str t, V.str z]) hq4
            have hD10 := sn _ _ hD9
            have DH7 : H7 D = none := sr.free hD
            have ts10 : TS (upd H9 q4 (.tup [V.str t, V.str z])) (upd (upd H9 q4 (.tup [V.str t, V.str z])) D (.lst (dxs ++ [.ref q4]))) := fun e zs he => by
              rw [upd_ne fun z => by subst z; rw [hD10] at he; cases he]
              exact he
            refine ⟨dxs, hD10, ?_, Same.mut (s9.trans sn) DH7, ?_, dxs ++ [.ref q4], upd_same, ?_⟩
            · rw [← paired_len hpD, List.length_map, List.length_take]
              have : j < (zs2.drop 1).length := (List.getElem?_eq_some_iff.mp qq).1
              rw [List.length_drop] at this
              exact small1000 (by omega)
            · rw [upd_ne (ne_of_none hr' hD)]
              exact sn _ _ hr9
            · rw [take_snoc qq, List.map_append]
              exact paired_snoc (paired_imp hpD fun _ _ => ColAt.ts (sn.ts.trans ts10)) ⟨q4, rfl, ts10 _ _ upd_same⟩
        rintro H8 ⟨s9, hr9, dxs, hD9, hpD⟩
        rw [List.length_map, List.take_length] at hpD
        have eO : (zs2.drop 1).map (fun z => (t, z)) = (cs.drop 1).map fun c => (t, c.1) := by
          rw [← hcs, ← List.map_drop, List.map_map]
          rfl
        rw [eO] at hpD
        have hls9 := s9 _ _ hls8
        have nD : ls ≠ D := ne_of_none (sr _ _ hls8) hD
        obtain ⟨H9, hH9⟩ : ∃ H9, H9 = upd H8 ls (.lst (oxs ++ dxs)) := ⟨_, rfl⟩
        have hlt9 := s9 _ _ hlt8
        have k9 : Kp lt ls H8 H9 := fun e o he h1 h2 => by
          rw [hH9, upd_ne h2]
          exact he
        have ts9 := k9.ts hlt9 hls9
        have C4 : ∀ t' ∈ Tb ++ [(t, cs)], ColsOk t'.2 := fun t' ht' => by
          rcases List.mem_append.mp ht' with h | h
          · exact hC t' h
          · rw [List.mem_singleton.mp h]
            exact CO
        refine ⟨ls, D, oxs, dxs, rfl, rfl, hls9, hD9, ?_, Tb ++ [(t, cs)], kxs ++ [.ref q3], oxs ++ dxs, _, _, _, _, _, _, rfl, ?_⟩
        · have l1 := allO_len fun t ht => (hC t ht).len.2
          rw [← paired_len hq3, ← paired_len hpD, List.length_map, List.length_drop]
          exact Nat.le_trans (show _ ≤ 100 by omega) (by decide)
        rw [← hH9]
        refine ⟨hH9 ▸ Same.mut (s18.trans s9) hlsH, ?_, ?_, ?_, ?_, ?_, ?_, C4⟩
        · rw [hH9, upd_ne nln2]
          refine s9 _ _ ?_
          rw [hH7, upd_ne nln1]
          exact s8 _ _ (s37 _ _ hz3)
        · rw [hH9, upd_ne ntl]
          exact hlt9
        · exact paired_imp T8 fun _ _ h => TabInN.kp k9 hlt9 hls9 (TabInN.kp s9.kp hlt8 hls8 h)
        · rw [hH9]
          exact upd_same
        · rw [allO_app]
          refine paired_app (paired_imp hq37 fun _ _ => ColAt.ts ((ts7.trans s9.ts).trans ts9)) ?_
          show Paired _ (((cs.drop 1).map fun c => (t, c.1)) ++ []) _
          rw [List.append_nil]
          exact paired_imp hpD fun _ _ => ColAt.ts ts9
        · rw [List.map_append, hT, take_snoc qz]
          rfl
    rintro σ H3 ⟨Tb, kxs, oxs, u4, u5, u6, u7, u8, u9, rfl, s3, hz3, hlt3, hp3, hls3, hq3, hT, hC⟩
    rw [List.length_map, List.take_length] at hT
    have lTb : Tb.length = m := by
      have := congrArg List.length hT
      rw [List.length_map] at this
      omega
    have TO : TabsOk Tb := ⟨⟨by show 1 ≤ Tb.length; omega, by show Tb.length ≤ 4; omega⟩, fun t ht => zok _ (hT ▸ List.mem_map.mpr ⟨t, ht, rfl⟩), hT ▸ zn, hC⟩
    have AN := allO_nd (T := Tb) (hT ▸ zn) fun t ht => (hC t ht).nd
    have AL := allO_len fun t ht => (hC t ht).len.2
    refine ⟨Nat.zero_le _, fun lo hlo => ?_⟩
    have so := Same.new (o := .lst []) hlo
    have no1 : lt ≠ lo := ne_of_none hlt3 hlo
    have no2 : ls ≠ lo := ne_of_none hls3 hlo
    have hloH : H1 lo = none := s3.free hlo
    refine ⟨_, rfl, by decide, by decide, for_it walk_range (fun i σ H' => ∃ os ss ys oxs u4, σ = [some (.int c), some (.ref dr), some (.ref lt), some (.ref ls), u4, u5, u6, u7, u8, u9, some (.ref lo)] ∧ Same H1 H' ∧ H' lt = some (.lst kxs) ∧ Paired (TabInN H' ls lo) Tb kxs ∧
      H' ls = some (.lst oxs) ∧ Paired (ColAt H') ss oxs ∧ H' lo = some (.lst ys) ∧ Paired (ColAt H') os ys ∧ (os ++ ss).Nodup ∧ (∀ o ∈ os ++ ss, o ∈ allO Tb) ∧ os.length ≤ i)
      ⟨[], allO Tb, [], oxs, _, rfl, s3.trans so, so _ _ hlt3, paired_imp hp3 fun _ _ ⟨q, l, xs, e, h1, h2, h3, _, h5⟩ => ⟨q, l, xs, e, so _ _ h1, so _ _ h2, paired_imp h3 fun _ _ => ColAt.ts so.ts, h5, ne_of_none h2 hlo⟩,
        so _ _ hls3, paired_imp hq3 fun _ _ => ColAt.ts so.ts, upd_same, .nil, AN, fun _ h => h, Nat.le_refl _⟩ (fun _ _ _ _ _ => trivial) ?_ ?_⟩
    · clear hp3 hlt3 hls3 hq3 s3 hz3
      rintro i x σ H4 H5 hi ⟨os, ss, ys, oxs, u4, rfl, s4, hlt4, hp4, hls4, hq4, hlo4, hy4, nd, sub, ol⟩ ⟨rfl, rfl⟩
      have hi4 : i < 4 := hi
      refine ⟨_, rfl, Nat.zero_le _, fun e he => ?_⟩
      have se := Same.new (o := .lst []) he
      refine ⟨ls, e, oxs, rfl, rfl, SqL.of (se _ _ hls4), SqL.of upd_same, _, rfl, ?_⟩
      generalize hH5 : upd H5 e (.lst []) = H6 at se
      have I6 : Same H1 H6 ∧ H6 lt = some (.lst kxs) ∧ Paired (TabInN H6 ls lo) Tb kxs ∧ H6 ls = some (.lst oxs) ∧ Paired (ColAt H6) ss oxs ∧ H6 lo = some (.lst ys) ∧ Paired (ColAt H6) os ys := ⟨s4.trans se, se _ _ hlt4, paired_imp hp4 fun _ _ => TabInN.kp se.kp hls4 hlo4, se _ _ hls4, paired_imp hq4 fun _ _ => ColAt.ts se.ts, se _ _ hlo4, paired_imp hy4 fun _ _ => ColAt.ts se.ts⟩
      obtain ⟨i1, i2, i3, i4, i5, i6, i7⟩ := I6
      cases hox : oxs with
      | nil =>
        subst hox
        refine iteF (iteF ?_)
        exact ⟨os, ss, ys, [], _, rfl, i1, i2, i3, i4, i5, i6, i7, nd, sub, Nat.le_succ_of_le ol⟩
      | cons ox0 oxr =>
        rw [← hox]
        refine if_t (by rw [hox]; rfl) ?_
        obtain ⟨nd6, hnd6, nd60⟩ := dat (26 + i) (by omega)
        refine ⟨_, rfl, _, rfl, _, _, rfl, rfl, dr, _, _, _, rfl, rfl, SqL.of (i1 _ _ hdr), nums_at hnd6 (by omega), _, _, rfl, rfl, (show (0 : Int) < 3 by decide), _, _, rfl, rfl, _, rfl, ?_⟩
        by_cases hgt : nd6 % 3 > 0
        · refine if_t (decide_eq_true hgt) ?_
          have lox : 0 < oxs.length := by
            rw [hox]
            exact Nat.succ_pos _
          have lss : ss.length = oxs.length := paired_len hq4
          have lss2 : oxs.length ≤ 16 := by
            have h1 := perm_len (l := os ++ ss) (m := allO Tb) nd sub
            rw [List.length_append] at h1
            omega
          obtain ⟨j, hj⟩ : ∃ j : Nat, nd6 / 3 % (oxs.length : Int) = (j : Int) := ⟨(nd6 / 3 % (oxs.length : Int)).toNat, by have := Int.emod_nonneg (nd6 / 3) (show (oxs.length : Int) ≠ 0 by omega); omega⟩
          have hjl : j < oxs.length := by
            have := Int.emod_lt_of_pos (nd6 / 3) (show (0 : Int) < (oxs.length : Int) by omega)
            omega
          obtain ⟨ox1, hox1⟩ : ∃ ox, oxs[j]? = some ox := ⟨_, List.getElem?_eq_getElem hjl⟩
          obtain ⟨j', hsi, hox2, hjl', _⟩ := atI_get (atI_nat hox1)
          obtain ⟨o, ho, hoc⟩ := paired_at2 i5 hox2
          refine ⟨_, rfl, .inl ⟨rfl, _, SqL.of i6⟩, _, rfl, .inl ⟨rfl, _, SqL.of i4⟩, _, rfl, _, rfl, _, _, rfl, rfl, dr, _, _, _, rfl, rfl, SqL.of (i1 _ _ hdr), nums_at hnd6 (by omega), _, _, rfl, rfl, ⟨by decide, by decide⟩, _, rfl, ls, _, rfl, .inl (SqL.of i4), _, _, rfl, rfl, (show (0 : Int) < (oxs.length : Int) by omega), ?_⟩
          refine ⟨ls, oxs, (j : Int), j', ox1, rfl, (show [V.int (nd6 / 3 % (oxs.length : Int))] = [V.int (j : Int)] by rw [hj]), i4, by omega, by omega, hsi, hox2, ?_⟩
          obtain ⟨H7, hH7⟩ : ∃ H7, H7 = upd H6 ls (.lst (oxs.eraseIdx j')) := ⟨_, rfl⟩
          rw [← hH7]
          have hlo7 : H7 lo = some (.lst ys) := by
            rw [hH7, upd_ne no2.symm]
            exact i6
          have lys : ys.length = os.length := (paired_len i7).symm
          refine ⟨lo, ys, ox1, rfl, rfl, hlo7, small1000 (by omega), ?_⟩
          obtain ⟨H8, hH8⟩ : ∃ H8, H8 = upd H7 lo (.lst (ys ++ [ox1])) := ⟨_, rfl⟩
          rw [← hH8]
          have k8 : Kp ls lo H6 H8 := fun e o he h1 h2 => by
            rw [hH8, upd_ne h2, hH7, upd_ne h1]
            exact he
          have ts8 := k8.ts i4 i6
          have pm : ((os ++ [o]) ++ ss.eraseIdx j').Perm (os ++ ss) := by
            have := perm_erase ho
            rw [List.append_assoc]
            exact List.Perm.append_left os this
          refine ⟨os ++ [o], ss.eraseIdx j', ys ++ [ox1], oxs.eraseIdx j', _, rfl, ?_, k8 _ _ i2 ntl no1, paired_imp i3 fun _ _ => TabInN.kp k8 i4 i6, ?_, paired_imp (paired_erase i5 j') fun _ _ => ColAt.ts ts8, ?_, paired_snoc (paired_imp i7 fun _ _ => ColAt.ts ts8) (hoc.ts ts8), pm.nodup_iff.mpr nd, fun o' ho' => sub o' (pm.subset ho'), ?_⟩
          · rw [hH8]
            exact Same.mut (hH7 ▸ Same.mut i1 hlsH) hloH
          · rw [hH8, upd_ne no2, hH7]
            exact upd_same
          · rw [hH8]
            exact upd_same
          · rw [List.length_append]
            exact Nat.succ_le_succ ol
        · refine if_f (decide_eq_false hgt) ?_
          exact ⟨os, ss, ys, oxs, _, rfl, i1, i2, i3, i4, i5, i6, i7, nd, sub, Nat.le_succ_of_le ol⟩
    · rintro σ H4 ⟨os, ss, ys, oxs, u4, rfl, s4, hlt4, hp4, hls4, hq4, hlo4, hy4, nd, sub, ol⟩
      refine ⟨_, rfl, _, rfl, two_small, fun q hq => ?_⟩
      have sq := Same.new (o := .tup [V.ref lt, V.ref lo]) hq
      refine k _ q lt lo kxs ys Tb os ((s1.trans s4).trans sq) upd_same (sq _ _ hlt4) (paired_imp hp4 fun _ _ ⟨q, l, xs, e, h1, h2, h3, _, _⟩ => ⟨q, l, xs, e, sq _ _ h1, sq _ _ h2, paired_imp h3 fun _ _ => ColAt.ts sq.ts⟩) TO (sq _ _ hlo4) (paired_imp hy4 fun _ _ => ColAt.ts sq.ts) ⟨ol, ?_, ?_⟩
      · exact (List.nodup_append.mp nd).1
      · exact fun o ho => allO_ok (sub o (List.mem_append_left _ ho))
end
end Fl

set_option Elab.async false
set_option linter.all false
set_option maxRecDepth 100000
set_option maxHeartbeats 2000000
/-! The law's state: what is to be done. -/
namespace Fl
open PySem PySem.Spec PyProof.Rows L2
open TL (tl)
/-- a row that stands was set -/
theorem run_mem {t : Str} {k : Key} {r : Row} : ∀ {h : List Stf} {f : TF}, runT t h f k = some r → f k = some r ∨ Stf.set t r ∈ h
  | [], _, e => .inl e
  | s :: h, f, e => by
    rcases run_mem (h := h) (f := appT t s f) e with e | e
    · cases s with
      | set t' x =>
        unfold appT at e
        simp only at e
        split at e
        · rename_i ht
          dsimp only at e
          split at e
          · cases e
            subst ht
            exact .inr List.mem_cons_self
          · exact .inl e
        · exact .inl e
      | cut t' v =>
        unfold appT at e
        simp only at e
        split at e
        · dsimp only at e
          split at e
          · cases e
          · exact .inl e
        · exact .inl e
      | keep m => exact .inl e
    · exact .inr (List.mem_cons_of_mem _ e)
theorem st_mem {t : Str} {k : Key} {r : Row} {h : List Stf} (e : stT t h k = some r) : Stf.set t r ∈ h := by
  rcases run_mem e with e | e
  · cases e
  · exact e
theorem st_row {T : Tabs} (TO : TabsOk T) {t : Str} {cs : Cols} (ht : (t, cs) ∈ T) {h : List Stf} (hok : ∀ s ∈ h, StfOk T s) {k : Key} {r : Row} (e : stT t h k = some r) : RowOk cs r := by
  obtain ⟨cs', h1, h2⟩ := hok _ (st_mem e)
  rw [names_uniq TO ht h1]
  exact h2
theorem kLt_trans {a b c : Key} (h1 : kLt a b) (h2 : kLt b c) : kLt a c := by
  cases a with
  | inl a =>
    cases b with
    | inl b =>
      cases c with
      | inl c =>
        have h1' : a < b := h1
        have h2' : b < c := h2
        show a < c
        omega
      | inr c => exact h2
    | inr b => exact absurd h1 id
  | inr a =>
    cases b with
    | inl b => exact absurd h1 id
    | inr b =>
      cases c with
      | inl c => exact h2
      | inr c => exact List.lt_trans (show tl a < tl b from h1) (show tl b < tl c from h2)
open Classical in
/-- the rows that stand, by rising key -/
theorem lists_ex {T : Tabs} (TO : TabsOk T) {t : Str} {cs : Cols} (ht : (t, cs) ∈ T) : ∀ n (h : List Stf), h.length = n → (∀ s ∈ h, StfOk T s) → ∃ L, Lists (stT t h) L := by
  intro n
  induction n with
  | zero =>
    intro h hl _
    obtain rfl := List.length_eq_zero_iff.mp hl
    exact ⟨[], .nil, fun k r => ⟨fun e => (nomatch e), fun e => (nomatch e.1)⟩⟩
  | succ n ih =>
    intro h hl hok
    have hne : h ≠ [] := fun z => by
      subst z
      cases hl
    obtain ⟨h0, s, rfl⟩ : ∃ h0 s, h = h0 ++ [s] := ⟨h.dropLast, h.getLast hne, (List.dropLast_concat_getLast hne).symm⟩
    obtain ⟨L, hL⟩ := ih h0 (by rw [List.length_append] at hl; exact Nat.succ.inj hl) fun s hs => hok s (List.mem_append_left _ hs)
    have e0 : stT t (h0 ++ [s]) = appT t s (stT t h0) := runT_snoc t h0 s _
    rw [e0]
    have oks := hok s (List.mem_append_right _ (List.mem_singleton.mpr rfl))
    have lc := (TO.cols _ ht).len.1
    have kdOf : ∀ r, RowOk cs r → ∃ c v0 rest, r = v0 :: rest ∧ cs.head? = some c ∧ KindK c.2 (rk r) := fun r hr => by
      obtain ⟨c1, cs1, v0, rest, e1, e2, okv⟩ := row_head hr lc
      exact ⟨c1, v0, rest, e2, by rw [e1]; rfl, by rw [e2]; exact okv.kind⟩
    have rowsOk : ∀ r ∈ L, RowOk cs r := fun r hr => st_row TO ht (fun s hs => hok s (List.mem_append_left _ hs)) ((hL.2 (rk r) r).mpr ⟨hr, rfl⟩)
    cases s with
    | set t' x =>
      by_cases htt : t' = t
      · subst htt
        have e1 : appT t' (.set t' x) (stT t' h0) = fun k => if k = rk x then some x else stT t' h0 k := by
          show (if t' = t' then _ else _) = _
          rw [if_pos rfl]
        rw [e1]
        obtain ⟨cs', h1, okx⟩ := oks
        have := names_uniq TO ht h1
        subst this
        obtain ⟨c, v0, rest, ex, hc, kx⟩ := kdOf x okx
        have tot : ∀ r ∈ L, rk r ≠ rk x → ¬ kLt (rk r) (rk x) → kLt (rk x) (rk r) := fun r hr hne hn => by
          obtain ⟨c', v0', rest', ex', hc', kr⟩ := kdOf r (rowsOk r hr)
          rw [hc] at hc'
          cases hc'
          exact kLt_total kx kr hn hne.symm
        refine ⟨L.filter (fun r => decide (kLt (rk r) (rk x))) ++ x :: L.filter (fun r => decide (kLt (rk x) (rk r))), ?_, fun k r => ?_⟩
        · refine List.pairwise_append.mpr ⟨hL.1.sublist List.filter_sublist, List.pairwise_cons.mpr ⟨fun b hb => ?_, hL.1.sublist List.filter_sublist⟩, fun a ha b hb => ?_⟩
          · exact of_decide_eq_true (List.mem_filter.mp hb).2
          · have h1 : kLt (rk a) (rk x) := of_decide_eq_true (List.mem_filter.mp ha).2
            rcases List.mem_cons.mp hb with rfl | hb
            · exact h1
            · have h2 : kLt (rk x) (rk b) := of_decide_eq_true (List.mem_filter.mp hb).2
              by_cases h3 : kLt (rk a) (rk b)
              · exact h3
              · exfalso
                obtain ⟨_, _, _, _, hca, ka⟩ := kdOf a (rowsOk a (List.mem_filter.mp ha).1)
                obtain ⟨_, _, _, _, hcb, kb⟩ := kdOf b (rowsOk b (List.mem_filter.mp hb).1)
                rw [hc] at hca hcb
                cases hca
                cases hcb
                by_cases e : rk b = rk a
                · rw [e] at h2
                  exact kLt_asymm h1 h2
                · have := kLt_total kb ka h3 e
                  exact kLt_asymm (kLt_trans h2 this) h1
        · dsimp only
          rw [List.mem_append, List.mem_cons, List.mem_filter, List.mem_filter]
          constructor
          · intro e
            split at e
            · rename_i hk
              cases e
              exact ⟨.inr (.inl rfl), hk.symm⟩
            · rename_i hk
              obtain ⟨hm, hkr⟩ := (hL.2 k r).mp e
              refine ⟨?_, hkr⟩
              subst hkr
              by_cases h1 : kLt (rk r) (rk x)
              · exact .inl ⟨hm, decide_eq_true h1⟩
              · exact .inr (.inr ⟨hm, decide_eq_true (tot r hm hk h1)⟩)
          · rintro ⟨h, rfl⟩
            rcases h with ⟨hm, hd⟩ | rfl | ⟨hm, hd⟩
            · have hd := of_decide_eq_true hd
              rw [if_neg fun e => by rw [e] at hd; exact kLt_asymm hd hd]
              exact (hL.2 _ _).mpr ⟨hm, rfl⟩
            · rw [if_pos rfl]
            · have hd := of_decide_eq_true hd
              rw [if_neg fun e => by rw [e] at hd; exact kLt_asymm hd hd]
              exact (hL.2 _ _).mpr ⟨hm, rfl⟩
      · have e1 : appT t (.set t' x) (stT t h0) = stT t h0 := by
          show (if t' = t then _ else _) = _
          rw [if_neg htt]
        rw [e1]
        exact ⟨L, hL⟩
    | cut t' v =>
      by_cases htt : t' = t
      · subst htt
        have e1 : appT t' (.cut t' v) (stT t' h0) = fun k => if k = keyOf v then none else stT t' h0 k := by
          show (if t' = t' then _ else _) = _
          rw [if_pos rfl]
        rw [e1]
        refine ⟨L.filter (fun r => decide (rk r ≠ keyOf v)), hL.1.sublist List.filter_sublist, fun k r => ?_⟩
        dsimp only
        rw [List.mem_filter]
        constructor
        · intro e
          split at e
          · cases e
          · rename_i hk
            obtain ⟨hm, hkr⟩ := (hL.2 k r).mp e
            exact ⟨⟨hm, decide_eq_true (by rw [hkr]; exact hk)⟩, hkr⟩
        · rintro ⟨⟨hm, hd⟩, rfl⟩
          rw [if_neg (of_decide_eq_true hd)]
          exact (hL.2 _ _).mpr ⟨hm, rfl⟩
      · have e1 : appT t (.cut t' v) (stT t h0) = stT t h0 := by
          show (if t' = t then _ else _) = _
          rw [if_neg htt]
        rw [e1]
        exact ⟨L, hL⟩
    | keep m => exact ⟨L, hL⟩
end Fl

set_option Elab.async false
set_option linter.all false
set_option maxRecDepth 100000
set_option maxHeartbeats 2000000
/-! The law's state: what is to be done, doing it. -/
namespace Fl
open PySem PySem.Spec PyProof.Rows L2
open TL (tl)
/-- the dict of a table -/
def SubAt (H : Hp) (t : Str × Cols) (f : TF) (x : V) : Prop := ∃ a ks c cs, x = .ref a ∧ t.2 = c :: cs ∧ H a = some (.dK ks) ∧ ks.length ≤ 31 ∧ FoundAt H c.2 ks f
theorem SubAt.same {H H' : Hp} (k : Same H H') {t : Str × Cols} {f : TF} {x : V} : SubAt H t f x → SubAt H' t f x := fun ⟨a, ks, c, cs, e, e2, h, l, g⟩ => ⟨a, ks, c, cs, e, e2, k _ _ h, l, g.ts k.ts⟩
/-- the state: the tables, each a dict -/
structure StAt (H : Hp) (T : Tabs) (h : List Stf) (sa : Addr) (kvs : List (Key × V)) : Prop where
  at_ : H sa = some (.dK kvs)
  tabs : Paired (fun (t : Str × Cols) (kv : Key × V) => kv.1 = Sum.inr t.1 ∧ SubAt H t (stT t.1 h) kv.2) T kvs
  nd : (kvs.map (·.2)).Nodup
  ne : V.ref sa ∉ kvs.map (·.2)
theorem StAt.same {H H' : Hp} (k : Same H H') {T : Tabs} {h : List Stf} {sa : Addr} {kvs : List (Key × V)} (S : StAt H T h sa kvs) : StAt H' T h sa kvs := ⟨k _ _ S.at_, paired_imp S.tabs fun _ _ ⟨e, s⟩ => ⟨e, s.same k⟩, S.nd, S.ne⟩
theorem pair_get {G : Str × Cols → V → Prop} {T : Tabs} {kvs : List (Key × V)} (p : Paired (fun (t : Str × Cols) (kv : Key × V) => kv.1 = Sum.inr t.1 ∧ G t kv.2) T kvs) (nd : (T.map (·.1)).Nodup) {t : Str × Cols} (h : t ∈ T) : ∃ v, valV kvs (.inr t.1) = some v ∧ G t v := by
  induction p with
  | nil => cases h
  | @cons a b T kvs r p ih =>
    obtain ⟨n1, n2⟩ := List.nodup_cons.mp nd
    rcases List.mem_cons.mp h with rfl | h
    · exact ⟨b.2, valV_pos r.1, r.2⟩
    · have hne : ¬ b.1 = Sum.inr t.1 := fun e => by
        rw [r.1] at e
        exact n1 (List.mem_map.mpr ⟨t, h, (Sum.inr.inj e).symm⟩)
      obtain ⟨v, h1, h2⟩ := ih n2 h
      exact ⟨v, by rw [valV_neg hne]; exact h1, h2⟩
theorem StAt.get {H : Hp} {T : Tabs} {h : List Stf} {sa : Addr} {kvs : List (Key × V)} (S : StAt H T h sa kvs) (TO : TabsOk T) {t : Str} {cs : Cols} (ht : (t, cs) ∈ T) : ∃ a ks c cs', valV kvs (.inr t) = some (.ref a) ∧ cs = c :: cs' ∧ H a = some (.dK ks) ∧ ks.length ≤ 31 ∧ FoundAt H c.2 ks (stT t h) := by
  obtain ⟨v, h1, a, ks, c, cs', rfl, e, h2, h3, h4⟩ := pair_get S.tabs TO.nd ht
  exact ⟨a, ks, c, cs', h1, e, h2, h3, h4⟩
/-- it fits the state -/
def Fits (H : Hp) (kvs : List (Key × V)) (h : List Stf) : Stf → Prop
  | .set t _ => ∀ a ks, valV kvs (.inr t) = some (.ref a) → H a = some (.dK ks) → ks.length ≤ 30
  | .cut t k => stT t h (keyOf k) ≠ none
  | .keep _ => False
def sp_l_stuff : Sp := fun vs H Q _ => ∃ lt sa dr xs T h kvs ns, vs = [.ref lt, .ref sa, .ref dr] ∧ H lt = some (.lst xs) ∧ Paired (TabIn H) T xs ∧ TabsOk T ∧ StAt H T h sa kvs ∧ (∀ s ∈ h, StfOk T s) ∧ NumsAt H ns dr ∧ ns.length = 8 ∧
  ∀ H' v st, Same H H' → StfAt H' st v → StfOk T st → Fits H' kvs h st → Q v H'
/-- an address of the state's -/
def InSt (kvs : List (Key × V)) (a : Addr) : Prop := V.ref a ∈ kvs.map (·.2)
def sp_l_done : Sp := fun vs H Q _ => ∃ sa x T h kvs st, vs = [.ref sa, x] ∧ TabsOk T ∧ StAt H T h sa kvs ∧ StfAt H st x ∧ StfOk T st ∧ Fits H kvs h st ∧
  ∀ a ks o, H a = some (.dK ks) → InSt kvs a → StAt (upd H a (.dK o)) T (h ++ [st]) sa kvs → ∀ v, Q v (upd H a (.dK o))
theorem found_key {T : Tabs} (TO : TabsOk T) {t : Str} {c : Col} {cs : Cols} (ht : (t, c :: cs) ∈ T) {h : List Stf} (hok : ∀ s ∈ h, StfOk T s) {H : Hp} {ks : List (Key × V)} (fa : FoundAt H c.2 ks (stT t h)) {k : Key} (hk : k ∈ ks.map (·.1)) : OkV c.2 (kV k) ∧ keyOf (kV k) = k ∧ stT t h k ≠ none := by
  obtain ⟨r, v, e, _, _⟩ := fa.has hk
  have okr := st_row TO ht hok e
  have hkr := keyF_st t h k r e
  obtain ⟨c1, cs1, v0, rest, e1, e2, okv⟩ := row_head okr (show 1 ≤ List.length (c :: cs) from Nat.succ_le_succ (Nat.zero_le _))
  cases e1
  subst e2
  have hkv : keyOf v0 = k := hkr
  have : kV k = v0 := by
    rw [← hkv]
    exact okv.key
  rw [this]
  exact ⟨okv, hkv, by rw [e]; exact fun z => nomatch z⟩
theorem paired_impM {α β : Type} {F G : α → β → Prop} {l : List α} {m : List β} (h : Paired F l m) (k : ∀ a ∈ l, ∀ b ∈ m, F a b → G a b) : Paired G l m := by
  induction h with
  | nil => exact .nil
  | cons r t ih => exact .cons (k _ List.mem_cons_self _ List.mem_cons_self r) (ih fun a ha b hb => k a (List.mem_cons_of_mem _ ha) b (List.mem_cons_of_mem _ hb))
theorem nd_inj {α β : Type} (f : α → β) : ∀ {l : List α}, (l.map f).Nodup → ∀ x ∈ l, ∀ y ∈ l, f x = f y → x = y
  | [], _, x, hx, _, _, _ => by cases hx
  | a :: r, nd, x, hx, y, hy, e => by
    obtain ⟨n1, n2⟩ := List.nodup_cons.mp nd
    rcases List.mem_cons.mp hx with rfl | hx1
    · rcases List.mem_cons.mp hy with rfl | hy1
      · rfl
      · exact absurd (List.mem_map.mpr ⟨y, hy1, e.symm⟩) n1
    · rcases List.mem_cons.mp hy with rfl | hy1
      · exact absurd (List.mem_map.mpr ⟨x, hx1, e⟩) n1
      · exact nd_inj f n2 x hx1 y hy1 e
theorem StAt.put {H : Hp} {T : Tabs} {h : List Stf} {sa : Addr} {kvs : List (Key × V)} (S : StAt H T h sa kvs) (TO : TabsOk T) {t : Str} {c : Col} {cs : Cols} (ht : (t, c :: cs) ∈ T) {a : Addr} {ks : List (Key × V)} (hva : valV kvs (.inr t) = some (.ref a)) (ha : H a = some (.dK ks))
    {s : Stf} {ks' : List (Key × V)} (l31 : ks'.length ≤ 31) (new : FoundAt H c.2 ks' (stT t (h ++ [s]))) (oth : ∀ t', t' ≠ t → stT t' (h ++ [s]) = stT t' h) : InSt kvs a ∧ StAt (upd H a (.dK ks')) T (h ++ [s]) sa kvs := by
  obtain ⟨kv0, hkv0, e1, e2⟩ : ∃ kv0 ∈ kvs, kv0.1 = Sum.inr t ∧ kv0.2 = V.ref a := by
    obtain ⟨i, hi⟩ := List.getElem?_of_mem ht
    obtain ⟨kv, hkv, ek, _⟩ := paired_at S.tabs hi
    obtain ⟨v, hv1, hv2⟩ := pair_get (G := fun t v => t.1 = t.1 ∧ ∃ kv ∈ kvs, kv.1 = Sum.inr t.1 ∧ kv.2 = v) (paired_impM S.tabs fun t _ kv hkv ⟨e, _⟩ => ⟨e, rfl, kv, hkv, e, rfl⟩) TO.nd ht
    obtain ⟨_, kv1, hm1, hk1, hk2⟩ := hv2
    rw [hva] at hv1
    cases hv1
    exact ⟨kv1, hm1, hk1, hk2⟩
  have hin : InSt kvs a := List.mem_map.mpr ⟨kv0, hkv0, e2⟩
  have nsa : sa ≠ a := fun z => S.ne (z ▸ hin)
  have ts : TS H (upd H a (.dK ks')) := fun e zs he => by
    rw [upd_ne fun z => by subst z; rw [ha] at he; cases he]
    exact he
  refine ⟨hin, by rw [upd_ne nsa]; exact S.at_, paired_impM S.tabs fun t' ht' kv hkv ⟨ek, a', ks2, c2, cs2, e3, e4, h5, h6, h7⟩ => ⟨ek, ?_⟩, S.nd, S.ne⟩
  by_cases htt : t'.1 = t
  · have : kv = kv0 := by
      obtain ⟨i, hi⟩ := List.getElem?_of_mem hkv
      obtain ⟨j, hj⟩ := List.getElem?_of_mem hkv0
      obtain ⟨ti, hti, eki, _⟩ := paired_at2 S.tabs hi
      obtain ⟨tj, htj, ekj, _⟩ := paired_at2 S.tabs hj
      have m1 := List.mem_of_getElem? hti
      have m2 := List.mem_of_getElem? htj
      have q1 : ti.1 = tj.1 := by
        rw [eki] at ek
        rw [ekj] at e1
        rw [Sum.inr.inj ek, htt, Sum.inr.inj e1]
      have d1 : (T.map (·.1))[i]? = some ti.1 := by
        rw [List.getElem?_map, hti]
        rfl
      have d2 : (T.map (·.1))[j]? = some ti.1 := by
        rw [List.getElem?_map, htj, q1]
        rfl
      have := (List.getElem?_inj (List.getElem?_eq_some_iff.mp d1).1 TO.nd).mp (d1.trans d2.symm)
      subst this
      exact Option.some.inj (hi.symm.trans hj)
    subst this
    have et : t' = (t, c :: cs) := by
      obtain ⟨t1, cs1⟩ := t'
      have h1 : t1 = t := htt
      subst h1
      rw [names_uniq TO ht' ht]
    subst et
    cases e4
    exact ⟨a, ks', c, cs, e2, rfl, upd_same, l31, new.ts ts⟩
  · have hne : a' ≠ a := fun z => by
      subst z
      have := nd_inj (fun kv : Key × V => kv.2) S.nd kv hkv kv0 hkv0 (e3.trans e2.symm)
      subst this
      rw [ek] at e1
      exact htt (Sum.inr.inj e1)
    refine ⟨a', ks2, c2, cs2, e3, e4, by rw [upd_ne hne]; exact h5, h6, ?_⟩
    rw [oth _ htt]
    exact h7.ts ts
section
variable {P : Program} {w : World} {K : PySem.W.Frag} {mg : Str → Option Value} {base : Heap} {fd : FuncData}
theorem sc_l_stuff : FnScope ["_law_tables", "_law_state", "_law_draws_here", "_law_name", "_law_columns", "_law_keys", "_law_row_here"] ["_law_tables", "_law_state", "_law_draws_here"] d_l_stuff.scope := ⟨rfl, rfl, rfl, by decide +kernel, rfl, by decide +kernel, by decide +kernel⟩
theorem ok_l_stuff (T : Tx K mg) (F : Fd K d_l_stuff fd) (D_l_row : Df P w K mg base CX0 4 "_law_row" ["_law_columns", "_law_draws_here"] sp_l_row) : FnOk P w K mg base CX0 5 (He.fAd K d_l_stuff.at_) fd ["_law_tables", "_law_state", "_law_draws_here"] sp_l_stuff := by
  refine ok0 F sc_l_stuff (fun vs H Q E h => ?_) (fun cdv A outer s H vs Q E hr h => ?_)
  · obtain ⟨_, _, _, _, _, _, _, _, rfl, _⟩ := h
    rfl
  · obtain ⟨lt, sa, dr, xs, Tb, h, kvs, ns, rfl, hlt, hpx, TO, S, hok, ⟨hdr, hnn⟩, hl, k⟩ := h
    have hu := hu_of hr
    obtain ⟨n0, n1, n2, n3, n4, n5, n6, n7, rfl⟩ : ∃ n0 n1 n2 n3 n4 n5 n6 n7, ns = [n0, n1, n2, n3, n4, n5, n6, n7] := by
      match ns, hl with
      | [a, b, c, d, e, f, g, i], _ => exact ⟨_, _, _, _, _, _, _, _, rfl⟩
    have lx := paired_len hpx
    have l1 : 1 ≤ Tb.length := TO.len.1
    obtain ⟨j, hj⟩ : ∃ j : Nat, n0 % (xs.length : Int) = (j : Int) := ⟨(n0 % (xs.length : Int)).toNat, by have := Int.emod_nonneg n0 (show (xs.length : Int) ≠ 0 by omega); omega⟩
    have hjl : j < xs.length := by
      have := Int.emod_lt_of_pos n0 (show (0 : Int) < (xs.length : Int) by omega)
      omega
    obtain ⟨x, hx⟩ : ∃ x, xs[j]? = some x := ⟨_, List.getElem?_eq_getElem hjl⟩
    obtain ⟨tc, htc, q, l, ys, rfl, hq, hly, hpc⟩ := paired_at2 hpx hx
    obtain ⟨t, cs0⟩ := tc
    have hm := List.mem_of_getElem? htc
    obtain ⟨a, ks, c, cs, hva, rfl, ha, hk31, fa⟩ := S.get TO hm
    have C := TO.cols _ hm
    have hsa := S.at_
    refine ⟨_, (pss_cons (ps_asg (pe_ix ix_list (pv 0) (pe_op op_mod (pe_ix ix_list (pv 2) pe_int (fun _ _ => rfl)) (pe_callB call_len_seq (by rfl) T.f_len PySem.boot_len (pa_cons (pv 0) pa_nil))) (fun _ _ => rfl)) (pg_tup rfl (pgs_cons (pg_name (i := 3) sc_l_stuff.nd rfl (Or.inl rfl)) (pgs_cons (pg_name (i := 4) sc_l_stuff.nd rfl (Or.inl rfl)) pgs_nil))))
    (pss_cons (ps_set (i := 5) sc_l_stuff.nd rfl (Or.inl rfl) (pe_callB (call_sortK rfl) (by rfl) T.f_sorted (by decide +kernel) (pa_cons (pe_dget hu (pv 1) (pv 3) (fun _ _ => rfl)) pa_nil)))
    (pss_cons (ps_if (PW.pt (pw_or (pt_cmpR op_gt (pe_callB call_len_seq (by rfl) T.f_len PySem.boot_len (pa_cons (pv 5) pa_nil)) pe_int (nomark _)) (pw_or1 (PW.pt (pw_and (pt_cmpR (op_neNil hr.units) (pv 5) (pe_lst pa_nil) (nomark _)) (pw_and1 (pt_cmpR op_eq (pe_op op_mod (pe_ix ix_list (pv 2) pe_int (fun _ _ => rfl)) pe_int) pe_int (nomark _)))))))) (pss_one (ps_ret (pe_tup (pa_cons pe_str (pa_cons (pv 3) (pa_cons (pe_ix ix_list (pv 5) (pe_op op_mod (pe_ix ix_list (pv 2) pe_int (fun _ _ => rfl)) (pe_callB call_len_seq (by rfl) T.f_len PySem.boot_len (pa_cons (pv 5) pa_nil))) (fun _ _ => rfl)) pa_nil)))))) pss_nil)
    (pss_cons (ps_set (i := 6) sc_l_stuff.nd rfl (Or.inl rfl) (pe_df D_l_row (hr.mono (by decide)) pass0 (pa_cons (pv 4) (pa_cons (pe_slice sl_list (pv 2) (po_some pe_int) (po_some pe_int)) pa_nil))))
    (pss_cons (ps_if (PW.pt (pw_and (pt_cmpR (op_neNil hr.units) (pv 5) (pe_lst pa_nil) (nomark _)) (pw_and1 (pt_cmpR op_eq (pe_op op_mod (pe_ix ix_list (pv 2) pe_int (fun _ _ => rfl)) pe_int) pe_int (nomark _))))) (pss_one (ps_set (i := 6) sc_l_stuff.nd rfl (Or.inl rfl) (pe_op op_catT (pe_tup (pa_cons (pe_ix ix_list (pv 5) (pe_op op_mod (pe_ix ix_list (pv 2) pe_int (fun _ _ => rfl)) (pe_callB call_len_seq (by rfl) T.f_len PySem.boot_len (pa_cons (pv 5) pa_nil))) (fun _ _ => rfl)) pa_nil)) (pe_slice sl_tup (pv 6) (po_some pe_int) po_none)))) pss_nil)
    (pss_one (ps_ret (pe_tup (pa_cons pe_str (pa_cons (pv 3) (pa_cons (pv 6) pa_nil))))))))))), ?_⟩
    refine ⟨_, rfl, _, rfl, dr, _, _, _, rfl, rfl, SqL.of hdr, at0, _, rfl, lt, _, rfl, .inl (SqL.of hlt), _, _, rfl, rfl, (show (0 : Int) < (xs.length : Int) by omega), lt, _, _, _, rfl, rfl, SqL.of hlt, (show atI xs (n0 % (xs.length : Int)) = some (.ref q) by rw [hj]; exact atI_nat hx), ?_⟩
    refine ⟨q, _, rfl, SqT.of hq, rfl, _, _, rfl, _, _, rfl, rfl, ?_⟩
    refine ⟨_, rfl, _, rfl, sa, _, rfl, (by rw [← hva]; exact DGet.k (k := Sum.inr t) hsa), a, ks, c.2, rfl, Rd.of ha, fa.kind, fa.nd, by omega, fun sk p hperm hpw hp => ?_⟩
    have s1 := Same.new (o := .lst (sk.map kV)) hp
    have lsk : sk.length = ks.length := by
      rw [hperm.length_eq, List.length_map]
    have hp1 : (upd H p (.lst (sk.map kV))) p = some (.lst (sk.map kV)) := upd_same
    generalize hH1 : upd H p (.lst (sk.map kV)) = H1 at s1 hp1
    have hdr1 := s1 _ _ hdr
    have keyOk : ∀ i k, sk[i]? = some k → OkV c.2 (kV k) ∧ keyOf (kV k) = k ∧ stT t h k ≠ none := fun i k hi => found_key TO hm hok fa (hperm.mem_iff.mp (List.mem_of_getElem? hi))
    have pick : ∀ z : Int, 0 < (sk.map kV).length → ∃ i k, z % ((sk.map kV).length : Int) = ((i : Nat) : Int) ∧ sk[i]? = some k := fun z hz => by
      rw [List.length_map] at hz ⊢
      have h0 := Int.emod_nonneg z (show (sk.length : Int) ≠ 0 by omega)
      have h1 := Int.emod_lt_of_pos z (show (0 : Int) < (sk.length : Int) by omega)
      exact ⟨(z % (sk.length : Int)).toNat, _, by omega, List.getElem?_eq_getElem (by omega)⟩
    have CUT : ∀ H2, Same H1 H2 → 0 < (sk.map kV).length → (tRet (tTup (tCons (tC (.str "cut")) (tCons (tVar 3) (tCons (tOp (rIxL K) (tVar 5) (tOp (rI (fun _ j => 0 < j) fun i j => .int (i % j)) (tOp (rIxL K) (tVar 2) (tC (.int 2))) (tCB (fun xs H Q => ∃ p ys, xs = [.ref p] ∧ (SqL K H p ys ∨ SqT K H p ys) ∧ Q (.int ys.length) H) (tCons (tVar 5) tNil)))) tNil)))) : L2.TS)
        { nx := fun _ H' => Q .non H', rt := Q } [some (.ref lt), some (.ref sa), some (.ref dr), some (.str t), some (.ref l), some (.ref p), none] H2 := fun H2 s2 hz => by
      obtain ⟨i, ky, hi, hky⟩ := pick n2 hz
      obtain ⟨o1, o2, o3⟩ := keyOk i ky hky
      refine ⟨_, rfl, _, rfl, _, rfl, dr, _, _, _, rfl, rfl, SqL.of (s2 _ _ hdr1), nums_at (j := 2) rfl rfl, _, rfl, p, _, rfl, .inl (SqL.of (s2 _ _ hp1)), _, _, rfl, rfl, (by omega), p, _, _, _, rfl, rfl, SqL.of (s2 _ _ hp1), (show atI (sk.map kV) (n2 % ((sk.map kV).length : Int)) = some (kV ky) by rw [hi]; exact atI_nat (by rw [List.getElem?_map, hky]; rfl)), (by show 3 ≤ sizeLine; decide), fun q2 hq2 => ?_⟩
      refine k _ _ (.cut t (kV ky)) ((s1.trans s2).trans (Same.new hq2)) ⟨q2, rfl, upd_same⟩ ⟨c, cs, hm, o1⟩ ?_
      show stT t h (keyOf (kV ky)) ≠ none
      rw [o2]
      exact o3
    have fit : ∀ r H2, Same H1 H2 → sk.length ≤ 30 → Fits H2 kvs h (.set t r) := fun r H2 s2 h30 a2 ks2 hv2 ha2 => by
      rw [hva] at hv2
      obtain rfl := V.ref.inj (Option.some.inj hv2)
      rw [(s1.trans s2) _ _ ha] at ha2
      cases ha2
      omega
    have SET : ∀ H2 r a2, Same H1 H2 → sk.length ≤ 30 → H2 a2 = some (.tup r) → RowOk (c :: cs) r → (tRet (tTup (tCons (tC (.str "set")) (tCons (tVar 3) (tCons (tVar 6) tNil)))) : L2.TS)
        { nx := fun _ H' => Q .non H', rt := Q } [some (.ref lt), some (.ref sa), some (.ref dr), some (.str t), some (.ref l), some (.ref p), some (.ref a2)] H2 := fun H2 r a2 s2 h30 ha2 okr => by
      refine ⟨_, rfl, _, rfl, (by show 3 ≤ sizeLine; decide), fun q2 hq2 => ?_⟩
      have sq := Same.new (o := .tup [V.str "set", V.str t, .ref a2]) hq2
      exact k _ _ (.set t r) ((s1.trans s2).trans sq) ⟨q2, a2, rfl, upd_same, sq _ _ ha2⟩ ⟨_, hm, okr⟩ (fit r _ (s2.trans sq) h30)
    have ROW : ∀ (ns' : List Int), cutV ([n0, n1, n2, n3, n4, n5, n6, n7].map V.int) (some 3) (some 7) = [n3, n4, n5, n6].map V.int := fun _ => rfl
    have c4 : List.length (c :: cs) ≤ 4 := C.len.2
    have ns4 : ∀ n ∈ [n3, n4, n5, n6], 0 ≤ n := fun n hn => by
      refine hnn n ?_
      simp only [List.mem_cons, List.not_mem_nil, or_false] at hn ⊢
      rcases hn with e | e | e | e <;> simp [e]
    refine ⟨_, rfl, p, _, rfl, .inl (SqL.of hp1), _, _, rfl, rfl, _, rfl, ?_⟩
    by_cases h30 : ((sk.map kV).length : Int) > 30
    · refine if_t (decide_eq_true h30) (iteT ?_)
      exact CUT H1 (Same.refl _) (by omega)
    refine if_f (decide_eq_false h30) ?_
    have h30' : sk.length ≤ 30 := by
      rw [List.length_map] at h30
      omega
    refine ⟨_, rfl, Nat.zero_le _, fun e he => ?_⟩
    have se := Same.new (o := .lst []) he
    refine ⟨p, e, _, rfl, rfl, SqL.of (se _ _ hp1), SqL.of upd_same, _, rfl, ?_⟩
    generalize hH2 : upd H1 e (.lst []) = H2 at se
    have s2 := s1.trans se
    cases hsk : sk with
    | nil =>
      refine iteF (iteF ?_)
      rw [hsk] at hp1
      refine ⟨_, rfl, _, rfl, _, rfl, _, rfl, dr, _, rfl, SqL.of (se _ _ hdr1), fun q3 hq3 => ?_⟩
      have s3 := Same.new (o := .lst ([n3, n4, n5, n6].map V.int)) hq3
      have s23 := s2.trans s3
      refine ⟨l, ys, c :: cs, q3, [n3, n4, n5, n6], rfl, s23 _ _ hly, paired_imp hpc fun _ _ => ColAt.ts s23.ts, C, ⟨upd_same, ns4⟩, c4, fun H3 v r s4 hr okr => ?_⟩
      obtain ⟨a2, rfl, ha2⟩ := hr
      have s34 := se.trans (s3.trans s4)
      refine ⟨_, rfl, Nat.zero_le _, fun e2 he2 => ?_⟩
      have se2 := Same.new (o := .lst []) he2
      refine ⟨p, e2, [], rfl, rfl, SqL.of (se2 _ _ (s34 _ _ hp1)), SqL.of upd_same, _, rfl, iteF (iteF ?_)⟩
      exact SET _ r a2 (s34.trans se2) h30' (se2 _ _ ha2) okr
    | cons k0 kr =>
      rw [← hsk]
      refine if_t (by rw [hsk]; rfl) ?_
      refine ⟨_, rfl, dr, _, _, _, rfl, rfl, SqL.of (se _ _ hdr1), nums_at (j := 1) rfl rfl, _, _, rfl, rfl, (show (0 : Int) < 3 by decide), rfl, _, rfl, ?_⟩
      by_cases hz : n1 % 3 = 0
      · refine if_t (decide_eq_true (congrArg V.int hz)) ?_
        exact CUT H2 se (by rw [hsk]; exact Nat.succ_pos _)
      refine if_f (decide_eq_false fun z => hz (V.int.inj z)) ?_
      refine ⟨_, rfl, _, rfl, _, rfl, _, rfl, dr, _, rfl, SqL.of (se _ _ hdr1), fun q3 hq3 => ?_⟩
      have s3 := Same.new (o := .lst ([n3, n4, n5, n6].map V.int)) hq3
      have s23 := s2.trans s3
      refine ⟨l, ys, c :: cs, q3, [n3, n4, n5, n6], rfl, s23 _ _ hly, paired_imp hpc fun _ _ => ColAt.ts s23.ts, C, ⟨upd_same, ns4⟩, c4, fun H3 v r s4 hr okr => ?_⟩
      obtain ⟨a2, rfl, ha2⟩ := hr
      have s34 := se.trans (s3.trans s4)
      refine ⟨_, rfl, Nat.zero_le _, fun e2 he2 => ?_⟩
      have se2 := Same.new (o := .lst []) he2
      have s5 := s34.trans se2
      refine ⟨p, e2, _, rfl, rfl, SqL.of (s5 _ _ hp1), SqL.of upd_same, _, rfl, ?_⟩
      generalize hH5 : upd H3 e2 (.lst []) = H5 at se2 s5
      refine if_t (by rw [hsk]; rfl) ?_
      refine ⟨_, rfl, dr, _, _, _, rfl, rfl, SqL.of (s5 _ _ hdr1), nums_at (j := 1) rfl rfl, _, _, rfl, rfl, (show (0 : Int) < 3 by decide), rfl, _, rfl, ?_⟩
      by_cases hz1 : n1 % 3 = 1
      · refine if_t (decide_eq_true (congrArg V.int hz1)) ?_
        obtain ⟨i, ky, hi, hky⟩ := pick n2 (by rw [hsk]; exact Nat.succ_pos _)
        obtain ⟨o1, o2, o3⟩ := keyOk i ky hky
        refine ⟨_, rfl, _, rfl, dr, _, _, _, rfl, rfl, SqL.of (s5 _ _ hdr1), nums_at (j := 2) rfl rfl, _, rfl, p, _, rfl, .inl (SqL.of (s5 _ _ hp1)), _, _, rfl, rfl, (by rw [hsk]; show (0 : Int) < (((k0 :: kr).map kV).length : Int); rw [List.length_map, List.length_cons]; omega), p, _, _, _, rfl, rfl, SqL.of (s5 _ _ hp1), (show atI (sk.map kV) (n2 % ((sk.map kV).length : Int)) = some (kV ky) by rw [hi]; exact atI_nat (by rw [List.getElem?_map, hky]; rfl)), (by show 1 ≤ sizeLine; decide), fun q5 hq5 => ?_⟩
        have s6 := Same.new (o := .tup [kV ky]) hq5
        have ha5 := s6 _ _ (se2 _ _ ha2)
        cases okr with
        | cons okv okt =>
          rename_i v0 rest
          refine ⟨_, rfl, _, rfl, a2, _, rfl, SqT.of ha5, fun z => absurd z.1 ?_, fun q6 hq6 => ?_⟩
          · rw [show (some (1 : Int)) = some ((1 : Nat) : Int) from rfl, HT.sIx_nat, List.length_cons]
            omega
          have ecut : cutV (v0 :: rest) (some 1) none = rest := cutV_from (v0 :: rest) 1
          have s7 := Same.new (o := .tup (cutV (v0 :: rest) (some 1) none)) hq6
          have hq6' : (upd (upd H5 q5 (.tup [kV ky])) q6 (.tup (cutV (v0 :: rest) (some 1) none))) q6 = some (.tup rest) := by
            rw [upd_same, ecut]
          have hq5' := s7 _ _ (upd_same (H := H5) (a := q5) (o := .tup [kV ky]))
          have lr : rest.length ≤ 3 := by
            rw [← paired_len okt]
            exact Nat.le_of_succ_le_succ c4
          refine ⟨q5, q6, [kV ky], rest, rfl, rfl, SqT.of hq5', SqT.of hq6', List.cons_ne_nil _ _, Nat.le_trans (show 1 + rest.length ≤ 4 by omega) (by decide), fun hr0 => ?_, fun _ q7 hq7 => ?_⟩
          · subst hr0
            exact SET _ [kV ky] q5 (s5.trans (s6.trans s7)) h30' hq5' (.cons o1 okt)
          · exact SET _ (kV ky :: rest) q7 ((s5.trans (s6.trans s7)).trans (Same.new hq7)) h30' upd_same (.cons o1 okt)
      · refine if_f (decide_eq_false fun z => hz1 (V.int.inj z)) ?_
        exact SET _ r a2 s5 h30' (se2 _ _ ha2) okr
theorem sc_l_done : FnScope ["_law_state", "_law_stuff_here"] ["_law_state", "_law_stuff_here"] d_l_done.scope := ⟨rfl, rfl, rfl, by decide +kernel, rfl, by decide +kernel, by decide +kernel⟩
theorem ok_l_done (T : Tx K mg) (F : Fd K d_l_done fd) : FnOk P w K mg base CX0 1 (He.fAd K d_l_done.at_) fd ["_law_state", "_law_stuff_here"] sp_l_done := by
  refine ok0 F sc_l_done (fun vs H Q E h => ?_) (fun cdv A outer s H vs Q E hr h => ?_)
  · obtain ⟨_, _, _, _, _, _, rfl, _⟩ := h
    rfl
  · obtain ⟨sa, x, Tb, h, kvs, st, rfl, TO, S, hx, okst, fit, k⟩ := h
    have hu := hu_of hr
    refine ⟨_, (pss_one (ps_if (pt_cmpR op_eq (pe_ix ix_tup (pv 1) pe_int (fun _ _ => rfl)) pe_str (nomark _)) (pss_one (ps_dput hu (pe_dget hu (pv 0) (pe_ix ix_tup (pv 1) pe_int (fun _ _ => rfl)) (fun _ _ => rfl)) (pe_ix ix_tup (pe_ix ix_tup (pv 1) pe_int (fun _ _ => rfl)) pe_int (fun _ _ => rfl)) (pe_ix ix_tup (pv 1) pe_int (fun _ _ => rfl)) rfl)) (pss_one (ps_expr (pe_dpop1 (pe_dget hu (pv 0) (pe_ix ix_tup (pv 1) pe_int (fun _ _ => rfl)) (fun _ _ => rfl)) (pe_ix ix_tup (pv 1) pe_int (fun _ _ => rfl)) ⟨rfl, rfl, rfl, rfl⟩))))), ?_⟩
    cases st with
    | keep m => exact absurd fit id
    | set t r =>
      obtain ⟨a1, b1, rfl, ha1, hb1⟩ := hx
      obtain ⟨cs0, ht, okr⟩ := okst
      obtain ⟨a, ks, c, cs, hva, rfl, ha, hk31, fa⟩ := S.get TO ht
      cases okr with
      | cons okv okt =>
        rename_i v0 rest
        have h30 := fit a ks hva ha
        have e1 : stT t (h ++ [.set t (v0 :: rest)]) = appT t (.set t (v0 :: rest)) (stT t h) := runT_snoc t h _ _
        obtain ⟨hin, S'⟩ := S.put TO ht hva ha (s := .set t (v0 :: rest)) (ks' := putK ks (keyOf v0) (.ref b1)) (Nat.le_trans (put_len _) (Nat.succ_le_succ h30)) (by rw [e1]; exact fa.st ⟨b1, rfl, hb1⟩ okv.kind) fun t' hne => by
          rw [show stT t' (h ++ [.set t (v0 :: rest)]) = appT t' (.set t (v0 :: rest)) (stT t' h) from runT_snoc t' h _ _]
          show (if t = t' then _ else _) = _
          rw [if_neg fun z => hne z.symm]
        refine ⟨_, rfl, a1, _, 0, _, rfl, rfl, SqT.of ha1, at0, rfl, _, rfl, if_t (by decide +kernel) ?_⟩
        refine ⟨_, rfl, a1, _, 2, _, rfl, rfl, SqT.of ha1, rfl, _, rfl, _, rfl, a1, _, 1, _, rfl, rfl, SqT.of ha1, at1, sa, _, rfl, (by rw [← hva]; exact DGet.k (k := Sum.inr t) S.at_), _, rfl, a1, _, 2, _, rfl, rfl, SqT.of ha1, rfl, b1, _, 0, _, rfl, rfl, SqT.of hb1, at0, a, _, rfl, .inl ⟨ks, keyOf v0, ha, okv.key.symm, small1000 (by omega), rfl⟩, ?_⟩
        exact k a ks _ ha hin S' _
    | cut t ky =>
      obtain ⟨a1, rfl, ha1⟩ := hx
      obtain ⟨c', cs', ht, okv⟩ := okst
      obtain ⟨a, ks, c, cs, hva, ecs, ha, hk31, fa⟩ := S.get TO ht
      cases ecs
      have e1 : stT t (h ++ [.cut t ky]) = appT t (.cut t ky) (stT t h) := runT_snoc t h _ _
      obtain ⟨hin, S'⟩ := S.put TO ht hva ha (s := .cut t ky) (ks' := dropK ks (keyOf ky)) (Nat.le_trans (dropK_le _ _) hk31) (by rw [e1]; exact fa.ct ky) fun t' hne => by
        rw [show stT t' (h ++ [.cut t ky]) = appT t' (.cut t ky) (stT t' h) from runT_snoc t' h _ _]
        show (if t = t' then _ else _) = _
        rw [if_neg fun z => hne z.symm]
      have hf : stT t h (keyOf ky) ≠ none := fit
      obtain ⟨r, hr1⟩ : ∃ r, stT t h (keyOf ky) = some r := by
        cases e : stT t h (keyOf ky) with
        | none => exact absurd e hf
        | some r => exact ⟨r, rfl⟩
      obtain ⟨v, hv, _⟩ := fa.sm hr1
      refine ⟨_, rfl, a1, _, 0, _, rfl, rfl, SqT.of ha1, at0, rfl, _, rfl, if_f (by decide +kernel) ?_⟩
      refine ⟨_, rfl, _, rfl, a1, _, 1, _, rfl, rfl, SqT.of ha1, at1, sa, _, rfl, (by rw [← hva]; exact DGet.k (k := Sum.inr t) S.at_), a, rfl, .inl ⟨ks, Rd.of ha⟩, _, rfl, a1, _, 2, _, rfl, rfl, SqT.of ha1, rfl, ks, keyOf ky, v, ha, okv.key.symm, hv, ?_⟩
      exact k a ks _ ha hin S' _
end
end Fl

set_option Elab.async false
set_option linter.all false
set_option maxRecDepth 100000
set_option maxHeartbeats 2000000
/-! The law's state: a copy, the lists. -/
namespace Fl
open PySem PySem.Spec PyProof.Rows L2
open TL (tl)
theorem valV_val : ∀ {kvs : List (Key × V)} {k : Key} {v : V}, valV kvs k = some v → v ∈ kvs.map (·.2)
  | p :: r, k, v, h => by
    by_cases e : p.1 = k
    · rw [valV_pos e] at h
      cases h
      exact List.mem_cons_self
    · rw [valV_neg e] at h
      exact List.mem_cons_of_mem _ (valV_val h)
theorem mergeK_nd : ∀ {more acc : List (Key × V)}, ((acc ++ more).map (·.1)).Nodup → mergeK acc more = acc ++ more
  | [], acc, _ => by
    rw [List.append_nil]
    rfl
  | p :: r, acc, nd => by
    have hn : valV acc p.1 = none := by
      cases e : valV acc p.1 with
      | none => rfl
      | some y =>
        rw [List.map_append, List.nodup_append] at nd
        exact absurd rfl (nd.2.2 _ (valV_in e) _ List.mem_cons_self)
    show mergeK (putK acc p.1 p.2) r = _
    rw [putK_new _ hn, mergeK_nd]
    · rw [List.append_assoc]
      rfl
    · rw [List.append_assoc]
      exact nd
theorem pair_keys {G : Str × Cols → V → Prop} {T : Tabs} {kvs : List (Key × V)} (p : Paired (fun (t : Str × Cols) (kv : Key × V) => kv.1 = Sum.inr t.1 ∧ G t kv.2) T kvs) : kvs.map (·.1) = T.map fun t => (Sum.inr t.1 : Key) := by
  induction p with
  | nil => rfl
  | cons r _ ih =>
    rw [List.map_cons, List.map_cons, r.1, ih]
theorem inr_nd {T : Tabs} (TO : TabsOk T) : (T.map fun t => (Sum.inr t.1 : Key)).Nodup := by
  have := TO.nd
  refine List.pairwise_map.mpr ((List.pairwise_map.mp this).imp fun h => fun z => h (Sum.inr.inj z))
theorem same_unlock {H H' : Hp} {sa : Addr} {od : Obj} {u : HO} (h : H sa = some u) (k : Same (upd H sa (.frz od u)) H') : Same H (upd H' sa u) := fun b o hb => by
  by_cases e : b = sa
  · subst e
    rw [h] at hb
    cases hb
    exact upd_same
  · rw [upd_ne e]
    refine k _ _ ?_
    rw [upd_ne e]
    exact hb
def sp_l_copy : Sp := fun vs H Q _ => ∃ sa T h kvs, vs = [.ref sa] ∧ TabsOk T ∧ StAt H T h sa kvs ∧ ∀ H' q kvs', Same H H' → H q = none → (∀ a, InSt kvs' a → H a = none) → StAt H' T h q kvs' → Q (.ref q) H'
def sp_l_lists : Sp := fun vs H Q _ => ∃ sa T h kvs Lf, vs = [.ref sa] ∧ TabsOk T ∧ StAt H T h sa kvs ∧ (∀ t ∈ T, Lists (stT t.1 h) (Lf t.1)) ∧ ∀ H' q kvs', Same H H' → H' q = some (.dK kvs') → TabsAt H' T Lf kvs' → (∀ a, InSt kvs' a → H a = none) → Q (.ref q) H'
section
variable {P : Program} {w : World} {K : PySem.W.Frag} {mg : Str → Option Value} {base : Heap} {fd : FuncData}
theorem sc_l_copy : FnScope ["_law_state", "_law_name"] ["_law_state"] d_l_copy.scope := ⟨rfl, rfl, rfl, by decide +kernel, rfl, by decide +kernel, by decide +kernel⟩
theorem ok_l_copy (T : Tx K mg) (F : Fd K d_l_copy fd) : FnOk P w K mg base CX0 1 (He.fAd K d_l_copy.at_) fd ["_law_state"] sp_l_copy := by
  refine ok0 F sc_l_copy (fun vs H Q E h => ?_) (fun cdv A outer s H vs Q E hr h => ?_)
  · obtain ⟨_, _, _, _, rfl, _⟩ := h
    rfl
  · obtain ⟨sa, Tb, h, kvs, rfl, TO, S, k⟩ := h
    have hu := hu_of hr
    have T4 : List.length Tb ≤ 4 := TO.len.2
    have lk := paired_len S.tabs
    refine ⟨_, (pss_one (ps_ret (pe_callTy (call_dictP rfl) (by rfl) T.f_dict (by decide +kernel) (pa_cons (pe_lock (pe_lc (own := [("_law_name", 1)]) rfl sc_l_copy.nd (pi_keys (pv 0)) (blkOk_by (N := ["_law_state", "_law_name"]) (sc := d_l_copy.scope) (by decide +kernel)) (fun _ _ _ _ _ => (pg_name (i := 1) sc_l_copy.nd rfl (Or.inl rfl))) (fun _ _ _ _ _ => pts_nil) (fun _ _ _ _ _ => (pe_tup (pa_cons (pv 1) (pa_cons (pe_callTy call_dictD (by rfl) T.f_dict (by decide +kernel) (pa_cons (pe_dget hu (pv 0) (pv 1) (fun _ _ => rfl)) pa_nil)) pa_nil)))))) pa_nil)))), ?_⟩
    refine ⟨sa, .dK kvs, S.at_, trivial, fun od => ?_⟩
    have frzN : ∀ {b o}, H b = some o → b ≠ sa → (upd H sa (.frz od (.dK kvs))) b = some o := fun hb hne => by
      rw [upd_ne hne]
      exact hb
    have nn : ∀ {b}, (upd H sa (.frz od (.dK kvs))) b = none → H b = none ∧ b ≠ sa := fun {b} hb => by
      have hne : b ≠ sa := fun z => by
        subst z
        rw [upd_same] at hb
        cases hb
      rw [upd_ne hne] at hb
      exact ⟨hb, hne⟩
    have tsl : TS H (upd H sa (.frz od (.dK kvs))) := fun e zs he => frzN he fun z => by
      subst z
      rw [S.at_] at he
      cases he
    refine ⟨_, rfl, sa, od, rfl, .inl ⟨kvs, upd_same, fun D hD => lc_it walk_keys (fun i H' => Same (upd H sa (.frz od (.dK kvs))) H' ∧ ∃ (ps : List Addr) (kvs' : List (Key × V)), H' D = some (.lst (ps.map V.ref)) ∧ Paired (fun p kv => H' p = some (.tup [kV kv.1, kv.2])) ps kvs' ∧
      Paired (fun (t : Str × Cols) (kv : Key × V) => kv.1 = Sum.inr t.1 ∧ SubAt H' t (stT t.1 h) kv.2) (Tb.take i) kvs' ∧ (kvs'.map (·.2)).Nodup ∧ (∀ a, InSt kvs' a → (upd H sa (.frz od (.dK kvs))) a = none))
      ⟨Same.new hD, [], [], upd_same, .nil, .nil, List.nodup_nil, fun _ h => by cases h⟩ (fun i H' _ ⟨e, _⟩ => e _ _ upd_same) ?_ ?_⟩⟩
    · rintro i x H1 H2 hi ⟨s1, ps, kvs', hD1, hp1, ht1, nd1, fr1⟩ ⟨rfl, ky, v0, hkv, rfl⟩
      obtain ⟨t, ht, ek, _⟩ := paired_at2 S.tabs hkv
      replace ek : ky = Sum.inr t.1 := ek
      subst ek
      have hm := List.mem_of_getElem? ht
      obtain ⟨a, ks, c, cs', hva, ecs, ha, hk31, fa⟩ := S.get TO (t := t.1) (cs := t.2) hm
      have nsa : a ≠ sa := fun z => S.ne (z ▸ valV_val hva)
      have ha1 := s1 _ _ (frzN ha nsa)
      refine ⟨rfl, tyes ?_⟩
      refine ⟨_, rfl, _, rfl, _, rfl, sa, _, rfl, .inl ⟨kvs, Sum.inr t.1, .inr ⟨od, s1 _ _ upd_same⟩, rfl, hva.symm⟩, a, ks, rfl, Rd.of ha1, fun p0 hp0 => ⟨two_small, fun q hq => ?_⟩⟩
      have s2 := Same.new (o := .dK ks) hp0
      have s3 := Same.new (o := .tup [kV (Sum.inr t.1), V.ref p0]) hq
      have s23 := s2.trans s3
      have hD2 := s23 _ _ hD1
      have hDl : (upd H sa (.frz od (.dK kvs))) D = none := hD
      have lps : ps.length ≤ 4 := by
        rw [paired_len hp1, ← paired_len ht1, List.length_take]
        omega
      obtain ⟨H3, hH3⟩ : ∃ H3, H3 = upd (upd (upd H2 p0 (.dK ks)) q (.tup [kV (Sum.inr t.1), V.ref p0])) D (.lst (ps.map V.ref ++ [.ref q])) := ⟨_, rfl⟩
      have keep : ∀ b o, H2 b = some o → b ≠ D → H3 b = some o := fun b o hb hne => by
        rw [hH3, upd_ne hne]
        exact s23 _ _ hb
      have ts3 : TS H2 H3 := fun e zs he => keep e _ he fun z => by
        subst z
        rw [hD1] at he
        cases he
      have np : p0 ≠ D := (ne_of_none hD1 hp0).symm
      have nq : q ≠ D := (ne_of_none (s2 _ _ hD1) hq).symm
      have hp3 : H3 p0 = some (.dK ks) := by
        rw [hH3, upd_ne np]
        exact s3 _ _ upd_same
      have hq3 : H3 q = some (.tup [kV (Sum.inr t.1), V.ref p0]) := by
        rw [hH3, upd_ne nq]
        exact upd_same
      refine ⟨ps.map V.ref, hD2, by rw [List.length_map]; exact small1000 (by omega), ?_⟩
      rw [← hH3]
      refine ⟨hH3 ▸ Same.mut (s1.trans s23) hDl, ps ++ [q], kvs' ++ [(Sum.inr t.1, .ref p0)], ?_, paired_snoc (paired_imp hp1 fun p kv hh => ts3 _ _ hh) hq3, ?_, ?_, ?_⟩
      · rw [hH3, upd_same, List.map_append]
        rfl
      · rw [take_snoc ht]
        refine paired_snoc (paired_impM ht1 fun t' _ kv hkv' ⟨e, a', ks', c', cs2, e1, e2, h1, h2, h3⟩ => ⟨e, a', ks', c', cs2, e1, e2, keep _ _ h1 ?_, h2, h3.ts ts3⟩) ⟨rfl, p0, ks, c, cs', rfl, ecs, hp3, hk31, (fa.ts tsl).ts (s1.ts.trans ts3)⟩
        intro z
        subst z
        rw [hD1] at h1
        cases h1
      · rw [List.map_append, List.nodup_append]
        refine ⟨nd1, by simp, fun x hx y hy e => ?_⟩
        rw [List.map_cons, List.map_nil, List.mem_singleton] at hy
        subst hy
        subst e
        obtain ⟨kv, hkv1, ekv⟩ := List.mem_map.mp hx
        obtain ⟨t', _, _, a', ks', _, _, e1, _, h1, _, _⟩ := paired_mem ht1 kv hkv1
        rw [e1] at ekv
        cases ekv
        rw [hp0] at h1
        cases h1
      · intro a' ha'
        unfold InSt at ha'
        rw [List.map_append] at ha'
        rcases List.mem_append.mp ha' with h | h
        · exact fr1 a' h
        · rw [List.map_cons, List.map_nil, List.mem_singleton] at h
          cases h
          exact s1.free hp0
    · rintro H1 ⟨s1, ps, kvs', hD1, hp1, ht1, nd1, fr1⟩
      rw [← lk, List.take_length] at ht1
      have hlk := s1 _ _ (upd_same (H := H) (a := sa) (o := .frz od (.dK kvs)))
      refine ⟨hlk, ?_⟩
      have sU := same_unlock S.at_ s1
      obtain ⟨H2, hH2⟩ : ∃ H2, H2 = upd H1 sa (.dK kvs) := ⟨_, rfl⟩
      rw [← hH2] at sU ⊢
      have keep : ∀ b o, H1 b = some o → b ≠ sa → H2 b = some o := fun b o hb hne => by
        rw [hH2, upd_ne hne]
        exact hb
      have tsU : TS H1 H2 := fun e zs he => keep e _ he fun z => by
        subst z
        rw [hlk] at he
        cases he
      have nD : D ≠ sa := (nn hD).2
      have keys : (kvs'.map (·.1)).Nodup := by
        rw [pair_keys ht1]
        exact inr_nd TO
      refine ⟨D, ps, kvs', rfl, SqL.of (keep _ _ hD1 nD), paired_imp hp1 fun p kv hh => SqT.of (tsU _ _ hh), fun q hq => ?_⟩
      have sq := Same.new (o := .dK (mergeK [] kvs')) hq
      rw [mergeK_nd (acc := []) keys, List.nil_append] at sq ⊢
      have nsub : ∀ a, InSt kvs' a → H a = none ∧ a ≠ sa := fun a ha => nn (fr1 a ha)
      refine k _ q kvs' (sU.trans sq) (sU.free hq) (fun a ha => (nsub a ha).1) ⟨upd_same, paired_impM ht1 fun t' _ kv hkv ⟨e, a', ks', c', cs2, e1, e2, h1, h2, h3⟩ => ⟨e, a', ks', c', cs2, e1, e2, sq _ _ (keep _ _ h1 (nsub a' (List.mem_map.mpr ⟨kv, hkv, e1⟩)).2), h2, h3.ts (tsU.trans sq.ts)⟩, nd1, fun z => ?_⟩
      obtain ⟨kv, hkv1, ekv⟩ := List.mem_map.mp z
      obtain ⟨t', _, _, a', ks', _, _, e1, _, h1, _, _⟩ := paired_mem ht1 kv hkv1
      rw [e1] at ekv
      cases ekv
      have := keep _ _ h1 (nsub q (List.mem_map.mpr ⟨kv, hkv1, e1⟩)).2
      rw [hq] at this
      cases this
theorem sc_l_lists : FnScope ["_law_state", "_law_key", "_law_name"] ["_law_state"] d_l_lists.scope := ⟨rfl, rfl, rfl, by decide +kernel, rfl, by decide +kernel, by decide +kernel⟩
theorem ok_l_lists (T : Tx K mg) (F : Fd K d_l_lists fd) : FnOk P w K mg base CX0 1 (He.fAd K d_l_lists.at_) fd ["_law_state"] sp_l_lists := by
  refine ok0 F sc_l_lists (fun vs H Q E h => ?_) (fun cdv A outer s H vs Q E hr h => ?_)
  · obtain ⟨_, _, _, _, _, rfl, _⟩ := h
    rfl
  · obtain ⟨sa, Tb, h, kvs, Lf, rfl, TO, S, hL, k⟩ := h
    have hu := hu_of hr
    have T4 : List.length Tb ≤ 4 := TO.len.2
    have lk := paired_len S.tabs
    refine ⟨_, (pss_one (ps_ret (pe_callTy (call_dictP rfl) (by rfl) T.f_dict (by decide +kernel) (pa_cons (pe_lock (pe_lc (own := [("_law_name", 2)]) (g := gName 2) (tt := tYes) (te := tTup (tCons (tVar 2) (tCons (tLc (iList K (tCB rSortK (tCons (tDGet (tVar 0) (tVar 2)) tNil))) (gName 1) tYes (tDGet (tDGet (tVar 0) (tVar 2)) (tVar 1)) [1]) tNil))) rfl sc_l_lists.nd (pi_keys (pv 0)) (blkOk_by (N := ["_law_state", "_law_key", "_law_name"]) (sc := d_l_lists.scope) (by decide +kernel)) (fun _ _ _ _ _ => (pg_name (i := 2) sc_l_lists.nd rfl (Or.inr rfl))) (fun _ _ _ _ _ => pts_nil) (fun _ _ _ _ _ => (pe_tup (pa_cons (pv 2) (pa_cons (pe_lc (own := [("_law_key", 1)]) rfl sc_l_lists.nd (pi_list (pe_callB (call_sortK rfl) (by rfl) T.f_sorted (by decide +kernel) (pa_cons (pe_dget hu (pv 0) (pv 2) (fun _ _ => rfl)) pa_nil))) (blkOk_by (N := ["_law_state", "_law_key", "_law_name"]) (sc := ({ kind := .function, names := [((".0" : Str), .local), ("_law_name", .cell), ("sorted", .globalImplicit), ("_law_state", .cell)], isGenerator := false, isCoroutine := false } : Scope)) (by decide +kernel)) (fun _ _ _ _ _ => (pg_name (i := 1) sc_l_lists.nd rfl (Or.inl rfl))) (fun _ _ _ _ _ => pts_nil) (fun _ _ _ _ _ => (pe_dget hu (pe_dget hu (pv 0) (pv 2) (fun _ _ => rfl)) (pv 1) (fun _ _ => rfl)))) pa_nil)))))) pa_nil)))), ?_⟩
    refine ⟨sa, .dK kvs, S.at_, trivial, fun od => ?_⟩
    have frzN : ∀ {b o}, H b = some o → b ≠ sa → (upd H sa (.frz od (.dK kvs))) b = some o := fun hb hne => by
      rw [upd_ne hne]
      exact hb
    have nn : ∀ {b}, (upd H sa (.frz od (.dK kvs))) b = none → H b = none ∧ b ≠ sa := fun {b} hb => by
      have hne : b ≠ sa := fun z => by
        subst z
        rw [upd_same] at hb
        cases hb
      rw [upd_ne hne] at hb
      exact ⟨hb, hne⟩
    have tsl : TS H (upd H sa (.frz od (.dK kvs))) := fun e zs he => frzN he fun z => by
      subst z
      rw [S.at_] at he
      cases he
    refine ⟨_, rfl, sa, od, rfl, .inl ⟨kvs, upd_same, fun D hD => lc_it walk_keys (fun i H' => Same (upd H sa (.frz od (.dK kvs))) H' ∧ ∃ (ps : List Addr) (kvs' : List (Key × V)), H' D = some (.lst (ps.map V.ref)) ∧ Paired (fun p kv => H' p = some (.tup [kV kv.1, kv.2])) ps kvs' ∧
      Paired (fun (t : Str × Cols) (kv : Key × V) => kv.1 = Sum.inr t.1 ∧ ∃ a, kv.2 = V.ref a ∧ ((upd H sa (.frz od (.dK kvs))) a = none ∧ a ≠ D) ∧ RowsAt H' (Lf t.1) a) (Tb.take i) kvs')
      ⟨Same.new hD, [], [], upd_same, .nil, .nil⟩ (fun i H' _ ⟨e, _⟩ => e _ _ upd_same) ?_ ?_⟩⟩
    · rintro i x H1 H2 hi ⟨s1, ps, kvs', hD1, hp1, ht1⟩ ⟨rfl, ky, v0, hkv, rfl⟩
      obtain ⟨t, ht, ek, _⟩ := paired_at2 S.tabs hkv
      replace ek : ky = Sum.inr t.1 := ek
      subst ek
      have hm := List.mem_of_getElem? ht
      obtain ⟨a, ks, c, cs', hva, ecs, ha, hk31, fa⟩ := S.get TO (t := t.1) (cs := t.2) hm
      have nsa : a ≠ sa := fun z => S.ne (z ▸ valV_val hva)
      have ha1 := s1 _ _ (frzN ha nsa)
      have hsa1 := s1 _ _ (upd_same (H := H) (a := sa) (o := .frz od (.dK kvs)))
      refine ⟨rfl, tyes ?_⟩
      refine ⟨_, rfl, _, rfl, _, rfl, sa, _, rfl, .inl ⟨kvs, Sum.inr t.1, .inr ⟨od, hsa1⟩, rfl, hva.symm⟩, a, ks, c.2, rfl, Rd.of ha1, fa.kind, fa.nd, by omega, fun sk p hperm hpw hp => ?_⟩
      obtain ⟨vs, hvs, hrv⟩ := fa.rows (keyF_st t.1 h) hperm hpw (hL t hm)
      have lvs := paired_len hvs
      have lsk : sk.length ≤ 31 := by
        rw [hperm.length_eq, List.length_map]
        exact hk31
      have s2 := Same.new (o := .lst (sk.map kV)) hp
      have s12 := s1.trans s2
      refine ⟨p, rfl, ⟨_, SqL.of upd_same⟩, fun D2 hD2 => lc_it (walk_list (xs := sk.map kV)) (fun j H' => Same (upd H2 p (.lst (sk.map kV))) H' ∧ H' D2 = some (.lst (vs.take j))) ⟨Same.new hD2, upd_same⟩ (fun j H' _ ⟨e, _⟩ => SqL.of (e _ _ upd_same)) ?_ ?_⟩
      · rintro j y H3 H4 hj ⟨s3, hD3⟩ ⟨rfl, hy⟩
        rw [List.getElem?_map] at hy
        cases q : sk[j]? with
        | none =>
          rw [q] at hy
          cases hy
        | some ky =>
          rw [q] at hy
          obtain rfl := Option.some.inj hy
          obtain ⟨v, hv, hvk⟩ := paired_at hvs q
          refine ⟨rfl, tyes ?_⟩
          refine ⟨_, rfl, _, rfl, sa, _, rfl, .inl ⟨kvs, Sum.inr t.1, .inr ⟨od, s3 _ _ (s2 _ _ hsa1)⟩, rfl, hva.symm⟩, _, rfl, a, v, rfl, .inl ⟨ks, ky, Rd.of (s3 _ _ (s2 _ _ ha1)), rfl, hvk.symm⟩, _, hD3, ?_, Same.mut s3 hD2, ?_⟩
          · rw [List.length_take]
            have := (List.getElem?_eq_some_iff.mp hv).1
            exact small1000 (by omega)
          · rw [take_snoc hv]
            exact upd_same
      rintro H4 ⟨s3, hD3⟩
      rw [List.length_map, lvs, List.take_length] at hD3
      refine ⟨two_small, fun q hq => ?_⟩
      have sq := Same.new (o := .tup [kV (Sum.inr t.1), V.ref D2]) hq
      have s24 := (s2.trans s3).trans sq
      have hDl : (upd H sa (.frz od (.dK kvs))) D = none := hD
      have hD4 := s24 _ _ hD1
      have lps : ps.length ≤ 4 := by
        rw [paired_len hp1, ← paired_len ht1, List.length_take]
        omega
      obtain ⟨H5, hH5⟩ : ∃ H5, H5 = upd (upd H4 q (.tup [kV (Sum.inr t.1), V.ref D2])) D (.lst (ps.map V.ref ++ [.ref q])) := ⟨_, rfl⟩
      have keep : ∀ b o, (upd H4 q (.tup [kV (Sum.inr t.1), V.ref D2])) b = some o → b ≠ D → H5 b = some o := fun b o hb hne => by
        rw [hH5, upd_ne hne]
        exact hb
      have ts5 : TS (upd H4 q (.tup [kV (Sum.inr t.1), V.ref D2])) H5 := fun e zs he => keep e _ he fun z => by
        subst z
        rw [hD4] at he
        cases he
      have fD2 : (upd H sa (.frz od (.dK kvs))) D2 = none := s12.free hD2
      have nD2 : D2 ≠ D := (ne_of_none (s2 _ _ hD1) hD2).symm
      have nq : q ≠ D := (ne_of_none (s3 _ _ (s2 _ _ hD1)) hq).symm
      have hq5 : H5 q = some (.tup [kV (Sum.inr t.1), V.ref D2]) := keep _ _ upd_same nq
      refine ⟨ps.map V.ref, hD4, by rw [List.length_map]; exact small1000 (by omega), ?_⟩
      rw [← hH5]
      refine ⟨hH5 ▸ Same.mut ((s12.trans s3).trans sq) hDl, ps ++ [q], kvs' ++ [(Sum.inr t.1, .ref D2)], ?_, paired_snoc (paired_imp hp1 fun p kv hh => ts5 _ _ (s24 _ _ hh)) hq5, ?_⟩
      · rw [hH5, upd_same, List.map_append]
        rfl
      · rw [take_snoc ht]
        refine paired_snoc (paired_imp ht1 fun t' kv ⟨e, a', e1, hn, xs, h1, h2⟩ => ⟨e, a', e1, hn, xs, keep _ _ (s24 _ _ h1) hn.2, paired_imp h2 fun _ _ => RowAt.ts (s24.ts.trans ts5)⟩) ⟨rfl, D2, rfl, ⟨fD2, nD2⟩, vs, keep _ _ (sq _ _ hD3) nD2, paired_imp hrv fun _ _ => RowAt.ts (tsl.trans (s1.ts.trans (s24.ts.trans ts5)))⟩
    · rintro H1 ⟨s1, ps, kvs', hD1, hp1, ht1⟩
      rw [← lk, List.take_length] at ht1
      have hlk := s1 _ _ (upd_same (H := H) (a := sa) (o := .frz od (.dK kvs)))
      refine ⟨hlk, ?_⟩
      have sU := same_unlock S.at_ s1
      obtain ⟨H2, hH2⟩ : ∃ H2, H2 = upd H1 sa (.dK kvs) := ⟨_, rfl⟩
      rw [← hH2] at sU ⊢
      have keep : ∀ b o, H1 b = some o → b ≠ sa → H2 b = some o := fun b o hb hne => by
        rw [hH2, upd_ne hne]
        exact hb
      have tsU : TS H1 H2 := fun e zs he => keep e _ he fun z => by
        subst z
        rw [hlk] at he
        cases he
      have nD : D ≠ sa := (nn hD).2
      have keys : (kvs'.map (·.1)).Nodup := by
        rw [pair_keys (G := fun t v => ∃ a, v = V.ref a ∧ ((upd H sa (.frz od (.dK kvs))) a = none ∧ a ≠ D) ∧ RowsAt H1 (Lf t.1) a) ht1]
        exact inr_nd TO
      refine ⟨D, ps, kvs', rfl, SqL.of (keep _ _ hD1 nD), paired_imp hp1 fun p kv hh => SqT.of (tsU _ _ hh), fun q hq => ?_⟩
      have sq := Same.new (o := .dK (mergeK [] kvs')) hq
      rw [mergeK_nd (acc := []) keys, List.nil_append] at sq ⊢
      refine k _ q kvs' (sU.trans sq) upd_same (paired_imp ht1 fun t' kv ⟨e, a', e1, hn, xs, h1, h2⟩ => ⟨e, a', e1, xs, sq _ _ (keep _ _ h1 (nn hn.1).2), paired_imp h2 fun _ _ => RowAt.ts (tsU.trans sq.ts)⟩) fun a ha => ?_
      obtain ⟨kv, hkv, ekv⟩ := List.mem_map.mp ha
      obtain ⟨t', _, _, a', e1, hn, _⟩ := paired_mem ht1 kv hkv
      rw [e1] at ekv
      cases ekv
      exact (nn hn.1).1
end
end Fl

set_option Elab.async false
set_option linter.all false
set_option maxRecDepth 100000
set_option maxHeartbeats 2000000
/-! The law's world: the disk, and what was kept. -/
namespace Fl
open PySem PySem.Spec PyProof.Rows L2
open TL (tl)
/-- a page says what was kept -/
def PgH (t : Str) (hist : List Stf) (g : Pg) : Prop := g.last ≤ hist.length ∧ g.many = keeps (hist.take g.last) ∧ Lists (stT t (hist.take g.last)) g.rows
theorem PgH.zero (t : Str) (hist : List Stf) : PgH t hist ⟨0, 0, []⟩ := ⟨Nat.zero_le _, rfl, .nil, fun k r => ⟨fun e => (nomatch e), fun e => (nomatch e.1)⟩⟩
theorem PgH.app {t : Str} {hist : List Stf} {g : Pg} (h : PgH t hist g) (x : List Stf) : PgH t (hist ++ x) g := by
  obtain ⟨h1, h2, h3⟩ := h
  have e : (hist ++ x).take g.last = hist.take g.last := List.take_append_of_le_length h1
  refine ⟨by rw [List.length_append]; omega, ?_, ?_⟩
  · rw [e]
    exact h2
  · rw [e]
    exact h3
structure Wd (T : Tabs) (hist : List Stf) (d : Dk) (f : Nat) (j : List Stf) (torn : List Str) (pg : Nat → Option Pg) : Prop where
  vw : Vw T d ((f : Int) + 1) (hist.drop f) j torn pg
  fl : f ≤ hist.length
  hok : ∀ s ∈ hist, StfOk T s
  ke : KeepEnd hist
  kn : ∀ h0 m h1, hist = h0 ++ .keep m :: h1 → m = keeps h0 + 1
  pgs : ∀ k t cs, T[k]? = some (t, cs) → ∀ g, (pg (2 * k) = some g ∨ pg (2 * k + 1) = some g) → PgH t hist g
  cov : ∀ k t cs, T[k]? = some (t, cs) → f ≤ (newP pg k).2.last
  tne : ∀ z ∈ torn, tl z ≠ []
theorem newP_cases (pg : Nat → Option Pg) (k : Nat) : (newP pg k).2 = ⟨0, 0, []⟩ ∨ ∃ g, (newP pg k).2 = g ∧ (pg (2 * k) = some g ∨ pg (2 * k + 1) = some g) := by
  unfold newP
  cases e0 : pg (2 * k) with
  | none =>
    cases e1 : pg (2 * k + 1) with
    | none => exact .inl rfl
    | some g => exact .inr ⟨g, rfl, .inr rfl⟩
  | some g =>
    cases e1 : pg (2 * k + 1) with
    | none => exact .inr ⟨g, rfl, .inl rfl⟩
    | some g' =>
      unfold newM
      simp only
      split
      · exact .inr ⟨g', rfl, .inr rfl⟩
      · exact .inr ⟨g, rfl, .inl rfl⟩
theorem Wd.newH {T : Tabs} {hist : List Stf} {d : Dk} {f : Nat} {j : List Stf} {torn : List Str} {pg : Nat → Option Pg} (W : Wd T hist d f j torn pg) {k : Nat} {t : Str} {cs : Cols} (h : T[k]? = some (t, cs)) : PgH t hist (newP pg k).2 := by
  rcases newP_cases pg k with e | ⟨g, e, hg⟩
  · rw [e]
    exact PgH.zero t hist
  · rw [e]
    exact W.pgs k t cs h g hg
theorem Wd.seenL {T : Tabs} {hist : List Stf} {d : Dk} {f : Nat} {j : List Stf} {torn : List Str} {pg : Nat → Option Pg} (W : Wd T hist d f j torn pg) {Lf : Str → List Row} (hL : ∀ t ∈ T, Lists (stT t.1 hist) (Lf t.1)) (h64 : ∀ t ∈ T, (Lf t.1).length < 64) :
    SeenL T ((f : Int) + 1) (hist.drop f) pg Lf := fun k t cs h => by
  have hm := List.mem_of_getElem? h
  obtain ⟨h1, _, h3⟩ := W.newH h
  refine ⟨?_, h64 _ hm⟩
  rw [rowsF_lists h3, rep_all t (W.cov k t cs h) h1]
  exact hL _ hm
theorem Wd.numsM {T : Tabs} {hist : List Stf} {d : Dk} {f : Nat} {j : List Stf} {torn : List Str} {pg : Nat → Option Pg} (W : Wd T hist d f j torn pg) : ∀ n, n ≤ T.length → ∃ l : Nat, Fl.numsM pg n = ((l : Int), keeps (hist.take l)) ∧ l ≤ hist.length ∧ ∀ k, k < n → (newP pg k).2.last ≤ l
  | 0, _ => ⟨0, rfl, Nat.zero_le _, fun k hk => absurd hk (Nat.not_lt_zero k)⟩
  | n + 1, hn => by
    obtain ⟨l, h1, h2, h3⟩ := Wd.numsM W n (by omega)
    obtain ⟨tc, htc⟩ : ∃ tc, T[n]? = some tc := ⟨_, List.getElem?_eq_getElem (by omega)⟩
    obtain ⟨g1, g2, _⟩ := W.newH (t := tc.1) (cs := tc.2) htc
    have e : Fl.numsM pg (n + 1) = if (Fl.numsM pg n).1 < ((newP pg n).2.last : Int) then (((newP pg n).2.last : Int), (newP pg n).2.many) else Fl.numsM pg n := rfl
    rw [e, h1]
    by_cases hlt : (l : Int) < ((newP pg n).2.last : Int)
    · rw [if_pos hlt]
      refine ⟨(newP pg n).2.last, by rw [g2], g1, fun k hk => ?_⟩
      by_cases hk' : k < n
      · have := h3 k hk'
        omega
      · obtain rfl : k = n := by omega
        exact Nat.le_refl _
    · rw [if_neg hlt]
      refine ⟨l, rfl, h2, fun k hk => ?_⟩
      by_cases hk' : k < n
      · exact h3 k hk'
      · obtain rfl : k = n := by omega
        omega
theorem Wd.nums {T : Tabs} {hist : List Stf} {d : Dk} {f : Nat} {j : List Stf} {torn : List Str} {pg : Nat → Option Pg} (W : Wd T hist d f j torn pg) (TO : TabsOk T) : numsN (Fl.numsM pg T.length) ((f : Int) + 1) (hist.drop f) = ((hist.length : Int), keeps hist) := by
  obtain ⟨l, h1, h2, h3⟩ := W.numsM T.length (Nat.le_refl _)
  have t1 : 1 ≤ T.length := TO.len.1
  rw [h1]
  have same : l = hist.length → ((l : Int), keeps (hist.take l)) = ((hist.length : Int), keeps hist) := fun e => by
    subst e
    rw [List.take_length]
  by_cases hc : hist.drop f = []
  · rw [hc]
    refine same ?_
    have hf : hist.length ≤ f := List.drop_eq_nil_iff.mp hc
    obtain ⟨tc, htc⟩ : ∃ tc, T[0]? = some tc := ⟨_, List.getElem?_eq_getElem (by omega)⟩
    have c := W.cov 0 tc.1 tc.2 htc
    have := h3 0 (by omega)
    omega
  · obtain ⟨i, m, hl, hi, hg⟩ := keep_last W.vw.ke hc
    have lf : (hist.drop f).length = hist.length - f := List.length_drop
    have en : ((f : Int) + 1) + ((hist.drop f).length : Int) - 1 = (hist.length : Int) := by
      have := W.fl
      omega
    unfold numsN
    rw [hg]
    simp only
    rw [en]
    by_cases hlt : (l : Int) < (hist.length : Int)
    · rw [if_pos hlt]
      rcases W.ke with e | ⟨h0, m0, e⟩
      · rw [e] at hc
        exact absurd rfl (by rw [List.drop_nil] at hc; exact hc)
      · have hm := W.kn h0 m0 [] e
        have : hist.getLast? = some (.keep m0) := by
          rw [e, List.getLast?_append]
          rfl
        have e2 : (hist.drop f).getLast? = hist.getLast? := by
          rw [List.getLast?_drop, if_neg (by have := List.length_pos_iff.mpr hc; omega)]
        rw [e2, this] at hg
        cases hg
        have : keeps hist = keeps h0 + 1 := by
          rw [e, keeps_app, keeps_keep]
        rw [this, hm]
    · rw [if_neg hlt]
      exact same (by omega)
theorem lists_len {H : Hp} {kd : Str} {ks : List (Key × V)} {f : TF} (fa : FoundAt H kd ks f) {L : List Row} (hL : Lists f L) : L.length ≤ ks.length := by
  have nd : (L.map rk).Nodup := by
    refine List.pairwise_map.mpr (hL.1.imp fun {a b} h => fun e => ?_)
    have h' : kLt (rk a) (rk b) := h
    rw [e] at h'
    exact kLt_asymm h' h'
  have := perm_len (m := ks.map (·.1)) nd fun k hk => by
    obtain ⟨r, hr, rfl⟩ := List.mem_map.mp hk
    have e := (hL.2 (rk r) r).mpr ⟨hr, rfl⟩
    obtain ⟨v, hv, _⟩ := fa.sm e
    exact valV_in hv
  rw [List.length_map, List.length_map] at this
  exact this
theorem StAt.short {H : Hp} {T : Tabs} {h : List Stf} {sa : Addr} {kvs : List (Key × V)} (S : StAt H T h sa kvs) (TO : TabsOk T) {Lf : Str → List Row} (hL : ∀ t ∈ T, Lists (stT t.1 h) (Lf t.1)) : ∀ t ∈ T, (Lf t.1).length ≤ 31 := fun t ht => by
  obtain ⟨a, ks, c, cs', _, _, _, l31, fa⟩ := S.get TO (t := t.1) (cs := t.2) ht
  exact Nat.le_trans (lists_len fa (hL t ht)) l31
/-- a list of the rows that stand -/
theorem lists_fn {T : Tabs} (TO : TabsOk T) {h : List Stf} (hok : ∀ s ∈ h, StfOk T s) : ∃ Lf : Str → List Row, ∀ t ∈ T, Lists (stT t.1 h) (Lf t.1) := by
  have hx : ∀ t : Str, ∃ L, t ∈ T.map (·.1) → Lists (stT t h) L := fun t => by
    by_cases ht : t ∈ T.map (·.1)
    · obtain ⟨tc, hm, rfl⟩ := List.mem_map.mp ht
      obtain ⟨L, hL⟩ := lists_ex TO (t := tc.1) (cs := tc.2) hm h.length h rfl hok
      exact ⟨L, fun _ => hL⟩
    · exact ⟨[], fun z => absurd z ht⟩
  exact ⟨fun t => Classical.choose (hx t), fun t ht => Classical.choose_spec (hx t.1) (List.mem_map.mpr ⟨t, ht, rfl⟩)⟩
end Fl

set_option Elab.async false
set_option linter.all false
set_option maxRecDepth 100000
set_option maxHeartbeats 2000000
/-! The law's world: what is due, coming up, the tail. -/
namespace Fl
open PySem PySem.Spec PyProof.Rows L2
open TL (tl)
/-- the dict of what was kept -/
def kdL (sa : Addr) (last many : Int) (down : Bool) (signs : Int) : List (Key × V) := [(Sum.inr ("state" : Str), .ref sa), (Sum.inr ("last" : Str), .int last), (Sum.inr ("many" : Str), .int many), (Sum.inr ("down" : Str), .bl down), (Sum.inr ("signs" : Str), .int signs)]
section
variable {sa : Addr} {last many : Int} {down : Bool} {signs : Int}
theorem s12 : (("state" : Str) = "last") = False := eq_false (by decide +kernel)
theorem s13 : (("state" : Str) = "many") = False := eq_false (by decide +kernel)
theorem s14 : (("state" : Str) = "down") = False := eq_false (by decide +kernel)
theorem s15 : (("state" : Str) = "signs") = False := eq_false (by decide +kernel)
theorem s23 : (("last" : Str) = "many") = False := eq_false (by decide +kernel)
theorem s24 : (("last" : Str) = "down") = False := eq_false (by decide +kernel)
theorem s25 : (("last" : Str) = "signs") = False := eq_false (by decide +kernel)
theorem s34 : (("many" : Str) = "down") = False := eq_false (by decide +kernel)
theorem s35 : (("many" : Str) = "signs") = False := eq_false (by decide +kernel)
theorem s45 : (("down" : Str) = "signs") = False := eq_false (by decide +kernel)
theorem neK {x y : Str} (h : (x = y) = False) : ¬ (Sum.inr x : Key) = Sum.inr y := fun e => of_eq_false h (Sum.inr.inj e)
theorem kd_state : valV (kdL sa last many down signs) (.inr ("state" : Str)) = some (.ref sa) := valV_pos rfl
theorem kd_last : valV (kdL sa last many down signs) (.inr ("last" : Str)) = some (.int last) := (valV_neg (neK s12)).trans (valV_pos rfl)
theorem kd_many : valV (kdL sa last many down signs) (.inr ("many" : Str)) = some (.int many) := (valV_neg (neK s13)).trans ((valV_neg (neK s23)).trans (valV_pos rfl))
theorem kd_down : valV (kdL sa last many down signs) (.inr ("down" : Str)) = some (.bl down) := (valV_neg (neK s14)).trans ((valV_neg (neK s24)).trans ((valV_neg (neK s34)).trans (valV_pos rfl)))
theorem kd_signs : valV (kdL sa last many down signs) (.inr ("signs" : Str)) = some (.int signs) := (valV_neg (neK s15)).trans ((valV_neg (neK s25)).trans ((valV_neg (neK s35)).trans ((valV_neg (neK s45)).trans (valV_pos rfl))))
theorem neK' {x y : Str} (h : (x = y) = False) : ¬ (Sum.inr y : Key) = Sum.inr x := fun e => of_eq_false h (Sum.inr.inj e).symm
theorem put_pos {p : Key × V} {r : List (Key × V)} {k : Key} {v : V} (h : p.1 = k) (hr : ∀ x ∈ r, ¬ x.1 = k) : putK (p :: r) k v = (k, v) :: r := by
  unfold putK
  have e0 : ((p :: r).any fun kv => decide (kv.1 = k)) = true := by
    rw [List.any_cons, decide_eq_true h, Bool.true_or]
  rw [if_pos e0, List.map_cons, if_pos h, h]
  congr 1
  conv => rhs; rw [← List.map_id r]
  exact List.map_congr_left fun x hx => by rw [if_neg (hr x hx)]; rfl
theorem r21 : (("last" : Str) = "state") = False := eq_false (by decide +kernel)
theorem r31 : (("many" : Str) = "state") = False := eq_false (by decide +kernel)
theorem r32 : (("many" : Str) = "last") = False := eq_false (by decide +kernel)
theorem r41 : (("down" : Str) = "state") = False := eq_false (by decide +kernel)
theorem r42 : (("down" : Str) = "last") = False := eq_false (by decide +kernel)
theorem r43 : (("down" : Str) = "many") = False := eq_false (by decide +kernel)
theorem r51 : (("signs" : Str) = "state") = False := eq_false (by decide +kernel)
theorem r52 : (("signs" : Str) = "last") = False := eq_false (by decide +kernel)
theorem r53 : (("signs" : Str) = "many") = False := eq_false (by decide +kernel)
theorem r54 : (("signs" : Str) = "down") = False := eq_false (by decide +kernel)
theorem kd_put_state (z : Addr) : putK (kdL sa last many down signs) (.inr ("state" : Str)) (V.ref z) = kdL z last many down signs := by
  unfold putK kdL
  rw [if_pos (by simp only [List.any_cons, decide_eq_true_iff, Bool.or_eq_true, true_or, or_true, decide_true])]
  simp only [List.map_cons, List.map_nil, Sum.inr.injEq, r21, r31, r41, r51, if_true, if_false]
theorem kd_put_last (z : Int) : putK (kdL sa last many down signs) (.inr ("last" : Str)) (V.int z) = kdL sa z many down signs := by
  unfold putK kdL
  rw [if_pos (by simp only [List.any_cons, decide_eq_true_iff, Bool.or_eq_true, true_or, or_true, decide_true])]
  simp only [List.map_cons, List.map_nil, Sum.inr.injEq, s12, r32, r42, r52, if_true, if_false]
theorem kd_put_many (z : Int) : putK (kdL sa last many down signs) (.inr ("many" : Str)) (V.int z) = kdL sa last z down signs := by
  unfold putK kdL
  rw [if_pos (by simp only [List.any_cons, decide_eq_true_iff, Bool.or_eq_true, true_or, or_true, decide_true])]
  simp only [List.map_cons, List.map_nil, Sum.inr.injEq, s13, s23, r43, r53, if_true, if_false]
theorem kd_put_down (z : Bool) : putK (kdL sa last many down signs) (.inr ("down" : Str)) (V.bl z) = kdL sa last many z signs := by
  unfold putK kdL
  rw [if_pos (by simp only [List.any_cons, decide_eq_true_iff, Bool.or_eq_true, true_or, or_true, decide_true])]
  simp only [List.map_cons, List.map_nil, Sum.inr.injEq, s14, s24, s34, r54, if_true, if_false]
theorem kd_put_signs (z : Int) : putK (kdL sa last many down signs) (.inr ("signs" : Str)) (V.int z) = kdL sa last many down z := by
  unfold putK kdL
  rw [if_pos (by simp only [List.any_cons, decide_eq_true_iff, Bool.or_eq_true, true_or, or_true, decide_true])]
  simp only [List.map_cons, List.map_nil, Sum.inr.injEq, s15, s25, s35, s45, if_true, if_false]
end
/-! ### what is due, twice -/
theorem paired_self {α : Type} {F : α → α → Prop} : ∀ {l : List α}, (∀ x ∈ l, F x x) → Paired F l l
  | [], _ => .nil
  | _ :: _, h => .cons (h _ List.mem_cons_self) (paired_self fun x hx => h x (List.mem_cons_of_mem _ hx))
def FlatF (T : Tabs) (Lf : Str → List Row) : Prop := ∀ t ∈ T, ∀ r ∈ Lf t.1, ∀ v ∈ r, flatB v = true
theorem rows_dq {K : PySem.W.Frag} {H : Hp} : ∀ {L : List Row} {xs ys : List V}, (∀ r ∈ L, ∀ v ∈ r, flatB v = true) → Paired (RowAt H) L xs → Paired (RowAt H) L ys → Paired (Dq K H 2) xs ys
  | [], _, _, _, .nil, .nil => .nil
  | r :: L, _, _, hf, .cons h1 t1, .cons h2 t2 => by
    obtain ⟨a, rfl, ha⟩ := h1
    obtain ⟨b, rfl, hb⟩ := h2
    refine .cons (.inr (.inl ⟨a, b, r, r, rfl, rfl, SqT.of ha, SqT.of hb, paired_self fun v hv => .inl ⟨rfl, hf r List.mem_cons_self v hv⟩⟩)) (rows_dq (fun r hr => hf r (List.mem_cons_of_mem _ hr)) t1 t2)
theorem due_eq {K : PySem.W.Frag} {H : Hp} {q1 q2 : Addr} {T : Tabs} {Lf : Str → List Row} {x : Int × Int} (TO : TabsOk T) (hf : FlatF T Lf) (h1 : DueT H q1 T Lf x) (h2 : DueT H q2 T Lf x) :
    ∃ xs ys, SqT K H q1 xs ∧ SqT K H q2 ys ∧ Paired (Dq K H 4) xs ys := by
  obtain ⟨a, ks, e1, e2, e3⟩ := h1
  obtain ⟨b, ls, g1, g2, g3⟩ := h2
  refine ⟨_, _, SqT.of e1, SqT.of g1, .cons (.inr (.inr (.inr ⟨a, b, ks, ls, rfl, rfl, e2, g2, ?_, fun p hp => ?_⟩))) (.cons (.inl ⟨rfl, rfl⟩) (.cons (.inl ⟨rfl, rfl⟩) .nil))⟩
  · rw [← paired_len e3, ← paired_len g3]
  · obtain ⟨i, hi⟩ := List.getElem?_of_mem hp
    obtain ⟨t, ht, ek, a1, ea, xs, hx1, hx2⟩ := paired_at2 e3 hi
    have hm := List.mem_of_getElem? ht
    obtain ⟨v, hv, b1, rfl, ys, hy1, hy2⟩ := pair_get (G := fun t v => ∃ a, v = V.ref a ∧ RowsAt H (Lf t.1) a) g3 TO.nd hm
    refine ⟨_, by rw [ek]; exact hv, ?_⟩
    rw [ea]
    exact .inr (.inr (.inl ⟨a1, b1, xs, ys, rfl, rfl, SqL.of hx1, SqL.of hy1, rows_dq (hf t hm) hx2 hy2⟩))
theorem flatF {T : Tabs} (TO : TabsOk T) {h : List Stf} (hok : ∀ s ∈ h, StfOk T s) {Lf : Str → List Row} (hL : ∀ t ∈ T, Lists (stT t.1 h) (Lf t.1)) : FlatF T Lf := fun t ht r hr v hv => by
  have okr := st_row TO (t := t.1) (cs := t.2) ht hok (((hL t ht).2 (rk r) r).mpr ⟨hr, rfl⟩)
  obtain ⟨c, _, hc⟩ := paired_mem okr v hv
  rcases hc with ⟨_, i, rfl, _⟩ | ⟨_, z, rfl, _⟩
  · rfl
  · rfl
/-- what is due, its lists apart from two -/
def DueB (H : Hp) (q : Addr) (T : Tabs) (Lf : Str → List Row) (x : Int × Int) (c b : Addr) : Prop := ∃ a kvs, H q = some (.tup [.ref a, .int x.1, .int x.2]) ∧ H a = some (.dK kvs) ∧ TabsAt H T Lf kvs ∧ ∀ l, InSt kvs l → l ≠ c ∧ l ≠ b
theorem DueB.t {H : Hp} {q : Addr} {T : Tabs} {Lf : Str → List Row} {x : Int × Int} {c b : Addr} : DueB H q T Lf x c b → DueT H q T Lf x := fun ⟨a, kvs, h1, h2, h3, _⟩ => ⟨a, kvs, h1, h2, h3⟩
/-! ### the promises -/
def sp_l_due : Sp := fun vs H Q _ => ∃ kd T h sa kvs last many down signs Lf, vs = [.ref kd] ∧ H kd = some (.dK (kdL sa last many down signs)) ∧ TabsOk T ∧ StAt H T h sa kvs ∧ (∀ t ∈ T, Lists (stT t.1 h) (Lf t.1)) ∧ ∀ H' q, Same H H' → (∀ c b oc ob, H c = some oc → H b = some ob → DueB H' q T Lf (last, many) c b) → Q (.ref q) H'
def sp_l_come (K : PySem.W.Frag) : Sp := fun vs H Q _ => ∃ p lr lp d s T n c j torn pg Lf, vs = [.ref p, .ref s] ∧ DiskAt (DkC K) H p lr lp d ∧ SchAt (ScC K) H s T ∧ Vw T d n c j torn pg ∧ SeenL T n c pg Lf ∧
  ((j = [] ∧ torn = []) → ∀ H' q, Same H H' → DueT H' q T Lf (numsN (numsM pg T.length) n c) → Q (.ref q) H') ∧
  (¬ (j = [] ∧ torn = []) → (d.down = true → ∀ H', Same H H' → Q .non H') ∧
    (d.down = false → ∀ H' lr', Bt3 p lr lp H H' → (lr' = lr ∨ H lr' = none) → DiskAt (DkC K) H' p lr' lp (d.cutTo (logT n c [])) →
      (d.sig = none → ∀ H'' q, Same H' H'' → DueT H'' q T Lf (numsN (numsM pg T.length) n c) → Q (.ref q) H'') ∧ (d.sig ≠ none → Q .non H')))
section
variable {P : Program} {w : World} {K : PySem.W.Frag} {mg : Str → Option Value} {base : Heap} {fd : FuncData}
theorem sc_l_due : FnScope ["_law_kept_here"] ["_law_kept_here"] d_l_due.scope := ⟨rfl, rfl, rfl, by decide +kernel, rfl, by decide +kernel, by decide +kernel⟩
theorem ok_l_due (T : Tx K mg) (F : Fd K d_l_due fd) (D_l_lists : Df P w K mg base CX0 1 "_law_lists" ["_law_state"] sp_l_lists) : FnOk P w K mg base CX0 2 (He.fAd K d_l_due.at_) fd ["_law_kept_here"] sp_l_due := by
  refine ok0 F sc_l_due (fun vs H Q E h => ?_) (fun cdv A outer s H vs Q E hr h => ?_)
  · obtain ⟨_, _, _, _, _, _, _, _, _, _, rfl, _⟩ := h
    rfl
  · obtain ⟨kd, Tb, h, sa, kvs, last, many, down, signs, Lf, rfl, hkd, TO, S, hL, k⟩ := h
    have hu := hu_of hr
    refine ⟨_, (pss_one (ps_ret (pe_tup (pa_cons (pe_df D_l_lists (hr.mono (by decide)) pass0 (pa_cons (pe_dget hu (pv 0) pe_str (fun _ _ => rfl)) pa_nil)) (pa_cons (pe_dget hu (pv 0) pe_str (fun _ _ => rfl)) (pa_cons (pe_dget hu (pv 0) pe_str (fun _ _ => rfl)) pa_nil)))))), ?_⟩
    refine ⟨_, rfl, kd, _, rfl, (by rw [← kd_state]; exact DGet.k (k := Sum.inr ("state" : Str)) hkd), sa, Tb, h, kvs, Lf, rfl, TO, S, hL, fun H1 q kvs' s1 hq ht nin => ?_⟩
    refine ⟨_, rfl, kd, _, rfl, (by rw [← kd_last]; exact DGet.k (k := Sum.inr ("last" : Str)) (s1 _ _ hkd)), _, rfl, kd, _, rfl, (by rw [← kd_many]; exact DGet.k (k := Sum.inr ("many" : Str)) (s1 _ _ hkd)), (by show 3 ≤ sizeLine; decide), fun r hr2 => ?_⟩
    have sr := Same.new (o := .tup [V.ref q, .int last, .int many]) hr2
    refine k _ r (s1.trans sr) fun c b oc ob hc hb => ⟨q, kvs', upd_same, sr _ _ hq, TabsAt.same sr ht, fun l hl => ⟨fun z => ?_, fun z => ?_⟩⟩
    · subst z
      rw [nin l hl] at hc
      cases hc
    · subst z
      rw [nin l hl] at hb
      cases hb
theorem sc_l_come : FnScope ["_law_disk", "_law_schema_here", "_law_found"] ["_law_disk", "_law_schema_here"] d_l_come.scope := ⟨rfl, rfl, rfl, by decide +kernel, rfl, by decide +kernel, by decide +kernel⟩
theorem ok_l_come (T : Tx K mg) (F : Fd K d_l_come fd) (D_come_up : Df P w K mg base (L2.CX P w) 10 "come_up" ["disk", "schema"] (sp_come_up K)) : FnOk P w K mg base CX0 11 (He.fAd K d_l_come.at_) fd ["_law_disk", "_law_schema_here"] (sp_l_come K) := by
  refine ok0 F sc_l_come (fun vs H Q E h => ?_) (fun cdv A outer s H vs Q E hr h => ?_)
  · obtain ⟨_, _, _, _, _, _, _, _, _, _, _, _, rfl, _⟩ := h
    rfl
  · obtain ⟨p, lr, lp, d, s, Tb, n, c, j, torn, pg, Lf, rfl, D, S, v, hL, k1, k2⟩ := h
    refine ⟨_, (pss_cons (ps_set (i := 2) sc_l_come.nd rfl (Or.inl rfl) pe_non)
    (pss_cons (ps_try_only (Wout := fun _ _ _ _ => False) rfl rfl ⟨rfl, by decide, .inl T.g_Fell⟩ takes0 (fun W pn xe tk _ => (pss_one (ps_set (i := 2) sc_l_come.nd rfl (Or.inl rfl) (pe_dfS D_come_up (hr.mono (by decide)) (fun σ => passAt tk σ) (pa_cons (pv 0) (pa_cons (pv 1) pa_nil)))))) (fun a oe cls d pn _ _ => (pss_one (ps_set (i := 2) sc_l_come.nd rfl (Or.inl rfl) pe_non))))
    (pss_one (ps_ret (pv 2))))), ?_⟩
    refine ⟨_, rfl, _, rfl, p, lr, lp, d, s, Tb, n, c, j, torn, pg, Lf, rfl, D, S, v, hL, fun hz H' q s1 hq => ⟨_, rfl, k1 hz H' q s1 hq⟩, fun hz => ⟨fun hd H' s1 => ⟨true, T.x_Fell, fun _ a ha => ?_, fun q => nomatch q⟩, fun hd H' lr' bt hlr D' => ⟨fun hs H'' q s1 hq => ⟨_, rfl, ?_⟩, fun hs => ⟨true, T.x_Fell, fun _ a ha => ?_, fun q => nomatch q⟩⟩⟩⟩
    · exact ⟨_, rfl, (k2 hz).1 hd H' s1⟩
    · exact ((k2 hz).2 hd H' lr' bt hlr D').1 hs H'' q s1 hq
    · exact ⟨_, rfl, ((k2 hz).2 hd H' lr' bt hlr D').2 hs⟩
end
end Fl

set_option Elab.async false
set_option linter.all false
set_option maxRecDepth 100000
set_option maxHeartbeats 2000000
/-! The tail of the log. -/
namespace Fl
open PySem PySem.Spec PyProof.Rows L2
open TL (tl)
def fw (z : Str) : Str := (Txt.split z blank).headD Str.empty
theorem spl_ne (S : List Nat) : ∀ (l : List Nat) (k : Nat) (acc : List Nat), TL.spl S k acc l ≠ []
  | [], k, acc => by
    rw [TL.spl_nil]
    exact List.cons_ne_nil _ _
  | c :: r, 0, acc => by
    show (if TL.pre S (c :: r) = true then acc :: TL.spl S (S.length - 1) [] r else TL.spl S 0 (acc ++ [c]) r) ≠ []
    split
    · exact List.cons_ne_nil _ _
    · exact spl_ne S r 0 _
  | _ :: r, k + 1, acc => spl_ne S r k acc
theorem split_map (z : Str) : (Txt.split z blank).map tl = TL.spl [32] 0 [] (tl z) := by
  rw [TL.split_spl z blank (by rw [tl_blank]; exact List.cons_ne_nil _ _) (TL.kind_ok (by decide +kernel)), tl_blank]
theorem fw_at (z : Str) : (Txt.split z blank)[0]? = some (fw z) := by
  unfold fw
  cases h : Txt.split z blank with
  | nil =>
    have := split_map z
    rw [h] at this
    exact absurd this.symm (spl_ne _ _ _ _)
  | cons a r => rfl
theorem fw_row {T : Tabs} (TO : TabsOk T) {n : Int} {s : Stf} (ok : StfOk T s) (hn : 0 ≤ n ∧ n ≤ 1000000000) : fw (rowT n s) = iT n := by
  obtain ⟨w0, ws, hw⟩ : ∃ w0 ws, s.words = w0 :: ws := by
    cases s with
    | set t r => exact ⟨_, _, rfl⟩
    | cut t k => exact ⟨_, _, rfl⟩
    | keep m => exact ⟨_, _, rfl⟩
  have e1 : tl (rowT n s) = tl (iT n) ++ ([32] ++ (TL.joinL [32] ((w0 :: ws).map tl) ++ [59])) := by
    show tl (Txt.join blank (iT n :: s.words) ++ semi) = _
    rw [TL.tl_append, TL.join_eq, TL.tl_join, tl_blank, hw, tl_semi]
    show (tl (iT n) ++ ([32] ++ TL.joinL [32] ((w0 :: ws).map tl))) ++ [59] = _
    rw [List.append_assoc, List.append_assoc]
  have e2 : TL.spl [32] 0 [] (tl (rowT n s)) = tl (iT n) :: TL.spl [32] 0 [] (TL.joinL [32] ((w0 :: ws).map tl) ++ [59]) := by
    rw [e1]
    exact TL.spl_part1 (s := 32) (S := []) (acc := []) fun hc => (pl_iT n 32 hc).1 rfl
  have e3 := split_map (rowT n s)
  rw [e2] at e3
  have e4 := fw_at (rowT n s)
  have e5 : ((Txt.split (rowT n s) blank).map tl)[0]? = some (tl (fw (rowT n s))) := by
    rw [List.getElem?_map, e4]
    rfl
  rw [e3] at e5
  exact TL.ext_tl (Option.some.inj e5).symm
theorem iT_ne {m n : Nat} (h : m ≠ n) : iT (m : Int) ≠ iT (n : Int) := fun e => h (TL.numL_inj (by rw [← tl_nat, ← tl_nat, e]))
def sp_l_tail (K : PySem.W.Frag) : Sp := fun vs H Q _ => ∃ p lr lp d kd sa last many down signs T n c j torn, vs = [.ref p, .ref kd] ∧ DiskAt (DkC K) H p lr lp d ∧ H kd = some (.dK (kdL sa last many down signs)) ∧ TabsOk T ∧ d.rows = logT n (c ++ j) torn ∧ LogOk T n (c ++ j) torn ∧
  (∀ z ∈ torn, tl z ≠ []) ∧ n + (c.length : Int) = last + 1 ∧ (0 ≤ last ∧ last ≤ 1000000000) ∧ ∀ (b : Bool) H', Same H H' → (b = true ↔ ¬ (j = [] ∧ torn = [])) → Q (.bl b) H'
section
variable {P : Program} {w : World} {K : PySem.W.Frag} {mg : Str → Option Value} {base : Heap} {fd : FuncData}
theorem sc_l_tail : FnScope ["_law_disk", "_law_kept_here", "_law_numbers", "_law_text"] ["_law_disk", "_law_kept_here"] d_l_tail.scope := ⟨rfl, rfl, rfl, by decide +kernel, rfl, by decide +kernel, by decide +kernel⟩
theorem ok_l_tail (T : Tx K mg) (F : Fd K d_l_tail fd) (M_log_rows : Md P w K mg base CX0 1 (DkC K) "log_rows" ["self"] (sp_log_rows K)) : FnOk P w K mg base CX0 2 (He.fAd K d_l_tail.at_) fd ["_law_disk", "_law_kept_here"] (sp_l_tail K) := by
  refine ok0 F sc_l_tail (fun vs H Q E h => ?_) (fun cdv A outer s H vs Q E hr h => ?_)
  · obtain ⟨_, _, _, _, _, _, _, _, _, _, _, _, _, _, _, rfl, _⟩ := h
    rfl
  · obtain ⟨p, lr, lp, d, kd, sa, last, many, down, signs, Tb, n, c, j, torn, rfl, D, hkd, TO, hrows, L, tne, hlast, hl, k⟩ := h
    have hu := hu_of hr
    obtain ⟨dx, dv, hd1, _⟩ := D.ob
    have few := L.few
    refine ⟨_, (pss_cons (ps_setLc (i := 2) (own := [("_law_text", 3)]) (g := gName 3) (tt := tYes) (te := tOp (rIxL K) (tM1 (fun x xs H Q => ∃ a b, x = .str a ∧ xs = [.str b] ∧ (b.length == 0) = false ∧ a.length + 2 ≤ sizeLine ∧ rNewStrs (Txt.split a b) H Q) (tVar 3) (tC (.str " "))) (tC (.int 0))) rfl sc_l_tail.nd rfl rfl (sw_true rfl rfl rfl (by decide +kernel)) (pi_list (pe_md0 M_log_rows (hr.mono (by decide)) pass0 (pv 0))) (blkOk_by (N := ["_law_disk", "_law_kept_here", "_law_numbers", "_law_text"]) (sc := d_l_tail.scope) (by decide +kernel)) (fun _ _ _ _ _ => (pg_name (i := 3) sc_l_tail.nd rfl (Or.inl rfl))) (fun _ _ _ _ _ => pts_nil) (fun _ _ _ _ _ => (pe_ix ix_list (pe_split (pv 3) pe_str) pe_int (fun _ _ => rfl))))
    (pss_one (ps_ret (pe_and (pe_cmpR (op_neNil hr.units) (pv 2) (pe_lst pa_nil) (nomark _)) (pe_one (pe_or (pe_cmpR op_ne (pe_ix ix_list (pv 2) (pe_un un_neg pe_int) (fun _ _ => rfl)) (pe_callTy call_str_int (by rfl) T.f_str (by decide +kernel) (pa_cons (pe_dget hu (pv 1) pe_str (fun _ _ => rfl)) pa_nil)) (nomark _)) (pe_one (pe_cmpR op_ne (pe_ix ix_str (pe_ix ix_list (pe_md0 M_log_rows (hr.mono (by decide)) pass0 (pv 0)) (pe_un un_neg pe_int) (fun _ _ => rfl)) (pe_un un_neg pe_int) (fun _ _ => rfl)) pe_str (nomark _))))))))), ?_⟩
    refine ⟨_, rfl, p, dx, _, rfl, hd1, dfl_no (by decide +kernel) (by decide +kernel) (by decide +kernel) (by decide +kernel) (by decide +kernel), p, lr, lp, d, rfl, D, fun b hb => ?_⟩
    have s1 := Same.new (o := .lst (d.rows.map V.str)) hb
    have hb1 : (upd H b (.lst (d.rows.map V.str))) b = some (.lst (d.rows.map V.str)) := upd_same
    have zlen : ∀ z ∈ d.rows, z.length ≤ 1000000 := fun z hz => by
      rw [hrows] at hz
      rcases List.mem_append.mp hz with h | h
      · obtain ⟨e, he, rfl⟩ := List.mem_map.mp h
        obtain ⟨i, hi⟩ := List.getElem?_of_mem he
        rw [ents_at] at hi
        cases q : (c ++ j)[i]? with
        | none =>
          rw [q] at hi
          cases hi
        | some st =>
          rw [q] at hi
          obtain rfl := Option.some.inj hi
          have hil := (List.getElem?_eq_some_iff.mp q).1
          have lo := L.lo
          have hi := L.hi
          have := rowT_len TO (L.ok st (List.mem_of_getElem? q)) (n := n + (i : Int)) (by omega)
          show (rowT (n + (i : Int)) st).length ≤ _
          omega
      · rcases L.tn with e | ⟨z', e, _, hz'⟩
        · rw [e] at h
          cases h
        · rw [e, List.mem_singleton] at h
          rw [h]
          exact hz'
    refine ⟨b, rfl, ⟨_, SqL.of hb1⟩, fun D0 hD0 => lc_it (walk_list (xs := d.rows.map V.str)) (fun i H' => Same (upd H b (.lst (d.rows.map V.str))) H' ∧ H' D0 = some (.lst ((d.rows.take i).map fun z => V.str (fw z)))) ⟨Same.new hD0, upd_same⟩ (fun i H' _ ⟨e, _⟩ => SqL.of (e _ _ hb1)) ?_ ?_⟩
    · rintro i x H1 H2 hi ⟨s2, hD1⟩ ⟨rfl, hx⟩
      rw [List.getElem?_map] at hx
      cases q : d.rows[i]? with
      | none =>
        rw [q] at hx
        cases hx
      | some z =>
        rw [q] at hx
        obtain rfl := Option.some.inj hx
        have hz := zlen z (List.mem_of_getElem? q)
        refine ⟨rfl, tyes ?_⟩
        refine ⟨_, rfl, ⟨_, rfl⟩, z, blank, rfl, rfl, by decide +kernel, Nat.le_trans (Nat.add_le_add_right hz 2) (by decide), fun r hr2 => ?_⟩
        have sr := Same.new (o := .lst ((Txt.split z blank).map V.str)) hr2
        refine ⟨r, _, 0, _, rfl, rfl, SqL.of upd_same, (atI_nat (j := 0) (by rw [List.getElem?_map, fw_at]; rfl)), _, sr _ _ hD1, ?_, Same.mut (s2.trans sr) hD0, ?_⟩
        · rw [List.length_map, List.length_take]
          have l1 : d.rows.length ≤ 100001 := by
            rw [hrows, logT_len]
            rcases L.tn with e | ⟨z', e, _⟩
            · rw [e]
              simp only [List.length_nil]
              omega
            · rw [e]
              simp only [List.length_cons, List.length_nil]
              omega
          exact Nat.lt_of_le_of_lt (Nat.min_le_right _ _) (Nat.lt_of_le_of_lt l1 (by decide))
        · rw [take_snoc q, List.map_append]
          exact upd_same
    rintro H1 ⟨s2, hD1⟩
    rw [List.length_map, List.take_length] at hD1
    have s12 := s1.trans s2
    refine ⟨_, rfl, Nat.zero_le _, fun e he => ?_⟩
    have se := Same.new (o := .lst []) he
    refine ⟨D0, e, _, rfl, rfl, SqL.of (se _ _ hD1), SqL.of upd_same, _, rfl, ?_⟩
    have s13 := s12.trans se
    have hD3 := se _ _ hD1
    cases hr0 : d.rows with
    | nil =>
      refine if_f rfl ?_
      refine k false _ s13 ⟨fun z => (nomatch z), fun z => absurd ?_ z⟩
      have h0 : (logT n (c ++ j) torn).length = 0 := by
        rw [← hrows, hr0]
        rfl
      rw [logT_len, List.length_append] at h0
      exact ⟨List.length_eq_zero_iff.mp (by omega), List.length_eq_zero_iff.mp (by omega)⟩
    | cons a0 ar =>
      obtain ⟨i, hi⟩ : ∃ i, d.rows.length = i + 1 := ⟨ar.length, by rw [hr0]; rfl⟩
      obtain ⟨z, hz⟩ : ∃ z, d.rows[i]? = some z := ⟨_, List.getElem?_eq_getElem (by omega)⟩
      have hzl := zlen z (List.mem_of_getElem? hz)
      rw [← hr0]
      refine if_t (by rw [hr0]; rfl) ?_
      have lo := L.lo
      have hhi := L.hi
      -- what stands last
      have cl : (torn = [z] ∧ NoEnd z) ∨ (torn = [] ∧ (c ++ j).length = i + 1 ∧ ∃ st, StfOk Tb st ∧ z = rowT (n + (i : Int)) st) := by
        have hz2 := hz
        rw [hrows] at hz2
        have hlen := hi
        rw [hrows, logT_len] at hlen
        rcases L.tn with e | ⟨z', e, ne, _⟩
        · right
          rw [e] at hlen
          simp only [List.length_nil] at hlen
          obtain ⟨st, hst⟩ : ∃ st, (c ++ j)[i]? = some st := ⟨_, List.getElem?_eq_getElem (by omega)⟩
          rw [logT_at hst] at hz2
          exact ⟨e, by omega, st, L.ok st (List.mem_of_getElem? hst), (Option.some.inj hz2).symm⟩
        · left
          rw [e] at hlen
          simp only [List.length_cons, List.length_nil] at hlen
          have h1 := logT_torn hz2 (by omega)
          rw [e, show i - (c ++ j).length = 0 by omega] at h1
          cases h1
          exact ⟨e, ne⟩
      obtain ⟨lastN, hlN⟩ : ∃ lastN : Nat, last = (lastN : Int) := ⟨last.toNat, by omega⟩
      have lg : last.natAbs.log2 < 1920 := by
        have h1 : last.natAbs ≤ 1000000000 := by omega
        have h2 : last.natAbs < 2 ^ 40 := Nat.lt_of_le_of_lt h1 (by decide)
        by_cases h0 : last.natAbs = 0
        · rw [h0]
          decide
        · have := (Nat.log2_lt h0).mpr h2
          omega
      refine ⟨_, rfl, _, rfl, D0, _, -1, _, rfl, rfl, SqL.of hD3, atI_end (by rw [List.length_map]; exact hi) (by rw [List.getElem?_map, hz]; rfl), _, rfl, kd, _, rfl, (by rw [← kd_last]; exact DGet.k (k := Sum.inr ("last" : Str)) (s13 _ _ hkd)), last, rfl, lg, rfl, _, rfl, ?_⟩
      by_cases hne : V.str (fw z) = V.str (iT last)
      · refine if_f (by show (!decide (V.str (fw z) = V.str (iT last))) = false; rw [decide_eq_true hne]; rfl) ?_
        obtain ⟨dx2, dv2, hd2, _⟩ := (D.same s13).ob
        have zne : tl z ≠ [] := by
          rcases cl with ⟨e, _⟩ | ⟨_, _, st, _, rfl⟩
          · exact tne z (e ▸ List.mem_singleton.mpr rfl)
          · show tl (rowB (n + (i : Int)) st ++ semi) ≠ []
            rw [TL.tl_append, tl_semi]
            simp
        obtain ⟨m, hm⟩ : ∃ m, (tl z).length = m + 1 := ⟨(tl z).length - 1, by have := List.length_pos_iff.mpr zne; omega⟩
        obtain ⟨ch, hch⟩ : ∃ ch, (tl z)[m]? = some ch := ⟨_, List.getElem?_eq_getElem (by omega)⟩
        refine ⟨_, rfl, p, dx2, _, rfl, hd2, dfl_no (by decide +kernel) (by decide +kernel) (by decide +kernel) (by decide +kernel) (by decide +kernel), p, lr, lp, d, rfl, D.same s13, fun b2 hb2 => ?_⟩
        have s4 := Same.new (o := .lst (d.rows.map V.str)) hb2
        refine ⟨_, rfl, b2, _, -1, _, rfl, rfl, SqL.of upd_same, atI_end (by rw [List.length_map]; exact hi) (by rw [List.getElem?_map, hz]; rfl), _, rfl, z, -1, ch, rfl, rfl, sl_small hzl, atI_end (xs := tl z) hm hch, rfl, ?_⟩
        refine k _ _ (s13.trans s4) ?_
        have hl2 : (tl z).getLast? = some ch := by
          rw [List.getLast?_eq_getElem?, hm]
          exact hch
        have hc59 : (V.str ⟨#[ch]⟩ = V.str (";" : Str)) ↔ ch = 59 := by
          constructor
          · intro e
            have e2 := congrArg tl (V.str.inj e)
            have e3 : [ch] = [59] := e2.trans (by decide +kernel)
            exact (List.cons.inj e3).1
          · rintro rfl
            exact congrArg V.str (TL.ext_tl (show [59] = tl (";" : Str) by decide +kernel))
        rcases cl with ⟨e, ne⟩ | ⟨e, hcj, st, okst, rfl⟩
        · have : ¬ ch = 59 := fun h => ne (by rw [hl2, h])
          rw [decide_eq_false fun h => this (hc59.mp h)]
          refine ⟨fun _ h => ?_, fun _ => rfl⟩
          rw [e] at h
          cases h.2
        · have h59 : ch = 59 := by
            have : (tl (rowB (n + (i : Int)) st ++ semi)).getLast? = some 59 := by
              rw [TL.tl_append, tl_semi, List.getLast?_append]
              rfl
            have h2 : (tl (rowB (n + (i : Int)) st ++ semi)).getLast? = some ch := hl2
            rw [this] at h2
            exact (Option.some.inj h2).symm
          rw [decide_eq_true (hc59.mpr h59)]
          refine ⟨fun h => (nomatch h), fun h => absurd ⟨?_, e⟩ h⟩
          have hf := fw_row TO okst (n := n + (i : Int)) (by omega)
          rw [hf] at hne
          have hni : n + (i : Int) = last := by
            obtain ⟨ni, hni⟩ : ∃ ni : Nat, n + (i : Int) = (ni : Int) := ⟨(n + (i : Int)).toNat, by omega⟩
            by_cases hq : ni = lastN
            · omega
            · have := iT_ne hq
              rw [← hni, ← hlN] at this
              exact absurd (V.str.inj hne) this
          rw [List.length_append] at hcj
          exact List.length_eq_zero_iff.mp (by omega)
      · refine if_t (by show (!decide (V.str (fw z) = V.str (iT last))) = true; rw [decide_eq_false hne]; rfl) ?_
        refine k true _ s13 ⟨fun _ h => ?_, fun _ => rfl⟩
        obtain ⟨rfl, rfl⟩ := h
        rcases cl with ⟨e, _⟩ | ⟨_, hcj, st, okst, rfl⟩
        · cases e
        · have hf := fw_row TO okst (n := n + (i : Int)) (by omega)
          rw [List.append_nil] at hcj
          apply hne
          rw [hf, show n + (i : Int) = last by omega]
end
end Fl

set_option Elab.async false
set_option linter.all false
set_option maxRecDepth 100000
set_option maxHeartbeats 2000000
/-! The law's world in the heap; a page. -/
namespace Fl
open PySem PySem.Spec PyProof.Rows L2
open TL (tl)
structure WAt (K : PySem.W.Frag) (H : Hp) (p lr lp s lt kd : Addr) (T : Tabs) (d : Dk) (hist : List Stf) (sa : Addr) (kvs : List (Key × V)) (down : Bool) (signs : Int) : Prop where
  D : DiskAt (DkC K) H p lr lp d
  S : SchAt (ScC K) H s T
  lt_ : ∃ xs, H lt = some (.lst xs) ∧ Paired (TabInN H lr lp) T xs ∧ lt ≠ lr ∧ lt ≠ lp
  kd_ : H kd = some (.dK (kdL sa hist.length (keeps hist) down signs))
  st : StAt H T hist sa kvs
  ap : kd ≠ sa ∧ ¬ InSt kvs kd
/-- all but one is as it was -/
def Bx (x : Addr) (H H' : Hp) : Prop := ∀ b o, H b = some o → b ≠ x → H' b = some o
theorem Bx.ts {x : Addr} {H H' : Hp} {ks : List (Key × V)} (h : Bx x H H') (hx : H x = some (.dK ks)) : TS H H' := fun e zs he => h e _ he fun z => by
  subst z
  rw [hx] at he
  cases he
theorem DiskAt.bx {C : Addr} {H H' : Hp} {p lr lp x : Addr} {d : Dk} {ks : List (Key × V)} (D : DiskAt C H p lr lp d) (h : Bx x H H') (hx : H x = some (.dK ks)) : DiskAt C H' p lr lp d := by
  obtain ⟨dx, dv, h1, h2⟩ := D.ob
  exact ⟨⟨dx, dv, h _ _ h1 (ne_of h1 hx (by intro z; cases z)), h2.ts (h.ts hx)⟩, h _ _ D.rw (ne_of D.rw hx (by intro z; cases z)), h _ _ D.pg (ne_of D.pg hx (by intro z; cases z)), D.ne, D.n8, D.few⟩
theorem SchAt.bx {C : Addr} {H H' : Hp} {s x : Addr} {T : Tabs} {ks : List (Key × V)} (S : SchAt C H s T) (h : Bx x H H') (hx : H x = some (.dK ks)) (bad : ∃ kv ∈ ks, ∃ a ks', kv.2 = V.ref a ∧ H a = some (.dK ks')) : SchAt C H' s T := by
  obtain ⟨dx, dc, ko, kvs, h1, h2, h3⟩ := S.at_
  have ndc : dc ≠ x := fun z => by
    subst z
    rw [h2] at hx
    cases hx
    obtain ⟨kv, hkv, a, ks', e1, e2⟩ := bad
    obtain ⟨t, _, _, a', xs, e3, e4, _⟩ := paired_mem h3 kv hkv
    rw [e1] at e3
    cases e3
    rw [e2] at e4
    cases e4
  exact ⟨S.ok, dx, dc, ko, kvs, h _ _ h1 (ne_of h1 hx (by intro z; cases z)), h _ _ h2 ndc, paired_imp h3 fun _ _ => TabAt.ts (h.ts hx)⟩
theorem StAt.bad {H : Hp} {T : Tabs} {h : List Stf} {sa : Addr} {kvs : List (Key × V)} (S : StAt H T h sa kvs) (TO : TabsOk T) : ∃ kv ∈ kvs, ∃ a ks', kv.2 = V.ref a ∧ H a = some (.dK ks') := by
  have t1 : 1 ≤ List.length T := TO.len.1
  obtain ⟨t, ht⟩ : ∃ t, T[0]? = some t := ⟨_, List.getElem?_eq_getElem (by omega)⟩
  obtain ⟨kv, hkv, _, a, ks, _, _, e, _, h1, _⟩ := paired_at S.tabs ht
  exact ⟨kv, List.mem_of_getElem? hkv, a, ks, e, h1⟩
theorem StAt.bx {H H' : Hp} {T : Tabs} {h : List Stf} {sa x : Addr} {kvs ks : List (Key × V)} (S : StAt H T h sa kvs) (b : Bx x H H') (hx : H x = some (.dK ks)) (n1 : x ≠ sa) (n2 : ¬ InSt kvs x) : StAt H' T h sa kvs :=
  ⟨b _ _ S.at_ n1.symm, paired_impM S.tabs fun t _ kv hkv ⟨e, a, ks', c, cs, e1, e2, h1, h2, h3⟩ => ⟨e, a, ks', c, cs, e1, e2, b _ _ h1 (fun z => n2 (List.mem_map.mpr ⟨kv, hkv, z ▸ e1⟩)), h2, h3.ts (b.ts hx)⟩, S.nd, S.ne⟩
/-- what is kept in the heap of the state -/
theorem StAt.keep {H H' : Hp} {T : Tabs} {h : List Stf} {sa : Addr} {kvs : List (Key × V)} (S : StAt H T h sa kvs) (k : ∀ b ks, H b = some (.dK ks) → H' b = some (.dK ks)) (ts : TS H H') : StAt H' T h sa kvs :=
  ⟨k _ _ S.at_, paired_imp S.tabs fun t kv ⟨e, a, ks', c, cs, e1, e2, h1, h2, h3⟩ => ⟨e, a, ks', c, cs, e1, e2, k _ _ h1, h2, h3.ts ts⟩, S.nd, S.ne⟩
section
variable {K : PySem.W.Frag} {H H' : Hp} {p lr lp lr' s lt kd sa : Addr} {T : Tabs} {d d' : Dk} {hist : List Stf} {kvs : List (Key × V)} {down : Bool} {signs : Int}
theorem WAt.bt3 (W : WAt K H p lr lp s lt kd T d hist sa kvs down signs) (b : Bt3 p lr lp H H') (hl : lr' = lr ∨ H lr' = none) (D' : DiskAt (DkC K) H' p lr' lp d') : WAt K H' p lr' lp s lt kd T d' hist sa kvs down signs := by
  obtain ⟨dx, dv, h1, _⟩ := W.D.ob
  have ts := W.D.ts b
  have kk : ∀ x ks, H x = some (.dK ks) → H' x = some (.dK ks) := fun x ks hx => b _ _ hx (ne_of hx h1 (by intro z; cases z)) (ne_of hx W.D.rw (by intro z; cases z)) (ne_of hx W.D.pg (by intro z; cases z))
  have nl : ∀ x o, H x = some o → x ≠ lr → x ≠ lr' := fun x o hx hne z => by
    subst z
    rcases hl with e | e
    · exact hne e
    · rw [hx] at e
      cases e
  obtain ⟨xs, hxs, hp, n1, n2⟩ := W.lt_
  refine ⟨D', SchAt.bt3 W.D b W.S, ⟨xs, b _ _ hxs (ne_of hxs h1 (by intro z; cases z)) n1 n2, paired_imp hp fun t x ⟨q, l, ys, e, g1, g2, g3, g4, g5⟩ => ⟨q, l, ys, e, ts _ _ g1, b _ _ g2 (ne_of g2 h1 (by intro z; cases z)) g4 g5, paired_imp g3 fun _ _ => ColAt.ts ts, nl _ _ g2 g4, g5⟩, nl _ _ hxs n1, n2⟩, kk _ _ W.kd_, W.st.keep kk ts, W.ap⟩
theorem WAt.same (W : WAt K H p lr lp s lt kd T d hist sa kvs down signs) (k : Same H H') : WAt K H' p lr lp s lt kd T d hist sa kvs down signs := W.bt3 k.bt3 (.inl rfl) (W.D.same k)
theorem WAt.tabs (W : WAt K H p lr lp s lt kd T d hist sa kvs down signs) : ∃ xs, H lt = some (.lst xs) ∧ Paired (TabIn H) T xs := by
  obtain ⟨xs, hxs, hp, _⟩ := W.lt_
  exact ⟨xs, hxs, paired_imp hp fun t x ⟨q, l, ys, e, g1, g2, g3, _, _⟩ => ⟨q, l, ys, e, g1, g2, g3⟩⟩
/-- the dict of what was kept is written -/
theorem WAt.put {hist' : List Stf} {sa' : Addr} {kvs' : List (Key × V)} {down' : Bool} {signs' : Int} (W : WAt K H p lr lp s lt kd T d hist sa kvs down signs) (S' : StAt H T hist' sa' kvs') (a1 : kd ≠ sa') (a2 : ¬ InSt kvs' kd) :
    WAt K (upd H kd (.dK (kdL sa' hist'.length (keeps hist') down' signs'))) p lr lp s lt kd T d hist' sa' kvs' down' signs' := by
  have b : Bx kd H (upd H kd (.dK (kdL sa' hist'.length (keeps hist') down' signs'))) := fun x o hx hne => by
    rw [upd_ne hne]
    exact hx
  have ts := b.ts W.kd_
  obtain ⟨xs, hxs, hp, n1, n2⟩ := W.lt_
  refine ⟨W.D.bx b W.kd_, W.S.bx b W.kd_ ⟨_, List.mem_cons_self, sa, kvs, rfl, W.st.at_⟩, ⟨xs, b _ _ hxs (ne_of hxs W.kd_ (by intro z; cases z)), paired_imp hp fun t x ⟨q, l, ys, e, g1, g2, g3, g4, g5⟩ => ⟨q, l, ys, e, ts _ _ g1, b _ _ g2 (ne_of g2 W.kd_ (by intro z; cases z)), paired_imp g3 fun _ _ => ColAt.ts ts, g4, g5⟩, n1, n2⟩, upd_same, S'.bx b W.kd_ a1 a2, a1, a2⟩
end
/-- all but the disk's objects and the dict of what was kept -/
def Kw (p lr lp kd : Addr) (H H' : Hp) : Prop := ∀ b o, H b = some o → b ≠ p → b ≠ lr → b ≠ lp → b ≠ kd → H' b = some o
theorem Kw.trans {p lr lp kd : Addr} {H H1 H2 : Hp} (a : Kw p lr lp kd H H1) (b : Kw p lr lp kd H1 H2) : Kw p lr lp kd H H2 := fun c o h h1 h2 h3 h4 => b c o (a c o h h1 h2 h3 h4) h1 h2 h3 h4
theorem _root_.L2.Same.kw {p lr lp kd : Addr} {H H' : Hp} (h : Same H H') : Kw p lr lp kd H H' := fun b o e _ _ _ _ => h b o e
theorem Bt3.kw {p lr lp kd : Addr} {H H' : Hp} (h : Bt3 p lr lp H H') : Kw p lr lp kd H H' := fun b o e h1 h2 h3 _ => h b o e h1 h2 h3
theorem Kw.put {p lr lp kd : Addr} {H H' : Hp} {o : HO} (h : Kw p lr lp kd H H') : Kw p lr lp kd H (upd H' kd o) := fun b u e h1 h2 h3 h4 => by
  rw [upd_ne h4]
  exact h b u e h1 h2 h3 h4
/-- the world: the heap, the disk, what was kept -/
structure Wo (K : PySem.W.Frag) (H : Hp) (p lr lp s lt kd : Addr) (T : Tabs) (m : Nat) (down : Bool) (d : Dk) (hist : List Stf) (f : Nat) (j : List Stf) (torn : List Str) (pg : Nat → Option Pg) (sa : Addr) (kvs : List (Key × V)) (signs : Int) : Prop where
  W : WAt K H p lr lp s lt kd T d hist sa kvs down signs
  M : Wd T hist d f j torn pg
  dn : d.down = down
  cl : down = false → j = [] ∧ torn = []
  due : ∀ a g, d.due = some (a, g) → g = signs ∧ 0 ≤ g
  few : hist.length ≤ m
def World (K : PySem.W.Frag) (H : Hp) (p lr lp s lt kd : Addr) (T : Tabs) (m : Nat) (down : Bool) : Prop := ∃ d hist f j torn pg sa kvs signs, Wo K H p lr lp s lt kd T m down d hist f j torn pg sa kvs signs
theorem come_due {d : Dk} {signs : Int} (h : ∀ a g, d.due = some (a, g) → g = signs ∧ 0 ≤ g) : (∀ a g, d.come.due = some (a, g) → g = signs ∧ 0 ≤ g) ∧ (∀ g, d.sig = some g → g = signs ∧ 0 ≤ g) ∧ (d.sig = none → d.come.down = d.down) ∧ (d.sig ≠ none → d.come.down = true) := by
  unfold Dk.come Dk.sig
  cases hd : d.due with
  | none => exact ⟨fun a g e => (by cases e), fun g e => (by cases e), fun _ => rfl, fun e => absurd rfl e⟩
  | some x =>
    obtain ⟨a, g⟩ := x
    have h0 := h a g hd
    simp only
    by_cases ha : 0 < a
    · rw [if_pos ha, if_pos ha]
      exact ⟨fun a' g' e => (by cases e; exact h0), fun g e => (by cases e), fun _ => rfl, fun e => absurd rfl e⟩
    · rw [if_neg ha, if_neg ha]
      exact ⟨fun a' g' e => (by cases e), fun g' e => (by cases e; exact h0), fun e => (by cases e), fun _ => rfl⟩
end Fl

set_option Elab.async false
set_option linter.all false
set_option maxRecDepth 100000
set_option maxHeartbeats 2000000
/-! The law's page. -/
namespace Fl
open PySem PySem.Spec PyProof.Rows L2
open TL (tl)
/-- the page that comes of a text -/
def gotP (d : Dk) (t : Str) (g : Pg) : Option Pg := match d.sig with
  | none => some g
  | some s => if s < ((pageT t g).length : Int) then none else some g
theorem newM_cov {k f : Nat} {o0 o1 : Option Pg} {x : Option Pg} {g : Pg} (hx : x = none ∨ x = some g) (hg : f ≤ g.last) (h : f ≤ (newM k o0 o1).2.last) :
    f ≤ (newM k (if tgtM k o0 o1 = 2 * k then x else o0) (if tgtM k o0 o1 = 2 * k + 1 then x else o1)).2.last := by
  have n1 : ¬ 2 * k + 1 = 2 * k := by omega
  have n2 : ¬ 2 * k = 2 * k + 1 := by omega
  have i1 : ¬ (some (2 * k + 1) : Option Nat) = some (2 * k) := fun z => n1 (Option.some.inj z)
  cases o0 with
  | none =>
    cases o1 with
    | none =>
      have e : tgtM k none none = 2 * k := by
        unfold tgtM newM
        simp only
        rw [if_neg fun z => by cases z]
      rw [e, if_pos rfl, if_neg n2]
      rcases hx with rfl | rfl
      · exact h
      · exact hg
    | some g1 =>
      have e : tgtM k none (some g1) = 2 * k := by
        unfold tgtM newM
        simp only
        rw [if_neg i1]
      rw [e, if_pos rfl, if_neg n2]
      rcases hx with rfl | rfl
      · exact h
      · unfold newM
        simp only
        split
        · exact h
        · exact hg
  | some g0 =>
    cases o1 with
    | none =>
      have e : tgtM k (some g0) none = 2 * k + 1 := by
        unfold tgtM newM
        simp only [if_true]
      rw [e, if_neg n1, if_pos rfl]
      rcases hx with rfl | rfl
      · exact h
      · unfold newM
        simp only
        split
        · exact hg
        · exact h
    | some g1 =>
      by_cases hlt : g0.last < g1.last
      · have en : newM k (some g0) (some g1) = (some (2 * k + 1), g1) := by
          unfold newM
          simp only
          rw [if_pos hlt]
        have e : tgtM k (some g0) (some g1) = 2 * k := by
          unfold tgtM
          rw [en, if_neg i1]
        rw [en] at h
        rw [e, if_pos rfl, if_neg n2]
        rcases hx with rfl | rfl
        · exact h
        · unfold newM
          simp only
          split
          · exact h
          · exact hg
      · have en : newM k (some g0) (some g1) = (some (2 * k), g0) := by
          unfold newM
          simp only
          rw [if_neg hlt]
        have e : tgtM k (some g0) (some g1) = 2 * k + 1 := by
          unfold tgtM
          rw [en, if_pos rfl]
        rw [en] at h
        rw [e, if_neg n1, if_pos rfl]
        rcases hx with rfl | rfl
        · exact h
        · unfold newM
          simp only
          split
          · exact hg
          · exact h
theorem putPage_eq (d : Dk) (i : Nat) (z : Str) : (d.putPage i z).rows = d.rows ∧ (d.putPage i z).due = d.come.due ∧ (d.putPage i z).down = d.come.down ∧ (d.putPage i z).pages = d.pages.set i (match d.sig with | none => z | some s => cutS z none (some s)) := by
  unfold Dk.putPage
  cases d.sig with
  | none => exact ⟨(come_pages d).2, rfl, rfl, rfl⟩
  | some s => exact ⟨(come_pages d).2, rfl, rfl, rfl⟩
theorem cutS_len (z : Str) (s : Int) : (cutS z none (some s)).length ≤ z.length := by
  rw [len_tl, len_tl, tl_cut, List.length_take, List.length_drop]
  omega
theorem Wd.page {T : Tabs} (TO : TabsOk T) {hist : List Stf} {d : Dk} {f : Nat} {pg : Nat → Option Pg} (M : Wd T hist d f [] [] pg) {k : Nat} {t : Str} {cs : Cols} (hk : T[k]? = some (t, cs)) {L : List Row} (hL : Lists (stT t hist) L) (G : PgOk cs ⟨hist.length, keeps hist, L⟩) (hs : ∀ g, d.sig = some g → 0 ≤ g) :
    ∃ pg', Wd T hist (d.putPage (tgtM k (pg (2 * k)) (pg (2 * k + 1))) (pageT t ⟨hist.length, keeps hist, L⟩)) f [] [] pg' := by
  obtain ⟨e1, e2, e3, e4⟩ := putPage_eq d (tgtM k (pg (2 * k)) (pg (2 * k + 1))) (pageT t ⟨hist.length, keeps hist, L⟩)
  have hm := List.mem_of_getElem? hk
  have tgt : tgtM k (pg (2 * k)) (pg (2 * k + 1)) = 2 * k ∨ tgtM k (pg (2 * k)) (pg (2 * k + 1)) = 2 * k + 1 := by
    unfold tgtM
    split
    · exact .inr rfl
    · exact .inl rfl
  have gx : gotP d t ⟨hist.length, keeps hist, L⟩ = none ∨ gotP d t ⟨hist.length, keeps hist, L⟩ = some ⟨hist.length, keeps hist, L⟩ := by
    unfold gotP
    split
    · exact .inr rfl
    · split
      · exact .inl rfl
      · exact .inr rfl
  have hPg : PgH t hist ⟨hist.length, keeps hist, L⟩ := ⟨Nat.le_refl _, by show keeps hist = keeps (hist.take hist.length); rw [List.take_length], by show Lists (stT t (hist.take hist.length)) L; rw [List.take_length]; exact hL⟩
  generalize htg : tgtM k (pg (2 * k)) (pg (2 * k + 1)) = tg at *
  have plen := pageT_len TO hm G
  have slot : tg < d.pages.length := by
    obtain ⟨⟨z0, h0, _⟩, ⟨z1, h1, _⟩⟩ := M.vw.slots k t cs hk
    rcases tgt with e | e
    · rw [e]
      exact (List.getElem?_eq_some_iff.mp h0).1
    · rw [e]
      exact (List.getElem?_eq_some_iff.mp h1).1
  -- what stands in the slot that is written
  have wr : SlotOk t cs (d.putPage tg (pageT t ⟨hist.length, keeps hist, L⟩)).pages tg (gotP d t ⟨hist.length, keeps hist, L⟩) := by
    refine ⟨_, by rw [e4]; exact List.getElem?_set_self slot, ?_, ?_⟩
    · cases hsg : d.sig with
      | none => exact (by show (pageT t _).length ≤ _; omega)
      | some s =>
        have := cutS_len (pageT t ⟨hist.length, keeps hist, L⟩) s
        show (cutS (pageT t ⟨hist.length, keeps hist, L⟩) none (some s)).length ≤ _
        omega
    · unfold gotP
      cases hsg : d.sig with
      | none => exact ⟨rfl, G⟩
      | some s =>
        have s0 := hs s hsg
        obtain ⟨n, rfl⟩ : ∃ n : Nat, s = (n : Int) := ⟨s.toNat, by omega⟩
        have cs := cut_short (b := pageB t ⟨hist.length, keeps hist, L⟩) (page_59 TO hm G) n
        simp only
        by_cases hlt : (n : Int) < ((pageT t ⟨hist.length, keeps hist, L⟩).length : Int)
        · rw [if_pos hlt]
          exact cs.1 (Int.ofNat_lt.mp hlt)
        · rw [if_neg hlt]
          exact ⟨cs.2 (by have : (pageT t ⟨hist.length, keeps hist, L⟩).length ≤ n := by omega
                          exact this), G⟩
  have oth : ∀ {t' : Str} {cs' : Cols} {i : Nat} {o : Option Pg}, i ≠ tg → SlotOk t' cs' d.pages i o → SlotOk t' cs' (d.putPage tg (pageT t ⟨hist.length, keeps hist, L⟩)).pages i o := fun hne ⟨z, h1, h2⟩ => ⟨z, by rw [e4, List.getElem?_set_ne hne.symm]; exact h1, h2⟩
  have same : ∀ {k' : Nat} {t' : Str} {cs' : Cols}, T[k']? = some (t', cs') → k' = k → t' = t ∧ cs' = cs := fun h e => by
    subst e
    rw [hk] at h
    cases h
    exact ⟨rfl, rfl⟩
  refine ⟨fun i => if i = tg then gotP d t ⟨hist.length, keeps hist, L⟩ else pg i, ⟨by rw [e1]; exact M.vw.rows, M.vw.log, M.vw.ke, M.vw.nk, fun k' t' cs' h => ?_⟩, M.fl, M.hok, M.ke, M.kn, fun k' t' cs' h g hg => ?_, fun k' t' cs' h => ?_, M.tne⟩
  · obtain ⟨S0, S1⟩ := M.vw.slots k' t' cs' h
    constructor
    · by_cases e : 2 * k' = tg
      · obtain ⟨rfl, rfl⟩ := same h (by omega)
        show SlotOk _ _ _ _ (if 2 * k' = tg then _ else _)
        rw [if_pos e, e]
        exact wr
      · show SlotOk _ _ _ _ (if 2 * k' = tg then _ else _)
        rw [if_neg e]
        exact oth e S0
    · by_cases e : 2 * k' + 1 = tg
      · obtain ⟨rfl, rfl⟩ := same h (by omega)
        show SlotOk _ _ _ _ (if 2 * k' + 1 = tg then _ else _)
        rw [if_pos e, e]
        exact wr
      · show SlotOk _ _ _ _ (if 2 * k' + 1 = tg then _ else _)
        rw [if_neg e]
        exact oth e S1
  · have old := M.pgs k' t' cs' h g
    have new : ∀ i, (i = 2 * k' ∨ i = 2 * k' + 1) → (if i = tg then gotP d t ⟨hist.length, keeps hist, L⟩ else pg i) = some g → pg i = some g ∨ PgH t' hist g := fun i hi hgi => by
      by_cases e : i = tg
      · rw [if_pos e] at hgi
        obtain ⟨rfl, rfl⟩ := same h (by omega)
        rcases gx with e' | e'
        · rw [e'] at hgi
          cases hgi
        · rw [e'] at hgi
          cases hgi
          exact .inr hPg
      · rw [if_neg e] at hgi
        exact .inl hgi
    rcases hg with hg | hg
    · rcases new _ (.inl rfl) hg with h1 | h1
      · exact old (.inl h1)
      · exact h1
    · rcases new _ (.inr rfl) hg with h1 | h1
      · exact old (.inr h1)
      · exact h1
  · have c0 := M.cov k' t' cs' h
    by_cases e : k' = k
    · subst e
      have := newM_cov (k := k') (o0 := pg (2 * k')) (o1 := pg (2 * k' + 1)) (f := f) gx (show f ≤ hist.length from M.fl) c0
      rw [htg] at this
      have q : (newP (fun i => if i = tg then gotP d t ⟨hist.length, keeps hist, L⟩ else pg i) k') = newM k' (if tg = 2 * k' then gotP d t ⟨hist.length, keeps hist, L⟩ else pg (2 * k')) (if tg = 2 * k' + 1 then gotP d t ⟨hist.length, keeps hist, L⟩ else pg (2 * k' + 1)) := by
        unfold newP
        simp only [eq_comm]
      rw [q]
      exact this
    · have q : (newP (fun i => if i = tg then gotP d t ⟨hist.length, keeps hist, L⟩ else pg i) k') = newP pg k' := by
        unfold newP
        show newM k' (if 2 * k' = tg then _ else _) (if 2 * k' + 1 = tg then _ else _) = _
        rw [if_neg (by omega), if_neg (by omega)]
      rw [q]
      exact c0
end Fl

set_option Elab.async false
set_option linter.all false
set_option maxRecDepth 100000
set_option maxHeartbeats 2000000
/-! The law's page, the law's trim. -/
namespace Fl
open PySem PySem.Spec PyProof.Rows L2
open TL (tl)
def sp_l_paged (K : PySem.W.Frag) : Sp := fun vs H Q _ => ∃ p lr lp s lt kd T m dr ns, vs = [.ref p, .ref s, .ref lt, .ref kd, .ref dr] ∧ World K H p lr lp s lt kd T m false ∧ NumsAt H ns dr ∧ ns.length = 6 ∧ m ≤ 1000 ∧ ∀ H' down, Kw p lr lp kd H H' → World K H' p lr lp s lt kd T m down → Q .non H'
theorem ents_drop : ∀ (n : Int) (ss : List Stf) (k : Nat), (ents n ss).drop k = ents (n + (k : Int)) (ss.drop k)
  | n, ss, 0 => by
    rw [List.drop_zero, List.drop_zero, show n + ((0 : Nat) : Int) = n by omega]
  | n, [], k + 1 => by
    rw [List.drop_nil]
    rfl
  | n, s :: r, k + 1 => by
    show (ents (n + 1) r).drop k = ents _ (r.drop k)
    rw [ents_drop (n + 1) r k, show n + 1 + (k : Int) = n + ((k + 1 : Nat) : Int) by omega]
theorem keepEnd_drop {h : List Stf} (k : KeepEnd h) (n : Nat) : KeepEnd (h.drop n) := by
  rcases k with rfl | ⟨h0, m, rfl⟩
  · rw [List.drop_nil]
    exact .inl rfl
  · by_cases hn : n ≤ h0.length
    · rw [List.drop_append_of_le_length hn]
      exact .inr ⟨_, m, rfl⟩
    · rw [List.drop_eq_nil_of_le (by rw [List.length_append]; simp only [List.length_cons, List.length_nil]; omega)]
      exact .inl rfl
theorem cutTo_eq (d : Dk) (rows : List Str) : ((d.cutTo rows).rows = rows ∨ (d.cutTo rows).rows = d.rows) ∧ (d.cutTo rows).due = d.come.due ∧ (d.cutTo rows).down = d.come.down ∧ (d.cutTo rows).writes = d.come.writes := by
  unfold Dk.cutTo
  split
  · exact ⟨.inl rfl, rfl, rfl, rfl⟩
  · split
    · exact ⟨.inl rfl, rfl, rfl, rfl⟩
    · exact ⟨.inr (come_pages d).2, rfl, rfl, rfl⟩
theorem come_writes (d : Dk) : d.come.writes = d.writes + 1 := by
  unfold Dk.come
  split
  · rfl
  · split
    · rfl
    · rfl
theorem Wd.trim {T : Tabs} {hist : List Stf} {d : Dk} {f : Nat} {pg : Nat → Option Pg} (M : Wd T hist d f [] [] pg) {l0 : Nat} (h1 : f ≤ l0) (h2 : l0 ≤ hist.length) (hmin : ∀ k t cs, T[k]? = some (t, cs) → l0 ≤ (newP pg k).2.last) :
    ∃ f', Wd T hist (d.cutTo (d.rows.drop (l0 - f))) f' [] [] pg := by
  have slots : ∀ k t cs, T[k]? = some (t, cs) → SlotOk t cs (d.cutTo (d.rows.drop (l0 - f))).pages (2 * k) (pg (2 * k)) ∧ SlotOk t cs (d.cutTo (d.rows.drop (l0 - f))).pages (2 * k + 1) (pg (2 * k + 1)) := fun k t cs h => by
    rw [cutTo_pages]
    exact M.vw.slots k t cs h
  rcases (cutTo_eq d (d.rows.drop (l0 - f))).1 with e | e
  · refine ⟨l0, ⟨?_, ⟨fun s hs => M.hok s (List.mem_of_mem_drop (by rw [List.append_nil] at hs; exact hs)), by omega, ?_, .inl rfl, ?_⟩, keepEnd_drop M.ke l0, M.vw.nk, slots⟩, h2, M.hok, M.ke, M.kn, M.pgs, hmin, M.tne⟩
    · rw [e, M.vw.rows]
      unfold logT
      rw [List.append_nil, List.append_nil, List.append_nil, List.append_nil, ← List.map_drop, ents_drop, List.drop_drop, show f + (l0 - f) = l0 by omega, show ((f : Int) + 1) + ((l0 - f : Nat) : Int) = (l0 : Int) + 1 by omega]
    · have := M.vw.log.hi
      rw [List.append_nil, List.length_drop] at this ⊢
      omega
    · have := M.vw.log.few
      rw [List.append_nil, List.length_drop] at this ⊢
      omega
  · exact ⟨f, ⟨by rw [e]; exact M.vw.rows, M.vw.log, M.vw.ke, M.vw.nk, slots⟩, M.fl, M.hok, M.ke, M.kn, M.pgs, M.cov, M.tne⟩
def sp_l_trimmed (K : PySem.W.Frag) : Sp := fun vs H Q _ => ∃ p lr lp s lt kd T m, vs = [.ref p, .ref s, .ref kd] ∧ World K H p lr lp s lt kd T m false ∧ m ≤ 1000 ∧ ∀ H' lr' down, Kw p lr lp kd H H' → (lr' = lr ∨ H lr' = none) → World K H' p lr' lp s lt kd T m down → Q (.bl true) H'
section
variable {P : Program} {w : PySem.World} {K : PySem.W.Frag} {mg : Str → Option Value} {base : Heap} {fd : FuncData}
theorem sc_l_paged : FnScope ["_law_disk", "_law_schema_here", "_law_tables", "_law_kept_here", "_law_draws_here", "_law_name", "_law_rows"] ["_law_disk", "_law_schema_here", "_law_tables", "_law_kept_here", "_law_draws_here"] d_l_paged.scope := ⟨rfl, rfl, rfl, by decide +kernel, rfl, by decide +kernel, by decide +kernel⟩
theorem ok_l_paged (T : Tx K mg) (F : Fd K d_l_paged fd) (D_l_lists : Df P w K mg base CX0 1 "_law_lists" ["_law_state"] sp_l_lists) (D_late_page : Df P w K mg base (L2.CX P w) 7 "late_page" ["disk", "schema", "table", "last", "many", "rows"] (sp_late_page K)) :
    FnOk P w K mg base CX0 8 (He.fAd K d_l_paged.at_) fd ["_law_disk", "_law_schema_here", "_law_tables", "_law_kept_here", "_law_draws_here"] (sp_l_paged K) := by
  refine ok0 F sc_l_paged (fun vs H Q E h => ?_) (fun cdv A outer s H vs Q E hr h => ?_)
  · obtain ⟨_, _, _, _, _, _, _, _, _, _, rfl, _⟩ := h
    rfl
  · obtain ⟨p, lr, lp, s, lt, kd, Tb, m, dr, ns, rfl, ⟨d, hist, f, j, torn, pg, sa, kvs, signs, O⟩, ⟨hdr, hnn⟩, hl, hm, k⟩ := h
    have hu := hu_of hr
    obtain ⟨rfl, rfl⟩ := O.cl rfl
    have W := O.W
    have TO := W.S.ok
    obtain ⟨Lf, hL⟩ := lists_fn TO O.M.hok
    have l31 := W.st.short TO hL
    obtain ⟨xs, hxs, hpx⟩ := W.tabs
    have lx := paired_len hpx
    have t1 : 1 ≤ List.length Tb := TO.len.1
    obtain ⟨n1, hn1⟩ : ∃ n, ns[1]? = some n := ⟨_, List.getElem?_eq_getElem (by omega)⟩
    obtain ⟨i, hi⟩ : ∃ i : Nat, n1 % (xs.length : Int) = (i : Int) := ⟨(n1 % (xs.length : Int)).toNat, by have := Int.emod_nonneg n1 (show (xs.length : Int) ≠ 0 by omega); omega⟩
    have hil : i < xs.length := by
      have := Int.emod_lt_of_pos n1 (show (0 : Int) < (xs.length : Int) by omega)
      omega
    obtain ⟨x, hx⟩ : ∃ x, xs[i]? = some x := ⟨_, List.getElem?_eq_getElem hil⟩
    obtain ⟨tc, htc, q, l, ys, rfl, hq, hly, hpc⟩ := paired_at2 hpx hx
    obtain ⟨t, cs⟩ := tc
    have hmt := List.mem_of_getElem? htc
    have hLt := hL _ hmt
    refine ⟨_, (pss_cons (ps_set (i := 5) sc_l_paged.nd rfl (Or.inl rfl) (pe_ix ix_tup (pe_ix ix_list (pv 2) (pe_op op_mod (pe_ix ix_list (pv 4) pe_int (fun _ _ => rfl)) (pe_callB call_len_seq (by rfl) T.f_len PySem.boot_len (pa_cons (pv 2) pa_nil))) (fun _ _ => rfl)) pe_int (fun _ _ => rfl)))
    (pss_cons (ps_set (i := 6) sc_l_paged.nd rfl (Or.inl rfl) (pe_dget hu (pe_df D_l_lists (hr.mono (by decide)) pass0 (pa_cons (pe_dget hu (pv 3) pe_str (fun _ _ => rfl)) pa_nil)) (pv 5) (fun _ _ => rfl)))
    (pss_one (ps_try_only (Wout := fun _ _ _ _ => False) rfl rfl ⟨rfl, by decide, .inl T.g_Fell⟩ takes0 (fun W pn xe tk _ => (pss_one (ps_expr (pe_dfS D_late_page (hr.mono (by decide)) (fun σ => passAt tk σ) (pa_cons (pv 0) (pa_cons (pv 1) (pa_cons (pv 5) (pa_cons (pe_dget hu (pv 3) pe_str (fun _ _ => rfl)) (pa_cons (pe_dget hu (pv 3) pe_str (fun _ _ => rfl)) (pa_cons (pv 6) pa_nil)))))))))) (fun a oe cls d pn _ _ => (pss_one (ps_dput hu (pv 3) pe_str pe_bl rfl))))))), ?_⟩
    refine ⟨_, rfl, _, rfl, dr, _, _, _, rfl, rfl, SqL.of hdr, nums_at hn1 rfl, _, rfl, lt, _, rfl, .inl (SqL.of hxs), _, _, rfl, rfl, (show (0 : Int) < (xs.length : Int) by omega), lt, _, _, _, rfl, rfl, SqL.of hxs, (show atI xs (n1 % (xs.length : Int)) = some (.ref q) by rw [hi]; exact atI_nat hx), q, _, 0, _, rfl, rfl, SqT.of hq, at0, ?_⟩
    refine ⟨_, rfl, kd, _, rfl, (by rw [← kd_state]; exact DGet.k (k := Sum.inr ("state" : Str)) W.kd_), sa, Tb, hist, kvs, Lf, rfl, TO, W.st, hL, fun H1 q1 kvs1 s1 hq1 ht1 _ => ?_⟩
    obtain ⟨v, hv, l1, rfl, hrows⟩ := pair_get (G := fun t v => ∃ a, v = V.ref a ∧ RowsAt H1 (Lf t.1) a) ht1 TO.nd hmt
    refine ⟨_, rfl, q1, _, rfl, (by rw [← hv]; exact DGet.k (k := Sum.inr t) hq1), ?_⟩
    have W1 := W.same s1
    have kn := keeps_nn hist
    have few := O.few
    have G : PgOk cs ⟨hist.length, keeps hist, Lf t⟩ := ⟨by show hist.length ≤ 1000000000; omega, ⟨kn.1, by show keeps hist ≤ 1000000000; omega⟩, by show (Lf t).length ≤ 60; have h31 : (Lf t).length ≤ 31 := l31 _ hmt; omega, fun r hr2 => st_row TO hmt O.M.hok ((hLt.2 (rk r) r).mpr ⟨hr2, rfl⟩), hLt.1⟩
    obtain ⟨S0, S1⟩ := O.M.vw.slots i t cs htc
    obtain ⟨cd1, cd2, cd3, cd4⟩ := come_due O.due
    obtain ⟨pg', M'⟩ := O.M.page TO htc hLt G fun g hg => (cd2 g hg).2
    obtain ⟨pe1, pe2, pe3, pe4⟩ := putPage_eq d (tgtM i (pg (2 * i)) (pg (2 * i + 1))) (pageT t ⟨hist.length, keeps hist, Lf t⟩)
    refine ⟨_, rfl, _, rfl, _, rfl, _, rfl, kd, _, rfl, (by rw [← kd_last]; exact DGet.k (k := Sum.inr ("last" : Str)) W1.kd_), _, rfl, kd, _, rfl, (by rw [← kd_many]; exact DGet.k (k := Sum.inr ("many" : Str)) W1.kd_), _, rfl, ?_⟩
    refine ⟨p, lr, lp, d, s, Tb, i, t, cs, pg (2 * i), pg (2 * i + 1), ⟨hist.length, keeps hist, Lf t⟩, l1, rfl, W1.D, W1.S, htc, S0, S1, G, hrows, fun hd => ?_, fun hd H2 bt D2 => ⟨fun hs => ?_, fun hs => ⟨true, T.x_Fell, fun _ a ha => ?_, fun q => nomatch q⟩⟩⟩
    · rw [O.dn] at hd
      cases hd
    · refine k H2 false (s1.bt3.trans bt).kw ⟨_, hist, f, [], [], pg', sa, kvs, signs, W1.bt3 bt (.inl rfl) D2, M', ?_, fun _ => ⟨rfl, rfl⟩, ?_, few⟩
      · rw [pe3, cd3 hs]
        exact O.dn
      · rw [pe2]
        exact cd1
    · have W2 := W1.bt3 bt (.inl rfl) D2
      refine ⟨_, rfl, kd, _, rfl, .inl ⟨_, Sum.inr ("down" : Str), W2.kd_, rfl, (by show 5 < sizeLine; decide), rfl⟩, ?_⟩
      rw [kd_put_down]
      refine k _ true (Kw.put (s1.bt3.trans bt).kw) ⟨_, hist, f, [], [], pg', sa, kvs, signs, W2.put W2.st W2.ap.1 W2.ap.2, M', ?_, fun z => (nomatch z), ?_, few⟩
      · rw [pe3]
        exact cd4 hs
      · rw [pe2]
        exact cd1
theorem sc_l_trimmed : FnScope ["_law_disk", "_law_schema_here", "_law_kept_here", "_law_least", "_law_name", "_law_due_here", "_law_writes", "_law_many"] ["_law_disk", "_law_schema_here", "_law_kept_here"] d_l_trimmed.scope := ⟨rfl, rfl, rfl, by decide +kernel, rfl, by decide +kernel, by decide +kernel⟩
theorem ok_l_trimmed (T : Tx K mg) (fb : mg "bool" = none) (F : Fd K d_l_trimmed fd) (D_newest : Df P w K mg base CX0 6 "newest" ["disk", "schema", "table"] (sp_newest K)) (D_trim_log : Df P w K mg base (L2.CX P w) 7 "trim_log" ["disk", "schema"] (sp_trim_log K))
    (M_log_rows : Md P w K mg base CX0 1 (DkC K) "log_rows" ["self"] (sp_log_rows K)) (M_writes : Md P w K mg base CX0 1 (DkC K) "writes" ["self"] (sp_writes K)) :
    FnOk P w K mg base CX0 8 (He.fAd K d_l_trimmed.at_) fd ["_law_disk", "_law_schema_here", "_law_kept_here"] (sp_l_trimmed K) := by
  refine ok0 F sc_l_trimmed (fun vs H Q E h => ?_) (fun cdv A outer s H vs Q E hr h => ?_)
  · obtain ⟨_, _, _, _, _, _, _, _, rfl, _⟩ := h
    rfl
  · obtain ⟨p, lr, lp, s, lt, kd, Tb, m, rfl, ⟨d, hist, f, j, torn, pg, sa, kvs, signs, O⟩, hm, k⟩ := h
    have hu := hu_of hr
    obtain ⟨rfl, rfl⟩ := O.cl rfl
    have W := O.W
    have M := O.M
    have TO := W.S.ok
    have T4 : List.length Tb ≤ 4 := TO.len.2
    have T1 : 1 ≤ List.length Tb := TO.len.1
    have few := O.few
    have lk := paired_len W.st.tabs
    have bx : ∀ od, Bx sa H (upd H sa (.frz od (.dK kvs))) := fun od b o hb hne => by
      rw [upd_ne hne]
      exact hb
    refine ⟨_, (pss_cons (ps_set (i := 3) sc_l_trimmed.nd rfl (Or.inl rfl) (pe_callB (cr_min rfl) (by rfl) T.f_min (by decide +kernel) (pa_cons (pe_lock (pe_lc (own := [("_law_name", 4)]) (g := gName 4) (tt := tYes) (te := tOp (rIxT K) (tCall (sp_newest K) [] E0 (tCons (tVar 0) (tCons (tVar 1) (tCons (tVar 4) tNil)))) (tC (.int 1))) rfl sc_l_trimmed.nd (pi_keys (pe_dget hu (pv 2) pe_str (fun _ _ => rfl))) (blkOk_by (N := ["_law_disk", "_law_schema_here", "_law_kept_here", "_law_least", "_law_name", "_law_due_here", "_law_writes", "_law_many"]) (sc := d_l_trimmed.scope) (by decide +kernel)) (fun _ _ _ _ _ => (pg_name (i := 4) sc_l_trimmed.nd rfl (Or.inl rfl))) (fun _ _ _ _ _ => pts_nil) (fun _ _ _ _ _ => (pe_ix ix_tup (pe_df D_newest (hr.mono (by decide)) pass0 (pa_cons (pv 0) (pa_cons (pv 1) (pa_cons (pv 4) pa_nil)))) pe_int (fun _ _ => rfl))))) pa_nil)))
    (pss_cons (ps_set (i := 5) sc_l_trimmed.nd rfl (Or.inl rfl) (pe_callB (call_max2 rfl) (by rfl) T.f_max (by decide +kernel) (pa_cons pe_int (pa_cons (pe_op op_sub (pe_callB call_len_seq (by rfl) T.f_len PySem.boot_len (pa_cons (pe_md0 M_log_rows (hr.mono (by decide)) pass0 (pv 0)) pa_nil)) (pe_op op_sub (pe_dget hu (pv 2) pe_str (fun _ _ => rfl)) (pv 3))) pa_nil))))
    (pss_cons (ps_set (i := 6) sc_l_trimmed.nd rfl (Or.inl rfl) (pe_md0 M_writes (hr.mono (by decide)) pass0 (pv 0)))
    (pss_cons (ps_set (i := 7) sc_l_trimmed.nd rfl (Or.inl rfl) (pv 5))
    (pss_cons (ps_try_only (Wout := fun _ _ _ _ => False) rfl rfl ⟨rfl, by decide, .inl T.g_Fell⟩ takes0 (fun W pn xe tk _ => (pss_one (ps_set (i := 7) sc_l_trimmed.nd rfl (Or.inl rfl) (pe_dfS D_trim_log (hr.mono (by decide)) (fun σ => passAt tk σ) (pa_cons (pv 0) (pa_cons (pv 1) pa_nil)))))) (fun a oe cls d pn _ _ => (pss_one (ps_dput hu (pv 2) pe_str pe_bl rfl))))
    (pss_one (ps_ret (pe_and (pe_cmpR op_eq (pv 7) (pv 5) (nomark _)) (pe_and (pe_not (pe_callB call_isi (by rfl) T.f_isinstance (by decide +kernel) (pa_cons (pv 7) (pa_cons (pe_bltn (v := .ty "bool") (by rfl) fb (by decide +kernel) rfl) pa_nil)))) (pe_one (pe_cmpR op_eq (pe_md0 M_writes (hr.mono (by decide)) pass0 (pv 0)) (pe_op op_add (pv 6) (pe_callTy call_int1 (by rfl) T.f_int (by decide +kernel) (pa_cons (pe_cmpR op_gt (pv 5) pe_int (nomark _)) pa_nil))) (nomark _)))))))))))), ?_⟩
    refine ⟨sa, .dK kvs, W.st.at_, trivial, fun od => ?_⟩
    have Dl := W.D.bx (bx od) W.st.at_
    have Sl := W.S.bx (bx od) W.st.at_ (W.st.bad TO)
    have kdl := bx od _ _ W.kd_ W.ap.1
    refine ⟨_, rfl, kd, _, rfl, (by rw [← kd_state]; exact DGet.k (k := Sum.inr ("state" : Str)) kdl), sa, od, rfl, .inl ⟨kvs, upd_same, fun D0 hD0 => lc_it walk_keys (fun i H' => Same (upd H sa (.frz od (.dK kvs))) H' ∧ H' D0 = some (.lst (((List.range i).map fun k => ((newP pg k).2.last : Int)).map V.int)))
      ⟨Same.new hD0, upd_same⟩ (fun i H' _ ⟨e, _⟩ => e _ _ upd_same) ?_ ?_⟩⟩
    · rintro i x H1 H2 hi ⟨s2, hD2⟩ ⟨rfl, ky, v0, hkv, rfl⟩
      obtain ⟨tc, ht, ek, _⟩ := paired_at2 W.st.tabs hkv
      obtain ⟨t, cs⟩ := tc
      replace ek : ky = Sum.inr t := ek
      subst ek
      obtain ⟨hS0, hS1⟩ := M.vw.slots i t cs ht
      refine ⟨rfl, tyes ?_⟩
      refine ⟨_, rfl, _, rfl, _, rfl, p, lr, lp, d, s, Tb, i, t, cs, pg (2 * i), pg (2 * i + 1), rfl, Dl.same s2, Sl.same s2, ht, hS0, hS1, fun H3 q3 s3 ⟨l, hq3, _⟩ => ?_⟩
      refine ⟨q3, _, 1, _, rfl, rfl, SqT.of hq3, at1, _, s3 _ _ hD2, ?_, ?_⟩
      · rw [List.length_map, List.length_map, List.length_range]
        have : i < 4 := by
          have := (List.getElem?_eq_some_iff.mp ht).1
          have e : List.length Tb = Tb.length := rfl
          omega
        exact small1000 (by omega)
      · refine ⟨Same.mut (s2.trans s3) hD0, ?_⟩
        rw [upd_same, List.range_succ, List.map_append, List.map_append]
        rfl
    rintro H1 ⟨s1, hD1⟩
    have hlk := s1 _ _ (upd_same (H := H) (a := sa) (o := .frz od (.dK kvs)))
    refine ⟨hlk, ?_⟩
    have sU := same_unlock W.st.at_ s1
    have hDu : (upd H1 sa (.dK kvs)) D0 = some (.lst (((List.range kvs.length).map fun k => ((newP pg k).2.last : Int)).map V.int)) := by
      rw [upd_ne fun z => by subst z; rw [hlk] at hD1; cases hD1]
      exact hD1
    obtain ⟨H2, hH2⟩ : ∃ H2, H2 = upd H1 sa (.dK kvs) := ⟨_, rfl⟩
    rw [← hH2] at sU hDu ⊢
    refine ⟨D0, _, rfl, SqL.of hDu, ?_, fun l0 hl0 hmin => ?_⟩
    · rw [List.length_map, List.length_range]
      omega
    obtain ⟨k0, hk0, e0⟩ := List.mem_map.mp hl0
    have hk0' := List.mem_range.mp hk0
    obtain ⟨ln, hln⟩ : ∃ ln : Nat, l0 = (ln : Int) := ⟨(newP pg k0).2.last, e0.symm⟩
    have lmin : ∀ k, k < Tb.length → ln ≤ (newP pg k).2.last := fun k hk => by
      have := hmin _ (List.mem_map.mpr ⟨k, List.mem_range.mpr (by omega), rfl⟩)
      omega
    obtain ⟨tc0, htc0⟩ : ∃ tc, Tb[k0]? = some tc := ⟨_, List.getElem?_eq_getElem (by omega)⟩
    have fl0 : f ≤ ln := by
      have := M.cov k0 tc0.1 tc0.2 htc0
      omega
    have lh : ln ≤ hist.length := by
      have := (M.newH (t := tc0.1) (cs := tc0.2) htc0).1
      omega
    have n1 : (f : Int) + 1 = (f : Int) + 1 := rfl
    have W2 := W.same sU
    obtain ⟨dx, dv, hd1, _⟩ := W2.D.ob
    refine ⟨_, rfl, p, dx, _, rfl, hd1, dfl_no (by decide +kernel) (by decide +kernel) (by decide +kernel) (by decide +kernel) (by decide +kernel), p, lr, lp, d, rfl, W2.D, fun b hb => ?_⟩
    have s3 := Same.new (o := .lst (d.rows.map V.str)) hb
    have W3 := W2.same s3
    refine ⟨b, _, rfl, .inl (SqL.of upd_same), _, rfl, kd, _, rfl, (by rw [← kd_last]; exact DGet.k (k := Sum.inr ("last" : Str)) W3.kd_), _, rfl, _, _, rfl, rfl, _, _, rfl, rfl, 0, _, rfl, ?_⟩
    have lrows : (d.rows.map V.str).length = hist.length - f := by
      rw [List.length_map, M.vw.rows, logT_len, List.append_nil, List.length_drop]
      rfl
    have ed : (if ((d.rows.map V.str).length : Int) - ((hist.length : Int) - l0) > 0 then ((d.rows.map V.str).length : Int) - ((hist.length : Int) - l0) else 0) = ((ln - f : Nat) : Int) := by
      have := M.fl
      rw [lrows]
      split <;> omega
    have ed' : (fun i j => V.int (i - j)) = fun (i j : Int) => V.int (i - j) := rfl
    generalize hm0 : ln - f = m0 at ed
    have mm : (V.int (if ((d.rows.map V.str).length : Int) - ((hist.length : Int) - l0) > 0 then ((d.rows.map V.str).length : Int) - ((hist.length : Int) - l0) else 0)) = V.int (m0 : Int) := by rw [ed]
    show gName 5 (V.int (if ((d.rows.map V.str).length : Int) - ((hist.length : Int) - l0) > 0 then ((d.rows.map V.str).length : Int) - ((hist.length : Int) - l0) else 0)) _ _ _
    rw [mm]
    obtain ⟨H3, hH3⟩ : ∃ H3, H3 = upd H2 b (.lst (d.rows.map V.str)) := ⟨_, rfl⟩
    rw [← hH3] at s3 W3 ⊢
    have s13 := sU.trans s3
    obtain ⟨dx3, dv3, hd3, _⟩ := W3.D.ob
    refine ⟨_, rfl, p, dx3, _, rfl, hd3, dfl_no (by decide +kernel) (by decide +kernel) (by decide +kernel) (by decide +kernel) (by decide +kernel), p, lr, lp, d, rfl, W3.D, ?_⟩
    refine ⟨_, rfl, ?_⟩
    obtain ⟨cd1, cd2, cd3, cd4⟩ := come_due O.due
    obtain ⟨f', M'⟩ := M.trim fl0 lh fun k t cs h => lmin k (List.getElem?_eq_some_iff.mp h).1
    rw [hm0] at M'
    obtain ⟨_, ce2, ce3, ce4⟩ := cutTo_eq d (d.rows.drop m0)
    have RET : ∀ (H4 : Hp) (lr4 : Addr) (d4 : Dk), DiskAt (DkC K) H4 p lr4 lp d4 → d4.writes = d.writes + (if 0 < m0 then 1 else 0) → Q (.bl true) H4 →
        (tRet (tAndV (tOp rEq (tVar 7) (tVar 5)) (tAndV (tNotV (tCB (rIsi K) (tCons (tVar 7) (tCons (tC (.ty "bool")) tNil)))) (tOp rEq (tMeth (DkC K) "writes" (sp_writes K) [] E0 (tVar 0) tNil) (tOp (rI0 fun i j => .int (i + j)) (tVar 6) (tCB (fun xs H Q => (∃ i, xs = [.int i] ∧ Q (.int i) H) ∨ ∃ k, xs = [.bl k] ∧ Q (.int (if k then 1 else 0)) H) (tCons (tOp (rI0 fun i j => .bl (decide (i > j))) (tVar 5) (tC (.int 0))) tNil)))))) : L2.TS)
          { nx := fun _ H' => Q .non H', rt := Q } [some (.ref p), some (.ref s), some (.ref kd), some (.int l0), none, some (.int (m0 : Int)), some (.int d.writes), some (.int (m0 : Int))] H4 := fun H4 lr4 d4 D4 hw hq => by
      obtain ⟨dx4, dv4, hd4, _⟩ := D4.ob
      refine ⟨_, rfl, _, rfl, rfl, _, rfl, if_t (decide_eq_true rfl) ?_⟩
      refine ⟨_, rfl, _, _, _, _, false, rfl, .ty _, .base (.int _), kit_ty (by decide +kernel), false, rfl, true, rfl, if_t rfl ?_⟩
      refine ⟨_, rfl, p, dx4, _, rfl, hd4, dfl_no (by decide +kernel) (by decide +kernel) (by decide +kernel) (by decide +kernel) (by decide +kernel), p, lr4, lp, d4, rfl, D4, ?_⟩
      refine ⟨_, rfl, _, rfl, _, _, rfl, rfl, .inr ⟨_, rfl, _, _, rfl, rfl, rfl, ?_⟩⟩
      have e : (V.int d4.writes = V.int (d.writes + (if decide ((m0 : Int) > 0) = true then 1 else 0))) := by
        rw [hw]
        congr 2
        by_cases h0 : 0 < m0
        · rw [if_pos h0, if_pos (decide_eq_true (by omega))]
        · rw [if_neg h0, if_neg (by rw [decide_eq_true_iff]; omega)]
      show Q (.bl (decide (V.int d4.writes = V.int (d.writes + (if decide ((m0 : Int) > 0) = true then 1 else 0))))) H4
      rw [decide_eq_true e]
      exact hq
    refine ⟨_, rfl, _, rfl, p, lr, lp, d, s, Tb, (f : Int) + 1, hist.drop f, [], [], pg, m0, rfl, W3.D, W3.S, M.vw, ?_, fun l1 hl1 hl1min i hi => ?_, fun hz H4 s4 => ?_, fun hpos => ⟨fun hd => ?_, fun hd H4 lr' bt hlr D4 => ⟨fun hs => ?_, fun hs => ⟨true, T.x_Fell, fun _ a ha => ?_, fun q => nomatch q⟩⟩⟩⟩
    · rw [List.append_nil, List.length_drop]
      omega
    · obtain ⟨k1, hk1, rfl⟩ := hl1
      have h1 := lmin k1 hk1
      have h2 := hl1min k0 (by omega)
      omega
    · have W4 := W3.same s4
      subst hz
      refine RET H4 lr d W4.D ?_ ?_
      · rw [if_neg (by omega)]
        omega
      · exact k H4 lr false (s13.trans s4).kw (.inl rfl) ⟨d, hist, f, [], [], pg, sa, kvs, signs, W4, M, O.dn, fun _ => ⟨rfl, rfl⟩, O.due, few⟩
    · rw [O.dn] at hd
      cases hd
    · have W4 := W3.bt3 bt hlr D4
      refine RET H4 lr' _ W4.D ?_ ?_
      · rw [ce4, come_writes, if_pos hpos]
      · refine k H4 lr' false (s13.bt3.trans bt).kw (hlr.imp id fun z => s13.free z) ⟨_, hist, f', [], [], pg, sa, kvs, signs, W4, M', ?_, fun _ => ⟨rfl, rfl⟩, ?_, few⟩
        · rw [ce3, cd3 hs]
          exact O.dn
        · rw [ce2]
          exact cd1
    · have W4 := W3.bt3 bt hlr D4
      refine ⟨_, rfl, kd, _, rfl, .inl ⟨_, Sum.inr ("down" : Str), W4.kd_, rfl, (by show 5 < sizeLine; decide), rfl⟩, ?_⟩
      rw [kd_put_down]
      have W5 := W4.put (down' := true) (signs' := signs) W4.st W4.ap.1 W4.ap.2
      refine RET _ lr' _ W5.D ?_ ?_
      · rw [ce4, come_writes, if_pos hpos]
      · refine k _ lr' true (Kw.put (s13.bt3.trans bt).kw) (hlr.imp id fun z => s13.free z) ⟨_, hist, f', [], [], pg, sa, kvs, signs, W5, M', ?_, fun z => (nomatch z), ?_, few⟩
        · rw [ce3]
          exact cd4 hs
        · rw [ce2]
          exact cd1
end
end Fl

set_option Elab.async false
set_option linter.all false
set_option maxRecDepth 100000
set_option maxHeartbeats 4000000
/-! The law keeps. -/
namespace Fl
open PySem PySem.Spec PyProof.Rows L2
open TL (tl)
theorem upd2 {H : Hp} {a : Addr} {x y : HO} : upd (upd H a x) a y = upd H a y := funext fun b => by
  by_cases e : b = a
  · subst e
    rw [upd_same, upd_same]
  · rw [upd_ne e, upd_ne e, upd_ne e]
theorem StAt.keepS {H : Hp} {T : Tabs} {h : List Stf} {sa : Addr} {kvs : List (Key × V)} (S : StAt H T h sa kvs) (m : Int) : StAt H T (h ++ [Stf.keep m]) sa kvs :=
  ⟨S.at_, paired_imp S.tabs fun t kv ⟨e, h1⟩ => ⟨e, by rw [show stT t.1 (h ++ [Stf.keep m]) = stT t.1 h from runT_snoc t.1 h _ _]; exact h1⟩, S.nd, S.ne⟩
theorem logT_snoc (n : Int) (c : List Stf) (s : Stf) : logT n (c ++ [s]) [] = logT n c [] ++ [rowT (n + (c.length : Int)) s] := by
  unfold logT
  rw [List.append_nil, List.append_nil, ents_app, List.map_append]
  rfl
/-- one more was kept -/
theorem Wd.more {T : Tabs} {hist : List Stf} {d d' : Dk} {f : Nat} {pg : Nat → Option Pg} (M : Wd T hist d f [] [] pg) {ss : List Stf} (hss : ∀ s ∈ ss, StfOk T s ∧ s.isKeep = false) (few : hist.length + ss.length + 1 ≤ 10000)
    (hr : d'.rows = logT ((f : Int) + 1) (hist.drop f ++ (ss ++ [Stf.keep (keeps hist + 1)])) []) (hp : d'.pages = d.pages) : Wd T (hist ++ (ss ++ [Stf.keep (keeps hist + 1)])) d' f [] [] pg := by
  have fl := M.fl
  have ed : (hist ++ (ss ++ [Stf.keep (keeps hist + 1)])).drop f = hist.drop f ++ (ss ++ [Stf.keep (keeps hist + 1)]) := List.drop_append_of_le_length fl
  have kn := keeps_nn hist
  have ke : KeepEnd (hist ++ (ss ++ [Stf.keep (keeps hist + 1)])) := .inr ⟨hist ++ ss, _, by rw [List.append_assoc]⟩
  have hok : ∀ s ∈ hist ++ (ss ++ [Stf.keep (keeps hist + 1)]), StfOk T s := fun s hs => by
    rcases List.mem_append.mp hs with h | h
    · exact M.hok s h
    · rcases List.mem_append.mp h with h | h
      · exact (hss s h).1
      · rw [List.mem_singleton.mp h]
        exact ⟨by omega, by omega⟩
  refine ⟨⟨by rw [ed, List.append_nil]; exact hr, ⟨fun s hs => hok s (List.mem_of_mem_drop (by rw [List.append_nil] at hs; exact hs)), by omega, ?_, .inl rfl, ?_⟩, keepEnd_drop ke f, fun _ h => absurd h (List.not_mem_nil), fun k t cs h => by rw [hp]; exact M.vw.slots k t cs h⟩, ?_, hok, ke, ?_, fun k t cs h g hg => (M.pgs k t cs h g hg).app _, M.cov, fun _ h => absurd h (List.not_mem_nil)⟩
  · rw [List.append_nil, List.length_drop, List.length_append, List.length_append]
    simp only [List.length_cons, List.length_nil]
    omega
  · rw [List.append_nil, List.length_drop, List.length_append, List.length_append]
    simp only [List.length_cons, List.length_nil]
    omega
  · rw [List.length_append]
    omega
  · intro h0 m h1 e
    have a1 : (hist ++ (ss ++ [Stf.keep (keeps hist + 1)]))[h0.length]? = some (.keep m) := by
      rw [e, List.getElem?_append_right (Nat.le_refl _), Nat.sub_self]
      rfl
    have a2 : (hist ++ (ss ++ [Stf.keep (keeps hist + 1)])).take h0.length = h0 := by
      rw [e, List.take_left]
    by_cases hlt : h0.length < hist.length
    · rw [List.getElem?_append_left hlt] at a1
      rw [List.take_append_of_le_length (Nat.le_of_lt hlt)] at a2
      obtain ⟨hl, ex⟩ := List.getElem?_eq_some_iff.mp a1
      have := M.kn (hist.take h0.length) m (hist.drop (h0.length + 1)) (by
        rw [← ex, ← List.drop_eq_getElem_cons hl, List.take_append_drop])
      rw [a2] at this
      exact this
    · rw [List.getElem?_append_right (by omega)] at a1
      by_cases hlt2 : h0.length - hist.length < ss.length
      · rw [List.getElem?_append_left hlt2] at a1
        have := (hss _ (List.mem_of_getElem? a1)).2
        cases this
      · rw [List.getElem?_append_right (by omega)] at a1
        have hz : h0.length - hist.length - ss.length = 0 := by
          have := (List.getElem?_eq_some_iff.mp a1).1
          simp only [List.length_cons, List.length_nil] at this
          omega
        rw [hz] at a1
        cases a1
        have e3 : h0 = hist ++ ss := by
          rw [← a2, ← List.append_assoc, show h0.length = (hist ++ ss).length by rw [List.length_append]; omega, List.take_left]
        rw [e3, keeps_app, keeps_none fun s hs => (hss s hs).2]
        omega
/-- what was not kept -/
theorem Wd.junk {T : Tabs} {hist : List Stf} {d d' : Dk} {f : Nat} {pg : Nat → Option Pg} (M : Wd T hist d f [] [] pg) {j : List Stf} {torn : List Str} (hj : ∀ s ∈ j, StfOk T s ∧ s.isKeep = false) (few : hist.length + j.length ≤ 10000) (ht : torn = [] ∨ ∃ z, torn = [z] ∧ NoEnd z ∧ z.length ≤ 1000000 ∧ tl z ≠ [])
    (hr : d'.rows = logT ((f : Int) + 1) (hist.drop f ++ j) torn) (hp : d'.pages = d.pages) : Wd T hist d' f j torn pg := by
  have fl := M.fl
  refine ⟨⟨hr, ⟨fun s hs => ?_, by omega, ?_, ht.imp id fun ⟨z, e, h1, h2, _⟩ => ⟨z, e, h1, h2⟩, ?_⟩, M.vw.ke, fun s hs => (hj s hs).2, fun k t cs h => by rw [hp]; exact M.vw.slots k t cs h⟩, fl, M.hok, M.ke, M.kn, M.pgs, M.cov, fun z hz => ?_⟩
  · rcases List.mem_append.mp hs with h | h
    · exact M.hok s (List.mem_of_mem_drop h)
    · exact (hj s h).1
  · rw [List.length_append, List.length_drop]
    omega
  · rw [List.length_append, List.length_drop]
    omega
  · rcases ht with e | ⟨z', e, _, _, h⟩
    · rw [e] at hz
      cases hz
    · rw [e, List.mem_singleton] at hz
      rw [hz]
      exact h
theorem addRow_eq (d : Dk) (z : Str) : (d.addRow z).pages = d.pages ∧ (d.addRow z).due = d.come.due ∧ (d.addRow z).down = d.come.down ∧ (d.sig = none → (d.addRow z).rows = d.rows ++ [z]) ∧
    (∀ s, d.sig = some s → (cutS z none (some s) = Str.empty ∧ (d.addRow z).rows = d.rows) ∨ (cutS z none (some s) ≠ Str.empty ∧ (d.addRow z).rows = d.rows ++ [cutS z none (some s)])) := by
  unfold Dk.addRow
  cases hs : d.sig with
  | none => exact ⟨(come_pages d).1, rfl, rfl, fun _ => rfl, fun s e => (by cases e)⟩
  | some s =>
    simp only
    by_cases e : cutS z none (some s) = Str.empty
    · rw [if_pos e]
      exact ⟨(come_pages d).1, rfl, rfl, fun z => (by cases z), fun s' e' => (by cases e'; exact .inl ⟨e, (come_pages d).2⟩)⟩
    · rw [if_neg e]
      exact ⟨(come_pages d).1, rfl, rfl, fun z => (by cases z), fun s' e' => (by cases e'; exact .inr ⟨e, rfl⟩)⟩
end Fl

set_option Elab.async false
set_option linter.all false
set_option maxRecDepth 100000
set_option maxHeartbeats 4000000
/-! The law keeps: the walk. -/
namespace Fl
open PySem PySem.Spec PyProof.Rows L2
open TL (tl)
def sp_l_kept (K : PySem.W.Frag) : Sp := fun vs H Q _ => ∃ p lr lp s lt kd T m dr ns, vs = [.ref p, .ref lt, .ref kd, .ref dr] ∧ World K H p lr lp s lt kd T m false ∧ NumsAt H ns dr ∧ ns.length = 6 ∧ m ≤ 1000 ∧ ∀ H' down, Kw p lr lp kd H H' → World K H' p lr lp s lt kd T (m + 4) down → Q .non H'
theorem Kw.bt3 {p lr lp kd : Addr} {H H1 H2 : Hp} (a : Kw p lr lp kd H H1) (b : Bt3 p lr lp H1 H2) : Kw p lr lp kd H H2 := a.trans b.kw
theorem stf_k {H : Hp} {s : Stf} {v : V} {H' : Hp} (k : TS H H') (h : StfAt H s v) : StfAt H' s v := h.ts k
section
variable {P : Program} {w : PySem.World} {K : PySem.W.Frag} {mg : Str → Option Value} {base : Heap} {fd : FuncData}
theorem sc_l_kept : FnScope ["_law_disk", "_law_tables", "_law_kept_here", "_law_draws_here", "_law_state", "_law_number", "_law_stuffs", "_law_k", "_law_stuff_here", "_law_text"] ["_law_disk", "_law_tables", "_law_kept_here", "_law_draws_here"] d_l_kept.scope := ⟨rfl, rfl, rfl, by decide +kernel, rfl, by decide +kernel, by decide +kernel⟩
theorem ok_l_kept (T : Tx K mg) (F : Fd K d_l_kept fd) (D_l_copy : Df P w K mg base CX0 1 "_law_copy" ["_law_state"] sp_l_copy) (D_l_stuff : Df P w K mg base CX0 5 "_law_stuff" ["_law_tables", "_law_state", "_law_draws_here"] sp_l_stuff)
    (D_l_draws : Df P w K mg base CX0 1 "_law_draws" ["_law_cell_here", "_law_many"] sp_l_draws) (D_l_done : Df P w K mg base CX0 1 "_law_done" ["_law_state", "_law_stuff_here"] sp_l_done) (D_row_text : Df P w K mg base CX0 2 "row_text" ["number", "stuff"] sp_row_text)
    (M_add_row : Md P w K mg base (L2.CX P w) 2 (DkC K) "add_row" ["self", "text"] (sp_add_row K)) :
    FnOk P w K mg base CX0 6 (He.fAd K d_l_kept.at_) fd ["_law_disk", "_law_tables", "_law_kept_here", "_law_draws_here"] (sp_l_kept K) := by
  refine ok0 F sc_l_kept (fun vs H Q E h => ?_) (fun cdv A outer s H vs Q E hr h => ?_)
  · obtain ⟨_, _, _, _, _, _, _, _, _, _, rfl, _⟩ := h
    rfl
  · obtain ⟨p, lr, lp, s, lt, kd, Tb, m, dr, ns, rfl, ⟨d, hist, f, j, torn, pg, sa, kvs, signs, O⟩, ⟨hdr, hnn⟩, hl, hm, k⟩ := h
    have hu := hu_of hr
    obtain ⟨rfl, rfl⟩ := O.cl rfl
    have W := O.W
    have M := O.M
    have TO := W.S.ok
    have few := O.few
    obtain ⟨n0, hn0⟩ : ∃ n, ns[0]? = some n := ⟨_, List.getElem?_eq_getElem (by omega)⟩
    obtain ⟨n1, hn1⟩ : ∃ n, ns[1]? = some n := ⟨_, List.getElem?_eq_getElem (by omega)⟩
    obtain ⟨xlt, hlt, hpx⟩ := W.tabs
    refine ⟨_, (pss_cons (ps_set (i := 4) sc_l_kept.nd rfl (Or.inl rfl) (pe_df D_l_copy (hr.mono (by decide)) pass0 (pa_cons (pe_dget hu (pv 2) pe_str (fun _ _ => rfl)) pa_nil)))
    (pss_cons (ps_set (i := 5) sc_l_kept.nd rfl (Or.inl rfl) (pe_dget hu (pv 2) pe_str (fun _ _ => rfl)))
    (pss_cons (ps_set (i := 6) sc_l_kept.nd rfl (Or.inl rfl) (pe_lst pa_nil))
    (pss_cons (ps_for PassesOwn.never rfl (pi_range1 rfl T.f_range (pa_cons (pe_op op_add pe_int (pe_op op_mod (pe_ix ix_list (pv 3) pe_int (fun _ _ => rfl)) pe_int)) pa_nil)) (pg_name (i := 7) sc_l_kept.nd rfl (Or.inl rfl)) (pss_cons (ps_set (i := 8) sc_l_kept.nd rfl (Or.inl rfl) (pe_df D_l_stuff (hr.mono (by decide)) pass0 (pa_cons (pv 1) (pa_cons (pv 4) (pa_cons (pe_df D_l_draws (hr.mono (by decide)) pass0 (pa_cons (pe_op op_add (pe_ix ix_list (pv 3) pe_int (fun _ _ => rfl)) (pv 7)) (pa_cons pe_int pa_nil))) pa_nil)))))
    (pss_cons (ps_expr (pe_df D_l_done (hr.mono (by decide)) pass0 (pa_cons (pv 4) (pa_cons (pv 8) pa_nil))))
    (pss_one (ps_expr (pe_bm PySem.F.plainAttrs_list PySem.F.slot_list_append PySem.F.type_list_append mt_append (pv 6) (pa_cons (pv 8) pa_nil)))))))
    (pss_cons (ps_expr (pe_bm PySem.F.plainAttrs_list PySem.F.slot_list_append PySem.F.type_list_append mt_append (pv 6) (pa_cons (pe_tup (pa_cons pe_str (pa_cons (pe_op op_add (pe_dget hu (pv 2) pe_str (fun _ _ => rfl)) pe_int) pa_nil))) pa_nil)))
    (pss_cons (ps_for PassesOwn.never rfl (pi_enum (by rfl) T.f_enumerate (pa_cons (pv 6) pa_nil)) (pg_tup rfl (pgs_cons (pg_name (i := 7) sc_l_kept.nd rfl (Or.inl rfl)) (pgs_cons (pg_name (i := 8) sc_l_kept.nd rfl (Or.inl rfl)) pgs_nil))) (pss_cons (ps_set (i := 5) sc_l_kept.nd rfl (Or.inl rfl) (pe_op op_add (pv 5) pe_int))
    (pss_cons (ps_set (i := 9) sc_l_kept.nd rfl (Or.inl rfl) (pe_df D_row_text (hr.mono (by decide)) pass0 (pa_cons (pv 5) (pa_cons (pv 8) pa_nil))))
    (pss_one (ps_try_only (tb := (fun W => tDrop (tMethW (DkC K) "add_row" (sp_add_row K) (WE W) (tVar 0) (tCons (tVar 9) tNil)))) (ts := (fun _ _ _ => tSeq (sDPut (tVar 2) (tC (.str "down")) (tC (.bl true))) (tIfS (tOr (tTest (tOp (rI0 fun i j => .bl (decide (i < j))) (tOp (rI0 fun i j => .int (i + j)) (tVar 7) (tC (.int 1))) (tCB (fun xs H Q => ∃ p ys, xs = [.ref p] ∧ (SqL K H p ys ∨ SqT K H p ys) ∧ Q (.int ys.length) H) (tCons (tVar 6) tNil)))) (tTest (tOp (rI0 fun i j => .bl (decide (i < j))) (tDGet (tVar 2) (tC (.str "signs"))) (tCB (fun xs H Q => ∃ z, xs = [.str z] ∧ z.length ≤ sizeLine ∧ Q (.int z.length) H) (tCons (tVar 9) tNil))))) tRetN tNext))) (Wout := fun _ _ _ _ => False) rfl rfl ⟨rfl, by decide, .inl T.g_Fell⟩ takes0 (fun W pn xe tk _ => (pss_one (ps_expr (pe_mdS M_add_row (hr.mono (by decide)) (fun σ => passAt tk σ) (pv 0) (pa_cons (pv 9) pa_nil))))) (fun a oe cls d pn _ _ => (pss_cons (ps_dput hu (pv 2) pe_str pe_bl rfl)
    (pss_one (ps_if (PW.pt (pw_or (pt_cmpR op_lt (pe_op op_add (pv 7) pe_int) (pe_callB call_len_seq (by rfl) T.f_len PySem.boot_len (pa_cons (pv 6) pa_nil)) (nomark _)) (pw_or1 (pt_cmpR op_lt (pe_dget hu (pv 2) pe_str (fun _ _ => rfl)) (pe_callB call_len_str (by rfl) T.f_len PySem.boot_len (pa_cons (pv 9) pa_nil)) (nomark _))))) (pss_one ps_retN) pss_nil)))))))))
    (pss_cons (ps_dput hu (pv 2) pe_str (pv 4) rfl)
    (pss_cons (ps_dput hu (pv 2) pe_str (pv 5) rfl)
    (pss_one (ps_dput hu (pv 2) pe_str (pe_op op_add (pe_dget hu (pv 2) pe_str (fun _ _ => rfl)) pe_int) rfl)))))))))), ?_⟩
    refine ⟨_, rfl, kd, _, rfl, (by rw [← kd_state]; exact DGet.k (k := Sum.inr ("state" : Str)) W.kd_), sa, Tb, hist, kvs, rfl, TO, W.st, fun H1 sb kvb s1 nsb nin Sb => ?_⟩
    refine ⟨_, rfl, kd, _, rfl, (by rw [← kd_last]; exact DGet.k (k := Sum.inr ("last" : Str)) (s1 _ _ W.kd_)), ?_⟩
    refine ⟨Nat.zero_le _, fun sl hsl => ?_⟩
    have s2 := s1.trans (Same.new (o := .lst []) hsl)
    have nsl : H sl = none := s1.free hsl
    refine ⟨_, rfl, dr, _, _, _, rfl, rfl, SqL.of (s2 _ _ hdr), nums_at hn0 rfl, _, _, rfl, rfl, (show (0 : Int) < 3 by decide), _, _, rfl, rfl, ?_⟩
    obtain ⟨N, hN⟩ : ∃ N : Nat, 1 + n0 % 3 = (N : Int) := ⟨(1 + n0 % 3).toNat, by omega⟩
    have N3 : N ≤ 3 := by omega
    refine ⟨_, rfl, by omega, by omega, for_it walk_range (fun i σ H' => ∃ ss xs u7 u8, σ = [some (.ref p), some (.ref lt), some (.ref kd), some (.ref dr), some (.ref sb), some (.int (hist.length : Int)), some (.ref sl), u7, u8, none] ∧ Same H H' ∧
      StAt H' Tb (hist ++ ss) sb kvb ∧ H' sl = some (.lst xs) ∧ Paired (StfAt H') ss xs ∧ ss.length = i ∧ ∀ st ∈ ss, StfOk Tb st ∧ st.isKeep = false)
      ⟨[], [], _, _, rfl, s2, by rw [List.append_nil]; exact Sb.same (Same.new hsl), upd_same, .nil, rfl, fun _ h => by cases h⟩ (fun _ _ _ _ _ => trivial) ?_ ?_⟩
    · rintro i x σ H2 H3 hi ⟨ss, xs, u7, u8, rfl, s3, S3, hsl3, hp3, hlen, hss⟩ ⟨rfl, rfl⟩
      have hi3 : i < 3 := by omega
      refine ⟨_, rfl, _, rfl, _, rfl, dr, _, _, _, rfl, rfl, SqL.of (s3 _ _ hdr), nums_at hn1 rfl, _, rfl, _, _, rfl, rfl, _, 8, rfl, by decide, fun H4 q4 ns4 s4 nq4 hl4 hns4 => ?_⟩
      have s34 := s3.trans s4
      refine ⟨lt, sb, q4, xlt, Tb, hist ++ ss, kvb, ns4, rfl, s34 _ _ hlt, paired_imp hpx fun _ _ => TabIn.same s34, TO, S3.same s4, fun st hst => ?_, hns4, hl4, fun H5 v st s5 hv okst fit => ?_⟩
      · rcases List.mem_append.mp hst with h | h
        · exact M.hok st h
        · exact (hss st h).1
      have s45 := s4.trans s5
      have nk : st.isKeep = false := by
        cases st with
        | keep m => exact absurd fit id
        | set t r => rfl
        | cut t r => rfl
      refine ⟨_, rfl, _, rfl, sb, v, Tb, hist ++ ss, kvb, st, rfl, TO, S3.same s45, hv, okst, fit, fun a ks o ha hin S' z => ?_⟩
      have ts : TS H5 (upd H5 a (.dK o)) := fun e zs he => by
        rw [upd_ne fun z => by subst z; rw [ha] at he; cases he]
        exact he
      have hsl5 : (upd H5 a (.dK o)) sl = some (.lst xs) := by
        rw [upd_ne fun z => by subst z; rw [s45 _ _ hsl3] at ha; cases ha]
        exact s45 _ _ hsl3
      have nsla : sl ≠ a := fun z => by subst z; rw [s45 _ _ hsl3] at ha; cases ha
      obtain ⟨H6, hH6⟩ : ∃ H6, H6 = upd H5 a (.dK o) := ⟨_, rfl⟩
      rw [← hH6] at ts hsl5 S' ⊢
      have s6 : Same H H6 := hH6 ▸ Same.mut (s3.trans s45) (nin a hin)
      refine ⟨_, rfl, .inl ⟨rfl, _, SqL.of hsl5⟩, _, rfl, sl, xs, v, rfl, rfl, hsl5, by rw [← paired_len hp3]; exact small1000 (by omega), ?_⟩
      have ts7 : TS H6 (upd H6 sl (.lst (xs ++ [v]))) := fun e zs he => by
        rw [upd_ne fun z => by subst z; rw [hsl5] at he; cases he]
        exact he
      refine ⟨ss ++ [st], xs ++ [v], _, _, rfl, Same.mut s6 nsl, ?_, upd_same, paired_snoc (paired_imp hp3 fun _ _ h => h.ts ((s45.ts.trans ts).trans ts7)) ((hv.ts ts).ts ts7), by rw [List.length_append, hlen]; rfl, fun st' hst' => ?_⟩
      · rw [← List.append_assoc]
        refine S'.keep (fun b ks hb => ?_) ts7
        rw [upd_ne fun z => by subst z; rw [hsl5] at hb; cases hb]
        exact hb
      · rcases List.mem_append.mp hst' with h | h
        · exact hss st' h
        · rw [List.mem_singleton.mp h]
          exact ⟨okst, nk⟩
    rintro σ H2 ⟨ss, xs, u7, u8, rfl, s3, S3, hsl3, hp3, hlen, hss⟩
    have hlenN : ss.length = N := by
      rw [hlen]
      show (1 + n0 % 3).toNat = N
      omega
    have W3 := W.same s3
    -- the keep row
    refine ⟨_, rfl, .inl ⟨rfl, _, SqL.of hsl3⟩, _, rfl, kd, _, rfl, (by rw [← kd_many]; exact DGet.k (k := Sum.inr ("many" : Str)) W3.kd_), _, _, rfl, rfl, two_small, fun q hq => ?_⟩
    have sq := Same.new (o := .tup [V.str "keep", V.int (keeps hist + 1)]) hq
    have hslq := sq _ _ hsl3
    refine ⟨sl, xs, _, rfl, rfl, hslq, by rw [← paired_len hp3]; exact small1000 (by omega), ?_⟩
    obtain ⟨H3, hH3⟩ : ∃ H3, H3 = upd (upd H2 q (.tup [V.str "keep", V.int (keeps hist + 1)])) sl (.lst (xs ++ [.ref q])) := ⟨_, rfl⟩
    rw [← hH3]
    have ts3 : TS H2 H3 := fun e zs he => by
      rw [hH3, upd_ne fun z => by subst z; rw [hsl3] at he; cases he]
      exact sq _ _ he
    have nqs : q ≠ sl := (ne_of_none hsl3 hq).symm
    have hq3 : H3 q = some (.tup [V.str "keep", V.int (keeps hist + 1)]) := by
      rw [hH3, upd_ne nqs]
      exact upd_same
    have s4 : Same H H3 := hH3 ▸ Same.mut (s3.trans sq) nsl
    have S4 : StAt H3 Tb (hist ++ ss) sb kvb := S3.keep (fun b ks hb => by
      rw [hH3, upd_ne fun z => by subst z; rw [hsl3] at hb; cases hb]
      exact sq _ _ hb) ts3
    have hsl4 : H3 sl = some (.lst (xs ++ [.ref q])) := by
      rw [hH3]
      exact upd_same
    have hp4 : Paired (StfAt H3) (ss ++ [Stf.keep (keeps hist + 1)]) (xs ++ [.ref q]) := paired_snoc (paired_imp hp3 fun _ _ h => h.ts ts3) ⟨q, rfl, hq3⟩
    have W4 := W.same s4
    have lss' : (ss ++ [Stf.keep (keeps hist + 1)]).length = N + 1 := by
      rw [List.length_append, hlenN]
      rfl
    have okS : ∀ st ∈ ss ++ [Stf.keep (keeps hist + 1)], StfOk Tb st := fun st hst => by
      rcases List.mem_append.mp hst with h | h
      · exact (hss st h).1
      · rw [List.mem_singleton.mp h]
        have := keeps_nn hist
        exact ⟨by omega, by omega⟩
    have lxs' : (xs ++ [V.ref q]).length = N + 1 := by
      rw [← paired_len hp4, lss']
    have tk : ∀ i, i ≤ N → (ss ++ [Stf.keep (keeps hist + 1)]).take i = ss.take i := fun i hi => List.take_append_of_le_length (by omega)
    have ap1 : kd ≠ sb := fun z => by
      subst z
      rw [W.kd_] at nsb
      cases nsb
    have ap2 : ¬ InSt kvb kd := fun z => by
      have := nin kd z
      rw [W.kd_] at this
      cases this
    obtain ⟨dxo, dvo, hpo, _⟩ := W.D.ob
    have slr : sl ≠ lr := fun z => by
      subst z
      rw [W.D.rw] at nsl
      cases nsl
    have slp : sl ≠ lp := fun z => by
      subst z
      rw [W.D.pg] at nsl
      cases nsl
    have slq : sl ≠ p := fun z => by
      subst z
      rw [hpo] at nsl
      cases nsl
    have slk : sl ≠ kd := fun z => by
      subst z
      rw [W.kd_] at nsl
      cases nsl
    refine ⟨_, rfl, sl, _, rfl, SqL.of hsl4, for_it walk_enum (fun i σ H' => ∃ d' dn u7 u8 u9, σ = [some (.ref p), some (.ref lt), some (.ref kd), some (.ref dr), some (.ref sb), some (.int ((hist.length : Int) + (i : Int))), some (.ref sl), u7, u8, u9] ∧ Kw p lr lp kd H H' ∧
      WAt K H' p lr lp s lt kd Tb d' hist sa kvs dn signs ∧ StAt H' Tb (hist ++ ss) sb kvb ∧ H' sl = some (.lst (xs ++ [.ref q])) ∧ Paired (StfAt H') (ss ++ [Stf.keep (keeps hist + 1)]) (xs ++ [.ref q]) ∧ d'.rows = logT ((f : Int) + 1) (hist.drop f ++ (ss ++ [Stf.keep (keeps hist + 1)]).take i) [] ∧ d'.pages = d.pages ∧ d'.down = dn ∧ (dn = true → i = N + 1) ∧
      (∀ a g, d'.due = some (a, g) → g = signs ∧ 0 ≤ g))
      ⟨d, false, _, _, _, rfl, s4.kw, W4, S4, hsl4, hp4, by rw [List.take_zero]; exact M.vw.rows, rfl, O.dn, fun z => (nomatch z), O.due⟩ (fun i σ H' _ ⟨_, _, _, _, _, _, _, _, _, e, _⟩ => SqL.of e) ?_ ?_⟩
    · rintro i x σ H5 H6 hi ⟨d', dn, u7, u8, u9, rfl, kw, W5, S5, hsl5, hp5, hrows, hpages, hdn, hdl, hdue⟩ ⟨q0, y, v, rfl, hq0, rfl, hy, hv⟩
      obtain rfl := Option.some.inj hy
      replace hv : (xs ++ [V.ref q])[i]? = some v := hv
      have hi' : i < N + 1 := by
        rw [lxs'] at hi
        exact hi
      have hdf : dn = false := by
        cases dn with
        | false => rfl
        | true =>
          have := hdl rfl
          omega
      subst hdf
      obtain ⟨st, hst, hsv⟩ := paired_at2 hp5 hv
      have okst := okS st (List.mem_of_getElem? hst)
      have s6 := Same.new (o := .tup [V.int (i : Nat), v]) hq0
      have fl := M.fl
      refine ⟨q0, _, rfl, SqT.of upd_same, rfl, _, _, rfl, _, _, rfl, rfl, ?_⟩
      refine ⟨_, rfl, _, _, rfl, rfl, ?_⟩
      refine ⟨_, rfl, _, rfl, Tb, (hist.length : Int) + (i : Int) + 1, st, v, rfl, TO, okst, by omega, hsv.ts s6.ts, fun H7 s7 => ?_⟩
      have s67 := s6.trans s7
      have W7 := W5.same s67
      have S7 := S5.same s67
      have hsl7 := s67 _ _ hsl5
      have hp7 := paired_imp hp5 fun _ _ h => h.ts s67.ts
      have kw7 := kw.trans s67.kw
      have zl := rowT_len TO okst (n := (hist.length : Int) + (i : Int) + 1) (by omega)
      have ltk : ((ss ++ [Stf.keep (keeps hist + 1)]).take i).length = i := by
        rw [List.length_take, lss']
        omega
      have lrow : d'.rows.length < 1000000 := by
        rw [hrows, logT_len, List.length_append, List.length_drop, ltk]
        simp only [List.length_nil]
        omega
      obtain ⟨dx7, dv7, hd7, _⟩ := W7.D.ob
      have esn : logT ((f : Int) + 1) (hist.drop f ++ (ss ++ [Stf.keep (keeps hist + 1)]).take (i + 1)) [] = d'.rows ++ [rowT ((hist.length : Int) + (i : Int) + 1) st] := by
        rw [take_snoc hst, ← List.append_assoc, logT_snoc, hrows]
        congr 3
        rw [List.length_append, List.length_drop, ltk]
        omega
      obtain ⟨cd1, cd2, cd3, cd4⟩ := come_due hdue
      obtain ⟨ar1, ar2, ar3, ar4, ar5⟩ := addRow_eq d' (rowT ((hist.length : Int) + (i : Int) + 1) st)
      have enum : ((hist.length : Int) + ((i + 1 : Nat) : Int)) = (hist.length : Int) + (i : Int) + 1 := by omega
      refine ⟨_, rfl, p, dx7, _, rfl, hd7, dfl_no (by decide +kernel) (by decide +kernel) (by decide +kernel) (by decide +kernel) (by decide +kernel), _, rfl, p, lr, lp, d', rowT ((hist.length : Int) + (i : Int) + 1) st, rfl, W7.D, lrow, by omega, fun hd => ?_, fun hd H8 bt D8 => ?_⟩
      · rw [hdn] at hd
        cases hd
      have W8 := W7.bt3 bt (.inl rfl) D8
      have ts8 := W7.D.ts bt
      have kk8 : ∀ x ks, H7 x = some (.dK ks) → H8 x = some (.dK ks) := fun x ks hx => bt _ _ hx (ne_of hx hd7 (by intro z; cases z)) (ne_of hx W7.D.rw (by intro z; cases z)) (ne_of hx W7.D.pg (by intro z; cases z))
      have S8 := S7.keep kk8 ts8
      have hsl8 := bt _ _ hsl7 slq slr slp
      have hp8 := paired_imp hp7 fun _ _ h => h.ts ts8
      have kw8 := kw7.bt3 bt
      refine ⟨fun hs => ?_, fun hs => ⟨true, T.x_Fell, fun _ a ha => ?_, fun q => nomatch q⟩⟩
      · refine ⟨d'.addRow (rowT ((hist.length : Int) + (i : Int) + 1) st), false, _, _, _, by rw [enum]; rfl, kw8, W8, S8, hsl8, hp8, ?_, ar1.trans hpages, ?_, fun z => (nomatch z), ?_⟩
        · rw [ar4 hs, esn]
        · rw [ar3, cd3 hs]
          exact hdn
        · rw [ar2]
          exact cd1
      -- it falls
      obtain ⟨g, hg⟩ : ∃ g, d'.sig = some g := by
        cases e : d'.sig with
        | none => exact absurd e hs
        | some g => exact ⟨g, rfl⟩
      obtain ⟨eg, g0⟩ := cd2 g hg
      obtain ⟨gn, hgn⟩ : ∃ gn : Nat, g = (gn : Int) := ⟨g.toNat, by omega⟩
      have csh := cut_short (row_59 TO okst (n := (hist.length : Int) + (i : Int) + 1) (by omega)) gn
      refine ⟨_, rfl, kd, _, rfl, .inl ⟨_, Sum.inr ("down" : Str), W8.kd_, rfl, (by show 5 < sizeLine; decide), rfl⟩, ?_⟩
      rw [kd_put_down]
      have W9 := W8.put (down' := true) (signs' := signs) W8.st W8.ap.1 W8.ap.2
      have b9 : Bx kd H8 (upd H8 kd (.dK (kdL sa hist.length (keeps hist) true signs))) := fun x o hx hne => by
        rw [upd_ne hne]
        exact hx
      have hsl9 := b9 _ _ hsl8 slk
      have kw9 : Kw p lr lp kd H (upd H8 kd (.dK (kdL sa hist.length (keeps hist) true signs))) := kw8.put
      have zne : tl (rowT ((hist.length : Int) + (i : Int) + 1) st) ≠ [] := by
        show tl (rowB ((hist.length : Int) + (i : Int) + 1) st ++ semi) ≠ []
        rw [TL.tl_append, tl_semi]
        simp
      have wholeRows : (rowT ((hist.length : Int) + (i : Int) + 1) st).length ≤ gn → (d'.addRow (rowT ((hist.length : Int) + (i : Int) + 1) st)).rows = d'.rows ++ [rowT ((hist.length : Int) + (i : Int) + 1) st] := fun hle => by
        have e : cutS (rowT ((hist.length : Int) + (i : Int) + 1) st) none (some (gn : Int)) = rowT ((hist.length : Int) + (i : Int) + 1) st := csh.2 hle
        rcases ar5 g hg with ⟨e1, _⟩ | ⟨_, e2⟩
        · rw [hgn, e] at e1
          rw [e1] at zne
          exact absurd rfl zne
        · rw [hgn, e] at e2
          exact e2
      have takeOk : ∀ n, ∀ st' ∈ ss.take n, StfOk Tb st' ∧ st'.isKeep = false := fun n st' h => hss st' (List.mem_of_mem_take h)
      have RETW : (i < N ∨ signs < ((rowT ((hist.length : Int) + (i : Int) + 1) st).length : Int)) → World K (upd H8 kd (.dK (kdL sa hist.length (keeps hist) true signs))) p lr lp s lt kd Tb (m + 4) true := fun hc => by
        have dn8 : (d'.addRow (rowT ((hist.length : Int) + (i : Int) + 1) st)).down = true := by
          rw [ar3]
          exact cd4 hs
        have due8 : ∀ a g, (d'.addRow (rowT ((hist.length : Int) + (i : Int) + 1) st)).due = some (a, g) → g = signs ∧ 0 ≤ g := by
          rw [ar2]
          exact cd1
        have lt1 : ∀ n, n ≤ 3 → (ss.take n).length ≤ 3 := fun n hn => by
          rw [List.length_take]
          omega
        by_cases hw : (rowT ((hist.length : Int) + (i : Int) + 1) st).length ≤ gn
        · have hiN : i < N := by
            rcases hc with h | h
            · exact h
            · omega
          refine ⟨_, hist, f, ss.take (i + 1), [], pg, sa, kvs, signs, W9, M.junk (takeOk _) ?_ (.inl rfl) ?_ (ar1.trans hpages), dn8, fun z => (nomatch z), due8, by omega⟩
          · have := lt1 (i + 1) (by omega)
            omega
          · rw [wholeRows hw, ← esn, tk (i + 1) (by omega)]
        · have hlt : gn < (rowT ((hist.length : Int) + (i : Int) + 1) st).length := by omega
          have ne := csh.1 hlt
          have hl3 := lt1 i (by omega)
          rcases ar5 g hg with ⟨e1, e2⟩ | ⟨e1, e2⟩
          · refine ⟨_, hist, f, ss.take i, [], pg, sa, kvs, signs, W9, M.junk (takeOk _) (by omega) (.inl rfl) ?_ (ar1.trans hpages), dn8, fun z => (nomatch z), due8, by omega⟩
            rw [e2, hrows, tk i (by omega)]
          · refine ⟨_, hist, f, ss.take i, [cutS (rowT ((hist.length : Int) + (i : Int) + 1) st) none (some g)], pg, sa, kvs, signs, W9, M.junk (takeOk _) (by omega) (.inr ⟨_, rfl, ?_, ?_, ?_⟩) ?_ (ar1.trans hpages), dn8, fun z => (nomatch z), due8, by omega⟩
            · rw [hgn]
              exact ne
            · have := cutS_len (rowT ((hist.length : Int) + (i : Int) + 1) st) g
              omega
            · intro z
              exact e1 (TL.ext_tl z)
            · rw [e2, hrows, tk i (by omega)]
              unfold logT
              rw [List.append_nil]
      refine ⟨_, rfl, _, _, rfl, rfl, _, rfl, sl, _, rfl, .inl (SqL.of hsl9), _, _, rfl, rfl, _, rfl, ?_⟩
      by_cases h1 : (i : Int) + 1 < ((xs ++ [V.ref q]).length : Int)
      · refine if_t (decide_eq_true h1) (iteT ?_)
        exact k _ true kw9 (RETW (.inl (by rw [lxs'] at h1; omega)))
      refine if_f (decide_eq_false h1) ?_
      refine ⟨_, rfl, kd, _, rfl, (by rw [← kd_signs (sa := sa) (last := hist.length) (many := keeps hist) (down := true)]; exact DGet.k (k := Sum.inr ("signs" : Str)) upd_same), _, rfl, rowT ((hist.length : Int) + (i : Int) + 1) st, rfl, sl_small (by omega), _, _, rfl, rfl, _, rfl, ?_⟩
      by_cases h2 : signs < ((rowT ((hist.length : Int) + (i : Int) + 1) st).length : Int)
      · refine if_t (decide_eq_true h2) ?_
        exact k _ true kw9 (RETW (.inr h2))
      refine if_f (decide_eq_false h2) ?_
      refine ⟨d'.addRow (rowT ((hist.length : Int) + (i : Int) + 1) st), true, _, _, _, by rw [enum]; rfl, kw9, W9, S8.bx b9 W8.kd_ ap1 ap2, hsl9, paired_imp hp8 fun _ _ h => h.ts (b9.ts W8.kd_), ?_, ar1.trans hpages, ?_, fun _ => by rw [lxs'] at h1; omega, ?_⟩
      · rw [esn]
        exact wholeRows (by omega)
      · rw [ar3]
        exact cd4 hs
      · rw [ar2]
        exact cd1
    rintro σ H5 ⟨d', dn, u7, u8, u9, rfl, kw, W5, S5, hsl5, hp5, hrows, hpages, hdn, hdl, hdue⟩
    rw [lxs'] at hrows
    rw [List.take_of_length_le (by rw [lss']; exact Nat.le_refl _)] at hrows
    rw [lxs']
    have ehl : (((hist ++ (ss ++ [Stf.keep (keeps hist + 1)])).length : Nat) : Int) = (hist.length : Int) + ((N + 1 : Nat) : Int) := by
      rw [List.length_append, lss']
      omega
    have ekp : keeps (hist ++ (ss ++ [Stf.keep (keeps hist + 1)])) = keeps hist + 1 := by
      rw [keeps_app, keeps_app, keeps_none fun s hs => (hss s hs).2, keeps_keep]
      omega
    refine ⟨_, rfl, _, rfl, kd, _, rfl, .inl ⟨_, Sum.inr ("state" : Str), W5.kd_, rfl, (by show 5 < sizeLine; decide), rfl⟩, ?_⟩
    rw [kd_put_state]
    refine ⟨_, rfl, _, rfl, kd, _, rfl, .inl ⟨_, Sum.inr ("last" : Str), upd_same, rfl, (by show 5 < sizeLine; decide), rfl⟩, ?_⟩
    rw [kd_put_last]
    refine ⟨_, rfl, kd, _, rfl, (by rw [← kd_many (sa := sb) (last := (hist.length : Int) + ((N + 1 : Nat) : Int)) (many := keeps hist) (down := dn) (signs := signs)]; exact DGet.k (k := Sum.inr ("many" : Str)) upd_same), _, _, rfl, rfl, _, rfl, kd, _, rfl, .inl ⟨_, Sum.inr ("many" : Str), upd_same, rfl, (by show 5 < sizeLine; decide), rfl⟩, ?_⟩
    rw [kd_put_many, upd2, upd2]
    have S6 : StAt H5 Tb (hist ++ (ss ++ [Stf.keep (keeps hist + 1)])) sb kvb := by
      rw [← List.append_assoc]
      exact S5.keepS _
    have W6 := W5.put (down' := dn) (signs' := signs) S6 ap1 ap2
    rw [ehl, ekp] at W6
    refine k _ dn kw.put ⟨d', _, f, [], [], pg, sb, kvb, signs, ?_, M.more hss (by omega) hrows hpages, hdn, fun _ => ⟨rfl, rfl⟩, hdue, ?_⟩
    · exact W6
    · rw [List.length_append, lss']
      omega
end
end Fl

set_option Elab.async false
set_option linter.all false
set_option maxRecDepth 100000
set_option maxHeartbeats 4000000
/-! The law's coming up. -/
namespace Fl
open PySem PySem.Spec PyProof.Rows L2
open TL (tl)
theorem Wd.eq {T : Tabs} {hist : List Stf} {d d' : Dk} {f : Nat} {j : List Stf} {torn : List Str} {pg : Nat → Option Pg} (M : Wd T hist d f j torn pg) (h1 : d'.rows = d.rows) (h2 : d'.pages = d.pages) : Wd T hist d' f j torn pg :=
  ⟨⟨h1.trans M.vw.rows, M.vw.log, M.vw.ke, M.vw.nk, fun k t cs h => by rw [h2]; exact M.vw.slots k t cs h⟩, M.fl, M.hok, M.ke, M.kn, M.pgs, M.cov, M.tne⟩
theorem Wd.cut {T : Tabs} {hist : List Stf} {d d' : Dk} {f : Nat} {j : List Stf} {torn : List Str} {pg : Nat → Option Pg} (M : Wd T hist d f j torn pg) (h1 : d'.rows = logT ((f : Int) + 1) (hist.drop f) []) (h2 : d'.pages = d.pages) : Wd T hist d' f [] [] pg :=
  ⟨⟨by rw [List.append_nil]; exact h1, M.vw.log.keepOnly, M.vw.ke, fun _ h => absurd h (List.not_mem_nil), fun k t cs h => by rw [h2]; exact M.vw.slots k t cs h⟩, M.fl, M.hok, M.ke, M.kn, M.pgs, M.cov, fun _ h => absurd h (List.not_mem_nil)⟩
theorem DueB.keep {H H' : Hp} {q : Addr} {T : Tabs} {Lf : Str → List Row} {x : Int × Int} {c b c' : Addr} (h : DueB H q T Lf x c b) (kd : ∀ a ks, H a = some (.dK ks) → (∃ kv ∈ ks, ∃ l xs, kv.2 = V.ref l ∧ H l = some (.lst xs)) → H' a = some (.dK ks)) (kl : ∀ l xs, H l = some (.lst xs) → l ≠ c → l ≠ b → H' l = some (.lst xs) ∧ l ≠ c') (ts : TS H H') (TO : TabsOk T) : DueB H' q T Lf x c' b := by
  obtain ⟨a, kvs, h1, h2, h3, h4⟩ := h
  have t1 : 1 ≤ List.length T := TO.len.1
  refine ⟨a, kvs, ts _ _ h1, kd _ _ h2 ?_, paired_impM h3 fun t _ kv hkv ⟨e, l, e2, xs, g1, g2⟩ => ?_, fun l hl => ?_⟩
  · obtain ⟨t, ht⟩ : ∃ t, T[0]? = some t := ⟨_, List.getElem?_eq_getElem (by omega)⟩
    obtain ⟨kv, hkv, _, l, e2, xs, g1, _⟩ := paired_at h3 ht
    exact ⟨kv, List.mem_of_getElem? hkv, l, xs, e2, g1⟩
  · have hin : InSt kvs l := List.mem_map.mpr ⟨kv, hkv, e2⟩
    exact ⟨e, l, e2, xs, (kl _ _ g1 (h4 l hin).1 (h4 l hin).2).1, paired_imp g2 fun _ _ => RowAt.ts ts⟩
  · obtain ⟨kv, hkv, ekv⟩ := List.mem_map.mp hl
    obtain ⟨t, _, _, l', e2, xs, g1, _⟩ := paired_mem h3 kv hkv
    rw [e2] at ekv
    cases ekv
    exact ⟨(kl _ _ g1 (h4 l hl).1 (h4 l hl).2).2, (h4 l hl).2⟩
structure Us (K : PySem.W.Frag) (H : Hp) (p lr lp s lt kd : Addr) (T : Tabs) (d : Dk) (hist : List Stf) (f : Nat) (j : List Stf) (torn : List Str) (pg : Nat → Option Pg) (sa : Addr) (kvs : List (Key × V)) (dn : Bool) (signs : Int) (Lf : Str → List Row) (q : Addr) (ns : List Int) (dr : Addr) : Prop where
  W : WAt K H p lr lp s lt kd T d hist sa kvs dn signs
  M : Wd T hist d f j torn pg
  du : DueB H q T Lf ((hist.length : Int), keeps hist) lr lp
  nd : NumsAt H ns dr ∧ dr ≠ lr ∧ dr ≠ lp
section
variable {K : PySem.W.Frag} {H H' : Hp} {p lr lp lr' s lt kd sa q dr : Addr} {T : Tabs} {d d' : Dk} {hist : List Stf} {f : Nat} {j j' : List Stf} {torn torn' : List Str} {pg : Nat → Option Pg} {kvs : List (Key × V)} {dn : Bool} {signs : Int} {Lf : Str → List Row} {ns : List Int}
theorem Us.bt3 (U : Us K H p lr lp s lt kd T d hist f j torn pg sa kvs dn signs Lf q ns dr) (b : Bt3 p lr lp H H') (hl : lr' = lr ∨ H lr' = none) (D' : DiskAt (DkC K) H' p lr' lp d') (M' : Wd T hist d' f j' torn' pg) : Us K H' p lr' lp s lt kd T d' hist f j' torn' pg sa kvs dn signs Lf q ns dr := by
  obtain ⟨dx, dv, h1, _⟩ := U.W.D.ob
  have ts := U.W.D.ts b
  have nl : ∀ x o, H x = some o → x ≠ lr → x ≠ lr' := fun x o hx hne z => by
    subst z
    rcases hl with e | e
    · exact hne e
    · rw [hx] at e
      cases e
  refine ⟨U.W.bt3 b hl D', M', U.du.keep (fun a ks ha _ => b _ _ ha (ne_of ha h1 (by intro z; cases z)) (ne_of ha U.W.D.rw (by intro z; cases z)) (ne_of ha U.W.D.pg (by intro z; cases z))) (fun l xs hl n1 n2 => ⟨b _ _ hl (ne_of hl h1 (by intro z; cases z)) n1 n2, nl _ _ hl n1⟩) ts U.W.S.ok, ⟨⟨?_, U.nd.1.2⟩, nl _ _ U.nd.1.1 U.nd.2.1, U.nd.2.2⟩⟩
  exact b _ _ U.nd.1.1 (ne_of U.nd.1.1 h1 (by intro z; cases z)) U.nd.2.1 U.nd.2.2
theorem Us.same (U : Us K H p lr lp s lt kd T d hist f j torn pg sa kvs dn signs Lf q ns dr) (k : Same H H') : Us K H' p lr lp s lt kd T d hist f j torn pg sa kvs dn signs Lf q ns dr := U.bt3 k.bt3 (.inl rfl) (U.W.D.same k) U.M
theorem Us.put (U : Us K H p lr lp s lt kd T d hist f j torn pg sa kvs dn signs Lf q ns dr) (dn' : Bool) : Us K (upd H kd (.dK (kdL sa hist.length (keeps hist) dn' signs))) p lr lp s lt kd T d hist f j torn pg sa kvs dn' signs Lf q ns dr := by
  have b : Bx kd H (upd H kd (.dK (kdL sa hist.length (keeps hist) dn' signs))) := fun x o hx hne => by
    rw [upd_ne hne]
    exact hx
  refine ⟨U.W.put U.W.st U.W.ap.1 U.W.ap.2, U.M, U.du.keep (fun a ks ha hb => b _ _ ha fun z => ?_) (fun l xs hl n1 n2 => ⟨b _ _ hl (ne_of hl U.W.kd_ (by intro z; cases z)), n1⟩) (b.ts U.W.kd_) U.W.S.ok, ⟨⟨b _ _ U.nd.1.1 (ne_of U.nd.1.1 U.W.kd_ (by intro z; cases z)), U.nd.1.2⟩, U.nd.2⟩⟩
  subst z
  rw [U.W.kd_] at ha
  cases ha
  obtain ⟨kv, hkv, l, xs, e1, e2⟩ := hb
  unfold kdL at hkv
  simp only [List.mem_cons, List.not_mem_nil, or_false] at hkv
  rcases hkv with rfl | rfl | rfl | rfl | rfl
  · cases e1
    rw [U.W.st.at_] at e2
    cases e2
  · cases e1
  · cases e1
  · cases e1
  · cases e1
theorem seen_via {Q : VK} {E : XK} (U : Us K H p lr lp s lt kd T d hist f j torn pg sa kvs dn signs Lf q ns dr) (hL : ∀ t ∈ T, Lists (stT t.1 hist) (Lf t.1)) (h64 : ∀ t ∈ T, (Lf t.1).length < 64) (go : ∀ q' H', Same H H' → DueT H' q' T Lf ((hist.length : Int), keeps hist) → Q (.ref q') H') : sp_seen K [.ref p, .ref s] H Q E := by
  refine ⟨p, lr, lp, d, s, T, (f : Int) + 1, hist.drop f, j, torn, pg, Lf, rfl, U.W.D, U.W.S, U.M.vw, U.M.seenL hL h64, fun H' q' s1 h => ?_⟩
  rw [U.M.nums U.W.S.ok] at h
  exact go q' H' s1 h
theorem come_via {Q : VK} {E : XK} (U : Us K H p lr lp s lt kd T d hist f j torn pg sa kvs dn signs Lf q ns dr) (hL : ∀ t ∈ T, Lists (stT t.1 hist) (Lf t.1)) (h64 : ∀ t ∈ T, (Lf t.1).length < 64)
    (go : ∀ v H' lr' d' j' torn', Us K H' p lr' lp s lt kd T d' hist f j' torn' pg sa kvs dn signs Lf q ns dr → Bt3 p lr lp H H' → (lr' = lr ∨ H lr' = none) →
      ((j = [] ∧ torn = []) → d' = d ∧ j' = [] ∧ torn' = [] ∧ ∃ q', v = .ref q' ∧ DueT H' q' T Lf ((hist.length : Int), keeps hist)) →
      (¬ (j = [] ∧ torn = []) → d.down = true → d' = d ∧ j' = j ∧ torn' = torn ∧ v = .non) →
      (¬ (j = [] ∧ torn = []) → d.down = false → (d.sig = none → j' = [] ∧ torn' = [] ∧ d'.due = d.come.due ∧ d'.down = d.come.down ∧ ∃ q', v = .ref q' ∧ DueT H' q' T Lf ((hist.length : Int), keeps hist)) ∧ (d.sig ≠ none → v = .non)) → Q v H') : sp_l_come K [.ref p, .ref s] H Q E := by
  refine ⟨p, lr, lp, d, s, T, (f : Int) + 1, hist.drop f, j, torn, pg, Lf, rfl, U.W.D, U.W.S, U.M.vw, U.M.seenL hL h64, fun hz H' q' s1 h => ?_, fun hz => ⟨fun hd H' s1 => ?_, fun hd H' lr' bt hl D' => ⟨fun hs H'' q' s1 h => ?_, fun hs => ?_⟩⟩⟩
  · rw [U.M.nums U.W.S.ok] at h
    exact go _ H' lr d j torn (U.same s1) s1.bt3 (.inl rfl) (fun _ => ⟨rfl, hz.1, hz.2, q', rfl, h⟩) (fun n => absurd hz n) (fun n => absurd hz n)
  · exact go _ H' lr d j torn (U.same s1) s1.bt3 (.inl rfl) (fun z => absurd z hz) (fun _ _ => ⟨rfl, rfl, rfl, rfl⟩) (fun _ h => by rw [hd] at h; cases h)
  · rw [U.M.nums U.W.S.ok] at h
    have U' := U.bt3 bt hl D' (U.M.cut (cutTo_rows hs _) (cutTo_pages _ _))
    exact go _ H'' lr' _ [] [] (U'.same s1) (bt.trans (s1.bt3)) hl (fun z => absurd z hz) (fun _ h => by rw [hd] at h; cases h) (fun _ _ => ⟨fun _ => ⟨rfl, rfl, (cutTo_eq d _).2.1, (cutTo_eq d _).2.2.1, q', rfl, h⟩, fun n => absurd hs n⟩)
  · rcases (cutTo_eq d (logT ((f : Int) + 1) (hist.drop f) [])).1 with e | e
    · exact go _ H' lr' _ [] [] (U.bt3 bt hl D' (U.M.cut e (cutTo_pages _ _))) bt hl (fun z => absurd z hz) (fun _ h => by rw [hd] at h; cases h) (fun _ _ => ⟨fun n => absurd n hs, fun _ => rfl⟩)
    · exact go _ H' lr' _ j torn (U.bt3 bt hl D' (U.M.eq e (cutTo_pages _ _))) bt hl (fun z => absurd z hz) (fun _ h => by rw [hd] at h; cases h) (fun _ _ => ⟨fun n => absurd n hs, fun _ => rfl⟩)
theorem neT_via {a b : Addr} {x : Int × Int} {Q : VK} (TO : TabsOk T) (hf : FlatF T Lf) (h1 : DueT H a T Lf x) (h2 : DueT H b T Lf x) (h : Q (.bl false) H) : rNeT K (.ref a) (.ref b) H Q := by
  obtain ⟨xs, ys, e1, e2, e3⟩ := due_eq (K := K) TO hf h1 h2
  exact .inl ⟨4, a, b, xs, ys, by decide, rfl, rfl, e1, e2, e3, h⟩
theorem eqT_via {a b : Addr} {x : Int × Int} {Q : VK} (TO : TabsOk T) (hf : FlatF T Lf) (h1 : DueT H a T Lf x) (h2 : DueT H b T Lf x) (h : Q (.bl true) H) : rEqT K (.ref a) (.ref b) H Q := by
  obtain ⟨xs, ys, e1, e2, e3⟩ := due_eq (K := K) TO hf h1 h2
  exact .inl ⟨4, a, b, xs, ys, by decide, rfl, rfl, e1, e2, e3, h⟩
end
theorem via {R : Hp → Prop} {G : Prop} (C : Hp → Prop) (h1 : (∀ H, C H → R H) → G) (h2 : ∀ H, C H → R H) : G := h1 h2
theorem Kw.bt3' {p lr lr1 lp kd : Addr} {H H1 H2 : Hp} (a : Kw p lr lp kd H H1) (hl : lr1 = lr ∨ H lr1 = none) (b : Bt3 p lr1 lp H1 H2) : Kw p lr lp kd H H2 := fun c o h h1 h2 h3 h4 => b c o (a c o h h1 h2 h3 h4) h1 (fun z => by
  subst z
  rcases hl with e | e
  · exact h2 e
  · rw [h] at e
    cases e) h3
theorem hl_chain {K : PySem.W.Frag} {p lr lr1 lr2 lp kd s lt sa : Addr} {H H1 : Hp} {T : Tabs} {d : Dk} {hist : List Stf} {kvs : List (Key × V)} {dn : Bool} {signs : Int} (kw : Kw p lr lp kd H H1) (W : WAt K H1 p lr1 lp s lt kd T d hist sa kvs dn signs) (hl1 : lr1 = lr ∨ H lr1 = none) (hl2 : lr2 = lr1 ∨ H1 lr2 = none) : lr2 = lr ∨ H lr2 = none := by
  rcases hl2 with e | e
  · subst e
    exact hl1
  · by_cases h : lr2 = lr
    · exact .inl h
    · right
      cases q : H lr2 with
      | none => rfl
      | some o =>
        obtain ⟨dx, dv, h1, _⟩ := W.D.ob
        have := kw lr2 o q (fun z => by subst z; rw [h1] at e; cases e) h (fun z => by subst z; rw [W.D.pg] at e; cases e) (fun z => by subst z; rw [W.kd_] at e; cases e)
        rw [this] at e
        cases e
theorem sig_due {d : Dk} {g : Int} (h : d.due = some (0, g)) : d.sig = some g := by
  unfold Dk.sig
  rw [h]
  rfl
theorem sig_none {d : Dk} (h : d.due = none) : d.sig = none ∧ d.come.due = none ∧ d.come.down = d.down := by
  unfold Dk.sig Dk.come
  rw [h]
  exact ⟨rfl, rfl, rfl⟩
theorem viaP {R G : Prop} (h1 : R → G) (h2 : R) : G := h1 h2
end Fl

set_option Elab.async false
set_option linter.all false
set_option maxRecDepth 100000
set_option maxHeartbeats 4000000
/-! The law's coming up: the walk. -/
namespace Fl
open PySem PySem.Spec PyProof.Rows L2
open TL (tl)
def sp_l_up (K : PySem.W.Frag) : Sp := fun vs H Q _ => ∃ p lr lp s lt kd T m dr ns, vs = [.ref p, .ref s, .ref kd, .ref dr] ∧ World K H p lr lp s lt kd T m true ∧ (NumsAt H ns dr ∧ dr ≠ lr ∧ dr ≠ lp) ∧ ns.length = 2 ∧ m ≤ 1000 ∧ ∀ H' lr', Kw p lr lp kd H H' → (lr' = lr ∨ H lr' = none) → World K H' p lr' lp s lt kd T m false → Q (.bl true) H'
section
variable {P : Program} {w : PySem.World} {K : PySem.W.Frag} {mg : Str → Option Value} {base : Heap} {fd : FuncData}
theorem tail_via {H : Hp} {p lr lp s lt kd sa q dr : Addr} {T : Tabs} {d : Dk} {hist : List Stf} {f : Nat} {j : List Stf} {torn : List Str} {pg : Nat → Option Pg} {kvs : List (Key × V)} {dn : Bool} {signs : Int} {Lf : Str → List Row} {ns : List Int} {Q : VK} {E : XK} {m : Nat}
    (U : Us K H p lr lp s lt kd T d hist f j torn pg sa kvs dn signs Lf q ns dr) (few : hist.length ≤ m) (hm : m ≤ 1000) (go : ∀ (b : Bool) H', Same H H' → (b = true ↔ ¬ (j = [] ∧ torn = [])) → Q (.bl b) H') : sp_l_tail K [.ref p, .ref kd] H Q E :=
  ⟨p, lr, lp, d, kd, sa, _, _, _, _, T, (f : Int) + 1, hist.drop f, j, torn, rfl, U.W.D, U.W.kd_, U.W.S.ok, U.M.vw.rows, U.M.vw.log, U.M.tne, by rw [List.length_drop]; have := U.M.fl; omega, by omega, go⟩
theorem sc_l_up : FnScope ["_law_disk", "_law_schema_here", "_law_kept_here", "_law_draws_here", "_law_due_here", "_law_rest", "_law_found", "_law_writes"] ["_law_disk", "_law_schema_here", "_law_kept_here", "_law_draws_here"] d_l_up.scope := ⟨rfl, rfl, rfl, by decide +kernel, rfl, by decide +kernel, by decide +kernel⟩
theorem ok_l_up (T : Tx K mg) (F : Fd K d_l_up fd) (D_l_due : Df P w K mg base CX0 2 "_law_due" ["_law_kept_here"] sp_l_due) (D_l_tail : Df P w K mg base CX0 2 "_law_tail" ["_law_disk", "_law_kept_here"] (sp_l_tail K)) (D_seen : Df P w K mg base CX0 9 "seen" ["disk", "schema"] (sp_seen K))
    (D_l_come : Df P w K mg base CX0 11 "_law_come" ["_law_disk", "_law_schema_here"] (sp_l_come K)) (M_power : Md P w K mg base CX0 1 (DkC K) "power" ["self"] (sp_power K)) (M_fall_at : Md P w K mg base CX0 1 (DkC K) "fall_at" ["self", "after", "signs"] (sp_fall_at K)) (M_writes : Md P w K mg base CX0 1 (DkC K) "writes" ["self"] (sp_writes K)) :
    FnOk P w K mg base CX0 12 (He.fAd K d_l_up.at_) fd ["_law_disk", "_law_schema_here", "_law_kept_here", "_law_draws_here"] (sp_l_up K) := by
  refine ok0 F sc_l_up (fun vs H Q E h => ?_) (fun cdv A outer s H vs Q E hr h => ?_)
  · obtain ⟨_, _, _, _, _, _, _, _, _, _, rfl, _⟩ := h
    rfl
  · obtain ⟨p, lr, lp, s, lt, kd, Tb, m, dr, ns, rfl, ⟨d, hist, f, j, torn, pg, sa, kvs, signs, O⟩, hns, hl, hm, k⟩ := h
    have hu := hu_of hr
    have W := O.W
    have TO := W.S.ok
    have few := O.few
    obtain ⟨Lf, hL⟩ := lists_fn TO O.M.hok
    have h64 : ∀ t ∈ Tb, (Lf t.1).length < 64 := fun t ht => Nat.lt_of_le_of_lt (W.st.short TO hL t ht) (by decide)
    have hF := flatF TO O.M.hok hL
    obtain ⟨n0, hn0⟩ : ∃ n, ns[0]? = some n := ⟨_, List.getElem?_eq_getElem (by omega)⟩
    obtain ⟨n1, hn1⟩ : ∃ n, ns[1]? = some n := ⟨_, List.getElem?_eq_getElem (by omega)⟩
    refine ⟨_, (pss_cons (ps_set (i := 4) sc_l_up.nd rfl (Or.inl rfl) (pe_df D_l_due (hr.mono (by decide)) pass0 (pa_cons (pv 2) pa_nil)))
    (pss_cons (ps_set (i := 5) sc_l_up.nd rfl (Or.inl rfl) (pe_ix ix_list (pe_lst (pa_cons (pv 4) (pa_cons pe_non pa_nil))) (pe_callTy call_int1 (by rfl) T.f_int (by decide +kernel) (pa_cons (pe_df D_l_tail (hr.mono (by decide)) pass0 (pa_cons (pv 0) (pa_cons (pv 2) pa_nil))) pa_nil)) (fun _ _ => rfl)))
    (pss_cons (ps_if (PW.pt (pw_or (pt_cmpR (op_neT hr.units) (pe_df D_seen (hr.mono (by decide)) pass0 (pa_cons (pv 0) (pa_cons (pv 1) pa_nil))) (pv 4) (nomark _)) (pw_or (pt_cmpR (op_neT hr.units) (pe_df D_l_come (hr.mono (by decide)) pass0 (pa_cons (pv 0) (pa_cons (pv 1) pa_nil))) (pv 5) (nomark _)) (pw_or1 (pt_cmpR (op_neT hr.units) (pe_df D_seen (hr.mono (by decide)) pass0 (pa_cons (pv 0) (pa_cons (pv 1) pa_nil))) (pv 4) (nomark _)))))) (pss_one (ps_ret pe_bl)) pss_nil)
    (pss_cons (ps_expr (pe_md0 M_power (hr.mono (by decide)) pass0 (pv 0)))
    (pss_cons (ps_if (pt_cmpR op_eq (pe_op op_mod (pe_ix ix_list (pv 3) pe_int (fun _ _ => rfl)) pe_int) pe_int (nomark _)) (pss_one (ps_expr (pe_md M_fall_at (hr.mono (by decide)) pass0 (pv 0) (pa_cons pe_int (pa_cons (pe_op op_mod (pe_ix ix_list (pv 3) pe_int (fun _ _ => rfl)) pe_int) pa_nil))))) pss_nil)
    (pss_cons (ps_set (i := 6) sc_l_up.nd rfl (Or.inl rfl) (pe_df D_l_come (hr.mono (by decide)) pass0 (pa_cons (pv 0) (pa_cons (pv 1) pa_nil))))
    (pss_cons (ps_if (PW.pt (pw_or (pt_cmpR (op_neT hr.units) (pv 6) (pe_ix ix_list (pe_lst (pa_cons (pv 4) (pa_cons pe_non pa_nil))) (pe_callTy call_int1 (by rfl) T.f_int (by decide +kernel) (pa_cons (pe_and (pe_cmpR op_eq (pe_op op_mod (pe_ix ix_list (pv 3) pe_int (fun _ _ => rfl)) pe_int) pe_int (nomark _)) (pe_one (pe_cmpR op_isN (pv 5) pe_non (nomark _)))) pa_nil)) (fun _ _ => rfl)) (nomark _)) (pw_or1 (pt_cmpR (op_neT hr.units) (pe_df D_seen (hr.mono (by decide)) pass0 (pa_cons (pv 0) (pa_cons (pv 1) pa_nil))) (pv 4) (nomark _))))) (pss_one (ps_ret pe_bl)) pss_nil)
    (pss_cons (ps_expr (pe_md0 M_power (hr.mono (by decide)) pass0 (pv 0)))
    (pss_cons (ps_if (PW.pt (pw_or (pt_cmpR (op_neT hr.units) (pe_df D_l_come (hr.mono (by decide)) pass0 (pa_cons (pv 0) (pa_cons (pv 1) pa_nil))) (pv 4) (nomark _)) (pw_or1 (pt_val (pe_df D_l_tail (hr.mono (by decide)) pass0 (pa_cons (pv 0) (pa_cons (pv 2) pa_nil))))))) (pss_one (ps_ret pe_bl)) pss_nil)
    (pss_cons (ps_set (i := 7) sc_l_up.nd rfl (Or.inl rfl) (pe_md0 M_writes (hr.mono (by decide)) pass0 (pv 0)))
    (pss_cons (ps_dput hu (pv 2) pe_str pe_bl rfl)
    (pss_one (ps_ret (pe_and (pe_cmpR (op_eqT hr.units) (pe_df D_l_come (hr.mono (by decide)) pass0 (pa_cons (pv 0) (pa_cons (pv 1) pa_nil))) (pv 4) (nomark _)) (pe_one (pe_cmpR op_eq (pe_md0 M_writes (hr.mono (by decide)) pass0 (pv 0)) (pv 7) (nomark _))))))))))))))))), ?_⟩
    -- due, rest
    refine ⟨_, rfl, kd, Tb, hist, sa, kvs, _, _, _, _, Lf, rfl, W.kd_, TO, W.st, hL, fun H1 q s1 hdu => ?_⟩
    have U1 : Us K H1 p lr lp s lt kd Tb d hist f j torn pg sa kvs true signs Lf q ns dr := ⟨W.same s1, O.M, hdu lr lp _ _ W.D.rw W.D.pg, hns.1.same s1, hns.2⟩
    refine ⟨_, rfl, two_small, fun p2 hp2 => ?_⟩
    have s2 := Same.new (o := .lst [V.ref q, .non]) hp2
    have hp2' : (upd H1 p2 (.lst [V.ref q, .non])) p2 = some (.lst [V.ref q, .non]) := upd_same
    generalize upd H1 p2 (.lst [V.ref q, .non]) = H2 at s2 hp2' ⊢
    have U2 := U1.same s2
    refine ⟨_, rfl, _, rfl, ?_⟩
    dsimp only [tNil]
    refine tail_via U2 few hm fun b H3 s3 hb => .inr ⟨b, rfl, ?_⟩
    have U3 := U2.same s3
    obtain ⟨rv, hrv⟩ : ∃ rv : V, rv = if b = true then V.non else V.ref q := ⟨_, rfl⟩
    have hat : atI [V.ref q, .non] (if b = true then 1 else 0) = some rv := by
      rw [hrv]
      cases b with
      | true => exact at1
      | false => exact at0
    refine ⟨p2, _, _, rv, rfl, rfl, SqL.of (s3 _ _ hp2'), hat, ?_⟩
    -- as it is, down
    refine ⟨_, rfl, _, rfl, ?_⟩
    dsimp only [tNil]
    refine seen_via U3 hL h64 fun q4 H4 s4 du4 => ?_
    have U4 := U3.same s4
    refine ⟨_, rfl, neT_via TO hF du4 U4.du.t ⟨_, rfl, iteF ?_⟩⟩
    refine ⟨_, rfl, _, rfl, ?_⟩
    dsimp only [tNil]
    refine come_via U4 hL h64 fun v H5 lr5 d5 j5 torn5 U5 b5 hl5 c1 c2 c3 => ?_
    obtain ⟨rfl, rfl, rfl, hne⟩ : d5 = d ∧ j5 = j ∧ torn5 = torn ∧ ∀ Qx : VK, Qx (.bl false) H5 → rNeT K v rv H5 Qx := by
      by_cases hz : j = [] ∧ torn = []
      · obtain ⟨e1, e2, e3, q', e4, e5⟩ := c1 hz
        have bf : b = false := by
          cases b with
          | false => rfl
          | true => exact absurd hz (hb.mp rfl)
        subst bf
        refine ⟨e1, e2.trans hz.1.symm, e3.trans hz.2.symm, fun Qx hQ => ?_⟩
        rw [e4, hrv, if_neg Bool.false_ne_true]
        exact neT_via TO hF e5 U5.du.t hQ
      · obtain ⟨e1, e2, e3, e4⟩ := c2 hz O.dn
        have bt : b = true := hb.mpr hz
        subst bt
        refine ⟨e1, e2, e3, fun Qx hQ => ?_⟩
        rw [e4, hrv, if_pos rfl]
        exact .inr ⟨rfl, rfl, hQ⟩
    refine ⟨_, rfl, hne _ ⟨_, rfl, iteF ?_⟩⟩
    refine ⟨_, rfl, _, rfl, ?_⟩
    dsimp only [tNil]
    refine seen_via U5 hL h64 fun q6 H6 s6 du6 => ?_
    have U6 := U5.same s6
    refine ⟨_, rfl, neT_via TO hF du6 U6.du.t ⟨_, rfl, iteF ?_⟩⟩
    have kw6 : Kw p lr lp kd H H6 := ((((s1.trans s2).trans (s3.trans s4)).kw).bt3' (.inl rfl) b5).trans s6.kw
    have hl6 : lr5 = lr ∨ H lr5 = none := hl_chain ((s1.trans s2).trans (s3.trans s4)).kw U4.W (.inl rfl) hl5
    -- the power
    obtain ⟨dx6, dv6, hd6, _⟩ := U6.W.D.ob
    refine ⟨_, rfl, p, dx6, _, rfl, hd6, dfl_no (by decide +kernel) (by decide +kernel) (by decide +kernel) (by decide +kernel) (by decide +kernel), p, lr5, lp, _, rfl, U6.W.D, fun H7 b7 D7 => ?_⟩
    have U7 := U6.bt3 b7 (.inl rfl) D7 (U6.M.eq rfl rfl)
    have kw7 := kw6.bt3' hl6 b7
    obtain ⟨dx7, dv7, hd7, _⟩ := U7.W.D.ob
    apply via (C := fun H8 => ∃ d8, Us K H8 p lr5 lp s lt kd Tb d8 hist f j5 torn5 pg sa kvs true signs Lf q ns dr ∧ Bt3 p lr5 lp H7 H8 ∧ d8.down = false ∧ ((n0 % 2 = 0 ∧ ∃ g, d8.due = some (0, g)) ∨ (¬ n0 % 2 = 0 ∧ d8.due = none)))
    · intro go
      refine ⟨_, rfl, dr, _, _, _, rfl, rfl, SqL.of U7.nd.1.1, nums_at hn0 rfl, _, _, rfl, rfl, (show (0 : Int) < 2 by decide), rfl, _, rfl, ?_⟩
      by_cases hev : n0 % 2 = 0
      · refine if_t (decide_eq_true (congrArg V.int hev)) ?_
        refine ⟨_, rfl, p, dx7, _, rfl, hd7, dfl_no (by decide +kernel) (by decide +kernel) (by decide +kernel) (by decide +kernel) (by decide +kernel), _, rfl, dr, _, _, _, rfl, rfl, SqL.of U7.nd.1.1, nums_at hn1 rfl, _, _, rfl, rfl, (show (0 : Int) < 3 by decide), p, lr5, lp, _, 0, n1 % 3, rfl, U7.W.D, fun H8 b8 D8 => ?_⟩
        exact go H8 ⟨_, U7.bt3 b8 (.inl rfl) D8 (U7.M.eq rfl rfl), b8, rfl, .inl ⟨hev, _, rfl⟩⟩
      · refine if_f (decide_eq_false fun z => hev (V.int.inj z)) ?_
        exact go H7 ⟨_, U7, (Same.refl H7).bt3, rfl, .inr ⟨hev, rfl⟩⟩
    rintro H8 ⟨d8, U8, b8, hd8, hdue8⟩
    have kw8 := kw7.bt3' hl6 b8
    refine ⟨_, rfl, _, rfl, ?_⟩
    dsimp only [tNil]
    refine come_via U8 hL h64 fun v9 H9 lr9 d9 j9 torn9 U9 b9 hl9 c19 c29 c39 => ?_
    have kw9 := kw8.bt3' hl6 b9
    have hlr9 := hl_chain kw8 U8.W hl6 hl9
    have hv9 : (v9 = .non ∧ n0 % 2 = 0 ∧ b = true) ∨ ((∃ q', v9 = .ref q' ∧ DueT H9 q' Tb Lf ((hist.length : Int), keeps hist)) ∧ ¬ (n0 % 2 = 0 ∧ b = true)) := by
      by_cases hb1 : b = true
      · have hz := hb.mp hb1
        obtain ⟨c3a, c3b⟩ := c39 hz hd8
        rcases hdue8 with ⟨he, g, hg⟩ | ⟨he, hg⟩
        · exact .inl ⟨c3b (by rw [sig_due hg]; exact fun z => nomatch z), he, hb1⟩
        · obtain ⟨_, _, _, _, q', e1, e2⟩ := c3a (sig_none hg).1
          exact .inr ⟨⟨q', e1, e2⟩, fun z => he z.1⟩
      · have hz := Classical.byContradiction fun n => hb1 (hb.mpr n)
        obtain ⟨_, _, _, q', e1, e2⟩ := c19 hz
        exact .inr ⟨⟨q', e1, e2⟩, fun z => hb1 z.2⟩
    refine ⟨_, rfl, _, rfl, two_small, fun p3 hp3 => ?_⟩
    have s10 := Same.new (o := .lst [V.ref q, .non]) hp3
    have hp3' : (upd H9 p3 (.lst [V.ref q, .non])) p3 = some (.lst [V.ref q, .non]) := upd_same
    obtain ⟨H10, hH10⟩ : ∃ H10, H10 = upd H9 p3 (.lst [V.ref q, .non]) := ⟨_, rfl⟩
    rw [← hH10] at s10 hp3' ⊢
    have U10 := U9.same s10
    apply viaP
    · intro go
      refine ⟨_, rfl, dr, _, _, _, rfl, rfl, SqL.of U10.nd.1.1, nums_at hn0 rfl, _, _, rfl, rfl, (show (0 : Int) < 2 by decide), rfl, _, rfl, ?_⟩
      by_cases hev : n0 % 2 = 0
      · refine if_t (decide_eq_true (congrArg V.int hev)) ?_
        refine ⟨_, rfl, rfl, .inr ⟨_, rfl, ?_⟩⟩
        rcases Bool.eq_false_or_eq_true b with hb1 | hb1
        · have erv : rv = .non := by
            rw [hrv, if_pos hb1]
          refine ⟨p3, _, _, .non, rfl, rfl, SqL.of hp3', (by rw [decide_eq_true erv]; exact at1), ?_⟩
          rcases hv9 with ⟨e, _⟩ | ⟨_, n⟩
          · rw [e]
            exact .inr ⟨rfl, rfl, go⟩
          · exact absurd ⟨hev, hb1⟩ n
        · have erv : rv = .ref q := by
            rw [hrv, if_neg (by rw [hb1]; exact Bool.false_ne_true)]
          refine ⟨p3, _, _, .ref q, rfl, rfl, SqL.of hp3', (by rw [decide_eq_false (by rw [erv]; exact fun z => nomatch z)]; exact at0), ?_⟩
          rcases hv9 with ⟨_, _, e⟩ | ⟨⟨q', e1, e2⟩, _⟩
          · rw [hb1] at e
            cases e
          · rw [e1]
            exact neT_via TO hF (e2.same s10) U10.du.t go
      · refine if_f (decide_eq_false fun z => hev (V.int.inj z)) (.inr ⟨_, rfl, p3, _, _, .ref q, rfl, rfl, SqL.of hp3', at0, ?_⟩)
        rcases hv9 with ⟨_, e, _⟩ | ⟨⟨q', e1, e2⟩, _⟩
        · exact absurd e hev
        · rw [e1]
          exact neT_via TO hF (e2.same s10) U10.du.t go
    refine ⟨_, rfl, iteF ?_⟩
    refine ⟨_, rfl, _, rfl, ?_⟩
    dsimp only [tNil]
    refine seen_via U10 hL h64 fun q11 H11 s11 du11 => ?_
    have U11 := U10.same s11
    refine ⟨_, rfl, neT_via TO hF du11 U11.du.t ⟨_, rfl, iteF ?_⟩⟩
    have kw11 := kw9.trans (s10.trans s11).kw
    obtain ⟨dx11, dv11, hd11, _⟩ := U11.W.D.ob
    refine ⟨_, rfl, p, dx11, _, rfl, hd11, dfl_no (by decide +kernel) (by decide +kernel) (by decide +kernel) (by decide +kernel) (by decide +kernel), p, lr9, lp, _, rfl, U11.W.D, fun H12 b12 D12 => ?_⟩
    have U12 := U11.bt3 b12 (.inl rfl) D12 (U11.M.eq rfl rfl)
    have kw12 := kw11.bt3' hlr9 b12
    refine ⟨_, rfl, _, rfl, ?_⟩
    dsimp only [tNil]
    refine come_via U12 hL h64 fun v13 H13 lr13 d13 j13 torn13 U13 b13 hl13 c1 c2 c3 => ?_
    obtain ⟨e13, d13n, d13d, q13, rfl, du13⟩ : (j13 = [] ∧ torn13 = []) ∧ d13.due = none ∧ d13.down = false ∧ ∃ q', v13 = .ref q' ∧ DueT H13 q' Tb Lf ((hist.length : Int), keeps hist) := by
      by_cases hz : j9 = [] ∧ torn9 = []
      · obtain ⟨e1, e2, e3, e4⟩ := c1 hz
        exact ⟨⟨e2, e3⟩, by rw [e1], by rw [e1], e4⟩
      · obtain ⟨c3a, _⟩ := c3 hz rfl
        have sn := sig_none (d := { d9 with due := none, down := false }) rfl
        obtain ⟨e1, e2, e3, e4, e5⟩ := c3a sn.1
        exact ⟨⟨e1, e2⟩, by rw [e3]; exact sn.2.1, by rw [e4]; exact sn.2.2, e5⟩
    have kw13 := kw12.bt3' hlr9 b13
    have hlr13 := hl_chain kw12 U12.W hlr9 hl13
    refine ⟨_, rfl, neT_via TO hF du13 U13.du.t ⟨_, rfl, iteF ?_⟩⟩
    refine ⟨_, rfl, _, rfl, ?_⟩
    dsimp only [tNil]
    refine tail_via U13 few hm fun b14 H14 s14 hb14 => ⟨b14, rfl, ?_⟩
    have b14f : b14 = false := by
      cases b14 with
      | false => rfl
      | true => exact absurd e13 (hb14.mp rfl)
    refine if_f b14f ?_
    have U14 := U13.same s14
    obtain ⟨dx14, dv14, hd14, _⟩ := U14.W.D.ob
    refine ⟨_, rfl, p, dx14, _, rfl, hd14, dfl_no (by decide +kernel) (by decide +kernel) (by decide +kernel) (by decide +kernel) (by decide +kernel), p, lr13, lp, d13, rfl, U14.W.D, ?_⟩
    refine ⟨_, rfl, kd, _, rfl, .inl ⟨_, Sum.inr ("down" : Str), U14.W.kd_, rfl, (by show 5 < sizeLine; decide), rfl⟩, ?_⟩
    rw [kd_put_down]
    have U15 := U14.put false
    have kw15 : Kw p lr lp kd H (upd H14 kd (.dK (kdL sa hist.length (keeps hist) false signs))) := (kw13.trans s14.kw).put
    refine ⟨_, rfl, _, rfl, ?_⟩
    dsimp only [tNil]
    refine come_via U15 hL h64 fun v16 H16 lr16 d16 j16 torn16 U16 b16 hl16 c1 _ _ => ?_
    obtain ⟨e16, ej, et, q16, rfl, du16⟩ := c1 e13
    subst e16
    refine ⟨_, rfl, eqT_via TO hF du16 U16.du.t ⟨true, rfl, if_t rfl ?_⟩⟩
    obtain ⟨dx16, dv16, hd16, _⟩ := U16.W.D.ob
    refine ⟨_, rfl, p, dx16, _, rfl, hd16, dfl_no (by decide +kernel) (by decide +kernel) (by decide +kernel) (by decide +kernel) (by decide +kernel), p, lr16, lp, _, rfl, U16.W.D, _, rfl, rfl, ?_⟩
    have kw16 := kw15.bt3' hlr13 b16
    have hlr16 := hl_chain kw15 U15.W hlr13 hl16
    show Q (.bl (decide (_ = _))) H16
    rw [decide_eq_true rfl]
    exact k H16 lr16 kw16 hlr16 ⟨_, hist, f, j16, torn16, pg, sa, kvs, signs, U16.W, U16.M, d13d, fun _ => ⟨ej, et⟩, (fun a g e => by rw [d13n] at e; cases e), few⟩
end
end Fl

set_option Elab.async false
set_option linter.all false
set_option maxRecDepth 100000
set_option maxHeartbeats 8000000
/-! The law. -/
namespace Fl
open PySem PySem.Spec PyProof.Rows L2
open TL (tl)
def sp_law (K : PySem.W.Frag) : Sp := fun vs H Q _ => ∃ (a : Addr) (ns : List Int), vs = [.ref a] ∧ SqL K H a (ns.map V.int) ∧ ∀ H', Q (.bl true) H'
theorem World.mono {K : PySem.W.Frag} {H : Hp} {p lr lp s lt kd : Addr} {T : Tabs} {m m' : Nat} {dn : Bool} (h : World K H p lr lp s lt kd T m dn) (hm : m ≤ m') : World K H p lr lp s lt kd T m' dn := by
  obtain ⟨d, hist, f, j, torn, pg, sa, kvs, signs, O⟩ := h
  exact ⟨d, hist, f, j, torn, pg, sa, kvs, signs, O.W, O.M, O.dn, O.cl, O.due, Nat.le_trans O.few hm⟩
theorem World.same {K : PySem.W.Frag} {H H' : Hp} {p lr lp s lt kd : Addr} {T : Tabs} {m : Nat} {dn : Bool} (h : World K H p lr lp s lt kd T m dn) (k : Same H H') : World K H' p lr lp s lt kd T m dn := by
  obtain ⟨d, hist, f, j, torn, pg, sa, kvs, signs, O⟩ := h
  exact ⟨d, hist, f, j, torn, pg, sa, kvs, signs, O.W.same k, O.M, O.dn, O.cl, O.due, O.few⟩
theorem cutV_int (ns : List Int) (lo hi : Nat) : ∃ cs : List Int, cutV (ns.map V.int) (some (lo : Int)) (some (hi : Int)) = cs.map V.int ∧ cs.length ≤ hi := by
  refine ⟨(ns.drop (min lo ns.length)).take (min hi ns.length - min lo ns.length), ?_, ?_⟩
  · unfold cutV
    rw [HT.sIx_nat, HT.sIx_nat, List.length_map, List.map_take, List.map_drop]
  · rw [List.length_take]
    omega
theorem kd_nd {sa : Addr} {last many : Int} {down : Bool} {signs : Int} : (List.map (fun kv : Key × V => kv.1) ([] ++ kdL sa last many down signs)).Nodup := by
  show ([Sum.inr ("state" : Str), Sum.inr ("last" : Str), Sum.inr ("many" : Str), Sum.inr ("down" : Str), Sum.inr ("signs" : Str)] : List Key).Nodup
  decide +kernel
theorem seen_viaW {K : PySem.W.Frag} {H : Hp} {p lr lp s lt kd sa : Addr} {T : Tabs} {d : Dk} {hist : List Stf} {f : Nat} {j : List Stf} {torn : List Str} {pg : Nat → Option Pg} {kvs : List (Key × V)} {dn : Bool} {signs : Int} {Lf : Str → List Row} {Q : VK} {E : XK}
    (W : WAt K H p lr lp s lt kd T d hist sa kvs dn signs) (M : Wd T hist d f j torn pg) (hL : ∀ t ∈ T, Lists (stT t.1 hist) (Lf t.1)) (h64 : ∀ t ∈ T, (Lf t.1).length < 64) (go : ∀ q' H', Same H H' → DueT H' q' T Lf ((hist.length : Int), keeps hist) → Q (.ref q') H') : sp_seen K [.ref p, .ref s] H Q E := by
  refine ⟨p, lr, lp, d, s, T, (f : Int) + 1, hist.drop f, j, torn, pg, Lf, rfl, W.D, W.S, M.vw, M.seenL hL h64, fun H' q' s1 h => ?_⟩
  rw [M.nums W.S.ok] at h
  exact go q' H' s1 h
/-- a list that is none of the disk's stands -/
theorem kw_lst {K : PySem.W.Frag} {H H' : Hp} {p lr lr' lp s lt kd : Addr} {T : Tabs} {m : Nat} {dn : Bool} (Wo : World K H p lr lp s lt kd T m dn) (kw : Kw p lr lp kd H H') (hl : lr' = lr ∨ H lr' = none) {c : Addr} {xs : List V} (h : H c = some (.lst xs)) (n1 : c ≠ lr) (n2 : c ≠ lp) : H' c = some (.lst xs) ∧ c ≠ lr' ∧ c ≠ lp := by
  obtain ⟨d, hist, f, j, torn, pg, sa, kvs, signs, O⟩ := Wo
  obtain ⟨dx, dv, h1, _⟩ := O.W.D.ob
  refine ⟨kw _ _ h (ne_of h h1 (by intro z; cases z)) n1 n2 (ne_of h O.W.kd_ (by intro z; cases z)), fun z => ?_, n2⟩
  subst z
  rcases hl with e | e
  · exact n1 e
  · rw [h] at e
    cases e
/-- a new disk -/
theorem wd0 {T : Tabs} (TO : TabsOk T) : Wd T [] dk0 0 [] [] fun _ => none := by
  have t4 : List.length T ≤ 4 := TO.len.2
  refine ⟨⟨rfl, ⟨fun s hs => (by cases hs), by omega, by show (0 : Int) + 1 + ((0 : Nat) : Int) ≤ 1000000000; omega, .inl rfl, Nat.zero_le _⟩, .inl rfl, fun _ h => (by cases h), fun k t cs h => ?_⟩, Nat.le_refl _, fun s hs => (by cases hs), .inl rfl, fun h0 m h1 e => ?_, fun k t cs h g hg => ?_, fun k t cs h => Nat.zero_le _, fun _ h => (by cases h)⟩
  · have hk := (List.getElem?_eq_some_iff.mp h).1
    have slot : ∀ i, i < 8 → SlotOk t cs dk0.pages i none := fun i hi => ⟨Str.empty, by show (List.replicate 8 Str.empty)[i]? = _; rw [List.getElem?_replicate, if_pos hi], Nat.zero_le _, fun z => (by cases z)⟩
    exact ⟨slot _ (by omega), slot _ (by omega)⟩
  · have := congrArg List.length e
    rw [List.length_append] at this
    simp at this
  · rcases hg with e | e <;> cases e
section
variable {P : Program} {w : PySem.World} {K : PySem.W.Frag} {mg : Str → Option Value} {base : Heap} {fd : FuncData}
theorem sc_law : FnScope ["_law_script", "_law_tables", "_law_orders", "_law_schema_here", "_law_disk", "_law_kept_here", "_law_name", "_law_columns", "_law_cell_here", "_law_draws_here", "_law_way"] ["_law_script"] d_law.scope := ⟨rfl, rfl, rfl, by decide +kernel, rfl, by decide +kernel, by decide +kernel⟩
theorem ok_law (T : Tx K mg) (F : Fd K d_law fd) {fdS fdD : FuncData} (I_Schema : FnOk P w K mg base CX0 4 (He.ma K (He.ga K "Schema") "__init__") fdS ["self", "tables", "orders"] (sp_S_init K)) (B_Schema : Binds K fdS ["self", "tables", "orders"] [])
    (I_Disk : FnOk P w K mg base CX0 1 (He.ma K (He.ga K "Disk") "__init__") fdD ["self"] (sp_D_init K)) (B_Disk : Binds K fdD ["self"] []) (D_l_schema : Df P w K mg base CX0 3 "_law_schema" ["_law_cell_here"] sp_l_schema) (D_l_cell : Df P w K mg base CX0 1 "_law_cell" ["_law_script", "_law_k"] (sp_l_cell K))
    (D_l_draws : Df P w K mg base CX0 1 "_law_draws" ["_law_cell_here", "_law_many"] sp_l_draws) (D_l_kept : Df P w K mg base CX0 6 "_law_kept" ["_law_disk", "_law_tables", "_law_kept_here", "_law_draws_here"] (sp_l_kept K))
    (D_l_paged : Df P w K mg base CX0 8 "_law_paged" ["_law_disk", "_law_schema_here", "_law_tables", "_law_kept_here", "_law_draws_here"] (sp_l_paged K)) (D_l_trimmed : Df P w K mg base CX0 8 "_law_trimmed" ["_law_disk", "_law_schema_here", "_law_kept_here"] (sp_l_trimmed K))
    (D_l_up : Df P w K mg base CX0 12 "_law_up" ["_law_disk", "_law_schema_here", "_law_kept_here", "_law_draws_here"] (sp_l_up K)) (D_seen : Df P w K mg base CX0 9 "seen" ["disk", "schema"] (sp_seen K)) (D_l_due : Df P w K mg base CX0 2 "_law_due" ["_law_kept_here"] sp_l_due)
    (M_fall_at : Md P w K mg base CX0 1 (DkC K) "fall_at" ["self", "after", "signs"] (sp_fall_at K)) :
    FnOk P w K mg base CX0 13 (He.fAd K d_law.at_) fd ["_law_script"] (sp_law K) := by
  refine ok0 F sc_law (fun vs H Q E h => ?_) (fun cdv A outer s H vs Q E hr h => ?_)
  · obtain ⟨_, _, rfl, _⟩ := h
    rfl
  · obtain ⟨a, ns, rfl, hS, k⟩ := h
    have hu := hu_of hr
    refine ⟨_, (pss_cons (ps_asg (pe_df D_l_schema (hr.mono (by decide)) pass0 (pa_cons (pe_df D_l_cell (hr.mono (by decide)) pass0 (pa_cons (pv 0) (pa_cons pe_int pa_nil))) pa_nil)) (pg_tup rfl (pgs_cons (pg_name (i := 1) sc_law.nd rfl (Or.inl rfl)) (pgs_cons (pg_name (i := 2) sc_law.nd rfl (Or.inl rfl)) pgs_nil))))
    (pss_cons (ps_set (i := 3) sc_law.nd rfl (Or.inl rfl) (pe_make T.k_Schema I_Schema (hr.mono (by decide)) rfl T.g_Schema B_Schema .nil pass0 (pa_cons (pv 1) (pa_cons (pv 2) pa_nil))))
    (pss_cons (ps_set (i := 4) sc_law.nd rfl (Or.inl rfl) (pe_make0 T.k_Disk I_Disk (hr.mono (by decide)) rfl T.g_Disk B_Disk .nil pass0))
    (pss_cons (ps_set (i := 5) sc_law.nd rfl (Or.inl rfl) (pe_disp (pps_cons pe_str (pe_callTy (call_dictP rfl) (by rfl) T.f_dict (by decide +kernel) (pa_cons (pe_lc (own := [("_law_name", 6), ("_law_columns", 7)]) (g := gTup K 2 (gCons (gName 6) (gCons (gName 7) gNil))) (tt := tYes) (te := tTup (tCons (tVar 6) (tCons tDNewK tNil))) rfl sc_law.nd (pi_list (pv 1)) (blkOk_by (N := ["_law_script", "_law_tables", "_law_orders", "_law_schema_here", "_law_disk", "_law_kept_here", "_law_name", "_law_columns", "_law_cell_here", "_law_draws_here", "_law_way"]) (sc := d_law.scope) (by decide +kernel)) (fun _ _ _ _ _ => (pg_tup rfl (pgs_cons (pg_name (i := 6) sc_law.nd rfl (Or.inl rfl)) (pgs_cons (pg_name (i := 7) sc_law.nd rfl (Or.inl rfl)) pgs_nil)))) (fun _ _ _ _ _ => pts_nil) (fun _ _ _ _ _ => (pe_tup (pa_cons (pv 6) (pa_cons pe_dnewK pa_nil))))) pa_nil)) (pps_cons pe_str pe_int (pps_cons pe_str pe_int (pps_cons pe_str pe_bl (pps_cons pe_str pe_int pps_nil))))) (by rfl) (by rfl) (fun z => by cases z) (by decide)))
    (pss_cons (ps_for PassesOwn.never rfl (pi_list (pe_op op_cat (pe_lst (pa_cons (pe_df D_l_cell (hr.mono (by decide)) pass0 (pa_cons (pv 0) (pa_cons pe_int pa_nil))) pa_nil)) (pe_slice sl_list (pv 0) (po_some pe_int) (po_some pe_int)))) (pg_name (i := 8) sc_law.nd rfl (Or.inl rfl)) (pss_cons (ps_set (i := 9) sc_law.nd rfl (Or.inl rfl) (pe_df D_l_draws (hr.mono (by decide)) pass0 (pa_cons (pv 8) (pa_cons pe_int pa_nil))))
    (pss_cons (ps_set (i := 10) sc_law.nd rfl (Or.inl rfl) (pe_op op_mod (pe_ix ix_list (pv 9) pe_int (fun _ _ => rfl)) pe_int))
    (pss_cons (ps_if (pt_cmpR op_lt (pv 10) pe_int (nomark _)) (pss_one (ps_expr (pe_df D_l_kept (hr.mono (by decide)) pass0 (pa_cons (pv 4) (pa_cons (pv 1) (pa_cons (pv 5) (pa_cons (pv 9) pa_nil))))))) (pss_one (ps_if (pt_cmpR op_eq (pv 10) pe_int (nomark _)) (pss_one (ps_expr (pe_df D_l_paged (hr.mono (by decide)) pass0 (pa_cons (pv 4) (pa_cons (pv 3) (pa_cons (pv 1) (pa_cons (pv 5) (pa_cons (pv 9) pa_nil)))))))) (pss_one (ps_if (pt_cmpR op_eq (pv 10) pe_int (nomark _)) (pss_one (ps_if (pt_not (pt_val (pe_df D_l_trimmed (hr.mono (by decide)) pass0 (pa_cons (pv 4) (pa_cons (pv 3) (pa_cons (pv 5) pa_nil)))))) (pss_one (ps_ret pe_bl)) pss_nil)) (pss_cons (ps_dput hu (pv 5) pe_str (pe_ix ix_list (pe_lst (pa_cons (pe_op op_mod (pe_ix ix_list (pv 9) pe_int (fun _ _ => rfl)) pe_int) (pa_cons pe_int (pa_cons pe_int pa_nil)))) (pe_op op_mod (pe_ix ix_list (pv 9) pe_int (fun _ _ => rfl)) pe_int) (fun _ _ => rfl)) rfl)
    (pss_one (ps_expr (pe_md M_fall_at (hr.mono (by decide)) pass0 (pv 4) (pa_cons (pe_op op_mod (pe_ix ix_list (pv 9) pe_int (fun _ _ => rfl)) pe_int) (pa_cons (pe_dget hu (pv 5) pe_str (fun _ _ => rfl)) pa_nil)))))))))))
    (pss_cons (ps_if (PW.pt (pw_and (pt_val (pe_dget hu (pv 5) pe_str (fun _ _ => rfl))) (pw_and1 (pt_not (pt_val (pe_df D_l_up (hr.mono (by decide)) pass0 (pa_cons (pv 4) (pa_cons (pv 3) (pa_cons (pv 5) (pa_cons (pe_slice sl_list (pv 9) (po_some pe_int) (po_some pe_int)) pa_nil)))))))))) (pss_one (ps_ret pe_bl)) pss_nil)
    (pss_one (ps_if (pt_cmpR (op_neT hr.units) (pe_df D_seen (hr.mono (by decide)) pass0 (pa_cons (pv 4) (pa_cons (pv 3) pa_nil))) (pe_df D_l_due (hr.mono (by decide)) pass0 (pa_cons (pv 5) pa_nil)) (nomark _)) (pss_one (ps_ret pe_bl)) pss_nil)))))))
    (pss_one (ps_ret pe_bl))))))), ?_⟩
    refine ⟨_, rfl, a, ns, 0, rfl, hS, fun c0 => ?_⟩
    refine ⟨c0, rfl, fun H1 q lt lo xs ys Tb os s1 hq hlt hpx TO hlo hpy OO => ?_⟩
    refine ⟨q, _, rfl, SqT.of hq, rfl, _, _, rfl, _, _, rfl, rfl, ?_⟩
    -- the schema
    refine ⟨_, rfl, _, rfl, fun sc dxs hsc hdxs hnes => ?_⟩
    have sa1 : Same H1 (upd (upd H1 dxs (.own sc)) sc (.ins (ScC K) dxs [])) := (Same.new hdxs).trans (Same.new (by rw [upd_ne hnes.symm]; exact hsc))
    refine ⟨sc, dxs, lt, xs, lo, ys, Tb, os, rfl, upd_same, sa1 _ _ hlt, paired_imp hpx fun _ _ => TabIn.same sa1, TO, sa1 _ _ hlo, paired_imp hpy fun _ _ => ColAt.ts sa1.ts, OO, fun H2 bt2 S2 => ⟨rfl, ?_⟩⟩
    have s2 : Same H1 H2 := fun b o hb => bt2 _ _ (sa1 _ _ hb) fun z => by
      subst z
      rw [hsc] at hb
      cases hb
    have s12 := s1.trans s2
    -- the disk
    intro p dxp hp hdxp hnep
    have sb1 : Same H2 (upd (upd H2 dxp (.own p)) p (.ins (DkC K) dxp [])) := (Same.new hdxp).trans (Same.new (by rw [upd_ne hnep.symm]; exact hp))
    refine ⟨p, dxp, rfl, upd_same, fun H3 lr lp bt3 hlr hlp D => ⟨rfl, ?_⟩⟩
    have s3 : Same H2 H3 := fun b o hb => bt3 _ _ (sb1 _ _ hb) fun z => by
      subst z
      rw [hp] at hb
      cases hb
    have flr : H2 lr = none := sb1.free hlr
    have flp : H2 lp = none := sb1.free hlp
    -- what was kept
    intro kd hkd
    have sK := Same.new (o := .dK []) hkd
    have hkd4 : (upd H3 kd (.dK [])) kd = some (.dK []) := upd_same
    have s14 := (s2.trans s3).trans sK
    generalize hH4 : upd H3 kd (.dK []) = H4 at sK hkd4 s14
    refine ⟨_, rfl, lt, rfl, ⟨_, SqL.of (s14 _ _ hlt)⟩, fun D0 hD0 => lc_it (walk_list (xs := xs)) (fun i H' => Same H4 H' ∧ ∃ (ps : List Addr) (kvs' : List (Key × V)), H' D0 = some (.lst (ps.map V.ref)) ∧ Paired (fun p kv => H' p = some (.tup [kV kv.1, kv.2])) ps kvs' ∧
      Paired (fun (t : Str × Cols) (kv : Key × V) => kv.1 = Sum.inr t.1 ∧ SubAt H' t (stT t.1 []) kv.2) (Tb.take i) kvs' ∧ (kvs'.map (·.2)).Nodup ∧ (∀ a, InSt kvs' a → H4 a = none))
      ⟨Same.new hD0, [], [], upd_same, .nil, .nil, List.nodup_nil, fun _ h => by cases h⟩ (fun i H' _ ⟨e, _⟩ => SqL.of (e _ _ (s14 _ _ hlt))) ?_ ?_⟩
    · rintro i x H5 H6 hi ⟨s5, ps, kvs', hD1, hp1, ht1, nd1, fr1⟩ ⟨rfl, hix⟩
      obtain ⟨t, ht, q0, l, ys', rfl, hq0, hl, hc⟩ := paired_at2 hpx hix
      have hm := List.mem_of_getElem? ht
      have lc := (TO.cols _ hm).len.1
      obtain ⟨c, cs', ecs⟩ : ∃ c cs', t.2 = c :: cs' := by
        cases e : t.2 with
        | nil =>
          rw [e] at lc
          exact absurd lc (by decide : ¬ (1 : Nat) ≤ 0)
        | cons c r => exact ⟨c, r, rfl⟩
      have T4 : List.length Tb ≤ 4 := TO.len.2
      refine ⟨q0, _, rfl, SqT.of ((s14.trans s5) _ _ hq0), rfl, _, _, rfl, _, _, rfl, rfl, rfl, tyes ?_⟩
      refine ⟨_, rfl, fun p0 hp0 => ⟨two_small, fun q2 hq2 => ?_⟩⟩
      have e2 := Same.new (o := .dK []) hp0
      have e3 := Same.new (o := .tup [V.str t.1, V.ref p0]) hq2
      have e23 := e2.trans e3
      have lps : ps.length ≤ 4 := by
        rw [paired_len hp1, ← paired_len ht1, List.length_take]
        omega
      refine ⟨ps.map V.ref, e23 _ _ hD1, by rw [List.length_map]; exact small1000 (by omega), ?_⟩
      obtain ⟨H7, hH7⟩ : ∃ H7, H7 = upd (upd (upd H6 p0 (.dK [])) q2 (.tup [V.str t.1, V.ref p0])) D0 (.lst (ps.map V.ref ++ [.ref q2])) := ⟨_, rfl⟩
      have keep : ∀ b o, H6 b = some o → b ≠ D0 → H7 b = some o := fun b o hb hne => by
        rw [hH7, upd_ne hne]
        exact e23 _ _ hb
      have ts3 : TS H6 H7 := fun e zs he => keep e _ he fun z => by
        subst z
        rw [hD1] at he
        cases he
      have np : p0 ≠ D0 := (ne_of_none hD1 hp0).symm
      have nq : q2 ≠ D0 := (ne_of_none (e2 _ _ hD1) hq2).symm
      have hp3 : H7 p0 = some (.dK []) := by
        rw [hH7, upd_ne np]
        exact e3 _ _ upd_same
      have hq3 : H7 q2 = some (.tup [V.str t.1, V.ref p0]) := by
        rw [hH7, upd_ne nq]
        exact upd_same
      rw [← hH7]
      refine ⟨hH7 ▸ Same.mut (s5.trans e23) hD0, ps ++ [q2], kvs' ++ [(Sum.inr t.1, .ref p0)], ?_, paired_snoc (paired_imp hp1 fun p kv hh => ts3 _ _ hh) (show H7 q2 = some (.tup [kV (Sum.inr t.1), V.ref p0]) from hq3), ?_, ?_, ?_⟩
      · rw [hH7, upd_same, List.map_append]
        rfl
      · rw [take_snoc ht]
        refine paired_snoc (paired_imp ht1 fun t' kv ⟨e, a', ks', c', cs2, e1, e2, h1, h2, h3⟩ => ⟨e, a', ks', c', cs2, e1, e2, keep _ _ h1 ?_, h2, h3.ts ts3⟩) ⟨rfl, p0, [], c, cs', rfl, ecs, hp3, Nat.zero_le _, FoundAt.nl _ _⟩
        intro z
        subst z
        rw [hD1] at h1
        cases h1
      · rw [List.map_append, List.nodup_append]
        refine ⟨nd1, by simp, fun x hx y hy e => ?_⟩
        rw [List.map_cons, List.map_nil, List.mem_singleton] at hy
        subst hy
        subst e
        obtain ⟨kv, hkv1, ekv⟩ := List.mem_map.mp hx
        obtain ⟨t', _, _, a', ks', _, _, e1, _, h1, _, _⟩ := paired_mem ht1 kv hkv1
        rw [e1] at ekv
        cases ekv
        rw [hp0] at h1
        cases h1
      · intro a' ha'
        unfold InSt at ha'
        rw [List.map_append] at ha'
        rcases List.mem_append.mp ha' with h | h
        · exact fr1 a' h
        · rw [List.map_cons, List.map_nil, List.mem_singleton] at h
          cases h
          exact s5.free hp0
    rintro H5 ⟨s5, ps, kvs', hD5, hp5, ht5, nd5, fr5⟩
    rw [← paired_len hpx, List.take_length] at ht5
    have keys : (kvs'.map (·.1)).Nodup := by
      rw [pair_keys ht5]
      exact inr_nd TO
    refine ⟨D0, ps, kvs', rfl, SqL.of hD5, paired_imp hp5 fun p kv hh => SqT.of hh, fun sa hsa => ?_⟩
    rw [mergeK_nd (acc := []) keys, List.nil_append]
    have s6 := Same.new (o := .dK kvs') hsa
    have hkd6 := s6 _ _ (s5 _ _ hkd4)
    have hsa6 : (upd H5 sa (.dK kvs')) sa = some (.dK kvs') := upd_same
    generalize hH6 : upd H5 sa (.dK kvs') = H6 at s6 hkd6 hsa6
    have nks : kd ≠ sa := ne_of_none (s5 _ _ hkd4) hsa
    have nin : ¬ InSt kvs' kd := fun z => by
      have := fr5 kd z
      rw [hkd4] at this
      cases this
    have st6 : StAt H6 Tb [] sa kvs' := ⟨hsa6, paired_imp ht5 fun t kv ⟨e, h⟩ => ⟨e, h.same s6⟩, nd5, fun z => by
      obtain ⟨kv, hkv, ekv⟩ := List.mem_map.mp z
      obtain ⟨t', _, _, a', ks', _, _, e1, _, h1, _, _⟩ := paired_mem ht5 kv hkv
      rw [e1] at ekv
      cases ekv
      rw [hsa] at h1
      cases h1⟩
    refine ⟨hkd6, kdL sa (([] : List Stf).length) (keeps []) false 0, rfl, (by show 5 ≤ 15; decide), ?_⟩
    rw [mergeK_nd (acc := []) kd_nd, List.nil_append]
    have b7 : Bx kd H6 (upd H6 kd (.dK (kdL sa (([] : List Stf).length) (keeps []) false 0))) := fun x o hx hne => by
      rw [upd_ne hne]
      exact hx
    have s37 : Same H3 (upd H6 kd (.dK (kdL sa (([] : List Stf).length) (keeps []) false 0))) := Same.mut ((sK.trans s5).trans s6) hkd
    have hkd7 : (upd H6 kd (.dK (kdL sa (([] : List Stf).length) (keeps []) false 0))) kd = some (.dK (kdL sa (([] : List Stf).length) (keeps []) false 0)) := upd_same
    have st7 := st6.bx b7 hkd6 nks nin
    generalize hH7 : upd H6 kd (.dK (kdL sa (([] : List Stf).length) (keeps []) false 0)) = H7 at s37 hkd7 st7
    have s27 := s3.trans s37
    have nlrs : ∀ b o, H2 b = some o → b ≠ lr ∧ b ≠ lp := fun b o hb => ⟨ne_of_none hb flr, ne_of_none hb flp⟩
    have W7 : WAt K H7 p lr lp sc lt kd Tb dk0 [] sa kvs' false 0 := ⟨D.same s37, S2.same s27, ⟨xs, s27 _ _ (s2 _ _ hlt), paired_imp hpx fun t x ⟨q, l, ys, e, g1, g2, g3⟩ => ⟨q, l, ys, e, s27 _ _ (s2 _ _ g1), s27 _ _ (s2 _ _ g2), paired_imp g3 fun _ _ => ColAt.ts (s2.trans s27).ts, (nlrs _ _ (s2 _ _ g2)).1, (nlrs _ _ (s2 _ _ g2)).2⟩, (nlrs _ _ (s2 _ _ hlt)).1, (nlrs _ _ (s2 _ _ hlt)).2⟩, hkd7, st7, nks, nin⟩
    have Wo7 : World K H7 p lr lp sc lt kd Tb 0 false := ⟨dk0, [], 0, [], [], fun _ => none, sa, kvs', 0, W7, wd0 TO, rfl, fun _ => ⟨rfl, rfl⟩, fun _ _ e => (by cases e), Nat.le_refl _⟩
    have hS7 := (s12.trans s27).seq hS
    -- the cells
    obtain ⟨cs, hcs, lcs⟩ := cutV_int ns 2 26
    refine ⟨_, rfl, a, ns, 1, rfl, hS7, fun c1 => ⟨(by show 1 ≤ sizeLine; decide), fun l1 hl1 => ?_⟩⟩
    have s8 := Same.new (o := .lst [V.int c1]) hl1
    refine ⟨_, rfl, _, rfl, _, rfl, a, _, rfl, s8.seq hS7, fun r hr2 => ?_⟩
    have s9 := Same.new (o := .lst (cutV (ns.map V.int) (some 2) (some 26))) hr2
    have hr3 : (upd (upd H7 l1 (.lst [V.int c1])) r (.lst (cutV (ns.map V.int) (some 2) (some 26)))) r = some (.lst (cs.map V.int)) := by
      rw [upd_same]
      exact congrArg (fun l => some (HO.lst l)) hcs
    have hl3 := s9 _ _ (upd_same (H := H7) (a := l1) (o := .lst [V.int c1]))
    generalize upd (upd H7 l1 (.lst [V.int c1])) r (.lst (cutV (ns.map V.int) (some 2) (some 26))) = H8 at s9 hr3 hl3 ⊢
    refine ⟨l1, r, _, _, rfl, rfl, hl3, hr3, Nat.le_trans (by rw [List.length_map]; exact (show 1 + cs.length ≤ 100 by omega)) (by decide), fun cl hcl => ?_⟩
    have s10 := Same.new (o := .lst ([V.int c1] ++ cs.map V.int)) hcl
    have hcl1 : (upd H8 cl (.lst ([V.int c1] ++ cs.map V.int))) cl = some (.lst ((c1 :: cs).map V.int)) := upd_same
    generalize upd H8 cl (.lst ([V.int c1] ++ cs.map V.int)) = H9 at s10 hcl1 ⊢
    have s79 := (s8.trans s9).trans s10
    have Wo9 := Wo7.same s79
    have ncl : ∀ b o, H7 b = some o → cl ≠ b := fun b o hb => (ne_of_none ((s8.trans s9) _ _ hb) hcl).symm
    refine ⟨cl, rfl, ⟨_, SqL.of hcl1⟩, for_it (walk_list (xs := (c1 :: cs).map V.int)) (fun i σ H' => ∃ lr' u8 u9 u10, σ = [some (.ref a), some (.ref lt), some (.ref lo), some (.ref sc), some (.ref p), some (.ref kd), none, none, u8, u9, u10] ∧ World K H' p lr' lp sc lt kd Tb (4 * i) false ∧ H' cl = some (.lst ((c1 :: cs).map V.int)) ∧ cl ≠ lr' ∧ cl ≠ lp)
      ⟨lr, _, _, _, rfl, Wo9.mono (Nat.zero_le _), hcl1, ncl _ _ W7.D.rw, ncl _ _ W7.D.pg⟩ (fun i σ H' _ ⟨_, _, _, _, _, _, e, _⟩ => SqL.of e) ?_ ?_⟩
    · clear Wo9 Wo7 hS7
      rintro i x σ HA HB hi ⟨lr', u8, u9, u10, rfl, Wo, hclA, n1, n2⟩ ⟨rfl, hx⟩
      have hi27 : i < 27 := by
        rw [List.length_map, List.length_cons] at hi
        omega
      rw [List.getElem?_map] at hx
      obtain ⟨c, hc⟩ : ∃ c, (c1 :: cs)[i]? = some c := by
        cases q : (c1 :: cs)[i]? with
        | none =>
          rw [q] at hx
          cases hx
        | some c => exact ⟨c, rfl⟩
      rw [hc] at hx
      obtain rfl := Option.some.inj hx
      refine ⟨_, rfl, c, 6, rfl, by decide, fun HC dr nd sC ndr hl hnd => ?_⟩
      obtain ⟨m0, m1, m2, m3, m4, m5, rfl⟩ : ∃ m0 m1 m2 m3 m4 m5, nd = [m0, m1, m2, m3, m4, m5] := by
        match nd, hl with
        | [a, b, c, d, e, f], _ => exact ⟨_, _, _, _, _, _, rfl⟩
      obtain ⟨hdr, hnn⟩ := hnd
      have WoC := Wo.same sC
      have hclC := sC _ _ hclA
      have ndl : dr ≠ lr' ∧ dr ≠ lp := by
        obtain ⟨d, hist, f, j, torn, pg, sa, kvs, signs, O⟩ := Wo
        exact ⟨(ne_of_none O.W.D.rw ndr).symm, (ne_of_none O.W.D.pg ndr).symm⟩
      refine ⟨_, rfl, dr, _, _, _, rfl, rfl, SqL.of hdr, nums_at (j := 2) rfl rfl, _, _, rfl, rfl, (show (0 : Int) < 8 by decide), ?_⟩
      apply via (C := fun HD => ∃ lr12 dn, World K HD p lr12 lp sc lt kd Tb (4 * i + 4) dn ∧ (HD cl = some (.lst ((c1 :: cs).map V.int)) ∧ cl ≠ lr12 ∧ cl ≠ lp) ∧ (HD dr = some (.lst ([m0, m1, m2, m3, m4, m5].map V.int)) ∧ dr ≠ lr12 ∧ dr ≠ lp))
      · intro go
        have done : ∀ HD lr12 dn m', Kw p lr' lp kd HC HD → (lr12 = lr' ∨ HC lr12 = none) → m' ≤ 4 * i + 4 → World K HD p lr12 lp sc lt kd Tb m' dn → ∃ lr12 dn, World K HD p lr12 lp sc lt kd Tb (4 * i + 4) dn ∧ (HD cl = some (.lst ((c1 :: cs).map V.int)) ∧ cl ≠ lr12 ∧ cl ≠ lp) ∧ (HD dr = some (.lst ([m0, m1, m2, m3, m4, m5].map V.int)) ∧ dr ≠ lr12 ∧ dr ≠ lp) := fun HD lr12 dn m' kw hl hm' WoD =>
          ⟨lr12, dn, WoD.mono hm', kw_lst WoC kw hl hclC n1 n2, kw_lst WoC kw hl hdr ndl.1 ndl.2⟩
        refine ⟨_, rfl, _, _, rfl, rfl, _, rfl, ?_⟩
        by_cases h4 : m2 % 8 < 4
        · refine if_t (decide_eq_true h4) ?_
          exact ⟨_, rfl, _, rfl, _, rfl, _, rfl, p, lr', lp, sc, lt, kd, Tb, 4 * i, dr, [m0, m1, m2, m3, m4, m5], rfl, WoC, ⟨hdr, hnn⟩, rfl, by omega, fun HD dn kw WoD => go HD (done HD lr' dn _ kw (.inl rfl) (Nat.le_refl _) WoD)⟩
        refine if_f (decide_eq_false h4) ?_
        refine ⟨_, rfl, rfl, _, rfl, ?_⟩
        by_cases h5 : V.int (m2 % 8) = V.int 4
        · refine if_t (decide_eq_true h5) ?_
          exact ⟨_, rfl, _, rfl, _, rfl, _, rfl, _, rfl, p, lr', lp, sc, lt, kd, Tb, 4 * i, dr, [m0, m1, m2, m3, m4, m5], rfl, WoC, ⟨hdr, hnn⟩, rfl, by omega, fun HD dn kw WoD => go HD (done HD lr' dn _ kw (.inl rfl) (by omega) WoD)⟩
        refine if_f (decide_eq_false h5) ?_
        refine ⟨_, rfl, rfl, _, rfl, ?_⟩
        by_cases h6 : V.int (m2 % 8) = V.int 5
        · refine if_t (decide_eq_true h6) ?_
          exact ⟨_, rfl, _, rfl, _, rfl, p, lr', lp, sc, lt, kd, Tb, 4 * i, rfl, WoC, by omega, fun HD lr12 dn kw hl12 WoD => ⟨_, rfl, iteF (go HD (done HD lr12 dn _ kw hl12 (by omega) WoD))⟩⟩
        refine if_f (decide_eq_false h6) ?_
        refine ⟨_, rfl, dr, _, _, _, rfl, rfl, SqL.of hdr, nums_at (j := 0) rfl rfl, _, _, rfl, rfl, (show (0 : Int) < 40 by decide), (by show 3 ≤ sizeLine; decide), fun p3 hp3 => ?_⟩
        have sD := Same.new (o := .lst [V.int (m0 % 40), V.int 0, V.int 99]) hp3
        obtain ⟨sg, hsg, sg0⟩ : ∃ sg : Int, atI [V.int (m0 % 40), V.int 0, V.int 99] (m1 % 3) = some (V.int sg) ∧ 0 ≤ sg := by
          have j0 : 0 ≤ m1 % 3 := Int.emod_nonneg _ (by decide)
          have j1 : m1 % 3 < 3 := Int.emod_lt_of_pos _ (by decide)
          rcases (by omega : m1 % 3 = ((0 : Nat) : Int) ∨ m1 % 3 = ((1 : Nat) : Int) ∨ m1 % 3 = ((2 : Nat) : Int)) with e | e | e
          · exact ⟨m0 % 40, by rw [e]; exact atI_nat (j := 0) rfl, Int.emod_nonneg _ (by decide)⟩
          · exact ⟨0, by rw [e]; exact atI_nat (j := 1) rfl, Int.le_refl _⟩
          · exact ⟨99, by rw [e]; exact atI_nat (j := 2) rfl, by decide⟩
        obtain ⟨d, hist, f, j, torn, pg, sa, kvs, signs, O⟩ := WoC.same sD
        have W1 := O.W.put (down' := false) (signs' := sg) O.W.st O.W.ap.1 O.W.ap.2
        have hdrD := sD _ _ hdr
        have b1 : Bx kd (upd HC p3 (.lst [V.int (m0 % 40), V.int 0, V.int 99])) (upd (upd HC p3 (.lst [V.int (m0 % 40), V.int 0, V.int 99])) kd (.dK (kdL sa hist.length (keeps hist) false sg))) := fun x o hx hne => by
          rw [upd_ne hne]
          exact hx
        have hdrE := b1 _ _ hdrD (ne_of hdrD O.W.kd_ (by intro z; cases z))
        refine ⟨_, rfl, dr, _, _, _, rfl, rfl, SqL.of hdrD, nums_at (j := 1) rfl rfl, _, _, rfl, rfl, (show (0 : Int) < 3 by decide), p3, _, _, _, rfl, rfl, SqL.of upd_same, hsg, _, rfl, kd, _, rfl, .inl ⟨_, Sum.inr ("signs" : Str), O.W.kd_, rfl, (by show 5 < sizeLine; decide), rfl⟩, ?_⟩
        rw [kd_put_signs]
        obtain ⟨dx1, dv1, hd1, _⟩ := W1.D.ob
        refine ⟨_, rfl, p, dx1, _, rfl, hd1, dfl_no (by decide +kernel) (by decide +kernel) (by decide +kernel) (by decide +kernel) (by decide +kernel), _, rfl, dr, _, _, _, rfl, rfl, SqL.of hdrE, nums_at (j := 3) rfl rfl, _, _, rfl, rfl, (show (0 : Int) < 4 by decide), _, rfl, kd, _, rfl, (by rw [← kd_signs (sa := sa) (last := hist.length) (many := keeps hist) (down := false) (signs := sg)]; exact DGet.k (k := Sum.inr ("signs" : Str)) W1.kd_), p, lr', lp, d, _, sg, rfl, W1.D, fun HD bt DD => ?_⟩
        refine go HD (done HD lr' false (4 * i) ((Kw.put sD.kw).bt3 bt) (.inl rfl) (by omega) ⟨_, hist, f, j, torn, pg, sa, kvs, sg, W1.bt3 bt (.inl rfl) DD, O.M.eq rfl rfl, O.dn, O.cl, fun a g e => ?_, O.few⟩)
        cases e
        exact ⟨rfl, sg0⟩
      rintro HD ⟨lr12, dn, WoD, ⟨hclD, nc1, nc2⟩, ⟨hdrD, nd1, nd2⟩⟩
      apply via (C := fun HE => ∃ lr13, World K HE p lr13 lp sc lt kd Tb (4 * i + 4) false ∧ (HE cl = some (.lst ((c1 :: cs).map V.int)) ∧ cl ≠ lr13 ∧ cl ≠ lp))
      · intro go
        have hkdD : ∃ sa last many signs, HD kd = some (.dK (kdL sa last many dn signs)) := by
          obtain ⟨d, hist, f, j, torn, pg, sa, kvs, signs, O⟩ := WoD
          exact ⟨_, _, _, _, O.W.kd_⟩
        obtain ⟨sa, last, many, signs, hkdD⟩ := hkdD
        refine ⟨_, rfl, kd, _, rfl, (by rw [← kd_down (sa := sa) (last := last) (many := many) (down := dn) (signs := signs)]; exact DGet.k (k := Sum.inr ("down" : Str)) hkdD), dn, rfl, ?_⟩
        cases dn with
        | false =>
          refine if_f rfl (iteF ?_)
          exact go HD ⟨lr12, WoD, hclD, nc1, nc2⟩
        | true =>
          refine if_t rfl ?_
          refine ⟨_, rfl, _, rfl, _, rfl, _, rfl, _, rfl, _, rfl, dr, _, rfl, SqL.of hdrD, fun r2 hr4 => ?_⟩
          have sE := Same.new (o := .lst ([m4, m5].map V.int)) hr4
          have WoE := WoD.same sE
          have nr : r2 ≠ lr12 ∧ r2 ≠ lp := by
            obtain ⟨d, hist, f, j, torn, pg, sa, kvs, signs, O⟩ := WoD
            exact ⟨(ne_of_none O.W.D.rw hr4).symm, (ne_of_none O.W.D.pg hr4).symm⟩
          refine ⟨p, lr12, lp, sc, lt, kd, Tb, 4 * i + 4, r2, [m4, m5], rfl, WoE, ⟨⟨upd_same, fun n hn => hnn n ?_⟩, nr.1, nr.2⟩, rfl, by omega, fun HF lr13 kw hl13 WoF => ⟨true, rfl, iteF ?_⟩⟩
          · simp only [List.mem_cons, List.not_mem_nil, or_false] at hn ⊢
            rcases hn with e | e <;> simp [e]
          · exact go HF ⟨lr13, WoF, kw_lst WoE kw hl13 (sE _ _ hclD) nc1 nc2⟩
      rintro HE ⟨lr13, WoE, hclE, ne1, ne2⟩
      have WoE' := WoE
      obtain ⟨d, hist, f, j, torn, pg, sa, kvs, signs, O⟩ := WoE
      obtain ⟨Lf, hL⟩ := lists_fn TO O.M.hok
      have h64 : ∀ t ∈ Tb, (Lf t.1).length < 64 := fun t ht => Nat.lt_of_le_of_lt (O.W.st.short TO hL t ht) (by decide)
      have hF := flatF TO O.M.hok hL
      refine ⟨_, rfl, _, rfl, ?_⟩
      dsimp only [tNil]
      refine seen_viaW O.W O.M hL h64 fun q1 HF sF du => ?_
      have WF := O.W.same sF
      refine ⟨_, rfl, kd, Tb, hist, sa, kvs, _, _, _, _, Lf, rfl, WF.kd_, TO, WF.st, hL, fun HG q2 sG hdu => ?_⟩
      refine neT_via TO hF (du.same sG) (hdu lr13 lp _ _ WF.D.rw WF.D.pg).t ⟨_, rfl, iteF ?_⟩
      have sFG := sF.trans sG
      exact ⟨lr13, _, _, _, rfl, WoE'.same sFG, sFG _ _ hclE, ne1, ne2⟩
    rintro σ HA ⟨lr', u8, u9, u10, rfl, _⟩
    exact k HA
end
end Fl

set_option Elab.async false
set_option linter.all false
set_option maxRecDepth 100000
set_option maxHeartbeats 0
/-! The assembly. -/
namespace Fl
open PySem PySem.Spec PyProof.Rows L2
theorem facts {P : Program} {w : PySem.World} {K : PySem.W.Frag} {h : Heap} {mg : Str → Option Value} {f : Addr} (X : K.In h) (G : h.Ns mainGlobals mg) (hfa : mg ("law" : Str) = some (.ref f)) (c : He.SaysD fa fn K) :
    ∃ fd : FuncData, (∀ (s : Shared) (v : Value), BindsTo s fd ⟨[v], []⟩ [("_law_script", v)]) ∧ ∀ base : Heap, K.In base → base.Ns mainGlobals mg → FnOk P w K mg base CX0 13 f fd ["_law_script"] (sp_law K) := by
  have T := tx_of X G c
  obtain ⟨fd, F⟩ := fd_of c 63 (d := d_law) rfl
  have e := hfa.symm.trans T.g_law
  cases e
  have b := FunD.bindsA (ps := ["_law_script"]) F fun _ _ _ _ _ _ us hl => match us, hl with | [_], _ => rfl
  refine ⟨fd, fun s v => b s [v] rfl, fun base _ _ => ?_⟩
  obtain ⟨fd_is_name, F_is_name⟩ := fd_of c 0 (d := d_is_name) rfl
  have G_is_name : FnOk P w K mg base CX0 1 (He.fAd K d_is_name.at_) fd_is_name ["thing"] sp_is_name := ok_is_name T F_is_name
  have B_is_name : Binds K fd_is_name ["thing"] [] := F_is_name.bindsN fun _ _ _ _ _ _ us hl => match us, hl with | [_], _ => rfl
  have D_is_name : Df P w K mg base CX0 1 "is_name" ["thing"] sp_is_name := ⟨_, _, G_is_name, T.g_is_name, F_is_name.kp, B_is_name⟩
  obtain ⟨fd_is_kind, F_is_kind⟩ := fd_of c 1 (d := d_is_kind) rfl
  have G_is_kind : FnOk P w K mg base CX0 1 (He.fAd K d_is_kind.at_) fd_is_kind ["thing"] sp_is_kind := ok_is_kind T F_is_kind
  have B_is_kind : Binds K fd_is_kind ["thing"] [] := F_is_kind.bindsN fun _ _ _ _ _ _ us hl => match us, hl with | [_], _ => rfl
  have D_is_kind : Df P w K mg base CX0 1 "is_kind" ["thing"] sp_is_kind := ⟨_, _, G_is_kind, T.g_is_kind, F_is_kind.kp, B_is_kind⟩
  obtain ⟨fd_value_text, F_value_text⟩ := fd_of c 2 (d := d_value_text) rfl
  have G_value_text : FnOk P w K mg base CX0 1 (He.fAd K d_value_text.at_) fd_value_text ["value"] sp_value_text := ok_value_text T F_value_text
  have B_value_text : Binds K fd_value_text ["value"] [] := F_value_text.bindsN fun _ _ _ _ _ _ us hl => match us, hl with | [_], _ => rfl
  have D_value_text : Df P w K mg base CX0 1 "value_text" ["value"] sp_value_text := ⟨_, _, G_value_text, T.g_value_text, F_value_text.kp, B_value_text⟩
  obtain ⟨fd_figures_in, F_figures_in⟩ := fd_of c 3 (d := d_figures_in) rfl
  have G_figures_in : FnOk P w K mg base CX0 1 (He.fAd K d_figures_in.at_) fd_figures_in ["text"] sp_figures_in := ok_figures_in T F_figures_in
  have B_figures_in : Binds K fd_figures_in ["text"] [] := F_figures_in.bindsN fun _ _ _ _ _ _ us hl => match us, hl with | [_], _ => rfl
  have D_figures_in : Df P w K mg base CX0 1 "figures_in" ["text"] sp_figures_in := ⟨_, _, G_figures_in, T.g_figures_in, F_figures_in.kp, B_figures_in⟩
  obtain ⟨fd_value_in, F_value_in⟩ := fd_of c 4 (d := d_value_in) rfl
  have G_value_in : FnOk P w K mg base CX0 2 (He.fAd K d_value_in.at_) fd_value_in ["kind", "text"] sp_value_in := ok_value_in T F_value_in D_is_name D_figures_in
  have B_value_in : Binds K fd_value_in ["kind", "text"] [] := F_value_in.bindsN fun _ _ _ _ _ _ us hl => match us, hl with | [_, _], _ => rfl
  have D_value_in : Df P w K mg base CX0 2 "value_in" ["kind", "text"] sp_value_in := ⟨_, _, G_value_in, T.g_value_in, F_value_in.kp, B_value_in⟩
  obtain ⟨fd_count_in, F_count_in⟩ := fd_of c 6 (d := d_count_in) rfl
  have G_count_in : FnOk P w K mg base CX0 3 (He.fAd K d_count_in.at_) fd_count_in ["word"] sp_count_in := ok_count_in T F_count_in D_value_in
  have B_count_in : Binds K fd_count_in ["word"] [] := F_count_in.bindsN fun _ _ _ _ _ _ us hl => match us, hl with | [_], _ => rfl
  have D_count_in : Df P w K mg base CX0 3 "count_in" ["word"] sp_count_in := ⟨_, _, G_count_in, T.g_count_in, F_count_in.kp, B_count_in⟩
  obtain ⟨fd_values_in, F_values_in⟩ := fd_of c 7 (d := d_values_in) rfl
  have G_values_in : FnOk P w K mg base CX0 3 (He.fAd K d_values_in.at_) fd_values_in ["columns", "words"] sp_values_in := ok_values_in T F_values_in D_value_in
  have B_values_in : Binds K fd_values_in ["columns", "words"] [] := F_values_in.bindsN fun _ _ _ _ _ _ us hl => match us, hl with | [_, _], _ => rfl
  have D_values_in : Df P w K mg base CX0 3 "values_in" ["columns", "words"] sp_values_in := ⟨_, _, G_values_in, T.g_values_in, F_values_in.kp, B_values_in⟩
  obtain ⟨fd_row_text, F_row_text⟩ := fd_of c 5 (d := d_row_text) rfl
  have G_row_text : FnOk P w K mg base CX0 2 (He.fAd K d_row_text.at_) fd_row_text ["number", "stuff"] sp_row_text := ok_row_text T F_row_text D_value_text
  have B_row_text : Binds K fd_row_text ["number", "stuff"] [] := F_row_text.bindsN fun _ _ _ _ _ _ us hl => match us, hl with | [_, _], _ => rfl
  have D_row_text : Df P w K mg base CX0 2 "row_text" ["number", "stuff"] sp_row_text := ⟨_, _, G_row_text, T.g_row_text, F_row_text.kp, B_row_text⟩
  obtain ⟨fd_need_table, F_need_table⟩ := fd_of c 43 (d := d_S_need_table) rfl
  have G_need_table : FnOk P w K mg base CX0 2 (He.fAd K d_S_need_table.at_) fd_need_table ["self", "table"] (sp_need_table K) := ok_need_table T F_need_table D_is_name
  have B_need_table : Binds K fd_need_table ["self", "table"] [] := F_need_table.bindsN fun _ _ _ _ _ _ us hl => match us, hl with | [_, _], _ => rfl
  have M_need_table : Md P w K mg base CX0 2 (ScC K) "need_table" ["self", "table"] (sp_need_table K) := ⟨T.c_Schema, _, _, G_need_table, T.m_Schema_need_table, B_need_table⟩
  obtain ⟨fd_table_names, F_table_names⟩ := fd_of c 44 (d := d_S_table_names) rfl
  have G_table_names : FnOk P w K mg base CX0 1 (He.fAd K d_S_table_names.at_) fd_table_names ["self"] (sp_table_names K) := ok_table_names T F_table_names
  have B_table_names : Binds K fd_table_names ["self"] [] := F_table_names.bindsN fun _ _ _ _ _ _ us hl => match us, hl with | [_], _ => rfl
  have M_table_names : Md P w K mg base CX0 1 (ScC K) "table_names" ["self"] (sp_table_names K) := ⟨T.c_Schema, _, _, G_table_names, T.m_Schema_table_names, B_table_names⟩
  obtain ⟨fd_columns_of, F_columns_of⟩ := fd_of c 45 (d := d_S_columns_of) rfl
  have G_columns_of : FnOk P w K mg base CX0 3 (He.fAd K d_S_columns_of.at_) fd_columns_of ["self", "table"] (sp_columns_of K) := ok_columns_of T F_columns_of M_need_table
  have B_columns_of : Binds K fd_columns_of ["self", "table"] [] := F_columns_of.bindsN fun _ _ _ _ _ _ us hl => match us, hl with | [_, _], _ => rfl
  have M_columns_of : Md P w K mg base CX0 3 (ScC K) "columns_of" ["self", "table"] (sp_columns_of K) := ⟨T.c_Schema, _, _, G_columns_of, T.m_Schema_columns_of, B_columns_of⟩
  obtain ⟨fd_stuff_in, F_stuff_in⟩ := fd_of c 8 (d := d_stuff_in) rfl
  have G_stuff_in : FnOk P w K mg base CX0 4 (He.fAd K d_stuff_in.at_) fd_stuff_in ["schema", "words"] (sp_stuff_in K) := ok_stuff_in T F_stuff_in D_count_in D_values_in M_table_names M_columns_of
  have B_stuff_in : Binds K fd_stuff_in ["schema", "words"] [] := F_stuff_in.bindsN fun _ _ _ _ _ _ us hl => match us, hl with | [_, _], _ => rfl
  have D_stuff_in : Df P w K mg base CX0 4 "stuff_in" ["schema", "words"] (sp_stuff_in K) := ⟨_, _, G_stuff_in, T.g_stuff_in, F_stuff_in.kp, B_stuff_in⟩
  obtain ⟨fd_row_in, F_row_in⟩ := fd_of c 9 (d := d_row_in) rfl
  have G_row_in : FnOk P w K mg base CX0 5 (He.fAd K d_row_in.at_) fd_row_in ["schema", "thing"] (sp_row_in K) := ok_row_in T F_row_in D_count_in D_stuff_in
  have B_row_in : Binds K fd_row_in ["schema", "thing"] [] := F_row_in.bindsN fun _ _ _ _ _ _ us hl => match us, hl with | [_, _], _ => rfl
  have D_row_in : Df P w K mg base CX0 5 "row_in" ["schema", "thing"] (sp_row_in K) := ⟨_, _, G_row_in, T.g_row_in, F_row_in.kp, B_row_in⟩
  obtain ⟨fd_whole_rows, F_whole_rows⟩ := fd_of c 10 (d := d_whole_rows) rfl
  have G_whole_rows : FnOk P w K mg base CX0 6 (He.fAd K d_whole_rows.at_) fd_whole_rows ["schema", "texts"] (sp_whole_rows K) := ok_whole_rows T F_whole_rows D_row_in
  have B_whole_rows : Binds K fd_whole_rows ["schema", "texts"] [] := F_whole_rows.bindsN fun _ _ _ _ _ _ us hl => match us, hl with | [_, _], _ => rfl
  have D_whole_rows : Df P w K mg base CX0 6 "whole_rows" ["schema", "texts"] (sp_whole_rows K) := ⟨_, _, G_whole_rows, T.g_whole_rows, F_whole_rows.kp, B_whole_rows⟩
  obtain ⟨fd_kept_many_rows, F_kept_many_rows⟩ := fd_of c 11 (d := d_kept_many_rows) rfl
  have G_kept_many_rows : FnOk P w K mg base CX0 7 (He.fAd K d_kept_many_rows.at_) fd_kept_many_rows ["schema", "texts"] (sp_kept_many_rows K) := ok_kept_many_rows T F_kept_many_rows D_whole_rows
  have B_kept_many_rows : Binds K fd_kept_many_rows ["schema", "texts"] [] := F_kept_many_rows.bindsN fun _ _ _ _ _ _ us hl => match us, hl with | [_, _], _ => rfl
  have D_kept_many_rows : Df P w K mg base CX0 7 "kept_many_rows" ["schema", "texts"] (sp_kept_many_rows K) := ⟨_, _, G_kept_many_rows, T.g_kept_many_rows, F_kept_many_rows.kp, B_kept_many_rows⟩
  obtain ⟨fd_D_init, F_D_init⟩ := fd_of c 25 (d := d_D_init) rfl
  have G_D_init : FnOk P w K mg base CX0 1 (He.fAd K d_D_init.at_) fd_D_init ["self"] (sp_D_init K) := ok_D_init T F_D_init
  have B_D_init : Binds K fd_D_init ["self"] [] := F_D_init.bindsN fun _ _ _ _ _ _ us hl => match us, hl with | [_], _ => rfl
  obtain ⟨fd_log_rows, F_log_rows⟩ := fd_of c 26 (d := d_D_log_rows) rfl
  have G_log_rows : FnOk P w K mg base CX0 1 (He.fAd K d_D_log_rows.at_) fd_log_rows ["self"] (sp_log_rows K) := ok_log_rows T F_log_rows
  have B_log_rows : Binds K fd_log_rows ["self"] [] := F_log_rows.bindsN fun _ _ _ _ _ _ us hl => match us, hl with | [_], _ => rfl
  have M_log_rows : Md P w K mg base CX0 1 (DkC K) "log_rows" ["self"] (sp_log_rows K) := ⟨T.c_Disk, _, _, G_log_rows, T.m_Disk_log_rows, B_log_rows⟩
  obtain ⟨fd_page, F_page⟩ := fd_of c 27 (d := d_D_page) rfl
  have G_page : FnOk P w K mg base CX0 1 (He.fAd K d_D_page.at_) fd_page ["self", "slot"] (sp_page K) := ok_page T F_page
  have B_page : Binds K fd_page ["self", "slot"] [] := F_page.bindsN fun _ _ _ _ _ _ us hl => match us, hl with | [_, _], _ => rfl
  have M_page : Md P w K mg base CX0 1 (DkC K) "page" ["self", "slot"] (sp_page K) := ⟨T.c_Disk, _, _, G_page, T.m_Disk_page, B_page⟩
  obtain ⟨fd_writes, F_writes⟩ := fd_of c 28 (d := d_D_writes) rfl
  have G_writes : FnOk P w K mg base CX0 1 (He.fAd K d_D_writes.at_) fd_writes ["self"] (sp_writes K) := ok_writes T F_writes
  have B_writes : Binds K fd_writes ["self"] [] := F_writes.bindsN fun _ _ _ _ _ _ us hl => match us, hl with | [_], _ => rfl
  have M_writes : Md P w K mg base CX0 1 (DkC K) "writes" ["self"] (sp_writes K) := ⟨T.c_Disk, _, _, G_writes, T.m_Disk_writes, B_writes⟩
  obtain ⟨fd_fall_at, F_fall_at⟩ := fd_of c 29 (d := d_D_fall_at) rfl
  have G_fall_at : FnOk P w K mg base CX0 1 (He.fAd K d_D_fall_at.at_) fd_fall_at ["self", "after", "signs"] (sp_fall_at K) := ok_fall_at T F_fall_at
  have B_fall_at : Binds K fd_fall_at ["self", "after", "signs"] [] := F_fall_at.bindsN fun _ _ _ _ _ _ us hl => match us, hl with | [_, _, _], _ => rfl
  have M_fall_at : Md P w K mg base CX0 1 (DkC K) "fall_at" ["self", "after", "signs"] (sp_fall_at K) := ⟨T.c_Disk, _, _, G_fall_at, T.m_Disk_fall_at, B_fall_at⟩
  obtain ⟨fd_power, F_power⟩ := fd_of c 30 (d := d_D_power) rfl
  have G_power : FnOk P w K mg base CX0 1 (He.fAd K d_D_power.at_) fd_power ["self"] (sp_power K) := ok_power T F_power
  have B_power : Binds K fd_power ["self"] [] := F_power.bindsN fun _ _ _ _ _ _ us hl => match us, hl with | [_], _ => rfl
  have M_power : Md P w K mg base CX0 1 (DkC K) "power" ["self"] (sp_power K) := ⟨T.c_Disk, _, _, G_power, T.m_Disk_power, B_power⟩
  obtain ⟨fd_coming, F_coming⟩ := fd_of c 31 (d := d_D_coming) rfl
  have G_coming : FnOk P w K mg base (L2.CX P w) 1 (He.fAd K d_D_coming.at_) fd_coming ["self"] (sp_coming K) := ok_coming T F_coming
  have B_coming : Binds K fd_coming ["self"] [] := F_coming.bindsN fun _ _ _ _ _ _ us hl => match us, hl with | [_], _ => rfl
  have M_coming : Md P w K mg base (L2.CX P w) 1 (DkC K) "coming" ["self"] (sp_coming K) := ⟨T.c_Disk, _, _, G_coming, T.m_Disk_coming, B_coming⟩
  obtain ⟨fd_add_row, F_add_row⟩ := fd_of c 32 (d := d_D_add_row) rfl
  have G_add_row : FnOk P w K mg base (L2.CX P w) 2 (He.fAd K d_D_add_row.at_) fd_add_row ["self", "text"] (sp_add_row K) := ok_add_row T F_add_row M_coming
  have B_add_row : Binds K fd_add_row ["self", "text"] [] := F_add_row.bindsN fun _ _ _ _ _ _ us hl => match us, hl with | [_, _], _ => rfl
  have M_add_row : Md P w K mg base (L2.CX P w) 2 (DkC K) "add_row" ["self", "text"] (sp_add_row K) := ⟨T.c_Disk, _, _, G_add_row, T.m_Disk_add_row, B_add_row⟩
  obtain ⟨fd_put_page, F_put_page⟩ := fd_of c 33 (d := d_D_put_page) rfl
  have G_put_page : FnOk P w K mg base (L2.CX P w) 2 (He.fAd K d_D_put_page.at_) fd_put_page ["self", "slot", "text"] (sp_put_page K) := ok_put_page T F_put_page M_coming
  have B_put_page : Binds K fd_put_page ["self", "slot", "text"] [] := F_put_page.bindsN fun _ _ _ _ _ _ us hl => match us, hl with | [_, _, _], _ => rfl
  have M_put_page : Md P w K mg base (L2.CX P w) 2 (DkC K) "put_page" ["self", "slot", "text"] (sp_put_page K) := ⟨T.c_Disk, _, _, G_put_page, T.m_Disk_put_page, B_put_page⟩
  obtain ⟨fd_cut_to, F_cut_to⟩ := fd_of c 34 (d := d_D_cut_to) rfl
  have G_cut_to : FnOk P w K mg base (L2.CX P w) 2 (He.fAd K d_D_cut_to.at_) fd_cut_to ["self", "rows"] (sp_cut_to K) := ok_cut_to T F_cut_to M_coming
  have B_cut_to : Binds K fd_cut_to ["self", "rows"] [] := F_cut_to.bindsN fun _ _ _ _ _ _ us hl => match us, hl with | [_, _], _ => rfl
  have M_cut_to : Md P w K mg base (L2.CX P w) 2 (DkC K) "cut_to" ["self", "rows"] (sp_cut_to K) := ⟨T.c_Disk, _, _, G_cut_to, T.m_Disk_cut_to, B_cut_to⟩
  obtain ⟨fd_cut_tail, F_cut_tail⟩ := fd_of c 35 (d := d_D_cut_tail) rfl
  have G_cut_tail : FnOk P w K mg base (L2.CX P w) 3 (He.fAd K d_D_cut_tail.at_) fd_cut_tail ["self", "many"] (sp_cut_tail K) := ok_cut_tail T F_cut_tail M_cut_to
  have B_cut_tail : Binds K fd_cut_tail ["self", "many"] [] := F_cut_tail.bindsN fun _ _ _ _ _ _ us hl => match us, hl with | [_, _], _ => rfl
  have M_cut_tail : Md P w K mg base (L2.CX P w) 3 (DkC K) "cut_tail" ["self", "many"] (sp_cut_tail K) := ⟨T.c_Disk, _, _, G_cut_tail, T.m_Disk_cut_tail, B_cut_tail⟩
  obtain ⟨fd_cut_head, F_cut_head⟩ := fd_of c 36 (d := d_D_cut_head) rfl
  have G_cut_head : FnOk P w K mg base (L2.CX P w) 3 (He.fAd K d_D_cut_head.at_) fd_cut_head ["self", "many"] (sp_cut_head K) := ok_cut_head T F_cut_head M_cut_to
  have B_cut_head : Binds K fd_cut_head ["self", "many"] [] := F_cut_head.bindsN fun _ _ _ _ _ _ us hl => match us, hl with | [_, _], _ => rfl
  have M_cut_head : Md P w K mg base (L2.CX P w) 3 (DkC K) "cut_head" ["self", "many"] (sp_cut_head K) := ⟨T.c_Disk, _, _, G_cut_head, T.m_Disk_cut_head, B_cut_head⟩
  obtain ⟨fd_count_from, F_count_from⟩ := fd_of c 13 (d := d_count_from) rfl
  have G_count_from : FnOk P w K mg base CX0 3 (He.fAd K d_count_from.at_) fd_count_from ["word"] sp_count_from := ok_count_from T F_count_from D_value_in
  have B_count_from : Binds K fd_count_from ["word"] [] := F_count_from.bindsN fun _ _ _ _ _ _ us hl => match us, hl with | [_], _ => rfl
  have D_count_from : Df P w K mg base CX0 3 "count_from" ["word"] sp_count_from := ⟨_, _, G_count_from, T.g_count_from, F_count_from.kp, B_count_from⟩
  obtain ⟨fd_page_text, F_page_text⟩ := fd_of c 12 (d := d_page_text) rfl
  have G_page_text : FnOk P w K mg base CX0 2 (He.fAd K d_page_text.at_) fd_page_text ["table", "last", "many", "rows"] sp_page_text := ok_page_text T F_page_text D_value_text
  have B_page_text : Binds K fd_page_text ["table", "last", "many", "rows"] [] := F_page_text.bindsN fun _ _ _ _ _ _ us hl => match us, hl with | [_, _, _, _], _ => rfl
  have D_page_text : Df P w K mg base CX0 2 "page_text" ["table", "last", "many", "rows"] sp_page_text := ⟨_, _, G_page_text, T.g_page_text, F_page_text.kp, B_page_text⟩
  obtain ⟨fd_rows_in, F_rows_in⟩ := fd_of c 14 (d := d_rows_in) rfl
  have G_rows_in : FnOk P w K mg base CX0 4 (He.fAd K d_rows_in.at_) fd_rows_in ["columns", "parts"] sp_rows_in := ok_rows_in T F_rows_in D_values_in
  have B_rows_in : Binds K fd_rows_in ["columns", "parts"] [] := F_rows_in.bindsN fun _ _ _ _ _ _ us hl => match us, hl with | [_, _], _ => rfl
  have D_rows_in : Df P w K mg base CX0 4 "rows_in" ["columns", "parts"] sp_rows_in := ⟨_, _, G_rows_in, T.g_rows_in, F_rows_in.kp, B_rows_in⟩
  obtain ⟨fd_page_in, F_page_in⟩ := fd_of c 15 (d := d_page_in) rfl
  have G_page_in : FnOk P w K mg base CX0 5 (He.fAd K d_page_in.at_) fd_page_in ["schema", "text"] (sp_page_in K) := ok_page_in T F_page_in D_count_from D_rows_in M_table_names M_columns_of
  have B_page_in : Binds K fd_page_in ["schema", "text"] [] := F_page_in.bindsN fun _ _ _ _ _ _ us hl => match us, hl with | [_, _], _ => rfl
  have D_page_in : Df P w K mg base CX0 5 "page_in" ["schema", "text"] (sp_page_in K) := ⟨_, _, G_page_in, T.g_page_in, F_page_in.kp, B_page_in⟩
  obtain ⟨fd_slots_of, F_slots_of⟩ := fd_of c 16 (d := d_slots_of) rfl
  have G_slots_of : FnOk P w K mg base CX0 3 (He.fAd K d_slots_of.at_) fd_slots_of ["schema", "table"] (sp_slots_of K) := ok_slots_of T F_slots_of M_need_table M_table_names
  have B_slots_of : Binds K fd_slots_of ["schema", "table"] [] := F_slots_of.bindsN fun _ _ _ _ _ _ us hl => match us, hl with | [_, _], _ => rfl
  have D_slots_of : Df P w K mg base CX0 3 "slots_of" ["schema", "table"] (sp_slots_of K) := ⟨_, _, G_slots_of, T.g_slots_of, F_slots_of.kp, B_slots_of⟩
  obtain ⟨fd_newest, F_newest⟩ := fd_of c 17 (d := d_newest) rfl
  have G_newest : FnOk P w K mg base CX0 6 (He.fAd K d_newest.at_) fd_newest ["disk", "schema", "table"] (sp_newest K) := ok_newest T F_newest D_slots_of D_page_in M_page
  have B_newest : Binds K fd_newest ["disk", "schema", "table"] [] := F_newest.bindsN fun _ _ _ _ _ _ us hl => match us, hl with | [_, _, _], _ => rfl
  have D_newest : Df P w K mg base CX0 6 "newest" ["disk", "schema", "table"] (sp_newest K) := ⟨_, _, G_newest, T.g_newest, F_newest.kp, B_newest⟩
  obtain ⟨fd_late_page, F_late_page⟩ := fd_of c 18 (d := d_late_page) rfl
  have G_late_page : FnOk P w K mg base (L2.CX P w) 7 (He.fAd K d_late_page.at_) fd_late_page ["disk", "schema", "table", "last", "many", "rows"] (sp_late_page K) := ok_late_page T F_late_page D_slots_of D_newest D_page_text M_put_page
  have B_late_page : Binds K fd_late_page ["disk", "schema", "table", "last", "many", "rows"] [] := F_late_page.bindsN fun _ _ _ _ _ _ us hl => match us, hl with | [_, _, _, _, _, _], _ => rfl
  have D_late_page : Df P w K mg base (L2.CX P w) 7 "late_page" ["disk", "schema", "table", "last", "many", "rows"] (sp_late_page K) := ⟨_, _, G_late_page, T.g_late_page, F_late_page.kp, B_late_page⟩
  obtain ⟨fd_kept_stuff, F_kept_stuff⟩ := fd_of c 20 (d := d_kept_stuff) rfl
  have G_kept_stuff : FnOk P w K mg base CX0 8 (He.fAd K d_kept_stuff.at_) fd_kept_stuff ["disk", "schema"] (sp_kept_stuff K) := ok_kept_stuff T F_kept_stuff D_whole_rows D_kept_many_rows M_log_rows
  have B_kept_stuff : Binds K fd_kept_stuff ["disk", "schema"] [] := F_kept_stuff.bindsN fun _ _ _ _ _ _ us hl => match us, hl with | [_, _], _ => rfl
  have D_kept_stuff : Df P w K mg base CX0 8 "kept_stuff" ["disk", "schema"] (sp_kept_stuff K) := ⟨_, _, G_kept_stuff, T.g_kept_stuff, F_kept_stuff.kp, B_kept_stuff⟩
  obtain ⟨fd_table_now, F_table_now⟩ := fd_of c 21 (d := d_table_now) rfl
  have G_table_now : FnOk P w K mg base CX0 7 (He.fAd K d_table_now.at_) fd_table_now ["disk", "schema", "table", "stuffs"] (sp_table_now K) := ok_table_now T F_table_now D_newest
  have B_table_now : Binds K fd_table_now ["disk", "schema", "table", "stuffs"] [] := F_table_now.bindsN fun _ _ _ _ _ _ us hl => match us, hl with | [_, _, _, _], _ => rfl
  have D_table_now : Df P w K mg base CX0 7 "table_now" ["disk", "schema", "table", "stuffs"] (sp_table_now K) := ⟨_, _, G_table_now, T.g_table_now, F_table_now.kp, B_table_now⟩
  obtain ⟨fd_numbers_now, F_numbers_now⟩ := fd_of c 22 (d := d_numbers_now) rfl
  have G_numbers_now : FnOk P w K mg base CX0 7 (He.fAd K d_numbers_now.at_) fd_numbers_now ["disk", "schema", "stuffs"] (sp_numbers_now K) := ok_numbers_now T F_numbers_now D_newest M_table_names
  have B_numbers_now : Binds K fd_numbers_now ["disk", "schema", "stuffs"] [] := F_numbers_now.bindsN fun _ _ _ _ _ _ us hl => match us, hl with | [_, _, _], _ => rfl
  have D_numbers_now : Df P w K mg base CX0 7 "numbers_now" ["disk", "schema", "stuffs"] (sp_numbers_now K) := ⟨_, _, G_numbers_now, T.g_numbers_now, F_numbers_now.kp, B_numbers_now⟩
  obtain ⟨fd_seen, F_seen⟩ := fd_of c 23 (d := d_seen) rfl
  have G_seen : FnOk P w K mg base CX0 9 (He.fAd K d_seen.at_) fd_seen ["disk", "schema"] (sp_seen K) := ok_seen T F_seen D_kept_stuff D_table_now D_numbers_now M_table_names
  have B_seen : Binds K fd_seen ["disk", "schema"] [] := F_seen.bindsN fun _ _ _ _ _ _ us hl => match us, hl with | [_, _], _ => rfl
  have D_seen : Df P w K mg base CX0 9 "seen" ["disk", "schema"] (sp_seen K) := ⟨_, _, G_seen, T.g_seen, F_seen.kp, B_seen⟩
  obtain ⟨fd_come_up, F_come_up⟩ := fd_of c 24 (d := d_come_up) rfl
  have G_come_up : FnOk P w K mg base (L2.CX P w) 10 (He.fAd K d_come_up.at_) fd_come_up ["disk", "schema"] (sp_come_up K) := ok_come_up T F_come_up D_kept_many_rows D_seen M_log_rows M_cut_tail
  have B_come_up : Binds K fd_come_up ["disk", "schema"] [] := F_come_up.bindsN fun _ _ _ _ _ _ us hl => match us, hl with | [_, _], _ => rfl
  have D_come_up : Df P w K mg base (L2.CX P w) 10 "come_up" ["disk", "schema"] (sp_come_up K) := ⟨_, _, G_come_up, T.g_come_up, F_come_up.kp, B_come_up⟩
  obtain ⟨fd_trim_log, F_trim_log⟩ := fd_of c 19 (d := d_trim_log) rfl
  have G_trim_log : FnOk P w K mg base (L2.CX P w) 7 (He.fAd K d_trim_log.at_) fd_trim_log ["disk", "schema"] (sp_trim_log K) := ok_trim_log T F_trim_log D_newest D_whole_rows M_table_names M_log_rows M_cut_head
  have B_trim_log : Binds K fd_trim_log ["disk", "schema"] [] := F_trim_log.bindsN fun _ _ _ _ _ _ us hl => match us, hl with | [_, _], _ => rfl
  have D_trim_log : Df P w K mg base (L2.CX P w) 7 "trim_log" ["disk", "schema"] (sp_trim_log K) := ⟨_, _, G_trim_log, T.g_trim_log, F_trim_log.kp, B_trim_log⟩
  obtain ⟨fd_is_row_of, F_is_row_of⟩ := fd_of c 37 (d := d_is_row_of) rfl
  have G_is_row_of : FnOk P w K mg base CX0 1 (He.fAd K d_is_row_of.at_) fd_is_row_of ["thing", "least", "most"] sp_is_row_of := ok_is_row_of T F_is_row_of
  have B_is_row_of : Binds K fd_is_row_of ["thing", "least", "most"] [] := F_is_row_of.bindsN fun _ _ _ _ _ _ us hl => match us, hl with | [_, _, _], _ => rfl
  have D_is_row_of : Df P w K mg base CX0 1 "is_row_of" ["thing", "least", "most"] sp_is_row_of := ⟨_, _, G_is_row_of, T.g_is_row_of, F_is_row_of.kp, B_is_row_of⟩
  obtain ⟨fd_need_pair, F_need_pair⟩ := fd_of c 38 (d := d_need_pair) rfl
  have G_need_pair : FnOk P w K mg base CX0 1 (He.fAd K d_need_pair.at_) fd_need_pair ["thing"] sp_need_pair := ok_need_pair T F_need_pair
  have B_need_pair : Binds K fd_need_pair ["thing"] [] := F_need_pair.bindsN fun _ _ _ _ _ _ us hl => match us, hl with | [_], _ => rfl
  have D_need_pair : Df P w K mg base CX0 1 "need_pair" ["thing"] sp_need_pair := ⟨_, _, G_need_pair, T.g_need_pair, F_need_pair.kp, B_need_pair⟩
  obtain ⟨fd_columns_in, F_columns_in⟩ := fd_of c 39 (d := d_columns_in) rfl
  have G_columns_in : FnOk P w K mg base CX0 2 (He.fAd K d_columns_in.at_) fd_columns_in ["thing"] sp_columns_in := ok_columns_in T F_columns_in D_is_row_of D_need_pair D_is_name D_is_kind
  have B_columns_in : Binds K fd_columns_in ["thing"] [] := F_columns_in.bindsN fun _ _ _ _ _ _ us hl => match us, hl with | [_], _ => rfl
  have D_columns_in : Df P w K mg base CX0 2 "columns_in" ["thing"] sp_columns_in := ⟨_, _, G_columns_in, T.g_columns_in, F_columns_in.kp, B_columns_in⟩
  obtain ⟨fd_tables_in, F_tables_in⟩ := fd_of c 40 (d := d_tables_in) rfl
  have G_tables_in : FnOk P w K mg base CX0 3 (He.fAd K d_tables_in.at_) fd_tables_in ["thing"] sp_tables_in := ok_tables_in T F_tables_in D_is_row_of D_need_pair D_is_name D_columns_in
  have B_tables_in : Binds K fd_tables_in ["thing"] [] := F_tables_in.bindsN fun _ _ _ _ _ _ us hl => match us, hl with | [_], _ => rfl
  have D_tables_in : Df P w K mg base CX0 3 "tables_in" ["thing"] sp_tables_in := ⟨_, _, G_tables_in, T.g_tables_in, F_tables_in.kp, B_tables_in⟩
  obtain ⟨fd_orders_in, F_orders_in⟩ := fd_of c 41 (d := d_orders_in) rfl
  have G_orders_in : FnOk P w K mg base CX0 2 (He.fAd K d_orders_in.at_) fd_orders_in ["thing", "tables"] sp_orders_in := ok_orders_in T F_orders_in D_is_row_of D_need_pair D_is_name
  have B_orders_in : Binds K fd_orders_in ["thing", "tables"] [] := F_orders_in.bindsN fun _ _ _ _ _ _ us hl => match us, hl with | [_, _], _ => rfl
  have D_orders_in : Df P w K mg base CX0 2 "orders_in" ["thing", "tables"] sp_orders_in := ⟨_, _, G_orders_in, T.g_orders_in, F_orders_in.kp, B_orders_in⟩
  obtain ⟨fd_S_init, F_S_init⟩ := fd_of c 42 (d := d_S_init) rfl
  have G_S_init : FnOk P w K mg base CX0 4 (He.fAd K d_S_init.at_) fd_S_init ["self", "tables", "orders"] (sp_S_init K) := ok_S_init T F_S_init D_tables_in D_orders_in
  have B_Schema : Binds K fd_S_init ["self", "tables", "orders"] [] := by
    obtain ⟨ds, h1, h2⟩ := F_S_init.binds1 (ps := ["self", "tables", "orders"]) 3 1 (fun z => by cases z) rfl fun T kV doc pm an cdv ct us its hl hi => match us, its, hl, hi with | [_, _, _], [_], _, _ => ⟨_, rfl, rfl⟩
    cases h1
    exact h2
  obtain ⟨fd_l_cell, F_l_cell⟩ := fd_of c 46 (d := d_l_cell) rfl
  have G_l_cell : FnOk P w K mg base CX0 1 (He.fAd K d_l_cell.at_) fd_l_cell ["_law_script", "_law_k"] (sp_l_cell K) := ok_l_cell T F_l_cell
  have B_l_cell : Binds K fd_l_cell ["_law_script", "_law_k"] [] := F_l_cell.bindsN fun _ _ _ _ _ _ us hl => match us, hl with | [_, _], _ => rfl
  have D_l_cell : Df P w K mg base CX0 1 "_law_cell" ["_law_script", "_law_k"] (sp_l_cell K) := ⟨_, _, G_l_cell, T.g_l_cell, F_l_cell.kp, B_l_cell⟩
  obtain ⟨fd_l_draws, F_l_draws⟩ := fd_of c 47 (d := d_l_draws) rfl
  have G_l_draws : FnOk P w K mg base CX0 1 (He.fAd K d_l_draws.at_) fd_l_draws ["_law_cell_here", "_law_many"] sp_l_draws := ok_l_draws T F_l_draws
  have B_l_draws : Binds K fd_l_draws ["_law_cell_here", "_law_many"] [] := F_l_draws.bindsN fun _ _ _ _ _ _ us hl => match us, hl with | [_, _], _ => rfl
  have D_l_draws : Df P w K mg base CX0 1 "_law_draws" ["_law_cell_here", "_law_many"] sp_l_draws := ⟨_, _, G_l_draws, T.g_l_draws, F_l_draws.kp, B_l_draws⟩
  obtain ⟨fd_l_names, F_l_names⟩ := fd_of c 48 (d := d_l_names) rfl
  have G_l_names : FnOk P w K mg base CX0 2 (He.fAd K d_l_names.at_) fd_l_names ["_law_cell_here", "_law_many"] sp_l_names := ok_l_names T F_l_names D_l_draws
  have B_l_names : Binds K fd_l_names ["_law_cell_here", "_law_many"] [] := F_l_names.bindsN fun _ _ _ _ _ _ us hl => match us, hl with | [_, _], _ => rfl
  have D_l_names : Df P w K mg base CX0 2 "_law_names" ["_law_cell_here", "_law_many"] sp_l_names := ⟨_, _, G_l_names, T.g_l_names, F_l_names.kp, B_l_names⟩
  obtain ⟨fd_l_value, F_l_value⟩ := fd_of c 50 (d := d_l_value) rfl
  have G_l_value : FnOk P w K mg base CX0 3 (He.fAd K d_l_value.at_) fd_l_value ["_law_kind", "_law_draw"] sp_l_value := ok_l_value T F_l_value D_l_names
  have B_l_value : Binds K fd_l_value ["_law_kind", "_law_draw"] [] := F_l_value.bindsN fun _ _ _ _ _ _ us hl => match us, hl with | [_, _], _ => rfl
  have D_l_value : Df P w K mg base CX0 3 "_law_value" ["_law_kind", "_law_draw"] sp_l_value := ⟨_, _, G_l_value, T.g_l_value, F_l_value.kp, B_l_value⟩
  obtain ⟨fd_l_row, F_l_row⟩ := fd_of c 51 (d := d_l_row) rfl
  have G_l_row : FnOk P w K mg base CX0 4 (He.fAd K d_l_row.at_) fd_l_row ["_law_columns", "_law_draws_here"] sp_l_row := ok_l_row T F_l_row D_l_value
  have B_l_row : Binds K fd_l_row ["_law_columns", "_law_draws_here"] [] := F_l_row.bindsN fun _ _ _ _ _ _ us hl => match us, hl with | [_, _], _ => rfl
  have D_l_row : Df P w K mg base CX0 4 "_law_row" ["_law_columns", "_law_draws_here"] sp_l_row := ⟨_, _, G_l_row, T.g_l_row, F_l_row.kp, B_l_row⟩
  obtain ⟨fd_l_schema, F_l_schema⟩ := fd_of c 49 (d := d_l_schema) rfl
  have G_l_schema : FnOk P w K mg base CX0 3 (He.fAd K d_l_schema.at_) fd_l_schema ["_law_cell_here"] sp_l_schema := ok_l_schema T F_l_schema D_l_draws D_l_names
  have B_l_schema : Binds K fd_l_schema ["_law_cell_here"] [] := F_l_schema.bindsN fun _ _ _ _ _ _ us hl => match us, hl with | [_], _ => rfl
  have D_l_schema : Df P w K mg base CX0 3 "_law_schema" ["_law_cell_here"] sp_l_schema := ⟨_, _, G_l_schema, T.g_l_schema, F_l_schema.kp, B_l_schema⟩
  obtain ⟨fd_l_stuff, F_l_stuff⟩ := fd_of c 52 (d := d_l_stuff) rfl
  have G_l_stuff : FnOk P w K mg base CX0 5 (He.fAd K d_l_stuff.at_) fd_l_stuff ["_law_tables", "_law_state", "_law_draws_here"] sp_l_stuff := ok_l_stuff T F_l_stuff D_l_row
  have B_l_stuff : Binds K fd_l_stuff ["_law_tables", "_law_state", "_law_draws_here"] [] := F_l_stuff.bindsN fun _ _ _ _ _ _ us hl => match us, hl with | [_, _, _], _ => rfl
  have D_l_stuff : Df P w K mg base CX0 5 "_law_stuff" ["_law_tables", "_law_state", "_law_draws_here"] sp_l_stuff := ⟨_, _, G_l_stuff, T.g_l_stuff, F_l_stuff.kp, B_l_stuff⟩
  obtain ⟨fd_l_done, F_l_done⟩ := fd_of c 53 (d := d_l_done) rfl
  have G_l_done : FnOk P w K mg base CX0 1 (He.fAd K d_l_done.at_) fd_l_done ["_law_state", "_law_stuff_here"] sp_l_done := ok_l_done T F_l_done
  have B_l_done : Binds K fd_l_done ["_law_state", "_law_stuff_here"] [] := F_l_done.bindsN fun _ _ _ _ _ _ us hl => match us, hl with | [_, _], _ => rfl
  have D_l_done : Df P w K mg base CX0 1 "_law_done" ["_law_state", "_law_stuff_here"] sp_l_done := ⟨_, _, G_l_done, T.g_l_done, F_l_done.kp, B_l_done⟩
  obtain ⟨fd_l_copy, F_l_copy⟩ := fd_of c 54 (d := d_l_copy) rfl
  have G_l_copy : FnOk P w K mg base CX0 1 (He.fAd K d_l_copy.at_) fd_l_copy ["_law_state"] sp_l_copy := ok_l_copy T F_l_copy
  have B_l_copy : Binds K fd_l_copy ["_law_state"] [] := F_l_copy.bindsN fun _ _ _ _ _ _ us hl => match us, hl with | [_], _ => rfl
  have D_l_copy : Df P w K mg base CX0 1 "_law_copy" ["_law_state"] sp_l_copy := ⟨_, _, G_l_copy, T.g_l_copy, F_l_copy.kp, B_l_copy⟩
  obtain ⟨fd_l_lists, F_l_lists⟩ := fd_of c 55 (d := d_l_lists) rfl
  have G_l_lists : FnOk P w K mg base CX0 1 (He.fAd K d_l_lists.at_) fd_l_lists ["_law_state"] sp_l_lists := ok_l_lists T F_l_lists
  have B_l_lists : Binds K fd_l_lists ["_law_state"] [] := F_l_lists.bindsN fun _ _ _ _ _ _ us hl => match us, hl with | [_], _ => rfl
  have D_l_lists : Df P w K mg base CX0 1 "_law_lists" ["_law_state"] sp_l_lists := ⟨_, _, G_l_lists, T.g_l_lists, F_l_lists.kp, B_l_lists⟩
  obtain ⟨fd_l_due, F_l_due⟩ := fd_of c 59 (d := d_l_due) rfl
  have G_l_due : FnOk P w K mg base CX0 2 (He.fAd K d_l_due.at_) fd_l_due ["_law_kept_here"] sp_l_due := ok_l_due T F_l_due D_l_lists
  have B_l_due : Binds K fd_l_due ["_law_kept_here"] [] := F_l_due.bindsN fun _ _ _ _ _ _ us hl => match us, hl with | [_], _ => rfl
  have D_l_due : Df P w K mg base CX0 2 "_law_due" ["_law_kept_here"] sp_l_due := ⟨_, _, G_l_due, T.g_l_due, F_l_due.kp, B_l_due⟩
  obtain ⟨fd_l_come, F_l_come⟩ := fd_of c 60 (d := d_l_come) rfl
  have G_l_come : FnOk P w K mg base CX0 11 (He.fAd K d_l_come.at_) fd_l_come ["_law_disk", "_law_schema_here"] (sp_l_come K) := ok_l_come T F_l_come D_come_up
  have B_l_come : Binds K fd_l_come ["_law_disk", "_law_schema_here"] [] := F_l_come.bindsN fun _ _ _ _ _ _ us hl => match us, hl with | [_, _], _ => rfl
  have D_l_come : Df P w K mg base CX0 11 "_law_come" ["_law_disk", "_law_schema_here"] (sp_l_come K) := ⟨_, _, G_l_come, T.g_l_come, F_l_come.kp, B_l_come⟩
  obtain ⟨fd_l_tail, F_l_tail⟩ := fd_of c 61 (d := d_l_tail) rfl
  have G_l_tail : FnOk P w K mg base CX0 2 (He.fAd K d_l_tail.at_) fd_l_tail ["_law_disk", "_law_kept_here"] (sp_l_tail K) := ok_l_tail T F_l_tail M_log_rows
  have B_l_tail : Binds K fd_l_tail ["_law_disk", "_law_kept_here"] [] := F_l_tail.bindsN fun _ _ _ _ _ _ us hl => match us, hl with | [_, _], _ => rfl
  have D_l_tail : Df P w K mg base CX0 2 "_law_tail" ["_law_disk", "_law_kept_here"] (sp_l_tail K) := ⟨_, _, G_l_tail, T.g_l_tail, F_l_tail.kp, B_l_tail⟩
  obtain ⟨fd_l_paged, F_l_paged⟩ := fd_of c 57 (d := d_l_paged) rfl
  have G_l_paged : FnOk P w K mg base CX0 8 (He.fAd K d_l_paged.at_) fd_l_paged ["_law_disk", "_law_schema_here", "_law_tables", "_law_kept_here", "_law_draws_here"] (sp_l_paged K) := ok_l_paged T F_l_paged D_l_lists D_late_page
  have B_l_paged : Binds K fd_l_paged ["_law_disk", "_law_schema_here", "_law_tables", "_law_kept_here", "_law_draws_here"] [] := F_l_paged.bindsN fun _ _ _ _ _ _ us hl => match us, hl with | [_, _, _, _, _], _ => rfl
  have D_l_paged : Df P w K mg base CX0 8 "_law_paged" ["_law_disk", "_law_schema_here", "_law_tables", "_law_kept_here", "_law_draws_here"] (sp_l_paged K) := ⟨_, _, G_l_paged, T.g_l_paged, F_l_paged.kp, B_l_paged⟩
  obtain ⟨fd_l_trimmed, F_l_trimmed⟩ := fd_of c 58 (d := d_l_trimmed) rfl
  have G_l_trimmed : FnOk P w K mg base CX0 8 (He.fAd K d_l_trimmed.at_) fd_l_trimmed ["_law_disk", "_law_schema_here", "_law_kept_here"] (sp_l_trimmed K) := ok_l_trimmed T T.f_bool F_l_trimmed D_newest D_trim_log M_log_rows M_writes
  have B_l_trimmed : Binds K fd_l_trimmed ["_law_disk", "_law_schema_here", "_law_kept_here"] [] := F_l_trimmed.bindsN fun _ _ _ _ _ _ us hl => match us, hl with | [_, _, _], _ => rfl
  have D_l_trimmed : Df P w K mg base CX0 8 "_law_trimmed" ["_law_disk", "_law_schema_here", "_law_kept_here"] (sp_l_trimmed K) := ⟨_, _, G_l_trimmed, T.g_l_trimmed, F_l_trimmed.kp, B_l_trimmed⟩
  obtain ⟨fd_l_kept, F_l_kept⟩ := fd_of c 56 (d := d_l_kept) rfl
  have G_l_kept : FnOk P w K mg base CX0 6 (He.fAd K d_l_kept.at_) fd_l_kept ["_law_disk", "_law_tables", "_law_kept_here", "_law_draws_here"] (sp_l_kept K) := ok_l_kept T F_l_kept D_l_copy D_l_stuff D_l_draws D_l_done D_row_text M_add_row
  have B_l_kept : Binds K fd_l_kept ["_law_disk", "_law_tables", "_law_kept_here", "_law_draws_here"] [] := F_l_kept.bindsN fun _ _ _ _ _ _ us hl => match us, hl with | [_, _, _, _], _ => rfl
  have D_l_kept : Df P w K mg base CX0 6 "_law_kept" ["_law_disk", "_law_tables", "_law_kept_here", "_law_draws_here"] (sp_l_kept K) := ⟨_, _, G_l_kept, T.g_l_kept, F_l_kept.kp, B_l_kept⟩
  obtain ⟨fd_l_up, F_l_up⟩ := fd_of c 62 (d := d_l_up) rfl
  have G_l_up : FnOk P w K mg base CX0 12 (He.fAd K d_l_up.at_) fd_l_up ["_law_disk", "_law_schema_here", "_law_kept_here", "_law_draws_here"] (sp_l_up K) := ok_l_up T F_l_up D_l_due D_l_tail D_seen D_l_come M_power M_fall_at M_writes
  have B_l_up : Binds K fd_l_up ["_law_disk", "_law_schema_here", "_law_kept_here", "_law_draws_here"] [] := F_l_up.bindsN fun _ _ _ _ _ _ us hl => match us, hl with | [_, _, _, _], _ => rfl
  have D_l_up : Df P w K mg base CX0 12 "_law_up" ["_law_disk", "_law_schema_here", "_law_kept_here", "_law_draws_here"] (sp_l_up K) := ⟨_, _, G_l_up, T.g_l_up, F_l_up.kp, B_l_up⟩
  exact ok_law T F G_S_init B_Schema G_D_init B_D_init D_l_schema D_l_cell D_l_draws D_l_kept D_l_paged D_l_trimmed D_l_up D_seen D_l_due M_fall_at
end Fl
open PySem PySem.W PySem.Calls PyProof.Rows
theorem PySem.Challenge.cw_planstore_k26_whole_falls_holds : PySem.Challenge.rw_planstore_k26_whole_falls.Holds := by
  w_on; o_law
  refine HandSHeadRun.head_any (r := Fl.R) (q := view Fl.R.prog [72]) (H := Fl.hk) (ob := Fl.ob) (M := 30000) (loose := Fl.names) (d := HandSHeadRun.topDef Fl.R.prog 72) (kwd := []) Fl.ob_eq
    (by kernel_rfl) (fun s => by kernel_rfl) Fl.run (by kernel_rfl) (by kernel_rfl) (by kernel_rfl) (by rfl) (by first | assumption | decide +kernel) (by decide +kernel) ⟨rfl, rfl, rfl, rfl, rfl, by decide +kernel⟩ ?hw ?hc
  case hw => w_witness2
  case hc =>
    refine L2.walk_ofE (l := PySem.Challenge.rw_planstore_k26_whole_falls) (n := 63) (k := 13) (x := "_law_script") (CX := L2.CX0) rfl (by decide) (by kernel_rfl) ⟨rfl, by decide, by decide⟩ ?F (fun _ _ _ _ z => z)
    intro w mg fa h Y G hmg0
    obtain ⟨K, KX, c⟩ := Y
    have hmg : mg ("law" : PySem.Str) = some (.ref fa) := by
      have e : (HandSHeadRun.topDef Fl.R.prog 72).name = ("law" : PySem.Str) := by kernel_rfl
      rw [← e]
      exact hmg0
    obtain ⟨fd, hb, hF⟩ := Fl.facts (P := (PySem.Challenge.rw_planstore_k26_whole_falls).prog) (w := w) KX G hmg c
    exact ⟨K, fd, Fl.sp_law K, KX, hb, fun H a ns hl _ hS => ⟨a, ns, rfl, hS, fun _ => rfl⟩, hF⟩
