import PyProof.Rows.All
import Wide.All
import OpenK.AllK
import Wide.FinOn
import KE.KStateDown
import KE.GoesEnum
import KE.KExcSuper
import HandS.ExcSuper
import HandS.Nested
import KE.DataMinMax
import KE.KTupSum
import HandS.SetFor
import KE.KDictDisplayH
import HandS.DictComp
import HandS.ForMost
import HandS.Exc
import HandS.Defaults
import HandS.IsInst
import HandS.Deep
import HandS.TupAny
import HandS.Conv
import HandS.Zip
import HandS.Flow
import HandS.DictTup
import HandS.TupLen
import HandS.ExcInit
import HandS.ExcField
import HandS.TryMany
import HandS.Lambda
import HandS.OwnEq
import HandS.RaiseMore
import HandS.TupSets
import HandS.Strs
import HandS.Evl
import HandS.Walk
import HandS.WordsExc
import HandS.EndTab
import HandS.HeadWalk
import HandS.Head0
import HandS.Head1
import HandS.Head2
import HandS.HeadEnd
import HandS.HeadHook1
import HandS.HeadHook2
import HandS.HeadHook3
import HandS.HeadHook4
import PySem.Challenge.RW_makefirst_k29_whole_ways_of_one_store
set_option Elab.async false
set_option linter.all false
set_option maxRecDepth 100000
set_option maxHeartbeats 4000000
namespace K29
open PySem PySem.Spec PyProof.Rows L2
/-! ### the text by places (printed by genbase.py) -/
def topS (i : Nat) : Stmt := PySem.Challenge.pw_makefirst_k29_whole_ways_of_one_store.main.body.getD i (.Pass ⟨0, 0, 0, 0⟩)
abbrev s_is_integer : Stmt := topS 15
def d_is_integer : He.DefD := ⟨("is_integer", none), "is_integer", "is_integer", defArgs s_is_integer, defBody s_is_integer, defScope s_is_integer, [], []⟩
abbrev s_is_number : Stmt := topS 16
def d_is_number : He.DefD := ⟨("is_number", none), "is_number", "is_number", defArgs s_is_number, defBody s_is_number, defScope s_is_number, [], []⟩
abbrev s_is_below : Stmt := topS 17
def d_is_below : He.DefD := ⟨("is_below", none), "is_below", "is_below", defArgs s_is_below, defBody s_is_below, defScope s_is_below, [], []⟩
abbrev s_is_within : Stmt := topS 18
def d_is_within : He.DefD := ⟨("is_within", none), "is_within", "is_within", defArgs s_is_within, defBody s_is_within, defScope s_is_within, [], []⟩
abbrev s_is_sequence : Stmt := topS 19
def d_is_sequence : He.DefD := ⟨("is_sequence", none), "is_sequence", "is_sequence", defArgs s_is_sequence, defBody s_is_sequence, defScope s_is_sequence, [], []⟩
abbrev s_check_columns : Stmt := topS 21
def d_check_columns : He.DefD := ⟨("check_columns", none), "check_columns", "check_columns", defArgs s_check_columns, defBody s_check_columns, defScope s_check_columns, [], []⟩
abbrev s_is_values : Stmt := topS 22
def d_is_values : He.DefD := ⟨("is_values", none), "is_values", "is_values", defArgs s_is_values, defBody s_is_values, defScope s_is_values, [], []⟩
abbrev s_is_check : Stmt := topS 23
def d_is_check : He.DefD := ⟨("is_check", none), "is_check", "is_check", defArgs s_is_check, defBody s_is_check, defScope s_is_check, [], []⟩
abbrev s_told_check : Stmt := topS 24
def d_told_check : He.DefD := ⟨("told_check", none), "told_check", "told_check", defArgs s_told_check, defBody s_told_check, defScope s_told_check, [], []⟩
abbrev s_Book_init : Stmt := inClass (topS 25) 0
def d_Book_init : He.DefD := ⟨("Book", some "__init__"), "__init__", "Book.__init__", defArgs s_Book_init, defBody s_Book_init, defScope s_Book_init, [.adr (He.dflAt ("Book", some "__init__") 0)], []⟩
abbrev s_Book_eq : Stmt := inClass (topS 25) 1
def d_Book_eq : He.DefD := ⟨("Book", some "__eq__"), "__eq__", "Book.__eq__", defArgs s_Book_eq, defBody s_Book_eq, defScope s_Book_eq, [], []⟩
abbrev s_is_laid : Stmt := topS 27
def d_is_laid : He.DefD := ⟨("is_laid", none), "is_laid", "is_laid", defArgs s_is_laid, defBody s_is_laid, defScope s_is_laid, [], []⟩
abbrev s_Store_init : Stmt := inClass (topS 28) 0
def d_Store_init : He.DefD := ⟨("Store", some "__init__"), "__init__", "Store.__init__", defArgs s_Store_init, defBody s_Store_init, defScope s_Store_init, [.adr (He.dflAt ("Store", some "__init__") 0)], []⟩
abbrev s_check_state : Stmt := topS 29
def d_check_state : He.DefD := ⟨("check_state", none), "check_state", "check_state", defArgs s_check_state, defBody s_check_state, defScope s_check_state, [], []⟩
abbrev s_row_on : Stmt := topS 30
def d_row_on : He.DefD := ⟨("row_on", none), "row_on", "row_on", defArgs s_row_on, defBody s_row_on, defScope s_row_on, [], []⟩
abbrev s_is_fine : Stmt := topS 31
def d_is_fine : He.DefD := ⟨("is_fine", none), "is_fine", "is_fine", defArgs s_is_fine, defBody s_is_fine, defScope s_is_fine, [], []⟩
abbrev s_need_good : Stmt := topS 32
def d_need_good : He.DefD := ⟨("need_good", none), "need_good", "need_good", defArgs s_need_good, defBody s_need_good, defScope s_need_good, [], []⟩
abbrev s_check_batch : Stmt := topS 33
def d_check_batch : He.DefD := ⟨("check_batch", none), "check_batch", "check_batch", defArgs s_check_batch, defBody s_check_batch, defScope s_check_batch, [], []⟩
abbrev s_unlike_cells : Stmt := topS 34
def d_unlike_cells : He.DefD := ⟨("unlike_cells", none), "unlike_cells", "unlike_cells", defArgs s_unlike_cells, defBody s_unlike_cells, defScope s_unlike_cells, [], []⟩
abbrev s_with_cells : Stmt := topS 35
def d_with_cells : He.DefD := ⟨("with_cells", none), "with_cells", "with_cells", defArgs s_with_cells, defBody s_with_cells, defScope s_with_cells, [], []⟩
abbrev s_LaxBook_init : Stmt := inClass (topS 37) 0
def d_LaxBook_init : He.DefD := ⟨("LaxBook", some "__init__"), "__init__", "LaxBook.__init__", defArgs s_LaxBook_init, defBody s_LaxBook_init, defScope s_LaxBook_init, [], []⟩
abbrev s_check_ways : Stmt := topS 38
def d_check_ways : He.DefD := ⟨("check_ways", none), "check_ways", "check_ways", defArgs s_check_ways, defBody s_check_ways, defScope s_check_ways, [], []⟩
abbrev s_need_own_store : Stmt := topS 39
def d_need_own_store : He.DefD := ⟨("need_own_store", none), "need_own_store", "need_own_store", defArgs s_need_own_store, defBody s_need_own_store, defScope s_need_own_store, [], []⟩
abbrev s_lets_all : Stmt := topS 40
def d_lets_all : He.DefD := ⟨("lets_all", none), "lets_all", "lets_all", defArgs s_lets_all, defBody s_lets_all, defScope s_lets_all, [], []⟩
abbrev s_lax_way : Stmt := topS 41
def d_lax_way : He.DefD := ⟨("lax_way", none), "lax_way", "lax_way", defArgs s_lax_way, defBody s_lax_way, defScope s_lax_way, [], []⟩
abbrev s_law_box : Stmt := topS 43
def d_law_box : He.DefD := ⟨("_law_box", none), "_law_box", "_law_box", defArgs s_law_box, defBody s_law_box, defScope s_law_box, [], []⟩
abbrev s_law_take : Stmt := topS 44
def d_law_take : He.DefD := ⟨("_law_take", none), "_law_take", "_law_take", defArgs s_law_take, defBody s_law_take, defScope s_law_take, [], []⟩
abbrev s_law_pick : Stmt := topS 45
def d_law_pick : He.DefD := ⟨("_law_pick", none), "_law_pick", "_law_pick", defArgs s_law_pick, defBody s_law_pick, defScope s_law_pick, [], []⟩
abbrev s_law_choices : Stmt := topS 46
def d_law_choices : He.DefD := ⟨("_law_choices", none), "_law_choices", "_law_choices", defArgs s_law_choices, defBody s_law_choices, defScope s_law_choices, [], []⟩
abbrev s_law_book : Stmt := topS 47
def d_law_book : He.DefD := ⟨("_law_book", none), "_law_book", "_law_book", defArgs s_law_book, defBody s_law_book, defScope s_law_book, [], []⟩
abbrev s_law_mixed : Stmt := topS 48
def d_law_mixed : He.DefD := ⟨("_law_mixed", none), "_law_mixed", "_law_mixed", defArgs s_law_mixed, defBody s_law_mixed, defScope s_law_mixed, [], []⟩
abbrev s_law_ways : Stmt := topS 49
def d_law_ways : He.DefD := ⟨("_law_ways", none), "_law_ways", "_law_ways", defArgs s_law_ways, defBody s_law_ways, defScope s_law_ways, [], []⟩
abbrev s_law_heard : Stmt := topS 53
def d_law_heard : He.DefD := ⟨("_law_heard", none), "_law_heard", "_law_heard", defArgs s_law_heard, defBody s_law_heard, defScope s_law_heard, [], []⟩
abbrev s_law_store : Stmt := topS 54
def d_law_store : He.DefD := ⟨("_law_store", none), "_law_store", "_law_store", defArgs s_law_store, defBody s_law_store, defScope s_law_store, [], []⟩
abbrev s_law_passes : Stmt := topS 55
def d_law_passes : He.DefD := ⟨("_law_passes", none), "_law_passes", "_law_passes", defArgs s_law_passes, defBody s_law_passes, defScope s_law_passes, [], []⟩
abbrev s_law_set : Stmt := topS 56
def d_law_set : He.DefD := ⟨("_law_set", none), "_law_set", "_law_set", defArgs s_law_set, defBody s_law_set, defScope s_law_set, [], []⟩
abbrev s_law_lots : Stmt := topS 57
def d_law_lots : He.DefD := ⟨("_law_lots", none), "_law_lots", "_law_lots", defArgs s_law_lots, defBody s_law_lots, defScope s_law_lots, [], []⟩
abbrev s_law_way_right : Stmt := topS 58
def d_law_way_right : He.DefD := ⟨("_law_way_right", none), "_law_way_right", "_law_way_right", defArgs s_law_way_right, defBody s_law_way_right, defScope s_law_way_right, [], []⟩
abbrev s_law : Stmt := topS 59
def d_law : He.DefD := ⟨("law", none), "law", "law", defArgs s_law, defBody s_law, defScope s_law, [], []⟩
def fn : List He.DefD := [d_is_integer, d_is_number, d_is_below, d_is_within, d_is_sequence, d_check_columns, d_is_values, d_is_check, d_told_check, d_Book_init, d_Book_eq, d_is_laid, d_Store_init, d_check_state, d_row_on, d_is_fine, d_need_good, d_check_batch, d_unlike_cells, d_with_cells, d_LaxBook_init, d_check_ways, d_need_own_store, d_lets_all, d_lax_way, d_law_box, d_law_take, d_law_pick, d_law_choices, d_law_book, d_law_mixed, d_law_ways, d_law_heard, d_law_store, d_law_passes, d_law_set, d_law_lots, d_law_way_right, d_law]
def fa : List He.Fa := [.glo "is_integer", .glo "is_number", .glo "is_below", .glo "is_within", .glo "is_sequence", .glo "check_columns", .glo "is_values", .glo "is_check", .glo "told_check", .glo "is_laid", .glo "check_state", .glo "row_on", .glo "is_fine", .glo "need_good", .glo "check_batch", .glo "unlike_cells", .glo "with_cells", .glo "check_ways", .glo "need_own_store", .glo "lets_all", .glo "lax_way", .glo "_law_box", .glo "_law_take", .glo "_law_pick", .glo "_law_choices", .glo "_law_book", .glo "_law_mixed", .glo "_law_ways", .glo "_law_heard", .glo "_law_store", .glo "_law_passes", .glo "_law_set", .glo "_law_lots", .glo "_law_way_right", .glo "law", .glo "Book", .glo "Store", .glo "LaxBook", .glo "BadState", .glo "Refused", .glo "TooGreat", .glo "NoKind", .glo "BadBook", .glo "BadStore", .free "isinstance", .free "len", .free "all", .free "zip", .free "tuple", .free "sorted", .free "list", .free "enumerate", .free "range", .free "abs", .free "max", .free "sum", .free "set", .free "repr", .free "super", .free "int", .free "bool", .free "ValueError", .int "MOST_COLUMNS" 4, .int "MOST_VALUES" 4, .int "MOST_CHECKS" 6, .int "MOST_PLACES" 3, .int "MOST_CELLS" 200, .int "MOST_LAID" 4000, .cls "Book", .mkr "Book", .noat "Book" "columns", .noat "Book" "checks", .cls "Store", .mkr "Store", .noat "Store" "book", .noat "Store" "cells", .noat "Store" "laid", .cls "LaxBook", .mkr "LaxBook", .noat "LaxBook" "book", .noat "LaxBook" "ways", .meth "Book" "__eq__", .noat "BadState" "at", .keep "BadState", .noat "Refused" "at", .keep "Refused", .noat "TooGreat" "most", .keep "TooGreat", .exm "BadState" "NoKind" false, .exm "BadState" "BadState" true, .exm "BadState" "TooGreat" false, .exm "BadState" "Refused" false, .exm "Refused" "NoKind" false, .exm "Refused" "BadState" false, .exm "Refused" "TooGreat" false, .exm "Refused" "Refused" true, .exm "TooGreat" "NoKind" false, .exm "TooGreat" "BadState" false, .exm "TooGreat" "TooGreat" true, .exm "TooGreat" "Refused" false]
/-- what the top has left, by names -/
structure Tx (K : PySem.W.Frag) (mg : Str → Option Value) : Prop where
  g_is_integer : mg "is_integer" = some (.ref (He.ga K "is_integer"))
  g_is_number : mg "is_number" = some (.ref (He.ga K "is_number"))
  g_is_below : mg "is_below" = some (.ref (He.ga K "is_below"))
  g_is_within : mg "is_within" = some (.ref (He.ga K "is_within"))
  g_is_sequence : mg "is_sequence" = some (.ref (He.ga K "is_sequence"))
  g_check_columns : mg "check_columns" = some (.ref (He.ga K "check_columns"))
  g_is_values : mg "is_values" = some (.ref (He.ga K "is_values"))
  g_is_check : mg "is_check" = some (.ref (He.ga K "is_check"))
  g_told_check : mg "told_check" = some (.ref (He.ga K "told_check"))
  g_is_laid : mg "is_laid" = some (.ref (He.ga K "is_laid"))
  g_check_state : mg "check_state" = some (.ref (He.ga K "check_state"))
  g_row_on : mg "row_on" = some (.ref (He.ga K "row_on"))
  g_is_fine : mg "is_fine" = some (.ref (He.ga K "is_fine"))
  g_need_good : mg "need_good" = some (.ref (He.ga K "need_good"))
  g_check_batch : mg "check_batch" = some (.ref (He.ga K "check_batch"))
  g_unlike_cells : mg "unlike_cells" = some (.ref (He.ga K "unlike_cells"))
  g_with_cells : mg "with_cells" = some (.ref (He.ga K "with_cells"))
  g_check_ways : mg "check_ways" = some (.ref (He.ga K "check_ways"))
  g_need_own_store : mg "need_own_store" = some (.ref (He.ga K "need_own_store"))
  g_lets_all : mg "lets_all" = some (.ref (He.ga K "lets_all"))
  g_lax_way : mg "lax_way" = some (.ref (He.ga K "lax_way"))
  g_law_box : mg "_law_box" = some (.ref (He.ga K "_law_box"))
  g_law_take : mg "_law_take" = some (.ref (He.ga K "_law_take"))
  g_law_pick : mg "_law_pick" = some (.ref (He.ga K "_law_pick"))
  g_law_choices : mg "_law_choices" = some (.ref (He.ga K "_law_choices"))
  g_law_book : mg "_law_book" = some (.ref (He.ga K "_law_book"))
  g_law_mixed : mg "_law_mixed" = some (.ref (He.ga K "_law_mixed"))
  g_law_ways : mg "_law_ways" = some (.ref (He.ga K "_law_ways"))
  g_law_heard : mg "_law_heard" = some (.ref (He.ga K "_law_heard"))
  g_law_store : mg "_law_store" = some (.ref (He.ga K "_law_store"))
  g_law_passes : mg "_law_passes" = some (.ref (He.ga K "_law_passes"))
  g_law_set : mg "_law_set" = some (.ref (He.ga K "_law_set"))
  g_law_lots : mg "_law_lots" = some (.ref (He.ga K "_law_lots"))
  g_law_way_right : mg "_law_way_right" = some (.ref (He.ga K "_law_way_right"))
  g_law : mg "law" = some (.ref (He.ga K "law"))
  g_Book : mg "Book" = some (.ref (He.ga K "Book"))
  g_Store : mg "Store" = some (.ref (He.ga K "Store"))
  g_LaxBook : mg "LaxBook" = some (.ref (He.ga K "LaxBook"))
  g_BadState : mg "BadState" = some (.ref (He.ga K "BadState"))
  g_Refused : mg "Refused" = some (.ref (He.ga K "Refused"))
  g_TooGreat : mg "TooGreat" = some (.ref (He.ga K "TooGreat"))
  g_NoKind : mg "NoKind" = some (.ref (He.ga K "NoKind"))
  g_BadBook : mg "BadBook" = some (.ref (He.ga K "BadBook"))
  g_BadStore : mg "BadStore" = some (.ref (He.ga K "BadStore"))
  z_isinstance : mg "isinstance" = none
  z_len : mg "len" = none
  z_all : mg "all" = none
  z_zip : mg "zip" = none
  z_tuple : mg "tuple" = none
  z_sorted : mg "sorted" = none
  z_list : mg "list" = none
  z_enumerate : mg "enumerate" = none
  z_range : mg "range" = none
  z_abs : mg "abs" = none
  z_max : mg "max" = none
  z_sum : mg "sum" = none
  z_set : mg "set" = none
  z_repr : mg "repr" = none
  z_super : mg "super" = none
  z_int : mg "int" = none
  z_bool : mg "bool" = none
  z_ValueError : mg "ValueError" = none
  i_MOST_COLUMNS : ∃ t, mg "MOST_COLUMNS" = some (.int 4 t)
  i_MOST_VALUES : ∃ t, mg "MOST_VALUES" = some (.int 4 t)
  i_MOST_CHECKS : ∃ t, mg "MOST_CHECKS" = some (.int 6 t)
  i_MOST_PLACES : ∃ t, mg "MOST_PLACES" = some (.int 3 t)
  i_MOST_CELLS : ∃ t, mg "MOST_CELLS" = some (.int 200 t)
  i_MOST_LAID : ∃ t, mg "MOST_LAID" = some (.int 4000 t)
  c_Book : Cls K (He.ga K "Book")
  m_Book : Mk K (He.ga K "Book") (He.ma K (He.ga K "Book") "__init__")
  n_Book_columns : NoAttr K (He.ga K "Book") "columns"
  n_Book_checks : NoAttr K (He.ga K "Book") "checks"
  c_Store : Cls K (He.ga K "Store")
  m_Store : Mk K (He.ga K "Store") (He.ma K (He.ga K "Store") "__init__")
  n_Store_book : NoAttr K (He.ga K "Store") "book"
  n_Store_cells : NoAttr K (He.ga K "Store") "cells"
  n_Store_laid : NoAttr K (He.ga K "Store") "laid"
  c_LaxBook : Cls K (He.ga K "LaxBook")
  m_LaxBook : Mk K (He.ga K "LaxBook") (He.ma K (He.ga K "LaxBook") "__init__")
  n_LaxBook_book : NoAttr K (He.ga K "LaxBook") "book"
  n_LaxBook_ways : NoAttr K (He.ga K "LaxBook") "ways"
  e_Book : Meth K (He.ga K "Book") "__eq__" (He.ma K (He.ga K "Book") "__eq__")
  n_BadState_at : NoAttr K (He.ga K "BadState") "at"
  k_BadState : PySem.W.keepIn K (.ref (He.ga K "BadState")) = true
  n_Refused_at : NoAttr K (He.ga K "Refused") "at"
  k_Refused : PySem.W.keepIn K (.ref (He.ga K "Refused")) = true
  n_TooGreat_most : NoAttr K (He.ga K "TooGreat") "most"
  k_TooGreat : PySem.W.keepIn K (.ref (He.ga K "TooGreat")) = true
  x_BadState_NoKind : PySem.W.exmOne K (.ref (He.ga K "BadState")) (.ref (He.ga K "NoKind")) = some false
  x_BadState_BadState : PySem.W.exmOne K (.ref (He.ga K "BadState")) (.ref (He.ga K "BadState")) = some true
  x_BadState_TooGreat : PySem.W.exmOne K (.ref (He.ga K "BadState")) (.ref (He.ga K "TooGreat")) = some false
  x_BadState_Refused : PySem.W.exmOne K (.ref (He.ga K "BadState")) (.ref (He.ga K "Refused")) = some false
  x_Refused_NoKind : PySem.W.exmOne K (.ref (He.ga K "Refused")) (.ref (He.ga K "NoKind")) = some false
  x_Refused_BadState : PySem.W.exmOne K (.ref (He.ga K "Refused")) (.ref (He.ga K "BadState")) = some false
  x_Refused_TooGreat : PySem.W.exmOne K (.ref (He.ga K "Refused")) (.ref (He.ga K "TooGreat")) = some false
  x_Refused_Refused : PySem.W.exmOne K (.ref (He.ga K "Refused")) (.ref (He.ga K "Refused")) = some true
  x_TooGreat_NoKind : PySem.W.exmOne K (.ref (He.ga K "TooGreat")) (.ref (He.ga K "NoKind")) = some false
  x_TooGreat_BadState : PySem.W.exmOne K (.ref (He.ga K "TooGreat")) (.ref (He.ga K "BadState")) = some false
  x_TooGreat_TooGreat : PySem.W.exmOne K (.ref (He.ga K "TooGreat")) (.ref (He.ga K "TooGreat")) = some true
  x_TooGreat_Refused : PySem.W.exmOne K (.ref (He.ga K "TooGreat")) (.ref (He.ga K "Refused")) = some false
  f_is_integer : ∃ fd, FunD K "is_integer" "is_integer" (defArgs s_is_integer) (defBody s_is_integer) (defScope s_is_integer) [] [] (He.ga K "is_integer") fd
  f_is_number : ∃ fd, FunD K "is_number" "is_number" (defArgs s_is_number) (defBody s_is_number) (defScope s_is_number) [] [] (He.ga K "is_number") fd
  f_is_below : ∃ fd, FunD K "is_below" "is_below" (defArgs s_is_below) (defBody s_is_below) (defScope s_is_below) [] [] (He.ga K "is_below") fd
  f_is_within : ∃ fd, FunD K "is_within" "is_within" (defArgs s_is_within) (defBody s_is_within) (defScope s_is_within) [] [] (He.ga K "is_within") fd
  f_is_sequence : ∃ fd, FunD K "is_sequence" "is_sequence" (defArgs s_is_sequence) (defBody s_is_sequence) (defScope s_is_sequence) [] [] (He.ga K "is_sequence") fd
  f_check_columns : ∃ fd, FunD K "check_columns" "check_columns" (defArgs s_check_columns) (defBody s_check_columns) (defScope s_check_columns) [] [] (He.ga K "check_columns") fd
  f_is_values : ∃ fd, FunD K "is_values" "is_values" (defArgs s_is_values) (defBody s_is_values) (defScope s_is_values) [] [] (He.ga K "is_values") fd
  f_is_check : ∃ fd, FunD K "is_check" "is_check" (defArgs s_is_check) (defBody s_is_check) (defScope s_is_check) [] [] (He.ga K "is_check") fd
  f_told_check : ∃ fd, FunD K "told_check" "told_check" (defArgs s_told_check) (defBody s_told_check) (defScope s_told_check) [] [] (He.ga K "told_check") fd
  f_Book_init : ∃ fd, FunD K "__init__" "Book.__init__" (defArgs s_Book_init) (defBody s_Book_init) (defScope s_Book_init) [V.ref (He.dflAt ("Book", some "__init__") 0 K)] [] (He.ma K (He.ga K "Book") "__init__") fd
  f_Book_eq : ∃ fd, FunD K "__eq__" "Book.__eq__" (defArgs s_Book_eq) (defBody s_Book_eq) (defScope s_Book_eq) [] [] (He.ma K (He.ga K "Book") "__eq__") fd
  f_is_laid : ∃ fd, FunD K "is_laid" "is_laid" (defArgs s_is_laid) (defBody s_is_laid) (defScope s_is_laid) [] [] (He.ga K "is_laid") fd
  f_Store_init : ∃ fd, FunD K "__init__" "Store.__init__" (defArgs s_Store_init) (defBody s_Store_init) (defScope s_Store_init) [V.ref (He.dflAt ("Store", some "__init__") 0 K)] [] (He.ma K (He.ga K "Store") "__init__") fd
  f_check_state : ∃ fd, FunD K "check_state" "check_state" (defArgs s_check_state) (defBody s_check_state) (defScope s_check_state) [] [] (He.ga K "check_state") fd
  f_row_on : ∃ fd, FunD K "row_on" "row_on" (defArgs s_row_on) (defBody s_row_on) (defScope s_row_on) [] [] (He.ga K "row_on") fd
  f_is_fine : ∃ fd, FunD K "is_fine" "is_fine" (defArgs s_is_fine) (defBody s_is_fine) (defScope s_is_fine) [] [] (He.ga K "is_fine") fd
  f_need_good : ∃ fd, FunD K "need_good" "need_good" (defArgs s_need_good) (defBody s_need_good) (defScope s_need_good) [] [] (He.ga K "need_good") fd
  f_check_batch : ∃ fd, FunD K "check_batch" "check_batch" (defArgs s_check_batch) (defBody s_check_batch) (defScope s_check_batch) [] [] (He.ga K "check_batch") fd
  f_unlike_cells : ∃ fd, FunD K "unlike_cells" "unlike_cells" (defArgs s_unlike_cells) (defBody s_unlike_cells) (defScope s_unlike_cells) [] [] (He.ga K "unlike_cells") fd
  f_with_cells : ∃ fd, FunD K "with_cells" "with_cells" (defArgs s_with_cells) (defBody s_with_cells) (defScope s_with_cells) [] [] (He.ga K "with_cells") fd
  f_LaxBook_init : ∃ fd, FunD K "__init__" "LaxBook.__init__" (defArgs s_LaxBook_init) (defBody s_LaxBook_init) (defScope s_LaxBook_init) [] [] (He.ma K (He.ga K "LaxBook") "__init__") fd
  f_check_ways : ∃ fd, FunD K "check_ways" "check_ways" (defArgs s_check_ways) (defBody s_check_ways) (defScope s_check_ways) [] [] (He.ga K "check_ways") fd
  f_need_own_store : ∃ fd, FunD K "need_own_store" "need_own_store" (defArgs s_need_own_store) (defBody s_need_own_store) (defScope s_need_own_store) [] [] (He.ga K "need_own_store") fd
  f_lets_all : ∃ fd, FunD K "lets_all" "lets_all" (defArgs s_lets_all) (defBody s_lets_all) (defScope s_lets_all) [] [] (He.ga K "lets_all") fd
  f_lax_way : ∃ fd, FunD K "lax_way" "lax_way" (defArgs s_lax_way) (defBody s_lax_way) (defScope s_lax_way) [] [] (He.ga K "lax_way") fd
  f_law_box : ∃ fd, FunD K "_law_box" "_law_box" (defArgs s_law_box) (defBody s_law_box) (defScope s_law_box) [] [] (He.ga K "_law_box") fd
  f_law_take : ∃ fd, FunD K "_law_take" "_law_take" (defArgs s_law_take) (defBody s_law_take) (defScope s_law_take) [] [] (He.ga K "_law_take") fd
  f_law_pick : ∃ fd, FunD K "_law_pick" "_law_pick" (defArgs s_law_pick) (defBody s_law_pick) (defScope s_law_pick) [] [] (He.ga K "_law_pick") fd
  f_law_choices : ∃ fd, FunD K "_law_choices" "_law_choices" (defArgs s_law_choices) (defBody s_law_choices) (defScope s_law_choices) [] [] (He.ga K "_law_choices") fd
  f_law_book : ∃ fd, FunD K "_law_book" "_law_book" (defArgs s_law_book) (defBody s_law_book) (defScope s_law_book) [] [] (He.ga K "_law_book") fd
  f_law_mixed : ∃ fd, FunD K "_law_mixed" "_law_mixed" (defArgs s_law_mixed) (defBody s_law_mixed) (defScope s_law_mixed) [] [] (He.ga K "_law_mixed") fd
  f_law_ways : ∃ fd, FunD K "_law_ways" "_law_ways" (defArgs s_law_ways) (defBody s_law_ways) (defScope s_law_ways) [] [] (He.ga K "_law_ways") fd
  f_law_heard : ∃ fd, FunD K "_law_heard" "_law_heard" (defArgs s_law_heard) (defBody s_law_heard) (defScope s_law_heard) [] [] (He.ga K "_law_heard") fd
  f_law_store : ∃ fd, FunD K "_law_store" "_law_store" (defArgs s_law_store) (defBody s_law_store) (defScope s_law_store) [] [] (He.ga K "_law_store") fd
  f_law_passes : ∃ fd, FunD K "_law_passes" "_law_passes" (defArgs s_law_passes) (defBody s_law_passes) (defScope s_law_passes) [] [] (He.ga K "_law_passes") fd
  f_law_set : ∃ fd, FunD K "_law_set" "_law_set" (defArgs s_law_set) (defBody s_law_set) (defScope s_law_set) [] [] (He.ga K "_law_set") fd
  f_law_lots : ∃ fd, FunD K "_law_lots" "_law_lots" (defArgs s_law_lots) (defBody s_law_lots) (defScope s_law_lots) [] [] (He.ga K "_law_lots") fd
  f_law_way_right : ∃ fd, FunD K "_law_way_right" "_law_way_right" (defArgs s_law_way_right) (defBody s_law_way_right) (defScope s_law_way_right) [] [] (He.ga K "_law_way_right") fd
  f_law : ∃ fd, FunD K "law" "law" (defArgs s_law) (defBody s_law) (defScope s_law) [] [] (He.ga K "law") fd
theorem tx_of {K : PySem.W.Frag} {h : Heap} {mg : Str → Option Value} (X : K.In h) (G : h.Ns mainGlobals mg) (c : He.SaysD fa fn K) : Tx K mg := ⟨
  He.glo_ok X G (c.fact 0 (f := .glo "is_integer") rfl),
  He.glo_ok X G (c.fact 1 (f := .glo "is_number") rfl),
  He.glo_ok X G (c.fact 2 (f := .glo "is_below") rfl),
  He.glo_ok X G (c.fact 3 (f := .glo "is_within") rfl),
  He.glo_ok X G (c.fact 4 (f := .glo "is_sequence") rfl),
  He.glo_ok X G (c.fact 5 (f := .glo "check_columns") rfl),
  He.glo_ok X G (c.fact 6 (f := .glo "is_values") rfl),
  He.glo_ok X G (c.fact 7 (f := .glo "is_check") rfl),
  He.glo_ok X G (c.fact 8 (f := .glo "told_check") rfl),
  He.glo_ok X G (c.fact 9 (f := .glo "is_laid") rfl),
  He.glo_ok X G (c.fact 10 (f := .glo "check_state") rfl),
  He.glo_ok X G (c.fact 11 (f := .glo "row_on") rfl),
  He.glo_ok X G (c.fact 12 (f := .glo "is_fine") rfl),
  He.glo_ok X G (c.fact 13 (f := .glo "need_good") rfl),
  He.glo_ok X G (c.fact 14 (f := .glo "check_batch") rfl),
  He.glo_ok X G (c.fact 15 (f := .glo "unlike_cells") rfl),
  He.glo_ok X G (c.fact 16 (f := .glo "with_cells") rfl),
  He.glo_ok X G (c.fact 17 (f := .glo "check_ways") rfl),
  He.glo_ok X G (c.fact 18 (f := .glo "need_own_store") rfl),
  He.glo_ok X G (c.fact 19 (f := .glo "lets_all") rfl),
  He.glo_ok X G (c.fact 20 (f := .glo "lax_way") rfl),
  He.glo_ok X G (c.fact 21 (f := .glo "_law_box") rfl),
  He.glo_ok X G (c.fact 22 (f := .glo "_law_take") rfl),
  He.glo_ok X G (c.fact 23 (f := .glo "_law_pick") rfl),
  He.glo_ok X G (c.fact 24 (f := .glo "_law_choices") rfl),
  He.glo_ok X G (c.fact 25 (f := .glo "_law_book") rfl),
  He.glo_ok X G (c.fact 26 (f := .glo "_law_mixed") rfl),
  He.glo_ok X G (c.fact 27 (f := .glo "_law_ways") rfl),
  He.glo_ok X G (c.fact 28 (f := .glo "_law_heard") rfl),
  He.glo_ok X G (c.fact 29 (f := .glo "_law_store") rfl),
  He.glo_ok X G (c.fact 30 (f := .glo "_law_passes") rfl),
  He.glo_ok X G (c.fact 31 (f := .glo "_law_set") rfl),
  He.glo_ok X G (c.fact 32 (f := .glo "_law_lots") rfl),
  He.glo_ok X G (c.fact 33 (f := .glo "_law_way_right") rfl),
  He.glo_ok X G (c.fact 34 (f := .glo "law") rfl),
  He.glo_ok X G (c.fact 35 (f := .glo "Book") rfl),
  He.glo_ok X G (c.fact 36 (f := .glo "Store") rfl),
  He.glo_ok X G (c.fact 37 (f := .glo "LaxBook") rfl),
  He.glo_ok X G (c.fact 38 (f := .glo "BadState") rfl),
  He.glo_ok X G (c.fact 39 (f := .glo "Refused") rfl),
  He.glo_ok X G (c.fact 40 (f := .glo "TooGreat") rfl),
  He.glo_ok X G (c.fact 41 (f := .glo "NoKind") rfl),
  He.glo_ok X G (c.fact 42 (f := .glo "BadBook") rfl),
  He.glo_ok X G (c.fact 43 (f := .glo "BadStore") rfl),
  He.free_ok X G (c.fact 44 (f := .free "isinstance") rfl),
  He.free_ok X G (c.fact 45 (f := .free "len") rfl),
  He.free_ok X G (c.fact 46 (f := .free "all") rfl),
  He.free_ok X G (c.fact 47 (f := .free "zip") rfl),
  He.free_ok X G (c.fact 48 (f := .free "tuple") rfl),
  He.free_ok X G (c.fact 49 (f := .free "sorted") rfl),
  He.free_ok X G (c.fact 50 (f := .free "list") rfl),
  He.free_ok X G (c.fact 51 (f := .free "enumerate") rfl),
  He.free_ok X G (c.fact 52 (f := .free "range") rfl),
  He.free_ok X G (c.fact 53 (f := .free "abs") rfl),
  He.free_ok X G (c.fact 54 (f := .free "max") rfl),
  He.free_ok X G (c.fact 55 (f := .free "sum") rfl),
  He.free_ok X G (c.fact 56 (f := .free "set") rfl),
  He.free_ok X G (c.fact 57 (f := .free "repr") rfl),
  He.free_ok X G (c.fact 58 (f := .free "super") rfl),
  He.free_ok X G (c.fact 59 (f := .free "int") rfl),
  He.free_ok X G (c.fact 60 (f := .free "bool") rfl),
  He.free_ok X G (c.fact 61 (f := .free "ValueError") rfl),
  He.int_ok X G (c.fact 62 (f := .int "MOST_COLUMNS" 4) rfl),
  He.int_ok X G (c.fact 63 (f := .int "MOST_VALUES" 4) rfl),
  He.int_ok X G (c.fact 64 (f := .int "MOST_CHECKS" 6) rfl),
  He.int_ok X G (c.fact 65 (f := .int "MOST_PLACES" 3) rfl),
  He.int_ok X G (c.fact 66 (f := .int "MOST_CELLS" 200) rfl),
  He.int_ok X G (c.fact 67 (f := .int "MOST_LAID" 4000) rfl),
  He.cls_ok (c.fact 68 (f := .cls "Book") rfl),
  He.mkr_ok (c.fact 69 (f := .mkr "Book") rfl),
  He.noat_ok (c.fact 70 (f := .noat "Book" "columns") rfl),
  He.noat_ok (c.fact 71 (f := .noat "Book" "checks") rfl),
  He.cls_ok (c.fact 72 (f := .cls "Store") rfl),
  He.mkr_ok (c.fact 73 (f := .mkr "Store") rfl),
  He.noat_ok (c.fact 74 (f := .noat "Store" "book") rfl),
  He.noat_ok (c.fact 75 (f := .noat "Store" "cells") rfl),
  He.noat_ok (c.fact 76 (f := .noat "Store" "laid") rfl),
  He.cls_ok (c.fact 77 (f := .cls "LaxBook") rfl),
  He.mkr_ok (c.fact 78 (f := .mkr "LaxBook") rfl),
  He.noat_ok (c.fact 79 (f := .noat "LaxBook" "book") rfl),
  He.noat_ok (c.fact 80 (f := .noat "LaxBook" "ways") rfl),
  He.meth_ok (c.fact 81 (f := .meth "Book" "__eq__") rfl),
  He.noat_ok (c.fact 82 (f := .noat "BadState" "at") rfl),
  He.keep_ok (c.fact 83 (f := .keep "BadState") rfl),
  He.noat_ok (c.fact 84 (f := .noat "Refused" "at") rfl),
  He.keep_ok (c.fact 85 (f := .keep "Refused") rfl),
  He.noat_ok (c.fact 86 (f := .noat "TooGreat" "most") rfl),
  He.keep_ok (c.fact 87 (f := .keep "TooGreat") rfl),
  He.exm_ok (c.fact 88 (f := .exm "BadState" "NoKind" false) rfl),
  He.exm_ok (c.fact 89 (f := .exm "BadState" "BadState" true) rfl),
  He.exm_ok (c.fact 90 (f := .exm "BadState" "TooGreat" false) rfl),
  He.exm_ok (c.fact 91 (f := .exm "BadState" "Refused" false) rfl),
  He.exm_ok (c.fact 92 (f := .exm "Refused" "NoKind" false) rfl),
  He.exm_ok (c.fact 93 (f := .exm "Refused" "BadState" false) rfl),
  He.exm_ok (c.fact 94 (f := .exm "Refused" "TooGreat" false) rfl),
  He.exm_ok (c.fact 95 (f := .exm "Refused" "Refused" true) rfl),
  He.exm_ok (c.fact 96 (f := .exm "TooGreat" "NoKind" false) rfl),
  He.exm_ok (c.fact 97 (f := .exm "TooGreat" "BadState" false) rfl),
  He.exm_ok (c.fact 98 (f := .exm "TooGreat" "TooGreat" true) rfl),
  He.exm_ok (c.fact 99 (f := .exm "TooGreat" "Refused" false) rfl),
  c.def_ 0 (d := d_is_integer) rfl,
  c.def_ 1 (d := d_is_number) rfl,
  c.def_ 2 (d := d_is_below) rfl,
  c.def_ 3 (d := d_is_within) rfl,
  c.def_ 4 (d := d_is_sequence) rfl,
  c.def_ 5 (d := d_check_columns) rfl,
  c.def_ 6 (d := d_is_values) rfl,
  c.def_ 7 (d := d_is_check) rfl,
  c.def_ 8 (d := d_told_check) rfl,
  c.def_ 9 (d := d_Book_init) rfl,
  c.def_ 10 (d := d_Book_eq) rfl,
  c.def_ 11 (d := d_is_laid) rfl,
  c.def_ 12 (d := d_Store_init) rfl,
  c.def_ 13 (d := d_check_state) rfl,
  c.def_ 14 (d := d_row_on) rfl,
  c.def_ 15 (d := d_is_fine) rfl,
  c.def_ 16 (d := d_need_good) rfl,
  c.def_ 17 (d := d_check_batch) rfl,
  c.def_ 18 (d := d_unlike_cells) rfl,
  c.def_ 19 (d := d_with_cells) rfl,
  c.def_ 20 (d := d_LaxBook_init) rfl,
  c.def_ 21 (d := d_check_ways) rfl,
  c.def_ 22 (d := d_need_own_store) rfl,
  c.def_ 23 (d := d_lets_all) rfl,
  c.def_ 24 (d := d_lax_way) rfl,
  c.def_ 25 (d := d_law_box) rfl,
  c.def_ 26 (d := d_law_take) rfl,
  c.def_ 27 (d := d_law_pick) rfl,
  c.def_ 28 (d := d_law_choices) rfl,
  c.def_ 29 (d := d_law_book) rfl,
  c.def_ 30 (d := d_law_mixed) rfl,
  c.def_ 31 (d := d_law_ways) rfl,
  c.def_ 32 (d := d_law_heard) rfl,
  c.def_ 33 (d := d_law_store) rfl,
  c.def_ 34 (d := d_law_passes) rfl,
  c.def_ 35 (d := d_law_set) rfl,
  c.def_ 36 (d := d_law_lots) rfl,
  c.def_ 37 (d := d_law_way_right) rfl,
  c.def_ 38 (d := d_law) rfl⟩
end K29
namespace K29
open PySem PySem.Spec PyProof.Rows L2
/-! ### a def by its name -/
/-- the module's name x is a def that keeps sp -/
structure Cal (P : Program) (w : World) (K : PySem.W.Frag) (mg : Str → Option Value) (base : Heap) (CX : CXT) (k : Nat) (x : Str) (sp : Sp) : Prop where
  ex : ∃ (f : Addr) (fd : FuncData) (ps : List Str), mg x = some (.ref f) ∧ PySem.W.keepIn K (.ref f) = true ∧ Binds K fd ps [] ∧ FnOk P w K mg base CX k f fd ps sp
def tCal (sp : Sp) (E : XK) (t : TA) : TE := fun σ H Q => t σ H fun vs H1 => sp vs H1 Q E
theorem pe_cal {X : Cx} {CX : CXT} {k j : Nat} {x : Str} {sp : Sp} {E : XK} {e : Expr} {es : List Expr} {t : TA} {p pos : Pos} (C : Cal X.prog X.w X.K X.mg X.base CX k x sp) (hr : Room j X.A) (hk : k ≤ j) (hx : Passes CX X E) (ha : PA X (e :: es) t) (hg : Gl X x := by rfl)
    (hdb : (x == ("__debug__" : Str)) = false := by decide) (he : starEach (e :: es) X.env = (false, eval e X.env) :: starEach es X.env := by rfl) (hpl : (backTo pos (starEach es X.env)).any (·.1) = false := by rfl) :
    PE X (.Call (.Name x p) (e :: es) [] pos) (tCal sp E t) := by
  obtain ⟨f, fd, ps, hm, hkp, hb, F⟩ := C.ex
  have q := pe_call (X := X) (p := p) (pos := pos) F (hr.mono hk) hg hm hkp hb .nil hx ha hdb he hpl
  refine ⟨fun pins s σ H Q I h => q.run pins s σ H Q I ?_⟩
  unfold tCall
  unfold tCal at h
  have e1 : (fun (vs : List V) H1 => sp (vs ++ []) H1 Q E) = fun vs H1 => sp vs H1 Q E := by
    funext vs H1
    rw [List.append_nil]
  rw [e1]
  exact h
section
variable {P : Program} {w : World} {K : PySem.W.Frag} {mg : Str → Option Value} {base : Heap}
/-- a def that lets no exception out -/
theorem cal0 {x : Str} {params : Arguments} {body : List Stmt} {scope : Scope} {f : Addr} {N ps : List Str} {k : Nat} {sp : Sp} (F : ∃ fd, FunD K x x params body scope [] [] f fd) (hm : mg x = some (.ref f)) (S : FnScope N ps scope)
    (hb : ∀ (kV doc pm : Value) (an : Option Addr) (cdv ct : Value) (us : List Value), us.length = ps.length → bindArgs (PySem.W.fnOf x x params body scope .none kV doc pm an cdv ct) ⟨us, []⟩ = pure (ps.zip us))
    (len : ∀ vs H Q E, sp vs H Q E → vs.length = ps.length)
    (hbody : ∀ (cdv : Value) (A : Around) (outer : List Env) (s : Shared) (H : Hp) (vs : List V) (Q : VK) (E : XK), Room k (A.deeper (envOfC x scope s.heap.objs.size f cdv)) → sp vs H Q E →
      ∃ t, PSs (cxOf CX0 P w K mg base N x scope f cdv A outer s H E).nox body t ∧ t { nx := fun _ H' => Q .non H', rt := Q } (start N vs) H) : Cal P w K mg base CX0 (k + 1) x sp := by
  obtain ⟨fd, FD⟩ := F
  refine ⟨f, fd, ps, hm, FD.kp, FD.bindsN hb, FD.ok S len fun cdv A outer s H vs Q E hr h => ?_⟩
  obtain ⟨t, h1, h2⟩ := hbody cdv A outer s H vs Q E hr h
  exact ⟨t, h1.nox, h2⟩
/-- a def that may let one out -/
theorem calX {x : Str} {params : Arguments} {body : List Stmt} {scope : Scope} {f : Addr} {N ps : List Str} {k : Nat} {sp : Sp} (F : ∃ fd, FunD K x x params body scope [] [] f fd) (hm : mg x = some (.ref f)) (S : FnScope N ps scope)
    (hb : ∀ (kV doc pm : Value) (an : Option Addr) (cdv ct : Value) (us : List Value), us.length = ps.length → bindArgs (PySem.W.fnOf x x params body scope .none kV doc pm an cdv ct) ⟨us, []⟩ = pure (ps.zip us))
    (len : ∀ vs H Q E, sp vs H Q E → vs.length = ps.length)
    (hbody : ∀ (cdv : Value) (A : Around) (outer : List Env) (s : Shared) (H : Hp) (vs : List V) (Q : VK) (E : XK), Room k (A.deeper (envOfC x scope s.heap.objs.size f cdv)) → sp vs H Q E →
      ∃ t, PSs (cxOf (L2.CX P w) P w K mg base N x scope f cdv A outer s H E) body t ∧ t { nx := fun _ H' => Q .non H', rt := Q } (start N vs) H) : Cal P w K mg base (L2.CX P w) (k + 1) x sp := by
  obtain ⟨fd, FD⟩ := F
  exact ⟨f, fd, ps, hm, FD.kp, FD.bindsN hb, FD.ok S len hbody⟩
end

/-! ### data by the heap -/
section
variable {K : PySem.W.Frag} {H H' : Hp}
theorem same_rd {a : Addr} {u : HO} (e : Same H H') (h : Rd H a u) : Rd H' a u := by
  rcases h with h | ⟨o, h⟩
  · exact .inl (e _ _ h)
  · exact .inr ⟨o, e _ _ h⟩
theorem same_l {a : Addr} {xs : List V} (e : Same H H') (h : SqL K H a xs) : SqL K H' a xs := e.seq h
theorem same_t {a : Addr} {xs : List V} (e : Same H H') (h : SqT K H a xs) : SqT K H' a xs := by
  rcases h with h | h
  · exact .inl (same_rd e h)
  · exact .inr h
theorem same_new {p : Addr} {o : HO} (h : H p = none) : Same H (upd H p o) := fun b x e => by
  rw [upd_ne (ne_of_none e h)]
  exact e
/-- tuples, and what is known whole, stay -/
structure Kp (H H' : Hp) : Prop where
  tup : ∀ a xs, H a = some (.tup xs) → H' a = some (.tup xs)
  frz : ∀ a o u, H a = some (.frz o u) → H' a = some (.frz o u)
  ins : ∀ a C dx fs, H a = some (.ins C dx fs) → H' a = some (.ins C dx fs)
theorem Kp.of (e : Same H H') : Kp H H' := ⟨fun _ _ h => e _ _ h, fun _ _ _ h => e _ _ h, fun _ _ _ _ h => e _ _ h⟩
theorem Kp.refl : Kp H H := ⟨fun _ _ h => h, fun _ _ _ h => h, fun _ _ _ _ h => h⟩
theorem Kp.trans {H1 : Hp} (a : Kp H H1) (b : Kp H1 H') : Kp H H' := ⟨fun _ _ h => b.tup _ _ (a.tup _ _ h), fun _ _ _ h => b.frz _ _ _ (a.frz _ _ _ h), fun _ _ _ _ h => b.ins _ _ _ _ (a.ins _ _ _ _ h)⟩
theorem kp_t {a : Addr} {xs : List V} (e : Kp H H') (h : SqT K H a xs) : SqT K H' a xs := by
  rcases h with (h | ⟨o, h⟩) | h
  · exact .inl (.inl (e.tup _ _ h))
  · exact .inl (.inr ⟨o, e.frz _ _ _ h⟩)
  · exact .inr h
/-! data without lists -/
mutual
def flatD : PyData → Bool
  | .list _ => false
  | .dict _ => false
  | .tuple ds => flatDs ds
  | _ => true
def flatDs : List PyData → Bool
  | [] => true
  | d :: ds => flatD d && flatDs ds
end
mutual
theorem kp_dp (e : Kp H H') : ∀ (d : PyData) (v : V), flatD d = true → Dp K H v d → Dp K H' v d
  | .none, _, _, h => by cases h; exact .non
  | .bool b, _, _, h => by cases h; exact .bl b
  | .int i, _, _, h => by cases h; exact .int i
  | .str x, _, _, h => by cases h; exact .str x
  | .list ds, _, f, _ => by simp [flatD] at f
  | .dict _, _, f, _ => by simp [flatD] at f
  | .tuple ds, _, f, h => by
    cases h with
    | tup hs ha => exact .tup (kp_t e hs) (kp_dpAll e ds _ (by simpa [flatD] using f) ha)
theorem kp_dpAll (e : Kp H H') : ∀ (ds : List PyData) (vs : List V), flatDs ds = true → DpAll K H vs ds → DpAll K H' vs ds
  | [], _, _, h => by cases h; exact .nil
  | d :: ds, _, f, h => by
    have f' : flatD d = true ∧ flatDs ds = true := by simpa [flatDs] using f
    cases h with
    | cons h1 h2 => exact .cons (kp_dp e d _ f'.1 h1) (kp_dpAll e ds _ f'.2 h2)
end
mutual
theorem same_dp (e : Same H H') : ∀ (d : PyData) (v : V), Dp K H v d → Dp K H' v d
  | .none, _, h => by cases h; exact .non
  | .bool b, _, h => by cases h; exact .bl b
  | .int i, _, h => by cases h; exact .int i
  | .str x, _, h => by cases h; exact .str x
  | .list ds, _, h => by
    cases h with
    | lst hs ha => exact .lst (same_l e hs) (same_dpAll e ds _ ha)
  | .dict _, _, h => by cases h
  | .tuple ds, _, h => by
    cases h with
    | tup hs ha => exact .tup (same_t e hs) (same_dpAll e ds _ ha)
theorem same_dpAll (e : Same H H') : ∀ (ds : List PyData) (vs : List V), DpAll K H vs ds → DpAll K H' vs ds
  | [], _, h => by cases h; exact .nil
  | d :: ds, _, h => by
    cases h with
    | cons h1 h2 => exact .cons (same_dp e d _ h1) (same_dpAll e ds _ h2)
end
theorem dp_tup {v : V} {ds : List PyData} (h : Dp K H v (.tuple ds)) : ∃ a xs, v = .ref a ∧ SqT K H a xs ∧ DpAll K H xs ds := by
  cases h with
  | tup hs ha => exact ⟨_, _, rfl, hs, ha⟩
theorem dp_int {v : V} {i : Int} (h : Dp K H v (.int i)) : v = .int i := by
  cases h
  rfl
theorem dpAll_len : ∀ {vs : List V} {ds : List PyData}, DpAll K H vs ds → vs.length = ds.length
  | _, _, .nil => rfl
  | _, _, .cons _ h => congrArg Nat.succ (dpAll_len h)
theorem dpAll_get : ∀ {vs : List V} {ds : List PyData} {i : Nat} {d : PyData}, DpAll K H vs ds → ds[i]? = some d → ∃ v, vs[i]? = some v ∧ Dp K H v d
  | _, _, _, _, .nil, e => by simp at e
  | _, _, 0, _, .cons h _, e => by
    simp at e
    subst e
    exact ⟨_, rfl, h⟩
  | _, _, i + 1, _, .cons _ h, e => by
    obtain ⟨v, h1, h2⟩ := dpAll_get (i := i) h (by simpa using e)
    exact ⟨v, by simpa using h1, h2⟩
theorem dpAll_at : ∀ {vs : List V} {ds : List PyData} {i : Nat} {v : V}, DpAll K H vs ds → vs[i]? = some v → ∃ d, ds[i]? = some d ∧ Dp K H v d
  | _, _, _, _, .nil, e => by simp at e
  | _, _, 0, _, .cons h _, e => by
    simp at e
    subst e
    exact ⟨_, rfl, h⟩
  | _, _, i + 1, _, .cons _ h, e => by
    obtain ⟨v, h1, h2⟩ := dpAll_at (i := i) h (by simpa using e)
    exact ⟨v, by simpa using h1, h2⟩
theorem dpAll_app : ∀ {vs ws : List V} {ds es : List PyData}, DpAll K H vs ds → DpAll K H ws es → DpAll K H (vs ++ ws) (ds ++ es)
  | _, _, _, _, .nil, h => h
  | _, _, _, _, .cons h t, h' => .cons h (dpAll_app t h')
theorem dpAll_ints {vs : List V} : ∀ {ns : List Int}, DpAll K H vs (ns.map .int) → vs = ns.map V.int := fun {ns} h => by
  induction ns generalizing vs with
  | nil => cases h; rfl
  | cons n ns ih =>
    cases h with
    | cons h1 h2 => rw [dp_int h1, ih h2]; rfl
theorem ints_dpAll : ∀ ns : List Int, DpAll K H (ns.map V.int) (ns.map .int)
  | [] => .nil
  | n :: ns => .cons (.int n) (ints_dpAll ns)
theorem dpAll_of {α : Type} {f : α → PyData} : ∀ {vs : List V} {as : List α}, vs.length = as.length → (∀ (i : Nat) v a, vs[i]? = some v → as[i]? = some a → Dp K H v (f a)) → DpAll K H vs (as.map f)
  | [], [], _, _ => .nil
  | [], _ :: _, h, _ => by simp at h
  | _ :: _, [], h, _ => by simp at h
  | v :: vs, a :: as, h, k => .cons (k 0 v a rfl rfl) (dpAll_of (by simpa using h) fun i v' a' h1 h2 => k (i + 1) v' a' (by simpa using h1) (by simpa using h2))
end
/-- a tuple of ints -/
def dI (ns : List Int) : PyData := .tuple (ns.map .int)
/-- a tuple of tuples of ints -/
def dR (rows : List (List Int)) : PyData := .tuple (rows.map dI)
section
variable {K : PySem.W.Frag} {H H' : Hp}
theorem dI_tup {v : V} {ns : List Int} (h : Dp K H v (dI ns)) : ∃ a, v = .ref a ∧ SqT K H a (ns.map V.int) := by
  obtain ⟨a, xs, e, hs, ha⟩ := dp_tup h
  rw [dpAll_ints ha] at hs
  exact ⟨a, e, hs⟩
theorem tup_dI {a : Addr} {ns : List Int} (h : SqT K H a (ns.map V.int)) : Dp K H (.ref a) (dI ns) := .tup h (ints_dpAll ns)
theorem dR_tup {v : V} {rows : List (List Int)} (h : Dp K H v (dR rows)) : ∃ a xs, v = .ref a ∧ SqT K H a xs ∧ DpAll K H xs (rows.map dI) := dp_tup h
theorem flat_ints : ∀ ns : List Int, flatDs (ns.map .int) = true
  | [] => rfl
  | n :: ns => by simp [flatDs, flatD, flat_ints ns]
theorem flat_dI (ns : List Int) : flatD (dI ns) = true := by
  unfold dI flatD
  exact flat_ints ns
theorem flat_rows : ∀ rows : List (List Int), flatDs (rows.map dI) = true
  | [] => rfl
  | r :: rows => by simp [flatDs, flat_dI r, flat_rows rows]
theorem flat_dR (rows : List (List Int)) : flatD (dR rows) = true := by
  unfold dR flatD
  exact flat_rows rows
end
theorem kp_lst {H : Hp} {D : Addr} {zs ws : List V} (e : H D = some (.lst zs)) : Kp H (upd H D (.lst ws)) := by
  refine ⟨fun b xs q => ?_, fun b o u q => ?_, fun b C dx fs q => ?_⟩
  · rw [upd_ne (ne_of q e (by intro z; cases z))]
    exact q
  · rw [upd_ne (ne_of q e (by intro z; cases z))]
    exact q
  · rw [upd_ne (ne_of q e (by intro z; cases z))]
    exact q
/-! ### tracked tuples of ints -/
section
variable {K : PySem.W.Frag} {H H' : Hp}
def Rw (H : Hp) (v : V) (r : List Int) : Prop := ∃ a, v = .ref a ∧ H a = some (.tup (r.map V.int))
def Rws (H : Hp) (vs : List V) (rows : List (List Int)) : Prop := vs.length = rows.length ∧ ∀ (i : Nat) v r, vs[i]? = some v → rows[i]? = some r → Rw H v r
theorem Rw.sq {v : V} {r : List Int} (h : Rw H v r) : ∃ a, v = .ref a ∧ SqT K H a (r.map V.int) := by
  obtain ⟨a, e, h⟩ := h
  exact ⟨a, e, SqT.of h⟩
theorem Rw.dp {v : V} {r : List Int} (h : Rw H v r) : Dp K H v (dI r) := by
  obtain ⟨a, rfl, h⟩ := h
  exact tup_dI (SqT.of h)
theorem Rw.kp {v : V} {r : List Int} (k : Kp H H') (h : Rw H v r) : Rw H' v r := by
  obtain ⟨a, e, h⟩ := h
  exact ⟨a, e, k.tup _ _ h⟩
theorem Rws.nil : Rws H [] [] := ⟨rfl, fun i v r h => by simp at h⟩
theorem Rws.kp {vs : List V} {rows : List (List Int)} (k : Kp H H') (h : Rws H vs rows) : Rws H' vs rows := ⟨h.1, fun i v r a b => (h.2 i v r a b).kp k⟩
theorem Rws.same {vs : List V} {rows : List (List Int)} (e : Same H H') (h : Rws H vs rows) : Rws H' vs rows := h.kp (Kp.of e)
theorem Rws.at {vs : List V} {rows : List (List Int)} {i : Nat} {v : V} (h : Rws H vs rows) (e : vs[i]? = some v) : ∃ r, rows[i]? = some r ∧ Rw H v r := by
  have hi := (List.getElem?_eq_some_iff.mp e).1
  have hj : i < rows.length := by rw [← h.1]; exact hi
  exact ⟨rows[i], List.getElem?_eq_getElem hj, h.2 i v _ e (List.getElem?_eq_getElem hj)⟩
theorem Rws.get {vs : List V} {rows : List (List Int)} {i : Nat} {r : List Int} (h : Rws H vs rows) (e : rows[i]? = some r) : ∃ v, vs[i]? = some v ∧ Rw H v r := by
  have hi := (List.getElem?_eq_some_iff.mp e).1
  have hj : i < vs.length := by rw [h.1]; exact hi
  exact ⟨vs[i], List.getElem?_eq_getElem hj, h.2 i _ r (List.getElem?_eq_getElem hj) e⟩
theorem Rws.app {vs ws : List V} {rows more : List (List Int)} (h : Rws H vs rows) (h' : Rws H ws more) : Rws H (vs ++ ws) (rows ++ more) := by
  refine ⟨by rw [List.length_append, List.length_append, h.1, h'.1], fun i v r a b => ?_⟩
  by_cases hi : i < vs.length
  · rw [List.getElem?_append_left hi] at a
    rw [List.getElem?_append_left (by rw [← h.1]; exact hi)] at b
    exact h.2 i v r a b
  · rw [List.getElem?_append_right (by omega)] at a
    rw [List.getElem?_append_right (by have := h.1; omega), ← h.1] at b
    exact h'.2 _ v r a b
theorem Rws.one {v : V} {r : List Int} (h : Rw H v r) : Rws H [v] [r] := ⟨rfl, fun i v' r' a b => by
  match i with
  | 0 =>
    cases a
    cases b
    exact h
  | i + 1 => simp at a⟩
theorem Rws.snoc {vs : List V} {rows : List (List Int)} {v : V} {r : List Int} (h : Rws H vs rows) (h' : Rw H v r) : Rws H (vs ++ [v]) (rows ++ [r]) := h.app (.one h')
theorem Rws.dp {vs : List V} {rows : List (List Int)} (h : Rws H vs rows) : DpAll K H vs (rows.map dI) := dpAll_of h.1 fun i v r a b => (h.2 i v r a b).dp
end
theorem lenLine {n : Nat} (h : n ≤ 100000) : n ≤ sizeLine := Nat.le_trans h (by decide)
theorem ltLine {n : Nat} (h : n < 100000) : n < sizeLine := Nat.lt_of_lt_of_le h (by decide)
/-- 0 <= i -/
theorem atI_of {xs : List V} {i : Int} {j : Nat} {v : V} (e : i = (j : Int)) (h : xs[j]? = some v) : atI xs i = some v := by
  subst e
  exact atI_nat h
end K29
namespace K29
open PySem PySem.Spec PyProof.Rows L2
section
variable {P : Program} {w : World} {K : PySem.W.Frag} {mg : Str → Option Value} {base : Heap}
theorem pe_ty {X : Cx} {x : Str} {T : String} {pos : Pos} (hg : Gl X x) (hm : X.mg x = none) (hv : bootBuiltins x = some (.type T)) (hn : x ≠ "__name__" := by decide) (hd : (x == ("__debug__" : Str)) = false := by decide) : PE X (.Name x pos) (tC (.ty T)) :=
  pe_bltn (v := .ty T) hg hm hv rfl hn hd
/-! ### words -/
theorem sc_is_integer : FnScope ["value"] ["value"] (defScope s_is_integer) := ⟨rfl, rfl, rfl, by decide +kernel, rfl, by decide +kernel, by decide +kernel⟩
def spIsInt : Sp := fun vs H Q _ => ∃ i : Int, vs = [.int i] ∧ Q (.bl true) H
theorem k_int_int {K : PySem.W.Frag} : PySem.W.kitOne K (.type "int") (.type "int") = some true := kit_ty (by decide +kernel)
theorem k_int_bool {K : PySem.W.Frag} : PySem.W.kitOne K (.type "int") (.type "bool") = some false := kit_ty (by decide +kernel)
theorem c_is_integer (T : Tx K mg) : Cal P w K mg base CX0 1 "is_integer" spIsInt := by
  refine cal0 T.f_is_integer T.g_is_integer sc_is_integer (fun _ _ _ _ _ _ us hl => match us, hl with | [_], _ => rfl) (fun vs H Q E h => ?_) (fun cdv A outer s H vs Q E hr h => ?_)
  · obtain ⟨i, rfl, _⟩ := h
    rfl
  · obtain ⟨i, rfl, q⟩ := h
    refine ⟨_, pss_one (ps_ret (pe_and (pe_callB call_isi rfl T.z_isinstance PyProof.Rows.boot_isinstance (pa_cons (pv 0) (pa_cons (pe_ty rfl T.z_int PyProof.Rows.boot_int) pa_nil)))
      (pe_one (pe_not (pe_callB call_isi rfl T.z_isinstance PyProof.Rows.boot_isinstance (pa_cons (pv 0) (pa_cons (pe_ty rfl T.z_bool PyProof.Rows.boot_bool) pa_nil))))))), ?_⟩
    refine ⟨_, rfl, _, _, _, _, true, rfl, .ty _, .base (.int i), k_int_int, true, rfl, iteT ?_⟩
    exact ⟨_, rfl, _, _, _, _, false, rfl, .ty _, .base (.int i), k_int_bool, false, rfl, q⟩
theorem sc_is_number : FnScope ["value"] ["value"] (defScope s_is_number) := ⟨rfl, rfl, rfl, by decide +kernel, rfl, by decide +kernel, by decide +kernel⟩
def spIsNum : Sp := fun vs H Q _ => ∃ i : Int, vs = [.int i] ∧ Q (.bl (decide (0 ≤ i))) H
theorem c_is_number (T : Tx K mg) : Cal P w K mg base CX0 2 "is_number" spIsNum := by
  refine cal0 T.f_is_number T.g_is_number sc_is_number (fun _ _ _ _ _ _ us hl => match us, hl with | [_], _ => rfl) (fun vs H Q E h => ?_) (fun cdv A outer s H vs Q E hr h => ?_)
  · obtain ⟨i, rfl, _⟩ := h
    rfl
  · obtain ⟨i, rfl, q⟩ := h
    refine ⟨_, pss_one (ps_ret (pe_and (pe_cal (c_is_integer T) hr (by decide) pass0 (pa_cons (pv 0) pa_nil)) (pe_one (pe_cmpR op_ge (pv 0) pe_int (nomark _))))), ?_⟩
    exact ⟨_, rfl, i, rfl, true, rfl, iteT ⟨_, rfl, i, 0, rfl, rfl, q⟩⟩
theorem sc_is_below : FnScope ["value", "most"] ["value", "most"] (defScope s_is_below) := ⟨rfl, rfl, rfl, by decide +kernel, rfl, by decide +kernel, by decide +kernel⟩
def spIsBelow : Sp := fun vs H Q _ => ∃ i m : Int, vs = [.int i, .int m] ∧ Q (.bl (decide (0 ≤ i ∧ i < m))) H
theorem c_is_below (T : Tx K mg) : Cal P w K mg base CX0 3 "is_below" spIsBelow := by
  refine cal0 T.f_is_below T.g_is_below sc_is_below (fun _ _ _ _ _ _ us hl => match us, hl with | [_, _], _ => rfl) (fun vs H Q E h => ?_) (fun cdv A outer s H vs Q E hr h => ?_)
  · obtain ⟨i, m, rfl, _⟩ := h
    rfl
  · obtain ⟨i, m, rfl, q⟩ := h
    refine ⟨_, pss_one (ps_ret (pe_and (pe_cal (c_is_number T) hr (by decide) pass0 (pa_cons (pv 0) pa_nil)) (pe_one (pe_cmpR op_lt (pv 0) (pv 1) (nomark _))))), ?_⟩
    refine ⟨_, rfl, i, rfl, _, rfl, ite2 (fun c => ?_) (fun c => ?_)⟩
    · refine ⟨_, rfl, _, rfl, i, m, rfl, rfl, ?_⟩
      have c' := of_decide_eq_true c
      have e : decide (i < m) = decide (0 ≤ i ∧ i < m) := decide_eq_decide.mpr ⟨fun h => ⟨c', h⟩, fun h => h.2⟩
      rw [← e] at q
      exact q
    · have c' : ¬ 0 ≤ i := fun h => c (decide_eq_true h)
      rw [decide_eq_false (fun h : 0 ≤ i ∧ i < m => c' h.1)] at q
      exact q
theorem sc_is_within : FnScope ["value", "least", "most"] ["value", "least", "most"] (defScope s_is_within) := ⟨rfl, rfl, rfl, by decide +kernel, rfl, by decide +kernel, by decide +kernel⟩
def spIsWithin : Sp := fun vs H Q _ => ∃ i l m : Int, vs = [.int i, .int l, .int m] ∧ Q (.bl (decide (l ≤ i ∧ i ≤ m))) H
theorem c_is_within (T : Tx K mg) : Cal P w K mg base CX0 2 "is_within" spIsWithin := by
  refine cal0 T.f_is_within T.g_is_within sc_is_within (fun _ _ _ _ _ _ us hl => match us, hl with | [_, _, _], _ => rfl) (fun vs H Q E h => ?_) (fun cdv A outer s H vs Q E hr h => ?_)
  · obtain ⟨i, l, m, rfl, _⟩ := h
    rfl
  · obtain ⟨i, l, m, rfl, q⟩ := h
    refine ⟨_, pss_one (ps_ret (pe_and (pe_cal (c_is_integer T) hr (by decide) pass0 (pa_cons (pv 0) pa_nil)) (pe_one (pe_chain op_le op_le (pv 1) (pv 0) (pv 2))))), ?_⟩
    refine ⟨_, rfl, i, rfl, true, rfl, iteT ⟨_, rfl, _, rfl, l, i, rfl, rfl, _, rfl, ite2 (fun c => ?_) (fun c => ?_)⟩⟩
    · refine ⟨_, rfl, i, m, rfl, rfl, ?_⟩
      have c' := of_decide_eq_true c
      have e : decide (i ≤ m) = decide (l ≤ i ∧ i ≤ m) := decide_eq_decide.mpr ⟨fun h => ⟨c', h⟩, fun h => h.2⟩
      rw [← e] at q
      exact q
    · have c' : ¬ l ≤ i := fun h => c (decide_eq_true h)
      rw [decide_eq_false (fun h : l ≤ i ∧ i ≤ m => c' h.1)] at q
      exact q
theorem sc_is_sequence : FnScope ["value"] ["value"] (defScope s_is_sequence) := ⟨rfl, rfl, rfl, by decide +kernel, rfl, by decide +kernel, by decide +kernel⟩
/-- a list | a tuple | None, a text -/
def IsSeq (K : PySem.W.Frag) (H : Hp) (v : V) (b : Bool) : Prop := (b = true ∧ ∃ a xs, v = .ref a ∧ (H a = some (.lst xs) ∨ SqT K H a xs)) ∨ (b = false ∧ (v = .non ∨ ∃ x, v = .str x))
theorem tyx_tup {H : Hp} {a : Addr} {xs : List V} (h : SqT K H a xs) : TyX K H (.ref a) (.type "tuple") := by
  rcases h with (h | ⟨o, h⟩) | ⟨o, its, n, hk, hc, _⟩
  · exact .base (.tup h)
  · exact .fTuple h
  · exact .kTuple hk hc
theorem IsSeq.ty {H : Hp} {v : V} {b : Bool} (h : IsSeq K H v b) : ∃ t, TyX K H v (.type t) ∧ PySem.W.kitAny K (.type t) [.type "list", .type "tuple"] = some b := by
  have k1 : PySem.W.kitOne K (.type "list") (.type "list") = some true := kit_ty (by decide +kernel)
  have k2 : PySem.W.kitOne K (.type "tuple") (.type "list") = some false := kit_ty (by decide +kernel)
  have k3 : PySem.W.kitOne K (.type "tuple") (.type "tuple") = some true := kit_ty (by decide +kernel)
  have k4 : PySem.W.kitOne K (.type "NoneType") (.type "list") = some false := kit_ty (by decide +kernel)
  have k5 : PySem.W.kitOne K (.type "NoneType") (.type "tuple") = some false := kit_ty (by decide +kernel)
  have k6 : PySem.W.kitOne K (.type "str") (.type "list") = some false := kit_ty (by decide +kernel)
  have k7 : PySem.W.kitOne K (.type "str") (.type "tuple") = some false := kit_ty (by decide +kernel)
  rcases h with ⟨rfl, a, xs, rfl, h | h⟩ | ⟨rfl, rfl | ⟨x, rfl⟩⟩
  · exact ⟨_, .base (.lst h), kitAny_cons k1 (fun z => by cases z) (fun _ => rfl)⟩
  · exact ⟨_, tyx_tup h, kitAny_cons k2 (fun _ => kitAny_cons k3 (fun z => by cases z) (fun _ => rfl)) (fun z => by cases z)⟩
  · exact ⟨_, .base .non, kitAny_cons k4 (fun _ => kitAny_cons k5 (fun _ => kitAny_nil) (fun z => by cases z)) (fun z => by cases z)⟩
  · exact ⟨_, .base (.str x), kitAny_cons k6 (fun _ => kitAny_cons k7 (fun _ => kitAny_nil) (fun z => by cases z)) (fun z => by cases z)⟩
theorem IsSeq.same {H H' : Hp} {v : V} {b : Bool} (e : Same H H') (h : IsSeq K H v b) : IsSeq K H' v b := by
  rcases h with ⟨e1, a, xs, e2, h | h⟩ | h
  · exact .inl ⟨e1, a, xs, e2, .inl (e _ _ h)⟩
  · exact .inl ⟨e1, a, xs, e2, .inr (same_t e h)⟩
  · exact .inr h
def spIsSeq (K : PySem.W.Frag) : Sp := fun vs H Q _ => ∃ (v : V) (b : Bool), vs = [v] ∧ IsSeq K H v b ∧ ∀ H', Same H H' → Q (.bl b) H'
theorem c_is_sequence (T : Tx K mg) : Cal P w K mg base CX0 1 "is_sequence" (spIsSeq K) := by
  refine cal0 T.f_is_sequence T.g_is_sequence sc_is_sequence (fun _ _ _ _ _ _ us hl => match us, hl with | [_], _ => rfl) (fun vs H Q E h => ?_) (fun cdv A outer s H vs Q E hr h => ?_)
  · obtain ⟨v, b, rfl, _⟩ := h
    rfl
  · obtain ⟨v, b, rfl, hv, q⟩ := h
    refine ⟨_, pss_one (ps_ret (pe_callB call_isiT rfl T.z_isinstance PyProof.Rows.boot_isinstance (pa_cons (pv 0) (pa_cons (pe_tup (pa_cons (pe_ty rfl T.z_list PyProof.Rows.boot_list) (pa_cons (pe_ty rfl T.z_tuple PyProof.Rows.boot_tuple) pa_nil))) pa_nil)))), ?_⟩
    refine ⟨_, rfl, (by show 2 ≤ sizeLine; decide), fun p np => ?_⟩
    obtain ⟨t, ty, k⟩ := (hv.same (same_new (o := .tup [.ty "list", .ty "tuple"]) np)).ty
    exact ⟨_, p, _, _, _, b, rfl, upd_same, .cons (.ty _) (.cons (.ty _) .nil), ty, k, q _ (same_new np)⟩
end
end K29
namespace K29
open PySem PySem.Spec PyProof.Rows L2
section
variable {P : Program} {w : World} {K : PySem.W.Frag} {mg : Str → Option Value} {base : Heap}
/-! ### the box that draws come from -/
def BoxAt (H : Hp) (bx : Addr) : Prop := ∃ g s : Int, H bx = some (.lst [.int g, .int s]) ∧ 0 ≤ g ∧ 0 ≤ s ∧ s ≤ 2147483587
/-- all but the box stays -/
def Gr (bx : Addr) (H H' : Hp) : Prop := ∀ b o, b ≠ bx → H b = some o → H' b = some o
theorem Gr.refl {bx : Addr} (H : Hp) : Gr bx H H := fun _ _ _ h => h
theorem Gr.of {bx : Addr} {H H' : Hp} (e : Same H H') : Gr bx H H' := fun b o _ h => e b o h
theorem Gr.trans {bx : Addr} {H H1 H2 : Hp} (a : Gr bx H H1) (b : Gr bx H1 H2) : Gr bx H H2 := fun c o n h => b c o n (a c o n h)
theorem Gr.new {bx p : Addr} {H H' : Hp} {o : HO} (g : Gr bx H H') (h : H' p = none) : Gr bx H (upd H' p o) := g.trans (Gr.of (same_new h))
theorem BoxAt.same {H H' : Hp} {bx : Addr} (e : Same H H') (h : BoxAt H bx) : BoxAt H' bx := by
  obtain ⟨g, s, h1, h2⟩ := h
  exact ⟨g, s, e _ _ h1, h2⟩
theorem BoxAt.kp {H H' : Hp} {bx : Addr} (h : BoxAt H bx) (e : Gr bx H H') : Kp H H' := by
  obtain ⟨g, s, h1, _⟩ := h
  refine ⟨fun a xs ha => e a _ (fun z => ?_) ha, fun a o u ha => e a _ (fun z => ?_) ha, fun a C dx fs ha => e a _ (fun z => ?_) ha⟩
  · rw [z, h1] at ha
    cases ha
  · rw [z, h1] at ha
    cases ha
  · rw [z, h1] at ha
    cases ha
theorem BoxAt.ne {H : Hp} {bx p : Addr} (h : BoxAt H bx) (hp : H p = none) : p ≠ bx := fun z => by
  obtain ⟨g, s, h1, _⟩ := h
  rw [z, h1] at hp
  cases hp
theorem BoxAt.upd {H : Hp} {bx p : Addr} {o : HO} (h : BoxAt H bx) (hp : p ≠ bx) : BoxAt (upd H p o) bx := by
  obtain ⟨g, s, h1, h2⟩ := h
  exact ⟨g, s, by rw [upd_ne (Ne.symm hp)]; exact h1, h2⟩
theorem sc_law_box : FnScope ["_law_script", "_law_k", "_law_cell", "_law_great"] ["_law_script", "_law_k"] (defScope s_law_box) := ⟨rfl, rfl, rfl, by decide +kernel, rfl, by decide +kernel, by decide +kernel⟩
def spBox (K : PySem.W.Frag) : Sp := fun vs H Q _ => ∃ (a : Addr) (ns : List Int) (k : Int), vs = [.ref a, .int k] ∧ SqL K H a (ns.map V.int) ∧ 0 ≤ k ∧ k < 4 ∧ ∀ H' bx, H bx = none → Same H H' → BoxAt H' bx → Q (.ref bx) H'
theorem c_law_box (T : Tx K mg) : Cal P w K mg base CX0 1 "_law_box" (spBox K) := by
  refine cal0 T.f_law_box T.g_law_box sc_law_box (fun _ _ _ _ _ _ us hl => match us, hl with | [_, _], _ => rfl) (fun vs H Q E h => ?_) (fun cdv A outer s H vs Q E hr h => ?_)
  · obtain ⟨a, ns, k, rfl, _⟩ := h
    rfl
  · obtain ⟨a, ns, k, rfl, hS, hk0, hk4, q⟩ := h
    have nd := sc_law_box.nd
    refine ⟨_, pss_cons (ps_set (i := 2) nd rfl (.inl rfl) (pe_op op_add (pe_op op_mul pe_int (pv 1)) pe_int))
      (C8.pss_cut (ps_if (pt_cmpR op_lt (pv 1) (pe_callB call_len_seq (by rfl) T.z_len PySem.boot_len (pa_cons (pv 0) pa_nil)) (nomark _))
        (pss_one (ps_set (i := 2) nd rfl (.inl rfl) (pe_callB call_abs (by rfl) T.z_abs PyProof.Rows.boot_abs (pa_cons (pe_callTy call_int1 (by rfl) T.z_int PyProof.Rows.boot_int (pa_cons (pe_ix ix_list (pv 0) (pv 1) (fun _ _ => rfl)) pa_nil)) pa_nil))))
        (pss_one (ps_if (pt_cmpR op_gt (pe_callB call_len_seq (by rfl) T.z_len PySem.boot_len (pa_cons (pv 0) pa_nil)) pe_int (nomark _))
          (pss_one (ps_set (i := 2) nd rfl (.inl rfl) (pe_op op_add (pv 2) (pe_op op_mul (pe_op op_mod
            (pe_callTy call_int1 (by rfl) T.z_int PyProof.Rows.boot_int (pa_cons (pe_callB call_abs (by rfl) T.z_abs PyProof.Rows.boot_abs (pa_cons (pe_callTy call_int1 (by rfl) T.z_int PyProof.Rows.boot_int (pa_cons
              (pe_ix ix_list (pv 0) (pe_op op_mod (pe_callTy call_int1 (by rfl) T.z_int PyProof.Rows.boot_int (pa_cons (pv 1) pa_nil)) (pe_callB call_len_seq (by rfl) T.z_len PySem.boot_len (pa_cons (pv 0) pa_nil))) (fun _ _ => rfl)) pa_nil)) pa_nil)) pa_nil))
            pe_int) pe_int)))) pss_nil)))
      (pss_cons (ps_set (i := 3) nd rfl (.inl rfl) (pe_ifExp (pt_cmpR op_ge (pv 2) (pe_op op_pow pe_int pe_int) (nomark _)) (pv 2) pe_int))
      (pss_one (ps_ret (pe_lst (pa_cons (pv 3) (pa_cons (pe_op op_add (pe_op op_mod (pe_callTy call_int1 (by rfl) T.z_int PyProof.Rows.boot_int (pa_cons
        (pe_op op_add (pe_op op_mul (pe_op op_mod (pe_callTy call_int1 (by rfl) T.z_int PyProof.Rows.boot_int (pa_cons (pv 2) pa_nil)) pe_int) pe_int) (pe_op op_mul pe_int (pv 1))) pa_nil)) pe_int) pe_int) pa_nil))))))), ?_⟩
    -- _law_cell = 7027 * _law_k + 1021
    refine ⟨_, rfl, _, _, rfl, rfl, .inl (by constructor <;> decide), _, _, rfl, rfl, ?_⟩
    -- what stands behind the if
    refine ⟨fun σ' H' => ∃ c : Int, 0 ≤ c ∧ σ' = [some (.ref a), some (.int k), some (.int c), none] ∧ H' = H, ?_, ?_⟩
    · have hlen : ∀ b : Bool, True := fun _ => trivial
      refine ⟨_, rfl, .ref a, rfl, a, _, rfl, .inl hS, _, _, rfl, rfl, _, rfl, ite2 (fun c => ?_) (fun c => ?_)⟩
      · have c1 : k < ((ns.map V.int).length : Int) := of_decide_eq_true c
        rw [List.length_map] at c1
        obtain ⟨j, rfl⟩ : ∃ j : Nat, k = (j : Int) := ⟨k.toNat, by omega⟩
        have hj : j < ns.length := by omega
        refine ⟨_, rfl, _, rfl, _, _, _, _, rfl, rfl, hS, atI_nat (j := j) (v := .int ns[j]) (by rw [List.getElem?_map, List.getElem?_eq_getElem hj]; rfl), .inl ⟨_, rfl, _, rfl, ?_⟩⟩
        refine ⟨_, ?_, rfl, rfl⟩
        split <;> omega
      · refine ⟨.ref a, rfl, a, _, rfl, .inl hS, _, _, rfl, rfl, _, rfl, ite2 (fun c2 => ?_) (fun c2 => ?_)⟩
        · have c3 : 0 < ((ns.map V.int).length : Int) := of_decide_eq_true c2
          rw [List.length_map] at c3
          have hm0 := Int.emod_nonneg k (show ((ns.map V.int).length : Int) ≠ 0 by rw [List.length_map]; omega)
          have hm1 := Int.emod_lt_of_pos k (show 0 < ((ns.map V.int).length : Int) by rw [List.length_map]; omega)
          obtain ⟨j, ej⟩ : ∃ j : Nat, k % ((ns.map V.int).length : Int) = (j : Int) := ⟨(k % ((ns.map V.int).length : Int)).toNat, by omega⟩
          have hj : j < ns.length := by
            rw [List.length_map] at ej hm1
            omega
          refine ⟨_, rfl, _, rfl, _, rfl, .inl ⟨_, rfl, _, rfl, a, _, rfl, .inl hS, _, _, rfl, rfl, (show 0 < ((ns.map V.int).length : Int) by rw [List.length_map]; omega), _, _, _, _, rfl, rfl, hS, atI_of ej (v := .int ns[j]) (by rw [List.getElem?_map, List.getElem?_eq_getElem hj]; rfl), ?_⟩⟩
          refine .inl ⟨_, rfl, _, rfl, .inl ⟨_, rfl, _, _, rfl, rfl, (show (0 : Int) < 2147483587 by decide), _, _, rfl, rfl, .inr (by constructor <;> decide), _, _, rfl, rfl, ?_⟩⟩
          refine ⟨_, ?_, rfl, rfl⟩
          have := Int.emod_nonneg (if ns[j] < 0 then -ns[j] else ns[j]) (show (2147483587 : Int) ≠ 0 by decide)
          omega
        · exact ⟨_, by omega, rfl, rfl⟩
    · rintro σ' H' ⟨c, hc, rfl, rfl⟩
      refine ⟨_, rfl, _, _, rfl, rfl, ⟨by decide, by decide, by decide⟩, _, _, rfl, rfl, _, rfl, ?_⟩
      have key : ∀ g : Int, 0 ≤ g → tRet (tLst (tCons (tVar 3) (tCons (tOp (rI0 fun i j => .int (i + j)) (tOp (rI (fun _ j => 0 < j) fun i j => .int (i % j)) (tCB (fun xs H Q => (∃ i, xs = [.int i] ∧ Q (.int i) H) ∨ ∃ k, xs = [.bl k] ∧ Q (.int (if k then 1 else 0)) H) (tCons (tOp (rI0 fun i j => .int (i + j)) (tOp (rI CMul fun i j => .int (i * j)) (tOp (rI (fun _ j => 0 < j) fun i j => .int (i % j))
          (tCB (fun xs H Q => (∃ i, xs = [.int i] ∧ Q (.int i) H) ∨ ∃ k, xs = [.bl k] ∧ Q (.int (if k then 1 else 0)) H) (tCons (tVar 2) tNil)) (tC (.int 2147483587))) (tC (.int 69069))) (tOp (rI CMul fun i j => .int (i * j)) (tC (.int 1021)) (tVar 1))) tNil)) (tC (.int 2147483587))) (tC (.int 1))) tNil))) { nx := fun _ H' => Q .non H', rt := Q } [some (.ref a), some (.int k), some (.int c), some (.int g)] H' := fun g hg => by
        refine ⟨_, rfl, _, rfl, .inl ⟨_, rfl, _, _, rfl, rfl, (show (0 : Int) < 2147483587 by decide), _, _, rfl, rfl, .inr (by constructor <;> decide), _, rfl, _, _, rfl, rfl, .inl (by constructor <;> decide), _, _, rfl, rfl, ?_⟩⟩
        refine .inl ⟨_, rfl, _, _, rfl, rfl, (show (0 : Int) < 2147483587 by decide), _, _, rfl, rfl, (by show 2 ≤ sizeLine; decide), fun p np => ?_⟩
        refine q _ p np (same_new np) ⟨g, _, upd_same, hg, ?_, ?_⟩
        · have := Int.emod_nonneg (c % 2147483587 * 69069 + 1021 * k) (show (2147483587 : Int) ≠ 0 by decide)
          omega
        · have := Int.emod_lt_of_pos (c % 2147483587 * 69069 + 1021 * k) (show 0 < (2147483587 : Int) by decide)
          omega
      exact ite2 (fun _ => ⟨_, rfl, key c hc⟩) (fun _ => key 0 (by omega))
end
end K29
namespace K29
open PySem PySem.Spec PyProof.Rows L2
/-! ### rules with the written part named (for blocks of comprehensions) -/
section
variable {X : Cx} {K : PySem.W.Frag}
theorem kop_catA (K : PySem.W.Frag) (h : X.K = K := by rfl) : OpR X (binaryOp .Add) (rCatA K) := by
  subst h
  exact op_catA
theorem kop_in_seq (K : PySem.W.Frag) (h : X.K = K := by rfl) : OpR X (compareOp .In) (rIn K false) := by
  subst h
  exact op_in_seq
theorem kop_notIn_seq (K : PySem.W.Frag) (h : X.K = K := by rfl) : OpR X (compareOp .NotIn) (rIn K true) := by
  subst h
  exact op_notIn_seq
theorem kop_eqD (K : PySem.W.Frag) (hu : X.A.units + 64 < cLine) (h : X.K = K := by rfl) : OpR X (compareOp .Eq) (rEqD K) := by
  subst h
  exact op_eqD hu
theorem kix_list (K : PySem.W.Frag) (h : X.K = K := by rfl) : IxR X (rIxL K) := by
  subst h
  exact ix_list
theorem kix_tup (K : PySem.W.Frag) (h : X.K = K := by rfl) : IxR X (rIxT K) := by
  subst h
  exact ix_tup
theorem kcall_len_seq (K : PySem.W.Frag) (h : X.K = K := by rfl) : CallR X (.builtin "len") (fun xs H Q => ∃ p ys, xs = [.ref p] ∧ (SqL K H p ys ∨ SqT K H p ys) ∧ Q (.int ys.length) H) := by
  subst h
  exact call_len_seq
theorem kcall_tuple_of (K : PySem.W.Frag) (h : X.K = K := by rfl) : CallR X (.type "tuple") (fun xs H Q => ∃ p ys, xs = [.ref p] ∧ ((SqL K H p ys ∧ ∀ l, H l = none → Q (.ref l) (upd H l (.tup ys))) ∨ (SqT K H p ys ∧ Q (.ref p) H))) := by
  subst h
  exact call_tuple_of
theorem kpe_fld (K : PySem.W.Frag) {e : Expr} {ta : TE} {f : Str} {pos : Pos} (he : PE X e ta) (hb : attributeBase e f X.env (eval e X.env) = eval e X.env) (h : X.K = K := by rfl) : PE X (.Attribute e f pos) (tFld K ta f) := by
  subst h
  exact pe_fld he hb
theorem kpi_list (K : PySem.W.Frag) {tg l : Expr} {tl : TE} (hl : PE X l tl) (h : X.K = K := by rfl) : PI X tg l (iList K tl) := by
  subst h
  exact pi_list hl
theorem kpi_tup (K : PySem.W.Frag) {tg l : Expr} {tl : TE} (hl : PE X l tl) (h : X.K = K := by rfl) : PI X tg l (iTup K tl) := by
  subst h
  exact pi_tup hl
end
theorem boot_all : bootBuiltins "all" = some (.builtin "all") := by decide +kernel
theorem pe_cst {X : Cx} {x : Str} {i : Int} {pos : Pos} (hg : Gl X x) (hm : ∃ t, X.mg x = some (.int i t)) (hd : (x == ("__debug__" : Str)) = false := by decide) : PE X (.Name x pos) (tC (.int i)) := by
  obtain ⟨t, hm⟩ := hm
  exact pe_glob hg hm ⟨t, rfl⟩ hd
end K29
namespace K29
open PySem PySem.Spec PyProof.Rows L2
theorem kpg_tup (K : PySem.W.Frag) {X : Cx} {es : List Expr} {k : Nat} {pos : Pos} {t : TGs} {n : Nat} (hc : X.calm = true) (h : PGs X es t)
    (hn : (assignEach es X.env).length = n := by rfl) (hst : (assignEach es X.env).findIdx? (·.1) = none := by rfl) (hk : X.K = K := by rfl) : PG X (.Tuple es k pos) (gTup K n t) := by
  subst hk
  exact pg_tup hc h hn hst
end K29
namespace K29
open PySem PySem.Spec PyProof.Rows L2
section
variable {P : Program} {w : World} {K : PySem.W.Frag} {mg : Str → Option Value} {base : Heap}
theorem sc_law_take : FnScope ["_law_box_here", "_law_many", "_law_digit", "_law_raw"] ["_law_box_here", "_law_many"] (defScope s_law_take) := ⟨rfl, rfl, rfl, by decide +kernel, rfl, by decide +kernel, by decide +kernel⟩
def spTake : Sp := fun vs H Q _ => ∃ (bx : Addr) (n : Int), vs = [.ref bx, .int n] ∧ BoxAt H bx ∧ 1 ≤ n ∧ n < 1073741824 ∧ ∀ H' r, Gr bx H H' → BoxAt H' bx → 0 ≤ r → r < n → Q (.int r) H'
theorem gr_upd {bx : Addr} {H : Hp} {o : HO} : Gr bx H (upd H bx o) := fun b x n e => by
  rw [upd_ne n]
  exact e
theorem c_law_take (T : Tx K mg) : Cal P w K mg base CX0 1 "_law_take" spTake := by
  refine cal0 T.f_law_take T.g_law_take sc_law_take (fun _ _ _ _ _ _ us hl => match us, hl with | [_, _], _ => rfl) (fun vs H Q E h => ?_) (fun cdv A outer s H vs Q E hr h => ?_)
  · obtain ⟨bx, n, rfl, _⟩ := h
    rfl
  · obtain ⟨bx, n, rfl, ⟨g, z, hb, hg, hz0, hz1⟩, hn1, hn2, q⟩ := h
    have nd := sc_law_take.nd
    have L0 : SqL K H bx [.int g, .int z] := SqL.of hb
    have npos : (0 : Int) < n := by omega
    refine ⟨_, (pss_cons (ps_if (pt_cmpR op_gt (pe_ix ix_list (pv 0) pe_int (fun _ _ => rfl)) pe_int (nomark _))
      (pss_cons (ps_set (i := 2) nd rfl (.inl rfl) (pe_op op_mod (pe_callTy call_int1 (by rfl) T.z_int PyProof.Rows.boot_int (pa_cons (pe_ix ix_list (pv 0) pe_int (fun _ _ => rfl)) pa_nil)) (pv 1)))
      (pss_cons (ps_asg (pe_op op_fdiv (pe_ix ix_list (pv 0) pe_int (fun _ _ => rfl)) (pv 1)) (pg_sub (pv 0) pe_int set_list))
      (pss_one (ps_ret (pv 2)))))
      pss_nil)
    (pss_cons (ps_set (i := 3) nd rfl (.inl rfl) (pe_op op_mod (pe_callTy call_int1 (by rfl) T.z_int PyProof.Rows.boot_int (pa_cons (pe_op op_add (pe_op op_mul (pe_ix ix_list (pv 0) pe_int (fun _ _ => rfl)) pe_int) pe_int) pa_nil)) pe_int))
    (pss_cons (ps_asg (pe_op op_add (pe_op op_mod (pe_callTy call_int1 (by rfl) T.z_int PyProof.Rows.boot_int (pa_cons (pe_op op_add (pe_op op_mul (pv 3) pe_int) pe_int) pa_nil)) pe_int) pe_int) (pg_sub (pv 0) pe_int set_list))
    (pss_one (ps_ret (pe_op op_mod (pe_callTy call_int1 (by rfl) T.z_int PyProof.Rows.boot_int (pa_cons (pe_op op_fdiv (pe_op op_add (pe_op op_mul (pv 3) pe_int) (pe_ix ix_list (pv 0) pe_int (fun _ _ => rfl))) pe_int) pa_nil)) (pv 1))))))), ?_⟩
    refine ⟨_, rfl, bx, _, 0, .int g, rfl, rfl, L0, atI_nat (j := 0) rfl, g, 0, rfl, rfl, _, rfl, ite2 (fun c => ?_) (fun c => ?_)⟩
    · have c0 : 0 < g := of_decide_eq_true c
      refine ⟨_, rfl, bx, _, 0, .int g, rfl, rfl, L0, atI_nat (j := 0) rfl, .inl ⟨g, rfl, _, rfl, g, n, rfl, rfl, npos, ?_⟩⟩
      refine ⟨_, rfl, bx, _, 0, .int g, rfl, rfl, L0, atI_nat (j := 0) rfl, _, rfl, g, n, rfl, rfl, ⟨npos, hn2⟩, ?_⟩
      refine ⟨_, rfl, bx, _, _, 0, rfl, rfl, hb, rfl, ?_⟩
      refine ⟨_, rfl, ?_⟩
      exact q _ _ gr_upd ⟨g / n, z, upd_same, Int.ediv_nonneg hg (by omega), hz0, hz1⟩ (Int.emod_nonneg _ (by omega)) (Int.emod_lt_of_pos _ npos)
    · refine ⟨_, rfl, bx, _, 1, .int z, rfl, rfl, L0, atI_nat (j := 1) rfl, z, _, rfl, rfl, .inl ⟨by omega, by omega⟩, _, _, rfl, rfl, .inl ⟨_, rfl, _, _, rfl, rfl, (show (0 : Int) < 2147483399 by decide), ?_⟩⟩
      have r0 := Int.emod_nonneg (z * 40692 + 97) (show (2147483399 : Int) ≠ 0 by decide)
      have r1 := Int.emod_lt_of_pos (z * 40692 + 97) (show (0 : Int) < 2147483399 by decide)
      have s0 := Int.emod_nonneg ((z * 40692 + 97) % 2147483399 * 40014 + 11) (show (2147483587 : Int) ≠ 0 by decide)
      have s1 := Int.emod_lt_of_pos ((z * 40692 + 97) % 2147483399 * 40014 + 11) (show (0 : Int) < 2147483587 by decide)
      refine ⟨_, rfl, _, _, rfl, rfl, .inl ⟨by omega, by omega⟩, _, _, rfl, rfl, .inl ⟨_, rfl, _, _, rfl, rfl, (show (0 : Int) < 2147483587 by decide), _, _, rfl, rfl, ?_⟩⟩
      refine ⟨_, rfl, bx, _, _, 1, rfl, rfl, hb, rfl, ?_⟩
      refine ⟨_, rfl, _, _, rfl, rfl, .inl ⟨by omega, by omega⟩, _, rfl, bx, _, 1, _, rfl, rfl, SqL.of upd_same, atI_nat (j := 1) rfl, _, _, rfl, rfl, _, _, rfl, rfl, ⟨by decide, by decide⟩, .inl ⟨_, rfl, _, rfl, _, _, rfl, rfl, npos, ?_⟩⟩
      exact q _ _ gr_upd ⟨g, ((z * 40692 + 97) % 2147483399 * 40014 + 11) % 2147483587 + 1, upd_same, hg, by omega, by omega⟩ (Int.emod_nonneg _ (by omega)) (Int.emod_lt_of_pos _ npos)
theorem sc_law_pick : FnScope ["_law_box_here", "_law_some"] ["_law_box_here", "_law_some"] (defScope s_law_pick) := ⟨rfl, rfl, rfl, by decide +kernel, rfl, by decide +kernel, by decide +kernel⟩
def spPick (K : PySem.W.Frag) : Sp := fun vs H Q _ => ∃ (bx a : Addr) (xs : List V), vs = [.ref bx, .ref a] ∧ BoxAt H bx ∧ H a = some (.lst xs) ∧ a ≠ bx ∧ 1 ≤ xs.length ∧ xs.length < 1000 ∧ ∀ (H' : Hp) (j : Nat) (v : V), Gr bx H H' → BoxAt H' bx → xs[j]? = some v → Q v H'
theorem c_law_pick (T : Tx K mg) : Cal P w K mg base CX0 2 "_law_pick" (spPick K) := by
  refine cal0 T.f_law_pick T.g_law_pick sc_law_pick (fun _ _ _ _ _ _ us hl => match us, hl with | [_, _], _ => rfl) (fun vs H Q E h => ?_) (fun cdv A outer s H vs Q E hr h => ?_)
  · obtain ⟨bx, a, xs, rfl, _⟩ := h
    rfl
  · obtain ⟨bx, a, xs, rfl, hb, ha, nab, h1, h2, q⟩ := h
    have nd := sc_law_pick.nd
    refine ⟨_, pss_one (ps_ret (pe_ix ix_list (pv 1) (pe_cal (c_law_take T) hr (by decide) pass0 (pa_cons (pv 0) (pa_cons (pe_callB call_len_seq (by rfl) T.z_len PySem.boot_len (pa_cons (pv 1) pa_nil)) pa_nil))) (fun _ _ => rfl))), ?_⟩
    refine ⟨_, rfl, _, rfl, _, rfl, a, xs, rfl, .inl (SqL.of ha), bx, _, rfl, hb, by omega, by omega, fun H' r gr hb' r0 r1 => ?_⟩
    obtain ⟨j, rfl⟩ : ∃ j : Nat, r = (j : Int) := ⟨r.toNat, by omega⟩
    have hj : j < xs.length := by omega
    exact ⟨a, xs, _, xs[j], rfl, rfl, SqL.of (gr a _ nab ha), atI_nat (List.getElem?_eq_getElem hj), q _ j _ gr hb' (List.getElem?_eq_getElem hj)⟩
/-! ### all rows of numbers below sizes -/
def ext1 (r : List Int) (n : Nat) : List (List Int) := (List.range n).map fun k : Nat => r ++ [(k : Int)]
def choices : List Int → List (List Int) := fun ss => ss.foldl (fun F s => F.flatMap fun r => ext1 r s.toNat) [[]]
theorem foldl_take {α β : Type} (f : β → α → β) (b : β) : ∀ (l : List α) (i : Nat) (x : α), l[i]? = some x → (l.take (i + 1)).foldl f b = f ((l.take i).foldl f b) x := fun l i x h => by
  rw [List.take_add_one, h]
  simp
theorem choices_take {ss : List Int} {i : Nat} {s : Int} (h : ss[i]? = some s) : choices (ss.take (i + 1)) = (choices (ss.take i)).flatMap fun r => ext1 r s.toNat := foldl_take _ _ _ _ _ h
theorem flatMap_take {α β : Type} (f : α → List β) {l : List α} {i : Nat} {x : α} (h : l[i]? = some x) : (l.take (i + 1)).flatMap f = (l.take i).flatMap f ++ f x := by
  rw [List.take_add_one, h]
  simp
theorem sc_law_choices : FnScope ["_law_sizes", "_law_found", "_law_size", "_law_longer", "_law_row", "_law_number"] ["_law_sizes"] (defScope s_law_choices) := ⟨rfl, rfl, rfl, by decide +kernel, rfl, by decide +kernel, by decide +kernel⟩
theorem ext1_len (r : List Int) (n : Nat) : (ext1 r n).length = n := by
  unfold ext1
  rw [List.length_map, List.length_range]
theorem flat_len {F : List (List Int)} {n : Nat} : (F.flatMap fun r => ext1 r n).length = F.length * n := by
  induction F with
  | nil => simp
  | cons r F ih =>
    rw [List.flatMap_cons, List.length_append, ih, ext1_len, List.length_cons, Nat.succ_mul]
    omega
theorem choices_len3 : ∀ {ss : List Int}, (∀ s ∈ ss, 1 ≤ s ∧ s ≤ 3) → (choices ss).length ≤ 3 ^ ss.length := by
  have key : ∀ (ss : List Int) (F : List (List Int)), (∀ s ∈ ss, 1 ≤ s ∧ s ≤ 3) → (ss.foldl (fun F s => F.flatMap fun r => ext1 r s.toNat) F).length ≤ F.length * 3 ^ ss.length := by
    intro ss
    induction ss with
    | nil => intro F _; simp
    | cons s ss ih =>
      intro F h
      have h1 := h s (List.mem_cons_self ..)
      refine Nat.le_trans (ih _ fun x hx => h x (List.mem_cons_of_mem _ hx)) ?_
      rw [flat_len, List.length_cons, Nat.pow_succ, Nat.mul_comm (3 ^ ss.length) 3, ← Nat.mul_assoc]
      exact Nat.mul_le_mul_right _ (Nat.mul_le_mul_left _ (by omega))
  intro ss h
  have := key ss [[]] h
  rw [List.length_singleton, Nat.one_mul] at this
  exact this
theorem choices_mem : ∀ {ss : List Int} {r : List Int}, r ∈ choices ss ↔ r.length = ss.length ∧ ∀ (i : Nat) x s, r[i]? = some x → ss[i]? = some s → 0 ≤ x ∧ x < s := by
  have key : ∀ (ss : List Int) (F : List (List Int)) (r : List Int), r ∈ ss.foldl (fun F s => F.flatMap fun r => ext1 r s.toNat) F ↔ ∃ q t, q ∈ F ∧ r = q ++ t ∧ t.length = ss.length ∧ ∀ (i : Nat) x s, t[i]? = some x → ss[i]? = some s → 0 ≤ x ∧ x < s := by
    intro ss
    induction ss with
    | nil =>
      intro F r
      constructor
      · intro h
        exact ⟨r, [], h, by simp, rfl, fun i x s h => by simp at h⟩
      · rintro ⟨q, t, hq, rfl, ht, _⟩
        have : t = [] := List.length_eq_zero_iff.mp ht
        subst this
        simpa using hq
    | cons s ss ih =>
      intro F r
      rw [List.foldl_cons, ih]
      constructor
      · rintro ⟨q, t, hq, rfl, ht, h⟩
        obtain ⟨q0, hq0, hm⟩ := List.mem_flatMap.mp hq
        obtain ⟨k, hk, rfl⟩ := List.mem_map.mp hm
        refine ⟨q0, (k : Int) :: t, hq0, by simp, by simp [ht], fun i x s' h1 h2 => ?_⟩
        cases i with
        | zero =>
          have e1 : (k : Int) = x := Option.some.inj h1
          have e2 : s = s' := Option.some.inj h2
          have := List.mem_range.mp hk
          omega
        | succ i => exact h i x s' h1 h2
      · rintro ⟨q, t, hq, rfl, ht, h⟩
        cases t with
        | nil => simp at ht
        | cons x t =>
          have hx := h 0 x s rfl rfl
          have hx2 : x.toNat < s.toNat := by omega
          refine ⟨q ++ [x], t, List.mem_flatMap.mpr ⟨q, hq, List.mem_map.mpr ⟨x.toNat, List.mem_range.mpr hx2, ?_⟩⟩, by simp, by simpa using ht, fun i y s' h1 h2 => h (i + 1) y s' h1 h2⟩
          have : ((x.toNat : Nat) : Int) = x := by omega
          rw [this]
  intro ss r
  unfold choices
  rw [key]
  constructor
  · rintro ⟨q, t, hq, rfl, ht, h⟩
    rw [List.mem_singleton.mp hq]
    exact ⟨by simpa using ht, by simpa using h⟩
  · rintro ⟨ht, h⟩
    exact ⟨[], r, List.mem_cons_self .., by simp, ht, h⟩
def spChoices (K : PySem.W.Frag) : Sp := fun vs H Q _ => ∃ (a : Addr) (ss : List Int), vs = [.ref a] ∧ SqL K H a (ss.map V.int) ∧ (∀ s ∈ ss, 1 ≤ s ∧ s ≤ 3) ∧ ss.length ≤ 3 ∧
  ∀ H' p xs, H p = none → Same H H' → H' p = some (.lst xs) → Rws H' xs (choices ss) → Q (.ref p) H'
theorem c_law_choices (T : Tx K mg) : Cal P w K mg base CX0 1 "_law_choices" (spChoices K) := by
  refine cal0 T.f_law_choices T.g_law_choices sc_law_choices (fun _ _ _ _ _ _ us hl => match us, hl with | [_], _ => rfl) (fun vs H Q E h => ?_) (fun cdv A outer s H vs Q E hr h => ?_)
  · obtain ⟨a, ss, rfl, _⟩ := h
    rfl
  · obtain ⟨a, ss, rfl, hS, h3, hl3, q⟩ := h
    have nd := sc_law_choices.nd
    have small : ∀ i, (choices (ss.take i)).length ≤ 27 := fun i => by
      have := choices_len3 (ss := ss.take i) fun s hs => h3 s (List.mem_of_mem_take hs)
      have h2 : 3 ^ (ss.take i).length ≤ 3 ^ 3 := Nat.pow_le_pow_right (by decide) (by rw [List.length_take]; omega)
      omega
    refine ⟨_, (pss_cons (ps_set (i := 1) nd rfl (.inl rfl) (pe_lst (pa_cons (pe_tup pa_nil) pa_nil)))
    (pss_cons (ps_for PassesOwn.never rfl (pi_list (pv 0)) (pg_name (i := 2) nd rfl (.inl rfl))
      (pss_cons (ps_set (i := 3) nd rfl (.inl rfl) (pe_lst pa_nil))
      (pss_cons (ps_for PassesOwn.never rfl (pi_list (pv 1)) (pg_name (i := 4) nd rfl (.inr rfl))
        (pss_one (ps_set (i := 3) nd rfl (.inl rfl) (pe_op op_cat (pv 3) (pe_lc (own := [("_law_number", 5)]) rfl nd (pi_range1 (by rfl) T.z_range (pa_cons (pv 2) pa_nil)) (blkOk_by (by kernel_rfl)) (fun _ _ _ _ _ => (pg_name (i := 5) nd rfl (.inl rfl))) (fun _ _ _ _ _ => pts_nil) (fun _ _ _ _ _ => (pe_op (kop_catA K) (pv 4) (pe_tup (pa_cons (pv 5) pa_nil)))))))))
      (pss_one (ps_set (i := 1) nd rfl (.inl rfl) (pv 3))))))
    (pss_one (ps_ret (pv 1))))), ?_⟩
    -- found = [()]
    refine ⟨Nat.zero_le _, fun u nu => ⟨(by show 1 ≤ sizeLine; decide), fun l nl => ?_⟩⟩
    have s0 : Same H (upd (upd H u (.tup [])) l (.lst [.ref u])) := (same_new nu).trans (same_new nl)
    have nul : u ≠ l := fun z => by
      rw [z, ← z, upd_same] at nl
      cases nl
    refine ⟨_, rfl, a, rfl, ⟨_, same_l s0 hS⟩, for_list (K := K) (a := a) (xs := ss.map V.int) (fun i σ H2 => ∃ (p : Addr) (xs : List V) (v2 v3 v4 : Option V), σ = [some (.ref a), some (.ref p), v2, v3, v4, none] ∧ Same H H2 ∧ H p = none ∧ H2 p = some (.lst xs) ∧ Rws H2 xs (choices (ss.take i)))
      ⟨l, [.ref u], none, none, none, rfl, s0, (same_new nu).free nl, upd_same, .one ⟨u, rfl, by rw [upd_ne nul, upd_same]; rfl⟩⟩ (fun i σ H2 _ h => ?_) ?_ ?_⟩
    · obtain ⟨_, _, _, _, _, _, sm, _⟩ := h
      exact same_l sm hS
    · rintro i y σ H2 hi ⟨p, xs, v2, v3, v4, rfl, sm, np, hp, hd⟩
      obtain ⟨n, hn, rfl⟩ : ∃ n, ss[i]? = some n ∧ y = V.int n := by
        rw [List.getElem?_map] at hi
        cases e : ss[i]? with
        | none =>
          rw [e] at hi
          cases hi
        | some z =>
          rw [e] at hi
          exact ⟨z, rfl, (Option.some.inj hi).symm⟩
      have hb := h3 n (List.mem_of_getElem? hn)
      -- longer = []
      refine ⟨Nat.zero_le _, fun l2 nl2 => ?_⟩
      have s1 := same_new (o := .lst []) nl2
      refine ⟨_, rfl, p, rfl, ⟨_, SqL.of (s1 _ _ hp)⟩, for_list (K := K) (a := p) (xs := xs) (fun j σ H3 => ∃ (q' : Addr) (ys : List V) (v4 : Option V), σ = [some (.ref a), some (.ref p), some (.int n), some (.ref q'), v4, none] ∧ Same H2 H3 ∧ H q' = none ∧ H3 q' = some (.lst ys) ∧ Rws H3 ys (((choices (ss.take i)).take j).flatMap fun r => ext1 r n.toNat))
        ⟨l2, [], v4, rfl, s1, sm.free nl2, upd_same, Rws.nil⟩ (fun j σ H3 _ h => ?_) ?_ ?_⟩
      · obtain ⟨_, _, _, _, sm3, _⟩ := h
        exact SqL.of (sm3 _ _ hp)
      · rintro j v σ H3 hj ⟨q', ys, v4, rfl, sm3, nq, hq, hdq⟩
        obtain ⟨r, hr1, hd2⟩ := hd.at hj
        obtain ⟨t, rfl, ht⟩ := (hd2.kp (Kp.of sm3)).sq (K := K)
        -- longer + [row + (number,) for number in range(size)]
        refine ⟨_, rfl, _, rfl, n, rfl, by omega, by omega, fun D nD => lc_range (lo := 0) (n := n.toNat) (fun k H4 => ∃ zs, Same H3 H4 ∧ H4 D = some (.lst zs) ∧ Rws H4 zs (ext1 r k)) ⟨[], same_new nD, upd_same, Rws.nil⟩ ?_ ?_⟩
        · rintro k H4 hk ⟨zs, sm4, hD, hz⟩
          refine ⟨rfl, _, rfl, _, rfl, (by show 1 ≤ sizeLine; decide), fun t2 nt2 => ?_⟩
          have s5 := same_new (o := .tup [V.int (0 + (k : Int))]) nt2
          have nDt : D ≠ t2 := ne_of_none hD nt2
          have ext : ∀ (y : V) (H6 : Hp), Same (upd H4 t2 (.tup [V.int (0 + (k : Int))])) H6 → Rw H6 y (r ++ [(k : Int)]) → ∃ acc, H6 D = some (.lst acc) ∧ acc.length < sizeLine ∧ (∃ zs', Same H3 (upd H6 D (.lst (acc ++ [y]))) ∧ (upd H6 D (.lst (acc ++ [y]))) D = some (.lst zs') ∧ Rws (upd H6 D (.lst (acc ++ [y]))) zs' (ext1 r (k + 1))) := fun y H6 s6 hy => by
            have e6 : H6 D = some (.lst zs) := s6 _ _ (s5 _ _ hD)
            have kp : Kp H6 (upd H6 D (.lst (zs ++ [y]))) := kp_lst e6
            refine ⟨zs, e6, ?_, zs ++ [y], fun b o e => ?_, upd_same, ?_⟩
            · have := hz.1
              rw [ext1_len] at this
              exact ltLine (by omega)
            · have nb : b ≠ D := ne_of_none e nD
              rw [upd_ne nb]
              exact s6 _ _ (s5 _ _ (sm4 _ _ e))
            · have e7 : ext1 r (k + 1) = ext1 r k ++ [r ++ [(k : Int)]] := by
                unfold ext1
                rw [List.range_succ]
                simp
              rw [e7]
              exact Rws.snoc (((hz.same s5).same s6).kp kp) (hy.kp kp)
          have hT : SqT K (upd H4 t2 (.tup [V.int (0 + (k : Int))])) t (r.map V.int) := same_t s5 (same_t sm4 ht)
          have e0 : (0 : Int) + (k : Int) = (k : Int) := by omega
          have hrl : r.length ≤ 3 := by
            have h1 := (choices_mem.mp (List.mem_of_getElem? hr1)).1
            rw [List.length_take] at h1
            omega
          refine ⟨t, t2, _, _, rfl, rfl, hT, SqT.of upd_same, ?_, fun hr0 => ?_, fun _ z => (by cases z), fun _ _ t3 nt3 => ?_⟩
          · rw [List.length_map]
            exact lenLine (by show r.length + 1 ≤ 100000; omega)
          · have hr0' : r = [] := by simpa using hr0
            subst hr0'
            refine ext _ _ (Same.refl _) ?_
            refine ⟨t2, rfl, ?_⟩
            rw [upd_same, e0]
            rfl
          · refine ext _ _ (same_new nt3) ⟨t3, rfl, ?_⟩
            rw [upd_same, e0, List.map_append]
            rfl
        · rintro H4 ⟨zs, sm4, hD, hz⟩
          refine ⟨q', D, ys, zs, rfl, rfl, sm4 _ _ hq, hD, ?_, fun p2 np2 => ?_⟩
          · have h1 := hdq.1
            have h2 := hz.1
            have h3 := flat_len (F := (choices (ss.take i)).take j) (n := n.toNat)
            have h4 : ((choices (ss.take i)).take j).length ≤ 27 := Nat.le_trans (by rw [List.length_take]; exact Nat.min_le_right ..) (small i)
            rw [ext1_len] at h2
            have h5 : ((choices (ss.take i)).take j).length * n.toNat ≤ 27 * 3 := Nat.mul_le_mul h4 (by omega)
            exact lenLine (by omega)
          · have s5 := same_new (o := .lst (ys ++ zs)) np2
            refine ⟨p2, ys ++ zs, _, rfl, sm3.trans (sm4.trans s5), (sm.trans (sm3.trans sm4)).free np2, upd_same, ?_⟩
            rw [flatMap_take _ hr1]
            exact (hdq.same (sm4.trans s5)).app (hz.same s5)
      · rintro σ H3 ⟨q', ys, v4, rfl, sm3, nq, hq, hdq⟩
        refine ⟨_, rfl, q', ys, _, _, _, rfl, sm.trans sm3, nq, hq, ?_⟩
        rw [choices_take hn]
        have e : (choices (ss.take i)).take xs.length = choices (ss.take i) := List.take_of_length_le (by
          have := hd.1
          omega)
        rw [e] at hdq
        exact hdq
    · rintro σ H2 ⟨p, xs, v2, v3, v4, rfl, sm, np, hp, hd⟩
      refine ⟨_, rfl, q H2 p xs np sm hp ?_⟩
      rw [List.length_map, List.take_length] at hd
      exact hd
end
end K29
namespace K29
open PySem PySem.Spec PyProof.Rows L2
/-! ### comprehensions that only make things -/
theorem same_lst {H1 H : Hp} {D : Addr} {ws : List V} (nD : H1 D = none) (s : Same H1 H) : Same H1 (upd H D (.lst ws)) := fun b o e => by
  rw [upd_ne (ne_of_none e nD)]
  exact s b o e
theorem lc_pure {J : It} {n : Nat} {G : Hp → Prop} {Y : Nat → Hp → V → Hp → Prop} (w : Walk J n G Y) {g : TG} {tt : TT} {te : TE} {vs : List Nat} {σ : L2.St} {H1 : Hp} {D : Addr} {Qd : Hp → Prop} (nD : H1 D = none) (hn : n ≤ 100000)
    (Pv : Nat → List V → Hp → Prop) (mono : ∀ i zs H H', Kp H H' → Pv i zs H → Pv i zs H') (h0 : Pv 0 [] H1) (hG : ∀ H, Same H1 H → G H)
    (turn : ∀ (i : Nat) (x : V) (H H' : Hp) (zs : List V) (post : V → Hp → Prop) (skip : Hp → Prop), i < n → Same H1 H → Pv i zs H → Y i H x H' →
      (∀ y H4, Same H H4 → Pv (i + 1) (zs ++ [y]) H4 → post y H4) → (∀ H4, Same H H4 → Pv (i + 1) zs H4 → skip H4) →
      g x (wipe σ vs) H' fun σ2 H2 => wipe σ2 vs = wipe σ vs ∧ tt σ2 H2 fun b H3 => if b = true then te σ2 H3 post else skip H3)
    (done : ∀ H zs, Same H1 H → H D = some (.lst zs) → Pv n zs H → Qd H) :
    ∃ W : Nat → Nat → Hp → Prop, (∃ m, W 0 m (upd H1 D (.lst []))) ∧ ∀ i m H, W i m H →
      (J.stop i H ∧ Qd H) ∨ (J.go i H ∧ ∃ Nx : Hp → Prop, (∀ H', Nx H' → ∃ m', m' < m ∧ W (i + 1) m' H') ∧ ∀ x H', J.yld i H x H' → g x (wipe σ vs) H' fun σ2 H2 => wipe σ2 vs = wipe σ vs ∧ tt σ2 H2 fun b H3 =>
        if b = true then te σ2 H3 fun y H4 => ∃ acc, H4 D = some (.lst acc) ∧ acc.length < sizeLine ∧ Nx (upd H4 D (.lst (acc ++ [y]))) else Nx H3) := by
  refine lc_it w (fun i H => ∃ zs, Same H1 H ∧ H D = some (.lst zs) ∧ zs.length ≤ i ∧ Pv i zs H) ⟨[], same_new nD, upd_same, Nat.le_refl _, mono _ _ _ _ (Kp.of (same_new nD)) h0⟩ (fun i H _ ⟨_, s, _⟩ => hG H s) ?_ (fun H ⟨zs, s, e, _, p⟩ => done H zs s e p)
  rintro i x H H' hi ⟨zs, s, e, hl, p⟩ hy
  refine turn i x H H' zs _ _ hi s p hy (fun y H4 s4 p4 => ?_) (fun H4 s4 p4 => ?_)
  · refine ⟨zs, s4 _ _ e, ltLine (by omega), zs ++ [y], same_lst nD (s.trans s4), upd_same, by rw [List.length_append, List.length_singleton]; omega, mono _ _ _ _ (kp_lst (s4 _ _ e)) p4⟩
  · exact ⟨zs, s.trans s4, s4 _ _ e, by omega, p4⟩
/-- .. that draw from a box -/
theorem gr_lst {bx : Addr} {H1 H : Hp} {D : Addr} {ws : List V} (nD : H1 D = none) (s : Gr bx H1 H) : Gr bx H1 (upd H D (.lst ws)) := fun b o n e => by
  rw [upd_ne (ne_of_none e nD)]
  exact s b o n e
theorem lc_box {J : It} {n : Nat} {G : Hp → Prop} {Y : Nat → Hp → V → Hp → Prop} (w : Walk J n G Y) {g : TG} {tt : TT} {te : TE} {vs : List Nat} {σ : L2.St} {H1 : Hp} {D bx : Addr} {Qd : Hp → Prop} (nD : H1 D = none) (hb : BoxAt H1 bx) (hn : n ≤ 100000)
    (Pv : Nat → List V → Hp → Prop) (mono : ∀ i zs H H', Kp H H' → Pv i zs H → Pv i zs H') (h0 : Pv 0 [] H1) (hG : ∀ H, Gr bx H1 H → G H)
    (turn : ∀ (i : Nat) (x : V) (H H' : Hp) (zs : List V) (post : V → Hp → Prop) (skip : Hp → Prop), i < n → Gr bx H1 H → BoxAt H bx → Pv i zs H → Y i H x H' →
      (∀ y H4, Gr bx H H4 → BoxAt H4 bx → Pv (i + 1) (zs ++ [y]) H4 → post y H4) → (∀ H4, Gr bx H H4 → BoxAt H4 bx → Pv (i + 1) zs H4 → skip H4) →
      g x (wipe σ vs) H' fun σ2 H2 => wipe σ2 vs = wipe σ vs ∧ tt σ2 H2 fun b H3 => if b = true then te σ2 H3 post else skip H3)
    (done : ∀ H zs, Gr bx H1 H → BoxAt H bx → H D = some (.lst zs) → Pv n zs H → Qd H) :
    ∃ W : Nat → Nat → Hp → Prop, (∃ m, W 0 m (upd H1 D (.lst []))) ∧ ∀ i m H, W i m H →
      (J.stop i H ∧ Qd H) ∨ (J.go i H ∧ ∃ Nx : Hp → Prop, (∀ H', Nx H' → ∃ m', m' < m ∧ W (i + 1) m' H') ∧ ∀ x H', J.yld i H x H' → g x (wipe σ vs) H' fun σ2 H2 => wipe σ2 vs = wipe σ vs ∧ tt σ2 H2 fun b H3 =>
        if b = true then te σ2 H3 fun y H4 => ∃ acc, H4 D = some (.lst acc) ∧ acc.length < sizeLine ∧ Nx (upd H4 D (.lst (acc ++ [y]))) else Nx H3) := by
  have nb : D ≠ bx := hb.ne nD
  refine lc_it w (fun i H => ∃ zs, Gr bx H1 H ∧ BoxAt H bx ∧ H D = some (.lst zs) ∧ zs.length ≤ i ∧ Pv i zs H) ⟨[], Gr.of (same_new nD), hb.upd nb, upd_same, Nat.le_refl _, mono _ _ _ _ (Kp.of (same_new nD)) h0⟩ (fun i H _ ⟨_, s, _⟩ => hG H s) ?_ (fun H ⟨zs, s, hb, e, _, p⟩ => done H zs s hb e p)
  rintro i x H H' hi ⟨zs, s, hbH, e, hl, p⟩ hy
  refine turn i x H H' zs _ _ hi s hbH p hy (fun y H4 s4 hb4 p4 => ?_) (fun H4 s4 hb4 p4 => ?_)
  · refine ⟨zs, s4 _ _ nb e, ltLine (by omega), zs ++ [y], gr_lst nD (s.trans s4), hb4.upd nb, upd_same, by rw [List.length_append, List.length_singleton]; omega, mono _ _ _ _ (kp_lst (s4 _ _ nb e)) p4⟩
  · exact ⟨zs, s.trans s4, hb4, s4 _ _ nb e, by omega, p4⟩
/-! ### small facts -/
theorem map_at {α β : Type} {f : α → β} {l : List α} {i : Nat} {y : β} (h : (l.map f)[i]? = some y) : ∃ a, l[i]? = some a ∧ y = f a := by
  rw [List.getElem?_map] at h
  cases e : l[i]? with
  | none =>
    rw [e] at h
    cases h
  | some a =>
    rw [e] at h
    exact ⟨a, rfl, (Option.some.inj h).symm⟩
theorem at_map {α β : Type} {f : α → β} {l : List α} {i : Nat} {a : α} (h : l[i]? = some a) : (l.map f)[i]? = some (f a) := by
  rw [List.getElem?_map, h]
  rfl
theorem kp_mono_all {K : PySem.W.Frag} {H H' : Hp} {zs : List V} {rows : List (List Int)} (k : Kp H H') (h : DpAll K H zs (rows.map dI)) : DpAll K H' zs (rows.map dI) := kp_dpAll k _ _ (flat_rows _) h
end K29
namespace K29
open PySem PySem.Spec PyProof.Rows L2
open PySem.Sem (wp)
/-! ### zip, enumerate over a list or a tuple -/
def SqX (K : PySem.W.Frag) : Bool → Hp → Addr → List V → Prop
  | true, H, a, xs => SqL K H a xs
  | false, H, a, xs => SqT K H a xs
def ItX : Bool → Heap → Addr → Addr → Nat → Prop
  | true, h, it, a, i => h.IsListIter it a i
  | false, h, it, a, i => h.IsTupleIter it a i
def OnX : Bool → Heap → Addr → Array Value → Prop
  | true, h, a, its => h.IsList a its
  | false, h, a, its => h.IsTuple a its
def itObj : Bool → Addr → Obj
  | true, a => { cls := .type "list_iterator", data := .fields #[.ref a, .int 0 0] }
  | false, a => { cls := .type "tuple_iterator", data := .fields #[.ref a, .int 0 0] }
theorem sqx_inv {X : Cx} {pins : List (Addr × Obj)} {σ : L2.St} {H : Hp} {s : Shared} {l : Bool} {a : Addr} {xs : List V} (I : Inv X pins σ H s) (h : SqX X.K l H a xs) : ∃ its : List Value, Vals xs its ∧ OnX l s.heap a its.toArray := by
  cases l with
  | true =>
    obtain ⟨its, r, p, _⟩ := I.list h
    exact ⟨its, r, p.isList⟩
  | false =>
    obtain ⟨its, r, p, _⟩ := I.tuple h
    exact ⟨its, r, p⟩
theorem sqx_inj {X : Cx} {pins : List (Addr × Obj)} {σ : L2.St} {H : Hp} {s : Shared} {l : Bool} {a : Addr} {xs ys : List V} (I : Inv X pins σ H s) (h : SqX X.K l H a xs) (h' : SqX X.K l H a ys) : xs = ys := by
  cases l with
  | true => exact I.list_inj h h'
  | false => exact I.tuple_inj h h'
theorem onx_lt {l : Bool} {h : Heap} {a : Addr} {its : Array Value} (x : OnX l h a its) : a < h.objs.size := by
  cases l with
  | true =>
    obtain ⟨o, e, _⟩ := x
    exact Heap.lt_size e
  | false =>
    obtain ⟨o, e, _⟩ := x
    exact Heap.lt_size e
theorem itx_ob {l : Bool} {h : Heap} {it a : Addr} {i : Nat} (x : ItX l h it a i) : ∃ o, h.get? it = some o ∧ ∀ v, o.data ≠ .cell v := by
  cases l with
  | true =>
    obtain ⟨o, e, _, d⟩ := x
    exact ⟨o, e, fun v q => by rw [d] at q; cases q⟩
  | false =>
    obtain ⟨o, e, _, d⟩ := x
    exact ⟨o, e, fun v q => by rw [d] at q; cases q⟩
theorem itx_at {l : Bool} {h h' : Heap} {it a : Addr} {i : Nat} (x : ItX l h it a i) (k : ∀ o, h.get? it = some o → h'.get? it = some o) : ItX l h' it a i := by
  cases l with
  | true =>
    obtain ⟨o, e, r⟩ := x
    exact ⟨o, k o e, r⟩
  | false =>
    obtain ⟨o, e, r⟩ := x
    exact ⟨o, k o e, r⟩
theorem itx_new {l : Bool} {h : Heap} {it a : Addr} (e : h.get? it = some (itObj l a)) : ItX l h it a 0 := by
  cases l with
  | true => exact ⟨_, e, rfl, rfl⟩
  | false => exact ⟨_, e, rfl, rfl⟩
theorem drawsX {prog : Program} {w : World} {A : Around} (hh : A.handled = none) (l : Bool) (it a : Addr) (hne : a ≠ it) (items : Array Value) :
    Draws prog w A it [it, a] items.size (fun i v => items[i]? = some v) (fun i h => ItX l h it a i ∧ OnX l h a items) := by
  cases l with
  | true => exact Draws.list hh it a hne items
  | false => exact Draws.tuple hh it a hne items
theorem beginsX (l : Bool) (a : Addr) (items : Array Value) : Begins (.ref a) (itObj l a) (fun h => OnX l h a items) := by
  cases l with
  | true => exact begins_list a items
  | false => exact begins_tuple a items
def ItzM (K : PySem.W.Frag) (l1 l2 : Bool) (a b : Addr) : It :=
  ⟨fun i H => ∃ (xs ys : List V) (x y : V), SqX K l1 H a xs ∧ SqX K l2 H b ys ∧ xs[i]? = some x ∧ ys[i]? = some y,
    fun i H v H' => ∃ T x y, v = .ref T ∧ H T = none ∧ H' = upd H T (.tup [x, y]) ∧ (∀ xs, SqX K l1 H a xs → xs[i]? = some x) ∧ ∀ ys, SqX K l2 H b ys → ys[i]? = some y,
    fun i H => ∃ xs ys : List V, SqX K l1 H a xs ∧ SqX K l2 H b ys ∧ i ≤ xs.length ∧ i ≤ ys.length ∧ (xs.length = i ∨ ys.length = i)⟩
theorem turn_zipM {P : Program} {w : World} {K : PySem.W.Frag} {elts : List Expr} {kk : Nat} {tpos : Pos} {l1 l2 : Bool} {a b z TI TO i1 i2 : Addr} (S : ZipSep2 z TI TO i1 i2 [i1, a] [i2, b]) (n1 : a ≠ i1) (n2 : b ≠ i2) :
    Turn P w K (.Tuple elts kk tpos) (ItzM K l1 l2 a b) [z, TI, TO, i1, i2] z (fun i h => IsZip h z TI TO .none ∧ IsTupOf2 h TI (.ref i1) (.ref i2) ∧ (∃ x y, IsTupOf2 h TO x y) ∧ ItX l1 h i1 a i ∧ ItX l2 h i2 b i) where
  mem := by simp
  obj := fun i h st c hc => by
    obtain ⟨hz, hTI, ⟨x, y, hTO⟩, h1, h2⟩ := st
    have e' : c = z ∨ c = TI ∨ c = TO ∨ c = i1 ∨ c = i2 := by simpa using hc
    rcases e' with q | q | q | q | q
    · rw [q]; exact ⟨_, hz, fun v q => nomatch q⟩
    · rw [q]; exact ⟨_, hTI, fun v q => nomatch q⟩
    · rw [q]; exact ⟨_, hTO, fun v q => nomatch q⟩
    · rw [q]; exact itx_ob h1
    · rw [q]; exact itx_ob h2
  keep := fun i h h' st k => by
    obtain ⟨hz, hTI, ⟨x, y, hTO⟩, h1, h2⟩ := st
    exact ⟨k z (by simp) _ hz, k TI (by simp) _ hTI, ⟨x, y, k TO (by simp) _ hTO⟩, itx_at h1 fun o q => k i1 (by simp) o q, itx_at h2 fun o q => k i2 (by simp) o q⟩
  item := by
    intro X hP hw hK hc i pins s σ H E I hf st hg
    subst hP hw hK
    obtain ⟨hz, hTI, ⟨x0, y0, hTO⟩, h1, h2⟩ := st
    obtain ⟨xs, ys, x, y, hqx, hqy, hx, hy⟩ := hg
    obtain ⟨its, rv, p⟩ := sqx_inv I hqx
    obtain ⟨its2, rv2, p2⟩ := sqx_inv I hqy
    obtain ⟨u, hu, ru⟩ := rv.get hx
    obtain ⟨u2, hu2, ru2⟩ := rv2.get hy
    have hzl : z < s.heap.objs.size := Heap.lt_size hz
    have hi1 : i < its.toArray.size := by
      rw [List.size_toArray]
      exact (List.getElem?_eq_some_iff.mp hu).1
    have hi2 : i < its2.toArray.size := by
      rw [List.size_toArray]
      exact (List.getElem?_eq_some_iff.mp hu2).1
    refine wpAny_pyNext_zipD2_item S (drawsX (A := X.A.in1) (I.ok.hd hc) l1 i1 a n1 its.toArray) (drawsX (A := X.A.in1) (I.ok.hd hc) l2 i2 b n2 its2.toArray) hz hTI hTO ⟨h1, p⟩ ⟨h2, p2⟩ hi1 hi2 fun x1 x2 h' tk e1 e2 z' TO' h1' h2' hT hsz hk => ?_
    have e1' : u = x1 := by
      have : its.toArray[i]? = some u := by simpa using hu
      rw [this] at e1
      exact Option.some.inj e1
    have e2' : u2 = x2 := by
      have : its2.toArray[i]? = some u2 := by simpa using hu2
      rw [this] at e2
      exact Option.some.inj e2
    subst e1' e2'
    refine ⟨_, rfl, wpAny_letOwnedTupleGo_zip (s := { s with heap := h', toks := tk }) z' fun h'' z'' sb => ?_⟩
    have hT2 : h''.get? s.heap.objs.size = some { cls := .type "tuple", data := .seq #[u, u2] } := (sb.2 _ (Nat.ne_of_gt hzl)).trans hT
    have new : ObjOk X.prog X.w (upd H s.heap.objs.size (.tup [x, y])) h'' s.heap.objs.size (.tup [x, y]) :=
      ⟨by show 2 ≤ sizeLine; decide, [u, u2], .cons ru (.cons ru2 .nil), ⟨_, hT2, rfl, _, rfl⟩⟩
    have I1 : Inv X pins σ (upd H s.heap.objs.size (.tup [x, y])) { s with heap := h'', toks := tk } :=
      I.turnedNew (t' := tk) (ch := [z, TI, TO, i1, i2]) (fun c o hb q => (sb.2 c (fun q' => hb (by simp [q']))).trans (hk c o (fun q' => hb (by simp [q'])) (fun q' => hb (by simp [q'])) (fun q' => hb (by simp [q'])) (fun q' => hb (by simp [q'])) q)) hf (Nat.le_refl _) new
    refine ⟨.ref s.heap.objs.size, _, I1, rfl, ⟨_, x, y, rfl, I.hok.fresh (Nat.le_refl _), rfl, fun l hl => by rw [sqx_inj I hl hqx]; exact hx, fun l hl => by rw [sqx_inj I hl hqy]; exact hy⟩, ⟨z'', ?_, ⟨u, u2, ?_⟩, ?_, ?_⟩, fun c hcm => ?_⟩
    · exact (sb.2 _ S.TIz).trans (hk _ _ S.TIz S.TITO S.TIi1 S.TIi2 hTI)
    · exact (sb.2 _ S.TOz).trans TO'
    · exact itx_at h1'.1 fun o q => (sb.2 _ (Ne.symm S.zi1)).trans q
    · exact itx_at h2'.1 fun o q => (sb.2 _ (Ne.symm S.zi2)).trans q
    · have hlt : c < s.heap.objs.size := by
        have e' : c = z ∨ c = TI ∨ c = TO ∨ c = i1 ∨ c = i2 := by simpa using hcm
        rcases e' with q | q | q | q | q
        · rw [q]; exact hzl
        · rw [q]; exact Heap.lt_size hTI
        · rw [q]; exact Heap.lt_size hTO
        · rw [q]; obtain ⟨_, e1, _⟩ := itx_ob h1; exact Heap.lt_size e1
        · rw [q]; obtain ⟨_, e2, _⟩ := itx_ob h2; exact Heap.lt_size e2
      rw [upd_ne (Nat.ne_of_lt hlt)]
      exact (hf c hcm).1
  done := by
    intro X hP hw hK hc i pins s σ H E I hf st hg
    subst hP hw hK
    obtain ⟨hz, hTI, ⟨x0, y0, hTO⟩, h1, h2⟩ := st
    obtain ⟨xs, ys, hqx, hqy, le1, le2, hend⟩ := hg
    obtain ⟨its, rv, p⟩ := sqx_inv I hqx
    obtain ⟨its2, rv2, p2⟩ := sqx_inv I hqy
    have q1 : its.toArray.size = xs.length := by rw [List.size_toArray, ← rv.length]
    have q2 : its2.toArray.size = ys.length := by rw [List.size_toArray, ← rv2.length]
    exact wpAny_pyNext_zipD2_end S (drawsX (A := X.A.in1) (I.ok.hd hc) l1 i1 a n1 its.toArray) (drawsX (A := X.A.in1) (I.ok.hd hc) l2 i2 b n2 its2.toArray) hz hTI hTO ⟨h1, p⟩ ⟨h2, p2⟩ (by omega) (by omega) (by omega) fun h' tk hk => ⟨rfl, I.turnedL (t' := tk) (ch := [z, TI, TO, i1, i2]) (fun c o hb q =>
      hk c o (fun q' => hb (by simp [q'])) (fun q' => hb (by simp [q'])) (fun q' => hb (by simp [q'])) (fun q' => hb (by simp [q'])) q) hf⟩
  self := fun A i s Q E st h => wpAny_pyIter_zip st.1 h
def iZipM (K : PySem.W.Frag) (ta : TA) : TI := fun σ H R => ta σ H fun vs H1 => ∃ l1 l2 a b xs ys, vs = [.ref a, .ref b] ∧ SqX K l1 H1 a xs ∧ SqX K l2 H1 b ys ∧ R (ItzM K l1 l2 a b) H1
theorem pi_zipM {X : Cx} {e e2 : Expr} {ta : TA} {p pos tpos : Pos} {elts : List Expr} {kk : Nat} (hg : Gl X "zip") (hm : X.mg "zip" = none) (ha : PA X [e, e2] ta)
    (hs : starEach [e, e2] X.env = (false, eval e X.env) :: starEach [e2] X.env := by rfl) (hpl : (backTo pos (starEach [e2] X.env)).any (·.1) = false := by rfl) :
    PI X (.Tuple elts kk tpos) (.Call (.Name "zip" p) [e, e2] [] pos) (iZipM X.K ta) := by
  refine ⟨fun pins s σ H R I h => ?_⟩
  refine Call_ (ld_blt I hg hm PyProof.Rows.boot_zip (PyProof.Rows.callWith_type1 (thn (ha.run pos pins s σ H _ I h) fun us s1 ⟨vs, H1, I1, r1, q1⟩ => ?_) hs hpl))
  obtain ⟨l1, l2, a, b, xs, ys, ex, hqx, hqy, q⟩ := q1
  subst ex
  cases r1 with
  | cons r rr =>
    cases rr with
    | cons r' rr =>
      cases rr
      cases r
      cases r'
      have fresh5 : ∀ c, c ∈ [s1.heap.objs.size + 4, s1.heap.objs.size + 2, s1.heap.objs.size + 3, s1.heap.objs.size, s1.heap.objs.size + 1] → FpOk X pins H1 c := fun c hcm => by
        have e' : c = s1.heap.objs.size + 4 ∨ c = s1.heap.objs.size + 2 ∨ c = s1.heap.objs.size + 3 ∨ c = s1.heap.objs.size ∨ c = s1.heap.objs.size + 1 := by simpa using hcm
        have hle : s1.heap.objs.size ≤ c := by
          rcases e' with z | z | z | z | z
          · rw [z]; exact Nat.le_add_right _ _
          · rw [z]; exact Nat.le_add_right _ _
          · rw [z]; exact Nat.le_add_right _ _
          · rw [z]; exact Nat.le_refl _
          · rw [z]; exact Nat.le_add_right _ _
        exact I1.fpOk hle (I1.hok.fresh hle)
      obtain ⟨its, rv, p1⟩ := sqx_inv I1 hqx
      obtain ⟨its2, rv2, p2⟩ := sqx_inv I1 hqy
      refine zip_begins2 (beginsX l1 a its.toArray) (beginsX l2 b its2.toArray) p1 p2 fun h' hz hTI hTO h1 h2 hsz hk => wpAny_pyIter_zip hz ?_
      have I2 : Inv X pins σ H1 { s1 with heap := h' } := I1.kept (t' := s1.toks) hk
      have la := onx_lt p1
      have lb := onx_lt p2
      refine ⟨s1.heap.objs.size + 4, [s1.heap.objs.size + 4, s1.heap.objs.size + 2, s1.heap.objs.size + 3, s1.heap.objs.size, s1.heap.objs.size + 1], _, _, H1, rfl, I2,
        turn_zipM (zip_sep2 (fp1 := [a]) (fp2 := [b]) (fun c hc => by rw [List.mem_singleton.mp hc]; exact la) (fun c hc => by rw [List.mem_singleton.mp hc]; exact lb)) (Nat.ne_of_lt la) (Nat.ne_of_lt (Nat.lt_succ_of_lt lb)), ⟨hz, hTI, ⟨_, _, hTO⟩, itx_new h1, itx_new h2⟩, fresh5, q⟩
theorem walk_zipM {K : PySem.W.Frag} {l1 l2 : Bool} {a b : Addr} {xs ys : List V} (hn : xs.length = ys.length) : Walk (ItzM K l1 l2 a b) xs.length (fun H => SqX K l1 H a xs ∧ SqX K l2 H b ys) (YPair (fun i => xs[i]?) (fun i => ys[i]?)) := by
  refine ⟨fun i _ hi q => ?_, fun _ q => ⟨xs, ys, q.1, q.2, by omega, by omega, .inl rfl⟩, fun i H v H' _ q y => ?_⟩
  · have h2 : i < ys.length := by omega
    exact ⟨xs, ys, xs[i], ys[i], q.1, q.2, by simp [hi], by simp [h2]⟩
  · obtain ⟨T, x, z, h1, h2, h3, h4, h5⟩ := y
    exact ⟨T, x, z, h1, h2, h3, h4 xs q.1, h5 ys q.2⟩
/-! enumerate -/
def IteM (K : PySem.W.Frag) (l : Bool) (a : Addr) : It :=
  ⟨fun i H => ∃ (xs : List V) (x : V), SqX K l H a xs ∧ xs[i]? = some x,
    fun i H v H' => ∃ T x, v = .ref T ∧ H T = none ∧ H' = upd H T (.tup [.int (i : Nat), x]) ∧ ∀ xs, SqX K l H a xs → xs[i]? = some x,
    fun i H => ∃ xs : List V, SqX K l H a xs ∧ xs.length = i⟩
theorem turn_enumM {P : Program} {w : World} {K : PySem.W.Frag} {elts : List Expr} {kk : Nat} {tpos : Pos} {l : Bool} {a e it : Addr} (hne : e ≠ it) (ha1 : a ≠ it) (ha2 : e ≠ a) :
    Turn P w K (.Tuple elts kk tpos) (IteM K l a) [e, it] e (fun i h => (∃ old, IsEnum h e it ((i : Nat) : Int) old) ∧ ItX l h it a i) where
  mem := by simp
  obj := fun i h st b hb => by
    obtain ⟨⟨old, he⟩, hi⟩ := st
    have e' : b = e ∨ b = it := by simpa using hb
    rcases e' with z | z
    · rw [z]; exact ⟨_, he, fun v q => nomatch q⟩
    · rw [z]; exact itx_ob hi
  keep := fun i h h' st k => let ⟨⟨old, he⟩, hi⟩ := st; ⟨⟨old, k e (by simp) _ he⟩, itx_at hi fun o q => k it (by simp) o q⟩
  item := by
    intro X hP hw hK hc i pins s σ H E I hf st hg
    subst hP hw hK
    obtain ⟨⟨old, he⟩, hit⟩ := st
    obtain ⟨xs, x, hq, hx⟩ := hg
    obtain ⟨its, rv, p⟩ := sqx_inv I hq
    obtain ⟨u, hu, ru⟩ := rv.get hx
    have hel : e < s.heap.objs.size := Heap.lt_size he
    have hil : it < s.heap.objs.size := by obtain ⟨_, q, _⟩ := itx_ob hit; exact Heap.lt_size q
    have hi1 : i < its.toArray.size := by
      rw [List.size_toArray]
      exact (List.getElem?_eq_some_iff.mp hu).1
    refine wpAny_pyNext_enum_itemC (drawsX (A := X.A.in1) (I.ok.hd hc) l it a ha1 its.toArray) he ⟨hit, p⟩ hi1 hne (by simp [hne, ha2]) fun u1 h' tk e1 ho hit' hT hsz hk => ?_
    have e1' : u = u1 := by
      have : its.toArray[i]? = some u := by simpa using hu
      rw [this] at e1
      exact Option.some.inj e1
    subst e1'
    refine ⟨_, rfl, wpAny_letOwnedTupleGo_enum (s := { s with heap := h', toks := tk + 1 }) ho fun h'' he' sb => ?_⟩
    have hT2 : h''.get? s.heap.objs.size = some { cls := .type "tuple", data := .seq #[.int i tk, u] } := (sb.2 _ (Nat.ne_of_gt hel)).trans hT
    have new : ObjOk X.prog X.w (upd H s.heap.objs.size (.tup [.int (i : Nat), x])) h'' s.heap.objs.size (.tup [.int (i : Nat), x]) :=
      ⟨by show 2 ≤ sizeLine; decide, [.int i tk, u], .cons ⟨_, rfl⟩ (.cons ru .nil), ⟨_, hT2, rfl, _, rfl⟩⟩
    have I1 : Inv X pins σ (upd H s.heap.objs.size (.tup [.int (i : Nat), x])) { s with heap := h'', toks := tk + 1 } :=
      I.turnedNew (ch := [e, it]) (fun b ob hb q => (sb.2 b (fun z => hb (by simp [z]))).trans (hk b ob (fun z => hb (by simp [z])) (fun z => hb (by simp [z])) q)) hf (Nat.le_refl _) new
    refine ⟨.ref s.heap.objs.size, _, I1, rfl, ⟨_, x, rfl, I.hok.fresh (Nat.le_refl _), rfl, fun ys hy => by rw [sqx_inj I hy hq]; exact hx⟩, ⟨⟨u, ?_⟩, itx_at hit'.1 fun o q => (sb.2 it (Ne.symm hne)).trans q⟩, fun b hb => ?_⟩
    · have e1 : ((i + 1 : Nat) : Int) = (i : Int) + 1 := by omega
      rw [e1]; exact he'
    · have hb' : b < s.heap.objs.size := by
        have e' : b = e ∨ b = it := by simpa using hb
        rcases e' with z | z
        · rw [z]; exact hel
        · rw [z]; exact hil
      rw [upd_ne (Nat.ne_of_lt hb')]
      exact (hf b hb).1
  done := by
    intro X hP hw hK hc i pins s σ H E I hf st hg
    subst hP hw hK
    obtain ⟨⟨old, he⟩, hit⟩ := st
    obtain ⟨xs, hq, hx⟩ := hg
    obtain ⟨its, rv, p⟩ := sqx_inv I hq
    obtain ⟨f0, f1, f2, f3, f4, f5⟩ := hf it (by simp)
    have q1 : its.toArray.size = i := by rw [List.size_toArray, ← rv.length, hx]
    exact wpAny_pyNext_enum_endD (drawsX (A := X.A.in1) (I.ok.hd hc) l it a ha1 its.toArray) he (by rw [q1]; exact ⟨hit, p⟩) fun h' eb => ⟨rfl, I.turned (t' := s.toks) (fun b o hb q => eb b o hb q) f0 f1 f3 f4 f5⟩
  self := fun A i s Q E st h => let ⟨⟨_, he⟩, _⟩ := st; wpAny_pyIter_enum he h
set_option maxHeartbeats 1000000 in
theorem meets_enum_newB1 {v : Value} {o : Obj} {H : Heap → Prop} (B : Begins v o H) :
    Meets (Builtin.«enumerate.__new__» ⟨[.type "enumerate", v], []⟩) (fun _ R s => H s.heap ∧
      R (.ok (.ret (.ref (s.heap.push o).objs.size))) { s with heap := (s.heap.push o).push { cls := .type "enumerate", data := .fields #[.none, .bool false, .ref s.heap.objs.size, rawInt 0, .none, .none] } }) :=
  .of_wp fun prog w A R s h => by
    obtain ⟨hp, g, d, tk, os⟩ := s; obtain ⟨h1, h⟩ := h
    have hsub := sub_enumerate
    have q1 : ∀ {A' : Around} {E : Value → Shared → Prop} {Q : Value → Shared → Prop}, Q (.ref hp.objs.size) ⟨hp.push o, g, d, tk, os⟩ → wpAny (model prog w) A' (pyIter v) Q E ⟨hp, g, d, tk, os⟩ :=
      fun q => B.iter prog w _ _ ⟨hp, g, d, tk, os⟩ _ h1 q
    wp_walk using q1
    refine wpAny_stack_any fun st => wpAny_pure ?_
    split
    · rename_i c _ _ _ _ _
      cases (c == Value.type "enumerate")
      · wp_walk using q1
        exact ⟨_, rfl, h⟩
      · wp_walk using q1
        exact ⟨_, rfl, h⟩
    · wp_walk using q1
      exact ⟨_, rfl, h⟩
theorem enum_begins1 {prog : Program} {w : World} {A : Around} {E : Value → Shared → Prop} {s : Shared} {v : Value} {o : Obj} {H : Heap → Prop} {Q : Value → Shared → Prop} (B : Begins v o H) (h1 : H s.heap)
    (h : ∀ h', IsEnum h' (s.heap.objs.size + 1) s.heap.objs.size 0 .none → h'.get? s.heap.objs.size = some o → h'.objs.size = s.heap.objs.size + 2 →
      (∀ b o, s.heap.get? b = some o → h'.get? b = some o) → Q (.ref (s.heap.objs.size + 1)) { s with heap := h' }) :
    wpAny (model prog w) A (call (.type "enumerate") [v]) Q E s := by
  refine callType_new F.called_enumerate (by decide) (F.typeCall_enumerate_1 _) (F.newCall_enumerate_1 _) (fun obj => F.args_object_init_2 obj _) F.entry_enumerate_new
    (meets_enum_newB1 B) ⟨h1, ?_⟩
  have hz : (s.heap.push o).objs.size = s.heap.objs.size + 1 := Heap.size_push ..
  show _ ∧ _
  rw [hz]
  have he : IsEnum ((s.heap.push o).push { cls := .type "enumerate", data := .fields #[.none, .bool false, .ref s.heap.objs.size, rawInt 0, .none, .none] }) (s.heap.objs.size + 1) s.heap.objs.size 0 .none := by
    have := Heap.get?_push_size (s.heap.push o) (o := { cls := .type "enumerate", data := .fields #[.none, .bool false, .ref s.heap.objs.size, rawInt 0, .none, .none] }) rfl
    rw [hz] at this; exact this
  refine ⟨⟨_, he, rfl⟩, h _ he (Heap.get?_push_of_some _ (Heap.get?_push_size _ B.free)) (by rw [Heap.size_push, hz]) fun b o x => Heap.get?_push_of_some _ (Heap.get?_push_of_some _ x)⟩
def iEnumM (K : PySem.W.Frag) (ta : TA) : TI := fun σ H R => ta σ H fun vs H1 => ∃ l a xs, vs = [.ref a] ∧ SqX K l H1 a xs ∧ R (IteM K l a) H1
theorem pi_enumM {X : Cx} {e : Expr} {ta : TA} {p pos tpos : Pos} {elts : List Expr} {kk : Nat} (hg : Gl X "enumerate") (hm : X.mg "enumerate" = none) (ha : PA X [e] ta) (hs : starEach [e] X.env = [(false, eval e X.env)] := by rfl) :
    PI X (.Tuple elts kk tpos) (.Call (.Name "enumerate" p) [e] [] pos) (iEnumM X.K ta) := by
  refine ⟨fun pins s σ H R I h => ?_⟩
  refine Call_ (ld_blt I hg hm boot_enumerate (PyProof.Rows.callWith_type1 (thn (ha.run pos pins s σ H _ I h) fun us s1 ⟨vs, H1, I1, r1, q1⟩ => ?_) hs rfl))
  obtain ⟨l, a, xs, ex, hq, q⟩ := q1
  subst ex
  cases r1 with
  | cons r rr =>
    cases rr
    cases r
    obtain ⟨its, rv, p'⟩ := sqx_inv I1 hq
    refine enum_begins1 (beginsX l a its.toArray) p' fun h' he hit hsz hk => wpAny_pyIter_enum he ?_
    have I2 : Inv X pins σ H1 { s1 with heap := h' } := I1.kept (t' := s1.toks) hk
    have la := onx_lt p'
    refine ⟨s1.heap.objs.size + 1, [s1.heap.objs.size + 1, s1.heap.objs.size], _, _, H1, rfl, I2, turn_enumM (Nat.succ_ne_self _) (Nat.ne_of_lt la) (Nat.ne_of_gt (Nat.lt_succ_of_lt la)), ⟨⟨.none, he⟩, itx_new hit⟩, fun b hb => ?_, q⟩
    have e' : b = s1.heap.objs.size + 1 ∨ b = s1.heap.objs.size := by simpa using hb
    have hle : s1.heap.objs.size ≤ b := by
      rcases e' with z | z
      · rw [z]; exact Nat.le_add_right _ _
      · rw [z]; exact Nat.le_refl _
    exact I1.fpOk hle (I1.hok.fresh hle)
theorem walk_enumM {K : PySem.W.Frag} {l : Bool} {a : Addr} {xs : List V} : Walk (IteM K l a) xs.length (fun H => SqX K l H a xs) (YPair (fun i => some (.int (i : Nat))) (fun i => xs[i]?)) := by
  refine ⟨fun i _ hi q => ⟨xs, xs[i], q, by simp [hi]⟩, fun _ q => ⟨xs, q, rfl⟩, fun i H v H' _ q y => ?_⟩
  obtain ⟨T, x, h1, h2, h3, h4⟩ := y
  exact ⟨T, .int (i : Nat), x, h1, h2, h3, rfl, h4 xs q⟩
theorem same_x {K : PySem.W.Frag} {H H' : Hp} {l : Bool} {a : Addr} {xs : List V} (e : Same H H') (h : SqX K l H a xs) : SqX K l H' a xs := by
  cases l with
  | true => exact same_l e h
  | false => exact same_t e h
end K29
namespace K29
open PySem PySem.Spec PyProof.Rows L2
open PySem.Sem (wp)
/-! ### dicts with tuple keys: displays of one pair, comprehensions -/
theorem d_dictSetT {X : Cx} {pins : List (Addr × Obj)} {σ : L2.St} {H : Hp} {s : Shared} {E : Value → Shared → Prop} {D b : Addr} {kvs : List (List L2.Key × V)} {k : List L2.Key} {v : V} {u r : Value} {Q : Unit → Shared → Prop} (hu : X.A.units + 1 < cLine) (I : Inv X pins σ H s) (e : H D = some (.dT kvs)) (eb : H b = some (.tup (k.map kV)))
    (l : kvs.length < sizeLine) (ry : RelV (.ref b) u) (rv : RelV v r) (h : ∀ s', Inv X pins σ (upd H D (.dT (putK kvs k v))) s' → Q () s') : wpAny (model X.prog X.w) X.A (dictSet D u r) Q E s := by
  cases (show u = Value.ref b from ry)
  obtain ⟨z, hd, xs, rel, dd⟩ := dt_of I.hok e
  have hz : xs.length ≤ sizeLine := by rw [← Paired.length rel]; exact z
  have hl : (putK kvs k v).length ≤ sizeLine := by have := length_putK kvs k v; omega
  refine wpAny_dictSet_heap (hsz := hz) (show (tupleKind (mixKind X.prog X.w)).room X.A from Nat.lt_of_succ_lt hu) (key_of I.hok eb) dd fun h' dd' hs => h _ ?_
  obtain ⟨q, es, ep, hq, h2, h3, h4, _, h5⟩ := dd'
  refine d_write I (by rw [e]; exact True.intro) hs ⟨q, hq⟩ ⟨hl, hd, _, (rel.put k eb rv).keeps fun c ys ec => ?_, q, es, ep, hq, h2, h3, h4, h5⟩
  rw [upd_ne (ne_of ec e (fun z => nomatch z))]
  exact ec
section
variable {X : Cx}
def tDcT (wi : TI) (g : TG) (tt : TT) (tk tv : TE) (vs : List Nat) : TE := fun σ H Q => wi σ H fun J H1 => ∀ D, H1 D = none → ∃ W : Nat → Nat → Hp → Prop, (∃ m, W 0 m (upd H1 D (.dT []))) ∧ ∀ i m H, W i m H →
  (J.stop i H ∧ Q (.ref D) H) ∨ (J.go i H ∧ ∃ Nx : Hp → Prop, (∀ H', Nx H' → ∃ m', m' < m ∧ W (i + 1) m' H') ∧ ∀ x H', J.yld i H x H' → g x (wipe σ vs) H' fun σ2 H2 => wipe σ2 vs = wipe σ vs ∧ tt σ2 H2 fun b H3 =>
    if b = true then tk σ2 H3 fun y H4 => tv σ2 H4 fun z H5 => ∃ kvs k b, y = .ref b ∧ H5 b = some (.tup (k.map kV)) ∧ H5 D = some (.dT kvs) ∧ kvs.length < sizeLine ∧ Nx (upd H5 D (.dT (putK kvs k z))) else Nx H3)
theorem dc_coreT {pins : List (Addr × Obj)} {s : Shared} {σ : L2.St} {H : Hp} {Q : VK} {kx vx tg iter : Expr} {ifs : List Expr} {scope : Scope} {own : List (Str × Nat)} {pos pos' : Pos} {wi : TI} {g : TG} {tt : TT} {tk tv : TE} {use : Option (Value → Sem Unit)} {Qf : Value → Shared → Prop}
    (hu : X.A.units + 1 < cLine) (hc : X.calm = true) (hN : X.N.Nodup) (I : Inv X pins σ H s) (hi : PI X tg iter wi) (ok : BlkOk X.N X.env.scope scope own)
    (hg : ∀ (s : Shared) (H : Hp) (C : Addr) (cl : List (Str × Addr)) (fp : List Addr), PG (X.blk s H scope (compEnvC scope cl C X.env) fp) tg g) (ht : ∀ (s : Shared) (H : Hp) (C : Addr) (cl : List (Str × Addr)) (fp : List Addr), PTs (X.blk s H scope (compEnvC scope cl C X.env) fp) ifs tt)
    (hk : ∀ (s : Shared) (H : Hp) (C : Addr) (cl : List (Str × Addr)) (fp : List Addr), PE (X.blk s H scope (compEnvC scope cl C X.env) fp) kx tk)
    (he : ∀ (s : Shared) (H : Hp) (C : Addr) (cl : List (Str × Addr)) (fp : List Addr), PE (X.blk s H scope (compEnvC scope cl C X.env) fp) vx tv) (hs : ∀ x, foldedSetIterable iter X.env x = pure x)
    (h : tDcT wi g tt tk tv (own.map (·.2)) σ H Q)
    (hRR : ∀ D C s' m H', Inv X pins σ H' s' → Q (.ref D) H' → s'.heap.Ns C m → FpOk X pins H' C → compPost (model X.prog X.w) X.A X.xe use Qf (.ref D) C (.ok .next) s') :
    wpAny (model X.prog X.w) X.A (comprehension (.DictComp kx vx [⟨tg, iter, ifs, 0⟩] scope pos) scope X.env pos' newDict false (eval iter X.env) use) Qf X.xe s := by
  have hfree : ∀ y ∈ scope.names, y.2 = .free → ∃ c, X.env.cells.lookup y.1 = some c := fun y hy e => by
    rcases ok.free y hy e with k | k
    · exact I.ok.has _ (.inl k)
    · exact I.ok.has _ (.inr k)
  refine wpAny_comprehension_free (use := use) rfl hs (closure_ok hfree) ok.kind (fun y hy e => by rw [ok.uniq y hy, e])
    (thn (hi.run pins s σ H _ I h) fun xv s1 hx => thn hx fun itv s2 h2 => ?_)
  obtain ⟨it, fp, tn, J, H2, e, I2, T, st2, f2, q⟩ := h2
  subst e
  refine wpAny_newObj_type (newEnv_comp ?_)
  generalize hD : s2.heap.objs.size = D
  have hDn : H2 D = none := I2.hok.fresh (Nat.le_of_eq hD)
  obtain ⟨W, ⟨m0, w0⟩, turn⟩ := q D hDn
  generalize hs3 : ({ s2 with heap := s2.heap.push { cls := .type "dict", data := .dict #[] } } : Shared) = s3
  have I3 : Inv X pins σ (upd H2 D (.dT [])) s3 := by
    rw [← hs3]
    refine I2.laid (t' := s2.toks) (fun b o e => Heap.get?_push_of_some _ e) (Nat.le_of_eq hD) ?_
    rw [← hD]
    exact dt_empty s2.heap I2.big
  have h3 : s3.heap = s2.heap.push { cls := .type "dict", data := .dict #[] } := by rw [← hs3]
  have sz : ∀ b ∈ fp, b < s2.heap.objs.size := fun b hb => by
    obtain ⟨o, e, _⟩ := T.obj _ _ st2 b hb
    exact Heap.lt_size e
  have f3 : ∀ b ∈ fp, FpOk X pins (upd H2 D (.dT [])) b ∧ b < s3.heap.objs.size := fun b hb => by
    have hlt := sz b hb
    refine ⟨⟨?_, (f2 b hb).2⟩, by rw [h3, Heap.size_push]; exact Nat.lt_succ_of_lt hlt⟩
    rw [upd_ne (by rw [← hD]; exact Nat.ne_of_lt hlt)]
    exact (f2 b hb).1
  have st3 : tn 0 s3.heap := T.keep _ _ _ st2 fun b _ o e => by rw [h3]; exact Heap.get?_push_of_some _ e
  have I4 := block_start I3 ok hN f3
  have pg := hg s3 (upd H2 D (.dT [])) s3.heap.objs.size (cellsFrom (s3.heap.objs.size + 1) scope.names (cloFrom X.env.cells scope.names [])) fp
  have pt := ht s3 (upd H2 D (.dT [])) s3.heap.objs.size (cellsFrom (s3.heap.objs.size + 1) scope.names (cloFrom X.env.cells scope.names [])) fp
  have pk := hk s3 (upd H2 D (.dT [])) s3.heap.objs.size (cellsFrom (s3.heap.objs.size + 1) scope.names (cloFrom X.env.cells scope.names [])) fp
  have pe := he s3 (upd H2 D (.dT [])) s3.heap.objs.size (cellsFrom (s3.heap.objs.size + 1) scope.names (cloFrom X.env.cells scope.names [])) fp
  show codeAny _ _ (.compStart (.DictComp kx vx [⟨tg, iter, ifs, 0⟩] scope pos) 0 (.ref it) (.ref D) (compEnvC scope (cellsFrom (s3.heap.objs.size + 1) scope.names (cloFrom X.env.cells scope.names [])) s3.heap.objs.size X.env)) (compPost (model X.prog X.w) X.A X.xe use Qf (.ref D) s3.heap.objs.size) { s3 with heap := pushCells (s3.heap.push { cls := .type "dict", data := .dict #[] }) scope.names }
  have nfp : ∀ b ∈ fp, (upd H2 D (.dT [])) b = none := fun b hb => (f3 b hb).1.1
  generalize hce : compEnvC scope (cellsFrom (s3.heap.objs.size + 1) scope.names (cloFrom X.env.cells scope.names [])) s3.heap.objs.size X.env = ce at I4 pg pt pk pe ⊢
  have cL : ce.locals = s3.heap.objs.size := by subst hce; rfl
  generalize hH3 : upd H2 D (.dT []) = H3 at I3 I4 pg pt pk pe w0 nfp f3
  generalize hs4 : ({ s3 with heap := pushCells (s3.heap.push { cls := .type "dict", data := .dict #[] }) scope.names } : Shared) = s4 at I4 ⊢
  have st4 : tn 0 s4.heap := T.keep _ _ _ st3 fun b _ o e => by rw [← hs4]; exact pushCells_keeps _ _ _ _ (Heap.get?_push_of_some _ e)
  have stat : ∀ {σ' : L2.St} {H' : Hp} {s' : Shared}, Inv (X.blk s3 H3 scope ce fp) [] σ' H' s' → (∀ b ∈ fp, H' b = none) → ∀ b ∈ fp, FpOk (X.blk s3 H3 scope ce fp) [] H' b := fun {σ' H' s'} I' hn b hb =>
    ⟨hn b hb, (I'.ok.exf b hb).1, I'.ok.exfs b hb, .inl hb, fun x c e => (I'.ok.exf b hb).2 x c e, fun p hp => absurd (show p ∈ ([] : List (Addr × Obj)) ++ [] from hp) (by simp)⟩
  have loop : codeAny (model X.prog X.w) X.A (.compLoop (.DictComp kx vx [⟨tg, iter, ifs, 0⟩] scope pos) 0 (.ref it) (.ref D) ce) (compPost (model X.prog X.w) X.A X.xe use Qf (.ref D) s3.heap.objs.size) s4 := by
    refine compLoop_anyD (fun n s' => ∃ i H', Inv (X.blk s3 H3 scope ce fp) [] (wipe σ (own.map (·.2))) H' s' ∧ tn i s'.heap ∧ (∀ b ∈ fp, H' b = none) ∧ W i n H') ?_ m0 ⟨0, H3, I4, st4, nfp, w0⟩
    rintro n s5 ⟨i, H5, I5, st5, n5, w5⟩
    rcases turn i n H5 w5 with ⟨stop, qq⟩ | ⟨go, Nx, hNx, step⟩
    · have td := T.done (X.blk s3 H3 scope ce fp) rfl rfl rfl hc i [] s5 _ H5 (fun _ _ => False) I5 (stat I5 n5) st5 stop
      refine thnF td fun r s6 ⟨hr, I6⟩ => ?_
      subst hr
      have I7 : Inv X pins σ H5 s6 := I3.call' (ch := fp) I6.os I6.base I6.hok I6.bare fun b hb => ⟨(f3 b hb).1.2.2.2.1, (f3 b hb).1.2.1, (f3 b hb).1.2.2.2.2.1, (f3 b hb).1.2.2.2.2.2⟩
      have nC : H5 s3.heap.objs.size = none := by
        have z : H5 ce.locals = none := I6.free
        rw [cL] at z
        exact z
      obtain ⟨m, hn, _⟩ := I6.loc
      have hn : s6.heap.Ns ce.locals m := hn
      rw [cL] at hn
      exact hRR D s3.heap.objs.size s6 m H5 I7 qq hn (I3.fpOk (Nat.le_refl _) nC)
    · have ti := T.item (X.blk s3 H3 scope ce fp) rfl rfl rfl hc i [] s5 _ H5 (fun _ _ => False) I5 (stat I5 n5) st5 go
      refine thnF ti fun r s6 ⟨u, hr, h6⟩ => ?_
      subst hr
      refine thnF h6 fun _ s7 ⟨x, H7, I7, r7, y7, st7, n7⟩ => ?_
      have I7' := I7.pinned (stat I7 n7) (T.obj _ _ st7)
      refine thnF (pg.run _ s7 _ H7 x u _ I7' r7 (step x H7 y7)) fun _ s8 ⟨σ8, H8, I8, hw8, q8⟩ => ?_
      refine thnF (pt.run _ s8 σ8 H8 _ I8 q8) fun b s9 ⟨H9, I9, q9⟩ => ?_
      have fin : ∀ {s' : Shared} {H' : Hp}, Inv (X.blk s3 H3 scope ce fp) ([] ++ pinsAt fp s7.heap) σ8 H' s' → Nx H' → ∃ m, m < n ∧ ∃ i H', Inv (X.blk s3 H3 scope ce fp) [] (wipe σ (own.map (·.2))) H' s' ∧ tn i s'.heap ∧ (∀ b ∈ fp, H' b = none) ∧ W i m H' := fun {s' H'} I' nx => by
        obtain ⟨m', hm, w'⟩ := hNx H' nx
        have pin' : ∀ b ∈ fp, ∀ o, s7.heap.get? b = some o → s'.heap.get? b = some o ∧ H' b = none := fun b hb o e =>
          let z := I'.pin (b, o) (List.mem_append_right _ (List.mem_append_right _ (mem_pinsAt hb e)))
          ⟨z.1, z.2.1⟩
        have hl : (wipe σ (own.map (·.2))).length = σ8.length := by rw [← hw8, wipe_length]
        refine ⟨m', hm, i + 1, H', (I'.unpinned (pins := [])).weak hl (fun j v e => ?_), T.keep _ _ _ st7 fun b hb o e => (pin' b hb o e).1, fun b hb => ?_, w'⟩
        · rw [← hw8] at e
          exact (wipe_some e).1
        · obtain ⟨o, e, _⟩ := T.obj _ _ st7 b hb
          exact (pin' b hb o e).2
      cases b with
      | false =>
        simp only [Bool.false_eq_true, if_false] at q9 ⊢
        exact fin I9 q9
      | true =>
        simp only [if_true] at q9 ⊢
        refine thnF (pk.run _ s9 σ8 H9 _ I9 q9) fun z s10 ⟨yk, H10, I10, r10, q10⟩ => ?_
        refine thnF (pe.run _ s10 σ8 H10 _ I10 q10) fun z2 s11 ⟨yv, H11, I11, r11, kvs, k, b0, ek, hkb, hD11, hz11, nx⟩ => ?_
        subst ek
        exact d_dictSetT (X := X.blk s3 H3 scope ce fp) hu I11 hD11 hkb hz11 r10 r11 fun s12 I12 => fin I12 nx
  exact codeAny_compStart_dict loop (T.self X.A 0 _ _ _ st4 loop)
theorem pe_dcT {kx vx tg iter : Expr} {ifs : List Expr} {scope : Scope} {own : List (Str × Nat)} {pos : Pos} {wi : TI} {g : TG} {tt : TT} {tk tv : TE} (hu : X.A.units + 1 < cLine) (hc : X.calm = true) (hN : X.N.Nodup) (hi : PI X tg iter wi) (ok : BlkOk X.N X.env.scope scope own)
    (hg : ∀ (s : Shared) (H : Hp) (C : Addr) (cl : List (Str × Addr)) (fp : List Addr), PG (X.blk s H scope (compEnvC scope cl C X.env) fp) tg g) (ht : ∀ (s : Shared) (H : Hp) (C : Addr) (cl : List (Str × Addr)) (fp : List Addr), PTs (X.blk s H scope (compEnvC scope cl C X.env) fp) ifs tt)
    (hk : ∀ (s : Shared) (H : Hp) (C : Addr) (cl : List (Str × Addr)) (fp : List Addr), PE (X.blk s H scope (compEnvC scope cl C X.env) fp) kx tk)
    (he : ∀ (s : Shared) (H : Hp) (C : Addr) (cl : List (Str × Addr)) (fp : List Addr), PE (X.blk s H scope (compEnvC scope cl C X.env) fp) vx tv) (hs : ∀ x, foldedSetIterable iter X.env x = pure x := by intro _; rfl) :
    PE X (.DictComp kx vx [⟨tg, iter, ifs, 0⟩] scope pos) (tDcT wi g tt tk tv (own.map (·.2))) := by
  refine ⟨fun pins s σ H Q I h => ?_⟩
  rw [arm_eval_DictComp]
  refine dc_coreT hu hc hN I hi ok hg ht hk he hs h fun D C s' m H' I' q hn f => ⟨m, hn, fun h'' sb => ?_⟩
  obtain ⟨f0, f1, f2, f3, f4, f5⟩ := f
  exact ⟨.ref D, H', I'.turned (t' := s'.toks) (fun b o hb e => (sb.2 b hb).trans e) f0 f1 f3 f4 f5, rfl, q⟩
end
/-- {k: v}, k a tuple -/
def tDict1 (tk tv : TE) : TE := fun σ H Q => ∀ p, H p = none → tk σ (upd H p (.dT [])) fun y H1 => tv σ H1 fun v H2 => ∃ b k, y = .ref b ∧ H2 b = some (.tup (k.map kV)) ∧ H2 p = some (.dT []) ∧ Q (.ref p) (upd H2 p (.dT [(k, v)]))
theorem pe_dict1 {X : Cx} {k v : Expr} {tk tv : TE} {pos : Pos} (hu : X.A.units + 1 < cLine) (hk : PE X k tk) (hv : PE X v tv) : PE X (.Dict [some k] [v] pos) (tDict1 tk tv) := by
  refine ⟨fun pins s σ H Q I q => ?_⟩
  have hn := I.hok.fresh (Nat.le_refl s.heap.objs.size)
  have I1 := I.laid (a := s.heap.objs.size) (o := .dT []) (h' := s.heap.push { cls := .type "dict", data := .dict #[] }) (t' := s.toks) (fun _ _ q => Heap.get?_push_of_some _ q) (Nat.le_refl _) (dt_empty s.heap I.big)
  rw [arm_eval_Dict, zip_pairTrees [some k] [v] X.env pos rfl rfl, dictDisplay_pairs (pairTrees [some k] [v] X.env pos) (by intro z; cases z) (by show 1 < 17; decide)]
  refine wpAny_bind (wpAny_standAt (wpAny_bind (wpAny_subDictH (knd := tupleKind (mixKind X.prog X.w)) (Q := fun d s' => wpAny (model X.prog X.w) X.A (pure (Value.ref d)) _ X.xe s') (show (tupleKind (mixKind X.prog X.w)).room X.A from Nat.lt_of_succ_lt hu) (by show 1 ≤ 15; decide) ?_)))
  refine pairTrees_cons_walk (thn (hk.run pins _ σ _ _ I1 (q _ hn)) fun u s2 ⟨y, H2, I2, ry, q2⟩ => thn (hv.run pins s2 σ H2 _ I2 q2) fun u2 s3 ⟨x, H3, I3, rx, b, kk, ey, hb, hp, q3⟩ => pairTrees_nil_walk ?_)
  subst ey
  cases (show u = Value.ref b from ry)
  obtain ⟨z, hd, xs, rel, dd⟩ := dt_of I3.hok hp
  cases rel
  refine ⟨[(kk, b, u2)], ⟨rfl, rfl, key_of I3.hok hb, trivial⟩, dd, fun h' tk dd' hs => wpAny_pure ?_⟩
  obtain ⟨o, es, ep, ho, h2, h3, h4, _, h5⟩ := dd'
  refine ⟨.ref s.heap.objs.size, _, d_write (ob := .dT [(kk, x)]) I3 (by rw [hp]; exact True.intro) hs ⟨o, ho⟩ ⟨(by show 1 ≤ sizeLine; decide), hd, [(kk, b, u2)], .cons ⟨rfl, ?_, rx⟩ .nil, o, es, ep, ho, h2, h3, h4, h5⟩, rfl, q3⟩
  rw [upd_ne (ne_of hb hp (fun z => nomatch z))]
  exact hb
theorem ps_setDcT {X : Cx} {i : Nat} {y : Str} {py : Pos} {kx vx tg iter : Expr} {ifs : List Expr} {scope : Scope} {own : List (Str × Nat)} {pos spos : Pos} {wi : TI} {g : TG} {tt : TT} {tk tv : TE} (hu : X.A.units + 1 < cLine) (hc : X.calm = true) (hN : X.N.Nodup) (hy : X.N[i]? = some y) (hyl : X.env.scope.names.lookup y = some .local)
    (hsw : swapsWith (.DictComp kx vx [⟨tg, iter, ifs, 0⟩] scope pos) (some (.Name y py)) spos.line X.env = pure true) (hi : PI X tg iter wi) (ok : BlkOk X.N X.env.scope scope own)
    (hg : ∀ (s : Shared) (H : Hp) (C : Addr) (cl : List (Str × Addr)) (fp : List Addr), PG (X.blk s H scope (compEnvC scope cl C X.env) fp) tg g) (ht : ∀ (s : Shared) (H : Hp) (C : Addr) (cl : List (Str × Addr)) (fp : List Addr), PTs (X.blk s H scope (compEnvC scope cl C X.env) fp) ifs tt)
    (hk : ∀ (s : Shared) (H : Hp) (C : Addr) (cl : List (Str × Addr)) (fp : List Addr), PE (X.blk s H scope (compEnvC scope cl C X.env) fp) kx tk)
    (he : ∀ (s : Shared) (H : Hp) (C : Addr) (cl : List (Str × Addr)) (fp : List Addr), PE (X.blk s H scope (compEnvC scope cl C X.env) fp) vx tv) (hs : ∀ x, foldedSetIterable iter X.env x = pure x := by intro _; rfl) :
    PS X (.Assign [.Name y py] (.DictComp kx vx [⟨tg, iter, ifs, 0⟩] scope pos) spos) (tAsg (tDcT wi g tt tk tv (own.map (·.2))) (gName i)) := by
  refine ⟨fun pins s σ H D I h => ?_⟩
  rw [exec_Assign_Name_used _ _ _ _ hsw]
  refine wpAny_bind (wpAny_standAt (wpAny_bind ?_))
  show wpAny _ X.A (do let _ ← comprehension (.DictComp kx vx [⟨tg, iter, ifs, 0⟩] scope pos) scope X.env (firstIterPos [⟨tg, iter, ifs, 0⟩] pos) newDict false (eval iter X.env) (some (assign (.Name y py) X.env))) _ _ s
  have h : tDcT wi g tt tk tv (own.map (·.2)) σ H (fun x H1 => gName i x σ H1 D.nx) := h
  refine wpAny_bind (thn (dc_coreT (Qf := fun _ s' => SP X pins D .next s') hu hc hN I hi ok hg ht hk he hs h fun L C s' m H' I' q hn f => ?_) fun _ s' hq => wpAny_pure (wpAny_pure hq))
  show wpAny _ _ (assign (.Name y py) X.env (.ref L)) _ _ _
  refine wpAny_assign_Name (store_ok2 (v := V.ref L) I' hN hy (.inl hyl) rfl (fun s2 I2 ⟨a, sb, ha⟩ => ?_) (.inr hyl))
  obtain ⟨f0, f1, f2, f3, f4, f5⟩ := f
  have haC : C ≠ a := by
    rcases ha with z | z
    · rw [z]; exact f1
    · exact fun e => f4 y a z e.symm
  refine ⟨m, hn.sameBut sb haC, fun h3 sb3 => ?_⟩
  exact ⟨_, H', I2.turned (t' := s2.toks) (fun b o hb e => (sb3.2 b hb).trans e) f0 f1 f3 f4 f5, q⟩
theorem sw_trueD {kx vx : Expr} {gs : List Comprehension} {scope : Scope} {pos py : Pos} {y : Str} {l : Nat} {env : Env} (hk : env.scope.kind = .function) (hy : env.scope.names.lookup y = some .local) (hl : (py.line == pos.line) = true)
    (ha : (scope.names.any fun (n, k) => n == y && (k == .local || k == .cell)) = false) : swapsWith (.DictComp kx vx gs scope pos) (some (.Name y py)) l env = pure true := by
  have ky : env.kindOf y = some .local := hy
  have hb : env.blockKind = .function := by unfold Env.blockKind; rw [hk]; rfl
  unfold swapsWith
  simp only [hb, ky, ha, Expr.pos, hl]
  rfl
end K29
namespace K29
open PySem PySem.Spec PyProof.Rows L2
open PySem.Sem (wp)
/-! ### sets of tuples off a list of any length, sets of ints off a list, sorted, sum, max of a tuple -/
section
variable {P : Program} {w : World} {A : Around} {E : Value → Shared → Prop} {s : Shared}
theorem set_update_tupsB {I : Addr} {fp wr : List Addr} {G : Array GenState → Array GenState → Prop} {n : Nat} {Pv : Nat → Value → Prop} {St : Nat → Shared → Prop} {R : Result → Shared → Prop}
    (W : WalksS P w A.in1 I fp wr G n Pv St) (S : Addr) (hSf : S ∉ fp) (ks : List (Addr × List Int)) (hn : n = ks.length) (hfew : ∀ L : List (Addr × List Int), (∀ p ∈ L, p ∈ ks) → (L.map (·.2)).Nodup → L.length + 1 < 64) (hval : ∀ i v, Pv i v → ∃ p, ks[i]? = some p ∧ v = .ref p.1)
    (h0 : Heap) (hk : ∀ p ∈ ks, IsT P w h0 p.2 p.1) (hS0 : h0.get? S = none) (hw0 : ∀ b ∈ wr, h0.get? b = none) (hu : A.in1.units < cLine) :
    ∀ (k i : Nat) (s : Shared), n - i = k → i ≤ n → St i s → (∀ b o, h0.get? b = some o → s.heap.get? b = some o) → (∃ L es ep t, SetTR P w s.heap S L es ep t ∧ Got ks i L) →
      (∀ s' L es ep t, Moved (S :: wr) G s s' → SetTR P w s'.heap S L es ep t → Got ks n L → (∀ b o, h0.get? b = some o → s'.heap.get? b = some o) → R (.ok (.ret .none)) s') →
      codeAny (model P w) A (.builtin "set.update.loop" ⟨[.ref S, .ref I], []⟩) R s := by
  have hSw : S ∉ wr := fun h => hSf (W.sub _ h)
  have hsub : ∀ b ∈ wr, b ∈ S :: wr := fun b hb => List.mem_cons_of_mem _ hb
  have keepM : ∀ {s s' : Shared}, Moved wr G s s' → (∀ b o, h0.get? b = some o → s.heap.get? b = some o) → ∀ b o, h0.get? b = some o → s'.heap.get? b = some o := fun hm hkp b o e =>
    hm.heap b o (fun hb => by rw [hw0 b hb] at e; cases e) (hkp b o e)
  intro k
  induction k with
  | zero =>
    intro i s hk' hi hst hkp ⟨L, es, ep, t, hS, g⟩ hR
    have hin : i = n := by omega
    subst hin
    refine codeAny_builtin F.entry_set_update_loop ?_
    rw [Around.under_plainId F.plain_set_update_loop _]
    show wpAny _ A.in1 (pyNext (.ref I) >>= _) _ _ s
    refine wpAny_bind (W.done s _ _ hst fun s' hm => ?_)
    show wpAny _ A.in1 (ret Value.none) _ _ s'
    have hkp' := keepM hm hkp
    have sub : ∀ p ∈ L, p ∈ ks := fun p hp => List.mem_of_mem_take (g.sub p hp)
    exact wpAny_pure (hR s' L es ep t (hm.mono hsub) (hS.keep (fun o e => hm.heap S o hSw e) fun p hp => isT_keep (hk p (sub p hp)) hkp') g hkp')
  | succ k ih =>
    intro i s hk' hi hst hkp ⟨L, es, ep, t, hS, g⟩ hR
    have hlt : i < n := by omega
    refine codeAny_builtin F.entry_set_update_loop ?_
    rw [Around.under_plainId F.plain_set_update_loop _]
    show wpAny _ A.in1 (pyNext (.ref I) >>= _) _ _ s
    refine wpAny_bind (W.item i s _ _ hlt hst fun v s' hP hst' hm => ?_)
    obtain ⟨p, hp, rfl⟩ := hval i v hP
    have hkp' := keepM hm hkp
    have sub : ∀ p ∈ L, p ∈ ks := fun p hp => List.mem_of_mem_take (g.sub p hp)
    have hS' : SetTR P w s'.heap S L es ep t := hS.keep (fun o e => hm.heap S o hSw e) fun q hq => isT_keep (hk q (sub q hq)) hkp'
    have hx : IsT P w s'.heap p.2 p.1 := isT_keep (hk p (List.mem_of_getElem? hp)) hkp'
    show wpAny _ A.in1 (holding [Value.ref p.1] (setAdd S (.ref p.1)) >>= _) _ _ s'
    refine wpAny_bind (wpAny_holding ?_)
    unfold setAdd
    refine wpAny_holding ?_
    refine wpAny_bind (wpAny_pyHash_tuple hu hx ?_)
    refine add_at (s := { s' with toks := s'.toks + (p.2.length + 1) }) hS' hx hu (hfew L sub hS.nd) fun b h' L' es' ep' t' hsb hS2 c1 c2 => ?_
    have g' : Got ks (i + 1) L' := by
      rcases Classical.em (p.2 ∈ L.map (·.2)) with c | c
      · rw [c1 c]; exact g.same hp c
      · exact g.more hp (c2 c)
    have hkp2 : ∀ b o, h0.get? b = some o → h'.get? b = some o := fun b o e => (hsb.2 b (fun z => by rw [z, hS0] at e; cases e)).trans (hkp' b o e)
    refine wpAny_pure ⟨plainId_quiet F.plain_set_update_loop _, ih (i + 1) _ (by omega) hlt (W.frame _ s' _ _ hst' (Nat.le_add_right _ _) fun b hb o e => ?_) hkp2 ⟨L', es', ep', t', hS2, g'⟩ fun s'' L2 es2 ep2 t2 hm'' hS'' g'' hkp'' => ?_⟩
    · rw [hsb.2 b (fun h : b = S => hSf (by rw [← h]; exact hb))]; exact e
    · refine hR s'' L2 es2 ep2 t2 (Moved.trans W.gtrans ((hm.mono hsub).then_heap (Nat.le_add_right _ _) fun b o hb e => ?_) hm'') hS'' g'' hkp''
      rw [hsb.2 b (fun h : b = S => hb (by rw [h]; exact List.mem_cons_self))]; exact e

set_option maxRecDepth 100000 in
set_option maxHeartbeats 3200000 in
theorem call_set_tupsB {l : Addr} {items : Array Value} (ks : List (Addr × List Int)) {Q : Value → Shared → Prop} (hh : A.handled = none) (hl : s.heap.IsList l items) (hit : items.toList = ks.map fun p => Value.ref p.1)
    (hk : ∀ p ∈ ks, IsT P w s.heap p.2 p.1) (hfew : ∀ L : List (Addr × List Int), (∀ p ∈ L, p ∈ ks) → (L.map (·.2)).Nodup → L.length + 1 < 64) (hu : A.units + 3 < cLine)
    (h : ∀ (h' : Heap) (tk : Nat) L es ep t, SetTR P w h' s.heap.objs.size L es ep t → Got ks ks.length L → (∀ b o, s.heap.get? b = some o → h'.get? b = some o) → Q (.ref s.heap.objs.size) { s with heap := h', toks := tk }) :
    wpAny (model P w) A (call (.type "set") [.ref l]) Q E s := by
  have hisz : items.size = ks.length := by
    have q := congrArg List.length hit
    rw [Array.length_toList, List.length_map] at q
    exact q
  obtain ⟨c, tl, hmro⟩ := F.called_set.mro
  have hmade := F.called_set.made
  have hsub := F.called_set.sub
  refine wpAny_call (codeAny_of_tree ?_)
  show wpAny _ _ (callAny (.type "set") _) _ _ _
  refine wpAny_pure ⟨Code.quiet_builtin _ (by decide +kernel), codeAny_builtin F.entry_type_call ?_⟩
  rw [Around.under_plain (weight_type_call_type "set" [.ref l] []) rfl]
  have h1 := F.called_set.notType
  have h2 := F.called_set.canCreate
  have hct := F.typeCall_set_1 (.ref l)
  repeat (any_goals (first | assumption | wp_step))

  refine codeAny_mono (code_set_led1 (.ref l) (E := E) (Q₁ := fun obj s₁ => obj = .ref s.heap.objs.size ∧ s₁ = { s with heap := s.heap.push { cls := .type "set", dict := none, data := .set #[] 0 (.fresh 0 0 (!w.params.followText "set-order")) } }) ⟨rfl, rfl⟩) fun r s₁ hr => ?_
  cases r with
  | error e => exact hr
  | ok fl =>
    cases fl with
    | ret obj =>
      obtain ⟨rfl, rfl⟩ := hr
      have hS : (s.heap.push { cls := .type "set", dict := none, data := .set #[] 0 (.fresh 0 0 (!w.params.followText "set-order")) }).get? s.heap.objs.size = some { cls := .type "set", dict := none, data := .set #[] 0 (.fresh 0 0 (!w.params.followText "set-order")) } := Heap.get?_push_size _ rfl
      have hT : Shared.TypeIs { s with heap := s.heap.push { cls := .type "set", dict := none, data := .set #[] 0 (.fresh 0 0 (!w.params.followText "set-order")) } } (.ref s.heap.objs.size) "set" := ⟨_, hS, rfl⟩
      have hli := F.called_set.init.lookup
      have hbi := F.called_set.init.bind (.ref s.heap.objs.size)
      repeat (any_goals (first | assumption | wp_step))

      refine codeAny_mono (codeAny_call_builtin (R := wants (fun r s₂ => r = .none ∧ ∃ h' tk L es ep t, s₂ = { s with heap := h', toks := tk } ∧ SetTR P w h' s.heap.objs.size L es ep t ∧ Got ks ks.length L ∧
          (∀ b o, s.heap.get? b = some o → h'.get? b = some o)) E) F.called_set.init.plain F.entry_set_init (check_set_init_1 hT ?_)) fun r₂ s₂ hr₂ => ?_
      · obtain ⟨ol, hol, hcl, nl, hdl⟩ := hl
        obtain ⟨ocls, odict, odata, oslots⟩ := ol
        simp only at hcl hdl
        subst hcl; subst hdl
        have hol' : (s.heap.push { cls := .type "set", dict := none, data := .set #[] 0 (.fresh 0 0 (!w.params.followText "set-order")) }).get? l = some { cls := .type "list", dict := odict, data := .seq items nl, slots := oslots } := Heap.get?_push_of_some _ hol
        have hsls := F.sub_list_set
        have hslf := F.sub_list_frozenset
        have hne : (Value.type "list" == Value.type "dict") = false := by decide
        have hl1 : (s.heap.push { cls := .type "set", dict := none, data := .set #[] 0 (.fresh 0 0 (!w.params.followText "set-order")) }).IsList l items := ⟨_, hol', rfl, nl, rfl⟩
        unfold Builtin.«set.__init__» noKeywords Builtin.Frozenset.updateFrom
        generalize hPI : pyIter = PI
        wp_walk
        subst hPI

        refine wpAny_pyIter_list hl1 ?_
        refine wpAny_bind (wpAny_runValue ?_)
        have hlS : l < s.heap.objs.size := Heap.lt_size hol
        have hh3 : A.in1.in1.in1.handled = none := by simp [hh]
        have hz1 : (s.heap.push { cls := .type "set", dict := none, data := .set #[] 0 (.fresh 0 0 (!w.params.followText "set-order")) }).objs.size = s.heap.objs.size + 1 := Heap.size_push ..
        have hneI : l ≠ (s.heap.push { cls := .type "set", dict := none, data := .set #[] 0 (.fresh 0 0 (!w.params.followText "set-order")) }).objs.size := by
          rw [Heap.size_push]; exact Nat.ne_of_lt (Nat.lt_succ_of_lt hlS)
        have hSf : s.heap.objs.size ∉ [(s.heap.push { cls := .type "set", dict := none, data := .set #[] 0 (.fresh 0 0 (!w.params.followText "set-order")) }).objs.size, l] := by
          rw [Heap.size_push]; simp only [List.mem_cons, List.mem_singleton, List.not_mem_nil, or_false, not_or]
          exact ⟨Nat.ne_of_lt (Nat.lt_succ_self _), Nat.ne_of_gt hlS⟩
        have hval : ∀ (i : Nat) (v : Value), items[i]? = some v → ∃ p, ks[i]? = some p ∧ v = .ref p.1 := fun i v hv => by
          have q : items.toList[i]? = some v := by rw [Array.getElem?_toList]; exact hv
          rw [hit, List.getElem?_map] at q
          cases hq : ks[i]? with
          | none => rw [hq] at q; cases q
          | some p =>
            rw [hq] at q
            exact ⟨p, rfl, (Option.some.inj q).symm⟩
        have none_of : ∀ b, s.heap.objs.size ≤ b → s.heap.get? b = none := fun b hb => by
          cases q : s.heap.get? b with
          | none => rfl
          | some o => exact absurd (Nat.lt_of_lt_of_le (Heap.lt_size q) hb) (Nat.lt_irrefl _)
        refine set_update_tupsB ((Walks.list hh3 _ l hneI items).toS) s.heap.objs.size
          hSf ks hisz hfew hval s.heap hk (none_of _ (Nat.le_refl _)) (fun b hb => none_of b (by
            rw [List.mem_singleton.mp hb, Heap.size_push]
            exact Nat.le_succ _)) hu (items.size - 0) 0 _ (by omega) (Nat.zero_le _)
          ⟨⟨_, Heap.get?_push_size _ rfl, rfl, rfl⟩, (hl1.push _)⟩ (fun b o e => Heap.get?_push_of_some _ (Heap.get?_push_of_some _ e)) ?hS0 ?hR
        case hS0 =>
          have hget : ((s.heap.push { cls := .type "set", dict := none, data := .set #[] 0 (.fresh 0 0 (!w.params.followText "set-order")) }).push { cls := .type "list_iterator", data := .fields #[.ref l, .int 0 0] }).get? s.heap.objs.size
              = some { cls := .type "set", dict := none, data := .set #[] 0 (.fresh 0 0 (!w.params.followText "set-order")) } := Heap.get?_push_of_some _ hS
          exact ⟨[], #[], 0, _, setTR_fresh hget, Got.zero ks⟩
        case hR =>
          intro s' L es ep t hm hS' g' hkp
          obtain ⟨h', g2, d', tk', os'⟩ := s'
          have eg : g2 = s.gens := hm.gens
          have ed : d' = s.drawn := hm.drawn
          have eo : os' = s.os := hm.os
          subst eg; subst ed; subst eo
          show wpAny _ _ _ _ _ _
          refine wpAny_pure ?_
          show wpAny _ _ (ret Value.none) _ _ _
          rw [hisz] at g'
          exact wpAny_pure ⟨rfl, h', tk', L, es, ep, t, rfl, hS', g', hkp⟩

      · cases r₂ with
        | error e => exact hr₂
        | ok fl₂ =>
          cases fl₂ with
          | ret r =>
            obtain ⟨rfl, h', tk, L, es, ep, t, rfl, hS', g', hk'⟩ := hr₂
            repeat (any_goals (first | assumption | wp_step))
            exact h _ _ _ _ _ _ hS' g' hk'
          | _ => exact hr₂.elim
    | _ => exact hr.elim

set_option maxRecDepth 100000 in
set_option maxHeartbeats 3200000 in
theorem call_set_listI {l : Addr} {items : Array Value} (ns : List Int) {Q : Value → Shared → Prop} (hh : A.handled = none) (hl : s.heap.IsList l items) (hit : IntsAre items.toList ns) (hb : ns.length + 1 < scanBound)
    (h : ∀ (h' : Heap) (tk c : Nat), SetR w h' s.heap.objs.size (fun j => decide (j ∈ ns)) c → c ≤ ns.length → (∀ b o, s.heap.get? b = some o → h'.get? b = some o) → Q (.ref s.heap.objs.size) { s with heap := h', toks := tk }) :
    wpAny (model P w) A (call (.type "set") [.ref l]) Q E s := by
  have hisz : items.size = ns.length := by
    have q := IntsAre.length hit
    rw [Array.length_toList] at q
    exact q
  obtain ⟨c, tl, hmro⟩ := F.called_set.mro
  have hmade := F.called_set.made
  have hsub := F.called_set.sub
  refine wpAny_call (codeAny_of_tree ?_)
  show wpAny _ _ (callAny (.type "set") _) _ _ _
  refine wpAny_pure ⟨Code.quiet_builtin _ (by decide +kernel), codeAny_builtin F.entry_type_call ?_⟩
  rw [Around.under_plain (weight_type_call_type "set" [.ref l] []) rfl]
  have h1 := F.called_set.notType
  have h2 := F.called_set.canCreate
  have hct := F.typeCall_set_1 (.ref l)
  repeat (any_goals (first | assumption | wp_step))

  refine codeAny_mono (code_set_led1 (.ref l) (E := E) (Q₁ := fun obj s₁ => obj = .ref s.heap.objs.size ∧ s₁ = { s with heap := s.heap.push { cls := .type "set", dict := none, data := .set #[] 0 (.fresh 0 0 (!w.params.followText "set-order")) } }) ⟨rfl, rfl⟩) fun r s₁ hr => ?_
  cases r with
  | error e => exact hr
  | ok fl =>
    cases fl with
    | ret obj =>
      obtain ⟨rfl, rfl⟩ := hr
      have hS : (s.heap.push { cls := .type "set", dict := none, data := .set #[] 0 (.fresh 0 0 (!w.params.followText "set-order")) }).get? s.heap.objs.size = some { cls := .type "set", dict := none, data := .set #[] 0 (.fresh 0 0 (!w.params.followText "set-order")) } := Heap.get?_push_size _ rfl
      have hT : Shared.TypeIs { s with heap := s.heap.push { cls := .type "set", dict := none, data := .set #[] 0 (.fresh 0 0 (!w.params.followText "set-order")) } } (.ref s.heap.objs.size) "set" := ⟨_, hS, rfl⟩
      have hli := F.called_set.init.lookup
      have hbi := F.called_set.init.bind (.ref s.heap.objs.size)
      repeat (any_goals (first | assumption | wp_step))

      refine codeAny_mono (codeAny_call_builtin (R := wants (fun r s₂ => r = .none ∧ ∃ h' tk c, s₂ = { s with heap := h', toks := tk } ∧ SetR w h' s.heap.objs.size (fun j => decide (j ∈ ns)) c ∧ c ≤ ns.length ∧
          (∀ b o, s.heap.get? b = some o → h'.get? b = some o)) E) F.called_set.init.plain F.entry_set_init (check_set_init_1 hT ?_)) fun r₂ s₂ hr₂ => ?_
      · obtain ⟨ol, hol, hcl, nl, hdl⟩ := hl
        obtain ⟨ocls, odict, odata, oslots⟩ := ol
        simp only at hcl hdl
        subst hcl; subst hdl
        have hol' : (s.heap.push { cls := .type "set", dict := none, data := .set #[] 0 (.fresh 0 0 (!w.params.followText "set-order")) }).get? l = some { cls := .type "list", dict := odict, data := .seq items nl, slots := oslots } := Heap.get?_push_of_some _ hol
        have hsls := F.sub_list_set
        have hslf := F.sub_list_frozenset
        have hne : (Value.type "list" == Value.type "dict") = false := by decide
        have hl1 : (s.heap.push { cls := .type "set", dict := none, data := .set #[] 0 (.fresh 0 0 (!w.params.followText "set-order")) }).IsList l items := ⟨_, hol', rfl, nl, rfl⟩
        unfold Builtin.«set.__init__» noKeywords Builtin.Frozenset.updateFrom
        generalize hPI : pyIter = PI
        wp_walk
        subst hPI

        refine wpAny_pyIter_list hl1 ?_
        refine wpAny_bind (wpAny_runValue ?_)
        have hlS : l < s.heap.objs.size := Heap.lt_size hol
        have hh3 : A.in1.in1.in1.handled = none := by simp [hh]
        have hz1 : (s.heap.push { cls := .type "set", dict := none, data := .set #[] 0 (.fresh 0 0 (!w.params.followText "set-order")) }).objs.size = s.heap.objs.size + 1 := Heap.size_push ..
        have hneI : l ≠ (s.heap.push { cls := .type "set", dict := none, data := .set #[] 0 (.fresh 0 0 (!w.params.followText "set-order")) }).objs.size := by
          rw [Heap.size_push]; exact Nat.ne_of_lt (Nat.lt_succ_of_lt hlS)
        have hSf : s.heap.objs.size ∉ [(s.heap.push { cls := .type "set", dict := none, data := .set #[] 0 (.fresh 0 0 (!w.params.followText "set-order")) }).objs.size, l] := by
          rw [Heap.size_push]; simp only [List.mem_cons, List.mem_singleton, List.not_mem_nil, or_false, not_or]
          exact ⟨Nat.ne_of_lt (Nat.lt_succ_self _), Nat.ne_of_gt hlS⟩
        have hval : ∀ (i : Nat) (v : Value), items[i]? = some v → ∃ k t, ns[i]? = some k ∧ v = .int k t := fun i v hv => by
          have hi : i < ns.length := by rw [← hisz]; exact (Array.getElem?_eq_some_iff.mp hv).1
          obtain ⟨t, e⟩ := PyProof.Rows.IntsAre.int_at hit i v (by rw [Array.getElem?_toList]; exact hv)
          refine ⟨ns[i], t, List.getElem?_eq_getElem hi, ?_⟩
          rw [e, List.getD_eq_getElem?_getD, List.getElem?_eq_getElem hi] <;> rfl
        refine set_update_ints ((Walks.list hh3 _ l hneI items).toS) s.heap.objs.size
          hSf ns hisz hb hval (items.size - 0) 0 _ (by omega) (Nat.zero_le _)
          ⟨⟨_, Heap.get?_push_size _ rfl, rfl, rfl⟩, (hl1.push _)⟩ ?hS0 ?hR
        case hS0 =>
          have hget : ((s.heap.push { cls := .type "set", dict := none, data := .set #[] 0 (.fresh 0 0 (!w.params.followText "set-order")) }).push { cls := .type "list_iterator", data := .fields #[.ref l, .int 0 0] }).get? s.heap.objs.size
              = some { cls := .type "set", dict := none, data := .set #[] 0 (.fresh 0 0 (!w.params.followText "set-order")) } := Heap.get?_push_of_some _ hS
          exact ⟨0, Nat.le_refl 0, setR_new_at hget⟩
        case hR =>
          intro s' c' hm hc' hS'
          obtain ⟨h', g2, d', tk', os'⟩ := s'
          have eg : g2 = s.gens := hm.gens
          have ed : d' = s.drawn := hm.drawn
          have eo : os' = s.os := hm.os
          subst eg; subst ed; subst eo
          show wpAny _ _ _ _ _ _
          refine wpAny_pure ?_
          show wpAny _ _ (ret Value.none) _ _ _
          rw [hisz] at hc'
          refine wpAny_pure ⟨rfl, h', tk', c', rfl, hS', hc', fun b o e => ?_⟩
          have hb0 : b < s.heap.objs.size := Heap.lt_size e
          have hb1 : b ≠ s.heap.objs.size := Nat.ne_of_lt hb0
          have hb2 : b ≠ (s.heap.push { cls := .type "set", dict := none, data := .set #[] 0 (.fresh 0 0 (!w.params.followText "set-order")) }).objs.size := by
            rw [Heap.size_push]; exact Nat.ne_of_lt (Nat.lt_succ_of_lt hb0)
          exact hm.heap b o (by simp only [List.mem_cons, List.mem_singleton, List.not_mem_nil, or_false, not_or]; exact ⟨hb1, hb2⟩) (Heap.get?_push_of_some _ (Heap.get?_push_of_some _ e))

      · cases r₂ with
        | error e => exact hr₂
        | ok fl₂ =>
          cases fl₂ with
          | ret r =>
            obtain ⟨rfl, h', tk, c', rfl, hS', hc', hk'⟩ := hr₂
            repeat (any_goals (first | assumption | wp_step))
            exact h _ _ _ hS' hc' hk'
          | _ => exact hr₂.elim
    | _ => exact hr.elim

end
end K29
namespace K29
open PySem PySem.Spec PyProof.Rows L2
open PySem.Sem (wp)
/-! ### sets of tuples off a list of any length, sets of ints off a list, sorted, sum, max of a tuple -/
section
variable {P : Program} {w : World} {A : Around} {E : Value → Shared → Prop} {s : Shared}
theorem collect_tupH {Q : List Value → Shared → Prop} (it : Addr) {o : Obj} {items : Array Value} {n : Nat} (ho : s.heap.get? it = some o) (hc : o.cls = .type "tuple") (hd : o.data = .seq items n)
    (hQ : Q items.toList { s with heap := (s.heap.push { cls := .type "list", data := .seq ([] : List Value).toArray }).update s.heap.objs.size (Obj.mapSeq (· ++ items)) }) (hsz : items.size ≤ sizeLine) :
    wpAny (model P w) A (collect (.ref it)) Q E s := by
  unfold collect
  refine wpAny_bind (wpAny_runValue (codeAny_builtin PySem.F.entry_proto_collect ?_))
  rw [Around.under_plainId PySem.F.plain_proto_collect _]
  show wpAny _ A.in1 (newList [] >>= fun l => again (.builtin "list.__iadd__" ⟨[l, .ref it], []⟩)) _ _ s
  refine wpAny_bind (wpAny_newObj_type ?_)
  refine wpAny_pure ⟨plainId_quiet PySem.F.plain_list_iadd _, codeAny_builtin PySem.F.entry_list_iadd ?_⟩
  rw [Around.under_plainId PySem.F.plain_list_iadd _]
  show wpAny _ A.in1 (Builtin.List.listExtendWith (.ref s.heap.objs.size) (.ref it) (.ref s.heap.objs.size)) _ _ _
  have hS : (s.heap.push { cls := .type "list", data := .seq ([] : List Value).toArray }).get? s.heap.objs.size = some { cls := .type "list", data := .seq #[] 0 } := Heap.get?_push_size _ rfl
  have hS₂ := Heap.get?_update_self (Obj.mapSeq (· ++ items)) hS rfl
  have fin' : wpAny (model P w) A (match Value.ref s.heap.objs.size with
      | Value.ref a => do
        match (← load a).data with
          | Data.seq xs _ => pure xs.toList
          | _ => unsupported "internal:collect"
      | _ => unsupported "internal:collect") Q E { s with heap := (s.heap.push { cls := .type "list", data := .seq ([] : List Value).toArray }).update s.heap.objs.size (Obj.mapSeq (· ++ items)) } := by
    show wpAny _ A (load s.heap.objs.size >>= _) _ _ _
    refine wpAny_bind (wpAny_load hS₂ ?_)
    refine wpAny_pure ?_
    have e : ((#[] : Array Value) ++ items).toList = items.toList := by simp
    show Q ((#[] : Array Value) ++ items).toList _
    rw [e]
    exact hQ
  refine wpAny_mono (wpAny_extend_seq (hsz := hsz) (A := A) (R := fun r s' => r = .ok (.ret (.ref s.heap.objs.size)) ∧ s' = { s with heap := (s.heap.push { cls := .type "list", data := .seq ([] : List Value).toArray }).update s.heap.objs.size (Obj.mapSeq (· ++ items)) })
    (s := { s with heap := s.heap.push { cls := .type "list", data := .seq ([] : List Value).toArray } }) _ it _ 0 (.inr rfl) hS (Heap.get?_push_of_some _ ho) hc hd ⟨rfl, rfl⟩) (fun fin s' h => ?_) (fun e s' h => ?_)
  · cases fin with
    | done f =>
      obtain ⟨e, rfl⟩ := h
      cases e
      exact fin'
    | again c' => exact ⟨h.1, codeAny_mono h.2 fun r s'' hr => by obtain ⟨rfl, rfl⟩ := hr; exact fin'⟩
  · exact absurd h.1 (by simp)
theorem sorted_tupI {l : Addr} {items : Array Value} {ns : List Int} {Q : Value → Shared → Prop} (hl : s.heap.IsTuple l items) (hI : IntsAre items.toList ns) (h64 : items.size < 64)
    (hQ : ∀ (h' : Heap) p (out : Array Value) (c : Nat) (ns' : List Int), (∀ b o, s.heap.get? b = some o → h'.get? b = some o) → s.heap.objs.size ≤ p →
      h'.get? p = some (seqObj "list" out c) → IntsAre out.toList ns' → ns'.Perm ns → ns'.Pairwise (· ≤ ·) → Q (.ref p) { s with heap := h' }) :
    wpAny (model P w) A (call (.builtin "sorted") [.ref l]) Q E s := by
  obtain ⟨o, ho, hc, n, hd⟩ := id hl
  refine Calls.call_function_entry kind_sorted plain_sorted entry_sorted (args_sorted1 _) ?_
  unfold Builtin.«sorted»
  refine wpAny_bind (m := checkCount "sorted" 1 1 _) (wpAny_pure ?_)
  refine wpAny_bind (collect_tupH l ho hc hd ?_ (by rw [sizeLine_eq]; omega))
  have hvl : items.toList.length < 64 := by rw [Array.length_toList]; exact h64
  obtain ⟨h1, eh1⟩ : ∃ h1, h1 = (s.heap.push { cls := .type "list", data := .seq ([] : List Value).toArray }).update s.heap.objs.size (Obj.mapSeq (· ++ items)) := ⟨_, rfl⟩
  have hz : s.heap.objs.size ≤ h1.objs.size := by
    rw [eh1, Heap.size_update, Heap.size_push]
    exact Nat.le_succ _
  have k1 : ∀ b o, s.heap.get? b = some o → h1.get? b = some o := fun b o' hb => by
    rw [eh1]
    exact (Heap.get?_update_other _ _ (Nat.ne_of_gt (Heap.lt_size hb))).trans (Heap.get?_push_of_some _ hb)
  rw [← eh1]
  refine wpAny_bind (wpAny_newList ?_ (by rw [sizeLine_eq]; omega))
  have hoL : (h1.push (seqObj "list" items.toList.toArray 0)).get? h1.objs.size = some (seqObj "list" items.toList.toArray 0) := Heap.get?_push_size _ rfl
  refine wpAny_bind (wpAny_holding (wpAny_call_entry slot_list_sort ⟨_, hoL, rfl⟩ entry_list_sort (list_sort_tree hoL hI hvl fun out ns' a1 a2 a3 => ⟨_, rfl, ?_⟩) (args_list_sort _)))
  obtain ⟨c, hc⟩ := sortedHeap_at (vs := items.toList) (out := out) hoL
  refine wpAny_pure ⟨_, rfl, hQ _ h1.objs.size out c ns' (fun b u e => ?_) hz hc a1 a2 a3⟩
  have q := k1 b u e
  have hlt := Heap.lt_size q
  show (sortedHeap (h1.push (seqObj "list" items.toList.toArray 0)) h1.objs.size items.toList out).get? b = some u
  rw [sortedHeap_old (Nat.ne_of_lt hlt) (by rw [size_push']; exact Nat.lt_succ_of_lt hlt)]
  exact Heap.get?_push_of_some _ q
end
section
variable {X : Cx}
/-- set(xs), xs a list of tuples of ints, fewer than 63 different ones -/
def rSetOfTB (K : PySem.W.Frag) (P : Program) (w : World) : List V → Hp → VK → Prop := fun xs H Q => ∃ (l : Addr) (ks : List (Addr × List Int)), xs = [V.ref l] ∧ SqL K H l (ks.map fun p => V.ref p.1) ∧ (∀ p ∈ ks, SqT K H p.1 (p.2.map V.int)) ∧ (∀ L : List (Addr × List Int), (∀ p ∈ L, p ∈ ks) → (L.map (·.2)).Nodup → L.length + 1 < 64) ∧
  ∀ a L, H a = none → (∀ p ∈ L, p ∈ ks) → (∀ p ∈ ks, p.2 ∈ L.map (·.2)) → Q (.ref a) (upd H a (SetTO P w a L))
theorem cr_setOfTB (hc : X.calm = true) (hu : X.A.units + 64 < cLine) : CallR X (.type "set") (rSetOfTB X.K X.prog X.w) := by
  intro pins s σ H xs us Q I r h
  obtain ⟨l, ks, rfl, hl, hk, hf, q⟩ := h
  rw [Vals.ref1 r]
  obtain ⟨its, rv, pl, hz⟩ := I.list hl
  have hn : H s.heap.objs.size = none := I.hok.fresh (Nat.le_refl _)
  refine call_set_tupsB (P := X.prog) (w := X.w) ks (I.ok.hd hc) pl.isList (by simpa using refs_of_vals rv) (fun p hp => I.isT (hk p hp)) hf (by omega) fun h' tk L es ep t R g k => ?_
  refine ⟨.ref s.heap.objs.size, upd H s.heap.objs.size (SetTO X.prog X.w s.heap.objs.size L), I.laid (t' := tk) k (Nat.le_refl _) (setTO_new R.t0), rfl, q _ L hn (fun p hp => ?_) fun p hp => ?_⟩
  · exact List.mem_of_mem_take (g.sub p hp)
  · exact g.all p (by rw [List.take_length]; exact hp)
/-- set(xs), xs a list of a few ints -/
def rSetOfI (K : PySem.W.Frag) (w : World) : List V → Hp → VK → Prop := fun xs H Q => ∃ (l : Addr) (ns : List Int), xs = [V.ref l] ∧ SqL K H l (ns.map V.int) ∧ ns.length < 60 ∧ ∀ a c, H a = none → c ≤ ns.length → Q (.ref a) (upd H a (SetO w a (fun j => decide (j ∈ ns)) c))
theorem cr_setOfI (hc : X.calm = true) : CallR X (.type "set") (rSetOfI X.K X.w) := by
  intro pins s σ H xs us Q I r h
  obtain ⟨l, ns, rfl, hl, hf, q⟩ := h
  rw [Vals.ref1 r]
  obtain ⟨its, rv, pl, hz⟩ := I.list hl
  have hn : H s.heap.objs.size = none := I.hok.fresh (Nat.le_refl _)
  refine call_set_listI (P := X.prog) (w := X.w) ns (I.ok.hd hc) pl.isList (by simpa using rv.ints) (by unfold scanBound; omega) fun h' tk c R hc' k => ?_
  exact ⟨.ref s.heap.objs.size, upd H s.heap.objs.size (SetO X.w s.heap.objs.size (fun j => decide (j ∈ ns)) c), I.laid (t' := tk) k (Nat.le_refl _) (setO_new R), rfl, q _ c hn hc'⟩
def rSortedTI (K : PySem.W.Frag) : List V → Hp → VK → Prop := fun vs H Q => ∃ (a : Addr) (ns : List Int), vs = [V.ref a] ∧ SqT K H a (ns.map V.int) ∧ ns.length < 64 ∧
  ∀ (ns' : List Int) (p : Addr), ns'.Perm ns → ns'.Pairwise (· ≤ ·) → H p = none → Q (.ref p) (upd H p (.lst (ns'.map V.int)))
theorem cr_sortedTI : CallR X (.builtin "sorted") (rSortedTI X.K) := by
  intro pins s σ H vs us Q I r h
  obtain ⟨a, ns, rfl, hs, h64, q⟩ := h
  obtain ⟨its, rv, hl, _⟩ := I.tuple hs
  rw [Vals.ref1 r]
  have e1 := rv.length
  rw [List.length_map] at e1
  refine sorted_tupI (ns := ns) hl (by simpa using rv.ints) (by rw [List.size_toArray]; omega) fun h' p out c ns' k hp hg hi pm pw => ?_
  have hlen : (ns'.map V.int).length ≤ sizeLine := by rw [List.length_map, pm.length_eq]; exact small64 h64
  exact ⟨.ref p, upd H p (.lst (ns'.map V.int)), I.laid (t' := s.toks) k hp ⟨hlen, out.toList, c, vals_of_ints hi, hg⟩, rfl, q ns' _ pm pw (I.hok.fresh hp)⟩
def rSumTI (K : PySem.W.Frag) : List V → Hp → VK → Prop := fun vs H Q => ∃ (a : Addr) (ns : List Int), vs = [V.ref a] ∧ SqT K H a (ns.map V.int) ∧ ∀ m : Int, Q (.int m) H
theorem cr_sumTI (K : PySem.W.Frag) (hc : X.calm = true) (h : X.K = K := by rfl) : CallR X (.builtin "sum") (rSumTI K) := by
  subst h
  intro pins s σ H vs us Q I r h
  obtain ⟨a, ns, rfl, hs, q⟩ := h
  obtain ⟨its, rv, hl, _⟩ := I.tuple hs
  rw [Vals.ref1 r]
  obtain ⟨xs, e⟩ := (rv.ints).allInts.items
  have hl' : s.heap.IsTuple a (intItems xs) := by
    have hl2 : s.heap.IsTuple a its.toArray := hl
    rw [e] at hl2
    exact hl2
  exact PySem.W.ktm_sumG (I.ok.hd hc) hl' fun h' tk t' hk => ⟨.int _, H, I.kept hk, ⟨_, rfl⟩, q _⟩
theorem depth_ints : ∀ ns : List Int, PyData.depthAll (ns.map .int) ≤ 1
  | [] => by simp [PyData.depthAll]
  | n :: ns => by
    have := depth_ints ns
    simp [PyData.depthAll, PyData.depth]
    omega
def rMaxTI (K : PySem.W.Frag) : List V → Hp → VK → Prop := fun vs H Q => ∃ (a : Addr) (ns : List Int), vs = [V.ref a] ∧ SqT K H a (ns.map V.int) ∧ 1 ≤ ns.length ∧ ∀ m : Int, Q (.int m) H
theorem cr_maxTI (hc : X.calm = true) (hu : X.A.units + 64 < cLine) : CallR X (.builtin "max") (rMaxTI X.K) := by
  intro pins s σ H vs us Q I r h
  obtain ⟨a, ns, rfl, hs, h1, q⟩ := h
  obtain ⟨its, rv, hl, _⟩ := I.tuple hs
  rw [Vals.ref1 r]
  match ns, h1 with
  | n :: ns, _ =>
    obtain ⟨as, hr⟩ := Dp.readsAll I ((n :: ns).map .int) _ its (ints_dpAll _) rv
    have hd := depth_ints (n :: ns)
    refine PySem.W.max_tuple_data (xs := ns.map .int) (I.ok.hd hc) (show s.heap.IsTuple a its.toArray from hl) (by simpa using hr) ⟨fun x hx y hy => ?_, fun x hx => ?_⟩ (by rw [List.map_cons] at hd; omega) fun i v h' tk bs hv hrd hk => ?_
    · obtain ⟨i, _, rfl⟩ := List.mem_map.mp (show x ∈ (n :: ns).map .int from hx)
      obtain ⟨j, _, rfl⟩ := List.mem_map.mp (show y ∈ (n :: ns).map .int from hy)
      rfl
    · obtain ⟨i, _, rfl⟩ := List.mem_map.mp (show x ∈ (n :: ns).map .int from hx)
      intro z
      cases z
    · have hv' : its[i]? = some v := by simpa using hv
      obtain ⟨t, e⟩ := IntsAre.int_at (rv.ints) i v (by simpa using hv')
      subst e
      exact ⟨.int _, H, I.kept hk, ⟨_, rfl⟩, q _⟩
end
end K29
namespace K29
open PySem PySem.Spec PyProof.Rows L2
theorem getMapInt {ns : List Int} {i : Nat} {v : V} (h : (ns.map V.int)[i]? = some v) : ∃ n, ns[i]? = some n ∧ v = .int n := map_at h
theorem repl_snoc {α : Type} (n : Nat) (x : α) : List.replicate n x ++ [x] = List.replicate (n + 1) x := by
  rw [List.replicate_succ']
theorem all_true (n : Nat) : (List.replicate n true).all id = true := by
  induction n with
  | zero => rfl
  | succ n ih => rw [List.replicate_succ, List.all_cons, ih]; rfl
theorem map_true (n : Nat) : (List.replicate n true).map V.bl = List.replicate n (V.bl true) := by rw [List.map_replicate]
section
variable {P : Program} {w : World} {K : PySem.W.Frag} {mg : Str → Option Value} {base : Heap}
/-! ### a book's columns -/
theorem sc_check_columns : FnScope ["value", "many"] ["value"] (defScope s_check_columns) := ⟨rfl, rfl, rfl, by decide +kernel, rfl, by decide +kernel, by decide +kernel⟩
def ColsOk (ns : List Int) : Prop := 1 ≤ ns.length ∧ ns.length ≤ 4 ∧ ∀ n ∈ ns, 1 ≤ n ∧ n ≤ 4
def spCheckCols (K : PySem.W.Frag) : Sp := fun vs H Q _ => ∃ (a : Addr) (ns : List Int), vs = [.ref a] ∧ SqT K H a (ns.map V.int) ∧ ColsOk ns ∧ ∀ H', Same H H' → Q (.ref a) H'
theorem c_check_columns (T : Tx K mg) : Cal P w K mg base CX0 3 "check_columns" (spCheckCols K) := by
  refine cal0 T.f_check_columns T.g_check_columns sc_check_columns (fun _ _ _ _ _ _ us hl => match us, hl with | [_], _ => rfl) (fun vs H Q E h => ?_) (fun cdv A outer s H vs Q E hr h => ?_)
  · obtain ⟨a, ns, rfl, _⟩ := h
    rfl
  · obtain ⟨a, ns, rfl, hs, ⟨h1, h2, h3⟩, q⟩ := h
    have nd := sc_check_columns.nd
    refine ⟨_, (pss_cons (ps_if (PW.pt (pw_or (pt_not (pt_val (pe_cal (c_is_sequence T) hr (by decide) pass0 (pa_cons (pv 0) pa_nil)))) (pw_or1 (pt_not (pt_chain op_le op_le pe_int (pe_callB call_len_seq (by rfl) T.z_len PySem.boot_len (pa_cons (pv 0) pa_nil)) (pe_cst rfl T.i_MOST_COLUMNS))))))
      (pss_one ps_never)
      pss_nil)
    (pss_cons (ps_if (pt_not (pt_val (pe_callB (cr_all rfl) (by rfl) T.z_all boot_all (pa_cons (pe_lc (own := [("many", 1)]) rfl nd (pi_tup (pv 0)) (blkOk_by (by kernel_rfl)) (fun _ _ _ _ _ => (pg_name (i := 1) nd rfl (.inl rfl))) (fun _ _ _ _ _ => pts_nil) (fun _ _ _ _ _ => (pe_cal (c_is_within T) hr (by decide) pass0 (pa_cons (pv 1) (pa_cons pe_int (pa_cons (pe_cst rfl T.i_MOST_VALUES) pa_nil)))))) pa_nil))))
      (pss_one ps_never)
      pss_nil)
    (pss_one (ps_ret (pe_callTy call_tuple_of (by rfl) T.z_tuple PyProof.Rows.boot_tuple (pa_cons (pv 0) pa_nil)))))), ?_⟩
    refine ⟨_, rfl, .ref a, true, rfl, .inl ⟨rfl, a, _, rfl, .inr hs⟩, fun H1 s1 => ⟨true, rfl, iteF ?_⟩⟩
    have hs1 := same_t s1 hs
    refine ⟨_, rfl, a, _, rfl, .inr hs1, 1, _, rfl, rfl, _, rfl, ite2 (fun c => ?_) (fun c => (c (decide_eq_true (by rw [List.length_map]; omega))).elim)⟩
    refine ⟨_, _, rfl, rfl, _, rfl, ite2 (fun c => ?_) (fun _ => ?_)⟩
    · rw [decide_eq_true (show ((ns.map V.int).length : Int) ≤ 4 by rw [List.length_map]; omega)] at c
      cases c
    · refine ⟨_, rfl, a, rfl, ⟨_, hs1⟩, fun D nD => lc_pure (walk_tup (a := a) (xs := ns.map V.int)) nD (by rw [List.length_map]; omega) (fun i zs H => zs = List.replicate i (V.bl true)) (fun _ _ _ _ _ h => h) rfl (fun H s => same_t s hs1) ?_ ?_⟩
      · rintro i x H3 H4 zs post skip hi s3 hz ⟨rfl, hx⟩ hpost hskip
        obtain ⟨n, hn, rfl⟩ := getMapInt hx
        have hb := h3 n (List.mem_of_getElem? hn)
        refine ⟨rfl, _, rfl, n, 1, 4, rfl, ?_⟩
        rw [decide_eq_true (show 1 ≤ n ∧ n ≤ 4 from hb)]
        exact hpost _ _ (Same.refl _) (by rw [hz, repl_snoc])
      · rintro H3 zs s3 hD hz
        refine ⟨D, List.replicate (ns.map V.int).length true, rfl, ?_, ?_⟩
        · rw [map_true, ← hz]
          exact SqL.of hD
        · rw [all_true]
          refine ⟨true, rfl, iteF ?_⟩
          have s4 : Same H1 H3 := s3
          exact ⟨_, rfl, a, _, rfl, .inr ⟨same_t s4 hs1, q _ (s1.trans s4)⟩⟩
/-! ### a row's values -/
theorem sc_is_values : FnScope ["value", "many", "one", "most"] ["value", "many"] (defScope s_is_values) := ⟨rfl, rfl, rfl, by decide +kernel, rfl, by decide +kernel, by decide +kernel⟩
/-- each below its own -/
def Below (r ms : List Int) : Prop := r.length = ms.length ∧ ∀ (i : Nat) x m, r[i]? = some x → ms[i]? = some m → 0 ≤ x ∧ x < m
def spIsVals (K : PySem.W.Frag) : Sp := fun vs H Q _ => ∃ (a b : Addr) (r ms : List Int), vs = [.ref a, .ref b] ∧ SqT K H a (r.map V.int) ∧ SqL K H b (ms.map V.int) ∧ r.length ≤ 1000 ∧ Below r ms ∧ ∀ H', Same H H' → Q (.bl true) H'
theorem c_is_values (T : Tx K mg) : Cal P w K mg base CX0 4 "is_values" (spIsVals K) := by
  refine cal0 T.f_is_values T.g_is_values sc_is_values (fun _ _ _ _ _ _ us hl => match us, hl with | [_, _], _ => rfl) (fun vs H Q E h => ?_) (fun cdv A outer s H vs Q E hr h => ?_)
  · obtain ⟨a, b, r, ms, rfl, _⟩ := h
    rfl
  · obtain ⟨a, b, r, ms, rfl, hs, hm, hl, ⟨hl2, hb⟩, q⟩ := h
    have nd := sc_is_values.nd
    refine ⟨_, (pss_cons (ps_if (PW.pt (pw_or (pt_not (pt_val (pe_cal (c_is_sequence T) hr (by decide) pass0 (pa_cons (pv 0) pa_nil)))) (pw_or1 (pt_cmpR op_ne (pe_callB call_len_seq (by rfl) T.z_len PySem.boot_len (pa_cons (pv 0) pa_nil)) (pe_callB call_len_seq (by rfl) T.z_len PySem.boot_len (pa_cons (pv 1) pa_nil)) (nomark _)))))
      (pss_one (ps_ret pe_bl))
      pss_nil)
    (pss_one (ps_ret (pe_callB (cr_all rfl) (by rfl) T.z_all boot_all (pa_cons (pe_lc (own := [("one", 2), ("most", 3)]) rfl nd (pi_zipM (by rfl) T.z_zip (pa_cons (pv 0) (pa_cons (pv 1) pa_nil))) (blkOk_by (by kernel_rfl)) (fun _ _ _ _ _ => (kpg_tup K (n := 2) rfl (pgs_cons (pg_name (i := 2) nd rfl (.inl rfl)) (pgs_cons (pg_name (i := 3) nd rfl (.inl rfl)) pgs_nil)))) (fun _ _ _ _ _ => pts_nil) (fun _ _ _ _ _ => (pe_cal (c_is_below T) hr (by decide) pass0 (pa_cons (pv 2) (pa_cons (pv 3) pa_nil))))) pa_nil))))), ?_⟩
    refine ⟨_, rfl, .ref a, true, rfl, .inl ⟨rfl, a, _, rfl, .inr hs⟩, fun H1 s1 => ⟨true, rfl, iteF ?_⟩⟩
    have hs1 := same_t s1 hs
    have hm1 := same_l s1 hm
    refine ⟨_, rfl, a, _, rfl, .inr hs1, _, rfl, b, _, rfl, .inl hm1, rfl, ?_⟩
    refine ⟨_, rfl, ite2 (fun c => ?_) (fun _ => ?_)⟩
    · rw [List.length_map, List.length_map, hl2, decide_eq_true rfl] at c
      cases c
    · refine ⟨_, rfl, _, rfl, false, true, a, b, _, _, rfl, hs1, hm1, fun D nD => lc_pure (walk_zipM (l1 := false) (l2 := true) (a := a) (b := b) (xs := r.map V.int) (ys := ms.map V.int) (by rw [List.length_map, List.length_map, hl2])) nD (by rw [List.length_map]; omega) (fun i zs H => zs = List.replicate i (V.bl true)) (fun _ _ _ _ _ h => h) rfl (fun H s => ⟨same_t s hs1, same_l s hm1⟩) ?_ ?_⟩
      · rintro i x H3 H4 zs post skip hi s3 hz ⟨t, x1, x2, rfl, nT, rfl, hx, hy⟩ hpost hskip
        obtain ⟨n, hn, rfl⟩ := getMapInt hx
        obtain ⟨m, hm', rfl⟩ := getMapInt hy
        refine ⟨t, _, rfl, SqT.of upd_same, rfl, _, _, rfl, _, _, rfl, rfl, rfl, _, rfl, _, rfl, n, m, rfl, ?_⟩
        rw [decide_eq_true (hb i n m hn hm')]
        exact hpost _ _ (same_new nT) (by rw [hz, repl_snoc])
      · rintro H3 zs s3 hD hz
        refine ⟨D, List.replicate (r.map V.int).length true, rfl, ?_, ?_⟩
        · rw [map_true, ← hz]
          exact SqL.of hD
        · rw [all_true]
          exact q _ (s1.trans s3)
/-! ### a check -/
theorem sc_is_check : FnScope ["columns", "value", "places", "rows", "row", "place"] ["columns", "value"] (defScope s_is_check) := ⟨rfl, rfl, rfl, by decide +kernel, rfl, by decide +kernel, by decide +kernel⟩
/-- the columns at the places -/
def colsAt (cols places : List Int) : List Int := places.map fun p => cols.getD p.toNat 0
abbrev Chk := List Int × List (List Int)
def CheckOk (cols : List Int) (c : Chk) : Prop := 1 ≤ c.1.length ∧ c.1.length ≤ 3 ∧ (∀ p ∈ c.1, 0 ≤ p ∧ p < cols.length) ∧ c.2.length ≤ 1000 ∧ ∀ r ∈ c.2, Below r (colsAt cols c.1)
/-- a check as it lies: a tuple of the places and a tuple of the rows -/
structure ChkV (K : PySem.W.Frag) (H : Hp) (v : V) (c : Chk) : Prop where
  ex : ∃ a p q rs, v = .ref a ∧ SqT K H a [.ref p, .ref q] ∧ SqT K H p (c.1.map V.int) ∧ SqT K H q rs ∧ Rws H rs c.2
theorem ChkV.kp {H H' : Hp} {v : V} {c : Chk} (k : Kp H H') (h : ChkV K H v c) : ChkV K H' v c := by
  obtain ⟨a, p, q, rs, e, h1, h2, h3, h4⟩ := h.ex
  exact ⟨a, p, q, rs, e, kp_t k h1, kp_t k h2, kp_t k h3, h4.kp k⟩
theorem colsAt_get {cols places : List Int} {i : Nat} {p : Int} (h : places[i]? = some p) (h0 : 0 ≤ p) (h1 : p < cols.length) : ∃ c, cols[p.toNat]? = some c ∧ (colsAt cols places)[i]? = some c := by
  have hp : p.toNat < cols.length := by omega
  refine ⟨cols[p.toNat], List.getElem?_eq_getElem hp, ?_⟩
  unfold colsAt
  rw [List.getElem?_map, h, Option.map_some, List.getD_eq_getElem?_getD, List.getElem?_eq_getElem hp]
  rfl
theorem colsAt_len {cols places : List Int} : (colsAt cols places).length = places.length := by
  unfold colsAt
  rw [List.length_map]
def spIsCheck (K : PySem.W.Frag) : Sp := fun vs H Q _ => ∃ (a : Addr) (v : V) (cols : List Int) (c : Chk), vs = [.ref a, v] ∧ SqT K H a (cols.map V.int) ∧ ChkV K H v c ∧ CheckOk cols c ∧ ∀ H', Same H H' → Q (.bl true) H'
/-- [columns[place] for place in places] -/
theorem lc_cols {g : TG} {tt : TT} {te : TE} {vs : List Nat} {σ : L2.St} {H1 : Hp} {D a p : Addr} {Qd : Hp → Prop} {cols places : List Int} (nD : H1 D = none) (hc : SqT K H1 a (cols.map V.int)) (hp : SqT K H1 p (places.map V.int)) (h3 : places.length ≤ 1000) (hb : ∀ x ∈ places, 0 ≤ x ∧ x < (cols.length : Int))
    (turn : ∀ (i : Nat) (n : Int) (c : Int) (H : Hp) (post : V → Hp → Prop) (skip : Hp → Prop), places[i]? = some n → cols[n.toNat]? = some c → (n.toNat : Int) = n → Same H1 H → post (.int c) H → g (.int n) (wipe σ vs) H fun σ2 H2 => wipe σ2 vs = wipe σ vs ∧ tt σ2 H2 fun b H3 => if b = true then te σ2 H3 post else skip H3)
    (done : ∀ H, Same H1 H → H D = some (.lst ((colsAt cols places).map V.int)) → Qd H) :
    ∃ W : Nat → Nat → Hp → Prop, (∃ m, W 0 m (upd H1 D (.lst []))) ∧ ∀ i m H, W i m H →
      ((Itt K p).stop i H ∧ Qd H) ∨ ((Itt K p).go i H ∧ ∃ Nx : Hp → Prop, (∀ H', Nx H' → ∃ m', m' < m ∧ W (i + 1) m' H') ∧ ∀ x H', (Itt K p).yld i H x H' → g x (wipe σ vs) H' fun σ2 H2 => wipe σ2 vs = wipe σ vs ∧ tt σ2 H2 fun b H3 =>
        if b = true then te σ2 H3 fun y H4 => ∃ acc, H4 D = some (.lst acc) ∧ acc.length < sizeLine ∧ Nx (upd H4 D (.lst (acc ++ [y]))) else Nx H3) := by
  refine lc_pure (walk_tup (a := p) (xs := places.map V.int)) nD (by rw [List.length_map]; omega) (fun i zs H => zs = ((colsAt cols places).take i).map V.int) (fun _ _ _ _ _ h => h) (by simp) (fun H s => same_t s hp) ?_ ?_
  · rintro i x H H' zs post skip hi s hz ⟨rfl, hx⟩ hpost hskip
    obtain ⟨n, hn, rfl⟩ := getMapInt hx
    obtain ⟨h0, h1⟩ := hb n (List.mem_of_getElem? hn)
    obtain ⟨c, hc1, hc2⟩ := colsAt_get hn h0 h1
    refine turn i n c _ post skip hn hc1 (by omega) s (hpost _ _ (Same.refl _) ?_)
    rw [hz, List.take_add_one, hc2, List.map_append]
    rfl
  · intro H zs s hD hz
    refine done H s ?_
    rw [List.length_map, ← colsAt_len (cols := cols), List.take_length] at hz
    rw [hD, hz]
theorem c_is_check (T : Tx K mg) : Cal P w K mg base CX0 5 "is_check" (spIsCheck K) := by
  refine cal0 T.f_is_check T.g_is_check sc_is_check (fun _ _ _ _ _ _ us hl => match us, hl with | [_, _], _ => rfl) (fun vs H Q E h => ?_) (fun cdv A outer s H vs Q E hr h => ?_)
  · obtain ⟨a, v, cols, c, rfl, _⟩ := h
    rfl
  · obtain ⟨a, v, cols, c, rfl, hs, ⟨b, p, q, rs, rfl, hv, hp, hq, hr2⟩, ⟨h1, h2, h3, h4, h5⟩, fin⟩ := h
    have nd := sc_is_check.nd
    refine ⟨_, (pss_cons (ps_if (PW.pt (pw_or (pt_not (pt_val (pe_cal (c_is_sequence T) hr (by decide) pass0 (pa_cons (pv 1) pa_nil)))) (pw_or (pt_cmpR op_ne (pe_callB call_len_seq (by rfl) T.z_len PySem.boot_len (pa_cons (pv 1) pa_nil)) pe_int (nomark _)) (pw_or (pt_not (pt_val (pe_cal (c_is_sequence T) hr (by decide) pass0 (pa_cons (pe_ix ix_tup (pv 1) pe_int (fun _ _ => rfl)) pa_nil)))) (pw_or1 (pt_not (pt_val (pe_cal (c_is_sequence T) hr (by decide) pass0 (pa_cons (pe_ix ix_tup (pv 1) pe_int (fun _ _ => rfl)) pa_nil)))))))))
      (pss_one (ps_ret pe_bl))
      pss_nil)
    (pss_cons (ps_asg (pv 1) (pg_tup rfl (pgs_cons (pg_name (i := 2) nd rfl (.inr rfl)) (pgs_cons (pg_name (i := 3) nd rfl (.inl rfl)) pgs_nil))))
    (pss_cons (ps_if (PW.pt (pw_or (pt_not (pt_chain op_le op_le pe_int (pe_callB call_len_seq (by rfl) T.z_len PySem.boot_len (pa_cons (pv 2) pa_nil)) (pe_cst rfl T.i_MOST_PLACES))) (pw_or1 (pt_not (pt_val (pe_callB (cr_all rfl) (by rfl) T.z_all boot_all (pa_cons (pe_lc (own := [("place", 5)]) rfl nd (pi_tup (pv 2)) (blkOk_by (by kernel_rfl)) (fun _ _ _ _ _ => (pg_name (i := 5) nd rfl (.inl rfl))) (fun _ _ _ _ _ => pts_nil) (fun _ _ _ _ _ => (pe_cal (c_is_below T) hr (by decide) pass0 (pa_cons (pv 5) (pa_cons (pe_callB (kcall_len_seq K) (by rfl) T.z_len PySem.boot_len (pa_cons (pv 0) pa_nil)) pa_nil))))) pa_nil)))))))
      (pss_one (ps_ret pe_bl))
      pss_nil)
    (pss_one (ps_ret (pe_callB (cr_all rfl) (by rfl) T.z_all boot_all (pa_cons (pe_lc (own := [("row", 4)]) rfl nd (pi_tup (pv 3)) (blkOk_by (by kernel_rfl)) (fun _ _ _ _ _ => (pg_name (i := 4) nd rfl (.inl rfl))) (fun _ _ _ _ _ => pts_nil) (fun _ _ _ _ _ => (pe_cal (c_is_values T) hr (by decide) pass0 (pa_cons (pv 4) (pa_cons (pe_lc (own := [("place", 5)]) rfl nd (kpi_tup K (pv 2)) (blkOk_by (by kernel_rfl)) (fun _ _ _ _ _ => (pg_name (i := 5) nd rfl (.inl rfl))) (fun _ _ _ _ _ => pts_nil) (fun _ _ _ _ _ => (pe_ix (kix_tup K) (pv 0) (pv 5) (fun _ _ => rfl)))) pa_nil))))) pa_nil))))))), ?_⟩
    refine ⟨_, rfl, _, true, rfl, .inl ⟨rfl, b, _, rfl, .inr hv⟩, fun H1 s1 => ⟨true, rfl, iteF ?_⟩⟩
    have hv1 := same_t s1 hv
    refine ⟨_, rfl, b, _, rfl, .inr hv1, rfl, _, rfl, iteF ?_⟩
    refine ⟨_, rfl, b, _, 0, .ref p, rfl, rfl, hv1, atI_nat (j := 0) rfl, _, true, rfl, .inl ⟨rfl, p, _, rfl, .inr (same_t s1 hp)⟩, fun H2 s2 => ⟨true, rfl, iteF ?_⟩⟩
    have hv2 := same_t s2 hv1
    refine ⟨_, rfl, b, _, 1, .ref q, rfl, rfl, hv2, atI_nat (j := 1) rfl, _, true, rfl, .inl ⟨rfl, q, _, rfl, .inr (same_t (s1.trans s2) hq)⟩, fun H3 s3 => ⟨true, rfl, iteF ?_⟩⟩
    have s03 := (s1.trans s2).trans s3
    refine ⟨_, rfl, b, _, rfl, same_t s03 hv, rfl, _, _, rfl, _, _, rfl, rfl, ?_⟩
    have hp3 := same_t s03 hp
    refine ⟨_, rfl, p, _, rfl, .inr hp3, 1, _, rfl, rfl, _, rfl, ite2 (fun c => ?_) (fun c => (c (decide_eq_true (by rw [List.length_map]; omega))).elim)⟩
    refine ⟨_, _, rfl, rfl, _, rfl, ite2 (fun c => ?_) (fun _ => ?_)⟩
    · rename_i cc _
      rw [decide_eq_true (show ((cc.1.map V.int).length : Int) ≤ 3 by rw [List.length_map]; omega)] at c
      cases c
    rename_i chk _
    refine ⟨_, rfl, p, rfl, ⟨_, hp3⟩, fun D nD => lc_pure (walk_tup (a := p) (xs := chk.1.map V.int)) nD (by rw [List.length_map]; omega) (fun i zs H => zs = List.replicate i (V.bl true)) (fun _ _ _ _ _ h => h) rfl (fun H s => same_t s hp3) ?_ ?_⟩
    · rintro i x H4 H5 zs post skip hi s4 hz ⟨rfl, hx⟩ hpost hskip
      obtain ⟨n, hn, rfl⟩ := getMapInt hx
      have hb := h3 n (List.mem_of_getElem? hn)
      refine ⟨rfl, _, rfl, _, rfl, a, _, rfl, .inr (same_t (s03.trans s4) hs), n, _, rfl, ?_⟩
      rw [List.length_map, decide_eq_true (show 0 ≤ n ∧ n < (cols.length : Int) from hb)]
      exact hpost _ _ (Same.refl _) (by rw [hz, repl_snoc])
    rintro H4 zs s4 hD hz
    refine ⟨D, List.replicate (chk.1.map V.int).length true, rfl, ?_, ?_⟩
    · rw [map_true, ← hz]
      exact SqL.of hD
    rw [all_true]
    refine ⟨true, rfl, iteF ?_⟩
    have s04 := s03.trans s4
    have hq4 := same_t s04 hq
    have hp4 := same_t s04 hp
    have hs4 := same_t s04 hs
    have hr4 := hr2.same s04
    refine ⟨_, rfl, q, rfl, ⟨_, hq4⟩, fun D2 nD2 => lc_pure (walk_tup (a := q) (xs := rs)) nD2 (by have := hr2.1; omega) (fun i zs H => zs = List.replicate i (V.bl true)) (fun _ _ _ _ _ h => h) rfl (fun H s => same_t s hq4) ?_ ?_⟩
    · rintro i x H5 H6 zs2 post skip hi s5 hz2 ⟨rfl, hx⟩ hpost hskip
      obtain ⟨r, hr1, hrw⟩ := (hr4.same s5).at hx
      obtain ⟨t, rfl, ht⟩ := hrw.sq (K := K)
      have hbl := h5 r (List.mem_of_getElem? hr1)
      refine ⟨rfl, _, rfl, _, rfl, p, rfl, ⟨_, same_t s5 hp4⟩, fun D3 nD3 => lc_cols (a := a) (cols := cols) (places := chk.1) nD3 (same_t s5 hs4) (same_t s5 hp4) (by omega) h3 ?_ ?_⟩
      · rintro j n c H7 post2 skip2 hj hc hn s7 hp2
        exact ⟨rfl, _, rfl, _, rfl, a, _, n, .int c, rfl, rfl, same_t s7 (same_t s5 hs4), atI_of (j := n.toNat) hn.symm (at_map hc), hp2⟩
      · intro H7 s7 hD3
        refine ⟨t, D3, r, colsAt cols chk.1, rfl, same_t s7 ht, SqL.of hD3, ?_, hbl, fun H8 s8 => ?_⟩
        · have := hbl.1
          rw [colsAt_len] at this
          omega
        · exact hpost _ _ (s7.trans s8) (by rw [hz2, repl_snoc])
    · rintro H5 zs2 s5 hD2 hz2
      refine ⟨D2, List.replicate rs.length true, rfl, ?_, ?_⟩
      · rw [map_true, ← hz2]
        exact SqL.of hD2
      rw [all_true]
      exact fin _ (s04.trans s5)
end
end K29
namespace K29
open PySem PySem.Spec PyProof.Rows L2
/-! ### rows told once, in order -/
def addN (L : List (List Int)) (r : List Int) : List (List Int) := if r ∈ L then L else L ++ [r]
def dd (rows : List (List Int)) : List (List Int) := rows.foldl addN []
theorem dd_take {rows : List (List Int)} {i : Nat} {r : List Int} (h : rows[i]? = some r) : dd (rows.take (i + 1)) = addN (dd (rows.take i)) r := foldl_take _ _ _ _ _ h
theorem mem_addN {L : List (List Int)} {r x : List Int} : x ∈ addN L r ↔ x ∈ L ∨ x = r := by
  unfold addN
  by_cases h : r ∈ L
  · rw [if_pos h]
    exact ⟨.inl, fun q => q.elim id fun e => e ▸ h⟩
  · rw [if_neg h, List.mem_append, List.mem_singleton]
theorem mem_foldN {x : List Int} : ∀ {rows L : List (List Int)}, x ∈ rows.foldl addN L ↔ x ∈ L ∨ x ∈ rows
  | [], L => by simp
  | r :: rows, L => by
    rw [List.foldl_cons, mem_foldN, mem_addN, List.mem_cons, or_assoc]
theorem mem_dd {rows : List (List Int)} {x : List Int} : x ∈ dd rows ↔ x ∈ rows := by
  unfold dd
  rw [mem_foldN]
  simp
theorem nodup_addN {L : List (List Int)} {r : List Int} (h : L.Nodup) : (addN L r).Nodup := by
  unfold addN
  by_cases hr : r ∈ L
  · rw [if_pos hr]
    exact h
  · rw [if_neg hr]
    exact List.nodup_append.mpr ⟨h, List.pairwise_singleton .., fun a ha b hb => by
      rw [List.mem_singleton.mp hb]
      exact fun e => hr (e ▸ ha)⟩
theorem nodup_foldN : ∀ {rows L : List (List Int)}, L.Nodup → (rows.foldl addN L).Nodup
  | [], _, h => h
  | r :: rows, L, h => by
    rw [List.foldl_cons]
    exact nodup_foldN (nodup_addN h)
theorem nodup_dd {rows : List (List Int)} : (dd rows).Nodup := nodup_foldN List.nodup_nil
theorem addN_len {L : List (List Int)} {r : List Int} : (addN L r).length ≤ L.length + 1 := by
  unfold addN
  split <;> simp
theorem foldN_len : ∀ {rows L : List (List Int)}, (rows.foldl addN L).length ≤ L.length + rows.length
  | [], L => by simp
  | r :: rows, L => by
    rw [List.foldl_cons, List.length_cons]
    have := foldN_len (rows := rows) (L := addN L r)
    have := addN_len (L := L) (r := r)
    omega
theorem dd_len {rows : List (List Int)} : (dd rows).length ≤ rows.length := by
  have := foldN_len (rows := rows) (L := [])
  simpa [dd] using this
/-- keys -/
def kI (r : List Int) : List L2.Key := r.map Sum.inl
theorem kI_map (r : List Int) : (kI r).map kV = r.map V.int := by
  unfold kI
  rw [List.map_map]
  rfl
theorem kI_inj {r q : List Int} (h : kI r = kI q) : r = q := by
  have e : (kI r).map (fun k => match k with | .inl i => i | .inr _ => 0) = (kI q).map (fun k => match k with | .inl i => i | .inr _ => 0) := by rw [h]
  unfold kI at e
  rw [List.map_map, List.map_map] at e
  have f : ((fun k : L2.Key => match k with | .inl i => i | .inr _ => (0 : Int)) ∘ Sum.inl) = id := rfl
  rw [f, List.map_id, List.map_id] at e
  exact e
def dkv (L : List (List Int)) : List (List L2.Key × V) := L.map fun r => (kI r, V.bl true)
theorem putK_dkv (L : List (List Int)) (r : List Int) : putK (dkv L) (kI r) (V.bl true) = dkv (addN L r) := by
  unfold putK addN
  by_cases h : r ∈ L
  · have e : (dkv L).any (fun kv => decide (kv.1 = kI r)) = true := by
      rw [List.any_eq_true]
      exact ⟨(kI r, V.bl true), List.mem_map.mpr ⟨r, h, rfl⟩, decide_eq_true rfl⟩
    rw [if_pos e, if_pos h]
    unfold dkv
    rw [List.map_map]
    refine List.map_congr_left fun q _ => ?_
    show (if kI q = kI r then (kI q, V.bl true) else (kI q, V.bl true)) = _
    split <;> rfl
  · have e : ¬ (dkv L).any (fun kv => decide (kv.1 = kI r)) = true := by
      rw [List.any_eq_true]
      rintro ⟨x, hx, ex⟩
      obtain ⟨q, hq, rfl⟩ := List.mem_map.mp hx
      have := kI_inj (of_decide_eq_true ex)
      exact h (this ▸ hq)
    rw [if_neg e, if_neg h]
    unfold dkv
    rw [List.map_append]
    rfl
theorem same_dT {H1 H : Hp} {D : Addr} {o : HO} (nD : H1 D = none) (s : Same H1 H) : Same H1 (upd H D o) := fun b u e => by
  rw [upd_ne (ne_of_none e nD)]
  exact s b u e
/-- {tuple(row): True for row in rows} -/
theorem dc_keys {J : It} {n : Nat} {G : Hp → Prop} {Y : Nat → Hp → V → Hp → Prop} (w : Walk J n G Y) {g : TG} {tt : TT} {tk tv : TE} {vs : List Nat} {σ : L2.St} {H1 : Hp} {D : Addr} {Qd : Hp → Prop} (nD : H1 D = none) (hG : ∀ H, Same H1 H → G H)
    (rows : List (List Int)) (hl : rows.length = n) (hn : n ≤ 100000)
    (turn : ∀ (i : Nat) (x : V) (H H' : Hp) (r : List Int) (post : V → V → Hp → Prop), Same H1 H → rows[i]? = some r → Y i H x H' → (∀ b H4, Same H H4 → H4 b = some (.tup (r.map V.int)) → post (.ref b) (.bl true) H4) →
      g x (wipe σ vs) H' fun σ2 H2 => wipe σ2 vs = wipe σ vs ∧ tt σ2 H2 fun b H3 => if b = true then tk σ2 H3 fun y H4 => tv σ2 H4 fun z H5 => post y z H5 else False)
    (mono : ∀ (x : V) (σ : L2.St) (H : Hp) (P P' : L2.St → Hp → Prop), (∀ a b, P a b → P' a b) → g x σ H P → g x σ H P') (monoT : ∀ (σ : L2.St) (H : Hp) (P P' : Bool → Hp → Prop), (∀ a b, P a b → P' a b) → tt σ H P → tt σ H P')
    (done : ∀ H, Same H1 H → H D = some (.dT (dkv (dd rows))) → Qd H) :
    ∃ W : Nat → Nat → Hp → Prop, (∃ m, W 0 m (upd H1 D (.dT []))) ∧ ∀ i m H, W i m H →
      (J.stop i H ∧ Qd H) ∨ (J.go i H ∧ ∃ Nx : Hp → Prop, (∀ H', Nx H' → ∃ m', m' < m ∧ W (i + 1) m' H') ∧ ∀ x H', J.yld i H x H' → g x (wipe σ vs) H' fun σ2 H2 => wipe σ2 vs = wipe σ vs ∧ tt σ2 H2 fun b H3 =>
        if b = true then tk σ2 H3 fun y H4 => tv σ2 H4 fun z H5 => ∃ kvs k b, y = .ref b ∧ H5 b = some (.tup (k.map kV)) ∧ H5 D = some (.dT kvs) ∧ kvs.length < sizeLine ∧ Nx (upd H5 D (.dT (putK kvs k z))) else Nx H3) := by
  refine ⟨fun i m H => m = n - i ∧ i ≤ n ∧ Same H1 H ∧ H D = some (.dT (dkv (dd (rows.take i)))), ⟨n, by omega, Nat.zero_le _, same_new nD, upd_same⟩, ?_⟩
  rintro i m H ⟨rfl, hi, s, e⟩
  by_cases hlt : i < n
  · refine .inr ⟨w.goes i H hlt (hG H s), fun H' => i + 1 ≤ n ∧ Same H1 H' ∧ H' D = some (.dT (dkv (dd (rows.take (i + 1))))), fun H' p' => ⟨n - (i + 1), by omega, rfl, p'⟩, fun x H' y => ?_⟩
    have hr : rows[i]? = some (rows[i]'(by omega)) := List.getElem?_eq_getElem (by omega)
    refine mono _ _ _ _ _ ?_ (turn i x H H' _ (fun y z H5 => ∃ kvs k b, y = .ref b ∧ H5 b = some (.tup (k.map kV)) ∧ H5 D = some (.dT kvs) ∧ kvs.length < sizeLine ∧ (i + 1 ≤ n ∧ Same H1 (upd H5 D (.dT (putK kvs k z))) ∧ (upd H5 D (.dT (putK kvs k z))) D = some (.dT (dkv (dd (rows.take (i + 1))))))) s hr (w.yields i H x H' hlt (hG H s) y) fun b H4 s4 hb => ?_)
    · rintro σ2 H2 ⟨q1, q2⟩
      refine ⟨q1, monoT _ _ _ _ ?_ q2⟩
      intro b H3 q3
      cases b with
      | true =>
        rw [if_pos rfl] at q3 ⊢
        exact q3
      | false =>
        rw [if_neg Bool.false_ne_true] at q3
        exact q3.elim
    · refine ⟨_, kI rows[i], b, rfl, by rw [kI_map]; exact hb, s4 _ _ e, ?_, hlt, same_dT nD (s.trans s4), ?_⟩
      · unfold dkv
        rw [List.length_map]
        have := dd_len (rows := rows.take i)
        rw [List.length_take] at this
        exact ltLine (by omega)
      · rw [upd_same, dd_take hr, putK_dkv]
  · have ei : i = n := by omega
    subst ei
    rw [← hl, List.take_length] at e
    exact .inl ⟨w.stops H (hG H s), done H s e⟩
/-! ### in order -/
theorem code_inj {B : Int} : ∀ {r q : List Int}, r.length = q.length → TS.Bd B r → TS.Bd B q → TS.code B r = TS.code B q → r = q
  | [], [], _, _, _, _ => rfl
  | [], _ :: _, h, _, _, _ => by simp at h
  | _ :: _, [], h, _, _, _ => by simp at h
  | x :: r, y :: q, h, hr, hq, e => by
    have hl : r.length = q.length := by simpa using h
    rcases Int.lt_trichotomy x y with c | c | c
    · have := TS.code_lt hl hr.tail hq.tail c
      omega
    · subst c
      have a : ¬ TS.code B r < TS.code B q := fun z => by
        have := (TS.code_same (d := x) hl).mpr z
        omega
      have b : ¬ TS.code B q < TS.code B r := fun z => by
        have := (TS.code_same (d := x) hl.symm).mpr z
        omega
      rw [code_inj hl hr.tail hq.tail (by omega)]
    · have := TS.code_lt hl.symm hq.tail hr.tail c
      omega
/-- strictly in order -/
def Asc (L : List (List Int)) : Prop := L.Pairwise fun r q => TS.code 64 r < TS.code 64 q
theorem rowsAsc_unique : ∀ {L M : List (List Int)}, Asc L → Asc M → (∀ r, r ∈ L ↔ r ∈ M) → L = M
  | [], [], _, _, _ => rfl
  | [], y :: M, _, _, h => by
    have := (h y).mpr (List.mem_cons_self ..)
    cases this
  | x :: L, [], _, _, h => by
    have := (h x).mp (List.mem_cons_self ..)
    cases this
  | x :: L, y :: M, hL, hM, h => by
    have k1 := List.pairwise_cons.mp hL
    have k2 := List.pairwise_cons.mp hM
    have e : x = y := by
      rcases List.mem_cons.mp ((h x).mp (List.mem_cons_self ..)) with a | a
      · exact a
      · rcases List.mem_cons.mp ((h y).mpr (List.mem_cons_self ..)) with b | b
        · exact b.symm
        · have := k1.1 y b
          have := k2.1 x a
          omega
    subst e
    rw [rowsAsc_unique k1.2 k2.2 fun r => ?_]
    have hx1 : x ∉ L := fun z => by
      have := k1.1 x z
      omega
    have hx2 : x ∉ M := fun z => by
      have := k2.1 x z
      omega
    constructor
    · intro q
      rcases List.mem_cons.mp ((h r).mp (List.mem_cons_of_mem _ q)) with a | a
      · exact absurd (a ▸ q) hx1
      · exact a
    · intro q
      rcases List.mem_cons.mp ((h r).mpr (List.mem_cons_of_mem _ q)) with a | a
      · exact absurd (a ▸ q) hx2
      · exact a
theorem asc_of {d : Nat} {L : List (List Int)} (hn : L.Nodup) (hb : ∀ r ∈ L, r.length = d ∧ TS.Bd 64 r) (h : L.Pairwise fun r q => TS.code 64 r ≤ TS.code 64 q) : Asc L := by
  unfold Asc
  refine List.Pairwise.imp_of_mem (fun {r q} hr hq e => ?_) (h.and hn)
  obtain ⟨a, b⟩ := hb r hr
  obtain ⟨a', b'⟩ := hb q hq
  have : TS.code 64 r ≠ TS.code 64 q := fun z => e.2 (code_inj (by omega) b b' z)
  have := e.1
  omega
/-! ### the row at a thing -/
def toI : V → Int
  | .int i => i
  | _ => 0
def rowOf (H : Hp) : V → List Int
  | .ref a => match H a with
    | some (.tup vs) => vs.map toI
    | _ => []
  | _ => []
theorem rowOf_rw {H : Hp} {v : V} {r : List Int} (h : Rw H v r) : rowOf H v = r := by
  obtain ⟨a, rfl, e⟩ := h
  have e2 : rowOf H (.ref a) = (r.map V.int).map toI := by
    unfold rowOf
    dsimp only
    rw [e]
  rw [e2]
  rw [List.map_map]
  exact List.map_id'' (fun _ => rfl) r
theorem rws_rowOf {H : Hp} {vs : List V} {rows : List (List Int)} (h : Rws H vs rows) : rows = vs.map (rowOf H) := by
  refine List.ext_getElem (by rw [List.length_map, h.1]) fun i h1 h2 => ?_
  have hi : i < vs.length := by rw [h.1]; exact h1
  rw [List.getElem_map]
  exact (rowOf_rw (h.2 i _ _ (List.getElem?_eq_getElem hi) (List.getElem?_eq_getElem h1))).symm
theorem rws_mem {H : Hp} {vs : List V} {rows : List (List Int)} {v : V} (h : Rws H vs rows) (hv : v ∈ vs) : ∃ r ∈ rows, Rw H v r := by
  obtain ⟨i, hi⟩ := List.mem_iff_getElem?.mp hv
  obtain ⟨r, h1, h2⟩ := h.at hi
  exact ⟨r, List.mem_of_getElem? h1, h2⟩
theorem rws_perm {H : Hp} {vs ys : List V} {rows : List (List Int)} (h : Rws H vs rows) (p : ys.Perm vs) : Rws H ys (ys.map (rowOf H)) ∧ (ys.map (rowOf H)).Perm rows := by
  refine ⟨⟨by rw [List.length_map], fun i v r a b => ?_⟩, ?_⟩
  · obtain ⟨u, hu, rfl⟩ := map_at b
    rw [a] at hu
    cases hu
    obtain ⟨r, _, hr⟩ := rws_mem h (p.mem_iff.mp (List.mem_of_getElem? a))
    rw [rowOf_rw hr]
    exact hr
  · have := p.map (rowOf H)
    rw [← rws_rowOf h] at this
    exact this
theorem keys_rws {H : Hp} : ∀ {L : List (List Int)} {bs : List Addr}, IsKeys H (dkv L) bs → Rws H (bs.map V.ref) L
  | [], bs, h => by
    cases h
    exact Rws.nil
  | r :: L, bs, h => by
    cases h with
    | cons h1 h2 =>
      have a : Rw H (.ref _) r := ⟨_, rfl, by rw [← kI_map]; exact h1⟩
      exact (Rws.one a).app (keys_rws h2)
end K29
namespace K29
open PySem PySem.Spec PyProof.Rows L2
section
variable {P : Program} {w : World} {K : PySem.W.Frag} {mg : Str → Option Value} {base : Heap}
theorem sc_told_check : FnScope ["value", "rows", "row"] ["value"] (defScope s_told_check) := ⟨rfl, rfl, rfl, by decide +kernel, rfl, by decide +kernel, by decide +kernel⟩
def RowsOk (d : Nat) (rows : List (List Int)) : Prop := rows.length < 64 ∧ ∀ r ∈ rows, r.length = d ∧ TS.Bd 64 r
def spTold (K : PySem.W.Frag) : Sp := fun vs H Q _ => ∃ (v : V) (c : Chk), vs = [v] ∧ ChkV K H v c ∧ 1 ≤ c.1.length ∧ RowsOk c.1.length c.2 ∧
  ∀ H' v' L, Same H H' → ChkV K H' v' (c.1, L) → Asc L → (∀ r, r ∈ L ↔ r ∈ c.2) → Q v' H'
theorem c_told_check (T : Tx K mg) : Cal P w K mg base CX0 1 "told_check" (spTold K) := by
  refine cal0 T.f_told_check T.g_told_check sc_told_check (fun _ _ _ _ _ _ us hl => match us, hl with | [_], _ => rfl) (fun vs H Q E h => ?_) (fun cdv A outer s H vs Q E hr h => ?_)
  · obtain ⟨v, c, rfl, _⟩ := h
    rfl
  · obtain ⟨v, c, rfl, ⟨a, p, q, rs, rfl, hv, hp, hq, hrw⟩, hd, ⟨hr1, hr2⟩, fin⟩ := h
    have nd := sc_told_check.nd
    have hu := hu_of hr
    refine ⟨_, (pss_cons (ps_setDcT (i := 1) hu (own := [("row", 2)]) rfl nd rfl rfl (sw_trueD rfl rfl (by decide) (by decide)) (pi_tup (pe_ix ix_tup (pv 0) pe_int (fun _ _ => rfl))) (blkOk_by (by kernel_rfl)) (fun _ _ _ _ _ => (pg_name (i := 2) nd rfl (.inl rfl))) (fun _ _ _ _ _ => pts_nil) (fun _ _ _ _ _ => (pe_callTy (kcall_tuple_of K) (by rfl) T.z_tuple PyProof.Rows.boot_tuple (pa_cons (pv 2) pa_nil))) (fun _ _ _ _ _ => pe_bl))
    (pss_one (ps_ret (pe_tup (pa_cons (pe_callTy call_tuple_of (by rfl) T.z_tuple PyProof.Rows.boot_tuple (pa_cons (pe_ix ix_tup (pv 0) pe_int (fun _ _ => rfl)) pa_nil)) (pa_cons (pe_callTy call_tuple_of (by rfl) T.z_tuple PyProof.Rows.boot_tuple (pa_cons (pe_callB (cr_sortT (d := c.1.length) (B := 64) hd) (by rfl) T.z_sorted PyProof.Rows.boot_sorted (pa_cons (pe_callTy (call_list_dT rfl) (by rfl) T.z_list PyProof.Rows.boot_list (pa_cons (pv 1) pa_nil)) pa_nil)) pa_nil)) pa_nil)))))), ?_⟩
    refine ⟨_, rfl, a, _, 1, .ref q, rfl, rfl, hv, atI_nat (j := 1) rfl, q, rfl, ⟨_, hq⟩, fun D nD => dc_keys (walk_tup (a := q) (xs := rs)) nD (fun H s => same_t s hq) c.2 hrw.1.symm (by have := hrw.1; omega) ?_ (fun x σ H P P' m h => m _ _ h) (fun σ H P P' m h => m _ _ h) ?_⟩
    · rintro i x H1 H2 r post s1 hr' ⟨rfl, hx⟩ hpost
      obtain ⟨b, rfl, hb⟩ := hrw.2 i x r hx hr'
      exact ⟨rfl, _, rfl, b, _, rfl, .inr ⟨same_t s1 (SqT.of hb), hpost b _ (Same.refl _) (s1 _ _ hb)⟩⟩
    · intro H1 s1 hD
      refine ⟨_, rfl, a, _, 0, .ref p, rfl, rfl, same_t s1 hv, atI_nat (j := 0) rfl, p, _, rfl, .inr ⟨same_t s1 hp, ?_⟩⟩
      refine ⟨_, rfl, D, _, rfl, Rd.of hD, fun l bs nl hk => ?_⟩
      have hk1 := keys_rws hk
      have s2 := same_new (o := .lst (bs.map V.ref)) nl
      have hk2 := hk1.same s2
      have hlen : (bs.map V.ref).length < 64 := by
        have := hk1.1
        have := dd_len (rows := c.2)
        omega
      refine ⟨l, _, rfl, SqL.of upd_same, hlen, fun x hx => ?_, fun ys l2 pm pw nl2 => ?_⟩
      · obtain ⟨r, hr', b, rfl, hb⟩ := rws_mem hk2 hx
        obtain ⟨c1, c2⟩ := hr2 r (mem_dd.mp hr')
        exact ⟨r, ⟨b, rfl, SqT.of hb⟩, c1, c2⟩
      · obtain ⟨y1, y2⟩ := rws_perm hk2 pm
        have s3 := same_new (o := .lst ys) nl2
        refine ⟨l2, _, rfl, .inl ⟨SqL.of upd_same, fun t nt => ⟨(by show 2 ≤ sizeLine; decide), fun u nu => ?_⟩⟩⟩
        have s4 := same_new (o := .tup ys) nt
        have s5 := same_new (o := .tup [.ref p, .ref t]) nu
        have ntu : t ≠ u := fun z => by
          rw [← z, upd_same] at nu
          cases nu
        have hb : ∀ r ∈ ys.map (rowOf (upd H1 l (.lst (bs.map V.ref)))), r.length = c.1.length ∧ TS.Bd 64 r := fun r hr' => hr2 r (mem_dd.mp (y2.mem_iff.mp hr'))
        refine fin _ _ (ys.map (rowOf (upd H1 l (.lst (bs.map V.ref))))) (s1.trans (s2.trans (s3.trans (s4.trans s5)))) ⟨u, p, t, ys, rfl, SqT.of upd_same, same_t (s1.trans (s2.trans (s3.trans (s4.trans s5)))) hp, SqT.of (by rw [upd_ne ntu, upd_same]), y1.same (s3.trans (s4.trans s5))⟩ (asc_of (y2.nodup_iff.mpr nodup_dd) hb ?_) fun r => ?_
        · rw [List.pairwise_map]
          refine List.Pairwise.imp_of_mem (fun {x y} hx hy h => ?_) pw
          obtain ⟨r, _, hrx⟩ := rws_mem y1 hx
          obtain ⟨r', _, hry⟩ := rws_mem y1 hy
          rw [rowOf_rw hrx, rowOf_rw hry]
          obtain ⟨b, e, hb'⟩ := hrx
          obtain ⟨b2, e2, hb2'⟩ := hry
          exact h r r' ⟨b, e, SqT.of hb'⟩ ⟨b2, e2, SqT.of hb2'⟩
        · rw [y2.mem_iff, mem_dd]
end
end K29
namespace K29
open PySem PySem.Spec PyProof.Rows L2
/-! ### a rule in two ways -/
theorem pi_or {X : Cx} {tg l : Expr} {w1 w2 : TI} (h1 : PI X tg l w1) (h2 : PI X tg l w2) : PI X tg l (fun σ H R => w1 σ H R ∨ w2 σ H R) := ⟨fun pins s σ H R I h => h.elim (h1.run pins s σ H R I) (h2.run pins s σ H R I)⟩
theorem pe_or2 {X : Cx} {e : Expr} {t1 t2 : TE} (h1 : PE X e t1) (h2 : PE X e t2) : PE X e (fun σ H Q => t1 σ H Q ∨ t2 σ H Q) := ⟨fun pins s σ H Q I h => h.elim (h1.run pins s σ H Q I) (h2.run pins s σ H Q I)⟩
theorem sqx_or {K : PySem.W.Frag} {l : Bool} {H : Hp} {a : Addr} {xs : List V} (h : SqX K l H a xs) : SqL K H a xs ∨ SqT K H a xs := by
  cases l with
  | true => exact .inl h
  | false => exact .inr h
theorem SqX.seq {K : PySem.W.Frag} {l : Bool} {H : Hp} {a : Addr} {xs : List V} (h : SqX K l H a xs) (hl : l = true → ∃ ys, H a = some (.lst ys)) : IsSeq K H (.ref a) true := by
  cases l with
  | true =>
    obtain ⟨ys, h⟩ := hl rfl
    exact .inl ⟨rfl, a, ys, rfl, .inl h⟩
  | false => exact .inl ⟨rfl, a, xs, rfl, .inr h⟩
/-- a tracked list, or a tuple -/
def LX (K : PySem.W.Frag) (l : Bool) (H : Hp) (a : Addr) (xs : List V) : Prop := (l = true ∧ H a = some (.lst xs)) ∨ (l = false ∧ SqT K H a xs)
theorem LX.sq {K : PySem.W.Frag} {l : Bool} {H : Hp} {a : Addr} {xs : List V} (h : LX K l H a xs) : SqX K l H a xs := by
  rcases h with ⟨rfl, h⟩ | ⟨rfl, h⟩
  · exact SqL.of h
  · exact h
theorem LX.isSeq {K : PySem.W.Frag} {l : Bool} {H : Hp} {a : Addr} {xs : List V} (h : LX K l H a xs) : IsSeq K H (.ref a) true := by
  rcases h with ⟨rfl, h⟩ | ⟨rfl, h⟩
  · exact .inl ⟨rfl, a, xs, rfl, .inl h⟩
  · exact .inl ⟨rfl, a, xs, rfl, .inr h⟩
theorem LX.gr {K : PySem.W.Frag} {l : Bool} {H H' : Hp} {a : Addr} {xs : List V} (e : Same H H') (h : LX K l H a xs) : LX K l H' a xs := by
  rcases h with ⟨rfl, h⟩ | ⟨rfl, h⟩
  · exact .inl ⟨rfl, e _ _ h⟩
  · exact .inr ⟨rfl, same_t e h⟩
theorem sqt_gr {K : PySem.W.Frag} {x : Addr} {H H' : Hp} {a : Addr} {xs : List V} {C dx : Addr} {fs : List (Str × V)} (hx : H x = some (.ins C dx fs)) (g : Gr x H H') (h : SqT K H a xs) : SqT K H' a xs := by
  rcases h with (h | ⟨o, h⟩) | h
  · exact .inl (.inl (g _ _ (ne_of h hx (by intro z; cases z)) h))
  · exact .inl (.inr ⟨o, g _ _ (ne_of h hx (by intro z; cases z)) h⟩)
  · exact .inr h
theorem LX.ins {K : PySem.W.Frag} {l : Bool} {x : Addr} {H H' : Hp} {a : Addr} {xs : List V} {C dx : Addr} {fs : List (Str × V)} (hx : H x = some (.ins C dx fs)) (g : Gr x H H') (h : LX K l H a xs) : LX K l H' a xs := by
  rcases h with ⟨rfl, h⟩ | ⟨rfl, h⟩
  · exact .inl ⟨rfl, g _ _ (ne_of h hx (by intro z; cases z)) h⟩
  · exact .inr ⟨rfl, sqt_gr hx g h⟩
theorem rws_ins {x : Addr} {H H' : Hp} {vs : List V} {rows : List (List Int)} {C dx : Addr} {fs : List (Str × V)} (hx : H x = some (.ins C dx fs)) (g : Gr x H H') (h : Rws H vs rows) : Rws H' vs rows := ⟨h.1, fun i v r a b => by
  obtain ⟨c, e, h⟩ := h.2 i v r a b
  exact ⟨c, e, g _ _ (ne_of h hx (by intro z; cases z)) h⟩⟩
theorem ChkV.ins {K : PySem.W.Frag} {x : Addr} {H H' : Hp} {v : V} {c : Chk} {C dx : Addr} {fs : List (Str × V)} (hx : H x = some (.ins C dx fs)) (g : Gr x H H') (h : ChkV K H v c) : ChkV K H' v c := by
  obtain ⟨a, p, q, rs, e, h1, h2, h3, h4⟩ := h.ex
  exact ⟨a, p, q, rs, e, sqt_gr hx g h1, sqt_gr hx g h2, sqt_gr hx g h3, rws_ins hx g h4⟩
def ChkVs (K : PySem.W.Frag) (H : Hp) (vs : List V) (cs : List Chk) : Prop := vs.length = cs.length ∧ ∀ (i : Nat) v c, vs[i]? = some v → cs[i]? = some c → ChkV K H v c
theorem ChkVs.kp {K : PySem.W.Frag} {H H' : Hp} {vs : List V} {cs : List Chk} (k : Kp H H') (h : ChkVs K H vs cs) : ChkVs K H' vs cs := ⟨h.1, fun i v c a b => (h.2 i v c a b).kp k⟩
theorem ChkVs.ins {K : PySem.W.Frag} {x : Addr} {H H' : Hp} {vs : List V} {cs : List Chk} {C dx : Addr} {fs : List (Str × V)} (hx : H x = some (.ins C dx fs)) (g : Gr x H H') (h : ChkVs K H vs cs) : ChkVs K H' vs cs := ⟨h.1, fun i v c a b => (h.2 i v c a b).ins hx g⟩
theorem ChkVs.at {K : PySem.W.Frag} {H : Hp} {vs : List V} {cs : List Chk} {i : Nat} {v : V} (h : ChkVs K H vs cs) (e : vs[i]? = some v) : ∃ c, cs[i]? = some c ∧ ChkV K H v c := by
  have hi := (List.getElem?_eq_some_iff.mp e).1
  have hj : i < cs.length := by rw [← h.1]; exact hi
  exact ⟨cs[i], List.getElem?_eq_getElem hj, h.2 i v _ e (List.getElem?_eq_getElem hj)⟩
theorem ChkVs.get {K : PySem.W.Frag} {H : Hp} {vs : List V} {cs : List Chk} {i : Nat} {c : Chk} (h : ChkVs K H vs cs) (e : cs[i]? = some c) : ∃ v, vs[i]? = some v ∧ ChkV K H v c := by
  have hi := (List.getElem?_eq_some_iff.mp e).1
  have hj : i < vs.length := by rw [h.1]; exact hi
  exact ⟨vs[i], List.getElem?_eq_getElem hj, h.2 i _ c (List.getElem?_eq_getElem hj) e⟩
theorem ChkVs.nil {K : PySem.W.Frag} {H : Hp} : ChkVs K H [] [] := ⟨rfl, fun i v c a => by simp at a⟩
theorem ChkVs.snoc {K : PySem.W.Frag} {H : Hp} {vs : List V} {cs : List Chk} {v : V} {c : Chk} (h : ChkVs K H vs cs) (hc : ChkV K H v c) : ChkVs K H (vs ++ [v]) (cs ++ [c]) := by
  refine ⟨by rw [List.length_append, List.length_append, h.1]; rfl, fun i u d a b => ?_⟩
  by_cases hi : i < vs.length
  · rw [List.getElem?_append_left hi] at a
    rw [List.getElem?_append_left (by rw [← h.1]; exact hi)] at b
    exact h.2 i u d a b
  · rw [List.getElem?_append_right (by omega)] at a
    rw [List.getElem?_append_right (by have := h.1; omega), ← h.1] at b
    match hk : i - vs.length with
    | 0 =>
      rw [hk] at a b
      cases a
      cases b
      exact hc
    | k + 1 =>
      rw [hk] at a
      simp at a
/-! ### a book -/
structure Bk where
  cols : List Int
  chks : List Chk
/-- what is told of a check: the places, the rows in order -/
def ToldOf (c c' : Chk) : Prop := c'.1 = c.1 ∧ Asc c'.2 ∧ ∀ r, r ∈ c'.2 ↔ r ∈ c.2
def ToldAll (cs cs' : List Chk) : Prop := cs'.length = cs.length ∧ ∀ (i : Nat) c c', cs[i]? = some c → cs'[i]? = some c' → ToldOf c c'
structure BookV (K : PySem.W.Frag) (H : Hp) (v : V) (b : Bk) : Prop where
  ex : ∃ a dx p q xs, v = .ref a ∧ H a = some (.ins (He.ga K "Book") dx [("columns", .ref p), ("checks", .ref q)]) ∧ SqT K H p (b.cols.map V.int) ∧ SqT K H q xs ∧ ChkVs K H xs b.chks
theorem BookV.kp {K : PySem.W.Frag} {H H' : Hp} {v : V} {b : Bk} (k : Kp H H') (h : BookV K H v b) : BookV K H' v b := by
  obtain ⟨a, dx, p, q, xs, e, h1, h2, h3, h4⟩ := h.ex
  exact ⟨a, dx, p, q, xs, e, k.ins _ _ _ _ h1, kp_t k h2, kp_t k h3, h4.kp k⟩
section
variable {P : Program} {w : World} {K : PySem.W.Frag} {mg : Str → Option Value} {base : Heap}
/-- a class that is made by its name -/
structure Mkn (P : Program) (w : World) (K : PySem.W.Frag) (mg : Str → Option Value) (base : Heap) (CX : CXT) (k : Nat) (x : Str) (C : Addr) (sp : Sp) (dvs : List V) : Prop where
  ex : ∃ (f : Addr) (fd : FuncData) (ps : List Str) (ds : List Value), Mk K C f ∧ FnOk P w K mg base CX k f fd ps sp ∧ mg x = some (.ref C) ∧ Binds K fd ps ds ∧ Vals dvs ds
theorem pe_mkn {X : Cx} {CX : CXT} {E : XK} {k j : Nat} {C : Addr} {x : Str} {sp : Sp} {dvs : List V} {p pos : Pos} {e : Expr} {es : List Expr} {t : TA} (c : Mkn X.prog X.w X.K X.mg X.base CX k x C sp dvs) (hr : Room j X.A) (hk : k + 1 ≤ j) (hx : Passes CX X E) (ha : PA X (e :: es) t) (hg : Gl X x := by rfl)
    (hdb : (x == ("__debug__" : Str)) = false := by decide) (he : starEach (e :: es) X.env = (false, eval e X.env) :: starEach es X.env := by rfl) (hpl : (backTo pos (starEach es X.env)).any (·.1) = false := by rfl) :
    PE X (.Call (.Name x p) (e :: es) [] pos) (tMake C sp dvs E t) := by
  obtain ⟨f, fd, ps, ds, M, F, hm, b, d⟩ := c.ex
  exact pe_make M F (hr.mono hk) hg hm b d hx ha hdb he hpl
theorem sc_Book_init : FnScope ["self", "columns", "checks", "at", "check"] ["self", "columns", "checks"] (defScope s_Book_init) := ⟨rfl, rfl, rfl, by decide +kernel, rfl, by decide +kernel, by decide +kernel⟩
def spBookI (K : PySem.W.Frag) : Sp := fun vs H Q _ => ∃ (x dx a k : Addr) (ns : List Int) (l : Bool) (xs : List V) (cs : List Chk), vs = [.ref x, .ref a, .ref k] ∧ H x = some (.ins (He.ga K "Book") dx []) ∧ SqT K H a (ns.map V.int) ∧ ColsOk ns ∧ LX K l H k xs ∧ ChkVs K H xs cs ∧ xs.length ≤ 6 ∧
  (∀ c ∈ cs, CheckOk ns c ∧ RowsOk c.1.length c.2) ∧ ∀ H' cs', Gr x H H' → BookV K H' (.ref x) ⟨ns, cs'⟩ → ToldAll cs cs' → Q .non H'
theorem told_snoc {cs cs' : List Chk} {i : Nat} {c c' : Chk} (hc : cs[i]? = some c) (h : ToldAll (cs.take i) cs') (t : ToldOf c c') : ToldAll (cs.take (i + 1)) (cs' ++ [c']) := by
  have hi := (List.getElem?_eq_some_iff.mp hc).1
  have hl := h.1
  rw [List.length_take] at hl
  refine ⟨by rw [List.length_append, List.length_take, List.length_singleton]; omega, fun j d d' a b => ?_⟩
  rw [List.getElem?_take] at a
  by_cases hj : j < i + 1
  · rw [if_pos hj] at a
    by_cases hji : j < i
    · rw [List.getElem?_append_left (by omega)] at b
      exact h.2 j d d' (by rw [List.getElem?_take, if_pos hji]; exact a) b
    · have : j = i := by omega
      subst this
      rw [hc] at a
      cases a
      rw [List.getElem?_append_right (by omega)] at b
      have : j - cs'.length = 0 := by omega
      rw [this] at b
      cases b
      exact t
  · rw [if_neg hj] at a
    cases a
theorem k_Book_init (T : Tx K mg) : ∃ (fd : FuncData), FunD K "__init__" "Book.__init__" (defArgs s_Book_init) (defBody s_Book_init) (defScope s_Book_init) [V.ref (He.dflAt ("Book", some "__init__") 0 K)] [] (He.ma K (He.ga K "Book") "__init__") fd ∧
    FnOk P w K mg base CX0 6 (He.ma K (He.ga K "Book") "__init__") fd ["self", "columns", "checks"] (spBookI K) := by
  obtain ⟨fd, FD⟩ := T.f_Book_init
  refine ⟨fd, FD, FD.ok (k := 5) sc_Book_init (fun vs H Q E h => ?_) fun cdv A outer s H vs Q E hr h => ?_⟩
  · obtain ⟨x, dx, a, k, ns, l, xs, cs, rfl, _⟩ := h
    rfl
  · obtain ⟨x, dx, a, k, ns, l, xs, cs, rfl, hx, ha, hns, hk, hcs, hl6, hok, fin⟩ := h
    have nd := sc_Book_init.nd
    suffices ∃ t, PSs (cxOf CX0 P w K mg base ["self", "columns", "checks", "at", "check"] "Book.__init__" (defScope s_Book_init) (He.ma K (He.ga K "Book") "__init__") cdv A outer s H E).nox (defBody s_Book_init) t ∧ t { nx := fun _ H' => Q .non H', rt := Q } (start ["self", "columns", "checks", "at", "check"] [.ref x, .ref a, .ref k]) H by
      obtain ⟨t, h1, h2⟩ := this
      exact ⟨t, h1.nox, h2⟩
    refine ⟨_, (pss_cons (ps_fld (pv 0) (pe_cal (c_check_columns T) hr (by decide) pass0 (pa_cons (pv 1) pa_nil)) rfl)
    (pss_cons (ps_if (PW.pt (pw_or (pt_not (pt_val (pe_cal (c_is_sequence T) hr (by decide) pass0 (pa_cons (pv 2) pa_nil)))) (pw_or1 (pt_cmpR op_gt (pe_callB call_len_seq (by rfl) T.z_len PySem.boot_len (pa_cons (pv 2) pa_nil)) (pe_cst rfl T.i_MOST_CHECKS) (nomark _)))))
      (pss_one ps_never)
      pss_nil)
    (pss_cons (ps_for PassesOwn.never rfl (pi_enumM (by rfl) T.z_enumerate (pa_cons (pv 2) pa_nil)) (pg_tup rfl (pgs_cons (pg_name (i := 3) nd rfl (.inl rfl)) (pgs_cons (pg_name (i := 4) nd rfl (.inl rfl)) pgs_nil)))
      (pss_one (ps_if (pt_not (pt_val (pe_cal (c_is_check T) hr (by decide) pass0 (pa_cons (pe_fld (pv 0) rfl) (pa_cons (pv 4) pa_nil)))))
        (pss_one ps_never)
        pss_nil)))
    (pss_one (ps_fld (pv 0) (pe_callTy call_tuple_of (by rfl) T.z_tuple PyProof.Rows.boot_tuple (pa_cons (pe_lc (own := [("check", 4)]) rfl nd (pi_or (pi_list (pv 2)) (pi_tup (pv 2))) (blkOk_by (by kernel_rfl)) (fun _ _ _ _ _ => (pg_name (i := 4) nd rfl (.inl rfl))) (fun _ _ _ _ _ => pts_nil) (fun _ _ _ _ _ => (pe_cal (c_told_check T) hr (by decide) pass0 (pa_cons (pv 4) pa_nil)))) pa_nil)) rfl))))), ?_⟩
    have nt : ∀ {b : Addr} {ys : List V}, H b = some (.tup ys) → b ≠ x := fun e => ne_of e hx (by intro z; cases z)
    -- self.columns = check_columns(columns)
    refine ⟨_, rfl, a, ns, rfl, ha, hns, fun H1 s1 => ⟨_, rfl, x, _, dx, _, rfl, s1 _ _ hx, T.c_Book, T.n_Book_columns, by decide, ?_⟩⟩
    have g2 : Gr x H (upd H1 x (.ins (He.ga K "Book") dx (putF "columns" (.ref a) []))) := (Gr.of s1).trans (fun b o n e => by rw [upd_ne n]; exact e)
    have hx2 : (upd H1 x (.ins (He.ga K "Book") dx (putF "columns" (.ref a) []))) x = some (.ins (He.ga K "Book") dx [("columns", .ref a)]) := upd_same
    generalize upd H1 x (.ins (He.ga K "Book") dx (putF "columns" (.ref a) [])) = H2 at g2 hx2 ⊢
    have ha2 := sqt_gr hx g2 ha
    have hk2 := hk.ins hx g2
    have hcs2 := hcs.ins hx g2
    refine ⟨_, rfl, _, true, rfl, hk2.isSeq, fun H3 s3 => ⟨true, rfl, iteF ?_⟩⟩
    have hk3 := hk2.gr s3
    refine ⟨_, rfl, k, xs, rfl, sqx_or hk3.sq, _, _, rfl, rfl, _, rfl, ite2 (fun c => ?_) (fun _ => ?_)⟩
    · have := of_decide_eq_true c
      omega
    have ha3 := same_t s3 ha2
    have hx3 := s3 _ _ hx2
    have hcs3 := hcs2.kp (Kp.of s3)
    refine ⟨_, rfl, l, k, xs, rfl, hk3.sq, for_it walk_enumM (fun i σ H => (∃ v3 v4, σ = [some (.ref x), some (.ref a), some (.ref k), v3, v4]) ∧ Same H3 H) ⟨⟨none, none, rfl⟩, Same.refl _⟩ (fun i σ H _ p => same_x p.2 hk3.sq) ?_ ?_⟩
    · rintro i x' σ H4 H5 hi ⟨⟨v3, v4, rfl⟩, s4⟩ ⟨t, x1, x2, rfl, nT, rfl, e1, e2⟩
      cases e1
      obtain ⟨c, hc1, hc2⟩ := hcs3.at e2
      have s5 := s4.trans (same_new (o := .tup [.int (i : Nat), x2]) nT)
      refine ⟨t, _, rfl, SqT.of upd_same, rfl, _, _, rfl, _, _, rfl, rfl, ?_⟩
      refine ⟨_, rfl, x, _, dx, _, _, rfl, s5 _ _ hx3, T.c_Book, T.n_Book_columns, rfl, _, rfl, a, _, ns, c, rfl, same_t s5 ha3, hc2.kp (Kp.of s5), (hok c (List.mem_of_getElem? hc1)).1, fun H6 s6 => ⟨true, rfl, iteF ⟨⟨_, _, rfl⟩, s5.trans s6⟩⟩⟩
    · rintro σ H4 ⟨⟨v3, v4, rfl⟩, s4⟩
      have hk4 := hk3.gr s4
      have hcs4 := hcs3.kp (Kp.of s4)
      have hx4 := s4 _ _ hx3
      have main : ∀ (J : It) (D : Addr), Walk J xs.length (fun H => SqX K l H k xs) (YAt xs) → H4 D = none → ∃ W : Nat → Nat → Hp → Prop, (∃ m, W 0 m (upd H4 D (.lst []))) ∧ ∀ i m H, W i m H → (J.stop i H ∧ (fun x1 H1 => tNil [some (.ref x), some (.ref a), some (.ref k), v3, v4] H1 fun r H' => (fun xs H Q => ∃ p ys, xs = [V.ref p] ∧ ((SqL K H p ys ∧ ∀ l, H l = none → Q (.ref l) (upd H l (.tup ys))) ∨ (SqT K H p ys ∧ Q (.ref p) H))) (x1 :: r) H' fun y H1 => tVar 0 [some (.ref x), some (.ref a), some (.ref k), v3, v4] H1 fun x H2 => ∃ a C dx fs, x = .ref a ∧ H2 a = some (.ins C dx fs) ∧ Cls K C ∧ NoAttr K C "checks" ∧ fs.length < 1000 ∧ Q .non (upd H2 a (.ins C dx (putF "checks" y fs)))) (.ref D) H) ∨ (J.go i H ∧ ∃ Nx : Hp → Prop, (∀ H', Nx H' → ∃ m', m' < m ∧ W (i + 1) m' H') ∧ ∀ x' H', J.yld i H x' H' → gName 4 x' (wipe [some (.ref x), some (.ref a), some (.ref k), v3, v4] [4]) H' fun σ2 H2 => wipe σ2 [4] = wipe [some (.ref x), some (.ref a), some (.ref k), v3, v4] [4] ∧ tYes σ2 H2 fun b H3 =>
        if b = true then (tCal (spTold K) E0 (tCons (tVar 4) tNil)) σ2 H3 fun y H4 => ∃ acc, H4 D = some (.lst acc) ∧ acc.length < sizeLine ∧ Nx (upd H4 D (.lst (acc ++ [y]))) else Nx H3) := fun J D wk nD => by
        refine lc_pure wk nD (by omega) (fun i zs H => ∃ cs', ChkVs K H zs cs' ∧ ToldAll (cs.take i) cs') (fun i zs H H' k ⟨cs', h1, h2⟩ => ⟨cs', h1.kp k, h2⟩) ⟨[], .nil, ⟨by simp, fun i c c' a => by simp at a⟩⟩ (fun H s => (hk4.gr s).sq) ?_ ?_
        · rintro i x' H5 H6 zs post skip hi s5 ⟨cs', hz1, hz2⟩ ⟨rfl, e⟩ hpost hskip
          obtain ⟨c, hc1, hc2⟩ := hcs4.at e
          have hcc := hok c (List.mem_of_getElem? hc1)
          refine ⟨rfl, _, rfl, _, c, rfl, hc2.kp (Kp.of s5), hcc.1.1, hcc.2, fun H7 v' L s7 hv hA hm => ?_⟩
          exact hpost _ _ s7 ⟨cs' ++ [(c.1, L)], (hz1.kp (Kp.of s7)).snoc hv, told_snoc hc1 hz2 ⟨rfl, hA, hm⟩⟩
        · rintro H5 zs s5 hD ⟨cs', hz1, hz2⟩
          refine ⟨D, zs, rfl, .inl ⟨SqL.of hD, fun t nt => ?_⟩⟩
          have s6 := same_new (o := .tup zs) nt
          have s56 := s5.trans s6
          refine ⟨_, rfl, x, _, dx, _, rfl, s56 _ _ hx4, T.c_Book, T.n_Book_checks, (by show 1 < 1000; decide), ?_⟩
          have g7 : Gr x (upd H5 t (.tup zs)) (upd (upd H5 t (.tup zs)) x (.ins (He.ga K "Book") dx (putF "checks" (.ref t) [("columns", .ref a)]))) := fun b o n e => by rw [upd_ne n]; exact e
          have hx7 := s56 _ _ hx4
          rw [hcs.1, List.take_length] at hz2
          refine fin _ cs' (g2.trans ((Gr.of (s3.trans (s4.trans s56))).trans g7)) ⟨x, dx, a, t, zs, rfl, upd_same, sqt_gr hx7 g7 (same_t (s4.trans s56) ha3), sqt_gr hx7 g7 (SqT.of upd_same), ((hz1.kp (Kp.of s6)).ins hx7 g7)⟩ hz2
      rcases hk4 with ⟨rfl, hk4⟩ | ⟨rfl, hk4⟩
      · exact .inl ⟨_, rfl, k, rfl, ⟨_, SqL.of hk4⟩, fun D nD => main _ D walk_list nD⟩
      · exact .inr ⟨_, rfl, k, rfl, ⟨_, hk4⟩, fun D nD => main _ D walk_tup nD⟩
end
end K29
namespace K29
open PySem PySem.Spec PyProof.Rows L2
open PySem.Sem (wp)
/-! ### x != y of two instances whose class has its own ==, no own != -/
section
variable {prog : Program} {w : World} {A : Around} {E : Value → Shared → Prop} {s : Shared} {K : PySem.W.Frag} {x y C L f : Addr} {h₀ : Heap} {m : Str → Option Value} {ox oy : Obj} {od od' : Option Obj}
theorem ifBoundB_K {M : Model} {name : Str} {id : String} {args : List Value} {Q : Option Value → Shared → Prop} (X : K.In s.heap) (I : PySem.W.InstAt s.heap x ox C od) (hs : PySem.W.findIn K (.ref C) name = some (some (.builtin id))) (hb : ∀ self, bindSpecial (.builtin id) self = pure (.builtin id, [self]))
    (h : wpAny M A (call (.builtin id) (.ref x :: args)) (fun v => Q (some v)) E s) : wpAny M A (callSpecialIfBound? (.ref x) name args) Q E s := by
  simp only [callSpecialIfBound?, bindSpecialIfBound?]
  refine wpAny_holding (wpAny_bind (wpAny_bind (wpAny_bind (I.type.here ((PySem.W.looks_findIn X hs).here ?_)))))
  refine wpAny_bind (wpAny_askSetting (wpAny_ite ?_))
  simp only [hb]
  have fin : wpAny M A (call (.builtin id) ([.ref x] ++ args) >>= fun v => pure (some v)) Q E s := wpAny_bind (wpAny_mono h (fun v s' h' => wpAny_pure h') fun _ _ h' => h')
  split
  · exact wpAny_bind (wpAny_pure (wpAny_pure fin))
  · exact wpAny_tryCatch (wpAny_bind (wpAny_pure (wpAny_pure fin)))
theorem ne_K {Q : Value → Shared → Prop} (hu : A.units + 1 < cLine) (X : K.In s.heap) (I : PySem.W.InstAt s.heap x ox C od) (J : PySem.W.InstAt s.heap y oy C od')
    (hn : PySem.W.findIn K (.ref C) "__ne__" = some (some (.builtin "object.__ne__"))) (he : PySem.W.findIn K (.ref C) "__eq__" = some (some (.ref f))) (hf : PySem.W.isFn K (.ref f) = true) (hm : PySem.W.subIn K (.ref C) (.type "object") = some true)
    (h : wpAny (model prog w) A.in1 (call (.ref f) [.ref x, .ref y]) (fun v s' => ∃ b, v = .bool b ∧ Q (.bool (!b)) s') E s) : wpAny (model prog w) A (richCompare .NotEq (.ref x) (.ref y)) Q E s := by
  have entry : ∀ {Q' : Fin → Shared → Prop}, wpAny (model prog w) A.in1 (call (.ref f) [.ref x, .ref y]) (fun v s' => ∃ b, v = .bool b ∧ Q' (.done (.ret (.bool (!b)))) s') E s →
      wpAny (model prog w) A.in1 (Builtin.«object.__ne__» ⟨[.ref x, .ref y], []⟩) Q' E s := fun {Q'} hcall => by
    unfold Builtin.«object.__ne__»
    have hu' : A.in1.units < cLine := hu
    repeat (first
      | with_reducible refine wpAny_cRoomFor hu' ?_
      | (refine wpAny_bind (m := callSpecialIfBound? (.ref x) (Str.ofString "__eq__") [.ref y])
          (PySem.W.ifBound_K X I he hf (wpAny_mono hcall (fun r s' hr => by
            obtain ⟨b, rfl, hq⟩ := hr
            repeat (first | exact hq | exact wpAny_pure hq | exact wpAny_truthy_bool hq | (refine wpAny_bind (m := truthy (.bool _)) (wpAny_truthy_bool ?_)) | wp_step)) fun _ _ e => e)))
      | wp_step)
  have check : ∀ {Q' : Unit → Shared → Prop}, Q' () s → wpAny (model prog w) A.in1 (checkBuiltinCall "object.__ne__" ⟨[.ref x, .ref y], []⟩) Q' E s := fun {Q'} hq => by
    simp only [checkBuiltinCall, PySem.F.cmpKind_ne, PySem.F.cmpSplit_ne]
    have li : PySem.W.Looks (model prog w) s.heap (isInstance (.ref x) (.type "object")) true := I.type.andThen (PySem.W.looks_subIn X hm)
    refine wpAny_bind (li.here ?_)
    rw [if_neg (by decide)]
    have ha := PySem.F.cmpArgs_ne (.ref x) (.ref y)
    cases hsig : Manifest.signature? "object.__ne__" with
    | none => exact wpAny_pure hq
    | some sig =>
      simp only [argsOk, hsig] at ha
      have h2 : Bind.checkArgs "object.__ne__" sig ⟨[.ref x, .ref y], []⟩ = pure () := ha
      show wpAny _ _ (Bind.checkArgs "object.__ne__" sig ⟨[.ref x, .ref y], []⟩) Q' E _
      rw [h2]
      exact wpAny_pure hq
  have one : wpAny (model prog w) A (tryCompare (.ref x) "__ne__" (.ref y)) (fun r s' => ∃ b, r = some (.bool b) ∧ Q (.bool b) s') E s := by
    simp only [tryCompare]
    refine wpAny_bind (ifBoundB_K X I hn PySem.F.cmp_object.ne.bind (wpAny_call (codeAny_call_builtin PySem.F.cmp_object.ne.plain PySem.F.cmpEntry_ne (check (entry (wpAny_mono h (fun v s' hv => ?_) fun _ _ e => e))))))
    obtain ⟨b, rfl, hq⟩ := hv
    first | exact ⟨b, rfl, wpAny_pure ⟨_, rfl, hq⟩⟩ | exact ⟨_, rfl, wpAny_pure ⟨_, rfl, hq⟩⟩ | exact ⟨b, rfl, ⟨_, rfl, hq⟩⟩
  unfold richCompare
  simp only [oneThing_ref]
  refine wpAny_holding (wpAny_bind (wpAny_cRoomFor (Nat.lt_of_succ_lt hu) ?_))
  rw [cmpInfo_NotEq]
  dsimp only
  refine wpAny_bind (I.type.here (wpAny_bind (J.type.here ?_)))
  rw [show (Value.ref C != Value.ref C) = false from by simp]
  simp only [Bool.false_eq_true, if_false]
  refine wpAny_bind (wpAny_pure ?_)
  simp only [Bool.false_eq_true, if_false]
  refine wpAny_bind (wpAny_mono one (fun r s' z => ?_) fun _ _ e => e)
  obtain ⟨b, rfl, hq⟩ := z
  first | exact wpAny_pure hq | exact hq
end
def rNeIns (C : Addr) (sp : Sp) (E : XK) : R2 := fun x y H Q => ∃ a b dx dy fs gs, x = .ref a ∧ y = .ref b ∧ H a = some (.ins C dx fs) ∧ H b = some (.ins C dy gs) ∧ sp [.ref a, .ref b] H (fun v H' => ∃ r, v = .bl r ∧ Q (.bl (!r)) H') E
theorem op_neIns {X : Cx} {n : Nat} {CX : CXT} {C f : Addr} {fd : FuncData} {ps : List Str} {sp : Sp} {E : XK} (F : FnOk X.prog X.w X.K X.mg X.base CX n f fd ps sp)
    (hn : PySem.W.findIn X.K (.ref C) "__ne__" = some (some (.builtin "object.__ne__"))) (he : PySem.W.findIn X.K (.ref C) "__eq__" = some (some (.ref f))) (hf : PySem.W.isFn X.K (.ref f) = true) (hm : PySem.W.subIn X.K (.ref C) (.type "object") = some true)
    (hb : Binds X.K fd ps []) (hx : Passes CX X E) (hr : Room (n + 1) X.A) : OpR X (compareOp .NotEq) (rNeIns C sp E) := by
  intro pins s σ H x y v u Q I rx ry hq
  obtain ⟨a, b, dx, dy, fs, gs, rfl, rfl, ha, hb', hsp⟩ := hq
  cases rx
  cases ry
  obtain ⟨mA, J, _⟩ := ins_get I.hok ha
  obtain ⟨mB, J', _⟩ := ins_get I.hok hb'
  obtain ⟨od, J, _⟩ := J.look
  obtain ⟨od', J', _⟩ := J'.look
  show wpAny (model X.prog X.w) X.A (richCompare .NotEq (.ref a) (.ref b)) (EP X pins σ Q) X.xe s
  refine ne_K (hu_of hr) I.kIn J J' hn he hf hm ?_
  have e0 : Env0 X.prog X.w X.K X.mg X.base X.A.in1 X.stack s H := by
    have e := I.env0
    exact ⟨e.frames, e.mod, e.bs, e.bsz, e.funs, e.frf, e.hok, e.bare⟩
  have hl := F.len _ _ _ _ hsp
  have r2 : Vals [V.ref a, V.ref b] [Value.ref a, Value.ref b] := .cons rfl (.cons rfl .nil)
  refine wpAny_call (codeAny_mono (F.run X.A.in1 X.stack s H ⟨[.ref a, .ref b], []⟩ [.ref a, .ref b] [.ref a, .ref b] _ E hr.in1 e0 (by
    have := hb s [.ref a, .ref b] I.kIn (by simpa using hl)
    simpa using this) r2 hsp) fun r s' hq => ?_)
  cases r with
  | error e => exact hx pins σ H s e s' I hq
  | ok fl =>
    cases fl with
    | ret w =>
      obtain ⟨z, H', I', rz, c, ez, q⟩ := I.after hq
      subst ez
      cases rz
      exact ⟨c, rfl, .bl (!c), H', I', rfl, q⟩
    | next => exact False.elim hq
    | brk => exact False.elim hq
    | cont => exact False.elim hq
end K29
namespace K29
open PySem PySem.Spec PyProof.Rows L2
theorem un65 {k : Nat} {A : Around} (hr : Room k A) : A.units + 65 < cLine := by
  have := hr.un
  omega
section
variable {X : Cx}
def rInT (K : PySem.W.Frag) : R2 := fun x y H Q => ∃ d ds, Dp K H x d ∧ Dp K H y (.tuple ds) ∧ SeqAt.shaped d = true ∧ SeqAt.shaped (.tuple ds) = true ∧ Q (.bl (ds.any fun z => PyData.eqv z d)) H
def rNotInT (K : PySem.W.Frag) : R2 := fun x y H Q => ∃ d ds, Dp K H x d ∧ Dp K H y (.tuple ds) ∧ SeqAt.shaped d = true ∧ SeqAt.shaped (.tuple ds) = true ∧ Q (.bl (!ds.any fun z => PyData.eqv z d)) H
theorem room_tup {A : Around} {d : PyData} {ds : List PyData} (h : SeqAt.shaped d = true) (hu : A.units + 65 < cLine) : A.units + 1 + min (PyData.depthAll ds) d.depth < cLine := by
  have h1 := SeqAt.depth_of_shaped h
  have h2 : min (PyData.depthAll ds) d.depth ≤ d.depth := Nat.min_le_right _ _
  omega
theorem op_inT (K : PySem.W.Frag) (hu : X.A.units + 65 < cLine) (h : X.K = K := by rfl) : OpR X (compareOp .In) (rInT K) := by
  subst h
  intro pins s σ H x y v u Q I rx ry h
  obtain ⟨d, ds, hd, he, sd, se, q⟩ := h
  obtain ⟨as, r1⟩ := Dp.reads I d x v hd rx
  obtain ⟨bs, r2⟩ := Dp.reads I (.tuple ds) y u he ry
  exact SeqAt.in_tuple_reads r2 r1 (SeqAt.canLay_of_shaped se) (SeqAt.canLay_of_shaped sd) (room_tup sd hu) ⟨.bl _, H, I, rfl, q⟩
theorem op_notInT (K : PySem.W.Frag) (hu : X.A.units + 65 < cLine) (h : X.K = K := by rfl) : OpR X (compareOp .NotIn) (rNotInT K) := by
  subst h
  intro pins s σ H x y v u Q I rx ry h
  obtain ⟨d, ds, hd, he, sd, se, q⟩ := h
  obtain ⟨as, r1⟩ := Dp.reads I d x v hd rx
  obtain ⟨bs, r2⟩ := Dp.reads I (.tuple ds) y u he ry
  exact SeqAt.notIn_tuple_reads r2 r1 (SeqAt.canLay_of_shaped se) (SeqAt.canLay_of_shaped sd) (room_tup sd hu) ⟨.bl _, H, I, rfl, q⟩
end
/-! ### lists of things, item by item -/
def Al {α : Type} (R : V → α → Prop) (vs : List V) (as : List α) : Prop := vs.length = as.length ∧ ∀ (i : Nat) v a, vs[i]? = some v → as[i]? = some a → R v a
section
variable {α : Type} {R S : V → α → Prop} {vs : List V} {as : List α}
theorem Al.imp (h : Al R vs as) (k : ∀ v a, R v a → S v a) : Al S vs as := ⟨h.1, fun i v a x y => k v a (h.2 i v a x y)⟩
theorem Al.at {i : Nat} {v : V} (h : Al R vs as) (e : vs[i]? = some v) : ∃ a, as[i]? = some a ∧ R v a := by
  have hi := (List.getElem?_eq_some_iff.mp e).1
  have hj : i < as.length := by rw [← h.1]; exact hi
  exact ⟨as[i], List.getElem?_eq_getElem hj, h.2 i v _ e (List.getElem?_eq_getElem hj)⟩
theorem Al.get {i : Nat} {a : α} (h : Al R vs as) (e : as[i]? = some a) : ∃ v, vs[i]? = some v ∧ R v a := by
  have hi := (List.getElem?_eq_some_iff.mp e).1
  have hj : i < vs.length := by rw [h.1]; exact hi
  exact ⟨vs[i], List.getElem?_eq_getElem hj, h.2 i _ a (List.getElem?_eq_getElem hj) e⟩
theorem Al.nil : Al R [] [] := ⟨rfl, fun i v a x => by simp at x⟩
theorem Al.snoc {v : V} {a : α} (h : Al R vs as) (hv : R v a) : Al R (vs ++ [v]) (as ++ [a]) := by
  refine ⟨by rw [List.length_append, List.length_append, h.1]; rfl, fun i u b x y => ?_⟩
  by_cases hi : i < vs.length
  · rw [List.getElem?_append_left hi] at x
    rw [List.getElem?_append_left (by rw [← h.1]; exact hi)] at y
    exact h.2 i u b x y
  · rw [List.getElem?_append_right (by omega)] at x
    rw [List.getElem?_append_right (by have := h.1; omega), ← h.1] at y
    match hk : i - vs.length with
    | 0 =>
      rw [hk] at x y
      cases x
      cases y
      exact hv
    | k + 1 =>
      rw [hk] at x
      simp at x
end
theorem take_snoc {α : Type} {l : List α} {i : Nat} {x : α} (h : l[i]? = some x) : l.take (i + 1) = l.take i ++ [x] := by
  rw [List.take_add_one, h]
  rfl
/-- naturals as ints -/
def zz (L : List Nat) : List Int := L.map fun i : Nat => (i : Int)
theorem zz_get {L : List Nat} {i : Nat} {z : Int} (h : (zz L)[i]? = some z) : ∃ n, L[i]? = some n ∧ z = (n : Int) := map_at h
theorem zz_len (L : List Nat) : (zz L).length = L.length := by
  unfold zz
  rw [List.length_map]
end K29
namespace K29
open PySem PySem.Spec PyProof.Rows L2
/-! ### data: equality, form -/
theorem eqv_dI (a b : List Int) : PyData.eqv (dI a) (dI b) = decide (a = b) := by
  unfold dI
  rw [PyData.eqv, PySem.W.ked_eqvAll]
theorem eqvAll_dI : ∀ xs ys : List (List Int), PyData.eqvAll (xs.map dI) (ys.map dI) = decide (xs = ys)
  | [], [] => by simp [PyData.eqvAll]
  | [], _ :: _ => by simp [PyData.eqvAll]
  | _ :: _, [] => by simp [PyData.eqvAll]
  | a :: r, b :: t => by
    simp only [List.map_cons, PyData.eqvAll, eqv_dI, eqvAll_dI r t]
    by_cases h : a = b <;> by_cases h' : r = t <;> simp [h, h']
def dC (c : Chk) : PyData := .tuple [dI c.1, dR c.2]
theorem eqv_dC (c : Chk) : PyData.eqv (dC c) (dC c) = true := by
  unfold dC dR
  simp [PyData.eqv, PyData.eqvAll, eqv_dI, eqvAll_dI]
theorem eqvAll_dC : ∀ cs : List Chk, PyData.eqvAll (cs.map dC) (cs.map dC) = true
  | [] => by simp [PyData.eqvAll]
  | c :: cs => by
    simp only [List.map_cons, PyData.eqvAll, eqv_dC, eqvAll_dC cs]
    rfl
theorem canLay_ints : ∀ ns : List Int, PyData.canLayAll0 (ns.map .int) = true
  | [] => by simp [PyData.canLayAll0]
  | n :: ns => by simp [PyData.canLayAll0, PyData.canLay0, canLay_ints ns]
theorem canLay_dI (r : List Int) : PyData.canLay0 (dI r) = true := by
  unfold dI
  simp [PyData.canLay0, canLay_ints]
theorem canLay_rows : ∀ rs : List (List Int), PyData.canLayAll0 (rs.map dI) = true
  | [] => by simp [PyData.canLayAll0]
  | r :: rs => by simp [PyData.canLayAll0, canLay_dI, canLay_rows rs]
theorem canLay_dC (c : Chk) : PyData.canLay0 (dC c) = true := by
  unfold dC dR
  simp [PyData.canLay0, PyData.canLayAll0, canLay_dI, canLay_rows]
theorem canLay_chks : ∀ cs : List Chk, PyData.canLayAll0 (cs.map dC) = true
  | [] => by simp [PyData.canLayAll0]
  | c :: cs => by simp [PyData.canLayAll0, canLay_dC, canLay_chks cs]
theorem dep_dI (r : List Int) : (dI r).depth ≤ 2 := by
  have := depth_ints r
  unfold dI
  simp [PyData.depth]
  omega
theorem dep_rows : ∀ rs : List (List Int), PyData.depthAll (rs.map dI) ≤ 2
  | [] => by simp [PyData.depthAll]
  | r :: rs => by
    have := dep_rows rs
    have := dep_dI r
    simp [PyData.depthAll]
    omega
theorem dep_dC (c : Chk) : (dC c).depth ≤ 4 := by
  have := dep_rows c.2
  have := dep_dI c.1
  unfold dC dR
  simp [PyData.depth, PyData.depthAll]
  omega
theorem dep_chks : ∀ cs : List Chk, PyData.depthAll (cs.map dC) ≤ 4
  | [] => by simp [PyData.depthAll]
  | c :: cs => by
    have := dep_chks cs
    have := dep_dC c
    simp [PyData.depthAll]
    omega
theorem shaped_of {d : PyData} (h : PyData.canLay0 d = true) (h2 : d.depth ≤ 10) : SeqAt.shaped d = true := by
  unfold SeqAt.shaped
  rw [h, decide_eq_true (by omega)]
  rfl
theorem sh_dI (r : List Int) : SeqAt.shaped (dI r) = true := shaped_of (canLay_dI r) (by have := dep_dI r; omega)
theorem sh_dR (rs : List (List Int)) : SeqAt.shaped (dR rs) = true := shaped_of (by unfold dR; simp [PyData.canLay0, canLay_rows]) (by have := dep_rows rs; unfold dR; simp [PyData.depth]; omega)
theorem sh_lR (rs : List (List Int)) : SeqAt.shaped (.list (rs.map dI)) = true := shaped_of (by simp [PyData.canLay0, canLay_rows]) (by have := dep_rows rs; simp [PyData.depth]; omega)
theorem sh_cs (cs : List Chk) : SeqAt.shaped (.tuple (cs.map dC)) = true := shaped_of (by simp [PyData.canLay0, canLay_chks]) (by have := dep_chks cs; simp [PyData.depth]; omega)
theorem ChkV.dp {K : PySem.W.Frag} {H : Hp} {v : V} {c : Chk} (h : ChkV K H v c) : Dp K H v (dC c) := by
  obtain ⟨a, p, q, rs, rfl, h1, h2, h3, h4⟩ := h.ex
  exact .tup h1 (.cons (tup_dI h2) (.cons (.tup h3 h4.dp) .nil))
theorem ChkVs.dp {K : PySem.W.Frag} {H : Hp} {vs : List V} {cs : List Chk} (h : ChkVs K H vs cs) : DpAll K H vs (cs.map dC) := dpAll_of h.1 fun i v c a b => (h.2 i v c a b).dp
/-! ### what the head is to say besides -/
/-- an empty tuple of the module's -/
def DfE (K : PySem.W.Frag) (a : Addr) : Prop := ∃ (o : Obj) (n : Nat), K.lookup a = some o ∧ o.cls = .type "tuple" ∧ o.data = .seq #[] n
structure Ux (K : PySem.W.Frag) : Prop where
  dB : DfE K (He.dflAt ("Book", some "__init__") 0 K)
  dS : DfE K (He.dflAt ("Store", some "__init__") 0 K)
  clB : PySem.W.findIn K (.ref (He.ga K "Book")) "__class__" = some (some (.builtin "object.__class__"))
  clS : PySem.W.findIn K (.ref (He.ga K "Store")) "__class__" = some (some (.builtin "object.__class__"))
  spG : PySem.W.specialIn K (.builtin "object.__class__") "__get__" = some (some (.builtin "getset_descriptor.__get__"))
  tkC : PySem.W.takesIn K (.builtin "object.__class__") = some true
  moB : PySem.W.mroIn K (He.ga K "Book") (.type "object") = some true
  moS : PySem.W.mroIn K (He.ga K "Store") (.type "object") = some true
  neB : PySem.W.findIn K (.ref (He.ga K "Book")) "__ne__" = some (some (.builtin "object.__ne__"))
  obB : PySem.W.subIn K (.ref (He.ga K "Book")) (.type "object") = some true
  kTS : PySem.W.kitOne K (.type "tuple") (.ref (He.ga K "Store")) = some false
  kTL : PySem.W.kitOne K (.type "tuple") (.ref (He.ga K "LaxBook")) = some false
  kLS : PySem.W.kitOne K (.type "list") (.ref (He.ga K "Store")) = some false
  kLL : PySem.W.kitOne K (.type "list") (.ref (He.ga K "LaxBook")) = some false
theorem DfE.sq {K : PySem.W.Frag} {a : Addr} {H : Hp} (h : DfE K a) : SqT K H a [] := by
  obtain ⟨o, n, h1, h2, h3⟩ := h
  exact .inr ⟨o, #[], n, h1, h2, h3, Nat.zero_le _, .nil⟩
section
variable {P : Program} {w : World} {K : PySem.W.Frag} {mg : Str → Option Value} {base : Heap}
theorem m_Book (T : Tx K mg) : Mkn P w K mg base CX0 6 "Book" (He.ga K "Book") (spBookI K) [] := by
  obtain ⟨fd, FD, F⟩ := k_Book_init (P := P) (w := w) (base := base) T
  obtain ⟨ds, h1, h2⟩ := FD.binds1 (ps := ["self", "columns", "checks"]) 3 1 (by intro z; cases z) rfl fun _ _ _ _ _ _ _ us its hu hi => match us, hu, its, hi with | [_, _, _], _, [_], _ => ⟨_, rfl, rfl⟩
  cases h1
  exact ⟨_, fd, _, [], T.m_Book, F, T.g_Book, h2, .nil⟩
theorem m_Book1 (T : Tx K mg) : Mkn P w K mg base CX0 6 "Book" (He.ga K "Book") (spBookI K) [V.ref (He.dflAt ("Book", some "__init__") 0 K)] := by
  obtain ⟨fd, FD, F⟩ := k_Book_init (P := P) (w := w) (base := base) T
  obtain ⟨ds, h1, h2⟩ := FD.binds1 (ps := ["self", "columns", "checks"]) 2 0 (by intro z; cases z) rfl fun _ _ _ _ _ _ _ us its hu hi => match us, hu, its, hi with | [_, _], _, [_], _ => ⟨_, rfl, rfl⟩
  exact ⟨_, fd, _, ds, T.m_Book, F, T.g_Book, h2, h1⟩
/-! ### == of books -/
theorem sc_Book_eq : FnScope ["self", "other"] ["self", "other"] (defScope s_Book_eq) := ⟨rfl, rfl, rfl, by decide +kernel, rfl, by decide +kernel, by decide +kernel⟩
def spBookEq (K : PySem.W.Frag) : Sp := fun vs H Q _ => ∃ (x y : V) (b c : Bk), vs = [x, y] ∧ BookV K H x b ∧ BookV K H y c ∧ ((b = c ∧ Q (.bl true) H) ∨ (b.cols ≠ c.cols ∧ Q (.bl false) H))
theorem k_Book_eq (T : Tx K mg) (U : Ux K) : ∃ (fd : FuncData), FnOk P w K mg base CX0 1 (He.ma K (He.ga K "Book") "__eq__") fd ["self", "other"] (spBookEq K) ∧ Binds K fd ["self", "other"] [] := by
  obtain ⟨fd, FD⟩ := T.f_Book_eq
  refine ⟨fd, FD.ok (k := 0) sc_Book_eq (fun vs H Q E h => ?_) fun cdv A outer s H vs Q E hr h => ?_, FD.bindsN fun _ _ _ _ _ _ us hl => match us, hl with | [_, _], _ => rfl⟩
  · obtain ⟨x, y, b, c, rfl, _⟩ := h
    rfl
  · obtain ⟨x, y, b, c, rfl, ⟨a, dx, p, q, xs, rfl, h1, h2, h3, h4⟩, ⟨a', dx', p', q', xs', rfl, h1', h2', h3', h4'⟩, fin⟩ := h
    have nd := sc_Book_eq.nd
    refine ⟨_, (pss_one (ps_ret (pe_and (pe_callB call_isi (by rfl) T.z_isinstance PyProof.Rows.boot_isinstance (pa_cons (pv 1) (pa_cons (pe_glob (v := .ref (He.ga K "Book")) rfl T.g_Book rfl) pa_nil))) (pe_and (pe_cmpR (op_eqD hr.units) (pe_fld (pv 0) rfl) (pe_fld (pv 1) rfl) (nomark _)) (pe_one (pe_cmpR (op_eqD hr.units) (pe_fld (pv 0) rfl) (pe_fld (pv 1) rfl) (nomark _))))))), ?_⟩
    refine ⟨_, rfl, _, _, _, _, true, rfl, .own _, .base (.ins h1' T.c_Book U.clB U.spG U.tkC U.moB), ?_, true, rfl, iteT ?_⟩
    · unfold PySem.W.kitOne
      rw [if_pos (beq_self_eq_true _)]
    refine ⟨_, rfl, a, _, dx, _, _, rfl, h1, T.c_Book, T.n_Book_columns, rfl, _, rfl, a', _, dx', _, _, rfl, h1', T.c_Book, T.n_Book_columns, rfl, _, _, tup_dI h2, tup_dI h2', sh_dI _, sh_dI _, ?_⟩
    rw [eqv_dI]
    rcases fin with ⟨rfl, fin⟩ | ⟨ne, fin⟩
    · rw [decide_eq_true rfl]
      refine ⟨true, rfl, iteT ?_⟩
      refine ⟨_, rfl, a, _, dx, _, _, rfl, h1, T.c_Book, T.n_Book_checks, rfl, _, rfl, a', _, dx', _, _, rfl, h1', T.c_Book, T.n_Book_checks, rfl, _, _, .tup h3 h4.dp, .tup h3' h4'.dp, sh_cs _, sh_cs _, ?_⟩
      rw [PyData.eqv, eqvAll_dC]
      exact fin
    · rw [decide_eq_false ne]
      exact ⟨false, rfl, iteF fin⟩
end
end K29
namespace K29
open PySem PySem.Spec PyProof.Rows L2
abbrev Ld := Nat × List Nat
structure LdV (K : PySem.W.Frag) (H : Hp) (v : V) (l : Ld) : Prop where
  ex : ∃ a p, v = .ref a ∧ SqT K H a [.int (l.1 : Nat), .ref p] ∧ SqT K H p ((zz l.2).map V.int)
theorem LdV.kp {K : PySem.W.Frag} {H H' : Hp} {v : V} {l : Ld} (k : Kp H H') (h : LdV K H v l) : LdV K H' v l := by
  obtain ⟨a, p, e, h1, h2⟩ := h.ex
  exact ⟨a, p, e, kp_t k h1, kp_t k h2⟩
theorem LdV.ins {K : PySem.W.Frag} {x : Addr} {H H' : Hp} {v : V} {l : Ld} {C dx : Addr} {fs : List (Str × V)} (hx : H x = some (.ins C dx fs)) (g : Gr x H H') (h : LdV K H v l) : LdV K H' v l := by
  obtain ⟨a, p, e, h1, h2⟩ := h.ex
  exact ⟨a, p, e, sqt_gr hx g h1, sqt_gr hx g h2⟩
/-- a check laid on cells -/
def LaidOk (b : Bk) (cells : List Int) (l : Ld) : Prop := ∃ c, b.chks[l.1]? = some c ∧ l.2.length = c.1.length ∧ l.2.length ≤ 1000 ∧ ∀ (i : Nat) x p, l.2[i]? = some x → c.1[i]? = some p → cells[x]? = some p
section
variable {P : Program} {w : World} {K : PySem.W.Frag} {mg : Str → Option Value} {base : Heap}
theorem sc_is_laid : FnScope ["book", "cells", "value", "places", "cell", "place"] ["book", "cells", "value"] (defScope s_is_laid) := ⟨rfl, rfl, rfl, by decide +kernel, rfl, by decide +kernel, by decide +kernel⟩
def spIsLaid (K : PySem.W.Frag) : Sp := fun vs H Q _ => ∃ (x v : V) (p : Addr) (b : Bk) (cells : List Int) (l : Ld), vs = [x, .ref p, v] ∧ BookV K H x b ∧ SqT K H p (cells.map V.int) ∧ LdV K H v l ∧ LaidOk b cells l ∧ ∀ H', Same H H' → Q (.bl true) H'
theorem c_is_laid (T : Tx K mg) : Cal P w K mg base CX0 4 "is_laid" (spIsLaid K) := by
  refine cal0 T.f_is_laid T.g_is_laid sc_is_laid (fun _ _ _ _ _ _ us hl => match us, hl with | [_, _, _], _ => rfl) (fun vs H Q E h => ?_) (fun cdv A outer s H vs Q E hr h => ?_)
  · obtain ⟨x, v, p, b, cells, l, rfl, _⟩ := h
    rfl
  · obtain ⟨x, v, p, b, cells, l, rfl, hb, hp, hl, ⟨c, hc, hlen, hl1000, hcell⟩, fin⟩ := h
    have nd := sc_is_laid.nd
    refine ⟨_, (pss_cons (ps_if (PW.pt (pw_or (pt_not (pt_val (pe_cal (c_is_sequence T) hr (by decide) pass0 (pa_cons (pv 2) pa_nil)))) (pw_or (pt_cmpR op_ne (pe_callB call_len_seq (by rfl) T.z_len PySem.boot_len (pa_cons (pv 2) pa_nil)) pe_int (nomark _)) (pw_or1 (pt_not (pt_val (pe_cal (c_is_sequence T) hr (by decide) pass0 (pa_cons (pe_ix ix_tup (pv 2) pe_int (fun _ _ => rfl)) pa_nil))))))))
      (pss_one (ps_ret pe_bl))
      pss_nil)
    (pss_cons (ps_if (pt_not (pt_val (pe_cal (c_is_below T) hr (by decide) pass0 (pa_cons (pe_ix ix_tup (pv 2) pe_int (fun _ _ => rfl)) (pa_cons (pe_callB call_len_seq (by rfl) T.z_len PySem.boot_len (pa_cons (pe_fld (pv 0) rfl) pa_nil)) pa_nil)))))
      (pss_one (ps_ret pe_bl))
      pss_nil)
    (pss_cons (ps_set (i := 3) nd rfl (.inl rfl) (pe_ix ix_tup (pe_ix ix_tup (pe_fld (pv 0) rfl) (pe_ix ix_tup (pv 2) pe_int (fun _ _ => rfl)) (fun _ _ => rfl)) pe_int (fun _ _ => rfl)))
    (pss_cons (ps_if (PW.pt (pw_or (pt_cmpR op_ne (pe_callB call_len_seq (by rfl) T.z_len PySem.boot_len (pa_cons (pe_ix ix_tup (pv 2) pe_int (fun _ _ => rfl)) pa_nil)) (pe_callB call_len_seq (by rfl) T.z_len PySem.boot_len (pa_cons (pv 3) pa_nil)) (nomark _)) (pw_or1 (pt_not (pt_val (pe_callB (cr_all rfl) (by rfl) T.z_all boot_all (pa_cons (pe_lc (own := [("cell", 4)]) rfl nd (pi_tup (pe_ix ix_tup (pv 2) pe_int (fun _ _ => rfl))) (blkOk_by (by kernel_rfl)) (fun _ _ _ _ _ => (pg_name (i := 4) nd rfl (.inl rfl))) (fun _ _ _ _ _ => pts_nil) (fun _ _ _ _ _ => (pe_cal (c_is_below T) hr (by decide) pass0 (pa_cons (pv 4) (pa_cons (pe_callB (kcall_len_seq K) (by rfl) T.z_len PySem.boot_len (pa_cons (pv 1) pa_nil)) pa_nil))))) pa_nil)))))))
      (pss_one (ps_ret pe_bl))
      pss_nil)
    (pss_one (ps_ret (pe_callB (cr_all rfl) (by rfl) T.z_all boot_all (pa_cons (pe_lc (own := [("cell", 4), ("place", 5)]) rfl nd (pi_zipM (by rfl) T.z_zip (pa_cons (pe_ix ix_tup (pv 2) pe_int (fun _ _ => rfl)) (pa_cons (pv 3) pa_nil))) (blkOk_by (by kernel_rfl)) (fun _ _ _ _ _ => (kpg_tup K (n := 2) rfl (pgs_cons (pg_name (i := 4) nd rfl (.inl rfl)) (pgs_cons (pg_name (i := 5) nd rfl (.inl rfl)) pgs_nil)))) (fun _ _ _ _ _ => pts_nil) (fun _ _ _ _ _ => (pe_cmpR op_eq (pe_ix (kix_tup K) (pv 1) (pv 4) (fun _ _ => rfl)) (pv 5) (nomark _)))) pa_nil)))))))), ?_⟩
    obtain ⟨a, q, rfl, hv, hq⟩ := hl.ex
    refine ⟨_, rfl, _, true, rfl, .inl ⟨rfl, a, _, rfl, .inr hv⟩, fun H1 s1 => ⟨true, rfl, iteF ?_⟩⟩
    have hv1 := same_t s1 hv
    refine ⟨_, rfl, a, _, rfl, .inr hv1, rfl, _, rfl, iteF ?_⟩
    refine ⟨_, rfl, a, _, 1, .ref q, rfl, rfl, hv1, atI_nat (j := 1) rfl, _, true, rfl, .inl ⟨rfl, q, _, rfl, .inr (same_t s1 hq)⟩, fun H2 s2 => ⟨true, rfl, iteF ?_⟩⟩
    have s02 := s1.trans s2
    have hv2 := same_t s02 hv
    have hq2 := same_t s02 hq
    have hp2 := same_t s02 hp
    obtain ⟨ba, dx, bp, bq, xs, rfl, b1, b2, b3, b4⟩ := (hb.kp (Kp.of s02)).ex
    obtain ⟨cv, hcv, hck⟩ := b4.get hc
    have hlt : l.1 < b.chks.length := (List.getElem?_eq_some_iff.mp hc).1
    have hxl := b4.1
    refine ⟨_, rfl, a, _, 0, .int (l.1 : Nat), rfl, rfl, hv2, atI_nat (j := 0) rfl, _, rfl, ba, _, dx, _, _, rfl, b1, T.c_Book, T.n_Book_checks, rfl, bq, xs, rfl, .inr b3, _, _, rfl, ?_⟩
    rw [decide_eq_true (show (0 : Int) ≤ (l.1 : Nat) ∧ ((l.1 : Nat) : Int) < (xs.length : Nat) by omega)]
    refine ⟨true, rfl, iteF ?_⟩
    obtain ⟨ca, cp, cq, rs, rfl, c1, c2, c3, c4⟩ := hck.ex
    refine ⟨_, rfl, ba, _, dx, _, _, rfl, b1, T.c_Book, T.n_Book_checks, rfl, _, rfl, a, _, 0, .int (l.1 : Nat), rfl, rfl, hv2, atI_nat (j := 0) rfl, bq, xs, _, .ref ca, rfl, rfl, b3, atI_nat hcv, ca, _, 0, .ref cp, rfl, rfl, c1, atI_nat (j := 0) rfl, ?_⟩
    refine ⟨_, rfl, a, _, 1, .ref q, rfl, rfl, hv2, atI_nat (j := 1) rfl, q, _, rfl, .inr hq2, _, rfl, cp, _, rfl, .inr c2, rfl, _, rfl, ite2 (fun d => ?_) (fun _ => ?_)⟩
    · rw [List.length_map, List.length_map, zz_len, hlen, decide_eq_true rfl] at d
      cases d
    have hcl : ∀ (i : Nat) n, l.2[i]? = some n → n < cells.length := fun i n hn => by
      have hi := (List.getElem?_eq_some_iff.mp hn).1
      have := hcell i n (c.1[i]'(by omega)) hn (List.getElem?_eq_getElem (by omega))
      exact (List.getElem?_eq_some_iff.mp this).1
    refine ⟨_, rfl, a, _, 1, .ref q, rfl, rfl, hv2, atI_nat (j := 1) rfl, q, rfl, ⟨_, hq2⟩, fun D nD => lc_pure (walk_tup (a := q) (xs := (zz l.2).map V.int)) nD (by rw [List.length_map, zz_len]; omega) (fun i zs H => zs = List.replicate i (V.bl true)) (fun _ _ _ _ _ h => h) rfl (fun H s => same_t s hq2) ?_ ?_⟩
    · rintro i x H3 H4 zs post skip hi s3 hz ⟨rfl, hx⟩ hpost hskip
      obtain ⟨n, hn, rfl⟩ := getMapInt hx
      obtain ⟨m, hm, rfl⟩ := zz_get hn
      have := hcl i m hm
      refine ⟨rfl, _, rfl, _, rfl, p, _, rfl, .inr (same_t s3 hp2), _, _, rfl, ?_⟩
      rw [List.length_map, decide_eq_true (show 0 ≤ (m : Int) ∧ (m : Int) < (cells.length : Int) by omega)]
      exact hpost _ _ (Same.refl _) (by rw [hz, repl_snoc])
    rintro H3 zs s3 hD hz
    refine ⟨D, List.replicate ((zz l.2).map V.int).length true, rfl, ?_, ?_⟩
    · rw [map_true, ← hz]
      exact SqL.of hD
    rw [all_true]
    refine ⟨true, rfl, iteF ?_⟩
    have hq3 := same_t s3 hq2
    have hc3 := same_t s3 c2
    refine ⟨_, rfl, a, _, 1, .ref q, rfl, rfl, same_t s3 hv2, atI_nat (j := 1) rfl, _, rfl, false, false, q, cp, _, _, rfl, hq3, hc3, fun D2 nD2 => lc_pure (walk_zipM (l1 := false) (l2 := false) (a := q) (b := cp) (xs := (zz l.2).map V.int) (ys := c.1.map V.int) (by rw [List.length_map, List.length_map, zz_len, hlen])) nD2 (by rw [List.length_map, zz_len]; omega) (fun i zs H => zs = List.replicate i (V.bl true)) (fun _ _ _ _ _ h => h) rfl (fun H s => ⟨same_t s hq3, same_t s hc3⟩) ?_ ?_⟩
    · rintro i x H4 H5 zs2 post skip hi s4 hz2 ⟨t, x1, x2, rfl, nT, rfl, hx, hy⟩ hpost hskip
      obtain ⟨n, hn, rfl⟩ := getMapInt hx
      obtain ⟨m, hm, rfl⟩ := zz_get hn
      obtain ⟨pl, hpl, rfl⟩ := getMapInt hy
      have hcc := hcell i m pl hm hpl
      have s5 := s4.trans (same_new (o := .tup [.int (m : Int), .int pl]) nT)
      refine ⟨t, _, rfl, SqT.of upd_same, rfl, _, _, rfl, _, _, rfl, rfl, rfl, _, rfl, _, rfl, p, _, (m : Int), .int pl, rfl, rfl, same_t (s3.trans s5) hp2, atI_nat (at_map hcc), _, rfl, rfl, ?_⟩
      rw [decide_eq_true rfl]
      exact hpost _ _ (same_new nT) (by rw [hz2, repl_snoc])
    rintro H4 zs2 s4 hD2 hz2
    refine ⟨D2, List.replicate ((zz l.2).map V.int).length true, rfl, ?_, ?_⟩
    · rw [map_true, ← hz2]
      exact SqL.of hD2
    rw [all_true]
    exact fin _ (s02.trans (s3.trans s4))
end
end K29
namespace K29
open PySem PySem.Spec PyProof.Rows L2
structure St where
  book : Bk
  cells : List Int
  laid : List Ld
structure StoreV (K : PySem.W.Frag) (H : Hp) (v : V) (s : St) : Prop where
  ex : ∃ a dx bv p q xs, v = .ref a ∧ H a = some (.ins (He.ga K "Store") dx [("book", bv), ("cells", .ref p), ("laid", .ref q)]) ∧ BookV K H bv s.book ∧ SqT K H p (s.cells.map V.int) ∧ SqT K H q xs ∧ Al (LdV K H) xs s.laid
theorem StoreV.kp {K : PySem.W.Frag} {H H' : Hp} {v : V} {s : St} (k : Kp H H') (h : StoreV K H v s) : StoreV K H' v s := by
  obtain ⟨a, dx, bv, p, q, xs, e, h1, h2, h3, h4, h5⟩ := h.ex
  exact ⟨a, dx, bv, p, q, xs, e, k.ins _ _ _ _ h1, h2.kp k, kp_t k h3, kp_t k h4, h5.imp fun v l h => h.kp k⟩
theorem BookV.ins {K : PySem.W.Frag} {x : Addr} {H H' : Hp} {v : V} {b : Bk} {dx : Addr} {fs : List (Str × V)} {C : Addr} (hx : H x = some (.ins C dx fs)) (hC : C ≠ He.ga K "Book") (g : Gr x H H') (h : BookV K H v b) : BookV K H' v b := by
  obtain ⟨a, dy, p, q, xs, e, h1, h2, h3, h4⟩ := h.ex
  exact ⟨a, dy, p, q, xs, e, g _ _ (ne_of h1 hx (by intro z; injection z with z1 z2 z3; exact hC z1.symm)) h1, sqt_gr hx g h2, sqt_gr hx g h3, h4.ins hx g⟩
section
variable {P : Program} {w : World} {K : PySem.W.Frag} {mg : Str → Option Value} {base : Heap}
theorem sc_Store_init : FnScope ["self", "book", "cells", "laid", "at", "one", "check", "on", "column"] ["self", "book", "cells", "laid"] (defScope s_Store_init) := ⟨rfl, rfl, rfl, by decide +kernel, rfl, by decide +kernel, by decide +kernel⟩
def StoreOk (s : St) : Prop := 1 ≤ s.cells.length ∧ s.cells.length ≤ 200 ∧ (∀ c ∈ s.cells, 0 ≤ c ∧ c < s.book.cols.length) ∧ s.laid.length ≤ 4000 ∧ ∀ l ∈ s.laid, LaidOk s.book s.cells l
def spStoreI (K : PySem.W.Frag) : Sp := fun vs H Q _ => ∃ (x dx p q : Addr) (bv : V) (xs : List V) (s : St), vs = [.ref x, bv, .ref p, .ref q] ∧ H x = some (.ins (He.ga K "Store") dx []) ∧ BookV K H bv s.book ∧ (∃ b, bv = .ref b ∧ b ≠ x) ∧ SqT K H p (s.cells.map V.int) ∧ SqT K H q xs ∧ Al (LdV K H) xs s.laid ∧ StoreOk s ∧
  ∀ H', Gr x H H' → StoreV K H' (.ref x) s → Q .non H'
theorem BookV.gr {x : Addr} {H H' : Hp} {b : Addr} {bk : Bk} {dx C : Addr} {fs : List (Str × V)} (hx : H x = some (.ins C dx fs)) (hb : b ≠ x) (g : Gr x H H') (h : BookV K H (.ref b) bk) : BookV K H' (.ref b) bk := by
  obtain ⟨a, dy, p, q, xs, e, h1, h2, h3, h4⟩ := h.ex
  cases e
  exact ⟨b, dy, p, q, xs, rfl, g _ _ hb h1, sqt_gr hx g h2, sqt_gr hx g h3, h4.ins hx g⟩
theorem k_Store_init (T : Tx K mg) : ∃ (fd : FuncData), FunD K "__init__" "Store.__init__" (defArgs s_Store_init) (defBody s_Store_init) (defScope s_Store_init) [V.ref (He.dflAt ("Store", some "__init__") 0 K)] [] (He.ma K (He.ga K "Store") "__init__") fd ∧
    FnOk P w K mg base CX0 6 (He.ma K (He.ga K "Store") "__init__") fd ["self", "book", "cells", "laid"] (spStoreI K) := by
  obtain ⟨fd, FD⟩ := T.f_Store_init
  refine ⟨fd, FD, FD.ok (k := 5) sc_Store_init (fun vs H Q E h => ?_) fun cdv A outer s H vs Q E hr h => ?_⟩
  · obtain ⟨x, dx, p, q, bv, xs, s, rfl, _⟩ := h
    rfl
  · obtain ⟨x, dx, p, q, bv, xs, sd, rfl, hx, hb, ⟨b, rfl, hbx⟩, hp, hq, hl, ⟨h1, h2, h3, h4, h5⟩, fin⟩ := h
    have nd := sc_Store_init.nd
    suffices ∃ t, PSs (cxOf CX0 P w K mg base ["self", "book", "cells", "laid", "at", "one", "check", "on", "column"] "Store.__init__" (defScope s_Store_init) (He.ma K (He.ga K "Store") "__init__") cdv A outer s H E).nox (defBody s_Store_init) t ∧ t { nx := fun _ H' => Q .non H', rt := Q } (start ["self", "book", "cells", "laid", "at", "one", "check", "on", "column"] [.ref x, .ref b, .ref p, .ref q]) H by
      obtain ⟨t, h1, h2⟩ := this
      exact ⟨t, h1.nox, h2⟩
    refine ⟨_, (pss_cons (ps_if (PW.pt (pw_or (pt_not (pt_val (pe_cal (c_is_sequence T) hr (by decide) pass0 (pa_cons (pv 2) pa_nil)))) (pw_or1 (pt_not (pt_chain op_le op_le pe_int (pe_callB call_len_seq (by rfl) T.z_len PySem.boot_len (pa_cons (pv 2) pa_nil)) (pe_cst rfl T.i_MOST_CELLS))))))
      (pss_one ps_never)
      pss_nil)
    (pss_cons (ps_if (pt_not (pt_val (pe_callB (cr_all rfl) (by rfl) T.z_all boot_all (pa_cons (pe_lc (own := [("column", 8)]) rfl nd (pi_tup (pv 2)) (blkOk_by (by kernel_rfl)) (fun _ _ _ _ _ => (pg_name (i := 8) nd rfl (.inl rfl))) (fun _ _ _ _ _ => pts_nil) (fun _ _ _ _ _ => (pe_cal (c_is_below T) hr (by decide) pass0 (pa_cons (pv 8) (pa_cons (pe_callB (kcall_len_seq K) (by rfl) T.z_len PySem.boot_len (pa_cons (kpe_fld K (pv 1) rfl) pa_nil)) pa_nil))))) pa_nil))))
      (pss_one ps_never)
      pss_nil)
    (pss_cons (ps_if (PW.pt (pw_or (pt_not (pt_val (pe_cal (c_is_sequence T) hr (by decide) pass0 (pa_cons (pv 3) pa_nil)))) (pw_or1 (pt_cmpR op_gt (pe_callB call_len_seq (by rfl) T.z_len PySem.boot_len (pa_cons (pv 3) pa_nil)) (pe_cst rfl T.i_MOST_LAID) (nomark _)))))
      (pss_one ps_never)
      pss_nil)
    (pss_cons (ps_for PassesOwn.never rfl (pi_enumM (by rfl) T.z_enumerate (pa_cons (pv 3) pa_nil)) (pg_tup rfl (pgs_cons (pg_name (i := 4) nd rfl (.inl rfl)) (pgs_cons (pg_name (i := 5) nd rfl (.inl rfl)) pgs_nil)))
      (pss_one (ps_if (pt_not (pt_val (pe_cal (c_is_laid T) hr (by decide) pass0 (pa_cons (pv 1) (pa_cons (pv 2) (pa_cons (pv 5) pa_nil))))))
        (pss_one ps_never)
        pss_nil)))
    (pss_cons (ps_fld (pv 0) (pv 1) rfl)
    (pss_cons (ps_fld (pv 0) (pe_callTy call_tuple_of (by rfl) T.z_tuple PyProof.Rows.boot_tuple (pa_cons (pv 2) pa_nil)) rfl)
    (pss_one (ps_fld (pv 0) (pe_callTy call_tuple_of (by rfl) T.z_tuple PyProof.Rows.boot_tuple (pa_cons (pe_lc (own := [("check", 6), ("on", 7)]) rfl nd (pi_tup (pv 3)) (blkOk_by (by kernel_rfl)) (fun _ _ _ _ _ => (kpg_tup K (n := 2) rfl (pgs_cons (pg_name (i := 6) nd rfl (.inl rfl)) (pgs_cons (pg_name (i := 7) nd rfl (.inl rfl)) pgs_nil)))) (fun _ _ _ _ _ => pts_nil) (fun _ _ _ _ _ => (pe_tup (pa_cons (pv 6) (pa_cons (pe_callTy (kcall_tuple_of K) (by rfl) T.z_tuple PyProof.Rows.boot_tuple (pa_cons (pv 7) pa_nil)) pa_nil))))) pa_nil)) rfl)))))))), ?_⟩
    refine ⟨_, rfl, _, true, rfl, .inl ⟨rfl, p, _, rfl, .inr hp⟩, fun H1 s1 => ⟨true, rfl, iteF ?_⟩⟩
    have hp1 := same_t s1 hp
    refine ⟨_, rfl, p, _, rfl, .inr hp1, 1, _, rfl, rfl, _, rfl, ite2 (fun c => ?_) (fun c => (c (decide_eq_true (by rw [List.length_map]; omega))).elim)⟩
    refine ⟨_, _, rfl, rfl, _, rfl, ite2 (fun c => ?_) (fun _ => ?_)⟩
    · rw [decide_eq_true (show ((sd.cells.map V.int).length : Int) ≤ 200 by rw [List.length_map]; omega)] at c
      cases c
    obtain ⟨ba, bdx, bp, bq, bxs, eb, b1, b2, b3, b4⟩ := hb.ex
    cases eb
    refine ⟨_, rfl, p, rfl, ⟨_, hp1⟩, fun D nD => lc_pure (walk_tup (a := p) (xs := sd.cells.map V.int)) nD (by rw [List.length_map]; omega) (fun i zs H => zs = List.replicate i (V.bl true)) (fun _ _ _ _ _ h => h) rfl (fun H s => same_t s hp1) ?_ ?_⟩
    · rintro i x' H3 H4 zs post skip hi s3 hz ⟨rfl, hx'⟩ hpost hskip
      obtain ⟨n, hn, rfl⟩ := getMapInt hx'
      have hbd := h3 n (List.mem_of_getElem? hn)
      have s13 := s1.trans s3
      refine ⟨rfl, _, rfl, _, rfl, b, _, bdx, _, _, rfl, s13 _ _ b1, T.c_Book, T.n_Book_columns, rfl, bp, _, rfl, .inr (same_t s13 b2), n, _, rfl, ?_⟩
      rw [List.length_map, decide_eq_true (show 0 ≤ n ∧ n < (sd.book.cols.length : Int) from hbd)]
      exact hpost _ _ (Same.refl _) (by rw [hz, repl_snoc])
    rintro H3 zs s3 hD hz
    refine ⟨D, List.replicate (sd.cells.map V.int).length true, rfl, ?_, ?_⟩
    · rw [map_true, ← hz]
      exact SqL.of hD
    rw [all_true]
    refine ⟨true, rfl, iteF ?_⟩
    have s03 := s1.trans s3
    refine ⟨_, rfl, _, true, rfl, .inl ⟨rfl, q, _, rfl, .inr (same_t s03 hq)⟩, fun H4 s4 => ⟨true, rfl, iteF ?_⟩⟩
    have s04 := s03.trans s4
    have hq4 := same_t s04 hq
    have hll := hl.1
    refine ⟨_, rfl, q, xs, rfl, .inr hq4, _, _, rfl, rfl, _, rfl, ite2 (fun c => ?_) (fun _ => ?_)⟩
    · have := of_decide_eq_true c
      omega
    have hl4 := hl.imp fun v l (h : LdV K H v l) => h.kp (Kp.of s04)
    have hb4 := hb.kp (Kp.of s04)
    have hp4 := same_t s04 hp
    refine ⟨_, rfl, false, q, xs, rfl, hq4, for_it (walk_enumM (l := false)) (fun i σ H => (∃ v4 v5, σ = [some (.ref x), some (.ref b), some (.ref p), some (.ref q), v4, v5, none, none, none]) ∧ Same H4 H) ⟨⟨none, none, rfl⟩, Same.refl _⟩ (fun i σ H _ p => same_t p.2 hq4) ?_ ?_⟩
    · rintro i x' σ H5 H6 hi ⟨⟨v4, v5, rfl⟩, s5⟩ ⟨t, x1, x2, rfl, nT, rfl, e1, e2⟩
      cases e1
      obtain ⟨l, hl1, hl2⟩ := hl4.at e2
      have s6 := s5.trans (same_new (o := .tup [.int (i : Nat), x2]) nT)
      refine ⟨t, _, rfl, SqT.of upd_same, rfl, _, _, rfl, _, _, rfl, rfl, ?_⟩
      refine ⟨_, rfl, _, rfl, _, rfl, _, _, p, sd.book, sd.cells, l, rfl, hb4.kp (Kp.of s6), same_t s6 hp4, hl2.kp (Kp.of s6), h5 l (List.mem_of_getElem? hl1), fun H7 s7 => ⟨true, rfl, iteF ⟨⟨_, _, rfl⟩, s6.trans s7⟩⟩⟩
    · rintro σ H5 ⟨⟨v4, v5, rfl⟩, s5⟩
      have s05 := s04.trans s5
      have hx5 := s05 _ _ hx
      -- the three fields
      refine ⟨_, rfl, _, rfl, x, _, dx, _, rfl, hx5, T.c_Store, T.n_Store_book, (by show 0 < 1000; decide), ?_⟩
      have g6 : Gr x H5 (upd H5 x (.ins (He.ga K "Store") dx (putF "book" (.ref b) []))) := fun c o n e => by rw [upd_ne n]; exact e
      have hx6 : (upd H5 x (.ins (He.ga K "Store") dx (putF "book" (.ref b) []))) x = some (.ins (He.ga K "Store") dx [("book", .ref b)]) := upd_same
      generalize upd H5 x (.ins (He.ga K "Store") dx (putF "book" (.ref b) [])) = H6 at g6 hx6 ⊢
      have g06 : Gr x H H6 := (Gr.of s05).trans g6
      have hp6 := sqt_gr hx g06 hp
      refine ⟨_, rfl, p, _, rfl, .inr ⟨hp6, _, rfl, x, _, dx, _, rfl, hx6, T.c_Store, T.n_Store_cells, (by show 1 < 1000; decide), ?_⟩⟩
      have g7 : Gr x H6 (upd H6 x (.ins (He.ga K "Store") dx (putF "cells" (.ref p) [("book", .ref b)]))) := fun c o n e => by rw [upd_ne n]; exact e
      have hx7 : (upd H6 x (.ins (He.ga K "Store") dx (putF "cells" (.ref p) [("book", .ref b)]))) x = some (.ins (He.ga K "Store") dx [("book", .ref b), ("cells", .ref p)]) := upd_same
      generalize upd H6 x (.ins (He.ga K "Store") dx (putF "cells" (.ref p) [("book", .ref b)])) = H7 at g7 hx7 ⊢
      have g07 : Gr x H H7 := g06.trans g7
      have hq7 := sqt_gr hx g07 hq
      have hl7 := hl.imp fun v l (h : LdV K H v l) => h.ins hx g07
      refine ⟨_, rfl, q, rfl, ⟨_, hq7⟩, fun D2 nD2 => lc_pure (walk_tup (a := q) (xs := xs)) nD2 (by omega) (fun i zs H => Al (LdV K H) zs (sd.laid.take i)) (fun i zs H H' k h => h.imp fun v l h => h.kp k) (by rw [List.take_zero]; exact Al.nil) (fun H s => same_t s hq7) ?_ ?_⟩
      · rintro i x' H8 H9 zs post skip hi s8 hz ⟨rfl, e⟩ hpost hskip
        obtain ⟨l, hl1, hl2⟩ := hl7.at e
        obtain ⟨a, pa, rfl, l1, l2⟩ := (hl2.kp (Kp.of s8)).ex
        refine ⟨a, _, rfl, l1, rfl, _, _, rfl, _, _, rfl, rfl, rfl, ?_⟩
        refine ⟨_, rfl, _, rfl, pa, _, rfl, .inr ⟨l2, (by show 2 ≤ sizeLine; decide), fun t nt => ?_⟩⟩
        have s9 := same_new (o := .tup [.int (l.1 : Nat), .ref pa]) nt
        refine hpost _ _ s9 ?_
        rw [take_snoc hl1]
        exact (hz.imp fun v l h => h.kp (Kp.of s9)).snoc ⟨t, pa, rfl, SqT.of upd_same, same_t s9 l2⟩
      · rintro H8 zs s8 hD2 hz
        rw [hll, List.take_length] at hz
        refine ⟨D2, zs, rfl, .inl ⟨SqL.of hD2, fun t nt => ?_⟩⟩
        have s9 := same_new (o := .tup zs) nt
        have s79 := s8.trans s9
        have hx9 := s79 _ _ hx7
        refine ⟨_, rfl, x, _, dx, _, rfl, hx9, T.c_Store, T.n_Store_laid, (by show 2 < 1000; decide), ?_⟩
        have g10 : Gr x (upd H8 t (.tup zs)) (upd (upd H8 t (.tup zs)) x (.ins (He.ga K "Store") dx (putF "laid" (.ref t) [("book", .ref b), ("cells", .ref p)]))) := fun c o n e => by rw [upd_ne n]; exact e
        have g0 := g07.trans ((Gr.of s79).trans g10)
        exact fin _ g0 ⟨x, dx, .ref b, p, t, zs, rfl, upd_same, hb.gr hx hbx g0, sqt_gr hx g0 hp, sqt_gr hx9 g10 (SqT.of upd_same), (hz.imp fun v l (h : LdV K H8 v l) => (h.kp (Kp.of s9)).ins hx9 g10)⟩
theorem m_Store (T : Tx K mg) : Mkn P w K mg base CX0 6 "Store" (He.ga K "Store") (spStoreI K) [] := by
  obtain ⟨fd, FD, F⟩ := k_Store_init (P := P) (w := w) (base := base) T
  obtain ⟨ds, h1, h2⟩ := FD.binds1 (ps := ["self", "book", "cells", "laid"]) 4 1 (by intro z; cases z) rfl fun _ _ _ _ _ _ _ us its hu hi => match us, hu, its, hi with | [_, _, _, _], _, [_], _ => ⟨_, rfl, rfl⟩
  cases h1
  exact ⟨_, fd, _, [], T.m_Store, F, T.g_Store, h2, .nil⟩
theorem m_Store1 (T : Tx K mg) : Mkn P w K mg base CX0 6 "Store" (He.ga K "Store") (spStoreI K) [V.ref (He.dflAt ("Store", some "__init__") 0 K)] := by
  obtain ⟨fd, FD, F⟩ := k_Store_init (P := P) (w := w) (base := base) T
  obtain ⟨ds, h1, h2⟩ := FD.binds1 (ps := ["self", "book", "cells", "laid"]) 3 0 (by intro z; cases z) rfl fun _ _ _ _ _ _ _ us its hu hi => match us, hu, its, hi with | [_, _, _], _, [_], _ => ⟨_, rfl, rfl⟩
  exact ⟨_, fd, _, ds, T.m_Store, F, T.g_Store, h2, h1⟩
end
end K29
namespace K29
open PySem PySem.Spec PyProof.Rows L2
open PySem.Sem (wp)
/-! ### super().__init__(..) in an own exception over ValueError -/
/-- the built-in __init__ bound to the exception at x -/
def mwO (u x : Addr) : HO := .ext fun h => h.get? u = some (PySem.W.kxs_mw "ValueError.__init__" x)
theorem mwO_ok {P : Program} {w : World} {H : Hp} {h : Heap} {u x : Addr} (e : h.get? u = some (PySem.W.kxs_mw "ValueError.__init__" x)) : ObjOk P w H h u (mwO u x) := ⟨e, ⟨_, e⟩, fun h1 h2 z k => k _ z⟩
theorem mwO_at {P : Program} {w : World} {H : Hp} {h : Heap} {u x : Addr} (hok : HOk P w H h) (e : H u = some (mwO u x)) : h.get? u = some (PySem.W.kxs_mw "ValueError.__init__" x) := by
  have q : ObjOk P w H h u (.ext fun h => h.get? u = some (PySem.W.kxs_mw "ValueError.__init__" x)) := hok u _ e
  exact q.1
section
variable {prog : Program} {w : World} {A : Around} {E : Value → Shared → Prop} {h : Heap} {g : Array GenState} {d : Drawn} {t : Nat} {os : OsState}
variable {nm q : Str} {C N : Addr} {bs bm : List Value} {hdct : Bool} {sn : List Str} {sub : List Value} {ab : Bool} {col : Option Bool} {dd : Option Addr} {k0 k1 k2 k3 k5 : Option Value}
theorem call_mwVE {u e t0 : Addr} {rest : List Value} {Q : Value → Shared → Prop}
    (hC : h.get? C = some (excClassObj nm q C N bs bm hdct sn sub ab col dd k0 k1 k2 k3 k5 "ValueError.__new__")) (he : h.get? e = some (HandSPX.excO C t0)) (hu : h.get? u = some (PySem.W.kxs_mw "ValueError.__init__" e)) (hrest : rest.length ≤ sizeLine)
    (hq : ∀ h' t1, (∀ b o, b ≠ e → h.get? b = some o → h'.get? b = some o) → h'.get? e = some (HandSPX.excO C t1) → Q .none ⟨h', g, d, t, os⟩) :
    wpAny (model prog w) A (call (.ref u) rest) Q E ⟨h, g, d, t, os⟩ := by
  refine wpAny_call (codeAny_of_tree ?_)
  show wpAny _ A.in1 (callAny (.ref u) ⟨rest, []⟩) _ _ _
  simp only [callAny]
  refine wpAny_bind (wpAny_load hu ?_)
  simp only [PySem.W.kxs_mw, show (Value.type "method-wrapper" == Value.type "method" || Value.type "method-wrapper" == Value.type "builtin_function_or_method" || Value.type "method-wrapper" == Value.type "method-wrapper") = true by decide, if_true]
  refine PySem.W.KFB.if_so (by decide) ?_
  refine wpAny_bind (PySem.ESX.check_bound F.excBase_ValueError hC he rfl ?_)
  refine wpAny_bind (wpAny_pure (wpAny_pure ?_))
  refine ⟨Code.quiet_builtin _ (by decide +kernel), codeAny_builtin F.excBase_ValueError.initEntry ?_⟩
  rw [Around.under_plainId F.excBase_ValueError.init.plain _]
  wp_walk
  refine hq _ h.objs.size (fun b o hb ho => ?_) ?_
  · rw [Heap.get?_update_other _ _ (Ne.symm hb)]
    exact Heap.get?_push_of_some _ ho
  · rw [Heap.get?_update_self _ (Heap.get?_push_of_some _ he) rfl]
    rfl
end
/-- what the written part says of an exception class and its __init__(self, at): super().__init__(msg); self.at = at -/
structure ExF (P : Program) (K : PySem.W.Frag) (C fI : Addr) (qual at_ msg : Str) (params : Arguments) (body : List Stmt) (scope : Scope) : Prop where
  oex : OexC K C
  ini : PySem.W.findIn K (.ref C) "__init__" = some (some (.ref fI))
  tyf : PySem.W.typeIn K (.ref fI) = some (.type "function")
  fn : ∃ (oc : Value) (od : Option Addr) (kV doc pm : Value) (an : Option Addr) (cda : Addr) (ct : Value) (cc : Addr) (osl : Array (Option Value)),
    K.lookup fI = some ⟨oc, od, .func (PySem.W.ksFn "__init__" qual params body scope .none kV doc pm an (.ref cda) ct cc), osl⟩ ∧ PySem.W.codeIn K (.ref cda) qual = true ∧
    (∃ (ccl : Value) (cdd : Option Addr) (vs : Array Value) (ccs : Array (Option Value)) (tf : Tok), K.lookup cda = some ⟨ccl, cdd, .fields vs, ccs⟩ ∧ vs[2]? = some (.str P.main.file tf)) ∧
    ∃ (cl : Value) (cld : Option Addr) (csl : Array (Option Value)), K.lookup cc = some ⟨cl, cld, .cell (some (.ref C)), csl⟩
  own : PySem.W.mroIn K C (.ref C) = some true
  sup : PySem.W.ks_superIn K C C "__init__" = some (some (.builtin "ValueError.__init__"))
  sub : PySem.W.subIn K (.ref C) (.type "ValueError") = some true
  noat : PySem.W.findIn K (.ref C) at_ = some none
  any : PySem.W.nsIn K cStatics "thirdparty.any" = some none
  top : (P.main.scope.names.lookup ("super" : Str)).isSome = false
/-- __init__(self, at) of an exception that is being made -/
def spEx (C : Addr) (at_ : Str) : Sp := fun vs H Q _ => ∃ (a : Addr) (y : V), vs = [.ref a, y] ∧ H a = some (exo a C none) ∧ ∀ H1 d, Same H H1 → H1 d = none → d ≠ a → Q .non (upd (upd H1 d (exd d [(at_, y)])) a (exo a C (some d)))
theorem fnok_ex {P : Program} {w : World} {K : PySem.W.Frag} {mg : Str → Option Value} {base : Heap} {CX : CXT} {k : Nat} {C fI : Addr} {qual at_ msg : Str} {params : Arguments} {body : List Stmt} {scope : Scope} {kk : Option Str} {p0 p1 p2 p3 p4 p5 p6 p7 p8 p9 : Pos} {ck : Nat}
    (T : ExF P K C fI qual at_ msg params body scope) (hz : mg "super" = none) (hat : at_ ≠ "self") (hbody : body = [.Expr (.Call (.Attribute (.Call (.Name "super" p0) [] [] p1) "__init__" p2) [.Constant (.str msg) ck p3] [] p4) p5, .Assign [.Attribute (.Name "self" p6) at_ p7] (.Name at_ p8) p9])
    {pl : Sem Bool} (heval : ∀ env : Env, eval (.Call (.Attribute (.Call (.Name "super" p0) [] [] p1) "__init__" p2) [.Constant (.str msg) ck p3] [] p4) env = (do
      let ov ← attributeBase (.Call (.Name "super" p0) [] [] p1) "__init__" env (eval (.Call (.Name "super" p0) [] [] p1) env)
      standAt p2.atName
      let (f, first) ← holding [ov] (getMethod ov "__init__" pl)
      callWith p4 f first (backTo p4 (starEach [.Constant (.str msg) ck p3] env)) []))
    (S : NdefX.NScope ["self", at_, "__class__"] ["self", at_] ["__class__"] scope) (hsup : scope.names.lookup ("super" : Str) = some .globalImplicit) (hdb : (at_ == ("__debug__" : Str)) = false) (hcd : (at_ == ("__classdict__" : Str)) = false)
    (har : (params.posonlyargs ++ params.args).head?.map (·.arg) = some "self")
    (hbind : ∀ (kV doc pm : Value) (an : Option Addr) (cda : Addr) (ct : Value) (cc : Addr) (us : List Value), us.length = 2 → bindArgs (PySem.W.ksFn "__init__" qual params body scope .none kV doc pm an (.ref cda) ct cc) ⟨us, []⟩ = pure ((["self", at_] : List Str).zip us)) :
    ∃ fd, FnOk P w K mg base CX (k + 1) fI fd ["self", at_] (spEx C at_) ∧ Binds K fd ["self", at_] [] := by
  obtain ⟨oc, od, kV, doc, pm, an, cda, ct, cc, osl, lk, hcode, ⟨ccl, cdd, vs2, ccs, tf, lc, hvs⟩, ⟨cl, cld, csl, lcell⟩⟩ := T.fn
  obtain ⟨nm, q, N, bs, bm, sn, sub, ab, col, dd, k0, k1, k2, k3, k5, hC, hbm⟩ := T.oex.cls
  have hcl : PySem.W.clsIn K C = some { name := nm, bases := bs, mro := .ref C :: bm, ns := N, qualname := q, hasDict := true, slotNames := sn, subclasses := sub, abstract := ab, collection := col, hasDel := false } := by unfold PySem.W.clsIn; rw [hC] <;> rfl
  obtain ⟨ar, har1, har2⟩ := Option.map_eq_some_iff.mp har
  refine ⟨_, ⟨fun vs H Q E h => ?_, fun A outer s H args us vs Q E hr e0 hbt r hsp => ?_⟩, .all fun us hl => hbind kV doc pm an cda ct cc us hl⟩
  · obtain ⟨a, y, rfl, _⟩ := h
    rfl
  obtain ⟨a, y, rfl, ha, fin⟩ := hsp
  have KX : K.In s.heap := e0.mod.kin.keeps fun b o e => (e0.bs b o e).1
  have lim : s.heap.NoLimit := e0.mod.nolimit.keeps fun b o e => (e0.bs b o e).1
  have hcc0 : H cc = none := (e0.bs cc _ (e0.mod.kin _ _ lcell)).2
  obtain ⟨u1, u2, rfl, r1, r2⟩ := vals2 r
  cases (show u1 = Value.ref a from r1)
  refine ks_codeAny_call_defAt (fd := PySem.W.ksFn "__init__" qual params body scope .none kV doc pm an (.ref cda) ct cc) (body := body) (binds := (["self", at_] : List Str).zip [.ref a, u2]) hr.depth (KX _ _ lk) rfl lim (PySem.W.codeRec_of KX hcode) rfl hbt S.nocell (fun x hx => ?_) (fun h₁ hns kp => ?_) S.co S.gen S.kind
  · obtain ⟨n, v⟩ := x
    exact S.par n (List.of_mem_zip hx).1
  let F : NdefX.NF := ⟨"__init__", qual, params, body, scope, [("__class__", cc)], cda⟩
  have CA : NdefX.CellsAt F.cl ["__class__"] [some (.ref C)] s.heap H := by
    refine ⟨rfl, fun y c e => ?_, fun x y c e1 e2 => ?_, fun i y e => ?_⟩
    · have e : (if y == "__class__" then some cc else none) = some c := by
        cases hy : (y == ("__class__" : Str)) with
        | true => simpa [F, List.lookup, hy] using e
        | false => simp [F, List.lookup, hy] at e
      split at e
      · cases e
        exact ⟨hcc0, _, _, KX _ _ lcell, rfl⟩
      · cases e
    · have key : ∀ z, F.cl.lookup z = some c → z = "__class__" := fun z hz => by
        cases hy : (z == ("__class__" : Str)) with
        | true => exact eq_of_beq hy
        | false => simp [F, List.lookup, hy] at hz
      rw [key x e1, key y e2]
    · match i, e with
      | 0, e =>
        cases e
        refine ⟨cc, by simp [F, List.lookup], fun v hv => ?_⟩
        cases hv
        exact ⟨.ref C, rfl, _, KX _ _ lcell, rfl⟩
      | i + 1, e => simp at e
  have I : Inv (NdefX.ncx CX P w K mg base ["self", at_, "__class__"] F fI A outer s H E) [] (NdefX.startF ["self", at_, "__class__"] [.ref a, y] [some (.ref C)]) H { s with heap := h₁, toks := s.toks + ((["self", at_] : List Str).zip [Value.ref a, u2]).length } :=
    NdefX.inv_startN S hr.hd e0 rfl r CA hns kp
  subst hbody
  let X : Cx := NdefX.ncx CX P w K mg base (["self", at_, "__class__"] : List Str) F fI A outer s H E
  have I : Inv X [] (NdefX.startF (["self", at_, "__class__"] : List Str) [.ref a, y] [some (.ref C)]) H { s with heap := h₁, toks := s.toks + ((["self", at_] : List Str).zip [Value.ref a, u2]).length } := I
  -- what follows super().__init__(..)
  have tail : PSs X [.Assign [.Attribute (.Name "self" p6) at_ p7] (.Name at_ p8) p9] (tSeq (tOst K at_ (tVar 0) (tVar 1)) tNext) :=
    pss_one (ps_ost (pe_var (i := 0) rfl (.inl (S.par _ (by simp)))) (pe_var (i := 1) rfl (.inl (S.par _ (by simp))) hdb hcd))
  have args : PA X [.Constant (.str msg) ck p3] (tCons (tC (.str msg)) tNil) := pa_cons pe_str pa_nil
  have X1 : K.In h₁ := KX.keeps kp
  obtain ⟨t1, hx⟩ := exo_at I.hok ha
  obtain ⟨mb, hb1, hb2⟩ := I.mod.blt
  have hx : h₁.get? a = some ({ cls := .ref C, dict := none, data := .fields #[.ref t1, .none, .none, .none, .bool false, .none] } : Obj) := hx
  have hbk : ∀ b o, base.get? b = some o → h₁.get? b = some o := fun b o e => kp b o (e0.bs b o e).1
  have haC : a ≠ C := fun z => by
    have e1 := X1 _ _ hC
    rw [← z, hx] at e1
    cases e1
  have hD1 := X1 _ _ hC
  show PySem.wpAt (model X.prog X.w) X.A _ (execs _ X.env) _ X.xe _
  refine ks_wpAt_execs_cons (ks_wpAt_Expr_any (ks_wpAt_MethodCall (pl := pl) ?_ (heval _)) (by unfold interactive; rw [show X.env.scope.kind = .function from S.kind]; rfl))
  refine ks_wpAt_super_base (env := X.env) (f := fI) (cc := cda) hsup (S.frk _ (by simp)) (by decide) rfl (X1 _ _ lk) rfl har1 rfl (X1 _ _ lc) rfl hvs (beq_self_eq_true _) T.top ?_
  refine PySem.W.ks_loadName_global S.kind hsup (Calls.loadGlobal_builtin (env := X.env) (I.mod.glob.keeps hbk) hz (hb1.keeps hbk) ((hb2 "super" (by decide)).trans (by decide +kernel)) ⟨rfl, ?_⟩)
  refine wpAny_loadName_free S.kind (S.frk _ (by simp)) rfl ⟨_, X1 _ _ lcell, rfl⟩ ?_
  rw [har2]
  refine wpAny_loadName_local S.kind (S.par _ (by simp)) hns (NdefX.zip_look (i := 0) (by simp [hat, Ne.symm hat]) rfl rfl) ?_
  refine ks_wpAny_isType_cls hD1 rfl ⟨rfl, ?_⟩
  refine ks_wpAny_call_super hD1 rfl hx rfl (fun c z => by cases z) (PySem.W.looks_mroIn X1 T.own) (fun h2 e2 k2 => ?_)
  have I2 : Inv X [] (NdefX.startF (["self", at_, "__class__"] : List Str) [.ref a, y] [some (.ref C)]) H { s with heap := h2, toks := s.toks + ((["self", at_] : List Str).zip [Value.ref a, u2]).length } := I.kept (h' := h2) k2
  have X2 : K.In h2 := X1.keeps k2
  have hx2 := k2 _ _ hx
  have IA : PySem.W.InstAt h2 a { cls := .ref C, dict := none, data := .fields #[.ref t1, .none, .none, .none, .bool false, .none] } C none := ⟨hx2, rfl, rfl, trivial⟩
  have hsup2 : PySem.W.alongIn K "__init__" (((Value.ref C :: bm).dropWhile (· != .ref C)).drop 1) = some (some (.builtin "ValueError.__init__")) := by
    have q := T.sup
    unfold PySem.W.ks_superIn at q
    rw [hcl] at q
    exact q
  refine PySem.W.kxs_getMethod PySem.W.kxs_ValueError e2 (PySem.W.looks_opaque X2 T.any) (l₀ := .ref C :: bm) ((PySem.W.looks_clsIn X2 hcl).andThen .now) rfl X2 hsup2 (IA.type.andThen (PySem.W.looks_subIn X2 T.sub)) haC (by decide) ?_
  have hmw : (h2.push (PySem.W.kxs_mw "ValueError.__init__" a)).get? h2.objs.size = some (PySem.W.kxs_mw "ValueError.__init__" a) := Heap.get?_push_size _ rfl
  have hnu : H h2.objs.size = none := I2.hok.fresh (Nat.le_refl _)
  have I3 : Inv X [] (NdefX.startF (["self", at_, "__class__"] : List Str) [.ref a, y] [some (.ref C)]) (upd H h2.objs.size (mwO h2.objs.size a)) { s with heap := h2.push (PySem.W.kxs_mw "ValueError.__init__" a), toks := s.toks + ((["self", at_] : List Str).zip [Value.ref a, u2]).length + 1 } :=
    I2.laid (h' := h2.push (PySem.W.kxs_mw "ValueError.__init__" a)) (fun b o e => Heap.get?_push_of_some _ e) (Nat.le_refl _) (mwO_ok hmw)
  have sm : Same H (upd H h2.objs.size (mwO h2.objs.size a)) := same_new hnu
  generalize hH2 : upd H h2.objs.size (mwO h2.objs.size a) = H2 at I3 sm
  have hu2 : H2 h2.objs.size = some (mwO h2.objs.size a) := by rw [← hH2]; exact upd_same
  have ha2 : H2 a = some (exo a C none) := sm _ _ ha
  refine PySem.W.kxs_callWith (i := "ValueError.__init__") (x := a) (first := []) rfl (Calls.evalArgs_plain (thn (args.run p4 [] _ _ H2 (fun vs H3 => vs = [.str msg] ∧ H3 = H2) I3 ⟨rfl, rfl⟩) fun us s4 ⟨vs, H3, I4, r4, ev, eH⟩ => ?_))
  subst ev eH
  refine ⟨mwO_at I4.hok hu2, ?_⟩
  obtain ⟨t4, hx4⟩ := exo_at I4.hok ha2
  have hl4 : us.length ≤ sizeLine := by
    rw [← Paired.length r4]
    show 1 ≤ sizeLine
    decide
  have X4 := I4.kIn
  obtain ⟨h4, g4, d4, k4, o4⟩ := s4
  refine call_mwVE (X4 _ _ hC) hx4 (mwO_at I4.hok hu2) hl4 fun h5 t5 k5' hx5 => ?_
  have J := I4.write (t' := k4) (x := a) (e := a) (o := exo a C none) (by rw [ha2]; exact True.intro) (.inl rfl) k5' ⟨_, hx5⟩ (exo_ok hx5)
  have eu : upd H3 a (exo a C none) = H3 := by
    funext b
    by_cases hb : b = a
    · rw [hb, upd_same, ha2]
    · rw [upd_ne hb]
  rw [eu] at J
  refine wpAt_of_wpAny ?_
  refine wpAny_mono (tail.run [] _ _ H3 { nx := fun _ H' => Q .non H', rt := Q } J ?_) (fun fl s' hs => ?_) fun e s' hs => hs
  · refine ⟨y, rfl, .ref a, rfl, a, C, rfl, T.oex, T.noat, .inl ⟨ha2, fun dx n ne => ?_⟩⟩
    exact fin _ dx sm n ne
  · have fin : ∀ {σ' : L2.St} {H' : Hp} {v : V} {u : Value}, Inv X [] σ' H' s' → L2.RelV v u → Q v H' → CE outer P w H s Q u s' :=
      fun {σ' H' v u} J rv q => ⟨v, H', J.os, J.bare, J.base, J.hok, rv, q⟩
    cases fl with
    | ret u =>
      obtain ⟨v, σ', H', J, rv, q⟩ := hs
      exact fin J rv q
    | next =>
      obtain ⟨σ', H', J, q⟩ := hs
      exact fin (v := V.non) (u := Value.none) J rfl q
    | brk =>
      obtain ⟨_, _, _, q⟩ := hs
      exact False.elim q
    | cont =>
      obtain ⟨_, _, _, q⟩ := hs
      exact False.elim q
end K29
namespace K29
open PySem PySem.Spec PyProof.Rows L2
/-! ### own exceptions made -/
structure Exm (P : Program) (w : World) (K : PySem.W.Frag) (mg : Str → Option Value) (base : Heap) (k : Nat) (x : Str) (C : Addr) (at_ : Str) : Prop where
  ex : ∃ (fI : Addr) (fd : FuncData), OexC K C ∧ PySem.W.findIn K (.ref C) "__init__" = some (some (.ref fI)) ∧ PySem.W.typeIn K (.ref fI) = some (.type "function") ∧ FnOk P w K mg base CX0 k fI fd ["self", at_] (spEx C at_) ∧ Binds K fd ["self", at_] [] ∧ mg x = some (.ref C)
theorem pmk_exm {X : Cx} {k j : Nat} {x at_ : Str} {C : Addr} {e : Expr} {p pos : Pos} {ta : TA} (c : Exm X.prog X.w X.K X.mg X.base k x C at_) (hr : Room j X.A) (hk : k + 1 ≤ j) (ha : PA X [e] ta) (hg : Gl X x := by rfl)
    (hdb : (x == ("__debug__" : Str)) = false := by decide) (he : starEach [e] X.env = (false, eval e X.env) :: starEach [] X.env := by rfl) (hpl : (backTo pos (starEach [] X.env)).any (·.1) = false := by rfl) :
    PMk X (.Call (.Name x p) [e] [] pos) (tMkO C (spEx C at_) [] ta) := by
  obtain ⟨fI, fd, T, iC, tI, F, hb, hm⟩ := c.ex
  exact pmk_oex (dvs := []) (ds := []) T iC tI F (hr.mono hk) hb .nil pass0 hg hm ha hdb he hpl
theorem mkE_of {C : Addr} {at_ : Str} {y : V} {H1 : Hp} {Q : XK} (h : ∀ H4 d, Same H1 H4 → H4 d = some (.xd [(at_, y)]) → Q (.ref C) (some d) H4) :
    [y].length ≤ 1000 ∧ ∀ a, H1 a = none → spEx C at_ (.ref a :: ([y] ++ [])) (upd H1 a (exo a C none))
      (fun v H2 => v = .non ∧ ∃ (d : Addr) (fs : List (Str × V)), H2 a = some (exo a C (some d)) ∧ H2 d = some (exd d fs) ∧ H1 d = none ∧ Q (.ref C) (some d) (upd (del H2 a) d (.xd fs))) (fun _ _ _ => False) := by
  refine ⟨by show 1 ≤ 1000; decide, fun a na => ⟨a, y, rfl, upd_same, fun H3 d s3 nd hda => ⟨rfl, d, [(at_, y)], upd_same, by rw [upd_ne hda, upd_same], ?_, ?_⟩⟩⟩
  · cases e : H1 d with
    | none => rfl
    | some o =>
      have := s3 d o (by rw [upd_ne hda]; exact e)
      rw [nd] at this
      cases this
  · refine h _ d (fun b o e => ?_) upd_same
    have hba : b ≠ a := ne_of_none e na
    have h3 : H3 b = some o := s3 b o (by rw [upd_ne hba]; exact e)
    have hbd : b ≠ d := ne_of_none h3 nd
    rw [upd_ne hbd, del_ne hba, upd_ne hba, upd_ne hbd]
    exact h3
/-- an exception is let out of a def's own body -/
theorem ps_raiseE {X : Cx} {E : XK} {k j : Nat} {x at_ : Str} {C : Addr} {e : Expr} {p pos pos2 : Pos} {ta : TA} (tk : Takes X (fun cls d _ H => E cls d H)) (c : Exm X.prog X.w X.K X.mg X.base k x C at_) (hr : Room j X.A) (hk : k + 1 ≤ j) (ha : PA X [e] ta) (hc : X.calm = true := by rfl) (hg : Gl X x := by rfl)
    (hdb : (x == ("__debug__" : Str)) = false := by decide) (he : starEach [e] X.env = (false, eval e X.env) :: starEach [] X.env := by rfl) (hpl : (backTo pos (starEach [] X.env)).any (·.1) = false := by rfl) :
    PS X (.Raise (some (.Call (.Name x p) [e] [] pos)) none pos2) (fun _ σ H => tMkO C (spEx C at_) [] ta σ H E) := ps_raise hc tk (pmk_exm c hr hk ha hg hdb he hpl)
/-- what the head is to say of the exceptions -/
structure Ex3 (P : Program) (w : World) (K : PySem.W.Frag) (mg : Str → Option Value) (base : Heap) : Prop where
  bs : Exm P w K mg base 1 "BadState" (He.ga K "BadState") "at"
  rf : Exm P w K mg base 1 "Refused" (He.ga K "Refused") "at"
  tg : Exm P w K mg base 1 "TooGreat" (He.ga K "TooGreat") "most"
end K29
/-! The plain law: lots of set cells, the two searches. Core Lean alone, no program in sight. -/
namespace K29
/-- a cell put in where it belongs -/
def insN (c : Nat) : List Nat → List Nat
  | [] => [c]
  | x :: xs => if c ≤ x then c :: x :: xs else x :: insN c xs
theorem insN_perm (c : Nat) : ∀ L, (insN c L).Perm (c :: L)
  | [] => List.Perm.refl _
  | x :: xs => by
    unfold insN
    split
    · exact List.Perm.refl _
    · exact ((insN_perm c xs).cons x).trans (List.Perm.swap c x xs)
theorem mem_insN {c x : Nat} {L : List Nat} : x ∈ insN c L ↔ x = c ∨ x ∈ L := by
  rw [(insN_perm c L).mem_iff, List.mem_cons]
theorem insN_length (c : Nat) (L : List Nat) : (insN c L).length = L.length + 1 := by
  rw [(insN_perm c L).length_eq, List.length_cons]
theorem insN_asc {c : Nat} : ∀ {L : List Nat}, L.Pairwise (· < ·) → c ∉ L → (insN c L).Pairwise (· < ·)
  | [], _, _ => by simp [insN]
  | x :: xs, h, hc => by
    rw [List.pairwise_cons] at h
    obtain ⟨h1, h2⟩ := h
    rw [List.mem_cons, not_or] at hc
    unfold insN
    split
    · rename_i hcx
      have hlt : c < x := by omega
      refine List.pairwise_cons.mpr ⟨fun y hy => ?_, List.pairwise_cons.mpr ⟨h1, h2⟩⟩
      rcases List.mem_cons.mp hy with rfl | hy
      · exact hlt
      · exact Nat.lt_trans hlt (h1 y hy)
    · rename_i hcx
      refine List.pairwise_cons.mpr ⟨fun y hy => ?_, insN_asc h2 hc.2⟩
      rcases mem_insN.mp hy with rfl | hy
      · omega
      · exact h1 y hy
/-- ascending lists of the same things are one -/
theorem asc_unique : ∀ {L M : List Nat}, L.Pairwise (· < ·) → M.Pairwise (· < ·) → (∀ x, x ∈ L ↔ x ∈ M) → L = M
  | [], [], _, _, _ => rfl
  | [], y :: ys, _, _, h => absurd ((h y).mpr (List.mem_cons_self ..)) (by simp)
  | x :: xs, [], _, _, h => absurd ((h x).mp (List.mem_cons_self ..)) (by simp)
  | x :: xs, y :: ys, h1, h2, h => by
    rw [List.pairwise_cons] at h1 h2
    have e : x = y := by
      rcases Nat.lt_trichotomy x y with q | q | q
      · rcases List.mem_cons.mp ((h x).mp (List.mem_cons_self ..)) with e | hm
        · exact e
        · have := h2.1 x hm
          omega
      · exact q
      · rcases List.mem_cons.mp ((h y).mpr (List.mem_cons_self ..)) with e | hm
        · exact e.symm
        · have := h1.1 y hm
          omega
    subst e
    rw [asc_unique h1.2 h2.2 fun z => ?_]
    constructor
    · intro hz
      rcases List.mem_cons.mp ((h z).mp (List.mem_cons_of_mem _ hz)) with e | q
      · have := h1.1 z hz
        omega
      · exact q
    · intro hz
      rcases List.mem_cons.mp ((h z).mpr (List.mem_cons_of_mem _ hz)) with e | q
      · have := h2.1 z hz
        omega
      · exact q
theorem asc_nodup {L : List Nat} (h : L.Pairwise (· < ·)) : L.Nodup := h.imp fun h => Nat.ne_of_lt h
/-- sorted ints that are a permutation are one list -/
theorem sorted_unique : ∀ {L M : List Int}, L.Pairwise (· ≤ ·) → M.Pairwise (· ≤ ·) → L.Perm M → L = M
  | [], M, _, _, p => (List.Perm.nil_eq p)
  | x :: xs, [], _, _, p => absurd p.length_eq (by simp)
  | x :: xs, y :: ys, h1, h2, p => by
    have k1 := List.pairwise_cons.mp h1
    have k2 := List.pairwise_cons.mp h2
    have e : x = y := by
      have a : x ∈ y :: ys := p.mem_iff.mp (List.mem_cons_self ..)
      have b : y ∈ x :: xs := p.mem_iff.mpr (List.mem_cons_self ..)
      rcases List.mem_cons.mp a with a | a
      · exact a
      · rcases List.mem_cons.mp b with b | b
        · exact b.symm
        · have := k1.1 y b
          have := k2.1 x a
          omega
    subst e
    rw [sorted_unique k1.2 k2.2 (List.Perm.cons_inv p)]
/-- sorted(done + (cell,)) -/
theorem sorted_insN {L : List Nat} {c : Nat} {ns : List Int} (hL : L.Pairwise (· < ·)) (hc : c ∉ L) (hp : ns.Perm ((L ++ [c]).map (fun x : Nat => (x : Int)))) (hs : ns.Pairwise (· ≤ ·)) : ns = (insN c L).map (fun x : Nat => (x : Int)) := by
  refine sorted_unique hs ?_ (hp.trans ?_)
  · rw [List.pairwise_map]
    exact (insN_asc hL hc).imp fun h => by omega
  · refine List.Perm.map _ ?_
    exact ((List.perm_append_comm (l₁ := L) (l₂ := [c])).trans (insN_perm c L).symm)

/-! ### what can be come to -/
inductive Rch (ok : List Nat → Bool) (cells : List Nat) : List Nat → Prop
  | nil : Rch ok cells []
  | step {L : List Nat} {c : Nat} : Rch ok cells L → c ∈ cells → c ∉ L → ok (insN c L) = true → Rch ok cells (insN c L)
section
variable {ok : List Nat → Bool} {cells : List Nat}
theorem Rch.asc {L : List Nat} (h : Rch ok cells L) : L.Pairwise (· < ·) := by
  induction h with
  | nil => exact List.Pairwise.nil
  | step _ _ hn _ ih => exact insN_asc ih hn
theorem Rch.sub {L : List Nat} (h : Rch ok cells L) : ∀ x ∈ L, x ∈ cells := by
  induction h with
  | nil => intro x hx; cases hx
  | step _ hc _ _ ih =>
    intro x hx
    rcases mem_insN.mp hx with rfl | hx
    · exact hc
    · exact ih x hx
/-- a list without doubles, of things of another, is no longer; as long: the same things -/
theorem nodup_len {α : Type} [DecidableEq α] : ∀ {L M : List α}, L.Nodup → (∀ x ∈ L, x ∈ M) → L.length ≤ M.length
  | [], _, _, _ => Nat.zero_le _
  | x :: xs, M, h, hs => by
    rw [List.nodup_cons] at h
    have hx : x ∈ M := hs x (List.mem_cons_self ..)
    have := nodup_len (M := M.erase x) h.2 fun y hy => by
      have hne : y ≠ x := fun e => h.1 (e ▸ hy)
      exact (List.mem_erase_of_ne hne).mpr (hs y (List.mem_cons_of_mem _ hy))
    rw [List.length_erase_of_mem hx] at this
    have : 0 < M.length := List.length_pos_of_mem hx
    rw [List.length_cons]
    omega
theorem nodup_full {α : Type} [DecidableEq α] : ∀ {L M : List α}, L.Nodup → (∀ x ∈ L, x ∈ M) → M.Nodup → L.length = M.length → ∀ x ∈ M, x ∈ L := by
  intro L M hL hs hM hl x hx
  by_cases h : x ∈ L
  · exact h
  · exfalso
    have := nodup_len (M := M.erase x) hL fun y hy => (List.mem_erase_of_ne (fun e : y = x => h (e ▸ hy))).mpr (hs y hy)
    rw [List.length_erase_of_mem hx] at this
    have : 0 < M.length := List.length_pos_of_mem hx
    omega
theorem Rch.full (hC : cells.Pairwise (· < ·)) {L : List Nat} (h : Rch ok cells L) (hl : L.length = cells.length) : L = cells :=
  asc_unique h.asc hC fun x => ⟨h.sub x, nodup_full (asc_nodup h.asc) h.sub (asc_nodup hC) hl x⟩
theorem Rch.ok_all (h0 : ok [] = true) {L : List Nat} (h : Rch ok cells L) : ok L = true := by
  cases h with
  | nil => exact h0
  | step _ _ _ h => exact h
/-- all ascending lots -/
def lotsOf : List Nat → List (List Nat)
  | [] => [[]]
  | c :: cs => lotsOf cs ++ (lotsOf cs).map (c :: ·)
theorem lotsOf_len : ∀ cs, (lotsOf cs).length = 2 ^ cs.length
  | [] => rfl
  | c :: cs => by
    show (lotsOf cs ++ (lotsOf cs).map (c :: ·)).length = _
    rw [List.length_append, List.length_map, lotsOf_len cs, List.length_cons, Nat.pow_succ]
    omega
theorem mem_lotsOf : ∀ {cs L : List Nat}, cs.Pairwise (· < ·) → L.Pairwise (· < ·) → (∀ x ∈ L, x ∈ cs) → L ∈ lotsOf cs
  | [], L, _, _, hs => by
    have e : L = [] := List.eq_nil_iff_forall_not_mem.mpr fun x hx => absurd (hs x hx) (by simp)
    rw [e]
    exact List.mem_cons_self ..
  | c :: cs, L, hC, hL, hs => by
    have hC' := List.pairwise_cons.mp hC
    show L ∈ lotsOf cs ++ (lotsOf cs).map (c :: ·)
    rw [List.mem_append]
    by_cases hc : c ∈ L
    · right
      cases L with
      | nil => cases hc
      | cons x xs =>
        have hL' := List.pairwise_cons.mp hL
        have e : x = c := by
          rcases List.mem_cons.mp hc with e | hc
          · exact e.symm
          · have a := hL'.1 c hc
            rcases List.mem_cons.mp (hs x (List.mem_cons_self ..)) with e | hx
            · exact e
            · have := hC'.1 x hx
              omega
        subst e
        refine List.mem_map.mpr ⟨xs, mem_lotsOf hC'.2 hL'.2 fun y hy => ?_, rfl⟩
        rcases List.mem_cons.mp (hs y (List.mem_cons_of_mem _ hy)) with e | h
        · have := hL'.1 y hy
          omega
        · exact h
    · left
      refine mem_lotsOf hC'.2 hL fun y hy => ?_
      rcases List.mem_cons.mp (hs y hy) with e | h
      · exact absurd (e ▸ hy) hc
      · exact h
/-- there are no more than 2 ^ n -/
theorem Rch.many (hC : cells.Pairwise (· < ·)) {W : List (List Nat)} (hn : W.Nodup) (hW : ∀ L ∈ W, Rch ok cells L) : W.length ≤ 2 ^ cells.length := by
  rw [← lotsOf_len cells]
  exact nodup_len hn fun L hL => mem_lotsOf hC (hW L hL).asc (hW L hL).sub

/-! ### the law's own search: what is waiting is just what can be come to, once all of it was looked at -/
structure LInv (ok : List Nat → Bool) (cells : List Nat) (n : Nat) (W : List (List Nat)) : Prop where
  nd : W.Nodup
  rch : ∀ L ∈ W, Rch ok cells L
  nil : [] ∈ W
  shut : ∀ (i : Nat) (L : List Nat), i < n → W[i]? = some L → ∀ c ∈ cells, c ∉ L → ok (insN c L) = true → insN c L ∈ W
theorem LInv.start : LInv ok cells 0 [[]] := ⟨by simp, fun L hL => by
  rw [List.mem_singleton.mp hL]
  exact .nil, List.mem_cons_self .., fun i L h => absurd h (Nat.not_lt_zero _)⟩
theorem LInv.all {n : Nat} {W : List (List Nat)} (h : LInv ok cells n W) (hn : W.length ≤ n) {L : List Nat} (r : Rch ok cells L) : L ∈ W := by
  induction r with
  | nil => exact h.nil
  | step _ hc hno hok ih =>
    obtain ⟨i, hi, e⟩ := List.mem_iff_getElem.mp ih
    exact h.shut i _ (by omega) (by rw [List.getElem?_eq_getElem hi, e]) _ hc hno hok
/-- one turn's inner loop: some of the cells looked at -/
structure LMid (ok : List Nat → Bool) (cells : List Nat) (n : Nat) (D : List Nat) (j : Nat) (W : List (List Nat)) : Prop where
  inv : LInv ok cells n W
  at_ : W[n]? = some D
  some_ : ∀ (i : Nat) (c : Nat), i < j → cells[i]? = some c → c ∉ D → ok (insN c D) = true → insN c D ∈ W
theorem LMid.keep {n j : Nat} {D : List Nat} {W : List (List Nat)} (h : LMid ok cells n D j W) {c : Nat} (hj : cells[j]? = some c) (hq : c ∉ D → ok (insN c D) = true → insN c D ∈ W) : LMid ok cells n D (j + 1) W :=
  ⟨h.inv, h.at_, fun i c' hi e hn hok => by
    by_cases hij : i = j
    · subst hij
      rw [hj] at e
      cases e
      exact hq hn hok
    · exact h.some_ i c' (by omega) e hn hok⟩
theorem LMid.add {n j : Nat} {D : List Nat} {W : List (List Nat)} (h : LMid ok cells n D j W) {c : Nat} (hj : cells[j]? = some c) (hn : c ∉ D) (hok : ok (insN c D) = true) (hw : insN c D ∉ W) : LMid ok cells n D (j + 1) (W ++ [insN c D]) := by
  have hD : D ∈ W := List.mem_of_getElem? h.at_
  have lt : ∀ {i : Nat} {L : List Nat}, i ≤ n → (W ++ [insN c D])[i]? = some L → W[i]? = some L := fun {i L} hi e => by
    have hl : n < W.length := (List.getElem?_eq_some_iff.mp h.at_).1
    rwa [List.getElem?_append_left (by omega)] at e
  refine ⟨⟨List.nodup_append.mpr ⟨h.inv.nd, by simp, fun a ha b hb e => ?_⟩, fun L hL => ?_, List.mem_append_left _ h.inv.nil, fun i L hi e c' hc' hn' hok' => List.mem_append_left _ (h.inv.shut i L hi (lt (Nat.le_of_lt hi) e) c' hc' hn' hok')⟩, ?_, fun i c' hi e hn' hok' => ?_⟩
  · rw [List.mem_singleton.mp hb] at e
    exact hw (e ▸ ha)
  · rcases List.mem_append.mp hL with hL | hL
    · exact h.inv.rch L hL
    · rw [List.mem_singleton.mp hL]
      exact .step (h.inv.rch D hD) (List.mem_of_getElem? hj) hn hok
  · rw [List.getElem?_append_left (List.getElem?_eq_some_iff.mp h.at_).1]
    exact h.at_
  · by_cases hij : i = j
    · subst hij
      rw [hj] at e
      cases e
      exact List.mem_append_right _ (List.mem_cons_self ..)
    · exact List.mem_append_left _ (h.some_ i c' (by omega) e hn' hok')
theorem LMid.turn {n : Nat} {D : List Nat} {W : List (List Nat)} (h : LMid ok cells n D cells.length W) : LInv ok cells (n + 1) W :=
  ⟨h.inv.nd, h.inv.rch, h.inv.nil, fun i L hi e c hc hn hok => by
    by_cases hin : i = n
    · subst hin
      rw [h.at_] at e
      cases e
      obtain ⟨k, hk, ek⟩ := List.mem_iff_getElem.mp hc
      exact h.some_ k c hk (by rw [List.getElem?_eq_getElem hk, ek]) hn hok
    · exact h.inv.shut i L (by omega) e c hc hn hok⟩
theorem LInv.mid {n : Nat} {D : List Nat} {W : List (List Nat)} (h : LInv ok cells n W) (hD : W[n]? = some D) : LMid ok cells n D 0 W := ⟨h, hD, fun i c hi => absurd hi (Nat.not_lt_zero _)⟩
/-- what the law's search tells: all lots, each once -/
def AllLots (ok : List Nat → Bool) (cells : List Nat) (W : List (List Nat)) : Prop := W.Nodup ∧ ∀ L, L ∈ W ↔ Rch ok cells L
theorem LInv.end {n : Nat} {W : List (List Nat)} (h : LInv ok cells n W) (hn : W.length ≤ n) : AllLots ok cells W := ⟨h.nd, fun L => ⟨h.rch L, fun r => h.all hn r⟩⟩

/-! ### the program's search -/
abbrev Fnd := List (List Nat × List Nat)
/-- how the search ends -/
inductive Res where
  | way (p : List Nat)
  | non
  | great
def innerF (ok : List Nat → Bool) (most : Nat) (D P : List Nat) : List Nat → Fnd → Option Fnd
  | [], F => some F
  | c :: cs, F => if c ∉ D ∧ insN c D ∉ F.map (·.1) ∧ ok (insN c D) = true then (if F.length = most then none else innerF ok most D P cs (F ++ [(insN c D, P ++ [c])])) else innerF ok most D P cs F
def bfs (ok : List Nat → Bool) (most : Nat) (cells : List Nat) : Nat → Nat → Fnd → Option Res
  | 0, _, _ => none
  | f + 1, n, F => match F[n]? with
    | none => some .non
    | some (D, P) => if D.length = cells.length then some (.way P) else match innerF ok most D P cells F with
      | none => some .great
      | some F' => bfs ok most cells f (n + 1) F'
def Ends (ok : List Nat → Bool) (most : Nat) (cells : List Nat) (n : Nat) (F : Fnd) (r : Res) : Prop := ∃ f, bfs ok most cells f n F = some r
theorem bfs_mono {most : Nat} : ∀ {f n : Nat} {F : Fnd} {r : Res}, bfs ok most cells f n F = some r → bfs ok most cells (f + 1) n F = some r
  | 0, n, F, r, h => by cases h
  | f + 1, n, F, r, h => by
    unfold bfs at h ⊢
    cases e : F[n]? with
    | none => rw [e] at h; exact h
    | some q =>
      obtain ⟨D, P⟩ := q
      rw [e] at h
      dsimp only at h ⊢
      split at h
      · rename_i hl
        rw [if_pos hl]
        exact h
      · rename_i hl
        rw [if_neg hl]
        cases e2 : innerF ok most D P cells F with
        | none => rw [e2] at h; exact h
        | some F' =>
          rw [e2] at h
          exact bfs_mono h
theorem bfs_more {most : Nat} {f n : Nat} {F : Fnd} {r : Res} (h : bfs ok most cells f n F = some r) : ∀ k, bfs ok most cells (f + k) n F = some r
  | 0 => h
  | k + 1 => bfs_mono (bfs_more h k)
theorem Ends.unique {most n : Nat} {F : Fnd} {r r' : Res} (h : Ends ok most cells n F r) (h' : Ends ok most cells n F r') : r = r' := by
  obtain ⟨f, h⟩ := h
  obtain ⟨f', h'⟩ := h'
  have a := bfs_more h f'
  have b := bfs_more h' f
  rw [Nat.add_comm] at b
  rw [a] at b
  exact Option.some.inj b
theorem Ends.stop {most n : Nat} {F : Fnd} (h : F.length ≤ n) : Ends ok most cells n F .non := ⟨1, by
  unfold bfs
  rw [List.getElem?_eq_none_iff.mpr h]⟩
theorem Ends.way {most n : Nat} {F : Fnd} {D P : List Nat} (h : F[n]? = some (D, P)) (hl : D.length = cells.length) : Ends ok most cells n F (.way P) := ⟨1, by
  unfold bfs
  rw [h]
  dsimp only
  rw [if_pos hl]⟩
theorem Ends.turn {most n : Nat} {F F' : Fnd} {D P : List Nat} {r : Res} (h : F[n]? = some (D, P)) (hl : D.length ≠ cells.length) (hi : innerF ok most D P cells F = some F') (e : Ends ok most cells (n + 1) F' r) : Ends ok most cells n F r := by
  obtain ⟨f, e⟩ := e
  refine ⟨f + 1, ?_⟩
  unfold bfs
  rw [h]
  dsimp only
  rw [if_neg hl, hi]
  exact e
theorem Ends.great {most n : Nat} {F : Fnd} {D P : List Nat} (h : F[n]? = some (D, P)) (hl : D.length ≠ cells.length) (hi : innerF ok most D P cells F = none) : Ends ok most cells n F .great := by
  refine ⟨1, ?_⟩
  unfold bfs
  rw [h]
  dsimp only
  rw [if_neg hl, hi]

/-! ### it is right -/
structure PathOk (ok : List Nat → Bool) (L P : List Nat) : Prop where
  perm : P.Perm L
  ok : ∀ k, k ≤ P.length → ok (P.take k) = true
structure FInv (ok : List Nat → Bool) (cells : List Nat) (n : Nat) (F : Fnd) : Prop where
  inv : LInv ok cells n (F.map (·.1))
  path : ∀ q ∈ F, PathOk ok q.1 q.2
  short : ∀ (i : Nat) (q : List Nat × List Nat), i < n → F[i]? = some q → q.1.length ≠ cells.length
structure FMid (ok : List Nat → Bool) (cells : List Nat) (n : Nat) (D P : List Nat) (j : Nat) (F : Fnd) : Prop where
  mid : LMid ok cells n D j (F.map (·.1))
  at_ : F[n]? = some (D, P)
  path : ∀ q ∈ F, PathOk ok q.1 q.2
  short : ∀ (i : Nat) (q : List Nat × List Nat), i ≤ n → F[i]? = some q → q.1.length ≠ cells.length
theorem FInv.start (h0 : ok [] = true) : FInv ok cells 0 [([], [])] := ⟨LInv.start, fun q hq => by
  rw [List.mem_singleton.mp hq]
  exact ⟨List.Perm.refl _, fun k _ => by
    rw [List.take_nil]
    exact h0⟩, fun i q h => absurd h (Nat.not_lt_zero _)⟩
theorem FInv.mid {n : Nat} {F : Fnd} {D P : List Nat} (h : FInv ok cells n F) (hD : F[n]? = some (D, P)) (hl : D.length ≠ cells.length) : FMid ok cells n D P 0 F :=
  ⟨h.inv.mid (by rw [List.getElem?_map, hD]; rfl), hD, h.path, fun i q hi e => by
    by_cases hin : i = n
    · subst hin
      rw [hD] at e
      cases e
      exact hl
    · exact h.short i q (by omega) e⟩
theorem FMid.turn {n : Nat} {D P : List Nat} {F : Fnd} (h : FMid ok cells n D P cells.length F) : FInv ok cells (n + 1) F := ⟨h.mid.turn, h.path, fun i q hi => h.short i q (by omega)⟩
/-- ok asks only which cells are in -/
def ByMem (ok : List Nat → Bool) : Prop := ∀ L M, (∀ x, x ∈ L ↔ x ∈ M) → ok L = ok M
theorem PathOk.add (hm : ByMem ok) {D P : List Nat} {c : Nat} (h : PathOk ok D P) (hok : ok (insN c D) = true) : PathOk ok (insN c D) (P ++ [c]) := by
  refine ⟨((List.perm_append_comm (l₁ := P) (l₂ := [c])).trans (h.perm.cons c)).trans (insN_perm c D).symm, fun k hk => ?_⟩
  rw [List.length_append, List.length_singleton] at hk
  by_cases hk' : k ≤ P.length
  · rw [List.take_append_of_le_length hk']
    exact h.ok k hk'
  · rw [List.take_of_length_le (by rw [List.length_append, List.length_singleton]; omega), ← hok]
    refine hm _ _ fun x => ?_
    rw [List.mem_append, mem_insN, h.perm.mem_iff, List.mem_singleton, or_comm]
theorem FMid.keep {n j : Nat} {D P : List Nat} {F : Fnd} (h : FMid ok cells n D P j F) {c : Nat} (hj : cells[j]? = some c) (hq : ¬ (c ∉ D ∧ insN c D ∉ F.map (·.1) ∧ ok (insN c D) = true)) : FMid ok cells n D P (j + 1) F :=
  ⟨h.mid.keep hj fun hn hok => by
    by_cases hw : insN c D ∈ F.map (·.1)
    · exact hw
    · exact absurd ⟨hn, hw, hok⟩ hq, h.at_, h.path, h.short⟩
theorem FMid.add (hm : ByMem ok) {n j : Nat} {D P : List Nat} {F : Fnd} (h : FMid ok cells n D P j F) {c : Nat} (hj : cells[j]? = some c) (hn : c ∉ D) (hw : insN c D ∉ F.map (·.1)) (hok : ok (insN c D) = true) : FMid ok cells n D P (j + 1) (F ++ [(insN c D, P ++ [c])]) := by
  have hl : n < F.length := (List.getElem?_eq_some_iff.mp h.at_).1
  refine ⟨?_, by rw [List.getElem?_append_left hl]; exact h.at_, fun q hq => ?_, fun i q hi e => ?_⟩
  · rw [List.map_append]
    exact h.mid.add hj hn hok hw
  · rcases List.mem_append.mp hq with hq | hq
    · exact h.path q hq
    · rw [List.mem_singleton.mp hq]
      exact (h.path _ (List.mem_of_getElem? h.at_)).add hm hok
  · rw [List.getElem?_append_left (by omega)] at e
    exact h.short i q hi e
theorem FMid.more {n j : Nat} {D P : List Nat} {F : Fnd} (h : FMid ok cells n D P j F) {c : Nat} (hj : cells[j]? = some c) (hn : c ∉ D) (hw : insN c D ∉ F.map (·.1)) (hok : ok (insN c D) = true) :
    ∃ W : List (List Nat), W.Nodup ∧ (∀ L ∈ W, Rch ok cells L) ∧ F.length < W.length := by
  have q := h.mid.add hj hn hok hw
  refine ⟨_, q.inv.nd, q.inv.rch, ?_⟩
  rw [List.length_append, List.length_map, List.length_singleton]
  omega
theorem inner_ok (hm : ByMem ok) {most n : Nat} {D P : List Nat} : ∀ (cs : List Nat) (j : Nat) (F : Fnd), cells.drop j = cs → FMid ok cells n D P j F →
    (∀ F', innerF ok most D P cs F = some F' → FMid ok cells n D P cells.length F') ∧ (innerF ok most D P cs F = none → ∃ W : List (List Nat), W.Nodup ∧ (∀ L ∈ W, Rch ok cells L) ∧ most < W.length)
  | [], j, F, hd, h => by
    have hj : cells.length ≤ j := List.drop_eq_nil_iff.mp hd
    refine ⟨fun F' e => ?_, fun e => by cases e⟩
    cases e
    exact ⟨⟨h.mid.inv, h.mid.at_, fun i c hi => h.mid.some_ i c (by omega)⟩, h.at_, h.path, h.short⟩
  | c :: cs, j, F, hd, h => by
    have hj : cells[j]? = some c := by
      rw [← List.head?_drop, hd]
      rfl
    have hd' : cells.drop (j + 1) = cs := by
      rw [← List.tail_drop, hd]
      rfl
    unfold innerF
    by_cases hq : c ∉ D ∧ insN c D ∉ F.map (·.1) ∧ ok (insN c D) = true
    · rw [if_pos hq]
      obtain ⟨h1, h2, h3⟩ := hq
      by_cases hmo : F.length = most
      · rw [if_pos hmo]
        refine ⟨fun F' e => (by cases e), fun _ => ?_⟩
        rw [← hmo]
        exact h.more hj h1 h2 h3
      · rw [if_neg hmo]
        exact inner_ok hm cs (j + 1) _ hd' (h.add hm hj h1 h2 h3)
    · rw [if_neg hq]
      exact inner_ok hm cs (j + 1) _ hd' (h.keep hj hq)
/-- what an answer says -/
def Right (ok : List Nat → Bool) (most : Nat) (cells : List Nat) : Res → Prop
  | .way p => Rch ok cells cells ∧ PathOk ok cells p
  | .non => ¬ Rch ok cells cells
  | .great => ∃ W : List (List Nat), W.Nodup ∧ (∀ L ∈ W, Rch ok cells L) ∧ most < W.length
theorem bfs_right (hm : ByMem ok) (hC : cells.Pairwise (· < ·)) {most : Nat} : ∀ {f n : Nat} {F : Fnd} {r : Res}, bfs ok most cells f n F = some r → FInv ok cells n F → Right ok most cells r
  | 0, n, F, r, h, _ => by cases h
  | f + 1, n, F, r, h, hF => by
    unfold bfs at h
    cases e : F[n]? with
    | none =>
      rw [e] at h
      cases h
      intro hr
      have hn : F.length ≤ n := List.getElem?_eq_none_iff.mp e
      have := hF.inv.all (by rw [List.length_map]; exact hn) hr
      obtain ⟨q, hq, eq⟩ := List.mem_map.mp this
      obtain ⟨i, hi, ei⟩ := List.mem_iff_getElem.mp hq
      exact hF.short i q (by omega) (by rw [List.getElem?_eq_getElem hi, ei]) (by rw [eq])
    | some q =>
      obtain ⟨D, P⟩ := q
      rw [e] at h
      dsimp only at h
      have hmem := List.mem_of_getElem? e
      split at h
      · rename_i hl
        cases h
        have hr : Rch ok cells D := hF.inv.rch D (List.mem_map.mpr ⟨_, hmem, rfl⟩)
        have ed : D = cells := hr.full hC hl
        rw [ed] at hr
        have hp := hF.path _ hmem
        rw [ed] at hp
        exact ⟨hr, hp⟩
      · rename_i hl
        have hi := inner_ok hm (most := most) cells 0 F rfl (hF.mid e hl)
        cases e2 : innerF ok most D P cells F with
        | none =>
          rw [e2] at h
          cases h
          exact hi.2 e2
        | some F' =>
          rw [e2] at h
          exact bfs_right hm hC h (hi.1 F' e2).turn
theorem Ends.right (hm : ByMem ok) (hC : cells.Pairwise (· < ·)) (h0 : ok [] = true) {most : Nat} {r : Res} (h : Ends ok most cells 0 [([], [])] r) : Right ok most cells r := by
  obtain ⟨f, h⟩ := h
  exact bfs_right hm hC h (FInv.start h0)
/-- given up only where there are more lots -/
theorem great_more {most : Nat} {W : List (List Nat)} (hW : AllLots ok cells W) (h : Right ok most cells .great) : most < W.length := by
  obtain ⟨V, h1, h2, h3⟩ := h
  exact Nat.lt_of_lt_of_le h3 (nodup_len h1 fun L hL => (hW.2 L).mpr (h2 L hL))
end

/-! ### tables, states -/
abbrev Row := List Int
/-- all laid checks' rows are in their tables -/
def passB (tabs : List (List Row)) (laid : List (Nat × List Nat)) (st : Row) : Bool := laid.all fun q => decide (q.2.map (fun i => st.getD i 0) ∈ tabs.getD q.1 [])
def setB (old new : Row) (S : List Nat) : Row := (List.range old.length).map fun i => if i ∈ S then new.getD i 0 else old.getD i 0
theorem setB_mem {old new : Row} {S T : List Nat} (h : ∀ x, x ∈ S ↔ x ∈ T) : setB old new S = setB old new T := by
  unfold setB
  refine List.map_congr_left fun i _ => ?_
  by_cases hi : i ∈ S
  · rw [if_pos hi, if_pos ((h i).mp hi)]
  · rw [if_neg hi, if_neg fun q => hi ((h i).mpr q)]
def okB (tabs : List (List Row)) (laid : List (Nat × List Nat)) (old new : Row) (S : List Nat) : Bool := passB tabs laid (setB old new S)
theorem okB_mem (tabs : List (List Row)) (laid : List (Nat × List Nat)) (old new : Row) : ByMem (okB tabs laid old new) := fun L M h => by
  unfold okB
  rw [setB_mem h]
theorem setB_nil (old new : Row) : setB old new [] = old := by
  unfold setB
  refine List.ext_getElem (by simp) fun i h1 h2 => ?_
  simp [List.getD_eq_getElem?_getD, h2]
/-- tables with the same rows in them pass the same -/
theorem passB_congr {tabs tabs' : List (List Row)} (hl : tabs.length = tabs'.length) (h : ∀ (i : Nat) t t', tabs[i]? = some t → tabs'[i]? = some t' → ∀ r, r ∈ t ↔ r ∈ t') (laid : List (Nat × List Nat)) (st : Row) : passB tabs laid st = passB tabs' laid st := by
  unfold passB
  congr 1
  funext q
  apply decide_eq_decide.mpr
  by_cases hq : q.1 < tabs.length
  · rw [List.getD_eq_getElem?_getD, List.getD_eq_getElem?_getD, List.getElem?_eq_getElem hq, List.getElem?_eq_getElem (hl ▸ hq)]
    exact h q.1 _ _ (List.getElem?_eq_getElem hq) (List.getElem?_eq_getElem (hl ▸ hq)) _
  · rw [List.getD_eq_getElem?_getD, List.getD_eq_getElem?_getD, List.getElem?_eq_none_iff.mpr (by omega), List.getElem?_eq_none_iff.mpr (by omega)]
theorem passB_mono {tabs tabs' : List (List Row)} (hl : tabs.length = tabs'.length) (h : ∀ (i : Nat) t t', tabs[i]? = some t → tabs'[i]? = some t' → ∀ r, r ∈ t → r ∈ t') {laid : List (Nat × List Nat)} {st : Row} (hp : passB tabs laid st = true) : passB tabs' laid st = true := by
  unfold passB at hp ⊢
  rw [List.all_eq_true] at hp ⊢
  intro q hq
  have := of_decide_eq_true (hp q hq)
  refine decide_eq_true ?_
  by_cases hq' : q.1 < tabs.length
  · rw [List.getD_eq_getElem?_getD, List.getElem?_eq_getElem hq'] at this
    rw [List.getD_eq_getElem?_getD, List.getElem?_eq_getElem (hl ▸ hq')]
    exact h q.1 _ _ (List.getElem?_eq_getElem hq') (List.getElem?_eq_getElem (hl ▸ hq')) _ this
  · rw [List.getD_eq_getElem?_getD, List.getElem?_eq_none_iff.mpr (by omega)] at this
    cases this
end K29
namespace K29
open PySem PySem.Spec PyProof.Rows L2
open PySem.Sem (wp)
/-! ### enumerate(zip(a, b)): the zip's tuple may still be out -/
abbrev IsZipA (h : Heap) (z TI TO : Addr) (f0 : Value) (fb : Bool) : Prop :=
  h.get? z = some { cls := .type "zip", dict := none, data := .fields #[f0, .bool fb, .bool false, .ref TI, .ref TO], slots := #[] }
def Held (f0 : Value) : Prop := f0 = .none ∨ ∃ T : Addr, f0 = rawInt T
def ZSt (h : Heap) (z TI TO : Addr) : Prop := ∃ f0 fb, IsZipA h z TI TO f0 fb ∧ Held f0
section
variable {prog : Program} {w : World} {A : Around} {E : Value → Shared → Prop} {s : Shared} {z TI TO i1 i2 : Addr} {fp1 fp2 : List Addr} {n1 n2 i : Nat} {P1 P2 : Nat → Value → Prop} {St1 St2 : Nat → Heap → Prop} {a1 a2 : Value}
theorem alive_any {a : Addr} {Q : Option Obj → Shared → Prop} (h : Q (s.heap.get? a) s) : wpAny (model prog w) A (loadIfAlive a) Q E s := fun _ _ _ => h
theorem zipA_free {f0 : Value} {fb : Bool} {Q : Bool → Shared → Prop} (hz : IsZipA s.heap z TI TO f0 fb) (hf : Held f0) (k1 : Q true s) (k2 : ∀ h', IsZipA h' z TI TO f0 true → Heap.SameBut z s.heap h' → Q false { s with heap := h' }) :
    wpAny (model prog w) A (Builtin.SmallTypes.ownedTupleIsFree (.ref z)) Q E s := by
  unfold Builtin.SmallTypes.ownedTupleIsFree
  rcases hf with rfl | ⟨T, rfl⟩
  · exact wpAny_bind (wpAny_field hz rfl (x := .none) rfl (wpAny_pure k1))
  · refine wpAny_bind (wpAny_field hz rfl (x := rawInt T) rfl ?_)
    show wpAny _ _ (loadIfAlive ((T : Int).toNat) >>= _) _ _ _
    rw [Int.toNat_natCast]
    cases e : s.heap.get? T with
    | none =>
      refine wpAny_bind (alive_any ?_)
      rw [e]
      simp only [Option.isNone_none, if_true]
      exact wpAny_pure k1
    | some oT =>
      refine wpAny_bind (PySem.W.kdx_alive e ?_)
      simp only [Option.isNone_some, Bool.false_eq_true, if_false]
      refine wpAny_bind (wpAny_field hz rfl (x := .bool fb) rfl ?_)
      cases fb with
      | true =>
        rw [if_neg (show ¬ ((Value.bool true != Value.bool true) = true) from Bool.false_ne_true)]
        exact wpAny_pure (k2 s.heap hz (Heap.SameBut.refl _ _))
      | false =>
        rw [if_pos (show (Value.bool false != Value.bool true) = true from rfl)]
        exact wpAny_bind (wpAny_setField_rec hz (by simp) fun h₁ hz₁ hs₁ => wpAny_pure (k2 h₁ hz₁ hs₁))
theorem zipA_item {Q : Value → Shared → Prop} (S : ZipSep2 z TI TO i1 i2 fp1 fp2) (D1 : Draws prog w A i1 fp1 n1 P1 St1) (D2 : Draws prog w A i2 fp2 n2 P2 St2)
    (hz : ZSt s.heap z TI TO) (hTI : IsTupOf2 s.heap TI (.ref i1) (.ref i2)) (hTO : ∃ a1 a2, IsTupOf2 s.heap TO a1 a2) (st1 : St1 i s.heap) (st2 : St2 i s.heap) (hlt1 : i < n1) (hlt2 : i < n2)
    (hQ : ∀ x1 x2 h' tk, P1 i x1 → P2 i x2 → ZSt h' z TI TO → (∃ a1 a2, IsTupOf2 h' TO a1 a2) → St1 (i + 1) h' → St2 (i + 1) h' → IsTupOf2 h' s.heap.objs.size x1 x2 → h'.objs.size = s.heap.objs.size + 1 →
      (∀ c o, c ≠ z → c ≠ TO → c ≠ i1 → c ≠ i2 → s.heap.get? c = some o → h'.get? c = some o) → Q (.ref s.heap.objs.size) { s with heap := h', toks := tk }) :
    wpAny (model prog w) A (Builtin.«zip.__next__» ⟨[.ref z], []⟩) (fun fin s' => ∃ v, fin = .done (.ret v) ∧ Q v s') E s := by
  obtain ⟨hp, g, d, tk0, os⟩ := s
  obtain ⟨f0, fb, hz, hf⟩ := hz
  obtain ⟨a1, a2, hTO⟩ := hTO
  show wpAny _ _ (field (.ref z) 2 >>= _) _ _ _
  refine wpAny_bind (wpAny_field hz rfl (x := .bool false) rfl ?_)
  show wpAny _ _ (field (.ref z) 3 >>= _) _ _ _
  refine wpAny_bind (wpAny_field hz rfl (x := .ref TI) rfl ?_)
  refine wpAny_bind (wpAny_seqItems hTI rfl ?_)
  show wpAny _ _ (Builtin.SmallTypes.ownedTupleIsFree (.ref z) >>= _) _ _ _
  refine wpAny_bind (zipA_free hz hf ?_ fun h0 hz0 hs0 => ?_)
  · simp only [if_true]
    refine wpAny_bind (wpAny_rule ?_)
    refine wpAny_bind (wpAny_field hz rfl (x := .ref TO) rfl ?_)
    refine wpAny_bind (wpAny_setField_rec hz (by simp) fun g0 hz0 hs0 => ?_)
    replace hz0 : IsZipA g0 z TI TO .ellipsis fb := hz0
    replace hs0 : Heap.SameBut z hp g0 := hs0
    refine wpAny_bind ?_
    simp only [List.zipIdx_cons, List.zipIdx_nil, List.forIn_cons, List.forIn_nil]
    refine wpAny_bind (wpAny_bind (wpAny_onRaise ?_))
    show wpAny _ _ (Builtin.SmallTypes.nextOf (.ref i1) >>= _) _ _ ⟨g0, g, d, tk0, os⟩
    refine wpAny_bind (D1.item i _ _ _ hlt1 (D1.over st1 hs0 S.zf1) fun x1 p1 tk1 hx1 sn1 hp1 => wpAny_pure ?_)
    replace hp1 : Heap.SameBut i1 g0 p1 := hp1
    have hU1 : IsTupOf2 p1 TO a1 a2 := hp1.extBut _ _ S.Ti1 (hs0.extBut _ _ S.TOz hTO)
    refine wpAny_bind (wpAny_seqItems (s := ⟨p1, g, d, tk1, os⟩) hU1 rfl ?_)
    refine wpAny_bind (updateSeq_IsTupOf2 (s := ⟨p1, g, d, tk1, os⟩) hU1 fun g1 hT1 hs1 => ?_)
    replace hT1 : IsTupOf2 g1 TO x1 a2 := hT1
    replace hs1 : Heap.SameBut TO p1 g1 := hs1
    refine wpAny_bind (wpAny_letGo (wpAny_pure ?_))
    refine wpAny_bind (wpAny_bind (wpAny_onRaise ?_))
    show wpAny _ _ (Builtin.SmallTypes.nextOf (.ref i2) >>= _) _ _ ⟨g1, g, d, tk1, os⟩
    refine wpAny_bind (D2.item i _ _ _ hlt2 (D2.over (D2.over (D2.over st2 hs0 S.zf2) hp1 S.sep1_2) hs1 S.Tf2) fun x2 p2 tk2 hx2 sn2 hp2 => wpAny_pure ?_)
    replace hp2 : Heap.SameBut i2 g1 p2 := hp2
    have hU2 : IsTupOf2 p2 TO x1 a2 := hp2.extBut _ _ S.Ti2 hT1
    refine wpAny_bind (wpAny_seqItems (s := ⟨p2, g, d, tk2, os⟩) hU2 rfl ?_)
    refine wpAny_bind (updateSeq_IsTupOf2 (s := ⟨p2, g, d, tk2, os⟩) hU2 fun g2 hT2 hs2 => ?_)
    replace hT2 : IsTupOf2 g2 TO x1 x2 := hT2
    replace hs2 : Heap.SameBut TO p2 g2 := hs2
    refine wpAny_bind (wpAny_letGo (wpAny_pure (wpAny_pure ?_)))
    refine wpAny_bind (wpAny_seqItems (s := ⟨g2, g, d, tk2, os⟩) hT2 rfl ?_)
    refine wpAny_bind (wpAny_newTuple ?_)
    have hsz : g2.objs.size = hp.objs.size := by rw [hs2.1, hp2.1, hs1.1, hp1.1, hs0.1]
    have hzz : IsZipA g2 z TI TO .ellipsis fb := (hs2.extBut _ _ S.TOz.symm (hp2.extBut _ _ S.zi2 (hs1.extBut _ _ S.TOz.symm (hp1.extBut _ _ S.zi1 hz0))))
    have hkk : ∀ c o, c ≠ z → c ≠ TO → c ≠ i1 → c ≠ i2 → hp.get? c = some o → g2.get? c = some o := fun c o cz cT c1 c2 e =>
      (hs2.extBut _ _ cT (hp2.extBut _ _ c2 (hs1.extBut _ _ cT (hp1.extBut _ _ c1 (hs0.extBut _ _ cz e)))))
    have hj1 : St1 (i + 1) g2 := (D1.over (D1.over (D1.over sn1 hs1 S.Tf1) hp2 S.sep2_1) hs2 S.Tf1)
    have hj2 : St2 (i + 1) g2 := (D2.over sn2 hs2 S.Tf2)
    have hzlt : z < g2.objs.size := Heap.lt_size hzz
    show wpAny _ _ (Builtin.SmallTypes.ownedTupleHandOut (.ref z) (.ref g2.objs.size) >>= _) _ _ ⟨g2.push { cls := .type "tuple", data := .seq #[x1, x2] }, g, d, tk2, os⟩
    refine wpAny_bind ?_
    unfold Builtin.SmallTypes.ownedTupleHandOut
    have hz₆ : IsZipA (g2.push { cls := .type "tuple", data := .seq #[x1, x2] }) z TI TO .ellipsis fb := Heap.get?_push_of_some _ hzz
    refine wpAny_bind (wpAny_setField_rec hz₆ (by simp) fun h₇ hz₇ hs₇ => ?_)
    replace hz₇ : IsZipA h₇ z TI TO (rawInt g2.objs.size) fb := hz₇
    refine wpAny_setField_rec hz₇ (by simp) fun h₈ hz₈ hs₈ => ?_
    replace hz₈ : IsZipA h₈ z TI TO (rawInt g2.objs.size) false := hz₈
    replace hs₇ : Heap.SameBut z (g2.push { cls := .type "tuple", data := .seq #[x1, x2] }) h₇ := hs₇
    replace hs₈ : Heap.SameBut z h₇ h₈ := hs₈
    have up : ∀ c o, c ≠ z → g2.get? c = some o → h₈.get? c = some o := fun c o c1 e => hs₈.extBut _ _ c1 (hs₇.extBut _ _ c1 (Heap.get?_push_of_some _ e))
    have hT₈ : IsTupOf2 h₈ g2.objs.size x1 x2 := hs₈.extBut _ _ (Nat.ne_of_gt hzlt) (hs₇.extBut _ _ (Nat.ne_of_gt hzlt) (Heap.get?_push_size _ rfl))
    have hz8 : h₈.objs.size = g2.objs.size + 1 := by rw [hs₈.1, hs₇.1, Heap.size_push]
    rw [hsz] at hz₈ hT₈ hz8
    refine wpAny_pure ⟨_, rfl, ?_⟩
    show Q (.ref g2.objs.size) ⟨h₈, g, d, tk2, os⟩
    rw [hsz]
    exact hQ x1 x2 h₈ tk2 hx1 hx2 ⟨_, _, hz₈, .inr ⟨_, rfl⟩⟩ ⟨_, _, up _ _ S.TOz hT2⟩ (D1.frame _ _ _ hj1 fun b hb o e => up b o (fun q => S.zf1 (q ▸ hb)) e) (D2.frame _ _ _ hj2 fun b hb o e => up b o (fun q => S.zf2 (q ▸ hb)) e) hT₈ hz8 fun c o cz cT c1 c2 e => up c o cz (hkk c o cz cT c1 c2 e)
  · replace hs0 : Heap.SameBut z hp h0 := hs0
    simp only [Bool.false_eq_true, if_false]
    refine wpAny_bind ?_
    rw [← Array.forIn_toList]
    simp only [List.forIn_cons, List.forIn_nil]
    refine wpAny_bind (wpAny_bind (wpAny_holding ?_))
    show wpAny _ _ (Builtin.SmallTypes.nextOf (.ref i1) >>= _) _ _ ⟨h0, g, d, tk0, os⟩
    refine wpAny_bind (D1.item i _ _ _ hlt1 (D1.over st1 hs0 S.zf1) fun x1 p1 tk1 hx1 sn1 hp1 => wpAny_pure ?_)
    replace hp1 : Heap.SameBut i1 h0 p1 := hp1
    refine wpAny_pure ?_
    refine wpAny_bind (wpAny_bind (wpAny_holding ?_))
    show wpAny _ _ (Builtin.SmallTypes.nextOf (.ref i2) >>= _) _ _ ⟨p1, g, d, tk1, os⟩
    refine wpAny_bind (D2.item i _ _ _ hlt2 (D2.over (D2.over st2 hs0 S.zf2) hp1 S.sep1_2) fun x2 p2 tk2 hx2 sn2 hp2 => wpAny_pure ?_)
    replace hp2 : Heap.SameBut i2 p1 p2 := hp2
    refine wpAny_pure (wpAny_pure ?_)
    show wpAny _ _ (newTuple [x1, x2] >>= _) _ _ ⟨p2, g, d, tk2, os⟩
    refine wpAny_bind (wpAny_newTuple ?_)
    have hsz : p2.objs.size = hp.objs.size := by rw [hp2.1, hp1.1, hs0.1]
    have hzz : IsZipA p2 z TI TO f0 true := hp2.extBut _ _ S.zi2 (hp1.extBut _ _ S.zi1 hz0)
    have hkk : ∀ c o, c ≠ z → c ≠ i1 → c ≠ i2 → hp.get? c = some o → p2.get? c = some o := fun c o cz c1 c2 e => hp2.extBut _ _ c2 (hp1.extBut _ _ c1 (hs0.extBut _ _ cz e))
    have hj1 : St1 (i + 1) p2 := D1.over sn1 hp2 S.sep2_1
    refine wpAny_pure ⟨_, rfl, ?_⟩
    show Q (.ref p2.objs.size) ⟨p2.push { cls := .type "tuple", data := .seq #[x1, x2] }, g, d, tk2, os⟩
    have hT₈ : IsTupOf2 (p2.push { cls := .type "tuple", data := .seq #[x1, x2] }) p2.objs.size x1 x2 := Heap.get?_push_size _ rfl
    have hz8 : (p2.push { cls := .type "tuple", data := .seq #[x1, x2] }).objs.size = p2.objs.size + 1 := Heap.size_push ..
    rw [hsz] at hT₈ hz8 ⊢
    exact hQ x1 x2 _ tk2 hx1 hx2 ⟨_, _, Heap.get?_push_of_some _ hzz, hf⟩ ⟨_, _, Heap.get?_push_of_some _ (hkk _ _ S.TOz S.Ti1 S.Ti2 hTO)⟩ (D1.frame _ _ _ hj1 fun b hb o e => Heap.get?_push_of_some _ e) (D2.frame _ _ _ sn2 fun b hb o e => Heap.get?_push_of_some _ e) hT₈ hz8
      fun c o cz cT c1 c2 e => Heap.get?_push_of_some _ (hkk c o cz c1 c2 e)
theorem zipA_end {Q : Fin → Shared → Prop} (S : ZipSep2 z TI TO i1 i2 fp1 fp2) (D1 : Draws prog w A i1 fp1 n1 P1 St1) (D2 : Draws prog w A i2 fp2 n2 P2 St2)
    (hz : ZSt s.heap z TI TO) (hTI : IsTupOf2 s.heap TI (.ref i1) (.ref i2)) (hTO : ∃ a1 a2, IsTupOf2 s.heap TO a1 a2) (st1 : St1 i s.heap) (st2 : St2 i s.heap) (hle1 : i ≤ n1) (hle2 : i ≤ n2) (hend : i = n1 ∨ i = n2)
    (hE : ∀ h' tk e, (∀ c o, c ≠ z → c ≠ TO → c ≠ i1 → c ≠ i2 → s.heap.get? c = some o → h'.get? c = some o) → (∃ o, h'.get? e = some o ∧ o.cls = .type "StopIteration") → E (.ref e) { s with heap := h', toks := tk }) :
    wpAny (model prog w) A (Builtin.«zip.__next__» ⟨[.ref z], []⟩) Q E s := by
  obtain ⟨hp, g, d, tk0, os⟩ := s
  obtain ⟨f0, fb, hz, hf⟩ := hz
  obtain ⟨a1, a2, hTO⟩ := hTO
  show wpAny _ _ (field (.ref z) 2 >>= _) _ _ _
  refine wpAny_bind (wpAny_field hz rfl (x := .bool false) rfl ?_)
  show wpAny _ _ (field (.ref z) 3 >>= _) _ _ _
  refine wpAny_bind (wpAny_field hz rfl (x := .ref TI) rfl ?_)
  refine wpAny_bind (wpAny_seqItems hTI rfl ?_)
  show wpAny _ _ (Builtin.SmallTypes.ownedTupleIsFree (.ref z) >>= _) _ _ _
  refine wpAny_bind (zipA_free hz hf ?_ fun h0 hz0 hs0 => ?_)
  · simp only [if_true]
    refine wpAny_bind (wpAny_rule ?_)
    refine wpAny_bind (wpAny_field hz rfl (x := .ref TO) rfl ?_)
    refine wpAny_bind (wpAny_setField_rec hz (by simp) fun g0 hz0 hs0 => ?_)
    replace hz0 : IsZipA g0 z TI TO .ellipsis fb := hz0
    replace hs0 : Heap.SameBut z hp g0 := hs0
    refine wpAny_bind ?_
    simp only [List.zipIdx_cons, List.zipIdx_nil, List.forIn_cons, List.forIn_nil]
    refine wpAny_bind (wpAny_bind (wpAny_onRaise ?_))
    show wpAny _ _ (Builtin.SmallTypes.nextOf (.ref i1) >>= _) _ _ ⟨g0, g, d, tk0, os⟩
    by_cases hlt1 : i < n1
    · refine wpAny_bind (D1.item i _ _ _ hlt1 (D1.over st1 hs0 S.zf1) fun x1 p1 tk1 hx1 sn1 hp1 => wpAny_pure ?_)
      replace hp1 : Heap.SameBut i1 g0 p1 := hp1
      have hU1 : IsTupOf2 p1 TO a1 a2 := hp1.extBut _ _ S.Ti1 (hs0.extBut _ _ S.TOz hTO)
      refine wpAny_bind (wpAny_seqItems (s := ⟨p1, g, d, tk1, os⟩) hU1 rfl ?_)
      refine wpAny_bind (updateSeq_IsTupOf2 (s := ⟨p1, g, d, tk1, os⟩) hU1 fun g1 hT1 hs1 => ?_)
      replace hT1 : IsTupOf2 g1 TO x1 a2 := hT1
      replace hs1 : Heap.SameBut TO p1 g1 := hs1
      refine wpAny_bind (wpAny_letGo (wpAny_pure ?_))
      have hi2 : i = n2 := by omega
      refine wpAny_bind (wpAny_bind (wpAny_onRaise ?_))
      show wpAny _ _ (Builtin.SmallTypes.nextOf (.ref i2) >>= _) _ _ ⟨g1, g, d, tk1, os⟩
      refine wpAny_bind (D2.done ⟨g1, g, d, tk1, os⟩ _ _ (by rw [← hi2]; exact (D2.over (D2.over (D2.over st2 hs0 S.zf2) hp1 S.sep1_2) hs1 S.Tf2)) fun q e hq he => ?_)
      replace hq : Heap.ExtBut i2 g1 q := hq
      obtain ⟨oe, hoe, hce⟩ := he
      replace hoe : q.get? e = some oe := hoe
      have hzq : IsZipA q z TI TO .ellipsis fb := hq _ _ S.zi2 (hs1.extBut _ _ S.TOz.symm (hp1.extBut _ _ S.zi1 hz0))
      have hez : e ≠ z := fun x => by subst x; rw [hzq] at hoe; cases hoe; simp at hce
      refine wpAny_setField_rec (s := ⟨q, g, d, tk1, os⟩) hzq (by simp) fun q' _ hq' => ?_
      replace hq' : Heap.SameBut z q q' := hq'
      exact hE q' tk1 e (fun c o cz cT c1 c2 x => hq'.extBut _ _ cz (hq _ _ c2 (hs1.extBut _ _ cT (hp1.extBut _ _ c1 (hs0.extBut _ _ cz x))))) ⟨oe, hq'.extBut _ _ hez hoe, hce⟩
    · have hi1 : i = n1 := by omega
      refine wpAny_bind (D1.done ⟨g0, g, d, tk0, os⟩ _ _ (by rw [← hi1]; exact (D1.over st1 hs0 S.zf1)) fun q e hq he => ?_)
      replace hq : Heap.ExtBut i1 g0 q := hq
      obtain ⟨oe, hoe, hce⟩ := he
      replace hoe : q.get? e = some oe := hoe
      have hzq : IsZipA q z TI TO .ellipsis fb := hq _ _ S.zi1 hz0
      have hez : e ≠ z := fun x => by subst x; rw [hzq] at hoe; cases hoe; simp at hce
      refine wpAny_setField_rec (s := ⟨q, g, d, tk0, os⟩) hzq (by simp) fun q' _ hq' => ?_
      replace hq' : Heap.SameBut z q q' := hq'
      exact hE q' tk0 e (fun c o cz cT c1 c2 x => hq'.extBut _ _ cz (hq _ _ c1 (hs0.extBut _ _ cz x))) ⟨oe, hq'.extBut _ _ hez hoe, hce⟩
  · replace hs0 : Heap.SameBut z hp h0 := hs0
    simp only [Bool.false_eq_true, if_false]
    refine wpAny_bind ?_
    rw [← Array.forIn_toList]
    simp only [List.forIn_cons, List.forIn_nil]
    refine wpAny_bind (wpAny_bind (wpAny_holding ?_))
    show wpAny _ _ (Builtin.SmallTypes.nextOf (.ref i1) >>= _) _ _ ⟨h0, g, d, tk0, os⟩
    by_cases hlt1 : i < n1
    · refine wpAny_bind (D1.item i _ _ _ hlt1 (D1.over st1 hs0 S.zf1) fun x1 p1 tk1 hx1 sn1 hp1 => wpAny_pure ?_)
      replace hp1 : Heap.SameBut i1 h0 p1 := hp1
      refine wpAny_pure ?_
      have hi2 : i = n2 := by omega
      refine wpAny_bind (wpAny_bind (wpAny_holding ?_))
      show wpAny _ _ (Builtin.SmallTypes.nextOf (.ref i2) >>= _) _ _ ⟨p1, g, d, tk1, os⟩
      refine wpAny_bind (D2.done ⟨p1, g, d, tk1, os⟩ _ _ (by rw [← hi2]; exact (D2.over (D2.over st2 hs0 S.zf2) hp1 S.sep1_2)) fun q e hq he => ?_)
      replace hq : Heap.ExtBut i2 p1 q := hq
      exact hE q tk1 e (fun c o cz cT c1 c2 x => hq _ _ c2 (hp1.extBut _ _ c1 (hs0.extBut _ _ cz x))) he
    · have hi1 : i = n1 := by omega
      refine wpAny_bind (D1.done ⟨h0, g, d, tk0, os⟩ _ _ (by rw [← hi1]; exact (D1.over st1 hs0 S.zf1)) fun q e hq he => ?_)
      replace hq : Heap.ExtBut i1 h0 q := hq
      exact hE q tk0 e (fun c o cz cT c1 c2 x => hq _ _ c1 (hs0.extBut _ _ cz x)) he
theorem zst_type (hz : ZSt s.heap z TI TO) : s.TypeIs (.ref z) "zip" := by
  obtain ⟨f0, fb, h, _⟩ := hz
  exact ⟨_, h, rfl⟩
theorem nextOf_zipA_item {Q : Value → Shared → Prop} (S : ZipSep2 z TI TO i1 i2 fp1 fp2) (D1 : Draws prog w A.in1 i1 fp1 n1 P1 St1) (D2 : Draws prog w A.in1 i2 fp2 n2 P2 St2)
    (hz : ZSt s.heap z TI TO) (hTI : IsTupOf2 s.heap TI (.ref i1) (.ref i2)) (hTO : ∃ a1 a2, IsTupOf2 s.heap TO a1 a2) (st1 : St1 i s.heap) (st2 : St2 i s.heap) (hlt1 : i < n1) (hlt2 : i < n2)
    (hQ : ∀ x1 x2 h' tk, P1 i x1 → P2 i x2 → ZSt h' z TI TO → (∃ a1 a2, IsTupOf2 h' TO a1 a2) → St1 (i + 1) h' → St2 (i + 1) h' → IsTupOf2 h' s.heap.objs.size x1 x2 → h'.objs.size = s.heap.objs.size + 1 →
      (∀ c o, c ≠ z → c ≠ TO → c ≠ i1 → c ≠ i2 → s.heap.get? c = some o → h'.get? c = some o) → Q (.ref s.heap.objs.size) { s with heap := h', toks := tk }) :
    wpAny (model prog w) A (Builtin.SmallTypes.nextOf (.ref z)) Q E s := by
  unfold Builtin.SmallTypes.nextOf
  exact wpAny_bind (wpAny_callSpecial?_slot (name := Str.ofString "__next__") (zst_type hz) F.slot_zip_next
    (wpAny_call_entry F.slot_zip_next (zst_type hz) F.entry_zip_next (zipA_item S D1 D2 hz hTI hTO st1 st2 hlt1 hlt2 fun x1 x2 h' tk y1 y2 b1 b2 d1 d2 b5 b6 b7 => wpAny_pure (hQ x1 x2 h' tk y1 y2 b1 b2 d1 d2 b5 b6 b7)) (F.args_zip_next_1 _)))
theorem nextOf_zipA_end {Q : Value → Shared → Prop} (S : ZipSep2 z TI TO i1 i2 fp1 fp2) (D1 : Draws prog w A.in1 i1 fp1 n1 P1 St1) (D2 : Draws prog w A.in1 i2 fp2 n2 P2 St2)
    (hz : ZSt s.heap z TI TO) (hTI : IsTupOf2 s.heap TI (.ref i1) (.ref i2)) (hTO : ∃ a1 a2, IsTupOf2 s.heap TO a1 a2) (st1 : St1 i s.heap) (st2 : St2 i s.heap) (hle1 : i ≤ n1) (hle2 : i ≤ n2) (hend : i = n1 ∨ i = n2)
    (hE : ∀ h' tk e, (∀ c o, c ≠ z → c ≠ TO → c ≠ i1 → c ≠ i2 → s.heap.get? c = some o → h'.get? c = some o) → (∃ o, h'.get? e = some o ∧ o.cls = .type "StopIteration") → E (.ref e) { s with heap := h', toks := tk }) :
    wpAny (model prog w) A (Builtin.SmallTypes.nextOf (.ref z)) Q E s := by
  unfold Builtin.SmallTypes.nextOf
  exact wpAny_bind (wpAny_callSpecial?_slot (name := Str.ofString "__next__") (zst_type hz) F.slot_zip_next
    (wpAny_call_entry F.slot_zip_next (zst_type hz) F.entry_zip_next (zipA_end S D1 D2 hz hTI hTO st1 st2 hle1 hle2 hend hE) (F.args_zip_next_1 _)))
theorem enumZ_item {e : Addr} {c : Int} {old : Value} {Q : Value → Shared → Prop} (S : ZipSep2 z TI TO i1 i2 fp1 fp2) (D1 : Draws prog w A.in1 i1 fp1 n1 P1 St1) (D2 : Draws prog w A.in1 i2 fp2 n2 P2 St2)
    (he : IsEnum s.heap e z c old) (hz : ZSt s.heap z TI TO) (hTI : IsTupOf2 s.heap TI (.ref i1) (.ref i2)) (hTO : ∃ a1 a2, IsTupOf2 s.heap TO a1 a2) (st1 : St1 i s.heap) (st2 : St2 i s.heap) (hlt1 : i < n1) (hlt2 : i < n2)
    (ez : e ≠ z) (eTI : e ≠ TI) (eTO : e ≠ TO) (e1 : e ≠ i1) (e2 : e ≠ i2) (ef1 : e ∉ fp1) (ef2 : e ∉ fp2)
    (hQ : ∀ x1 x2 h' tk, P1 i x1 → P2 i x2 → IsEnumOut h' e z (c + 1) (.ref s.heap.objs.size) (s.heap.objs.size + 1) → ZSt h' z TI TO → IsTupOf2 h' TI (.ref i1) (.ref i2) → (∃ a1 a2, IsTupOf2 h' TO a1 a2) → St1 (i + 1) h' → St2 (i + 1) h' → IsTupOf2 h' s.heap.objs.size x1 x2 →
      IsTupOf2 h' (s.heap.objs.size + 1) (.int c tk) (.ref s.heap.objs.size) → h'.objs.size = s.heap.objs.size + 2 →
      (∀ b o, b ≠ e → b ≠ z → b ≠ TO → b ≠ i1 → b ≠ i2 → s.heap.get? b = some o → h'.get? b = some o) → Q (.ref (s.heap.objs.size + 1)) { s with heap := h', toks := tk + 1 }) :
    wpAny (model prog w) A (Builtin.«enumerate.__next__» ⟨[.ref e], []⟩) (fun fin s' => ∃ v, fin = .done (.ret v) ∧ Q v s') E s := by
  obtain ⟨hp, g, d, tk₀, os⟩ := s
  show wpAny _ _ (field (.ref e) 2 >>= _) _ _ _
  refine wpAny_bind (wpAny_field he rfl (x := .ref z) rfl ?_)
  refine wpAny_bind (nextOf_zipA_item S D1 D2 hz hTI hTO st1 st2 hlt1 hlt2 fun x1 x2 h₁ tk y1 y2 hz₁ hTO₁ d1 d2 hT₁ sz₁ hk₁ => ?_)
  replace hz₁ : ZSt h₁ z TI TO := hz₁
  replace hT₁ : IsTupOf2 h₁ hp.objs.size x1 x2 := hT₁
  replace sz₁ : h₁.objs.size = hp.objs.size + 1 := sz₁
  replace hk₁ : ∀ c o, c ≠ z → c ≠ TO → c ≠ i1 → c ≠ i2 → hp.get? c = some o → h₁.get? c = some o := hk₁
  have he₁ : IsEnum h₁ e z c old := hk₁ _ _ ez eTO e1 e2 he
  have hTI₁ : IsTupOf2 h₁ TI (.ref i1) (.ref i2) := hk₁ _ _ S.TIz S.TITO S.TIi1 S.TIi2 hTI
  show wpAny _ _ (field (.ref e) 3 >>= _) _ _ ⟨h₁, g, d, tk, os⟩
  refine wpAny_bind (wpAny_field he₁ rfl (x := rawInt c) rfl ?_)
  show wpAny _ _ (field (.ref e) 4 >>= _) _ _ ⟨h₁, g, d, tk, os⟩
  refine wpAny_bind (wpAny_field he₁ rfl (x := .none) rfl ?_)
  show wpAny _ _ (mkInt c >>= _) _ _ ⟨h₁, g, d, tk, os⟩
  refine wpAny_bind (wpAny_mkInt ?_)
  show wpAny _ _ (setField (.ref e) 3 (rawInt (c + 1)) >>= _) _ _ ⟨h₁, g, d, tk + 1, os⟩
  refine wpAny_bind (wpAny_setField_rec he₁ (by simp) fun h₂ he₂ hs₂ => ?_)
  replace hs₂ : Heap.SameBut e h₁ h₂ := hs₂
  replace he₂ : IsEnum h₂ e z (c + 1) old := he₂
  show wpAny _ _ (setField (.ref e) 4 .none >>= _) _ _ ⟨h₂, g, d, tk + 1, os⟩
  refine wpAny_bind (wpAny_setField_rec he₂ (by simp) fun h₃ he₃ hs₃ => ?_)
  replace hs₃ : Heap.SameBut e h₂ h₃ := hs₃
  replace he₃ : IsEnum h₃ e z (c + 1) old := he₃
  show wpAny _ _ (newTuple [.int c tk, .ref hp.objs.size] >>= _) _ _ ⟨h₃, g, d, tk + 1, os⟩
  refine wpAny_bind (wpAny_newTuple ?_)
  have he₄ : IsEnum (h₃.push { cls := .type "tuple", data := .seq #[.int c tk, .ref hp.objs.size] }) e z (c + 1) old := Heap.get?_push_of_some _ he₃
  generalize hh₄ : h₃.push { cls := .type "tuple", data := .seq #[.int c tk, .ref hp.objs.size] } = h₄ at he₄
  have hsz : h₃.objs.size = hp.objs.size + 1 := by rw [hs₃.1, hs₂.1, sz₁]
  have hel : e < hp.objs.size := Heap.lt_size he
  have ht₄ : IsTupOf2 h₄ (hp.objs.size + 1) (.int c tk) (.ref hp.objs.size) := by
    rw [← hh₄, ← hsz]
    exact Heap.get?_push_size _ rfl
  have hz₄ : h₄.objs.size = hp.objs.size + 2 := by rw [← hh₄, Heap.size_push, hsz]
  have up : ∀ b o, b ≠ e → h₁.get? b = some o → h₄.get? b = some o := fun b o hbe hb => by
    rw [← hh₄]
    exact Heap.get?_push_of_some _ (hs₃.extBut b o hbe (hs₂.extBut b o hbe hb))
  show wpAny _ _ (Builtin.SmallTypes.ownedTupleIsFree (.ref e) >>= _) _ _ ⟨h₄, g, d, tk + 1, os⟩
  rw [hsz]
  refine wpAny_bind ?_
  unfold Builtin.SmallTypes.ownedTupleIsFree
  refine wpAny_bind (wpAny_field he₄ rfl (x := .none) rfl (wpAny_pure ?_))
  simp only [if_true]
  refine wpAny_bind (wpAny_rule ?_)
  refine wpAny_bind (wpAny_field he₄ rfl (x := old) rfl ?_)
  refine wpAny_bind (wpAny_setField_rec he₄ (by simp) fun h₅ he₅ hs₅ => ?_)
  replace hs₅ : Heap.SameBut e h₄ h₅ := hs₅
  replace he₅ : IsEnum h₅ e z (c + 1) (.ref hp.objs.size) := he₅
  show wpAny _ _ (Builtin.SmallTypes.ownedTupleHandOut (.ref e) (.ref (hp.objs.size + 1)) >>= _) _ _ ⟨h₅, g, d, tk + 1, os⟩
  refine wpAny_bind ?_
  unfold Builtin.SmallTypes.ownedTupleHandOut
  refine wpAny_bind (wpAny_setField_rec he₅ (by simp) fun h₆ he₆ hs₆ => ?_)
  replace hs₆ : Heap.SameBut e h₅ h₆ := hs₆
  replace he₆ : IsEnumOut h₆ e z (c + 1) (.ref hp.objs.size) (hp.objs.size + 1) := he₆
  refine wpAny_setField_rec he₆ (by simp) fun h₇ he₇ hs₇ => ?_
  replace hs₇ : Heap.SameBut e h₆ h₇ := hs₇
  replace he₇ : IsEnumOut h₇ e z (c + 1) (.ref hp.objs.size) (hp.objs.size + 1) := he₇
  have up7 : ∀ b o, b ≠ e → h₄.get? b = some o → h₇.get? b = some o := fun b o hbe hb => hs₇.extBut b o hbe (hs₆.extBut b o hbe (hs₅.extBut b o hbe hb))
  have up17 : ∀ b o, b ≠ e → h₁.get? b = some o → h₇.get? b = some o := fun b o hbe hb => up7 b o hbe (up b o hbe hb)
  obtain ⟨f0, fb, hzz, hff⟩ := hz₁
  obtain ⟨b1, b2, hTO₁⟩ := hTO₁
  refine wpAny_bind (wpAny_letGo (wpAny_pure ⟨_, rfl, hQ x1 x2 h₇ tk y1 y2 he₇ ⟨f0, fb, up17 _ _ (Ne.symm ez) hzz, hff⟩ (up17 _ _ (Ne.symm eTI) hTI₁) ⟨b1, b2, up17 _ _ (Ne.symm eTO) hTO₁⟩ (D1.frame _ _ _ d1 fun b hb o q => up17 b o (fun z => ef1 (z ▸ hb)) q) (D2.frame _ _ _ d2 fun b hb o q => up17 b o (fun z => ef2 (z ▸ hb)) q) (up17 _ _ (Nat.ne_of_gt hel) hT₁) (up7 _ _ (Nat.ne_of_gt (Nat.lt_succ_of_lt hel)) ht₄) ?_ fun b o hbe hbz hbT hb1 hb2 hb => up17 b o hbe (hk₁ b o hbz hbT hb1 hb2 hb)⟩))
  show h₇.objs.size = hp.objs.size + 2
  rw [hs₇.1, hs₆.1, hs₅.1, hz₄]
theorem pyNext_enumZ_item {e : Addr} {c : Int} {old : Value} {Q : Option Value → Shared → Prop} (S : ZipSep2 z TI TO i1 i2 fp1 fp2) (D1 : Draws prog w A.in1.in1 i1 fp1 n1 P1 St1) (D2 : Draws prog w A.in1.in1 i2 fp2 n2 P2 St2)
    (he : IsEnum s.heap e z c old) (hz : ZSt s.heap z TI TO) (hTI : IsTupOf2 s.heap TI (.ref i1) (.ref i2)) (hTO : ∃ a1 a2, IsTupOf2 s.heap TO a1 a2) (st1 : St1 i s.heap) (st2 : St2 i s.heap) (hlt1 : i < n1) (hlt2 : i < n2)
    (ez : e ≠ z) (eTI : e ≠ TI) (eTO : e ≠ TO) (e1 : e ≠ i1) (e2 : e ≠ i2) (ef1 : e ∉ fp1) (ef2 : e ∉ fp2)
    (hQ : ∀ x1 x2 h' tk, P1 i x1 → P2 i x2 → IsEnumOut h' e z (c + 1) (.ref s.heap.objs.size) (s.heap.objs.size + 1) → ZSt h' z TI TO → IsTupOf2 h' TI (.ref i1) (.ref i2) → (∃ a1 a2, IsTupOf2 h' TO a1 a2) → St1 (i + 1) h' → St2 (i + 1) h' → IsTupOf2 h' s.heap.objs.size x1 x2 →
      IsTupOf2 h' (s.heap.objs.size + 1) (.int c tk) (.ref s.heap.objs.size) → h'.objs.size = s.heap.objs.size + 2 →
      (∀ b o, b ≠ e → b ≠ z → b ≠ TO → b ≠ i1 → b ≠ i2 → s.heap.get? b = some o → h'.get? b = some o) → Q (some (.ref (s.heap.objs.size + 1))) { s with heap := h', toks := tk + 1 }) :
    wpAny (model prog w) A (pyNext (.ref e)) Q E s := by
  have hT : s.TypeIs (.ref e) "enumerate" := ⟨_, he, rfl⟩
  unfold pyNext
  exact wpAny_bind (wpAny_attempt (wpAny_callSpecial?_slot (name := Str.ofString "__next__") hT F.slot_enumerate_next
    (wpAny_call_entry F.slot_enumerate_next hT F.entry_enumerate_next
      (enumZ_item S D1 D2 he hz hTI hTO st1 st2 hlt1 hlt2 ez eTI eTO e1 e2 ef1 ef2 fun x1 x2 h' tk a b c d k q r t u v x y => wpAny_pure (hQ x1 x2 h' tk a b c d k q r t u v x y)) (F.args_enumerate_next_1 _))))
theorem pyNext_enumZ_end {e : Addr} {c : Int} {old : Value} {Q : Option Value → Shared → Prop} (S : ZipSep2 z TI TO i1 i2 fp1 fp2) (D1 : Draws prog w A.in1.in1 i1 fp1 n1 P1 St1) (D2 : Draws prog w A.in1.in1 i2 fp2 n2 P2 St2)
    (he : IsEnum s.heap e z c old) (hz : ZSt s.heap z TI TO) (hTI : IsTupOf2 s.heap TI (.ref i1) (.ref i2)) (hTO : ∃ a1 a2, IsTupOf2 s.heap TO a1 a2) (st1 : St1 i s.heap) (st2 : St2 i s.heap) (hle1 : i ≤ n1) (hle2 : i ≤ n2) (hend : i = n1 ∨ i = n2)
    (hQ : ∀ h' tk, (∀ c o, c ≠ z → c ≠ TO → c ≠ i1 → c ≠ i2 → s.heap.get? c = some o → h'.get? c = some o) → Q none { s with heap := h', toks := tk }) : wpAny (model prog w) A (pyNext (.ref e)) Q E s := by
  have hT : s.TypeIs (.ref e) "enumerate" := ⟨_, he, rfl⟩
  unfold pyNext
  refine wpAny_bind (wpAny_attempt (wpAny_callSpecial?_slot (name := Str.ofString "__next__") hT F.slot_enumerate_next
    (wpAny_call_entry F.slot_enumerate_next hT F.entry_enumerate_next ?_ (F.args_enumerate_next_1 _))))
  show wpAny _ _ (field (.ref e) 2 >>= _) _ _ _
  refine wpAny_bind (wpAny_field he rfl (x := .ref z) rfl ?_)
  refine wpAny_bind (nextOf_zipA_end S D1 D2 hz hTI hTO st1 st2 hle1 hle2 hend fun h' tk x hk hx => ?_)
  obtain ⟨o, ho, hc⟩ := hx
  refine wpAny_bind (wpAny_isInstance (T := "StopIteration") (b := true) ⟨o, ho, hc⟩ isSubtype_stop ?_)
  exact wpAny_pure (hQ _ _ hk)
end
theorem turnedNew2 {X : Cx} {pins : List (Addr × Obj)} {σ : L2.St} {H : Hp} {s : Shared} {h' : Heap} {t' : Nat} {ch : List Addr} {T U : Addr} {ob oc : HO} (I : Inv X pins σ H s) (k : ∀ b o, b ∉ ch → s.heap.get? b = some o → h'.get? b = some o) (hf : ∀ b ∈ ch, FpOk X pins H b) (hT : s.heap.objs.size ≤ T) (hU : s.heap.objs.size ≤ U) (hTU : T ≠ U)
    (new1 : ObjOk X.prog X.w (upd (upd H T ob) U oc) h' T ob) (new2 : ObjOk X.prog X.w (upd (upd H T ob) U oc) h' U oc) : Inv X pins σ (upd (upd H T ob) U oc) { s with heap := h', toks := t' } := by
  have hn : H T = none := I.hok.fresh hT
  have hn2 : H U = none := I.hok.fresh hU
  have nit : ∀ b u, H b = some u → b ∉ ch := fun b u e z => by
    have q := (hf b z).1
    rw [q] at e; cases e
  have g : ∀ b u, H b = some u → (upd (upd H T ob) U oc) b = some u := fun b u e => by
    rw [upd_ne (ne_of_none e hn2), upd_ne (ne_of_none e hn)]; exact e
  refine I.step (g' := s.gens) (d' := s.drawn) (ch := ch) (fun b hb => ⟨(hf b hb).2.2.2.1, (hf b hb).2.1, (hf b hb).2.2.2.2.1, (hf b hb).2.2.2.2.2⟩) (fun b o _ _ hc e _ => k b o hc e) (fun b o _ _ hc e _ => ⟨o.slots, k b o hc e⟩)
    (fun b o _ e n => ?_) (fun b o hc e => ⟨o, k b o hc e⟩) (fun b xs e => g b _ e) (fun b o u e => g b _ e) (fun b ps e => ⟨#[], ?_⟩) (fun m hm => ?_) (fun b u e => ?_) I.bare
  · have hl := Heap.lt_size e
    rw [upd_ne (Nat.ne_of_lt (Nat.lt_of_lt_of_le hl hU)), upd_ne (Nat.ne_of_lt (Nat.lt_of_lt_of_le hl hT))]; exact n
  · rw [g b _ e]; simp
  · obtain ⟨o, es, ep, ho, r⟩ := hm
    exact ⟨o, es, ep, k _ o (fun z => (hf _ z).2.1 rfl) ho, r⟩
  · by_cases hb : b = U
    · subst hb
      rw [upd_same] at e
      cases e
      exact new2
    · rw [upd_ne hb] at e
      by_cases hb : b = T
      · subst hb
        rw [upd_same] at e
        cases e
        exact new1
      · rw [upd_ne hb] at e
        refine (I.hok b u e).stay (fun c v hc q => k c v ?_ q) (fun c q => g c _ q) fun c xs q => g c _ q
        rcases hc with z | z
        · rw [z]; exact nit b u e
        · exact nit c _ z
def ItEZ (K : PySem.W.Frag) (l1 l2 : Bool) (a b : Addr) : It :=
  ⟨fun i H => ∃ (xs ys : List V) (x y : V), SqX K l1 H a xs ∧ SqX K l2 H b ys ∧ xs[i]? = some x ∧ ys[i]? = some y,
    fun i H v H' => ∃ T U x y, v = .ref U ∧ H T = none ∧ H U = none ∧ T ≠ U ∧ H' = upd (upd H T (.tup [x, y])) U (.tup [.int (i : Nat), .ref T]) ∧ (∀ xs, SqX K l1 H a xs → xs[i]? = some x) ∧ ∀ ys, SqX K l2 H b ys → ys[i]? = some y,
    fun i H => ∃ xs ys : List V, SqX K l1 H a xs ∧ SqX K l2 H b ys ∧ i ≤ xs.length ∧ i ≤ ys.length ∧ (xs.length = i ∨ ys.length = i)⟩
theorem turn_enumZ {P : Program} {w : World} {K : PySem.W.Frag} {elts : List Expr} {kk : Nat} {tpos : Pos} {l1 l2 : Bool} {a b e z TI TO i1 i2 : Addr} (S : ZipSep2 z TI TO i1 i2 [i1, a] [i2, b]) (n1 : a ≠ i1) (n2 : b ≠ i2)
    (ez : e ≠ z) (eTI : e ≠ TI) (eTO : e ≠ TO) (e1 : e ≠ i1) (e2 : e ≠ i2) (ea : e ≠ a) (eb : e ≠ b) :
    Turn P w K (.Tuple elts kk tpos) (ItEZ K l1 l2 a b) [e, z, TI, TO, i1, i2] e (fun i h => (∃ old, IsEnum h e z ((i : Nat) : Int) old) ∧ ZSt h z TI TO ∧ IsTupOf2 h TI (.ref i1) (.ref i2) ∧ (∃ x y, IsTupOf2 h TO x y) ∧ ItX l1 h i1 a i ∧ ItX l2 h i2 b i) where
  mem := by simp
  obj := fun i h st c hc => by
    obtain ⟨⟨old, he⟩, ⟨f0, fb, hz, _⟩, hTI, ⟨x, y, hTO⟩, h1, h2⟩ := st
    have e' : c = e ∨ c = z ∨ c = TI ∨ c = TO ∨ c = i1 ∨ c = i2 := by simpa using hc
    rcases e' with q | q | q | q | q | q
    · rw [q]; exact ⟨_, he, fun v q => nomatch q⟩
    · rw [q]; exact ⟨_, hz, fun v q => nomatch q⟩
    · rw [q]; exact ⟨_, hTI, fun v q => nomatch q⟩
    · rw [q]; exact ⟨_, hTO, fun v q => nomatch q⟩
    · rw [q]; exact itx_ob h1
    · rw [q]; exact itx_ob h2
  keep := fun i h h' st k => by
    obtain ⟨⟨old, he⟩, ⟨f0, fb, hz, hf⟩, hTI, ⟨x, y, hTO⟩, h1, h2⟩ := st
    exact ⟨⟨old, k e (by simp) _ he⟩, ⟨f0, fb, k z (by simp) _ hz, hf⟩, k TI (by simp) _ hTI, ⟨x, y, k TO (by simp) _ hTO⟩, itx_at h1 fun o q => k i1 (by simp) o q, itx_at h2 fun o q => k i2 (by simp) o q⟩
  item := by
    intro X hP hw hK hc i pins s σ H E I hf st hg
    subst hP hw hK
    obtain ⟨⟨old, he⟩, hz, hTI, hTO, h1, h2⟩ := st
    obtain ⟨xs, ys, x, y, hqx, hqy, hx, hy⟩ := hg
    obtain ⟨its, rv, p⟩ := sqx_inv I hqx
    obtain ⟨its2, rv2, p2⟩ := sqx_inv I hqy
    obtain ⟨u, hu, ru⟩ := rv.get hx
    obtain ⟨u2, hu2, ru2⟩ := rv2.get hy
    have hel : e < s.heap.objs.size := Heap.lt_size he
    have hi1 : i < its.toArray.size := by
      rw [List.size_toArray]
      exact (List.getElem?_eq_some_iff.mp hu).1
    have hi2 : i < its2.toArray.size := by
      rw [List.size_toArray]
      exact (List.getElem?_eq_some_iff.mp hu2).1
    refine pyNext_enumZ_item S (drawsX (A := X.A.in1.in1) (I.ok.hd hc) l1 i1 a n1 its.toArray) (drawsX (A := X.A.in1.in1) (I.ok.hd hc) l2 i2 b n2 its2.toArray) he hz hTI hTO ⟨h1, p⟩ ⟨h2, p2⟩ hi1 hi2 ez eTI eTO e1 e2 (by simp [e1, ea]) (by simp [e2, eb]) fun x1 x2 h' tk q1 q2 eo z' TI' TO' h1' h2' hT hU hsz hk => ?_
    have e1' : u = x1 := by
      have : its.toArray[i]? = some u := by simpa using hu
      rw [this] at q1
      exact Option.some.inj q1
    have e2' : u2 = x2 := by
      have : its2.toArray[i]? = some u2 := by simpa using hu2
      rw [this] at q2
      exact Option.some.inj q2
    subst e1' e2'
    refine ⟨_, rfl, wpAny_letOwnedTupleGo_enum (s := { s with heap := h', toks := tk + 1 }) eo fun h'' he' sb => ?_⟩
    have hT2 : h''.get? s.heap.objs.size = some { cls := .type "tuple", data := .seq #[u, u2] } := (sb.2 _ (Nat.ne_of_gt hel)).trans hT
    have hU2 : h''.get? (s.heap.objs.size + 1) = some { cls := .type "tuple", data := .seq #[.int i tk, .ref s.heap.objs.size] } := (sb.2 _ (Nat.ne_of_gt (Nat.lt_succ_of_lt hel))).trans hU
    have nTU : s.heap.objs.size ≠ s.heap.objs.size + 1 := Nat.ne_of_lt (Nat.lt_succ_self _)
    have new1 : ObjOk X.prog X.w (upd (upd H s.heap.objs.size (.tup [x, y])) (s.heap.objs.size + 1) (.tup [.int (i : Nat), .ref s.heap.objs.size])) h'' s.heap.objs.size (.tup [x, y]) :=
      ⟨by show 2 ≤ sizeLine; decide, [u, u2], .cons ru (.cons ru2 .nil), ⟨_, hT2, rfl, _, rfl⟩⟩
    have new2 : ObjOk X.prog X.w (upd (upd H s.heap.objs.size (.tup [x, y])) (s.heap.objs.size + 1) (.tup [.int (i : Nat), .ref s.heap.objs.size])) h'' (s.heap.objs.size + 1) (.tup [.int (i : Nat), .ref s.heap.objs.size]) :=
      ⟨by show 2 ≤ sizeLine; decide, [.int i tk, .ref s.heap.objs.size], .cons ⟨_, rfl⟩ (.cons rfl .nil), ⟨_, hU2, rfl, _, rfl⟩⟩
    have I1 := turnedNew2 (t' := tk + 1) (h' := h'') (ch := [e, z, TI, TO, i1, i2]) I (fun c o hb q => (sb.2 c (fun q' => hb (by simp [q']))).trans (hk c o (fun q' => hb (by simp [q'])) (fun q' => hb (by simp [q'])) (fun q' => hb (by simp [q'])) (fun q' => hb (by simp [q'])) (fun q' => hb (by simp [q'])) q)) hf (Nat.le_refl _) (Nat.le_succ _) nTU new1 new2
    refine ⟨.ref (s.heap.objs.size + 1), _, I1, rfl, ⟨_, _, x, y, rfl, I.hok.fresh (Nat.le_refl _), I.hok.fresh (Nat.le_succ _), nTU, rfl, fun l hl => by rw [sqx_inj I hl hqx]; exact hx, fun l hl => by rw [sqx_inj I hl hqy]; exact hy⟩, ⟨⟨.ref s.heap.objs.size, ?_⟩, ?_, ?_, ?_, ?_, ?_⟩, fun c hcm => ?_⟩
    · have e1 : ((i + 1 : Nat) : Int) = (i : Int) + 1 := by omega
      rw [e1]; exact he'
    · obtain ⟨f0, fb, hzz, hff⟩ := z'
      exact ⟨f0, fb, (sb.2 _ (Ne.symm ez)).trans hzz, hff⟩
    · exact (sb.2 _ (Ne.symm eTI)).trans TI'
    · obtain ⟨b1, b2, q⟩ := TO'
      exact ⟨b1, b2, (sb.2 _ (Ne.symm eTO)).trans q⟩
    · exact itx_at h1'.1 fun o q => (sb.2 _ (Ne.symm e1)).trans q
    · exact itx_at h2'.1 fun o q => (sb.2 _ (Ne.symm e2)).trans q
    · have hlt : c < s.heap.objs.size := by
        have e' : c = e ∨ c = z ∨ c = TI ∨ c = TO ∨ c = i1 ∨ c = i2 := by simpa using hcm
        rcases e' with q | q | q | q | q | q
        · rw [q]; exact hel
        · rw [q]; obtain ⟨_, _, hzz, _⟩ := hz; exact Heap.lt_size hzz
        · rw [q]; exact Heap.lt_size hTI
        · rw [q]; obtain ⟨_, _, q⟩ := hTO; exact Heap.lt_size q
        · rw [q]; obtain ⟨_, e1, _⟩ := itx_ob h1; exact Heap.lt_size e1
        · rw [q]; obtain ⟨_, e2, _⟩ := itx_ob h2; exact Heap.lt_size e2
      rw [upd_ne (Nat.ne_of_lt (Nat.lt_succ_of_lt hlt)), upd_ne (Nat.ne_of_lt hlt)]
      exact (hf c hcm).1
  done := by
    intro X hP hw hK hc i pins s σ H E I hf st hg
    subst hP hw hK
    obtain ⟨⟨old, he⟩, hz, hTI, hTO, h1, h2⟩ := st
    obtain ⟨xs, ys, hqx, hqy, le1, le2, hend⟩ := hg
    obtain ⟨its, rv, p⟩ := sqx_inv I hqx
    obtain ⟨its2, rv2, p2⟩ := sqx_inv I hqy
    have q1 : its.toArray.size = xs.length := by rw [List.size_toArray, ← rv.length]
    have q2 : its2.toArray.size = ys.length := by rw [List.size_toArray, ← rv2.length]
    exact pyNext_enumZ_end S (drawsX (A := X.A.in1.in1) (I.ok.hd hc) l1 i1 a n1 its.toArray) (drawsX (A := X.A.in1.in1) (I.ok.hd hc) l2 i2 b n2 its2.toArray) he hz hTI hTO ⟨h1, p⟩ ⟨h2, p2⟩ (by omega) (by omega) (by omega) fun h' tk hk => ⟨rfl, I.turnedL (t' := tk) (ch := [e, z, TI, TO, i1, i2]) (fun c o hb q =>
      hk c o (fun q' => hb (by simp [q'])) (fun q' => hb (by simp [q'])) (fun q' => hb (by simp [q'])) (fun q' => hb (by simp [q'])) q) hf⟩
  self := fun A i s Q E st h => let ⟨⟨_, he⟩, _⟩ := st; wpAny_pyIter_enum he h
set_option maxHeartbeats 1000000 in
theorem meets_enum_newZ {z TI TO : Addr} :
    Meets (Builtin.«enumerate.__new__» ⟨[.type "enumerate", .ref z], []⟩) (fun _ R s => IsZip s.heap z TI TO .none ∧
      R (.ok (.ret (.ref s.heap.objs.size))) { s with heap := s.heap.push { cls := .type "enumerate", data := .fields #[.none, .bool false, .ref z, rawInt 0, .none, .none] } }) :=
  .of_wp fun prog w A R s h => by
    obtain ⟨hp, g, d, tk, os⟩ := s; obtain ⟨h1, h⟩ := h
    have hsub := sub_enumerate
    have q1 : ∀ {A' : Around} {E : Value → Shared → Prop} {Q : Value → Shared → Prop}, Q (.ref z) ⟨hp, g, d, tk, os⟩ → wpAny (model prog w) A' (pyIter (.ref z)) Q E ⟨hp, g, d, tk, os⟩ :=
      fun q => wpAny_pyIter_zip h1 q
    wp_walk using q1
    refine wpAny_stack_any fun st => wpAny_pure ?_
    split
    · rename_i c _ _ _ _ _
      cases (c == Value.type "enumerate")
      · wp_walk using q1
        exact ⟨_, rfl, h⟩
      · wp_walk using q1
        exact ⟨_, rfl, h⟩
    · wp_walk using q1
      exact ⟨_, rfl, h⟩
theorem enumZ_begins {prog : Program} {w : World} {A : Around} {E : Value → Shared → Prop} {s : Shared} {z TI TO : Addr} {Q : Value → Shared → Prop} (h1 : IsZip s.heap z TI TO .none)
    (h : ∀ h', IsEnum h' s.heap.objs.size z 0 .none → h'.objs.size = s.heap.objs.size + 1 →
      (∀ b o, s.heap.get? b = some o → h'.get? b = some o) → Q (.ref s.heap.objs.size) { s with heap := h' }) :
    wpAny (model prog w) A (call (.type "enumerate") [.ref z]) Q E s := by
  refine callType_new F.called_enumerate (by decide) (F.typeCall_enumerate_1 _) (F.newCall_enumerate_1 _) (fun obj => F.args_object_init_2 obj _) F.entry_enumerate_new
    meets_enum_newZ ⟨h1, ?_⟩
  have he : IsEnum (s.heap.push { cls := .type "enumerate", data := .fields #[.none, .bool false, .ref z, rawInt 0, .none, .none] }) s.heap.objs.size z 0 .none := Heap.get?_push_size s.heap rfl
  refine ⟨⟨_, he, rfl⟩, h _ he (Heap.size_push ..) fun b o x => Heap.get?_push_of_some _ x⟩
def iEZ (K : PySem.W.Frag) (ta : TA) : TI := fun σ H R => ta σ H fun vs H1 => ∃ l1 l2 a b xs ys, vs = [.ref a, .ref b] ∧ SqX K l1 H1 a xs ∧ SqX K l2 H1 b ys ∧ R (ItEZ K l1 l2 a b) H1
theorem pi_enumZ {X : Cx} {e e2 : Expr} {ta : TA} {p pos p' pos' tpos : Pos} {elts : List Expr} {kk : Nat} (hg : Gl X "zip") (hm : X.mg "zip" = none) (hg2 : Gl X "enumerate") (hm2 : X.mg "enumerate" = none) (ha : PA X [e, e2] ta)
    (hs : starEach [e, e2] X.env = (false, eval e X.env) :: starEach [e2] X.env := by rfl) (hpl : (backTo pos (starEach [e2] X.env)).any (·.1) = false := by rfl)
    (hs2 : starEach [.Call (.Name "zip" p) [e, e2] [] pos] X.env = [(false, eval (.Call (.Name "zip" p) [e, e2] [] pos) X.env)] := by rfl) :
    PI X (.Tuple elts kk tpos) (.Call (.Name "enumerate" p') [.Call (.Name "zip" p) [e, e2] [] pos] [] pos') (iEZ X.K ta) := by
  refine ⟨fun pins s σ H R I h => ?_⟩
  refine Call_ (ld_blt I hg2 hm2 boot_enumerate (PyProof.Rows.callWith_type1 ?_ hs2 rfl))
  rw [hs2]
  show wpAny _ _ (spliced [(false, eval (.Call (.Name "zip" p) [e, e2] [] pos) X.env)]) _ _ s
  refine Calls.spliced_cons ?_
  refine Call_ (ld_blt I hg hm PyProof.Rows.boot_zip (PyProof.Rows.callWith_type1 (thn (ha.run pos pins s σ H _ I h) fun us s1 ⟨vs, H1, I1, r1, q1⟩ => ?_) hs hpl))
  obtain ⟨l1, l2, a, b, xs, ys, ex, hqx, hqy, q⟩ := q1
  subst ex
  cases r1 with
  | cons r rr =>
    cases rr with
    | cons r' rr =>
      cases rr
      cases r
      cases r'
      obtain ⟨its, rv, p1⟩ := sqx_inv I1 hqx
      obtain ⟨its2, rv2, p2⟩ := sqx_inv I1 hqy
      refine zip_begins2 (beginsX l1 a its.toArray) (beginsX l2 b its2.toArray) p1 p2 fun h' hz hTI hTO h1 h2 hsz hk => Calls.spliced_nil ?_
      refine enumZ_begins (s := { s1 with heap := h' }) hz fun h'' he hsz2 hk2 => wpAny_pyIter_enum he ?_
      have hk3 : ∀ b o, s1.heap.get? b = some o → h''.get? b = some o := fun b o q => hk2 b o (hk b o q)
      have I2 : Inv X pins σ H1 { s1 with heap := h'' } := I1.kept (t' := s1.toks) hk3
      have la := onx_lt p1
      have lb := onx_lt p2
      have hsz' : h'.objs.size = s1.heap.objs.size + 5 := hsz
      have he' : IsEnum h'' h'.objs.size (s1.heap.objs.size + 4) 0 .none := he
      show PIE X pins σ (.Tuple elts kk tpos) R (.ref h'.objs.size) { s1 with heap := h'' }
      rw [hsz'] at he' ⊢
      have la5 : s1.heap.objs.size + 5 ≠ a := Nat.ne_of_gt (Nat.lt_of_lt_of_le la (Nat.le_add_right _ 5))
      have lb5 : s1.heap.objs.size + 5 ≠ b := Nat.ne_of_gt (Nat.lt_of_lt_of_le lb (Nat.le_add_right _ 5))
      have fresh6 : ∀ c, c ∈ [s1.heap.objs.size + 5, s1.heap.objs.size + 4, s1.heap.objs.size + 2, s1.heap.objs.size + 3, s1.heap.objs.size, s1.heap.objs.size + 1] → FpOk X pins H1 c := fun c hcm => by
        have hle : s1.heap.objs.size ≤ c := by
          have e' : c = s1.heap.objs.size + 5 ∨ c = s1.heap.objs.size + 4 ∨ c = s1.heap.objs.size + 2 ∨ c = s1.heap.objs.size + 3 ∨ c = s1.heap.objs.size ∨ c = s1.heap.objs.size + 1 := by simpa using hcm
          rcases e' with z | z | z | z | z | z <;> rw [z]
          · exact Nat.le_add_right _ _
          · exact Nat.le_add_right _ _
          · exact Nat.le_add_right _ _
          · exact Nat.le_add_right _ _
          · exact Nat.le_refl _
          · exact Nat.le_add_right _ _
        exact I1.fpOk hle (I1.hok.fresh hle)
      have ne5 : ∀ k, k < 5 → s1.heap.objs.size + 5 ≠ s1.heap.objs.size + k := fun k hk z => by omega
      refine ⟨s1.heap.objs.size + 5, [s1.heap.objs.size + 5, s1.heap.objs.size + 4, s1.heap.objs.size + 2, s1.heap.objs.size + 3, s1.heap.objs.size, s1.heap.objs.size + 1], _, _, H1, rfl, I2,
        turn_enumZ (zip_sep2 (fp1 := [a]) (fp2 := [b]) (fun c hc => by rw [List.mem_singleton.mp hc]; exact la) (fun c hc => by rw [List.mem_singleton.mp hc]; exact lb)) (Nat.ne_of_lt la) (Nat.ne_of_lt (Nat.lt_succ_of_lt lb))
          (ne5 4 (by omega)) (ne5 2 (by omega)) (ne5 3 (by omega)) (ne5 0 (by omega)) (ne5 1 (by omega)) la5 lb5,
        ⟨⟨.none, he'⟩, ⟨.none, false, hk2 _ _ hz, .inl rfl⟩, hk2 _ _ hTI, ⟨_, _, hk2 _ _ hTO⟩, itx_new (hk2 _ _ h1), itx_new (hk2 _ _ h2)⟩, fresh6, q⟩
def YEZ (xs ys : Nat → Option V) : Nat → Hp → V → Hp → Prop := fun i H v H' => ∃ T U x y, v = .ref U ∧ H T = none ∧ H U = none ∧ T ≠ U ∧ H' = upd (upd H T (.tup [x, y])) U (.tup [.int (i : Nat), .ref T]) ∧ xs i = some x ∧ ys i = some y
theorem walk_enumZ {K : PySem.W.Frag} {l1 l2 : Bool} {a b : Addr} {xs ys : List V} (hn : xs.length = ys.length) : Walk (ItEZ K l1 l2 a b) xs.length (fun H => SqX K l1 H a xs ∧ SqX K l2 H b ys) (YEZ (fun i => xs[i]?) (fun i => ys[i]?)) := by
  refine ⟨fun i _ hi q => ?_, fun _ q => ⟨xs, ys, q.1, q.2, by omega, by omega, .inl rfl⟩, fun i H v H' _ q y => ?_⟩
  · have h2 : i < ys.length := by omega
    exact ⟨xs, ys, xs[i], ys[i], q.1, q.2, by simp [hi], by simp [h2]⟩
  · obtain ⟨T, U, x, z, h1, h2, h3, h4, h5, h6, h7⟩ := y
    exact ⟨T, U, x, z, h1, h2, h3, h4, h5, h6 xs q.1, h7 ys q.2⟩
end K29
namespace K29
open PySem PySem.Spec PyProof.Rows L2
theorem str_ext {a b : Str} (h : a.cps.toList = b.cps.toList) : a = b := by
  cases a with
  | mk x =>
    cases b with
    | mk y =>
      congr 1
      exact Array.toList_inj.mp h
def sle (a b : Str) : Prop := a.cps.toList ≤ b.cps.toList
theorem sle_of {a b : Str} (h : ltCps b.cps.toList a.cps.toList = false) : sle a b := by
  rw [ltCps_eq] at h
  exact List.not_lt.mp (of_decide_eq_false h)
theorem sle_trans {a b c : Str} (h : sle a b) (h' : sle b c) : sle a c := List.le_trans h h'
theorem rising_pw : ∀ (l : List Str) (p : Str), risingS p l = true → (p :: l).Pairwise sle
  | [], p, _ => by simp
  | x :: r, p, h => by
    have h' : (!ltCps x.cps.toList p.cps.toList && risingS x r) = true := h
    rw [Bool.and_eq_true] at h'
    have h1 := sle_of (by simpa using h'.1)
    have h2 := rising_pw r x h'.2
    refine List.pairwise_cons.mpr ⟨fun y hy => ?_, h2⟩
    rcases List.mem_cons.mp hy with rfl | hy
    · exact h1
    · exact sle_trans h1 ((List.pairwise_cons.mp h2).1 y hy)
theorem sortedS_pw {l : List Str} (h : sortedS l = true) : l.Pairwise sle := by
  cases l with
  | nil => simp
  | cons x r => exact rising_pw r x h
theorem sortedS_unique {L M : List Str} (h1 : sortedS L = true) (h2 : sortedS M = true) (p : L.Perm M) : L = M :=
  List.Perm.eq_of_pairwise (le := sle) (fun a b _ _ x y => str_ext (List.le_antisymm x y)) (sortedS_pw h1) (sortedS_pw h2) p
end K29
namespace K29
open PySem PySem.Spec PyProof.Rows L2
/-! ### several clauses with a name -/
/-- what the clauses 'except .. as n' wish, one behind another; slot i is n's -/
def wManyA (K : PySem.W.Frag) (i : Nat) (Wout : WX) (D : L2.Ends) : List (Value × (Addr → Value → Option Addr → TS)) → WX
  | [] => Wout
  | (c, ts) :: r => fun cls d σ H => ∃ b, PySem.W.exmOne K cls c = some b ∧ (b = true → ∀ a, H a = none → ts a cls d { nx := fun σ' H' => D.nx (σ'.set i none) H', rt := D.rt, bk := fun σ' H' => D.bk (σ'.set i none) H', ct := fun σ' H' => D.ct (σ'.set i none) H' } (σ.set i (some (.ref a))) H) ∧ (b = false → wManyA K i Wout D r cls d σ H)
inductive HdsA (X : Cx) (n : Str) : List ExceptHandler → List (Value × (Addr → Value → Option Addr → TS)) → Prop
  | nil : HdsA X n [] []
  | cons {x : Str} {c : Value} {ts : Addr → Value → Option Addr → TS} {b₀ : Stmt} {suite : List Stmt} {np pos' : Pos} {hds : List ExceptHandler} {l : List (Value × (Addr → Value → Option Addr → TS))} (hc : Names X x c)
      (hsu : ∀ (a : Addr) (oe : Obj) (cls : Value) (d : Option Addr) (pn : List (Addr × Obj)), Zc cls d oe → (∃ vs, oe.data = .fields vs) → PSs (X.suite a ((a, oe) :: pn)) (b₀ :: suite) (ts a cls d)) (r : HdsA X n hds l) :
      HdsA X n (.ExceptHandler (some (.Name x np)) (some n) (b₀ :: suite) pos' :: hds) ((c, ts) :: l)
section
variable {X : Cx} {n : Str} {i : Nat} {body : List Stmt} {h₀ : ExceptHandler} {hds : List ExceptHandler} {l : List (Value × (Addr → Value → Option Addr → TS))} {pos : Pos} {tb : WX → TS} {Wout : WX}
theorem ps_try_manyA (hs : X.stack = X.env :: X.outer) (hf : X.env.frame = some X.env.locals) (hN : X.N.Nodup) (hi : X.N[i]? = some n) (hln : X.env.kindOf n = some .local) (tk : Takes X Wout)
    (hb : ∀ (W : WX) (pn : List (Addr × Obj)) (xe : Value → Shared → Prop), Takes (X.tr pn xe) W → PassesOwn (model X.prog X.w) X.A X.env xe → PSs (X.tr pn xe) body (tb W))
    (hh : HdsA X n (h₀ :: hds) l) : PS X (.Try body (h₀ :: hds) [] [] pos) (fun D σ H => tb (fun cls d σ' H' => σ'.length = X.N.length → wManyA X.K i Wout D l cls d σ' H') D σ H) := by
  refine ⟨fun pins s σ H D I h => ?_⟩
  have ok := I.ok
  have hloc : Loc X.env.scope n := .inl hln
  have hfr : X.A.frames = some (X.env :: X.outer) := by rw [ok.frames, hs]
  refine wpAny_Try_except ?_
  refine wpAny_mono ((hb (fun cls d σ' H' => σ'.length = X.N.length → wManyA X.K i Wout D l cls d σ' H') (X.pn ++ pins) (fun e s₁ => wpAny (model X.prog X.w) X.A (noteFrame e X.env) (fun _ s₂ => wpAny (model X.prog X.w) X.A (setFlight e none) (fun _ s₃ =>
    wpAny (model X.prog X.w) X.A (handleBy e X.env (h₀ :: hds)) (SP X pins D) X.xe s₃) X.xe s₂) X.xe s₁) (fun u s' xx => ?_) PassesOwn.looking).run [] s σ H D (I.toTry _) h) (fun f s1 hsp => ?_) (fun e s1 he => he)
  · -- the catch
    obtain ⟨a, B, sI, pins', σ', H', cls, d, rfl, J', nb, up, sky, na, os, ag, w⟩ := xx
    have J : Inv X pins σ' H' sI := J'.ofTry ok
    replace w := w J.len
    have sky' : Sky B (X.env :: X.outer) a (Zc cls d) X.env.locals s'.heap := by rw [← hs]; exact sky
    show wpAny (model X.prog X.w) X.A (noteFrame (.ref a) X.env) _ _ _
    refine Sky.land Zc.steady hfr hf sky' fun h3 fl3 up3 => ?_
    have J3 : Inv X pins σ' H' { s' with heap := h3 } := J.landed nb fl3.1 (up.trans up3) os ag
    obtain ⟨oe3, vs3, he3, hz3, hd3⟩ := fl3.there
    have notFr : ∀ {h : Heap} {o : Obj} {vs : Array Value}, h.FunFrames B (X.env :: X.outer) → h.get? a = some o → o.data = .fields vs → a ∉ frs (X.env :: X.outer) := fun {h o vs} ff e dd hm => by
      obtain ⟨_, o', e', hnf⟩ := ff.mem hm
      rw [e] at e'; cases e'
      exact hnf _ dd
    have nfr := notFr fl3.2.2.1 he3 hd3
    have nL : a ≠ X.env.locals := fun z => nfr (List.mem_filterMap.mpr ⟨X.env, List.mem_cons_self, by rw [hf, z]⟩)
    have nF : a ∉ X.fs := fun hm => by
      obtain ⟨e, he, q⟩ := List.mem_filterMap.mp hm
      exact nfr (List.mem_filterMap.mpr ⟨e, List.mem_cons_of_mem _ he, q⟩)
    have S3 := J3.suite he3 hd3 na nL nF
    have go : ∀ {hds' : List ExceptHandler} {l' : List (Value × (Addr → Value → Option Addr → TS))}, HdsA X n hds' l' → wManyA X.K i Wout D l' cls d σ' H' →
        wpAny (model X.prog X.w) X.A (handleBy (.ref a) X.env hds') (SP X pins D) X.xe { s' with heap := h3 } := by
      intro hds' l' hk
      induction hk with
      | nil =>
        intro w
        refine wpAny_handleBy_nil ?_
        obtain ⟨k1, k2, k3, oe, vs, T, oT, ts', he, hz, hd, h1, hr⟩ := id fl3
        unfold PySem.passOn
        refine wpAny_bind (wpAny_field he hd h1 ?_)
        rw [if_neg (show ¬ ((Value.ref T == Value.none) = true) from by simp)]
        have fin : wpAny (model X.prog X.w) X.A (setFlight (.ref a) X.env.frame) (fun _ s4 => wpAny (model X.prog X.w) X.A (throw (.ref a) : Sem Flow) (SP X pins D) X.xe s4) X.xe { s' with heap := h3 } := by
          rw [hf]
          refine HandSPX.setFlight_upZ fl3 fun h4 hh4 up4 => wpAny_throw (tk _ _ ?_)
          exact ⟨a, B, sI, pins, σ', H', cls, d, rfl, J, nb, (up.trans up3).trans up4, .inr (.inr (by rw [hs]; exact hh4)), na, os, ag, w⟩
        first
          | exact wpAny_bind (wpAny_pure (wpAny_bind fin))
          | exact wpAny_bind fin
      | @cons x c ts b₀ suite np pos' hds2 l2 hc hsu r ih =>
        intro w
        obtain ⟨b, hb1, hyes, hno⟩ := w
        refine wpAny_handleBy_cons (codeAny_handlers_test ?_) (by intro q; cases q)
        have LT : PySem.W.Looks (model X.prog X.w) h3 (typeOf (.ref a)) cls := fun A Q E s k q => wpAny_typeOf_ref (k _ _ he3) (by rw [hz3.1]; exact q)
        have LM := PySem.W.exm_one (M := model X.prog X.w) (J3.kIn) LT hb1
        have test : ∀ {Q : Value → Shared → Prop} {E : Value → Shared → Prop}, Q c { s' with heap := h3 } → wpAny (model X.prog X.w) (X.A.mark (some (.ref a))) (eval (.Name x np) X.env) Q E { s' with heap := h3 } := fun {Q E} q => by
          obtain ⟨hg, hdbg, hm | ⟨hm, hv, hnn⟩⟩ := hc
          · exact ld_glob (X := X.suite a ((a, oe3) :: (X.pn ++ pins))) S3 hg hm q hdbg
          · exact ld_blt (X := X.suite a ((a, oe3) :: (X.pn ++ pins))) S3 hg hm hv q hnn hdbg
        refine test (LM.here ?_)
        cases b with
        | true =>
          refine codeAny_handlers_suite_as ?_
          refine HandSPX.lands_againZ fl3 fun h4 fl4 up4 => ?_
          have J4 : Inv X pins σ' H' { s' with heap := h4 } := J.landed nb fl4.1 ((up.trans up3).trans up4) os ag
          obtain ⟨oe4, vs4, he4, hz4, hd4⟩ := fl4.there
          have S4 := J4.suite he4 hd4 na nL nF
          refine store_ok (X := X.suite a ((a, oe4) :: (X.pn ++ pins))) (v := .ref a) S4 hN hi hloc rfl (fun s5 S5 => ?_) (.inr hln)
          refine wpAny_mono ((hsu a oe4 cls d (X.pn ++ pins) hz4 ⟨_, hd4⟩).run [] s5 _ H' _ S5 (hyes rfl a na)) (fun f s6 hsp => ?_) (fun _ _ z => False.elim z)
          have end_ : ∀ {σ6 : L2.St} {H6 : Hp} {Q : Shared → Prop}, Inv (X.suite a ((a, oe4) :: (X.pn ++ pins))) [] σ6 H6 s6 → (∀ s7, Inv X pins (σ6.set i none) H6 s7 → Q s7) →
              wpAny (model X.prog X.w) X.A (do bindName X.env n .none; unbindBehindTheSuite X.env n pos') (fun _ s7 => Q s7) X.xe s6 := fun {σ6 H6 Q} S6 hq => gone_ok (S6.unsuite ok) hN hi hln hq
          cases f with
          | next =>
            obtain ⟨σ6, H6, S6, q6⟩ := hsp
            exact end_ S6 fun s7 J7 => ⟨_, _, J7, q6⟩
          | brk =>
            obtain ⟨σ6, H6, S6, q6⟩ := hsp
            exact end_ S6 fun s7 J7 => ⟨_, _, J7, q6⟩
          | cont =>
            obtain ⟨σ6, H6, S6, q6⟩ := hsp
            exact end_ S6 fun s7 J7 => ⟨_, _, J7, q6⟩
          | ret u =>
            obtain ⟨v6, σ6, H6, S6, r6, q6⟩ := hsp
            exact end_ S6 fun s7 J7 => ⟨_, _, _, J7, r6, q6⟩
        | false =>
          show wpAny _ X.A (handleBy (.ref a) X.env hds2) _ _ _
          exact ih (hno rfl)
    exact go hh w
  · cases f with
    | next =>
      obtain ⟨σ', H', J', q⟩ := hsp
      exact wpAny_execs_nil ⟨σ', H', J'.ofTry ok, q⟩
    | brk =>
      obtain ⟨σ', H', J', q⟩ := hsp
      exact ⟨σ', H', J'.ofTry ok, q⟩
    | cont =>
      obtain ⟨σ', H', J', q⟩ := hsp
      exact ⟨σ', H', J'.ofTry ok, q⟩
    | ret u =>
      obtain ⟨v, σ', H', J', r, q⟩ := hsp
      exact ⟨v, σ', H', J'.ofTry ok, r, q⟩
end
end K29
namespace K29
open PySem PySem.Spec PyProof.Rows L2
/-! ### repr of small rows -/
def dX (l : Bool) (ns : List Int) : PyData := if l then .list (ns.map .int) else dI ns
def shX (l : Bool) (ns : List Int) : Str := (dX l ns).shown
def Small (ns : List Int) : Prop := ns.length ≤ 100 ∧ ∀ n ∈ ns, 0 ≤ n ∧ n < 100
theorem strOk_app (a b : Str) : PyData.strOk (a ++ b) = (PyData.strOk a && PyData.strOk b) := by
  show ((a.cps ++ b.cps).all _) = _
  rw [Array.all_append]
  rfl
theorem rp100 : ∀ n, n < 100 → PyData.strOk (toString ((n : Nat) : Int) : Str) = true ∧ ((toString ((n : Nat) : Int) : Str)).length ≤ 13 ∧ ((n : Nat) : Int).natAbs.log2 ≤ 6 := by decide +kernel
theorem shown_all : ∀ ns : List Int, PyData.shownAll (ns.map .int) = ns.map fun i => (toString i : Str)
  | [] => rfl
  | n :: ns => by
    rw [List.map_cons, PyData.shownAll, shown_all ns]
    rfl
theorem join_ok : ∀ ts : List Str, (∀ t ∈ ts, PyData.strOk t = true) → PyData.strOk (Str.join ", " ts) = true
  | [], _ => by decide +kernel
  | [x], h => h x (List.mem_cons_self ..)
  | x :: y :: r, h => by
    show PyData.strOk (x ++ (", " : Str) ++ Str.join ", " (y :: r)) = true
    rw [strOk_app, strOk_app, h x (List.mem_cons_self ..), join_ok (y :: r) fun t ht => h t (List.mem_cons_of_mem _ ht)]
    decide +kernel
theorem from_ok : ∀ (ts : List Str) (k : Nat) (acc : Str), PyData.strOk acc = true → (∀ t ∈ ts, PyData.strOk t = true) → PyData.strOk (textFrom k acc ts) = true
  | [], k, acc, ha, _ => ha
  | t :: r, k, acc, ha, h => by
    refine from_ok r (k + 1) _ ?_ fun x hx => h x (List.mem_cons_of_mem _ hx)
    rw [strOk_app, strOk_app, ha, h t (List.mem_cons_self ..)]
    by_cases hk : k > 0
    · rw [if_pos hk]
      decide +kernel
    · rw [if_neg hk]
      decide +kernel
theorem small_nat {n : Int} (h : 0 ≤ n ∧ n < 100) : ∃ m : Nat, m < 100 ∧ n = (m : Int) := ⟨n.toNat, by omega, by omega⟩
theorem strs_ok {ns : List Int} (h : Small ns) : ∀ t ∈ ns.map fun i => (toString i : Str), PyData.strOk t = true := fun t ht => by
  obtain ⟨n, hn, rfl⟩ := List.mem_map.mp ht
  obtain ⟨m, hm, rfl⟩ := small_nat (h.2 n hn)
  exact (rp100 m hm).1
theorem shX_ok {l : Bool} {ns : List Int} (h : Small ns) : PyData.strOk (shX l ns) = true := by
  unfold shX dX
  cases l with
  | true =>
    show PyData.strOk (PyData.shown (.list (ns.map .int))) = true
    rw [PyData.shown, shown_all]
    unfold listText
    rw [strOk_app, from_ok _ _ _ (by decide +kernel) (strs_ok h)]
    decide +kernel
  | false =>
    show PyData.strOk (PyData.shown (dI ns)) = true
    unfold dI
    rw [PyData.shown, shown_all]
    unfold tupleText
    rw [strOk_app, strOk_app, join_ok _ (strs_ok h)]
    by_cases hk : ((ns.map fun i => (toString i : Str)).length == 1) = true
    · rw [if_pos hk]
      decide +kernel
    · rw [if_neg hk]
      decide +kernel
theorem short_all : ∀ {ns : List Int}, (∀ n ∈ ns, 0 ≤ n ∧ n < 100) → PyData.leavesShortAll 13 (ns.map .int) = true
  | [], _ => rfl
  | n :: ns, h => by
    rw [List.map_cons, PyData.leavesShortAll, short_all fun x hx => h x (List.mem_cons_of_mem _ hx)]
    obtain ⟨m, hm, rfl⟩ := small_nat (h n (List.mem_cons_self ..))
    simp only [PyData.leavesShort, Bool.and_true, decide_eq_true_eq]
    exact (rp100 m hm).2.1
theorem show_all : ∀ {ns : List Int}, (∀ n ∈ ns, 0 ≤ n ∧ n < 100) → PyData.showableAll (ns.map .int) = true
  | [], _ => rfl
  | n :: ns, h => by
    rw [List.map_cons, PyData.showableAll, show_all fun x hx => h x (List.mem_cons_of_mem _ hx)]
    obtain ⟨m, hm, rfl⟩ := small_nat (h n (List.mem_cons_self ..))
    simp only [PyData.showable, Bool.and_true, decide_eq_true_eq]
    have := (rp100 m hm).2.2
    omega
theorem nodict_all : ∀ ns : List Int, PyData.hasDictAll (ns.map .int) = false
  | [] => rfl
  | n :: ns => by
    rw [List.map_cons, PyData.hasDictAll, nodict_all ns]
    rfl
theorem weight_all : ∀ {ns : List Int}, (∀ n ∈ ns, 0 ≤ n ∧ n < 100) → PyData.weightAll (ns.map .int) ≤ 20 * ns.length
  | [], _ => by simp [PyData.weightAll]
  | n :: ns, h => by
    have := weight_all fun x hx => h x (List.mem_cons_of_mem _ hx)
    obtain ⟨m, hm, rfl⟩ := small_nat (h n (List.mem_cons_self ..))
    have h6 := (rp100 m hm).2.2
    simp [PyData.weightAll, PyData.weight] at h6 ⊢
    split <;> omega
theorem dep_all : ∀ ns : List Int, PyData.depthAll (ns.map .int) ≤ 1
  | [] => by simp [PyData.depthAll]
  | n :: ns => by
    have := dep_all ns
    simp [PyData.depthAll, PyData.depth]
    omega
def rReprX (K : PySem.W.Frag) : List V → Hp → VK → Prop := fun xs H Q => (xs = [.non] ∧ Q (.str "None") H) ∨ ∃ (a : Addr) (l : Bool) (ns : List Int), xs = [.ref a] ∧ LX K l H a (ns.map V.int) ∧ Small ns ∧ Q (.str (shX l ns)) H
theorem cr_reprX {X : Cx} (K : PySem.W.Frag) (hg : X.A.guards = some []) (hu : X.A.units + 64 < cLine) (h : X.K = K := by rfl) : CallR X (.builtin "repr") (rReprX K) := by
  subst h
  intro pins s σ H xs us Q I r h
  rcases h with ⟨rfl, q⟩ | ⟨a, l, ns, rfl, hs, ⟨h100, hn⟩, q⟩
  · obtain ⟨u, rfl, ru⟩ := vals1 r
    cases (show u = Value.none from ru)
    exact PySem.P.repr_of_none ⟨.str "None", H, I.tok _, ⟨_, rfl⟩, q⟩
  · obtain ⟨u, rfl, ru⟩ := vals1 r
    cases (show u = Value.ref a from ru)
    have hd : Dp X.K H (.ref a) (dX l ns) := by
      rcases hs with ⟨rfl, hs⟩ | ⟨rfl, hs⟩
      · exact .lst (SqL.of hs) (ints_dpAll ns)
      · exact tup_dI hs
    obtain ⟨as, rr⟩ := Dp.reads I (dX l ns) (.ref a) (.ref a) hd rfl
    have hdep : (dX l ns).depth ≤ 2 := by
      have := dep_all ns
      cases l with
      | true =>
        show (PyData.list (ns.map .int)).depth ≤ 2
        simp [PyData.depth]
        omega
      | false => exact dep_dI ns
    have hsh : (dX l ns).showable = true := by
      cases l with
      | true =>
        show (PyData.list (ns.map .int)).showable = true
        rw [PyData.showable, show_all hn]
      | false =>
        show (dI ns).showable = true
        unfold dI
        rw [PyData.showable, show_all hn]
    have hhd : (dX l ns).hasDict = false := by
      cases l with
      | true =>
        show (PyData.list (ns.map .int)).hasDict = false
        rw [PyData.hasDict, nodict_all]
      | false =>
        show (dI ns).hasDict = false
        unfold dI
        rw [PyData.hasDict, nodict_all]
    have hfit : (dX l ns).shown.length ≤ sizeLine := by
      refine PyData.shown_fits (B := 13) (by decide) (by decide) ?_ ?_
      · cases l with
        | true =>
          show PyData.leavesShort 13 (PyData.list (ns.map .int)) = true
          rw [PyData.leavesShort, short_all hn]
        | false =>
          show PyData.leavesShort 13 (dI ns) = true
          unfold dI
          rw [PyData.leavesShort, short_all hn]
      · have hw := weight_all hn
        cases l with
        | true =>
          show (PyData.list (ns.map .int)).weight ≤ 2 ^ 20
          simp [PyData.weight]
          omega
        | false =>
          show (dI ns).weight ≤ 2 ^ 20
          simp [dI, PyData.weight]
          omega
    refine repr_of_reads' rr hsh (fun z => by rw [hhd] at z; cases z) hg (by omega) (fun b o e => e) (fun h' u tk k => ?_) hfit
    exact ⟨.str (shX l ns), H, I.kept (t' := tk) k, ⟨_, rfl⟩, q⟩
end K29
namespace K29
open PySem PySem.Spec PyProof.Rows L2 LamX
/-- a def called by the claim's own caller, from no frame -/
def RunC (P : Program) (w : World) (K : PySem.W.Frag) (mg : Str → Option Value) (base : Heap) (CX : CXT) (f : Addr) (fd : FuncData) (ps : List Str) (sp : Sp) : Prop :=
  ∀ (s : Shared) (H : Hp) (args : Args) (us : List Value) (vs : List V) (Q : VK) (E : XK), Env0 P w K mg base callerA [] s H → BindsTo s fd args (ps.zip us) → Vals vs us → sp vs H Q E → codeAny (model P w) callerA (.call (.ref f) args) (CR CX [] P w H s Q E) s
theorem law_callC {P : Program} {w : World} {K : PySem.W.Frag} {mg mb : Str → Option Value} {CX : CXT} {fa a : Addr} {cs : List (Addr × Addr)} {fd : FuncData} {x : Str} {sp : Sp} {s₁ : Shared} {vs : List Value} {ns : List Int}
    (KX : K.In s₁.heap) (hns : s₁.heap.Ns mainGlobals mg) (hb : s₁.heap.Ns builtinsNs mb) (hbb : ∀ x : Str, x ≠ "__name__" → mb x = bootBuiltins x) (hlim : s₁.heap.NoLimit) (hg : s₁.gens = #[])
    (hT : ∀ p ∈ cs, s₁.heap.get? p.2 = some { cls := .none, data := .fields #[] }) (nT : ∀ p ∈ cs, K.lookup p.2 = none) (C : ∀ p ∈ cs, PySem.W.CodeHd s₁.heap p.1 p.2)
    (hbm : ∃ (bm : Addr) (ob : Obj), mg "__builtins__" = some (.ref bm) ∧ bm ≠ builtinsNs ∧ s₁.heap.get? bm = some ob ∧ ob.cls = .type "module" ∧ ob.dict = some builtinsNs ∧ ob.data = .plain)
    (ha : s₁.heap.get? a = some { cls := .type "list", data := .seq vs.toArray }) (hi : IntsAre vs ns) (hl : ns.length ≤ sizeLine) 
    (F : ∀ base : Heap, K.In base → base.Ns mainGlobals mg → (∀ p ∈ cs, TabB base mg p.1 p.2) → RunC P w K mg base CX fa fd [x] sp) (hbind : ∀ (s : Shared) (u : Value), BindsTo s fd ⟨[u], []⟩ [(x, u)])
    (hsp : ∀ H : Hp, (∀ p ∈ cs, H p.2 = some (.tbl #[])) → SqL K H a (ns.map V.int) → sp [.ref a] H (fun v _ => v = .bl true) fun _ _ _ => False)
    (hCX : ∀ H e s', CX [] H s₁ (fun _ _ _ => False) e s' → False) :
    codeAny (model P w) callerA (.call (.ref fa) ⟨[.ref a], []⟩) (fun r s' => r = .ok (.ret (.bool true)) ∧ OldK s₁.heap s'.heap ∧ s'.os = s₁.os ∧ AllBare s'.gens) s₁ := by
  have rv := vals_ints hi
  have lenV := hi.length
  have isT : ∀ b : Addr, b ∈ cs.map (·.2) → s₁.heap.get? b = some { cls := .none, data := .fields #[] } := fun b hb => by
    obtain ⟨p, hp, e⟩ := List.mem_map.mp hb
    rw [← e]
    exact hT p hp
  have aT : a ∉ cs.map (·.2) := fun z => by
    have q := isT a z
    rw [ha] at q
    have z' : Data.seq vs.toArray _ = Data.fields #[] := congrArg Obj.data (Option.some.inj q)
    cases z'
  have memT : ∀ p ∈ cs, p.2 ∈ cs.map (·.2) := fun p hp => List.mem_map.mpr ⟨p, hp, rfl⟩
  -- from an abstract heap in which nothing but the script and the tables may be tracked
  have core : ∀ H : Hp, (∀ p ∈ cs, H p.2 = some (.tbl #[])) → (∀ b, H b = none ∨ b ∈ cs.map (·.2) ∨ ∃ o xs, H b = some (.frz o (.lst xs))) → SqL K H a (ns.map V.int) → HOk P w H s₁.heap → (∀ b, H b ≠ none → b = a ∨ b ∈ cs.map (·.2)) → (H a ≠ none → K.lookup a = none) →
      codeAny (model P w) callerA (.call (.ref fa) ⟨[.ref a], []⟩) (fun r s' => r = .ok (.ret (.bool true)) ∧ OldK s₁.heap s'.heap ∧ s'.os = s₁.os ∧ AllBare s'.gens) s₁ := by
    intro H hH hO hS hok hA hK
    have base_of : ∀ {b : Addr} {o : Obj}, s₁.heap.get? b = some o → H b = none → (hidT s₁.heap H).get? b = some o := fun e n => hidT_get e n
    have noD : ∀ {b : Addr} {o : Obj}, s₁.heap.get? b = some o → (∀ vs n, o.data ≠ .seq vs n) → o.data ≠ .fields #[] → H b = none := fun {b o} e h1 h2 => by
      cases q : H b with
      | none => rfl
      | some u =>
        rcases hA b (by rw [q]; simp) with e' | e'
        · rw [e', ha] at e
          cases e
          exact (h1 _ _ rfl).elim
        · rw [isT b e'] at e
          cases e
          exact (h2 rfl).elim
    have noA : ∀ {b : Addr} {o : Obj} {es : Array DictEntry} {ep : Nat}, s₁.heap.get? b = some o → o.data = .dict es ep → H b = none := fun {b o es ep} e d => by
      refine noD e (fun vs n z => ?_) fun z => ?_
      · rw [d] at z
        cases z
      · rw [d] at z
        cases z
    have nsK : ∀ {b : Addr} {m : Str → Option Value}, s₁.heap.Ns b m → (hidT s₁.heap H).Ns b m := fun {b m} ⟨o, es, ep, e, d, r⟩ => ⟨o, es, ep, base_of e (noA e d), d, r⟩
    have hKb : K.In (hidT s₁.heap H) := fun b o e => base_of (KX b o e) (by
      cases q : H b with
      | none => rfl
      | some u =>
        rcases hA b (by rw [q]; simp) with e' | e'
        · rw [e'] at e q
          rw [hK (by rw [q]; simp)] at e
          cases e
        · obtain ⟨p, hp, ep⟩ := List.mem_map.mp e'
          rw [← ep, nT p hp] at e
          cases e)
    have hM : L2.Mod K mg (hidT s₁.heap H) := ⟨hKb, nsK hns, ⟨mb, nsK hb, hbb⟩, let ⟨mc, h1, h2⟩ := hlim; ⟨mc, nsK h1, h2⟩⟩
    have TB : ∀ p ∈ cs, TabB (hidT s₁.heap H) mg p.1 p.2 := fun p hp => by
      have hTp := hT p hp
      refine ⟨?_, ?_, fun z => ?_⟩
      · obtain ⟨o, us, file, tf, flags, tg, inF, text, tt, e1, r1, r2, r3, r4, r5, r6, r7, r8, hne⟩ := C p hp
        refine ⟨o, us, file, tf, flags, tg, inF, text, tt, base_of e1 (noD e1 (fun vs n z => ?_) fun z => ?_), r1, r2, r3, r4, r5, r6, r7, r8, hne⟩
        · rw [r2] at z
          cases z
        · rw [r2] at z
          cases z
          simp at r3
      · obtain ⟨bm, ob, b1, b2, b3, b4, b5, b6⟩ := hbm
        have nG : bm ≠ mainGlobals := fun q => by
          obtain ⟨o, es, ep, e, hd, _⟩ := hns
          rw [q, e] at b3
          cases b3
          rw [hd] at b6
          cases b6
        have nP : bm ≠ p.2 := fun q => by
          rw [q, hTp] at b3
          cases b3
          cases b6
        refine ⟨bm, ob, b1, b2, nG, nP, base_of b3 (noD b3 (fun vs n z => ?_) fun z => ?_), b4, b5, b6⟩
        · rw [b6] at z
          cases z
        · rw [b6] at z
          cases z
      · obtain ⟨o, es, ep, e, hd, _⟩ := hns
        rw [z, hTp] at e
        cases e
        cases hd
    have e0 : Env0 P w K mg (hidT s₁.heap H) callerA [] s₁ H := ⟨rfl, hM, fun b o e => of_hidT e, Nat.le_of_eq (hidT_size _ _), trivial, fun b hb => absurd (show b ∈ ([] : List Addr) from hb) (by simp), hok, .of_eq hg⟩
    refine codeAny_mono ((F _ hKb (nsK hns) TB) s₁ H ⟨[.ref a], []⟩ [.ref a] [.ref a] _ _ e0 (hbind s₁ (.ref a)) (.cons rfl .nil) (hsp H hH hS)) fun r s' h => ?_
    cases r with
    | error e => exact (hCX H e s' h).elim
    | ok fl =>
      cases fl with
      | next => exact False.elim h
      | brk => exact False.elim h
      | cont => exact False.elim h
      | ret u =>
        obtain ⟨v, H', os, bare, un, hok', r', q⟩ := h
        have q' : v = .bl true := q
        subst q'
        obtain rfl : u = Value.bool true := r'
        have key : ∀ b o, b ∉ cs.map (·.2) → s₁.heap.get? b = some o → s'.heap.get? b = some o := fun b o nb e => by
          cases q : H b with
          | none => exact un.keep b o e q (by intro z; exact absurd (show b ∈ ([] : List Addr) from z) (by simp)) (by simp)
          | some u =>
            rcases hO b with z | z | ⟨ob, xs, z⟩
            · rw [q] at z; cases z
            · exact absurd z nb
            · have z2 := un.frzs b ob _ z
              obtain ⟨e1, _⟩ := hok b _ z
              obtain ⟨e2, _⟩ := hok' b _ z2
              rw [e] at e1; cases e1
              exact e2
        have grown : ∀ p ∈ cs, ∃ more : Array Value, s'.heap.get? p.2 = some { cls := .none, data := .fields more } := fun p hp => by
          obtain ⟨more, z⟩ := un.tbls p.2 #[] (hH p hp)
          exact ⟨_, hok' p.2 _ z⟩
        refine ⟨rfl, ⟨fun b o e => ?_, fun b o e => ?_⟩, os, bare⟩
        · by_cases hb : b ∈ cs.map (·.2)
          · obtain ⟨p, hp, ep⟩ := List.mem_map.mp hb
            obtain ⟨more, hm⟩ := grown p hp
            rw [← ep] at e ⊢
            rw [hT p hp] at e
            cases e
            exact .inr (.inl ⟨((C p hp).tab (hT p hp)).isCodeTable, rfl, #[], more, rfl, by rw [Array.empty_append]; exact hm⟩)
          · exact .inl (key b o hb e)
        · by_cases hb : b ∈ cs.map (·.2)
          · obtain ⟨p, hp, ep⟩ := List.mem_map.mp hb
            obtain ⟨more, hm⟩ := grown p hp
            rw [← ep]
            exact ⟨_, hm⟩
          · exact ⟨o, key b o hb e⟩
  cases hk : K.lookup a with
  | some o =>
    have e := KX a o hk
    rw [ha] at e
    cases e
    refine core (fun b => if b ∈ cs.map (·.2) then some (.tbl #[]) else none) (fun p hp => if_pos (memT p hp)) (fun b => ?_) (.inr ⟨_, vs.toArray, _, hk, rfl, rfl, rfl, by rw [List.size_toArray, lenV]; exact hl, by simpa using rv⟩) (fun b u z => ?_) (fun b z => ?_) fun z => absurd (show (if a ∈ cs.map (·.2) then some (HO.tbl #[]) else none) = none from if_neg aT) z
    · by_cases hb : b ∈ cs.map (·.2)
      · exact .inr (.inl hb)
      · exact .inl (if_neg hb)
    · by_cases hb : b ∈ cs.map (·.2)
      · have z' := (if_pos hb).symm.trans z
        cases z'
        exact isT b hb
      · have z' := (if_neg hb).symm.trans z
        cases z'
    · by_cases hb : b ∈ cs.map (·.2)
      · exact .inr hb
      · exact absurd (if_neg hb) z
  | none =>
    refine core (fun b => if b = a then some (.frz { cls := .type "list", data := .seq vs.toArray } (.lst (ns.map V.int))) else if b ∈ cs.map (·.2) then some (.tbl #[]) else none) (fun p hp => (if_neg (show ¬ p.2 = a from fun z => aT (by rw [← z]; exact memT p hp))).trans (if_pos (memT p hp))) (fun b => ?_)
      (.inl (.inr ⟨{ cls := .type "list", data := .seq vs.toArray }, if_pos rfl⟩)) (fun b u z => ?_) (fun b z => ?_) fun _ => hk
    · by_cases hb : b = a
      · exact .inr (.inr ⟨_, _, if_pos hb⟩)
      · by_cases hb2 : b ∈ cs.map (·.2)
        · exact .inr (.inl hb2)
        · exact .inl ((if_neg hb).trans (if_neg hb2))
    · by_cases hb : b = a
      · have z' := (if_pos hb).symm.trans z
        cases z'
        rw [hb]
        exact ⟨ha, by rw [List.length_map]; exact hl, vs, _, rv, ha⟩
      · have z1 := (if_neg hb).symm.trans z
        by_cases hb2 : b ∈ cs.map (·.2)
        · have z' := (if_pos hb2).symm.trans z1
          cases z'
          exact isT b hb2
        · have z' := (if_neg hb2).symm.trans z1
          cases z'
    · by_cases hb : b = a
      · exact .inl hb
      · by_cases hb2 : b ∈ cs.map (·.2)
        · exact .inr hb2
        · exact absurd ((if_neg hb).trans (if_neg hb2)) z
/-- what is known of the law at the head's heap h -/
def LawAtC (l : PySem.W.OpenLaw) (w : World) (K : PySem.W.Frag) (CX : CXT) (n : Nat) (x : Str) (mg : Str → Option Value) (fa : Addr) (h : Heap) : Prop :=
  ∃ (fd : FuncData) (cs : List (Addr × Addr)) (sp : Sp), (∀ p ∈ cs, h.get? p.2 = some { cls := .none, data := .fields #[] }) ∧ (∀ p ∈ cs, K.lookup p.2 = none) ∧ (∀ p ∈ cs, PySem.W.CodeHd h p.1 p.2) ∧ (∀ (s : Shared) (u : Value), BindsTo s fd ⟨[u], []⟩ [(x, u)]) ∧
    (∀ (H : Hp) (a : Addr) (ns : List Int), ns.length ≤ n → (∀ p ∈ cs, H p.2 = some (.tbl #[])) → SqL K H a (ns.map V.int) → sp [.ref a] H (fun v _ => v = .bl true) fun _ _ _ => False) ∧
    ∀ base : Heap, K.In base → base.Ns mainGlobals mg → (∀ p ∈ cs, TabB base mg p.1 p.2) → RunC l.prog w K mg base CX fa fd [x] sp
theorem walk_ofC {l : PySem.W.OpenLaw} {n : Nat} {q : Program} {loose : List Str} {XP : (Str → Option Value) → Heap → Prop} {YP : World → Heap → Prop} {d : DefRec} {CX : World → CXT} {x : Str}
    (hn : l.most = some n) (hn2 : n ≤ sizeLine) (hdf : d.params.defaults = [])
    (F : ∀ (w : World) (mg : Str → Option Value) (fa : Addr) (h : Heap), YP w h → h.Ns mainGlobals mg → mg d.name = some (.ref fa) → ∃ K : PySem.W.Frag, K.In h ∧ LawAtC l w K (CX w) n x mg fa h)
    (hCX : ∀ (w : World) (H : Hp) (s : Shared) (e : Value) (s' : Shared), CX w [] H s (fun _ _ _ => False) e s' → False) :
    PySem.W.WalkO q loose XP YP l.row.toRowW d [] (fun f vs => PySem.call f vs) := by
  refine Att.attach_callB hn hdf fun w s₀ s₁ mg mb fa o pm cd doc a vs ns G Y ho hd hcd hmg hobj hints hlen _ hg => ?_
  obtain ⟨K, KX, fd, cs, sp, hT, nT, C, hb, hsp, hF⟩ := F w mg fa _ Y G.T.g hmg
  exact law_callC KX G.T.g G.T.b G.T.builtins G.T.nolimit hg hT nT C G.T.bmain hobj hints (Nat.le_trans hlen hn2) hF hb (fun H hH hS => hsp H a ns hlen hH hS) fun H e s' => hCX w H s₁ e s'
end K29
namespace K29
open PySem PySem.Spec PyProof.Rows L2
/-! ### pairs with the same thing; a text told many times; a call all by keywords -/
def rNeSame : R2 := fun x y H Q => ∃ (a b : Addr) (z : Str) (o : Addr), x = .ref a ∧ y = .ref b ∧ H a = some (.tup [.str z, .ref o]) ∧ H b = some (.tup [.str z, .ref o]) ∧ Q (.bl false) H
theorem op_neSame {X : Cx} (hu : X.A.units + 1 < cLine) : OpR X (compareOp .NotEq) rNeSame := by
  intro pins s σ H x y v u Q I rx ry h
  obtain ⟨a, b, z, o, rfl, rfl, ha, hb, q⟩ := h
  cases rx
  cases ry
  obtain ⟨its, r, hT, _⟩ := I.tuple (SqT.of ha)
  obtain ⟨its2, r2, hT2, _⟩ := I.tuple (SqT.of hb)
  obtain ⟨u1, u2, rfl, r11, r12⟩ := vals2 r
  obtain ⟨w1, w2, rfl, r21, r22⟩ := vals2 r2
  obtain ⟨t, rfl⟩ := r11
  obtain ⟨t2, rfl⟩ := r21
  cases (show u2 = Value.ref o from r12)
  cases (show w2 = Value.ref o from r22)
  show wpAny (model X.prog X.w) X.A (richCompare .NotEq (.ref a) (.ref b)) (EP X pins σ Q) X.xe s
  refine SeqAt.RcNeAt.tuples (e := fun _ => true) hT hT2 (by omega) (fun j h1 h2 => ?_) X.prog X.w X.xe _ ?_
  · match j, h1, h2 with
    | 0, _, _ =>
      have := SeqAt.EqAt.str_str (A := X.A.in1) (s := s) z t z t2
      rw [beq_self_eq_true] at this
      exact this
    | 1, _, _ => exact SeqAt.EqAt.same _
    | j + 2, h1, _ =>
      exact absurd (show j + 2 < 2 from h1) (by omega)
  · exact ⟨.bl false, H, I, rfl, q⟩
theorem foldl_size {α : Type} (a : Array α) : ∀ (m : Nat) (acc : Array α), (List.foldl (fun x1 x2 => x1 ++ x2) acc (List.replicate m a)).size = acc.size + m * a.size
  | 0, acc => by simp
  | m + 1, acc => by
    rw [List.replicate_succ, List.foldl_cons, foldl_size a m, Array.size_append, Nat.succ_mul]
    omega
def rRepS : R2 := fun x y H Q => ∃ (z : Str) (k : Int), x = .str z ∧ y = .int k ∧ 2 ≤ k ∧ k ≤ 100 ∧ z.length = 1 ∧ ∀ z' : Str, Q (.str z') H
theorem op_repS {X : Cx} : OpR X (binaryOp .Mult) rRepS := by
  intro pins s σ H x y v u Q I rx ry h
  obtain ⟨z, k, rfl, rfl, k1, k2, hz, q⟩ := h
  obtain ⟨t, rfl⟩ := rx
  obtain ⟨t2, rfl⟩ := ry
  refine PySem.P.mul_str ?_ (fun _ _ => ?_) (fun _ _ => ?_) ?_
  · have h1 : ¬ k < -(2 ^ 63 : Int) := by omega
    have h2 : ¬ k ≥ 2 ^ 63 := by omega
    rw [decide_eq_false h1, decide_eq_false h2]
    rfl
  · rw [hz]
    have : (1 : Int) ≤ (2 ^ 63 - 1) / k := Int.le_ediv_of_mul_le (by omega) (by omega)
    omega
  · rw [hz]
    show decide (1 * k.toNat > sizeLine) = false
    exact decide_eq_false (by
      have := lenLine (n := k.toNat) (by omega)
      omega)
  · rw [if_neg (by omega), if_neg (by simp [hz]; omega)]
    refine ⟨?_, ⟨.str _, H, I.tok _, ⟨_, rfl⟩, q _⟩⟩
    show (List.foldl (fun x1 x2 => x1 ++ x2) #[] (List.replicate k.toNat z.cps)).size ≤ sizeLine
    rw [foldl_size]
    have hz' : z.cps.size = 1 := hz
    rw [hz']
    refine lenLine ?_
    show 0 + k.toNat * 1 ≤ 100000
    omega
section
variable {X : Cx} {CX : CXT} {k n : Nat} {f : Addr} {fd : FuncData} {ps ks : List Str} {sp : Sp} {E : XK} {x : Str} {p pos : Pos} {kws : List Keyword} {tk : TA} {g : List Value → List Value → List Value} {gV : List V → List V → List V}
theorem pe_callN0 (F : FnOk X.prog X.w X.K X.mg X.base CX k f fd ps sp) (hr : Room k X.A) (hg : Gl X x) (hm : X.mg x = some (.ref f)) (hk : PySem.W.keepIn X.K (.ref f) = true) (hb : KBn X.K fd ps 0 ks g gV) (hx : Passes CX X E)
    (hkw : PK X kws tk) (hall : (backToKw pos (keywordEach kws X.env)).all (·.1.isSome) = true := by rfl) (hks : (backToKw pos (keywordEach kws X.env)).filterMap (·.1) = ks := by rfl)
    (hdb : (x == ("__debug__" : Str)) = false := by decide)
    (hpl : ((backTo pos (starEach [] X.env)).any (·.1) || (backToKw pos (keywordEach kws X.env)).any (·.1.isNone)) = false := by rfl) :
    PE X (.Call (.Name x p) [] kws pos) (tCallN 0 ks.length sp gV E tNil tk) := by
  refine ⟨fun pins s σ H Q I h => ?_⟩
  refine wpAny_Call_Name_kw (ld_glob I hg hm ?_ hdb)
  refine PySem.W.callWith_KW0 (h₀ := X.base) I.ok.mod.kin hk hall ?_ hpl
  refine thn (hkw.run pos pins s σ H _ I h) fun ws s2 ⟨zs, H2, I2, rz, l1, l2, q2⟩ => ⟨I2.kIn, ?_⟩
  rw [hks]
  exact run_fnN (us := []) (vs := []) F hr hb hx I2 .nil rz l1 l2 q2
end
end K29
namespace K29
open PySem PySem.Spec PyProof.Rows L2
/-! ### states -/
def StOk (s : St) (st : List Int) : Prop := st.length = s.cells.length ∧ ∀ (i : Nat) c x, s.cells[i]? = some c → st[i]? = some x → ∃ m, s.book.cols[c.toNat]? = some m ∧ 0 ≤ c ∧ 0 ≤ x ∧ x < m
/-- no state: nothing like a sequence, or one of another length -/
def NoState (K : PySem.W.Frag) (H : Hp) (v : V) (n : Nat) : Prop := IsSeq K H v false ∨ ∃ a xs, v = .ref a ∧ SqT K H a xs ∧ xs.length ≠ n
section
variable {P : Program} {w : World} {K : PySem.W.Frag} {mg : Str → Option Value} {base : Heap}
theorem sc_check_state : FnScope ["store", "value", "cell", "one"] ["store", "value"] (defScope s_check_state) := ⟨rfl, rfl, rfl, by decide +kernel, rfl, by decide +kernel, by decide +kernel⟩
def spState (K : PySem.W.Frag) : Sp := fun vs H Q E => ∃ (x v : V) (s : St), vs = [x, v] ∧ StoreV K H x s ∧
  ((∃ (l : Bool) (a : Addr) (st : List Int), v = .ref a ∧ LX K l H a (st.map V.int) ∧ st.length ≤ 1000 ∧ StOk s st ∧ ∀ H' t, Same H H' → SqT K H' t (st.map V.int) → Q (.ref t) H') ∨
    (NoState K H v s.cells.length ∧ ∀ H' d, Same H H' → H' d = some (.xd [("at", .int (-1))]) → E (.ref (He.ga K "BadState")) (some d) H'))
theorem c_check_state (T : Tx K mg) (X3 : Ex3 P w K mg base) : Cal P w K mg base (L2.CX P w) 4 "check_state" (spState K) := by
  refine calX T.f_check_state T.g_check_state sc_check_state (fun _ _ _ _ _ _ us hl => match us, hl with | [_, _], _ => rfl) (fun vs H Q E h => ?_) (fun cdv A outer s H vs Q E hr h => ?_)
  · obtain ⟨x, v, s, rfl, _⟩ := h
    rfl
  · obtain ⟨x, v, sd, rfl, hst, h⟩ := h
    have nd := sc_check_state.nd
    refine ⟨_, (pss_cons (ps_if (PW.pt (pw_or (pt_not (pt_val (pe_cal (c_is_sequence T) hr (by decide) pass0 (pa_cons (pv 1) pa_nil)))) (pw_or1 (pt_cmpR op_ne (pe_callB call_len_seq (by rfl) T.z_len PySem.boot_len (pa_cons (pv 1) pa_nil)) (pe_callB call_len_seq (by rfl) T.z_len PySem.boot_len (pa_cons (pe_fld (pv 0) rfl) pa_nil)) (nomark _)))))
      (pss_one (ps_raiseE (takes_of rfl rfl rfl rfl) X3.bs hr (by decide) (pa_cons (pe_un un_neg pe_int) pa_nil)))
      pss_nil)
    (pss_cons (ps_for (passes_of rfl) rfl (pi_enumM (by rfl) T.z_enumerate (pa_cons (pv 1) pa_nil)) (pg_tup rfl (pgs_cons (pg_name (i := 2) nd rfl (.inl rfl)) (pgs_cons (pg_name (i := 3) nd rfl (.inl rfl)) pgs_nil)))
      (pss_one (ps_if (pt_not (pt_val (pe_cal (c_is_below T) hr (by decide) pass0 (pa_cons (pv 3) (pa_cons (pe_ix ix_tup (pe_fld (pe_fld (pv 0) rfl) rfl) (pe_ix ix_tup (pe_fld (pv 0) rfl) (pv 2) (fun _ _ => rfl)) (fun _ _ => rfl)) pa_nil)))))
        (pss_one ps_never)
        pss_nil)))
    (pss_one (ps_ret (pe_callTy call_tuple_of (by rfl) T.z_tuple PyProof.Rows.boot_tuple (pa_cons (pv 1) pa_nil)))))), ?_⟩
    obtain ⟨a, dx, bv, p, q, xs, rfl, h1, h2, h3, h4, h5⟩ := hst.ex
    rcases h with ⟨l, b, st, rfl, hv, hl, ⟨hn, hok⟩, fin⟩ | ⟨hno, fin⟩
    · refine ⟨_, rfl, _, true, rfl, hv.isSeq, fun H1 s1 => ⟨true, rfl, iteF ?_⟩⟩
      have hv1 := hv.gr s1
      refine ⟨_, rfl, b, _, rfl, sqx_or hv1.sq, _, rfl, a, _, dx, _, _, rfl, s1 _ _ h1, T.c_Store, T.n_Store_cells, rfl, p, _, rfl, .inr (same_t s1 h3), rfl, _, rfl, ite2 (fun d => ?_) (fun _ => ?_)⟩
      · rw [List.length_map, List.length_map, hn, decide_eq_true rfl] at d
        cases d
      refine ⟨_, rfl, l, b, _, rfl, hv1.sq, for_it walk_enumM (fun i σ H => (∃ v2 v3, σ = [some (.ref a), some (.ref b), v2, v3]) ∧ Same H1 H) ⟨⟨none, none, rfl⟩, Same.refl _⟩ (fun i σ H _ p => same_x p.2 hv1.sq) ?_ ?_⟩
      · rintro i x' σ H4 H5 hi ⟨⟨v2, v3, rfl⟩, s4⟩ ⟨t, x1, x2, rfl, nT, rfl, e1, e2⟩
        cases e1
        obtain ⟨n, hn1, rfl⟩ := getMapInt e2
        have s5 := s1.trans (s4.trans (same_new (o := .tup [.int (i : Nat), .int n]) nT))
        have hi2 : i < sd.cells.length := by
          have := (List.getElem?_eq_some_iff.mp hn1).1
          omega
        obtain ⟨m, hm, hc0, hb0, hb1⟩ := hok i _ n (List.getElem?_eq_getElem hi2) hn1
        obtain ⟨ba, bdx, bp, bq, bxs, rfl, b1, b2, b3, b4⟩ := (h2.kp (Kp.of s5)).ex
        refine ⟨t, _, rfl, SqT.of upd_same, rfl, _, _, rfl, _, _, rfl, rfl, ?_⟩
        refine ⟨_, rfl, _, rfl, a, _, dx, _, _, rfl, s5 _ _ h1, T.c_Store, T.n_Store_book, rfl, ba, _, bdx, _, _, rfl, b1, T.c_Book, T.n_Book_columns, rfl, _, rfl, a, _, dx, _, _, rfl, s5 _ _ h1, T.c_Store, T.n_Store_cells, rfl, _, rfl, p, _, _, _, rfl, rfl, same_t s5 h3, atI_nat (at_map (List.getElem?_eq_getElem hi2)),
          bp, _, _, .int m, rfl, rfl, b2, atI_of (j := (sd.cells[i]).toNat) (by omega) (at_map hm), n, m, rfl, ?_⟩
        rw [decide_eq_true (show 0 ≤ n ∧ n < m from ⟨hb0, hb1⟩)]
        exact ⟨true, rfl, iteF ⟨⟨_, _, rfl⟩, s4.trans (same_new nT)⟩⟩
      · rintro σ H4 ⟨⟨v2, v3, rfl⟩, s4⟩
        rcases hv1.gr s4 with ⟨rfl, hv4⟩ | ⟨rfl, hv4⟩
        · exact ⟨_, rfl, b, _, rfl, .inl ⟨SqL.of hv4, fun t nt => fin _ t (s1.trans (s4.trans (same_new nt))) (SqT.of upd_same)⟩⟩
        · exact ⟨_, rfl, b, _, rfl, .inr ⟨hv4, fin _ b (s1.trans s4) hv4⟩⟩
    · rcases hno with hno | ⟨c, ys, rfl, hc, hlen⟩
      · refine ⟨_, rfl, v, false, rfl, hno, fun H1 s1 => ⟨false, rfl, iteT ?_⟩⟩
        refine ⟨_, rfl, mkE_of fun H4 d s4 hd => fin H4 d (s1.trans s4) hd⟩
      · refine ⟨_, rfl, _, true, rfl, .inl ⟨rfl, c, ys, rfl, .inr hc⟩, fun H1 s1 => ⟨true, rfl, iteF ?_⟩⟩
        refine ⟨_, rfl, c, _, rfl, .inr (same_t s1 hc), _, rfl, a, _, dx, _, _, rfl, s1 _ _ h1, T.c_Store, T.n_Store_cells, rfl, p, _, rfl, .inr (same_t s1 h3), rfl, _, rfl, ite2 (fun _ => ?_) (fun d => ?_)⟩
        · refine ⟨_, rfl, mkE_of fun H4 d s4 hd => fin H4 d (s1.trans s4) hd⟩
        · rw [decide_eq_false (fun z => by
            injection z with z
            rw [List.length_map] at z
            omega)] at d
          exact absurd rfl d
end
end K29
namespace K29
open PySem PySem.Spec PyProof.Rows L2
theorem any_dI (rows : List (List Int)) (r : List Int) : ((rows.map dI).any fun z => PyData.eqv z (dI r)) = decide (r ∈ rows) := by
  rw [Bool.eq_iff_iff, List.any_eq_true, decide_eq_true_eq]
  constructor
  · rintro ⟨x, hx, e⟩
    obtain ⟨q, hq, rfl⟩ := List.mem_map.mp hx
    rw [eqv_dI] at e
    rw [← of_decide_eq_true e]
    exact hq
  · intro h
    exact ⟨dI r, List.mem_map.mpr ⟨r, h, rfl⟩, by rw [eqv_dI, decide_eq_true rfl]⟩
def rowAt (st : List Int) (on : List Nat) : List Int := on.map fun i => st.getD i 0
theorem st_get {st : List Int} {n : Nat} (h : n < st.length) : (st.map V.int)[n]? = some (V.int (st.getD n 0)) := by
  rw [List.getElem?_map, List.getElem?_eq_getElem h, List.getD_eq_getElem?_getD, List.getElem?_eq_getElem h]
  rfl
/-- .. for cell in on: state[cell] -/
theorem lc_row {K : PySem.W.Frag} {g : TG} {tt : TT} {te : TE} {vs : List Nat} {σ : L2.St} {H1 : Hp} {D p : Addr} {Qd : Hp → Prop} {st : List Int} {on : List Nat} (nD : H1 D = none) (hp : SqT K H1 p ((zz on).map V.int)) (h3 : on.length ≤ 1000) (hb : ∀ x ∈ on, x < st.length)
    (turn : ∀ (i : Nat) (n : Nat) (H : Hp) (post : V → Hp → Prop) (skip : Hp → Prop), on[i]? = some n → n < st.length → Same H1 H → post (.int (st.getD n 0)) H → g (.int (n : Nat)) (wipe σ vs) H fun σ2 H2 => wipe σ2 vs = wipe σ vs ∧ tt σ2 H2 fun b H3 => if b = true then te σ2 H3 post else skip H3)
    (done : ∀ H, Same H1 H → H D = some (.lst ((rowAt st on).map V.int)) → Qd H) :
    ∃ W : Nat → Nat → Hp → Prop, (∃ m, W 0 m (upd H1 D (.lst []))) ∧ ∀ i m H, W i m H →
      ((Itt K p).stop i H ∧ Qd H) ∨ ((Itt K p).go i H ∧ ∃ Nx : Hp → Prop, (∀ H', Nx H' → ∃ m', m' < m ∧ W (i + 1) m' H') ∧ ∀ x H', (Itt K p).yld i H x H' → g x (wipe σ vs) H' fun σ2 H2 => wipe σ2 vs = wipe σ vs ∧ tt σ2 H2 fun b H3 =>
        if b = true then te σ2 H3 fun y H4 => ∃ acc, H4 D = some (.lst acc) ∧ acc.length < sizeLine ∧ Nx (upd H4 D (.lst (acc ++ [y]))) else Nx H3) := by
  refine lc_pure (walk_tup (a := p) (xs := (zz on).map V.int)) nD (by rw [List.length_map, zz_len]; omega) (fun i zs H => zs = ((rowAt st on).take i).map V.int) (fun _ _ _ _ _ h => h) (by simp) (fun H s => same_t s hp) ?_ ?_
  · rintro i x H H' zs post skip hi s hz ⟨rfl, hx⟩ hpost hskip
    obtain ⟨z, hz1, rfl⟩ := getMapInt hx
    obtain ⟨n, hn, rfl⟩ := zz_get hz1
    refine turn i n _ post skip hn (hb n (List.mem_of_getElem? hn)) s (hpost _ _ (Same.refl _) ?_)
    have e : (rowAt st on)[i]? = some (st.getD n 0) := at_map hn
    rw [hz, take_snoc e, List.map_append]
    rfl
  · intro H zs s hD hz
    refine done H s ?_
    have e : ((zz on).map V.int).length = (rowAt st on).length := by
      unfold rowAt
      rw [List.length_map, zz_len, List.length_map]
    rw [e, List.take_length] at hz
    rw [hD, hz]
section
variable {P : Program} {w : World} {K : PySem.W.Frag} {mg : Str → Option Value} {base : Heap}
theorem sc_row_on : FnScope ["state", "laid", "cell"] ["state", "laid"] (defScope s_row_on) := ⟨rfl, rfl, rfl, by decide +kernel, rfl, by decide +kernel, by decide +kernel⟩
def spRowOn (K : PySem.W.Frag) : Sp := fun vs H Q _ => ∃ (a : Addr) (v : V) (st : List Int) (l : Ld), vs = [.ref a, v] ∧ SqT K H a (st.map V.int) ∧ LdV K H v l ∧ l.2.length ≤ 1000 ∧ (∀ x ∈ l.2, x < st.length) ∧ ∀ H' v', Same H H' → Rw H' v' (rowAt st l.2) → Q v' H'
theorem c_row_on (T : Tx K mg) : Cal P w K mg base CX0 1 "row_on" (spRowOn K) := by
  refine cal0 T.f_row_on T.g_row_on sc_row_on (fun _ _ _ _ _ _ us hl => match us, hl with | [_, _], _ => rfl) (fun vs H Q E h => ?_) (fun cdv A outer s H vs Q E hr h => ?_)
  · obtain ⟨a, v, st, l, rfl, _⟩ := h
    rfl
  · obtain ⟨a, v, st, l, rfl, ha, ⟨b, p, rfl, hv, hp⟩, hl, hlt, fin⟩ := h
    have nd := sc_row_on.nd
    refine ⟨_, (pss_one (ps_ret (pe_callTy call_tuple_of (by rfl) T.z_tuple PyProof.Rows.boot_tuple (pa_cons (pe_lc (own := [("cell", 2)]) rfl nd (pi_tup (pe_ix ix_tup (pv 1) pe_int (fun _ _ => rfl))) (blkOk_by (by kernel_rfl)) (fun _ _ _ _ _ => (pg_name (i := 2) nd rfl (.inl rfl))) (fun _ _ _ _ _ => pts_nil) (fun _ _ _ _ _ => (pe_ix (kix_tup K) (pv 0) (pv 2) (fun _ _ => rfl)))) pa_nil)))), ?_⟩
    refine ⟨_, rfl, b, _, 1, .ref p, rfl, rfl, hv, atI_nat (j := 1) rfl, p, rfl, ⟨_, hp⟩, fun D nD => lc_row nD hp hl hlt ?_ ?_⟩
    · intro i n H1 post skip hn hns s1 hpost
      exact ⟨rfl, _, rfl, _, rfl, a, _, (n : Int), _, rfl, rfl, same_t s1 ha, atI_nat (st_get hns), hpost⟩
    · intro H1 s1 hD
      refine ⟨D, _, rfl, .inl ⟨SqL.of hD, fun t nt => ?_⟩⟩
      exact fin _ _ (s1.trans (same_new nt)) ⟨t, rfl, upd_same⟩
theorem sc_is_fine : FnScope ["store", "state", "one"] ["store", "state"] (defScope s_is_fine) := ⟨rfl, rfl, rfl, by decide +kernel, rfl, by decide +kernel, by decide +kernel⟩
def fineB (s : St) (st : List Int) : Bool := passB (s.book.chks.map (·.2)) s.laid st
def spFine (K : PySem.W.Frag) : Sp := fun vs H Q _ => ∃ (x : V) (a : Addr) (s : St) (st : List Int), vs = [x, .ref a] ∧ StoreV K H x s ∧ SqT K H a (st.map V.int) ∧ StoreOk s ∧ st.length = s.cells.length ∧ ∀ H', Same H H' → Q (.bl (fineB s st)) H'
theorem laid_in {s : St} {l : Ld} (h : LaidOk s.book s.cells l) : ∀ x ∈ l.2, x < s.cells.length := fun x hx => by
  obtain ⟨c, hc, hlen, _, hcell⟩ := h
  obtain ⟨i, hi⟩ := List.mem_iff_getElem?.mp hx
  have h1 := (List.getElem?_eq_some_iff.mp hi).1
  have := hcell i x (c.1[i]'(by omega)) hi (List.getElem?_eq_getElem (by omega))
  exact (List.getElem?_eq_some_iff.mp this).1
theorem c_is_fine (T : Tx K mg) : Cal P w K mg base CX0 2 "is_fine" (spFine K) := by
  refine cal0 T.f_is_fine T.g_is_fine sc_is_fine (fun _ _ _ _ _ _ us hl => match us, hl with | [_, _], _ => rfl) (fun vs H Q E h => ?_) (fun cdv A outer s H vs Q E hr h => ?_)
  · obtain ⟨x, a, sd, st, rfl, _⟩ := h
    rfl
  · obtain ⟨x, a, sd, st, rfl, ⟨b, dx, bv, p, q, xs, rfl, h1, h2, h3, h4, h5⟩, ha, hok, hlen, fin⟩ := h
    have nd := sc_is_fine.nd
    refine ⟨_, (pss_one (ps_ret (pe_callB (cr_all rfl) (by rfl) T.z_all boot_all (pa_cons (pe_lc (own := [("one", 2)]) rfl nd (pi_tup (pe_fld (pv 0) rfl)) (blkOk_by (by kernel_rfl)) (fun _ _ _ _ _ => (pg_name (i := 2) nd rfl (.inl rfl))) (fun _ _ _ _ _ => pts_nil) (fun _ _ _ _ _ => (pe_cmpR (op_inT K (un65 hr)) (pe_cal (c_row_on T) hr (by decide) pass0 (pa_cons (pv 1) (pa_cons (pv 2) pa_nil))) (pe_ix (kix_tup K) (pe_ix (kix_tup K) (kpe_fld K (kpe_fld K (pv 0) rfl) rfl) (pe_ix (kix_tup K) (pv 2) pe_int (fun _ _ => rfl)) (fun _ _ => rfl)) pe_int (fun _ _ => rfl)) (by rfl)))) pa_nil)))), ?_⟩
    refine ⟨_, rfl, b, _, dx, _, _, rfl, h1, T.c_Store, T.n_Store_laid, rfl, q, rfl, ⟨_, h4⟩, fun D nD => lc_pure (walk_tup (a := q) (xs := xs)) nD (by have := h5.1; have := hok.2.2.2.1; omega)
      (fun i zs H => zs = ((sd.laid.take i).map fun l => decide (rowAt st l.2 ∈ (sd.book.chks.map (·.2)).getD l.1 [])).map V.bl) (fun _ _ _ _ _ h => h) (by simp) (fun H s => same_t s h4) ?_ ?_⟩
    · rintro i x' H1 H2 zs post skip hi s1 hz ⟨rfl, hx⟩ hpost hskip
      obtain ⟨l, hl1, hl2⟩ := h5.at hx
      have hlo := hok.2.2.2.2 l (List.mem_of_getElem? hl1)
      obtain ⟨c, hc, _, hl1000, _⟩ := id hlo
      refine ⟨rfl, _, rfl, _, rfl, a, _, st, l, rfl, same_t s1 ha, hl2.kp (Kp.of s1), hl1000, fun x hx => by rw [hlen]; exact laid_in hlo x hx, fun H3 v' s3 hrow => ?_⟩
      have s13 := s1.trans s3
      obtain ⟨ba, bdx, bp, bq, bxs, rfl, b1, b2, b3, b4⟩ := (h2.kp (Kp.of s13)).ex
      obtain ⟨cv, hcv, hck⟩ := b4.get hc
      obtain ⟨ca, cp, cq, rs, rfl, c1, c2, c3, c4⟩ := hck.ex
      obtain ⟨la, lp, rfl, l1, l2⟩ := (hl2.kp (Kp.of s13)).ex
      refine ⟨_, rfl, b, _, dx, _, _, rfl, s13 _ _ h1, T.c_Store, T.n_Store_book, rfl, ba, _, bdx, _, _, rfl, b1, T.c_Book, T.n_Book_checks, rfl, _, rfl, la, _, 0, .int (l.1 : Nat), rfl, rfl, l1, atI_nat (j := 0) rfl, bq, bxs, _, .ref ca, rfl, rfl, b3, atI_nat hcv, ca, _, 1, .ref cq, rfl, rfl, c1, atI_nat (j := 1) rfl, _, _, hrow.dp, .tup c3 c4.dp, sh_dI _, sh_dR _, ?_⟩
      rw [any_dI]
      refine hpost _ _ s3 ?_
      have e : (sd.book.chks.map (·.2)).getD l.1 [] = c.2 := by
        rw [List.getD_eq_getElem?_getD, List.getElem?_map, hc]
        rfl
      rw [hz, take_snoc hl1, List.map_append, List.map_append]
      show _ = _ ++ [V.bl (decide (rowAt st l.2 ∈ (sd.book.chks.map (·.2)).getD l.1 []))]
      rw [e]
    · rintro H1 zs s1 hD hz
      rw [h5.1, List.take_length] at hz
      refine ⟨D, sd.laid.map fun l => decide (rowAt st l.2 ∈ (sd.book.chks.map (·.2)).getD l.1 []), rfl, ?_, ?_⟩
      · rw [← hz]
        exact SqL.of hD
      · rw [List.all_map]
        exact fin _ s1
end
end K29
namespace K29
open PySem PySem.Spec PyProof.Rows L2
/-- what is asked of a state by its store -/
def NeedP (K : PySem.W.Frag) (s : St) (v : V) (H : Hp) (Q : VK) (E : XK) : Prop :=
  (∃ (l : Bool) (a : Addr) (st : List Int), v = .ref a ∧ LX K l H a (st.map V.int) ∧ st.length ≤ 1000 ∧ StOk s st ∧
    ((fineB s st = true ∧ ∀ H' t, Same H H' → SqT K H' t (st.map V.int) → Q (.ref t) H') ∨
      (fineB s st = false ∧ ∀ H' d, Same H H' → H' d = some (.xd [("at", v)]) → E (.ref (He.ga K "Refused")) (some d) H'))) ∨
  (NoState K H v s.cells.length ∧ ∀ H' d, Same H H' → H' d = some (.xd [("at", .int (-1))]) → E (.ref (He.ga K "BadState")) (some d) H')
section
variable {P : Program} {w : World} {K : PySem.W.Frag} {mg : Str → Option Value} {base : Heap}
theorem sc_need_good : FnScope ["store", "value", "told"] ["store", "value"] (defScope s_need_good) := ⟨rfl, rfl, rfl, by decide +kernel, rfl, by decide +kernel, by decide +kernel⟩
def spNeed (K : PySem.W.Frag) : Sp := fun vs H Q E => ∃ (x v : V) (s : St), vs = [x, v] ∧ StoreV K H x s ∧ StoreOk s ∧ NeedP K s v H Q E
theorem c_need_good (T : Tx K mg) (X3 : Ex3 P w K mg base) : Cal P w K mg base (L2.CX P w) 5 "need_good" (spNeed K) := by
  refine calX T.f_need_good T.g_need_good sc_need_good (fun _ _ _ _ _ _ us hl => match us, hl with | [_, _], _ => rfl) (fun vs H Q E h => ?_) (fun cdv A outer s H vs Q E hr h => ?_)
  · obtain ⟨x, v, s, rfl, _⟩ := h
    rfl
  · obtain ⟨x, v, sd, rfl, hst, hok, h⟩ := h
    have nd := sc_need_good.nd
    refine ⟨_, (pss_cons (ps_set (i := 2) nd rfl (.inl rfl) (pe_cal (c_check_state T X3) hr (by decide) (passes_call (W := fun cls d _ H => E cls d H) (E := E) (takes_of rfl rfl rfl rfl) (fun _ _ _ _ h => h)) (pa_cons (pv 0) (pa_cons (pv 1) pa_nil))))
    (pss_cons (ps_if (pt_not (pt_val (pe_cal (c_is_fine T) hr (by decide) pass0 (pa_cons (pv 0) (pa_cons (pv 2) pa_nil)))))
      (pss_one (ps_raiseE (takes_of rfl rfl rfl rfl) X3.rf hr (by decide) (pa_cons (pv 1) pa_nil)))
      pss_nil)
    (pss_one (ps_ret (pv 2))))), ?_⟩
    rcases h with ⟨l, a, st, rfl, hl, h1000, hs, h⟩ | ⟨hno, fin⟩
    · refine ⟨_, rfl, _, rfl, x, _, sd, rfl, hst, .inl ⟨l, a, st, rfl, hl, h1000, hs, fun H1 t s1 ht => ?_⟩⟩
      refine ⟨_, rfl, _, rfl, x, t, sd, st, rfl, hst.kp (Kp.of s1), ht, hok, hs.1, fun H2 s2 => ?_⟩
      refine ⟨_, rfl, ?_⟩
      rcases h with ⟨e, fin⟩ | ⟨e, fin⟩
      · rw [e]
        exact iteF ⟨_, rfl, fin _ t (s1.trans s2) (same_t s2 ht)⟩
      · rw [e]
        exact iteT ⟨_, rfl, mkE_of fun H4 d s4 hd => fin H4 d (s1.trans (s2.trans s4)) hd⟩
    · refine ⟨_, rfl, _, rfl, x, v, sd, rfl, hst, .inr ⟨hno, fun H1 d s1 hd => fin H1 d s1 hd⟩⟩
theorem sc_check_batch : FnScope ["store", "old", "new", "here"] ["store", "old", "new"] (defScope s_check_batch) := ⟨rfl, rfl, rfl, by decide +kernel, rfl, by decide +kernel, by decide +kernel⟩
theorem NeedP.imp {s : St} {v : V} {H : Hp} {Q Q' : VK} {E : XK} (h : NeedP K s v H Q E) (k : ∀ t H', Same H H' → Q (.ref t) H' → Q' (.ref t) H') : NeedP K s v H Q' E := by
  rcases h with ⟨l, a, st, e, h1, h2, h3, ⟨h4, h5⟩ | h4⟩ | h
  · exact .inl ⟨l, a, st, e, h1, h2, h3, .inl ⟨h4, fun H' t s1 ht => k t H' s1 (h5 H' t s1 ht)⟩⟩
  · exact .inl ⟨l, a, st, e, h1, h2, h3, .inr h4⟩
  · exact .inr h
def spBatch (K : PySem.W.Frag) : Sp := fun vs H Q E => ∃ (x v u : V) (s : St), vs = [x, v, u] ∧ StoreV K H x s ∧ StoreOk s ∧
  NeedP K s v H (fun r H1 => NeedP K s u H1 (fun r2 H2 => ∀ t, H2 t = none → Q (.ref t) (upd H2 t (.tup [r, r2]))) E) E
theorem c_check_batch (T : Tx K mg) (X3 : Ex3 P w K mg base) : Cal P w K mg base (L2.CX P w) 6 "check_batch" (spBatch K) := by
  refine calX T.f_check_batch T.g_check_batch sc_check_batch (fun _ _ _ _ _ _ us hl => match us, hl with | [_, _, _], _ => rfl) (fun vs H Q E h => ?_) (fun cdv A outer s H vs Q E hr h => ?_)
  · obtain ⟨x, v, u, s, rfl, _⟩ := h
    rfl
  · obtain ⟨x, v, u, sd, rfl, hst, hok, h⟩ := h
    have nd := sc_check_batch.nd
    refine ⟨_, (pss_cons (ps_set (i := 3) nd rfl (.inl rfl) (pe_cal (c_need_good T X3) hr (by decide) (passes_call (W := fun cls d _ H => E cls d H) (E := E) (takes_of rfl rfl rfl rfl) (fun _ _ _ _ h => h)) (pa_cons (pv 0) (pa_cons (pv 1) pa_nil))))
    (pss_one (ps_ret (pe_tup (pa_cons (pv 3) (pa_cons (pe_cal (c_need_good T X3) hr (by decide) (passes_call (W := fun cls d _ H => E cls d H) (E := E) (takes_of rfl rfl rfl rfl) (fun _ _ _ _ h => h)) (pa_cons (pv 0) (pa_cons (pv 2) pa_nil))) pa_nil)))))), ?_⟩
    refine ⟨_, rfl, _, rfl, x, v, sd, rfl, hst, hok, h.imp fun t H1 s1 h1 => ?_⟩
    refine ⟨_, rfl, _, rfl, _, rfl, x, u, sd, rfl, hst.kp (Kp.of s1), hok, h1.imp fun t2 H2 s2 h2 => ?_⟩
    exact ⟨by show 2 ≤ sizeLine; decide, fun t nt => h2 t nt⟩
end
end K29
namespace K29
open PySem PySem.Spec PyProof.Rows L2
/-! ### cells that are unlike, cells set -/
def diffT (old new : List Int) (n : Nat) : List Nat := (List.range n).filter fun i => decide (old.getD i 0 ≠ new.getD i 0)
def diffB (old new : List Int) : List Nat := diffT old new old.length
theorem diffT_succ {old new : List Int} {n : Nat} : diffT old new (n + 1) = diffT old new n ++ (if old.getD n 0 ≠ new.getD n 0 then [n] else []) := by
  unfold diffT
  rw [List.range_succ, List.filter_append]
  congr 1
  by_cases h : old.getD n 0 ≠ new.getD n 0
  · rw [if_pos h]
    simpa [List.getD_eq_getElem?_getD] using h
  · rw [if_neg h]
    simp at h
    simp [h]
theorem diff_asc (old new : List Int) : (diffB old new).Pairwise (· < ·) := List.Pairwise.filter _ List.pairwise_lt_range
theorem diff_mem {old new : List Int} {i : Nat} : i ∈ diffB old new ↔ i < old.length ∧ old.getD i 0 ≠ new.getD i 0 := by
  unfold diffB diffT
  rw [List.mem_filter, List.mem_range, decide_eq_true_eq]
theorem diff_len (old new : List Int) : (diffB old new).length ≤ old.length := by
  have := List.length_filter_le (fun i => decide (old.getD i 0 ≠ new.getD i 0)) (List.range old.length)
  rw [List.length_range] at this
  exact this
theorem zz_app (L M : List Nat) : zz (L ++ M) = zz L ++ zz M := by
  unfold zz
  rw [List.map_append]
theorem setB_len (old new : List Int) (S : List Nat) : (setB old new S).length = old.length := by
  unfold setB
  rw [List.length_map, List.length_range]
theorem setB_set {old new : List Int} {S : List Nat} {n : Nat} (h : n < old.length) : (setB old new S).set n (new.getD n 0) = setB old new (S ++ [n]) := by
  refine List.ext_getElem (by rw [List.length_set, setB_len, setB_len]) fun i h1 h2 => ?_
  simp only [setB, List.getElem_set, List.getElem_map, List.getElem_range]
  by_cases hi : n = i
  · subst hi
    rw [if_pos rfl, if_pos (List.mem_append_right _ (List.mem_singleton.mpr rfl))]
  · rw [if_neg hi]
    by_cases hm : i ∈ S
    · rw [if_pos hm, if_pos (List.mem_append_left _ hm)]
    · rw [if_neg hm, if_neg fun q => (List.mem_append.mp q).elim hm fun q => hi (List.mem_singleton.mp q).symm]
section
variable {P : Program} {w : World} {K : PySem.W.Frag} {mg : Str → Option Value} {base : Heap}
theorem sc_unlike_cells : FnScope ["old", "new", "cell", "one", "other"] ["old", "new"] (defScope s_unlike_cells) := ⟨rfl, rfl, rfl, by decide +kernel, rfl, by decide +kernel, by decide +kernel⟩
def spUnlike (K : PySem.W.Frag) : Sp := fun vs H Q _ => ∃ (a b : Addr) (old new : List Int), vs = [.ref a, .ref b] ∧ SqT K H a (old.map V.int) ∧ SqT K H b (new.map V.int) ∧ old.length = new.length ∧ old.length ≤ 1000 ∧ ∀ H' v, Same H H' → Rw H' v (zz (diffB old new)) → Q v H'
theorem c_unlike_cells (T : Tx K mg) : Cal P w K mg base CX0 1 "unlike_cells" (spUnlike K) := by
  refine cal0 T.f_unlike_cells T.g_unlike_cells sc_unlike_cells (fun _ _ _ _ _ _ us hl => match us, hl with | [_, _], _ => rfl) (fun vs H Q E h => ?_) (fun cdv A outer s H vs Q E hr h => ?_)
  · obtain ⟨a, b, old, new, rfl, _⟩ := h
    rfl
  · obtain ⟨a, b, old, new, rfl, ha, hb, hl, h1000, fin⟩ := h
    have nd := sc_unlike_cells.nd
    refine ⟨_, (pss_one (ps_ret (pe_callTy call_tuple_of (by rfl) T.z_tuple PyProof.Rows.boot_tuple (pa_cons (pe_lc (own := [("cell", 2), ("one", 3), ("other", 4)]) rfl nd (pi_enumZ (by rfl) T.z_zip (by rfl) T.z_enumerate (pa_cons (pv 0) (pa_cons (pv 1) pa_nil))) (blkOk_by (by kernel_rfl)) (fun _ _ _ _ _ => (kpg_tup K (n := 2) rfl (pgs_cons (pg_name (i := 2) nd rfl (.inl rfl)) (pgs_cons (kpg_tup K (n := 2) rfl (pgs_cons (pg_name (i := 3) nd rfl (.inl rfl)) (pgs_cons (pg_name (i := 4) nd rfl (.inl rfl)) pgs_nil))) pgs_nil)))) (fun _ _ _ _ _ => (pts_one (pt_cmpR op_ne (pv 3) (pv 4) (nomark _)))) (fun _ _ _ _ _ => (pv 2))) pa_nil)))), ?_⟩
    refine ⟨_, rfl, _, rfl, false, false, a, b, _, _, rfl, ha, hb, fun D nD => lc_pure (walk_enumZ (l1 := false) (l2 := false) (xs := old.map V.int) (ys := new.map V.int) (by rw [List.length_map, List.length_map, hl])) nD (by rw [List.length_map]; omega) (fun i zs H => zs = (zz (diffT old new i)).map V.int) (fun _ _ _ _ _ h => h) rfl (fun H s => ⟨same_t s ha, same_t s hb⟩) ?_ ?_⟩
    · rintro i x' H1 H2 zs post skip hi s1 hz ⟨t, u, x, y, rfl, nT, nU, tu, rfl, ex, ey⟩ hpost hskip
      rw [List.length_map] at hi
      replace ex : (old.map V.int)[i]? = some x := ex
      replace ey : (new.map V.int)[i]? = some y := ey
      have e1 : x = .int (old.getD i 0) := by
        have := st_get hi
        rw [ex] at this
        exact Option.some.inj this
      have e2 : y = .int (new.getD i 0) := by
        have := st_get (hl ▸ hi : i < new.length)
        rw [ey] at this
        exact Option.some.inj this
      subst e1 e2
      have sT := same_new (o := .tup [.int (old.getD i 0), .int (new.getD i 0)]) nT
      have nU2 : (upd H1 t (.tup [.int (old.getD i 0), .int (new.getD i 0)])) u = none := by rw [upd_ne (Ne.symm tu)]; exact nU
      have sU := same_new (o := .tup [.int (i : Nat), .ref t]) nU2
      have s2 := sT.trans sU
      refine ⟨u, _, rfl, SqT.of upd_same, rfl, _, _, rfl, ?_⟩
      refine ⟨_, _, rfl, t, _, rfl, SqT.of (sU _ _ upd_same), rfl, _, _, rfl, _, _, rfl, rfl, rfl, rfl, ?_⟩
      refine ⟨_, rfl, _, rfl, rfl, ?_⟩
      by_cases hd : old.getD i 0 = new.getD i 0
      · rw [decide_eq_true (congrArg V.int hd)]
        refine ⟨false, rfl, iteF (hskip _ s2 ?_)⟩
        rw [hz, diffT_succ, if_neg (fun z => z hd), List.append_nil]
      · rw [decide_eq_false (fun z => hd (by injection z))]
        refine ⟨true, rfl, iteT ⟨_, rfl, hpost _ _ s2 ?_⟩⟩
        rw [hz, diffT_succ, if_pos hd, zz_app, List.map_append]
        rfl
    · intro H1 zs s1 hD hz
      rw [List.length_map] at hz
      refine ⟨D, zs, rfl, .inl ⟨SqL.of hD, fun t nt => fin _ _ (s1.trans (same_new nt)) ⟨t, rfl, ?_⟩⟩⟩
      rw [upd_same, hz]
      rfl
theorem sc_with_cells : FnScope ["state", "other", "cells", "found", "cell"] ["state", "other", "cells"] (defScope s_with_cells) := ⟨rfl, rfl, rfl, by decide +kernel, rfl, by decide +kernel, by decide +kernel⟩
def spWith (K : PySem.W.Frag) : Sp := fun vs H Q _ => ∃ (a b c : Addr) (old new : List Int) (S : List Nat), vs = [.ref a, .ref b, .ref c] ∧ SqT K H a (old.map V.int) ∧ SqT K H b (new.map V.int) ∧ SqT K H c ((zz S).map V.int) ∧ old.length = new.length ∧ old.length ≤ 1000 ∧ (∀ x ∈ S, x < old.length) ∧
  ∀ H' v, Same H H' → Rw H' v (setB old new S) → Q v H'
theorem c_with_cells (T : Tx K mg) : Cal P w K mg base CX0 1 "with_cells" (spWith K) := by
  refine cal0 T.f_with_cells T.g_with_cells sc_with_cells (fun _ _ _ _ _ _ us hl => match us, hl with | [_, _, _], _ => rfl) (fun vs H Q E h => ?_) (fun cdv A outer s H vs Q E hr h => ?_)
  · obtain ⟨a, b, c, old, new, S, rfl, _⟩ := h
    rfl
  · obtain ⟨a, b, c, old, new, S, rfl, ha, hb, hc, hl, h1000, hS, fin⟩ := h
    have nd := sc_with_cells.nd
    refine ⟨_, (pss_cons (ps_set (i := 3) nd rfl (.inl rfl) (pe_callTy call_list_of (by rfl) T.z_list PyProof.Rows.boot_list (pa_cons (pv 0) pa_nil)))
    (pss_cons (ps_for PassesOwn.never rfl (pi_tup (pv 2)) (pg_name (i := 4) nd rfl (.inl rfl))
      (pss_one (ps_asg (pe_ix ix_tup (pv 1) (pv 4) (fun _ _ => rfl)) (pg_sub (pv 3) (pv 4) set_list))))
    (pss_one (ps_ret (pe_callTy call_tuple_of (by rfl) T.z_tuple PyProof.Rows.boot_tuple (pa_cons (pv 3) pa_nil)))))), ?_⟩
    refine ⟨_, rfl, a, _, rfl, .inr ha, fun D nD => ?_⟩
    refine ⟨_, rfl, c, rfl, ⟨_, same_t (same_new nD) hc⟩, for_it (walk_tup (a := c) (xs := (zz S).map V.int)) (fun i σ H' => (∃ v4, σ = [some (.ref a), some (.ref b), some (.ref c), some (.ref D), v4]) ∧ Same H H' ∧ H' D = some (.lst ((setB old new (S.take i)).map V.int))) ⟨⟨none, rfl⟩, same_new nD, ?_⟩ (fun i σ H' _ p => same_t p.2.1 hc) ?_ ?_⟩
    · rw [upd_same, List.take_zero, setB_nil]
    · rintro i x' σ H1 H2 hi ⟨⟨v4, rfl⟩, s1, hD⟩ ⟨rfl, hx⟩
      obtain ⟨m, hm, rfl⟩ := getMapInt hx
      obtain ⟨n, hn, rfl⟩ := zz_get hm
      have hno := hS n (List.mem_of_getElem? hn)
      refine ⟨_, rfl, _, rfl, b, _, (n : Int), _, rfl, rfl, same_t s1 hb, atI_nat (st_get (hl ▸ hno)), ?_⟩
      refine ⟨_, rfl, _, rfl, D, _, (n : Int), n, rfl, rfl, hD, ?_, ⟨⟨_, rfl⟩, same_lst nD s1, ?_⟩⟩
      · rw [List.length_map, setB_len]
        unfold ixN
        simp [hno]
      · rw [upd_same, take_snoc hn, ← setB_set hno, List.map_set]
    · rintro σ H1 ⟨⟨v4, rfl⟩, s1, hD⟩
      rw [List.length_map, zz_len, List.take_length] at hD
      refine ⟨_, rfl, D, _, rfl, .inl ⟨SqL.of hD, fun t nt => fin _ _ (s1.trans (same_new nt)) ⟨t, rfl, upd_same⟩⟩⟩
end
end K29
namespace K29
open PySem PySem.Spec PyProof.Rows L2
theorem cr_sortTx {X : Cx} : CallR X (.builtin "sorted") (fun xs H Q => ∃ (d : Nat) (B : Int), 1 ≤ d ∧ rSortU X.K d B xs H Q) := by
  intro pins s σ H xs us Q I rs q
  obtain ⟨d, B, hd, q⟩ := q
  exact cr_sortT hd pins s σ H xs us Q I rs q
theorem valV_dkv (L : List (List Int)) (r : List Int) : (valV (dkv L) (kI r)).isSome = decide (r ∈ L) := by
  unfold valV dkv
  rw [Option.isSome_map, Bool.eq_iff_iff, List.find?_isSome, decide_eq_true_eq]
  constructor
  · rintro ⟨x, hx, e⟩
    obtain ⟨q, hq, rfl⟩ := List.mem_map.mp hx
    exact kI_inj (of_decide_eq_true e) ▸ hq
  · intro h
    exact ⟨(kI r, V.bl true), List.mem_map.mpr ⟨r, h, rfl⟩, decide_eq_true rfl⟩
/-! ### tables -/
structure TabV (K : PySem.W.Frag) (H : Hp) (v : V) (t : List Row) : Prop where
  ex : ∃ a xs, v = .ref a ∧ SqT K H a xs ∧ Rws H xs t
theorem TabV.kp {K : PySem.W.Frag} {H H' : Hp} {v : V} {t : List Row} (k : Kp H H') (h : TabV K H v t) : TabV K H' v t := by
  obtain ⟨a, xs, e, h1, h2⟩ := h.ex
  exact ⟨a, xs, e, kp_t k h1, h2.kp k⟩
theorem TabV.ins {K : PySem.W.Frag} {x : Addr} {H H' : Hp} {v : V} {t : List Row} {C dx : Addr} {fs : List (Str × V)} (hx : H x = some (.ins C dx fs)) (g : Gr x H H') (h : TabV K H v t) : TabV K H' v t := by
  obtain ⟨a, xs, e, h1, h2⟩ := h.ex
  exact ⟨a, xs, e, sqt_gr hx g h1, rws_ins hx g h2⟩
def TabsTold (ts ts' : List (List Row)) : Prop := ts'.length = ts.length ∧ ∀ (i : Nat) t t', ts[i]? = some t → ts'[i]? = some t' → ∀ r, r ∈ t' ↔ r ∈ t
theorem tabs_snoc {ts ts' : List (List Row)} {i : Nat} {t t' : List Row} (hc : ts[i]? = some t) (h : TabsTold (ts.take i) ts') (k : ∀ r, r ∈ t' ↔ r ∈ t) : TabsTold (ts.take (i + 1)) (ts' ++ [t']) := by
  have hi := (List.getElem?_eq_some_iff.mp hc).1
  have hl := h.1
  rw [List.length_take] at hl
  refine ⟨by rw [List.length_append, List.length_take, List.length_singleton]; omega, fun j d d' a b => ?_⟩
  rw [List.getElem?_take] at a
  by_cases hj : j < i + 1
  · rw [if_pos hj] at a
    by_cases hji : j < i
    · rw [List.getElem?_append_left (by omega)] at b
      exact h.2 j d d' (by rw [List.getElem?_take, if_pos hji]; exact a) b
    · have : j = i := by omega
      subst this
      rw [hc] at a
      cases a
      rw [List.getElem?_append_right (by omega)] at b
      have : j - ts'.length = 0 := by omega
      rw [this] at b
      cases b
      exact k
  · rw [if_neg hj] at a
    cases a
/-- a table that suits its check -/
def TabOk (b : Bk) (c : Chk) (t : List Row) : Prop := CheckOk b.cols c ∧ RowsOk c.1.length t ∧ (∀ r ∈ t, Below r (colsAt b.cols c.1)) ∧ ∀ r ∈ c.2, r ∈ t
def TabsOk (b : Bk) (ts : List (List Row)) : Prop := b.chks.length = ts.length ∧ ts.length ≤ 6 ∧ ∀ (i : Nat) c t, b.chks[i]? = some c → ts[i]? = some t → TabOk b c t
section
variable {P : Program} {w : World} {K : PySem.W.Frag} {mg : Str → Option Value} {base : Heap}
theorem sc_check_ways : FnScope ["book", "value", "found", "places", "rows", "table", "many", "told", "column", "row"] ["book", "value"] (defScope s_check_ways) := ⟨rfl, rfl, rfl, by decide +kernel, rfl, by decide +kernel, by decide +kernel⟩
def spWays (K : PySem.W.Frag) : Sp := fun vs H Q _ => ∃ (x : V) (p : Addr) (b : Bk) (ts : List V) (tabs : List (List Row)), vs = [x, .ref p] ∧ BookV K H x b ∧ H p = some (.lst ts) ∧ Al (TabV K H) ts tabs ∧ TabsOk b tabs ∧
  ∀ H' q ts' tabs', Same H H' → SqT K H' q ts' → Al (TabV K H') ts' tabs' → TabsTold tabs tabs' → Q (.ref q) H'
theorem c_check_ways (T : Tx K mg) : Cal P w K mg base CX0 5 "check_ways" (spWays K) := by
  refine cal0 T.f_check_ways T.g_check_ways sc_check_ways (fun _ _ _ _ _ _ us hl => match us, hl with | [_, _], _ => rfl) (fun vs H Q E h => ?_) (fun cdv A outer s H vs Q E hr h => ?_)
  · obtain ⟨x, p, b, ts, tabs, rfl, _⟩ := h
    rfl
  · obtain ⟨x, p, b, ts, tabs, rfl, hb, hp, hts, ⟨hlen, h6, hok⟩, fin⟩ := h
    have nd := sc_check_ways.nd
    have hu := hu_of hr
    refine ⟨_, (pss_cons (ps_if (PW.pt (pw_or (pt_not (pt_val (pe_cal (c_is_sequence T) hr (by decide) pass0 (pa_cons (pv 1) pa_nil)))) (pw_or1 (pt_cmpR op_ne (pe_callB call_len_seq (by rfl) T.z_len PySem.boot_len (pa_cons (pv 1) pa_nil)) (pe_callB call_len_seq (by rfl) T.z_len PySem.boot_len (pa_cons (pe_fld (pv 0) rfl) pa_nil)) (nomark _)))))
      (pss_one ps_never)
      pss_nil)
    (pss_cons (ps_set (i := 2) nd rfl (.inl rfl) (pe_lst pa_nil))
    (pss_cons (ps_for PassesOwn.never rfl (pi_zipM (by rfl) T.z_zip (pa_cons (pe_fld (pv 0) rfl) (pa_cons (pv 1) pa_nil))) (pg_tup rfl (pgs_cons (pg_tup rfl (pgs_cons (pg_name (i := 3) nd rfl (.inl rfl)) (pgs_cons (pg_name (i := 4) nd rfl (.inl rfl)) pgs_nil))) (pgs_cons (pg_name (i := 5) nd rfl (.inl rfl)) pgs_nil)))
      (pss_cons (ps_set (i := 6) nd rfl (.inr rfl) (pe_lc (own := [("column", 8)]) rfl nd (pi_tup (pv 3)) (blkOk_by (by kernel_rfl)) (fun _ _ _ _ _ => (pg_name (i := 8) nd rfl (.inl rfl))) (fun _ _ _ _ _ => pts_nil) (fun _ _ _ _ _ => (pe_ix (kix_tup K) (kpe_fld K (pv 0) rfl) (pv 8) (fun _ _ => rfl)))))
      (pss_cons (ps_if (PW.pt (pw_or (pt_not (pt_val (pe_cal (c_is_sequence T) hr (by decide) pass0 (pa_cons (pv 5) pa_nil)))) (pw_or1 (pt_not (pt_val (pe_callB (cr_all rfl) (by rfl) T.z_all boot_all (pa_cons (pe_lc (own := [("row", 9)]) rfl nd (pi_tup (pv 5)) (blkOk_by (by kernel_rfl)) (fun _ _ _ _ _ => (pg_name (i := 9) nd rfl (.inl rfl))) (fun _ _ _ _ _ => pts_nil) (fun _ _ _ _ _ => (pe_cal (c_is_values T) hr (by decide) pass0 (pa_cons (pv 9) (pa_cons (pv 6) pa_nil))))) pa_nil)))))))
        (pss_one ps_never)
        pss_nil)
      (pss_cons (ps_set (i := 7) nd rfl (.inr rfl) (pe_dcT hu (own := [("row", 9)]) rfl nd (pi_tup (pv 5)) (blkOk_by (by kernel_rfl)) (fun _ _ _ _ _ => (pg_name (i := 9) nd rfl (.inl rfl))) (fun _ _ _ _ _ => pts_nil) (fun _ _ _ _ _ => (pe_callTy (kcall_tuple_of K) (by rfl) T.z_tuple PyProof.Rows.boot_tuple (pa_cons (pv 9) pa_nil))) (fun _ _ _ _ _ => pe_bl)))
      (pss_cons (ps_if (pt_not (pt_val (pe_callB (cr_all rfl) (by rfl) T.z_all boot_all (pa_cons (pe_lc (own := [("row", 9)]) rfl nd (pi_tup (pv 4)) (blkOk_by (by kernel_rfl)) (fun _ _ _ _ _ => (pg_name (i := 9) nd rfl (.inl rfl))) (fun _ _ _ _ _ => pts_nil) (fun _ _ _ _ _ => (pe_cmp (pc_din hu (pv 9) (pv 7))))) pa_nil))))
        (pss_one ps_never)
        pss_nil)
      (pss_one (ps_expr (pe_bm PySem.F.plainAttrs_list PySem.F.slot_list_append PySem.F.type_list_append mt_append (pv 2) (pa_cons (pe_callTy call_tuple_of (by rfl) T.z_tuple PyProof.Rows.boot_tuple (pa_cons (pe_callB cr_sortTx (by rfl) T.z_sorted PyProof.Rows.boot_sorted (pa_cons (pe_callTy (call_list_dT rfl) (by rfl) T.z_list PyProof.Rows.boot_list (pa_cons (pv 7) pa_nil)) pa_nil)) pa_nil)) pa_nil)))))))))
    (pss_one (ps_ret (pe_callTy call_tuple_of (by rfl) T.z_tuple PyProof.Rows.boot_tuple (pa_cons (pv 2) pa_nil))))))), ?_⟩
    obtain ⟨ba, bdx, bp, bq, bxs, rfl, b1, b2, b3, b4⟩ := hb.ex
    refine ⟨_, rfl, _, true, rfl, .inl ⟨rfl, p, _, rfl, .inl hp⟩, fun H1 s1 => ⟨true, rfl, iteF ?_⟩⟩
    have hl2 : ts.length = bxs.length := by
      have := hts.1
      have := b4.1
      omega
    refine ⟨_, rfl, p, _, rfl, .inl (SqL.of (s1 _ _ hp)), _, rfl, ba, _, bdx, _, _, rfl, s1 _ _ b1, T.c_Book, T.n_Book_checks, rfl, bq, _, rfl, .inr (same_t s1 b3), rfl, _, rfl, ite2 (fun d => ?_) (fun _ => ?_)⟩
    · rw [decide_eq_true (congrArg (fun n : Nat => V.int (n : Int)) hl2)] at d
      cases d
    refine ⟨by show 0 ≤ sizeLine; decide, fun F nF => ?_⟩
    have sF := same_new (o := .lst []) nF
    have s2 := s1.trans sF
    refine ⟨_, rfl, ba, _, bdx, _, _, rfl, s2 _ _ b1, T.c_Book, T.n_Book_checks, rfl, _, rfl, false, true, bq, p, _, _, rfl, same_t s2 b3, SqL.of (s2 _ _ hp), for_it (walk_zipM (l1 := false) (l2 := true) (xs := bxs) (ys := ts) hl2.symm) (fun i σ H => (∃ v3 v4 v5 v6 v7, σ = [some (.ref ba), some (.ref p), some (.ref F), v3, v4, v5, v6, v7, none, none]) ∧ Same H1 H ∧ ∃ ws tabs', H F = some (.lst ws) ∧ Al (TabV K H) ws tabs' ∧ TabsTold (tabs.take i) tabs')
      ⟨⟨none, none, none, none, none, rfl⟩, sF, [], [], upd_same, Al.nil, ⟨by simp, fun i t t' a => by simp at a⟩⟩ (fun i σ H _ q => ⟨same_t (s1.trans q.2.1) b3, SqL.of ((s1.trans q.2.1) _ _ hp)⟩) ?_ ?_⟩
    · rintro i x' σ H4 H5 hi ⟨⟨v3, v4, v5, v6, v7, rfl⟩, s4, ws, tabs', hF, hA, hT⟩ ⟨t, x1, x2, rfl, nT, rfl, e1, e2⟩
      obtain ⟨c, hc1, hc2⟩ := b4.at e1
      obtain ⟨tb, ht1, ht2⟩ := hts.at e2
      obtain ⟨ck, ⟨hr1, hr2⟩, hbl, hsub⟩ := hok i c tb hc1 ht1
      obtain ⟨hd, hl3, hpl, hcr, hcb⟩ := ck
      have s5 := same_new (o := .tup [x1, x2]) nT
      have s05 := (s1.trans s4).trans s5
      have nFt : F ≠ t := fun z => by rw [← z, hF] at nT; cases nT
      have hF5 : (upd H4 t (.tup [x1, x2])) F = some (.lst ws) := s5 _ _ hF
      have hA5 := hA.imp fun v t (h : TabV K H4 v t) => h.kp (Kp.of s5)
      have s15 := s4.trans s5
      obtain ⟨ca, cp, cq, rs, rfl, k1, k2, k3, k4⟩ := (hc2.kp (Kp.of s05)).ex
      obtain ⟨ta, txs, rfl, t1, t2⟩ := (ht2.kp (Kp.of s05)).ex
      refine ⟨t, _, rfl, SqT.of upd_same, rfl, _, _, rfl, ⟨ca, _, rfl, k1, rfl, _, _, rfl, _, _, rfl, rfl, ?_⟩⟩
      generalize upd H4 t (.tup [.ref ca, .ref ta]) = H5 at *
      refine ⟨_, _, rfl, rfl, ?_⟩
      refine ⟨_, rfl, cp, rfl, ⟨_, k2⟩, fun D nD => lc_cols (a := bp) (cols := b.cols) (places := c.1) nD (same_t s05 b2) k2 (by omega) hpl ?_ ?_⟩
      · rintro j n m H6 post skip hj hm hn s6 hpost
        exact ⟨rfl, _, rfl, ba, _, bdx, _, _, rfl, (s05.trans s6) _ _ b1, T.c_Book, T.n_Book_columns, rfl, _, rfl, bp, _, n, .int m, rfl, rfl, same_t (s05.trans s6) b2, atI_of (j := n.toNat) hn.symm (at_map hm), hpost⟩
      intro H6 s6 hD
      refine ⟨_, rfl, _, true, rfl, .inl ⟨rfl, ta, _, rfl, .inr (same_t s6 t1)⟩, fun H7 s7 => ⟨true, rfl, iteF ?_⟩⟩
      have s57 := s6.trans s7
      have hD7 := s7 _ _ hD
      refine ⟨_, rfl, ta, rfl, ⟨_, same_t s57 t1⟩, fun D2 nD2 => lc_pure (walk_tup (a := ta) (xs := txs)) nD2 (by have := t2.1; omega) (fun i zs H => zs = List.replicate i (V.bl true)) (fun _ _ _ _ _ h => h) rfl (fun H s => same_t s (same_t s57 t1)) ?_ ?_⟩
      · rintro j x H8 H9 zs post skip hj s8 hz ⟨rfl, hx⟩ hpost hskip
        obtain ⟨r, hr', hrw⟩ := (t2.same (s57.trans s8)).at hx
        obtain ⟨u, rfl, hu2⟩ := hrw.sq (K := K)
        have hb' := hbl r (List.mem_of_getElem? hr')
        refine ⟨rfl, _, rfl, _, rfl, u, D, r, colsAt b.cols c.1, rfl, hu2, SqL.of (s8 _ _ hD7), ?_, hb', fun H10 s10 => ?_⟩
        · have := hb'.1
          rw [colsAt_len] at this
          omega
        · exact hpost _ _ s10 (by rw [hz, repl_snoc])
      rintro H8 zs s8 hD2 hz
      refine ⟨D2, List.replicate txs.length true, rfl, ?_, ?_⟩
      · rw [map_true, ← hz]
        exact SqL.of hD2
      rw [all_true]
      refine ⟨true, rfl, iteF ?_⟩
      have s58 := s57.trans s8
      have t18 := same_t s58 t1
      have t28 := t2.same s58
      refine ⟨_, rfl, ta, rfl, ⟨_, t18⟩, fun D3 nD3 => dc_keys (walk_tup (a := ta) (xs := txs)) nD3 (fun H s => same_t s t18) tb t28.1.symm (by have := t28.1; omega) ?_ (fun x σ H P P' m h => m _ _ h) (fun σ H P P' m h => m _ _ h) ?_⟩
      · rintro j x H9 H10 r post s9 hr' ⟨rfl, hx⟩ hpost
        obtain ⟨u, rfl, hu2⟩ := t28.2 j x r hx hr'
        exact ⟨rfl, _, rfl, u, _, rfl, .inr ⟨same_t s9 (SqT.of hu2), hpost u _ (Same.refl _) (s9 _ _ hu2)⟩⟩
      intro H9 s9 hD3
      have s59 := s58.trans s9
      refine ⟨_, rfl, cq, rfl, ⟨_, same_t s59 k3⟩, fun D4 nD4 => lc_pure (walk_tup (a := cq) (xs := rs)) nD4 (by have := k4.1; omega) (fun i zs H => zs = List.replicate i (V.bl true)) (fun _ _ _ _ _ h => h) rfl (fun H s => same_t s (same_t s59 k3)) ?_ ?_⟩
      · rintro j x H10 H11 zs post skip hj s10 hz ⟨rfl, hx⟩ hpost hskip
        obtain ⟨r, hr', hrw⟩ := (k4.same (s59.trans s10)).at hx
        obtain ⟨u, rfl, hu2⟩ := hrw
        refine ⟨rfl, _, rfl, _, rfl, D3, _, rfl, DGet.t (k := kI r) (s10 _ _ hD3) (by rw [kI_map]; exact hu2), ?_⟩
        rw [valV_dkv, decide_eq_true (mem_dd.mpr (hsub r (List.mem_of_getElem? hr')))]
        exact hpost _ _ (Same.refl _) (by rw [hz, repl_snoc])
      rintro H10 zs s10 hD4 hz
      refine ⟨D4, List.replicate rs.length true, rfl, ?_, ?_⟩
      · rw [map_true, ← hz]
        exact SqL.of hD4
      rw [all_true]
      refine ⟨true, rfl, iteF ?_⟩
      have s5A := s59.trans s10
      have sA := s15.trans s5A
      have hFA := s5A _ _ hF5
      have hAA := hA5.imp fun v t (h : TabV K H5 v t) => h.kp (Kp.of s5A)
      refine ⟨_, rfl, .inl ⟨rfl, _, SqL.of hFA⟩, _, rfl, D3, _, rfl, Rd.of (s10 _ _ hD3), fun l bs nl hk => ?_⟩
      have hk1 := keys_rws hk
      have s11 := same_new (o := .lst (bs.map V.ref)) nl
      have hk2 := hk1.same s11
      have hlen2 : (bs.map V.ref).length < 64 := by
        have := hk1.1
        have := dd_len (rows := tb)
        omega
      refine ⟨c.1.length, 64, hd, l, _, rfl, SqL.of upd_same, hlen2, fun x hx => ?_, fun ys l2 pm pw nl2 => ?_⟩
      · obtain ⟨r, hr', u, rfl, hu2⟩ := rws_mem hk2 hx
        obtain ⟨c1, c2⟩ := hr2 r (mem_dd.mp hr')
        exact ⟨r, ⟨u, rfl, SqT.of hu2⟩, c1, c2⟩
      · obtain ⟨y1, y2⟩ := rws_perm hk2 pm
        have s12 := same_new (o := .lst ys) nl2
        refine ⟨l2, _, rfl, .inl ⟨SqL.of upd_same, fun u nu => ?_⟩⟩
        have s13 := same_new (o := .tup ys) nu
        have sE := s11.trans (s12.trans s13)
        have hFE := sE _ _ hFA
        refine ⟨F, ws, _, rfl, rfl, hFE, ltLine (by have h1 := hA.1; have h2 := hT.1; rw [List.length_take] at h2; omega), ⟨_, _, _, _, _, rfl⟩, ?_, _, tabs' ++ [ys.map (rowOf (upd H10 l (.lst (bs.map V.ref))))], upd_same, ?_, tabs_snoc ht1 hT fun r => by rw [y2.mem_iff, mem_dd]⟩
        · exact same_lst nF (sA.trans sE)
        · have kF := kp_lst (ws := ws ++ [.ref u]) hFE
          refine ((hAA.imp fun v t (h : TabV K H10 v t) => (h.kp (Kp.of sE)).kp kF).snoc ?_)
          refine TabV.kp kF ⟨u, ys, rfl, SqT.of upd_same, y1.same (s12.trans s13)⟩
    · rintro σ H4 ⟨⟨v3, v4, v5, v6, v7, rfl⟩, s4, ws, tabs', hF, hA, hT⟩
      refine ⟨_, rfl, F, _, rfl, .inl ⟨SqL.of hF, fun u nu => ?_⟩⟩
      have s5 := same_new (o := .tup ws) nu
      have e : bxs.length = tabs.length := by
        have := b4.1
        omega
      rw [e, List.take_length] at hT
      exact fin _ u ws tabs' (s1.trans (s4.trans s5)) (SqT.of upd_same) (hA.imp fun v t (h : TabV K H4 v t) => h.kp (Kp.of s5)) hT
end
end K29
namespace K29
open PySem PySem.Spec PyProof.Rows L2
structure Lx where
  book : Bk
  ways : List (List Row)
structure LaxV (K : PySem.W.Frag) (H : Hp) (v : V) (l : Lx) : Prop where
  ex : ∃ a dx bv q xs, v = .ref a ∧ H a = some (.ins (He.ga K "LaxBook") dx [("book", bv), ("ways", .ref q)]) ∧ BookV K H bv l.book ∧ SqT K H q xs ∧ Al (TabV K H) xs l.ways
theorem LaxV.kp {K : PySem.W.Frag} {H H' : Hp} {v : V} {l : Lx} (k : Kp H H') (h : LaxV K H v l) : LaxV K H' v l := by
  obtain ⟨a, dx, bv, q, xs, e, h1, h2, h3, h4⟩ := h.ex
  exact ⟨a, dx, bv, q, xs, e, k.ins _ _ _ _ h1, h2.kp k, kp_t k h3, h4.imp fun v t h => h.kp k⟩
section
variable {P : Program} {w : World} {K : PySem.W.Frag} {mg : Str → Option Value} {base : Heap}
theorem sc_LaxBook_init : FnScope ["self", "book", "ways"] ["self", "book", "ways"] (defScope s_LaxBook_init) := ⟨rfl, rfl, rfl, by decide +kernel, rfl, by decide +kernel, by decide +kernel⟩
def spLaxI (K : PySem.W.Frag) : Sp := fun vs H Q _ => ∃ (x dx b p : Addr) (bk : Bk) (ts : List V) (tabs : List (List Row)), vs = [.ref x, .ref b, .ref p] ∧ H x = some (.ins (He.ga K "LaxBook") dx []) ∧ BookV K H (.ref b) bk ∧ b ≠ x ∧ H p = some (.lst ts) ∧ Al (TabV K H) ts tabs ∧ TabsOk bk tabs ∧
  ∀ H' tabs', Gr x H H' → LaxV K H' (.ref x) ⟨bk, tabs'⟩ → TabsTold tabs tabs' → Q .non H'
theorem k_LaxBook_init (T : Tx K mg) : ∃ (fd : FuncData), FunD K "__init__" "LaxBook.__init__" (defArgs s_LaxBook_init) (defBody s_LaxBook_init) (defScope s_LaxBook_init) [] [] (He.ma K (He.ga K "LaxBook") "__init__") fd ∧
    FnOk P w K mg base CX0 6 (He.ma K (He.ga K "LaxBook") "__init__") fd ["self", "book", "ways"] (spLaxI K) := by
  obtain ⟨fd, FD⟩ := T.f_LaxBook_init
  refine ⟨fd, FD, FD.ok (k := 5) sc_LaxBook_init (fun vs H Q E h => ?_) fun cdv A outer s H vs Q E hr h => ?_⟩
  · obtain ⟨x, dx, b, p, bk, ts, tabs, rfl, _⟩ := h
    rfl
  · obtain ⟨x, dx, b, p, bk, ts, tabs, rfl, hx, hb, hbx, hp, hts, hok, fin⟩ := h
    have nd := sc_LaxBook_init.nd
    suffices ∃ t, PSs (cxOf CX0 P w K mg base ["self", "book", "ways"] "LaxBook.__init__" (defScope s_LaxBook_init) (He.ma K (He.ga K "LaxBook") "__init__") cdv A outer s H E).nox (defBody s_LaxBook_init) t ∧ t { nx := fun _ H' => Q .non H', rt := Q } (start ["self", "book", "ways"] [.ref x, .ref b, .ref p]) H by
      obtain ⟨t, h1, h2⟩ := this
      exact ⟨t, h1.nox, h2⟩
    refine ⟨_, (pss_cons (ps_fld (pv 0) (pv 1) rfl)
      (pss_one (ps_fld (pv 0) (pe_cal (c_check_ways T) hr (by decide) pass0 (pa_cons (pv 1) (pa_cons (pv 2) pa_nil))) rfl))), ?_⟩
    refine ⟨_, rfl, _, rfl, x, _, dx, _, rfl, hx, T.c_LaxBook, T.n_LaxBook_book, (by show 0 < 1000; decide), ?_⟩
    have g6 : Gr x H (upd H x (.ins (He.ga K "LaxBook") dx (putF "book" (.ref b) []))) := fun c o n e => by rw [upd_ne n]; exact e
    have hx6 : (upd H x (.ins (He.ga K "LaxBook") dx (putF "book" (.ref b) []))) x = some (.ins (He.ga K "LaxBook") dx [("book", .ref b)]) := upd_same
    generalize upd H x (.ins (He.ga K "LaxBook") dx (putF "book" (.ref b) [])) = H6 at g6 hx6 ⊢
    have hb6 := hb.gr hx hbx g6
    have hp6 := g6 _ _ (ne_of hp hx (by intro z; cases z)) hp
    have hts6 := hts.imp fun v t (h : TabV K H v t) => h.ins hx g6
    refine ⟨_, rfl, _, rfl, _, p, bk, ts, tabs, rfl, hb6, hp6, hts6, hok, fun H7 q ts' tabs' s7 hq hA hT => ⟨_, rfl, x, _, dx, _, rfl, s7 _ _ hx6, T.c_LaxBook, T.n_LaxBook_ways, (by show 1 < 1000; decide), ?_⟩⟩
    have hx7 := s7 _ _ hx6
    have g8 : Gr x H7 (upd H7 x (.ins (He.ga K "LaxBook") dx (putF "ways" (.ref q) [("book", .ref b)]))) := fun c o n e => by rw [upd_ne n]; exact e
    have g0 := g6.trans ((Gr.of s7).trans g8)
    exact fin _ tabs' g0 ⟨x, dx, .ref b, q, ts', rfl, upd_same, hb.gr hx hbx g0, sqt_gr hx7 g8 hq, hA.imp fun v t (h : TabV K H7 v t) => h.ins hx7 g8⟩ hT
theorem m_LaxBook (T : Tx K mg) : Mkn P w K mg base CX0 6 "LaxBook" (He.ga K "LaxBook") (spLaxI K) [] := by
  obtain ⟨fd, FD, F⟩ := k_LaxBook_init (P := P) (w := w) (base := base) T
  exact ⟨_, fd, _, [], T.m_LaxBook, F, T.g_LaxBook, FD.bindsN fun _ _ _ _ _ _ us hl => match us, hl with | [_, _, _], _ => rfl, .nil⟩
/-! ### its own store -/
theorem sc_need_own_store : FnScope ["lax", "store"] ["lax", "store"] (defScope s_need_own_store) := ⟨rfl, rfl, rfl, by decide +kernel, rfl, by decide +kernel, by decide +kernel⟩
def spOwnS (K : PySem.W.Frag) : Sp := fun vs H Q E => ∃ (x y : V) (l : Lx) (s : St), vs = [x, y] ∧ LaxV K H x l ∧ StoreV K H y s ∧ ((s.book = l.book ∧ Q y H) ∨
  (s.book.cols ≠ l.book.cols ∧ ∀ H' d, Same H H' → H' d = some (.xd [("at", y)]) → E (.ref (He.ga K "Refused")) (some d) H'))
theorem c_need_own_store (T : Tx K mg) (U : Ux K) (X3 : Ex3 P w K mg base) : Cal P w K mg base (L2.CX P w) 4 "need_own_store" (spOwnS K) := by
  refine calX T.f_need_own_store T.g_need_own_store sc_need_own_store (fun _ _ _ _ _ _ us hl => match us, hl with | [_, _], _ => rfl) (fun vs H Q E h => ?_) (fun cdv A outer s H vs Q E hr h => ?_)
  · obtain ⟨x, y, l, s, rfl, _⟩ := h
    rfl
  · obtain ⟨x, y, l, sd, rfl, hl, hs, h⟩ := h
    obtain ⟨fd, F, hbi⟩ := k_Book_eq (P := P) (w := w) (base := base) T U
    refine ⟨_, (pss_cons (ps_if (pt_cmpR (op_neIns (n := 1) (C := He.ga K "Book") F U.neB T.e_Book.at_ T.e_Book.fn U.obB hbi pass0 (hr.mono (by decide))) (pe_fld (pv 1) rfl) (pe_fld (pv 0) rfl) (nomark _))
      (pss_one (ps_raiseE (takes_of rfl rfl rfl rfl) X3.rf hr (by decide) (pa_cons (pv 1) pa_nil)))
      pss_nil)
    (pss_one (ps_ret (pv 1)))), ?_⟩
    obtain ⟨a, dx, bv, q, xs, rfl, l1, l2, l3, l4⟩ := hl.ex
    obtain ⟨a', dx', bv', p', q', xs', rfl, s1, s2, s3, s4, s5⟩ := hs.ex
    obtain ⟨c, dc, _, _, _, ec, c1, _⟩ := id l2.ex
    obtain ⟨c', dc', _, _, _, ec', c1', _⟩ := id s2.ex
    subst ec ec'
    refine ⟨_, rfl, a', _, dx', _, _, rfl, s1, T.c_Store, T.n_Store_book, rfl, _, rfl, a, _, dx, _, _, rfl, l1, T.c_LaxBook, T.n_LaxBook_book, rfl, c', c, dc', dc, _, _, rfl, rfl, c1', c1, _, _, sd.book, l.book, rfl, s2, l2, ?_⟩
    rcases h with ⟨e, fin⟩ | ⟨ne, fin⟩
    · exact .inl ⟨e, true, rfl, false, rfl, iteF ⟨_, rfl, fin⟩⟩
    · exact .inr ⟨ne, false, rfl, true, rfl, iteT ⟨_, rfl, mkE_of fun H4 d s4 hd => fin H4 d s4 hd⟩⟩
/-! ### a state let by all laid checks' ways -/
theorem sc_lets_all : FnScope ["lax", "store", "state", "check", "cells", "cell"] ["lax", "store", "state"] (defScope s_lets_all) := ⟨rfl, rfl, rfl, by decide +kernel, rfl, by decide +kernel, by decide +kernel⟩
def spLets (K : PySem.W.Frag) : Sp := fun vs H Q _ => ∃ (x y : V) (a : Addr) (l : Lx) (s : St) (st : List Int), vs = [x, y, .ref a] ∧ LaxV K H x l ∧ StoreV K H y s ∧ SqT K H a (st.map V.int) ∧ StoreOk s ∧ st.length = s.cells.length ∧ l.ways.length = s.book.chks.length ∧ ∀ H', Same H H' → Q (.bl (passB l.ways s.laid st)) H'
theorem c_lets_all (T : Tx K mg) : Cal P w K mg base CX0 1 "lets_all" (spLets K) := by
  refine cal0 T.f_lets_all T.g_lets_all sc_lets_all (fun _ _ _ _ _ _ us hl => match us, hl with | [_, _, _], _ => rfl) (fun vs H Q E h => ?_) (fun cdv A outer s H vs Q E hr h => ?_)
  · obtain ⟨x, y, a, l, sd, st, rfl, _⟩ := h
    rfl
  · obtain ⟨x, y, a, l, sd, st, rfl, hl, hs, ha, hok, hlen, hw, fin⟩ := h
    have nd := sc_lets_all.nd
    refine ⟨_, (pss_cons (ps_for PassesOwn.never rfl (pi_tup (pe_fld (pv 1) rfl)) (pg_tup rfl (pgs_cons (pg_name (i := 3) nd rfl (.inl rfl)) (pgs_cons (pg_name (i := 4) nd rfl (.inl rfl)) pgs_nil)))
      (pss_one (ps_if (pt_cmpR (op_notInT K (un65 hr)) (pe_callTy call_tuple_of (by rfl) T.z_tuple PyProof.Rows.boot_tuple (pa_cons (pe_lc (own := [("cell", 5)]) rfl nd (pi_tup (pv 4)) (blkOk_by (by kernel_rfl)) (fun _ _ _ _ _ => (pg_name (i := 5) nd rfl (.inl rfl))) (fun _ _ _ _ _ => pts_nil) (fun _ _ _ _ _ => (pe_ix (kix_tup K) (pv 2) (pv 5) (fun _ _ => rfl)))) pa_nil)) (pe_ix ix_tup (pe_fld (pv 0) rfl) (pv 3) (fun _ _ => rfl)) (by rfl))
        (pss_one (ps_ret pe_bl))
        pss_nil)))
    (pss_one (ps_ret pe_bl))), ?_⟩
    obtain ⟨xa, xdx, bv, q, xs, rfl, l1, l2, l3, l4⟩ := hl.ex
    obtain ⟨sa, sdx, bv', sp, sq, ls, rfl, s1, s2, s3, s4, s5⟩ := hs.ex
    refine ⟨_, rfl, sa, _, sdx, _, _, rfl, s1, T.c_Store, T.n_Store_laid, rfl, sq, rfl, ⟨_, s4⟩, for_it (walk_tup (a := sq) (xs := ls)) (fun i σ H' => (∃ v3 v4, σ = [some (.ref xa), some (.ref sa), some (.ref a), v3, v4, none]) ∧ Same H H' ∧ passB l.ways (sd.laid.take i) st = true) ⟨⟨none, none, rfl⟩, fun _ _ h => h, ?_⟩ (fun i σ H' _ p => same_t p.2.1 s4) ?_ ?_⟩
    · rw [List.take_zero]
      rfl
    · rintro i x' σ H1 H2 hi ⟨⟨v3, v4, rfl⟩, e1, hp⟩ ⟨rfl, hx⟩
      obtain ⟨d, hd1, hd2⟩ := s5.at hx
      have hlo := hok.2.2.2.2 d (List.mem_of_getElem? hd1)
      obtain ⟨la, lp, rfl, k1, k2⟩ := (hd2.kp (Kp.of e1)).ex
      obtain ⟨c, hc, _, hl1000, _⟩ := id hlo
      refine ⟨la, _, rfl, k1, rfl, _, _, rfl, _, _, rfl, rfl, ?_⟩
      refine ⟨_, rfl, lp, rfl, ⟨_, k2⟩, fun D nD => lc_row nD k2 hl1000 (fun x hx => by rw [hlen]; exact laid_in hlo x hx) ?_ ?_⟩
      · intro j n H3 post skip hn hns e3 hpost
        exact ⟨rfl, _, rfl, _, rfl, a, _, (n : Int), _, rfl, rfl, same_t (e1.trans e3) ha, atI_nat (st_get hns), hpost⟩
      · intro H3 e3 hD
        refine ⟨D, _, rfl, .inl ⟨SqL.of hD, fun t nt => ?_⟩⟩
        have e4 := e3.trans (same_new (o := .tup ((rowAt st d.2).map V.int)) nt)
        have e14 := e1.trans e4
        have hci : d.1 < l.ways.length := by
          have := (List.getElem?_eq_some_iff.mp hc).1
          omega
        obtain ⟨tv, htv, htt⟩ := l4.get (List.getElem?_eq_getElem hci)
        obtain ⟨ta, txs, rfl, t1, t2⟩ := (htt.kp (Kp.of e14)).ex
        refine ⟨_, rfl, xa, _, xdx, _, _, rfl, e14 _ _ l1, T.c_LaxBook, T.n_LaxBook_ways, rfl, _, rfl, q, _, _, .ref ta, rfl, rfl, same_t e14 l3, atI_nat htv, _, _, tup_dI (SqT.of upd_same), .tup t1 t2.dp, sh_dI _, sh_dR _, ?_⟩
        rw [any_dI]
        have ew : l.ways.getD d.1 [] = l.ways[d.1] := by
          rw [List.getD_eq_getElem?_getD, List.getElem?_eq_getElem hci]
          rfl
        by_cases hm : rowAt st d.2 ∈ l.ways[d.1]
        · rw [decide_eq_true hm]
          refine ⟨false, rfl, iteF ⟨⟨_, _, rfl⟩, e14, ?_⟩⟩
          unfold passB at hp ⊢
          rw [List.take_add_one, hd1, List.all_append, hp]
          show (decide (rowAt st d.2 ∈ l.ways.getD d.1 []) && true) = true
          rw [ew, decide_eq_true hm]
          rfl
        · rw [decide_eq_false hm]
          refine ⟨true, rfl, iteT ?_⟩
          have ef : passB l.ways sd.laid st = false := by
            unfold passB
            rw [List.all_eq_false]
            refine ⟨d, List.mem_of_getElem? hd1, ?_⟩
            show ¬ decide (rowAt st d.2 ∈ l.ways.getD d.1 []) = true
            rw [ew, decide_eq_false hm]
            exact Bool.false_ne_true
          rw [ef] at fin
          exact fin _ e14
    · rintro σ H1 ⟨⟨v3, v4, rfl⟩, e1, hp⟩
      rw [s5.1, List.take_length] at hp
      rw [hp] at fin
      exact fin _ e1
end
end K29
namespace K29
open PySem PySem.Spec PyProof.Rows L2
/-! ### found, waiting -/
theorem zz_inj {L M : List Nat} (h : zz L = zz M) : L = M := by
  unfold zz at h
  exact (List.map_inj_right (fun a b e => by omega)).mp h
theorem kIz_inj {L M : List Nat} (h : kI (zz L) = kI (zz M)) : L = M := zz_inj (kI_inj h)
def Fk (H : Hp) (kvs : List (List L2.Key × V)) (F : Fnd) : Prop := kvs.length = F.length ∧ ∀ (i : Nat) kv q, kvs[i]? = some kv → F[i]? = some q → kv.1 = kI (zz q.1) ∧ Rw H kv.2 (zz q.2)
theorem Fk.kp {H H' : Hp} {kvs : List (List L2.Key × V)} {F : Fnd} (k : Kp H H') (h : Fk H kvs F) : Fk H' kvs F := ⟨h.1, fun i kv q a b => ⟨(h.2 i kv q a b).1, (h.2 i kv q a b).2.kp k⟩⟩
theorem Fk.snoc {H : Hp} {kvs : List (List L2.Key × V)} {F : Fnd} {v : V} {L P : List Nat} (h : Fk H kvs F) (hv : Rw H v (zz P)) : Fk H (kvs ++ [(kI (zz L), v)]) (F ++ [(L, P)]) := by
  refine ⟨by rw [List.length_append, List.length_append, h.1]; rfl, fun i kv q a b => ?_⟩
  by_cases hi : i < kvs.length
  · rw [List.getElem?_append_left hi] at a
    rw [List.getElem?_append_left (by rw [← h.1]; exact hi)] at b
    exact h.2 i kv q a b
  · rw [List.getElem?_append_right (by omega)] at a
    rw [List.getElem?_append_right (by have := h.1; omega), ← h.1] at b
    match hk : i - kvs.length with
    | 0 =>
      rw [hk] at a b
      cases a
      cases b
      exact ⟨rfl, hv⟩
    | k + 1 =>
      rw [hk] at a
      simp at a
theorem Fk.mem {H : Hp} {kvs : List (List L2.Key × V)} {F : Fnd} (h : Fk H kvs F) {L : List Nat} : (∃ kv ∈ kvs, kv.1 = kI (zz L)) ↔ L ∈ F.map (·.1) := by
  constructor
  · rintro ⟨kv, hk, e⟩
    obtain ⟨i, hi, ei⟩ := List.mem_iff_getElem.mp hk
    have hj : i < F.length := by rw [← h.1]; exact hi
    obtain ⟨e1, _⟩ := h.2 i kv F[i] (by rw [List.getElem?_eq_getElem hi, ei]) (List.getElem?_eq_getElem hj)
    rw [e] at e1
    exact List.mem_map.mpr ⟨F[i], List.getElem_mem hj, (kIz_inj e1).symm⟩
  · intro hm
    obtain ⟨q, hq, e⟩ := List.mem_map.mp hm
    obtain ⟨i, hi, ei⟩ := List.mem_iff_getElem.mp hq
    have hj : i < kvs.length := by rw [h.1]; exact hi
    obtain ⟨e1, _⟩ := h.2 i kvs[i] q (List.getElem?_eq_getElem hj) (by rw [List.getElem?_eq_getElem hi, ei])
    exact ⟨kvs[i], List.getElem_mem hj, by rw [e1, e]⟩
theorem Fk.has {H : Hp} {kvs : List (List L2.Key × V)} {F : Fnd} (h : Fk H kvs F) (L : List Nat) : (valV kvs (kI (zz L))).isSome = decide (L ∈ F.map (·.1)) := by
  unfold valV
  rw [Option.isSome_map, Bool.eq_iff_iff, List.find?_isSome, decide_eq_true_eq, ← h.mem]
  constructor
  · rintro ⟨x, hx, e⟩
    exact ⟨x, hx, of_decide_eq_true e⟩
  · rintro ⟨x, hx, e⟩
    exact ⟨x, hx, decide_eq_true e⟩
theorem Fk.val {H : Hp} {kvs : List (List L2.Key × V)} {F : Fnd} (h : Fk H kvs F) (hn : (F.map (·.1)).Nodup) {n : Nat} {D P : List Nat} (e : F[n]? = some (D, P)) : ∃ v, valV kvs (kI (zz D)) = some v ∧ Rw H v (zz P) := by
  unfold valV
  have hs : ((kvs.find? fun kv => decide (kv.1 = kI (zz D)))).isSome = true := by
    rw [List.find?_isSome]
    obtain ⟨x, hx, e2⟩ := h.mem.mpr (List.mem_map.mpr ⟨_, List.mem_of_getElem? e, rfl⟩)
    exact ⟨x, hx, decide_eq_true e2⟩
  obtain ⟨kv, hkv⟩ := Option.isSome_iff_exists.mp hs
  rw [hkv]
  refine ⟨kv.2, rfl, ?_⟩
  have e1 : kv.1 = kI (zz D) := of_decide_eq_true (by have := List.find?_some hkv; exact this)
  obtain ⟨i, hi, ei⟩ := List.mem_iff_getElem.mp (List.mem_of_find?_eq_some hkv)
  have hj : i < F.length := by rw [← h.1]; exact hi
  obtain ⟨e2, hw⟩ := h.2 i kv F[i] (by rw [List.getElem?_eq_getElem hi, ei]) (List.getElem?_eq_getElem hj)
  rw [e1] at e2
  have e3 : F[i].1 = D := (kIz_inj e2).symm
  obtain ⟨hnl, en⟩ := List.getElem?_eq_some_iff.mp e
  have hin : i = n := by
    have q1 : (F.map (·.1))[i]'(by rw [List.length_map]; exact hj) = (F.map (·.1))[n]'(by rw [List.length_map]; exact hnl) := by
      rw [List.getElem_map, List.getElem_map, e3, en]
    exact (List.getElem_inj hn).mp q1
  subst hin
  rw [en] at hw
  exact hw
theorem Fk.put {H : Hp} {kvs : List (List L2.Key × V)} {F : Fnd} (h : Fk H kvs F) {L : List Nat} (hL : L ∉ F.map (·.1)) (v : V) : putK kvs (kI (zz L)) v = kvs ++ [(kI (zz L), v)] := by
  unfold putK
  rw [if_neg]
  intro z
  obtain ⟨x, hx, e⟩ := List.any_eq_true.mp z
  exact hL (h.mem.mp ⟨x, hx, of_decide_eq_true e⟩)
theorem kp_dT {H : Hp} {D : Addr} {kvs : List (List L2.Key × V)} {o : HO} (e : H D = some (.dT kvs)) : Kp H (upd H D o) := by
  refine ⟨fun b xs q => ?_, fun b o u q => ?_, fun b C dx fs q => ?_⟩
  · rw [upd_ne (ne_of q e (by intro z; cases z))]
    exact q
  · rw [upd_ne (ne_of q e (by intro z; cases z))]
    exact q
  · rw [upd_ne (ne_of q e (by intro z; cases z))]
    exact q
theorem inV_nat {c : Nat} {D : List Nat} : inV (V.int (c : Nat)) ((zz D).map V.int) = decide (c ∈ D) := by
  unfold inV
  rw [Bool.eq_iff_iff, List.any_eq_true, decide_eq_true_eq]
  constructor
  · rintro ⟨x, hx, e⟩
    obtain ⟨z, hz, rfl⟩ := List.mem_map.mp hx
    obtain ⟨n, hn, rfl⟩ := List.mem_map.mp hz
    have e2 : ((n : Int) == (c : Int)) = true := e
    have e3 := eq_of_beq e2
    have : n = c := by omega
    exact this ▸ hn
  · intro h
    exact ⟨V.int (c : Nat), List.mem_map.mpr ⟨(c : Int), List.mem_map.mpr ⟨c, h, rfl⟩, rfl⟩, (beq_self_eq_true (c : Int) : ((c : Int) == (c : Int)) = true)⟩
/-- the search's two stores: the dict at D, the list at W -/
def SI (H0 : Hp) (D W : Addr) (F : Fnd) (H : Hp) : Prop := Same H0 H ∧ (∀ q ∈ F, q.2.length = q.1.length) ∧ ∃ kvs ws, H D = some (.dT kvs) ∧ H W = some (.lst ws) ∧ Fk H kvs F ∧ Rws H ws (F.map fun q => zz q.1)
theorem SI.same {H0 H H' : Hp} {D W : Addr} {F : Fnd} (h : SI H0 D W F H) (e : Same H H') : SI H0 D W F H' := by
  obtain ⟨e0, hp, kvs, ws, h1, h2, h3, h4⟩ := h
  exact ⟨e0.trans e, hp, kvs, ws, e _ _ h1, e _ _ h2, h3.kp (Kp.of e), h4.same e⟩
theorem SI.add {H0 H : Hp} {D W lt : Addr} {F : Fnd} {kvs : List (List L2.Key × V)} {ws : List V} {v : V} {L P : List Nat} (nD : H0 D = none) (nW : H0 W = none) (e0 : Same H0 H) (hp : ∀ q ∈ F, q.2.length = q.1.length) (hPL : P.length = L.length) (h1 : H D = some (.dT kvs)) (h2 : H W = some (.lst ws)) (h3 : Fk H kvs F) (h4 : Rws H ws (F.map fun q => zz q.1))
    (hL : L ∉ F.map (·.1)) (hv : Rw H v (zz P)) (ht : Rw H (.ref lt) (zz L)) : SI H0 D W (F ++ [(L, P)]) (upd (upd H D (.dT (putK kvs (kI (zz L)) v))) W (.lst (ws ++ [.ref lt]))) := by
  have hne : D ≠ W := ne_of h1 h2 (by intro z; cases z)
  have k1 := kp_dT (o := .dT (putK kvs (kI (zz L)) v)) h1
  have h2' : (upd H D (.dT (putK kvs (kI (zz L)) v))) W = some (.lst ws) := by rw [upd_ne (Ne.symm hne)]; exact h2
  have k2 := kp_lst (ws := ws ++ [.ref lt]) h2'
  have k := k1.trans k2
  refine ⟨same_lst nW (same_dT nD e0), fun q hq => ?_, putK kvs (kI (zz L)) v, _, ?_, upd_same, ?_, ?_⟩
  · rcases List.mem_append.mp hq with hq | hq
    · exact hp q hq
    · rw [List.mem_singleton.mp hq]
      exact hPL
  · rw [upd_ne hne, upd_same]
  · have q := (h3.kp k).snoc (L := L) (hv.kp k)
    rw [← h3.put hL v] at q
    exact q
  · rw [List.map_append]
    exact (h4.kp k).snoc (ht.kp k)
section
variable {ok : List Nat → Bool} {most : Nat} {cells D P : List Nat} {F : Fnd} {j c : Nat}
theorem drop_at (h : cells[j]? = some c) : cells.drop j = c :: cells.drop (j + 1) := by
  obtain ⟨hl, e⟩ := List.getElem?_eq_some_iff.mp h
  rw [← e]
  exact List.drop_eq_getElem_cons hl
theorem innerF_keep (h : cells[j]? = some c) (hq : ¬ (c ∉ D ∧ insN c D ∉ F.map (·.1) ∧ ok (insN c D) = true)) : innerF ok most D P (cells.drop j) F = innerF ok most D P (cells.drop (j + 1)) F := by
  rw [drop_at h]
  conv => lhs; unfold innerF
  rw [if_neg hq]
theorem innerF_great (h : cells[j]? = some c) (hq : c ∉ D ∧ insN c D ∉ F.map (·.1) ∧ ok (insN c D) = true) (hm : F.length = most) : innerF ok most D P (cells.drop j) F = none := by
  rw [drop_at h]
  unfold innerF
  rw [if_pos hq, if_pos hm]
theorem innerF_add (h : cells[j]? = some c) (hq : c ∉ D ∧ insN c D ∉ F.map (·.1) ∧ ok (insN c D) = true) (hm : F.length ≠ most) : innerF ok most D P (cells.drop j) F = innerF ok most D P (cells.drop (j + 1)) (F ++ [(insN c D, P ++ [c])]) := by
  rw [drop_at h]
  conv => lhs; unfold innerF
  rw [if_pos hq, if_neg hm]
end
theorem catA_of {K : PySem.W.Frag} {H : Hp} {a b : Addr} {xs ys : List V} {Q : VK} (ha : SqT K H a xs) (hb : H b = some (.tup ys)) (hl : xs.length + ys.length ≤ sizeLine) (hne : ys ≠ []) (h : ∀ p H', Same H H' → H' p = some (.tup (xs ++ ys)) → Q (.ref p) H') : rCatA K (.ref a) (.ref b) H Q :=
  ⟨a, b, xs, ys, rfl, rfl, ha, SqT.of hb, hl, fun e => h b H (Same.refl _) (by rw [e]; exact hb), fun _ e => absurd e hne, fun _ _ p np => h p _ (same_new np) upd_same⟩
end K29
namespace K29
open PySem PySem.Spec PyProof.Rows L2
def WayFin (K : PySem.W.Frag) (most : Nat) (H : Hp) (Q : VK) (E : XK) : Res → Prop
  | .way p => ∀ H' v, Same H H' → Rw H' v (zz p) → Q v H'
  | .non => ∀ H', Same H H' → Q .non H'
  | .great => ∀ H' d, Same H H' → H' d = some (.xd [("most", .int (most : Nat))]) → E (.ref (He.ga K "TooGreat")) (some d) H'
def WayP (K : PySem.W.Frag) (l : Lx) (s : St) (most : Nat) (r1 r2 : V) (H : Hp) (Q : VK) (E : XK) : Prop := ∃ (t1 t2 : Addr) (old new : List Int), r1 = .ref t1 ∧ r2 = .ref t2 ∧ SqT K H t1 (old.map V.int) ∧ SqT K H t2 (new.map V.int) ∧ old.length = s.cells.length ∧ new.length = s.cells.length ∧
  ∀ r, Ends (okB l.ways s.laid old new) most (diffB old new) 0 [([], [])] r → WayFin K most H Q E r
section
variable {P : Program} {w : World} {K : PySem.W.Frag} {mg : Str → Option Value} {base : Heap}
theorem sc_lax_way : FnScope ["lax", "store", "old", "new", "most", "begin", "end", "cells", "found", "waiting", "at", "done", "cell", "later"] ["lax", "store", "old", "new", "most"] (defScope s_lax_way) := ⟨rfl, rfl, rfl, by decide +kernel, rfl, by decide +kernel, by decide +kernel⟩
def spLax (K : PySem.W.Frag) : Sp := fun vs H Q E => ∃ (x y v u : V) (most : Nat) (l : Lx) (s : St), vs = [x, y, v, u, .int (most : Nat)] ∧ LaxV K H x l ∧ StoreV K H y s ∧ StoreOk s ∧ s.cells.length ≤ 10 ∧
  ((s.book.cols ≠ l.book.cols ∧ ∀ H' d, Same H H' → H' d = some (.xd [("at", y)]) → E (.ref (He.ga K "Refused")) (some d) H') ∨
  (s.book = l.book ∧ l.ways.length = s.book.chks.length ∧ NeedP K s v H (fun r1 H1 => NeedP K s u H1 (fun r2 H2 => WayP K l s most r1 r2 H2 Q E) E) E))
theorem k_lax_way (T : Tx K mg) (U : Ux K) (X3 : Ex3 P w K mg base) : ∃ fd, FunD K "lax_way" "lax_way" (defArgs s_lax_way) (defBody s_lax_way) (defScope s_lax_way) [] [] (He.ga K "lax_way") fd ∧
    FnOk P w K mg base (L2.CX P w) 7 (He.ga K "lax_way") fd ["lax", "store", "old", "new", "most"] (spLax K) := by
  obtain ⟨fd, FD⟩ := T.f_lax_way
  refine ⟨fd, FD, FD.ok (k := 6) sc_lax_way (fun vs H Q E h => ?_) fun cdv A outer s H vs Q E hr h => ?_⟩
  · obtain ⟨x, y, v, u, most, l, s, rfl, _⟩ := h
    rfl
  · obtain ⟨x, y, v, u, most, l, sd, rfl, hl, hs, hok, h10, h⟩ := h
    have nd := sc_lax_way.nd
    have hu := hu_of hr
    refine ⟨_, (pss_cons (ps_expr (pe_cal (c_need_own_store T U X3) hr (by decide) (passes_call (W := fun cls d _ H => E cls d H) (E := E) (takes_of rfl rfl rfl rfl) (fun _ _ _ _ h => h)) (pa_cons (pv 0) (pa_cons (pv 1) pa_nil))))
    (pss_cons (ps_asg (pe_cal (c_check_batch T X3) hr (by decide) (passes_call (W := fun cls d _ H => E cls d H) (E := E) (takes_of rfl rfl rfl rfl) (fun _ _ _ _ h => h)) (pa_cons (pv 1) (pa_cons (pv 2) (pa_cons (pv 3) pa_nil)))) (pg_tup rfl (pgs_cons (pg_name (i := 5) nd rfl (.inl rfl)) (pgs_cons (pg_name (i := 6) nd rfl (.inl rfl)) pgs_nil))))
    (pss_cons (ps_set (i := 7) nd rfl (.inl rfl) (pe_cal (c_unlike_cells T) hr (by decide) pass0 (pa_cons (pv 5) (pa_cons (pv 6) pa_nil))))
    (pss_cons (ps_set (i := 8) nd rfl (.inl rfl) (pe_dict1 hu (pe_tup pa_nil) (pe_tup pa_nil)))
    (pss_cons (ps_set (i := 9) nd rfl (.inl rfl) (pe_lst (pa_cons (pe_tup pa_nil) pa_nil)))
    (pss_cons (ps_set (i := 10) nd rfl (.inl rfl) pe_int)
    (pss_cons (ps_while (passes_of rfl) (pt_cmpR op_lt (pv 10) (pe_callB call_len_seq (by rfl) T.z_len PySem.boot_len (pa_cons (pv 9) pa_nil)) (nomark _))
      (pss_cons (ps_set (i := 11) nd rfl (.inl rfl) (pe_ix ix_list (pv 9) (pv 10) (fun _ _ => rfl)))
      (pss_cons (ps_aug (i := 10) nd rfl (.inl rfl) pe_int ip_add)
      (pss_cons (ps_if (pt_cmpR op_eq (pe_callB call_len_seq (by rfl) T.z_len PySem.boot_len (pa_cons (pv 11) pa_nil)) (pe_callB call_len_seq (by rfl) T.z_len PySem.boot_len (pa_cons (pv 7) pa_nil)) (nomark _))
        (pss_one (ps_ret (pe_dget hu (pv 8) (pv 11) (fun _ _ => rfl))))
        pss_nil)
      (pss_one (ps_for (passes_of rfl) rfl (pi_tup (pv 7)) (pg_name (i := 12) nd rfl (.inl rfl))
        (pss_cons (ps_set (i := 13) nd rfl (.inl rfl) (pe_callTy call_tuple_of (by rfl) T.z_tuple PyProof.Rows.boot_tuple (pa_cons (pe_callB cr_sortedTI (by rfl) T.z_sorted PyProof.Rows.boot_sorted (pa_cons (pe_op op_catA (pv 11) (pe_tup (pa_cons (pv 12) pa_nil))) pa_nil)) pa_nil)))
        (pss_one (ps_if (PW.pt (pw_and (pt_cmpR op_notIn_seq (pv 12) (pv 11) (by rfl)) (pw_and (pt_cmp (pc_dnotin hu (pv 13) (pv 8))) (pw_and1 (pt_val (pe_cal (c_lets_all T) hr (by decide) pass0 (pa_cons (pv 0) (pa_cons (pv 1) (pa_cons (pe_cal (c_with_cells T) hr (by decide) pass0 (pa_cons (pv 5) (pa_cons (pv 6) (pa_cons (pv 13) pa_nil)))) pa_nil)))))))))
          (pss_cons (ps_if (pt_cmpR op_eq (pe_callB call_len_dT (by rfl) T.z_len PySem.boot_len (pa_cons (pv 8) pa_nil)) (pv 4) (nomark _))
            (pss_one (ps_raiseE (takes_of rfl rfl rfl rfl) X3.tg hr (by decide) (pa_cons (pv 4) pa_nil)))
            pss_nil)
          (pss_cons (ps_dput hu (pv 8) (pv 13) (pe_op op_catA (pe_dget hu (pv 8) (pv 11) (fun _ _ => rfl)) (pe_tup (pa_cons (pv 12) pa_nil))) rfl)
          (pss_one (ps_expr (pe_bm PySem.F.plainAttrs_list PySem.F.slot_list_append PySem.F.type_list_append mt_append (pv 9) (pa_cons (pv 13) pa_nil))))))
          pss_nil)))))))))
    (pss_one (ps_ret pe_non))))))))), ?_⟩
    rcases h with ⟨hne, fin⟩ | ⟨hbk, hwl, h⟩
    · exact ⟨_, rfl, _, rfl, x, y, l, sd, rfl, hl, hs, .inr ⟨hne, fun H1 d s1 hd => fin H1 d s1 hd⟩⟩
    refine ⟨_, rfl, _, rfl, x, y, l, sd, rfl, hl, hs, .inl ⟨hbk, ?_⟩⟩
    refine ⟨_, rfl, _, rfl, _, rfl, y, v, u, sd, rfl, hs, hok, h.imp fun t1 H1 e1 h1 => h1.imp fun t2 H2 e2 h2 t nt => ?_⟩
    obtain ⟨t1', t2', old, new, q1, q2, ho, hn, lo, ln, fin⟩ := h2
    cases q1
    cases q2
    have e3 := same_new (o := .tup [.ref t1, .ref t2]) nt
    refine ⟨t, _, rfl, SqT.of upd_same, rfl, _, _, rfl, _, _, rfl, rfl, ?_⟩
    generalize upd H2 t (.tup [.ref t1, .ref t2]) = H3 at e3 ⊢
    refine ⟨_, rfl, _, rfl, t1, t2, old, new, rfl, same_t e3 ho, same_t e3 hn, by omega, by omega, fun H4 v4 e4 hc => ?_⟩
    obtain ⟨cl, rfl, hcl⟩ := hc
    intro D nD
    have hC := diff_asc old new
    have hCl : (diffB old new).length ≤ 10 := by
      have := diff_len old new
      omega
    have hpow : 2 ^ (diffB old new).length ≤ 2 ^ 10 := Nat.pow_le_pow_right (by decide) hCl
    have hCs : ∀ x ∈ diffB old new, x < old.length := fun x hx => (diff_mem.mp hx).1
    refine ⟨by show 0 ≤ sizeLine; decide, fun b nb => ⟨by show 0 ≤ sizeLine; decide, fun b2 nb2 => ⟨b, [], rfl, ?_, ?_, ?_⟩⟩⟩
    · exact same_new nb2 _ _ upd_same
    · exact same_new nb2 _ _ (same_new nb _ _ upd_same)
    have e5 : Same H4 (upd H4 D (.dT [])) := same_new nD
    have e7 := e5.trans ((same_new (o := .tup []) nb).trans (same_new (o := .tup []) nb2))
    have h7D : (upd (upd (upd H4 D (.dT [])) b (.tup [])) b2 (.tup [])) D = some (.dT []) := same_new nb2 _ _ (same_new nb _ _ upd_same)
    have h7b : (upd (upd (upd H4 D (.dT [])) b (.tup [])) b2 (.tup [])) b2 = some (.tup []) := upd_same
    generalize upd (upd (upd H4 D (.dT [])) b (.tup [])) b2 (.tup []) = H7 at e7 h7D h7b ⊢
    have e8 : Same H4 (upd H7 D (.dT [([], .ref b2)])) := same_dT nD e7
    have h8D : (upd H7 D (.dT [([], .ref b2)])) D = some (.dT [([], .ref b2)]) := upd_same
    have h8b := (kp_dT (o := .dT [([], .ref b2)]) h7D).tup _ _ h7b
    generalize upd H7 D (.dT [([], .ref b2)]) = H8 at e8 h8D h8b ⊢
    refine ⟨by show 0 ≤ sizeLine; decide, fun wt nwt => ⟨by show 1 ≤ sizeLine; decide, fun Wl nW => ?_⟩⟩
    have e9 := e8.trans (same_new (o := .tup []) nwt)
    have h9D : (upd H8 wt (.tup [])) D = some (.dT [([], .ref b2)]) := same_new nwt _ _ h8D
    have h9b : (upd H8 wt (.tup [])) b2 = some (.tup []) := same_new nwt _ _ h8b
    have h9w : (upd H8 wt (.tup [])) wt = some (.tup []) := upd_same
    generalize upd H8 wt (.tup []) = H9 at e9 h9D h9b h9w nW ⊢
    have nW4 : H4 Wl = none := by
      cases e : H4 Wl with
      | none => rfl
      | some o =>
        have := e9 _ _ e
        rw [nW] at this
        cases this
    have e10 := same_new (o := .lst [.ref wt]) nW
    have S0 : SI H4 D Wl [([], [])] (upd H9 Wl (.lst [.ref wt])) := by
      refine ⟨e9.trans e10, fun q hq => (by rw [List.mem_singleton.mp hq]), [([], .ref b2)], [.ref wt], e10 _ _ h9D, upd_same, ⟨rfl, fun i kv q a b => ?_⟩, Rws.one ⟨wt, rfl, e10 _ _ h9w⟩⟩
      match i with
      | 0 =>
        cases a
        cases b
        exact ⟨rfl, b2, rfl, e10 _ _ h9b⟩
      | i + 1 => simp at a
    generalize upd H9 Wl (.lst [.ref wt]) = H10 at S0 ⊢
    refine ⟨fun m σ H => ∃ (n : Nat) (F : Fnd) (z : Int) (v11 v12 v13 : Option V), m + n = 2 ^ 10 + 1 ∧ z = (n : Int) ∧ σ = [some x, some y, some v, some u, some (.int (most : Nat)), some (.ref t1), some (.ref t2), some (.ref cl), some (.ref D), some (.ref Wl), some (.int z), v11, v12, v13] ∧
      SI H4 D Wl F H ∧ LInv (okB l.ways sd.laid old new) (diffB old new) n (F.map (·.1)) ∧ ∀ r, Ends (okB l.ways sd.laid old new) most (diffB old new) n F r → Ends (okB l.ways sd.laid old new) most (diffB old new) 0 [([], [])] r,
      ⟨2 ^ 10 + 1, 0, [([], [])], 0, none, none, none, rfl, rfl, rfl, S0, LInv.start, fun r h => h⟩, ?_⟩
    rintro m σ H ⟨n, F, z, v11, v12, v13, hm, rfl, rfl, ⟨eH, hPL, kvs, ws, hD, hW, hF, hR⟩, hI, hE⟩
    have hFl : F.length ≤ 2 ^ 10 := by
      have := Rch.many hC hI.nd hI.rch
      rw [List.length_map] at this
      omega
    have hwsl : ws.length = F.length := by
      have := hR.1
      rw [List.length_map] at this
      exact this
    have eB := e3.trans (e4.trans eH)
    refine ⟨_, rfl, _, rfl, Wl, ws, rfl, .inl (SqL.of hW), _, _, rfl, rfl, ?_⟩
    refine ⟨_, rfl, ite2 (fun c => ?_) (fun c => ?_)⟩
    · have hlt : n < F.length := by
        have := of_decide_eq_true c
        omega
      obtain ⟨⟨D0, P0⟩, hFn⟩ : ∃ q, F[n]? = some q := ⟨F[n], List.getElem?_eq_getElem hlt⟩
      have hFm : (F.map fun q => zz q.1)[n]? = some (zz D0) := at_map (f := fun q : List Nat × List Nat => zz q.1) hFn
      have hFd : (F.map (·.1))[n]? = some D0 := at_map (f := fun q : List Nat × List Nat => q.1) hFn
      obtain ⟨wv, hwv, wd, rfl, hwd⟩ := hR.get hFm
      have hDr := hI.rch D0 (List.mem_of_getElem? hFd)
      have hDa := hDr.asc
      have hDl : D0.length ≤ 10 := by
        have h1 : D0.Nodup := hDa.imp fun h => Nat.ne_of_lt h
        have := nodup_len h1 hDr.sub
        omega
      refine ⟨fun σ H => ∃ (F : Fnd) (z : Int) (v11 v12 v13 : Option V), z = ((n + 1 : Nat) : Int) ∧ σ = [some x, some y, some v, some u, some (.int (most : Nat)), some (.ref t1), some (.ref t2), some (.ref cl), some (.ref D), some (.ref Wl), some (.int z), v11, v12, v13] ∧
        SI H4 D Wl F H ∧ LInv (okB l.ways sd.laid old new) (diffB old new) (n + 1) (F.map (·.1)) ∧ ∀ r, Ends (okB l.ways sd.laid old new) most (diffB old new) (n + 1) F r → Ends (okB l.ways sd.laid old new) most (diffB old new) 0 [([], [])] r,
        fun σ' H' ⟨F', z, a, b, c, h1, h2, h3, h4, h5⟩ => ⟨m - 1, by omega, n + 1, F', z, a, b, c, by omega, h1, h2, h3, h4, h5⟩, ?_⟩
      refine ⟨_, rfl, _, rfl, Wl, ws, _, .ref wd, rfl, rfl, SqL.of hW, atI_nat hwv, ?_⟩
      refine ⟨_, rfl, _, _, rfl, rfl, ?_⟩
      refine ⟨_, rfl, wd, _, rfl, .inr (SqT.of hwd), _, rfl, cl, _, rfl, .inr (SqT.of (eH _ _ hcl)), rfl, _, rfl, ite2 (fun c => ?_) (fun c => ?_)⟩
      · have hl0 : D0.length = (diffB old new).length := by
          have q := of_decide_eq_true c
          injection q with q
          rw [List.length_map, List.length_map, zz_len, zz_len] at q
          omega
        obtain ⟨vv, hv1, hv2⟩ := hF.val hI.nd hFn
        refine ⟨_, rfl, _, rfl, D, vv, rfl, ?_, ?_⟩
        · rw [← hv1]
          exact DGet.t hD (by rw [kI_map]; exact hwd)
        · exact fin (.way P0) (hE _ (Ends.way hFn hl0)) _ _ eB hv2
      have hl0 : D0.length ≠ (diffB old new).length := fun z => c (decide_eq_true (by rw [List.length_map, List.length_map, zz_len, zz_len, z]))
      refine ⟨_, rfl, cl, rfl, ⟨_, SqT.of (eH _ _ hcl)⟩, for_it (walk_tup (a := cl) (xs := (zz (diffB old new)).map V.int)) (fun j σ H => ∃ (F' : Fnd) (v12 v13 : Option V), σ = [some x, some y, some v, some u, some (.int (most : Nat)), some (.ref t1), some (.ref t2), some (.ref cl), some (.ref D), some (.ref Wl), some (.int ((n : Int) + 1)), some (.ref wd), v12, v13] ∧
        SI H4 D Wl F' H ∧ LMid (okB l.ways sd.laid old new) (diffB old new) n D0 j (F'.map (·.1)) ∧ F'[n]? = some (D0, P0) ∧ H wd = some (.tup ((zz D0).map V.int)) ∧
        innerF (okB l.ways sd.laid old new) most D0 P0 (diffB old new) F = innerF (okB l.ways sd.laid old new) most D0 P0 ((diffB old new).drop j) F')
        ⟨F, v12, v13, rfl, ⟨eH, hPL, kvs, ws, hD, hW, hF, hR⟩, hI.mid hFd, hFn, hwd, rfl⟩ (fun j σ H _ ⟨_, _, _, _, hS, _⟩ => SqT.of (hS.1 _ _ hcl)) ?_ ?_⟩
      · rintro j x' σ H1' H2' hj ⟨F', v12, v13, rfl, hS, hM, hFn', hwd', hin⟩ ⟨rfl, hx⟩
        obtain ⟨zc, hzc, rfl⟩ := getMapInt hx
        obtain ⟨c0, hc0, rfl⟩ := zz_get hzc
        have hcl0 := List.mem_of_getElem? hc0
        refine ⟨_, rfl, _, rfl, (by show 1 ≤ sizeLine; decide), fun tu ntu => ?_⟩
        have s1 := same_new (o := .tup [.int (c0 : Nat)]) ntu
        have htu : (upd H2' tu (.tup [.int (c0 : Nat)])) tu = some (.tup [.int (c0 : Nat)]) := upd_same
        have hS1 := hS.same s1
        have hwd1 := s1 _ _ hwd'
        generalize upd H2' tu (.tup [.int (c0 : Nat)]) = H5 at s1 htu hS1 hwd1 ⊢
        refine catA_of (SqT.of hwd1) htu (lenLine (by rw [List.length_map, zz_len, List.length_singleton]; omega)) (by simp) fun p1 H6 s2 hp1 => ?_
        have ezz : (zz D0).map V.int ++ [V.int (c0 : Nat)] = (zz (D0 ++ [c0])).map V.int := by
          rw [zz_app, List.map_append]
          rfl
        rw [ezz] at hp1
        refine ⟨p1, zz (D0 ++ [c0]), rfl, SqT.of hp1, by rw [zz_len, List.length_append, List.length_singleton]; omega, fun ns' p2 perm pw np2 => ?_⟩
        have s3 := same_new (o := .lst (ns'.map V.int)) np2
        refine ⟨p2, _, rfl, .inl ⟨SqL.of upd_same, fun lt nlt => ?_⟩⟩
        have s4 := same_new (o := .tup (ns'.map V.int)) nlt
        have hlt' : (upd (upd H6 p2 (.lst (ns'.map V.int))) lt (.tup (ns'.map V.int))) lt = some (.tup (ns'.map V.int)) := upd_same
        have s14 := s2.trans (s3.trans s4)
        have hS7 := hS1.same s14
        have hwd7 := s14 _ _ hwd1
        generalize upd (upd H6 p2 (.lst (ns'.map V.int))) lt (.tup (ns'.map V.int)) = H7' at s4 hlt' s14 hS7 hwd7 ⊢
        have hFn7 := hFn'
        obtain ⟨e7', hPL', kvs', ws', hD', hW', hF', hR'⟩ := hS7
        refine ⟨_, rfl, _, rfl, wd, _, rfl, .inr (SqT.of hwd7), rfl, ?_, _, rfl, ?_⟩
        · rw [List.all_map, List.all_eq_true]
          intro z _
          rfl
        rw [if_pos rfl, inV_nat]
        have eB7 := e3.trans (e4.trans e7')
        by_cases hcd : c0 ∈ D0
        · rw [decide_eq_true hcd]
          refine iteF (iteF ⟨F', _, _, rfl, ⟨e7', hPL', kvs', ws', hD', hW', hF', hR'⟩, hM.keep hc0 fun z => absurd hcd z, hFn', hwd7, ?_⟩)
          rw [hin]
          exact innerF_keep hc0 fun z => z.1 hcd
        rw [decide_eq_false hcd]
        refine iteT ?_
        have ens : ns' = zz (insN c0 D0) := sorted_insN hDa hcd perm pw
        subst ens
        have hkey : H7' lt = some (.tup ((kI (zz (insN c0 D0))).map kV)) := by rw [kI_map]; exact hlt'
        refine ⟨_, rfl, _, rfl, D, _, rfl, DGet.t (k := kI (zz (insN c0 D0))) hD' hkey, ?_⟩
        rw [hF'.has]
        by_cases hin2 : insN c0 D0 ∈ F'.map (·.1)
        · rw [decide_eq_true hin2]
          refine ⟨false, rfl, iteF (iteF ⟨F', _, _, rfl, ⟨e7', hPL', kvs', ws', hD', hW', hF', hR'⟩, hM.keep hc0 fun _ _ => hin2, hFn', hwd7, ?_⟩)⟩
          rw [hin]
          exact innerF_keep hc0 fun z => z.2.1 hin2
        rw [decide_eq_false hin2]
        refine ⟨true, rfl, iteT ?_⟩
        have hsub : ∀ x ∈ insN c0 D0, x < old.length := fun x hx => by
          rcases mem_insN.mp hx with rfl | hx
          · exact hCs _ hcl0
          · exact hCs _ (hDr.sub x hx)
        refine ⟨_, rfl, _, rfl, _, rfl, _, rfl, _, rfl, t1, t2, lt, old, new, insN c0 D0, rfl, same_t eB7 ho, same_t eB7 hn, SqT.of hlt', by omega, by omega, hsub, fun H8' v8 s8 hv8 => ?_⟩
        obtain ⟨st8, rfl, hst8⟩ := hv8
        have eA := e1.trans (e2.trans (eB7.trans s8))
        refine ⟨x, y, st8, l, sd, setB old new (insN c0 D0), rfl, hl.kp (Kp.of eA), hs.kp (Kp.of eA), SqT.of hst8, hok, by rw [setB_len, lo], hwl, fun H9' s9 => ⟨_, rfl, ?_⟩⟩
        have s89 := s8.trans s9
        have hD9 := s89 _ _ hD'
        have hW9 := s89 _ _ hW'
        have hF9 := hF'.kp (Kp.of s89)
        have hR9 := hR'.same s89
        have e79 := e7'.trans s89
        cases hokb : passB l.ways sd.laid (setB old new (insN c0 D0)) with
        | false =>
          refine iteF ⟨F', _, _, rfl, ⟨e79, hPL', kvs', ws', hD9, hW9, hF9, hR9⟩, hM.keep hc0 fun _ z => ?_, hFn', s89 _ _ hwd7, ?_⟩
          · have z' : passB l.ways sd.laid (setB old new (insN c0 D0)) = true := z
            rw [hokb] at z'
            cases z'
          · rw [hin]
            refine innerF_keep hc0 fun z => ?_
            have z' : passB l.ways sd.laid (setB old new (insN c0 D0)) = true := z.2.2
            rw [hokb] at z'
            cases z'
        | true =>
          have cond : c0 ∉ D0 ∧ insN c0 D0 ∉ F'.map (·.1) ∧ okB l.ways sd.laid old new (insN c0 D0) = true := ⟨hcd, hin2, hokb⟩
          refine iteT ?_
          refine ⟨_, rfl, D, _, rfl, hD9, _, rfl, rfl, _, rfl, ite2 (fun c => ?_) (fun c => ?_)⟩
          · have hmo : F'.length = most := by
              have q := of_decide_eq_true c
              injection q with q
              have := hF'.1
              omega
            refine ⟨_, rfl, mkE_of fun Ha d sa hd => fin .great (hE _ (Ends.great hFn hl0 ?_)) Ha d (eB7.trans (s89.trans sa)) hd⟩
            rw [hin]
            exact innerF_great hc0 cond hmo
          have hmo : F'.length ≠ most := fun z => c (decide_eq_true (by rw [hF'.1, z]))
          obtain ⟨vv, hv1, pp, rfl, hpp⟩ := hF9.val hM.inv.nd hFn'
          have hwd9 := s89 _ _ hwd7
          have hP0 : P0.length = D0.length := hPL' _ (List.mem_of_getElem? hFn')
          have hPl : P0.length ≤ 2000 := by omega
          refine ⟨_, rfl, _, rfl, D, .ref pp, rfl, ?_, _, rfl, (by show 1 ≤ sizeLine; decide), fun tu2 ntu2 => ?_⟩
          · rw [← hv1]
            exact DGet.t hD9 (by rw [kI_map]; exact hwd9)
          have sa := same_new (o := .tup [.int (c0 : Nat)]) ntu2
          refine catA_of (SqT.of (sa _ _ hpp)) upd_same (lenLine (by rw [List.length_map, zz_len, List.length_singleton]; omega)) (by simp) fun p9 Hb sb hp9 => ?_
          have sab := sa.trans sb
          have ezP : (zz P0).map V.int ++ [V.int (c0 : Nat)] = (zz (P0 ++ [c0])).map V.int := by
            rw [zz_app, List.map_append]
            rfl
          rw [ezP] at hp9
          have hDb := sab _ _ hD9
          have hWb := sab _ _ hW9
          have hkeyb := sab _ _ (s89 _ _ hkey)
          have hltb := sab _ _ (s89 _ _ hlt')
          have hne : Wl ≠ D := ne_of hWb hDb (by intro z; cases z)
          have hFl' : F'.length ≤ 2 ^ 10 := by
            have := Rch.many hC hM.inv.nd hM.inv.rch
            rw [List.length_map] at this
            omega
          have hwl' : ws'.length = F'.length := by
            have := hR'.1
            rw [List.length_map] at this
            exact this
          have hWc : (upd Hb D (.dT (putK kvs' (kI (zz (insN c0 D0))) (.ref p9)))) Wl = some (.lst ws') := by rw [upd_ne hne]; exact hWb
          refine ⟨_, rfl, _, rfl, D, _, rfl, DPut.t (k := kI (zz (insN c0 D0))) hDb hkeyb (ltLine (by have := hF'.1; omega)), ?_⟩
          refine ⟨_, rfl, .inl ⟨rfl, _, SqL.of hWc⟩, _, rfl, Wl, ws', _, rfl, rfl, hWc, ltLine (by omega), ?_⟩
          have kk := (kp_dT (o := .dT (putK kvs' (kI (zz (insN c0 D0))) (.ref p9))) hDb).trans (kp_lst (ws := ws' ++ [.ref lt]) hWc)
          refine ⟨F' ++ [(insN c0 D0, P0 ++ [c0])], _, _, rfl, SI.add nD nW4 (e79.trans sab) hPL' (by rw [List.length_append, List.length_singleton, insN_length, hP0]) hDb hWb (hF9.kp (Kp.of sab)) (hR9.same sab) hin2 ⟨p9, rfl, hp9⟩ ⟨lt, rfl, hltb⟩, ?_, ?_, kk.tup _ _ (sab _ _ hwd9), ?_⟩
          · rw [List.map_append]
            exact hM.add hc0 hcd hokb hin2
          · rw [List.getElem?_append_left (List.getElem?_eq_some_iff.mp hFn').1]
            exact hFn'
          · rw [hin]
            exact innerF_add hc0 cond hmo
      · rintro σ H1' ⟨F', v12, v13, rfl, hS, hM, hFn', hwd', hin⟩
        rw [List.length_map, zz_len] at hM hin
        rw [List.drop_length] at hin
        exact ⟨F', _, _, _, _, rfl, rfl, hS, hM.turn, fun r hr' => hE r (Ends.turn hFn hl0 hin hr')⟩
    · have hn0 : F.length ≤ n := by
        have : ¬ ((n : Int) < (ws.length : Nat)) := fun z => c (decide_eq_true z)
        omega
      exact fin .non (hE _ (Ends.stop hn0)) _ eB
end
end K29
namespace K29
open PySem PySem.Spec PyProof.Rows L2
/-! ### the law's own look at tables -/
theorem walk_rn {n : Nat} : Walk (Itr 0 n) n (fun _ => True) (fun i H x H' => H' = H ∧ x = V.int (i : Nat)) := (walk_range (lo := 0) (n := n)).mono (fun _ h => h) fun i H x H' _ _ y => ⟨y.1, by
  rw [y.2]
  show V.int (0 + (i : Int)) = _
  congr 1
  omega⟩
theorem eqv_nil (rows : List (List Int)) : PyData.eqv (.list (rows.map dI)) (.list []) = rows.isEmpty := by
  cases rows with
  | nil => rfl
  | cons r rows => rfl
theorem sh_nil : SeqAt.shaped (.list []) = true := rfl
def failT (tabs : List (List Row)) (laid : List Ld) (st : List Int) : List (List Int) := (laid.filter fun l => !decide (rowAt st l.2 ∈ tabs.getD l.1 [])).map fun l => zz l.2
theorem failT_nil (tabs : List (List Row)) (laid : List Ld) (st : List Int) : (failT tabs laid st).isEmpty = passB tabs laid st := by
  unfold failT passB
  rw [Bool.eq_iff_iff, List.isEmpty_iff, List.map_eq_nil_iff, List.filter_eq_nil_iff, List.all_eq_true]
  constructor
  · intro h q hq
    have := h q hq
    simpa [rowAt] using this
  · intro h q hq
    have := h q hq
    simpa [rowAt] using this
theorem failT_take {tabs : List (List Row)} {laid : List Ld} {st : List Int} {i : Nat} {l : Ld} (h : laid[i]? = some l) : failT tabs (laid.take (i + 1)) st = failT tabs (laid.take i) st ++ (if rowAt st l.2 ∈ tabs.getD l.1 [] then [] else [zz l.2]) := by
  unfold failT
  rw [List.take_add_one, h, List.filter_append, List.map_append]
  congr 1
  by_cases hm : rowAt st l.2 ∈ tabs.getD l.1 []
  · rw [if_pos hm]
    simp only [Option.toList_some, List.filter_cons, decide_eq_true hm]
    rfl
  · rw [if_neg hm]
    simp only [Option.toList_some, List.filter_cons, decide_eq_false hm]
    rfl
/-- each laid check is of a table, its cells of the state -/
def LaidIn (tabs : List (List Row)) (n : Nat) (laid : List Ld) : Prop := laid.length ≤ 4000 ∧ ∀ l ∈ laid, l.1 < tabs.length ∧ l.2.length ≤ 1000 ∧ ∀ x ∈ l.2, x < n
section
variable {P : Program} {w : World} {K : PySem.W.Frag} {mg : Str → Option Value} {base : Heap}
theorem sc_law_passes : FnScope ["_law_tables", "_law_laid", "_law_state", "_law_check", "_law_on", "_law_cell"] ["_law_tables", "_law_laid", "_law_state"] (defScope s_law_passes) := ⟨rfl, rfl, rfl, by decide +kernel, rfl, by decide +kernel, by decide +kernel⟩
def spPass (K : PySem.W.Frag) : Sp := fun vs H Q _ => ∃ (p q a : Addr) (ts ls : List V) (tabs : List (List Row)) (laid : List Ld) (st : List Int), vs = [.ref p, .ref q, .ref a] ∧ SqL K H p ts ∧ Al (TabV K H) ts tabs ∧ SqT K H q ls ∧ Al (LdV K H) ls laid ∧ SqT K H a (st.map V.int) ∧ LaidIn tabs st.length laid ∧
  ∀ H', Same H H' → Q (.bl (passB tabs laid st)) H'
theorem c_law_passes (T : Tx K mg) : Cal P w K mg base CX0 1 "_law_passes" (spPass K) := by
  refine cal0 T.f_law_passes T.g_law_passes sc_law_passes (fun _ _ _ _ _ _ us hl => match us, hl with | [_, _, _], _ => rfl) (fun vs H Q E h => ?_) (fun cdv A outer s H vs Q E hr h => ?_)
  · obtain ⟨p, q, a, ts, ls, tabs, laid, st, rfl, _⟩ := h
    rfl
  · obtain ⟨p, q, a, ts, ls, tabs, laid, st, rfl, hp, hts, hq, hls, ha, ⟨h4000, hin⟩, fin⟩ := h
    have nd := sc_law_passes.nd
    refine ⟨_, (pss_one (ps_ret (pe_cmpR (op_eqD hr.units) (pe_lc (own := [("_law_check", 3), ("_law_on", 4)]) rfl nd (pi_tup (pv 1)) (blkOk_by (by kernel_rfl)) (fun _ _ _ _ _ => (kpg_tup K (n := 2) rfl (pgs_cons (pg_name (i := 3) nd rfl (.inl rfl)) (pgs_cons (pg_name (i := 4) nd rfl (.inl rfl)) pgs_nil)))) (fun _ _ _ _ _ => (pts_one (pt_cmpR (op_notInT K (un65 hr)) (pe_callTy (kcall_tuple_of K) (by rfl) T.z_tuple PyProof.Rows.boot_tuple (pa_cons (pe_lc (own := [("_law_cell", 5)]) rfl nd (kpi_tup K (pv 4)) (blkOk_by (by kernel_rfl)) (fun _ _ _ _ _ => (pg_name (i := 5) nd rfl (.inl rfl))) (fun _ _ _ _ _ => pts_nil) (fun _ _ _ _ _ => (pe_ix (kix_tup K) (pv 2) (pv 5) (fun _ _ => rfl)))) pa_nil)) (pe_ix (kix_list K) (pv 0) (pv 3) (fun _ _ => rfl)) (by rfl)))) (fun _ _ _ _ _ => (pv 4))) (pe_lst pa_nil) (nomark _)))), ?_⟩
    refine ⟨_, rfl, q, rfl, ⟨_, hq⟩, fun D nD => lc_pure (walk_tup (a := q) (xs := ls)) nD (by have := hls.1; omega)
      (fun i zs H => DpAll K H zs ((failT tabs (laid.take i) st).map dI)) (fun i zs H H' k h => kp_mono_all k h) (by rw [List.take_zero]; exact .nil) (fun H s => same_t s hq) ?_ ?_⟩
    · rintro i x' H1 H2 zs post skip hi s1 hz ⟨rfl, hx⟩ hpost hskip
      obtain ⟨l, hl1, hl2⟩ := hls.at hx
      obtain ⟨hc, hl1000, hcells⟩ := hin l (List.mem_of_getElem? hl1)
      obtain ⟨la, lp, rfl, k1, k2⟩ := (hl2.kp (Kp.of s1)).ex
      refine ⟨la, _, rfl, k1, rfl, _, _, rfl, _, _, rfl, rfl, rfl, ?_⟩
      refine ⟨_, rfl, lp, rfl, ⟨_, k2⟩, fun D2 nD2 => lc_row nD2 k2 hl1000 hcells ?_ ?_⟩
      · intro j n H3 post2 skip2 hn hns s3 hpost2
        exact ⟨rfl, _, rfl, _, rfl, a, _, (n : Int), _, rfl, rfl, same_t (s1.trans s3) ha, atI_nat (st_get hns), hpost2⟩
      · intro H3 s3 hD2
        refine ⟨D2, _, rfl, .inl ⟨SqL.of hD2, fun t nt => ?_⟩⟩
        have s4 := s3.trans (same_new (o := .tup ((rowAt st l.2).map V.int)) nt)
        have s14 := s1.trans s4
        obtain ⟨tv, htv, htt⟩ := hts.get (List.getElem?_eq_getElem hc)
        obtain ⟨ta, txs, rfl, t1, t2⟩ := (htt.kp (Kp.of s14)).ex
        refine ⟨_, rfl, _, rfl, p, _, _, .ref ta, rfl, rfl, same_l s14 hp, atI_nat htv, _, _, tup_dI (SqT.of upd_same), .tup t1 t2.dp, sh_dI _, sh_dR _, ?_⟩
        rw [any_dI]
        have ew : tabs.getD l.1 [] = tabs[l.1] := by
          rw [List.getD_eq_getElem?_getD, List.getElem?_eq_getElem hc]
          rfl
        have hz4 := kp_mono_all (Kp.of s4) hz
        by_cases hm : rowAt st l.2 ∈ tabs[l.1]
        · rw [decide_eq_true hm]
          refine ⟨false, rfl, iteF (hskip _ s4 ?_)⟩
          rw [failT_take hl1, if_pos (by rw [ew]; exact hm), List.append_nil]
          exact hz4
        · rw [decide_eq_false hm]
          refine ⟨true, rfl, iteT ⟨_, rfl, hpost _ _ s4 ?_⟩⟩
          rw [failT_take hl1, if_neg (by rw [ew]; exact hm), List.map_append]
          exact dpAll_app hz4 (.cons (tup_dI (same_t s4 k2)) .nil)
    · intro H1 zs s1 hD hz
      rw [hls.1, List.take_length] at hz
      refine ⟨by show 0 ≤ sizeLine; decide, fun e ne => ?_⟩
      have s2 := same_new (o := .lst []) ne
      refine ⟨_, _, .lst (SqL.of (s2 _ _ hD)) (kp_mono_all (Kp.of s2) hz), .lst (SqL.of upd_same) .nil, sh_lR _, sh_nil, ?_⟩
      rw [eqv_nil, failT_nil]
      exact fin _ (s1.trans s2)
theorem sc_law_set : FnScope ["_law_old", "_law_new", "_law_cells", "_law_cell"] ["_law_old", "_law_new", "_law_cells"] (defScope s_law_set) := ⟨rfl, rfl, rfl, by decide +kernel, rfl, by decide +kernel, by decide +kernel⟩
def spSet (K : PySem.W.Frag) : Sp := fun vs H Q _ => ∃ (a b c : Addr) (old new : List Int) (S : List Nat), vs = [.ref a, .ref b, .ref c] ∧ SqT K H a (old.map V.int) ∧ SqT K H b (new.map V.int) ∧ SqT K H c ((zz S).map V.int) ∧ old.length = new.length ∧ old.length ≤ 1000 ∧
  ∀ H' v, Same H H' → Rw H' v (setB old new S) → Q v H'
theorem flat_zz (S : List Nat) : ((zz S).map V.int).all flatV = true := by
  rw [List.all_map, List.all_eq_true]
  intro z _
  rfl
theorem c_law_set (T : Tx K mg) : Cal P w K mg base CX0 1 "_law_set" (spSet K) := by
  refine cal0 T.f_law_set T.g_law_set sc_law_set (fun _ _ _ _ _ _ us hl => match us, hl with | [_, _, _], _ => rfl) (fun vs H Q E h => ?_) (fun cdv A outer s H vs Q E hr h => ?_)
  · obtain ⟨a, b, c, old, new, S, rfl, _⟩ := h
    rfl
  · obtain ⟨a, b, c, old, new, S, rfl, ha, hb, hc, hl, h1000, fin⟩ := h
    have nd := sc_law_set.nd
    refine ⟨_, (pss_one (ps_ret (pe_callTy call_tuple_of (by rfl) T.z_tuple PyProof.Rows.boot_tuple (pa_cons (pe_lc (own := [("_law_cell", 3)]) rfl nd (pi_range1 (by rfl) T.z_range (pa_cons (pe_callB call_len_seq (by rfl) T.z_len PySem.boot_len (pa_cons (pv 0) pa_nil)) pa_nil)) (blkOk_by (by kernel_rfl)) (fun _ _ _ _ _ => (pg_name (i := 3) nd rfl (.inl rfl))) (fun _ _ _ _ _ => pts_nil) (fun _ _ _ _ _ => (pe_ifExp (pt_cmpR (kop_in_seq K) (pv 3) (pv 2) (by rfl)) (pe_ix (kix_tup K) (pv 1) (pv 3) (fun _ _ => rfl)) (pe_ix (kix_tup K) (pv 0) (pv 3) (fun _ _ => rfl))))) pa_nil)))), ?_⟩
    have el : (old.map V.int).length = old.length := List.length_map _
    refine ⟨_, rfl, a, _, rfl, .inr ha, _, rfl, by rw [el]; omega, by rw [el]; omega, ?_⟩
    rw [show (((old.map V.int).length : Nat) : Int).toNat = old.length by rw [el]; omega]
    refine fun D nD => lc_pure (walk_rn (n := old.length)) nD (by omega) (fun i zs H => zs = ((setB old new S).take i).map V.int) (fun _ _ _ _ _ h => h) (by simp) (fun H s => trivial) ?_ ?_
    · rintro i x' H1 H2 zs post skip hi s1 hz ⟨rfl, rfl⟩ hpost hskip
      have hset : (setB old new S)[i]? = some (if i ∈ S then new.getD i 0 else old.getD i 0) := by
        unfold setB
        exact at_map (f := fun i => if i ∈ S then new.getD i 0 else old.getD i 0) (List.getElem?_range hi)
      refine ⟨rfl, _, rfl, _, rfl, c, _, rfl, .inr (same_t s1 hc), rfl, flat_zz S, _, rfl, ?_⟩
      rw [if_neg Bool.false_ne_true, inV_nat]
      by_cases hm : i ∈ S
      · rw [decide_eq_true hm]
        refine iteT ⟨_, rfl, _, rfl, b, _, (i : Int), _, rfl, rfl, same_t s1 hb, atI_nat (st_get (hl ▸ hi)), hpost _ _ (Same.refl _) ?_⟩
        rw [hz, take_snoc hset, if_pos hm, List.map_append]
        rfl
      · rw [decide_eq_false hm]
        refine iteF ⟨_, rfl, _, rfl, a, _, (i : Int), _, rfl, rfl, same_t s1 ha, atI_nat (st_get hi), hpost _ _ (Same.refl _) ?_⟩
        rw [hz, take_snoc hset, if_neg hm, List.map_append]
        rfl
    · intro H1 zs s1 hD hz
      have : old.length = (setB old new S).length := (setB_len old new S).symm
      rw [this, List.take_length] at hz
      refine ⟨D, zs, rfl, .inl ⟨SqL.of hD, fun t nt => fin _ _ (s1.trans (same_new nt)) ⟨t, rfl, ?_⟩⟩⟩
      rw [upd_same, hz]
end
end K29
namespace K29
open PySem PySem.Spec PyProof.Rows L2
def LS (H0 : Hp) (D Wl : Addr) (W : List (List Nat)) (H : Hp) : Prop := Same H0 H ∧ H D = some (.dT (dkv (W.map zz))) ∧ ∃ ws, H Wl = some (.lst ws) ∧ Rws H ws (W.map zz)
theorem LS.same {H0 H H' : Hp} {D Wl : Addr} {W : List (List Nat)} (h : LS H0 D Wl W H) (e : Same H H') : LS H0 D Wl W H' := by
  obtain ⟨e0, h1, ws, h2, h3⟩ := h
  exact ⟨e0.trans e, e _ _ h1, ws, e _ _ h2, h3.same e⟩
theorem mem_zz {L : List Nat} {W : List (List Nat)} : zz L ∈ W.map zz ↔ L ∈ W := by
  rw [List.mem_map]
  constructor
  · rintro ⟨M, hM, e⟩
    exact zz_inj e ▸ hM
  · intro h
    exact ⟨L, h, rfl⟩
theorem LS.add {H0 H : Hp} {D Wl lt : Addr} {W : List (List Nat)} {ws : List V} {L : List Nat} (nD : H0 D = none) (nW : H0 Wl = none) (e0 : Same H0 H) (h1 : H D = some (.dT (dkv (W.map zz)))) (h2 : H Wl = some (.lst ws)) (h3 : Rws H ws (W.map zz)) (hL : L ∉ W) (ht : Rw H (.ref lt) (zz L)) :
    LS H0 D Wl (W ++ [L]) (upd (upd H D (.dT (putK (dkv (W.map zz)) (kI (zz L)) (.bl true)))) Wl (.lst (ws ++ [.ref lt]))) := by
  have hne : D ≠ Wl := ne_of h1 h2 (by intro z; cases z)
  have k1 := kp_dT (o := .dT (putK (dkv (W.map zz)) (kI (zz L)) (.bl true))) h1
  have h2' : (upd H D (.dT (putK (dkv (W.map zz)) (kI (zz L)) (.bl true)))) Wl = some (.lst ws) := by rw [upd_ne (Ne.symm hne)]; exact h2
  have k2 := kp_lst (ws := ws ++ [.ref lt]) h2'
  have k := k1.trans k2
  refine ⟨same_lst nW (same_dT nD e0), ?_, _, upd_same, ?_⟩
  · rw [upd_ne hne, upd_same, putK_dkv]
    unfold addN
    rw [if_neg (fun z => hL (mem_zz.mp z)), List.map_append]
    rfl
  · rw [List.map_append]
    exact (h3.kp k).snoc (ht.kp k)
section
variable {P : Program} {w : World} {K : PySem.W.Frag} {mg : Str → Option Value} {base : Heap}
/-- [cell for cell in range(len(old)) if old[cell] != new[cell]] -/
theorem lc_diff {g : TG} {tt : TT} {te : TE} {vs : List Nat} {σ : L2.St} {H1 : Hp} {D a b : Addr} {Qd : Hp → Prop} {old new : List Int} (nD : H1 D = none) (ha : SqT K H1 a (old.map V.int)) (hb : SqT K H1 b (new.map V.int)) (hl : old.length = new.length) (h1000 : old.length ≤ 1000)
    (turn : ∀ (i : Nat) (H : Hp) (post : V → Hp → Prop) (skip : Hp → Prop), i < old.length → Same H1 H → (old.getD i 0 ≠ new.getD i 0 → post (.int (i : Nat)) H) → (old.getD i 0 = new.getD i 0 → skip H) → g (.int (i : Nat)) (wipe σ vs) H fun σ2 H2 => wipe σ2 vs = wipe σ vs ∧ tt σ2 H2 fun b H3 => if b = true then te σ2 H3 post else skip H3)
    (done : ∀ H, Same H1 H → H D = some (.lst ((zz (diffB old new)).map V.int)) → Qd H) :
    ∃ W : Nat → Nat → Hp → Prop, (∃ m, W 0 m (upd H1 D (.lst []))) ∧ ∀ i m H, W i m H →
      ((Itr 0 old.length).stop i H ∧ Qd H) ∨ ((Itr 0 old.length).go i H ∧ ∃ Nx : Hp → Prop, (∀ H', Nx H' → ∃ m', m' < m ∧ W (i + 1) m' H') ∧ ∀ x H', (Itr 0 old.length).yld i H x H' → g x (wipe σ vs) H' fun σ2 H2 => wipe σ2 vs = wipe σ vs ∧ tt σ2 H2 fun b H3 =>
        if b = true then te σ2 H3 fun y H4 => ∃ acc, H4 D = some (.lst acc) ∧ acc.length < sizeLine ∧ Nx (upd H4 D (.lst (acc ++ [y]))) else Nx H3) := by
  refine lc_pure (walk_rn (n := old.length)) nD (by omega) (fun i zs H => zs = (zz (diffT old new i)).map V.int) (fun _ _ _ _ _ h => h) rfl (fun H s => trivial) ?_ ?_
  · rintro i x H H' zs post skip hi s hz ⟨rfl, rfl⟩ hpost hskip
    refine turn i _ post skip hi s (fun hd => hpost _ _ (Same.refl _) ?_) (fun hd => hskip _ (Same.refl _) ?_)
    · rw [hz, diffT_succ, if_pos hd, zz_app, List.map_append]
      rfl
    · rw [hz, diffT_succ, if_neg (fun z => z hd), List.append_nil]
  · intro H zs s hD hz
    exact done H s (by rw [hD, hz]; rfl)
theorem sc_law_lots : FnScope ["_law_ways_here", "_law_laid", "_law_old", "_law_new", "_law_cells", "_law_waiting", "_law_met", "_law_at", "_law_cell", "_law_later"] ["_law_ways_here", "_law_laid", "_law_old", "_law_new"] (defScope s_law_lots) := ⟨rfl, rfl, rfl, by decide +kernel, rfl, by decide +kernel, by decide +kernel⟩
def spLots (K : PySem.W.Frag) : Sp := fun vs H Q _ => ∃ (p q a b : Addr) (ts ls : List V) (tabs : List (List Row)) (laid : List Ld) (old new : List Int), vs = [.ref p, .ref q, .ref a, .ref b] ∧ SqL K H p ts ∧ Al (TabV K H) ts tabs ∧ SqT K H q ls ∧ Al (LdV K H) ls laid ∧ SqT K H a (old.map V.int) ∧ SqT K H b (new.map V.int) ∧
  LaidIn tabs old.length laid ∧ old.length = new.length ∧ old.length ≤ 8 ∧
  ∀ H' t W, Same H H' → AllLots (okB tabs laid old new) (diffB old new) W → H' t = some (.tup [.bl (decide (diffB old new ∈ W)), .int (W.length : Nat)]) → Q (.ref t) H'
theorem c_law_lots (T : Tx K mg) : Cal P w K mg base CX0 2 "_law_lots" (spLots K) := by
  refine cal0 T.f_law_lots T.g_law_lots sc_law_lots (fun _ _ _ _ _ _ us hl => match us, hl with | [_, _, _, _], _ => rfl) (fun vs H Q E h => ?_) (fun cdv A outer s H vs Q E hr h => ?_)
  · obtain ⟨p, q, a, b, ts, ls, tabs, laid, old, new, rfl, _⟩ := h
    rfl
  · obtain ⟨p, q, a, b, ts, ls, tabs, laid, old, new, rfl, hp, hts, hq, hls, ha, hb, hin, hl, h8, fin⟩ := h
    have nd := sc_law_lots.nd
    have hu := hu_of hr
    refine ⟨_, (pss_cons (ps_setLc (i := 4) (own := [("_law_cell", 8)]) rfl nd rfl rfl (sw_true rfl rfl rfl (by decide +kernel)) (pi_range1 (by rfl) T.z_range (pa_cons (pe_callB call_len_seq (by rfl) T.z_len PySem.boot_len (pa_cons (pv 2) pa_nil)) pa_nil)) (blkOk_by (by kernel_rfl)) (fun _ _ _ _ _ => (pg_name (i := 8) nd rfl (.inl rfl))) (fun _ _ _ _ _ => (pts_one (pt_cmpR op_ne (pe_ix (kix_tup K) (pv 2) (pv 8) (fun _ _ => rfl)) (pe_ix (kix_tup K) (pv 3) (pv 8) (fun _ _ => rfl)) (nomark _)))) (fun _ _ _ _ _ => (pv 8)))
    (pss_cons (ps_par (i := 5) (j := 6) rfl nd rfl rfl (by decide) rfl rfl (pa_cons (pe_lst (pa_cons (pe_tup pa_nil) pa_nil)) (pa_cons (pe_dict1 hu (pe_tup pa_nil) pe_bl) pa_nil)) (by rfl))
    (pss_cons (ps_for PassesOwn.never rfl (pi_range1 (by rfl) T.z_range (pa_cons pe_int pa_nil)) (pg_name (i := 7) nd rfl (.inl rfl))
      (pss_cons (ps_if (pt_cmpR op_eq (pv 7) (pe_callB call_len_seq (by rfl) T.z_len PySem.boot_len (pa_cons (pv 5) pa_nil)) (nomark _))
        (pss_one ps_break)
        pss_nil)
      (pss_one (ps_for PassesOwn.never rfl (pi_list (pv 4)) (pg_name (i := 8) nd rfl (.inl rfl))
        (pss_cons (ps_set (i := 9) nd rfl (.inl rfl) (pe_callTy call_tuple_of (by rfl) T.z_tuple PyProof.Rows.boot_tuple (pa_cons (pe_callB cr_sortedTI (by rfl) T.z_sorted PyProof.Rows.boot_sorted (pa_cons (pe_op op_catA (pe_ix ix_list (pv 5) (pv 7) (fun _ _ => rfl)) (pe_tup (pa_cons (pv 8) pa_nil))) pa_nil)) pa_nil)))
        (pss_one (ps_if (PW.pt (pw_and (pt_cmpR op_notIn_seq (pv 8) (pe_ix ix_list (pv 5) (pv 7) (fun _ _ => rfl)) (by rfl)) (pw_and (pt_cmp (pc_dnotin hu (pv 9) (pv 6))) (pw_and1 (pt_val (pe_cal (c_law_passes T) hr (by decide) pass0 (pa_cons (pv 0) (pa_cons (pv 1) (pa_cons (pe_cal (c_law_set T) hr (by decide) pass0 (pa_cons (pv 2) (pa_cons (pv 3) (pa_cons (pv 9) pa_nil)))) pa_nil)))))))))
          (pss_cons (ps_dput hu (pv 6) (pv 9) pe_bl rfl)
          (pss_one (ps_expr (pe_bm PySem.F.plainAttrs_list PySem.F.slot_list_append PySem.F.type_list_append mt_append (pv 5) (pa_cons (pv 9) pa_nil)))))
          pss_nil)))))))
    (pss_one (ps_ret (pe_tup (pa_cons (pe_cmp (pc_din hu (pe_callTy call_tuple_of (by rfl) T.z_tuple PyProof.Rows.boot_tuple (pa_cons (pv 4) pa_nil)) (pv 6))) (pa_cons (pe_callB call_len_dT (by rfl) T.z_len PySem.boot_len (pa_cons (pv 6) pa_nil)) pa_nil)))))))), ?_⟩
    have el : (old.map V.int).length = old.length := List.length_map _
    have hC := diff_asc old new
    have hCl : (diffB old new).length ≤ 8 := by
      have := diff_len old new
      omega
    have hpow : 2 ^ (diffB old new).length ≤ 2 ^ 8 := Nat.pow_le_pow_right (by decide) hCl
    refine ⟨_, rfl, a, _, rfl, .inr ha, _, rfl, by rw [el]; omega, by rw [el]; omega, ?_⟩
    rw [show (((old.map V.int).length : Nat) : Int).toNat = old.length by rw [el]; omega]
    refine fun C nC => lc_diff (a := a) (b := b) (new := new) nC ha hb hl (by omega) ?_ ?_
    · intro i H1 post skip hi s1 hpost hskip
      refine ⟨rfl, _, rfl, _, rfl, a, _, (i : Int), _, rfl, rfl, same_t s1 ha, atI_nat (st_get hi), _, rfl, _, rfl, b, _, (i : Int), _, rfl, rfl, same_t s1 hb, atI_nat (st_get (hl ▸ hi)), rfl, ?_⟩
      by_cases hd : old.getD i 0 = new.getD i 0
      · rw [decide_eq_true (congrArg V.int hd)]
        exact ⟨false, rfl, iteF (hskip hd)⟩
      · rw [decide_eq_false (fun z => hd (by injection z))]
        exact ⟨true, rfl, iteT ⟨_, rfl, hpost hd⟩⟩
    intro H1 s1 hC1
    refine ⟨by show 0 ≤ sizeLine; decide, fun wt nwt => ⟨by show 1 ≤ sizeLine; decide, fun Wl nW => ?_⟩⟩
    have sw := same_new (o := .tup []) nwt
    have hwt : (upd H1 wt (.tup [])) wt = some (.tup []) := upd_same
    have sW := same_new (o := .lst [.ref wt]) nW
    have hWl : (upd (upd H1 wt (.tup [])) Wl (.lst [.ref wt])) Wl = some (.lst [.ref wt]) := upd_same
    have hwt2 := sW _ _ hwt
    have nW1 : H1 Wl = none := by
      cases e : H1 Wl with
      | none => rfl
      | some o =>
        have := sw _ _ e
        rw [nW] at this
        cases this
    have s2 := sw.trans sW
    generalize upd (upd H1 wt (.tup [])) Wl (.lst [.ref wt]) = H2 at s2 hWl hwt2 ⊢
    intro D nD
    have nD1 : H1 D = none := by
      cases e : H1 D with
      | none => rfl
      | some o =>
        have := s2 _ _ e
        rw [nD] at this
        cases this
    refine ⟨by show 0 ≤ sizeLine; decide, fun bt nbt => ⟨bt, [], rfl, upd_same, same_new nbt _ _ upd_same, ?_⟩⟩
    have sD := (same_new (o := .dT []) nD).trans (same_new (o := .tup []) nbt)
    have hD3 : (upd (upd H2 D (.dT [])) bt (.tup [])) D = some (.dT []) := same_new nbt _ _ upd_same
    generalize upd (upd H2 D (.dT [])) bt (.tup []) = H3 at sD hD3 ⊢
    have hneDW : Wl ≠ D := fun z => by rw [← z, hWl] at nD; cases nD
    have k4 := kp_dT (o := .dT [([], .bl true)]) hD3
    have S0 : LS H1 D Wl [[]] (upd H3 D (.dT [([], .bl true)])) := by
      refine ⟨same_dT nD1 (s2.trans sD), ?_, [.ref wt], ?_, Rws.one ⟨wt, rfl, k4.tup _ _ (sD _ _ hwt2)⟩⟩
      · rw [upd_same]
        rfl
      · rw [upd_ne hneDW]
        exact sD _ _ hWl
    generalize upd H3 D (.dT [([], .bl true)]) = H4 at S0 ⊢
    refine ⟨_, _, rfl, ?_⟩
    refine ⟨300, rfl, by decide, by decide, for_it (walk_rn (n := 300)) (fun n σ H => ∃ (W : List (List Nat)) (v7 v8 v9 : Option V), σ = [some (.ref p), some (.ref q), some (.ref a), some (.ref b), some (.ref C), some (.ref Wl), some (.ref D), v7, v8, v9] ∧ LS H1 D Wl W H ∧ LInv (okB tabs laid old new) (diffB old new) n W ∧ n ≤ W.length)
      ⟨[[]], none, none, none, rfl, S0, LInv.start, Nat.zero_le _⟩ (fun _ _ _ _ _ => trivial) ?_ ?_⟩
    · rintro n x' σ H5 H6 hn ⟨W, v7, v8, v9, rfl, ⟨e0, hD, ws, hW, hR⟩, hI, hnW⟩ ⟨rfl, rfl⟩
      have e05 := s1.trans e0
      have hwl : ws.length = W.length := by
        have := hR.1
        rw [List.length_map] at this
        exact this
      refine ⟨_, rfl, _, rfl, Wl, ws, rfl, .inl (SqL.of hW), rfl, _, rfl, ite2 (fun c => ?_) (fun c => ?_)⟩
      · have hnl : W.length ≤ n := by
          have z := of_decide_eq_true c
          injection z with z
          omega
        refine ⟨_, rfl, C, _, rfl, .inl ⟨SqL.of (e0 _ _ hC1), fun t nt => ?_⟩⟩
        have s5 := same_new (o := .tup ((zz (diffB old new)).map V.int)) nt
        refine ⟨_, rfl, D, _, rfl, DGet.t (k := kI (zz (diffB old new))) (s5 _ _ hD) (by rw [kI_map]; exact upd_same), ?_⟩
        refine ⟨_, rfl, D, _, rfl, s5 _ _ hD, ?_⟩
        refine ⟨by show 2 ≤ sizeLine; decide, fun t2 nt2 => ?_⟩
        have s6 := same_new (o := .tup [.bl (valV (dkv (W.map zz)) (kI (zz (diffB old new)))).isSome, .int ((dkv (W.map zz)).length : Nat)]) nt2
        refine fin _ t2 W (e05.trans (s5.trans s6)) (hI.end hnl) ?_
        rw [upd_same, valV_dkv]
        have e1 : decide (zz (diffB old new) ∈ W.map zz) = decide (diffB old new ∈ W) := decide_eq_decide.mpr mem_zz
        have e2 : (dkv (W.map zz)).length = W.length := by
          unfold dkv
          rw [List.length_map, List.length_map]
        rw [e1, e2]
      have hlt : n < W.length := by
        rcases Nat.lt_or_ge n W.length with h | h
        · exact h
        · exact absurd (decide_eq_true (by
            have : n = ws.length := by omega
            rw [this])) c
      have hWn : W[n]? = some W[n] := List.getElem?_eq_getElem hlt
      generalize hD0 : W[n] = D0 at hWn
      obtain ⟨wv, hwv, wd, rfl, hwd⟩ := hR.get (at_map (f := zz) hWn)
      have hDr := hI.rch D0 (List.mem_of_getElem? hWn)
      have hDa := hDr.asc
      have hDl : D0.length ≤ 8 := by
        have h1 : D0.Nodup := hDa.imp fun h => Nat.ne_of_lt h
        have := nodup_len h1 hDr.sub
        omega
      refine ⟨_, rfl, C, rfl, ⟨_, SqL.of (e0 _ _ hC1)⟩, for_it (walk_list (a := C) (xs := (zz (diffB old new)).map V.int)) (fun j σ H => ∃ (W' : List (List Nat)) (v8 v9 : Option V), σ = [some (.ref p), some (.ref q), some (.ref a), some (.ref b), some (.ref C), some (.ref Wl), some (.ref D), some (.int (n : Nat)), v8, v9] ∧ LS H1 D Wl W' H ∧ LMid (okB tabs laid old new) (diffB old new) n D0 j W')
        ⟨W, v8, v9, rfl, ⟨e0, hD, ws, hW, hR⟩, hI.mid hWn⟩ (fun j σ H _ ⟨_, _, _, _, hS, _⟩ => SqL.of (hS.1 _ _ hC1)) ?_ ?_⟩
      · rintro j x' σ H7 H8 hj ⟨W', v8, v9, rfl, hS, hM⟩ ⟨rfl, hx⟩
        obtain ⟨zc, hzc, rfl⟩ := getMapInt hx
        obtain ⟨c0, hc0, rfl⟩ := zz_get hzc
        have hcl0 := List.mem_of_getElem? hc0
        obtain ⟨e7, hD7, ws', hW7, hR7⟩ := id hS
        obtain ⟨wv', hwv', wd', rfl, hwd'⟩ := hR7.get (at_map (f := zz) hM.at_)
        refine ⟨_, rfl, _, rfl, Wl, ws', _, .ref wd', rfl, rfl, SqL.of hW7, atI_nat hwv', _, rfl, (by show 1 ≤ sizeLine; decide), fun tu ntu => ?_⟩
        have t1 := same_new (o := .tup [.int (c0 : Nat)]) ntu
        refine catA_of (SqT.of (t1 _ _ hwd')) upd_same (lenLine (by rw [List.length_map, zz_len, List.length_singleton]; omega)) (by simp) fun p1 H9 t2 hp1 => ?_
        have ezz : (zz D0).map V.int ++ [V.int (c0 : Nat)] = (zz (D0 ++ [c0])).map V.int := by
          rw [zz_app, List.map_append]
          rfl
        rw [ezz] at hp1
        refine ⟨p1, zz (D0 ++ [c0]), rfl, SqT.of hp1, by rw [zz_len, List.length_append, List.length_singleton]; omega, fun ns' p2 perm pw np2 => ?_⟩
        have t3 := same_new (o := .lst (ns'.map V.int)) np2
        refine ⟨p2, _, rfl, .inl ⟨SqL.of upd_same, fun lt nlt => ?_⟩⟩
        have t4 := same_new (o := .tup (ns'.map V.int)) nlt
        have hlt' : (upd (upd H9 p2 (.lst (ns'.map V.int))) lt (.tup (ns'.map V.int))) lt = some (.tup (ns'.map V.int)) := upd_same
        have t14 := t1.trans (t2.trans (t3.trans t4))
        generalize upd (upd H9 p2 (.lst (ns'.map V.int))) lt (.tup (ns'.map V.int)) = HA at hlt' t14 ⊢
        have hSA := hS.same t14
        obtain ⟨eA, hDA, wsA, hWA, hRA⟩ := id hSA
        obtain ⟨wvA, hwvA, wdA, rfl, hwdA⟩ := hRA.get (at_map (f := zz) hM.at_)
        refine ⟨_, rfl, _, rfl, _, rfl, Wl, wsA, _, .ref wdA, rfl, rfl, SqL.of hWA, atI_nat hwvA, wdA, _, rfl, .inr (SqT.of hwdA), rfl, flat_zz _, _, rfl, ?_⟩
        rw [if_pos rfl, inV_nat]
        by_cases hcd : c0 ∈ D0
        · rw [decide_eq_true hcd]
          exact iteF (iteF ⟨W', _, _, rfl, hSA, hM.keep hc0 fun z => absurd hcd z⟩)
        rw [decide_eq_false hcd]
        refine iteT ?_
        have ens : ns' = zz (insN c0 D0) := sorted_insN hDa hcd perm pw
        subst ens
        have hkey : HA lt = some (.tup ((kI (zz (insN c0 D0))).map kV)) := by rw [kI_map]; exact hlt'
        refine ⟨_, rfl, _, rfl, D, _, rfl, DGet.t (k := kI (zz (insN c0 D0))) hDA hkey, ?_⟩
        rw [valV_dkv]
        by_cases hin2 : insN c0 D0 ∈ W'
        · rw [decide_eq_true (mem_zz.mpr hin2)]
          exact ⟨false, rfl, iteF (iteF ⟨W', _, _, rfl, hSA, hM.keep hc0 fun _ _ => hin2⟩)⟩
        rw [decide_eq_false (fun z => hin2 (mem_zz.mp z))]
        refine ⟨true, rfl, iteT ?_⟩
        have e0A := s1.trans eA
        refine ⟨_, rfl, _, rfl, _, rfl, _, rfl, _, rfl, a, b, lt, old, new, insN c0 D0, rfl, same_t e0A ha, same_t e0A hb, SqT.of hlt', hl, by omega, fun HB v8' sB hv8 => ?_⟩
        obtain ⟨st8, rfl, hst8⟩ := hv8
        have e0B := e0A.trans sB
        refine ⟨p, q, st8, ts, ls, tabs, laid, setB old new (insN c0 D0), rfl, same_l e0B hp, hts.imp fun v t (h : TabV K H v t) => h.kp (Kp.of e0B), same_t e0B hq, hls.imp fun v t (h : LdV K H v t) => h.kp (Kp.of e0B), SqT.of hst8, by rw [setB_len]; exact hin, fun HC sC => ⟨_, rfl, ?_⟩⟩
        have sBC := sB.trans sC
        cases hokb : passB tabs laid (setB old new (insN c0 D0)) with
        | false =>
          refine iteF ⟨W', _, _, rfl, hSA.same sBC, hM.keep hc0 fun _ z => ?_⟩
          have z' : passB tabs laid (setB old new (insN c0 D0)) = true := z
          rw [hokb] at z'
          cases z'
        | true =>
          refine iteT ?_
          have hDC := sBC _ _ hDA
          have hWC := sBC _ _ hWA
          have hneWD : Wl ≠ D := ne_of hWC hDC (by intro z; cases z)
          have hWl' : W'.length ≤ 2 ^ 8 := by
            have := Rch.many hC hM.inv.nd hM.inv.rch
            omega
          have hwsA : wsA.length = W'.length := by
            have := hRA.1
            rw [List.length_map] at this
            exact this
          have hWd : (upd HC D (.dT (putK (dkv (W'.map zz)) (kI (zz (insN c0 D0))) (.bl true)))) Wl = some (.lst wsA) := by rw [upd_ne hneWD]; exact hWC
          have hdl : (dkv (W'.map zz)).length = W'.length := by
            unfold dkv
            rw [List.length_map, List.length_map]
          refine ⟨_, rfl, _, rfl, D, _, rfl, DPut.t (k := kI (zz (insN c0 D0))) hDC (sBC _ _ hkey) (ltLine (by rw [hdl]; omega)), ?_⟩
          refine ⟨_, rfl, .inl ⟨rfl, _, SqL.of hWd⟩, _, rfl, Wl, wsA, _, rfl, rfl, hWd, ltLine (by omega), ?_⟩
          exact ⟨W' ++ [insN c0 D0], _, _, rfl, LS.add nD1 nW1 (eA.trans sBC) hDC hWC (hRA.same sBC) hin2 ⟨lt, rfl, sBC _ _ hlt'⟩, hM.add hc0 hcd hokb hin2⟩
      · rintro σ H7 ⟨W', v8, v9, rfl, hS, hM⟩
        rw [List.length_map, zz_len] at hM
        refine ⟨W', _, _, _, rfl, hS, hM.turn, ?_⟩
        exact (List.getElem?_eq_some_iff.mp hM.at_).1
    · rintro σ H5 ⟨W, v7, v8, v9, rfl, hS, hI, hnW⟩
      have := Rch.many hC hI.nd hI.rch
      omega
end
end K29
namespace K29
open PySem PySem.Spec PyProof.Rows L2
theorem ksl_tupA {X : Cx} (K : PySem.W.Frag) (h : X.K = K := by rfl) : SlR X (rSlA K) := by
  subst h
  exact sl_tupA
theorem slA_of {K : PySem.W.Frag} {H : Hp} {t : Addr} {xs : List V} {k : Nat} {Q : VK} (ht : SqT K H t xs) (hk : k ≤ xs.length) (h : ∀ t2 H', Same H H' → SqT K H' t2 (xs.take k) → Q (.ref t2) H') : rSlA K (.ref t) none (some (k : Int)) H Q := by
  have e1 : HT.sIx xs.length 0 none = 0 := rfl
  have e2 : HT.sIx xs.length xs.length (some (k : Int)) = k := by rw [HT.sIx_nat]; omega
  refine ⟨t, xs, rfl, ht, fun z => ?_, fun z p np => ?_⟩
  · rw [e2] at z
    refine h t H (Same.refl _) ?_
    rw [z.2, List.take_length]
    exact ht
  · refine h p _ (same_new np) (SqT.of ?_)
    rw [upd_same]
    unfold cutV
    rw [e1, e2]
    simp
theorem eqvAll_strs : ∀ ys : List Str, PyData.eqvAll (ys.map .str) (ys.map .str) = true
  | [] => rfl
  | y :: ys => by
    rw [List.map_cons, PyData.eqvAll, eqvAll_strs ys]
    simp [PyData.eqv]
theorem canLay_strs : ∀ ys : List Str, (∀ y ∈ ys, PyData.strOk y = true) → PyData.canLayAll0 (ys.map .str) = true
  | [], _ => rfl
  | y :: ys, h => by simp [PyData.canLayAll0, PyData.canLay0, h y (List.mem_cons_self ..), canLay_strs ys fun z hz => h z (List.mem_cons_of_mem _ hz)]
theorem dep_strs : ∀ ys : List Str, PyData.depthAll (ys.map .str) ≤ 1
  | [] => by simp [PyData.depthAll]
  | y :: ys => by
    have := dep_strs ys
    simp [PyData.depthAll, PyData.depth]
    omega
theorem sh_strs (ys : List Str) (h : ∀ y ∈ ys, PyData.strOk y = true) : SeqAt.shaped (.list (ys.map .str)) = true := shaped_of (by simp [PyData.canLay0, canLay_strs ys h]) (by have := dep_strs ys; simp [PyData.depth]; omega)
theorem strs_dp {K : PySem.W.Frag} {H : Hp} : ∀ ys : List Str, DpAll K H (ys.map V.str) (ys.map .str)
  | [] => .nil
  | y :: ys => .cons (.str y) (strs_dp ys)
/-- what repr tells of a number -/
def rp (x : Nat) : Str := toString (x : Int)
theorem rp_ok : ∀ x, x < 8 → PyData.strOk (rp x) = true ∧ (x : Int).natAbs.log2 < 1920 := by decide +kernel
section
variable {P : Program} {w : World} {K : PySem.W.Frag} {mg : Str → Option Value} {base : Heap}
theorem sc_law_way_right : FnScope ["_law_ways_here", "_law_laid", "_law_old", "_law_new", "_law_told", "_law_cells", "_law_cell", "_law_at"] ["_law_ways_here", "_law_laid", "_law_old", "_law_new", "_law_told"] (defScope s_law_way_right) := ⟨rfl, rfl, rfl, by decide +kernel, rfl, by decide +kernel, by decide +kernel⟩
def spRight (K : PySem.W.Frag) : Sp := fun vs H Q _ => ∃ (p q a b t : Addr) (ts ls : List V) (tabs : List (List Row)) (laid : List Ld) (old new : List Int) (pth : List Nat), vs = [.ref p, .ref q, .ref a, .ref b, .ref t] ∧ SqL K H p ts ∧ Al (TabV K H) ts tabs ∧ SqT K H q ls ∧ Al (LdV K H) ls laid ∧ SqT K H a (old.map V.int) ∧ SqT K H b (new.map V.int) ∧
  SqT K H t ((zz pth).map V.int) ∧ LaidIn tabs old.length laid ∧ old.length = new.length ∧ old.length ≤ 8 ∧ PathOk (okB tabs laid old new) (diffB old new) pth ∧ ∀ H', Same H H' → Q (.bl true) H'
theorem c_law_way_right (T : Tx K mg) : Cal P w K mg base CX0 2 "_law_way_right" (spRight K) := by
  refine cal0 T.f_law_way_right T.g_law_way_right sc_law_way_right (fun _ _ _ _ _ _ us hl => match us, hl with | [_, _, _, _, _], _ => rfl) (fun vs H Q E h => ?_) (fun cdv A outer s H vs Q E hr h => ?_)
  · obtain ⟨p, q, a, b, t, ts, ls, tabs, laid, old, new, pth, rfl, _⟩ := h
    rfl
  · obtain ⟨p, q, a, b, t, ts, ls, tabs, laid, old, new, pth, rfl, hp, hts, hq, hls, ha, hb, ht, hin, hl, h8, ⟨perm, hok⟩, fin⟩ := h
    have nd := sc_law_way_right.nd
    refine ⟨_, (pss_cons (ps_setLc (i := 5) (own := [("_law_cell", 6)]) rfl nd rfl rfl (sw_true rfl rfl rfl (by decide +kernel)) (pi_range1 (by rfl) T.z_range (pa_cons (pe_callB call_len_seq (by rfl) T.z_len PySem.boot_len (pa_cons (pv 2) pa_nil)) pa_nil)) (blkOk_by (by kernel_rfl)) (fun _ _ _ _ _ => (pg_name (i := 6) nd rfl (.inl rfl))) (fun _ _ _ _ _ => (pts_one (pt_cmpR op_ne (pe_ix (kix_tup K) (pv 2) (pv 6) (fun _ _ => rfl)) (pe_ix (kix_tup K) (pv 3) (pv 6) (fun _ _ => rfl)) (nomark _)))) (fun _ _ _ _ _ => (pv 6)))
    (pss_cons (ps_if (PW.pt (pw_or (pt_not (pt_val (pe_callB call_isi (by rfl) T.z_isinstance PyProof.Rows.boot_isinstance (pa_cons (pv 4) (pa_cons (pe_ty rfl T.z_tuple PyProof.Rows.boot_tuple) pa_nil))))) (pw_or1 (pt_cmpR (op_neD hr.units) (pe_callB cr_sortedS (by rfl) T.z_sorted PyProof.Rows.boot_sorted (pa_cons (pe_lc (own := [("_law_cell", 6)]) rfl nd (pi_tup (pv 4)) (blkOk_by (by kernel_rfl)) (fun _ _ _ _ _ => (pg_name (i := 6) nd rfl (.inl rfl))) (fun _ _ _ _ _ => pts_nil) (fun _ _ _ _ _ => (pe_callB SkE.call_repr_int (by rfl) T.z_repr PyProof.Rows.boot_repr (pa_cons (pv 6) pa_nil)))) pa_nil)) (pe_callB cr_sortedS (by rfl) T.z_sorted PyProof.Rows.boot_sorted (pa_cons (pe_lc (own := [("_law_cell", 6)]) rfl nd (pi_list (pv 5)) (blkOk_by (by kernel_rfl)) (fun _ _ _ _ _ => (pg_name (i := 6) nd rfl (.inl rfl))) (fun _ _ _ _ _ => pts_nil) (fun _ _ _ _ _ => (pe_callB SkE.call_repr_int (by rfl) T.z_repr PyProof.Rows.boot_repr (pa_cons (pv 6) pa_nil)))) pa_nil)) (nomark _)))))
      (pss_one (ps_ret pe_bl))
      pss_nil)
    (pss_one (ps_ret (pe_cmpR (op_eqD hr.units) (pe_lc (own := [("_law_at", 7)]) rfl nd (pi_range1 (by rfl) T.z_range (pa_cons (pe_op op_add (pe_callB call_len_seq (by rfl) T.z_len PySem.boot_len (pa_cons (pv 4) pa_nil)) pe_int) pa_nil)) (blkOk_by (by kernel_rfl)) (fun _ _ _ _ _ => (pg_name (i := 7) nd rfl (.inl rfl))) (fun _ _ _ _ _ => (pts_one (pt_not (pt_val (pe_cal (c_law_passes T) hr (by decide) pass0 (pa_cons (pv 0) (pa_cons (pv 1) (pa_cons (pe_cal (c_law_set T) hr (by decide) pass0 (pa_cons (pv 2) (pa_cons (pv 3) (pa_cons (pe_slice (ksl_tupA K) (pv 4) po_none (po_some (pv 7))) pa_nil)))) pa_nil)))))))) (fun _ _ _ _ _ => (pv 7))) (pe_lst pa_nil) (nomark _)))))), ?_⟩
    have el : (old.map V.int).length = old.length := List.length_map _
    have hC := diff_asc old new
    have hpl : pth.length ≤ 8 := by
      have := diff_len old new
      have := perm.length_eq
      omega
    have hsmall : ∀ x ∈ pth, x < 8 := fun x hx => by
      have := (diff_mem.mp (perm.mem_iff.mp hx)).1
      omega
    refine ⟨_, rfl, a, _, rfl, .inr ha, _, rfl, by rw [el]; omega, by rw [el]; omega, ?_⟩
    rw [show (((old.map V.int).length : Nat) : Int).toNat = old.length by rw [el]; omega]
    refine fun C nC => lc_diff (a := a) (b := b) (new := new) nC ha hb hl (by omega) ?_ ?_
    · intro i H1 post skip hi s1 hpost hskip
      refine ⟨rfl, _, rfl, _, rfl, a, _, (i : Int), _, rfl, rfl, same_t s1 ha, atI_nat (st_get hi), _, rfl, _, rfl, b, _, (i : Int), _, rfl, rfl, same_t s1 hb, atI_nat (st_get (hl ▸ hi)), rfl, ?_⟩
      by_cases hd : old.getD i 0 = new.getD i 0
      · rw [decide_eq_true (congrArg V.int hd)]
        exact ⟨false, rfl, iteF (hskip hd)⟩
      · rw [decide_eq_false (fun z => hd (by injection z))]
        exact ⟨true, rfl, iteT ⟨_, rfl, hpost hd⟩⟩
    intro H1 s1 hC1
    have ht1 := same_t s1 ht
    have hkt : PySem.W.kitOne K (.type "tuple") (.type "tuple") = some true := kit_ty (by decide +kernel)
    refine ⟨_, rfl, _, _, _, _, true, rfl, .ty _, tyx_tup ht1, hkt, true, rfl, iteF ?_⟩
    have reps : ∀ (x : Nat), x ∈ diffB old new → x < 8 := fun x hx => by
      have := (diff_mem.mp hx).1
      omega
    refine ⟨_, rfl, t, rfl, ⟨_, ht1⟩, fun D nD => lc_pure (walk_tup (a := t) (xs := (zz pth).map V.int)) nD (by rw [List.length_map, zz_len]; omega) (fun i zs H => zs = ((pth.take i).map rp).map V.str) (fun _ _ _ _ _ h => h) (by simp) (fun H s => same_t s ht1) ?_ ?_⟩
    · rintro i x' H2 H3 zs post skip hi s2 hz ⟨rfl, hx⟩ hpost hskip
      obtain ⟨m, hm, rfl⟩ := getMapInt hx
      obtain ⟨n, hn, rfl⟩ := zz_get hm
      refine ⟨rfl, _, rfl, _, rfl, (rp_ok n (hsmall n (List.mem_of_getElem? hn))).2, hpost _ _ (Same.refl _) ?_⟩
      rw [hz, take_snoc hn, List.map_append, List.map_append]
      rfl
    intro H2 zs s2 hD hz
    rw [List.length_map, zz_len, List.take_length] at hz
    refine ⟨D, pth.map rp, rfl, SqL.of (by rw [hD, hz]), by rw [List.length_map]; omega, fun ys D2 py sy nD2 => ?_⟩
    have s3 := same_new (o := .lst (ys.map V.str)) nD2
    have s13 := s2.trans s3
    refine ⟨_, rfl, C, rfl, ⟨_, SqL.of (s13 _ _ hC1)⟩, fun E1 nE => lc_pure (walk_list (a := C) (xs := (zz (diffB old new)).map V.int)) nE (by rw [List.length_map, zz_len]; have := diff_len old new; omega) (fun i zs H => zs = (((diffB old new).take i).map rp).map V.str) (fun _ _ _ _ _ h => h) (by simp) (fun H s => SqL.of (s _ _ (s13 _ _ hC1))) ?_ ?_⟩
    · rintro i x' H4 H5 zs post skip hi s4 hz2 ⟨rfl, hx⟩ hpost hskip
      obtain ⟨m, hm, rfl⟩ := getMapInt hx
      obtain ⟨n, hn, rfl⟩ := zz_get hm
      refine ⟨rfl, _, rfl, _, rfl, (rp_ok n (reps n (List.mem_of_getElem? hn))).2, hpost _ _ (Same.refl _) ?_⟩
      rw [hz2, take_snoc hn, List.map_append, List.map_append]
      rfl
    intro H4 zs2 s4 hE hz2
    rw [List.length_map, zz_len, List.take_length] at hz2
    refine ⟨E1, (diffB old new).map rp, rfl, SqL.of (by rw [hE, hz2]), by rw [List.length_map]; have := diff_len old new; omega, fun ys2 E2 py2 sy2 nE2 => ?_⟩
    have s5 := same_new (o := .lst (ys2.map V.str)) nE2
    have ey : ys = ys2 := sortedS_unique sy sy2 (py.trans ((perm.map rp).trans py2.symm))
    subst ey
    have hys : ∀ y ∈ ys, PyData.strOk y = true := fun y hy => by
      obtain ⟨x, hx, rfl⟩ := List.mem_map.mp (py.mem_iff.mp hy)
      exact (rp_ok x (hsmall x hx)).1
    refine ⟨_, _, .lst (SqL.of (s5 _ _ (s4 _ _ upd_same))) (strs_dp ys), .lst (SqL.of upd_same) (strs_dp ys), sh_strs ys hys, sh_strs ys hys, ?_⟩
    rw [PyData.eqv, eqvAll_strs]
    refine ⟨false, rfl, iteF ?_⟩
    have s15 := s13.trans (s4.trans s5)
    have s05 := s1.trans s15
    generalize upd H4 E2 (.lst (ys.map V.str)) = H5 at s15 s05 ⊢
    have ht5 := same_t s05 ht
    have epl : ((zz pth).map V.int).length = pth.length := by rw [List.length_map, zz_len]
    refine ⟨_, rfl, t, _, rfl, .inr ht5, _, _, rfl, rfl, _, rfl, by rw [epl]; omega, by rw [epl]; omega, ?_⟩
    rw [show ((((zz pth).map V.int).length : Nat) + 1 : Int).toNat = pth.length + 1 by rw [epl]; omega]
    refine fun G nG => lc_pure (walk_rn (n := pth.length + 1)) nG (by omega) (fun i zs H => zs = []) (fun _ _ _ _ _ h => h) rfl (fun H s => trivial) ?_ ?_
    · rintro k x' H6 H7 zs post skip hk s6 hz3 ⟨rfl, rfl⟩ hpost hskip
      have s06 := s05.trans s6
      refine ⟨rfl, _, rfl, _, rfl, _, rfl, _, rfl, _, rfl, _, rfl, (k : Int), rfl, slA_of (same_t s06 ht) (by rw [epl]; omega) fun t2 H8 s8 ht2 => ?_⟩
      rw [← List.map_take, show (zz pth).take k = zz (pth.take k) from List.map_take.symm] at ht2
      have s08 := s06.trans s8
      refine ⟨a, b, t2, old, new, pth.take k, rfl, same_t s08 ha, same_t s08 hb, ht2, hl, by omega, fun H9 v9 s9 hv9 => ?_⟩
      obtain ⟨st, rfl, hst⟩ := hv9
      have s09 := s08.trans s9
      refine ⟨p, q, st, ts, ls, tabs, laid, setB old new (pth.take k), rfl, same_l s09 hp, hts.imp fun v t (h : TabV K H v t) => h.kp (Kp.of s09), same_t s09 hq, hls.imp fun v t (h : LdV K H v t) => h.kp (Kp.of s09), SqT.of hst, by rw [setB_len]; exact hin, fun H10 s10 => ⟨_, rfl, ?_⟩⟩
      rw [show passB tabs laid (setB old new (pth.take k)) = true from hok k (by omega)]
      exact iteF (hskip _ (s8.trans (s9.trans s10)) hz3)
    · intro H6 zs s6 hG hz3
      subst hz3
      refine ⟨by show 0 ≤ sizeLine; decide, fun e ne => ?_⟩
      have s7 := same_new (o := .lst []) ne
      refine ⟨_, _, .lst (SqL.of (s7 _ _ hG)) .nil, .lst (SqL.of upd_same) .nil, sh_nil, sh_nil, ?_⟩
      exact fin _ (s05.trans (s6.trans s7))
end
end K29
namespace K29
open PySem PySem.Spec PyProof.Rows L2
/-! ### rows mixed of two -/
def MixOk (one other : List Int) (n : Nat) (rows : List (List Int)) : Prop := ∀ r ∈ rows, r.length = n ∧ ∀ (i : Nat) x, r[i]? = some x → one[i]? = some x ∨ other[i]? = some x
theorem mix_app {one other : List Int} {n : Nat} {r s : List (List Int)} (h : MixOk one other n r) (h' : MixOk one other n s) : MixOk one other n (r ++ s) := fun x hx => (List.mem_append.mp hx).elim (h x) (h' x)
theorem mix_ext {one other : List Int} {n : Nat} {r : List Int} {k : Int} (h : r.length = n ∧ ∀ (i : Nat) x, r[i]? = some x → one[i]? = some x ∨ other[i]? = some x) (hk : one[n]? = some k ∨ other[n]? = some k) : (r ++ [k]).length = n + 1 ∧ ∀ (i : Nat) x, (r ++ [k])[i]? = some x → one[i]? = some x ∨ other[i]? = some x := by
  refine ⟨by rw [List.length_append, h.1]; rfl, fun i x hx => ?_⟩
  by_cases hi : i < n
  · rw [List.getElem?_append_left (by rw [h.1]; exact hi)] at hx
    exact h.2 i x hx
  · rw [List.getElem?_append_right (by rw [h.1]; omega), h.1] at hx
    match hj : i - n with
    | 0 =>
      rw [hj] at hx
      cases hx
      have : i = n := by omega
      rw [this]
      exact hk
    | j + 1 =>
      rw [hj] at hx
      simp at hx
section
variable {P : Program} {w : World} {K : PySem.W.Frag} {mg : Str → Option Value} {base : Heap}
theorem sc_law_mixed : FnScope ["_law_one", "_law_other", "_law_found", "_law_old", "_law_new", "_law_longer", "_law_row", "_law_number"] ["_law_one", "_law_other"] (defScope s_law_mixed) := ⟨rfl, rfl, rfl, by decide +kernel, rfl, by decide +kernel, by decide +kernel⟩
def spMixed (K : PySem.W.Frag) : Sp := fun vs H Q _ => ∃ (a b : Addr) (one other : List Int), vs = [.ref a, .ref b] ∧ SqT K H a (one.map V.int) ∧ SqT K H b (other.map V.int) ∧ one.length = other.length ∧ one.length ≤ 3 ∧
  ∀ H' p xs rows, Same H H' → H' p = some (.lst xs) → Rws H' xs rows → MixOk one other one.length rows → rows.length ≤ 8 → Q (.ref p) H'
theorem c_law_mixed (T : Tx K mg) : Cal P w K mg base CX0 1 "_law_mixed" (spMixed K) := by
  refine cal0 T.f_law_mixed T.g_law_mixed sc_law_mixed (fun _ _ _ _ _ _ us hl => match us, hl with | [_, _], _ => rfl) (fun vs H Q E h => ?_) (fun cdv A outer s H vs Q E hr h => ?_)
  · obtain ⟨a, b, one, other, rfl, _⟩ := h
    rfl
  · obtain ⟨a, b, one, other, rfl, ha, hb, hl, h3, fin⟩ := h
    have nd := sc_law_mixed.nd
    refine ⟨_, (pss_cons (ps_set (i := 2) nd rfl (.inl rfl) (pe_lst (pa_cons (pe_tup pa_nil) pa_nil)))
    (pss_cons (ps_for PassesOwn.never rfl (pi_zipM (by rfl) T.z_zip (pa_cons (pv 0) (pa_cons (pv 1) pa_nil))) (pg_tup rfl (pgs_cons (pg_name (i := 3) nd rfl (.inl rfl)) (pgs_cons (pg_name (i := 4) nd rfl (.inl rfl)) pgs_nil)))
      (pss_cons (ps_set (i := 5) nd rfl (.inl rfl) (pe_lst pa_nil))
      (pss_cons (ps_for PassesOwn.never rfl (pi_list (pv 2)) (pg_name (i := 6) nd rfl (.inr rfl))
        (pss_one (ps_set (i := 5) nd rfl (.inl rfl) (pe_op op_cat (pv 5) (pe_lc (own := [("_law_number", 7)]) rfl nd (pi_list (pe_callB (cr_sortedSet rfl) (by rfl) T.z_sorted PyProof.Rows.boot_sorted (pa_cons (pe_callTy (cr_setOfI rfl) (by rfl) T.z_set PyProof.Rows.boot_set (pa_cons (pe_lst (pa_cons (pv 3) (pa_cons (pv 4) pa_nil))) pa_nil)) pa_nil))) (blkOk_by (by kernel_rfl)) (fun _ _ _ _ _ => (pg_name (i := 7) nd rfl (.inl rfl))) (fun _ _ _ _ _ => pts_nil) (fun _ _ _ _ _ => (pe_op (kop_catA K) (pv 6) (pe_tup (pa_cons (pv 7) pa_nil)))))))))
      (pss_one (ps_set (i := 2) nd rfl (.inl rfl) (pv 5))))))
    (pss_one (ps_ret (pv 2))))), ?_⟩
    refine ⟨Nat.zero_le _, fun u nu => ⟨(by show 1 ≤ sizeLine; decide), fun l nl => ?_⟩⟩
    have s1 := same_new (o := .tup []) nu
    have s2 := same_new (o := .lst [.ref u]) nl
    have s0 : Same H (upd (upd H u (.tup [])) l (.lst [.ref u])) := s1.trans s2
    refine ⟨_, rfl, _, rfl, false, false, a, b, _, _, rfl, same_t s0 ha, same_t s0 hb, for_it (walk_zipM (l1 := false) (l2 := false) (xs := one.map V.int) (ys := other.map V.int) (by rw [List.length_map, List.length_map, hl])) (fun i σ H2 => ∃ (p : Addr) (xs : List V) (rows : List (List Int)) (v3 v4 v5 v6 : Option V), σ = [some (.ref a), some (.ref b), some (.ref p), v3, v4, v5, v6, none] ∧ Same H H2 ∧ H2 p = some (.lst xs) ∧ Rws H2 xs rows ∧ MixOk one other i rows ∧ rows.length ≤ 2 ^ i)
      ⟨l, [.ref u], [[]], none, none, none, none, rfl, s0, upd_same, .one ⟨u, rfl, s2 _ _ upd_same⟩, fun r hr' => by rw [List.mem_singleton.mp hr']; exact ⟨rfl, fun i x z => by simp at z⟩, by decide⟩ (fun i σ H2 _ ⟨_, _, _, _, _, _, _, _, sm, _⟩ => ⟨same_t sm ha, same_t sm hb⟩) ?_ ?_⟩
    · rintro i x' σ H2 H3 hi ⟨p, xs, rows, v3, v4, v5, v6, rfl, sm, hp, hR, hM, hlen⟩ ⟨t, x1, x2, rfl, nT, rfl, e1, e2⟩
      obtain ⟨x, hx, rfl⟩ := getMapInt e1
      obtain ⟨y, hy, rfl⟩ := getMapInt e2
      have s3 := same_new (o := .tup [.int x, .int y]) nT
      rw [List.length_map] at hi
      refine ⟨t, _, rfl, SqT.of upd_same, rfl, _, _, rfl, _, _, rfl, rfl, ?_⟩
      generalize upd H2 t (.tup [.int x, .int y]) = H3 at s3 ⊢
      refine ⟨Nat.zero_le _, fun l2 nl2 => ?_⟩
      have s4 := same_new (o := .lst []) nl2
      have s34 := s3.trans s4
      have hi3 : i < 3 := by omega
      have h2i : 2 ^ i ≤ 4 := by
        have : 2 ^ i ≤ 2 ^ 2 := Nat.pow_le_pow_right (by decide) (by omega)
        omega
      refine ⟨_, rfl, p, rfl, ⟨_, SqL.of (s34 _ _ hp)⟩, for_it (walk_list (a := p) (xs := xs)) (fun j σ H4 => ∃ (q' : Addr) (ys : List V) (rows2 : List (List Int)) (v6 : Option V), σ = [some (.ref a), some (.ref b), some (.ref p), some (.int x), some (.int y), some (.ref q'), v6, none] ∧ Same H3 H4 ∧ H4 q' = some (.lst ys) ∧ Rws H4 ys rows2 ∧ MixOk one other (i + 1) rows2 ∧ rows2.length ≤ 2 * j)
        ⟨l2, [], [], v6, rfl, s4, upd_same, Rws.nil, fun r hr' => by simp at hr', Nat.zero_le _⟩ (fun j σ H4 _ ⟨_, _, _, _, _, sm3, _⟩ => SqL.of (sm3 _ _ (s3 _ _ hp))) ?_ ?_⟩
      · rintro j v σ H4 H5 hj ⟨q', ys, rows2, v6, rfl, sm3, hq, hdq, hM2, hlen2⟩ ⟨rfl, hv⟩
        obtain ⟨r, hr1, hd2⟩ := (hR.same (s3.trans sm3)).at hv
        obtain ⟨tr, rfl, htr⟩ := hd2
        have hjl : j < rows.length := by rw [← hR.1]; exact hj
        have hrow := hM r (List.mem_of_getElem? hr1)
        refine ⟨_, rfl, _, rfl, _, rfl, (by show 2 ≤ sizeLine; decide), fun lp nlp => ?_⟩
        have t1 := same_new (o := .lst [.int x, .int y]) nlp
        refine ⟨lp, [x, y], rfl, SqL.of upd_same, (by show 2 < 60; decide), fun sa cnt nsa hcnt => ?_⟩
        have t2 := same_new (o := SetO w sa (fun j => decide (j ∈ [x, y])) cnt) nsa
        refine ⟨sa, _, cnt, rfl, upd_same, (by have : cnt ≤ 2 := hcnt; omega), fun ns ls pw hmem hcl nls => ?_⟩
        have t3 := same_new (o := .lst (ns.map V.int)) nls
        have t13 := t1.trans (t2.trans t3)
        have hls : (upd (upd (upd H5 lp (.lst [.int x, .int y])) sa (SetO w sa (fun j => decide (j ∈ [x, y])) cnt)) ls (.lst (ns.map V.int))) ls = some (.lst (ns.map V.int)) := upd_same
        have hns2 : ns.length ≤ 2 := by
          have : cnt ≤ 2 := hcnt
          omega
        refine ⟨ls, rfl, ⟨_, SqL.of hls⟩, fun D nD => lc_pure (walk_list (a := ls) (xs := ns.map V.int)) nD (by rw [List.length_map]; omega) (fun k zs H => ∃ rows3, Rws H zs rows3 ∧ MixOk one other (i + 1) rows3 ∧ rows3.length = k) (fun k zs H H' kp ⟨rows3, h1, h2, h3⟩ => ⟨rows3, h1.kp kp, h2, h3⟩) ⟨[], Rws.nil, fun r hr' => by simp at hr', rfl⟩ (fun H s => SqL.of (s _ _ hls)) ?_ ?_⟩
        · rintro k z H7 H8 zs post skip hk s7 ⟨rows3, hz1, hz2, hz3⟩ ⟨rfl, hz⟩ hpost hskip
          obtain ⟨n, hn, rfl⟩ := getMapInt hz
          have hnm : n = x ∨ n = y := by
            have := of_decide_eq_true ((hmem n).mp (List.mem_of_getElem? hn))
            simpa using this
          have hk' : one[i]? = some n ∨ other[i]? = some n := hnm.elim (fun e => .inl (e ▸ hx)) (fun e => .inr (e ▸ hy))
          refine ⟨rfl, _, rfl, _, rfl, (by show 1 ≤ sizeLine; decide), fun t2 nt2 => ?_⟩
          have s8 := same_new (o := .tup [.int n]) nt2
          refine catA_of (SqT.of (s8 _ _ (s7 _ _ (t13 _ _ htr)))) upd_same (lenLine (by rw [List.length_map, hrow.1, List.length_singleton]; omega)) (by simp) fun p9 H9 s9 hp9 => ?_
          refine hpost _ _ (s8.trans s9) ⟨rows3 ++ [r ++ [n]], (hz1.same (s8.trans s9)).snoc ⟨p9, rfl, ?_⟩, mix_app hz2 fun r' hr' => ?_, by rw [List.length_append, hz3]; rfl⟩
          · rw [hp9, List.map_append]
            rfl
          · rw [List.mem_singleton.mp hr']
            exact mix_ext hrow hk'
        · rintro H7 zs s7 hD ⟨rows3, hz1, hz2, hz3⟩
          rw [List.length_map] at hz3
          have hq7 := s7 _ _ (t13 _ _ hq)
          have hlr := hdq.1
          have hlz := hz1.1
          refine ⟨q', D, ys, zs, rfl, rfl, hq7, hD, lenLine (by omega), fun p2 np2 => ?_⟩
          have s8 := same_new (o := .lst (ys ++ zs)) np2
          refine ⟨p2, ys ++ zs, rows2 ++ rows3, _, rfl, sm3.trans (t13.trans (s7.trans s8)), upd_same, (hdq.same (t13.trans (s7.trans s8))).app (hz1.same s8), mix_app hM2 hz2, ?_⟩
          rw [List.length_append]
          omega
      · rintro σ H4 ⟨q', ys, rows2, v6, rfl, sm3, hq, hdq, hM2, hlen2⟩
        refine ⟨_, rfl, q', ys, rows2, _, _, _, _, rfl, sm.trans (s3.trans sm3), hq, hdq, hM2, ?_⟩
        have := hR.1
        rw [Nat.pow_succ]
        omega
    · rintro σ H2 ⟨p, xs, rows, v3, v4, v5, v6, rfl, sm, hp, hR, hM, hlen⟩
      rw [List.length_map] at hM hlen
      have h8 : 2 ^ one.length ≤ 2 ^ 3 := Nat.pow_le_pow_right (by decide) h3
      exact ⟨_, rfl, fin _ p xs rows sm hp hR hM (by omega)⟩
end
end K29
namespace K29
open PySem PySem.Spec PyProof.Rows L2
theorem pe_weak {X : Cx} {e : Expr} {t t' : TE} (h : PE X e t) (k : ∀ σ H Q, t' σ H Q → t σ H Q) : PE X e t' := ⟨fun pins s σ H Q I q => h.run pins s σ H Q I (k σ H Q q)⟩
/-- [row for row in rows if ..] with draws -/
theorem lc_sel {K : PySem.W.Frag} {g : TG} {tt : TT} {te : TE} {vs : List Nat} {σ : L2.St} {H1 : Hp} {D p bx : Addr} {Qd : Hp → Prop} {xs : List V} {rows : List (List Int)} (nD : H1 D = none) (hb : BoxAt H1 bx) (hp : H1 p = some (.lst xs)) (npb : p ≠ bx) (hR : Rws H1 xs rows) (hn : rows.length ≤ 100000)
    (turn : ∀ (i : Nat) (r : List Int) (v : V) (H : Hp) (post : V → Hp → Prop) (skip : Hp → Prop), rows[i]? = some r → Gr bx H1 H → BoxAt H bx → Rw H v r → (∀ H4, Gr bx H H4 → BoxAt H4 bx → post v H4) → (∀ H4, Gr bx H H4 → BoxAt H4 bx → skip H4) →
      g v (wipe σ vs) H fun σ2 H2 => wipe σ2 vs = wipe σ vs ∧ tt σ2 H2 fun b H3 => if b = true then te σ2 H3 post else skip H3)
    (done : ∀ H zs rows', Gr bx H1 H → BoxAt H bx → H D = some (.lst zs) → Rws H zs rows' → (∀ r ∈ rows', r ∈ rows) → rows'.length ≤ rows.length → Qd H) :
    ∃ W : Nat → Nat → Hp → Prop, (∃ m, W 0 m (upd H1 D (.lst []))) ∧ ∀ i m H, W i m H →
      ((Itl K p).stop i H ∧ Qd H) ∨ ((Itl K p).go i H ∧ ∃ Nx : Hp → Prop, (∀ H', Nx H' → ∃ m', m' < m ∧ W (i + 1) m' H') ∧ ∀ x H', (Itl K p).yld i H x H' → g x (wipe σ vs) H' fun σ2 H2 => wipe σ2 vs = wipe σ vs ∧ tt σ2 H2 fun b H3 =>
        if b = true then te σ2 H3 fun y H4 => ∃ acc, H4 D = some (.lst acc) ∧ acc.length < sizeLine ∧ Nx (upd H4 D (.lst (acc ++ [y]))) else Nx H3) := by
  have e : xs.length = rows.length := hR.1
  refine lc_box (walk_list (a := p) (xs := xs)) nD hb (by omega) (fun i zs H => ∃ rows', Rws H zs rows' ∧ (∀ r ∈ rows', r ∈ rows) ∧ rows'.length ≤ i) (fun i zs H H' k ⟨rows', h1, h2, h3⟩ => ⟨rows', h1.kp k, h2, h3⟩) ⟨[], Rws.nil, fun r hr => by simp at hr, Nat.zero_le _⟩ (fun H s => SqL.of (s _ _ npb hp)) ?_ ?_
  · rintro i x H H' zs post skip hi s hbH ⟨rows', h1, h2, h3⟩ ⟨rfl, hx⟩ hpost hskip
    obtain ⟨r, hr1, hr2⟩ := (hR.kp (hb.kp s)).at hx
    refine turn i r x _ post skip hr1 s hbH hr2 (fun H4 s4 hb4 => hpost _ _ s4 hb4 ⟨rows' ++ [r], (h1.kp (hbH.kp s4)).snoc (hr2.kp (hbH.kp s4)), fun q hq => ?_, by rw [List.length_append, List.length_singleton]; omega⟩) (fun H4 s4 hb4 => hskip _ s4 hb4 ⟨rows', h1.kp (hbH.kp s4), h2, by omega⟩)
    rcases List.mem_append.mp hq with hq | hq
    · exact h2 q hq
    · rw [List.mem_singleton.mp hq]
      exact List.mem_of_getElem? hr1
  · rintro H zs s hbH hD ⟨rows', h1, h2, h3⟩
    exact done H zs rows' s hbH hD h1 h2 (by omega)
/-! ### a drawn book -/
def GoodCols (cs : List Int) : Prop := cs = [2, 2] ∨ cs = [2] ∨ cs = [3] ∨ cs = [2, 1, 2] ∨ cs = [2, 3]
theorem GoodCols.ok {cs : List Int} (h : GoodCols cs) : ColsOk cs ∧ (∀ n ∈ cs, 1 ≤ n ∧ n ≤ 3) ∧ cs.length ≤ 3 ∧ cs ≠ [2, 2, 2] := by
  rcases h with rfl | rfl | rfl | rfl | rfl <;> exact ⟨⟨by decide, by decide, by decide⟩, by decide, by decide, by decide⟩
theorem all_good : ∀ r ∈ ([[2, 2], [2], [2, 2], [3], [2, 1, 2]] : List (List Int)), GoodCols r := by
  intro r hr
  simp only [List.mem_cons, List.not_mem_nil, or_false] at hr
  unfold GoodCols
  rcases hr with h | h | h | h | h <;> rw [h] <;> simp
def BookOk (cols : List Int) (cs : List Chk) : Prop := ∀ c ∈ cs, CheckOk cols c ∧ RowsOk c.1.length c.2
/-- a drawn check suits -/
theorem chk_ok {cols places : List Int} {rows : List (List Int)} (hg : GoodCols cols) (h1 : 1 ≤ places.length) (h3 : places.length ≤ 3) (hp : ∀ p ∈ places, 0 ≤ p ∧ p < cols.length) (hr : ∀ r ∈ rows, r ∈ choices (colsAt cols places)) (hl : rows.length ≤ 27) : CheckOk cols (places, rows) ∧ RowsOk places.length rows := by
  obtain ⟨_, h13, _, _⟩ := hg.ok
  have hss : ∀ s ∈ colsAt cols places, 1 ≤ s ∧ s ≤ 3 := fun s hs => by
    obtain ⟨p, hpp, rfl⟩ := List.mem_map.mp hs
    obtain ⟨p0, p1⟩ := hp p hpp
    have hlt : p.toNat < cols.length := by omega
    rw [List.getD_eq_getElem?_getD, List.getElem?_eq_getElem hlt]
    exact h13 _ (List.getElem_mem hlt)
  refine ⟨⟨h1, h3, hp, (by show rows.length ≤ 1000; omega), fun r hr' => ?_⟩, (by omega : rows.length < 64), fun r hr' => ?_⟩
  · obtain ⟨e, hb⟩ := choices_mem.mp (hr r hr')
    exact ⟨e, hb⟩
  · obtain ⟨e, hb⟩ := choices_mem.mp (hr r hr')
    refine ⟨by rw [e, colsAt_len], fun x hx => ?_⟩
    obtain ⟨i, hi, ei⟩ := List.mem_iff_getElem.mp hx
    have hi2 : i < (colsAt cols places).length := by omega
    obtain ⟨b0, b1⟩ := hb i x _ (by rw [List.getElem?_eq_getElem hi, ei]) (List.getElem?_eq_getElem hi2)
    have := hss _ (List.getElem_mem hi2)
    omega
section
variable {P : Program} {w : World} {K : PySem.W.Frag} {mg : Str → Option Value} {base : Heap}
theorem sc_law_book : FnScope ["_law_box_here", "_law_columns", "_law_checks", "_law_turn", "_law_places", "_law_rows", "_law_style", "_law_place", "_law_row"] ["_law_box_here"] (defScope s_law_book) := ⟨rfl, rfl, rfl, by decide +kernel, rfl, by decide +kernel, by decide +kernel⟩
def spBook (K : PySem.W.Frag) : Sp := fun vs H Q _ => ∃ (bx : Addr), vs = [.ref bx] ∧ BoxAt H bx ∧
  ∀ (H' : Hp) (t ca kl : Addr) (ks : List V) (cols : List Int) (cs : List Chk), Gr bx H H' → BoxAt H' bx → H' t = some (.tup [.ref ca, .ref kl]) → H' ca = some (.tup (cols.map V.int)) → H' kl = some (.lst ks) → ChkVs K H' ks cs → GoodCols cols → BookOk cols cs → 1 ≤ cs.length → cs.length ≤ 2 → Q (.ref t) H'
/-- the last of the columns: drawn -/
def tLast : TE := fun σ H Q => ∃ bx, σ[0]? = some (some (V.ref bx)) ∧ BoxAt H bx ∧ ∀ (H' : Hp) (p : Addr) (c6 : List Int), Gr bx H H' → BoxAt H' bx → H' p = none → GoodCols c6 → Q (.ref p) (upd H' p (.tup (c6.map V.int)))
/-- how many places: of a list of numbers up to three -/
def tMany (K : PySem.W.Frag) : TE := fun σ H Q => ∃ (ca : Addr) (cols : List Int), σ[1]? = some (some (V.ref ca)) ∧ SqT K H ca (cols.map V.int) ∧ 1 ≤ cols.length ∧ ∀ (p : Addr) (ns : List Int), H p = none → 1 ≤ ns.length → ns.length ≤ 4 → (∀ n ∈ ns, 1 ≤ n ∧ n ≤ 3) → Q (.ref p) (upd H p (.lst (ns.map V.int)))
theorem c_law_book (T : Tx K mg) : Cal P w K mg base CX0 3 "_law_book" (spBook K) := by
  refine cal0 T.f_law_book T.g_law_book sc_law_book (fun _ _ _ _ _ _ us hl => match us, hl with | [_], _ => rfl) (fun vs H Q E h => ?_) (fun cdv A outer s H vs Q E hr h => ?_)
  · obtain ⟨bx, rfl, _⟩ := h
    rfl
  · obtain ⟨bx, rfl, hb, fin⟩ := h
    have nd := sc_law_book.nd
    refine ⟨_, (pss_cons (ps_set (i := 1) nd rfl (.inr rfl) (pe_cal (c_law_pick T) hr (by decide) pass0 (pa_cons (pv 0) (pa_cons (pe_lst (pa_cons (pe_tup (pa_cons pe_int (pa_cons pe_int pa_nil))) (pa_cons (pe_tup (pa_cons pe_int pa_nil)) (pa_cons (pe_tup (pa_cons pe_int (pa_cons pe_int pa_nil))) (pa_cons (pe_tup (pa_cons pe_int pa_nil)) (pa_cons (pe_tup (pa_cons pe_int (pa_cons pe_int (pa_cons pe_int pa_nil)))) (pa_cons (pe_weak (t' := tLast) (pe_ifExp (pt_cmpR op_eq (pe_cal (c_law_take T) hr (by decide) pass0 (pa_cons (pv 0) (pa_cons pe_int pa_nil))) pe_int (nomark _)) (pe_tup (pa_cons pe_int (pa_cons pe_int pa_nil))) (pe_tup (pa_cons pe_int (pa_cons pe_int pa_nil)))) (fun σ H Q h => ?_)) pa_nil))))))) pa_nil))))
    (pss_cons (ps_set (i := 2) nd rfl (.inl rfl) (pe_lst pa_nil))
    (pss_cons (ps_for PassesOwn.never rfl (pi_range1 (by rfl) T.z_range (pa_cons (pe_op op_add pe_int (pe_cal (c_law_take T) hr (by decide) pass0 (pa_cons (pv 0) (pa_cons pe_int pa_nil)))) pa_nil)) (pg_name (i := 3) nd rfl (.inl rfl))
      (pss_cons (ps_set (i := 4) nd rfl (.inl rfl) (pe_callTy call_tuple_of (by rfl) T.z_tuple PyProof.Rows.boot_tuple (pa_cons (pe_lc (own := [("_law_place", 7)]) rfl nd (pi_range1 (by rfl) T.z_range (pa_cons (pe_cal (c_law_pick T) hr (by decide) pass0 (pa_cons (pv 0) (pa_cons (pe_weak (t' := tMany K) (pe_ifExp (pt_cmpR op_lt (pe_callB (cr_maxTI rfl hr.units) (by rfl) T.z_max PyProof.Rows.boot_max (pa_cons (pv 1) pa_nil)) pe_int (nomark _)) (pe_lst (pa_cons pe_int (pa_cons pe_int (pa_cons pe_int (pa_cons pe_int pa_nil))))) (pe_lst (pa_cons pe_int (pa_cons pe_int pa_nil)))) (fun σ H Q h => ?_)) pa_nil))) pa_nil)) (blkOk_by (by kernel_rfl)) (fun _ _ _ _ _ => (pg_name (i := 7) nd rfl (.inl rfl))) (fun _ _ _ _ _ => pts_nil) (fun _ _ _ _ _ => (pe_cal (c_law_take T) hr (by decide) pass0 (pa_cons (pv 0) (pa_cons (pe_callB (kcall_len_seq K) (by rfl) T.z_len PySem.boot_len (pa_cons (pv 1) pa_nil)) pa_nil))))) pa_nil)))
      (pss_cons (ps_par (i := 5) (j := 6) rfl nd rfl rfl (by decide) rfl rfl (pa_cons (pe_cal (c_law_choices T) hr (by decide) pass0 (pa_cons (pe_lc (own := [("_law_place", 7)]) rfl nd (pi_tup (pv 4)) (blkOk_by (by kernel_rfl)) (fun _ _ _ _ _ => (pg_name (i := 7) nd rfl (.inl rfl))) (fun _ _ _ _ _ => pts_nil) (fun _ _ _ _ _ => (pe_ix (kix_tup K) (pv 1) (pv 7) (fun _ _ => rfl)))) pa_nil)) (pa_cons (pe_cal (c_law_take T) hr (by decide) pass0 (pa_cons (pv 0) (pa_cons pe_int pa_nil))) pa_nil)) (by rfl))
      (C8.pss_cut (ps_if (pt_cmpR op_eq (pv 6) pe_int (nomark _))
        (pss_one (ps_setLc (i := 5) (own := [("_law_row", 8)]) rfl nd rfl rfl (sw_true rfl rfl rfl (by decide +kernel)) (pi_list (pv 5)) (blkOk_by (by kernel_rfl)) (fun _ _ _ _ _ => (pg_name (i := 8) nd rfl (.inl rfl))) (fun _ _ _ _ _ => (pts_one (pt_cmpR op_le (pe_callB (cr_sumTI K rfl) (by rfl) T.z_sum PyProof.Rows.boot_sum (pa_cons (pv 8) pa_nil)) (pe_op op_add pe_int (pe_cal (c_law_take T) hr (by decide) pass0 (pa_cons (pv 0) (pa_cons pe_int pa_nil)))) (nomark _)))) (fun _ _ _ _ _ => (pv 8))))
        (pss_one (ps_if (pt_cmpR op_eq (pv 6) pe_int (nomark _))
          (pss_one (ps_setLc (i := 5) (own := [("_law_row", 8)]) rfl nd rfl rfl (sw_true rfl rfl rfl (by decide +kernel)) (pi_list (pv 5)) (blkOk_by (by kernel_rfl)) (fun _ _ _ _ _ => (pg_name (i := 8) nd rfl (.inl rfl))) (fun _ _ _ _ _ => (pts_one (pt_cmpR op_le (pe_ix (kix_tup K) (pv 8) pe_int (fun _ _ => rfl)) (pe_ix (kix_tup K) (pv 8) (pe_op op_sub (pe_callB (kcall_len_seq K) (by rfl) T.z_len PySem.boot_len (pa_cons (pv 8) pa_nil)) pe_int) (fun _ _ => rfl)) (nomark _)))) (fun _ _ _ _ _ => (pv 8))))
          (pss_one (ps_setLc (i := 5) (own := [("_law_row", 8)]) rfl nd rfl rfl (sw_true rfl rfl rfl (by decide +kernel)) (pi_list (pv 5)) (blkOk_by (by kernel_rfl)) (fun _ _ _ _ _ => (pg_name (i := 8) nd rfl (.inl rfl))) (fun _ _ _ _ _ => (pts_one (pt_cmpR op_gt (pe_cal (c_law_take T) hr (by decide) pass0 (pa_cons (pv 0) (pa_cons pe_int pa_nil))) pe_int (nomark _)))) (fun _ _ _ _ _ => (pv 8)))))))
      (pss_one (ps_expr (pe_bm PySem.F.plainAttrs_list PySem.F.slot_list_append PySem.F.type_list_append mt_append (pv 2) (pa_cons (pe_tup (pa_cons (pv 4) (pa_cons (pe_callTy call_tuple_of (by rfl) T.z_tuple PyProof.Rows.boot_tuple (pa_cons (pv 5) pa_nil)) pa_nil))) pa_nil))))))))
    (pss_one (ps_ret (pe_tup (pa_cons (pv 1) (pa_cons (pv 2) pa_nil)))))))), ?_⟩
    · obtain ⟨bx, e0, hb, h⟩ := h
      refine ⟨_, e0, bx, 4, rfl, hb, by decide, by decide, fun H' r g hb' r0 r1 => ⟨rfl, _, rfl, ?_⟩⟩
      refine ite2 (fun _ => ⟨by show 2 ≤ sizeLine; decide, fun p np => h H' p [2, 3] g hb' np (by simp [GoodCols])⟩) (fun _ => ⟨by show 2 ≤ sizeLine; decide, fun p np => h H' p [2, 2] g hb' np (by simp [GoodCols])⟩)
    · obtain ⟨ca, cols, e1, hc, h1, h⟩ := h
      refine ⟨_, e1, ca, cols, rfl, hc, h1, fun m => ⟨_, _, rfl, rfl, _, rfl, ?_⟩⟩
      refine ite2 (fun _ => ⟨by show 4 ≤ sizeLine; decide, fun p np => h p [2, 2, 3, 1] np (by decide) (by decide) (by decide)⟩) (fun _ => ⟨by show 2 ≤ sizeLine; decide, fun p np => h p [2, 1] np (by decide) (by decide) (by decide)⟩)
    -- the columns
    refine ⟨_, rfl, (by show 2 ≤ sizeLine; decide), fun a1 n1 => ⟨(by show 1 ≤ sizeLine; decide), fun a2 n2 => ⟨(by show 2 ≤ sizeLine; decide), fun a3 n3 => ⟨(by show 1 ≤ sizeLine; decide), fun a4 n4 => ⟨(by show 3 ≤ sizeLine; decide), fun a5 n5 => ?_⟩⟩⟩⟩⟩
    have R1 : Rws (upd H a1 (.tup [.int 2, .int 2])) [.ref a1] [[2, 2]] := Rws.one ⟨a1, rfl, upd_same⟩
    have e1 := same_new (o := .tup [.int 2, .int 2]) n1
    generalize upd H a1 (.tup [.int 2, .int 2]) = G1 at R1 e1 n2 n3 n4 n5 ⊢
    have e2 := same_new (o := .tup [.int 2]) n2
    have R2 := (R1.same e2).snoc (r := [2]) ⟨a2, rfl, upd_same⟩
    generalize upd G1 a2 (.tup [.int 2]) = G2 at R2 e2 n3 n4 n5 ⊢
    have e3 := same_new (o := .tup [.int 2, .int 2]) n3
    have R3 := (R2.same e3).snoc (r := [2, 2]) ⟨a3, rfl, upd_same⟩
    generalize upd G2 a3 (.tup [.int 2, .int 2]) = G3 at R3 e3 n4 n5 ⊢
    have e4 := same_new (o := .tup [.int 3]) n4
    have R4 := (R3.same e4).snoc (r := [3]) ⟨a4, rfl, upd_same⟩
    generalize upd G3 a4 (.tup [.int 3]) = G4 at R4 e4 n5 ⊢
    have e5 := same_new (o := .tup [.int 2, .int 1, .int 2]) n5
    have R5 := (R4.same e5).snoc (r := [2, 1, 2]) ⟨a5, rfl, upd_same⟩
    generalize upd G4 a5 (.tup [.int 2, .int 1, .int 2]) = G5 at R5 e5 ⊢
    have eS : Same H G5 := e1.trans (e2.trans (e3.trans (e4.trans e5)))
    have hb5 := hb.same eS
    refine ⟨bx, rfl, hb5, fun G6 a6 c6 g6 hb6 n6 hg6 => ?_⟩
    have e6 := same_new (o := .tup (c6.map V.int)) n6
    have R6 := ((R5.kp (hb5.kp g6)).same e6).snoc (r := c6) ⟨a6, rfl, upd_same⟩
    have hb7 := hb6.same e6
    have g07 : Gr bx H (upd G6 a6 (.tup (c6.map V.int))) := (Gr.of eS).trans (g6.trans (Gr.of e6))
    generalize upd G6 a6 (.tup (c6.map V.int)) = G7 at R6 hb7 g07 ⊢
    refine ⟨by show 6 ≤ sizeLine; decide, fun lp nlp => ?_⟩
    have e8 := same_new (o := .lst [.ref a1, .ref a2, .ref a3, .ref a4, .ref a5, .ref a6]) nlp
    have hb8 := hb7.same e8
    refine ⟨bx, lp, _, rfl, hb8, upd_same, hb7.ne nlp, by show 1 ≤ 6; decide, by show 6 < 1000; decide, fun G9 j v g9 hb9 hv => ?_⟩
    have R9 := (R6.same e8).kp (hb8.kp g9)
    obtain ⟨cols, hcj, ca, rfl, hca⟩ := R9.at (show ([V.ref a1] ++ [V.ref a2] ++ [V.ref a3] ++ [V.ref a4] ++ [V.ref a5] ++ [V.ref a6])[j]? = some v from hv)
    have hgood : GoodCols cols := by
      rcases List.mem_append.mp (List.mem_of_getElem? hcj) with h | h
      · exact all_good _ h
      · rw [List.mem_singleton.mp h]
        exact hg6
    have g09 : Gr bx H G9 := g07.trans ((Gr.of e8).trans g9)
    clear R1 R2 R3 R4 R5 R6 R9 hv hcj
    obtain ⟨hcok, hc13, hcl3, _⟩ := hgood.ok
    have hcl1 := hcok.1
    -- checks = []
    refine ⟨Nat.zero_le _, fun kl nkl => ?_⟩
    have eK := same_new (o := .lst []) nkl
    have nklb := hb9.ne nkl
    have hbK := hb9.same eK
    refine ⟨_, rfl, bx, 2, rfl, hbK, by decide, by decide, fun G10 r g10 hb10 r0 r1 => ?_⟩
    refine ⟨_, _, rfl, rfl, 1 + r, rfl, by omega, by omega, ?_⟩
    have hklK : (upd G9 kl (.lst [])) kl = some (.lst []) := upd_same
    have hnn : (1 + r).toNat = 1 ∨ (1 + r).toNat = 2 := by omega
    generalize (1 + r).toNat = nn at hnn ⊢
    have hca10 : G10 ca = some (.tup (cols.map V.int)) := (hbK.kp g10).tup _ _ (eK _ _ hca)
    refine for_it (walk_rn (n := nn)) (fun i σ G => ∃ (ks : List V) (cs : List Chk) (v3 v4 v5 v6 : Option V), σ = [some (.ref bx), some (.ref ca), some (.ref kl), v3, v4, v5, v6, none, none] ∧ Gr bx G9 G ∧ BoxAt G bx ∧ G kl = some (.lst ks) ∧ ChkVs K G ks cs ∧ cs.length = i ∧ BookOk cols cs)
      ⟨[], [], none, none, none, none, rfl, (Gr.of eK).trans g10, hb10, g10 _ _ nklb hklK, .nil, rfl, fun c hc => by simp at hc⟩ (fun _ _ _ _ _ => trivial) ?_ ?_
    · rintro i x' σ G11 G12 hi ⟨ks, cs, v3, v4, v5, v6, rfl, gG, hbG, hkl, hcs, hcsl, hok⟩ ⟨rfl, rfl⟩
      have hcaG := (hb9.kp gG).tup _ _ hca
      -- places
      refine ⟨_, rfl, ca, cols, rfl, SqT.of hcaG, hcl1, fun pl ns npl hn1 hn4 hn3 => ?_⟩
      have ep := same_new (o := .lst (ns.map V.int)) npl
      have hbp := hbG.same ep
      refine ⟨bx, pl, _, rfl, hbp, upd_same, hbG.ne npl, by rw [List.length_map]; exact hn1, by rw [List.length_map]; omega, fun G13 j v g13 hb13 hv => ?_⟩
      obtain ⟨m, hm, rfl⟩ := getMapInt hv
      obtain ⟨m1, m3⟩ := hn3 m (List.mem_of_getElem? hm)
      refine ⟨m, rfl, by omega, by omega, fun D nD => ?_⟩
      have hm3 : 1 ≤ m.toNat ∧ m.toNat ≤ 3 := by omega
      generalize m.toNat = mm at hm3 ⊢
      have gp : Gr bx G12 G13 := (Gr.of ep).trans g13
      have hcap := (hbp.kp g13).tup _ _ (ep _ _ hcaG)
      refine lc_box (walk_rn (n := mm)) nD hb13 (by omega) (fun i zs G => ∃ ps : List Int, zs = ps.map V.int ∧ ps.length = i ∧ ∀ p ∈ ps, 0 ≤ p ∧ p < cols.length) (fun _ _ _ _ _ h => h) ⟨[], rfl, rfl, fun p hp => by simp at hp⟩ (fun G s => trivial) ?_ ?_
      · rintro k x G14 G15 zs post skip hk g14 hb14 ⟨ps, rfl, hpl, hps⟩ ⟨rfl, rfl⟩ hpost hskip
        refine ⟨rfl, _, rfl, _, rfl, ca, _, rfl, .inr (SqT.of ((hb13.kp g14).tup _ _ hcap)), bx, _, rfl, hb14, by rw [List.length_map]; omega, by rw [List.length_map]; omega, fun G16 p g16 hb16 p0 p1 => ?_⟩
        rw [List.length_map] at p1
        refine hpost _ _ g16 hb16 ⟨ps ++ [p], by rw [List.map_append]; rfl, by rw [List.length_append, hpl]; rfl, fun q hq => ?_⟩
        rcases List.mem_append.mp hq with hq | hq
        · exact hps q hq
        · rw [List.mem_singleton.mp hq]
          exact ⟨p0, p1⟩
      rintro G14 zs g14 hb14 hD ⟨ps, rfl, hpl, hps⟩
      refine ⟨D, _, rfl, .inl ⟨SqL.of hD, fun tp ntp => ?_⟩⟩
      have et := same_new (o := .tup (ps.map V.int)) ntp
      have hbt := hb14.same et
      have htp : (upd G14 tp (.tup (ps.map V.int))) tp = some (.tup (ps.map V.int)) := upd_same
      have gt : Gr bx G12 (upd G14 tp (.tup (ps.map V.int))) := gp.trans (g14.trans (Gr.of et))
      generalize upd G14 tp (.tup (ps.map V.int)) = G17 at hbt htp gt ⊢
      have hca17 := (hbG.kp gt).tup _ _ hcaG
      -- rows, style
      refine ⟨_, rfl, tp, rfl, ⟨_, SqT.of htp⟩, fun D2 nD2 => lc_cols (a := ca) (cols := cols) (places := ps) nD2 (SqT.of hca17) (SqT.of htp) (by omega) hps ?_ ?_⟩
      · rintro j n c H7 post2 skip2 hj hc hn s7 hp2
        exact ⟨rfl, _, rfl, _, rfl, ca, _, n, .int c, rfl, rfl, SqT.of (s7 _ _ hca17), atI_of (j := n.toNat) hn.symm (at_map hc), hp2⟩
      intro G18 e18 hD2
      have hss : ∀ s ∈ colsAt cols ps, 1 ≤ s ∧ s ≤ 3 := fun s hs => by
        obtain ⟨p, hpp, rfl⟩ := List.mem_map.mp hs
        obtain ⟨p0, p1⟩ := hps p hpp
        have hlt : p.toNat < cols.length := by omega
        rw [List.getD_eq_getElem?_getD, List.getElem?_eq_getElem hlt]
        exact hc13 _ (List.getElem_mem hlt)
      refine ⟨D2, colsAt cols ps, rfl, SqL.of hD2, hss, by rw [colsAt_len]; omega, fun G19 rp xs nrp e19 hrp hR => ?_⟩
      have e1719 := e18.trans e19
      have hb19 := hbt.same e1719
      have nrpb : rp ≠ bx := fun z => by
        obtain ⟨_, _, q, _⟩ := hb19
        rw [z] at nrp
        obtain ⟨_, _, q2, _⟩ := hbt.same e18
        rw [q2] at nrp
        cases nrp
      refine ⟨_, rfl, bx, 4, rfl, hb19, by decide, by decide, fun G20 st g20 hb20 st0 st1 => ?_⟩
      refine ⟨_, _, rfl, ?_⟩
      have hrp20 := g20 _ _ nrpb hrp
      have hR20 := hR.kp (hb19.kp g20)
      have hclen : (choices (colsAt cols ps)).length ≤ 27 := by
        have h1 := choices_len3 hss
        have h2 : 3 ^ (colsAt cols ps).length ≤ 3 ^ 3 := Nat.pow_le_pow_right (by decide) (by rw [colsAt_len]; omega)
        omega
      have hrlen : ∀ r ∈ choices (colsAt cols ps), r.length = ps.length := fun r hr' => by rw [(choices_mem.mp hr').1, colsAt_len]
      -- the rows of the style
      refine ⟨fun σ' G => ∃ (p : Addr) (ys : List V) (rows : List (List Int)), σ' = [some (.ref bx), some (.ref ca), some (.ref kl), some (.int (i : Nat)), some (.ref tp), some (.ref p), some (.int st), none, none] ∧ Gr bx G20 G ∧ BoxAt G bx ∧ G p = some (.lst ys) ∧ Rws G ys rows ∧ (∀ r ∈ rows, r ∈ choices (colsAt cols ps)) ∧ rows.length ≤ 27, ?_, ?_⟩
      · have hlen1 : (choices (colsAt cols ps)).length ≤ 100000 := by omega
        refine ⟨_, rfl, rfl, _, rfl, ite2 (fun _ => ?_) (fun _ => ⟨_, rfl, rfl, _, rfl, ite2 (fun _ => ?_) (fun _ => ?_)⟩)⟩
        · refine ⟨_, rfl, rp, rfl, ⟨_, SqL.of hrp20⟩, fun D3 nD3 => lc_sel nD3 hb20 hrp20 nrpb hR20 hlen1 ?_ ?_⟩
          · intro k r v G21 post skip hk g21 hb21 hv hpost hskip
            obtain ⟨ra, rfl, hra⟩ := hv
            refine ⟨rfl, _, rfl, ra, r, rfl, SqT.of hra, fun m => ⟨_, rfl, bx, 2, rfl, hb21, by decide, by decide, fun G22 q g22 hb22 q0 q1 => ⟨_, _, rfl, rfl, _, _, rfl, rfl, _, rfl, ite2 (fun _ => ⟨_, rfl, hpost _ g22 hb22⟩) (fun _ => hskip _ g22 hb22)⟩⟩⟩
          · intro G21 zs rows' g21 hb21 hD3 hR' hsub hle
            exact ⟨D3, zs, rows', rfl, g21, hb21, hD3, hR', hsub, by omega⟩
        · refine ⟨_, rfl, rp, rfl, ⟨_, SqL.of hrp20⟩, fun D3 nD3 => lc_sel nD3 hb20 hrp20 nrpb hR20 hlen1 ?_ ?_⟩
          · intro k r v G21 post skip hk g21 hb21 hv hpost hskip
            obtain ⟨ra, rfl, hra⟩ := hv
            have hrl := hrlen r (List.mem_of_getElem? hk)
            have h0 : r[0]? = some (r[0]'(by omega)) := List.getElem?_eq_getElem (by omega)
            have hz : r[r.length - 1]? = some (r[r.length - 1]'(by omega)) := List.getElem?_eq_getElem (by omega)
            refine ⟨rfl, _, rfl, ra, _, 0, _, rfl, rfl, SqT.of hra, atI_nat (j := 0) (at_map h0), ?_⟩
            refine ⟨_, rfl, _, rfl, ra, _, rfl, .inr (SqT.of hra), _, _, rfl, rfl, ra, _, _, _, rfl, rfl, SqT.of hra, atI_of (j := r.length - 1) (by rw [List.length_map]; omega) (at_map hz), ?_⟩
            refine ⟨_, _, rfl, rfl, _, rfl, ite2 (fun _ => ⟨_, rfl, hpost _ (Gr.refl _) hb21⟩) (fun _ => hskip _ (Gr.refl _) hb21)⟩
          · intro G21 zs rows' g21 hb21 hD3 hR' hsub hle
            exact ⟨D3, zs, rows', rfl, g21, hb21, hD3, hR', hsub, by omega⟩
        · refine ⟨_, rfl, rp, rfl, ⟨_, SqL.of hrp20⟩, fun D3 nD3 => lc_sel nD3 hb20 hrp20 nrpb hR20 hlen1 ?_ ?_⟩
          · intro k r v G21 post skip hk g21 hb21 hv hpost hskip
            obtain ⟨ra, rfl, hra⟩ := hv
            refine ⟨rfl, _, rfl, bx, 5, rfl, hb21, by decide, by decide, fun G22 q g22 hb22 q0 q1 => ⟨_, _, rfl, rfl, _, rfl, ite2 (fun _ => ⟨_, rfl, hpost _ g22 hb22⟩) (fun _ => hskip _ g22 hb22)⟩⟩
          · intro G21 zs rows' g21 hb21 hD3 hR' hsub hle
            exact ⟨D3, zs, rows', rfl, g21, hb21, hD3, hR', hsub, by omega⟩
      · rintro σ' G ⟨p, ys, rows, rfl, gM, hbM, hpM, hRM, hin, hl27⟩
        have gAll : Gr bx G12 G := gt.trans ((Gr.of e1719).trans (g20.trans gM))
        have nklb2 : kl ≠ bx := nklb
        have hklM := gAll _ _ nklb2 hkl
        refine ⟨_, rfl, .inl ⟨rfl, _, SqL.of hklM⟩, _, rfl, _, rfl, p, _, rfl, .inl ⟨SqL.of hpM, fun tr ntr => ?_⟩⟩
        have er := same_new (o := .tup ys) ntr
        refine ⟨by show 2 ≤ sizeLine; decide, fun tc ntc => ?_⟩
        have ec := same_new (o := .tup [.ref tp, .ref tr]) ntc
        have erc := er.trans ec
        have hklE := erc _ _ hklM
        refine ⟨kl, ks, _, rfl, rfl, hklE, ltLine (by have := hcs.1; omega), ?_⟩
        have kF := kp_lst (ws := ks ++ [.ref tc]) hklE
        have hck := chk_ok hgood (places := ps) (rows := rows) (by omega) (by omega) hps hin hl27
        refine ⟨_, cs ++ [(ps, rows)], _, _, _, _, rfl, ?_, ?_, upd_same, ?_, by rw [List.length_append, hcsl]; rfl, fun c hc => ?_⟩
        · exact gr_lst nkl (gG.trans (gAll.trans (Gr.of erc)))
        · exact (hbM.same erc).upd nklb2
        · refine ((hcs.kp (hbG.kp (gAll.trans (Gr.of erc)))).kp kF).snoc ⟨tc, tp, tr, ys, rfl, ?_, ?_, ?_, ?_⟩
          · exact SqT.of (kF.tup _ _ upd_same)
          · exact SqT.of (kF.tup _ _ (erc _ _ ((hbt.kp ((Gr.of e1719).trans (g20.trans gM))).tup _ _ htp)))
          · exact SqT.of (kF.tup _ _ (ec _ _ upd_same))
          · exact (hRM.same erc).kp kF
        · rcases List.mem_append.mp hc with hc | hc
          · exact hok c hc
          · rw [List.mem_singleton.mp hc]
            exact hck
    · rintro σ G ⟨ks, cs, v3, v4, v5, v6, rfl, gG, hbG, hkl, hcs, hcsl, hok⟩
      refine ⟨_, rfl, _, rfl, by show 2 ≤ sizeLine; decide, fun t nt => ?_⟩
      have et := same_new (o := .tup [.ref ca, .ref kl]) nt
      refine fin _ t ca kl ks cols cs (g09.trans (gG.trans (Gr.of et))) (hbG.same et) upd_same (et _ _ ((hb9.kp gG).tup _ _ hca)) (et _ _ hkl) (hcs.kp (Kp.of et)) hgood hok (by omega) (by omega)
end
end K29
namespace K29
open PySem PySem.Spec PyProof.Rows L2
theorem rws_ks {H : Hp} : ∀ {xs : List V} {rows : List (List Int)}, Rws H xs rows → ∃ ks : List (Addr × List Int), xs = ks.map (fun p => V.ref p.1) ∧ rows = ks.map (·.2) ∧ ∀ p ∈ ks, H p.1 = some (.tup (p.2.map V.int))
  | [], [], _ => ⟨[], rfl, rfl, fun p hp => by simp at hp⟩
  | [], _ :: _, h => by
    have := h.1
    simp at this
  | _ :: _, [], h => by
    have := h.1
    simp at this
  | x :: xs, r :: rows, h => by
    obtain ⟨a, rfl, ha⟩ := h.2 0 x r rfl rfl
    obtain ⟨ks, h1, h2, h3⟩ := rws_ks (xs := xs) (rows := rows) ⟨by have := h.1; simpa using this, fun i v q e1 e2 => h.2 (i + 1) v q e1 e2⟩
    refine ⟨(a, r) :: ks, by rw [h1]; rfl, by rw [h2]; rfl, fun p hp => ?_⟩
    rcases List.mem_cons.mp hp with rfl | hp
    · exact ha
    · exact h3 p hp
theorem ks_rws {H : Hp} {ks : List (Addr × List Int)} (h : ∀ p ∈ ks, H p.1 = some (.tup (p.2.map V.int))) : Rws H (ks.map fun p => V.ref p.1) (ks.map (·.2)) := by
  refine ⟨by rw [List.length_map, List.length_map], fun i v r a b => ?_⟩
  obtain ⟨p, hp, rfl⟩ := map_at a
  obtain ⟨q, hq, rfl⟩ := map_at b
  rw [hp] at hq
  cases hq
  exact ⟨p.1, rfl, h p (List.mem_of_getElem? hp)⟩
theorem rws_ne {H : Hp} {bx p : Addr} {xs : List V} {rows : List (List Int)} (hb : BoxAt H bx) (hp : H p = some (.lst xs)) (hR : Rws H xs rows) : p ≠ bx := fun z => by
  obtain ⟨g, s, e, _⟩ := hb
  rw [z, e] at hp
  cases hp
  obtain ⟨r, _, a, ea, _⟩ := hR.at (i := 0) (v := .int g) rfl
  cases ea
/-- a row mixed of two that are below stays below -/
theorem mix_below {one other : List Int} {ss : List Int} (h1 : one ∈ choices ss) (h2 : other ∈ choices ss) {rows : List (List Int)} (hm : MixOk one other one.length rows) : ∀ r ∈ rows, r ∈ choices ss := fun r hr => by
  obtain ⟨e1, b1⟩ := choices_mem.mp h1
  obtain ⟨e2, b2⟩ := choices_mem.mp h2
  obtain ⟨hl, hx⟩ := hm r hr
  refine choices_mem.mpr ⟨by omega, fun i x s hi hs => ?_⟩
  rcases hx i x hi with h | h
  · exact b1 i x s h hs
  · exact b2 i x s h hs
section
variable {P : Program} {w : World} {K : PySem.W.Frag} {mg : Str → Option Value} {base : Heap}
theorem sc_law_ways : FnScope ["_law_box_here", "_law_columns", "_law_checks", "_law_found", "_law_places", "_law_rows", "_law_table", "_law_some", "_law_one", "_law_other", "_law_row", "_law_place"] ["_law_box_here", "_law_columns", "_law_checks"] (defScope s_law_ways) := ⟨rfl, rfl, rfl, by decide +kernel, rfl, by decide +kernel, by decide +kernel⟩
def TabsFit (cols : List Int) (cs : List Chk) (tabs : List (List Row)) : Prop := tabs.length = cs.length ∧ ∀ (i : Nat) c t, cs[i]? = some c → tabs[i]? = some t → RowsOk c.1.length t ∧ (∀ r ∈ t, Below r (colsAt cols c.1)) ∧ ∀ r ∈ c.2, r ∈ t
theorem fit_snoc {cols : List Int} {cs : List Chk} {tabs : List (List Row)} {i : Nat} {c : Chk} {t : List Row} (hc : cs[i]? = some c) (h : TabsFit cols (cs.take i) tabs) (k : RowsOk c.1.length t ∧ (∀ r ∈ t, Below r (colsAt cols c.1)) ∧ ∀ r ∈ c.2, r ∈ t) : TabsFit cols (cs.take (i + 1)) (tabs ++ [t]) := by
  have hi := (List.getElem?_eq_some_iff.mp hc).1
  have hl := h.1
  rw [List.length_take] at hl
  refine ⟨by rw [List.length_append, List.length_take, List.length_singleton]; omega, fun j d d' a b => ?_⟩
  rw [List.getElem?_take] at a
  by_cases hj : j < i + 1
  · rw [if_pos hj] at a
    by_cases hji : j < i
    · rw [List.getElem?_append_left (by omega)] at b
      exact h.2 j d d' (by rw [List.getElem?_take, if_pos hji]; exact a) b
    · have : j = i := by omega
      subst this
      rw [hc] at a
      cases a
      rw [List.getElem?_append_right (by omega)] at b
      have : j - tabs.length = 0 := by omega
      rw [this] at b
      cases b
      exact k
  · rw [if_neg hj] at a
    cases a
def spWaysL (K : PySem.W.Frag) : Sp := fun vs H Q _ => ∃ (bx ca kl : Addr) (ks : List V) (cols : List Int) (cs : List Chk), vs = [.ref bx, .ref ca, .ref kl] ∧ BoxAt H bx ∧ H ca = some (.tup (cols.map V.int)) ∧ H kl = some (.lst ks) ∧ kl ≠ bx ∧ ChkVs K H ks cs ∧ GoodCols cols ∧ BookOk cols cs ∧ cs.length ≤ 2 ∧
  ∀ (H' : Hp) (p : Addr) (ts : List V) (tabs : List (List Row)), Gr bx H H' → BoxAt H' bx → p ≠ bx → H' p = some (.lst ts) → Al (TabV K H') ts tabs → TabsFit cols cs tabs → Q (.ref p) H'
theorem c_law_ways (T : Tx K mg) : Cal P w K mg base CX0 2 "_law_ways" (spWaysL K) := by
  refine cal0 T.f_law_ways T.g_law_ways sc_law_ways (fun _ _ _ _ _ _ us hl => match us, hl with | [_, _, _], _ => rfl) (fun vs H Q E h => ?_) (fun cdv A outer s H vs Q E hr h => ?_)
  · obtain ⟨bx, ca, kl, ks, cols, cs, rfl, _⟩ := h
    rfl
  · obtain ⟨bx, ca, kl, ks, cols, cs, rfl, hb, hca, hkl, nkl, hcs, hgood, hbok, hcl, fin⟩ := h
    have nd := sc_law_ways.nd
    refine ⟨_, (pss_cons (ps_set (i := 3) nd rfl (.inl rfl) (pe_lst pa_nil))
    (pss_cons (ps_for PassesOwn.never rfl (pi_list (pv 2)) (pg_tup rfl (pgs_cons (pg_name (i := 4) nd rfl (.inl rfl)) (pgs_cons (pg_name (i := 5) nd rfl (.inl rfl)) pgs_nil)))
      (pss_cons (ps_par (i := 6) (j := 7) rfl nd rfl rfl (by decide) rfl rfl (pa_cons (pe_callTy call_list_of (by rfl) T.z_list PyProof.Rows.boot_list (pa_cons (pv 5) pa_nil)) (pa_cons (pe_cal (c_law_choices T) hr (by decide) pass0 (pa_cons (pe_lc (own := [("_law_place", 11)]) rfl nd (pi_tup (pv 4)) (blkOk_by (by kernel_rfl)) (fun _ _ _ _ _ => (pg_name (i := 11) nd rfl (.inl rfl))) (fun _ _ _ _ _ => pts_nil) (fun _ _ _ _ _ => (pe_ix (kix_tup K) (pv 1) (pv 11) (fun _ _ => rfl)))) pa_nil)) pa_nil)) (by rfl))
      (C8.pss_cut (ps_if (pt_cmpR op_gt (pe_cal (c_law_take T) hr (by decide) pass0 (pa_cons (pv 0) (pa_cons pe_int pa_nil))) pe_int (nomark _))
        (pss_one (ps_for PassesOwn.never rfl (pi_tup (pv 5)) (pg_name (i := 8) nd rfl (.inl rfl))
          (pss_one (ps_for PassesOwn.never rfl (pi_tup (pv 5)) (pg_name (i := 9) nd rfl (.inl rfl))
            (pss_one (ps_set (i := 6) nd rfl (.inl rfl) (pe_op op_cat (pv 6) (pe_lc (own := [("_law_row", 10)]) rfl nd (pi_list (pe_cal (c_law_mixed T) hr (by decide) pass0 (pa_cons (pv 8) (pa_cons (pv 9) pa_nil)))) (blkOk_by (by kernel_rfl)) (fun _ _ _ _ _ => (pg_name (i := 10) nd rfl (.inl rfl))) (fun _ _ _ _ _ => (pts_one (pt_cmpR op_gt (pe_cal (c_law_take T) hr (by decide) pass0 (pa_cons (pv 0) (pa_cons pe_int pa_nil))) pe_int (nomark _)))) (fun _ _ _ _ _ => (pv 10))))))))))
        pss_nil)
      (pss_cons (ps_set (i := 6) nd rfl (.inl rfl) (pe_op op_cat (pv 6) (pe_lc (own := [("_law_row", 10)]) rfl nd (pi_list (pv 7)) (blkOk_by (by kernel_rfl)) (fun _ _ _ _ _ => (pg_name (i := 10) nd rfl (.inl rfl))) (fun _ _ _ _ _ => (pts_one (pt_cmpR op_eq (pe_cal (c_law_take T) hr (by decide) pass0 (pa_cons (pv 0) (pa_cons pe_int pa_nil))) pe_int (nomark _)))) (fun _ _ _ _ _ => (pv 10)))))
      (pss_one (ps_expr (pe_bm PySem.F.plainAttrs_list PySem.F.slot_list_append PySem.F.type_list_append mt_append (pv 3) (pa_cons (pe_callTy call_tuple_of (by rfl) T.z_tuple PyProof.Rows.boot_tuple (pa_cons (pe_callB (cr_sortedT rfl) (by rfl) T.z_sorted PyProof.Rows.boot_sorted (pa_cons (pe_callTy (cr_setOfTB rfl hr.units) (by rfl) T.z_set PyProof.Rows.boot_set (pa_cons (pv 6) pa_nil)) pa_nil)) pa_nil)) pa_nil))))))))
    (pss_one (ps_ret (pv 3))))), ?_⟩
    obtain ⟨hcok, hc13, hcl3, _⟩ := hgood.ok
    refine ⟨Nat.zero_le _, fun fl nfl => ?_⟩
    have eF := same_new (o := .lst []) nfl
    have nflb := hb.ne nfl
    have hklne : kl ≠ fl := ne_of_none hkl nfl
    refine ⟨_, rfl, kl, rfl, ⟨_, SqL.of (eF _ _ hkl)⟩, for_it (walk_list (a := kl) (xs := ks)) (fun i σ G => ∃ (ts : List V) (tabs : List (List Row)) (v4 v5 v6 v7 v8 v9 : Option V), σ = [some (.ref bx), some (.ref ca), some (.ref kl), some (.ref fl), v4, v5, v6, v7, v8, v9, none, none] ∧ Gr bx H G ∧ BoxAt G bx ∧ G fl = some (.lst ts) ∧ Al (TabV K G) ts tabs ∧ TabsFit cols (cs.take i) tabs)
      ⟨[], [], none, none, none, none, none, none, rfl, Gr.of eF, hb.same eF, upd_same, Al.nil, ⟨by simp, fun i c t a => by simp at a⟩⟩ (fun i σ G _ ⟨_, _, _, _, _, _, _, _, _, g, _⟩ => SqL.of (g _ _ nkl hkl)) ?_ ?_⟩
    · rintro i x' σ G1 G2 hi ⟨ts, tabs, v4, v5, v6, v7, v8, v9, rfl, g1, hb1, hfl, hA, hF⟩ ⟨rfl, hx⟩
      obtain ⟨c, hc1, hc2⟩ := hcs.at hx
      obtain ⟨ck, hro⟩ := hbok c (List.mem_of_getElem? hc1)
      obtain ⟨hd1, hd3, hpl, hcr, hcb⟩ := ck
      obtain ⟨hr64, hrB⟩ := hro
      obtain ⟨cv, pa, ra, rs, rfl, k1, k2, k3, k4⟩ := (hc2.kp (hb.kp g1)).ex
      have hca1 := (hb.kp g1).tup _ _ hca
      have hss : ∀ s ∈ colsAt cols c.1, 1 ≤ s ∧ s ≤ 3 := fun s hs => by
        obtain ⟨p, hpp, rfl⟩ := List.mem_map.mp hs
        obtain ⟨p0, p1⟩ := hpl p hpp
        have hlt : p.toNat < cols.length := by omega
        rw [List.getD_eq_getElem?_getD, List.getElem?_eq_getElem hlt]
        exact hc13 _ (List.getElem_mem hlt)
      have hclen : (choices (colsAt cols c.1)).length ≤ 27 := by
        have h1 := choices_len3 hss
        have h2 : 3 ^ (colsAt cols c.1).length ≤ 3 ^ 3 := Nat.pow_le_pow_right (by decide) (by rw [colsAt_len]; omega)
        omega
      have hcin : ∀ r ∈ c.2, r ∈ choices (colsAt cols c.1) := fun r hr' => choices_mem.mpr (hcb r hr')
      refine ⟨cv, _, rfl, k1, rfl, _, _, rfl, _, _, rfl, rfl, ?_⟩
      refine ⟨_, rfl, ra, _, rfl, .inr k3, fun tl ntl => ?_⟩
      have e1 := same_new (o := .lst rs) ntl
      have ntlb := hb1.ne ntl
      have htl1 : (upd G2 tl (.lst rs)) tl = some (.lst rs) := upd_same
      generalize upd G2 tl (.lst rs) = G3 at e1 htl1 ⊢
      refine ⟨_, rfl, pa, rfl, ⟨_, same_t e1 k2⟩, fun D2 nD2 => lc_cols (a := ca) (cols := cols) (places := c.1) nD2 (SqT.of (e1 _ _ hca1)) (same_t e1 k2) (by omega) hpl ?_ ?_⟩
      · rintro j n m H7 post2 skip2 hj hc hn s7 hp2
        exact ⟨rfl, _, rfl, _, rfl, ca, _, n, .int m, rfl, rfl, SqT.of (s7 _ _ (e1 _ _ hca1)), atI_of (j := n.toNat) hn.symm (at_map hc), hp2⟩
      intro G4 e4 hD2
      refine ⟨D2, colsAt cols c.1, rfl, SqL.of hD2, hss, by rw [colsAt_len]; omega, fun G5 sp xs nsp e5 hsp hR => ?_⟩
      have e25 := e1.trans (e4.trans e5)
      have hb5 := hb1.same e25
      have nspb : sp ≠ bx := (hb1.same (e1.trans e4)).ne nsp
      refine ⟨_, _, rfl, ?_⟩
      -- mixed rows
      refine ⟨fun σ' G => ∃ (tp : Addr) (ys : List V) (rows : List (List Int)) (v8 v9 : Option V), σ' = [some (.ref bx), some (.ref ca), some (.ref kl), some (.ref fl), some (.ref pa), some (.ref ra), some (.ref tp), some (.ref sp), v8, v9, none, none] ∧ Gr bx G5 G ∧ BoxAt G bx ∧ tp ≠ bx ∧ G tp = some (.lst ys) ∧ Rws G ys rows ∧ (∀ r ∈ rows, r ∈ choices (colsAt cols c.1)) ∧ (∀ r ∈ c.2, r ∈ rows) ∧ rows.length ≤ 64 + 64 * (64 * 8), ?_, ?_⟩
      · refine ⟨_, rfl, bx, 4, rfl, hb5, by decide, by decide, fun G6 r g6 hb6 r0 r1 => ?_⟩
        have ntlb5 := ntlb
        have htl5 : G5 tl = some (.lst rs) := (e4.trans e5) _ _ htl1
        have hR0 : Rws G5 rs c.2 := k4.same e25
        refine ⟨_, _, rfl, rfl, _, rfl, ite2 (fun _ => ?_) (fun _ => ?_)⟩
        · have k3G : ∀ G, Gr bx G5 G → SqT K G ra rs := fun G g => kp_t (hb5.kp g) (same_t e25 k3)
          have k4G : ∀ G, Gr bx G5 G → Rws G rs c.2 := fun G g => hR0.kp (hb5.kp g)
          refine ⟨_, rfl, ra, rfl, ⟨_, k3G _ g6⟩, for_it (walk_tup (a := ra) (xs := rs)) (fun j σ' G => ∃ (tp : Addr) (ys : List V) (rows : List (List Int)) (v8 v9 : Option V), σ' = [some (.ref bx), some (.ref ca), some (.ref kl), some (.ref fl), some (.ref pa), some (.ref ra), some (.ref tp), some (.ref sp), v8, v9, none, none] ∧ Gr bx G5 G ∧ BoxAt G bx ∧ tp ≠ bx ∧ G tp = some (.lst ys) ∧ Rws G ys rows ∧ (∀ r ∈ rows, r ∈ choices (colsAt cols c.1)) ∧ (∀ r ∈ c.2, r ∈ rows) ∧ rows.length ≤ 64 + j * 512)
            ⟨tl, rs, c.2, v8, v9, rfl, g6, hb6, ntlb, g6 _ _ ntlb htl5, k4G _ g6, hcin, fun r hr' => hr', by omega⟩ (fun j σ' G _ ⟨_, _, _, _, _, _, g, _⟩ => k3G _ g) ?_ ?_⟩
          · rintro j x' σ' G7 G8 hj ⟨tp, ys, rows, v8, v9, rfl, g7, hb7, ntp, htp, hRM, hin, hsub, hlen⟩ ⟨rfl, hx'⟩
            obtain ⟨one, hone, oa, rfl, hoa⟩ := (k4G _ g7).at hx'
            have honec := hcin one (List.mem_of_getElem? hone)
            refine ⟨_, rfl, ra, rfl, ⟨_, k3G _ g7⟩, for_it (walk_tup (a := ra) (xs := rs)) (fun k σ' G => ∃ (tp : Addr) (ys : List V) (rows : List (List Int)) (v9 : Option V), σ' = [some (.ref bx), some (.ref ca), some (.ref kl), some (.ref fl), some (.ref pa), some (.ref ra), some (.ref tp), some (.ref sp), some (.ref oa), v9, none, none] ∧ Gr bx G5 G ∧ BoxAt G bx ∧ tp ≠ bx ∧ G tp = some (.lst ys) ∧ Rws G ys rows ∧ (∀ r ∈ rows, r ∈ choices (colsAt cols c.1)) ∧ (∀ r ∈ c.2, r ∈ rows) ∧ rows.length ≤ 64 + j * 512 + k * 8 ∧ G oa = some (.tup (one.map V.int)))
              ⟨tp, ys, rows, v9, rfl, g7, hb7, ntp, htp, hRM, hin, hsub, by omega, hoa⟩ (fun k σ' G _ ⟨_, _, _, _, _, g, _⟩ => k3G _ g) ?_ ?_⟩
            · rintro k y' σ' G9 G10 hk ⟨tp, ys, rows, v9, rfl, g9, hb9, ntp, htp, hRM, hin, hsub, hlen, hoa9⟩ ⟨rfl, hy'⟩
              obtain ⟨other, hother, ob, rfl, hob⟩ := (k4G _ g9).at hy'
              have hotherc := hcin other (List.mem_of_getElem? hother)
              have hl1 : one.length = c.1.length := by rw [(choices_mem.mp honec).1, colsAt_len]
              have hl2 : other.length = c.1.length := by rw [(choices_mem.mp hotherc).1, colsAt_len]
              refine ⟨_, rfl, _, rfl, _, rfl, oa, ob, one, other, rfl, SqT.of hoa9, SqT.of hob, by omega, by omega, fun G11 mp mxs mrows e11 hmp hmR hmM hm8 => ?_⟩
              have hb11 := hb9.same e11
              have hmb := mix_below honec hotherc hmM
              refine ⟨mp, rfl, ⟨_, SqL.of hmp⟩, fun D nD => lc_sel nD hb11 hmp (rws_ne hb11 hmp hmR) hmR (by omega) ?_ ?_⟩
              · intro q r v G12 post skip hq g12 hb12 hv hpost hskip
                refine ⟨rfl, _, rfl, bx, 3, rfl, hb12, by decide, by decide, fun G13 z g13 hb13 z0 z1 => ⟨_, _, rfl, rfl, _, rfl, ite2 (fun _ => ⟨_, rfl, hpost _ g13 hb13⟩) (fun _ => hskip _ g13 hb13)⟩⟩
              · intro G12 zs rows' g12 hb12 hD hR' hsub' hle
                have g912 : Gr bx G10 G12 := (Gr.of e11).trans g12
                have htp12 := g912 _ _ ntp htp
                refine ⟨tp, D, ys, zs, rfl, rfl, htp12, hD, lenLine (by have := hRM.1; have := hR'.1; have := k4.1; omega), fun p2 np2 => ?_⟩
                have e13 := same_new (o := .lst (ys ++ zs)) np2
                have kk := (hb9.kp g912).trans (Kp.of e13)
                refine ⟨p2, ys ++ zs, rows ++ rows', _, rfl, g9.trans (g912.trans (Gr.of e13)), hb12.same e13, hb12.ne np2, upd_same, (hRM.kp kk).app (hR'.same e13), fun r hr' => ?_, fun r hr' => List.mem_append_left _ (hsub r hr'), by rw [List.length_append]; omega, kk.tup _ _ hoa9⟩
                rcases List.mem_append.mp hr' with h | h
                · exact hin r h
                · exact hmb r (hsub' r h)
            · rintro σ' G9 ⟨tp, ys, rows, v9, rfl, g9, hb9, ntp, htp, hRM, hin, hsub, hlen, hoa9⟩
              exact ⟨tp, ys, rows, _, _, rfl, g9, hb9, ntp, htp, hRM, hin, hsub, by have := k4.1; omega⟩
          · rintro σ' G7 ⟨tp, ys, rows, v8, v9, rfl, g7, hb7, ntp, htp, hRM, hin, hsub, hlen⟩
            exact ⟨tp, ys, rows, _, _, rfl, g7, hb7, ntp, htp, hRM, hin, hsub, by have := k4.1; omega⟩
        · exact ⟨tl, rs, c.2, v8, v9, rfl, g6, hb6, ntlb, g6 _ _ ntlb htl5, hR0.kp (hb5.kp g6), hcin, fun r hr' => hr', by omega⟩
      · rintro σ' G ⟨tp, ys, rows, v8, v9, rfl, gM, hbM, ntp, htp, hRM, hin, hsub, hlen⟩
        have hspM := gM _ _ nspb hsp
        have hRsM := hR.kp (hb5.kp gM)
        refine ⟨_, rfl, _, rfl, sp, rfl, ⟨_, SqL.of hspM⟩, fun D nD => lc_sel nD hbM hspM nspb hRsM (by omega) ?_ ?_⟩
        · intro q r v G12 post skip hq g12 hb12 hv hpost hskip
          refine ⟨rfl, _, rfl, bx, 6, rfl, hb12, by decide, by decide, fun G13 z g13 hb13 z0 z1 => ⟨rfl, _, rfl, ite2 (fun _ => ⟨_, rfl, hpost _ g13 hb13⟩) (fun _ => hskip _ g13 hb13)⟩⟩
        intro G6 zs rows' g6 hb6 hD hR' hsub' hle
        have htp6 := g6 _ _ ntp htp
        refine ⟨tp, D, ys, zs, rfl, rfl, htp6, hD, lenLine (by have := hRM.1; have := hR'.1; omega), fun p2 np2 => ?_⟩
        have e7 := same_new (o := .lst (ys ++ zs)) np2
        have hRR := ((hRM.kp (hbM.kp g6)).same e7).app (hR'.same e7)
        have hb7 := hb6.same e7
        have hinR : ∀ r ∈ rows ++ rows', r ∈ choices (colsAt cols c.1) := fun r hr' => (List.mem_append.mp hr').elim (hin r) fun h => hsub' r h
        have g07 : Gr bx G2 (upd G6 p2 (.lst (ys ++ zs))) := (Gr.of e25).trans (gM.trans (g6.trans (Gr.of e7)))
        have hp7 : (upd G6 p2 (.lst (ys ++ zs))) p2 = some (.lst (ys ++ zs)) := upd_same
        generalize upd G6 p2 (.lst (ys ++ zs)) = G7 at hRR hb7 g07 hp7 ⊢
        obtain ⟨kls, ek1, ek2, ek3⟩ := rws_ks hRR
        have hfl7 := g07 _ _ nflb hfl
        refine ⟨_, rfl, .inl ⟨rfl, _, SqL.of hfl7⟩, _, rfl, p2, kls, rfl, SqL.of (by rw [← ek1]; exact hp7), fun p hp => SqT.of (ek3 p hp), fun L hL hnd => ?_, fun sa L nsa hL hK => ?_⟩
        · have := nodup_len hnd (M := choices (colsAt cols c.1)) fun r hr' => by
            obtain ⟨p, hp, rfl⟩ := List.mem_map.mp hr'
            exact hinR _ (by rw [ek2]; exact List.mem_map.mpr ⟨p, hL p hp, rfl⟩)
          rw [List.length_map] at this
          omega
        have hrow : ∀ p ∈ kls, p.2 ∈ choices (colsAt cols c.1) := fun p hp => hinR _ (by rw [ek2]; exact List.mem_map.mpr ⟨p, hp, rfl⟩)
        have hrow2 : ∀ p ∈ kls, p.2.length = c.1.length ∧ TS.Bd 64 p.2 := fun p hp => by
          obtain ⟨e, hb'⟩ := choices_mem.mp (hrow p hp)
          refine ⟨by rw [e, colsAt_len], fun x hx2 => ?_⟩
          obtain ⟨q, hq, eq⟩ := List.mem_iff_getElem.mp hx2
          have hi2 : q < (colsAt cols c.1).length := by omega
          obtain ⟨b0, b1⟩ := hb' q x _ (by rw [List.getElem?_eq_getElem hq, eq]) (List.getElem?_eq_getElem hi2)
          have := hss _ (List.getElem_mem hi2)
          omega
        have e8 := same_new (o := SetTO P w sa L) nsa
        refine ⟨sa, L, c.1.length, 64, rfl, upd_same, fun p hp => SqT.of (e8 _ _ (ek3 p (hL p hp))), hd1, fun p hp => hrow2 p (hL p hp), fun L' sl pm nd' l64 pw nsl => ?_⟩
        have e9 := same_new (o := .lst (L'.map fun q => V.ref q.1)) nsl
        refine ⟨sl, _, rfl, .inl ⟨SqL.of upd_same, fun tt ntt => ?_⟩⟩
        have e10 := same_new (o := .tup (L'.map fun q => V.ref q.1)) ntt
        have e710 := e8.trans (e9.trans e10)
        have hflZ := e710 _ _ hfl7
        refine ⟨fl, ts, _, rfl, rfl, hflZ, ltLine (by have h1 := hA.1; have h2 := hF.1; rw [List.length_take] at h2; omega), ?_⟩
        have kF := kp_lst (ws := ts ++ [.ref tt]) hflZ
        have hLk : ∀ p ∈ L', p ∈ kls := fun p hp => hL p (pm.mem_iff.mp hp)
        refine ⟨_, tabs ++ [L'.map (·.2)], _, _, _, _, _, _, rfl, ?_, ?_, upd_same, ?_, fit_snoc hc1 hF ⟨⟨?_, ?_⟩, ?_, ?_⟩⟩
        · exact gr_lst nfl (g1.trans (g07.trans (Gr.of e710)))
        · exact (hb7.same e710).upd nflb
        · refine ((hA.imp fun v t (h : TabV K G2 v t) => (h.kp (hb1.kp (g07.trans (Gr.of e710)))).kp kF).snoc ?_)
          exact ⟨tt, _, rfl, SqT.of (kF.tup _ _ upd_same), (ks_rws fun p hp => kF.tup _ _ (e710 _ _ (ek3 p (hLk p hp))))⟩
        · rw [List.length_map]
          exact l64
        · intro r hr'
          obtain ⟨p, hp, rfl⟩ := List.mem_map.mp hr'
          exact hrow2 p (hLk p hp)
        · intro r hr'
          obtain ⟨p, hp, rfl⟩ := List.mem_map.mp hr'
          exact choices_mem.mp (hrow p (hLk p hp))
        · intro r hr'
          have h1 : r ∈ rows ++ rows' := List.mem_append_left _ (hsub r hr')
          rw [ek2] at h1
          obtain ⟨p, hp, rfl⟩ := List.mem_map.mp h1
          obtain ⟨q, hq, eq⟩ := List.mem_map.mp (hK p hp)
          exact List.mem_map.mpr ⟨q, pm.mem_iff.mpr hq, eq⟩
    · rintro σ G ⟨ts, tabs, v4, v5, v6, v7, v8, v9, rfl, g1, hb1, hfl, hA, hF⟩
      rw [hcs.1, List.take_length] at hF
      exact ⟨_, rfl, fin _ fl ts tabs g1 hb1 nflb hfl hA hF⟩
end
end K29
namespace K29
open PySem PySem.Spec PyProof.Rows L2
def StFit (cols cells st : List Int) : Prop := st.length = cells.length ∧ ∀ (i : Nat) c x, cells[i]? = some c → st[i]? = some x → ∃ m, cols[c.toNat]? = some m ∧ 0 ≤ c ∧ 0 ≤ x ∧ x < m
/-- a drawn store's laid check -/
def LaidFit (cells : List Int) (cs : List Chk) (l : Ld) : Prop := ∃ c, cs[l.1]? = some c ∧ l.2.length = c.1.length ∧ ∀ (i : Nat) x p, l.2[i]? = some x → c.1[i]? = some p → cells[x]? = some p
structure StoreFit (cols : List Int) (cs : List Chk) (cells : List Int) (states : List (List Int)) (laid : List Ld) : Prop where
  c2 : 2 ≤ cells.length
  c6 : cells.length ≤ 6
  cin : ∀ c ∈ cells, 0 ≤ c ∧ c < cols.length
  n3 : states.length = 3
  st : ∀ s ∈ states, StFit cols cells s
  l30 : laid.length ≤ 30
  lf : ∀ l ∈ laid, LaidFit cells cs l
  ps : ∀ s ∈ states, ∀ l ∈ laid, rowAt s l.2 ∈ (cs.map (·.2)).getD l.1 []
def dL (l : Ld) : PyData := .tuple [.int (l.1 : Nat), dI (zz l.2)]
theorem LdV.dp {K : PySem.W.Frag} {H : Hp} {v : V} {l : Ld} (h : LdV K H v l) : Dp K H v (dL l) := by
  obtain ⟨a, p, rfl, h1, h2⟩ := h.ex
  exact .tup h1 (.cons (.int _) (.cons (tup_dI h2) .nil))
theorem canLay_dL (l : Ld) : PyData.canLay0 (dL l) = true := by
  unfold dL
  simp [PyData.canLay0, PyData.canLayAll0, canLay_dI]
theorem canLay_dLs : ∀ ls : List Ld, PyData.canLayAll0 (ls.map dL) = true
  | [] => rfl
  | l :: ls => by simp [PyData.canLayAll0, canLay_dL, canLay_dLs ls]
theorem dep_dL (l : Ld) : (dL l).depth ≤ 4 := by
  have := dep_dI (zz l.2)
  simp [dL, PyData.depth, PyData.depthAll]
  omega
theorem dep_dLs : ∀ ls : List Ld, PyData.depthAll (ls.map dL) ≤ 4
  | [] => by simp [PyData.depthAll]
  | l :: ls => by
    have h1 := dep_dL l
    have h2 := dep_dLs ls
    simp [PyData.depthAll]
    omega
theorem sh_dL (l : Ld) : SeqAt.shaped (dL l) = true := shaped_of (canLay_dL l) (by have := dep_dL l; omega)
theorem sh_dLs (ls : List Ld) : SeqAt.shaped (.list (ls.map dL)) = true := shaped_of (by simp [PyData.canLay0, canLay_dLs]) (by have := dep_dLs ls; simp [PyData.depth]; omega)
theorem lds_dp {K : PySem.W.Frag} {H : Hp} {vs : List V} {ls : List Ld} (h : Al (LdV K H) vs ls) : DpAll K H vs (ls.map dL) := dpAll_of h.1 fun i v l a b => (h.2 i v l a b).dp
theorem sh_ints (ns : List Int) : SeqAt.shaped (.list (ns.map .int)) = true := by
  have h := sh_dI ns
  refine shaped_of (by simp [PyData.canLay0, canLay_ints]) ?_
  have := dep_dI ns
  unfold dI at this
  simp [PyData.depth] at this ⊢
  omega
theorem eqv_ints_nil (ns : List Int) : PyData.eqv (.list (ns.map .int)) (.list []) = ns.isEmpty := by
  cases ns with
  | nil => rfl
  | cons n ns => rfl
/-- the places that stand for a column -/
def hereT (cells : List Int) (p : Int) (n : Nat) : List Nat := (List.range n).filter fun i => decide (cells.getD i 0 = p)
theorem hereT_succ {cells : List Int} {p : Int} {n : Nat} : hereT cells p (n + 1) = hereT cells p n ++ (if cells.getD n 0 = p then [n] else []) := by
  unfold hereT
  rw [List.range_succ, List.filter_append]
  congr 1
  by_cases h : cells.getD n 0 = p
  · rw [if_pos h]
    simpa [List.getD_eq_getElem?_getD] using h
  · rw [if_neg h]
    simpa [List.getD_eq_getElem?_getD] using h
theorem hereT_mem {cells : List Int} {p : Int} {x : Nat} (h : x ∈ hereT cells p cells.length) : cells[x]? = some p ∧ x < cells.length := by
  unfold hereT at h
  obtain ⟨h1, h2⟩ := List.mem_filter.mp h
  have h3 := List.mem_range.mp h1
  have h4 := of_decide_eq_true h2
  rw [List.getD_eq_getElem?_getD, List.getElem?_eq_getElem h3] at h4
  exact ⟨by rw [List.getElem?_eq_getElem h3]; exact congrArg some h4, h3⟩
theorem hereT_len (cells : List Int) (p : Int) (n : Nat) : (hereT cells p n).length ≤ n := by
  have := List.length_filter_le (fun i => decide (cells.getD i 0 = p)) (List.range n)
  rw [List.length_range] at this
  exact this
/-- the same over a list of cells -/
theorem lc_rowL {K : PySem.W.Frag} {g : TG} {tt : TT} {te : TE} {vs : List Nat} {σ : L2.St} {H1 : Hp} {D p : Addr} {Qd : Hp → Prop} {st : List Int} {on : List Nat} (nD : H1 D = none) (hp : SqL K H1 p ((zz on).map V.int)) (h3 : on.length ≤ 1000) (hb : ∀ x ∈ on, x < st.length)
    (turn : ∀ (i : Nat) (n : Nat) (H : Hp) (post : V → Hp → Prop) (skip : Hp → Prop), on[i]? = some n → n < st.length → Same H1 H → post (.int (st.getD n 0)) H → g (.int (n : Nat)) (wipe σ vs) H fun σ2 H2 => wipe σ2 vs = wipe σ vs ∧ tt σ2 H2 fun b H3 => if b = true then te σ2 H3 post else skip H3)
    (done : ∀ H, Same H1 H → H D = some (.lst ((rowAt st on).map V.int)) → Qd H) :
    ∃ W : Nat → Nat → Hp → Prop, (∃ m, W 0 m (upd H1 D (.lst []))) ∧ ∀ i m H, W i m H →
      ((Itl K p).stop i H ∧ Qd H) ∨ ((Itl K p).go i H ∧ ∃ Nx : Hp → Prop, (∀ H', Nx H' → ∃ m', m' < m ∧ W (i + 1) m' H') ∧ ∀ x H', (Itl K p).yld i H x H' → g x (wipe σ vs) H' fun σ2 H2 => wipe σ2 vs = wipe σ vs ∧ tt σ2 H2 fun b H3 =>
        if b = true then te σ2 H3 fun y H4 => ∃ acc, H4 D = some (.lst acc) ∧ acc.length < sizeLine ∧ Nx (upd H4 D (.lst (acc ++ [y]))) else Nx H3) := by
  refine lc_pure (walk_list (a := p) (xs := (zz on).map V.int)) nD (by rw [List.length_map, zz_len]; omega) (fun i zs H => zs = ((rowAt st on).take i).map V.int) (fun _ _ _ _ _ h => h) (by simp) (fun H s => same_l s hp) ?_ ?_
  · rintro i x H H' zs post skip hi s hz ⟨rfl, hx⟩ hpost hskip
    obtain ⟨z, hz1, rfl⟩ := getMapInt hx
    obtain ⟨n, hn, rfl⟩ := zz_get hz1
    refine turn i n _ post skip hn (hb n (List.mem_of_getElem? hn)) s (hpost _ _ (Same.refl _) ?_)
    have e : (rowAt st on)[i]? = some (st.getD n 0) := at_map hn
    rw [hz, take_snoc e, List.map_append]
    rfl
  · intro H zs s hD hz
    refine done H s ?_
    have e : ((zz on).map V.int).length = (rowAt st on).length := by
      unfold rowAt
      rw [List.length_map, zz_len, List.length_map]
    rw [e, List.take_length] at hz
    rw [hD, hz]
section
variable {P : Program} {w : World} {K : PySem.W.Frag} {mg : Str → Option Value} {base : Heap}
theorem sc_law_store : FnScope ["_law_box_here", "_law_columns", "_law_checks", "_law_some", "_law_cells", "_law_states", "_law_turn", "_law_laid", "_law_check", "_law_on", "_law_column", "_law_here", "_law_fits", "_law_cell", "_law_state"] ["_law_box_here", "_law_columns", "_law_checks", "_law_some"] (defScope s_law_store) := ⟨rfl, rfl, rfl, by decide +kernel, rfl, by decide +kernel, by decide +kernel⟩
def spStoreL (K : PySem.W.Frag) : Sp := fun vs H Q _ => ∃ (bx ca kl : Addr) (ks : List V) (cols : List Int) (cs : List Chk), vs = [.ref bx, .ref ca, .ref kl, .int 5] ∧ BoxAt H bx ∧ H ca = some (.tup (cols.map V.int)) ∧ H kl = some (.lst ks) ∧ kl ≠ bx ∧ ChkVs K H ks cs ∧ GoodCols cols ∧ BookOk cols cs ∧ 1 ≤ cs.length ∧ cs.length ≤ 2 ∧
  ∀ (H' : Hp) (t cp sl lp : Addr) (ss ls : List V) (cells : List Int) (states : List (List Int)) (laid : List Ld), Gr bx H H' → BoxAt H' bx → H' t = some (.tup [.ref cp, .ref sl, .ref lp]) → H' cp = some (.tup (cells.map V.int)) → sl ≠ bx → H' sl = some (.lst ss) → Rws H' ss states → H' lp = some (.tup ls) → Al (LdV K H') ls laid → StoreFit cols cs cells states laid → Q (.ref t) H'
/-- what is picked: one of here, or nothing -/
def tPicked : TE := fun σ H Q => ∃ (bx a : Addr) (ns : List Nat), σ[0]? = some (some (V.ref bx)) ∧ σ[11]? = some (some (V.ref a)) ∧ BoxAt H bx ∧ H a = some (.lst ((zz ns).map V.int)) ∧ a ≠ bx ∧ ns.length < 1000 ∧
  ∀ (H' : Hp) (p : Addr) (ms : List Nat), Gr bx H H' → BoxAt H' bx → H' p = none → ((∃ x ∈ ns, ms = [x]) ∨ (ns = [] ∧ ms = [])) → Q (.ref p) (upd H' p (.lst ((zz ms).map V.int)))
theorem c_law_store (T : Tx K mg) : Cal P w K mg base CX0 3 "_law_store" (spStoreL K) := by
  refine cal0 T.f_law_store T.g_law_store sc_law_store (fun _ _ _ _ _ _ us hl => match us, hl with | [_, _, _, _], _ => rfl) (fun vs H Q E h => ?_) (fun cdv A outer s H vs Q E hr h => ?_)
  · obtain ⟨bx, ca, kl, ks, cols, cs, rfl, _⟩ := h
    rfl
  · obtain ⟨bx, ca, kl, ks, cols, cs, rfl, hb, hca, hkl, nkl, hcs, hgood, hbok, hc1, hc2, fin⟩ := h
    have nd := sc_law_store.nd
    refine ⟨_, (pss_cons (ps_set (i := 4) nd rfl (.inr rfl) (pe_lc (own := [("_law_cell", 13)]) rfl nd (pi_range1 (by rfl) T.z_range (pa_cons (pe_op op_add pe_int (pe_cal (c_law_take T) hr (by decide) pass0 (pa_cons (pv 0) (pa_cons (pv 3) pa_nil)))) pa_nil)) (blkOk_by (by kernel_rfl)) (fun _ _ _ _ _ => (pg_name (i := 13) nd rfl (.inl rfl))) (fun _ _ _ _ _ => pts_nil) (fun _ _ _ _ _ => (pe_cal (c_law_take T) hr (by decide) pass0 (pa_cons (pv 0) (pa_cons (pe_callB (kcall_len_seq K) (by rfl) T.z_len PySem.boot_len (pa_cons (pv 1) pa_nil)) pa_nil))))))
    (pss_cons (ps_set (i := 5) nd rfl (.inl rfl) (pe_lst pa_nil))
    (pss_cons (ps_for PassesOwn.never rfl (pi_range1 (by rfl) T.z_range (pa_cons pe_int pa_nil)) (pg_name (i := 6) nd rfl (.inl rfl))
      (pss_one (ps_expr (pe_bm PySem.F.plainAttrs_list PySem.F.slot_list_append PySem.F.type_list_append mt_append (pv 5) (pa_cons (pe_callTy call_tuple_of (by rfl) T.z_tuple PyProof.Rows.boot_tuple (pa_cons (pe_lc (own := [("_law_column", 10)]) rfl nd (pi_list (pv 4)) (blkOk_by (by kernel_rfl)) (fun _ _ _ _ _ => (pg_name (i := 10) nd rfl (.inl rfl))) (fun _ _ _ _ _ => pts_nil) (fun _ _ _ _ _ => (pe_cal (c_law_take T) hr (by decide) pass0 (pa_cons (pv 0) (pa_cons (pe_ix (kix_tup K) (pv 1) (pv 10) (fun _ _ => rfl)) pa_nil))))) pa_nil)) pa_nil)))))
    (pss_cons (ps_set (i := 7) nd rfl (.inl rfl) (pe_lst pa_nil))
    (pss_cons (ps_for PassesOwn.never rfl (pi_range1 (by rfl) T.z_range (pa_cons pe_int pa_nil)) (pg_name (i := 6) nd rfl (.inl rfl))
      (pss_cons (ps_set (i := 8) nd rfl (.inr rfl) (pe_cal (c_law_take T) hr (by decide) pass0 (pa_cons (pv 0) (pa_cons (pe_callB call_len_seq (by rfl) T.z_len PySem.boot_len (pa_cons (pv 2) pa_nil)) pa_nil))))
      (pss_cons (ps_set (i := 9) nd rfl (.inr rfl) (pe_lst pa_nil))
      (pss_cons (ps_for PassesOwn.never rfl (pi_tup (pe_ix ix_tup (pe_ix ix_list (pv 2) (pv 8) (fun _ _ => rfl)) pe_int (fun _ _ => rfl))) (pg_name (i := 10) nd rfl (.inr rfl))
        (pss_cons (ps_setLc (i := 11) (own := [("_law_cell", 13)]) rfl nd rfl rfl (sw_true rfl rfl rfl (by decide +kernel)) (pi_range1 (by rfl) T.z_range (pa_cons (pe_callB call_len_seq (by rfl) T.z_len PySem.boot_len (pa_cons (pv 4) pa_nil)) pa_nil)) (blkOk_by (by kernel_rfl)) (fun _ _ _ _ _ => (pg_name (i := 13) nd rfl (.inl rfl))) (fun _ _ _ _ _ => (pts_one (pt_cmpR op_eq (pe_ix (kix_list K) (pv 4) (pv 13) (fun _ _ => rfl)) (pv 10) (nomark _)))) (fun _ _ _ _ _ => (pv 13)))
        (pss_one (ps_set (i := 9) nd rfl (.inr rfl) (pe_op op_cat (pv 9) (pe_weak (t' := tPicked) (pe_ifExp (pt_cmpR (op_neD hr.units) (pv 11) (pe_lst pa_nil) (nomark _)) (pe_lst (pa_cons (pe_cal (c_law_pick T) hr (by decide) pass0 (pa_cons (pv 0) (pa_cons (pv 11) pa_nil))) pa_nil)) (pe_lst pa_nil)) (fun σ H Q h => ?_)))))))
      (pss_cons (ps_set (i := 12) nd rfl (.inl rfl) (pe_and (pe_cmpR op_eq (pe_callB call_len_seq (by rfl) T.z_len PySem.boot_len (pa_cons (pv 9) pa_nil)) (pe_callB call_len_seq (by rfl) T.z_len PySem.boot_len (pa_cons (pe_ix ix_tup (pe_ix ix_list (pv 2) (pv 8) (fun _ _ => rfl)) pe_int (fun _ _ => rfl)) pa_nil)) (nomark _)) (pe_one (pe_cmpR (op_eqD hr.units) (pe_lc (own := [("_law_state", 14)]) rfl nd (pi_list (pv 5)) (blkOk_by (by kernel_rfl)) (fun _ _ _ _ _ => (pg_name (i := 14) nd rfl (.inr rfl))) (fun _ _ _ _ _ => (pts_one (pt_cmpR (op_notInT K (un65 hr)) (pe_callTy (kcall_tuple_of K) (by rfl) T.z_tuple PyProof.Rows.boot_tuple (pa_cons (pe_lc (own := [("_law_cell", 13)]) rfl nd (kpi_list K (pv 9)) (blkOk_by (by kernel_rfl)) (fun _ _ _ _ _ => (pg_name (i := 13) nd rfl (.inl rfl))) (fun _ _ _ _ _ => pts_nil) (fun _ _ _ _ _ => (pe_ix (kix_tup K) (pv 14) (pv 13) (fun _ _ => rfl)))) pa_nil)) (pe_ix (kix_tup K) (pe_ix (kix_list K) (pv 2) (pv 8) (fun _ _ => rfl)) pe_int (fun _ _ => rfl)) (by rfl)))) (fun _ _ _ _ _ => (pv 14))) (pe_lst pa_nil) (nomark _)))))
      (pss_one (ps_if (PW.pt (pw_and (pt_val (pv 12)) (pw_and1 (pt_cmpR (op_notInD (un65 hr)) (pe_tup (pa_cons (pv 8) (pa_cons (pe_callTy call_tuple_of (by rfl) T.z_tuple PyProof.Rows.boot_tuple (pa_cons (pv 9) pa_nil)) pa_nil))) (pv 7) (by rfl)))))
        (pss_one (ps_expr (pe_bm PySem.F.plainAttrs_list PySem.F.slot_list_append PySem.F.type_list_append mt_append (pv 7) (pa_cons (pe_tup (pa_cons (pv 8) (pa_cons (pe_callTy call_tuple_of (by rfl) T.z_tuple PyProof.Rows.boot_tuple (pa_cons (pv 9) pa_nil)) pa_nil))) pa_nil))))
        pss_nil)))))))
    (pss_one (ps_ret (pe_tup (pa_cons (pe_callTy call_tuple_of (by rfl) T.z_tuple PyProof.Rows.boot_tuple (pa_cons (pv 4) pa_nil)) (pa_cons (pv 5) (pa_cons (pe_callTy call_tuple_of (by rfl) T.z_tuple PyProof.Rows.boot_tuple (pa_cons (pv 7) pa_nil)) pa_nil))))))))))), ?_⟩
    · obtain ⟨bx, a, ns, e0, e11, hb, ha, nab, hl, h⟩ := h
      refine ⟨_, e11, by show 0 ≤ sizeLine; decide, fun e ne => ?_⟩
      have se := same_new (o := .lst []) ne
      refine ⟨_, _, .lst (SqL.of (se _ _ ha)) (ints_dpAll (zz ns)), .lst (SqL.of upd_same) .nil, sh_ints _, sh_nil, _, rfl, ?_⟩
      rw [eqv_ints_nil]
      cases ns with
      | nil => exact iteF ⟨by show 0 ≤ sizeLine; decide, fun p np => h _ p [] (Gr.of se) (hb.same se) np (.inr ⟨rfl, rfl⟩)⟩
      | cons n ns =>
        refine iteT ⟨_, e0, _, e11, bx, a, _, rfl, hb.same se, se _ _ ha, nab, (by rw [List.length_map, zz_len, List.length_cons]; omega), (by rw [List.length_map, zz_len]; exact hl), fun H' j v g hb' hv => ?_⟩
        obtain ⟨z, hz, rfl⟩ := getMapInt hv
        obtain ⟨x, hx, rfl⟩ := zz_get hz
        exact ⟨by show 1 ≤ sizeLine; decide, fun p np => h _ p [x] ((Gr.of se).trans g) hb' np (.inl ⟨x, List.mem_of_getElem? hx, rfl⟩)⟩
    obtain ⟨hcok, hc13, hcl3, _⟩ := hgood.ok
    have hcl1 := hcok.1
    -- cells
    refine ⟨_, rfl, _, rfl, bx, 5, rfl, hb, by decide, by decide, fun G1 r g1 hb1 r0 r1 => ⟨_, _, rfl, rfl, 2 + r, rfl, by omega, by omega, fun D nD => ?_⟩⟩
    have hnc : 2 ≤ (2 + r).toNat ∧ (2 + r).toNat ≤ 6 := by omega
    generalize (2 + r).toNat = nc at hnc ⊢
    have nDb := hb1.ne nD
    refine lc_box (walk_rn (n := nc)) nD hb1 (by omega) (fun i zs G => ∃ cl : List Int, zs = cl.map V.int ∧ cl.length = i ∧ ∀ c ∈ cl, 0 ≤ c ∧ c < cols.length) (fun _ _ _ _ _ h => h) ⟨[], rfl, rfl, fun p hp => by simp at hp⟩ (fun G s => trivial) ?_ ?_
    · rintro k x G14 G15 zs post skip hk g14 hb14 ⟨cl, rfl, hpl, hps⟩ ⟨rfl, rfl⟩ hpost hskip
      refine ⟨rfl, _, rfl, _, rfl, ca, _, rfl, .inr (SqT.of ((hb1.kp g14).tup _ _ ((hb.kp g1).tup _ _ hca))), bx, _, rfl, hb14, by rw [List.length_map]; omega, by rw [List.length_map]; omega, fun G16 p g16 hb16 p0 p1 => ?_⟩
      rw [List.length_map] at p1
      refine hpost _ _ g16 hb16 ⟨cl ++ [p], by rw [List.map_append]; rfl, by rw [List.length_append, hpl]; rfl, fun q hq => ?_⟩
      rcases List.mem_append.mp hq with hq | hq
      · exact hps q hq
      · rw [List.mem_singleton.mp hq]
        exact ⟨p0, p1⟩
    rintro G2 zs g2 hb2 hD ⟨cells, rfl, hcl, hcin⟩
    have g02 := g1.trans g2
    have hca2 := (hb.kp g02).tup _ _ hca
    have hkl2 := g02 _ _ nkl hkl
    have hcs2 := hcs.kp (hb.kp g02)
    -- states
    refine ⟨Nat.zero_le _, fun sl nsl => ?_⟩
    have eS := same_new (o := .lst []) nsl
    have nslb := hb2.ne nsl
    refine ⟨3, rfl, by decide, by decide, for_it (walk_rn (n := 3)) (fun i σ G => ∃ (ss : List V) (states : List (List Int)) (v6 : Option V), σ = [some (.ref bx), some (.ref ca), some (.ref kl), some (.int 5), some (.ref D), some (.ref sl), v6, none, none, none, none, none, none, none, none] ∧ Gr bx G2 G ∧ BoxAt G bx ∧ G sl = some (.lst ss) ∧ Rws G ss states ∧ states.length = i ∧ ∀ s ∈ states, StFit cols cells s)
      ⟨[], [], none, rfl, Gr.of eS, hb2.same eS, upd_same, Rws.nil, rfl, fun s hs => by simp at hs⟩ (fun _ _ _ _ _ => trivial) ?_ ?_⟩
    · rintro i x' σ G3 G4 hi ⟨ss, states, v6, rfl, g3, hb3, hsl, hR, hn, hst⟩ ⟨rfl, rfl⟩
      have hD3 := g3 _ _ nDb hD
      have hca3 := (hb2.kp g3).tup _ _ hca2
      refine ⟨_, rfl, .inl ⟨rfl, _, SqL.of hsl⟩, _, rfl, D, rfl, ⟨_, SqL.of hD3⟩, fun D2 nD2 => lc_box (walk_list (a := D) (xs := cells.map V.int)) nD2 hb3 (by rw [List.length_map]; omega) (fun i zs G => ∃ st : List Int, zs = st.map V.int ∧ st.length = i ∧ ∀ (k : Nat) c x, cells[k]? = some c → st[k]? = some x → ∃ m, cols[c.toNat]? = some m ∧ 0 ≤ c ∧ 0 ≤ x ∧ x < m) (fun _ _ _ _ _ h => h) ⟨[], rfl, rfl, fun k c x _ h => by simp at h⟩ (fun G s => SqL.of (s _ _ nDb hD3)) ?_ ?_⟩
      · rintro k x G14 G15 zs post skip hk g14 hb14 ⟨st, rfl, hpl, hps⟩ ⟨rfl, hx⟩ hpost hskip
        obtain ⟨c, hc, rfl⟩ := getMapInt hx
        obtain ⟨cc0, cc1⟩ := hcin c (List.mem_of_getElem? hc)
        have hlt : c.toNat < cols.length := by omega
        have hm : cols[c.toNat]? = some cols[c.toNat] := List.getElem?_eq_getElem hlt
        have hm13 := hc13 _ (List.getElem_mem hlt)
        generalize cols[c.toNat] = m at hm hm13
        refine ⟨rfl, _, rfl, _, rfl, _, rfl, ca, _, c, .int m, rfl, rfl, SqT.of ((hb3.kp g14).tup _ _ hca3), atI_of (j := c.toNat) (by omega) (at_map hm), bx, m, rfl, hb14, by omega, by omega, fun G16 p g16 hb16 p0 p1 => ?_⟩
        refine hpost _ _ g16 hb16 ⟨st ++ [p], by rw [List.map_append]; rfl, by rw [List.length_append, hpl]; rfl, fun k' c' x' h1 h2 => ?_⟩
        by_cases hk' : k' < st.length
        · rw [List.getElem?_append_left hk'] at h2
          exact hps k' c' x' h1 h2
        · rw [List.getElem?_append_right (by omega)] at h2
          match hj : k' - st.length with
          | 0 =>
            rw [hj] at h2
            cases h2
            have : k' = k := by omega
            rw [this, hc] at h1
            cases h1
            exact ⟨m, hm, cc0, p0, p1⟩
          | j + 1 =>
            rw [hj] at h2
            simp at h2
      rintro G5 zs g5 hb5 hD2 ⟨st, rfl, hpl, hps⟩
      rw [List.length_map] at hpl
      refine ⟨D2, _, rfl, .inl ⟨SqL.of hD2, fun t nt => ?_⟩⟩
      have et := same_new (o := .tup (st.map V.int)) nt
      have hslE := et _ _ (g5 _ _ nslb hsl)
      have kF := kp_lst (ws := ss ++ [.ref t]) hslE
      refine ⟨sl, ss, _, rfl, rfl, hslE, ltLine (by have := hR.1; omega), ?_⟩
      refine ⟨_, states ++ [st], _, rfl, gr_lst nsl (g3.trans (g5.trans (Gr.of et))), (hb5.same et).upd nslb, upd_same, ((hR.kp ((hb3.kp g5).trans (Kp.of et))).kp kF).snoc ⟨t, rfl, kF.tup _ _ upd_same⟩, by rw [List.length_append, hn]; rfl, fun s hs => ?_⟩
      rcases List.mem_append.mp hs with hs | hs
      · exact hst s hs
      · rw [List.mem_singleton.mp hs]
        exact ⟨hpl, hps⟩
    rintro σ G3 ⟨ss, states, v6, rfl, g3, hb3, hsl, hR, hn, hst⟩
    have hD3 := g3 _ _ nDb hD
    have hca3 := (hb2.kp g3).tup _ _ hca2
    have hkl3 := g3 _ _ nkl hkl2
    have hcs3 := hcs2.kp (hb2.kp g3)
    -- laid
    refine ⟨Nat.zero_le _, fun ll nll => ?_⟩
    have eL := same_new (o := .lst []) nll
    have nllb := hb3.ne nll
    refine ⟨30, rfl, by decide, by decide, for_it (walk_rn (n := 30)) (fun n σ G => ∃ (ls : List V) (laid : List Ld) (v6 v8 v9 v10 v11 v12 : Option V), σ = [some (.ref bx), some (.ref ca), some (.ref kl), some (.int 5), some (.ref D), some (.ref sl), v6, some (.ref ll), v8, v9, v10, v11, v12, none, none] ∧ Gr bx G3 G ∧ BoxAt G bx ∧ G ll = some (.lst ls) ∧ Al (LdV K G) ls laid ∧ laid.length ≤ n ∧ (∀ l ∈ laid, LaidFit cells cs l) ∧ ∀ s ∈ states, ∀ l ∈ laid, rowAt s l.2 ∈ (cs.map (·.2)).getD l.1 [])
      ⟨[], [], v6, none, none, none, none, none, rfl, Gr.of eL, hb3.same eL, upd_same, Al.nil, Nat.le_refl _, fun l hl => by simp at hl, fun s _ l hl => by simp at hl⟩ (fun _ _ _ _ _ => trivial) ?_ ?_⟩
    · rintro n x' σ G4 G4' hi ⟨ls, laid, v6, v8, v9, v10, v11, v12, rfl, g4, hb4, hll, hA, hl30, hfit, hpass⟩ ⟨rfl, rfl⟩
      have hkl4 := g4 _ _ nkl hkl3
      refine ⟨_, rfl, _, rfl, kl, _, rfl, .inl (SqL.of hkl4), bx, _, rfl, hb4, by have := hcs.1; omega, by have := hcs.1; omega, fun G5 q g5 hb5 q0 q1 => ?_⟩
      obtain ⟨ci, rfl⟩ : ∃ ci : Nat, q = (ci : Int) := ⟨q.toNat, by omega⟩
      have hci : ci < cs.length := by have := hcs.1; omega
      have hcc : cs[ci]? = some cs[ci] := List.getElem?_eq_getElem hci
      generalize hceq : cs[ci] = c at hcc
      obtain ⟨ck, _⟩ := hbok c (List.mem_of_getElem? hcc)
      obtain ⟨cv, hcv, hcV⟩ := hcs3.get hcc
      -- on = []
      refine ⟨Nat.zero_le _, fun ol nol => ?_⟩
      have eO := same_new (o := .lst []) nol
      have g45 : Gr bx G4' (upd G5 ol (.lst [])) := g5.trans (Gr.of eO)
      have hb6 := hb5.same eO
      have hol : (upd G5 ol (.lst [])) ol = some (.lst []) := upd_same
      have nolb := hb5.ne nol
      generalize upd G5 ol (.lst []) = G6 at g45 hb6 hol ⊢
      have facts : ∀ G, Gr bx G6 G → ∃ cva pa ra rs, cv = .ref cva ∧ G kl = some (.lst ks) ∧ SqT K G cva [.ref pa, .ref ra] ∧ SqT K G pa (c.1.map V.int) ∧ SqT K G ra rs ∧ Rws G rs c.2 := fun G g => by
        have gg := g4.trans (g45.trans g)
        obtain ⟨cva, pa, ra, rs, e, k1, k2, k3, k4⟩ := (hcV.kp (hb3.kp gg)).ex
        exact ⟨cva, pa, ra, rs, e, gg _ _ nkl hkl3, k1, k2, k3, k4⟩
      obtain ⟨cva, pa, ra, rs, rfl, f1, f2, f3, f4, f5⟩ := facts G6 (Gr.refl _)
      have fst : ∀ G, Gr bx G6 G → G kl = some (.lst ks) ∧ SqT K G cva [.ref pa, .ref ra] ∧ SqT K G pa (c.1.map V.int) ∧ SqT K G ra rs ∧ Rws G rs c.2 ∧ G D = some (.lst (cells.map V.int)) ∧ G sl = some (.lst ss) ∧ Rws G ss states := fun G g => by
        have gg := g4.trans (g45.trans g)
        exact ⟨gg _ _ nkl hkl3, kp_t (hb6.kp g) f2, kp_t (hb6.kp g) f3, kp_t (hb6.kp g) f4, f5.kp (hb6.kp g), gg _ _ nDb hD3, gg _ _ nslb hsl, hR.kp (hb3.kp gg)⟩
      refine ⟨_, rfl, _, rfl, kl, ks, (ci : Int), .ref cva, rfl, rfl, SqL.of f1, atI_nat hcv, cva, _, 0, .ref pa, rfl, rfl, f2, atI_nat (j := 0) rfl, pa, rfl, ⟨_, f3⟩, for_it (walk_tup (a := pa) (xs := c.1.map V.int)) (fun j σ G => ∃ (op : Addr) (ons : List Nat) (v10 v11 : Option V), σ = [some (.ref bx), some (.ref ca), some (.ref kl), some (.int 5), some (.ref D), some (.ref sl), some (.int (n : Nat)), some (.ref ll), some (.int (ci : Nat)), some (.ref op), v10, v11, v12, none, none] ∧ Gr bx G6 G ∧ BoxAt G bx ∧ op ≠ bx ∧ G op = some (.lst ((zz ons).map V.int)) ∧ ons.length ≤ j ∧ (∀ x ∈ ons, x < cells.length) ∧ (ons.length = j → ∀ (k : Nat) x p, ons[k]? = some x → c.1[k]? = some p → cells[x]? = some p))
        ⟨ol, [], v10, v11, rfl, Gr.refl _, hb6, nolb, hol, Nat.le_refl _, fun x hx => by simp at hx, fun _ k x p h => by simp at h⟩ (fun j σ G _ ⟨_, _, _, _, _, g, _⟩ => (fst G g).2.2.1) ?_ ?_⟩
      · rintro j x' σ G7 G8 hj ⟨op, ons, v10, v11, rfl, g7, hb7, nop, hop, hol1, hol2, hol3⟩ ⟨rfl, hx⟩
        obtain ⟨p, hp, rfl⟩ := getMapInt hx
        obtain ⟨q1', q2, q3, q4, q5, q6, q7, q8⟩ := fst _ g7
        have ecl : (cells.map V.int).length = cells.length := List.length_map _
        refine ⟨_, rfl, D, _, rfl, .inl (SqL.of q6), _, rfl, by rw [ecl]; omega, by rw [ecl]; omega, ?_⟩
        rw [show (((cells.map V.int).length : Nat) : Int).toNat = cells.length by rw [ecl]; omega]
        refine fun D3 nD3 => lc_pure (walk_rn (n := cells.length)) nD3 (by omega) (fun i zs H => zs = (zz (hereT cells p i)).map V.int) (fun _ _ _ _ _ h => h) rfl (fun H s => trivial) ?_ ?_
        · rintro i x' G9 G10 zs post skip hi' s9 hz ⟨rfl, rfl⟩ hpost hskip
          refine ⟨rfl, _, rfl, _, rfl, D, _, (i : Int), _, rfl, rfl, SqL.of (s9 _ _ q6), atI_nat (st_get hi'), _, rfl, rfl, ?_⟩
          by_cases hd : cells.getD i 0 = p
          · rw [decide_eq_true (congrArg V.int hd)]
            refine ⟨true, rfl, iteT ⟨_, rfl, hpost _ _ (Same.refl _) ?_⟩⟩
            rw [hz, hereT_succ, if_pos hd, zz_app, List.map_append]
            rfl
          · rw [decide_eq_false (fun z => hd (by injection z))]
            refine ⟨false, rfl, iteF (hskip _ (Same.refl _) ?_)⟩
            rw [hz, hereT_succ, if_neg hd, List.append_nil]
        intro G9 zs s9 hD9 hz
        rw [hz] at hD9
        have hb9 := hb7.same s9
        have nD3b := hb7.ne nD3
        refine ⟨_, rfl, bx, D3, hereT cells p cells.length, rfl, rfl, hb9, hD9, nD3b, by have := hereT_len cells p cells.length; omega, fun G10 p9 ms g10 hb10 np9 hcase => ?_⟩
        have e11 := same_new (o := .lst ((zz ms).map V.int)) np9
        have hop10 := e11 _ _ (g10 _ _ nop (s9 _ _ hop))
        have hms : ms.length ≤ 1 := by rcases hcase with ⟨x, _, rfl⟩ | ⟨_, rfl⟩ <;> simp
        refine ⟨op, p9, _, _, rfl, rfl, hop10, upd_same, lenLine (by rw [List.length_map, List.length_map, zz_len, zz_len]; rw [List.length_map] at hj; have := ck.2.1; omega), fun p10 np10 => ?_⟩
        have e12 := same_new (o := .lst ((zz ons).map V.int ++ (zz ms).map V.int)) np10
        have hb11 := hb10.same e11
        refine ⟨p10, ons ++ ms, _, _, rfl, g7.trans ((Gr.of s9).trans (g10.trans ((Gr.of e11).trans (Gr.of e12)))), hb11.same e12, hb11.ne np10, ?_, ?_, ?_, ?_⟩
        · rw [upd_same, zz_app, List.map_append]
        · rw [List.length_append]
          omega
        · intro x hx
          rcases List.mem_append.mp hx with hx | hx
          · exact hol2 x hx
          · rcases hcase with ⟨y, hy, rfl⟩ | ⟨_, rfl⟩
            · rw [List.mem_singleton.mp hx]
              exact (hereT_mem hy).2
            · simp at hx
        · intro he k x p' h1 h2
          rw [List.length_append] at he
          have hoj : ons.length = j := by omega
          rcases hcase with ⟨y, hy, rfl⟩ | ⟨_, rfl⟩
          · by_cases hk : k < ons.length
            · rw [List.getElem?_append_left hk] at h1
              exact hol3 hoj k x p' h1 h2
            · rw [List.getElem?_append_right (by omega)] at h1
              match hkk : k - ons.length with
              | 0 =>
                rw [hkk] at h1
                cases h1
                have : k = j := by omega
                rw [this, hp] at h2
                cases h2
                exact (hereT_mem hy).1
              | m + 1 =>
                rw [hkk] at h1
                simp at h1
          · simp at he
            omega
      · rintro σ G7 ⟨op, ons, v10, v11, rfl, g7, hb7, nop, hop, hol1, hol2, hol3⟩
        rw [List.length_map] at hol1 hol3
        obtain ⟨q1', q2, q3, q4, q5, q6, q7, q8⟩ := fst _ g7
        have g47 : Gr bx G4' G7 := g45.trans g7
        have hll7 := g47 _ _ nllb hll
        have hA7 := hA.imp fun v l (h : LdV K G4' v l) => h.kp (hb4.kp g47)
        -- what is left when nothing is laid
        have out : ∀ (G : Hp) (v6 v8 v9 v10 v11 v12 : Option V), Same G7 G → ∃ (ls : List V) (laid : List Ld) (w6 w8 w9 w10 w11 w12 : Option V), [some (.ref bx), some (.ref ca), some (.ref kl), some (.int 5), some (.ref D), some (.ref sl), v6, some (.ref ll), v8, v9, v10, v11, v12, none, none] = [some (.ref bx), some (.ref ca), some (.ref kl), some (.int 5), some (.ref D), some (.ref sl), w6, some (.ref ll), w8, w9, w10, w11, w12, none, none] ∧ Gr bx G3 G ∧ BoxAt G bx ∧ G ll = some (.lst ls) ∧ Al (LdV K G) ls laid ∧ laid.length ≤ n + 1 ∧ (∀ l ∈ laid, LaidFit cells cs l) ∧ ∀ s ∈ states, ∀ l ∈ laid, rowAt s l.2 ∈ (cs.map (·.2)).getD l.1 [] := fun G _ _ _ _ _ _ e => ⟨ls, laid, _, _, _, _, _, _, rfl, g4.trans (g47.trans (Gr.of e)), hb7.same e, e _ _ hll7, hA7.imp fun v l (h : LdV K G7 v l) => h.kp (Kp.of e), by omega, hfit, hpass⟩
        have elo : ((zz ons).map V.int).length = ons.length := by rw [List.length_map, zz_len]
        have elc : (c.1.map V.int).length = c.1.length := List.length_map _
        have hon6 : ons.length ≤ 3 := by
          have := ck.2.1
          omega
        refine ⟨_, rfl, op, _, rfl, .inl (SqL.of hop), _, rfl, _, rfl, kl, ks, (ci : Int), .ref cva, rfl, rfl, SqL.of q1', atI_nat hcv, cva, _, 0, .ref pa, rfl, rfl, q2, atI_nat (j := 0) rfl, pa, _, rfl, .inr q3, rfl, ?_⟩
        by_cases hlen : ons.length = c.1.length
        · rw [decide_eq_true (by rw [elo, elc, hlen])]
          refine ⟨true, rfl, iteT ?_⟩
          refine ⟨_, rfl, sl, rfl, ⟨_, SqL.of q7⟩, fun D5 nD5 => lc_pure (walk_list (a := sl) (xs := ss)) nD5 (by have := hR.1; omega) (fun i zs G => ∃ bad : List (List Int), DpAll K G zs (bad.map dI) ∧ (bad = [] → ∀ s ∈ states.take i, rowAt s ons ∈ c.2)) (fun i zs G G' k ⟨bad, h1, h2⟩ => ⟨bad, kp_mono_all k h1, h2⟩) ⟨[], .nil, fun _ s hs => by simp at hs⟩ (fun G s => SqL.of (s _ _ q7)) ?_ ?_⟩
          · rintro i x' G8 G9 zs post skip hi8 s8 ⟨bad, hbad1, hbad2⟩ ⟨rfl, hx⟩ hpost hskip
            obtain ⟨st, hst1, sa, rfl, hsa⟩ := (q8.same s8).at hx
            have hsl' := (hst st (List.mem_of_getElem? hst1)).1
            refine ⟨rfl, _, rfl, op, rfl, ⟨_, SqL.of (s8 _ _ hop)⟩, fun D6 nD6 => lc_rowL (st := st) (on := ons) nD6 (SqL.of (s8 _ _ hop)) (by omega) (fun x hx => by rw [hsl']; exact hol2 x hx) ?_ ?_⟩
            · intro k m G10 post2 skip2 hk hm s10 hp2
              exact ⟨rfl, _, rfl, _, rfl, sa, _, (m : Int), _, rfl, rfl, SqT.of (s10 _ _ hsa), atI_nat (st_get hm), hp2⟩
            intro G10 s10 hD6
            refine ⟨D6, _, rfl, .inl ⟨SqL.of hD6, fun t nt => ?_⟩⟩
            have s11 := s10.trans (same_new (o := .tup ((rowAt st ons).map V.int)) nt)
            have s811 := s8.trans s11
            have f5' := q5.same s811
            refine ⟨_, rfl, _, rfl, kl, ks, (ci : Int), .ref cva, rfl, rfl, SqL.of (s811 _ _ q1'), atI_nat hcv, cva, _, 1, .ref ra, rfl, rfl, same_t s811 q2, atI_nat (j := 1) rfl, _, _, tup_dI (SqT.of upd_same), .tup (same_t s811 q4) f5'.dp, sh_dI _, sh_dR _, ?_⟩
            rw [any_dI]
            have hb11 := kp_mono_all (Kp.of s11) hbad1
            by_cases hm : rowAt st ons ∈ c.2
            · rw [decide_eq_true hm]
              refine ⟨false, rfl, iteF (hskip _ s11 ⟨bad, hb11, fun hb0 s hs => ?_⟩)⟩
              rw [List.take_add_one, hst1] at hs
              rcases List.mem_append.mp hs with hs | hs
              · exact hbad2 hb0 s hs
              · have : s = st := by simpa using hs
                rw [this]
                exact hm
            · rw [decide_eq_false hm]
              refine ⟨true, rfl, iteT ⟨_, rfl, hpost _ _ s11 ⟨bad ++ [st], ?_, fun hb0 => by simp at hb0⟩⟩⟩
              rw [List.map_append]
              exact dpAll_app hb11 (.cons (tup_dI (SqT.of (s11 _ _ hsa))) .nil)
          intro G8 zs s8 hD5 ⟨bad, hbad1, hbad2⟩
          rw [hR.1, List.take_length] at hbad2
          refine ⟨by show 0 ≤ sizeLine; decide, fun e ne => ?_⟩
          have s9 := same_new (o := .lst []) ne
          have s89 := s8.trans s9
          refine ⟨_, _, .lst (SqL.of (s9 _ _ hD5)) (kp_mono_all (Kp.of s9) hbad1), .lst (SqL.of upd_same) .nil, sh_lR _, sh_nil, ?_⟩
          rw [eqv_nil]
          generalize upd G8 e (.lst []) = G9 at s9 s89 ⊢
          refine ⟨_, rfl, _, rfl, ?_⟩
          cases bad with
          | cons b0 bs => exact iteF (iteF (out G9 _ _ _ _ _ _ s89))
          | nil =>
            refine iteT ?_
            have hall := hbad2 rfl
            refine ⟨_, rfl, _, rfl, op, _, rfl, .inl ⟨SqL.of (s89 _ _ hop), fun t nt => ⟨by show 2 ≤ sizeLine; decide, fun t2 nt2 => ?_⟩⟩⟩
            have e1 := same_new (o := .tup ((zz ons).map V.int)) nt
            have e2 := same_new (o := .tup [.int (ci : Nat), .ref t]) nt2
            have s8A := s89.trans (e1.trans e2)
            have hdl : Dp K (upd (upd G9 t (.tup ((zz ons).map V.int))) t2 (.tup [.int (ci : Nat), .ref t])) (.ref t2) (dL (ci, ons)) := LdV.dp (l := (ci, ons)) ⟨t2, t, rfl, SqT.of upd_same, SqT.of (e2 _ _ upd_same)⟩
            have hAA := hA7.imp fun v l (h : LdV K G7 v l) => h.kp (Kp.of s8A)
            refine ⟨_, rfl, _, _, hdl, .lst (SqL.of (s8A _ _ hll7)) (lds_dp hAA), sh_dL _, sh_dLs _, _, rfl, ite2 (fun _ => ?_) (fun _ => out _ _ _ _ _ _ _ s8A)⟩
            have hllA := s8A _ _ hll7
            have hopA := s8A _ _ hop
            generalize upd (upd G9 t (.tup ((zz ons).map V.int))) t2 (.tup [.int (ci : Nat), .ref t]) = GA at s8A hAA hllA hopA ⊢
            refine ⟨_, rfl, .inl ⟨rfl, _, SqL.of hllA⟩, _, rfl, _, rfl, op, _, rfl, .inl ⟨SqL.of hopA, fun t3 nt3 => ⟨by show 2 ≤ sizeLine; decide, fun t4 nt4 => ?_⟩⟩⟩
            have e3 := same_new (o := .tup ((zz ons).map V.int)) nt3
            have e4 := same_new (o := .tup [.int (ci : Nat), .ref t3]) nt4
            have e34 := e3.trans e4
            have hllB := e34 _ _ hllA
            refine ⟨ll, ls, _, rfl, rfl, hllB, ltLine (by have := hA.1; omega), ?_⟩
            have kF := kp_lst (ws := ls ++ [.ref t4]) hllB
            have s7B := s8A.trans e34
            refine ⟨_, laid ++ [(ci, ons)], _, _, _, _, _, _, rfl, gr_lst nll (g4.trans (g47.trans (Gr.of s7B))), (hb7.same s7B).upd nllb, upd_same, (((hAA.imp fun v l (h : LdV K GA v l) => h.kp (Kp.of e34)).imp fun v l (h : LdV K _ v l) => h.kp kF).snoc ?_), by rw [List.length_append, List.length_singleton]; omega, fun l hl => ?_, fun s hs l hl => ?_⟩
            · exact ⟨t4, t3, rfl, SqT.of (kF.tup _ _ upd_same), SqT.of (kF.tup _ _ (e4 _ _ upd_same))⟩
            · rcases List.mem_append.mp hl with hl | hl
              · exact hfit l hl
              · rw [List.mem_singleton.mp hl]
                exact ⟨c, hcc, hlen, hol3 hlen⟩
            · rcases List.mem_append.mp hl with hl | hl
              · exact hpass s hs l hl
              · rw [List.mem_singleton.mp hl]
                show rowAt s ons ∈ (cs.map (·.2)).getD ci []
                rw [List.getD_eq_getElem?_getD, List.getElem?_map, hcc]
                exact hall s hs
        · rw [decide_eq_false (by rw [elo, elc]; intro z; injection z with z; omega)]
          refine ⟨false, rfl, iteF ?_⟩
          exact ⟨_, rfl, _, rfl, iteF (iteF (out G7 _ _ _ _ _ _ (Same.refl _)))⟩
    · rintro σ G4 ⟨ls, laid, v6, v8, v9, v10, v11, v12, rfl, g4, hb4, hll, hA, hl30, hfit, hpass⟩
      refine ⟨_, rfl, D, _, rfl, .inl ⟨SqL.of (g4 _ _ nDb hD3), fun cp ncp => ?_⟩⟩
      have e1 := same_new (o := .tup (cells.map V.int)) ncp
      refine ⟨_, rfl, _, rfl, ll, _, rfl, .inl ⟨SqL.of (e1 _ _ hll), fun lp nlp => ?_⟩⟩
      have e2 := same_new (o := .tup ls) nlp
      refine ⟨by show 3 ≤ sizeLine; decide, fun t nt => ?_⟩
      have e3 := same_new (o := .tup [.ref cp, .ref sl, .ref lp]) nt
      have e13 := e1.trans (e2.trans e3)
      have gF : Gr bx H (upd (upd (upd G4 cp (.tup (cells.map V.int))) lp (.tup ls)) t (.tup [.ref cp, .ref sl, .ref lp])) := g02.trans (g3.trans (g4.trans (Gr.of e13)))
      exact fin _ t cp sl lp ss ls cells states laid gF (hb4.same e13) upd_same (e3 _ _ (e2 _ _ upd_same)) nslb (e13 _ _ (g4 _ _ nslb hsl)) (hR.kp ((hb3.kp g4).trans (Kp.of e13))) (e3 _ _ upd_same) (hA.imp fun v l (h : LdV K G4 v l) => h.kp (Kp.of e13))
        ⟨by omega, by omega, hcin, hn, hst, hl30, hfit, hpass⟩
end
end K29
namespace K29
open PySem PySem.Spec PyProof.Rows L2
/-- what is asked of the three exceptions so that their fields can be read -/
structure Xf3 (K : PySem.W.Frag) : Prop where
  bs : XfC K (He.ga K "BadState")
  rf : XfC K (He.ga K "Refused")
  tg : XfC K (He.ga K "TooGreat")
  nbs : PySem.W.findIn K (.ref (He.ga K "BadState")) "at" = some none
  nrf : PySem.W.findIn K (.ref (He.ga K "Refused")) "at" = some none
  ntg : PySem.W.findIn K (.ref (He.ga K "TooGreat")) "most" = some none
/-- what _law_heard makes of an exception -/
def HeardE (K : PySem.W.Frag) (Q : VK) : XK := fun cls d H' => ∃ (dd : Addr) (fs : List (Str × V)), d = some dd ∧ H' dd = some (.xd fs) ∧
  ((cls = .ref (He.ga K "BadState") ∧ ∃ v, fs.lookup ("at" : Str) = some v ∧ ∀ H2 t, Same H' H2 → H2 t = some (.tup [.str "state", v]) → Q (.ref t) H2) ∨
  (cls = .ref (He.ga K "TooGreat") ∧ ∃ v, fs.lookup ("most" : Str) = some v ∧ ∀ H2 t, Same H' H2 → H2 t = some (.tup [.str "great", v]) → Q (.ref t) H2) ∨
  (cls = .ref (He.ga K "Refused") ∧ ∃ v, fs.lookup ("at" : Str) = some v ∧
    (((∃ s, StoreV K H' v s) ∧ ∀ H2 t, Same H' H2 → H2 t = some (.tup [.str "refused", v]) → Q (.ref t) H2) ∨
    ∃ (a : Addr) (l : Bool) (ns : List Int), v = .ref a ∧ LX K l H' a (ns.map V.int) ∧ Small ns ∧ ∀ H2 t, Same H' H2 → H2 t = some (.tup [.str "refused", .str (shX l ns)]) → Q (.ref t) H2)))
def TTH (K : PySem.W.Frag) : (XK → Hp → VK → Prop) → Hp → VK → Prop := fun tl H Q =>
  tl (HeardE K Q) H (fun v H' => [V.str "told", v].length ≤ sizeLine ∧ ∀ t, H' t = none → Q (.ref t) (upd H' t (.tup [.str "told", v])))
theorem sc_law_heard : FnScope ["_law_ask", "fault"] ["_law_ask"] (defScope s_law_heard) := ⟨rfl, rfl, rfl, by decide +kernel, rfl, by decide +kernel, by decide +kernel⟩
theorem kcall_isiT {X : Cx} (K : PySem.W.Frag) (h : X.K = K := by rfl) : CallR X (.builtin "isinstance") (rIsiT K) := by
  subst h
  exact call_isiT
theorem ps_none {X : Cx} {b : List Stmt} : PSs X b (fun _ _ _ => False) := ⟨fun _ _ _ _ _ _ h => h.elim⟩
theorem heard_gives {X : Cx} {g : Addr} {cdg : Value} {q : Str} {k : Nat} (T : Tx X.K X.mg) (U : Ux X.K) (F : Xf3 X.K) (hgd : X.A.guards = some []) (hr : Room (k + 1) X.A) :
    LamX.GivesTo X ["_law_ask", "fault"] "_law_heard" (defScope s_law_heard) g cdg (defBody s_law_heard) "_law_ask" q (TTH X.K) := by
  intro f c' s H Q tl act hc h
  have nd := sc_law_heard.nd
  refine ⟨_, pss_one (ps_try_manyA (X := (cxOf C8.CX0 X.prog X.w X.K X.mg X.base ["_law_ask", "fault"] "_law_heard" (defScope s_law_heard) g cdg X.A X.stack s H C8.E0).nox) (n := "fault") (i := 1)
      (l := [(.ref (He.ga X.K "NoKind"), fun _ _ _ _ _ _ => False), (.ref (He.ga X.K "BadState"), _), (.ref (He.ga X.K "TooGreat"), _), (.ref (He.ga X.K "Refused"), _)])
      (tb := fun W D σ H => ∃ Ech : XK, (∀ cls d σ' H', Ech cls d H' → W cls d σ' H') ∧ σ[0]? = some (some (.ref f)) ∧ H c' = some (LamX.CodeO c' q) ∧ tl Ech H (fun v H' => [V.str "told", v].length ≤ sizeLine ∧ ∀ t, H' t = none → D.rt (.ref t) (upd H' t (.tup [.str "told", v]))))
      rfl rfl nd rfl rfl LamX.takes0 (fun W pn xe tk _ => ?_)
      (.cons ⟨rfl, by decide, .inl T.g_NoKind⟩ (fun a oe cls d pn hz hf => ps_none)
      (.cons ⟨rfl, by decide, .inl T.g_BadState⟩ (fun a oe cls d pn hz hf => pss_one (ps_ret (pe_tup (pa_cons pe_str (pa_cons (pe_xf F.bs F.nbs hz hf (pv 1)) pa_nil)))))
      (.cons ⟨rfl, by decide, .inl T.g_TooGreat⟩ (fun a oe cls d pn hz hf => pss_one (ps_ret (pe_tup (pa_cons pe_str (pa_cons (pe_xf F.tg F.ntg hz hf (pv 1)) pa_nil)))))
      (.cons ⟨rfl, by decide, .inl T.g_Refused⟩ (fun a oe cls d pn hz hf => pss_one (ps_ret (pe_tup (pa_cons pe_str (pa_cons (pe_ifExp (pt_val (pe_callB (kcall_isiT X.K) (by rfl) T.z_isinstance PyProof.Rows.boot_isinstance (pa_cons (pe_xf F.rf F.nrf hz hf (pv 1)) (pa_cons (pe_tup (pa_cons (pe_glob (v := .ref (He.ga X.K "Store")) rfl T.g_Store rfl) (pa_cons (pe_glob (v := .ref (He.ga X.K "LaxBook")) rfl T.g_LaxBook rfl) pa_nil))) pa_nil))))
        (pe_xf F.rf F.nrf hz hf (pv 1)) (pe_callB (cr_reprX X.K ?_ ?_) (by rfl) T.z_repr PyProof.Rows.boot_repr (pa_cons (pe_xf F.rf F.nrf hz hf (pv 1)) pa_nil))) pa_nil))))) .nil))))), ?_⟩
  · refine ⟨fun pins s' σ H' D I h' => ?_⟩
    obtain ⟨Ech, hW, h1, h2, h3⟩ := h'
    exact PSs.run (pss_one (ps_ret (pe_tup (pa_cons pe_str (pa_cons (act W pn xe Ech _ _ tk hW) pa_nil))))) pins s' σ H' D I ⟨h1, h2, h3⟩
  · exact hgd
  · have h1 := (hr.deeper (envOfC "_law_heard" (defScope s_law_heard) s.heap.objs.size g cdg)).un
    show (X.A.deeper (envOfC "_law_heard" (defScope s_law_heard) s.heap.objs.size g cdg)).units + 64 < cLine
    omega
  · refine ⟨HeardE X.K Q, fun cls d σ' H' hE hlen => ?_, rfl, hc, h⟩
    obtain ⟨dd, fs, rfl, hd, hE⟩ := hE
    have h1s : ∀ a : Addr, (σ'.set 1 (some (V.ref a)))[1]? = some (some (V.ref a)) := fun a => by
      have h2 : σ'.length = 2 := hlen
      have : 1 < σ'.length := by omega
      simp [this]
    rcases hE with ⟨rfl, v, hl, fin⟩ | ⟨rfl, v, hl, fin⟩ | ⟨rfl, v, hl, fin⟩
    · refine ⟨false, T.x_BadState_NoKind, nofun, fun _ => ⟨true, T.x_BadState_BadState, fun _ a na => ?_, nofun⟩⟩
      refine ⟨_, h1s a, rfl, rfl, dd, fs, v, rfl, hd, hl, by show 2 ≤ sizeLine; decide, fun t nt => fin _ t (same_new nt) upd_same⟩
    · refine ⟨false, T.x_TooGreat_NoKind, nofun, fun _ => ⟨false, T.x_TooGreat_BadState, nofun, fun _ => ⟨true, T.x_TooGreat_TooGreat, fun _ a na => ?_, nofun⟩⟩⟩
      refine ⟨_, h1s a, rfl, rfl, dd, fs, v, rfl, hd, hl, by show 2 ≤ sizeLine; decide, fun t nt => fin _ t (same_new nt) upd_same⟩
    · refine ⟨false, T.x_Refused_NoKind, nofun, fun _ => ⟨false, T.x_Refused_BadState, nofun, fun _ => ⟨false, T.x_Refused_TooGreat, nofun, fun _ => ⟨true, T.x_Refused_Refused, fun _ a na => ?_, nofun⟩⟩⟩⟩
      refine ⟨_, h1s a, rfl, rfl, dd, fs, v, rfl, hd, hl, by show 2 ≤ sizeLine; decide, fun p np => ?_⟩
      have s1 := same_new (o := .tup [.ref (He.ga X.K "Store"), .ref (He.ga X.K "LaxBook")]) np
      have hd1 := s1 _ _ hd
      rcases fin with ⟨⟨st, hst⟩, fin⟩ | ⟨b, l, ns, rfl, hs, hsm, fin⟩
      · obtain ⟨sa, dx, bv, p', q', xs, rfl, e1, _⟩ := hst.ex
        refine ⟨_, p, _, _, _, true, rfl, upd_same, .cons (.own _) (.cons (.own _) .nil), .base (.ins (s1 _ _ e1) T.c_Store U.clS U.spG U.tkC U.moS), (kitAny_cons (show PySem.W.kitOne X.K (.ref (He.ga X.K "Store")) (.ref (He.ga X.K "Store")) = some true by unfold PySem.W.kitOne; rw [if_pos (beq_self_eq_true _)]) (fun z => nomatch z) (fun _ => rfl)), true, rfl, iteT ?_⟩
        exact ⟨_, h1s a, rfl, rfl, dd, fs, _, rfl, hd1, hl, by show 2 ≤ sizeLine; decide, fun t nt => fin _ t (s1.trans (same_new nt)) upd_same⟩
      · have ty : ∃ t, TyX X.K (upd H' p (.tup [.ref (He.ga X.K "Store"), .ref (He.ga X.K "LaxBook")])) (.ref b) t ∧ PySem.W.kitAny X.K t [.ref (He.ga X.K "Store"), .ref (He.ga X.K "LaxBook")] = some false := by
          rcases hs with ⟨rfl, hs⟩ | ⟨rfl, hs⟩
          · exact ⟨_, .base (.lst (s1 _ _ hs)), kitAny_cons U.kLS (fun _ => kitAny_cons U.kLL (fun _ => kitAny_nil) (fun z => nomatch z)) (fun z => nomatch z)⟩
          · exact ⟨_, tyx_tup (same_t s1 hs), kitAny_cons U.kTS (fun _ => kitAny_cons U.kTL (fun _ => kitAny_nil) (fun z => nomatch z)) (fun z => nomatch z)⟩
        obtain ⟨t, ty, kt⟩ := ty
        refine ⟨_, p, _, _, _, false, rfl, upd_same, .cons (.own _) (.cons (.own _) .nil), ty, kt, false, rfl, iteF ?_⟩
        refine ⟨_, h1s a, rfl, rfl, dd, fs, _, rfl, hd1, hl, .inr ⟨b, l, ns, rfl, hs.gr s1, hsm, by show 2 ≤ sizeLine; decide, fun t nt => fin _ t (s1.trans (same_new nt)) upd_same⟩⟩
end K29
namespace K29
open PySem PySem.Spec PyProof.Rows L2
/-! ### plain facts of a drawn book and store -/
theorem rowsAsc_nodup {L : List (List Int)} (h : Asc L) : L.Nodup := h.imp fun hlt e => by
  rw [e] at hlt
  exact Int.lt_irrefl _ hlt
theorem told_at {cs cs' : List Chk} (h : ToldAll cs cs') {i : Nat} {c : Chk} (e : cs[i]? = some c) : ∃ c', cs'[i]? = some c' ∧ ToldOf c c' := by
  have hi := (List.getElem?_eq_some_iff.mp e).1
  have hj : i < cs'.length := by rw [h.1]; exact hi
  exact ⟨cs'[i], List.getElem?_eq_getElem hj, h.2 i c _ e (List.getElem?_eq_getElem hj)⟩
theorem told_back {cs cs' : List Chk} (h : ToldAll cs cs') {i : Nat} {c' : Chk} (e : cs'[i]? = some c') : ∃ c, cs[i]? = some c ∧ ToldOf c c' := by
  have hi := (List.getElem?_eq_some_iff.mp e).1
  have hj : i < cs.length := by rw [← h.1]; exact hi
  exact ⟨cs[i], List.getElem?_eq_getElem hj, h.2 i _ c' (List.getElem?_eq_getElem hj) e⟩
theorem store_ok' {cols : List Int} {cs cs' : List Chk} {cells : List Int} {states : List (List Int)} {laid : List Ld} (hb : BookOk cols cs) (ht : ToldAll cs cs') (h : StoreFit cols cs cells states laid) : StoreOk ⟨⟨cols, cs'⟩, cells, laid⟩ := by
  refine ⟨by have := h.c2; show 1 ≤ cells.length; omega, by have := h.c6; show cells.length ≤ 200; omega, h.cin, by have := h.l30; show laid.length ≤ 4000; omega, fun l hl => ?_⟩
  obtain ⟨c, h1, h2, h3⟩ := h.lf l hl
  obtain ⟨c', e, t1, _, _⟩ := told_at ht h1
  have h4 := (hb c (List.mem_of_getElem? h1)).1.2.1
  exact ⟨c', e, by rw [t1]; exact h2, by omega, by rw [t1]; exact h3⟩
theorem fine_eq {cols : List Int} {cs cs' : List Chk} {cells : List Int} {laid : List Ld} (ht : ToldAll cs cs') (st : List Int) : fineB ⟨⟨cols, cs'⟩, cells, laid⟩ st = passB (cs.map (·.2)) laid st := by
  unfold fineB
  refine passB_congr (by rw [List.length_map, List.length_map]; exact ht.1) (fun i t t' h1 h2 r => ?_) laid st
  obtain ⟨c', e1, rfl⟩ := map_at h1
  obtain ⟨c, e2, rfl⟩ := map_at h2
  exact (ht.2 i c c' e2 e1).2.2 r
theorem fine_st {cols : List Int} {cs cs' : List Chk} {cells : List Int} {states : List (List Int)} {laid : List Ld} (ht : ToldAll cs cs') (h : StoreFit cols cs cells states laid) {st : List Int} (hs : st ∈ states) : fineB ⟨⟨cols, cs'⟩, cells, laid⟩ st = true := by
  rw [fine_eq ht]
  unfold passB
  rw [List.all_eq_true]
  intro l hl
  exact decide_eq_true (h.ps st hs l hl)
theorem tabs_ok' {cols : List Int} {cs cs' : List Chk} {tabs : List (List Row)} (hb : BookOk cols cs) (h2 : cs.length ≤ 2) (ht : ToldAll cs cs') (h : TabsFit cols cs tabs) : TabsOk ⟨cols, cs'⟩ tabs := by
  refine ⟨by rw [h.1]; exact ht.1, by rw [h.1]; omega, fun i c' t e1 e2 => ?_⟩
  obtain ⟨c, ec, t1, ta, tm⟩ := told_back ht e1
  obtain ⟨⟨c1, c2, c3, c4, c5⟩, _⟩ := hb c (List.mem_of_getElem? ec)
  obtain ⟨f1, f2, f3⟩ := h.2 i c t ec e2
  refine ⟨⟨by rw [t1]; exact c1, by rw [t1]; exact c2, by rw [t1]; exact c3, ?_, fun r hr => by rw [t1]; exact c5 r ((tm r).mp hr)⟩, by rw [t1]; exact f1, by rw [t1]; exact f2, fun r hr => f3 r ((tm r).mp hr)⟩
  have := nodup_len (rowsAsc_nodup ta) fun r hr => (tm r).mp hr
  omega
theorem ok_eq {tabs tabs' : List (List Row)} (h : TabsTold tabs tabs') (laid : List Ld) (old new : List Int) : okB tabs' laid old new = okB tabs laid old new := by
  funext S
  unfold okB
  exact passB_congr h.1 (fun i t t' h1 h2 r => h.2 i t' t h2 h1 r) laid _
theorem laid_in' {cols : List Int} {cs : List Chk} {cells : List Int} {states : List (List Int)} {laid : List Ld} {tabs : List (List Row)} (hb : BookOk cols cs) (hl : tabs.length = cs.length) (h : StoreFit cols cs cells states laid) : LaidIn tabs cells.length laid := by
  refine ⟨by have := h.l30; omega, fun l hl' => ?_⟩
  obtain ⟨c, h1, h2, h3⟩ := h.lf l hl'
  have h4 := (hb c (List.mem_of_getElem? h1)).1.2.1
  refine ⟨by rw [hl]; exact (List.getElem?_eq_some_iff.mp h1).1, by omega, fun x hx => ?_⟩
  obtain ⟨i, hi, e⟩ := List.mem_iff_getElem.mp hx
  have := h3 i x (c.1[i]'(by omega)) (by rw [List.getElem?_eq_getElem hi, e]) (List.getElem?_eq_getElem (by omega))
  exact (List.getElem?_eq_some_iff.mp this).1
/-- the start passes: all rows are in their tables -/
theorem ok_nil {cols : List Int} {cs : List Chk} {cells : List Int} {states : List (List Int)} {laid : List Ld} {tabs : List (List Row)} (hf : TabsFit cols cs tabs) (h : StoreFit cols cs cells states laid) {old new : List Int} (ho : old ∈ states) : okB tabs laid old new [] = true := by
  unfold okB
  rw [setB_nil]
  unfold passB
  rw [List.all_eq_true]
  intro l hl
  have h1 := h.ps old ho l hl
  refine decide_eq_true ?_
  obtain ⟨c, hc, _⟩ := h.lf l hl
  have hi := (List.getElem?_eq_some_iff.mp hc).1
  have ht : tabs[l.1]? = some (tabs[l.1]'(by rw [hf.1]; exact hi)) := List.getElem?_eq_getElem (by rw [hf.1]; exact hi)
  rw [List.getD_eq_getElem?_getD, List.getElem?_map, hc] at h1
  rw [List.getD_eq_getElem?_getD, ht]
  exact (hf.2 l.1 c _ hc ht).2.2 _ h1
/-! ### lax_way called -/
theorem vals_rev {xs : List V} {us : List Value} (h : Vals xs us) : Vals xs.reverse us.reverse := by
  induction h with
  | nil => exact .nil
  | cons r t ih =>
    rw [List.reverse_cons, List.reverse_cons]
    exact ih.append (.cons r .nil)
section
variable {P : Program} {w : World} {K : PySem.W.Frag} {mg : Str → Option Value} {base : Heap}
theorem lax_binds {fd : FuncData} {f : Addr} (F : FunD K "lax_way" "lax_way" (defArgs s_lax_way) (defBody s_lax_way) (defScope s_lax_way) [] [] f fd) :
    KBn K fd ["lax", "store", "old", "new", "most"] 4 ["most"] (fun us ws => us ++ ws) (fun vs zs => vs ++ zs) ∧
    KBn K fd ["lax", "store", "old", "new", "most"] 0 ["most", "new", "old", "store", "lax"] (fun _ ws => ws.reverse) (fun _ zs => zs.reverse) := by
  obtain ⟨oc, od, dV, kV, doc, pm, an, cdv, ct, osl, rfl, lk, hcd, hD, hK⟩ := F.ex
  rcases hD with ⟨_, rfl⟩ | ⟨e, _⟩
  · refine ⟨⟨fun s us ws X l1 l2 => .of_eq ?_, fun r1 r2 => r1.append r2⟩, ⟨fun s us ws X l1 l2 => .of_eq ?_, fun r1 r2 => vals_rev r2⟩⟩
    · match us, ws, l1, l2 with
      | [_, _, _, _], [_], _, _ => rfl
    · match us, ws, l1, l2 with
      | [], [_, _, _, _, _], _, _ => rfl
  · exact absurd rfl e
end
/-! ### what stays: all but the box and the tables of code -/
def Lk (bx : Addr) (H H' : Hp) : Prop := ∀ b o, b ≠ bx → (∀ ps, o ≠ HO.tbl ps) → H b = some o → H' b = some o
theorem Lk.trans {bx : Addr} {H H1 H2 : Hp} (a : Lk bx H H1) (b : Lk bx H1 H2) : Lk bx H H2 := fun c o n t h => b c o n t (a c o n t h)
theorem Lk.gr {bx : Addr} {H H' : Hp} (g : Gr bx H H') : Lk bx H H' := fun b o n _ h => g b o n h
theorem Lk.same {bx : Addr} {H H' : Hp} (g : Same H H') : Lk bx H H' := fun b o _ _ h => g b o h
theorem Lk.ext {bx : Addr} {H H' : Hp} (g : LamX.ExtN H H') : Lk bx H H' := fun b o _ t h => g b o h t
theorem Lk.kp {bx : Addr} {H H' : Hp} (hb : BoxAt H bx) (g : Lk bx H H') : Kp H H' := by
  obtain ⟨p, q, h1, _⟩ := hb
  refine ⟨fun a xs ha => g a _ (fun z => ?_) (fun ps z => by cases z) ha, fun a o u ha => g a _ (fun z => ?_) (fun ps z => by cases z) ha, fun a C dx fs ha => g a _ (fun z => ?_) (fun ps z => by cases z) ha⟩
  · rw [z, h1] at ha
    cases ha
  · rw [z, h1] at ha
    cases ha
  · rw [z, h1] at ha
    cases ha
theorem tabs_gr {T : List (Addr × Str)} {bx : Addr} {H H' : Hp} (hb : BoxAt H bx) (g : Gr bx H H') (t : LamX.Tabs T H) : LamX.Tabs T H' := fun p hp => by
  obtain ⟨ps, h1, h2, h3⟩ := t p hp
  obtain ⟨x, y, e, _⟩ := hb
  refine ⟨ps, g _ _ (fun z => ?_) h1, h2, fun pos cv hc => ?_⟩
  · rw [z, e] at h1
    cases h1
  · obtain ⟨c, e1, e2⟩ := h3 pos cv hc
    refine ⟨c, e1, g _ _ (fun z => ?_) e2⟩
    rw [z, e] at e2
    cases e2
theorem box_ext {bx : Addr} {H H' : Hp} (g : LamX.ExtN H H') (hb : BoxAt H bx) : BoxAt H' bx := by
  obtain ⟨x, y, e, r⟩ := hb
  exact ⟨x, y, g _ _ e (fun ps z => by cases z), r⟩
end K29
namespace K29
open PySem PySem.Spec PyProof.Rows L2
theorem kcall_list_of {X : Cx} (K : PySem.W.Frag) (h : X.K = K := by rfl) : CallR X (.type "list") (fun xs H Q => ∃ p ys, xs = [.ref p] ∧ (SqL K H p ys ∨ SqT K H p ys) ∧ ∀ l, H l = none → Q (.ref l) (upd H l (.lst ys))) := by
  subst h
  exact call_list_of
theorem room_down {k j : Nat} {A : Around} (h : Room j A) (hk : k ≤ j) : Room k A := h.mono hk
/-- _law_heard(lambda: ..) -/
theorem pe_heard {X : Cx} {tb c : Addr} {params : Arguments} {body : Expr} {scope : Scope} {t : XK → TE} {p lpos pos : Pos} (T : Tx X.K X.mg) (U : Ux X.K) (F : Xf3 X.K) (hgd : X.A.guards = some []) (hr : Room 9 X.A) (hg : Gl X "_law_heard")
    (TB : LamX.TabB X.base X.mg c tb) (hcode : X.env.code = .ref c) (L : LamX.LamS X.env.scope scope) (hdef : defaultsOf params X.env = ([], []))
    (hbind : ∀ (q : Str) (cl : List (Str × Addr)) (pm cv ctv : Value), bindArgs (PySem.W.kla_fn "<lambda>" q params body scope cl pm cv ctv) ⟨[], []⟩ = pure [])
    (hbody : ∀ (A : Around) (outer : List Env) (s : Shared) (H : Hp) (E : XK) (f c' : Addr), Room 7 (A.deeper (LamX.lamEnv X scope s.heap.objs.size f c')) → PE (LamX.lamCx X A outer s H E scope f c') body (t E)) :
    PE X (.Call (.Name "_law_heard" p) [.Lambda params body scope lpos] [] pos) (LamX.tLam [(tb, X.env.qual ++ "<lambda>")] (TTH X.K) t) := by
  obtain ⟨fdh, FH⟩ := T.f_law_heard
  have hb := FH.bindsN (ps := ["_law_ask"]) (fun _ _ _ _ _ _ us hl => match us, hl with | [_], _ => rfl)
  obtain ⟨oc, od, dV, kV, doc, pm, an, cdh, ct, osl, rfl, lk, hcd, hD, hK⟩ := FH.ex
  exact LamX.pe_lamcall (T := [(tb, X.env.qual ++ "<lambda>")]) (Ng := ["_law_ask", "fault"]) hg T.g_law_heard FH.kp lk hcd hb sc_law_heard rfl (.inl rfl) (heard_gives (k := 8) T U F hgd hr) TB hcode (List.mem_singleton.mpr rfl) (fun q hq _ => by rw [List.mem_singleton.mp hq]) hr L hdef hbind hbody
theorem mk_same {H2 H3 : Hp} {x dx : Addr} {o u : HO} (nx : H2 x = none) (ndx : H2 dx = none) (g : Gr x (upd (upd H2 dx o) x u) H3) : Same H2 H3 := fun b v e => by
  have h1 : b ≠ x := ne_of_none e nx
  have h2 : b ≠ dx := ne_of_none e ndx
  exact g b v h1 (by rw [upd_ne h1, upd_ne h2]; exact e)
theorem mk_same0 {H2 : Hp} {x dx : Addr} {o u : HO} (nx : H2 x = none) (ndx : H2 dx = none) : Same H2 (upd (upd H2 dx o) x u) := mk_same nx ndx (Gr.refl _)
theorem told_unique {cs a b : List Chk} (h1 : ToldAll cs a) (h2 : ToldAll cs b) : a = b := by
  refine List.ext_getElem (by rw [h1.1, h2.1]) fun i i1 i2 => ?_
  have hi : i < cs.length := by rw [← h1.1]; exact i1
  obtain ⟨p1, q1, r1⟩ := h1.2 i _ _ (List.getElem?_eq_getElem hi) (List.getElem?_eq_getElem i1)
  obtain ⟨p2, q2, r2⟩ := h2.2 i _ _ (List.getElem?_eq_getElem hi) (List.getElem?_eq_getElem i2)
  have e2 : a[i].2 = b[i].2 := rowsAsc_unique q1 q2 fun r => (r1 r).trans (r2 r).symm
  exact Prod.ext (p1.trans p2.symm) e2
theorem chk_ne {K : PySem.W.Frag} {H : Hp} {bx p : Addr} {xs : List V} {cs : List Chk} (hb : BoxAt H bx) (hp : H p = some (.lst xs)) (h : ChkVs K H xs cs) : p ≠ bx := fun z => by
  obtain ⟨g, s, e, _⟩ := hb
  rw [z, e] at hp
  cases hp
  obtain ⟨c, _, a, _, _, _, ea, _⟩ := h.at (i := 0) (v := .int g) rfl
  cases ea
def qL : Str := (envOfC "law" (defScope s_law) 0 0 (.ref 0)).qual ++ "<lambda>"
/-- all that the law knows of its heap while it looks at one drawn store -/
structure LawF (K : PySem.W.Frag) (bx a tb ca kl wp lx st cp sl lp : Addr) (ns : List Int) (ks ts ss ls : List V) (cols : List Int) (cs cs1 : List Chk) (tabs tabs' : List (List Row)) (cells : List Int) (states : List (List Int)) (laid : List Ld) (H : Hp) : Prop where
  box : BoxAt H bx
  scr : ∀ H', Lk bx H H' → SqL K H' a (ns.map V.int)
  tab : LamX.Tabs [(tb, qL)] H
  nkl : kl ≠ bx
  nwp : wp ≠ bx
  nsl : sl ≠ bx
  hca : H ca = some (.tup (cols.map V.int))
  hkl : H kl = some (.lst ks)
  hks : ChkVs K H ks cs
  hwp : H wp = some (.lst ts)
  hts : Al (TabV K H) ts tabs
  lax : LaxV K H (.ref lx) ⟨⟨cols, cs1⟩, tabs'⟩
  sto : StoreV K H (.ref st) ⟨⟨cols, cs1⟩, cells, laid⟩
  hcp : H cp = some (.tup (cells.map V.int))
  hsl : H sl = some (.lst ss)
  hR : Rws H ss states
  hlp : H lp = some (.tup ls)
  hA : Al (LdV K H) ls laid
section
variable {K : PySem.W.Frag} {bx a tb ca kl wp lx st cp sl lp : Addr} {ns : List Int} {ks ts ss ls : List V} {cols : List Int} {cs cs1 : List Chk} {tabs tabs' : List (List Row)} {cells : List Int} {states : List (List Int)} {laid : List Ld} {H H' : Hp}
theorem LawF.lk (g : Lk bx H H') (hb : BoxAt H' bx) (t : LamX.Tabs [(tb, qL)] H') (F : LawF K bx a tb ca kl wp lx st cp sl lp ns ks ts ss ls cols cs cs1 tabs tabs' cells states laid H) : LawF K bx a tb ca kl wp lx st cp sl lp ns ks ts ss ls cols cs cs1 tabs tabs' cells states laid H' := by
  have k := Lk.kp F.box g
  have nl : ∀ xs ps, HO.lst xs ≠ HO.tbl ps := fun xs ps z => by cases z
  exact ⟨hb, fun H2 g2 => F.scr H2 (g.trans g2), t, F.nkl, F.nwp, F.nsl, k.tup _ _ F.hca, g _ _ F.nkl (nl _) F.hkl, F.hks.kp k, g _ _ F.nwp (nl _) F.hwp, F.hts.imp fun v t h => h.kp k, F.lax.kp k, F.sto.kp k, k.tup _ _ F.hcp, g _ _ F.nsl (nl _) F.hsl, F.hR.kp k, k.tup _ _ F.hlp, F.hA.imp fun v l h => h.kp k⟩
theorem LawF.gr (g : Gr bx H H') (hb : BoxAt H' bx) (F : LawF K bx a tb ca kl wp lx st cp sl lp ns ks ts ss ls cols cs cs1 tabs tabs' cells states laid H) : LawF K bx a tb ca kl wp lx st cp sl lp ns ks ts ss ls cols cs cs1 tabs tabs' cells states laid H' := F.lk (Lk.gr g) hb (tabs_gr F.box g F.tab)
theorem LawF.same (e : Same H H') (F : LawF K bx a tb ca kl wp lx st cp sl lp ns ks ts ss ls cols cs cs1 tabs tabs' cells states laid H) : LawF K bx a tb ca kl wp lx st cp sl lp ns ks ts ss ls cols cs cs1 tabs tabs' cells states laid H' := F.gr (Gr.of e) (F.box.same e)
theorem LawF.ext (e : LamX.ExtN H H') (t : LamX.Tabs [(tb, qL)] H') (F : LawF K bx a tb ca kl wp lx st cp sl lp ns ks ts ss ls cols cs cs1 tabs tabs' cells states laid H) : LawF K bx a tb ca kl wp lx st cp sl lp ns ks ts ss ls cols cs cs1 tabs tabs' cells states laid H' := F.lk (Lk.ext e) (box_ext e F.box) t
end
/-! ### two good states handed in -/
theorem way_need {K : PySem.W.Frag} {H : Hp} {oa na : Addr} {l1 l2 : Bool} {old new : List Int} {l : Lx} {s : St} {most : Nat} {Q : VK} {E : XK} (ho : LX K l1 H oa (old.map V.int)) (hn : LX K l2 H na (new.map V.int)) (h10 : s.cells.length ≤ 10) (so : StOk s old) (sn : StOk s new) (fo : fineB s old = true) (fn : fineB s new = true)
    (h : ∀ r, Ends (okB l.ways s.laid old new) most (diffB old new) 0 [([], [])] r → ∀ H2, Same H H2 → WayFin K most H2 Q E r) :
    NeedP K s (.ref oa) H (fun r1 H1 => NeedP K s (.ref na) H1 (fun r2 H2 => WayP K l s most r1 r2 H2 Q E) E) E := by
  have lo := so.1
  have ln := sn.1
  refine .inl ⟨l1, oa, old, rfl, ho, by omega, so, .inl ⟨fo, fun H1 t1 e1 ht1 => .inl ⟨l2, na, new, rfl, hn.gr e1, by omega, sn, .inl ⟨fn, fun H2 t2 e2 ht2 => ?_⟩⟩⟩⟩
  exact ⟨t1, t2, old, new, rfl, rfl, same_t e2 ht1, ht2, lo, ln, fun r hr => h r hr H2 (e1.trans e2)⟩
theorem stok_of {cols : List Int} {cs : List Chk} {cells st : List Int} {laid : List Ld} (h : StFit cols cells st) : StOk ⟨⟨cols, cs⟩, cells, laid⟩ st := h
theorem WayFin.imp {K : PySem.W.Frag} {most : Nat} {H : Hp} {Q Q' : VK} {E E' : XK} {r : Res} (hQ : ∀ v H', Same H H' → Q v H' → Q' v H') (h : WayFin K most H Q E r) (hE : ∀ d H', Same H H' → E (.ref (He.ga K "TooGreat")) d H' → E' (.ref (He.ga K "TooGreat")) d H') : WayFin K most H Q' E' r := by
  cases r with
  | way p => exact fun H' v e hv => hQ v H' e (h H' v e hv)
  | non => exact fun H' e => hQ _ H' e (h H' e)
  | great => exact fun H' d e hd => hE _ H' e (h H' d e hd)
theorem res_dec {ok : List Nat → Bool} {cells : List Nat} {W : List (List Nat)} (hW : AllLots ok cells W) {r : Res} {most : Nat} (h : Right ok most cells r) : (∃ p, r = .way p ∧ cells ∈ W ∧ PathOk ok cells p) ∨ (r = .non ∧ cells ∉ W) ∨ (r = .great ∧ most < W.length) := by
  cases r with
  | way p => exact .inl ⟨p, rfl, (hW.2 _).mpr h.1, h.2⟩
  | non => exact .inr (.inl ⟨rfl, fun z => h ((hW.2 _).mp z)⟩)
  | great => exact .inr (.inr ⟨rfl, great_more hW h⟩)
end K29
namespace K29
open PySem PySem.Spec PyProof.Rows L2
/-- what a value of lax_way is, by the plain result -/
def TO (H : Hp) (v : V) : Res → Prop
  | .way p => Rw H v (zz p)
  | .non => v = .non
  | .great => False
theorem way_fin {K : PySem.W.Frag} {most : Nat} {H : Hp} {Q : VK} {E : XK} : ∀ {r : Res}, (∀ H' v, Same H H' → TO H' v r → Q v H') → (r = .great → ∀ H' d, Same H H' → H' d = some (.xd [("most", .int (most : Nat))]) → E (.ref (He.ga K "TooGreat")) (some d) H') → WayFin K most H Q E r
  | .way _, h, _ => fun H' v e t => h H' v e t
  | .non, h, _ => fun H' e => h H' .non e rfl
  | .great, _, h => fun H' d e t => h rfl H' d e t
theorem TO.same {H H' : Hp} {v : V} (e : Same H H') : ∀ {r : Res}, TO H v r → TO H' v r
  | .way _, h => h.imp fun _ h => ⟨h.1, e _ _ h.2⟩
  | .non, h => h
  | .great, h => h
theorem TO.dec {H : Hp} {v : V} {ok : List Nat → Bool} {cells : List Nat} {W : List (List Nat)} {most : Nat} (hW : AllLots ok cells W) : ∀ {r : Res}, TO H v r → Right ok most cells r → decide (cells ∈ W) = !decide (v = .non)
  | .way p, h, hr => by
    obtain ⟨a, rfl, _⟩ := h
    have : cells ∈ W := (hW.2 _).mpr hr.1
    simp [this]
  | .non, h, hr => by
    cases (show v = V.non from h)
    have : cells ∉ W := fun z => hr ((hW.2 _).mp z)
    simp [this]
theorem TO.way {H : Hp} {v : V} {ok : List Nat → Bool} {cells : List Nat} {most : Nat} : ∀ {r : Res}, TO H v r → Right ok most cells r → v ≠ .non → ∃ p a, r = .way p ∧ v = .ref a ∧ H a = some (.tup ((zz p).map V.int)) ∧ PathOk ok cells p
  | .way p, h, hr, _ => by
    obtain ⟨a, rfl, h⟩ := h
    exact ⟨p, a, rfl, rfl, h, hr.2⟩
  | .non, h, _, n => (n h).elim
theorem TO.repr {K : PySem.W.Frag} {ok : List Nat → Bool} {cells : List Nat} {most n : Nat} (hlt : ∀ x ∈ cells, x < n) (hl : cells.length ≤ n) (hn : n ≤ 8) : ∀ {r : Res}, Right ok most cells r → ∃ s : Str, ∀ H v, TO H v r → ∀ Q : VK, Q (.str s) H → rReprX K [v] H Q
  | .way p, hr => ⟨shX false (zz p), fun H v hv Q q => by
      obtain ⟨a, rfl, h⟩ := hv
      exact .inr ⟨a, false, zz p, rfl, .inr ⟨rfl, SqT.of h⟩, ⟨by
        have := hr.2.perm.length_eq
        unfold zz
        rw [List.length_map]
        omega, fun m hm => by
        obtain ⟨x, hx, rfl⟩ := List.mem_map.mp hm
        have := hlt x (hr.2.perm.mem_iff.mp hx)
        omega⟩, q⟩⟩
  | .non, _ => ⟨"None", fun H v hv Q q => .inl ⟨by cases (show v = V.non from hv); rfl, q⟩⟩
  | .great, _ => ⟨"", fun _ _ h => h.elim⟩
/-- `if (told is not None) != due or (told is not None and not ..)` -/
theorem if_told {σ : L2.St} {H : Hp} {Q : Bool → Hp → Prop} {T3 : TT} {v : V} {b : Bool} {i j : Nat} (hi : σ[i]? = some (some v)) (hj : σ[j]? = some (some (.bl b))) (hb : b = !decide (v = .non))
    (h3 : v ≠ .non → ∀ Q' : Bool → Hp → Prop, (∀ H', Same H H' → Q' true H') → T3 σ H Q') (hQ : ∀ H', Same H H' → Q false H') :
    tOr (tTest (tOp rNe (tOp (fun x y H Q => y = V.non ∧ Q (V.bl !decide (x = V.non)) H) (tVar i) (tC V.non)) (tVar j)))
      (tAnd (tTest (tOp (fun x y H Q => y = V.non ∧ Q (V.bl !decide (x = V.non)) H) (tVar i) (tC V.non))) (tNot T3)) σ H Q := by
  refine ⟨v, hi, rfl, _, hj, rfl, _, rfl, ?_⟩
  dsimp only
  rw [if_neg (by simp [hb])]
  refine ⟨v, hi, rfl, _, rfl, ?_⟩
  dsimp only
  by_cases hv : v = .non
  · rw [if_neg (by simp [hv])]
    exact hQ _ (Same.refl _)
  · rw [if_pos (by simp [hv])]
    exact h3 hv _ fun H' e => hQ H' e
/-- a test that is false -/
theorem if_no {c : TT} {t u : TS} {D : L2.Ends} {σ : L2.St} {H : Hp} (hc : ∀ Q : Bool → Hp → Prop, (∀ H', Same H H' → Q false H') → c σ H Q) (h : ∀ H', Same H H' → u D σ H') : tIfS c t u D σ H :=
  hc _ fun H' e => h H' e
theorem nil1 {σ : L2.St} {H : Hp} {Q : List V → Hp → Prop} (h : Q [] H) : tNil σ H Q := h
theorem lk_lst {bx p : Addr} {xs : List V} {H H1 : Hp} (g : Lk bx H H1) (n : p ≠ bx) (h : H p = some (.lst xs)) : H1 p = some (.lst xs) := g _ _ n (fun ps z => by cases z) h
theorem scal_str {s : Str} : scal (.str s) (.str s) = true := rfl
theorem if_neg_ {b : Prop} [Decidable b] {p q : Prop} (h : ¬ b) (hq : q) : if b then p else q := by
  rw [if_neg h]
  exact hq
theorem if_pos_ {b : Prop} [Decidable b] {p q : Prop} (h : b) (hp : p) : if b then p else q := by
  rw [if_pos h]
  exact hp
theorem TO.dp {K : PySem.W.Frag} {H : Hp} {v : V} : ∀ {r : Res}, TO H v r → ∃ d, Dp K H v d ∧ PyData.canLay0 d = true ∧ d.depth ≤ 5
  | .way p, h => by
    obtain ⟨a, rfl, h⟩ := h
    exact ⟨_, .tup (SqT.of h) (ints_dpAll _), canLay_dI (zz p), by
      have := dep_dI (zz p)
      unfold dI at this
      omega⟩
  | .non, h => by
    cases (show v = V.non from h)
    exact ⟨_, .non, rfl, by decide⟩
  | .great, h => h.elim
theorem dep_int {i : Int} : (PyData.int i).depth ≤ 5 := by
  simp [PyData.depth]
theorem eqv_told {d : PyData} {i : Int} : PyData.eqv (.tuple [.str "told", d]) (.tuple [.str "great", .int i]) = false := rfl
theorem eqv_great {i : Int} : PyData.eqv (.tuple [.str "great", .int i]) (.tuple [.str "great", .int i]) = true := by
  show (("great" : Str) == "great" && (i == i && true)) = true
  simp
theorem shaped_two {x : Str} {d : PyData} (hx : PyData.strOk x = true) (h : PyData.canLay0 d = true) (h5 : d.depth ≤ 5) : SeqAt.shaped (.tuple [.str x, d]) = true := shaped_of (by simp [PyData.canLay0, PyData.canLayAll0, h, hx]) (by simp [PyData.depth, PyData.depthAll]; omega)
theorem dp_two {K : PySem.W.Frag} {H : Hp} {a : Addr} {x : Str} {v : V} {d : PyData} (ha : H a = some (.tup [.str x, v])) (h : Dp K H v d) : Dp K H (.ref a) (.tuple [.str x, d]) := .tup (SqT.of ha) (.cons (.str _) (.cons h .nil))
/-- the last `if` of one pair -/
def tBig (K : PySem.W.Frag) : TT := tOr (tAnd (tTest (tOp (rNeD K) (tVar 17) (tTup (tCons (tC (.str "great")) (tCons (tVar 16) tNil)))))
    (tOr (tTest (tOp rNe (tOp (rIxT K) (tVar 17) (tC (.int 0))) (tC (.str "told")))) (tTest (tOp rNe (tOp (fun x y H Q => y = V.non ∧ Q (V.bl !decide (x = V.non)) H) (tOp (rIxT K) (tVar 17) (tC (.int 1))) (tC .non)) (tVar 13)))))
  (tAnd (tTest (tOp rEq (tOp (rIxT K) (tVar 17) (tC (.int 0))) (tC (.str "great")))) (tTest (tOp (rI0 fun i j => .bl (decide (i ≤ j))) (tVar 14) (tVar 16))))
theorem big_told {K : PySem.W.Frag} {σ : L2.St} {H : Hp} {Q : Bool → Hp → Prop} {t : Addr} {v : V} {b : Bool} {i : Int} {d : PyData} (h17 : σ[17]? = some (some (.ref t))) (h16 : σ[16]? = some (some (.int i))) (h13 : σ[13]? = some (some (.bl b)))
    (ht : H t = some (.tup [.str "told", v])) (hb : b = !decide (v = .non)) (hd : Dp K H v d) (cl : PyData.canLay0 d = true) (dd : d.depth ≤ 5) (hQ : ∀ H', Same H H' → Q false H') : tBig K σ H Q := by
  refine ⟨_, h17, _, h16, ⟨by show 2 ≤ sizeLine; decide, fun p np => ?_⟩⟩
  have e := same_new (o := .tup [.str "great", .int i]) np
  have hp : (upd H p (.tup [.str "great", .int i])) p = some (.tup [.str "great", .int i]) := upd_same
  generalize upd H p (.tup [.str "great", .int i]) = H1 at e hp ⊢
  have ht1 := e _ _ ht
  refine ⟨_, _, dp_two ht1 (same_dp e _ _ hd), dp_two hp (.int i), shaped_two (by decide +kernel) cl dd, shaped_two (by decide +kernel) rfl dep_int, _, rfl, ?_⟩
  rw [eqv_told]
  refine if_pos_ rfl ⟨_, h17, _, _, 0, _, rfl, rfl, SqT.of ht1, rfl, scal_str, _, rfl, ?_⟩
  refine if_neg_ (by simp) ⟨_, h17, _, _, 1, _, rfl, rfl, SqT.of ht1, rfl, rfl, _, h13, rfl, _, rfl, ?_⟩
  dsimp only
  refine if_neg_ (by simp [hb]) ⟨_, h17, _, _, 0, _, rfl, rfl, SqT.of ht1, rfl, rfl, _, rfl, ?_⟩
  refine if_neg_ (by decide +kernel) (hQ _ e)
theorem big_great {K : PySem.W.Frag} {σ : L2.St} {H : Hp} {Q : Bool → Hp → Prop} {t : Addr} {i j : Int} (h17 : σ[17]? = some (some (.ref t))) (h16 : σ[16]? = some (some (.int i))) (h14 : σ[14]? = some (some (.int j)))
    (ht : H t = some (.tup [.str "great", .int i])) (hj : i < j) (hQ : ∀ H', Same H H' → Q false H') : tBig K σ H Q := by
  refine ⟨_, h17, _, h16, ⟨by show 2 ≤ sizeLine; decide, fun p np => ?_⟩⟩
  have e := same_new (o := .tup [.str "great", .int i]) np
  have hp : (upd H p (.tup [.str "great", .int i])) p = some (.tup [.str "great", .int i]) := upd_same
  generalize upd H p (.tup [.str "great", .int i]) = H1 at e hp ⊢
  have ht1 := e _ _ ht
  refine ⟨_, _, dp_two ht1 (.int i), dp_two hp (.int i), shaped_two (by decide +kernel) rfl dep_int, shaped_two (by decide +kernel) rfl dep_int, _, rfl, ?_⟩
  rw [eqv_great]
  refine if_neg_ (by simp) (if_neg_ (by simp) ⟨_, h17, _, _, 0, _, rfl, rfl, SqT.of ht1, rfl, scal_str, _, rfl, ?_⟩)
  refine if_pos_ (by simp) ⟨_, h14, _, h16, j, i, rfl, rfl, _, rfl, ?_⟩
  rw [show decide (j ≤ i) = false from by simp; omega]
  exact hQ _ e
end K29
namespace K29
open PySem PySem.Spec PyProof.Rows L2
theorem eqv_str (s : Str) : PyData.eqv (.str s) (.str s) = true := by
  show (s == s) = true
  simp
theorem eqv_int (i : Int) : PyData.eqv (.int i) (.int i) = true := by
  show (i == i) = true
  simp
theorem dep_str {s : Str} : (PyData.str s).depth ≤ 5 := by
  simp [PyData.depth]
/-- two pairs that are alike -/
theorem neD_same {K : PySem.W.Frag} {H : Hp} {t p : Addr} {x : Str} {v : V} {d : PyData} {Q : VK} (ht : H t = some (.tup [.str x, v])) (hp : H p = some (.tup [.str x, v])) (hd : Dp K H v d) (hx : PyData.strOk x = true) (cl : PyData.canLay0 d = true) (dd : d.depth ≤ 5) (he : PyData.eqv d d = true) (q : Q (.bl false) H) : rNeD K (.ref t) (.ref p) H Q := by
  refine ⟨_, _, dp_two ht hd, dp_two hp hd, shaped_two hx cl dd, shaped_two hx cl dd, ?_⟩
  have e : PyData.eqv (.tuple [.str x, d]) (.tuple [.str x, d]) = true := by
    show ((x == x) && (PyData.eqv d d && true)) = true
    rw [he]
    simp
  rw [e]
  exact q
theorem NoState.kp {K : PySem.W.Frag} {H H' : Hp} {v : V} {n : Nat} (k : Kp H H') (h : NoState K H v n) : NoState K H' v n := by
  rcases h with (⟨z, _⟩ | h) | ⟨a, xs, e, h, hn⟩
  · cases z
  · exact .inl (.inr h)
  · exact .inr ⟨a, xs, e, kp_t k h, hn⟩
theorem small_of {cols cells st : List Int} (h : StFit cols cells st) (hc : ∀ n ∈ cols, 1 ≤ n ∧ n ≤ 3) (h6 : cells.length ≤ 6) : Small st := ⟨by have := h.1; omega, fun n hn => by
  obtain ⟨i, hi, e⟩ := List.mem_iff_getElem.mp hn
  have hi2 : i < cells.length := by have := h.1; omega
  obtain ⟨m, hm, _, h0, h1⟩ := h.2 i _ n (List.getElem?_eq_getElem hi2) (by rw [List.getElem?_eq_getElem hi, e])
  have := hc m (List.mem_of_getElem? hm)
  omega⟩
theorem Lk.refl {bx : Addr} (H : Hp) : Lk bx H H := fun _ _ _ _ h => h
/-- what is picked of the list of what is none -/
theorem bad_none {K : PySem.W.Frag} {H : Hp} {n1 n3 : Addr} {z : Str} {st0 : List Int} {n j : Nat} {bad : V} (h1 : H n1 = some (.tup [])) (h3 : H n3 = some (.tup (st0.map V.int ++ [.int 0]))) (hl : st0.length = n) (hn : 1 ≤ n) (h : ([V.non, .ref n1, .ref n3, .str z] : List V)[j]? = some bad) : NoState K H bad n := by
  match j, h with
  | 0, h =>
    cases h
    exact .inl (.inr ⟨rfl, .inl rfl⟩)
  | 1, h =>
    cases h
    exact .inr ⟨n1, [], rfl, SqT.of h1, by show 0 ≠ n; omega⟩
  | 2, h =>
    cases h
    exact .inr ⟨n3, _, rfl, SqT.of h3, by
      rw [List.length_append, List.length_map]
      show st0.length + 1 ≠ n
      omega⟩
  | 3, h =>
    cases h
    exact .inl (.inr ⟨rfl, .inr ⟨_, rfl⟩⟩)
  | j + 4, h => simp at h
end K29
namespace K29
open PySem PySem.Spec PyProof.Rows L2
theorem sc_law : FnScope ["_law_script", "_law_k", "_law_box_here", "_law_columns", "_law_checks", "_law_ways_here", "_law_lax", "_law_cells", "_law_states", "_law_laid", "_law_store_here", "_law_old", "_law_new", "_law_due", "_law_many", "_law_told", "_law_least", "_law_heard_here", "_law_other", "_law_bad", "_law_drawn", "_law_column", "_law_places", "_law_rows"] ["_law_script"] (defScope s_law) := ⟨rfl, rfl, rfl, by decide +kernel, rfl, by decide +kernel, by decide +kernel⟩
def spLaw (K : PySem.W.Frag) (tb : Addr) : Sp := fun vs H Q _ => ∃ (a : Addr) (ns : List Int), vs = [.ref a] ∧ SqL K H a (ns.map V.int) ∧ LamX.Tabs [(tb, qL)] H ∧ ∀ H', Q (.bl true) H'
section
variable {P : Program} {w : World} {K : PySem.W.Frag} {mg : Str → Option Value} {base : Heap}
theorem law_run (T : Tx K mg) (U : Ux K) (X3 : Ex3 P w K mg base) (F : Xf3 K) {fl c tb : Addr} {fd : FuncData} (FD : FunD K "law" "law" (defArgs s_law) (defBody s_law) (defScope s_law) [] [] fl fd) (hcode : fd.code = .ref c) (TB : LamX.TabB base mg c tb) :
    RunC P w K mg base C8.CX0 fl fd ["_law_script"] (spLaw K tb) := by
  intro s H args us vs Q E e0 hbi r hsp
  obtain ⟨a, ns, rfl, hS, hT, fin⟩ := hsp
  obtain ⟨oc, od, dV, kV, doc, pm, an, cdv, ct, osl, rfl, lk, hcd, _, _⟩ := FD.ex
  cases (show cdv = .ref c from hcode)
  refine LamX.run_ofS (CX := C8.CX0) (k := 12) lk hcd sc_law ⟨rfl, by decide, by decide⟩ e0 hbi r rfl fun hr => ?_
  suffices ∃ t, PSs (cxOf C8.CX0 P w K mg base ["_law_script", "_law_k", "_law_box_here", "_law_columns", "_law_checks", "_law_ways_here", "_law_lax", "_law_cells", "_law_states", "_law_laid", "_law_store_here", "_law_old", "_law_new", "_law_due", "_law_many", "_law_told", "_law_least", "_law_heard_here", "_law_other", "_law_bad", "_law_drawn", "_law_column", "_law_places", "_law_rows"] "law" (defScope s_law) fl (.ref c) callerA [] s H E).nox (defBody s_law) t ∧ t { nx := fun _ H' => Q .non H', rt := Q } (L2.start ["_law_script", "_law_k", "_law_box_here", "_law_columns", "_law_checks", "_law_ways_here", "_law_lax", "_law_cells", "_law_states", "_law_laid", "_law_store_here", "_law_old", "_law_new", "_law_due", "_law_many", "_law_told", "_law_least", "_law_heard_here", "_law_other", "_law_bad", "_law_drawn", "_law_column", "_law_places", "_law_rows"] [.ref a]) H by
    obtain ⟨t, h1, h2⟩ := this
    exact ⟨t, h1.nox, h2⟩
  have nd := sc_law.nd
  have hgd : (cxOf C8.CX0 P w K mg base ["_law_script", "_law_k", "_law_box_here", "_law_columns", "_law_checks", "_law_ways_here", "_law_lax", "_law_cells", "_law_states", "_law_laid", "_law_store_here", "_law_old", "_law_new", "_law_due", "_law_many", "_law_told", "_law_least", "_law_heard_here", "_law_other", "_law_bad", "_law_drawn", "_law_column", "_law_places", "_law_rows"] "law" (defScope s_law) fl (.ref c) callerA [] s H E).nox.A.guards = some [] := rfl
  have hu1 : (cxOf C8.CX0 P w K mg base ["_law_script", "_law_k", "_law_box_here", "_law_columns", "_law_checks", "_law_ways_here", "_law_lax", "_law_cells", "_law_states", "_law_laid", "_law_store_here", "_law_old", "_law_new", "_law_due", "_law_many", "_law_told", "_law_least", "_law_heard_here", "_law_other", "_law_bad", "_law_drawn", "_law_column", "_law_places", "_law_rows"] "law" (defScope s_law) fl (.ref c) callerA [] s H E).nox.A.units + 1 < cLine := hu_of hr
  obtain ⟨fdl, LK, LX⟩ := k_lax_way (P := P) (w := w) (base := base) T U X3
  obtain ⟨LB4, LB0⟩ := lax_binds LK
  have passE : Passes (L2.CX P w) (cxOf C8.CX0 P w K mg base ["_law_script", "_law_k", "_law_box_here", "_law_columns", "_law_checks", "_law_ways_here", "_law_lax", "_law_cells", "_law_states", "_law_laid", "_law_store_here", "_law_old", "_law_new", "_law_due", "_law_many", "_law_told", "_law_least", "_law_heard_here", "_law_other", "_law_bad", "_law_drawn", "_law_column", "_law_places", "_law_rows"] "law" (defScope s_law) fl (.ref c) callerA [] s H E).nox E0 := passes_call LamX.takes0 (fun _ _ _ _ h => h)
  refine ⟨_, (pss_cons (ps_for PassesOwn.never rfl (pi_range1 (by rfl) T.z_range (pa_cons pe_int pa_nil)) (pg_name (i := 1) nd rfl (.inl rfl))
      (pss_cons (ps_set (i := 2) nd rfl (.inr rfl) (pe_cal (c_law_box T) hr (by decide) pass0 (pa_cons (pv 0) (pa_cons (pv 1) pa_nil))))
      (pss_cons (ps_asg (pe_cal (c_law_book T) hr (by decide) pass0 (pa_cons (pv 2) pa_nil)) (pg_tup rfl (pgs_cons (pg_name (i := 3) nd rfl (.inr rfl)) (pgs_cons (pg_name (i := 4) nd rfl (.inl rfl)) pgs_nil))))
      (pss_cons (ps_set (i := 5) nd rfl (.inl rfl) (pe_cal (c_law_ways T) hr (by decide) pass0 (pa_cons (pv 2) (pa_cons (pv 3) (pa_cons (pv 4) pa_nil)))))
      (pss_cons (ps_set (i := 6) nd rfl (.inr rfl) (pe_mkn (m_LaxBook T) hr (by decide) pass0 (pa_cons (pe_mkn (m_Book T) hr (by decide) pass0 (pa_cons (pv 3) (pa_cons (pv 4) pa_nil))) (pa_cons (pv 5) pa_nil))))
      (pss_cons (ps_asg (pe_cal (c_law_store T) hr (by decide) pass0 (pa_cons (pv 2) (pa_cons (pv 3) (pa_cons (pv 4) (pa_cons pe_int pa_nil))))) (pg_tup rfl (pgs_cons (pg_name (i := 7) nd rfl (.inl rfl)) (pgs_cons (pg_name (i := 8) nd rfl (.inr rfl)) (pgs_cons (pg_name (i := 9) nd rfl (.inl rfl)) pgs_nil)))))
      (pss_cons (ps_set (i := 10) nd rfl (.inr rfl) (pe_mkn (m_Store T) hr (by decide) pass0 (pa_cons (pe_mkn (m_Book T) hr (by decide) pass0 (pa_cons (pv 3) (pa_cons (pv 4) pa_nil))) (pa_cons (pv 7) (pa_cons (pv 9) pa_nil)))))
      (pss_cons (ps_for PassesOwn.never rfl (pi_zipM (by rfl) T.z_zip (pa_cons (pv 8) (pa_cons (pe_op op_cat (pe_slice sl_list (pv 8) (po_some pe_int) po_none) (pe_slice sl_list (pv 8) po_none (po_some pe_int))) pa_nil))) (pg_tup rfl (pgs_cons (pg_name (i := 11) nd rfl (.inr rfl)) (pgs_cons (pg_name (i := 12) nd rfl (.inr rfl)) pgs_nil)))
        (pss_cons (ps_asg (pe_cal (c_law_lots T) hr (by decide) pass0 (pa_cons (pv 5) (pa_cons (pv 9) (pa_cons (pv 11) (pa_cons (pv 12) pa_nil))))) (pg_tup rfl (pgs_cons (pg_name (i := 13) nd rfl (.inl rfl)) (pgs_cons (pg_name (i := 14) nd rfl (.inl rfl)) pgs_nil))))
        (pss_cons (ps_set (i := 15) nd rfl (.inl rfl) (pe_callN LX (hr.mono (by decide)) rfl T.g_lax_way LK.kp LB4 passE (pa_cons (pv 6) (pa_cons (pv 10) (pa_cons (pv 11) (pa_cons (pv 12) pa_nil)))) (pk_cons (pv 14) pk_nil)))
        (pss_cons (ps_if (PW.pt (pw_or (pt_cmpR op_ne (pe_cmpR op_notN (pv 15) pe_non (nomark _)) (pv 13) (nomark _)) (pw_or1 (PW.pt (pw_and (pt_cmpR op_notN (pv 15) pe_non (nomark _)) (pw_and1 (pt_not (pt_val (pe_cal (c_law_way_right T) hr (by decide) pass0 (pa_cons (pv 5) (pa_cons (pv 9) (pa_cons (pv 11) (pa_cons (pv 12) (pa_cons (pv 15) pa_nil))))))))))))))
          (pss_one (ps_ret pe_bl))
          pss_nil)
        (pss_cons (ps_if (pt_cmpR op_ne (pe_callB (cr_reprX K hgd hr.units) (by rfl) T.z_repr PyProof.Rows.boot_repr (pa_cons (pe_callN0 LX (hr.mono (by decide)) rfl T.g_lax_way LK.kp LB0 passE (pk_cons (pv 14) (pk_cons (pe_callTy call_list_of (by rfl) T.z_list PyProof.Rows.boot_list (pa_cons (pv 12) pa_nil)) (pk_cons (pe_callTy call_list_of (by rfl) T.z_list PyProof.Rows.boot_list (pa_cons (pv 11) pa_nil)) (pk_cons (pv 10) (pk_cons (pv 6) pk_nil)))))) pa_nil)) (pe_callB (cr_reprX K hgd hr.units) (by rfl) T.z_repr PyProof.Rows.boot_repr (pa_cons (pv 15) pa_nil)) (nomark _))
          (pss_one (ps_ret pe_bl))
          pss_nil)
        (pss_cons (ps_set (i := 16) nd rfl (.inr rfl) (pe_op op_add pe_int (pe_cal (c_law_take T) hr (by decide) pass0 (pa_cons (pv 2) (pa_cons (pv 14) pa_nil)))))
        (pss_cons (ps_set (i := 17) nd rfl (.inl rfl) (pe_heard T U F hgd (hr.mono (by decide)) rfl TB rfl (LamX.lamS_by (by kernel_rfl)) rfl (fun _ _ _ _ _ => rfl) (fun A outer s H E f c' hr' => pe_callN LX hr' rfl T.g_lax_way LK.kp LB4 (passes_call (W := fun cls d _ H => E cls d H) (E := E) (takes_of rfl rfl rfl rfl) (fun _ _ _ _ h => h)) (pa_cons (pv 6) (pa_cons (pv 10) (pa_cons (pv 11) (pa_cons (pv 12) pa_nil)))) (pk_cons (pv 16) pk_nil))))
        (pss_one (ps_if (PW.pt (pw_or (PW.pt (pw_and (pt_cmpR (op_neD hr.units) (pv 17) (pe_tup (pa_cons pe_str (pa_cons (pv 16) pa_nil))) (nomark _)) (pw_and1 (PW.pt (pw_or (pt_cmpR op_ne (pe_ix ix_tup (pv 17) pe_int (fun _ _ => rfl)) pe_str (nomark _)) (pw_or1 (pt_cmpR op_ne (pe_cmpR op_notN (pe_ix ix_tup (pv 17) pe_int (fun _ _ => rfl)) pe_non (nomark _)) (pv 13) (nomark _)))))))) (pw_or1 (PW.pt (pw_and (pt_cmpR op_eq (pe_ix ix_tup (pv 17) pe_int (fun _ _ => rfl)) pe_str (nomark _)) (pw_and1 (pt_cmpR op_le (pv 14) (pv 16) (nomark _))))))))
          (pss_one (ps_ret pe_bl))
          pss_nil)))))))))
      (pss_cons (ps_set (i := 18) nd rfl (.inr rfl) (pe_mkn (m_Store1 T) hr (by decide) pass0 (pa_cons (pe_mkn (m_Book1 T) hr (by decide) pass0 (pa_cons (pe_tup (pa_cons pe_int (pa_cons pe_int (pa_cons pe_int pa_nil)))) pa_nil)) (pa_cons (pe_tup (pa_cons pe_int pa_nil)) pa_nil))))
      (pss_cons (ps_set (i := 19) nd rfl (.inr rfl) (pe_cal (c_law_pick T) hr (by decide) pass0 (pa_cons (pv 2) (pa_cons (pe_lst (pa_cons pe_non (pa_cons (pe_tup pa_nil) (pa_cons (pe_op op_catA (pe_ix ix_list (pv 8) pe_int (fun _ _ => rfl)) (pe_tup (pa_cons pe_int pa_nil))) (pa_cons (pe_op op_repS pe_str (pe_callB call_len_seq (by rfl) T.z_len PySem.boot_len (pa_cons (pv 7) pa_nil))) pa_nil))))) pa_nil))))
      (pss_cons (ps_if (pt_cmpR (op_neSame hu1) (pe_heard T U F hgd (hr.mono (by decide)) rfl TB rfl (LamX.lamS_by (by kernel_rfl)) rfl (fun _ _ _ _ _ => rfl) (fun A outer s H E f c' hr' => pe_callN LX hr' rfl T.g_lax_way LK.kp LB4 (passes_call (W := fun cls d _ H => E cls d H) (E := E) (takes_of rfl rfl rfl rfl) (fun _ _ _ _ h => h)) (pa_cons (pv 6) (pa_cons (pv 18) (pa_cons pe_non (pa_cons pe_non pa_nil)))) (pk_cons pe_int pk_nil))) (pe_tup (pa_cons pe_str (pa_cons (pv 18) pa_nil))) (nomark _))
        (pss_one (ps_ret pe_bl))
        pss_nil)
      (pss_cons (ps_if (pt_cmpR (op_neD hr.units) (pe_heard T U F hgd (hr.mono (by decide)) rfl TB rfl (LamX.lamS_by (by kernel_rfl)) rfl (fun _ _ _ _ _ => rfl) (fun A outer s H E f c' hr' => pe_callN LX hr' rfl T.g_lax_way LK.kp LB4 (passes_call (W := fun cls d _ H => E cls d H) (E := E) (takes_of rfl rfl rfl rfl) (fun _ _ _ _ h => h)) (pa_cons (pv 6) (pa_cons (pv 10) (pa_cons (pv 19) (pa_cons pe_non pa_nil)))) (pk_cons pe_int pk_nil))) (pe_tup (pa_cons pe_str (pa_cons (pe_op op_sub pe_int pe_int) pa_nil))) (nomark _))
        (pss_one (ps_ret pe_bl))
        pss_nil)
      (pss_cons (ps_if (pt_cmpR (op_neD hr.units) (pe_heard T U F hgd (hr.mono (by decide)) rfl TB rfl (LamX.lamS_by (by kernel_rfl)) rfl (fun _ _ _ _ _ => rfl) (fun A outer s H E f c' hr' => pe_callN LX hr' rfl T.g_lax_way LK.kp LB4 (passes_call (W := fun cls d _ H => E cls d H) (E := E) (takes_of rfl rfl rfl rfl) (fun _ _ _ _ h => h)) (pa_cons (pv 6) (pa_cons (pv 10) (pa_cons (pe_ix (kix_list K) (pv 8) pe_int (fun _ _ => rfl)) (pa_cons (pv 19) pa_nil)))) (pk_cons pe_int pk_nil))) (pe_tup (pa_cons pe_str (pa_cons (pe_op op_sub pe_int pe_int) pa_nil))) (nomark _))
        (pss_one (ps_ret pe_bl))
        pss_nil)
      (pss_cons (ps_set (i := 20) nd rfl (.inr rfl) (pe_callTy call_tuple_of (by rfl) T.z_tuple PyProof.Rows.boot_tuple (pa_cons (pe_lc (own := [("_law_column", 21)]) rfl nd (pi_tup (pv 7)) (blkOk_by (by kernel_rfl)) (fun _ _ _ _ _ => (pg_name (i := 21) nd rfl (.inl rfl))) (fun _ _ _ _ _ => pts_nil) (fun _ _ _ _ _ => (pe_cal (c_law_take T) hr (by decide) pass0 (pa_cons (pv 2) (pa_cons (pe_ix (kix_tup K) (pv 3) (pv 21) (fun _ _ => rfl)) pa_nil))))) pa_nil)))
      (pss_one (ps_if (pt_not (pt_val (pe_cal (c_law_passes T) hr (by decide) pass0 (pa_cons (pe_lc (own := [("_law_places", 22), ("_law_rows", 23)]) rfl nd (pi_list (pv 4)) (blkOk_by (by kernel_rfl)) (fun _ _ _ _ _ => (kpg_tup K (n := 2) rfl (pgs_cons (pg_name (i := 22) nd rfl (.inl rfl)) (pgs_cons (pg_name (i := 23) nd rfl (.inl rfl)) pgs_nil)))) (fun _ _ _ _ _ => pts_nil) (fun _ _ _ _ _ => (pv 23))) (pa_cons (pv 9) (pa_cons (pv 20) pa_nil))))))
        (pss_cons (ps_if (pt_cmpR (op_neD hr.units) (pe_heard T U F hgd (hr.mono (by decide)) rfl TB rfl (LamX.lamS_by (by kernel_rfl)) rfl (fun _ _ _ _ _ => rfl) (fun A outer s H E f c' hr' => pe_callN LX hr' rfl T.g_lax_way LK.kp LB4 (passes_call (W := fun cls d _ H => E cls d H) (E := E) (takes_of rfl rfl rfl rfl) (fun _ _ _ _ h => h)) (pa_cons (pv 6) (pa_cons (pv 10) (pa_cons (pv 20) (pa_cons pe_non pa_nil)))) (pk_cons pe_int pk_nil))) (pe_tup (pa_cons pe_str (pa_cons (pe_callB (cr_reprX K hgd hr.units) (by rfl) T.z_repr PyProof.Rows.boot_repr (pa_cons (pv 20) pa_nil)) pa_nil))) (nomark _))
          (pss_one (ps_ret pe_bl))
          pss_nil)
        (pss_one (ps_if (pt_cmpR (op_neD hr.units) (pe_heard T U F hgd (hr.mono (by decide)) rfl TB rfl (LamX.lamS_by (by kernel_rfl)) rfl (fun _ _ _ _ _ => rfl) (fun A outer s H E f c' hr' => pe_callN LX hr' rfl T.g_lax_way LK.kp LB4 (passes_call (W := fun cls d _ H => E cls d H) (E := E) (takes_of rfl rfl rfl rfl) (fun _ _ _ _ h => h)) (pa_cons (pv 6) (pa_cons (pv 10) (pa_cons (pe_ix (kix_list K) (pv 8) pe_int (fun _ _ => rfl)) (pa_cons (pe_callTy (kcall_list_of K) (by rfl) T.z_list PyProof.Rows.boot_list (pa_cons (pv 20) pa_nil)) pa_nil)))) (pk_cons pe_int pk_nil))) (pe_tup (pa_cons pe_str (pa_cons (pe_callB (cr_reprX K hgd hr.units) (by rfl) T.z_repr PyProof.Rows.boot_repr (pa_cons (pe_callTy call_list_of (by rfl) T.z_list PyProof.Rows.boot_list (pa_cons (pv 20) pa_nil)) pa_nil)) pa_nil))) (nomark _))
          (pss_one (ps_ret pe_bl))
          pss_nil)))
        pss_nil))))))))))))))))
    (pss_one (ps_ret pe_bl))), ?_⟩
  -- LAW
  refine ⟨4, rfl, by decide, by decide, for_it (walk_rn (n := 4)) (fun _ σ H' => (∃ v1 v2 v3 v4 v5 v6 v7 v8 v9 v10 v11 v12 v13 v14 v15 v16 v17 v18 v19 v20 : Option V, σ = [some (.ref a), v1, v2, v3, v4, v5, v6, v7, v8, v9, v10, v11, v12, v13, v14, v15, v16, v17, v18, v19, v20, none, none, none]) ∧ SqL K H' a (ns.map V.int) ∧ LamX.Tabs [(tb, qL)] H')
    ⟨⟨none, none, none, none, none, none, none, none, none, none, none, none, none, none, none, none, none, none, none, none, rfl⟩, hS, hT⟩ (fun _ _ _ _ _ => trivial) ?_ (fun σ H' _ => fin H')⟩
  rintro k x' σ G0 G0' hk ⟨⟨v1, v2, v3, v4, v5, v6, v7, v8, v9, v10, v11, v12, v13, v14, v15, v16, v17, v18, v19, v20, rfl⟩, hS0, hT0⟩ ⟨rfl, rfl⟩
  -- the box, the book, the ways
  refine ⟨_, rfl, _, rfl, a, ns, (k : Int), rfl, hS0, by omega, by omega, fun G1 bx nbx e1 hb1 => ?_⟩
  refine ⟨_, rfl, bx, rfl, hb1, fun G2 t ca kl ks cols cs g2 hb2 ht hca hkl hks hgood hbok hc1 hc2 => ?_⟩
  refine ⟨t, _, rfl, SqT.of ht, rfl, _, _, rfl, _, _, rfl, rfl, ?_⟩
  have nkl := chk_ne hb2 hkl hks
  refine ⟨_, rfl, _, rfl, _, rfl, bx, ca, kl, ks, cols, cs, rfl, hb2, hca, hkl, nkl, hks, hgood, hbok, hc2, fun G3 wp ts tabs g3 hb3 nwp hwp hts hfit => ?_⟩
  obtain ⟨hcok, hc13, hcl3, h222⟩ := hgood.ok
  have hca3 := (hb2.kp g3).tup _ _ hca
  have hkl3 := g3 _ _ nkl hkl
  have hks3 := hks.kp (hb2.kp g3)
  -- LaxBook(Book(..), ..)
  refine ⟨_, rfl, _, rfl, fun b1 d1 nb1 nd1 _ => ⟨b1, d1, ca, kl, cols, true, ks, cs, rfl, upd_same, SqT.of (mk_same0 nb1 nd1 _ _ hca3), hcok, .inl ⟨rfl, mk_same0 nb1 nd1 _ _ hkl3⟩, hks3.kp (Kp.of (mk_same0 nb1 nd1)), by have := hks.1; omega, hbok, fun G4 cs1 gx4 hB1 hT1 => ⟨rfl, ?_⟩⟩⟩
  have e4 : Same G3 G4 := mk_same nb1 nd1 gx4
  have hTok := tabs_ok' (cols := cols) hbok hc2 hT1 hfit
  refine ⟨_, rfl, fun lx d2 nlx nd2 _ => ?_⟩
  have nb1lx : b1 ≠ lx := by
    obtain ⟨_, _, _, _, _, eb, hbb, _⟩ := hB1.ex
    cases eb
    exact ne_of_none hbb nlx
  have m5 : Same G4 (upd (upd G4 d2 (.own lx)) lx (.ins (He.ga K "LaxBook") d2 [])) := mk_same0 nlx nd2
  refine ⟨lx, d2, b1, wp, ⟨cols, cs1⟩, ts, tabs, rfl, upd_same, hB1.kp (Kp.of m5), nb1lx, m5 _ _ (e4 _ _ hwp), (hts.imp fun v t (h : TabV K G3 v t) => (h.kp (Kp.of e4))).imp fun v t (h : TabV K G4 v t) => h.kp (Kp.of m5), hTok, fun G5 tabs' gx5 hLV hTT => ⟨rfl, ?_⟩⟩
  have e5 : Same G4 G5 := mk_same nlx nd2 gx5
  have e35 := e4.trans e5
  have hb5 := hb3.same e35
  -- the store's lists
  refine ⟨_, rfl, _, rfl, _, rfl, bx, ca, kl, ks, cols, cs, rfl, hb5, e35 _ _ hca3, e35 _ _ hkl3, nkl, hks3.kp (Kp.of e35), hgood, hbok, hc1, hc2, fun G6 t2 cp sl lp ss ls cells states laid g6 hb6 ht2 hcp nsl hsl hR hlp hA hF => ?_⟩
  refine ⟨t2, _, rfl, SqT.of ht2, rfl, _, _, rfl, _, _, rfl, _, _, rfl, rfl, ?_⟩
  have k6 := hb5.kp g6
  have hca6 := k6.tup _ _ (e35 _ _ hca3)
  have hkl6 := g6 _ _ nkl (e35 _ _ hkl3)
  have hks6 := (hks3.kp (Kp.of e35)).kp k6
  -- Store(Book(..), ..)
  refine ⟨_, rfl, _, rfl, fun b2 d3 nb2 nd3 _ => ⟨b2, d3, ca, kl, cols, true, ks, cs, rfl, upd_same, SqT.of (mk_same0 nb2 nd3 _ _ hca6), hcok, .inl ⟨rfl, mk_same0 nb2 nd3 _ _ hkl6⟩, hks6.kp (Kp.of (mk_same0 nb2 nd3)), by have := hks.1; omega, hbok, fun G7 cs2 gx7 hB2 hT2 => ⟨rfl, ?_⟩⟩⟩
  have e7 : Same G6 G7 := mk_same nb2 nd3 gx7
  have ecs : cs2 = cs1 := told_unique hT2 hT1
  subst ecs
  refine ⟨_, rfl, _, rfl, fun st d4 nst nd4 _ => ?_⟩
  have nb2st : b2 ≠ st := by
    obtain ⟨_, _, _, _, _, eb, hbb, _⟩ := hB2.ex
    cases eb
    exact ne_of_none hbb nst
  have m8 : Same G7 (upd (upd G7 d4 (.own st)) st (.ins (He.ga K "Store") d4 [])) := mk_same0 nst nd4
  have hsok := store_ok' (cols := cols) hbok hT2 hF
  refine ⟨st, d4, cp, lp, .ref b2, ls, ⟨⟨cols, cs2⟩, cells, laid⟩, rfl, upd_same, hB2.kp (Kp.of m8), ⟨b2, rfl, nb2st⟩, SqT.of (m8 _ _ (e7 _ _ hcp)), SqT.of (m8 _ _ (e7 _ _ hlp)), (hA.imp fun v l (h : LdV K G6 v l) => h.kp (Kp.of e7)).imp fun v l (h : LdV K G7 v l) => h.kp (Kp.of m8), hsok, fun G8 gx8 hSV => ⟨rfl, ?_⟩⟩
  have e8 : Same G7 G8 := mk_same nst nd4 gx8
  have e68 := e7.trans e8
  have F8 : LawF K bx a tb ca kl wp lx st cp sl lp ns ks ts ss ls cols cs cs2 tabs tabs' cells states laid G8 := by
    have hT1' := hT0.ext e1
    have hT2' := tabs_gr hb1 g2 hT1'
    have hT3' := tabs_gr hb2 g3 hT2'
    have hT5' := hT3'.ext e35
    have hT6' := tabs_gr hb5 g6 hT5'
    have g08 : Lk bx G0' G8 := (Lk.same e1).trans ((Lk.gr g2).trans ((Lk.gr g3).trans ((Lk.same e35).trans ((Lk.gr g6).trans (Lk.same e68)))))
    have k58 : Kp G5 G8 := k6.trans (Kp.of e68)
    refine ⟨hb6.same e68, fun H2 g => ?_, hT6'.ext e68, nkl, nwp, nsl, e68 _ _ hca6, e68 _ _ hkl6, hks6.kp (Kp.of e68), e68 _ _ (g6 _ _ nwp (e35 _ _ hwp)), (hts.imp fun v t (h : TabV K G3 v t) => h.kp (Kp.of e35)).imp fun v t (h : TabV K G5 v t) => h.kp k58, hLV.kp k58, hSV, e68 _ _ hcp, e68 _ _ hsl, hR.same e68, e68 _ _ hlp, hA.imp fun v l (h : LdV K G6 v l) => h.kp (Kp.of e68)⟩
    have gg := g08.trans g
    rcases hS0 with (h | ⟨o, h⟩) | h
    · exact .inl (.inl (gg _ _ (ne_of_none h nbx) (fun ps z => by cases z) h))
    · exact .inl (.inr ⟨o, gg _ _ (ne_of_none h nbx) (fun ps z => by cases z) h⟩)
    · exact .inr h
  clear hb1 hb2 ht hca hkl hks hwp hts hca3 hkl3 hks3 gx4 hB1 e4 m5 gx5 hLV e5 e35 hb5 g6 hb6 ht2 hcp hsl hR hlp hA k6 hca6 hkl6 hks6 gx7 hB2 e7 m8 gx8 hSV e8 e68 g2 g3 hb3 e1 hS0 hT0
  -- PAIRS
  obtain ⟨hc2', hc6', hcin, hn3, hst, hl30, hlf, hps⟩ := id hF
  have h3ss : ss.length = 3 := by
    have := F8.hR.1
    omega
  obtain ⟨x0, x1, x2, rfl⟩ : ∃ x0 x1 x2, ss = [x0, x1, x2] := by
    match ss, h3ss with
    | [x0, x1, x2], _ => exact ⟨x0, x1, x2, rfl⟩
  refine ⟨_, rfl, _, rfl, 1, rfl, sl, _, rfl, SqL.of F8.hsl, fun p1 np1 => ?_⟩
  have a1 := same_new (o := .lst (cutV [x0, x1, x2] (some 1) none)) np1
  have F9 := F8.same a1
  refine ⟨_, rfl, 1, rfl, sl, _, rfl, SqL.of F9.hsl, fun p2 np2 => ?_⟩
  have a2 := same_new (o := .lst (cutV [x0, x1, x2] none (some 1))) np2
  refine ⟨p1, p2, [x1, x2], [x0], rfl, rfl, a2 _ _ upd_same, upd_same, by show 3 ≤ sizeLine; decide, fun p3 np3 => ?_⟩
  have a3 := same_new (o := .lst ([x1, x2] ++ [x0])) np3
  have F11 := (F9.same a2).same a3
  have np3b := (F9.same a2).box.ne np3
  have hp3 : (upd (upd (upd G8 p1 (.lst (cutV [x0, x1, x2] (some 1) none))) p2 (.lst (cutV [x0, x1, x2] none (some 1)))) p3 (.lst ([x1, x2] ++ [x0]))) p3 = some (.lst [x1, x2, x0]) := upd_same
  generalize upd (upd (upd G8 p1 (.lst (cutV [x0, x1, x2] (some 1) none))) p2 (.lst (cutV [x0, x1, x2] none (some 1)))) p3 (.lst ([x1, x2] ++ [x0])) = G11 at F11 hp3 ⊢
  clear F8 F9 a1 a2 a3 np1 np2 np3
  refine ⟨true, true, sl, p3, _, _, rfl, SqL.of F11.hsl, SqL.of hp3, for_it (walk_zipM (l1 := true) (l2 := true) (xs := [x0, x1, x2]) (ys := [x1, x2, x0]) rfl) (fun _ σ H => (∃ v11 v12 v13 v14 v15 v16 v17 : Option V, σ = [some (.ref a), some (.int (k : Nat)), some (.ref bx), some (.ref ca), some (.ref kl), some (.ref wp), some (.ref lx), some (.ref cp), some (.ref sl), some (.ref lp), some (.ref st), v11, v12, v13, v14, v15, v16, v17, v18, v19, v20, none, none, none]) ∧ LawF K bx a tb ca kl wp lx st cp sl lp ns ks ts [x0, x1, x2] ls cols cs cs2 tabs tabs' cells states laid H ∧ H p3 = some (.lst [x1, x2, x0]))
    ⟨⟨v11, v12, v13, v14, v15, v16, v17, rfl⟩, F11, hp3⟩ (fun i σ H _ q => ⟨SqL.of q.2.1.hsl, SqL.of q.2.2⟩) ?_ ?_⟩
  · rintro i x' σ H1 H2 hi ⟨⟨v11, v12, v13, v14, v15, v16, v17, rfl⟩, F1, hp31⟩ ⟨tz, y1, y2, rfl, nz, rfl, ey1, ey2⟩
    have s2 := same_new (o := .tup [y1, y2]) nz
    have F2 := F1.same s2
    obtain ⟨old, hold, oa, rfl, hoa⟩ := F2.hR.at ey1
    have hy2 : y2 ∈ [x0, x1, x2] := by
      have : y2 ∈ [x1, x2, x0] := List.mem_of_getElem? ey2
      simp only [List.mem_cons, List.not_mem_nil, or_false] at this ⊢
      rcases this with h | h | h
      · exact .inr (.inl h)
      · exact .inr (.inr h)
      · exact .inl h
    obtain ⟨new, hnew, na, rfl, hna⟩ := rws_mem F2.hR hy2
    have holdm := List.mem_of_getElem? hold
    refine ⟨tz, _, rfl, SqT.of upd_same, rfl, _, _, rfl, _, _, rfl, rfl, ?_⟩
    have hp32 := s2 _ _ hp31
    generalize upd H1 tz (.tup [.ref oa, .ref na]) = H3 at s2 F2 hoa hna hp32 ⊢
    have hso := hst old holdm
    have hsn := hst new hnew
    have hlo : old.length = cells.length := hso.1
    have hln : new.length = cells.length := hsn.1
    have hLin : LaidIn tabs old.length laid := by
      rw [hlo]
      exact laid_in' hbok hfit.1 hF
    -- due, many
    refine ⟨_, rfl, _, rfl, _, rfl, _, rfl, wp, lp, oa, na, ts, ls, tabs, laid, old, new, rfl, SqL.of F2.hwp, F2.hts, SqT.of F2.hlp, F2.hA, SqT.of hoa, SqT.of hna, hLin, by omega, by omega, fun H4 tl W e4 hW htl => ?_⟩
    have F4 := F2.same e4
    have hoa4 := e4 _ _ hoa
    have hna4 := e4 _ _ hna
    have hp34 := e4 _ _ hp32
    refine ⟨tl, _, rfl, SqT.of htl, rfl, _, _, rfl, _, _, rfl, rfl, ?_⟩
    have hW1 : 1 ≤ W.length := by
      have : [] ∈ W := (hW.2 _).mpr .nil
      cases W with
      | nil => simp at this
      | cons => simp
    have hWs : W.length ≤ 2 ^ 8 := by
      have h1 := Rch.many (diff_asc old new) hW.1 fun L hL => (hW.2 L).mp hL
      have h2 : 2 ^ (diffB old new).length ≤ 2 ^ 8 := Nat.pow_le_pow_right (by decide) (by have := diff_len old new; omega)
      omega
    have hright : ∀ {most : Nat} {r : Res}, Ends (okB tabs' laid old new) most (diffB old new) 0 [([], [])] r → Right (okB tabs laid old new) most (diffB old new) r := fun {most r} h => by
      rw [ok_eq hTT] at h
      exact h.right (okB_mem _ _ _ _) (diff_asc old new) (ok_nil hfit hF holdm)
    have hfo : fineB ⟨⟨cols, cs2⟩, cells, laid⟩ old = true := fine_st hT2 hF holdm
    have hfn : fineB ⟨⟨cols, cs2⟩, cells, laid⟩ new = true := fine_st hT2 hF hnew
    have hwl : tabs'.length = cs2.length := by rw [hTT.1, hfit.1, hT2.1]
    -- told
    refine ⟨_, rfl, _, rfl, _, rfl, _, rfl, _, rfl, rfl, rfl, .ref lx, .ref st, .ref oa, .ref na, W.length, ⟨⟨cols, cs2⟩, tabs'⟩, ⟨⟨cols, cs2⟩, cells, laid⟩, rfl, F4.lax, F4.sto, hsok, (by show cells.length ≤ 10; omega), .inr ⟨rfl, hwl, way_need (l1 := false) (l2 := false) (.inr ⟨rfl, SqT.of hoa4⟩) (.inr ⟨rfl, SqT.of hna4⟩) (by show cells.length ≤ 10; omega) (stok_of hso) (stok_of hsn) hfo hfn fun r hr H5 e5 => ?_⟩⟩
    have hrr := hright hr
    refine way_fin (fun H6 v e6 hv => ?_) (fun z => by
      rw [z] at hrr
      have := great_more hW hrr
      omega)
    have F6 := (F4.same e5).same e6
    refine if_told rfl rfl (hv.dec hW hrr) (fun nv Q' hQ' => ?_) (fun H7 e7 => ?_)
    · obtain ⟨pth, ta, rz, rfl, hta, hpo⟩ := hv.way hrr nv
      refine ⟨_, rfl, _, rfl, _, rfl, _, rfl, _, rfl, wp, lp, oa, na, ta, ts, ls, tabs, laid, old, new, pth, rfl, SqL.of F6.hwp, F6.hts, SqT.of F6.hlp, F6.hA, SqT.of (e6 _ _ (e5 _ _ hoa4)), SqT.of (e6 _ _ (e5 _ _ hna4)), SqT.of hta, hLin, by omega, by omega, hpo, fun H' e => ⟨_, rfl, hQ' H' e⟩⟩
    · have F7 := F6.same e7
      have hoa7 := e7 _ _ (e6 _ _ (e5 _ _ hoa4))
      have hna7 := e7 _ _ (e6 _ _ (e5 _ _ hna4))
      have hp37 := e7 _ _ (e6 _ _ (e5 _ _ hp34))
      have hv7 := hv.same e7
      obtain ⟨ps, hps7⟩ := TO.repr (K := K) (fun x hx => (diff_mem.mp hx).1) (diff_len old new) (by omega) hrr
      refine ⟨_, rfl, _, rfl, na, new.map V.int, rfl, .inr (SqT.of hna7), fun n1 nn1 => ?_⟩
      have u1 := same_new (o := .lst (new.map V.int)) nn1
      refine ⟨_, rfl, oa, old.map V.int, rfl, .inr (SqT.of (u1 _ _ hoa7)), fun n2 nn2 => ?_⟩
      have u2 := same_new (o := .lst (old.map V.int)) nn2
      have F9 := (F7.same u1).same u2
      have hn1 := u2 _ _ (show (upd H7 n1 (.lst (new.map V.int))) n1 = some (.lst (new.map V.int)) from upd_same)
      have hn2 : (upd (upd H7 n1 (.lst (new.map V.int))) n2 (.lst (old.map V.int))) n2 = some (.lst (old.map V.int)) := upd_same
      have e79 := u1.trans u2
      generalize upd (upd H7 n1 (.lst (new.map V.int))) n2 (.lst (old.map V.int)) = H9 at u2 F9 hn1 hn2 e79 ⊢
      refine ⟨_, rfl, _, rfl, rfl, rfl, .ref lx, .ref st, .ref n2, .ref n1, W.length, ⟨⟨cols, cs2⟩, tabs'⟩, ⟨⟨cols, cs2⟩, cells, laid⟩, rfl, F9.lax, F9.sto, hsok, (by show cells.length ≤ 10; omega), .inr ⟨rfl, hwl, way_need (l1 := true) (l2 := true) (.inl ⟨rfl, hn2⟩) (.inl ⟨rfl, hn1⟩) (by show cells.length ≤ 10; omega) (stok_of hso) (stok_of hsn) hfo hfn fun r' hr' H10 e10 => ?_⟩⟩
      obtain rfl := hr.unique hr'
      refine way_fin (fun H11 v' e11 hv' => ?_) (fun z => by
        rw [z] at hrr
        have := great_more hW hrr
        omega)
      have e7b := (e79.trans e10).trans e11
      have F11b := F7.same e7b
      have hoa11 := e7b _ _ hoa7
      have hna11 := e7b _ _ hna7
      have hp311 := e7b _ _ hp37
      have hv11 := hv7.same e7b
      refine nil1 ?_
      refine hps7 _ _ hv' _ ?_
      refine ⟨v, rfl, ?_⟩
      refine nil1 ?_
      refine hps7 _ _ hv11 _ ?_
      refine ⟨scal_str, _, rfl, ?_⟩
      refine if_neg_ (by simp) ?_
      clear hps7
      refine ⟨_, rfl, _, rfl, bx, W.length, rfl, F11b.box, by omega, by omega, fun H12 r0 g12 hb12 hr0 hr1 => ⟨1, r0, rfl, rfl, ?_⟩⟩
      obtain ⟨m, rfl⟩ := Int.eq_ofNat_of_zero_le hr0
      have F12 := F11b.gr g12 hb12
      refine ⟨F12.tab, fun H13 x13 t13 => ?_⟩
      have F13 := F12.ext x13 t13
      have k13 : Lk bx H11 H13 := (Lk.gr g12).trans (Lk.ext x13)
      have hk13 := Lk.kp F11b.box k13
      have hoa13 := hk13.tup _ _ hoa11
      have hna13 := hk13.tup _ _ hna11
      refine ⟨_, rfl, _, rfl, _, rfl, _, rfl, _, rfl, rfl, rfl, .ref lx, .ref st, .ref oa, .ref na, 1 + m, ⟨⟨cols, cs2⟩, tabs'⟩, ⟨⟨cols, cs2⟩, cells, laid⟩, rfl, F13.lax, F13.sto, hsok, (by show cells.length ≤ 10; omega), .inr ⟨rfl, hwl, way_need (l1 := false) (l2 := false) (.inr ⟨rfl, SqT.of hoa13⟩) (.inr ⟨rfl, SqT.of hna13⟩) (by show cells.length ≤ 10; omega) (stok_of hso) (stok_of hsn) hfo hfn fun r2 hr2 H14 e14 => ?_⟩⟩
      have hrr2 := hright hr2
      refine way_fin (fun H15 v2 e15 hv2 => ⟨by show 2 ≤ sizeLine; decide, fun t2 nt2 => ?_⟩) (fun z H15 d e15 hd => ⟨d, _, rfl, hd, .inr (.inl ⟨rfl, _, rfl, fun H16 t2 e16 ht2 => ?_⟩)⟩)
      · have e15b := e14.trans e15
        have F15 := F13.same e15b
        have s17 := same_new (o := .tup [.str "told", v2]) nt2
        have F17 := F15.same s17
        have hv17 := hv2.same s17
        have ht17 : (upd H15 t2 (.tup [.str "told", v2])) t2 = some (.tup [.str "told", v2]) := upd_same
        have hp317 := s17 _ _ (e15b _ _ ((lk_lst k13 np3b) hp311))
        generalize upd H15 t2 (.tup [.str "told", v2]) = H17 at F17 hv17 ht17 hp317 ⊢
        obtain ⟨d2, hd2, cl2, dd2⟩ := hv17.dp (K := K)
        have hdec := hv17.dec hW hrr2
        clear hv2 hr2 hr hv hv7 hv11 F1 F2 F4 F6 F7 F9 F11b F12 F13 F15
        refine big_told rfl rfl rfl ht17 hdec hd2 cl2 dd2 (fun H18 e18 => ?_)
        refine if_neg_ (by decide) ?_
        exact ⟨⟨_, _, _, _, _, _, _, rfl⟩, F17.same e18, e18 _ _ hp317⟩
      · have e16b := (e14.trans e15).trans e16
        have F16 := F13.same e16b
        have hp316 := e16b _ _ ((lk_lst k13 np3b) hp311)
        have hmore : 1 + m < W.length := by
          rw [z] at hrr2
          exact great_more hW hrr2
        refine big_great rfl rfl rfl ht2 (by omega) (fun H18 e18 => ?_)
        refine if_neg_ (by decide) ?_
        exact ⟨⟨_, _, _, _, _, _, _, rfl⟩, F16.same e18, e18 _ _ hp316⟩
  · rintro σ H1 ⟨⟨v11, v12, v13, v14, v15, v16, v17, rfl⟩, F1, _⟩
    -- REST
    refine ⟨by show 3 ≤ sizeLine; decide, fun c1 nc1 => ?_⟩
    have s1 := same_new (o := .tup [.int 2, .int 2, .int 2]) nc1
    have F2 := F1.same s1
    have hc1t : (upd H1 c1 (.tup [.int 2, .int 2, .int 2])) c1 = some (.tup [.int 2, .int 2, .int 2]) := upd_same
    generalize upd H1 c1 (.tup [.int 2, .int 2, .int 2]) = H2 at F2 hc1t ⊢
    refine fun b5 d5 nb5 nd5 _ => ⟨b5, d5, c1, _, [2, 2, 2], false, [], [], rfl, upd_same, SqT.of (mk_same0 nb5 nd5 _ _ hc1t), ⟨by decide, by decide, by decide⟩, .inr ⟨rfl, U.dB.sq⟩, ⟨rfl, fun i v c a => by cases a⟩, by decide, fun c hc => (by cases hc), fun H3 cs3 gx3 hB3 hT3 => ⟨rfl, ?_⟩⟩
    have e3 : Same H2 H3 := mk_same nb5 nd5 gx3
    obtain rfl : cs3 = [] := List.eq_nil_of_length_eq_zero hT3.1
    have F3 := F2.same e3
    refine ⟨by show 1 ≤ sizeLine; decide, fun c2 nc2 => ?_⟩
    have s4 := same_new (o := .tup [.int 0]) nc2
    have F4 := F3.same s4
    have hB4 := hB3.kp (Kp.of s4)
    have hc2t : (upd H3 c2 (.tup [.int 0])) c2 = some (.tup [.int 0]) := upd_same
    generalize upd H3 c2 (.tup [.int 0]) = H4 at F4 hB4 hc2t ⊢
    refine fun ot d6 not_ nd6 _ => ?_
    have nb5o : b5 ≠ ot := by
      obtain ⟨_, _, _, _, _, eb, hbb, _⟩ := hB4.ex
      cases eb
      exact ne_of_none hbb not_
    have m5 := mk_same0 (o := .own ot) (u := .ins (He.ga K "Store") d6 []) not_ nd6
    refine ⟨ot, d6, c2, _, .ref b5, [], ⟨⟨[2, 2, 2], []⟩, [0], []⟩, rfl, upd_same, hB4.kp (Kp.of m5), ⟨b5, rfl, nb5o⟩, SqT.of (m5 _ _ hc2t), U.dS.sq, ⟨rfl, fun i v c a => by cases a⟩, ⟨by decide, by decide, by decide, by decide, fun l hl => (by cases hl)⟩, fun H5 gx5 hS5 => ⟨rfl, ?_⟩⟩
    have e5 : Same H4 H5 := mk_same not_ nd6 gx5
    have F5 := F4.same e5
    refine ⟨_, rfl, by show 0 ≤ sizeLine; decide, fun n1 nn1 => ?_⟩
    have s6 := same_new (o := .tup []) nn1
    have F6 := F5.same s6
    have hn1 : (upd H5 n1 (.tup [])) n1 = some (.tup []) := upd_same
    have hS6 := hS5.kp (Kp.of s6)
    generalize upd H5 n1 (.tup []) = H6 at F6 hn1 hS6 ⊢
    obtain ⟨st0, hst0, oa0, rfl, hoa0⟩ := F6.hR.at (i := 0) (v := x0) rfl
    refine ⟨_, rfl, sl, _, 0, _, rfl, rfl, SqL.of F6.hsl, rfl, by show 1 ≤ sizeLine; decide, fun n2 nn2 => ?_⟩
    have s7 := same_new (o := .tup [.int 0]) nn2
    have F7 := F6.same s7
    have hn17 := s7 _ _ hn1
    have hS7 := hS6.kp (Kp.of s7)
    have hoa7 := s7 _ _ hoa0
    have hn27 : (upd H6 n2 (.tup [.int 0])) n2 = some (.tup [.int 0]) := upd_same
    generalize upd H6 n2 (.tup [.int 0]) = H7 at F7 hn17 hS7 hoa7 hn27 ⊢
    have hs0 := hst st0 (List.mem_of_getElem? hst0)
    have hl0 : st0.length = cells.length := hs0.1
    have hne0 : st0.map V.int ≠ [] := fun z => by
      have := congrArg List.length z
      rw [List.length_map] at this
      have h0 : st0.length = 0 := this
      omega
    refine ⟨oa0, n2, st0.map V.int, [.int 0], rfl, rfl, SqT.of hoa7, SqT.of hn27, by
      rw [List.length_map]
      show st0.length + 1 ≤ sizeLine
      have : 100 ≤ sizeLine := by decide
      omega, fun z => (hne0 z).elim, fun _ z => (by cases z), fun _ _ n3 nn3 => ?_⟩
    have s8 := same_new (o := .tup (st0.map V.int ++ [.int 0])) nn3
    have F8 := F7.same s8
    have hn18 := s8 _ _ hn17
    have hS8 := hS7.kp (Kp.of s8)
    have hoa8 := s8 _ _ hoa7
    have hn38 : (upd H7 n3 (.tup (st0.map V.int ++ [.int 0]))) n3 = some (.tup (st0.map V.int ++ [.int 0])) := upd_same
    generalize upd H7 n3 (.tup (st0.map V.int ++ [.int 0])) = H8 at F8 hn18 hS8 hoa8 hn38 ⊢
    refine ⟨_, rfl, cp, cells.map V.int, rfl, .inr (SqT.of F8.hcp), _, _, rfl, rfl, by
      rw [List.length_map]
      omega, by
      rw [List.length_map]
      omega, rfl, fun z' => ⟨by show 4 ≤ sizeLine; decide, fun n4 nn4 => ?_⟩⟩
    -- the bad one
    have s9 := same_new (o := .lst [.non, .ref n1, .ref n3, .str z']) nn4
    have n4b := F8.box.ne nn4
    refine ⟨bx, n4, _, rfl, F8.box.same s9, upd_same, n4b, by show 1 ≤ 4; decide, by show 4 < 1000; decide, fun H9 j bad g9 hb9 hbad => ?_⟩
    have g89 := (Gr.of s9).trans g9
    have k89 := F8.box.kp g89
    have F9 := F8.gr g89 hb9
    have hS9 := hS8.kp k89
    have hno : NoState K H9 bad cells.length := bad_none (k89.tup _ _ hn18) (k89.tup _ _ hn38) hl0 (by omega) hbad
    have hoa9 := k89.tup _ _ hoa8
    clear hn18 hn38 hoa8 hS8 F8 g9 g89 k89 s9 nn4 n4b hbad F7 F6 F5 F4 F3 F2 F1 hn17 hS7 hoa7 hn27 hS6 hn1 hB4 hc2t hc1t hS5 gx5 e5 s8 s7 s6 e3 gx3 hB3 s4 s1
    have hwl : tabs'.length = cs2.length := by rw [hTT.1, hfit.1, hT2.1]
    have hf0 : fineB ⟨⟨cols, cs2⟩, cells, laid⟩ st0 = true := fine_st hT2 hF (List.mem_of_getElem? hst0)
    -- another store
    refine ⟨F9.tab, fun H10 x10 t10 => ?_⟩
    have F10 := F9.ext x10 t10
    have k10 : Kp H9 H10 := Lk.kp F9.box (Lk.ext x10)
    have hS10 := hS9.kp k10
    refine ⟨_, rfl, _, rfl, rfl, rfl, .ref lx, .ref ot, .non, .non, 9, ⟨⟨cols, cs2⟩, tabs'⟩, ⟨⟨[2, 2, 2], []⟩, [0], []⟩, rfl, F10.lax, hS10, ⟨by decide, by decide, by decide, by decide, fun l hl => (by cases hl)⟩, (by decide), .inl ⟨fun z => h222 z.symm, fun H11 d11 e11 hd11 => ?_⟩⟩
    refine ⟨d11, _, rfl, hd11, .inr (.inr ⟨rfl, _, rfl, .inl ⟨⟨_, hS10.kp (Kp.of e11)⟩, fun H12 t12 e12 ht12 => ?_⟩⟩)⟩
    refine ⟨_, rfl, by show 2 ≤ sizeLine; decide, fun p13 np13 => ?_⟩
    have s13 := same_new (o := .tup [.str "refused", .ref ot]) np13
    refine ⟨t12, p13, "refused", ot, rfl, rfl, s13 _ _ ht12, upd_same, _, rfl, ?_⟩
    refine if_neg_ (by decide) ?_
    have e13 := (e11.trans e12).trans s13
    have F13 := F10.same e13
    have k13 := k10.trans (Kp.of e13)
    clear F10 hS10 hS9 F9 hd11 ht12
    generalize upd H12 p13 (.tup [.str "refused", .ref ot]) = H13 at F13 k13 ⊢
    -- no state
    refine ⟨F13.tab, fun H14 x14 t14 => ?_⟩
    have F14 := F13.ext x14 t14
    have k14 := k13.trans (Lk.kp F13.box (Lk.ext x14))
    refine ⟨_, rfl, _, rfl, _, rfl, rfl, rfl, .ref lx, .ref st, bad, .non, 9, ⟨⟨cols, cs2⟩, tabs'⟩, ⟨⟨cols, cs2⟩, cells, laid⟩, rfl, F14.lax, F14.sto, hsok, (by show cells.length ≤ 10; omega), .inr ⟨rfl, hwl, .inr ⟨hno.kp k14, fun H15 d15 e15 hd15 => ?_⟩⟩⟩
    refine ⟨d15, _, rfl, hd15, .inl ⟨rfl, _, rfl, fun H16 t16 e16 ht16 => ?_⟩⟩
    refine ⟨_, _, rfl, rfl, by show 2 ≤ sizeLine; decide, fun p17 np17 => ?_⟩
    have s17 := same_new (o := .tup [.str "state", .int (0 - 1)]) np17
    refine neD_same (s17 _ _ ht16) upd_same (.int _) (by decide +kernel) rfl dep_int (eqv_int _) ⟨_, rfl, ?_⟩
    refine if_neg_ (by decide) ?_
    have e17 := (e15.trans e16).trans s17
    have F17 := F14.same e17
    have k17 := k14.trans (Kp.of e17)
    clear F14 F13 ht16 hd15
    generalize upd H16 p17 (.tup [.str "state", .int (0 - 1)]) = H17 at F17 k17 ⊢
    -- no state behind a good one
    refine ⟨F17.tab, fun H18 x18 t18 => ?_⟩
    have F18 := F17.ext x18 t18
    have k18 := k17.trans (Lk.kp F17.box (Lk.ext x18))
    refine ⟨_, rfl, _, rfl, _, rfl, sl, _, 0, _, rfl, rfl, SqL.of F18.hsl, rfl, _, rfl, rfl, rfl, .ref lx, .ref st, .ref oa0, bad, 9, ⟨⟨cols, cs2⟩, tabs'⟩, ⟨⟨cols, cs2⟩, cells, laid⟩, rfl, F18.lax, F18.sto, hsok, (by show cells.length ≤ 10; omega), .inr ⟨rfl, hwl, .inl ⟨false, oa0, st0, rfl, .inr ⟨rfl, SqT.of (k18.tup _ _ hoa9)⟩, by omega, stok_of hs0, .inl ⟨hf0, fun H19 t19 e19 _ => .inr ⟨hno.kp (k18.trans (Kp.of e19)), fun H20 d20 e20 hd20 => ?_⟩⟩⟩⟩⟩
    refine ⟨d20, _, rfl, hd20, .inl ⟨rfl, _, rfl, fun H21 t21 e21 ht21 => ?_⟩⟩
    refine ⟨_, _, rfl, rfl, by show 2 ≤ sizeLine; decide, fun p22 np22 => ?_⟩
    have s22 := same_new (o := .tup [.str "state", .int (0 - 1)]) np22
    refine neD_same (s22 _ _ ht21) upd_same (.int _) (by decide +kernel) rfl dep_int (eqv_int _) ⟨_, rfl, ?_⟩
    refine if_neg_ (by decide) ?_
    have e22 := ((e19.trans e20).trans e21).trans s22
    have F22 := F18.same e22
    have k22 := k18.trans (Kp.of e22)
    clear F18 F17 ht21 hd20 hno
    generalize upd H21 p22 (.tup [.str "state", .int (0 - 1)]) = H22 at F22 k22 ⊢
    -- drawn
    refine ⟨_, rfl, cp, rfl, ⟨_, SqT.of F22.hcp⟩, fun D nD => lc_box (walk_tup (a := cp) (xs := cells.map V.int)) nD F22.box (by rw [List.length_map]; omega) (fun i zs G => ∃ st : List Int, zs = st.map V.int ∧ st.length = i ∧ ∀ (k : Nat) c x, cells[k]? = some c → st[k]? = some x → ∃ m, cols[c.toNat]? = some m ∧ 0 ≤ c ∧ 0 ≤ x ∧ x < m) (fun _ _ _ _ _ h => h) ⟨[], rfl, rfl, fun k c x _ h => by simp at h⟩ (fun G s => SqT.of ((F22.box.kp s).tup _ _ F22.hcp)) ?_ ?_⟩
    · rintro q x' G14 G15 zs post skip hq g14 hb14 ⟨dr, rfl, hpl, hpp⟩ ⟨rfl, hx⟩ hpost hskip
      obtain ⟨c, hc, rfl⟩ := getMapInt hx
      obtain ⟨cc0, cc1⟩ := hcin c (List.mem_of_getElem? hc)
      have hlt : c.toNat < cols.length := by omega
      have hm : cols[c.toNat]? = some cols[c.toNat] := List.getElem?_eq_getElem hlt
      have hm13 := hc13 _ (List.getElem_mem hlt)
      generalize cols[c.toNat] = m at hm hm13
      refine ⟨rfl, _, rfl, _, rfl, _, rfl, ca, _, c, .int m, rfl, rfl, SqT.of ((F22.box.kp g14).tup _ _ F22.hca), atI_of (j := c.toNat) (by omega) (at_map hm), bx, m, rfl, hb14, by omega, by omega, fun G16 p g16 hb16 p0 p1 => ?_⟩
      refine hpost _ _ g16 hb16 ⟨dr ++ [p], by rw [List.map_append]; rfl, by rw [List.length_append, hpl]; rfl, fun k' c' x' h1 h2 => ?_⟩
      by_cases hk' : k' < dr.length
      · rw [List.getElem?_append_left hk'] at h2
        exact hpp k' c' x' h1 h2
      · rw [List.getElem?_append_right (by omega)] at h2
        match hj : k' - dr.length with
        | 0 =>
          rw [hj] at h2
          cases h2
          have : k' = q := by omega
          rw [this, hc] at h1
          cases h1
          exact ⟨m, hm, cc0, p0, p1⟩
        | j + 1 =>
          rw [hj] at h2
          simp at h2
    rintro H23 zs g23 hb23 hD ⟨dr, rfl, hpl, hpp⟩
    rw [List.length_map] at hpl
    have hdr : StFit cols cells dr := ⟨hpl, hpp⟩
    have hsm := small_of hdr hc13 hc6'
    have F23 := F22.gr g23 hb23
    have hoa23 := (F22.box.kp g23).tup _ _ (k22.tup _ _ hoa9)
    refine ⟨D, _, rfl, .inl ⟨SqL.of hD, fun dt ndt => ?_⟩⟩
    have s24 := same_new (o := .tup (dr.map V.int)) ndt
    have F24 := F23.same s24
    have hoa24 := s24 _ _ hoa23
    have hdt : (upd H23 dt (.tup (dr.map V.int))) dt = some (.tup (dr.map V.int)) := upd_same
    clear F23 F22 hD hoa23 hoa9 nD g23
    generalize upd H23 dt (.tup (dr.map V.int)) = H24 at F24 hoa24 hdt ⊢
    -- does it pass?
    have hLin : LaidIn (cs.map (·.2)) dr.length laid := by
      rw [hpl]
      exact laid_in' hbok (List.length_map _) hF
    refine ⟨_, rfl, kl, rfl, ⟨_, SqL.of F24.hkl⟩, fun D2 nD2 => lc_pure (walk_list (a := kl) (xs := ks)) nD2 (by have := F24.hks.1; omega) (fun i zs G => Al (TabV K G) zs ((cs.map fun (c : Chk) => c.2).take i)) (fun i zs G G' k h => h.imp fun v t (h : TabV K G v t) => h.kp k) (by rw [List.take_zero]; exact Al.nil) (fun G s => SqL.of (s _ _ F24.hkl)) ?_ ?_⟩
    · rintro q x' G1 G2 zs post skip hq s1 hz ⟨rfl, hx⟩ hpost hskip
      obtain ⟨ch, hc1', hc2'⟩ := (F24.hks.kp (Kp.of s1)).at hx
      obtain ⟨cva, pa, ra, rs, rfl, q1, q2, q3, q4⟩ := hc2'.ex
      refine ⟨cva, _, rfl, q1, rfl, _, _, rfl, _, _, rfl, rfl, rfl, ?_⟩
      refine ⟨_, rfl, hpost _ _ (Same.refl _) ?_⟩
      rw [take_snoc (at_map hc1')]
      exact hz.snoc ⟨ra, rs, rfl, q3, q4⟩
    intro H25 zs e25 hD2 hA
    have eT : (cs.map (·.2)).take ks.length = cs.map (·.2) := List.take_of_length_le (by rw [List.length_map, F24.hks.1]; exact Nat.le_refl _)
    rw [eT] at hA
    have F25 := F24.same e25
    have hdt25 := e25 _ _ hdt
    refine ⟨_, rfl, _, rfl, D2, lp, dt, zs, ls, cs.map fun (c : Chk) => c.2, laid, dr, rfl, SqL.of hD2, hA, SqT.of F25.hlp, F25.hA, SqT.of hdt25, hLin, fun H26 e26 => ⟨_, rfl, ?_⟩⟩
    have F26 := F25.same e26
    have hdt26 := e26 _ _ hdt25
    have hoa26 := (e25.trans e26) _ _ hoa24
    have hfe : fineB ⟨⟨cols, cs2⟩, cells, laid⟩ dr = passB (cs.map (·.2)) laid dr := fine_eq hT2 dr
    clear F25 F24 hdt25 hdt hoa24 hD2 hA
    cases hpb : passB (cs.map (·.2)) laid dr with
    | true => exact iteF ⟨⟨_, _, _, _, _, _, _, _, _, _, _, _, _, _, _, _, _, _, _, _, rfl⟩, F26.scr _ (Lk.refl _), F26.tab⟩
    | false =>
      rw [hpb] at hfe
      refine iteT ?_
      refine ⟨F26.tab, fun H27 x27 t27 => ?_⟩
      have F27 := F26.ext x27 t27
      have k27 := Lk.kp F26.box (Lk.ext x27)
      have hdt27 := k27.tup _ _ hdt26
      have hoa27 := k27.tup _ _ hoa26
      refine ⟨_, rfl, _, rfl, _, rfl, rfl, rfl, .ref lx, .ref st, .ref dt, .non, 9, ⟨⟨cols, cs2⟩, tabs'⟩, ⟨⟨cols, cs2⟩, cells, laid⟩, rfl, F27.lax, F27.sto, hsok, (by show cells.length ≤ 10; omega), .inr ⟨rfl, hwl, .inl ⟨false, dt, dr, rfl, .inr ⟨rfl, SqT.of hdt27⟩, by omega, stok_of hdr, .inr ⟨hfe, fun H28 d28 e28 hd28 => ?_⟩⟩⟩⟩
      refine ⟨d28, _, rfl, hd28, .inr (.inr ⟨rfl, _, rfl, .inr ⟨dt, false, dr, rfl, .inr ⟨rfl, SqT.of (e28 _ _ hdt27)⟩, hsm, fun H29 t29 e29 ht29 => ?_⟩⟩)⟩
      refine ⟨_, rfl, .inr ⟨dt, false, dr, rfl, .inr ⟨rfl, SqT.of (e29 _ _ (e28 _ _ hdt27))⟩, hsm, by show 2 ≤ sizeLine; decide, fun p30 np30 => ?_⟩⟩
      have s30 := same_new (o := .tup [.str "refused", .str (shX false dr)]) np30
      refine neD_same (s30 _ _ ht29) upd_same (.str _) (by decide +kernel) (by simp [PyData.canLay0, shX_ok hsm]) dep_str (eqv_str _) ⟨_, rfl, ?_⟩
      refine if_neg_ (by decide) ?_
      have e30 := (e28.trans e29).trans s30
      have F30 := F27.same e30
      have hdt30 := e30 _ _ hdt27
      have hoa30 := e30 _ _ hoa27
      clear F27 F26 ht29 hd28 hdt27 hoa27 hdt26 hoa26
      generalize upd H29 p30 (.tup [.str "refused", .str (shX false dr)]) = H30 at F30 hdt30 hoa30 ⊢
      refine ⟨F30.tab, fun H31 x31 t31 => ?_⟩
      have F31 := F30.ext x31 t31
      have k31 := Lk.kp F30.box (Lk.ext x31)
      have hdt31 := k31.tup _ _ hdt30
      have hoa31 := k31.tup _ _ hoa30
      refine ⟨_, rfl, _, rfl, _, rfl, sl, _, 0, _, rfl, rfl, SqL.of F31.hsl, rfl, _, rfl, dt, _, rfl, .inr (SqT.of hdt31), fun ld nld => ?_⟩
      have s32 := same_new (o := .lst (dr.map V.int)) nld
      have F32 := F31.same s32
      have hdt32 := s32 _ _ hdt31
      have hoa32 := s32 _ _ hoa31
      have hld : (upd H31 ld (.lst (dr.map V.int))) ld = some (.lst (dr.map V.int)) := upd_same
      clear F31 F30 hdt30 hoa30
      generalize upd H31 ld (.lst (dr.map V.int)) = H32 at F32 hdt32 hoa32 hld ⊢
      refine ⟨rfl, rfl, .ref lx, .ref st, .ref oa0, .ref ld, 9, ⟨⟨cols, cs2⟩, tabs'⟩, ⟨⟨cols, cs2⟩, cells, laid⟩, rfl, F32.lax, F32.sto, hsok, (by show cells.length ≤ 10; omega), .inr ⟨rfl, hwl, .inl ⟨false, oa0, st0, rfl, .inr ⟨rfl, SqT.of hoa32⟩, by omega, stok_of hs0, .inl ⟨hf0, fun H33 t33 e33 _ => .inl ⟨true, ld, dr, rfl, .inl ⟨rfl, e33 _ _ hld⟩, by omega, stok_of hdr, .inr ⟨hfe, fun H34 d34 e34 hd34 => ?_⟩⟩⟩⟩⟩⟩
      have e34' := e33.trans e34
      refine ⟨d34, _, rfl, hd34, .inr (.inr ⟨rfl, _, rfl, .inr ⟨ld, true, dr, rfl, .inl ⟨rfl, e34' _ _ hld⟩, hsm, fun H35 t35 e35 ht35 => ?_⟩⟩)⟩
      have e35' := e34'.trans e35
      refine ⟨_, rfl, dt, _, rfl, .inr (SqT.of (e35' _ _ hdt32)), fun l2 nl2 => ?_⟩
      have s36 := same_new (o := .lst (dr.map V.int)) nl2
      refine .inr ⟨l2, true, dr, rfl, .inl ⟨rfl, upd_same⟩, hsm, by show 2 ≤ sizeLine; decide, fun p37 np37 => ?_⟩
      have s37 := same_new (o := .tup [.str "refused", .str (shX true dr)]) np37
      refine neD_same ((s36.trans s37) _ _ ht35) upd_same (.str _) (by decide +kernel) (by simp [PyData.canLay0, shX_ok hsm]) dep_str (eqv_str _) ⟨_, rfl, ?_⟩
      refine if_neg_ (by decide) ?_
      have F37 := F32.same (e35'.trans (s36.trans s37))
      exact ⟨⟨_, _, _, _, _, _, _, _, _, _, _, _, _, _, _, _, _, _, _, _, rfl⟩, F37.scr _ (Lk.refl _), F37.tab⟩
end
end K29
namespace K29
open PySem PySem.Spec PyProof.Rows L2
/-! ### the head: what is looked at -/
abbrev R : PySem.W.OpenRow := PySem.W.OpenLaw.row PySem.Challenge.rw_makefirst_k29_whole_ways_of_one_store
abbrev s_BadState_init : Stmt := inClass (topS 4) 0
abbrev s_Refused_init : Stmt := inClass (topS 5) 0
abbrev s_TooGreat_init : Stmt := inClass (topS 6) 0
/-- an exception's __init__, less its cells -/
def exW (K : PySem.W.Frag) (x : Str) : He.FnW := match K.lookup (He.ma K (He.ga K x) "__init__") with
  | some ⟨_, _, .func fd, _⟩ => some (fd.name, fd.qualname, fd.params, fd.body, fd.scope, fd.globals, [], fd.builtins)
  | _ => none
def exV (q : Str) (st : Stmt) : He.FnW := some ("__init__", q, defArgs st, .stmts (defBody st), defScope st, mainGlobals, [], builtinsNs)
def exN : List Str := ["BadState", "Refused", "TooGreat"]
def exL : List He.FnW := [exV "BadState.__init__" s_BadState_init, exV "Refused.__init__" s_Refused_init, exV "TooGreat.__init__" s_TooGreat_init]
def clsB (K : PySem.W.Frag) (C : Addr) : Bool := match K.lookup C with
  | some ⟨.type t, _, .cls cd, sl⟩ => decide (t = "type") && (match cd.mro, sl.toList with
    | .ref C' :: bm, [_, _, _, _, some (.builtin n), _] => decide (C' = C) && (decide (n = "ValueError.__new__") && (!cd.hasDel && (cd.hasDict && PySem.HandSPX.refsVE bm)))
    | _, _ => false)
  | _ => false
theorem clsB_ok {K : PySem.W.Frag} {C : Addr} (h : clsB K C = true) : ∃ nm q N bs bm sn sub ab col dd k0 k1 k2 k3 k5, K.lookup C = some (excClassObj nm q C N bs bm true sn sub ab col dd k0 k1 k2 k3 k5 "ValueError.__new__") ∧ PySem.HandSPX.refsVE bm = true := by
  unfold clsB at h
  split at h
  · rename_i t dd cd sl ho
    obtain ⟨ht, h⟩ := He.ba h
    have et := of_decide_eq_true ht
    split at h
    · rename_i C' bm k0 k1 k2 k3 n k5 hm hs
      simp only [Bool.and_eq_true, decide_eq_true_eq, Bool.not_eq_true'] at h
      obtain ⟨rfl, rfl, hdel, hdct, hbm⟩ := h
      obtain ⟨nm, bs, mro, ns, qn, hd, sn, sub, ab, col, del⟩ := cd
      dsimp only at hm hdel hdct
      subst hm hdel hdct et
      have hsl : sl = #[k0, k1, k2, k3, some (.builtin "ValueError.__new__"), k5] := by
        obtain ⟨l⟩ := sl
        simp only at hs
        rw [hs]
      subst hsl
      exact ⟨nm, qn, ns, bs, bm, sn, sub, ab, col, dd, k0, k1, k2, k3, k5, ho, hbm⟩
    · cases h
  · cases h
/-- the function's cell, code and file -/
def celB (K : PySem.W.Frag) (C : Addr) (cl : List (Str × Addr)) : Bool := match cl with
  | [(n, cc)] => decide (n = "__class__") && (match K.lookup cc with
    | some ⟨_, _, .cell (some (.ref D)), _⟩ => decide (D = C)
    | _ => false)
  | _ => false
theorem celB_ok {K : PySem.W.Frag} {C : Addr} {cl : List (Str × Addr)} (h : celB K C cl = true) : ∃ cc, cl = [(("__class__" : Str), cc)] ∧ ∃ (a : Value) (b : Option Addr) (c : Array (Option Value)), K.lookup cc = some ⟨a, b, .cell (some (.ref C)), c⟩ := by
  unfold celB at h
  split at h
  · rename_i n cc
    obtain ⟨h1, h2⟩ := He.ba h
    split at h2
    · rename_i a b D c e
      have eD := of_decide_eq_true h2
      subst eD
      exact ⟨cc, by rw [of_decide_eq_true h1], a, b, c, e⟩
    · cases h2
  · cases h
def filB (K : PySem.W.Frag) (cdv : Value) : Bool := match cdv with
  | .ref cda => (match K.lookup cda with
    | some ⟨_, _, .fields vs, _⟩ => (match (vs[2]? : Option Value) with
      | some (.str f _) => decide (f = R.prog.main.file)
      | _ => false)
    | _ => false)
  | _ => false
theorem filB_ok {K : PySem.W.Frag} {cdv : Value} (h : filB K cdv = true) : ∃ cda, cdv = .ref cda ∧ ∃ (ccl : Value) (cdd : Option Addr) (vs : Array Value) (ccs : Array (Option Value)) (tf : Tok), K.lookup cda = some ⟨ccl, cdd, .fields vs, ccs⟩ ∧ vs[2]? = some (.str R.prog.main.file tf) := by
  unfold filB at h
  split at h
  · rename_i cda
    split at h
    · rename_i a b vs c e
      split at h
      · rename_i f t e2
        rw [of_decide_eq_true h] at e2
        exact ⟨cda, rfl, a, b, vs, c, t, e, e2⟩
      · cases h
    · cases h
  · cases h
def iniB (K : PySem.W.Frag) (C : Addr) (q : Str) : Bool := match K.lookup (He.ma K C "__init__") with
  | some ⟨_, _, .func fd, _⟩ => PySem.W.codeIn K fd.code q && ((match fd.defaults with
    | .none => true
    | _ => false) && (celB K C fd.closure && filB K fd.code))
  | _ => false
/-- all of an exception that is asked -/
def exB (K : PySem.W.Frag) (C : Addr) (at_ q : Str) : Bool := clsB K C && (He.eqO (PySem.W.findIn K (.ref C) "__setattr__") (some (some (.builtin "object.__setattr__"))) && (decide (PySem.W.subIn K (.ref C) (.type "BaseException") = some true) && (decide (PySem.W.typeIn K (.ref C) = some (.type "type")) && (PySem.W.keepIn K (.ref C) &&
  (He.eqO (PySem.W.findIn K (.ref C) "__init__") (some (some (.ref (He.ma K C "__init__")))) && (decide (PySem.W.typeIn K (.ref (He.ma K C "__init__")) = some (.type "function")) && (iniB K C q && (decide (PySem.W.mroIn K C (.ref C) = some true) &&
  (He.eqO (PySem.W.ks_superIn K C C "__init__") (some (some (.builtin "ValueError.__init__"))) && (decide (PySem.W.subIn K (.ref C) (.type "ValueError") = some true) && (He.eqO (PySem.W.findIn K (.ref C) at_) (some none) && (He.eqO (PySem.W.nsIn K cStatics "thirdparty.any") (some none) && xfB K C))))))))))))
structure ExA (K : PySem.W.Frag) (C : Addr) (at_ q : Str) : Prop where
  oex : OexC K C
  ini : PySem.W.findIn K (.ref C) "__init__" = some (some (.ref (He.ma K C "__init__")))
  tyf : PySem.W.typeIn K (.ref (He.ma K C "__init__")) = some (.type "function")
  fn : iniB K C q = true
  own : PySem.W.mroIn K C (.ref C) = some true
  sup : PySem.W.ks_superIn K C C "__init__" = some (some (.builtin "ValueError.__init__"))
  sub : PySem.W.subIn K (.ref C) (.type "ValueError") = some true
  noat : PySem.W.findIn K (.ref C) at_ = some none
  any : PySem.W.nsIn K cStatics "thirdparty.any" = some none
  xf : XfC K C
theorem exB_ok {K : PySem.W.Frag} {C : Addr} {at_ q : Str} (h : exB K C at_ q = true) : ExA K C at_ q := by
  unfold exB at h
  obtain ⟨h1, h⟩ := He.ba h
  obtain ⟨h2, h⟩ := He.ba h
  obtain ⟨h3, h⟩ := He.ba h
  obtain ⟨h4, h⟩ := He.ba h
  obtain ⟨h5, h⟩ := He.ba h
  obtain ⟨h6, h⟩ := He.ba h
  obtain ⟨h7, h⟩ := He.ba h
  obtain ⟨h8, h⟩ := He.ba h
  obtain ⟨h9, h⟩ := He.ba h
  obtain ⟨h10, h⟩ := He.ba h
  obtain ⟨h11, h⟩ := He.ba h
  obtain ⟨h12, h⟩ := He.ba h
  obtain ⟨h13, h14⟩ := He.ba h
  exact ⟨⟨clsB_ok h1, He.eqO_ok h2, of_decide_eq_true h3, of_decide_eq_true h4, h5⟩, He.eqO_ok h6, of_decide_eq_true h7, h8, of_decide_eq_true h9, He.eqO_ok h10, of_decide_eq_true h11, He.eqO_ok h12, He.eqO_ok h13, xfB_ok h14⟩
theorem top_super : (R.prog.main.scope.names.lookup ("super" : Str)).isSome = false := by kernel_rfl
theorem exF_of {K : PySem.W.Frag} {x at_ q msg : Str} {st : Stmt} (c : ExA K (He.ga K x) at_ q) (hw : exW K x = exV q st) : ExF R.prog K (He.ga K x) (He.ma K (He.ga K x) "__init__") q at_ msg (defArgs st) (defBody st) (defScope st) := by
  refine ⟨c.oex, c.ini, c.tyf, ?_, c.own, c.sup, c.sub, c.noat, c.any, top_super⟩
  have h := c.fn
  unfold iniB at h
  unfold exW at hw
  cases e : K.lookup (He.ma K (He.ga K x) "__init__") with
  | none =>
    rw [e] at h
    cases h
  | some o =>
    obtain ⟨oc, od, dt, osl⟩ := o
    rw [e] at h hw
    cases dt with
    | func fd =>
      obtain ⟨n1, n2, n3, n4, n5, n6, n7, n8, n9, n10, n11, n12, n13, n14, n15⟩ := fd
      have e2 : (some (n1, n2, n3, n4, n5, n6, [], n15) : He.FnW) = some (("__init__" : Str), q, defArgs st, FuncBody.stmts (defBody st), defScope st, mainGlobals, [], builtinsNs) := hw
      simp only [Option.some.injEq, Prod.mk.injEq] at e2
      obtain ⟨z1, z2, z3, z4, z5, z6, _, z8⟩ := e2
      subst z1 z2 z3 z4 z5 z6 z8
      obtain ⟨k1, h⟩ := He.ba h
      obtain ⟨k2, h⟩ := He.ba h
      obtain ⟨k3, k4⟩ := He.ba h
      obtain ⟨cc, e7, cl, cld, csl, hc⟩ := celB_ok k3
      obtain ⟨cda, e13, ccl, cdd, vs, ccs, tf, hl, hv⟩ := filB_ok k4
      dsimp only at k1 k2 e7 e13
      subst e7 e13
      have e8 : n8 = .none := by
        cases n8 with
        | none => rfl
        | _ => cases k2
      subst e8
      exact ⟨oc, od, n9, n10, n11, n12, cda, n14, cc, osl, rfl, k1, ⟨ccl, cdd, vs, ccs, tf, hl, hv⟩, cl, cld, csl, hc⟩
    | _ => cases h
/-! ### the two classes' defaults, what they are -/
def dfB (K : PySem.W.Frag) (a : Addr) : Bool := match K.lookup a with
  | some ⟨.type t, _, .seq its _, _⟩ => decide (t = "tuple") && its.isEmpty
  | _ => false
theorem dfB_ok {K : PySem.W.Frag} {a : Addr} (h : dfB K a = true) : DfE K a := by
  unfold dfB at h
  split at h
  · rename_i t dd its n sl e
    obtain ⟨h1, h2⟩ := He.ba h
    exact ⟨_, n, e, by rw [of_decide_eq_true h1], by rw [Array.isEmpty_iff.mp h2]⟩
  · cases h
def uxB (K : PySem.W.Frag) : Bool := dfB K (He.dflAt ("Book", some "__init__") 0 K) && (dfB K (He.dflAt ("Store", some "__init__") 0 K) && (He.eqO (PySem.W.findIn K (.ref (He.ga K "Book")) "__class__") (some (some (.builtin "object.__class__"))) && (He.eqO (PySem.W.findIn K (.ref (He.ga K "Store")) "__class__") (some (some (.builtin "object.__class__"))) &&
  (He.eqO (PySem.W.specialIn K (.builtin "object.__class__") "__get__") (some (some (.builtin "getset_descriptor.__get__"))) && (decide (PySem.W.takesIn K (.builtin "object.__class__") = some true) && (decide (PySem.W.mroIn K (He.ga K "Book") (.type "object") = some true) && (decide (PySem.W.mroIn K (He.ga K "Store") (.type "object") = some true) &&
  (He.eqO (PySem.W.findIn K (.ref (He.ga K "Book")) "__ne__") (some (some (.builtin "object.__ne__"))) && (decide (PySem.W.subIn K (.ref (He.ga K "Book")) (.type "object") = some true) && (decide (PySem.W.kitOne K (.type "tuple") (.ref (He.ga K "Store")) = some false) && (decide (PySem.W.kitOne K (.type "tuple") (.ref (He.ga K "LaxBook")) = some false) &&
  (decide (PySem.W.kitOne K (.type "list") (.ref (He.ga K "Store")) = some false) && decide (PySem.W.kitOne K (.type "list") (.ref (He.ga K "LaxBook")) = some false)))))))))))))
theorem uxB_ok {K : PySem.W.Frag} (h : uxB K = true) : Ux K := by
  unfold uxB at h
  obtain ⟨h1, h⟩ := He.ba h
  obtain ⟨h2, h⟩ := He.ba h
  obtain ⟨h3, h⟩ := He.ba h
  obtain ⟨h4, h⟩ := He.ba h
  obtain ⟨h5, h⟩ := He.ba h
  obtain ⟨h6, h⟩ := He.ba h
  obtain ⟨h7, h⟩ := He.ba h
  obtain ⟨h8, h⟩ := He.ba h
  obtain ⟨h9, h⟩ := He.ba h
  obtain ⟨h10, h⟩ := He.ba h
  obtain ⟨h11, h⟩ := He.ba h
  obtain ⟨h12, h⟩ := He.ba h
  obtain ⟨h13, h14⟩ := He.ba h
  exact ⟨dfB_ok h1, dfB_ok h2, He.eqO_ok h3, He.eqO_ok h4, He.eqO_ok h5, of_decide_eq_true h6, of_decide_eq_true h7, of_decide_eq_true h8, He.eqO_ok h9, of_decide_eq_true h10, of_decide_eq_true h11, of_decide_eq_true h12, of_decide_eq_true h13, of_decide_eq_true h14⟩
def moreB (K : PySem.W.Frag) : Bool := uxB K && (exB K (He.ga K "BadState") "at" "BadState.__init__" && (exB K (He.ga K "Refused") "at" "Refused.__init__" && exB K (He.ga K "TooGreat") "most" "TooGreat.__init__"))
/-! ### the Hook -/
abbrev lawN : Str × Option Str := ("law", none)
def frE (g : Addr → Option Obj) : PySem.W.Frag := He.frT g (cStatics :: He.asD g 5)
def tabE (g : Addr → Option Obj) (K : PySem.W.Frag) : Bool := PySem.W.codeHdIn K (He.cT K lawN).1 (He.cT K lawN).2 && (match g (He.cT K lawN).2 with
  | some o => He.emptyTab o
  | none => false)
abbrev AlE : Type := He.AlD × (List He.FnW × Bool)
def obsE (g : Addr → Option Obj) : AlE := (He.obsD fa fn (frE g), (exN.map (exW (frE g)), moreB (frE g) && tabE g (frE g)))
def valE : AlE := (He.valD fn, (exL, true))
/-- what is told -/
structure SaysE (h : Heap) (K : PySem.W.Frag) : Prop where
  d : He.SaysD fa fn K
  ex : exN.map (exW K) = exL
  more : moreB K = true
  hd : PySem.W.codeHdIn K (He.cT K lawN).1 (He.cT K lawN).2 = true
  out : K.lookup (He.cT K lawN).2 = none
  empty : h.get? (He.cT K lawN).2 = some { cls := .none, data := .fields #[] }
theorem saysE_of {h : Heap} (e : obsE h.get? = valE) : SaysE h (frE h.get?) := by
  have e1 : He.obsD fa fn (frE h.get?) = He.valD fn := congrArg (fun z : AlE => z.1) e
  have e2 : exN.map (exW (frE h.get?)) = exL := congrArg (fun z : AlE => z.2.1) e
  have e3 : (moreB (frE h.get?) && tabE h.get? (frE h.get?)) = true := congrArg (fun z : AlE => z.2.2) e
  obtain ⟨h1, h2⟩ := He.ba e3
  obtain ⟨h3, h4⟩ := He.ba h2
  cases q : h.get? (He.cT (frE h.get?) lawN).2 with
  | none =>
    rw [q] at h4
    cases h4
  | some o =>
    rw [q] at h4
    exact ⟨e1, e2, h1, h3, He.frT_none q h4, by rw [q, He.emptyTab_eq h4]⟩
def hkE : PySem.W.Hook where
  α := AlE
  obs := fun s => obsE s.heap.get?
  val := fun _ => valE
  says := fun _ h => ∃ K : PySem.W.Frag, K.In h ∧ SaysE h K
  of := fun _ _ e => ⟨_, He.frT_in, saysE_of e⟩
  keeps := fun _ _ _ ⟨K, hK, c⟩ k => ⟨K, PySem.W.Frag.In.keeps hK k, ⟨c.d, c.ex, c.more, c.hd, c.out, k _ _ c.empty⟩⟩
def obG (s : PySem.W.SharedT) : AlE := obsE (HandSHeadRun.getT s)
theorem obG_eq (s : PySem.W.SharedT) : obG s = hkE.obs s.abs := by
  have e : HandSHeadRun.getT s = s.abs.heap.get? := funext (HandSHeadRun.getT_eq s)
  unfold obG
  rw [e] <;> rfl
end K29
namespace K29
open PySem PySem.Spec PyProof.Rows L2
/-! ### the run of the top -/
def loose0 : List Str := ["BatchError", "BadBook", "BadStore", "BadState", "Refused", "TooGreat", "NoKind", "MOST_COLUMNS", "MOST_VALUES", "MOST_CHECKS", "MOST_PLACES", "MOST_CELLS", "MOST_LAID", "is_integer", "is_number", "is_below", "is_within", "is_sequence", "check_columns", "is_values", "is_check", "told_check", "Book", "is_laid", "Store", "check_state", "row_on", "is_fine", "need_good", "check_batch"]
def loose1 : List Str := ["unlike_cells", "with_cells", "LaxBook", "check_ways", "need_own_store", "lets_all", "lax_way", "_law_box", "_law_take", "_law_pick", "_law_choices", "_law_book", "_law_mixed", "_law_ways", "_law_kinds", "_law_let", "_law_ranking", "_law_heard", "_law_store", "_law_passes", "_law_set", "_law_lots", "_law_way_right"]
def loose : List Str := loose0 ++ loose1
theorem run (w : World) : HandSHeadRun.RunEq R (PySem.W.view R.prog [59]) hkE obG 5000 loose w := by
  intro os
  kernel_rfl
end K29
namespace K29
open PySem PySem.Spec PyProof.Rows L2
/-! ### the three exceptions made -/
section
variable {w : World} {K : PySem.W.Frag} {mg : Str → Option Value} {base : Heap}
theorem exm_bs (T : Tx K mg) (c : ExA K (He.ga K "BadState") "at" "BadState.__init__") (hw : exW K "BadState" = exV "BadState.__init__" s_BadState_init) : Exm R.prog w K mg base 1 "BadState" (He.ga K "BadState") "at" := by
  obtain ⟨fd, h1, h2⟩ := fnok_ex (w := w) (mg := mg) (base := base) (CX := CX0) (k := 0) (kk := none) (exF_of (msg := "no such state") c hw) T.z_super (by decide) rfl (fun env => by rfl) (NdefX.nscope_by (by decide +kernel)) (by kernel_rfl) (by decide) (by decide) (by kernel_rfl) (fun _ _ _ _ _ _ _ us hl => match us, hl with | [_, _], _ => rfl)
  exact ⟨_, fd, c.oex, c.ini, c.tyf, h1, h2, T.g_BadState⟩
theorem exm_rf (T : Tx K mg) (c : ExA K (He.ga K "Refused") "at" "Refused.__init__") (hw : exW K "Refused" = exV "Refused.__init__" s_Refused_init) : Exm R.prog w K mg base 1 "Refused" (He.ga K "Refused") "at" := by
  obtain ⟨fd, h1, h2⟩ := fnok_ex (w := w) (mg := mg) (base := base) (CX := CX0) (k := 0) (kk := none) (exF_of (msg := "no such value here") c hw) T.z_super (by decide) rfl (fun env => by rfl) (NdefX.nscope_by (by decide +kernel)) (by kernel_rfl) (by decide) (by decide) (by kernel_rfl) (fun _ _ _ _ _ _ _ us hl => match us, hl with | [_, _], _ => rfl)
  exact ⟨_, fd, c.oex, c.ini, c.tyf, h1, h2, T.g_Refused⟩
theorem exm_tg (T : Tx K mg) (c : ExA K (He.ga K "TooGreat") "most" "TooGreat.__init__") (hw : exW K "TooGreat" = exV "TooGreat.__init__" s_TooGreat_init) : Exm R.prog w K mg base 1 "TooGreat" (He.ga K "TooGreat") "most" := by
  obtain ⟨fd, h1, h2⟩ := fnok_ex (w := w) (mg := mg) (base := base) (CX := CX0) (k := 0) (kk := none) (exF_of (msg := "more than is looked at") c hw) T.z_super (by decide) rfl (fun env => by rfl) (NdefX.nscope_by (by decide +kernel)) (by kernel_rfl) (by decide) (by decide) (by kernel_rfl) (fun _ _ _ _ _ _ _ us hl => match us, hl with | [_, _], _ => rfl)
  exact ⟨_, fd, c.oex, c.ini, c.tyf, h1, h2, T.g_TooGreat⟩
end
/-! ### the law at the head's heap -/
theorem law_at {w : World} {K : PySem.W.Frag} {mg : Str → Option Value} {fa' : Addr} {h : Heap} (X : K.In h) (G : h.Ns mainGlobals mg) (hfa : mg ("law" : Str) = some (.ref fa')) (c : SaysE h K) :
    LawAtC PySem.Challenge.rw_makefirst_k29_whole_ways_of_one_store w K C8.CX0 63 "_law_script" mg fa' h := by
  have T := tx_of X G c.d
  obtain ⟨m1, m⟩ := He.ba c.more
  obtain ⟨m2, m⟩ := He.ba m
  obtain ⟨m3, m4⟩ := He.ba m
  have U := uxB_ok m1
  have b2 := exB_ok m2
  have b3 := exB_ok m3
  have b4 := exB_ok m4
  have F3 : Xf3 K := ⟨b2.xf, b3.xf, b4.xf, b2.noat, b3.noat, b4.noat⟩
  have w1 : exW K "BadState" = exV "BadState.__init__" s_BadState_init := congrArg (fun l : List He.FnW => l.getD 0 none) c.ex
  have w2 : exW K "Refused" = exV "Refused.__init__" s_Refused_init := congrArg (fun l : List He.FnW => l.getD 1 none) c.ex
  have w3 : exW K "TooGreat" = exV "TooGreat.__init__" s_TooGreat_init := congrArg (fun l : List He.FnW => l.getD 2 none) c.ex
  obtain ⟨fd, FD⟩ := T.f_law
  have e := hfa.symm.trans T.g_law
  cases e
  have hcode : fd.code = .ref (He.cT K lawN).1 := by
    obtain ⟨oc, od, dV, kV, doc, pm, an, cdv, ct, osl, e1, lk, hcd, _, _⟩ := id FD.ex
    obtain ⟨cc, hcc⟩ := He.codeIn_ref hcd
    have e2 : fd.code = .ref cc := by
      rw [e1, ← hcc]
    have e3 : He.codeOf K lawN = cc := He.codeOf_eq lk e2
    rw [e2]
    show Value.ref cc = Value.ref (He.codeOf K lawN)
    rw [e3]
  have b := FunD.bindsA (ps := ["_law_script"]) FD fun _ _ _ _ _ _ us hl => match us, hl with | [_], _ => rfl
  refine ⟨fd, [He.cT K lawN], spLaw K (He.cT K lawN).2, fun p hp => ?_, fun p hp => ?_, fun p hp => ?_, fun s u => b s [u] rfl, fun H a ns hn hT hS => ⟨a, ns, rfl, hS, fun p hp => ?_, fun _ => rfl⟩, fun base hK hN TB => law_run T U ⟨exm_bs T b2 w1, exm_rf T b3 w2, exm_tg T b4 w3⟩ F3 FD hcode (TB _ (List.mem_singleton.mpr rfl))⟩
  · rw [List.mem_singleton.mp hp]
    exact c.empty
  · rw [List.mem_singleton.mp hp]
    exact c.out
  · rw [List.mem_singleton.mp hp]
    exact PySem.W.codeHd_of_K X c.hd
  · rw [List.mem_singleton.mp hp]
    exact ⟨#[], hT _ (List.mem_singleton.mpr rfl), True.intro, fun pos cv hc => by
      have z : codeAmong pos [] = some cv := hc
      simp [codeAmong] at z⟩
end K29
open PySem PySem.W PySem.Calls PyProof.Rows
set_option maxRecDepth 100000 in
set_option maxHeartbeats 8000000 in
theorem PySem.Challenge.cw_makefirst_k29_whole_ways_of_one_store_holds : PySem.Challenge.rw_makefirst_k29_whole_ways_of_one_store.Holds := by
  w_on; o_law
  refine HandSHeadRun.head_any (r := OpenLaw.row PySem.Challenge.rw_makefirst_k29_whole_ways_of_one_store) (q := view (OpenLaw.row PySem.Challenge.rw_makefirst_k29_whole_ways_of_one_store).prog [59]) (H := K29.hkE) (ob := K29.obG) (M := 5000) (loose := K29.loose) (d := HandSHeadRun.topDef (OpenLaw.row PySem.Challenge.rw_makefirst_k29_whole_ways_of_one_store).prog 59) (kwd := []) K29.obG_eq
    (by kernel_rfl) (fun s => by kernel_rfl) K29.run (by kernel_rfl) (by kernel_rfl) (by kernel_rfl) (by rfl) (by first | assumption | decide +kernel) (by decide +kernel) ⟨rfl, rfl, rfl, rfl, rfl, by decide +kernel⟩ ?hw ?hc
  case hw => w_witness2
  case hc =>
    refine K29.walk_ofC (l := PySem.Challenge.rw_makefirst_k29_whole_ways_of_one_store) (n := 63) (x := "_law_script") (CX := fun _ => C8.CX0) rfl (by decide) (by kernel_rfl) ?F (fun _ _ _ _ _ z => z)
    intro w mg fa h Y G hmg0
    obtain ⟨K, KX, c⟩ := Y
    have hmg : mg ("law" : PySem.Str) = some (.ref fa) := by
      have e : (HandSHeadRun.topDef (OpenLaw.row PySem.Challenge.rw_makefirst_k29_whole_ways_of_one_store).prog 59).name = ("law" : PySem.Str) := by kernel_rfl
      rw [← e]
      exact hmg0
    exact ⟨K, KX, K29.law_at KX G hmg c⟩
