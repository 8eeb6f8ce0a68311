import PyProof.Rows.All
import Wide.All
import OpenK.AllK
import Wide.FinOn
import KE.KStateDown
import HandS.Base
import HandS.Call
import HandS.List
import HandS.Comp
import HandS.Ends
import HandS.Dict
import HandS.Iter
import HandS.Text
import HandS.Words
import HandS.WordsList
import HandS.WordsDict
import HandS.Exc
import HandS.More
import HandS.Codes
import HandS.Defaults
import HandS.MakeKwOnly
import HandS.IsInst
import HandS.Star
import HandS.Flow
import HandS.Style
import HandS.DictComp
import HandS.TupAny
import HandS.Conv
import HandS.TupLen
import HandS.Small
import HandS.Deep
import HandS.Strs
import HandS.OwnEq
import HandS.HeadHook1
import HandS.HeadHook2
import HandS.HeadHook3
import HandS.HeadHook4
import PySem.Challenge.RW_steadycalls_k57_whole_indexes
import KE.KDictOf
import KE.KDictCopyH
import KE.KDictKeyed
import KE.KEqDict
import HandS.ListEq
import KE.KDictDisplayH
import PyProof.InstEq
import HandS.CallRecv
import PyProof.DictUpdate
import KE.KRevSl
import HandS.Walk
import HandS.RaiseMore
import HandS.Head0
import HandS.Head1
import HandS.Head2
import HandS.HeadEnd
set_option Elab.async false
set_option linter.all false
set_option maxRecDepth 100000
set_option maxHeartbeats 4000000
namespace SC
open PySem PySem.Spec PyProof.Rows L2
open C8 (Cal Met Mak pe_c pe_mk pe_mt pe_mt0 pe_gc InsC call_isC)
/-! the text by places -/
def top (i : Nat) : Stmt := PySem.Challenge.pw_steadycalls_k57_whole_indexes.main.body.getD i (.Pass ⟨0, 0, 0, 0⟩)
abbrev s_is_integer : Stmt := top 18
abbrev s_is_between : Stmt := top 19
abbrev s_is_value : Stmt := top 20
abbrev s_is_name : Stmt := top 21
abbrev s_has_kind : Stmt := top 22
abbrev s_tuples_of : Stmt := top 23
abbrev s_Cell_init : Stmt := inClass (top 26) 0
abbrev s_check_state : Stmt := top 27
abbrev s_checked_arguments : Stmt := top 29
abbrev s_Scene_init : Stmt := inClass (top 30) 0
abbrev s_Scene_run_function : Stmt := inClass (top 30) 1
abbrev s_Scene_called : Stmt := inClass (top 30) 2
abbrev s_Scene_worked : Stmt := inClass (top 30) 3
abbrev s_run_alone : Stmt := top 31
abbrev s_inner_terms : Stmt := top 37
abbrev s_has_form : Stmt := top 38
abbrev s_is_term : Stmt := top 39
abbrev s_leaves : Stmt := top 40
abbrev s_names_with : Stmt := top 41
abbrev s_cells_in : Stmt := top 42
abbrev s_calls_in : Stmt := top 43
abbrev s_is_label_name : Stmt := top 46
abbrev s_Label_init : Stmt := inClass (top 47) 0
abbrev s_made_label : Stmt := top 48
abbrev s_Index_init : Stmt := inClass (top 50) 0
abbrev s_Index_len : Stmt := inClass (top 50) 2
abbrev s_Index_eq : Stmt := inClass (top 50) 3
abbrev s_Index_getitem : Stmt := inClass (top 50) 4
abbrev s_Index_check_arguments : Stmt := inClass (top 50) 5
abbrev s_Index_value_on : Stmt := inClass (top 50) 6
abbrev s_Index_entries : Stmt := inClass (top 50) 7
abbrev s_Index_find : Stmt := inClass (top 50) 8
abbrev s_Index_wrong : Stmt := inClass (top 50) 9
abbrev s_Index_rewrite : Stmt := inClass (top 50) 10
abbrev s_are_writes : Stmt := top 54
abbrev s_Function_init : Stmt := inClass (top 55) 0
abbrev s_Function_parts : Stmt := inClass (top 55) 2
abbrev s_checked_cells : Stmt := top 59
abbrev s_fits : Stmt := top 60
abbrev s_checked_functions : Stmt := top 61
abbrev s_Book_init : Stmt := inClass (top 62) 0
abbrev s_Book_getitem : Stmt := inClass (top 62) 4
abbrev s_Book_eq : Stmt := inClass (top 62) 5
abbrev s_Book_all_cells : Stmt := inClass (top 62) 6
abbrev s_Book_names : Stmt := inClass (top 62) 7
abbrev s_Book_reaches : Stmt := inClass (top 62) 9
abbrev s_law_pool : Stmt := top 64
abbrev s_law_draw : Stmt := top 65
abbrev s_law_pick : Stmt := top 66
abbrev s_law_names : Stmt := top 67
abbrev s_law_term : Stmt := top 68
abbrev s_law_writes : Stmt := top 69
abbrev s_law_book : Stmt := top 70
abbrev s_law_made_book : Stmt := top 71
abbrev s_law_state : Stmt := top 72
abbrev s_law_found : Stmt := top 73
abbrev s_law_ran : Stmt := top 74
abbrev s_law_called : Stmt := top 75
abbrev s_law_worked : Stmt := top 76
abbrev s_law_tuples : Stmt := top 77
abbrev s_law_entries : Stmt := top 78
abbrev s_law : Stmt := top 79
/-! each def as a datum -/
def d_is_integer : He.DefD := ⟨("is_integer", none), "is_integer", "is_integer", defArgs s_is_integer, defBody s_is_integer, defScope s_is_integer, [], []⟩
def d_is_between : He.DefD := ⟨("is_between", none), "is_between", "is_between", defArgs s_is_between, defBody s_is_between, defScope s_is_between, [], []⟩
def d_is_value : He.DefD := ⟨("is_value", none), "is_value", "is_value", defArgs s_is_value, defBody s_is_value, defScope s_is_value, [], []⟩
def d_is_name : He.DefD := ⟨("is_name", none), "is_name", "is_name", defArgs s_is_name, defBody s_is_name, defScope s_is_name, [], []⟩
def d_has_kind : He.DefD := ⟨("has_kind", none), "has_kind", "has_kind", defArgs s_has_kind, defBody s_has_kind, defScope s_has_kind, [], []⟩
def d_tuples_of : He.DefD := ⟨("tuples_of", none), "tuples_of", "tuples_of", defArgs s_tuples_of, defBody s_tuples_of, defScope s_tuples_of, [], []⟩
def d_Cell_init : He.DefD := ⟨("Cell", some "__init__"), "__init__", "Cell.__init__", defArgs s_Cell_init, defBody s_Cell_init, defScope s_Cell_init, [], []⟩
def d_check_state : He.DefD := ⟨("check_state", none), "check_state", "check_state", defArgs s_check_state, defBody s_check_state, defScope s_check_state, [], []⟩
def d_checked_arguments : He.DefD := ⟨("checked_arguments", none), "checked_arguments", "checked_arguments", defArgs s_checked_arguments, defBody s_checked_arguments, defScope s_checked_arguments, [], []⟩
def d_Scene_init : He.DefD := ⟨("Scene", some "__init__"), "__init__", "Scene.__init__", defArgs s_Scene_init, defBody s_Scene_init, defScope s_Scene_init, [], []⟩
def d_Scene_run_function : He.DefD := ⟨("Scene", some "run_function"), "run_function", "Scene.run_function", defArgs s_Scene_run_function, defBody s_Scene_run_function, defScope s_Scene_run_function, [], []⟩
def d_Scene_called : He.DefD := ⟨("Scene", some "called"), "called", "Scene.called", defArgs s_Scene_called, defBody s_Scene_called, defScope s_Scene_called, [], []⟩
def d_Scene_worked : He.DefD := ⟨("Scene", some "worked"), "worked", "Scene.worked", defArgs s_Scene_worked, defBody s_Scene_worked, defScope s_Scene_worked, [], []⟩
def d_run_alone : He.DefD := ⟨("run_alone", none), "run_alone", "run_alone", defArgs s_run_alone, defBody s_run_alone, defScope s_run_alone, [], [("tick", .int 0)]⟩
def d_inner_terms : He.DefD := ⟨("inner_terms", none), "inner_terms", "inner_terms", defArgs s_inner_terms, defBody s_inner_terms, defScope s_inner_terms, [], []⟩
def d_has_form : He.DefD := ⟨("has_form", none), "has_form", "has_form", defArgs s_has_form, defBody s_has_form, defScope s_has_form, [], []⟩
def d_is_term : He.DefD := ⟨("is_term", none), "is_term", "is_term", defArgs s_is_term, defBody s_is_term, defScope s_is_term, [], []⟩
def d_leaves : He.DefD := ⟨("leaves", none), "leaves", "leaves", defArgs s_leaves, defBody s_leaves, defScope s_leaves, [], []⟩
def d_names_with : He.DefD := ⟨("names_with", none), "names_with", "names_with", defArgs s_names_with, defBody s_names_with, defScope s_names_with, [], []⟩
def d_cells_in : He.DefD := ⟨("cells_in", none), "cells_in", "cells_in", defArgs s_cells_in, defBody s_cells_in, defScope s_cells_in, [], []⟩
def d_calls_in : He.DefD := ⟨("calls_in", none), "calls_in", "calls_in", defArgs s_calls_in, defBody s_calls_in, defScope s_calls_in, [], []⟩
def d_is_label_name : He.DefD := ⟨("is_label_name", none), "is_label_name", "is_label_name", defArgs s_is_label_name, defBody s_is_label_name, defScope s_is_label_name, [], []⟩
def d_Label_init : He.DefD := ⟨("Label", some "__init__"), "__init__", "Label.__init__", defArgs s_Label_init, defBody s_Label_init, defScope s_Label_init, [], []⟩
def d_made_label : He.DefD := ⟨("made_label", none), "made_label", "made_label", defArgs s_made_label, defBody s_made_label, defScope s_made_label, [], []⟩
def d_Index_init : He.DefD := ⟨("Index", some "__init__"), "__init__", "Index.__init__", defArgs s_Index_init, defBody s_Index_init, defScope s_Index_init, [], []⟩
def d_Index_len : He.DefD := ⟨("Index", some "__len__"), "__len__", "Index.__len__", defArgs s_Index_len, defBody s_Index_len, defScope s_Index_len, [], []⟩
def d_Index_eq : He.DefD := ⟨("Index", some "__eq__"), "__eq__", "Index.__eq__", defArgs s_Index_eq, defBody s_Index_eq, defScope s_Index_eq, [], []⟩
def d_Index_getitem : He.DefD := ⟨("Index", some "__getitem__"), "__getitem__", "Index.__getitem__", defArgs s_Index_getitem, defBody s_Index_getitem, defScope s_Index_getitem, [], []⟩
def d_Index_check_arguments : He.DefD := ⟨("Index", some "check_arguments"), "check_arguments", "Index.check_arguments", defArgs s_Index_check_arguments, defBody s_Index_check_arguments, defScope s_Index_check_arguments, [], []⟩
def d_Index_value_on : He.DefD := ⟨("Index", some "value_on"), "value_on", "Index.value_on", defArgs s_Index_value_on, defBody s_Index_value_on, defScope s_Index_value_on, [], []⟩
def d_Index_entries : He.DefD := ⟨("Index", some "entries"), "entries", "Index.entries", defArgs s_Index_entries, defBody s_Index_entries, defScope s_Index_entries, [], []⟩
def d_Index_find : He.DefD := ⟨("Index", some "find"), "find", "Index.find", defArgs s_Index_find, defBody s_Index_find, defScope s_Index_find, [], []⟩
def d_Index_wrong : He.DefD := ⟨("Index", some "wrong"), "wrong", "Index.wrong", defArgs s_Index_wrong, defBody s_Index_wrong, defScope s_Index_wrong, [], []⟩
def d_Index_rewrite : He.DefD := ⟨("Index", some "rewrite"), "rewrite", "Index.rewrite", defArgs s_Index_rewrite, defBody s_Index_rewrite, defScope s_Index_rewrite, [], []⟩
def d_are_writes : He.DefD := ⟨("are_writes", none), "are_writes", "are_writes", defArgs s_are_writes, defBody s_are_writes, defScope s_are_writes, [], []⟩
def d_Function_init : He.DefD := ⟨("Function", some "__init__"), "__init__", "Function.__init__", defArgs s_Function_init, defBody s_Function_init, defScope s_Function_init, [], [("label", .str "changing")]⟩
def d_Function_parts : He.DefD := ⟨("Function", some "parts"), "parts", "Function.parts", defArgs s_Function_parts, defBody s_Function_parts, defScope s_Function_parts, [], []⟩
def d_checked_cells : He.DefD := ⟨("checked_cells", none), "checked_cells", "checked_cells", defArgs s_checked_cells, defBody s_checked_cells, defScope s_checked_cells, [], []⟩
def d_fits : He.DefD := ⟨("fits", none), "fits", "fits", defArgs s_fits, defBody s_fits, defScope s_fits, [], []⟩
def d_checked_functions : He.DefD := ⟨("checked_functions", none), "checked_functions", "checked_functions", defArgs s_checked_functions, defBody s_checked_functions, defScope s_checked_functions, [], []⟩
def d_Book_init : He.DefD := ⟨("Book", some "__init__"), "__init__", "Book.__init__", defArgs s_Book_init, defBody s_Book_init, defScope s_Book_init, [], []⟩
def d_Book_getitem : He.DefD := ⟨("Book", some "__getitem__"), "__getitem__", "Book.__getitem__", defArgs s_Book_getitem, defBody s_Book_getitem, defScope s_Book_getitem, [], []⟩
def d_Book_eq : He.DefD := ⟨("Book", some "__eq__"), "__eq__", "Book.__eq__", defArgs s_Book_eq, defBody s_Book_eq, defScope s_Book_eq, [], []⟩
def d_Book_all_cells : He.DefD := ⟨("Book", some "all_cells"), "all_cells", "Book.all_cells", defArgs s_Book_all_cells, defBody s_Book_all_cells, defScope s_Book_all_cells, [], []⟩
def d_Book_names : He.DefD := ⟨("Book", some "names"), "names", "Book.names", defArgs s_Book_names, defBody s_Book_names, defScope s_Book_names, [], []⟩
def d_Book_reaches : He.DefD := ⟨("Book", some "reaches"), "reaches", "Book.reaches", defArgs s_Book_reaches, defBody s_Book_reaches, defScope s_Book_reaches, [], []⟩
def d_law_pool : He.DefD := ⟨("_law_pool", none), "_law_pool", "_law_pool", defArgs s_law_pool, defBody s_law_pool, defScope s_law_pool, [], []⟩
def d_law_draw : He.DefD := ⟨("_law_draw", none), "_law_draw", "_law_draw", defArgs s_law_draw, defBody s_law_draw, defScope s_law_draw, [], []⟩
def d_law_pick : He.DefD := ⟨("_law_pick", none), "_law_pick", "_law_pick", defArgs s_law_pick, defBody s_law_pick, defScope s_law_pick, [], []⟩
def d_law_names : He.DefD := ⟨("_law_names", none), "_law_names", "_law_names", defArgs s_law_names, defBody s_law_names, defScope s_law_names, [], []⟩
def d_law_term : He.DefD := ⟨("_law_term", none), "_law_term", "_law_term", defArgs s_law_term, defBody s_law_term, defScope s_law_term, [], []⟩
def d_law_writes : He.DefD := ⟨("_law_writes", none), "_law_writes", "_law_writes", defArgs s_law_writes, defBody s_law_writes, defScope s_law_writes, [], []⟩
def d_law_book : He.DefD := ⟨("_law_book", none), "_law_book", "_law_book", defArgs s_law_book, defBody s_law_book, defScope s_law_book, [], []⟩
def d_law_made_book : He.DefD := ⟨("_law_made_book", none), "_law_made_book", "_law_made_book", defArgs s_law_made_book, defBody s_law_made_book, defScope s_law_made_book, [], []⟩
def d_law_state : He.DefD := ⟨("_law_state", none), "_law_state", "_law_state", defArgs s_law_state, defBody s_law_state, defScope s_law_state, [], []⟩
def d_law_found : He.DefD := ⟨("_law_found", none), "_law_found", "_law_found", defArgs s_law_found, defBody s_law_found, defScope s_law_found, [], []⟩
def d_law_ran : He.DefD := ⟨("_law_ran", none), "_law_ran", "_law_ran", defArgs s_law_ran, defBody s_law_ran, defScope s_law_ran, [], []⟩
def d_law_called : He.DefD := ⟨("_law_called", none), "_law_called", "_law_called", defArgs s_law_called, defBody s_law_called, defScope s_law_called, [], []⟩
def d_law_worked : He.DefD := ⟨("_law_worked", none), "_law_worked", "_law_worked", defArgs s_law_worked, defBody s_law_worked, defScope s_law_worked, [], []⟩
def d_law_tuples : He.DefD := ⟨("_law_tuples", none), "_law_tuples", "_law_tuples", defArgs s_law_tuples, defBody s_law_tuples, defScope s_law_tuples, [], []⟩
def d_law_entries : He.DefD := ⟨("_law_entries", none), "_law_entries", "_law_entries", defArgs s_law_entries, defBody s_law_entries, defScope s_law_entries, [], []⟩
def d_law : He.DefD := ⟨("law", none), "law", "law", defArgs s_law, defBody s_law, defScope s_law, [], []⟩
def fn : List He.DefD := [d_is_integer, d_is_between, d_is_value, d_is_name, d_has_kind, d_tuples_of, d_Cell_init, d_check_state, d_checked_arguments, d_Scene_init, d_Scene_run_function, d_Scene_called, d_Scene_worked, d_run_alone, d_inner_terms, d_has_form, d_is_term, d_leaves, d_names_with, d_cells_in, d_calls_in, d_is_label_name, d_Label_init, d_made_label, d_Index_init, d_Index_len, d_Index_eq, d_Index_getitem, d_Index_check_arguments, d_Index_value_on, d_Index_entries, d_Index_find, d_Index_wrong, d_Index_rewrite, d_are_writes, d_Function_init, d_Function_parts, d_checked_cells, d_fits, d_checked_functions, d_Book_init, d_Book_getitem, d_Book_eq, d_Book_all_cells, d_Book_names, d_Book_reaches, d_law_pool, d_law_draw, d_law_pick, d_law_names, d_law_term, d_law_writes, d_law_book, d_law_made_book, d_law_state, d_law_found, d_law_ran, d_law_called, d_law_worked, d_law_tuples, d_law_entries, d_law]
def fa : List He.Fa := [.glo "is_integer", .glo "is_between", .glo "is_value", .glo "is_name", .glo "has_kind", .glo "tuples_of", .glo "check_state", .glo "checked_arguments", .glo "run_alone", .glo "inner_terms", .glo "has_form", .glo "is_term", .glo "leaves", .glo "names_with", .glo "cells_in", .glo "calls_in", .glo "is_label_name", .glo "made_label", .glo "are_writes", .glo "checked_cells", .glo "fits", .glo "checked_functions", .glo "_law_pool", .glo "_law_draw", .glo "_law_pick", .glo "_law_names", .glo "_law_term", .glo "_law_writes", .glo "_law_book", .glo "_law_made_book", .glo "_law_state", .glo "_law_found", .glo "_law_ran", .glo "_law_called", .glo "_law_worked", .glo "_law_tuples", .glo "_law_entries", .glo "law", .glo "Cell", .cls "Cell", .mkr "Cell", .keep "Cell", .noat "Cell" "name", .noat "Cell" "kind", .glo "Scene", .cls "Scene", .mkr "Scene", .keep "Scene", .noat "Scene" "book", .noat "Scene" "held", .noat "Scene" "tick_now", .noat "Scene" "view_held", .meth "Scene" "run_function", .meth "Scene" "called", .meth "Scene" "worked", .glo "Label", .cls "Label", .mkr "Label", .keep "Label", .noat "Label" "name", .noat "Label" "height", .glo "Index", .cls "Index", .mkr "Index", .keep "Index", .noat "Index" "book", .noat "Index" "name", .noat "Index" "told", .meth "Index" "__len__", .meth "Index" "__eq__", .meth "Index" "__getitem__", .meth "Index" "check_arguments", .meth "Index" "value_on", .meth "Index" "entries", .meth "Index" "find", .meth "Index" "wrong", .meth "Index" "rewrite", .glo "Function", .cls "Function", .mkr "Function", .keep "Function", .noat "Function" "label", .noat "Function" "name", .noat "Function" "arguments", .noat "Function" "result", .noat "Function" "writes", .noat "Function" "cost", .meth "Function" "parts", .glo "Book", .cls "Book", .mkr "Book", .keep "Book", .noat "Book" "cell_row", .noat "Book" "row", .meth "Book" "__getitem__", .meth "Book" "__eq__", .meth "Book" "all_cells", .meth "Book" "names", .meth "Book" "reaches", .free "isinstance", .free "int", .free "bool", .free "str", .free "len", .free "all", .free "tuple", .free "range", .free "dict", .free "list", .free "any", .free "sorted", .free "enumerate", .free "sum", .free "abs", .free "max", .free "min", .int "MOST_LETTERS" 8, .int "MOST_VALUE" 2, .int "MOST_PARTS" 30, .int "MOST_DEPTH" 8, .int "MOST_ARGUMENTS" 2, .int "MOST_WRITES" 3, .int "MOST_COST" 99, .int "MOST_CELLS" 6, .int "MOST_FUNCTIONS" 8, .str "LETTERS" "abcdefghijklmnopqrstuvwxyz"]
/-- what isinstance asks of the class named x -/
def insB (x : Str) (K : PySem.W.Frag) : Bool := He.eqO (PySem.W.findIn K (.ref (He.ga K x)) "__class__") (some (some (.builtin "object.__class__"))) && (He.eqO (PySem.W.specialIn K (.builtin "object.__class__") "__get__") (some (some (.builtin "getset_descriptor.__get__"))) &&
  (decide (PySem.W.takesIn K (.builtin "object.__class__") = some true) && (decide (PySem.W.mroIn K (He.ga K x) (.type "object") = some true) && decide (PySem.W.kitOne K (.ref (He.ga K x)) (.ref (He.ga K x)) = some true))))
/-- what a subscript by an own method asks -/
def subB (x : Str) (K : PySem.W.Frag) : Bool := PySem.W.noSeq K (He.ga K x) && PySem.W.fnIn K (He.ma K (He.ga K x) "__getitem__")
def isB (t : PySem.W.Frag → Value) (x : Str) (b : Bool) (K : PySem.W.Frag) : Bool := decide (PySem.W.kitOne K (t K) (.ref (He.ga K x)) = some b)
def neB (x : Str) (K : PySem.W.Frag) : Bool := He.eqO (PySem.W.findIn K (.ref (He.ga K x)) "__ne__") (some (some (.builtin "object.__ne__")))
def subO (x y : Str) (K : PySem.W.Frag) : Bool := decide (PySem.W.subIn K (.ref (He.ga K x)) (.ref (He.ga K y)) = some false)
def plD (x : Str) (K : PySem.W.Frag) : Bool := match K.lookup (He.ga K x) with
  | some ⟨.type c, none, _, _⟩ => decide (c = "tuple")
  | _ => false
theorem plD_ok {x : Str} {K : PySem.W.Frag} (h : plD x K = true) : ∃ o, K.lookup (He.ga K x) = some o ∧ o.cls = .type "tuple" ∧ o.dict = none := by
  unfold plD at h
  split at h
  · rename_i c _ _ e
    exact ⟨_, e, congrArg Value.type (of_decide_eq_true h), rfl⟩
  · cases h
def exs : List (PySem.W.Frag → Bool) := [fun K => He.tupB K "VALUES" [.int 0, .int 1, .int 2] && He.eqO (PySem.W.nsIn K mainGlobals "VALUES") (some (some (.ref (He.ga K "VALUES")))),
  fun K => He.tupB K "KINDS" [.str "frozen", .str "setting", .str "table"] && He.eqO (PySem.W.nsIn K mainGlobals "KINDS") (some (some (.ref (He.ga K "KINDS")))),
  fun K => He.tupB K "PAIRS" [.str "plus", .str "less", .str "same"] && He.eqO (PySem.W.nsIn K mainGlobals "PAIRS") (some (some (.ref (He.ga K "PAIRS")))),
  fun K => He.tupB K "LABELS" [.str "always", .str "session", .str "statement", .str "changing"] && He.eqO (PySem.W.nsIn K mainGlobals "LABELS") (some (some (.ref (He.ga K "LABELS")))),
  insB "Cell",
  insB "Scene",
  insB "Label",
  insB "Index",
  insB "Function",
  insB "Book",
  subB "Book",
  subB "Index",
  neB "Book",
  isB (fun _ => .type "str") "Label" false,
  isB (fun K => .ref (He.ga K "Book")) "Index" false,
  subO "Book" "Index",
  plD "LABELS"]
def ex (K : PySem.W.Frag) : Bool := exs.all fun f => f K
/-- what the walk asks of the program's top as it stands -/
structure TX (K : PySem.W.Frag) (mg : Str → Option Value) : Prop where
  hp : ∃ h : Heap, K.In h ∧ h.Ns mainGlobals mg
  c : He.SaysD fa fn K
  m : ex K = true
section
variable {K : PySem.W.Frag} {mg : Str → Option Value}
theorem TX.fact (T : TX K mg) (i : Nat) {f : He.Fa} (h : fa[i]? = some f := by rfl) : f.ok K = true := T.c.fact i h
theorem TX.more (T : TX K mg) (i : Nat) {f : PySem.W.Frag → Bool} (h : exs[i]? = some f := by rfl) : f K = true := List.all_eq_true.mp T.m f (List.mem_of_getElem? h)
theorem TX.df (T : TX K mg) (i : Nat) {d : He.DefD} (h : fn[i]? = some d := by rfl) : ∃ fd, FunD K d.name d.qual d.params d.body d.scope (d.dvs K) (d.kws K) (He.fAd K d.at_) fd := T.c.def_ i h
theorem TX.d_is_integer (T : TX K mg) : ∃ fd, FunD K d_is_integer.name d_is_integer.qual d_is_integer.params d_is_integer.body d_is_integer.scope (d_is_integer.dvs K) (d_is_integer.kws K) (He.fAd K d_is_integer.at_) fd := T.df 0
theorem TX.d_is_between (T : TX K mg) : ∃ fd, FunD K d_is_between.name d_is_between.qual d_is_between.params d_is_between.body d_is_between.scope (d_is_between.dvs K) (d_is_between.kws K) (He.fAd K d_is_between.at_) fd := T.df 1
theorem TX.d_is_value (T : TX K mg) : ∃ fd, FunD K d_is_value.name d_is_value.qual d_is_value.params d_is_value.body d_is_value.scope (d_is_value.dvs K) (d_is_value.kws K) (He.fAd K d_is_value.at_) fd := T.df 2
theorem TX.d_is_name (T : TX K mg) : ∃ fd, FunD K d_is_name.name d_is_name.qual d_is_name.params d_is_name.body d_is_name.scope (d_is_name.dvs K) (d_is_name.kws K) (He.fAd K d_is_name.at_) fd := T.df 3
theorem TX.d_has_kind (T : TX K mg) : ∃ fd, FunD K d_has_kind.name d_has_kind.qual d_has_kind.params d_has_kind.body d_has_kind.scope (d_has_kind.dvs K) (d_has_kind.kws K) (He.fAd K d_has_kind.at_) fd := T.df 4
theorem TX.d_tuples_of (T : TX K mg) : ∃ fd, FunD K d_tuples_of.name d_tuples_of.qual d_tuples_of.params d_tuples_of.body d_tuples_of.scope (d_tuples_of.dvs K) (d_tuples_of.kws K) (He.fAd K d_tuples_of.at_) fd := T.df 5
theorem TX.d_Cell_init (T : TX K mg) : ∃ fd, FunD K d_Cell_init.name d_Cell_init.qual d_Cell_init.params d_Cell_init.body d_Cell_init.scope (d_Cell_init.dvs K) (d_Cell_init.kws K) (He.fAd K d_Cell_init.at_) fd := T.df 6
theorem TX.d_check_state (T : TX K mg) : ∃ fd, FunD K d_check_state.name d_check_state.qual d_check_state.params d_check_state.body d_check_state.scope (d_check_state.dvs K) (d_check_state.kws K) (He.fAd K d_check_state.at_) fd := T.df 7
theorem TX.d_checked_arguments (T : TX K mg) : ∃ fd, FunD K d_checked_arguments.name d_checked_arguments.qual d_checked_arguments.params d_checked_arguments.body d_checked_arguments.scope (d_checked_arguments.dvs K) (d_checked_arguments.kws K) (He.fAd K d_checked_arguments.at_) fd := T.df 8
theorem TX.d_Scene_init (T : TX K mg) : ∃ fd, FunD K d_Scene_init.name d_Scene_init.qual d_Scene_init.params d_Scene_init.body d_Scene_init.scope (d_Scene_init.dvs K) (d_Scene_init.kws K) (He.fAd K d_Scene_init.at_) fd := T.df 9
theorem TX.d_Scene_run_function (T : TX K mg) : ∃ fd, FunD K d_Scene_run_function.name d_Scene_run_function.qual d_Scene_run_function.params d_Scene_run_function.body d_Scene_run_function.scope (d_Scene_run_function.dvs K) (d_Scene_run_function.kws K) (He.fAd K d_Scene_run_function.at_) fd := T.df 10
theorem TX.d_Scene_called (T : TX K mg) : ∃ fd, FunD K d_Scene_called.name d_Scene_called.qual d_Scene_called.params d_Scene_called.body d_Scene_called.scope (d_Scene_called.dvs K) (d_Scene_called.kws K) (He.fAd K d_Scene_called.at_) fd := T.df 11
theorem TX.d_Scene_worked (T : TX K mg) : ∃ fd, FunD K d_Scene_worked.name d_Scene_worked.qual d_Scene_worked.params d_Scene_worked.body d_Scene_worked.scope (d_Scene_worked.dvs K) (d_Scene_worked.kws K) (He.fAd K d_Scene_worked.at_) fd := T.df 12
theorem TX.d_run_alone (T : TX K mg) : ∃ fd, FunD K d_run_alone.name d_run_alone.qual d_run_alone.params d_run_alone.body d_run_alone.scope (d_run_alone.dvs K) (d_run_alone.kws K) (He.fAd K d_run_alone.at_) fd := T.df 13
theorem TX.d_inner_terms (T : TX K mg) : ∃ fd, FunD K d_inner_terms.name d_inner_terms.qual d_inner_terms.params d_inner_terms.body d_inner_terms.scope (d_inner_terms.dvs K) (d_inner_terms.kws K) (He.fAd K d_inner_terms.at_) fd := T.df 14
theorem TX.d_has_form (T : TX K mg) : ∃ fd, FunD K d_has_form.name d_has_form.qual d_has_form.params d_has_form.body d_has_form.scope (d_has_form.dvs K) (d_has_form.kws K) (He.fAd K d_has_form.at_) fd := T.df 15
theorem TX.d_is_term (T : TX K mg) : ∃ fd, FunD K d_is_term.name d_is_term.qual d_is_term.params d_is_term.body d_is_term.scope (d_is_term.dvs K) (d_is_term.kws K) (He.fAd K d_is_term.at_) fd := T.df 16
theorem TX.d_leaves (T : TX K mg) : ∃ fd, FunD K d_leaves.name d_leaves.qual d_leaves.params d_leaves.body d_leaves.scope (d_leaves.dvs K) (d_leaves.kws K) (He.fAd K d_leaves.at_) fd := T.df 17
theorem TX.d_names_with (T : TX K mg) : ∃ fd, FunD K d_names_with.name d_names_with.qual d_names_with.params d_names_with.body d_names_with.scope (d_names_with.dvs K) (d_names_with.kws K) (He.fAd K d_names_with.at_) fd := T.df 18
theorem TX.d_cells_in (T : TX K mg) : ∃ fd, FunD K d_cells_in.name d_cells_in.qual d_cells_in.params d_cells_in.body d_cells_in.scope (d_cells_in.dvs K) (d_cells_in.kws K) (He.fAd K d_cells_in.at_) fd := T.df 19
theorem TX.d_calls_in (T : TX K mg) : ∃ fd, FunD K d_calls_in.name d_calls_in.qual d_calls_in.params d_calls_in.body d_calls_in.scope (d_calls_in.dvs K) (d_calls_in.kws K) (He.fAd K d_calls_in.at_) fd := T.df 20
theorem TX.d_is_label_name (T : TX K mg) : ∃ fd, FunD K d_is_label_name.name d_is_label_name.qual d_is_label_name.params d_is_label_name.body d_is_label_name.scope (d_is_label_name.dvs K) (d_is_label_name.kws K) (He.fAd K d_is_label_name.at_) fd := T.df 21
theorem TX.d_Label_init (T : TX K mg) : ∃ fd, FunD K d_Label_init.name d_Label_init.qual d_Label_init.params d_Label_init.body d_Label_init.scope (d_Label_init.dvs K) (d_Label_init.kws K) (He.fAd K d_Label_init.at_) fd := T.df 22
theorem TX.d_made_label (T : TX K mg) : ∃ fd, FunD K d_made_label.name d_made_label.qual d_made_label.params d_made_label.body d_made_label.scope (d_made_label.dvs K) (d_made_label.kws K) (He.fAd K d_made_label.at_) fd := T.df 23
theorem TX.d_Index_init (T : TX K mg) : ∃ fd, FunD K d_Index_init.name d_Index_init.qual d_Index_init.params d_Index_init.body d_Index_init.scope (d_Index_init.dvs K) (d_Index_init.kws K) (He.fAd K d_Index_init.at_) fd := T.df 24
theorem TX.d_Index_len (T : TX K mg) : ∃ fd, FunD K d_Index_len.name d_Index_len.qual d_Index_len.params d_Index_len.body d_Index_len.scope (d_Index_len.dvs K) (d_Index_len.kws K) (He.fAd K d_Index_len.at_) fd := T.df 25
theorem TX.d_Index_eq (T : TX K mg) : ∃ fd, FunD K d_Index_eq.name d_Index_eq.qual d_Index_eq.params d_Index_eq.body d_Index_eq.scope (d_Index_eq.dvs K) (d_Index_eq.kws K) (He.fAd K d_Index_eq.at_) fd := T.df 26
theorem TX.d_Index_getitem (T : TX K mg) : ∃ fd, FunD K d_Index_getitem.name d_Index_getitem.qual d_Index_getitem.params d_Index_getitem.body d_Index_getitem.scope (d_Index_getitem.dvs K) (d_Index_getitem.kws K) (He.fAd K d_Index_getitem.at_) fd := T.df 27
theorem TX.d_Index_check_arguments (T : TX K mg) : ∃ fd, FunD K d_Index_check_arguments.name d_Index_check_arguments.qual d_Index_check_arguments.params d_Index_check_arguments.body d_Index_check_arguments.scope (d_Index_check_arguments.dvs K) (d_Index_check_arguments.kws K) (He.fAd K d_Index_check_arguments.at_) fd := T.df 28
theorem TX.d_Index_value_on (T : TX K mg) : ∃ fd, FunD K d_Index_value_on.name d_Index_value_on.qual d_Index_value_on.params d_Index_value_on.body d_Index_value_on.scope (d_Index_value_on.dvs K) (d_Index_value_on.kws K) (He.fAd K d_Index_value_on.at_) fd := T.df 29
theorem TX.d_Index_entries (T : TX K mg) : ∃ fd, FunD K d_Index_entries.name d_Index_entries.qual d_Index_entries.params d_Index_entries.body d_Index_entries.scope (d_Index_entries.dvs K) (d_Index_entries.kws K) (He.fAd K d_Index_entries.at_) fd := T.df 30
theorem TX.d_Index_find (T : TX K mg) : ∃ fd, FunD K d_Index_find.name d_Index_find.qual d_Index_find.params d_Index_find.body d_Index_find.scope (d_Index_find.dvs K) (d_Index_find.kws K) (He.fAd K d_Index_find.at_) fd := T.df 31
theorem TX.d_Index_wrong (T : TX K mg) : ∃ fd, FunD K d_Index_wrong.name d_Index_wrong.qual d_Index_wrong.params d_Index_wrong.body d_Index_wrong.scope (d_Index_wrong.dvs K) (d_Index_wrong.kws K) (He.fAd K d_Index_wrong.at_) fd := T.df 32
theorem TX.d_Index_rewrite (T : TX K mg) : ∃ fd, FunD K d_Index_rewrite.name d_Index_rewrite.qual d_Index_rewrite.params d_Index_rewrite.body d_Index_rewrite.scope (d_Index_rewrite.dvs K) (d_Index_rewrite.kws K) (He.fAd K d_Index_rewrite.at_) fd := T.df 33
theorem TX.d_are_writes (T : TX K mg) : ∃ fd, FunD K d_are_writes.name d_are_writes.qual d_are_writes.params d_are_writes.body d_are_writes.scope (d_are_writes.dvs K) (d_are_writes.kws K) (He.fAd K d_are_writes.at_) fd := T.df 34
theorem TX.d_Function_init (T : TX K mg) : ∃ fd, FunD K d_Function_init.name d_Function_init.qual d_Function_init.params d_Function_init.body d_Function_init.scope (d_Function_init.dvs K) (d_Function_init.kws K) (He.fAd K d_Function_init.at_) fd := T.df 35
theorem TX.d_Function_parts (T : TX K mg) : ∃ fd, FunD K d_Function_parts.name d_Function_parts.qual d_Function_parts.params d_Function_parts.body d_Function_parts.scope (d_Function_parts.dvs K) (d_Function_parts.kws K) (He.fAd K d_Function_parts.at_) fd := T.df 36
theorem TX.d_checked_cells (T : TX K mg) : ∃ fd, FunD K d_checked_cells.name d_checked_cells.qual d_checked_cells.params d_checked_cells.body d_checked_cells.scope (d_checked_cells.dvs K) (d_checked_cells.kws K) (He.fAd K d_checked_cells.at_) fd := T.df 37
theorem TX.d_fits (T : TX K mg) : ∃ fd, FunD K d_fits.name d_fits.qual d_fits.params d_fits.body d_fits.scope (d_fits.dvs K) (d_fits.kws K) (He.fAd K d_fits.at_) fd := T.df 38
theorem TX.d_checked_functions (T : TX K mg) : ∃ fd, FunD K d_checked_functions.name d_checked_functions.qual d_checked_functions.params d_checked_functions.body d_checked_functions.scope (d_checked_functions.dvs K) (d_checked_functions.kws K) (He.fAd K d_checked_functions.at_) fd := T.df 39
theorem TX.d_Book_init (T : TX K mg) : ∃ fd, FunD K d_Book_init.name d_Book_init.qual d_Book_init.params d_Book_init.body d_Book_init.scope (d_Book_init.dvs K) (d_Book_init.kws K) (He.fAd K d_Book_init.at_) fd := T.df 40
theorem TX.d_Book_getitem (T : TX K mg) : ∃ fd, FunD K d_Book_getitem.name d_Book_getitem.qual d_Book_getitem.params d_Book_getitem.body d_Book_getitem.scope (d_Book_getitem.dvs K) (d_Book_getitem.kws K) (He.fAd K d_Book_getitem.at_) fd := T.df 41
theorem TX.d_Book_eq (T : TX K mg) : ∃ fd, FunD K d_Book_eq.name d_Book_eq.qual d_Book_eq.params d_Book_eq.body d_Book_eq.scope (d_Book_eq.dvs K) (d_Book_eq.kws K) (He.fAd K d_Book_eq.at_) fd := T.df 42
theorem TX.d_Book_all_cells (T : TX K mg) : ∃ fd, FunD K d_Book_all_cells.name d_Book_all_cells.qual d_Book_all_cells.params d_Book_all_cells.body d_Book_all_cells.scope (d_Book_all_cells.dvs K) (d_Book_all_cells.kws K) (He.fAd K d_Book_all_cells.at_) fd := T.df 43
theorem TX.d_Book_names (T : TX K mg) : ∃ fd, FunD K d_Book_names.name d_Book_names.qual d_Book_names.params d_Book_names.body d_Book_names.scope (d_Book_names.dvs K) (d_Book_names.kws K) (He.fAd K d_Book_names.at_) fd := T.df 44
theorem TX.d_Book_reaches (T : TX K mg) : ∃ fd, FunD K d_Book_reaches.name d_Book_reaches.qual d_Book_reaches.params d_Book_reaches.body d_Book_reaches.scope (d_Book_reaches.dvs K) (d_Book_reaches.kws K) (He.fAd K d_Book_reaches.at_) fd := T.df 45
theorem TX.d_law_pool (T : TX K mg) : ∃ fd, FunD K d_law_pool.name d_law_pool.qual d_law_pool.params d_law_pool.body d_law_pool.scope (d_law_pool.dvs K) (d_law_pool.kws K) (He.fAd K d_law_pool.at_) fd := T.df 46
theorem TX.d_law_draw (T : TX K mg) : ∃ fd, FunD K d_law_draw.name d_law_draw.qual d_law_draw.params d_law_draw.body d_law_draw.scope (d_law_draw.dvs K) (d_law_draw.kws K) (He.fAd K d_law_draw.at_) fd := T.df 47
theorem TX.d_law_pick (T : TX K mg) : ∃ fd, FunD K d_law_pick.name d_law_pick.qual d_law_pick.params d_law_pick.body d_law_pick.scope (d_law_pick.dvs K) (d_law_pick.kws K) (He.fAd K d_law_pick.at_) fd := T.df 48
theorem TX.d_law_names (T : TX K mg) : ∃ fd, FunD K d_law_names.name d_law_names.qual d_law_names.params d_law_names.body d_law_names.scope (d_law_names.dvs K) (d_law_names.kws K) (He.fAd K d_law_names.at_) fd := T.df 49
theorem TX.d_law_term (T : TX K mg) : ∃ fd, FunD K d_law_term.name d_law_term.qual d_law_term.params d_law_term.body d_law_term.scope (d_law_term.dvs K) (d_law_term.kws K) (He.fAd K d_law_term.at_) fd := T.df 50
theorem TX.d_law_writes (T : TX K mg) : ∃ fd, FunD K d_law_writes.name d_law_writes.qual d_law_writes.params d_law_writes.body d_law_writes.scope (d_law_writes.dvs K) (d_law_writes.kws K) (He.fAd K d_law_writes.at_) fd := T.df 51
theorem TX.d_law_book (T : TX K mg) : ∃ fd, FunD K d_law_book.name d_law_book.qual d_law_book.params d_law_book.body d_law_book.scope (d_law_book.dvs K) (d_law_book.kws K) (He.fAd K d_law_book.at_) fd := T.df 52
theorem TX.d_law_made_book (T : TX K mg) : ∃ fd, FunD K d_law_made_book.name d_law_made_book.qual d_law_made_book.params d_law_made_book.body d_law_made_book.scope (d_law_made_book.dvs K) (d_law_made_book.kws K) (He.fAd K d_law_made_book.at_) fd := T.df 53
theorem TX.d_law_state (T : TX K mg) : ∃ fd, FunD K d_law_state.name d_law_state.qual d_law_state.params d_law_state.body d_law_state.scope (d_law_state.dvs K) (d_law_state.kws K) (He.fAd K d_law_state.at_) fd := T.df 54
theorem TX.d_law_found (T : TX K mg) : ∃ fd, FunD K d_law_found.name d_law_found.qual d_law_found.params d_law_found.body d_law_found.scope (d_law_found.dvs K) (d_law_found.kws K) (He.fAd K d_law_found.at_) fd := T.df 55
theorem TX.d_law_ran (T : TX K mg) : ∃ fd, FunD K d_law_ran.name d_law_ran.qual d_law_ran.params d_law_ran.body d_law_ran.scope (d_law_ran.dvs K) (d_law_ran.kws K) (He.fAd K d_law_ran.at_) fd := T.df 56
theorem TX.d_law_called (T : TX K mg) : ∃ fd, FunD K d_law_called.name d_law_called.qual d_law_called.params d_law_called.body d_law_called.scope (d_law_called.dvs K) (d_law_called.kws K) (He.fAd K d_law_called.at_) fd := T.df 57
theorem TX.d_law_worked (T : TX K mg) : ∃ fd, FunD K d_law_worked.name d_law_worked.qual d_law_worked.params d_law_worked.body d_law_worked.scope (d_law_worked.dvs K) (d_law_worked.kws K) (He.fAd K d_law_worked.at_) fd := T.df 58
theorem TX.d_law_tuples (T : TX K mg) : ∃ fd, FunD K d_law_tuples.name d_law_tuples.qual d_law_tuples.params d_law_tuples.body d_law_tuples.scope (d_law_tuples.dvs K) (d_law_tuples.kws K) (He.fAd K d_law_tuples.at_) fd := T.df 59
theorem TX.d_law_entries (T : TX K mg) : ∃ fd, FunD K d_law_entries.name d_law_entries.qual d_law_entries.params d_law_entries.body d_law_entries.scope (d_law_entries.dvs K) (d_law_entries.kws K) (He.fAd K d_law_entries.at_) fd := T.df 60
theorem TX.d_law (T : TX K mg) : ∃ fd, FunD K d_law.name d_law.qual d_law.params d_law.body d_law.scope (d_law.dvs K) (d_law.kws K) (He.fAd K d_law.at_) fd := T.df 61
theorem TX.g_is_integer (T : TX K mg) : mg "is_integer" = some (.ref (He.ga K "is_integer")) := let ⟨_, X, G⟩ := T.hp; He.glo_ok X G (T.fact 0)
theorem TX.g_is_between (T : TX K mg) : mg "is_between" = some (.ref (He.ga K "is_between")) := let ⟨_, X, G⟩ := T.hp; He.glo_ok X G (T.fact 1)
theorem TX.g_is_value (T : TX K mg) : mg "is_value" = some (.ref (He.ga K "is_value")) := let ⟨_, X, G⟩ := T.hp; He.glo_ok X G (T.fact 2)
theorem TX.g_is_name (T : TX K mg) : mg "is_name" = some (.ref (He.ga K "is_name")) := let ⟨_, X, G⟩ := T.hp; He.glo_ok X G (T.fact 3)
theorem TX.g_has_kind (T : TX K mg) : mg "has_kind" = some (.ref (He.ga K "has_kind")) := let ⟨_, X, G⟩ := T.hp; He.glo_ok X G (T.fact 4)
theorem TX.g_tuples_of (T : TX K mg) : mg "tuples_of" = some (.ref (He.ga K "tuples_of")) := let ⟨_, X, G⟩ := T.hp; He.glo_ok X G (T.fact 5)
theorem TX.g_check_state (T : TX K mg) : mg "check_state" = some (.ref (He.ga K "check_state")) := let ⟨_, X, G⟩ := T.hp; He.glo_ok X G (T.fact 6)
theorem TX.g_checked_arguments (T : TX K mg) : mg "checked_arguments" = some (.ref (He.ga K "checked_arguments")) := let ⟨_, X, G⟩ := T.hp; He.glo_ok X G (T.fact 7)
theorem TX.g_run_alone (T : TX K mg) : mg "run_alone" = some (.ref (He.ga K "run_alone")) := let ⟨_, X, G⟩ := T.hp; He.glo_ok X G (T.fact 8)
theorem TX.g_inner_terms (T : TX K mg) : mg "inner_terms" = some (.ref (He.ga K "inner_terms")) := let ⟨_, X, G⟩ := T.hp; He.glo_ok X G (T.fact 9)
theorem TX.g_has_form (T : TX K mg) : mg "has_form" = some (.ref (He.ga K "has_form")) := let ⟨_, X, G⟩ := T.hp; He.glo_ok X G (T.fact 10)
theorem TX.g_is_term (T : TX K mg) : mg "is_term" = some (.ref (He.ga K "is_term")) := let ⟨_, X, G⟩ := T.hp; He.glo_ok X G (T.fact 11)
theorem TX.g_leaves (T : TX K mg) : mg "leaves" = some (.ref (He.ga K "leaves")) := let ⟨_, X, G⟩ := T.hp; He.glo_ok X G (T.fact 12)
theorem TX.g_names_with (T : TX K mg) : mg "names_with" = some (.ref (He.ga K "names_with")) := let ⟨_, X, G⟩ := T.hp; He.glo_ok X G (T.fact 13)
theorem TX.g_cells_in (T : TX K mg) : mg "cells_in" = some (.ref (He.ga K "cells_in")) := let ⟨_, X, G⟩ := T.hp; He.glo_ok X G (T.fact 14)
theorem TX.g_calls_in (T : TX K mg) : mg "calls_in" = some (.ref (He.ga K "calls_in")) := let ⟨_, X, G⟩ := T.hp; He.glo_ok X G (T.fact 15)
theorem TX.g_is_label_name (T : TX K mg) : mg "is_label_name" = some (.ref (He.ga K "is_label_name")) := let ⟨_, X, G⟩ := T.hp; He.glo_ok X G (T.fact 16)
theorem TX.g_made_label (T : TX K mg) : mg "made_label" = some (.ref (He.ga K "made_label")) := let ⟨_, X, G⟩ := T.hp; He.glo_ok X G (T.fact 17)
theorem TX.g_are_writes (T : TX K mg) : mg "are_writes" = some (.ref (He.ga K "are_writes")) := let ⟨_, X, G⟩ := T.hp; He.glo_ok X G (T.fact 18)
theorem TX.g_checked_cells (T : TX K mg) : mg "checked_cells" = some (.ref (He.ga K "checked_cells")) := let ⟨_, X, G⟩ := T.hp; He.glo_ok X G (T.fact 19)
theorem TX.g_fits (T : TX K mg) : mg "fits" = some (.ref (He.ga K "fits")) := let ⟨_, X, G⟩ := T.hp; He.glo_ok X G (T.fact 20)
theorem TX.g_checked_functions (T : TX K mg) : mg "checked_functions" = some (.ref (He.ga K "checked_functions")) := let ⟨_, X, G⟩ := T.hp; He.glo_ok X G (T.fact 21)
theorem TX.g_law_pool (T : TX K mg) : mg "_law_pool" = some (.ref (He.ga K "_law_pool")) := let ⟨_, X, G⟩ := T.hp; He.glo_ok X G (T.fact 22)
theorem TX.g_law_draw (T : TX K mg) : mg "_law_draw" = some (.ref (He.ga K "_law_draw")) := let ⟨_, X, G⟩ := T.hp; He.glo_ok X G (T.fact 23)
theorem TX.g_law_pick (T : TX K mg) : mg "_law_pick" = some (.ref (He.ga K "_law_pick")) := let ⟨_, X, G⟩ := T.hp; He.glo_ok X G (T.fact 24)
theorem TX.g_law_names (T : TX K mg) : mg "_law_names" = some (.ref (He.ga K "_law_names")) := let ⟨_, X, G⟩ := T.hp; He.glo_ok X G (T.fact 25)
theorem TX.g_law_term (T : TX K mg) : mg "_law_term" = some (.ref (He.ga K "_law_term")) := let ⟨_, X, G⟩ := T.hp; He.glo_ok X G (T.fact 26)
theorem TX.g_law_writes (T : TX K mg) : mg "_law_writes" = some (.ref (He.ga K "_law_writes")) := let ⟨_, X, G⟩ := T.hp; He.glo_ok X G (T.fact 27)
theorem TX.g_law_book (T : TX K mg) : mg "_law_book" = some (.ref (He.ga K "_law_book")) := let ⟨_, X, G⟩ := T.hp; He.glo_ok X G (T.fact 28)
theorem TX.g_law_made_book (T : TX K mg) : mg "_law_made_book" = some (.ref (He.ga K "_law_made_book")) := let ⟨_, X, G⟩ := T.hp; He.glo_ok X G (T.fact 29)
theorem TX.g_law_state (T : TX K mg) : mg "_law_state" = some (.ref (He.ga K "_law_state")) := let ⟨_, X, G⟩ := T.hp; He.glo_ok X G (T.fact 30)
theorem TX.g_law_found (T : TX K mg) : mg "_law_found" = some (.ref (He.ga K "_law_found")) := let ⟨_, X, G⟩ := T.hp; He.glo_ok X G (T.fact 31)
theorem TX.g_law_ran (T : TX K mg) : mg "_law_ran" = some (.ref (He.ga K "_law_ran")) := let ⟨_, X, G⟩ := T.hp; He.glo_ok X G (T.fact 32)
theorem TX.g_law_called (T : TX K mg) : mg "_law_called" = some (.ref (He.ga K "_law_called")) := let ⟨_, X, G⟩ := T.hp; He.glo_ok X G (T.fact 33)
theorem TX.g_law_worked (T : TX K mg) : mg "_law_worked" = some (.ref (He.ga K "_law_worked")) := let ⟨_, X, G⟩ := T.hp; He.glo_ok X G (T.fact 34)
theorem TX.g_law_tuples (T : TX K mg) : mg "_law_tuples" = some (.ref (He.ga K "_law_tuples")) := let ⟨_, X, G⟩ := T.hp; He.glo_ok X G (T.fact 35)
theorem TX.g_law_entries (T : TX K mg) : mg "_law_entries" = some (.ref (He.ga K "_law_entries")) := let ⟨_, X, G⟩ := T.hp; He.glo_ok X G (T.fact 36)
theorem TX.g_law (T : TX K mg) : mg "law" = some (.ref (He.ga K "law")) := let ⟨_, X, G⟩ := T.hp; He.glo_ok X G (T.fact 37)
theorem TX.g_Cell (T : TX K mg) : mg "Cell" = some (.ref (He.ga K "Cell")) := let ⟨_, X, G⟩ := T.hp; He.glo_ok X G (T.fact 38)
theorem TX.cls_Cell (T : TX K mg) : Cls K (He.ga K "Cell") := He.cls_ok (T.fact 39)
theorem TX.mk_Cell (T : TX K mg) : Mk K (He.ga K "Cell") (He.ma K (He.ga K "Cell") "__init__") := He.mkr_ok (T.fact 40)
theorem TX.kp_Cell (T : TX K mg) : PySem.W.keepIn K (.ref (He.ga K "Cell")) = true := He.keep_ok (T.fact 41)
theorem TX.at_Cell_name (T : TX K mg) : NoAttr K (He.ga K "Cell") "name" := He.noat_ok (T.fact 42)
theorem TX.at_Cell_kind (T : TX K mg) : NoAttr K (He.ga K "Cell") "kind" := He.noat_ok (T.fact 43)
theorem TX.g_Scene (T : TX K mg) : mg "Scene" = some (.ref (He.ga K "Scene")) := let ⟨_, X, G⟩ := T.hp; He.glo_ok X G (T.fact 44)
theorem TX.cls_Scene (T : TX K mg) : Cls K (He.ga K "Scene") := He.cls_ok (T.fact 45)
theorem TX.mk_Scene (T : TX K mg) : Mk K (He.ga K "Scene") (He.ma K (He.ga K "Scene") "__init__") := He.mkr_ok (T.fact 46)
theorem TX.kp_Scene (T : TX K mg) : PySem.W.keepIn K (.ref (He.ga K "Scene")) = true := He.keep_ok (T.fact 47)
theorem TX.at_Scene_book (T : TX K mg) : NoAttr K (He.ga K "Scene") "book" := He.noat_ok (T.fact 48)
theorem TX.at_Scene_held (T : TX K mg) : NoAttr K (He.ga K "Scene") "held" := He.noat_ok (T.fact 49)
theorem TX.at_Scene_tick_now (T : TX K mg) : NoAttr K (He.ga K "Scene") "tick_now" := He.noat_ok (T.fact 50)
theorem TX.at_Scene_view_held (T : TX K mg) : NoAttr K (He.ga K "Scene") "view_held" := He.noat_ok (T.fact 51)
theorem TX.me_Scene_run_function (T : TX K mg) : Meth K (He.ga K "Scene") "run_function" (He.ma K (He.ga K "Scene") "run_function") := He.meth_ok (T.fact 52)
theorem TX.me_Scene_called (T : TX K mg) : Meth K (He.ga K "Scene") "called" (He.ma K (He.ga K "Scene") "called") := He.meth_ok (T.fact 53)
theorem TX.me_Scene_worked (T : TX K mg) : Meth K (He.ga K "Scene") "worked" (He.ma K (He.ga K "Scene") "worked") := He.meth_ok (T.fact 54)
theorem TX.g_Label (T : TX K mg) : mg "Label" = some (.ref (He.ga K "Label")) := let ⟨_, X, G⟩ := T.hp; He.glo_ok X G (T.fact 55)
theorem TX.cls_Label (T : TX K mg) : Cls K (He.ga K "Label") := He.cls_ok (T.fact 56)
theorem TX.mk_Label (T : TX K mg) : Mk K (He.ga K "Label") (He.ma K (He.ga K "Label") "__init__") := He.mkr_ok (T.fact 57)
theorem TX.kp_Label (T : TX K mg) : PySem.W.keepIn K (.ref (He.ga K "Label")) = true := He.keep_ok (T.fact 58)
theorem TX.at_Label_name (T : TX K mg) : NoAttr K (He.ga K "Label") "name" := He.noat_ok (T.fact 59)
theorem TX.at_Label_height (T : TX K mg) : NoAttr K (He.ga K "Label") "height" := He.noat_ok (T.fact 60)
theorem TX.g_Index (T : TX K mg) : mg "Index" = some (.ref (He.ga K "Index")) := let ⟨_, X, G⟩ := T.hp; He.glo_ok X G (T.fact 61)
theorem TX.cls_Index (T : TX K mg) : Cls K (He.ga K "Index") := He.cls_ok (T.fact 62)
theorem TX.mk_Index (T : TX K mg) : Mk K (He.ga K "Index") (He.ma K (He.ga K "Index") "__init__") := He.mkr_ok (T.fact 63)
theorem TX.kp_Index (T : TX K mg) : PySem.W.keepIn K (.ref (He.ga K "Index")) = true := He.keep_ok (T.fact 64)
theorem TX.at_Index_book (T : TX K mg) : NoAttr K (He.ga K "Index") "book" := He.noat_ok (T.fact 65)
theorem TX.at_Index_name (T : TX K mg) : NoAttr K (He.ga K "Index") "name" := He.noat_ok (T.fact 66)
theorem TX.at_Index_told (T : TX K mg) : NoAttr K (He.ga K "Index") "told" := He.noat_ok (T.fact 67)
theorem TX.me_Index_len (T : TX K mg) : Meth K (He.ga K "Index") "__len__" (He.ma K (He.ga K "Index") "__len__") := He.meth_ok (T.fact 68)
theorem TX.me_Index_eq (T : TX K mg) : Meth K (He.ga K "Index") "__eq__" (He.ma K (He.ga K "Index") "__eq__") := He.meth_ok (T.fact 69)
theorem TX.me_Index_getitem (T : TX K mg) : Meth K (He.ga K "Index") "__getitem__" (He.ma K (He.ga K "Index") "__getitem__") := He.meth_ok (T.fact 70)
theorem TX.me_Index_check_arguments (T : TX K mg) : Meth K (He.ga K "Index") "check_arguments" (He.ma K (He.ga K "Index") "check_arguments") := He.meth_ok (T.fact 71)
theorem TX.me_Index_value_on (T : TX K mg) : Meth K (He.ga K "Index") "value_on" (He.ma K (He.ga K "Index") "value_on") := He.meth_ok (T.fact 72)
theorem TX.me_Index_entries (T : TX K mg) : Meth K (He.ga K "Index") "entries" (He.ma K (He.ga K "Index") "entries") := He.meth_ok (T.fact 73)
theorem TX.me_Index_find (T : TX K mg) : Meth K (He.ga K "Index") "find" (He.ma K (He.ga K "Index") "find") := He.meth_ok (T.fact 74)
theorem TX.me_Index_wrong (T : TX K mg) : Meth K (He.ga K "Index") "wrong" (He.ma K (He.ga K "Index") "wrong") := He.meth_ok (T.fact 75)
theorem TX.me_Index_rewrite (T : TX K mg) : Meth K (He.ga K "Index") "rewrite" (He.ma K (He.ga K "Index") "rewrite") := He.meth_ok (T.fact 76)
theorem TX.g_Function (T : TX K mg) : mg "Function" = some (.ref (He.ga K "Function")) := let ⟨_, X, G⟩ := T.hp; He.glo_ok X G (T.fact 77)
theorem TX.cls_Function (T : TX K mg) : Cls K (He.ga K "Function") := He.cls_ok (T.fact 78)
theorem TX.mk_Function (T : TX K mg) : Mk K (He.ga K "Function") (He.ma K (He.ga K "Function") "__init__") := He.mkr_ok (T.fact 79)
theorem TX.kp_Function (T : TX K mg) : PySem.W.keepIn K (.ref (He.ga K "Function")) = true := He.keep_ok (T.fact 80)
theorem TX.at_Function_label (T : TX K mg) : NoAttr K (He.ga K "Function") "label" := He.noat_ok (T.fact 81)
theorem TX.at_Function_name (T : TX K mg) : NoAttr K (He.ga K "Function") "name" := He.noat_ok (T.fact 82)
theorem TX.at_Function_arguments (T : TX K mg) : NoAttr K (He.ga K "Function") "arguments" := He.noat_ok (T.fact 83)
theorem TX.at_Function_result (T : TX K mg) : NoAttr K (He.ga K "Function") "result" := He.noat_ok (T.fact 84)
theorem TX.at_Function_writes (T : TX K mg) : NoAttr K (He.ga K "Function") "writes" := He.noat_ok (T.fact 85)
theorem TX.at_Function_cost (T : TX K mg) : NoAttr K (He.ga K "Function") "cost" := He.noat_ok (T.fact 86)
theorem TX.me_Function_parts (T : TX K mg) : Meth K (He.ga K "Function") "parts" (He.ma K (He.ga K "Function") "parts") := He.meth_ok (T.fact 87)
theorem TX.g_Book (T : TX K mg) : mg "Book" = some (.ref (He.ga K "Book")) := let ⟨_, X, G⟩ := T.hp; He.glo_ok X G (T.fact 88)
theorem TX.cls_Book (T : TX K mg) : Cls K (He.ga K "Book") := He.cls_ok (T.fact 89)
theorem TX.mk_Book (T : TX K mg) : Mk K (He.ga K "Book") (He.ma K (He.ga K "Book") "__init__") := He.mkr_ok (T.fact 90)
theorem TX.kp_Book (T : TX K mg) : PySem.W.keepIn K (.ref (He.ga K "Book")) = true := He.keep_ok (T.fact 91)
theorem TX.at_Book_cell_row (T : TX K mg) : NoAttr K (He.ga K "Book") "cell_row" := He.noat_ok (T.fact 92)
theorem TX.at_Book_row (T : TX K mg) : NoAttr K (He.ga K "Book") "row" := He.noat_ok (T.fact 93)
theorem TX.me_Book_getitem (T : TX K mg) : Meth K (He.ga K "Book") "__getitem__" (He.ma K (He.ga K "Book") "__getitem__") := He.meth_ok (T.fact 94)
theorem TX.me_Book_eq (T : TX K mg) : Meth K (He.ga K "Book") "__eq__" (He.ma K (He.ga K "Book") "__eq__") := He.meth_ok (T.fact 95)
theorem TX.me_Book_all_cells (T : TX K mg) : Meth K (He.ga K "Book") "all_cells" (He.ma K (He.ga K "Book") "all_cells") := He.meth_ok (T.fact 96)
theorem TX.me_Book_names (T : TX K mg) : Meth K (He.ga K "Book") "names" (He.ma K (He.ga K "Book") "names") := He.meth_ok (T.fact 97)
theorem TX.me_Book_reaches (T : TX K mg) : Meth K (He.ga K "Book") "reaches" (He.ma K (He.ga K "Book") "reaches") := He.meth_ok (T.fact 98)
theorem TX.f_isinstance (T : TX K mg) : mg "isinstance" = none := let ⟨_, X, G⟩ := T.hp; He.free_ok X G (T.fact 99)
theorem TX.f_int (T : TX K mg) : mg "int" = none := let ⟨_, X, G⟩ := T.hp; He.free_ok X G (T.fact 100)
theorem TX.f_bool (T : TX K mg) : mg "bool" = none := let ⟨_, X, G⟩ := T.hp; He.free_ok X G (T.fact 101)
theorem TX.f_str (T : TX K mg) : mg "str" = none := let ⟨_, X, G⟩ := T.hp; He.free_ok X G (T.fact 102)
theorem TX.f_len (T : TX K mg) : mg "len" = none := let ⟨_, X, G⟩ := T.hp; He.free_ok X G (T.fact 103)
theorem TX.f_all (T : TX K mg) : mg "all" = none := let ⟨_, X, G⟩ := T.hp; He.free_ok X G (T.fact 104)
theorem TX.f_tuple (T : TX K mg) : mg "tuple" = none := let ⟨_, X, G⟩ := T.hp; He.free_ok X G (T.fact 105)
theorem TX.f_range (T : TX K mg) : mg "range" = none := let ⟨_, X, G⟩ := T.hp; He.free_ok X G (T.fact 106)
theorem TX.f_dict (T : TX K mg) : mg "dict" = none := let ⟨_, X, G⟩ := T.hp; He.free_ok X G (T.fact 107)
theorem TX.f_list (T : TX K mg) : mg "list" = none := let ⟨_, X, G⟩ := T.hp; He.free_ok X G (T.fact 108)
theorem TX.f_any (T : TX K mg) : mg "any" = none := let ⟨_, X, G⟩ := T.hp; He.free_ok X G (T.fact 109)
theorem TX.f_sorted (T : TX K mg) : mg "sorted" = none := let ⟨_, X, G⟩ := T.hp; He.free_ok X G (T.fact 110)
theorem TX.f_enumerate (T : TX K mg) : mg "enumerate" = none := let ⟨_, X, G⟩ := T.hp; He.free_ok X G (T.fact 111)
theorem TX.f_sum (T : TX K mg) : mg "sum" = none := let ⟨_, X, G⟩ := T.hp; He.free_ok X G (T.fact 112)
theorem TX.f_abs (T : TX K mg) : mg "abs" = none := let ⟨_, X, G⟩ := T.hp; He.free_ok X G (T.fact 113)
theorem TX.f_max (T : TX K mg) : mg "max" = none := let ⟨_, X, G⟩ := T.hp; He.free_ok X G (T.fact 114)
theorem TX.f_min (T : TX K mg) : mg "min" = none := let ⟨_, X, G⟩ := T.hp; He.free_ok X G (T.fact 115)
theorem TX.k_MOST_LETTERS (T : TX K mg) : ∃ u, mg "MOST_LETTERS" = some u ∧ RelV (.int 8) u := let ⟨_, X, G⟩ := T.hp; let ⟨t, e⟩ := He.int_ok X G (T.fact 116); ⟨_, e, t, rfl⟩
theorem TX.k_MOST_VALUE (T : TX K mg) : ∃ u, mg "MOST_VALUE" = some u ∧ RelV (.int 2) u := let ⟨_, X, G⟩ := T.hp; let ⟨t, e⟩ := He.int_ok X G (T.fact 117); ⟨_, e, t, rfl⟩
theorem TX.k_MOST_PARTS (T : TX K mg) : ∃ u, mg "MOST_PARTS" = some u ∧ RelV (.int 30) u := let ⟨_, X, G⟩ := T.hp; let ⟨t, e⟩ := He.int_ok X G (T.fact 118); ⟨_, e, t, rfl⟩
theorem TX.k_MOST_DEPTH (T : TX K mg) : ∃ u, mg "MOST_DEPTH" = some u ∧ RelV (.int 8) u := let ⟨_, X, G⟩ := T.hp; let ⟨t, e⟩ := He.int_ok X G (T.fact 119); ⟨_, e, t, rfl⟩
theorem TX.k_MOST_ARGUMENTS (T : TX K mg) : ∃ u, mg "MOST_ARGUMENTS" = some u ∧ RelV (.int 2) u := let ⟨_, X, G⟩ := T.hp; let ⟨t, e⟩ := He.int_ok X G (T.fact 120); ⟨_, e, t, rfl⟩
theorem TX.k_MOST_WRITES (T : TX K mg) : ∃ u, mg "MOST_WRITES" = some u ∧ RelV (.int 3) u := let ⟨_, X, G⟩ := T.hp; let ⟨t, e⟩ := He.int_ok X G (T.fact 121); ⟨_, e, t, rfl⟩
theorem TX.k_MOST_COST (T : TX K mg) : ∃ u, mg "MOST_COST" = some u ∧ RelV (.int 99) u := let ⟨_, X, G⟩ := T.hp; let ⟨t, e⟩ := He.int_ok X G (T.fact 122); ⟨_, e, t, rfl⟩
theorem TX.k_MOST_CELLS (T : TX K mg) : ∃ u, mg "MOST_CELLS" = some u ∧ RelV (.int 6) u := let ⟨_, X, G⟩ := T.hp; let ⟨t, e⟩ := He.int_ok X G (T.fact 123); ⟨_, e, t, rfl⟩
theorem TX.k_MOST_FUNCTIONS (T : TX K mg) : ∃ u, mg "MOST_FUNCTIONS" = some u ∧ RelV (.int 8) u := let ⟨_, X, G⟩ := T.hp; let ⟨t, e⟩ := He.int_ok X G (T.fact 124); ⟨_, e, t, rfl⟩
theorem TX.k_LETTERS (T : TX K mg) : ∃ u, mg "LETTERS" = some u ∧ RelV (.str "abcdefghijklmnopqrstuvwxyz") u := let ⟨_, X, G⟩ := T.hp; let ⟨t, e⟩ := He.str_ok X G (T.fact 125); ⟨_, e, t, rfl⟩
theorem TX.g_VALUES (T : TX K mg) : ∃ u, mg "VALUES" = some u ∧ RelV (.ref (He.ga K "VALUES")) u := let ⟨_, X, G⟩ := T.hp; ⟨_, PySem.W.mg_of X G (He.eqO_ok (He.ba (T.more 0 (f := fun K => He.tupB K "VALUES" [.int 0, .int 1, .int 2] && He.eqO (PySem.W.nsIn K mainGlobals "VALUES") (some (some (.ref (He.ga K "VALUES"))))))).2), rfl⟩
theorem TX.t_VALUES (T : TX K mg) (H : Hp) : SqT K H (He.ga K "VALUES") [V.int 0, V.int 1, V.int 2] := He.tupB_ok (vs := [.int 0, .int 1, .int 2]) (He.ba (T.more 0 (f := fun K => He.tupB K "VALUES" [.int 0, .int 1, .int 2] && He.eqO (PySem.W.nsIn K mainGlobals "VALUES") (some (some (.ref (He.ga K "VALUES"))))))).1 H
theorem TX.g_KINDS (T : TX K mg) : ∃ u, mg "KINDS" = some u ∧ RelV (.ref (He.ga K "KINDS")) u := let ⟨_, X, G⟩ := T.hp; ⟨_, PySem.W.mg_of X G (He.eqO_ok (He.ba (T.more 1 (f := fun K => He.tupB K "KINDS" [.str "frozen", .str "setting", .str "table"] && He.eqO (PySem.W.nsIn K mainGlobals "KINDS") (some (some (.ref (He.ga K "KINDS"))))))).2), rfl⟩
theorem TX.t_KINDS (T : TX K mg) (H : Hp) : SqT K H (He.ga K "KINDS") [V.str "frozen", V.str "setting", V.str "table"] := He.tupB_ok (vs := [.str "frozen", .str "setting", .str "table"]) (He.ba (T.more 1 (f := fun K => He.tupB K "KINDS" [.str "frozen", .str "setting", .str "table"] && He.eqO (PySem.W.nsIn K mainGlobals "KINDS") (some (some (.ref (He.ga K "KINDS"))))))).1 H
theorem TX.g_PAIRS (T : TX K mg) : ∃ u, mg "PAIRS" = some u ∧ RelV (.ref (He.ga K "PAIRS")) u := let ⟨_, X, G⟩ := T.hp; ⟨_, PySem.W.mg_of X G (He.eqO_ok (He.ba (T.more 2 (f := fun K => He.tupB K "PAIRS" [.str "plus", .str "less", .str "same"] && He.eqO (PySem.W.nsIn K mainGlobals "PAIRS") (some (some (.ref (He.ga K "PAIRS"))))))).2), rfl⟩
theorem TX.t_PAIRS (T : TX K mg) (H : Hp) : SqT K H (He.ga K "PAIRS") [V.str "plus", V.str "less", V.str "same"] := He.tupB_ok (vs := [.str "plus", .str "less", .str "same"]) (He.ba (T.more 2 (f := fun K => He.tupB K "PAIRS" [.str "plus", .str "less", .str "same"] && He.eqO (PySem.W.nsIn K mainGlobals "PAIRS") (some (some (.ref (He.ga K "PAIRS"))))))).1 H
theorem TX.g_LABELS (T : TX K mg) : ∃ u, mg "LABELS" = some u ∧ RelV (.ref (He.ga K "LABELS")) u := let ⟨_, X, G⟩ := T.hp; ⟨_, PySem.W.mg_of X G (He.eqO_ok (He.ba (T.more 3 (f := fun K => He.tupB K "LABELS" [.str "always", .str "session", .str "statement", .str "changing"] && He.eqO (PySem.W.nsIn K mainGlobals "LABELS") (some (some (.ref (He.ga K "LABELS"))))))).2), rfl⟩
theorem TX.t_LABELS (T : TX K mg) (H : Hp) : SqT K H (He.ga K "LABELS") [V.str "always", V.str "session", V.str "statement", V.str "changing"] := He.tupB_ok (vs := [.str "always", .str "session", .str "statement", .str "changing"]) (He.ba (T.more 3 (f := fun K => He.tupB K "LABELS" [.str "always", .str "session", .str "statement", .str "changing"] && He.eqO (PySem.W.nsIn K mainGlobals "LABELS") (some (some (.ref (He.ga K "LABELS"))))))).1 H
theorem TX.i_Cell (T : TX K mg) : InsC K (He.ga K "Cell") := by
  have h := T.more 4 (f := insB "Cell")
  obtain ⟨h1, h⟩ := He.ba h
  obtain ⟨h2, h⟩ := He.ba h
  obtain ⟨h3, h⟩ := He.ba h
  obtain ⟨h4, h5⟩ := He.ba h
  exact ⟨T.cls_Cell, He.eqO_ok h1, He.eqO_ok h2, of_decide_eq_true h3, of_decide_eq_true h4, of_decide_eq_true h5⟩
theorem TX.i_Scene (T : TX K mg) : InsC K (He.ga K "Scene") := by
  have h := T.more 5 (f := insB "Scene")
  obtain ⟨h1, h⟩ := He.ba h
  obtain ⟨h2, h⟩ := He.ba h
  obtain ⟨h3, h⟩ := He.ba h
  obtain ⟨h4, h5⟩ := He.ba h
  exact ⟨T.cls_Scene, He.eqO_ok h1, He.eqO_ok h2, of_decide_eq_true h3, of_decide_eq_true h4, of_decide_eq_true h5⟩
theorem TX.i_Label (T : TX K mg) : InsC K (He.ga K "Label") := by
  have h := T.more 6 (f := insB "Label")
  obtain ⟨h1, h⟩ := He.ba h
  obtain ⟨h2, h⟩ := He.ba h
  obtain ⟨h3, h⟩ := He.ba h
  obtain ⟨h4, h5⟩ := He.ba h
  exact ⟨T.cls_Label, He.eqO_ok h1, He.eqO_ok h2, of_decide_eq_true h3, of_decide_eq_true h4, of_decide_eq_true h5⟩
theorem TX.i_Index (T : TX K mg) : InsC K (He.ga K "Index") := by
  have h := T.more 7 (f := insB "Index")
  obtain ⟨h1, h⟩ := He.ba h
  obtain ⟨h2, h⟩ := He.ba h
  obtain ⟨h3, h⟩ := He.ba h
  obtain ⟨h4, h5⟩ := He.ba h
  exact ⟨T.cls_Index, He.eqO_ok h1, He.eqO_ok h2, of_decide_eq_true h3, of_decide_eq_true h4, of_decide_eq_true h5⟩
theorem TX.i_Function (T : TX K mg) : InsC K (He.ga K "Function") := by
  have h := T.more 8 (f := insB "Function")
  obtain ⟨h1, h⟩ := He.ba h
  obtain ⟨h2, h⟩ := He.ba h
  obtain ⟨h3, h⟩ := He.ba h
  obtain ⟨h4, h5⟩ := He.ba h
  exact ⟨T.cls_Function, He.eqO_ok h1, He.eqO_ok h2, of_decide_eq_true h3, of_decide_eq_true h4, of_decide_eq_true h5⟩
theorem TX.i_Book (T : TX K mg) : InsC K (He.ga K "Book") := by
  have h := T.more 9 (f := insB "Book")
  obtain ⟨h1, h⟩ := He.ba h
  obtain ⟨h2, h⟩ := He.ba h
  obtain ⟨h3, h⟩ := He.ba h
  obtain ⟨h4, h5⟩ := He.ba h
  exact ⟨T.cls_Book, He.eqO_ok h1, He.eqO_ok h2, of_decide_eq_true h3, of_decide_eq_true h4, of_decide_eq_true h5⟩
theorem TX.sub_Book (T : TX K mg) : PySem.W.noSeq K (He.ga K "Book") = true ∧ PySem.W.fnIn K (He.ma K (He.ga K "Book") "__getitem__") = true := He.ba (T.more 10 (f := subB "Book"))
theorem TX.sub_Index (T : TX K mg) : PySem.W.noSeq K (He.ga K "Index") = true ∧ PySem.W.fnIn K (He.ma K (He.ga K "Index") "__getitem__") = true := He.ba (T.more 11 (f := subB "Index"))
theorem TX.ne_Book (T : TX K mg) : PySem.W.findIn K (.ref (He.ga K "Book")) "__ne__" = some (some (.builtin "object.__ne__")) := He.eqO_ok (T.more 12 (f := neB "Book"))
theorem TX.isi_str_Label (T : TX K mg) : PySem.W.kitOne K (.type "str") (.ref (He.ga K "Label")) = some false := of_decide_eq_true (T.more 13 (f := isB (fun _ => .type "str") "Label" false))
theorem TX.isi_Book_Index (T : TX K mg) : PySem.W.kitOne K (.ref (He.ga K "Book")) (.ref (He.ga K "Index")) = some false := of_decide_eq_true (T.more 14 (f := isB (fun K => .ref (He.ga K "Book")) "Index" false))
theorem TX.so_Book_Index (T : TX K mg) : PySem.W.subIn K (.ref (He.ga K "Book")) (.ref (He.ga K "Index")) = some false := of_decide_eq_true (T.more 15 (f := subO "Book" "Index"))
theorem TX.pl_LABELS (T : TX K mg) : ∃ o, K.lookup (He.ga K "LABELS") = some o ∧ o.cls = .type "tuple" ∧ o.dict = none := plD_ok (T.more 16 (f := plD "LABELS"))
end
/-! a def keeps its promise, by its body -/
section
variable {P : Program} {w : World} {K : PySem.W.Frag} {mg : Str → Option Value} {base : Heap}
theorem calD {d : He.DefD} {fd : FuncData} {N ps : List Str} {ds : List Value} {dvs dfl : List V} {kws : List (Str × V)} {k : Nat} {sp : Sp} (x : Str) (F : FunD K d.name d.qual d.params d.body d.scope dfl kws (He.fAd K d.at_) fd) (hm : mg x = some (.ref (He.fAd K d.at_)))
    (b : Binds K fd ps ds) (dv : Vals dvs ds) (S : FnScope N ps d.scope) (len : ∀ vs H Q E, sp vs H Q E → vs.length = ps.length)
    (hbody : ∀ (cdv : Value) (A : Around) (outer : List Env) (s : Shared) (H : Hp) (vs : List V) (Q : VK) (E : XK), Room k (A.deeper (envOfC d.qual d.scope s.heap.objs.size (He.fAd K d.at_) cdv)) → sp vs H Q E →
      ∃ t, PSs (cxOf CX0 P w K mg base N d.qual d.scope (He.fAd K d.at_) cdv A outer s H E).nox d.body t ∧ t { nx := fun _ H' => Q .non H', rt := Q } (start N vs) H) : C8.Cal P w K mg base (k + 1) x sp dvs := by
  refine ⟨_, fd, ps, ds, F.ok S len fun cdv A outer s H vs Q E hr hsp => ?_, hm, F.kp, b, dv⟩
  obtain ⟨t, h, q⟩ := hbody cdv A outer s H vs Q E hr hsp
  exact ⟨t, h.nox, q⟩
theorem metD {d : He.DefD} {fd : FuncData} {N ps : List Str} {ds : List Value} {dvs dfl : List V} {kws : List (Str × V)} {k : Nat} {sp : Sp} (C : Addr) (m : Str) (F : FunD K d.name d.qual d.params d.body d.scope dfl kws (He.fAd K d.at_) fd) (c : Cls K C) (me : Meth K C m (He.fAd K d.at_))
    (b : Binds K fd ps ds) (dv : Vals dvs ds) (S : FnScope N ps d.scope) (len : ∀ vs H Q E, sp vs H Q E → vs.length = ps.length)
    (hbody : ∀ (cdv : Value) (A : Around) (outer : List Env) (s : Shared) (H : Hp) (vs : List V) (Q : VK) (E : XK), Room k (A.deeper (envOfC d.qual d.scope s.heap.objs.size (He.fAd K d.at_) cdv)) → sp vs H Q E →
      ∃ t, PSs (cxOf CX0 P w K mg base N d.qual d.scope (He.fAd K d.at_) cdv A outer s H E).nox d.body t ∧ t { nx := fun _ H' => Q .non H', rt := Q } (start N vs) H) : C8.Met P w K mg base (k + 1) C m sp dvs := by
  refine ⟨_, fd, ps, ds, c, me, F.ok S len fun cdv A outer s H vs Q E hr hsp => ?_, b, dv⟩
  obtain ⟨t, h, q⟩ := hbody cdv A outer s H vs Q E hr hsp
  exact ⟨t, h.nox, q⟩
theorem makD {d : He.DefD} {fd : FuncData} {N ps : List Str} {ds : List Value} {dvs dfl : List V} {kws : List (Str × V)} {k : Nat} {sp : Sp} (x : Str) (C : Addr) (F : FunD K d.name d.qual d.params d.body d.scope dfl kws (He.fAd K d.at_) fd) (M : Mk K C (He.fAd K d.at_)) (hm : mg x = some (.ref C))
    (b : Binds K fd ps ds) (dv : Vals dvs ds) (S : FnScope N ps d.scope) (len : ∀ vs H Q E, sp vs H Q E → vs.length = ps.length)
    (hbody : ∀ (cdv : Value) (A : Around) (outer : List Env) (s : Shared) (H : Hp) (vs : List V) (Q : VK) (E : XK), Room k (A.deeper (envOfC d.qual d.scope s.heap.objs.size (He.fAd K d.at_) cdv)) → sp vs H Q E →
      ∃ t, PSs (cxOf CX0 P w K mg base N d.qual d.scope (He.fAd K d.at_) cdv A outer s H E).nox d.body t ∧ t { nx := fun _ H' => Q .non H', rt := Q } (start N vs) H) : C8.Mak P w K mg base (k + 1) x C sp dvs := by
  refine ⟨_, fd, ps, ds, M, F.ok S len fun cdv A outer s H vs Q E hr hsp => ?_, hm, b, dv⟩
  obtain ⟨t, h, q⟩ := hbody cdv A outer s H vs Q E hr hsp
  exact ⟨t, h.nox, q⟩
end
/-! the names of each def, parameters first -/
abbrev N_is_integer : List Str := ["value"]
abbrev P_is_integer : List Str := ["value"]
theorem S_is_integer : FnScope N_is_integer P_is_integer d_is_integer.scope := ⟨rfl, rfl, rfl, by decide +kernel, rfl, by decide +kernel, by decide +kernel⟩
theorem b_is_integer {K : PySem.W.Frag} {f : Addr} {fd : FuncData} {kws : List (Str × V)} (F : FunD K d_is_integer.name d_is_integer.qual d_is_integer.params d_is_integer.body d_is_integer.scope [] kws f fd) : Binds K fd P_is_integer [] := F.bindsN fun _ _ _ _ _ _ us hl => match us, hl with | [_], _ => rfl
abbrev N_is_between : List Str := ["value", "least", "most"]
abbrev P_is_between : List Str := ["value", "least", "most"]
theorem S_is_between : FnScope N_is_between P_is_between d_is_between.scope := ⟨rfl, rfl, rfl, by decide +kernel, rfl, by decide +kernel, by decide +kernel⟩
theorem b_is_between {K : PySem.W.Frag} {f : Addr} {fd : FuncData} {kws : List (Str × V)} (F : FunD K d_is_between.name d_is_between.qual d_is_between.params d_is_between.body d_is_between.scope [] kws f fd) : Binds K fd P_is_between [] := F.bindsN fun _ _ _ _ _ _ us hl => match us, hl with | [_, _, _], _ => rfl
abbrev N_is_value : List Str := ["value"]
abbrev P_is_value : List Str := ["value"]
theorem S_is_value : FnScope N_is_value P_is_value d_is_value.scope := ⟨rfl, rfl, rfl, by decide +kernel, rfl, by decide +kernel, by decide +kernel⟩
theorem b_is_value {K : PySem.W.Frag} {f : Addr} {fd : FuncData} {kws : List (Str × V)} (F : FunD K d_is_value.name d_is_value.qual d_is_value.params d_is_value.body d_is_value.scope [] kws f fd) : Binds K fd P_is_value [] := F.bindsN fun _ _ _ _ _ _ us hl => match us, hl with | [_], _ => rfl
abbrev N_is_name : List Str := ["value", "sign"]
abbrev P_is_name : List Str := ["value"]
theorem S_is_name : FnScope N_is_name P_is_name d_is_name.scope := ⟨rfl, rfl, rfl, by decide +kernel, rfl, by decide +kernel, by decide +kernel⟩
theorem b_is_name {K : PySem.W.Frag} {f : Addr} {fd : FuncData} {kws : List (Str × V)} (F : FunD K d_is_name.name d_is_name.qual d_is_name.params d_is_name.body d_is_name.scope [] kws f fd) : Binds K fd P_is_name [] := F.bindsN fun _ _ _ _ _ _ us hl => match us, hl with | [_], _ => rfl
abbrev N_has_kind : List Str := ["value", "kind", "many"]
abbrev P_has_kind : List Str := ["value", "kind", "many"]
theorem S_has_kind : FnScope N_has_kind P_has_kind d_has_kind.scope := ⟨rfl, rfl, rfl, by decide +kernel, rfl, by decide +kernel, by decide +kernel⟩
theorem b_has_kind {K : PySem.W.Frag} {f : Addr} {fd : FuncData} {kws : List (Str × V)} (F : FunD K d_has_kind.name d_has_kind.qual d_has_kind.params d_has_kind.body d_has_kind.scope [] kws f fd) : Binds K fd P_has_kind [] := F.bindsN fun _ _ _ _ _ _ us hl => match us, hl with | [_, _, _], _ => rfl
abbrev N_tuples_of : List Str := ["many", "found", "turn", "row", "value"]
abbrev P_tuples_of : List Str := ["many"]
theorem S_tuples_of : FnScope N_tuples_of P_tuples_of d_tuples_of.scope := ⟨rfl, rfl, rfl, by decide +kernel, rfl, by decide +kernel, by decide +kernel⟩
theorem b_tuples_of {K : PySem.W.Frag} {f : Addr} {fd : FuncData} {kws : List (Str × V)} (F : FunD K d_tuples_of.name d_tuples_of.qual d_tuples_of.params d_tuples_of.body d_tuples_of.scope [] kws f fd) : Binds K fd P_tuples_of [] := F.bindsN fun _ _ _ _ _ _ us hl => match us, hl with | [_], _ => rfl
abbrev N_Cell_init : List Str := ["self", "name", "kind"]
abbrev P_Cell_init : List Str := ["self", "name", "kind"]
theorem S_Cell_init : FnScope N_Cell_init P_Cell_init d_Cell_init.scope := ⟨rfl, rfl, rfl, by decide +kernel, rfl, by decide +kernel, by decide +kernel⟩
theorem b_Cell_init {K : PySem.W.Frag} {f : Addr} {fd : FuncData} {kws : List (Str × V)} (F : FunD K d_Cell_init.name d_Cell_init.qual d_Cell_init.params d_Cell_init.body d_Cell_init.scope [] kws f fd) : Binds K fd P_Cell_init [] := F.bindsN fun _ _ _ _ _ _ us hl => match us, hl with | [_, _, _], _ => rfl
abbrev N_check_state : List Str := ["cells", "state", "cell"]
abbrev P_check_state : List Str := ["cells", "state"]
theorem S_check_state : FnScope N_check_state P_check_state d_check_state.scope := ⟨rfl, rfl, rfl, by decide +kernel, rfl, by decide +kernel, by decide +kernel⟩
theorem b_check_state {K : PySem.W.Frag} {f : Addr} {fd : FuncData} {kws : List (Str × V)} (F : FunD K d_check_state.name d_check_state.qual d_check_state.params d_check_state.body d_check_state.scope [] kws f fd) : Binds K fd P_check_state [] := F.bindsN fun _ _ _ _ _ _ us hl => match us, hl with | [_, _], _ => rfl
abbrev N_checked_arguments : List Str := ["book", "name", "arguments", "many", "value"]
abbrev P_checked_arguments : List Str := ["book", "name", "arguments"]
theorem S_checked_arguments : FnScope N_checked_arguments P_checked_arguments d_checked_arguments.scope := ⟨rfl, rfl, rfl, by decide +kernel, rfl, by decide +kernel, by decide +kernel⟩
theorem b_checked_arguments {K : PySem.W.Frag} {f : Addr} {fd : FuncData} {kws : List (Str × V)} (F : FunD K d_checked_arguments.name d_checked_arguments.qual d_checked_arguments.params d_checked_arguments.body d_checked_arguments.scope [] kws f fd) : Binds K fd P_checked_arguments [] := F.bindsN fun _ _ _ _ _ _ us hl => match us, hl with | [_, _, _], _ => rfl
abbrev N_Scene_init : List Str := ["self", "book", "held", "tick_now", "view_held"]
abbrev P_Scene_init : List Str := ["self", "book", "held", "tick_now", "view_held"]
theorem S_Scene_init : FnScope N_Scene_init P_Scene_init d_Scene_init.scope := ⟨rfl, rfl, rfl, by decide +kernel, rfl, by decide +kernel, by decide +kernel⟩
theorem b_Scene_init {K : PySem.W.Frag} {f : Addr} {fd : FuncData} {kws : List (Str × V)} (F : FunD K d_Scene_init.name d_Scene_init.qual d_Scene_init.params d_Scene_init.body d_Scene_init.scope [] kws f fd) : Binds K fd P_Scene_init [] := F.bindsN fun _ _ _ _ _ _ us hl => match us, hl with | [_, _, _, _, _], _ => rfl
abbrev N_Scene_run_function : List Str := ["self", "function", "arguments", "value", "cell", "term"]
abbrev P_Scene_run_function : List Str := ["self", "function", "arguments"]
theorem S_Scene_run_function : FnScope N_Scene_run_function P_Scene_run_function d_Scene_run_function.scope := ⟨rfl, rfl, rfl, by decide +kernel, rfl, by decide +kernel, by decide +kernel⟩
theorem b_Scene_run_function {K : PySem.W.Frag} {f : Addr} {fd : FuncData} {kws : List (Str × V)} (F : FunD K d_Scene_run_function.name d_Scene_run_function.qual d_Scene_run_function.params d_Scene_run_function.body d_Scene_run_function.scope [] kws f fd) : Binds K fd P_Scene_run_function [] := F.bindsN fun _ _ _ _ _ _ us hl => match us, hl with | [_, _, _], _ => rfl
abbrev N_Scene_called : List Str := ["self", "name", "arguments", "function"]
abbrev P_Scene_called : List Str := ["self", "name", "arguments"]
theorem S_Scene_called : FnScope N_Scene_called P_Scene_called d_Scene_called.scope := ⟨rfl, rfl, rfl, by decide +kernel, rfl, by decide +kernel, by decide +kernel⟩
theorem b_Scene_called {K : PySem.W.Frag} {f : Addr} {fd : FuncData} {kws : List (Str × V)} (F : FunD K d_Scene_called.name d_Scene_called.qual d_Scene_called.params d_Scene_called.body d_Scene_called.scope [] kws f fd) : Binds K fd P_Scene_called [] := F.bindsN fun _ _ _ _ _ _ us hl => match us, hl with | [_, _, _], _ => rfl
abbrev N_Scene_worked : List Str := ["self", "term", "arguments", "one", "other", "part"]
abbrev P_Scene_worked : List Str := ["self", "term", "arguments"]
theorem S_Scene_worked : FnScope N_Scene_worked P_Scene_worked d_Scene_worked.scope := ⟨rfl, rfl, rfl, by decide +kernel, rfl, by decide +kernel, by decide +kernel⟩
theorem b_Scene_worked {K : PySem.W.Frag} {f : Addr} {fd : FuncData} {kws : List (Str × V)} (F : FunD K d_Scene_worked.name d_Scene_worked.qual d_Scene_worked.params d_Scene_worked.body d_Scene_worked.scope [] kws f fd) : Binds K fd P_Scene_worked [] := F.bindsN fun _ _ _ _ _ _ us hl => match us, hl with | [_, _, _], _ => rfl
abbrev N_run_alone : List Str := ["book", "name", "arguments", "state", "tick", "row", "scene", "value", "cell"]
abbrev P_run_alone : List Str := ["book", "name", "arguments", "state", "tick"]
theorem S_run_alone : FnScope N_run_alone P_run_alone d_run_alone.scope := ⟨rfl, rfl, rfl, by decide +kernel, rfl, by decide +kernel, by decide +kernel⟩
abbrev N_inner_terms : List Str := ["term"]
abbrev P_inner_terms : List Str := ["term"]
theorem S_inner_terms : FnScope N_inner_terms P_inner_terms d_inner_terms.scope := ⟨rfl, rfl, rfl, by decide +kernel, rfl, by decide +kernel, by decide +kernel⟩
theorem b_inner_terms {K : PySem.W.Frag} {f : Addr} {fd : FuncData} {kws : List (Str × V)} (F : FunD K d_inner_terms.name d_inner_terms.qual d_inner_terms.params d_inner_terms.body d_inner_terms.scope [] kws f fd) : Binds K fd P_inner_terms [] := F.bindsN fun _ _ _ _ _ _ us hl => match us, hl with | [_], _ => rfl
abbrev N_has_form : List Str := ["value", "arguments", "kind"]
abbrev P_has_form : List Str := ["value", "arguments"]
theorem S_has_form : FnScope N_has_form P_has_form d_has_form.scope := ⟨rfl, rfl, rfl, by decide +kernel, rfl, by decide +kernel, by decide +kernel⟩
theorem b_has_form {K : PySem.W.Frag} {f : Addr} {fd : FuncData} {kws : List (Str × V)} (F : FunD K d_has_form.name d_has_form.qual d_has_form.params d_has_form.body d_has_form.scope [] kws f fd) : Binds K fd P_has_form [] := F.bindsN fun _ _ _ _ _ _ us hl => match us, hl with | [_, _], _ => rfl
abbrev N_is_term : List Str := ["value", "arguments", "layer", "parts", "turn", "term", "part"]
abbrev P_is_term : List Str := ["value", "arguments"]
theorem S_is_term : FnScope N_is_term P_is_term d_is_term.scope := ⟨rfl, rfl, rfl, by decide +kernel, rfl, by decide +kernel, by decide +kernel⟩
theorem b_is_term {K : PySem.W.Frag} {f : Addr} {fd : FuncData} {kws : List (Str × V)} (F : FunD K d_is_term.name d_is_term.qual d_is_term.params d_is_term.body d_is_term.scope [] kws f fd) : Binds K fd P_is_term [] := F.bindsN fun _ _ _ _ _ _ us hl => match us, hl with | [_, _], _ => rfl
abbrev N_leaves : List Str := ["term", "found", "part"]
abbrev P_leaves : List Str := ["term"]
theorem S_leaves : FnScope N_leaves P_leaves d_leaves.scope := ⟨rfl, rfl, rfl, by decide +kernel, rfl, by decide +kernel, by decide +kernel⟩
theorem b_leaves {K : PySem.W.Frag} {f : Addr} {fd : FuncData} {kws : List (Str × V)} (F : FunD K d_leaves.name d_leaves.qual d_leaves.params d_leaves.body d_leaves.scope [] kws f fd) : Binds K fd P_leaves [] := F.bindsN fun _ _ _ _ _ _ us hl => match us, hl with | [_], _ => rfl
abbrev N_names_with : List Str := ["term", "kind", "found", "part", "name"]
abbrev P_names_with : List Str := ["term", "kind"]
theorem S_names_with : FnScope N_names_with P_names_with d_names_with.scope := ⟨rfl, rfl, rfl, by decide +kernel, rfl, by decide +kernel, by decide +kernel⟩
theorem b_names_with {K : PySem.W.Frag} {f : Addr} {fd : FuncData} {kws : List (Str × V)} (F : FunD K d_names_with.name d_names_with.qual d_names_with.params d_names_with.body d_names_with.scope [] kws f fd) : Binds K fd P_names_with [] := F.bindsN fun _ _ _ _ _ _ us hl => match us, hl with | [_, _], _ => rfl
abbrev N_cells_in : List Str := ["term"]
abbrev P_cells_in : List Str := ["term"]
theorem S_cells_in : FnScope N_cells_in P_cells_in d_cells_in.scope := ⟨rfl, rfl, rfl, by decide +kernel, rfl, by decide +kernel, by decide +kernel⟩
theorem b_cells_in {K : PySem.W.Frag} {f : Addr} {fd : FuncData} {kws : List (Str × V)} (F : FunD K d_cells_in.name d_cells_in.qual d_cells_in.params d_cells_in.body d_cells_in.scope [] kws f fd) : Binds K fd P_cells_in [] := F.bindsN fun _ _ _ _ _ _ us hl => match us, hl with | [_], _ => rfl
abbrev N_calls_in : List Str := ["term"]
abbrev P_calls_in : List Str := ["term"]
theorem S_calls_in : FnScope N_calls_in P_calls_in d_calls_in.scope := ⟨rfl, rfl, rfl, by decide +kernel, rfl, by decide +kernel, by decide +kernel⟩
theorem b_calls_in {K : PySem.W.Frag} {f : Addr} {fd : FuncData} {kws : List (Str × V)} (F : FunD K d_calls_in.name d_calls_in.qual d_calls_in.params d_calls_in.body d_calls_in.scope [] kws f fd) : Binds K fd P_calls_in [] := F.bindsN fun _ _ _ _ _ _ us hl => match us, hl with | [_], _ => rfl
abbrev N_is_label_name : List Str := ["value"]
abbrev P_is_label_name : List Str := ["value"]
theorem S_is_label_name : FnScope N_is_label_name P_is_label_name d_is_label_name.scope := ⟨rfl, rfl, rfl, by decide +kernel, rfl, by decide +kernel, by decide +kernel⟩
theorem b_is_label_name {K : PySem.W.Frag} {f : Addr} {fd : FuncData} {kws : List (Str × V)} (F : FunD K d_is_label_name.name d_is_label_name.qual d_is_label_name.params d_is_label_name.body d_is_label_name.scope [] kws f fd) : Binds K fd P_is_label_name [] := F.bindsN fun _ _ _ _ _ _ us hl => match us, hl with | [_], _ => rfl
abbrev N_Label_init : List Str := ["self", "name"]
abbrev P_Label_init : List Str := ["self", "name"]
theorem S_Label_init : FnScope N_Label_init P_Label_init d_Label_init.scope := ⟨rfl, rfl, rfl, by decide +kernel, rfl, by decide +kernel, by decide +kernel⟩
theorem b_Label_init {K : PySem.W.Frag} {f : Addr} {fd : FuncData} {kws : List (Str × V)} (F : FunD K d_Label_init.name d_Label_init.qual d_Label_init.params d_Label_init.body d_Label_init.scope [] kws f fd) : Binds K fd P_Label_init [] := F.bindsN fun _ _ _ _ _ _ us hl => match us, hl with | [_, _], _ => rfl
abbrev N_made_label : List Str := ["value"]
abbrev P_made_label : List Str := ["value"]
theorem S_made_label : FnScope N_made_label P_made_label d_made_label.scope := ⟨rfl, rfl, rfl, by decide +kernel, rfl, by decide +kernel, by decide +kernel⟩
theorem b_made_label {K : PySem.W.Frag} {f : Addr} {fd : FuncData} {kws : List (Str × V)} (F : FunD K d_made_label.name d_made_label.qual d_made_label.params d_made_label.body d_made_label.scope [] kws f fd) : Binds K fd P_made_label [] := F.bindsN fun _ _ _ _ _ _ us hl => match us, hl with | [_], _ => rfl
abbrev N_Index_init : List Str := ["self", "book", "name", "state", "arguments"]
abbrev P_Index_init : List Str := ["self", "book", "name", "state"]
theorem S_Index_init : FnScope N_Index_init P_Index_init d_Index_init.scope := ⟨rfl, rfl, rfl, by decide +kernel, rfl, by decide +kernel, by decide +kernel⟩
theorem b_Index_init {K : PySem.W.Frag} {f : Addr} {fd : FuncData} {kws : List (Str × V)} (F : FunD K d_Index_init.name d_Index_init.qual d_Index_init.params d_Index_init.body d_Index_init.scope [] kws f fd) : Binds K fd P_Index_init [] := F.bindsN fun _ _ _ _ _ _ us hl => match us, hl with | [_, _, _, _], _ => rfl
abbrev N_Index_len : List Str := ["self"]
abbrev P_Index_len : List Str := ["self"]
theorem S_Index_len : FnScope N_Index_len P_Index_len d_Index_len.scope := ⟨rfl, rfl, rfl, by decide +kernel, rfl, by decide +kernel, by decide +kernel⟩
theorem b_Index_len {K : PySem.W.Frag} {f : Addr} {fd : FuncData} {kws : List (Str × V)} (F : FunD K d_Index_len.name d_Index_len.qual d_Index_len.params d_Index_len.body d_Index_len.scope [] kws f fd) : Binds K fd P_Index_len [] := F.bindsN fun _ _ _ _ _ _ us hl => match us, hl with | [_], _ => rfl
abbrev N_Index_eq : List Str := ["self", "other"]
abbrev P_Index_eq : List Str := ["self", "other"]
theorem S_Index_eq : FnScope N_Index_eq P_Index_eq d_Index_eq.scope := ⟨rfl, rfl, rfl, by decide +kernel, rfl, by decide +kernel, by decide +kernel⟩
theorem b_Index_eq {K : PySem.W.Frag} {f : Addr} {fd : FuncData} {kws : List (Str × V)} (F : FunD K d_Index_eq.name d_Index_eq.qual d_Index_eq.params d_Index_eq.body d_Index_eq.scope [] kws f fd) : Binds K fd P_Index_eq [] := F.bindsN fun _ _ _ _ _ _ us hl => match us, hl with | [_, _], _ => rfl
abbrev N_Index_getitem : List Str := ["self", "arguments"]
abbrev P_Index_getitem : List Str := ["self", "arguments"]
theorem S_Index_getitem : FnScope N_Index_getitem P_Index_getitem d_Index_getitem.scope := ⟨rfl, rfl, rfl, by decide +kernel, rfl, by decide +kernel, by decide +kernel⟩
theorem b_Index_getitem {K : PySem.W.Frag} {f : Addr} {fd : FuncData} {kws : List (Str × V)} (F : FunD K d_Index_getitem.name d_Index_getitem.qual d_Index_getitem.params d_Index_getitem.body d_Index_getitem.scope [] kws f fd) : Binds K fd P_Index_getitem [] := F.bindsN fun _ _ _ _ _ _ us hl => match us, hl with | [_, _], _ => rfl
abbrev N_Index_check_arguments : List Str := ["self", "arguments", "value"]
abbrev P_Index_check_arguments : List Str := ["self", "arguments"]
theorem S_Index_check_arguments : FnScope N_Index_check_arguments P_Index_check_arguments d_Index_check_arguments.scope := ⟨rfl, rfl, rfl, by decide +kernel, rfl, by decide +kernel, by decide +kernel⟩
theorem b_Index_check_arguments {K : PySem.W.Frag} {f : Addr} {fd : FuncData} {kws : List (Str × V)} (F : FunD K d_Index_check_arguments.name d_Index_check_arguments.qual d_Index_check_arguments.params d_Index_check_arguments.body d_Index_check_arguments.scope [] kws f fd) : Binds K fd P_Index_check_arguments [] := F.bindsN fun _ _ _ _ _ _ us hl => match us, hl with | [_, _], _ => rfl
abbrev N_Index_value_on : List Str := ["self", "arguments", "state"]
abbrev P_Index_value_on : List Str := ["self", "arguments", "state"]
theorem S_Index_value_on : FnScope N_Index_value_on P_Index_value_on d_Index_value_on.scope := ⟨rfl, rfl, rfl, by decide +kernel, rfl, by decide +kernel, by decide +kernel⟩
theorem b_Index_value_on {K : PySem.W.Frag} {f : Addr} {fd : FuncData} {kws : List (Str × V)} (F : FunD K d_Index_value_on.name d_Index_value_on.qual d_Index_value_on.params d_Index_value_on.body d_Index_value_on.scope [] kws f fd) : Binds K fd P_Index_value_on [] := F.bindsN fun _ _ _ _ _ _ us hl => match us, hl with | [_, _, _], _ => rfl
abbrev N_Index_entries : List Str := ["self"]
abbrev P_Index_entries : List Str := ["self"]
theorem S_Index_entries : FnScope N_Index_entries P_Index_entries d_Index_entries.scope := ⟨rfl, rfl, rfl, by decide +kernel, rfl, by decide +kernel, by decide +kernel⟩
theorem b_Index_entries {K : PySem.W.Frag} {f : Addr} {fd : FuncData} {kws : List (Str × V)} (F : FunD K d_Index_entries.name d_Index_entries.qual d_Index_entries.params d_Index_entries.body d_Index_entries.scope [] kws f fd) : Binds K fd P_Index_entries [] := F.bindsN fun _ _ _ _ _ _ us hl => match us, hl with | [_], _ => rfl
abbrev N_Index_find : List Str := ["self", "value", "arguments"]
abbrev P_Index_find : List Str := ["self", "value"]
theorem S_Index_find : FnScope N_Index_find P_Index_find d_Index_find.scope := ⟨rfl, rfl, rfl, by decide +kernel, rfl, by decide +kernel, by decide +kernel⟩
theorem b_Index_find {K : PySem.W.Frag} {f : Addr} {fd : FuncData} {kws : List (Str × V)} (F : FunD K d_Index_find.name d_Index_find.qual d_Index_find.params d_Index_find.body d_Index_find.scope [] kws f fd) : Binds K fd P_Index_find [] := F.bindsN fun _ _ _ _ _ _ us hl => match us, hl with | [_, _], _ => rfl
abbrev N_Index_wrong : List Str := ["self", "state", "arguments"]
abbrev P_Index_wrong : List Str := ["self", "state"]
theorem S_Index_wrong : FnScope N_Index_wrong P_Index_wrong d_Index_wrong.scope := ⟨rfl, rfl, rfl, by decide +kernel, rfl, by decide +kernel, by decide +kernel⟩
theorem b_Index_wrong {K : PySem.W.Frag} {f : Addr} {fd : FuncData} {kws : List (Str × V)} (F : FunD K d_Index_wrong.name d_Index_wrong.qual d_Index_wrong.params d_Index_wrong.body d_Index_wrong.scope [] kws f fd) : Binds K fd P_Index_wrong [] := F.bindsN fun _ _ _ _ _ _ us hl => match us, hl with | [_, _], _ => rfl
abbrev N_Index_rewrite : List Str := ["self", "arguments", "state"]
abbrev P_Index_rewrite : List Str := ["self", "arguments", "state"]
theorem S_Index_rewrite : FnScope N_Index_rewrite P_Index_rewrite d_Index_rewrite.scope := ⟨rfl, rfl, rfl, by decide +kernel, rfl, by decide +kernel, by decide +kernel⟩
theorem b_Index_rewrite {K : PySem.W.Frag} {f : Addr} {fd : FuncData} {kws : List (Str × V)} (F : FunD K d_Index_rewrite.name d_Index_rewrite.qual d_Index_rewrite.params d_Index_rewrite.body d_Index_rewrite.scope [] kws f fd) : Binds K fd P_Index_rewrite [] := F.bindsN fun _ _ _ _ _ _ us hl => match us, hl with | [_, _, _], _ => rfl
abbrev N_are_writes : List Str := ["value", "names", "row", "at", "name"]
abbrev P_are_writes : List Str := ["value"]
theorem S_are_writes : FnScope N_are_writes P_are_writes d_are_writes.scope := ⟨rfl, rfl, rfl, by decide +kernel, rfl, by decide +kernel, by decide +kernel⟩
theorem b_are_writes {K : PySem.W.Frag} {f : Addr} {fd : FuncData} {kws : List (Str × V)} (F : FunD K d_are_writes.name d_are_writes.qual d_are_writes.params d_are_writes.body d_are_writes.scope [] kws f fd) : Binds K fd P_are_writes [] := F.bindsN fun _ _ _ _ _ _ us hl => match us, hl with | [_], _ => rfl
abbrev N_Function_init : List Str := ["self", "name", "arguments", "result", "label", "writes", "cost", "row"]
abbrev P_Function_init : List Str := ["self", "name", "arguments", "result", "label", "writes", "cost"]
theorem S_Function_init : FnScope N_Function_init P_Function_init d_Function_init.scope := ⟨rfl, rfl, rfl, by decide +kernel, rfl, by decide +kernel, by decide +kernel⟩
abbrev N_Function_parts : List Str := ["self", "row"]
abbrev P_Function_parts : List Str := ["self"]
theorem S_Function_parts : FnScope N_Function_parts P_Function_parts d_Function_parts.scope := ⟨rfl, rfl, rfl, by decide +kernel, rfl, by decide +kernel, by decide +kernel⟩
theorem b_Function_parts {K : PySem.W.Frag} {f : Addr} {fd : FuncData} {kws : List (Str × V)} (F : FunD K d_Function_parts.name d_Function_parts.qual d_Function_parts.params d_Function_parts.body d_Function_parts.scope [] kws f fd) : Binds K fd P_Function_parts [] := F.bindsN fun _ _ _ _ _ _ us hl => match us, hl with | [_], _ => rfl
abbrev N_checked_cells : List Str := ["cells", "known", "index", "cell"]
abbrev P_checked_cells : List Str := ["cells"]
theorem S_checked_cells : FnScope N_checked_cells P_checked_cells d_checked_cells.scope := ⟨rfl, rfl, rfl, by decide +kernel, rfl, by decide +kernel, by decide +kernel⟩
theorem b_checked_cells {K : PySem.W.Frag} {f : Addr} {fd : FuncData} {kws : List (Str × V)} (F : FunD K d_checked_cells.name d_checked_cells.qual d_checked_cells.params d_checked_cells.body d_checked_cells.scope [] kws f fd) : Binds K fd P_checked_cells [] := F.bindsN fun _ _ _ _ _ _ us hl => match us, hl with | [_], _ => rfl
abbrev N_fits : List Str := ["function", "cells", "known", "term", "part", "row", "name"]
abbrev P_fits : List Str := ["function", "cells", "known"]
theorem S_fits : FnScope N_fits P_fits d_fits.scope := ⟨rfl, rfl, rfl, by decide +kernel, rfl, by decide +kernel, by decide +kernel⟩
theorem b_fits {K : PySem.W.Frag} {f : Addr} {fd : FuncData} {kws : List (Str × V)} (F : FunD K d_fits.name d_fits.qual d_fits.params d_fits.body d_fits.scope [] kws f fd) : Binds K fd P_fits [] := F.bindsN fun _ _ _ _ _ _ us hl => match us, hl with | [_, _, _], _ => rfl
abbrev N_checked_functions : List Str := ["functions", "cells", "kinds", "known", "index", "function", "cell"]
abbrev P_checked_functions : List Str := ["functions", "cells"]
theorem S_checked_functions : FnScope N_checked_functions P_checked_functions d_checked_functions.scope := ⟨rfl, rfl, rfl, by decide +kernel, rfl, by decide +kernel, by decide +kernel⟩
theorem b_checked_functions {K : PySem.W.Frag} {f : Addr} {fd : FuncData} {kws : List (Str × V)} (F : FunD K d_checked_functions.name d_checked_functions.qual d_checked_functions.params d_checked_functions.body d_checked_functions.scope [] kws f fd) : Binds K fd P_checked_functions [] := F.bindsN fun _ _ _ _ _ _ us hl => match us, hl with | [_, _], _ => rfl
abbrev N_Book_init : List Str := ["self", "cells", "functions"]
abbrev P_Book_init : List Str := ["self", "cells", "functions"]
theorem S_Book_init : FnScope N_Book_init P_Book_init d_Book_init.scope := ⟨rfl, rfl, rfl, by decide +kernel, rfl, by decide +kernel, by decide +kernel⟩
theorem b_Book_init {K : PySem.W.Frag} {f : Addr} {fd : FuncData} {kws : List (Str × V)} (F : FunD K d_Book_init.name d_Book_init.qual d_Book_init.params d_Book_init.body d_Book_init.scope [] kws f fd) : Binds K fd P_Book_init [] := F.bindsN fun _ _ _ _ _ _ us hl => match us, hl with | [_, _, _], _ => rfl
abbrev N_Book_getitem : List Str := ["self", "name", "function"]
abbrev P_Book_getitem : List Str := ["self", "name"]
theorem S_Book_getitem : FnScope N_Book_getitem P_Book_getitem d_Book_getitem.scope := ⟨rfl, rfl, rfl, by decide +kernel, rfl, by decide +kernel, by decide +kernel⟩
theorem b_Book_getitem {K : PySem.W.Frag} {f : Addr} {fd : FuncData} {kws : List (Str × V)} (F : FunD K d_Book_getitem.name d_Book_getitem.qual d_Book_getitem.params d_Book_getitem.body d_Book_getitem.scope [] kws f fd) : Binds K fd P_Book_getitem [] := F.bindsN fun _ _ _ _ _ _ us hl => match us, hl with | [_, _], _ => rfl
abbrev N_Book_eq : List Str := ["self", "other"]
abbrev P_Book_eq : List Str := ["self", "other"]
theorem S_Book_eq : FnScope N_Book_eq P_Book_eq d_Book_eq.scope := ⟨rfl, rfl, rfl, by decide +kernel, rfl, by decide +kernel, by decide +kernel⟩
theorem b_Book_eq {K : PySem.W.Frag} {f : Addr} {fd : FuncData} {kws : List (Str × V)} (F : FunD K d_Book_eq.name d_Book_eq.qual d_Book_eq.params d_Book_eq.body d_Book_eq.scope [] kws f fd) : Binds K fd P_Book_eq [] := F.bindsN fun _ _ _ _ _ _ us hl => match us, hl with | [_, _], _ => rfl
abbrev N_Book_all_cells : List Str := ["self"]
abbrev P_Book_all_cells : List Str := ["self"]
theorem S_Book_all_cells : FnScope N_Book_all_cells P_Book_all_cells d_Book_all_cells.scope := ⟨rfl, rfl, rfl, by decide +kernel, rfl, by decide +kernel, by decide +kernel⟩
theorem b_Book_all_cells {K : PySem.W.Frag} {f : Addr} {fd : FuncData} {kws : List (Str × V)} (F : FunD K d_Book_all_cells.name d_Book_all_cells.qual d_Book_all_cells.params d_Book_all_cells.body d_Book_all_cells.scope [] kws f fd) : Binds K fd P_Book_all_cells [] := F.bindsN fun _ _ _ _ _ _ us hl => match us, hl with | [_], _ => rfl
abbrev N_Book_names : List Str := ["self", "function"]
abbrev P_Book_names : List Str := ["self"]
theorem S_Book_names : FnScope N_Book_names P_Book_names d_Book_names.scope := ⟨rfl, rfl, rfl, by decide +kernel, rfl, by decide +kernel, by decide +kernel⟩
theorem b_Book_names {K : PySem.W.Frag} {f : Addr} {fd : FuncData} {kws : List (Str × V)} (F : FunD K d_Book_names.name d_Book_names.qual d_Book_names.params d_Book_names.body d_Book_names.scope [] kws f fd) : Binds K fd P_Book_names [] := F.bindsN fun _ _ _ _ _ _ us hl => match us, hl with | [_], _ => rfl
abbrev N_Book_reaches : List Str := ["self", "name", "found", "function", "term", "one", "called"]
abbrev P_Book_reaches : List Str := ["self", "name"]
theorem S_Book_reaches : FnScope N_Book_reaches P_Book_reaches d_Book_reaches.scope := ⟨rfl, rfl, rfl, by decide +kernel, rfl, by decide +kernel, by decide +kernel⟩
theorem b_Book_reaches {K : PySem.W.Frag} {f : Addr} {fd : FuncData} {kws : List (Str × V)} (F : FunD K d_Book_reaches.name d_Book_reaches.qual d_Book_reaches.params d_Book_reaches.body d_Book_reaches.scope [] kws f fd) : Binds K fd P_Book_reaches [] := F.bindsN fun _ _ _ _ _ _ us hl => match us, hl with | [_, _], _ => rfl
abbrev N_law_pool : List Str := ["_law_script", "_law_k", "_law_cell", "_law_size", "_law_mixed"]
abbrev P_law_pool : List Str := ["_law_script", "_law_k"]
theorem S_law_pool : FnScope N_law_pool P_law_pool d_law_pool.scope := ⟨rfl, rfl, rfl, by decide +kernel, rfl, by decide +kernel, by decide +kernel⟩
theorem b_law_pool {K : PySem.W.Frag} {f : Addr} {fd : FuncData} {kws : List (Str × V)} (F : FunD K d_law_pool.name d_law_pool.qual d_law_pool.params d_law_pool.body d_law_pool.scope [] kws f fd) : Binds K fd P_law_pool [] := F.bindsN fun _ _ _ _ _ _ us hl => match us, hl with | [_, _], _ => rfl
abbrev N_law_draw : List Str := ["_law_pool_here", "_law_many", "_law_found_here"]
abbrev P_law_draw : List Str := ["_law_pool_here", "_law_many"]
theorem S_law_draw : FnScope N_law_draw P_law_draw d_law_draw.scope := ⟨rfl, rfl, rfl, by decide +kernel, rfl, by decide +kernel, by decide +kernel⟩
theorem b_law_draw {K : PySem.W.Frag} {f : Addr} {fd : FuncData} {kws : List (Str × V)} (F : FunD K d_law_draw.name d_law_draw.qual d_law_draw.params d_law_draw.body d_law_draw.scope [] kws f fd) : Binds K fd P_law_draw [] := F.bindsN fun _ _ _ _ _ _ us hl => match us, hl with | [_, _], _ => rfl
abbrev N_law_pick : List Str := ["_law_pool_here", "_law_row"]
abbrev P_law_pick : List Str := ["_law_pool_here", "_law_row"]
theorem S_law_pick : FnScope N_law_pick P_law_pick d_law_pick.scope := ⟨rfl, rfl, rfl, by decide +kernel, rfl, by decide +kernel, by decide +kernel⟩
theorem b_law_pick {K : PySem.W.Frag} {f : Addr} {fd : FuncData} {kws : List (Str × V)} (F : FunD K d_law_pick.name d_law_pick.qual d_law_pick.params d_law_pick.body d_law_pick.scope [] kws f fd) : Binds K fd P_law_pick [] := F.bindsN fun _ _ _ _ _ _ us hl => match us, hl with | [_, _], _ => rfl
abbrev N_law_names : List Str := ["_law_pool_here", "_law_count", "_law_signs", "_law_origin", "_law_step", "_law_ends", "_law_head", "_law_tail", "_law_k"]
abbrev P_law_names : List Str := ["_law_pool_here", "_law_count"]
theorem S_law_names : FnScope N_law_names P_law_names d_law_names.scope := ⟨rfl, rfl, rfl, by decide +kernel, rfl, by decide +kernel, by decide +kernel⟩
theorem b_law_names {K : PySem.W.Frag} {f : Addr} {fd : FuncData} {kws : List (Str × V)} (F : FunD K d_law_names.name d_law_names.qual d_law_names.params d_law_names.body d_law_names.scope [] kws f fd) : Binds K fd P_law_names [] := F.bindsN fun _ _ _ _ _ _ us hl => match us, hl with | [_, _], _ => rfl
abbrev N_law_term : List Str := ["_law_pool_here", "_law_b", "_law_many", "_law_deep", "_law_kind", "_law_f", "_law_head", "_law_at"]
abbrev P_law_term : List Str := ["_law_pool_here", "_law_b", "_law_many", "_law_deep"]
theorem S_law_term : FnScope N_law_term P_law_term d_law_term.scope := ⟨rfl, rfl, rfl, by decide +kernel, rfl, by decide +kernel, by decide +kernel⟩
theorem b_law_term {K : PySem.W.Frag} {f : Addr} {fd : FuncData} {kws : List (Str × V)} (F : FunD K d_law_term.name d_law_term.qual d_law_term.params d_law_term.body d_law_term.scope [] kws f fd) : Binds K fd P_law_term [] := F.bindsN fun _ _ _ _ _ _ us hl => match us, hl with | [_, _, _, _], _ => rfl
abbrev N_law_writes : List Str := ["_law_pool_here", "_law_b", "_law_many", "_law_tables", "_law_cell"]
abbrev P_law_writes : List Str := ["_law_pool_here", "_law_b", "_law_many"]
theorem S_law_writes : FnScope N_law_writes P_law_writes d_law_writes.scope := ⟨rfl, rfl, rfl, by decide +kernel, rfl, by decide +kernel, by decide +kernel⟩
theorem b_law_writes {K : PySem.W.Frag} {f : Addr} {fd : FuncData} {kws : List (Str × V)} (F : FunD K d_law_writes.name d_law_writes.qual d_law_writes.params d_law_writes.body d_law_writes.scope [] kws f fd) : Binds K fd P_law_writes [] := F.bindsN fun _ _ _ _ _ _ us hl => match us, hl with | [_, _, _], _ => rfl
abbrev N_law_book : List Str := ["_law_pool_here", "_law_most", "_law_deep", "_law_words", "_law_b", "_law_kinds", "_law_at", "_law_many", "_law_f"]
abbrev P_law_book : List Str := ["_law_pool_here", "_law_most", "_law_deep"]
theorem S_law_book : FnScope N_law_book P_law_book d_law_book.scope := ⟨rfl, rfl, rfl, by decide +kernel, rfl, by decide +kernel, by decide +kernel⟩
theorem b_law_book {K : PySem.W.Frag} {f : Addr} {fd : FuncData} {kws : List (Str × V)} (F : FunD K d_law_book.name d_law_book.qual d_law_book.params d_law_book.body d_law_book.scope [] kws f fd) : Binds K fd P_law_book [] := F.bindsN fun _ _ _ _ _ _ us hl => match us, hl with | [_, _, _], _ => rfl
abbrev N_law_made_book : List Str := ["_law_b", "_law_rows", "_law_f", "_law_one", "_law_name", "_law_kind"]
abbrev P_law_made_book : List Str := ["_law_b"]
theorem S_law_made_book : FnScope N_law_made_book P_law_made_book d_law_made_book.scope := ⟨rfl, rfl, rfl, by decide +kernel, rfl, by decide +kernel, by decide +kernel⟩
theorem b_law_made_book {K : PySem.W.Frag} {f : Addr} {fd : FuncData} {kws : List (Str × V)} (F : FunD K d_law_made_book.name d_law_made_book.qual d_law_made_book.params d_law_made_book.body d_law_made_book.scope [] kws f fd) : Binds K fd P_law_made_book [] := F.bindsN fun _ _ _ _ _ _ us hl => match us, hl with | [_], _ => rfl
abbrev N_law_state : List Str := ["_law_pool_here", "_law_b", "_law_cell"]
abbrev P_law_state : List Str := ["_law_pool_here", "_law_b"]
theorem S_law_state : FnScope N_law_state P_law_state d_law_state.scope := ⟨rfl, rfl, rfl, by decide +kernel, rfl, by decide +kernel, by decide +kernel⟩
theorem b_law_state {K : PySem.W.Frag} {f : Addr} {fd : FuncData} {kws : List (Str × V)} (F : FunD K d_law_state.name d_law_state.qual d_law_state.params d_law_state.body d_law_state.scope [] kws f fd) : Binds K fd P_law_state [] := F.bindsN fun _ _ _ _ _ _ us hl => match us, hl with | [_, _], _ => rfl
abbrev N_law_found : List Str := ["_law_b", "_law_name", "_law_f"]
abbrev P_law_found : List Str := ["_law_b", "_law_name"]
theorem S_law_found : FnScope N_law_found P_law_found d_law_found.scope := ⟨rfl, rfl, rfl, by decide +kernel, rfl, by decide +kernel, by decide +kernel⟩
theorem b_law_found {K : PySem.W.Frag} {f : Addr} {fd : FuncData} {kws : List (Str × V)} (F : FunD K d_law_found.name d_law_found.qual d_law_found.params d_law_found.body d_law_found.scope [] kws f fd) : Binds K fd P_law_found [] := F.bindsN fun _ _ _ _ _ _ us hl => match us, hl with | [_, _], _ => rfl
abbrev N_law_ran : List Str := ["_law_b", "_law_f", "_law_values", "_law_held", "_law_tick", "_law_view", "_law_value", "_law_cell", "_law_term_here"]
abbrev P_law_ran : List Str := ["_law_b", "_law_f", "_law_values", "_law_held", "_law_tick", "_law_view"]
theorem S_law_ran : FnScope N_law_ran P_law_ran d_law_ran.scope := ⟨rfl, rfl, rfl, by decide +kernel, rfl, by decide +kernel, by decide +kernel⟩
theorem b_law_ran {K : PySem.W.Frag} {f : Addr} {fd : FuncData} {kws : List (Str × V)} (F : FunD K d_law_ran.name d_law_ran.qual d_law_ran.params d_law_ran.body d_law_ran.scope [] kws f fd) : Binds K fd P_law_ran [] := F.bindsN fun _ _ _ _ _ _ us hl => match us, hl with | [_, _, _, _, _, _], _ => rfl
abbrev N_law_called : List Str := ["_law_b", "_law_name", "_law_values", "_law_held", "_law_tick", "_law_view", "_law_f"]
abbrev P_law_called : List Str := ["_law_b", "_law_name", "_law_values", "_law_held", "_law_tick", "_law_view"]
theorem S_law_called : FnScope N_law_called P_law_called d_law_called.scope := ⟨rfl, rfl, rfl, by decide +kernel, rfl, by decide +kernel, by decide +kernel⟩
theorem b_law_called {K : PySem.W.Frag} {f : Addr} {fd : FuncData} {kws : List (Str × V)} (F : FunD K d_law_called.name d_law_called.qual d_law_called.params d_law_called.body d_law_called.scope [] kws f fd) : Binds K fd P_law_called [] := F.bindsN fun _ _ _ _ _ _ us hl => match us, hl with | [_, _, _, _, _, _], _ => rfl
abbrev N_law_worked : List Str := ["_law_b", "_law_term_here", "_law_values", "_law_held", "_law_tick", "_law_view", "_law_some", "_law_one", "_law_other", "_law_part"]
abbrev P_law_worked : List Str := ["_law_b", "_law_term_here", "_law_values", "_law_held", "_law_tick", "_law_view"]
theorem S_law_worked : FnScope N_law_worked P_law_worked d_law_worked.scope := ⟨rfl, rfl, rfl, by decide +kernel, rfl, by decide +kernel, by decide +kernel⟩
theorem b_law_worked {K : PySem.W.Frag} {f : Addr} {fd : FuncData} {kws : List (Str × V)} (F : FunD K d_law_worked.name d_law_worked.qual d_law_worked.params d_law_worked.body d_law_worked.scope [] kws f fd) : Binds K fd P_law_worked [] := F.bindsN fun _ _ _ _ _ _ us hl => match us, hl with | [_, _, _, _, _, _], _ => rfl
abbrev N_law_tuples : List Str := ["_law_many", "_law_found_here", "_law_turn", "_law_later", "_law_row", "_law_value"]
abbrev P_law_tuples : List Str := ["_law_many"]
theorem S_law_tuples : FnScope N_law_tuples P_law_tuples d_law_tuples.scope := ⟨rfl, rfl, rfl, by decide +kernel, rfl, by decide +kernel, by decide +kernel⟩
theorem b_law_tuples {K : PySem.W.Frag} {f : Addr} {fd : FuncData} {kws : List (Str × V)} (F : FunD K d_law_tuples.name d_law_tuples.qual d_law_tuples.params d_law_tuples.body d_law_tuples.scope [] kws f fd) : Binds K fd P_law_tuples [] := F.bindsN fun _ _ _ _ _ _ us hl => match us, hl with | [_], _ => rfl
abbrev N_law_entries : List Str := ["_law_b", "_law_f", "_law_state_here", "_law_found_here", "_law_values"]
abbrev P_law_entries : List Str := ["_law_b", "_law_f", "_law_state_here"]
theorem S_law_entries : FnScope N_law_entries P_law_entries d_law_entries.scope := ⟨rfl, rfl, rfl, by decide +kernel, rfl, by decide +kernel, by decide +kernel⟩
theorem b_law_entries {K : PySem.W.Frag} {f : Addr} {fd : FuncData} {kws : List (Str × V)} (F : FunD K d_law_entries.name d_law_entries.qual d_law_entries.params d_law_entries.body d_law_entries.scope [] kws f fd) : Binds K fd P_law_entries [] := F.bindsN fun _ _ _ _ _ _ us hl => match us, hl with | [_, _, _], _ => rfl
abbrev N_law : List Str := ["_law_script", "_law_k", "_law_pool_here", "_law_b", "_law_f", "_law_book_here", "_law_state_here", "_law_index", "_law_due", "_law_turn", "_law_later", "_law_now", "_law_value", "_law_values", "_law_spoilt"]
abbrev P_law : List Str := ["_law_script"]
theorem S_law : FnScope N_law P_law d_law.scope := ⟨rfl, rfl, rfl, by decide +kernel, rfl, by decide +kernel, by decide +kernel⟩
theorem b_law {K : PySem.W.Frag} {f : Addr} {fd : FuncData} {kws : List (Str × V)} (F : FunD K d_law.name d_law.qual d_law.params d_law.body d_law.scope [] kws f fd) : Binds K fd P_law [] := F.bindsN fun _ _ _ _ _ _ us hl => match us, hl with | [_], _ => rfl
end SC

set_option Elab.async false
set_option linter.all false
set_option maxRecDepth 100000
set_option maxHeartbeats 4000000
namespace SC
open PySem PySem.Spec PyProof.Rows L2
/-! ### rules of my own -/
section
variable {X : Cx}
/-- y = {k: v for ..} on one line, y a local -/
theorem ps_setDc {i : Nat} {y : Str} {py : Pos} {kx vx tg iter : Expr} {ifs : List Expr} {scope : Scope} {own : List (Str × Nat)} {pos spos : Pos} {wi : TI} {g : TG} {tt : TT} {tk tv : TE}
    (hc : X.calm = true) (hN : X.N.Nodup) (hy : X.N[i]? = some y) (hyl : X.env.scope.names.lookup y = some .local)
    (hsw : swapsWith (.DictComp kx vx [⟨tg, iter, ifs, 0⟩] scope pos) (some (.Name y py)) spos.line X.env = pure true)
    (hi : PI X tg iter wi) (ok : BlkOk X.N X.env.scope scope own)
    (hg : ∀ (s : Shared) (H : Hp) (C : Addr) (cl : List (Str × Addr)) (fp : List Addr), PG (X.blk s H scope (compEnvC scope cl C X.env) fp) tg g)
    (ht : ∀ (s : Shared) (H : Hp) (C : Addr) (cl : List (Str × Addr)) (fp : List Addr), PTs (X.blk s H scope (compEnvC scope cl C X.env) fp) ifs tt)
    (hk : ∀ (s : Shared) (H : Hp) (C : Addr) (cl : List (Str × Addr)) (fp : List Addr), PE (X.blk s H scope (compEnvC scope cl C X.env) fp) kx tk)
    (he : ∀ (s : Shared) (H : Hp) (C : Addr) (cl : List (Str × Addr)) (fp : List Addr), PE (X.blk s H scope (compEnvC scope cl C X.env) fp) vx tv)
    (hs : ∀ x, foldedSetIterable iter X.env x = pure x := by intro _; rfl) :
    PS X (.Assign [.Name y py] (.DictComp kx vx [⟨tg, iter, ifs, 0⟩] scope pos) spos) (tAsg (tDc wi g tt tk tv (own.map (·.2))) (gName i)) := by
  refine ⟨fun pins s σ H D I h => ?_⟩
  rw [exec_Assign_Name_used _ _ _ _ hsw]
  have h2 : tDc wi g tt tk tv (own.map (·.2)) σ H (fun x H1 => gName i x σ H1 D.nx) := h
  refine wpAny_bind (wpAny_standAt (wpAny_bind ?_))
  show wpAny _ X.A (do let _ ← comprehension (.DictComp kx vx [⟨tg, iter, ifs, 0⟩] scope pos) scope X.env (firstIterPos [⟨tg, iter, ifs, 0⟩] pos) newDict false (eval iter X.env) (some (assign (.Name y py) X.env))) _ _ s
  refine wpAny_bind (thn (dc_core (Qf := fun _ s' => SP X pins D .next s') hc hN I hi ok hg ht hk he hs h2 fun L C s' m H' I' q hn f => ?_) fun _ _ hq => wpAny_pure (wpAny_pure hq))
  obtain ⟨f0, f1, f2, f3, f4, f5⟩ := f
  show wpAny _ _ (assign (.Name y py) X.env (.ref L)) _ _ _
  refine wpAny_assign_Name (store_ok2 (v := V.ref L) I' hN hy (.inl hyl) rfl (fun s2 I2 w2 => ?_) (.inr hyl))
  obtain ⟨a, sb, ha⟩ := w2
  have haC : C ≠ a := by
    rcases ha with z | z
    · rw [z]; exact f1
    · exact Ne.symm (f4 y a z)
  exact ⟨m, hn.sameBut sb haC, fun h3 sb3 => ⟨_, H', I2.turned (t' := s2.toks) (fun b o hb e => (sb3.2 b hb).trans e) f0 f1 f3 f4 f5, q⟩⟩
theorem sw_trueD {kx vx : Expr} {gs : List Comprehension} {scope : Scope} {pos py : Pos} {y : Str} {l : Nat} {env : Env} (hk : env.scope.kind = .function) (hy : env.scope.names.lookup y = some .local) (hl : (py.line == pos.line) = true)
    (ha : (scope.names.any fun (n, k) => n == y && (k == .local || k == .cell)) = false) : swapsWith (.DictComp kx vx gs scope pos) (some (.Name y py)) l env = pure true := by
  have e1 : env.kindOf y = some .local := hy
  have e2 : env.blockKind = .function := by unfold Env.blockKind; rw [hk]; rfl
  unfold swapsWith
  simp only [e2, e1, ha, Expr.pos, hl]
  rfl
end

/-! dict(d), d a dict with tuple keys -/
theorem kt_call_dictH {prog : Program} {w : World} {K : Type} [DecidableEq K] {knd : HeapKind prog w K} {A : Around} {E : Value → Shared → Prop} {s : Shared} {o : Addr} {more : List (K × Addr × Value)} {Q : Value → Shared → Prop}
    (hu : knd.room A.in1.in1) (hoS : (o == sysModules) = false) (ho : s.heap.DictOfH knd o more) (hty : ∀ x ∈ more, s.TypeIs (.ref x.2.1) "tuple") (hap : (more.map fun x => knd.hash x.1).Nodup) (hsz : more.length ≤ sizeLine)
    (hpush : (s.heap.push { cls := .type "dict", data := .dict #[] }).DictOfH knd o more)
    (h : ∀ h', h'.DictOfH knd s.heap.objs.size more → Heap.SameBut s.heap.objs.size (s.heap.push { cls := .type "dict", data := .dict #[] }) h' → Q (.ref s.heap.objs.size) { s with heap := h' }) :
    wpAny (model prog w) A (call (.type "dict") [.ref o]) Q E s := by
  refine callType_codes (Q₁ := fun obj s1 => obj = .ref s.heap.objs.size ∧ s1 = { s with heap := s.heap.push { cls := .type "dict", data := .dict #[] } }) F.kt_called_dict (F.kt_typeCall_dict_1 _) F.entry_dict_init (kt_code_dict_new _ ⟨rfl, rfl⟩) ?_
  rintro obj s1 ⟨rfl, rfl⟩
  have hnew : (s.heap.push { cls := .type "dict", data := .dict #[] }).DictOfH knd s.heap.objs.size [] := Heap.DictOfH.new s.heap
  have hdo : s.heap.objs.size ≠ o := by
    obtain ⟨_, _, _, hg, _⟩ := ho
    exact Ne.symm (Nat.ne_of_lt (Heap.lt_size hg))
  refine ⟨hnew.typeIs, F.args_dict_init_2 _ _, ?_⟩
  unfold Builtin.«dict.__init__»
  refine wpAny_bind ?_
  unfold Builtin.Dict.selfAndRest
  refine wpAny_bind (wpAny_notOrdered_dict hnew.typeIs ?_)
  show wpAny _ _ (pure (s.heap.objs.size, [Value.ref o])) _ _ _
  refine wpAny_pure ?_
  show wpAny _ _ (Builtin.Dict.updateFrom "dict.__init__" s.heap.objs.size (.ref o) [] .none) _ _ _
  have hn : (more.map (·.1)).Nodup := ho.nodup
  refine updateFrom_dictH (A := A.in1) (R := wants (fun r s2 => r = Value.none ∧ Q (Value.ref s.heap.objs.size) s2) E) .none hu hdo hoS hnew hpush (.inr ⟨fun x hx => ?_, hap⟩) (by simpa using hsz) fun h' hd' ho' hs' => ?_
  · obtain ⟨ob, e1, e2⟩ := hty x hx
    exact ⟨ob, Heap.get?_push_of_some _ e1, e2⟩
  · rw [storedAllH_nil_of_nodup more hn] at hd'
    exact ⟨rfl, h h' hd' hs'⟩
section
variable {X : Cx}
/-- the keys of a told dict hash apart -/
def Apart (X : Cx) (ks : List (List Key)) : Prop := (ks.map fun k => (tupleKind (mixKind X.prog X.w)).hash k).Nodup
theorem kt_keys {H : Hp} : ∀ {kvs : List (List Key × V)} {xs : List (List Key × Addr × Value)}, KT H kvs xs → kvs.map (·.1) = xs.map (·.1)
  | _, _, .nil => rfl
  | _, _, .cons a t => by rw [List.map_cons, List.map_cons, kt_keys t, a.1]
theorem kt_tup {pins : List (Addr × Obj)} {σ : L2.St} {H : Hp} {s : Shared} (I : Inv X pins σ H s) : ∀ {kvs : List (List Key × V)} {xs : List (List Key × Addr × Value)}, KT H kvs xs → ∀ x ∈ xs, s.TypeIs (.ref x.2.1) "tuple"
  | _, _, .nil => fun x hx => by cases hx
  | _, _, .cons a t => fun x hx => by
    rcases List.mem_cons.mp hx with e | hx
    · rw [e]
      obtain ⟨_, its, _, o, h1, h2, _⟩ := (show ObjOk X.prog X.w H s.heap _ (.tup _) from I.hok _ _ a.2.1)
      exact ⟨o, h1, h2⟩
    · exact kt_tup I t x hx
def rDictT (X : Cx) : List V → Hp → VK → Prop := fun xs H Q => ∃ (a : Addr) (kvs : List (List Key × V)), xs = [.ref a] ∧ Rd H a (.dT kvs) ∧ Apart X (kvs.map (·.1)) ∧ ∀ p, H p = none → Q (.ref p) (upd H p (.dT kvs))
theorem dt_new {P : Program} {w : World} {H : Hp} {h' : Heap} {a : Addr} {kvs : List (List Key × V)} {ys : List (List Key × Addr × Value)} (z : kvs.length ≤ sizeLine) (hd : (a == sysModules) = false) (rel : KT H kvs ys) (dd : h'.DictOfH (tupleKind (mixKind P w)) a ys) : ObjOk P w H h' a (.dT kvs) := by
  obtain ⟨o, es, ep, h1, h2, h3, h4, _, h6⟩ := dd
  exact ⟨z, hd, ys, rel, o, es, ep, h1, h2, h3, h4, h6⟩
theorem call_dictT (hu : X.A.units + 2 < cLine) : CallR X (.type "dict") (rDictT X) := by
  intro pins s σ H xs us Q I r q
  obtain ⟨a, kvs, rfl, hd, hap, q⟩ := q
  obtain ⟨u, rfl, rx⟩ := vals1 r
  cases rx
  obtain ⟨z, lo, ys, rel, dd⟩ := dt_rd I.hok hd
  have hl : kvs.length = ys.length := Paired.length rel
  have hf : H s.heap.objs.size = none := I.hok.fresh (Nat.le_refl _)
  have hm : (s.heap.objs.size == sysModules) = false := beq_eq_false_iff_ne.mpr (Nat.ne_of_gt I.big)
  have hty := kt_tup I rel
  have hap2 : (ys.map fun x => (tupleKind (mixKind X.prog X.w)).hash x.1).Nodup := by
    have e : ys.map (fun x => (tupleKind (mixKind X.prog X.w)).hash x.1) = (kvs.map (·.1)).map fun k => (tupleKind (mixKind X.prog X.w)).hash k := by rw [kt_keys rel, List.map_map]; rfl
    rw [e]
    exact hap
  have hpush : (s.heap.push { cls := .type "dict", data := .dict #[] }).DictOfH (tupleKind (mixKind X.prog X.w)) a ys := by
    obtain ⟨o, es, ep, h1, h2, h3, h4, h5, h6⟩ := dd
    exact ⟨o, es, ep, Heap.get?_push_of_some _ h1, h2, h3, h4, fun x hx => tupleKind_stays.stays (fun b o vs n e _ => Heap.get?_push_of_some _ e) (h5 x hx), h6⟩
  refine kt_call_dictH (knd := tupleKind (mixKind X.prog X.w)) (show X.A.units + 1 + 1 < cLine from hu) lo dd hty hap2 (by rw [← hl]; exact z) hpush fun h' d' hs => ?_
  refine ⟨.ref s.heap.objs.size, upd H s.heap.objs.size (.dT kvs), I.laid (t' := s.toks) (fun b u e => (hs.2 b (Nat.ne_of_lt (Heap.lt_size e))).trans (Heap.get?_push_of_some _ e)) (Nat.le_refl _) ?_, rfl, q _ hf⟩
  exact dt_new z hm (rel.keeps fun b ys e => by rw [upd_ne (ne_of_none e hf)]; exact e) d'
end
end SC

set_option Elab.async false
set_option linter.all false
set_option maxRecDepth 100000
set_option maxHeartbeats 4000000
namespace SC
open PySem PySem.Spec PyProof.Rows L2
/-! ### == of two dicts with tuple keys, the same keys in the same order -/
section
variable {prog : Program} {w : World} {K : Type} [DecidableEq K] {knd : HeapKind prog w K} {A : Around} {E : Value → Shared → Prop} {s : Shared}
theorem all_upto {e : Nat → Bool} {n : Nat} (h : ∀ j, j < n → e j = true) : (List.range n).all e = true := List.all_eq_true.mpr fun j hj => h j (List.mem_range.mp hj)
theorem not_all {e : Nat → Bool} {n j : Nat} (hj : j < n) (h : e j = false) : (List.range n).all e = false := by
  cases q : (List.range n).all e with
  | false => rfl
  | true =>
    have z := List.all_eq_true.mp q j (List.mem_range.mpr hj)
    rw [h] at z
    cases z
theorem key_at {xs ys : List (K × Addr × Value)} (hk : xs.map (·.1) = ys.map (·.1)) {i : Nat} {x : K × Addr × Value} (hx : xs[i]? = some x) : ∃ y, ys[i]? = some y ∧ y.1 = x.1 := by
  have h1 : (xs.map (·.1))[i]? = some x.1 := by rw [List.getElem?_map, hx]; rfl
  rw [hk, List.getElem?_map] at h1
  cases q : ys[i]? with
  | none => rw [q] at h1; cases h1
  | some y => rw [q] at h1; exact ⟨y, rfl, Option.some.inj h1⟩
theorem samePairsH {nm : String} {a b : Addr} {xs ys : List (K × Addr × Value)} {Q : Bool → Shared → Prop} (ha : (a == sysModules) = false) (hb : (b == sysModules) = false)
    (da : s.heap.DictOfH knd a xs) (db : s.heap.DictOfH knd b ys) (hu : knd.room A) (hk : xs.map (·.1) = ys.map (·.1)) (e : Nat → Bool)
    (he : ∀ (j : Nat) (x y : K × Addr × Value), xs[j]? = some x → ys[j]? = some y → SeqAt.EqAt A s x.2.2 y.2.2 (e j)) (h : Q ((List.range xs.length).all e) s) :
    wpAny (model prog w) A (Builtin.Dict.samePairs nm a b) Q E s := by
  obtain ⟨oa, es, ep, hoa, _, hda, hea, hisa, hna⟩ := da
  obtain ⟨ob, fs, ep', hob, _, hdb, heb, hisb, hnb⟩ := db
  have la : es.size = xs.length := size_of_entries hea
  have lb : fs.size = ys.length := size_of_entries heb
  have lxy : xs.length = ys.length := by have z := congrArg List.length hk; simpa using z
  unfold Builtin.Dict.samePairs Builtin.Dict.showsAll
  rw [if_neg (by rw [ha]; exact Bool.false_ne_true), if_neg (by rw [hb]; exact Bool.false_ne_true)]
  refine wpAny_bind (wpAny_pure (wpAny_bind (wpAny_pure ?_)))
  refine wpAny_bind (wpAny_dictEntries hoa hda ?_)
  dsimp only
  refine wpAny_bind (wpAny_dictEntries hob hdb ?_)
  rw [if_neg (by rw [la, lb, lxy]; simp)]
  refine wpAny_bind (wpAny_dictEpoch hoa hda ?_)
  refine wpAny_bind ?_
  rw [Std.Legacy.Range.forIn_eq_forIn_range']
  simp only [Std.Legacy.Range.size, Nat.sub_zero, Nat.add_sub_cancel, Nat.div_one]
  refine wpAny_forIn_list _ (fun rest q s' => s' = s ∧ q = (none, ()) ∧ ∃ i, rest = List.range' i (es.size - i) ∧ i ≤ es.size ∧ ∀ j, j < i → e j = true) _ ?_ ?_ _ _ ⟨rfl, rfl, 0, by simp, Nat.zero_le _, fun j hj => absurd hj (Nat.not_lt_zero _)⟩
  · rintro x rest q s' ⟨rfl, rfl, i, hr, hi, hpre⟩
    have hlt : i < es.size := by
      rcases Nat.lt_or_ge i es.size with z | z
      · exact z
      · rw [Nat.sub_eq_zero_of_le z] at hr; simp at hr
    obtain ⟨rfl, hrest⟩ : x = i ∧ rest = List.range' (i + 1) (es.size - (i + 1)) := by
      have z : es.size - i = (es.size - (i + 1)) + 1 := by omega
      rw [z, List.range'_succ] at hr
      injection hr with h1 h2
      exact ⟨h1, h2⟩
    have hxl : x < xs.length := by omega
    obtain ⟨⟨k, ka, v⟩, hx⟩ : ∃ z, xs[x]? = some z := ⟨xs[x], List.getElem?_eq_getElem hxl⟩
    obtain ⟨⟨k', kb, u⟩, hy, ek⟩ := key_at hk hx
    cases (show k' = k from ek)
    refine wpAny_bind (wpAny_dictEntries hoa hda ?_)
    rw [entry_at hea x, hx]
    show wpAny _ _ (holding [.ref ka, v] _ >>= _) _ _ _
    refine wpAny_bind (wpAny_holding (wpAny_bind ?_))
    show wpAny _ _ (dictFind b (.ref ka) (knd.hash k)) _ _ _
    refine wpAny_dictFind_heap hu (hisa (k, ka, v) (List.mem_of_getElem? hx)) hob hdb heb hisb hnb (fun hno => absurd hy (hno x (kb, u))) fun j p hj => ?_
    have ej : j = x := by
      have h1 : (ys.map (·.1))[j]? = some k := by rw [List.getElem?_map, hj]; rfl
      have h2 : (ys.map (·.1))[x]? = some k := by rw [List.getElem?_map, hy]; rfl
      exact nd_ix hnb h1 h2
    subst ej
    refine wpAny_bind (wpAny_dictEntries hob hdb ?_)
    rw [entry_at heb j, hy]
    show wpAny _ _ (holding [u] (eqBool v u)) _ _ _
    refine wpAny_holding (he j _ _ hx hy prog w _ _ ?_)
    cases q : e j with
    | false =>
      show wpAny _ _ (if (!false) = true then _ else _) _ _ _
      rw [if_pos (by decide)]
      rw [not_all hxl q] at h
      exact wpAny_pure (wpAny_pure h)
    | true =>
      show wpAny _ _ (if (!true) = true then _ else _) _ _ _
      rw [if_neg (by decide)]
      refine wpAny_bind (wpAny_dictEpoch hoa hda ?_)
      rw [if_neg (by simp)]
      refine wpAny_pure ⟨rfl, rfl, j + 1, hrest, hlt, fun m hm => ?_⟩
      rcases Nat.lt_succ_iff_lt_or_eq.mp hm with z | z
      · exact hpre m z
      · rw [z]; exact q
  · rintro q s' ⟨rfl, rfl, i, hr, hi, hpre⟩
    have hin : i = es.size := by
      rcases Nat.lt_or_ge i es.size with z | z
      · have y : es.size - i = (es.size - (i + 1)) + 1 := by omega
        rw [y, List.range'_succ] at hr; exact nomatch hr
      · exact Nat.le_antisymm hi z
    rw [all_upto (n := xs.length) fun j hj => hpre j (by omega)] at h
    exact wpAny_pure h
theorem dictEqH {op : CmpOp} {id nm : String} {a b : Addr} {xs ys : List (K × Addr × Value)} {Q : Value → Shared → Prop} (ha : (a == sysModules) = false) (hb : (b == sysModules) = false)
    (da : s.heap.DictOfH knd a xs) (db : s.heap.DictOfH knd b ys) (hu : A.units < cLine) (hr : knd.room A.in1) (hk : xs.map (·.1) = ys.map (·.1)) (e : Nat → Bool)
    (he : ∀ (j : Nat) (x y : K × Addr × Value), xs[j]? = some x → ys[j]? = some y → SeqAt.EqAt A.in1 s x.2.2 y.2.2 (e j)) :
    (∀ (E Q : Value → Shared → Prop), Q (.bool ((List.range xs.length).all e)) s → wpAny (model prog w) A (compareOp .Eq (.ref a) (.ref b)) Q E s) ∧
    (∀ (E Q : Value → Shared → Prop), Q (.bool (!((List.range xs.length).all e))) s → wpAny (model prog w) A (compareOp .NotEq (.ref a) (.ref b)) Q E s) := by
  refine ⟨fun E Q h => ?_, fun E Q h => ?_⟩
  · refine wpAny_richCompare_same_room (op := .Eq) da.typeIs db.typeIs PySem.F.slot_dict_eq (wpAny_call_entry PySem.F.slot_dict_eq da.typeIs PySem.F.entry_dict_eq ?_ (PySem.F.args_dict_eq_2 _ _)) hu
    show wpAny _ _ (Builtin.Dict.dictSlotArgs "__eq__" ⟨[.ref a, .ref b], []⟩ >>= _) _ _ s
    refine wpAny_bind ?_
    unfold Builtin.Dict.dictSlotArgs
    refine wpAny_bind (wpAny_notOrdered_dict da.typeIs ?_)
    show wpAny _ _ (pure (Value.ref a, Value.ref b)) _ _ s
    refine wpAny_pure (wpAny_bind (wpAny_isInstance (T := "dict") db.typeIs PySem.F.sub_dict_dict ?_))
    simp only [Bool.not_true, Bool.false_eq_true, if_false]
    refine wpAny_bind (wpAny_pure (wpAny_bind (wpAny_pure (wpAny_bind (samePairsH ha hb da db hr hk e he ?_)))))
    exact wpAny_pure ⟨_, rfl, (fun x => nomatch x), by simpa using h⟩
  · refine wpAny_richCompare_same_room (op := .NotEq) da.typeIs db.typeIs PySem.F.slot_dict_ne (wpAny_call_entry PySem.F.slot_dict_ne da.typeIs PySem.F.entry_dict_ne ?_ (PySem.F.args_dict_ne_2 _ _)) hu
    show wpAny _ _ (Builtin.Dict.dictSlotArgs "__ne__" ⟨[.ref a, .ref b], []⟩ >>= _) _ _ s
    refine wpAny_bind ?_
    unfold Builtin.Dict.dictSlotArgs
    refine wpAny_bind (wpAny_notOrdered_dict da.typeIs ?_)
    show wpAny _ _ (pure (Value.ref a, Value.ref b)) _ _ s
    refine wpAny_pure (wpAny_bind (wpAny_isInstance (T := "dict") db.typeIs PySem.F.sub_dict_dict ?_))
    simp only [Bool.not_true, Bool.false_eq_true, if_false]
    refine wpAny_bind (wpAny_pure (wpAny_bind (wpAny_pure (wpAny_bind (samePairsH ha hb da db hr hk e he ?_)))))
    exact wpAny_pure ⟨_, rfl, (fun x => nomatch x), by simpa using h⟩
end
end SC

set_option Elab.async false
set_option linter.all false
set_option maxRecDepth 100000
set_option maxHeartbeats 4000000
namespace SC
open PySem PySem.Spec PyProof.Rows L2
/-- the entries of a dict from tuples to ints -/
abbrev tkv (l : List (List Key × Int)) : List (List Key × V) := l.map fun p => (p.1, V.int p.2)
theorem kt_at {H : Hp} : ∀ {kvs : List (List Key × V)} {xs : List (List Key × Addr × Value)} {j : Nat} {x : List Key × Addr × Value}, KT H kvs xs → xs[j]? = some x → ∃ p, kvs[j]? = some p ∧ p.1 = x.1 ∧ RelV p.2 x.2.2
  | _, _, _, _, .nil, e => by simp at e
  | _, _, 0, _, .cons r _, e => by simp at e; subst e; exact ⟨_, rfl, r.1, r.2.2⟩
  | _, _, j + 1, x, .cons _ t, e => by
    obtain ⟨p, h1, h2⟩ := kt_at (j := j) (x := x) t (by simpa using e)
    exact ⟨p, by simpa using h1, h2⟩
def sameV (l m : List (List Key × Int)) (j : Nat) : Bool := decide ((l[j]?.map (·.2)) = (m[j]?.map (·.2)))
theorem same_all : ∀ {l m : List (List Key × Int)}, l.map (·.1) = m.map (·.1) → (List.range l.length).all (sameV l m) = decide (l = m) := by
  intro l m hk
  have hl : l.length = m.length := by have z := congrArg List.length hk; simpa using z
  by_cases h : l = m
  · subst h
    rw [decide_eq_true rfl]
    exact all_upto fun j _ => decide_eq_true rfl
  · rw [decide_eq_false h]
    cases q : (List.range l.length).all (sameV l m) with
    | false => rfl
    | true =>
      refine absurd (List.ext_getElem? fun j => ?_) h
      by_cases hj : j < l.length
      · have z := of_decide_eq_true (List.all_eq_true.mp q j (List.mem_range.mpr hj))
        have y : (l.map (·.1))[j]? = (m.map (·.1))[j]? := by rw [hk]
        rw [List.getElem?_map, List.getElem?_map] at y
        have hj' : j < m.length := by omega
        rw [List.getElem?_eq_getElem hj, List.getElem?_eq_getElem hj'] at z y ⊢
        simp only [Option.map_some, Option.some.injEq] at z y ⊢
        exact Prod.ext y z
      · rw [List.getElem?_eq_none (by omega), List.getElem?_eq_none (by omega)]
section
variable {X : Cx}
def rEqT : R2 := fun x y H Q => ∃ (a b : Addr) (l m : List (List Key × Int)), x = .ref a ∧ y = .ref b ∧ H a = some (.dT (tkv l)) ∧ H b = some (.dT (tkv m)) ∧ l.map (·.1) = m.map (·.1) ∧ Q (.bl (decide (l = m))) H
def rNeT : R2 := fun x y H Q => ∃ (a b : Addr) (l m : List (List Key × Int)), x = .ref a ∧ y = .ref b ∧ H a = some (.dT (tkv l)) ∧ H b = some (.dT (tkv m)) ∧ l.map (·.1) = m.map (·.1) ∧ Q (.bl (!decide (l = m))) H
theorem eqT_both {pins : List (Addr × Obj)} {σ : L2.St} {H : Hp} {s : Shared} {a b : Addr} {l m : List (List Key × Int)} (hu : X.A.units + 1 < cLine) (I : Inv X pins σ H s) (ea : H a = some (.dT (tkv l))) (eb : H b = some (.dT (tkv m))) (hk : l.map (·.1) = m.map (·.1)) :
    (∀ (E Q : Value → Shared → Prop), Q (.bool (decide (l = m))) s → wpAny (model X.prog X.w) X.A (compareOp .Eq (.ref a) (.ref b)) Q E s) ∧
    (∀ (E Q : Value → Shared → Prop), Q (.bool (!decide (l = m))) s → wpAny (model X.prog X.w) X.A (compareOp .NotEq (.ref a) (.ref b)) Q E s) := by
  obtain ⟨_, la, xs, ra, da⟩ := dt_of I.hok ea
  obtain ⟨_, lb, ys, rb, db⟩ := dt_of I.hok eb
  have kx : xs.map (·.1) = l.map (·.1) := by rw [← kt_keys ra, List.map_map]; rfl
  have ky : ys.map (·.1) = m.map (·.1) := by rw [← kt_keys rb, List.map_map]; rfl
  have hlen : xs.length = l.length := by have z := congrArg List.length kx; simpa using z
  have both := dictEqH (op := .Eq) (id := "") (nm := "") (Q := fun _ _ => True) la lb da db (show X.A.units < cLine by omega) (show X.A.units + 1 < cLine from hu) (by rw [kx, ky, hk]) (sameV l m) fun j x y hx hy => by
    obtain ⟨p, hp, _, rp⟩ := kt_at ra hx
    obtain ⟨q, hq, _, rq⟩ := kt_at rb hy
    rw [List.getElem?_map] at hp hq
    unfold sameV
    cases e1 : l[j]? with
    | none => rw [e1] at hp; cases hp
    | some p' =>
      rw [e1] at hp
      cases e2 : m[j]? with
      | none => rw [e2] at hq; cases hq
      | some q' =>
        rw [e2] at hq
        cases hp
        cases hq
        obtain ⟨t, et⟩ := (show ∃ t, x.2.2 = Value.int p'.2 t from rp)
        obtain ⟨u, eu⟩ := (show ∃ t, y.2.2 = Value.int q'.2 t from rq)
        rw [et, eu]
        intro prog w E Q h
        refine wpAny_eqBool_int ?_
        have z : decide ((some p').map (·.2) = (some q').map (·.2)) = (p'.2 == q'.2) := by
          by_cases hh : p'.2 = q'.2
          · simp [hh]
          · simp [hh]
        rw [← z]
        exact h
  rw [hlen, same_all hk] at both
  exact both
theorem op_eqT (hu : X.A.units + 1 < cLine) : OpR X (compareOp .Eq) rEqT := by
  intro pins s σ H x y v u Q I rx ry h
  obtain ⟨a, b, l, m, rfl, rfl, ea, eb, hk, q⟩ := h
  cases (show v = Value.ref a from rx)
  cases (show u = Value.ref b from ry)
  exact (eqT_both hu I ea eb hk).1 _ _ ⟨.bl _, H, I, rfl, q⟩
theorem op_neT (hu : X.A.units + 1 < cLine) : OpR X (compareOp .NotEq) rNeT := by
  intro pins s σ H x y v u Q I rx ry h
  obtain ⟨a, b, l, m, rfl, rfl, ea, eb, hk, q⟩ := h
  cases (show v = Value.ref a from rx)
  cases (show u = Value.ref b from ry)
  exact (eqT_both hu I ea eb hk).2 _ _ ⟨.bl _, H, I, rfl, q⟩
end
end SC

set_option Elab.async false
set_option linter.all false
set_option maxRecDepth 100000
set_option maxHeartbeats 4000000
namespace SC
open PySem PySem.Spec PyProof.Rows L2
/-! ### {**d, k: v}, keys that are tuples -/
section
variable {prog : Program} {w : World} {K : Type} [DecidableEq K] {knd : HeapKind prog w K} {A : Around} {E : Value → Shared → Prop} {s : Shared}
theorem dictPutH {d a : Addr} {xs : List (K × Addr × Value)} {k : K} {v : Value} {Q : Unit → Shared → Prop} (hu : knd.room A) (hkey : knd.is s.heap k a) (hm : s.heap.DictOfH knd d xs)
    (hQ : ∀ h', h'.DictOfH knd d (storedH xs k a v) → Heap.SameBut d s.heap h' → Q () { s with heap := h' }) (hsz : xs.length ≤ sizeLine) :
    wpAny (model prog w) A (dictPut d (knd.hash k) (.ref a) v) Q E s := by
  obtain ⟨o, es, ep, ho, hc, hd, he, his, hn⟩ := hm
  have hse : es.size ≤ sizeLine := by rw [size_of_entries he]; exact hsz
  unfold dictPut
  refine wpAny_bind (wpAny_dictFind_heap hu hkey ho hd he his hn (fun hno => ?_) fun j p hj => ?_)
  · have hnew := storedH_new (atKey_none_of_get hno) a v
    refine wpAny_updateDictKeys (hz := hse) ho hd (hQ _ ?_ (Heap.SameBut.update ..))
    rw [hnew]
    refine ⟨_, _, ep + 1, Heap.get?_update_self _ ho (Obj.isFreed_of_dict (Obj.data_mapDictKeys hd _)), hc.mapDictKeys _, Obj.data_mapDictKeys hd _, by simp [he, entryOfKey], fun x hx => ?_, ?_⟩
    · rcases List.mem_append.mp hx with hx | hx
      · exact knd.keeps (his x hx) ho hd (Heap.SameBut.update ..)
      · rw [List.mem_singleton.mp hx]
        exact knd.keeps hkey ho hd (Heap.SameBut.update ..)
    · rw [List.map_append, List.nodup_append]
      refine ⟨hn, by simp, fun x hx y hy => ?_⟩
      rw [List.map_cons, List.map_nil, List.mem_singleton] at hy
      rw [hy]
      exact fun e => not_mem_keys_of_get hno (show k ∈ xs.map (·.1) from (show x = k from e) ▸ hx)
  · have hold := storedH_old (atKey_of_get hn hj) a v
    refine wpAny_updateDict ho hd (hQ _ ?_ (Heap.SameBut.update ..))
    rw [hold]
    refine ⟨_, _, ep, Heap.get?_update_self _ ho (Obj.isFreed_of_dict (Obj.data_mapDict hd _)), hc.mapDict _, Obj.data_mapDict hd _, ?_, fun x hx => ?_, by rw [keys_map_putAt]; exact hn⟩
    · have z := modify_map_putAt (entryOfKey knd) (fun e : DictEntry => { e with val := v }) k v (fun _ _ => rfl) hn hj
      rw [← he] at z
      obtain ⟨l⟩ := es
      simpa using z
    · obtain ⟨y, hy, rfl⟩ := List.mem_map.mp hx
      unfold putAt
      split <;> exact knd.keeps (his y hy) ho hd (Heap.SameBut.update ..)
theorem mergeH {d o : Addr} {xs ys : List (K × Addr × Value)} {Q : Unit → Shared → Prop} (hu : knd.room A) (hdo : d ≠ o) (hoS : (o == sysModules) = false) (hd : s.heap.DictOfH knd d xs) (ho : s.heap.DictOfH knd o ys)
    (hap : xs ≠ [] ∨ ((∀ x ∈ ys, s.TypeIs (.ref x.2.1) "tuple") ∧ (ys.map fun x => knd.hash x.1).Nodup)) (hsz : xs.length + ys.length ≤ sizeLine)
    (hQ : ∀ h', h'.DictOfH knd d (storedAllH xs ys) → h'.DictOfH knd o ys → Heap.SameBut d s.heap h' → Q () { s with heap := h' }) :
    wpAny (model prog w) A (mergeMapping d (.ref o) false) Q E s := by
  obtain ⟨od, esd, epd, hod, hcd, hdd, hed, hisd, hnd⟩ := id hd
  obtain ⟨oo, eso, epo, hoo, hco, hdo', heo, hiso, hno⟩ := id ho
  have hlen : eso.size = ys.length := size_of_entries heo
  unfold mergeMapping
  refine wpAny_bind (wpAny_isInstance ho.typeIs isSubtype_dict_dict ?_)
  dsimp only
  rw [if_pos rfl]
  refine wpAny_bind (wpAny_specialOf ho.typeIs F.slot_dict_iter.lookup (wpAny_bind (wpAny_pure ?_)))
  simp only [beq_self_eq_true]
  rw [if_neg (by rw [hoS]; exact Bool.false_ne_true)]
  refine wpAny_bind (wpAny_dictEntries hod hdd ?_)
  refine wpAny_ite_split (fun hemp => ?g1) (fun _ => ?g2)
  case' g1 =>
    have hx0 : xs = [] := by
      have h0 : esd = #[] := Array.isEmpty_iff.mp hemp
      have z := size_of_entries hed
      rw [h0] at z
      exact List.length_eq_zero_iff.mp (by simpa using z.symm)
    have hap2 := hap.resolve_left fun z => z hx0
    have kap := keysApart heo hap2.1 hap2.2
    have hall0 : ∀ e ∈ eso.toList, ∃ a, e.key = .ref a ∧ s.TypeIs (.ref a) "tuple" ∧ (eso.filter (·.hash == e.hash)).size ≤ 1 := fun e he => by
      have hm := he
      rw [heo] at hm
      obtain ⟨x, hx, ex⟩ := List.mem_map.mp hm
      rcases kap e he with hv | z
      · exfalso
        rw [← ex] at hv
        cases hv
      · exact z
    refine wpAny_bind (wpAny_dictEntries hoo hdo' ?_)
    refine wpAny_bind (MeetsSeq2.wpAny_forIn_array _ (fun rest _ s' => s' = s ∧ ∀ e ∈ rest, ∃ a, e.key = .ref a ∧ s.TypeIs (.ref a) "tuple" ∧ (eso.filter (·.hash == e.hash)).size ≤ 1) _ ?_ ?_ _ _ ⟨rfl, hall0⟩)
    · rintro e rest b s' ⟨rfl, hall⟩
      obtain ⟨a, hk, hT, h1⟩ := hall e List.mem_cons_self
      have hrest := fun x hx => hall x (List.mem_cons_of_mem _ hx)
      rw [hk]
      refine wpAny_bind (wpAny_specialOf hT F.slot_tuple_eq.lookup ?_)
      refine wpAny_ite_split (fun _ => ?_) (fun _ => wpAny_pure ⟨rfl, hrest⟩)
      rw [if_neg (by omega)]
      exact wpAny_pure ⟨rfl, hrest⟩
    rintro b s' ⟨e', _⟩
    rw [e']
  all_goals
    refine wpAny_bind (wpAny_dictEntries hoo hdo' ?_)
    refine wpAny_bind (wpAny_dictEpoch hoo hdo' ?_)
    refine wpAny_bind ?_
    rw [List.range_eq_range']
    refine wpAny_forIn_list _ (fun rest _ s' => ∃ h' i, s' = { s with heap := h' } ∧ rest = List.range' i (eso.size - i) ∧ i ≤ eso.size ∧ h'.DictOfH knd d (storedAllH xs (ys.take i)) ∧ h'.DictOfH knd o ys ∧ h'.get? o = some oo ∧ Heap.SameBut d s.heap h') _ ?_ ?_ _ _
      ⟨s.heap, 0, rfl, by simp, Nat.zero_le _, by simpa [storedAllH] using hd, ho, hoo, Heap.SameBut.refl _ _⟩
    · rintro x rest b s' ⟨h', i, rfl, hr, hi, hd2, ho2, hoo2, hs2⟩
      have hlt : i < eso.size := by
        rcases Nat.lt_or_ge i eso.size with z | z
        · exact z
        · rw [Nat.sub_eq_zero_of_le z] at hr; simp at hr
      obtain ⟨rfl, hrest⟩ : x = i ∧ rest = List.range' (i + 1) (eso.size - (i + 1)) := by
        have z : eso.size - i = (eso.size - (i + 1)) + 1 := by omega
        rw [z, List.range'_succ] at hr
        injection hr with h1 h2
        exact ⟨h1, h2⟩
      refine wpAny_bind (wpAny_dictEntries hoo2 hdo' ?_)
      obtain ⟨⟨k, a, v⟩, hkv⟩ : ∃ kv, ys[x]? = some kv := ⟨ys[x]'(by rw [← hlen]; exact hlt), List.getElem?_eq_getElem _⟩
      rw [entry_at heo x, hkv]
      show wpAny _ _ (holding [.ref a, v] (if false = true then _ else dictPut d (knd.hash k) (.ref a) v) >>= _) _ _ _
      have hmx : (storedAllH xs (ys.take x)).length ≤ sizeLine := by
        have e1 := storedAllH_length (ys.take x) xs
        have e2 : (ys.take x).length ≤ ys.length := by rw [List.length_take]; omega
        omega
      have hkey : knd.is h' k a := by
        obtain ⟨_, _, _, _, _, _, _, his', _⟩ := ho2
        exact his' (k, a, v) (List.mem_of_getElem? hkv)
      rw [if_neg Bool.false_ne_true]
      refine wpAny_bind (wpAny_holding (dictPutH (s := { s with heap := h' }) hu hkey hd2 (fun h3 hd3 hs3 => ?_) hmx))
      have hoo3 : h3.get? o = some oo := (hs3.2 o (Ne.symm hdo)).trans hoo2
      refine wpAny_bind (wpAny_dictEpoch hoo3 hdo' ?_)
      rw [if_neg (by simp)]
      exact wpAny_pure ⟨h3, x + 1, rfl, hrest, hlt, by rw [storedAllH_take_succ xs ys x (k, a, v) hkv]; exact hd3, ho2.notHere hd2 hdo hs3, hoo3, hs2.trans hs3⟩
    · rintro b s' ⟨h', i, rfl, hr, hi, hd2, ho2, hoo2, hs2⟩
      have hin : i = eso.size := by
        rcases Nat.lt_or_ge i eso.size with z | z
        · have y : eso.size - i = (eso.size - (i + 1)) + 1 := by omega
          rw [y, List.range'_succ] at hr; exact nomatch hr
        · exact Nat.le_antisymm hi z
      refine wpAny_pure (hQ h' ?_ ho2 hs2)
      rw [hin, hlen, List.take_length] at hd2
      exact hd2
end
end SC

set_option Elab.async false
set_option linter.all false
set_option maxRecDepth 100000
set_option maxHeartbeats 4000000
namespace SC
open PySem PySem.Spec PyProof.Rows L2
section
variable {X : Cx}
def tMergeT (X : Cx) (tm tk tv : TE) : TE := fun σ H Q => ∀ p, H p = none → tm σ (upd H p (.dT [])) fun x H1 => ∃ (a : Addr) (kvs : List (List Key × V)), x = .ref a ∧ H1 p = some (.dT []) ∧ Rd H1 a (.dT kvs) ∧ kvs ≠ [] ∧ Apart X (kvs.map (·.1)) ∧
  ∀ q, (upd H1 p (.dT kvs)) q = none → tk σ (upd (upd H1 p (.dT kvs)) q (.dT [])) fun y H2 => tv σ H2 fun z H3 => H3 p = some (.dT kvs) ∧ H3 q = some (.dT []) ∧
    ∃ (b : Addr) (k : List Key), y = .ref b ∧ H3 b = some (.tup (k.map kV)) ∧ kvs.length < sizeLine ∧ Q (.ref p) (upd (upd H3 q (.dT [(k, z)])) p (.dT (putK kvs k z)))
theorem pe_mergeT {m k v : Expr} {tm tk tv : TE} {pos : Pos} (hu : X.A.units + 1 < cLine) (hm : PE X m tm) (hk : PE X k tk) (hv : PE X v tv) : PE X (.Dict [none, some k] [m, v] pos) (tMergeT X tm tk tv) := by
  refine ⟨fun pins s σ H Q I h => ?_⟩
  have hr : X.A.units < cLine := by omega
  rw [arm_eval_Dict]
  refine wpAny_bind (wpAny_standAt ?_)
  show wpAny _ _ (dictDisplay [(none, do let x ← eval m X.env; standAt pos; pure x), (some (eval k X.env), do let x ← eval v X.env; standAt pos; pure x)]) _ _ _
  unfold dictDisplay
  dsimp only
  rw [List.forIn_cons]
  refine wpAny_bind (wpAny_bind ?_)
  dsimp only
  rw [if_pos (show ([] : List (Sem Value × Sem Value)).isEmpty = true from rfl)]
  refine wpAny_bind (wpAny_pure ?_)
  dsimp only
  refine wpAny_bind (wpAny_alloc ?_)
  -- the new dict
  generalize hp : s.heap.objs.size = p
  have hn : H p = none := I.hok.fresh (Nat.le_of_eq hp)
  have I1 : Inv X pins σ (upd H p (.dT [])) { s with heap := s.heap.push { cls := .type "dict", data := .dict #[] } } := by
    rw [← hp]
    exact I.laid (t' := s.toks) (fun _ _ q => Heap.get?_push_of_some _ q) (Nat.le_refl _) (dt_empty s.heap I.big)
  refine wpAny_bind (wpAny_holding (wpAny_bind (thn (hm.run pins _ σ _ _ I1 (h p hn)) fun mv s2 hm2 => ?_)))
  obtain ⟨x, H1, I2, rx, a, kvs, rfl, hp1, hra, hne, hap, rest⟩ := hm2
  cases (show mv = Value.ref a from rx)
  refine wpAny_bind (wpAny_standAt (wpAny_pure ?_))
  obtain ⟨_, loP, ps, relP, ddP⟩ := dt_of I2.hok hp1
  cases relP
  obtain ⟨zA, loA, ys, relA, ddA⟩ := dt_rd I2.hok hra
  have hpa : p ≠ a := by
    rintro rfl
    rcases hra with e | ⟨o, e⟩
    · rw [hp1] at e
      injection e with e
      injection e with e
      exact hne e.symm
    · rw [hp1] at e
      injection e with e
      cases e
  have hap2 : (ys.map fun x => (tupleKind (mixKind X.prog X.w)).hash x.1).Nodup := by
    have e : ys.map (fun x => (tupleKind (mixKind X.prog X.w)).hash x.1) = (kvs.map (·.1)).map fun k => (tupleKind (mixKind X.prog X.w)).hash k := by rw [kt_keys relA, List.map_map]; rfl
    rw [e]
    exact hap
  have hl : kvs.length = ys.length := Paired.length relA
  have first : ∀ (E' : Value → Shared → Prop) (Q' : Unit → Shared → Prop), (∀ h', Inv X pins σ (upd H1 p (.dT kvs)) { s2 with heap := h' } → Q' () { s2 with heap := h' }) → wpAny (model X.prog X.w) X.A (mergeMapping p (.ref a) false) Q' E' s2 := fun E' Q' hq => by
    refine mergeH (knd := tupleKind (mixKind X.prog X.w)) hr hpa loA ddP ddA (.inr ⟨kt_tup I2 relA, hap2⟩) (by rw [List.length_nil, ← hl]; omega) fun h' d' _ hs => hq h' ?_
    rw [storedAllH_nil_of_nodup ys ddA.nodup] at d'
    have hex : ∃ q, h'.get? p = some q := let ⟨q, _, _, hq, _⟩ := d'; ⟨q, hq⟩
    exact d_write (t' := s2.toks) I2 (by rw [hp1]; exact True.intro) hs hex (dt_new zA loP (relA.keeps fun b ys e => by rw [upd_ne (ne_of e hp1 fun z => nomatch z)]; exact e) d')
  refine wpAny_bind (wpAny_onRaise (wpAny_tryCatch (wpAny_onRaise (wpAny_holding (first _ _ fun h' I3 => ?_)))))
  refine wpAny_pure ?_
  dsimp only
  rw [List.forIn_cons]
  refine wpAny_bind ?_
  dsimp only
  rw [if_neg (show ¬ (([] ++ [(eval k X.env, do let x ← eval v X.env; standAt pos; pure x)] : List (Sem Value × Sem Value)).length == 17) = true by simp)]
  refine wpAny_pure ?_
  dsimp only
  rw [List.forIn_nil]
  refine wpAny_pure ?_
  dsimp only
  rw [if_neg (by simp)]
  refine wpAny_bind (wpAny_bind (wpAny_holding ?_))
  generalize hs3 : ({ s2 with heap := h' } : Shared) = s3 at I3 ⊢
  generalize hq : s3.heap.objs.size = q
  have hqn : (upd H1 p (.dT kvs)) q = none := I3.hok.fresh (Nat.le_of_eq hq)
  have I4 : Inv X pins σ (upd (upd H1 p (.dT kvs)) q (.dT [])) { s3 with heap := s3.heap.push { cls := .type "dict", data := .dict #[] } } := by
    rw [← hq]
    exact I3.laid (t' := s3.toks) (fun _ _ q => Heap.get?_push_of_some _ q) (Nat.le_refl _) (dt_empty s3.heap I3.big)
  refine wpAny_subDictH (knd := tupleKind (mixKind X.prog X.w)) hr (by simp) ?_
  rw [hq]
  show wpAny _ _ (evalPairs [(eval k X.env, do let x ← eval v X.env; standAt pos; pure x)]) _ _ _
  refine evalPairs_cons (thn (hk.run pins _ σ _ _ I4 (rest q hqn)) fun kv s4 hk4 => ?_)
  obtain ⟨y, H2, I5, ry, hk5⟩ := hk4
  refine wpAny_bind (thn (hv.run pins _ σ _ _ I5 hk5) fun vv s5 hv5 => wpAny_bind (wpAny_standAt (wpAny_pure ?_)))
  obtain ⟨z, H3, I6, rz, hp3, hq3, b, kk, rfl, hb, hz, Qz⟩ := hv5
  cases (show kv = Value.ref b from ry)
  refine evalPairs_nil ?_
  obtain ⟨_, loQ, qs, relQ, ddQ⟩ := dt_of I6.hok hq3
  cases relQ
  have hkey := key_of I6.hok hb
  refine ⟨[(kk, b, vv)], ⟨rfl, rfl, hkey, trivial⟩, ddQ, fun h6 t6 d6 hs6 => ?_⟩
  -- the small dict stands
  have I7 : Inv X pins σ (upd H3 q (.dT [(kk, z)])) { s5 with heap := h6, toks := t6 } := by
    have hex : ∃ o, h6.get? q = some o := let ⟨o, _, _, ho, _⟩ := d6; ⟨o, ho⟩
    refine d_write (t' := t6) I6 (by rw [hq3]; exact True.intro) hs6 hex (dt_new (by rw [List.length_singleton, sizeLine_eq]; decide) loQ ?_ d6)
    exact .cons ⟨rfl, by rw [upd_ne (ne_of hb hq3 fun z => nomatch z)]; exact hb, rz⟩ .nil
  have hpq : p ≠ q := by
    rintro rfl
    rw [hp3] at hq3
    injection hq3 with e
    injection e with e
    exact hne e
  have hp7 : (upd H3 q (.dT [(kk, z)])) p = some (.dT kvs) := by rw [upd_ne hpq]; exact hp3
  have hq7 : (upd H3 q (.dT [(kk, z)])) q = some (.dT [(kk, z)]) := upd_same
  have hb7 : (upd H3 q (.dT [(kk, z)])) b = some (.tup (kk.map kV)) := by rw [upd_ne (ne_of hb hq3 fun z => nomatch z)]; exact hb
  obtain ⟨zP, loP7, ps7, relP7, ddP7⟩ := dt_of I7.hok hp7
  obtain ⟨_, loQ7, qs7, relQ7, ddQ7⟩ := dt_of I7.hok hq7
  have lP7 : kvs.length = ps7.length := Paired.length relP7
  obtain ⟨⟨k7, b7, v7⟩, rfl, e7k, e7b, e7v⟩ : ∃ e, qs7 = [e] ∧ kk = e.1 ∧ (upd H3 q (.dT [(kk, z)])) e.2.1 = some (.tup (kk.map kV)) ∧ RelV z e.2.2 := by
    cases relQ7 with
    | cons r t =>
      cases t
      exact ⟨_, rfl, r.1, r.2.1, r.2.2⟩
  cases (show kk = k7 from e7k)
  refine wpAny_bind (wpAny_onRaise (wpAny_holding ?_))
  refine mergeH (knd := tupleKind (mixKind X.prog X.w)) hr hpq loQ7 ddP7 ddQ7 (.inl ?_) (by rw [List.length_singleton, ← lP7]; omega) fun h8 d8 _ hs8 => ?_
  · intro e
    rw [e] at lP7
    exact hne (List.length_eq_zero_iff.mp lP7)
  refine wpAny_pure ?_
  dsimp only
  refine wpAny_pure ⟨.ref p, _, ?_, rfl, Qz⟩
  have hl8 : (putK kvs kk z).length ≤ sizeLine := by have e := length_putK kvs kk z; omega
  have hex8 : ∃ o, h8.get? p = some o := let ⟨o, _, _, ho, _⟩ := d8; ⟨o, ho⟩
  refine d_write (s := { s5 with heap := h6, toks := t6 }) (t' := t6) I7 (by rw [hp7]; exact True.intro) hs8 hex8 (dt_new hl8 loP7 ?_ d8)
  exact (relP7.put kk (show (upd H3 q (.dT [(kk, z)])) b7 = _ from e7b) e7v).keeps fun c ws e => by rw [upd_ne (ne_of e hp7 fun z => nomatch z)]; exact e
end
end SC

set_option Elab.async false
set_option linter.all false
set_option maxRecDepth 100000
set_option maxHeartbeats 4000000
namespace SC
open PySem PySem.Spec PyProof.Rows L2
section
variable {prog : Program} {w : World} {A : Around} {E : Value → Shared → Prop} {s : Shared} {K : PySem.W.Frag} {x C f : Addr} {ox : Obj} {od : Option Obj}
theorem call_objNe {b : Value} {Q : Value → Shared → Prop} (hu : A.units + 1 < cLine) (X : K.In s.heap) (J : PySem.W.InstAt s.heap x ox C od) (hm : PySem.W.mroIn K C (.type "object") = some true)
    (hs : PySem.W.findIn K (.ref C) "__eq__" = some (some (.ref f))) (hf : PySem.W.isFn K (.ref f) = true)
    (h : wpAny (model prog w) A.in1 (call (.ref f) [.ref x, b]) (fun v s' => ∃ r, v = .bool r ∧ Q (.bool (!r)) s') E s) :
    wpAny (model prog w) A (call (.builtin "object.__ne__") [.ref x, b]) Q E s := by
  refine wpAny_call (codeAny_call_builtin F.cmp_object.ne.plain F.cmpEntry_ne ?_)
  simp only [checkBuiltinCall, F.cmpKind_ne, F.cmpSplit_ne]
  refine wpAny_bind ?_
  unfold isInstance
  refine wpAny_bind (J.type.here ((PySem.W.looks_mroIn X hm).here ?_))
  rw [if_neg (show ¬ (!true) = true by decide)]
  have body : wpAny (model prog w) A.in1 (Builtin.«object.__ne__» ⟨[.ref x, b], []⟩) (fun fin s' => match fin with
      | .done fl => wants Q E (.ok fl) s'
      | .again c' => c'.quiet = true ∧ codeAny (model prog w) A c' (wants Q E) s') (fun e s' => E e s') s := by
    unfold Builtin.«object.__ne__»
    refine wpAny_bind ?_
    show wpAny _ _ (pure (Value.ref x, [b])) _ _ _
    refine wpAny_pure ?_
    dsimp only
    refine wpAny_bind (wpAny_cRoomFor hu ?_)
    refine wpAny_bind (PySem.W.ifBound_K X J hs hf (wpAny_mono h (fun v s' z => ?_) fun _ _ z => z))
    obtain ⟨r, rfl, q⟩ := z
    dsimp only
    refine wpAny_bind (wpAny_truthy_bool ?_)
    exact wpAny_pure q
  cases hsig : Manifest.signature? "object.__ne__" with
  | none => exact wpAny_pure body
  | some sig =>
    have ha := F.cmpArgs_ne (.ref x) b
    simp only [argsOk, hsig] at ha
    show wpAny _ _ (Bind.checkArgs "object.__ne__" sig ⟨[.ref x, b], []⟩) _ _ _
    rw [ha]
    exact wpAny_pure body
/-- x != b of an instance whose class has an own == and object's != -/
theorem neOwn {L : Addr} {m : Str → Option Value} {h0 : Heap} {tb b : Value} {Q : Value → Shared → Prop} (hu : A.units + 1 < cLine) (X : K.In s.heap) (J : PySem.W.InstAt s.heap x ox C od)
    (hb : PySem.W.Looks (model prog w) s.heap (typeOf b) tb) (hn : PySem.W.notFirst K C tb = true) (hm : PySem.W.mroIn K C (.type "object") = some true)
    (hs : PySem.W.findIn K (.ref C) "__eq__" = some (some (.ref f))) (hf : PySem.W.isFn K (.ref f) = true) (hne : PySem.W.findIn K (.ref C) "__ne__" = some (some (.builtin "object.__ne__")))
    (h : wpAny (model prog w) A.in1 (call (.ref f) [.ref x, b]) (fun v s' => ∃ r, v = .bool r ∧ Q (.bool (!r)) s') E s) :
    wpAny (model prog w) A (richCompare .NotEq (.ref x) b) Q E s := by
  have one : wpAny (model prog w) A (tryCompare (.ref x) "__ne__" b) (fun r s' => ∃ v, r = some v ∧ Q v s') E s := by
    unfold tryCompare
    have cl := call_objNe (Q := fun v s' => ∃ r, v = .bool r ∧ Q v s') hu X J hm hs hf (wpAny_mono h (fun v s' z => by obtain ⟨r, e, q⟩ := z; exact ⟨r, e, _, rfl, q⟩) fun _ _ z => z)
    refine wpAny_bind (Q := _) ?_
    simp only [callSpecialIfBound?, bindSpecialIfBound?]
    refine wpAny_holding (wpAny_bind (wpAny_bind (wpAny_bind (J.type.here ((PySem.W.looks_findIn X hne).here ?_)))))
    simp only [F.cmp_object.ne.bind]
    have fin : wpAny (model prog w) A (call (.builtin "object.__ne__") ([.ref x] ++ [b]) >>= fun v => pure (some v)) (fun r s' => ∃ v r', r = some v ∧ v = .bool r' ∧ Q v s') E s :=
      wpAny_bind (wpAny_mono cl (fun v s' z => by obtain ⟨r, e, q⟩ := z; exact wpAny_pure ⟨v, r, rfl, e, q⟩) fun _ _ z => z)
    have nxt := wpAny_mono fin (Q' := fun a s' => wpAny (model prog w) A (match a with
      | some Value.notImplemented => pure none
      | none => pure none
      | some z => pure (some z)) (fun r s' => ∃ v, r = some v ∧ Q v s') E s') (fun r s' z => by
        obtain ⟨v, r', rfl, rfl, q⟩ := z
        exact wpAny_pure ⟨_, rfl, q⟩) (E' := E) fun _ _ z => z
    refine wpAny_bind (wpAny_askSetting (wpAny_ite ?_))
    split
    · exact wpAny_bind (wpAny_pure (wpAny_pure nxt))
    · exact wpAny_tryCatch (wpAny_bind (wpAny_pure (wpAny_pure nxt)))
  unfold richCompare
  simp only [oneThing_ref]
  refine wpAny_holding (wpAny_bind (wpAny_cRoomFor (show A.units < cLine by omega) ?_))
  refine wpAny_bind (J.type.here (wpAny_bind (hb.here ?_)))
  split
  · rename_i q
    have e : PySem.W.subIn K tb (.ref C) = some false := by
      rcases Bool.or_eq_true_iff.mp hn with e | e
      · rw [beq_iff_eq.mp e] at q; simp at q
      · exact beq_iff_eq.mp e
    refine wpAny_bind ((PySem.W.looks_subIn X e).here ?_)
    simp only [Bool.false_eq_true, if_false]
    refine wpAny_bind (wpAny_mono one (fun r s' z => ?_) fun _ _ e => e)
    obtain ⟨v, rfl, hq⟩ := z
    exact wpAny_pure hq
  · refine wpAny_bind (wpAny_pure ?_)
    simp only [Bool.false_eq_true, if_false]
    refine wpAny_bind (wpAny_mono one (fun r s' z => ?_) fun _ _ e => e)
    obtain ⟨v, rfl, hq⟩ := z
    exact wpAny_pure hq
end
end SC

set_option Elab.async false
set_option linter.all false
set_option maxRecDepth 100000
set_option maxHeartbeats 4000000
namespace SC
open PySem PySem.Spec PyProof.Rows L2
open C8 (Cal Met Mak)
section
variable {X : Cx} {k : Nat} {C : Addr} {sp : Sp} {m : Str}
/-- the callee runs one deeper -/
theorem run_in1 {pins : List (Addr × Obj)} {σ : L2.St} {H : Hp} {s : Shared} {Q : VK} {us ds : List Value} {vs dvs : List V} {f : Addr} {fd : FuncData} {ps : List Str} (F : FnOk X.prog X.w X.K X.mg X.base C8.CX0 k f fd ps sp) (hr : Room (k + 1) X.A) (hb : Binds X.K fd ps ds) (hd : Vals dvs ds)
    (I : Inv X pins σ H s) (r : Vals vs us) (h : sp (vs ++ dvs) H Q E0) : wpAny (model X.prog X.w) X.A.in1 (call (.ref f) us) (EP X pins σ Q) X.xe s := by
  have r2 : Vals (vs ++ dvs) (us ++ ds) := r.append hd
  have hl : (us ++ ds).length = ps.length := by rw [← r2.length]; exact F.len _ _ _ _ h
  refine wpAny_call (codeAny_mono (F.run X.A.in1 X.stack s H ⟨us, []⟩ (us ++ ds) (vs ++ dvs) Q E0 hr.in1 I.env0.in1 (hb s us I.kIn hl) r2 h) fun z s' hq => ?_)
  cases z with
  | error e => exact False.elim hq
  | ok fl =>
    cases fl with
    | ret u => exact I.after hq
    | next => exact False.elim hq
    | brk => exact False.elim hq
    | cont => exact False.elim hq
theorem ins_at {pins : List (Addr × Obj)} {σ : L2.St} {H : Hp} {s : Shared} {a dx : Addr} {fs : List (Str × V)} (I : Inv X pins σ H s) (e : H a = some (.ins C dx fs)) : ∃ od, PySem.W.InstAt s.heap a (PySem.W.instObj C dx) C (some od) := by
  obtain ⟨mA, O, _⟩ := ins_get I.hok e
  obtain ⟨od, J, _⟩ := O.look
  exact ⟨od, J⟩
/-- a == b, an own __eq__ -/
def rOwnE (K : PySem.W.Frag) (C : Addr) (sp : Sp) (neg : Bool) : R2 := fun x y H Q => ∃ (a dx b C' dy : Addr) (fs gs : List (Str × V)), x = .ref a ∧ y = .ref b ∧ H a = some (.ins C dx fs) ∧ H b = some (.ins C' dy gs) ∧ PySem.W.notFirst K C (.ref C') = true ∧
  sp [x, y] H (fun v H' => ∃ r, v = .bl r ∧ Q (.bl (if neg then !r else r)) H') E0
theorem op_eqOwn (M : Met X.prog X.w X.K X.mg X.base k C "__eq__" sp []) (hr : Room k X.A) : OpR X (compareOp .Eq) (rOwnE X.K C sp false) := by
  intro pins s σ H x y v u Q I rx ry h
  obtain ⟨a, dx, b, C', dy, fs, gs, rfl, rfl, ea, eb, hn, q⟩ := h
  cases (show v = Value.ref a from rx)
  cases (show u = Value.ref b from ry)
  obtain ⟨f, fd, ps, ds, c, me, F, bi, dv⟩ := M.ex
  obtain ⟨od, J⟩ := ins_at I ea
  obtain ⟨od', J'⟩ := ins_at I eb
  obtain ⟨mm, hF⟩ := I.fr
  refine PySem.W.cmp_K (op := .Eq) (tb := .ref C') hr.units0 hF I.ok.mod.kin J J'.type hn me.at_ me.fn ?_
  refine wpAny_mono (run_fn (us := [.ref a, .ref b]) (vs := [.ref a, .ref b]) F hr bi dv C8.pass0 I (.cons rfl (.cons rfl .nil)) (by rw [List.append_nil]; exact q)) (fun z s' hz => ?_) fun _ _ x => x
  obtain ⟨zv, H', I', rz, r, rfl, qz⟩ := hz
  cases (show z = Value.bool r from rz)
  exact ⟨.bl r, H', I', rfl, qz⟩
theorem op_neOwn (M : Met X.prog X.w X.K X.mg X.base k C "__eq__" sp []) (hr : Room (k + 1) X.A) (hm : PySem.W.mroIn X.K C (.type "object") = some true) (hne : PySem.W.findIn X.K (.ref C) "__ne__" = some (some (.builtin "object.__ne__"))) : OpR X (compareOp .NotEq) (rOwnE X.K C sp true) := by
  intro pins s σ H x y v u Q I rx ry h
  obtain ⟨a, dx, b, C', dy, fs, gs, rfl, rfl, ea, eb, hn, q⟩ := h
  cases (show v = Value.ref a from rx)
  cases (show u = Value.ref b from ry)
  obtain ⟨f, fd, ps, ds, c, me, F, bi, dv⟩ := M.ex
  obtain ⟨od, J⟩ := ins_at I ea
  obtain ⟨od', J'⟩ := ins_at I eb
  have hu := hr.units
  refine neOwn (L := a) (m := fun _ => none) (h0 := s.heap) (tb := .ref C') (by omega) I.kIn J J'.type hn hm me.at_ me.fn hne ?_
  refine wpAny_mono (run_in1 (us := [.ref a, .ref b]) (vs := [.ref a, .ref b]) F hr bi dv I (.cons rfl (.cons rfl .nil)) (by rw [List.append_nil]; exact q)) (fun z s' hz => ?_) fun _ _ x => x
  obtain ⟨zv, H', I', rz, r, rfl, qz⟩ := hz
  cases (show z = Value.bool r from rz)
  exact ⟨r, rfl, .bl (!r), H', I', rfl, qz⟩
/-- len(a), an own __len__ -/
def rLenO (C : Addr) (sp : Sp) : List V → Hp → VK → Prop := fun xs H Q => ∃ (a dx : Addr) (fs : List (Str × V)), xs = [.ref a] ∧ H a = some (.ins C dx fs) ∧ sp [.ref a] H (fun v H' => ∃ n : Int, v = .int n ∧ (0 ≤ n ∧ n < 2 ^ 63) ∧ Q (.int n) H') E0
theorem call_lenO (M : Met X.prog X.w X.K X.mg X.base k C "__len__" sp []) (hr : Room (k + 1) X.A) : CallR X (.builtin "len") (rLenO C sp) := by
  intro pins s σ H xs us Q I r h
  obtain ⟨a, dx, fs, rfl, ea, q⟩ := h
  obtain ⟨u, rfl, rx⟩ := vals1 r
  cases (show u = Value.ref a from rx)
  obtain ⟨f, fd, ps, ds, c, me, F, bi, dv⟩ := M.ex
  obtain ⟨od, J⟩ := ins_at I ea
  obtain ⟨mm, hF⟩ := I.fr
  refine PySem.W.len_K hF I.ok.mod.kin J me.at_ me.fn ?_
  refine wpAny_mono (run_in1 (us := [.ref a]) (vs := [.ref a]) F hr bi dv I (.cons rfl .nil) (by rw [List.append_nil]; exact q)) (fun z s' hz => ?_) fun _ _ x => x
  obtain ⟨zv, H', I', rz, n, rfl, hn, qz⟩ := hz
  obtain ⟨t, rfl⟩ := (show ∃ t, z = Value.int n t from rz)
  exact ⟨hn, .int n, H', I'.tok _, ⟨_, rfl⟩, qz⟩
/-- a[i], an own __getitem__ -/
def rIxO (C : Addr) (sp : Sp) : R2 := fun x y H Q => ∃ (a dx : Addr) (fs : List (Str × V)), x = .ref a ∧ H a = some (.ins C dx fs) ∧ sp [x, y] H Q E0
def SubT (b : Expr) : Prop := ∀ o i, subscripted b true o i = runValue (.builtin "lifetime.subscript" ⟨[o, i], []⟩)
theorem pe_ixO {a b : Expr} {ta tb : TE} {pos : Pos} (M : Met X.prog X.w X.K X.mg X.base k C "__getitem__" sp []) (hr : Room (k + 1) X.A) (hf : ∀ f, PySem.W.findIn X.K (.ref C) "__getitem__" = some (some (.ref f)) → PySem.W.fnIn X.K f = true) (ha : PE X a ta) (hb : PE X b tb) (hs : SubT b) :
    PE X (.Subscript a b pos) (tOp (rIxO C sp) ta tb) := by
  refine ⟨fun pins s σ H Q I h => ?_⟩
  refine Subscript_ (binT ha hb I h fun v u s2 x y H2 I2 rx ry q => ?_)
  obtain ⟨c, dx, fs, rfl, ea, q⟩ := q
  cases (show v = Value.ref c from rx)
  obtain ⟨f, fd, ps, ds, cl, me, F, bi, dv⟩ := M.ex
  obtain ⟨od, J⟩ := ins_at I2 ea
  obtain ⟨mm, hF⟩ := I2.fr
  exact PySem.W.sub_K hF I2.ok.mod.kin J me.at_ (hf f me.at_) me.fn (run_in1 (us := [.ref c, u]) (vs := [.ref c, y]) F hr bi dv I2 (.cons rfl (.cons ry .nil)) (by rw [List.append_nil]; exact q)) (hs _ _)
end
end SC

set_option Elab.async false
set_option linter.all false
set_option maxRecDepth 100000
set_option maxHeartbeats 4000000
namespace SC
open PySem PySem.Spec PyProof.Rows L2
section
variable {X : Cx}
/-! a list compared with the empty one -/
def rNil (K : PySem.W.Frag) (neg : Bool) : R2 := fun x y H Q => ∃ (a b : Addr) (xs : List V), x = .ref a ∧ y = .ref b ∧ SqL K H a xs ∧ SqL K H b [] ∧ Q (.bl (if neg then !xs.isEmpty else xs.isEmpty)) H
theorem nil_both {pins : List (Addr × Obj)} {σ : L2.St} {H : Hp} {s : Shared} {a b : Addr} {xs : List V} (hu : X.A.units < cLine) (I : Inv X pins σ H s) (ea : SqL X.K H a xs) (eb : SqL X.K H b []) :
    SeqAt.RcAt X.A s (.ref a) (.ref b) xs.isEmpty ∧ SeqAt.RcNeAt X.A s (.ref a) (.ref b) (!xs.isEmpty) := by
  obtain ⟨its, r, ⟨o, n, h1, h2, _, h4⟩, _⟩ := I.list ea
  obtain ⟨ks, q, ⟨o', n', h1', h2', _, h4'⟩, _⟩ := I.list eb
  cases q
  have la : s.heap.IsList a its.toArray := ⟨o, h1, h2, n, h4⟩
  have lb : s.heap.IsList b ([] : List Value).toArray := ⟨o', h1', h2', n', h4'⟩
  cases r with
  | nil => exact ⟨SeqAt.RcAt.lists (e := fun _ => true) la lb rfl hu (fun j h1 _ => absurd h1 (Nat.not_lt_zero j)), SeqAt.RcNeAt.lists (e := fun _ => true) la lb rfl hu (fun j h1 _ => absurd h1 (Nat.not_lt_zero j))⟩
  | cons _ t => exact ⟨SeqAt.RcAt.lists_lengths la lb (by simp) hu, SeqAt.RcNeAt.lists_lengths la lb (by simp) hu⟩
theorem op_eqNil (hu : X.A.units < cLine) : OpR X (compareOp .Eq) (rNil X.K false) := by
  intro pins s σ H x y v u Q I rx ry h
  obtain ⟨a, b, xs, rfl, rfl, ea, eb, q⟩ := h
  cases (show v = Value.ref a from rx)
  cases (show u = Value.ref b from ry)
  exact (nil_both hu I ea eb).1 _ _ _ _ ⟨.bl _, H, I, rfl, q⟩
theorem op_neNil (hu : X.A.units < cLine) : OpR X (compareOp .NotEq) (rNil X.K true) := by
  intro pins s σ H x y v u Q I rx ry h
  obtain ⟨a, b, xs, rfl, rfl, ea, eb, q⟩ := h
  cases (show v = Value.ref a from rx)
  cases (show u = Value.ref b from ry)
  exact (nil_both hu I ea eb).2 _ _ _ _ ⟨.bl _, H, I, rfl, q⟩
/-! a tuple compared with itself -/
def rSelf (K : PySem.W.Frag) : R2 := fun x y H Q => ∃ (a : Addr) (xs : List V), x = .ref a ∧ y = .ref a ∧ SqT K H a xs ∧ (∀ v ∈ xs, ∃ b, v = .ref b) ∧ Q (.bl true) H
theorem eq_self (A : Around) (s : Shared) (b : Addr) : SeqAt.EqAt A s (.ref b) (.ref b) true := fun prog w E Q q => by
  unfold eqBool
  refine wpAny_holding (wpAny_ite_split (fun _ => wpAny_bind (wpAny_rule (wpAny_pure q))) fun h => absurd (beq_self_eq_true _) h)
theorem op_eqSelf (hu : X.A.units < cLine) : OpR X (compareOp .Eq) (rSelf X.K) := by
  intro pins s σ H x y v u Q I rx ry h
  obtain ⟨a, xs, rfl, rfl, ea, hr, q⟩ := h
  cases (show v = Value.ref a from rx)
  cases (show u = Value.ref a from ry)
  obtain ⟨its, r, ht, _⟩ := I.tuple ea
  obtain ⟨o, h1, h2, n, h4⟩ := id ht
  have tp : s.heap.IsTuple a its.toArray := ⟨o, h1, h2, n, h4⟩
  have z := SeqAt.RcAt.tuples (A := X.A) (e := fun _ => true) tp tp hu fun j hj _ => by
    obtain ⟨x, hx, rxu⟩ : ∃ x, xs[j]? = some x ∧ RelV x its.toArray[j] := by
      have hj' : j < its.length := by simpa using hj
      have hjx : j < xs.length := by rw [r.length]; exact hj'
      obtain ⟨u, hu', ru⟩ := r.get (List.getElem?_eq_getElem hjx)
      rw [List.getElem?_eq_getElem hj'] at hu'
      cases hu'
      exact ⟨_, List.getElem?_eq_getElem hjx, by simpa using ru⟩
    obtain ⟨b, rfl⟩ := hr x (List.mem_of_getElem? hx)
    rw [show its.toArray[j] = Value.ref b from rxu]
    exact eq_self _ s b
  refine z _ _ _ _ ?_
  have e : ((List.range (min its.toArray.size its.toArray.size)).all (fun _ => true) && its.toArray.size == its.toArray.size) = true := by simp
  rw [e]
  exact ⟨.bl true, H, I, rfl, q⟩
/-! d.update(e), keys ints or texts -/
def rUpd : V → List V → Hp → VK → Prop := fun x vs H Q => ∃ (a b : Addr) (ks ms : List (Key × V)), x = .ref a ∧ vs = [.ref b] ∧ a ≠ b ∧ H a = some (.dK ks) ∧ H b = some (.dK ms) ∧ ks.length + ms.length ≤ sizeLine ∧ Q .non (upd H a (.dK (mergeK ks ms)))
theorem mt_update : MtR X "dict.update" rUpd := by
  intro pins s σ H x vs v us Q I rx rv h
  obtain ⟨a, b, ks, ms, rfl, rfl, hab, ea, eb, hz, q⟩ := h
  cases (show v = Value.ref a from rx)
  obtain ⟨u, rfl, ru⟩ := vals1 rv
  cases (show u = Value.ref b from ru)
  obtain ⟨za, la, va, ra, da⟩ := dk_of I.hok ea
  obtain ⟨zb, lb, vb, rb, db⟩ := dk_of I.hok eb
  have l1 : ks.length = va.length := ra.length
  have l2 : ms.length = vb.length := rb.length
  refine call_meetsIn F.slot_dict_update da.typeIs F.entry_dict_update (F.args_dict_update_2 _ _) (meets_dict_update (mixKind X.prog X.w) a b hab lb) ⟨va, vb, da, db, by omega, fun h' d' _ hs => ?_⟩
  have hex : ∃ o, h'.get? a = some o := let ⟨o, _, _, ho, _⟩ := d'; ⟨o, ho⟩
  have hl : (mergeK ks ms).length ≤ sizeLine := Nat.le_trans (length_mergeK ms ks) hz
  exact ⟨.non, _, d_write (t' := s.toks) I (by rw [ea]; exact True.intro) hs hex (dk_new hl la (rb.merge ra) d'), rfl, q⟩
end
end SC

set_option Elab.async false
set_option linter.all false
set_option maxRecDepth 100000
set_option maxHeartbeats 4000000
namespace SC
open PySem PySem.Spec PyProof.Rows L2
/-! ### t[::-1] of a tuple -/
section
variable {prog : Program} {w : World} {A : Around} {E : Value → Shared → Prop} {s : Shared}
theorem places_rev (n : Nat) : Builtin.Slice.slicePlaces ((n : Int) - 1) (-1) (-1) = n := by
  unfold Builtin.Slice.slicePlaces
  rw [if_neg (by decide)]
  by_cases h : (n : Int) - 1 > -1
  · rw [if_pos h, show (- -1 : Int) = 1 by decide, Int.ediv_one]
    omega
  · rw [if_neg h]
    omega
theorem pick_rev (xs : Array Value) : ((List.range xs.size).filterMap fun (k : Nat) => xs[((xs.size : Int) - 1 + (k : Int) * (-1)).toNat]?).toArray = xs.toList.reverse.toArray := by
  have e : (fun (k : Nat) => xs[((xs.size : Int) - 1 + (k : Int) * (-1)).toNat]?) = (fun i => xs[i]?) ∘ fun k => xs.size - 1 - k := by
    funext k
    show xs[((xs.size : Int) - 1 + (k : Int) * (-1)).toNat]? = xs[xs.size - 1 - k]?
    have : ((xs.size : Int) - 1 + (k : Int) * (-1)).toNat = xs.size - 1 - k := by omega
    rw [this]
  rw [e, ← List.filterMap_map, PySem.W.krv_range, List.filterMap_reverse, PySem.W.krv_all]
theorem sliceApplied_rev {sl : Addr} {vs : Value} {n : Nat} {Q : Int × Int × Nat → Shared → Prop} (hs : s.heap.IsSliceOf sl .none .none vs) (ps : IsPart vs (some (-1)))
    (h : Q ((n : Int) - 1, -1, n) s) : wpAny (model prog w) A (Builtin.Slice.sliceApplied (.ref sl) (pure (n : Int))) Q E s := by
  obtain ⟨os, hos, hcs, hds⟩ := id hs
  unfold Builtin.Slice.sliceApplied Builtin.Slice.sliceFields
  refine wpAny_bind (wpAny_bind (wpAny_field hos hds (x := .none) rfl (wpAny_bind (wpAny_field hos hds (x := .none) rfl (wpAny_bind (wpAny_field hos hds (x := vs) rfl (wpAny_pure ?_)))))))
  refine wpAny_bind (HT.slicePart_ ps ?_)
  show wpAny _ _ (if ((-1 : Int) == 0) = true then _ else _) _ _ s
  rw [if_neg (by decide)]
  refine wpAny_bind (slicePart_none (wpAny_bind (slicePart_none (wpAny_bind (wpAny_pure ?_)))))
  show wpAny _ _ (pure (((n : Int) - 1), (-1 : Int), Builtin.Slice.slicePlaces ((n : Int) - 1) (-1) (-1))) _ _ s
  rw [places_rev]
  exact wpAny_pure h
theorem getItem_tuple_rev {t sl : Addr} {items : Array Value} {vs : Value} {Q : Value → Shared → Prop} (ht : IsTup s.heap t items) (hs : s.heap.IsSliceOf sl .none .none vs) (ps : IsPart vs (some (-1)))
    (h : Q (.ref s.heap.objs.size) { s with heap := s.heap.push { cls := .type "tuple", data := .seq items.toList.reverse.toArray } })
    (hsz : items.size ≤ sizeLine) : wpAny (model prog w) A (getItem (.ref t) (.ref sl)) Q E s := by
  have htake : sizeOk (.seq items.toList.reverse.toArray) := by
    show items.toList.reverse.toArray.size ≤ sizeLine
    rw [List.size_toArray, List.length_reverse, Array.length_toList]
    omega
  obtain ⟨os, hos, hcs, hds⟩ := id hs
  have hTs : s.TypeIs (.ref sl) "slice" := ⟨os, hos, hcs⟩
  unfold getItem
  try with_reducible refine wpAny_holding ?_
  first | refine wpAny_bind (wpAny_pure ?_) | skip
  refine wpAny_bind (wpAny_sequenceKey ht.typeIs (by decide) ?_)
  refine wpAny_bind (wpAny_callSpecial?_slot (name := Str.ofString "__getitem__") ht.typeIs PyProof.Rows.slot_tuple_getitem
    (wpAny_call_entry PyProof.Rows.slot_tuple_getitem ht.typeIs entry_tuple_getitem ?_ (args_tuple_getitem _ _)))
  show wpAny _ _ (Builtin.Tuple.tupleItemsOf (.ref t) >>= _) _ _ s
  refine wpAny_bind (tupleItemsOf_ ht ?_)
  refine wpAny_bind (wpAny_typeOf hTs ?_)
  rw [if_pos (by decide)]
  refine wpAny_bind (sliceApplied_rev hs ps ?_)
  have hno : ¬ (((items.size : Int) - 1 == 0 && (-1 : Int) == 1 && items.size == items.size) = true) := by
    intro q
    rw [Bool.and_eq_true, Bool.and_eq_true] at q
    exact absurd q.1.2 (by decide)
  show wpAny _ _ (if ((items.size : Int) - 1 == 0 && (-1 : Int) == 1 && items.size == items.size) = true then _ else _) _ _ s
  rw [if_neg hno, pick_rev]
  first
    | exact wpAny_bind (m := Builtin.Tuple.tupleExact _) (wpAny_newObj_type (wpAny_pure ⟨_, rfl, wpAny_pure h⟩) htake)
    | exact wpAny_bind (m := Builtin.Tuple.tupleExact _) (wpAny_newObj_type (wpAny_bind (wpAny_pure (wpAny_pure ⟨_, rfl, wpAny_pure h⟩))) htake)
    | exact wpAny_bind (wpAny_bind (m := Builtin.Tuple.tupleExact _) (wpAny_newObj_type (wpAny_pure (wpAny_pure ⟨_, rfl, wpAny_pure h⟩)) htake))
    | exact wpAny_bind (wpAny_bind (m := Builtin.Tuple.tupleExact _) (wpAny_newObj_type (wpAny_pure ⟨_, rfl, wpAny_pure h⟩) htake))
end
section
variable {X : Cx}
def tRevT (K : PySem.W.Frag) (te : TE) : TE := fun σ H Q => te σ H fun x H1 => ∃ a xs, x = .ref a ∧ SqT K H1 a xs ∧ ∀ p, H1 p = none → Q (.ref p) (upd H1 p (.tup xs.reverse))
theorem pe_revT {e : Expr} {te : TE} {k : Nat} {p1 p2 p3 pos : Pos} (he : PE X e te) : PE X (.Subscript e (.Slice none none (some (.UnaryOp .USub (.Constant (.int 1) k p1) p2)) p3) pos) (tRevT X.K te) := by
  refine ⟨fun pins s σ H Q I h => ?_⟩
  refine Subscript_ (thn (he.run pins s σ H _ I h) fun v s1 ⟨x, H1, I1, r1, q1⟩ => ?_)
  obtain ⟨a, xs, ex, hx, q⟩ := q1
  subst ex
  cases r1
  have hst : PO X (some (.UnaryOp .USub (.Constant (.int 1) k p1) p2)) (tPart (tUn (rU fun i => .int (-i)) (tC (.int 1)))) := po_some (pe_un un_neg pe_int)
  refine wpAny_Slice (thn (po_none.run pins s1 σ H1 (fun o H2 => o = none ∧ H2 = H1) I1 ⟨rfl, rfl⟩) fun vl s2 ⟨l, H2, I2, pl, el, e2⟩ => ?_)
  subst el e2
  refine thn (po_none.run pins s2 σ H2 (fun o H3 => o = none ∧ H3 = H2) I2 ⟨rfl, rfl⟩) fun vu s3 ⟨u, H3, I3, pu, eu, e3⟩ => ?_
  subst eu e3
  refine thn (hst.run pins s3 σ H3 (fun o H4 => o = some (-1) ∧ H4 = H3) I3 ⟨1, rfl, -1, rfl, rfl, rfl⟩) fun vs s4 ⟨o, H4, I4, ps, eo, e4⟩ => ?_
  subst eo e4
  cases pl
  cases pu
  have I5 : Inv X pins σ H4 { s4 with heap := s4.heap.push { cls := .type "slice", data := .fields #[.none, .none, vs] } } := I4.kept (t' := s4.toks) fun b ob q => Heap.get?_push_of_some _ q
  obtain ⟨its, r, ht, hz⟩ := I5.tuple hx
  have hlen := r.length
  show wpAny (model X.prog X.w) X.A (subscriptTail e (.Slice none none (some (.UnaryOp .USub (.Constant (.int 1) k p1) p2)) p3) (.ref a) (.ref s4.heap.objs.size)) (EP X pins σ Q) X.xe { s4 with heap := s4.heap.push { cls := .type "slice", data := .fields #[.none, .none, vs] } }
  refine tail_any (ops := [.ref a, .ref s4.heap.objs.size]) ht.typeIs (PyProof.Rows.slot_tuple_getitem.lookup) ?_ (by with_unfolding_all rfl)
  refine getItem_tuple_rev ht (Heap.IsSliceOf.new _ .none .none vs) ps ?_ (by rw [List.size_toArray]; omega)
  exact ⟨.ref _, _, I5.laid (t' := s4.toks) (o := .tup xs.reverse) (fun b ob q => Heap.get?_push_of_some _ q) (Nat.le_refl _) ⟨by rw [List.length_reverse]; exact hz, _, r.reverse, IsTup.new _ _⟩, rfl, q _ (I5.hok.fresh (Nat.le_refl _))⟩
end
end SC

set_option Elab.async false
set_option linter.all false
set_option maxRecDepth 100000
set_option maxHeartbeats 4000000
namespace SC
open PySem PySem.Spec PyProof.Rows L2
/-! ### the model: terms, functions, books, their runs -/
inductive Lf where
  | val (i : Int) | arg (i : Nat) | cell (x : Str) | tick
inductive Op where
  | plus | less | same
def Op.nm : Op → Str
  | .plus => "plus"
  | .less => "less"
  | .same => "same"
inductive Tm where
  | lf (l : Lf) | bin (o : Op) (a b : Lf) | ite (c a b : Lf) | call (f : Str) (ts : List Lf)
structure Fn where
  name : Str
  many : Nat
  result : Tm
  writes : List (Str × Tm)
  cost : Int
  label : Str
structure Bk where
  cells : List (Str × Str)
  fns : List Fn
abbrev Sta := List (Str × Int)
def sput (st : Sta) (x : Str) (i : Int) : Sta := if (st.any fun p => decide (p.1 = x)) = true then st.map (fun p => if p.1 = x then (p.1, i) else p) else st ++ [(x, i)]
def sget (st : Sta) (x : Str) : Option Int := (st.find? fun p => decide (p.1 = x)).map (·.2)
def evL (as : List Int) (st : Sta) : Lf → Int
  | .val i => i
  | .arg i => as.getD i 0
  | .cell x => (sget st x).getD 0
  | .tick => 0
def evO : Op → Int → Int → Int
  | .plus, a, b => (a + b) % 3
  | .less, a, b => if a < b then 1 else 0
  | .same, a, b => if a = b then 1 else 0
abbrev Cl := Str → List Int → Sta → Int × Sta
def evT (cl : Cl) (as : List Int) (st : Sta) : Tm → Int × Sta
  | .lf l => (evL as st l, st)
  | .bin o a b => (evO o (evL as st a) (evL as st b), st)
  | .ite c a b => (if evL as st c ≠ 0 then evL as st a else evL as st b, st)
  | .call f ts => cl f (ts.map (evL as st)) st
def runWs (cl : Cl) (as : List Int) : List (Str × Tm) → Sta → Sta
  | [], st => st
  | w :: r, st => runWs cl as r (sput (evT cl as st w.2).2 w.1 (evT cl as st w.2).1)
def runF (cl : Cl) (f : Fn) (as : List Int) (st : Sta) : Int × Sta := ((evT cl as st f.result).1, runWs cl as f.writes (evT cl as st f.result).2)
def fget (fs : List Fn) (x : Str) : Option Fn := fs.find? fun f => decide (f.name = x)
def callee (fs : List Fn) (r : Fn → List Int → Sta → Int × Sta) : Cl := fun g bs st => match fget fs g with
  | some h => r h bs st
  | none => (0, st)
/-- a call of a book's function; n: so many calls may stand one in another -/
def run (fs : List Fn) : Nat → Fn → List Int → Sta → Int × Sta
  | 0 => runF fun _ _ st => (0, st)
  | n + 1 => runF (callee fs (run fs n))
def clAt (fs : List Fn) : Nat → Cl
  | 0 => fun _ _ st => (0, st)
  | n + 1 => callee fs (run fs n)
theorem run_eq (fs : List Fn) (n : Nat) : run fs n = runF (clAt fs n) := by cases n <;> rfl
/-! ### what is well made -/
def LETT : Str := "abcdefghijklmnopqrstuvwxyz"
def IsNm (x : Str) : Prop := 1 ≤ x.length ∧ x.length ≤ 8 ∧ ∀ c ∈ x.cps.toList, c ∈ LETT.cps.toList
def Lv (cs : List Str) (m : Nat) : Lf → Prop
  | .val i => 0 ≤ i ∧ i ≤ 2
  | .arg i => i < m
  | .cell x => x ∈ cs ∧ IsNm x
  | .tick => True
def Tv (fs : List Fn) (cs : List Str) (m : Nat) : Tm → Prop
  | .lf l => Lv cs m l
  | .bin _ a b => Lv cs m a ∧ Lv cs m b
  | .ite c a b => Lv cs m c ∧ Lv cs m a ∧ Lv cs m b
  | .call f ts => (∃ g ∈ fs, g.name = f ∧ ts.length = g.many) ∧ IsNm f ∧ ts.length ≤ 2 ∧ ∀ t ∈ ts, Lv cs m t
def LBS : List Str := ["always", "session", "statement", "changing"]
def KDS : List Str := ["frozen", "setting", "table"]
/-- a function behind the functions fs, the cells cells -/
structure Fv (cells : List (Str × Str)) (fs : List Fn) (f : Fn) : Prop where
  nm : IsNm f.name
  many : f.many ≤ 2
  res : Tv fs (cells.map (·.1)) f.many f.result
  wlen : f.writes.length ≤ 1
  wr : ∀ w ∈ f.writes, (w.1, ("table" : Str)) ∈ cells ∧ IsNm w.1 ∧ Tv fs (cells.map (·.1)) f.many w.2
  c0 : 0 ≤ f.cost
  c9 : f.cost ≤ 9
  lb : f.label ∈ LBS
  new : f.name ∉ cells.map (·.1) ∧ f.name ∉ fs.map (·.name)
structure Bv (B : Bk) : Prop where
  cn : (B.cells.map (·.1)).Nodup
  cv : ∀ c ∈ B.cells, IsNm c.1 ∧ c.2 ∈ KDS
  cl : B.cells.length ≤ 3
  f1 : 1 ≤ B.fns.length
  f3 : B.fns.length ≤ 3
  fv : ∀ i f, B.fns[i]? = some f → Fv B.cells (B.fns.take i) f
structure Sv (cs : List Str) (st : Sta) : Prop where
  keys : st.map (·.1) = cs
  vals : ∀ p ∈ st, 0 ≤ p.2 ∧ p.2 ≤ 2
/-! ### how the model stands in the heap -/
def LfAt (H : Hp) (v : V) : Lf → Prop
  | .val i => v = .int i
  | .arg i => ∃ a, v = .ref a ∧ H a = some (.tup [.str "arg", .int i])
  | .cell x => ∃ a, v = .ref a ∧ H a = some (.tup [.str "cell", .str x])
  | .tick => ∃ a, v = .ref a ∧ H a = some (.tup [.str "tick"])
def TmAt (H : Hp) (v : V) : Tm → Prop
  | .lf l => LfAt H v l
  | .bin o a b => ∃ p x y, v = .ref p ∧ H p = some (.tup [.str o.nm, x, y]) ∧ LfAt H x a ∧ LfAt H y b
  | .ite c a b => ∃ p z x y, v = .ref p ∧ H p = some (.tup [.str "if", z, x, y]) ∧ LfAt H z c ∧ LfAt H x a ∧ LfAt H y b
  | .call f ts => ∃ p q xs, v = .ref p ∧ H p = some (.tup [.str "call", .str f, .ref q]) ∧ H q = some (.tup xs) ∧ Paired (LfAt H) xs ts
def WAt (H : Hp) (a : Addr) (w : Str × Tm) : Prop := ∃ v, H a = some (.tup [.str w.1, v]) ∧ TmAt H v w.2
def WsAt (H : Hp) (v : V) (ws : List (Str × Tm)) : Prop := ∃ (a : Addr) (ps : List Addr), v = .ref a ∧ H a = some (.tup (ps.map V.ref)) ∧ Paired (WAt H) ps ws
def ff (l : V) (f : Fn) (r w : V) : List (Str × V) := [("label", l), ("name", .str f.name), ("arguments", .int f.many), ("result", r), ("writes", w), ("cost", .int f.cost)]
def FnAt (K : PySem.W.Frag) (H : Hp) (a : Addr) (f : Fn) : Prop := ∃ dx l r w, H a = some (.ins (He.ga K "Function") dx (ff l f r w)) ∧ TmAt H r f.result ∧ WsAt H w f.writes
def CellAt (K : PySem.W.Frag) (H : Hp) (a : Addr) (c : Str × Str) : Prop := ∃ dx, H a = some (.ins (He.ga K "Cell") dx [("name", .str c.1), ("kind", .str c.2)])
def CellsAt (K : PySem.W.Frag) (H : Hp) (cs : List Addr) (l : List (Str × Str)) : Prop := Paired (CellAt K H) cs l
def FnsAt (K : PySem.W.Frag) (H : Hp) (fs : List Addr) (l : List Fn) : Prop := Paired (FnAt K H) fs l
/-- the Book at b -/
def BkAt (K : PySem.W.Frag) (H : Hp) (b : Addr) (B : Bk) : Prop := ∃ dx p q cs fs, H b = some (.ins (He.ga K "Book") dx [("cell_row", .ref p), ("row", .ref q)]) ∧ H p = some (.tup (cs.map V.ref)) ∧ H q = some (.tup (fs.map V.ref)) ∧ CellsAt K H cs B.cells ∧ FnsAt K H fs B.fns
/-- the law's own dicts -/
def lfs (f : Fn) (r w : V) : List (Key × V) := [(.inr "name", .str f.name), (.inr "many", .int f.many), (.inr "result", r), (.inr "writes", w), (.inr "cost", .int f.cost), (.inr "label", .str f.label)]
def LfnAt (H : Hp) (a : Addr) (f : Fn) : Prop := ∃ r w, H a = some (.dK (lfs f r w)) ∧ TmAt H r f.result ∧ WsAt H w f.writes
def LcAt (H : Hp) (a : Addr) (c : Str × Str) : Prop := H a = some (.tup [.str c.1, .str c.2])
def LbAt (H : Hp) (b : Addr) (B : Bk) : Prop := ∃ p q cs fs, H b = some (.dK [(.inr "cells", .ref p), (.inr "functions", .ref q)]) ∧ H p = some (.lst (cs.map V.ref)) ∧ H q = some (.lst (fs.map V.ref)) ∧ Paired (LcAt H) cs B.cells ∧ Paired (LfnAt H) fs B.fns
abbrev skv (st : Sta) : List (Key × V) := st.map fun p => (Sum.inr p.1, V.int p.2)
def StAt (H : Hp) (a : Addr) (st : Sta) : Prop := H a = some (.dK (skv st))
def PoolAt (H : Hp) (p : Addr) : Prop := ∃ i j : Int, H p = some (.lst [.int i, .int j]) ∧ 0 ≤ i ∧ 0 ≤ j ∧ j < 2147483648
/-! ### what stays -/
/-- objects that nobody changes once they stand -/
def Firm (K : PySem.W.Frag) : HO → Prop
  | .tup _ => True
  | .ins C _ _ => C = He.ga K "Function" ∨ C = He.ga K "Cell" ∨ C = He.ga K "Book" ∨ C = He.ga K "Scene"
  | .dK kvs => ∃ kv ∈ kvs, ∀ i, kv.2 ≠ .int i
  | .lst xs => ∀ i j, xs ≠ [.int i, .int j]
  | _ => False
def Keep (K : PySem.W.Frag) (H H' : Hp) : Prop := ∀ a o, H a = some o → Firm K o → H' a = some o
/-- all but p -/
def But (p : Addr) (H H' : Hp) : Prop := ∀ b o, H b = some o → b ≠ p → H' b = some o
theorem Same.but {p : Addr} {H H' : Hp} (s : Same H H') : But p H H' := fun b o h _ => s b o h
theorem But.trans {p : Addr} {H H1 H2 : Hp} (a : But p H H1) (b : But p H1 H2) : But p H H2 := fun c o h n => b c o (a c o h n) n
theorem But.refl {p : Addr} {H : Hp} : But p H H := fun _ _ h _ => h
theorem But.upd {p : Addr} {H : Hp} {o : HO} : But p H (L2.upd H p o) := fun b u h n => by rw [upd_ne n]; exact h
theorem But.seq {K : PySem.W.Frag} {p : Addr} {H H' : Hp} {a : Addr} {xs : List V} (e : But p H H') (n : a ≠ p) (h : SqL K H a xs) : SqL K H' a xs := by
  rcases h with (h | ⟨o, h⟩) | h
  · exact .inl (.inl (e _ _ h n))
  · exact .inl (.inr ⟨o, e _ _ h n⟩)
  · exact .inr h
theorem same_upd {H : Hp} {p : Addr} {o : HO} (h : H p = none) : Same H (upd H p o) := fun b u q => by rw [upd_ne (ne_of_none q h)]; exact q
theorem But.free {p : Addr} {H H' : Hp} (e : But p H H') {l : Addr} (hp : l ≠ p) (h : H' l = Option.none) : H l = Option.none := by
  cases q : H l with
  | none => rfl
  | some o => rw [e l o q hp] at h; cases h
theorem Same.keep {K : PySem.W.Frag} {H H' : Hp} (s : Same H H') : Keep K H H' := fun a o h _ => s a o h
theorem But.keep {K : PySem.W.Frag} {p : Addr} {H H' : Hp} {u : HO} (s : But p H H') (hp : H p = some u) (hu : ¬ Firm K u) : Keep K H H' := fun a o h f => s a o h fun e => by
  rw [e, hp] at h
  cases h
  exact hu f
theorem Keep.trans {K : PySem.W.Frag} {H H1 H2 : Hp} (a : Keep K H H1) (b : Keep K H1 H2) : Keep K H H2 := fun c o h f => b c o (a c o h f) f
/-- objects that nobody changes once they stand, the lists left out -/
def Firm0 (K : PySem.W.Frag) : HO → Prop
  | .tup _ => True
  | .ins C _ _ => C = He.ga K "Function" ∨ C = He.ga K "Cell" ∨ C = He.ga K "Book" ∨ C = He.ga K "Scene"
  | .dK kvs => ∃ kv ∈ kvs, ∀ i, kv.2 ≠ .int i
  | _ => False
def Keep0 (K : PySem.W.Frag) (H H' : Hp) : Prop := ∀ a o, H a = some o → Firm0 K o → H' a = some o
theorem Keep.weak {K : PySem.W.Frag} {H H' : Hp} (k : Keep K H H') : Keep0 K H H' := fun a o h f => k a o h (by cases o <;> first | exact f | cases f)
theorem Same.keep0 {K : PySem.W.Frag} {H H' : Hp} (s : Same H H') : Keep0 K H H' := fun a o h _ => s a o h
theorem But.keep0 {K : PySem.W.Frag} {p : Addr} {H H' : Hp} {u : HO} (s : But p H H') (hp : H p = some u) (hu : ¬ Firm0 K u) : Keep0 K H H' := fun a o h f => s a o h fun e => by
  rw [e, hp] at h
  cases h
  exact hu f
theorem Keep0.trans {K : PySem.W.Frag} {H H1 H2 : Hp} (a : Keep0 K H H1) (b : Keep0 K H1 H2) : Keep0 K H H2 := fun c o h f => b c o (a c o h f) f
theorem keep0_upd {K : PySem.W.Frag} {H : Hp} {p : Addr} {o u : HO} (hp : H p = some u) (hu : ¬ Firm0 K u) : Keep0 K H (L2.upd H p o) := But.keep0 But.upd hp hu
theorem keep0_new {K : PySem.W.Frag} {H : Hp} {p : Addr} {o : HO} (hp : H p = none) : Keep0 K H (L2.upd H p o) := Same.keep0 (same_upd hp)
section
variable {K : PySem.W.Frag} {H H' : Hp} (k : Keep0 K H H')
include k
theorem Keep0.tup {a : Addr} {xs : List V} (h : H a = some (.tup xs)) : H' a = some (.tup xs) := k a _ h trivial
theorem Keep0.lf {v : V} : ∀ {l : Lf}, LfAt H v l → LfAt H' v l
  | .val _, h => h
  | .arg _, ⟨a, e, h⟩ => ⟨a, e, k.tup h⟩
  | .cell _, ⟨a, e, h⟩ => ⟨a, e, k.tup h⟩
  | .tick, ⟨a, e, h⟩ => ⟨a, e, k.tup h⟩
theorem Keep0.tm {v : V} : ∀ {t : Tm}, TmAt H v t → TmAt H' v t
  | .lf _, h => k.lf h
  | .bin _ _ _, ⟨p, x, y, e, h, a, b⟩ => ⟨p, x, y, e, k.tup h, k.lf a, k.lf b⟩
  | .ite _ _ _, ⟨p, z, x, y, e, h, c, a, b⟩ => ⟨p, z, x, y, e, k.tup h, k.lf c, k.lf a, k.lf b⟩
  | .call _ _, ⟨p, q, xs, e, h, h2, r⟩ => ⟨p, q, xs, e, k.tup h, k.tup h2, Paired.mapP r fun _ _ z => k.lf z⟩
theorem Keep0.w {a : Addr} {w : Str × Tm} (h : WAt H a w) : WAt H' a w := let ⟨v, e, t⟩ := h; ⟨v, k.tup e, k.tm t⟩
theorem Keep0.ws {v : V} {ws : List (Str × Tm)} (h : WsAt H v ws) : WsAt H' v ws := let ⟨a, ps, e, h, r⟩ := h; ⟨a, ps, e, k.tup h, Paired.mapP r fun _ _ z => k.w z⟩
theorem Keep0.fn {a : Addr} {f : Fn} (h : FnAt K H a f) : FnAt K H' a f := let ⟨dx, l, r, w, e, t, u⟩ := h; ⟨dx, l, r, w, k _ _ e (.inl rfl), k.tm t, k.ws u⟩
theorem Keep0.cell {a : Addr} {c : Str × Str} (h : CellAt K H a c) : CellAt K H' a c := let ⟨dx, e⟩ := h; ⟨dx, k _ _ e (.inr (.inl rfl))⟩
theorem Keep0.cells {cs : List Addr} {l : List (Str × Str)} (h : CellsAt K H cs l) : CellsAt K H' cs l := Paired.mapP h fun _ _ z => k.cell z
theorem Keep0.fns {fs : List Addr} {l : List Fn} (h : FnsAt K H fs l) : FnsAt K H' fs l := Paired.mapP h fun _ _ z => k.fn z
theorem Keep0.bk {b : Addr} {B : Bk} (h : BkAt K H b B) : BkAt K H' b B := let ⟨dx, p, q, cs, fs, e, h1, h2, c, f⟩ := h; ⟨dx, p, q, cs, fs, k _ _ e (.inr (.inr (.inl rfl))), k.tup h1, k.tup h2, k.cells c, k.fns f⟩
theorem Keep0.lfn {a : Addr} {f : Fn} (h : LfnAt H a f) : LfnAt H' a f := let ⟨r, w, e, t, u⟩ := h; ⟨r, w, k _ _ e ⟨(.inr "name", .str f.name), List.mem_cons_self, fun i z => nomatch z⟩, k.tm t, k.ws u⟩
theorem Keep0.lc {a : Addr} {c : Str × Str} (h : LcAt H a c) : LcAt H' a c := k.tup h
end
section
variable {K : PySem.W.Frag} {H H' : Hp} (k : Keep K H H')
include k
theorem Keep.tup {a : Addr} {xs : List V} (h : H a = some (.tup xs)) : H' a = some (.tup xs) := k.weak.tup h
theorem Keep.lf {v : V} {l : Lf} (h : LfAt H v l) : LfAt H' v l := k.weak.lf h
theorem Keep.tm {v : V} {t : Tm} (h : TmAt H v t) : TmAt H' v t := k.weak.tm h
theorem Keep.w {a : Addr} {w : Str × Tm} (h : WAt H a w) : WAt H' a w := k.weak.w h
theorem Keep.ws {v : V} {ws : List (Str × Tm)} (h : WsAt H v ws) : WsAt H' v ws := k.weak.ws h
theorem Keep.fn {a : Addr} {f : Fn} (h : FnAt K H a f) : FnAt K H' a f := k.weak.fn h
theorem Keep.cell {a : Addr} {c : Str × Str} (h : CellAt K H a c) : CellAt K H' a c := k.weak.cell h
theorem Keep.cells {cs : List Addr} {l : List (Str × Str)} (h : CellsAt K H cs l) : CellsAt K H' cs l := k.weak.cells h
theorem Keep.fns {fs : List Addr} {l : List Fn} (h : FnsAt K H fs l) : FnsAt K H' fs l := k.weak.fns h
theorem Keep.bk {b : Addr} {B : Bk} (h : BkAt K H b B) : BkAt K H' b B := k.weak.bk h
theorem Keep.lfn {a : Addr} {f : Fn} (h : LfnAt H a f) : LfnAt H' a f := k.weak.lfn h
theorem Keep.lc {a : Addr} {c : Str × Str} (h : LcAt H a c) : LcAt H' a c := k.weak.lc h
theorem Keep.refs {a : Addr} {cs : List Addr} (h : H a = some (.lst (cs.map V.ref))) : H' a = some (.lst (cs.map V.ref)) := k _ _ h fun i j e => by
  cases cs with
  | nil => cases e
  | cons c r => injection e with e1 _; cases e1
theorem Keep.lb {b : Addr} {B : Bk} (h : LbAt H b B) : LbAt H' b B := let ⟨p, q, cs, fs, e, h1, h2, c, f⟩ := h
  ⟨p, q, cs, fs, k _ _ e ⟨(.inr "cells", .ref p), List.mem_cons_self, fun i z => nomatch z⟩, k.refs h1, k.refs h2, Paired.mapP c fun _ _ z => k.lc z, Paired.mapP f fun _ _ z => k.lfn z⟩
end
theorem st_firm {K : PySem.W.Frag} {st : Sta} : ¬ Firm K (.dK (skv st)) := by
  rintro ⟨kv, h, n⟩
  obtain ⟨p, _, rfl⟩ := List.mem_map.mp h
  exact n _ rfl
theorem pool_firm {K : PySem.W.Frag} {i j : Int} : ¬ Firm K (.lst [.int i, .int j]) := fun h => h i j rfl
/-! ### the states as dicts -/
theorem sget_kv : ∀ (st : Sta) (x : Str), valV (skv st) (Sum.inr x) = (sget st x).map V.int
  | [], _ => rfl
  | p :: r, x => by
    have ih := sget_kv r x
    by_cases h : p.1 = x
    · have h2 : (Sum.inr p.1 : Key) = Sum.inr x := congrArg _ h
      unfold sget
      rw [List.find?_cons, show skv (p :: r) = (Sum.inr p.1, V.int p.2) :: skv r from rfl, valV_pos h2, decide_eq_true h]
      rfl
    · have h2 : ¬ (Sum.inr p.1 : Key) = Sum.inr x := fun e => h (Sum.inr.inj e)
      unfold sget at ih ⊢
      rw [List.find?_cons, show skv (p :: r) = (Sum.inr p.1, V.int p.2) :: skv r from rfl, valV_neg h2, decide_eq_false h]
      exact ih
theorem sput_kv (st : Sta) (x : Str) (i : Int) : putK (skv st) (Sum.inr x) (V.int i) = skv (sput st x i) := by
  have e1 : ((skv st).any fun kv => decide (kv.1 = Sum.inr x)) = st.any fun p => decide (p.1 = x) := by
    rw [List.any_map]
    refine congrArg (fun f => st.any f) (funext fun p => ?_)
    exact key_rr p.1 x
  unfold putK sput
  rw [e1]
  split
  · rw [skv, skv, List.map_map, List.map_map]
    refine List.map_congr_left fun p _ => ?_
    by_cases h : p.1 = x
    · simp [h]
    · have h2 : ¬ (Sum.inr p.1 : Key) = Sum.inr x := fun e => h (Sum.inr.inj e)
      simp [h]
  · rw [skv, skv, List.map_append]
    rfl
theorem sput_keys {st : Sta} {x : Str} {i : Int} (h : x ∈ st.map (·.1)) : (sput st x i).map (·.1) = st.map (·.1) := by
  have e : (st.any fun p => decide (p.1 = x)) = true := by
    obtain ⟨p, hp, e⟩ := List.mem_map.mp h
    exact List.any_eq_true.mpr ⟨p, hp, decide_eq_true e⟩
  unfold sput
  rw [if_pos e, List.map_map]
  refine List.map_congr_left fun p _ => ?_
  by_cases h : p.1 = x <;> simp [h]
theorem sget_some {st : Sta} {x : Str} (h : x ∈ st.map (·.1)) : ∃ i, sget st x = some i := by
  obtain ⟨p, hp, e⟩ := List.mem_map.mp h
  unfold sget
  cases q : st.find? fun p => decide (p.1 = x) with
  | none => exact absurd (decide_eq_true e) (List.find?_eq_none.mp q p hp)
  | some z => exact ⟨_, rfl⟩
theorem len_skv (st : Sta) : (skv st).length = st.length := List.length_map _
end SC

set_option Elab.async false
set_option linter.all false
set_option maxRecDepth 100000
set_option maxHeartbeats 4000000
namespace SC
open PySem PySem.Spec PyProof.Rows L2
theorem v_isinstance : bootBuiltins "isinstance" = some (.builtin "isinstance") := by decide +kernel
theorem v_len : bootBuiltins "len" = some (.builtin "len") := by decide +kernel
theorem v_all : bootBuiltins "all" = some (.builtin "all") := by decide +kernel
theorem v_any : bootBuiltins "any" = some (.builtin "any") := by decide +kernel
theorem v_sorted : bootBuiltins "sorted" = some (.builtin "sorted") := by decide +kernel
theorem v_sum : bootBuiltins "sum" = some (.builtin "sum") := by decide +kernel
theorem v_abs : bootBuiltins "abs" = some (.builtin "abs") := by decide +kernel
theorem v_max : bootBuiltins "max" = some (.builtin "max") := by decide +kernel
theorem v_min : bootBuiltins "min" = some (.builtin "min") := by decide +kernel
theorem v_int : bootBuiltins "int" = some (.type "int") := by decide +kernel
theorem v_bool : bootBuiltins "bool" = some (.type "bool") := by decide +kernel
theorem v_str : bootBuiltins "str" = some (.type "str") := by decide +kernel
theorem v_tuple : bootBuiltins "tuple" = some (.type "tuple") := by decide +kernel
theorem v_range : bootBuiltins "range" = some (.type "range") := by decide +kernel
theorem v_dict : bootBuiltins "dict" = some (.type "dict") := by decide +kernel
theorem v_list : bootBuiltins "list" = some (.type "list") := by decide +kernel
section
variable {K : PySem.W.Frag}
theorem kk_int_int : PySem.W.kitOne K (.type "int") (.type "int") = some true := kit_ty (by decide +kernel)
theorem kk_int_bool : PySem.W.kitOne K (.type "int") (.type "bool") = some false := kit_ty (by decide +kernel)
theorem kk_tuple_int : PySem.W.kitOne K (.type "tuple") (.type "int") = some false := kit_ty (by decide +kernel)
theorem kk_str_str : PySem.W.kitOne K (.type "str") (.type "str") = some true := kit_ty (by decide +kernel)
theorem kk_tuple_tuple : PySem.W.kitOne K (.type "tuple") (.type "tuple") = some true := kit_ty (by decide +kernel)
theorem kk_int_tuple : PySem.W.kitOne K (.type "int") (.type "tuple") = some false := kit_ty (by decide +kernel)
theorem kk_dict_dict : PySem.W.kitOne K (.type "dict") (.type "dict") = some true := kit_ty (by decide +kernel)
theorem kk_list_list : PySem.W.kitOne K (.type "list") (.type "list") = some true := kit_ty (by decide +kernel)
theorem kk_list_tuple : PySem.W.kitOne K (.type "list") (.type "tuple") = some false := kit_ty (by decide +kernel)
theorem kk_tuple_list : PySem.W.kitOne K (.type "tuple") (.type "list") = some false := kit_ty (by decide +kernel)
theorem kk_str_tuple : PySem.W.kitOne K (.type "str") (.type "tuple") = some false := kit_ty (by decide +kernel)
theorem kk_str_int : PySem.W.kitOne K (.type "str") (.type "int") = some false := kit_ty (by decide +kernel)
theorem kk_list_lt : PySem.W.kitAny K (.type "list") [.type "list", .type "tuple"] = some true := kitAny_cons kk_list_list (fun h => nomatch h) fun _ => rfl
theorem kk_tuple_lt : PySem.W.kitAny K (.type "tuple") [.type "list", .type "tuple"] = some true := kitAny_cons kk_tuple_list (fun _ => kitAny_cons kk_tuple_tuple (fun h => nomatch h) fun _ => rfl) fun h => nomatch h
theorem cls_lt : Paired ClsV [.ty "list", .ty "tuple"] [.type "list", .type "tuple"] := .cons (.ty _) (.cons (.ty _) .nil)
end
end SC

set_option Elab.async false
set_option linter.all false
set_option maxRecDepth 100000
set_option maxHeartbeats 4000000
namespace SC
open PySem PySem.Spec PyProof.Rows L2
open C8 (Cal Met Mak pe_c pe_mk pe_mt pe_mt0 pe_gc InsC)
theorem sub_fn {K : PySem.W.Frag} {C : Addr} {g f : Addr} (h : PySem.W.noSeq K C = true ∧ PySem.W.fnIn K g = true) (me : Meth K C "__getitem__" g) (e : PySem.W.findIn K (.ref C) "__getitem__" = some (some (.ref f))) : PySem.W.fnIn K f = true := by
  have z := me.at_.symm.trans e
  injection z with z
  injection z with z
  injection z with z
  rw [← z]
  exact h.2
theorem dec_and {a b : Prop} [Decidable a] [Decidable b] (h : (if decide a = true then decide b else false) = true) : a ∧ b := by
  by_cases ha : a
  · rw [if_pos (decide_eq_true ha)] at h
    exact ⟨ha, of_decide_eq_true h⟩
  · rw [if_neg (by simpa using ha)] at h
    cases h
section
variable {P : Program} {w : World} {K : PySem.W.Frag} {mg : Str → Option Value} {base : Heap}
def spIsInteger : Sp := fun vs H Q _ => ∃ v, vs = [v] ∧ ((∃ i, v = .int i ∧ Q (.bl true) H) ∨ (∃ a xs, v = .ref a ∧ H a = some (.tup xs) ∧ Q (.bl false) H))
theorem C_is_integer (T : TX K mg) : Cal P w K mg base 1 "is_integer" spIsInteger [] := by
  obtain ⟨fd, F⟩ := T.d_is_integer
  refine calD "is_integer" F T.g_is_integer (b_is_integer F) .nil S_is_integer (fun vs H Q E h => ?_) (fun cdv A outer s H vs Q E hr h => ?_)
  · obtain ⟨v, rfl, _⟩ := h
    rfl
  obtain ⟨v, rfl, h⟩ := h
  refine ⟨_, (pss_one (ps_ret (pe_and (pe_callB call_isi (by rfl) T.f_isinstance (by decide +kernel) (pa_cons (pv 0) (pa_cons (pe_bltn (v := .ty "int") (u := .type "int") (by rfl) T.f_int (by decide +kernel) rfl) pa_nil))) (pe_one (pe_not (pe_callB call_isi (by rfl) T.f_isinstance (by decide +kernel) (pa_cons (pv 0) (pa_cons (pe_bltn (v := .ty "bool") (u := .type "bool") (by rfl) T.f_bool (by decide +kernel) rfl) pa_nil)))))))), ?_⟩
  rcases h with ⟨i, rfl, q⟩ | ⟨a, xs, rfl, e, q⟩
  · exact ⟨_, rfl, _, _, _, _, _, rfl, .ty _, .base (.int i), kk_int_int, _, rfl, iteT ⟨_, rfl, _, _, _, _, _, rfl, .ty _, .base (.int i), kk_int_bool, _, rfl, q⟩⟩
  · exact ⟨_, rfl, _, _, _, _, _, rfl, .ty _, .base (.tup e), kk_tuple_int, _, rfl, iteF q⟩
def spIsBetween : Sp := fun vs H Q _ => ∃ v lo hi, vs = [v, .int lo, .int hi] ∧ ((∃ i, v = .int i ∧ Q (.bl (decide (lo ≤ i ∧ i ≤ hi))) H) ∨ (∃ a xs, v = .ref a ∧ H a = some (.tup xs) ∧ Q (.bl false) H))
theorem C_is_between (T : TX K mg) : Cal P w K mg base 2 "is_between" spIsBetween [] := by
  have C_is_integer : Cal P w K mg base 1 "is_integer" spIsInteger [] := SC.C_is_integer T
  obtain ⟨fd, F⟩ := T.d_is_between
  refine calD "is_between" F T.g_is_between (b_is_between F) .nil S_is_between (fun vs H Q E h => ?_) (fun cdv A outer s H vs Q E hr h => ?_)
  · obtain ⟨v, lo, hi, rfl, _⟩ := h
    rfl
  obtain ⟨v, lo, hi, rfl, h⟩ := h
  refine ⟨_, (pss_one (ps_ret (pe_and (pe_c C_is_integer hr (by decide) rfl (pa_cons (pv 0) pa_nil)) (pe_one (pe_chain op_le op_le (pv 1) (pv 0) (pv 2)))))), ?_⟩
  rcases h with ⟨i, rfl, q⟩ | ⟨a, xs, rfl, e, q⟩
  · refine ⟨_, rfl, _, rfl, .inl ⟨i, rfl, _, rfl, iteT ?_⟩⟩
    refine ⟨_, rfl, _, rfl, _, _, rfl, rfl, _, rfl, ?_⟩
    by_cases h1 : lo ≤ i
    · rw [decide_eq_true h1]
      refine iteT ⟨_, rfl, _, _, rfl, rfl, ?_⟩
      rw [show (decide (lo ≤ i ∧ i ≤ hi)) = decide (i ≤ hi) by simp [h1]] at q
      exact q
    · rw [decide_eq_false h1]
      refine iteF ?_
      rw [decide_eq_false (fun z => h1 z.1)] at q
      exact q
  · exact ⟨_, rfl, _, rfl, .inr ⟨a, xs, rfl, e, _, rfl, iteF q⟩⟩
def spIsValue : Sp := fun vs H Q _ => ∃ v, vs = [v] ∧ ((∃ i, v = .int i ∧ Q (.bl (decide (0 ≤ i ∧ i ≤ 2))) H) ∨ (∃ a xs, v = .ref a ∧ H a = some (.tup xs) ∧ Q (.bl false) H))
theorem C_is_value (T : TX K mg) : Cal P w K mg base 3 "is_value" spIsValue [] := by
  have C_is_between : Cal P w K mg base 2 "is_between" spIsBetween [] := SC.C_is_between T
  obtain ⟨fd, F⟩ := T.d_is_value
  refine calD "is_value" F T.g_is_value (b_is_value F) .nil S_is_value (fun vs H Q E h => ?_) (fun cdv A outer s H vs Q E hr h => ?_)
  · obtain ⟨v, rfl, _⟩ := h
    rfl
  obtain ⟨v, rfl, h⟩ := h
  refine ⟨_, (pss_one (ps_ret (pe_c C_is_between hr (by decide) rfl (pa_cons (pv 0) (pa_cons pe_int (pa_cons (pe_gc rfl T.k_MOST_VALUE) pa_nil)))))), ?_⟩
  exact ⟨_, rfl, _, _, _, rfl, h⟩
end
end SC

set_option Elab.async false
set_option linter.all false
set_option maxRecDepth 100000
set_option maxHeartbeats 4000000
namespace SC
open PySem PySem.Spec PyProof.Rows L2
/-! ### comprehensions -/
theorem iteD {p A B : Prop} [Decidable p] (h : p) (a : A) : if decide p = true then A else B := by
  rw [decide_eq_true h]
  exact iteT a
theorem iteDN {p A B : Prop} [Decidable p] (h : ¬ p) (b : B) : if decide p = true then A else B := by
  rw [decide_eq_false h]
  exact iteF b
theorem neF {p A B : Prop} [Decidable p] (h : p) (b : B) : if (!decide p) = true then A else B := by
  rw [decide_eq_true h]
  exact iteF b
theorem neT {p A B : Prop} [Decidable p] (h : ¬ p) (a : A) : if (!decide p) = true then A else B := by
  rw [decide_eq_false h]
  exact iteT a
theorem fm_congr {α β : Type} {f g : α → Option β} : ∀ {xs : List α}, (∀ x ∈ xs, f x = g x) → xs.filterMap f = xs.filterMap g
  | [], _ => rfl
  | x :: r, h => by
    rw [List.filterMap_cons, List.filterMap_cons, h x List.mem_cons_self, fm_congr fun y hy => h y (List.mem_cons_of_mem _ hy)]
theorem fm_some {α : Type} {f : Nat → Option α} {i : Nat} {y : α} (h : f i = some y) : (List.range (i + 1)).filterMap f = (List.range i).filterMap f ++ [y] := by
  rw [List.range_succ, List.filterMap_append, List.filterMap_cons, h]
  rfl
theorem fm_none {α : Type} {f : Nat → Option α} {i : Nat} (h : f i = none) : (List.range (i + 1)).filterMap f = (List.range i).filterMap f := by
  rw [List.range_succ, List.filterMap_append, List.filterMap_cons, h]
  exact List.append_nil _
theorem fm_le {α : Type} (f : Nat → Option α) (i : Nat) : ((List.range i).filterMap f).length ≤ i := by
  have h := List.length_filterMap_le f (List.range i)
  rw [List.length_range] at h
  exact h
theorem fm_get {α β : Type} (xs : List α) (g : α → Option β) : (List.range xs.length).filterMap (fun i => xs[i]?.bind g) = xs.filterMap g := by
  have key : ∀ (n : Nat) (ys : List α), (List.range' n ys.length).filterMap (fun i => ys[i - n]?.bind g) = ys.filterMap g := by
    intro n ys
    induction ys generalizing n with
    | nil => rfl
    | cons y r ih =>
      rw [List.length_cons, List.range'_succ, List.filterMap_cons, List.filterMap_cons]
      have e0 : ((y :: r)[n - n]?.bind g) = g y := by rw [Nat.sub_self]; rfl
      have e1 : (List.range' (n + 1) r.length).filterMap (fun i => (y :: r)[i - n]?.bind g) = (List.range' (n + 1) r.length).filterMap (fun i => r[i - (n + 1)]?.bind g) := by
        refine fm_congr fun i hi => ?_
        have h1 := (List.mem_range'_1.mp hi).1
        have h2 : i - n = (i - (n + 1)) + 1 := by omega
        rw [h2, List.getElem?_cons_succ]
      rw [e0, e1, ih]
  have h := key 0 xs
  rw [List.range_eq_range']
  exact h
theorem fm_map {α β : Type} (xs : List α) (g : α → β) : (List.range xs.length).filterMap (fun i => xs[i]?.map g) = xs.map g := by
  have h := fm_get xs (fun x => some (g x))
  rw [List.filterMap_eq_map'] at h
  rw [← h]
  refine fm_congr fun i _ => ?_
  cases xs[i]? <;> rfl
/-- what may happen around a list that is being made: E by the heap it began with -/
structure Env0 (K : PySem.W.Frag) (D : Addr) (E : Hp → Hp → Prop) : Prop where
  trans : ∀ {a b c}, E a b → E b c → E a c
  put : ∀ {a b o}, a D = none → E a b → E a (upd b D o)
  keep : ∀ {a b}, E a b → Keep0 K a b
  at_ : ∀ {a b o}, E a b → a D = some o → b D = some o
theorem Same.of_upd {H1 H : Hp} {D : Addr} {o : HO} (s : Same H1 H) (hD : H1 D = none) : Same H1 (upd H D o) := fun b u e => by
  rw [upd_ne (ne_of_none e hD)]
  exact s b u e
theorem envS {K : PySem.W.Frag} {D : Addr} : Env0 K D Same := ⟨fun a b => a.trans b, fun h s => Same.of_upd s h, fun s => Same.keep0 s, fun s h => s _ _ h⟩
/-- the pool at p is being drawn from -/
def Pl (p : Addr) (H H' : Hp) : Prop := But p H H' ∧ PoolAt H p ∧ PoolAt H' p
theorem pool_ne {H : Hp} {p D : Addr} (h : PoolAt H p) (hD : H D = none) : D ≠ p := fun e => by
  obtain ⟨i, j, h, _⟩ := h
  rw [← e, hD] at h
  cases h
theorem Pl.keep {K : PySem.W.Frag} {p : Addr} {H H' : Hp} (s : Pl p H H') : Keep K H H' := let ⟨_, _, h, _⟩ := s.2.1; But.keep s.1 h pool_firm
theorem Pl.keep0 {K : PySem.W.Frag} {p : Addr} {H H' : Hp} (s : Pl p H H') : Keep0 K H H' := s.keep.weak
theorem Pl.trans {p : Addr} {H H1 H2 : Hp} (a : Pl p H H1) (b : Pl p H1 H2) : Pl p H H2 := ⟨a.1.trans b.1, a.2.1, b.2.2⟩
theorem Pl.refl {p : Addr} {H : Hp} (h : PoolAt H p) : Pl p H H := ⟨But.refl, h, h⟩
theorem Same.pool {p : Addr} {H H' : Hp} (s : Same H H') (h : PoolAt H p) : PoolAt H' p := let ⟨i, j, h, q⟩ := h; ⟨i, j, s _ _ h, q⟩
theorem Same.pl {p : Addr} {H H' : Hp} (s : Same H H') (h : PoolAt H p) : Pl p H H' := ⟨Same.but s, h, Same.pool s h⟩
theorem Pl.put {p D : Addr} {H H1 : Hp} {o : HO} (s : Pl p H H1) (hD : H D = none) : Pl p H (upd H1 D o) := by
  have n := pool_ne s.2.1 hD
  refine ⟨fun b u h q => ?_, s.2.1, ?_⟩
  · rw [upd_ne (ne_of_none h hD)]
    exact s.1 b u h q
  · obtain ⟨i, j, h, q⟩ := s.2.2
    exact ⟨i, j, by rw [upd_ne (Ne.symm n)]; exact h, q⟩
theorem envP {K : PySem.W.Frag} {D p : Addr} (n : D ≠ p) : Env0 K D (Pl p) := ⟨fun a b => a.trans b, fun h s => s.put h, fun s => s.keep0, fun s h => s.1 _ _ h n⟩
theorem Pl.at_ {p a : Addr} {H H' : Hp} {o : HO} (s : Pl p H H') (h : H a = some o) (n : a ≠ p) : H' a = some o := s.1 a o h n
theorem lst_firm0 {K : PySem.W.Frag} {xs : List V} : ¬ Firm0 K (.lst xs) := fun h => h
theorem dK_ints {K : PySem.W.Frag} {kvs : List (Key × V)} (h : ∀ kv ∈ kvs, ∃ i, kv.2 = .int i) : ¬ Firm0 K (.dK kvs) := fun ⟨kv, m, n⟩ => let ⟨i, e⟩ := h kv m; n i e
section
variable {J : It} {n : Nat} {G : Hp → Prop} {Y : Nat → Hp → V → Hp → Prop} {K : PySem.W.Frag}
/-- [elt for x in .. if ..]: R: how an item stands for what it tells; M: what the items tell, by the turn -/
theorem lcM {α : Type} (w : Walk J n G Y) {g : TG} {tt : TT} {te : TE} {vs : List Nat} {σ : L2.St} {H1 : Hp} {D : Addr} {Qd : Hp → Prop} {E : Hp → Hp → Prop} (e : Env0 K D E) (hD : H1 D = none) (h0 : E H1 (upd H1 D (.lst []))) (hn : n ≤ sizeLine)
    (R : Hp → V → α → Prop) (Rk : ∀ H H' v a, Keep0 K H H' → R H v a → R H' v a) (M : Nat → List α → Prop) (M0 : M 0 []) (Ml : ∀ i ls, i ≤ n → M i ls → ls.length ≤ i) (hG : ∀ H, E H1 H → G H)
    (turn : ∀ i x H H' (ls : List α) (No : Hp → Prop) (Ye : V → Hp → Prop), i < n → E H1 H → M i ls → Y i H x H' → (∀ H3, E H H3 → M (i + 1) ls → No H3) → (∀ y a H4, E H H4 → R H4 y a → M (i + 1) (ls ++ [a]) → Ye y H4) →
      g x (wipe σ vs) H' fun σ2 H2 => wipe σ2 vs = wipe σ vs ∧ tt σ2 H2 fun b H3 => if b = true then te σ2 H3 Ye else No H3)
    (hd : ∀ H ys ls, E H1 H → H D = some (.lst ys) → Paired (R H) ys ls → M n ls → Qd H) :
    ∃ W : Nat → Nat → Hp → Prop, (∃ m, W 0 m (upd H1 D (.lst []))) ∧ ∀ i m H, W i m H →
      (J.stop i H ∧ Qd H) ∨ (J.go i H ∧ ∃ Nx : Hp → Prop, (∀ H', Nx H' → ∃ m', m' < m ∧ W (i + 1) m' H') ∧ ∀ x H', J.yld i H x H' → g x (wipe σ vs) H' fun σ2 H2 => wipe σ2 vs = wipe σ vs ∧ tt σ2 H2 fun b H3 =>
        if b = true then te σ2 H3 fun y H4 => ∃ acc, H4 D = some (.lst acc) ∧ acc.length < sizeLine ∧ Nx (upd H4 D (.lst (acc ++ [y]))) else Nx H3) := by
  refine lc_it w (fun i H => E H1 H ∧ ∃ ys ls, H D = some (.lst ys) ∧ Paired (R H) ys ls ∧ M i ls) ⟨h0, [], [], upd_same, .nil, M0⟩ (fun i H _ p => hG H p.1) (fun i x H H' hi p y => ?_) fun H p => ?_
  · obtain ⟨p, ys, ls, h, r, m⟩ := p
    refine turn i x H H' ls _ _ hi p m y (fun H3 s m' => ⟨e.trans p s, ys, ls, e.at_ s h, Paired.mapP r fun _ _ z => Rk _ _ _ _ (e.keep s) z, m'⟩) fun y a H4 s ra m' => ?_
    have h4 := e.at_ s h
    have k : Keep0 K H4 (upd H4 D (.lst (ys ++ [y]))) := keep0_upd h4 lst_firm0
    refine ⟨ys, h4, ?_, e.put hD (e.trans p s), ys ++ [y], ls ++ [a], upd_same, ?_, m'⟩
    · have h1 := Ml i ls (Nat.le_of_lt hi) m
      have h2 := Paired.length r
      omega
    · exact Paired.snoc (Paired.mapP r fun _ _ z => Rk _ _ _ _ k (Rk _ _ _ _ (e.keep s) z)) (Rk _ _ _ _ k ra)
  · obtain ⟨p, ys, ls, h, r, m⟩ := p
    exact hd H ys ls p h r m
/-- .. where nothing that stands is changed, and each turn's item is told by f -/
theorem lcR {α : Type} (w : Walk J n G Y) {g : TG} {tt : TT} {te : TE} {vs : List Nat} {σ : L2.St} {H1 : Hp} {D : Addr} {Qd : Hp → Prop} (hD : H1 D = none) (hn : n ≤ sizeLine)
    (R : Hp → V → α → Prop) (Rk : ∀ H H' v a, Keep0 K H H' → R H v a → R H' v a) (f : Nat → Option α) (hG : ∀ H, Same H1 H → G H)
    (turn : ∀ i x H H' (No : Hp → Prop) (Ye : V → Hp → Prop), i < n → Same H1 H → Y i H x H' → (f i = none → ∀ H3, Same H H3 → No H3) → (∀ a, f i = some a → ∀ y H4, Same H H4 → R H4 y a → Ye y H4) →
      g x (wipe σ vs) H' fun σ2 H2 => wipe σ2 vs = wipe σ vs ∧ tt σ2 H2 fun b H3 => if b = true then te σ2 H3 Ye else No H3)
    (hd : ∀ H ys, Same H1 H → H D = some (.lst ys) → Paired (R H) ys ((List.range n).filterMap f) → Qd H) :
    ∃ W : Nat → Nat → Hp → Prop, (∃ m, W 0 m (upd H1 D (.lst []))) ∧ ∀ i m H, W i m H →
      (J.stop i H ∧ Qd H) ∨ (J.go i H ∧ ∃ Nx : Hp → Prop, (∀ H', Nx H' → ∃ m', m' < m ∧ W (i + 1) m' H') ∧ ∀ x H', J.yld i H x H' → g x (wipe σ vs) H' fun σ2 H2 => wipe σ2 vs = wipe σ vs ∧ tt σ2 H2 fun b H3 =>
        if b = true then te σ2 H3 fun y H4 => ∃ acc, H4 D = some (.lst acc) ∧ acc.length < sizeLine ∧ Nx (upd H4 D (.lst (acc ++ [y]))) else Nx H3) :=
  lcM (K := K) w envS hD (same_upd hD) hn R Rk (fun i ls => ls = (List.range i).filterMap f) rfl (fun i ls _ h => h ▸ fm_le f i) hG
    (fun i x H H' ls No Ye hi s m y no ye => turn i x H H' No Ye hi s y (fun h H3 s3 => no H3 s3 (m.trans (fm_none h).symm)) fun a h v H4 s4 r => ye v a H4 s4 r ((congrArg (· ++ [a]) m).trans (fm_some h).symm))
    fun H ys ls s h r m => hd H ys s h (m ▸ r)
theorem paired_eq {xs ys : List V} (h : Paired (fun x y => x = y) xs ys) : xs = ys := by
  induction h with
  | nil => rfl
  | cons a _ ih => rw [a, ih]
/-- .. and the item is a plain value -/
theorem lcF (w : Walk J n G Y) {g : TG} {tt : TT} {te : TE} {vs : List Nat} {σ : L2.St} {H1 : Hp} {D : Addr} {Qd : Hp → Prop} (hD : H1 D = none) (hn : n ≤ sizeLine) (f : Nat → Option V) (hG : ∀ H, Same H1 H → G H)
    (turn : ∀ i x H H' (No : Hp → Prop) (Ye : V → Hp → Prop), i < n → Same H1 H → Y i H x H' → (f i = none → ∀ H3, Same H H3 → No H3) → (∀ y, f i = some y → ∀ H4, Same H H4 → Ye y H4) →
      g x (wipe σ vs) H' fun σ2 H2 => wipe σ2 vs = wipe σ vs ∧ tt σ2 H2 fun b H3 => if b = true then te σ2 H3 Ye else No H3)
    (hd : ∀ H, Same H1 H → H D = some (.lst ((List.range n).filterMap f)) → Qd H) :
    ∃ W : Nat → Nat → Hp → Prop, (∃ m, W 0 m (upd H1 D (.lst []))) ∧ ∀ i m H, W i m H →
      (J.stop i H ∧ Qd H) ∨ (J.go i H ∧ ∃ Nx : Hp → Prop, (∀ H', Nx H' → ∃ m', m' < m ∧ W (i + 1) m' H') ∧ ∀ x H', J.yld i H x H' → g x (wipe σ vs) H' fun σ2 H2 => wipe σ2 vs = wipe σ vs ∧ tt σ2 H2 fun b H3 =>
        if b = true then te σ2 H3 fun y H4 => ∃ acc, H4 D = some (.lst acc) ∧ acc.length < sizeLine ∧ Nx (upd H4 D (.lst (acc ++ [y]))) else Nx H3) :=
  lcR (K := []) w hD hn (fun _ v a => v = a) (fun _ _ _ _ _ h => h) f hG
    (fun i x H H' No Ye hi s y no ye => turn i x H H' No Ye hi s y no fun v h H4 s4 => ye v h v H4 s4 rfl) fun H ys s h r => hd H s (paired_eq r ▸ h)
/-- {k: v for x in .. if ..} with plain values -/
theorem dcF (w : Walk J n G Y) {g : TG} {tt : TT} {tk tv : TE} {vs : List Nat} {σ : L2.St} {H1 : Hp} {D : Addr} {Qd : Hp → Prop} (hD : H1 D = none) (hn : n ≤ sizeLine) (f : Nat → Option (Key × V)) (hG : ∀ H, Same H1 H → G H)
    (turn : ∀ i x H H' (No : Hp → Prop) (Ye : V → V → Hp → Prop), i < n → Same H1 H → Y i H x H' → (f i = none → ∀ H3, Same H H3 → No H3) → (∀ k v, f i = some (k, v) → ∀ H4, Same H H4 → Ye (kV k) v H4) →
      g x (wipe σ vs) H' fun σ2 H2 => wipe σ2 vs = wipe σ vs ∧ tt σ2 H2 fun b H3 => if b = true then tk σ2 H3 fun y H4 => tv σ2 H4 fun z H5 => Ye y z H5 else No H3)
    (hd : ∀ H, Same H1 H → H D = some (.dK (mergeK [] ((List.range n).filterMap f))) → Qd H) :
    ∃ W : Nat → Nat → Hp → Prop, (∃ m, W 0 m (upd H1 D (.dK []))) ∧ ∀ i m H, W i m H →
      (J.stop i H ∧ Qd H) ∨ (J.go i H ∧ ∃ Nx : Hp → Prop, (∀ H', Nx H' → ∃ m', m' < m ∧ W (i + 1) m' H') ∧ ∀ x H', J.yld i H x H' → g x (wipe σ vs) H' fun σ2 H2 => wipe σ2 vs = wipe σ vs ∧ tt σ2 H2 fun b H3 =>
        if b = true then tk σ2 H3 fun y H4 => tv σ2 H4 fun z H5 => ∃ kvs k, y = kV k ∧ H5 D = some (.dK kvs) ∧ kvs.length < sizeLine ∧ Nx (upd H5 D (.dK (putK kvs k z))) else Nx H3) := by
  refine ⟨fun i m H => m = n - i ∧ i ≤ n ∧ Same H1 H ∧ H D = some (.dK (mergeK [] ((List.range i).filterMap f))), ⟨n, by simp, Nat.zero_le _, same_upd hD, upd_same⟩, ?_⟩
  rintro i m H ⟨rfl, hi, p, h⟩
  have q := hG H p
  by_cases hlt : i < n
  · refine .inr ⟨w.goes i H hlt q, fun H' => Same H1 H' ∧ H' D = some (.dK (mergeK [] ((List.range (i + 1)).filterMap f))), fun H' p' => ⟨n - (i + 1), by omega, rfl, hlt, p'⟩, fun x H' y => ?_⟩
    refine turn i x H H' _ _ hlt p (w.yields i H x H' hlt q y) (fun e H3 s => ⟨p.trans s, (s _ _ h).trans (by rw [fm_none e])⟩) fun k v e H4 s => ?_
    refine ⟨_, k, rfl, s _ _ h, ?_, Same.of_upd (p.trans s) hD, upd_same.trans ?_⟩
    · have h1 := length_mergeK ((List.range i).filterMap f) []
      have h2 := fm_le f i
      have h3 : ([] : List (Key × V)).length = 0 := rfl
      omega
    · rw [fm_some e]
      unfold mergeK
      rw [List.foldl_append]
      rfl
  · have e : i = n := by omega
    subst e
    exact .inl ⟨w.stops H q, hd H p h⟩
end
end SC

set_option Elab.async false
set_option linter.all false
set_option maxRecDepth 100000
set_option maxHeartbeats 4000000
namespace SC
open PySem PySem.Spec PyProof.Rows L2
/-- [elt for x in .. for y in ..] without ifs: F i: what the items of the outer turn i tell -/
theorem lc2R {α : Type} {K : PySem.W.Frag} {J : It} {n : Nat} {G : Hp → Prop} {Y : Nat → Hp → V → Hp → Prop} (w : Walk J n G Y) {g g1 : TG} {tt1 : TT} {te : TE} {wi1 : TI} {tt : TT} {vs vs1 : List Nat} {σ : L2.St} {H1 : Hp} {D : Addr} {Qd : Hp → Prop} (hD : H1 D = none)
    (R : Hp → V → α → Prop) (Rk : ∀ H H' v a, Keep0 K H H' → R H v a → R H' v a) (F : Nat → List α) (hn : ∀ i, i ≤ n → ((List.range i).flatMap F).length ≤ sizeLine) (hG : ∀ H, Same H1 H → G H)
    (turn : ∀ i x H H' ys (Wi : L2.St → It → Hp → Prop), i < n → Same H1 H → H D = some (.lst ys) → Y i H x H' →
      (∀ J1 H4 n1 Y1 σ2, Same H H4 → Walk J1 n1 (But D H4) Y1 → n1 = (F i).length →
        (∀ j x H H' (Ye : V → Hp → Prop), j < n1 → But D H4 H → Y1 j H x H' → (∀ y a H5, (F i)[j]? = some a → Same H H5 → R H5 y a → Ye y H5) →
          g1 x (wipe σ2 vs1) H' fun σ3 H5 => wipe σ3 vs1 = wipe σ2 vs1 ∧ tt1 σ3 H5 fun b H6 => b = true ∧ te σ3 H6 Ye) → Wi σ2 J1 H4) →
      g x (wipe σ vs) H' fun σ2 H2 => wipe σ2 vs = wipe σ vs ∧ tt σ2 H2 fun b H3 => b = true ∧ wi1 σ2 H3 (Wi σ2))
    (hd : ∀ H ys, Same H1 H → H D = some (.lst ys) → Paired (R H) ys ((List.range n).flatMap F) → Qd H)
    (gm : ∀ x σ H (Q Q' : L2.St → Hp → Prop), (∀ σ' H', Q σ' H' → Q' σ' H') → g x σ H Q → g x σ H Q')
    (tm : ∀ σ H (Q Q' : Bool → Hp → Prop), (∀ b H', Q b H' → Q' b H') → tt σ H Q → tt σ H Q')
    (gm1 : ∀ x σ H (Q Q' : L2.St → Hp → Prop), (∀ σ' H', Q σ' H' → Q' σ' H') → g1 x σ H Q → g1 x σ H Q')
    (tm1 : ∀ σ H (Q Q' : Bool → Hp → Prop), (∀ b H', Q b H' → Q' b H') → tt1 σ H Q → tt1 σ H Q') :
    ∃ W : Nat → Nat → Hp → Prop, (∃ m, W 0 m (upd H1 D (.lst []))) ∧ ∀ i m H, W i m H →
  (J.stop i H ∧ Qd H) ∨ (J.go i H ∧ ∃ Nx : Hp → Prop, (∀ H', Nx H' → ∃ m', m' < m ∧ W (i + 1) m' H') ∧ ∀ x H', J.yld i H x H' → g x (wipe σ vs) H' fun σ2 H2 => wipe σ2 vs = wipe σ vs ∧ tt σ2 H2 fun b H3 =>
    if b = true then wi1 σ2 H3 fun J1 H4 => ∃ W1 : Nat → Nat → Hp → Prop, (∃ m, W1 0 m H4) ∧ ∀ j k H, W1 j k H →
      (J1.stop j H ∧ Nx H) ∨ (J1.go j H ∧ ∃ Nx1 : Hp → Prop, (∀ H', Nx1 H' → ∃ k', k' < k ∧ W1 (j + 1) k' H') ∧ ∀ x H', J1.yld j H x H' → g1 x (wipe σ2 vs1) H' fun σ3 H5 => wipe σ3 vs1 = wipe σ2 vs1 ∧ tt1 σ3 H5 fun b H6 =>
        if b = true then te σ3 H6 fun y H7 => ∃ acc, H7 D = some (.lst acc) ∧ acc.length < sizeLine ∧ Nx1 (upd H7 D (.lst (acc ++ [y]))) else Nx1 H6)
    else Nx H3) := by
  refine ⟨fun i m H => m = n - i ∧ i ≤ n ∧ Same H1 H ∧ ∃ ys, H D = some (.lst ys) ∧ Paired (R H) ys ((List.range i).flatMap F), ⟨n, by simp, Nat.zero_le _, same_upd hD, [], upd_same, .nil⟩, ?_⟩
  rintro i m H ⟨rfl, hi, p, ys, h, r⟩
  have q := hG H p
  by_cases hlt : i < n
  · refine .inr ⟨w.goes i H hlt q, fun H' => Same H1 H' ∧ ∃ ys, H' D = some (.lst ys) ∧ Paired (R H') ys ((List.range (i + 1)).flatMap F), fun H' p' => ⟨n - (i + 1), by omega, rfl, hlt, p'⟩, fun x H' y => ?_⟩
    refine gm _ _ _ _ _ (fun σ2 H2 z => ⟨z.1, tm _ _ _ _ (fun b H3 z => ?_) z.2⟩) (turn i x H H' ys (fun σ2 J1 H4 => ∃ W1 : Nat → Nat → Hp → Prop, (∃ m, W1 0 m H4) ∧ ∀ j k H, W1 j k H →
      (J1.stop j H ∧ Same H1 H ∧ ∃ ys, H D = some (.lst ys) ∧ Paired (R H) ys ((List.range (i + 1)).flatMap F)) ∨ (J1.go j H ∧ ∃ Nx1 : Hp → Prop, (∀ H', Nx1 H' → ∃ k', k' < k ∧ W1 (j + 1) k' H') ∧ ∀ x H', J1.yld j H x H' → g1 x (wipe σ2 vs1) H' fun σ3 H5 => wipe σ3 vs1 = wipe σ2 vs1 ∧ tt1 σ3 H5 fun b H6 =>
        if b = true then te σ3 H6 fun y H7 => ∃ acc, H7 D = some (.lst acc) ∧ acc.length < sizeLine ∧ Nx1 (upd H7 D (.lst (acc ++ [y]))) else Nx1 H6)) hlt p h (w.yields i H x H' hlt q y) fun J1 H4 n1 Y1 σ2 s4 w1 hn1 tn => ?_)
    · obtain ⟨rfl, z⟩ := z
      exact iteT z
    · have h4 := s4 _ _ h
      refine ⟨fun j k H5 => k = n1 - j ∧ j ≤ n1 ∧ Same H1 H5 ∧ But D H4 H5 ∧ ∃ ys, H5 D = some (.lst ys) ∧ Paired (R H5) ys ((List.range i).flatMap F ++ (F i).take j), ⟨n1, by simp, Nat.zero_le _, p.trans s4, But.refl, _, h4, ?_⟩, ?_⟩
      · rw [List.take_zero, List.append_nil]
        exact Paired.mapP r fun _ _ z => Rk _ _ _ _ (Same.keep0 s4) z
      rintro j k H5 ⟨rfl, hj, p5, b5, ys5, h5, r5⟩
      by_cases hl1 : j < n1
      · refine .inr ⟨w1.goes j H5 hl1 b5, fun H5 => Same H1 H5 ∧ But D H4 H5 ∧ ∃ ys, H5 D = some (.lst ys) ∧ Paired (R H5) ys ((List.range i).flatMap F ++ (F i).take (j + 1)), fun H' p' => ⟨n1 - (j + 1), by omega, rfl, hl1, p'⟩, fun x1 H6 y1 => ?_⟩
        refine gm1 _ _ _ _ _ (fun σ3 H7 z => ⟨z.1, tm1 _ _ _ _ (fun b H8 z => ?_) z.2⟩) (tn j x1 H5 H6 (fun y H7 => ∃ acc, H7 D = some (.lst acc) ∧ acc.length < sizeLine ∧ (fun H5 => Same H1 H5 ∧ But D H4 H5 ∧ ∃ ys, H5 D = some (.lst ys) ∧ Paired (R H5) ys ((List.range i).flatMap F ++ (F i).take (j + 1))) (upd H7 D (.lst (acc ++ [y])))) hl1 b5 (w1.yields j H5 x1 H6 hl1 b5 y1) fun y a H7 ea s7 ra => ?_)
        · obtain ⟨rfl, z⟩ := z
          exact iteT z
        · have h7 := s7 _ _ h5
          have k7 : Keep0 K H7 (upd H7 D (.lst (ys5 ++ [y]))) := keep0_upd h7 lst_firm0
          refine ⟨ys5, h7, ?_, Same.of_upd (p5.trans s7) hD, (b5.trans (Same.but s7)).trans But.upd, ys5 ++ [y], upd_same, ?_⟩
          · have h1 := hn (i + 1) hlt
            rw [List.range_succ, List.flatMap_append, List.length_append, List.flatMap_singleton] at h1
            have h2 := Paired.length r5
            rw [List.length_append, List.length_take] at h2
            omega
          · rw [List.take_add_one, ea, ← List.append_assoc]
            exact Paired.snoc (Paired.mapP r5 fun _ _ z => Rk _ _ _ _ k7 (Rk _ _ _ _ (Same.keep0 s7) z)) (Rk _ _ _ _ k7 ra)
      · have e : j = n1 := by omega
        subst e
        refine .inl ⟨w1.stops H5 b5, p5, ys5, h5, ?_⟩
        rw [List.range_succ, List.flatMap_append, List.flatMap_singleton]
        rw [hn1, List.take_length] at r5
        exact r5
  · have e : i = n := by omega
    subst e
    exact .inl ⟨w.stops H q, hd H ys p h r⟩
end SC

set_option Elab.async false
set_option linter.all false
set_option maxRecDepth 100000
set_option maxHeartbeats 4000000
namespace SC
open PySem PySem.Spec PyProof.Rows L2
theorem ty {σ : L2.St} {H : Hp} {P N : Hp → Prop} (a : P H) : tYes σ H fun b H3 => if b = true then P H3 else N H3 := by
  show if true = true then P H else N H
  rw [if_pos rfl]
  exact a
/-! ### rules with the written part named: within comprehensions -/
section
variable {X : Cx} (K : PySem.W.Frag) (h : X.K = K)
include h
theorem sl_list' : SlR X (rSlL K) := h ▸ sl_list
theorem ix_list' : IxR X (rIxL K) := h ▸ ix_list
theorem ix_tup' : IxR X (rIxT K) := h ▸ ix_tup
theorem pi_tup' {tg l : Expr} {tl : TE} (p : PE X l tl) : PI X tg l (iTup K tl) := h ▸ pi_tup p
theorem pi_list' {tg l : Expr} {tl : TE} (p : PE X l tl) : PI X tg l (iList K tl) := h ▸ pi_list p
theorem pa_star' {e : Expr} {es : List Expr} {te : TE} {t : TA} {p : Pos} (he : PE X e te) (hr : PA X es t) (hs : starEach (.Starred e p :: es) X.env = (true, eval e X.env) :: starEach es X.env := by rfl) : PA X (.Starred e p :: es) (StX.tStar K te t) := h ▸ StX.pa_star he hr hs
theorem op_in_seq' : OpR X (compareOp .In) (rIn K false) := h ▸ op_in_seq
theorem op_notIn_seq' : OpR X (compareOp .NotIn) (rIn K true) := h ▸ op_notIn_seq
theorem pe_fld' {e : Expr} {ta : TE} {f : Str} {pos : Pos} (he : PE X e ta) (hb : attributeBase e f X.env (eval e X.env) = eval e X.env) : PE X (.Attribute e f pos) (tFld K ta f) := h ▸ pe_fld he hb
theorem pg_tup' {pos : Pos} {es : List Expr} {k : Nat} {t : TGs} {n : Nat} (hc : X.calm = true) (hg : PGs X es t)
    (hn : (assignEach es X.env).length = n := by rfl) (hst : (assignEach es X.env).findIdx? (·.1) = none := by rfl) : PG X (.Tuple es k pos) (gTup K n t) := h ▸ pg_tup hc hg hn hst
theorem call_isi' : CallR X (.builtin "isinstance") (rIsi K) := h ▸ call_isi
theorem call_len' : CallR X (.builtin "len") (rLen K) := h ▸ call_len
end
end SC

set_option Elab.async false
set_option linter.all false
set_option maxRecDepth 100000
set_option maxHeartbeats 4000000
namespace SC
open PySem PySem.Spec PyProof.Rows L2
open C8 (Cal Met Mak pe_c pe_mk pe_mt pe_mt0 pe_gc InsC)
/-! ### words -/
theorem small {n : Nat} (h : n ≤ 1000000) : n ≤ sizeLine := Nat.le_trans h (by decide)
theorem small' {n : Nat} (h : n < 1000000) : n < sizeLine := Nat.lt_of_lt_of_le h (by decide)
theorem at0 {α : Type} {x : α} {r : List α} : atI (x :: r) 0 = some x := atI_nat (j := 0) rfl
theorem at1 {α : Type} {x y : α} {r : List α} : atI (x :: y :: r) 1 = some y := atI_nat (j := 1) rfl
theorem at2 {α : Type} {x y z : α} {r : List α} : atI (x :: y :: z :: r) 2 = some z := atI_nat (j := 2) rfl
theorem at3 {α : Type} {x y z u : α} {r : List α} : atI (x :: y :: z :: u :: r) 3 = some u := atI_nat (j := 3) rfl
def TuAt (H : Hp) (v : V) (r : List Int) : Prop := ∃ a, v = .ref a ∧ H a = some (.tup (r.map V.int))
theorem Keep0.tu {K : PySem.W.Frag} {H H' : Hp} (k : Keep0 K H H') {v : V} {r : List Int} (h : TuAt H v r) : TuAt H' v r := let ⟨a, e, h⟩ := h; ⟨a, e, k.tup h⟩
def ext3 (r : List Int) : List (List Int) := [r ++ [0], r ++ [1], r ++ [2]]
def tups : Nat → List (List Int)
  | 0 => [[]]
  | n + 1 => (tups n).flatMap ext3
theorem tups_len : ∀ n, (tups n).length = 3 ^ n
  | 0 => rfl
  | n + 1 => by
    have key : ∀ l : List (List Int), (l.flatMap ext3).length = l.length * 3 := by
      intro l
      induction l with
      | nil => rfl
      | cons x r ih =>
        rw [List.flatMap_cons, List.length_append, ih, List.length_cons]
        show 3 + r.length * 3 = (r.length + 1) * 3
        omega
    show ((tups n).flatMap ext3).length = 3 ^ n * 3
    rw [key, tups_len n]
theorem tups_in : ∀ n r, r ∈ tups n → r.length = n
  | 0, r, h => by
    have h : r ∈ [([] : List Int)] := h
    rw [List.mem_singleton] at h
    rw [h]
    rfl
  | n + 1, r, h => by
    obtain ⟨x, hx, hr⟩ := List.mem_flatMap.mp h
    have z := tups_in n x hx
    have hr : r ∈ [x ++ [0], x ++ [1], x ++ [2]] := hr
    simp only [List.mem_cons, List.not_mem_nil, or_false] at hr
    rcases hr with rfl | rfl | rfl <;> rw [List.length_append, z] <;> rfl
/-- what g makes of the i-th -/
def fo {α β : Type} (xs : List α) (g : α → List β) (i : Nat) : List β := (xs[i]?).elim [] g
theorem fo_some {α β : Type} {xs : List α} {g : α → List β} {i : Nat} {x : α} (h : xs[i]? = some x) : fo xs g i = g x := by
  unfold fo
  rw [h]
  rfl
theorem fl_congr {α β : Type} {f g : α → List β} : ∀ {xs : List α}, (∀ x ∈ xs, f x = g x) → xs.flatMap f = xs.flatMap g
  | [], _ => rfl
  | x :: r, h => by
    rw [List.flatMap_cons, List.flatMap_cons, h x List.mem_cons_self, fl_congr fun y hy => h y (List.mem_cons_of_mem _ hy)]
theorem fl_range {α β : Type} (xs : List α) (g : α → List β) : (List.range xs.length).flatMap (fo xs g) = xs.flatMap g := by
  have key : ∀ (n : Nat) (ys : List α), (List.range' n ys.length).flatMap (fun i => fo ys g (i - n)) = ys.flatMap g := by
    intro n ys
    induction ys generalizing n with
    | nil => rfl
    | cons y r ih =>
      rw [List.length_cons, List.range'_succ, List.flatMap_cons, List.flatMap_cons]
      have e0 : fo (y :: r) g (n - n) = g y := by rw [Nat.sub_self]; rfl
      have e1 : (List.range' (n + 1) r.length).flatMap (fun i => fo (y :: r) g (i - n)) = (List.range' (n + 1) r.length).flatMap (fun i => fo r g (i - (n + 1))) := by
        refine fl_congr fun i hi => ?_
        have h1 := (List.mem_range'_1.mp hi).1
        have h2 : i - n = (i - (n + 1)) + 1 := by omega
        unfold fo
        rw [h2, List.getElem?_cons_succ]
      rw [e0, e1, ih]
  have h := key 0 xs
  rw [List.range_eq_range']
  exact h
theorem fl_len {α β : Type} (xs : List α) (g : α → List β) {k i : Nat} (h : ∀ x, (g x).length ≤ k) : ((List.range i).flatMap (fo xs g)).length ≤ i * k := by
  induction i with
  | zero => simp
  | succ i ih =>
    rw [List.range_succ, List.flatMap_append, List.length_append, List.flatMap_singleton, Nat.succ_mul]
    have : (fo xs g i).length ≤ k := by
      unfold fo
      cases xs[i]? with
      | none => exact Nat.zero_le _
      | some x => exact h x
    omega
theorem paired_get {α β : Type} {R : α → β → Prop} {xs : List α} {ys : List β} (h : Paired R xs ys) {i : Nat} {x : α} (e : xs[i]? = some x) : ∃ y, ys[i]? = some y ∧ R x y := by
  induction h generalizing i with
  | nil => cases i <;> cases e
  | cons a _ ih =>
    cases i with
    | zero => cases e; exact ⟨_, rfl, a⟩
    | succ i => exact ih e
theorem paired_get' {α β : Type} {R : α → β → Prop} {xs : List α} {ys : List β} (h : Paired R xs ys) {i : Nat} {y : β} (e : ys[i]? = some y) : ∃ x, xs[i]? = some x ∧ R x y := by
  induction h generalizing i with
  | nil => cases i <;> cases e
  | cons a _ ih =>
    cases i with
    | zero => cases e; exact ⟨_, rfl, a⟩
    | succ i => exact ih e
section
variable {P : Program} {w : World} {K : PySem.W.Frag} {mg : Str → Option Value} {base : Heap}
def spIsName : Sp := fun vs H Q _ => ∃ x, vs = [.str x] ∧ IsNm x ∧ ∀ H', Same H H' → Q (.bl true) H'
theorem C_is_name (T : TX K mg) : Cal P w K mg base 1 "is_name" spIsName [] := by
  obtain ⟨fd, F⟩ := T.d_is_name
  refine calD "is_name" F T.g_is_name (b_is_name F) .nil S_is_name (fun vs H Q E h => ?_) (fun cdv A outer s H vs Q E hr h => ?_)
  · obtain ⟨x, rfl, nm, q⟩ := h
    rfl
  obtain ⟨x, rfl, nm, q⟩ := h
  refine ⟨_, (pss_one (ps_ret (pe_and (pe_callB call_isi (by rfl) T.f_isinstance v_isinstance (pa_cons (pv 0) (pa_cons (pe_bltn (v := .ty "str") (u := .type "str") (by rfl) T.f_str v_str rfl) pa_nil))) (pe_and (pe_chain op_le op_le pe_int (pe_callB call_len (by rfl) T.f_len v_len (pa_cons (pv 0) pa_nil)) (pe_gc rfl T.k_MOST_LETTERS)) (pe_one (pe_callB (cr_all rfl) (by rfl) T.f_all v_all (pa_cons (pe_lc (own := [("sign", 1)]) (by rfl) S_is_name.nd  (pi_str (pv 0)) (blkOk_by (own := [("sign", 1)]) (N := N_is_name) (sc := d_is_name.scope) (by decide +kernel)) (fun _ _ _ _ _ => (pg_name (i := 1) S_is_name.nd rfl (Or.inl rfl))) (fun _ _ _ _ _ => pts_nil) (fun _ _ _ _ _ => (pe_cmpR op_in_sign (pv 1) (pe_gc rfl T.k_LETTERS) (by rfl)))) pa_nil))))))), ?_⟩
  obtain ⟨n1, n8, nl⟩ := nm
  refine ⟨_, rfl, _, _, _, _, _, rfl, .ty _, .base (.str x), kk_str_str, _, rfl, iteT ?_⟩
  refine ⟨_, rfl, _, _, rfl, ⟨small (by omega), rfl⟩, _, _, rfl, rfl, _, rfl, iteD (by omega) ⟨_, _, rfl, rfl, _, rfl, iteD (by omega) ?_⟩⟩
  refine ⟨_, rfl, _, rfl, fun D hD => ?_⟩
  refine lcF walk_str hD (small (by show x.length ≤ 1000000; omega)) (fun i => x.cps.toList[i]?.map fun c => V.bl (decide (c ∈ LETT.cps.toList))) (fun _ _ => trivial) (fun i y H1 H2 No Ye hi s1 y1 no ye => ?_) fun H1 s1 h1 => ?_
  · obtain ⟨rfl, c, ec, rfl⟩ := y1
    exact ⟨rfl, ty ⟨_, rfl, _, _, rfl, rfl, ye _ (by rw [Array.getElem?_toList, ec]; rfl) _ (Same.refl _)⟩⟩
  · have e : (List.range x.cps.size).filterMap (fun i => x.cps.toList[i]?.map fun c => V.bl (decide (c ∈ LETT.cps.toList))) = (x.cps.toList.map fun c => decide (c ∈ LETT.cps.toList)).map V.bl := by
      have z := fm_map x.cps.toList (fun c => V.bl (decide (c ∈ LETT.cps.toList)))
      rw [Array.length_toList] at z
      rw [z, List.map_map]
      rfl
    rw [e] at h1
    refine ⟨_, _, rfl, SqL.of h1, ?_⟩
    have e2 : (x.cps.toList.map fun c => decide (c ∈ LETT.cps.toList)).all id = true := by
      rw [List.all_map, List.all_eq_true]
      exact fun c hc => decide_eq_true (nl c hc)
    rw [e2]
    exact q _ s1
def spHasKind : Sp := fun vs H Q _ => ∃ a k xs q m, vs = [.ref a, .str q, .int m] ∧ H a = some (.tup (.str k :: xs)) ∧ Q (.bl (decide ((xs.length : Int) + 1 = m ∧ k = q))) H
theorem C_has_kind (T : TX K mg) : Cal P w K mg base 1 "has_kind" spHasKind [] := by
  obtain ⟨fd, F⟩ := T.d_has_kind
  refine calD "has_kind" F T.g_has_kind (b_has_kind F) .nil S_has_kind (fun vs H Q E h => ?_) (fun cdv A outer s H vs Q E hr h => ?_)
  · obtain ⟨a, k, xs, q, m, rfl, e, _⟩ := h
    rfl
  obtain ⟨a, k, xs, q, m, rfl, e, h⟩ := h
  refine ⟨_, (pss_one (ps_ret (pe_and (pe_callB call_isi (by rfl) T.f_isinstance v_isinstance (pa_cons (pv 0) (pa_cons (pe_bltn (v := .ty "tuple") (u := .type "tuple") (by rfl) T.f_tuple v_tuple rfl) pa_nil))) (pe_and (pe_cmpR op_eq (pe_callB call_len (by rfl) T.f_len v_len (pa_cons (pv 0) pa_nil)) (pv 2) (nomark _)) (pe_and (pe_callB call_isi (by rfl) T.f_isinstance v_isinstance (pa_cons (pe_ix ix_tup (pv 0) pe_int (fun _ _ => rfl)) (pa_cons (pe_bltn (v := .ty "str") (u := .type "str") (by rfl) T.f_str v_str rfl) pa_nil))) (pe_one (pe_cmpR op_eq (pe_ix ix_tup (pv 0) pe_int (fun _ _ => rfl)) (pv 1) (nomark _)))))))), ?_⟩
  refine ⟨_, rfl, _, _, _, _, _, rfl, .ty _, .base (.tup e), kk_tuple_tuple, _, rfl, iteT ?_⟩
  refine ⟨_, rfl, _, _, rfl, .inr ⟨_, SqT.of e, rfl⟩, _, rfl, rfl, _, rfl, ?_⟩
  have hx : (V.int ((V.str k :: xs).length : Nat) = V.int m) ↔ (xs.length : Int) + 1 = m := by
    rw [List.length_cons]
    constructor
    · intro z; injection z
    · intro z; rw [← z]; rfl
  by_cases h1 : (xs.length : Int) + 1 = m
  · refine iteD (hx.mpr h1) ?_
    refine ⟨_, rfl, _, _, _, _, rfl, rfl, SqT.of e, at0, _, _, _, _, _, rfl, .ty _, .base (.str k), kk_str_str, _, rfl, iteT ?_⟩
    refine ⟨_, rfl, _, _, _, _, rfl, rfl, SqT.of e, at0, _, rfl, rfl, ?_⟩
    rw [show decide (V.str k = V.str q) = decide ((xs.length : Int) + 1 = m ∧ k = q) from decide_eq_decide.mpr ⟨fun z => ⟨h1, by injection z⟩, fun z => congrArg _ z.2⟩]
    exact h
  · refine iteDN (fun z => h1 (hx.mp z)) ?_
    rw [decide_eq_false fun z => h1 z.1] at h
    exact h
def spTuples : Sp := fun vs H Q _ => ∃ m : Nat, vs = [.int m] ∧ m ≤ 2 ∧ ∀ H' p ys, Same H H' → H' p = some (.lst ys) → Paired (TuAt H') ys (tups m) → Q (.ref p) H'
theorem C_tuples_of (T : TX K mg) : Cal P w K mg base 1 "tuples_of" spTuples [] := by
  obtain ⟨fd, F⟩ := T.d_tuples_of
  refine calD "tuples_of" F T.g_tuples_of (b_tuples_of F) .nil S_tuples_of (fun vs H Q E h => ?_) (fun cdv A outer s H vs Q E hr h => ?_)
  · obtain ⟨m, rfl, m2, q⟩ := h
    rfl
  obtain ⟨m, rfl, m2, q⟩ := h
  refine ⟨_, (pss_cons (ps_set (i := 1) S_tuples_of.nd rfl (Or.inl rfl) (pe_lst (pa_cons (pe_tup pa_nil) pa_nil)))
  (pss_cons (ps_for PassesOwn.never rfl (pi_range1 (by rfl) T.f_range (pa_cons (pv 0) pa_nil)) (pg_name (i := 2) S_tuples_of.nd rfl (Or.inl rfl))
    (pss_one (ps_setLc2 (i := 1) (own := [("row", 3), ("value", 4)]) (vs1 := [4]) (by rfl) S_tuples_of.nd rfl rfl (sw_true rfl rfl rfl (by decide +kernel)) (pi_list (pv 1)) (blkOk_by (own := [("row", 3), ("value", 4)]) (N := N_tuples_of) (sc := d_tuples_of.scope) (by decide +kernel)) (by decide) (fun _ _ _ _ _ => (pg_name (i := 3) S_tuples_of.nd rfl (Or.inl rfl))) (fun _ _ _ _ _ => pts_nil) (fun _ _ _ _ _ => (pi_tup' K rfl (pe_gc rfl T.g_VALUES))) (fun _ _ _ _ _ => (pg_name (i := 4) S_tuples_of.nd rfl (Or.inl rfl))) (fun _ _ _ _ _ => pts_nil) (fun _ _ _ _ _ => (pe_tup (pa_star' K rfl (pv 3) (pa_cons (pv 4) pa_nil)))))))
  (pss_one (ps_ret (pv 1))))), ?_⟩
  refine ⟨small (by decide), fun t ht => ⟨small (by show 1 ≤ 1000000; decide), fun l hl => ?_⟩⟩
  refine ⟨_, rfl, m, rfl, by omega, by omega, ?_⟩
  refine for_it walk_range (fun i σ H1 => ∃ p ys t r v, σ = [some (V.int m), some (.ref p), t, r, v] ∧ Same H H1 ∧ H1 p = some (.lst ys) ∧ Paired (TuAt H1) ys (tups i)) ⟨l, [.ref t], _, _, _, rfl, ?_, upd_same, .cons ⟨t, rfl, ?_⟩ .nil⟩ (fun _ _ _ _ _ => trivial) (fun i x σ H1 H2 hi p y => ?_) fun σ H1 p => ?_
  · exact (same_upd ht).trans (same_upd hl)
  · rw [upd_ne (ne_of_none upd_same hl)]
    exact upd_same
  · obtain ⟨p, ys, t, r, v, rfl, s1, h1, r1⟩ := p
    obtain ⟨rfl, rfl⟩ := y
    refine ⟨_, rfl, p, rfl, ⟨_, SqL.of h1⟩, fun D hD => ?_⟩
    refine lc2R (K := K) walk_list hD TuAt (fun _ _ _ _ k h => k.tu h) (fo (tups i) ext3) (fun j hj => small ?_) (fun H s => .inl (.inl (s _ _ h1))) (fun j x H3 H4 zs Wi hj s3 hz y in_ => ?_) (fun H3 zs s3 h3 r3 => ?_) (fun _ _ _ _ _ h q => h _ _ q) (fun _ _ _ _ h q => h _ _ q) (fun _ _ _ _ _ h q => h _ _ q) (fun _ _ _ _ h q => h _ _ q)
    · have h2 := Paired.length r1
      have h3 := tups_len i
      have h4 : 3 ^ i ≤ 3 ^ 2 := Nat.pow_le_pow_right (by decide) (by omega)
      have h5 := fl_len (tups i) ext3 (k := 3) (i := j) (fun _ => Nat.le_refl _)
      omega
    · obtain ⟨rfl, ex⟩ := y
      obtain ⟨r, er, a, rfl, ha⟩ := paired_get r1 ex
      refine ⟨rfl, rfl, _, rfl, ⟨_, T.t_VALUES _⟩, in_ _ _ _ _ _ (Same.refl _) (walk_tup.mono (fun H h => T.t_VALUES H) fun _ _ _ _ _ _ h => h) (by rw [fo_some er]; rfl) fun k x H H' Ye hk b y ye => ?_⟩
      obtain ⟨rfl, ex⟩ := y
      have ha2 : H' a = some (.tup (r.map V.int)) := b _ _ (s3 _ _ ha) (ne_of (s3 _ _ ha) hz (by intro z; cases z))
      rw [fo_some er] at ye
      have key : ∀ v : Int, x = .int v → (ext3 r)[k]? = some (r ++ [v]) → ∀ p, H' p = none → Ye (.ref p) (upd H' p (.tup (r.map V.int ++ [x]))) := fun v e1 e2 p hp => ye _ _ _ e2 (same_upd hp) ⟨_, rfl, by rw [upd_same, e1, List.map_append]; rfl⟩
      have hr3 : r.length ≤ 2 := by
        have z := tups_in i r (List.mem_of_getElem? er)
        omega
      refine ⟨rfl, rfl, _, rfl, a, _, rfl, .inl (SqT.of ha2), _, rfl, small ?_, fun p hp => ?_⟩
      · rw [List.length_append, List.length_map]
        show r.length + 1 ≤ 1000000
        omega
      · match k, hk with
        | 0, _ => cases ex; exact key 0 rfl rfl p hp
        | 1, _ => cases ex; exact key 1 rfl rfl p hp
        | 2, _ => cases ex; exact key 2 rfl rfl p hp
        | k + 3, hk => exact absurd hk (by show ¬ k + 3 < 3; omega)
    · rw [show (List.range ys.length).flatMap (fo (tups i) ext3) = tups (i + 1) by rw [Paired.length r1]; exact fl_range (tups i) ext3] at r3
      exact ⟨D, zs, _, _, _, rfl, s1.trans s3, h3, r3⟩
  · obtain ⟨p, ys, t, r, v, rfl, s1, h1, r1⟩ := p
    exact ⟨_, rfl, q _ _ _ s1 h1 r1⟩
end
end SC

set_option Elab.async false
set_option linter.all false
set_option maxRecDepth 100000
set_option maxHeartbeats 4000000
namespace SC
open PySem PySem.Spec PyProof.Rows L2
open C8 (Cal Met Mak pe_c pe_mk pe_mt pe_mt0 pe_gc InsC)
theorem pe_dead {X : Cx} {e : Expr} : PE X e (fun _ _ _ => False) := ⟨fun _ _ _ _ _ _ h => h.elim⟩
theorem pt_dead {X : Cx} {e : Expr} : PT X e (fun _ _ _ => False) := ⟨fun _ _ _ _ _ _ h => h.elim⟩
/-! ### functions by their names -/
theorem fget_mem {fs : List Fn} {x : Str} {g : Fn} (h : fget fs x = some g) : g ∈ fs ∧ g.name = x := ⟨List.mem_of_find?_eq_some h, by have z := List.find?_some h; simpa using z⟩
theorem paired_map {α β γ : Type} {R : α → β → Prop} (f : α → γ) {xs : List α} {ys : List β} (h : Paired R xs ys) : Paired (fun x y => ∃ a, x = f a ∧ R a y) (xs.map f) ys := by
  induction h with
  | nil => exact .nil
  | cons a _ ih => exact .cons ⟨_, rfl, a⟩ ih
theorem sget_ok {cs : List Str} {st : Sta} (h : Sv cs st) {x : Str} (hx : x ∈ cs) : ∃ i, sget st x = some i ∧ 0 ≤ i ∧ i ≤ 2 := by
  rw [← h.keys] at hx
  obtain ⟨i, e⟩ := sget_some hx
  refine ⟨i, e, ?_⟩
  unfold sget at e
  cases q : st.find? fun p => decide (p.1 = x) with
  | none => rw [q] at e; cases e
  | some z =>
    rw [q] at e
    cases e
    exact h.vals z (List.mem_of_find?_eq_some q)
theorem in_kinds {k : Str} (h : k ∈ KDS) : inV (.str k) [V.str "frozen", V.str "setting", V.str "table"] = true := by
  simp only [KDS, List.mem_cons, List.not_mem_nil, or_false] at h
  rcases h with rfl | rfl | rfl <;> decide +kernel
section
variable {P : Program} {w : World} {K : PySem.W.Frag} {mg : Str → Option Value} {base : Heap}
def spCell (K : PySem.W.Frag) : Sp := fun vs H Q _ => ∃ a dx c, vs = [.ref a, .str c.1, .str c.2] ∧ H a = some (.ins (He.ga K "Cell") dx []) ∧ IsNm c.1 ∧ c.2 ∈ KDS ∧ ∀ H', But a H H' → CellAt K H' a c → Q .non H'
theorem K_Cell (T : TX K mg) : Mak P w K mg base 2 "Cell" (He.ga K "Cell") (spCell K) [] := by
  have C_is_name : Cal P w K mg base 1 "is_name" spIsName [] := SC.C_is_name T
  obtain ⟨fd, F⟩ := T.d_Cell_init
  refine makD "Cell" (He.ga K "Cell") F T.mk_Cell T.g_Cell (b_Cell_init F) .nil S_Cell_init (fun vs H Q E h => ?_) (fun cdv A outer s H vs Q E hr h => ?_)
  · obtain ⟨a, dx, c, rfl, e, n, k, q⟩ := h
    rfl
  obtain ⟨a, dx, c, rfl, e, n, k, q⟩ := h
  refine ⟨_, (pss_cons (ps_if (pt_not (pt_val (pe_c C_is_name hr (by decide) rfl (pa_cons (pv 1) pa_nil)))) (pss_one ps_never) pss_nil)
  (pss_cons (ps_if (PW.pt (pw_or (pt_not (pt_val (pe_callB call_isi (by rfl) T.f_isinstance v_isinstance (pa_cons (pv 2) (pa_cons (pe_bltn (v := .ty "str") (u := .type "str") (by rfl) T.f_str v_str rfl) pa_nil))))) (pw_or1 (pt_cmpR op_notIn_seq (pv 2) (pe_gc rfl T.g_KINDS) (by rfl))))) (pss_one ps_never) pss_nil)
  (pss_cons (ps_fld (pv 0) (pv 1) rfl)
  (pss_one (ps_fld (pv 0) (pv 2) rfl))))), ?_⟩
  refine ⟨_, rfl, _, rfl, n, fun H1 s1 => ⟨_, rfl, iteF ?_⟩⟩
  refine ⟨_, rfl, _, _, _, _, _, rfl, .ty _, .base (.str _), kk_str_str, _, rfl, iteF ?_⟩
  refine ⟨_, rfl, _, _, rfl, .inr (T.t_KINDS _), rfl, rfl, ?_⟩
  rw [in_kinds k]
  refine ⟨_, rfl, iteF ?_⟩
  refine ⟨_, rfl, _, rfl, a, _, dx, _, rfl, s1 _ _ e, T.cls_Cell, T.at_Cell_name, by show 0 < 1000; decide, ?_⟩
  refine ⟨_, rfl, _, rfl, a, _, dx, _, rfl, upd_same, T.cls_Cell, T.at_Cell_kind, by show 1 < 1000; decide, ?_⟩
  exact q _ (((Same.but s1).trans But.upd).trans But.upd) ⟨dx, upd_same⟩
def spGet (K : PySem.W.Frag) : Sp := fun vs H Q _ => ∃ b x B g, vs = [.ref b, .str x] ∧ BkAt K H b B ∧ fget B.fns x = some g ∧ ∀ a, FnAt K H a g → Q (.ref a) H
theorem M_Book_getitem (T : TX K mg) : Met P w K mg base 1 (He.ga K "Book") "__getitem__" (spGet K) [] := by
  obtain ⟨fd, F⟩ := T.d_Book_getitem
  refine metD (He.ga K "Book") "__getitem__" F T.cls_Book T.me_Book_getitem (b_Book_getitem F) .nil S_Book_getitem (fun vs H Q E h => ?_) (fun cdv A outer s H vs Q E hr h => ?_)
  · obtain ⟨b, x, B, g, rfl, hb, hg, q⟩ := h
    rfl
  obtain ⟨b, x, B, g, rfl, hb, hg, q⟩ := h
  refine ⟨_, (pss_cons (ps_for PassesOwn.never rfl (pi_tup (pe_fld (pv 0) rfl)) (pg_name (i := 2) S_Book_getitem.nd rfl (Or.inl rfl))
    (pss_one (ps_if (PW.pt (pw_and (pt_val (pe_callB call_isi (by rfl) T.f_isinstance v_isinstance (pa_cons (pv 1) (pa_cons (pe_bltn (v := .ty "str") (u := .type "str") (by rfl) T.f_str v_str rfl) pa_nil)))) (pw_and1 (pt_cmpR op_eq (pe_fld (pv 2) rfl) (pv 1) (nomark _))))) (pss_one (ps_ret (pv 2))) pss_nil)))
  (pss_one ps_never)), ?_⟩
  obtain ⟨dx, p, r, cs, fs, e, ep, er, hc, hf⟩ := hb
  refine ⟨_, rfl, _, _, _, _, _, rfl, e, T.cls_Book, T.at_Book_row, rfl, r, rfl, ⟨_, SqT.of er⟩, ?_⟩
  refine for_it (walk_tup (xs := fs.map V.ref)) (fun i σ H1 => H1 = H ∧ (∃ t, σ = [some (.ref b), some (.str x), t]) ∧ ∀ j f, j < i → B.fns[j]? = some f → f.name ≠ x) ⟨rfl, ⟨_, rfl⟩, fun j _ h => absurd h (Nat.not_lt_zero _)⟩ (fun i σ H1 _ p => by rw [p.1]; exact SqT.of er) (fun i y σ H1 H2 hi p y1 => ?_) fun σ H1 p => ?_
  · obtain ⟨rfl, ⟨t, rfl⟩, np⟩ := p
    obtain ⟨rfl, ey⟩ := y1
    obtain ⟨f, ef, a, rfl, dx2, l, r2, w, ea, tr, ws⟩ := paired_get (paired_map V.ref hf) ey
    refine ⟨_, rfl, _, _, _, _, _, rfl, .ty _, .base (.str _), kk_str_str, _, rfl, iteT ?_⟩
    refine ⟨_, rfl, _, _, _, _, _, rfl, ea, T.cls_Function, T.at_Function_name, rfl, _, rfl, rfl, _, rfl, ?_⟩
    by_cases h1 : f.name = x
    · refine iteD (congrArg V.str h1) ?_
      refine ⟨_, rfl, q a ?_⟩
      have e2 : g = f := by
        have z : fget B.fns x = some f := by
          unfold fget
          rw [List.find?_eq_some_iff_getElem]
          obtain ⟨h2, h3⟩ := List.getElem?_eq_some_iff.mp ef
          refine ⟨decide_eq_true h1, i, h2, h3, fun j hj => ?_⟩
          have := np j _ hj (List.getElem?_eq_getElem (Nat.lt_trans hj h2))
          simpa using this
        rw [hg] at z
        exact Option.some.inj z
      exact e2 ▸ ⟨dx2, l, r2, w, ea, tr, ws⟩
    · refine iteDN (fun z => h1 (by injection z)) ⟨rfl, ⟨_, rfl⟩, fun j f2 hj e2 => ?_⟩
      by_cases h2 : j < i
      · exact np j f2 h2 e2
      · have h3 : j = i := by omega
        subst h3
        rw [ef] at e2
        cases e2
        exact h1
  · obtain ⟨rfl, _, np⟩ := p
    obtain ⟨hm, hn⟩ := fget_mem hg
    obtain ⟨j, h1, h2⟩ := List.getElem_of_mem hm
    have hl := Paired.length hf
    rw [List.length_map] at np
    exact (np j g (by omega) (h2 ▸ List.getElem?_eq_getElem h1) hn).elim
def spCells (K : PySem.W.Frag) : Sp := fun vs H Q _ => ∃ b B, vs = [.ref b] ∧ BkAt K H b B ∧ ∀ H' p cs, Same H H' → H' p = some (.lst (cs.map V.ref)) → CellsAt K H' cs B.cells → Q (.ref p) H'
theorem M_Book_all_cells (T : TX K mg) : Met P w K mg base 1 (He.ga K "Book") "all_cells" (spCells K) [] := by
  obtain ⟨fd, F⟩ := T.d_Book_all_cells
  refine metD (He.ga K "Book") "all_cells" F T.cls_Book T.me_Book_all_cells (b_Book_all_cells F) .nil S_Book_all_cells (fun vs H Q E h => ?_) (fun cdv A outer s H vs Q E hr h => ?_)
  · obtain ⟨b, B, rfl, hb, q⟩ := h
    rfl
  obtain ⟨b, B, rfl, hb, q⟩ := h
  refine ⟨_, (pss_one (ps_ret (pe_callTy call_list_of (by rfl) T.f_list v_list (pa_cons (pe_fld (pv 0) rfl) pa_nil)))), ?_⟩
  obtain ⟨dx, p, r, cs, fs, e, ep, er, hc, hf⟩ := hb
  exact ⟨_, rfl, _, _, _, _, _, rfl, e, T.cls_Book, T.at_Book_cell_row, rfl, _, _, rfl, .inr (SqT.of ep), fun l hl => q _ l cs (same_upd hl) upd_same ((keep0_new hl).cells hc)⟩
def spCheckState (K : PySem.W.Frag) : Sp := fun vs H Q _ => ∃ p d cs l st, vs = [.ref p, .ref d] ∧ H p = some (.lst (cs.map V.ref)) ∧ CellsAt K H cs l ∧ StAt H d st ∧ Sv (l.map (·.1)) st ∧ l.length ≤ 3 ∧ Q .non H
theorem C_check_state (T : TX K mg) : Cal P w K mg base 4 "check_state" (spCheckState K) [] := by
  have C_is_value : Cal P w K mg base 3 "is_value" spIsValue [] := SC.C_is_value T
  obtain ⟨fd, F⟩ := T.d_check_state
  refine calD "check_state" F T.g_check_state (b_check_state F) .nil S_check_state (fun vs H Q E h => ?_) (fun cdv A outer s H vs Q E hr h => ?_)
  · obtain ⟨p, d, cs, l, st, rfl, hp, hc, hd, hv, l3, q⟩ := h
    rfl
  obtain ⟨p, d, cs, l, st, rfl, hp, hc, hd, hv, l3, q⟩ := h
  refine ⟨_, (pss_cons (ps_if (PW.pt (pw_or (pt_not (pt_val (pe_callB call_isi (by rfl) T.f_isinstance v_isinstance (pa_cons (pv 1) (pa_cons (pe_bltn (v := .ty "dict") (u := .type "dict") (by rfl) T.f_dict v_dict rfl) pa_nil))))) (pw_or1 (pt_cmpR op_ne (pe_callB call_lenD (by rfl) T.f_len v_len (pa_cons (pv 1) pa_nil)) (pe_callB call_len (by rfl) T.f_len v_len (pa_cons (pv 0) pa_nil)) (nomark _))))) (pss_one ps_never) pss_nil)
  (pss_one (ps_for PassesOwn.never rfl (pi_list (pv 0)) (pg_name (i := 2) S_check_state.nd rfl (Or.inl rfl))
    (pss_one (ps_if (PW.pt (pw_or (pt_cmp (pc_dnotin (hu_of hr) (pe_fld (pv 2) rfl) (pv 1)) (by rfl)) (pw_or1 (pt_not (pt_val (pe_c C_is_value hr (by decide) rfl (pa_cons (pe_dget (hu_of hr) (pv 1) (pe_fld (pv 2) rfl) (fun _ _ => rfl)) pa_nil))))))) (pss_one ps_never) pss_nil))))), ?_⟩
  have el : st.length = cs.length := by
    rw [Paired.length hc, ← List.length_map (f := (·.1)) (as := st), hv.keys, List.length_map]
  refine ⟨_, rfl, _, _, _, _, _, rfl, .ty _, .base (.dK hd), kk_dict_dict, _, rfl, iteF ?_⟩
  refine ⟨_, rfl, _, _, rfl, hd, _, rfl, _, _, rfl, .inl ⟨_, SqL.of hp, rfl⟩, rfl, _, rfl, ?_⟩
  refine neF (by rw [List.length_map, List.length_map, el]) ?_
  refine ⟨_, rfl, _, rfl, ⟨_, SqL.of hp⟩, ?_⟩
  refine for_it (walk_list (xs := cs.map V.ref)) (fun i σ H1 => H1 = H ∧ ∃ t, σ = [some (.ref p), some (.ref d), t]) ⟨rfl, _, rfl⟩ (fun i σ H1 _ p => by rw [p.1]; exact SqL.of hp) (fun i y σ H1 H2 hi p y1 => ?_) fun σ H1 p => p.1 ▸ q
  obtain ⟨rfl, t, rfl⟩ := p
  obtain ⟨rfl, ey⟩ := y1
  obtain ⟨c, ec, a, rfl, dx, ea⟩ := paired_get (paired_map V.ref hc) ey
  obtain ⟨j, ej, j0, j2⟩ := sget_ok hv (x := c.1) (List.mem_map.mpr ⟨c, List.mem_of_getElem? ec, rfl⟩)
  have ev : valV (skv st) (Sum.inr c.1) = some (.int j) := by rw [sget_kv, ej]; rfl
  have dg := DGet.k (k := Sum.inr c.1) hd
  rw [ev] at dg
  refine ⟨_, rfl, _, _, _, _, _, rfl, ea, T.cls_Cell, T.at_Cell_name, rfl, _, rfl, _, _, rfl, dg, _, rfl, iteF ?_⟩
  refine ⟨_, rfl, _, rfl, _, _, _, _, _, rfl, ea, T.cls_Cell, T.at_Cell_name, rfl, _, _, rfl, dg, _, rfl, .inl ⟨_, rfl, ?_⟩⟩
  rw [decide_eq_true (⟨j0, j2⟩ : 0 ≤ j ∧ j ≤ 2)]
  exact ⟨_, rfl, iteF ⟨rfl, _, rfl⟩⟩
end
end SC

set_option Elab.async false
set_option linter.all false
set_option maxRecDepth 100000
set_option maxHeartbeats 4000000
namespace SC
open PySem PySem.Spec PyProof.Rows L2
open C8 (Cal Met Mak pe_c pe_mk pe_mt pe_mt0 pe_gc InsC)
/-! ### runs -/
theorem fget_at {B : Bk} (hB : Bv B) {i : Nat} {g : Fn} (h : B.fns[i]? = some g) : fget B.fns g.name = some g := by
  unfold fget
  rw [List.find?_eq_some_iff_getElem]
  obtain ⟨h2, h3⟩ := List.getElem?_eq_some_iff.mp h
  refine ⟨decide_eq_true rfl, i, h2, h3, fun j hj => ?_⟩
  have z := (hB.fv i g h).new.2
  have z2 : (B.fns[j]'(Nat.lt_trans hj h2)).name ≠ g.name := fun e => z (List.mem_map.mpr ⟨_, List.mem_of_getElem? (i := j) (by rw [List.getElem?_take_of_lt hj, List.getElem?_eq_getElem (Nat.lt_trans hj h2)]), e⟩)
  simpa using z2
theorem mem_take_at {α : Type} {xs : List α} {k : Nat} {x : α} (h : x ∈ xs.take k) : ∃ i, i < k ∧ xs[i]? = some x := by
  obtain ⟨i, hi, e⟩ := List.getElem_of_mem h
  have hk : i < k := by
    have := List.length_take_le k xs
    omega
  refine ⟨i, hk, ?_⟩
  rw [← List.getElem?_take_of_lt hk, List.getElem?_eq_getElem hi, e]
def scf (b h : Addr) : List (Str × V) := [("book", .ref b), ("held", .ref h), ("tick_now", .int 0), ("view_held", .non)]
def ScAt (K : PySem.W.Frag) (H : Hp) (a b h : Addr) : Prop := ∃ dx, H a = some (.ins (He.ga K "Scene") dx (scf b h))
theorem Keep0.sc {K : PySem.W.Frag} {H H' : Hp} (k : Keep0 K H H') {a b h : Addr} (z : ScAt K H a b h) : ScAt K H' a b h := let ⟨dx, e⟩ := z; ⟨dx, k _ _ e (.inr (.inr (.inr rfl)))⟩
def spLeaf (K : PySem.W.Frag) : Sp := fun vs H Q _ => ∃ a v p b h l st, ∃ as : List Int, vs = [.ref a, v, .ref p] ∧ ScAt K H a b h ∧ StAt H h st ∧ H p = some (.lst (as.map V.int)) ∧ LfAt H v l ∧ Lv (st.map (·.1)) as.length l ∧ Q (.int (evL as st l)) H
structure Go (K : PySem.W.Frag) (H : Hp) (a b h p : Addr) (B : Bk) (st : Sta) (as : List Int) : Prop where
  sc : ScAt K H a b h
  bk : BkAt K H b B
  bv : Bv B
  hs : StAt H h st
  ks : st.map (·.1) = B.cells.map (·.1)
  ha : H p = some (.lst (as.map V.int))
def spWorked (K : PySem.W.Frag) (n : Nat) : Sp := fun vs H Q _ => ∃ a v p b h B st as i t, vs = [.ref a, v, .ref p] ∧ Go K H a b h p B st as ∧ TmAt H v t ∧ Tv (B.fns.take i) (B.cells.map (·.1)) as.length t ∧ i ≤ n ∧
  ∀ H', But h H H' → StAt H' h (evT (clAt B.fns n) as st t).2 → Q (.int (evT (clAt B.fns n) as st t).1) H'
def spRun (K : PySem.W.Frag) (n : Nat) : Sp := fun vs H Q _ => ∃ a fa p b h B st as i g, vs = [.ref a, .ref fa, .ref p] ∧ Go K H a b h p B st as ∧ FnAt K H fa g ∧ B.fns[i]? = some g ∧ i ≤ n ∧ as.length = g.many ∧
  ∀ H', But h H H' → StAt H' h (run B.fns n g as st).2 → Q (.int (run B.fns n g as st).1) H'
def spCalled (K : PySem.W.Frag) : Nat → Sp
  | 0 => fun _ _ _ _ => False
  | n + 1 => fun vs H Q _ => ∃ a p b h B st as i g, vs = [.ref a, .str g.name, .ref p] ∧ Go K H a b h p B st as ∧ B.fns[i]? = some g ∧ i ≤ n ∧ as.length = g.many ∧
    ∀ H', But h H H' → StAt H' h (run B.fns n g as st).2 → Q (.int (run B.fns n g as st).1) H'
theorem st_firm0 {K : PySem.W.Frag} {st : Sta} : ¬ Firm0 K (.dK (skv st)) := fun h => st_firm (K := K) h
theorem getD_at {as : List Int} {i : Nat} (h : i < as.length) : (as.map V.int)[i]? = some (V.int (as.getD i 0)) := by
  rw [List.getElem?_map, List.getD_eq_getElem?_getD, List.getElem?_eq_getElem h]
  rfl
theorem held_at {H : Hp} {h : Addr} {st : Sta} {x : Str} (hs : StAt H h st) (hx : x ∈ st.map (·.1)) : DGet H h (.str x) (some (.int ((sget st x).getD 0))) := by
  have z := DGet.k (k := Sum.inr x) hs
  obtain ⟨i, e⟩ := sget_some hx
  rw [sget_kv, e] at z
  rw [e]
  exact z
theorem leaf_ks {cs : List Str} {m : Nat} {l : Lf} {st : Sta} (ks : st.map (·.1) = cs) (h : Lv cs m l) : Lv (st.map (·.1)) m l := ks ▸ h
theorem Go.leaf {K : PySem.W.Frag} {H : Hp} {a b h p : Addr} {B : Bk} {st : Sta} {as : List Int} {v : V} {l : Lf} {Q : VK} {E : XK} (z : Go K H a b h p B st as) (hl : LfAt H v l) (hv : Lv (B.cells.map (·.1)) as.length l) (q : Q (.int (evL as st l)) H) : spLeaf K [.ref a, v, .ref p] H Q E :=
  ⟨a, v, p, b, h, l, st, as, rfl, z.sc, z.hs, z.ha, hl, leaf_ks z.ks hv, q⟩
theorem Go.same {K : PySem.W.Frag} {H H' : Hp} {a b h p : Addr} {B : Bk} {st : Sta} {as : List Int} (z : Go K H a b h p B st as) (s : Same H H') : Go K H' a b h p B st as :=
  ⟨(Same.keep0 s).sc z.sc, (Same.keep0 s).bk z.bk, z.bv, s _ _ z.hs, z.ks, s _ _ z.ha⟩
theorem Go.ne {K : PySem.W.Frag} {H : Hp} {a b h p : Addr} {B : Bk} {st : Sta} {as : List Int} (z : Go K H a b h p B st as) : p ≠ h := ne_of z.ha z.hs (by intro z; cases z)
theorem Go.step {K : PySem.W.Frag} {H H' : Hp} {a b h p : Addr} {B : Bk} {st st' : Sta} {as : List Int} (z : Go K H a b h p B st as) (s : But h H H') (hs : StAt H' h st') (ks : st'.map (·.1) = B.cells.map (·.1)) : Go K H' a b h p B st' as := by
  have k : Keep0 K H H' := But.keep0 s z.hs st_firm0
  exact ⟨k.sc z.sc, k.bk z.bk, z.bv, hs, ks, s _ _ z.ha z.ne⟩
theorem ev_keys {fs : List Fn} {cells : List (Str × Str)} (hf : ∀ g ∈ fs, ∀ w ∈ g.writes, w.1 ∈ cells.map (·.1)) : ∀ (n : Nat), (∀ as st t, st.map (·.1) = cells.map (·.1) → (evT (clAt fs n) as st t).2.map (·.1) = cells.map (·.1)) ∧ ∀ g ∈ fs, ∀ as st, st.map (·.1) = cells.map (·.1) → (run fs n g as st).2.map (·.1) = cells.map (·.1) := by
  have ws : ∀ (cl : Cl), (∀ as st t, st.map (·.1) = cells.map (·.1) → (evT cl as st t).2.map (·.1) = cells.map (·.1)) → ∀ (ws : List (Str × Tm)), (∀ w ∈ ws, w.1 ∈ cells.map (·.1)) → ∀ as st, st.map (·.1) = cells.map (·.1) → (runWs cl as ws st).map (·.1) = cells.map (·.1) := by
    intro cl hc ws
    induction ws with
    | nil => intro _ as st h; exact h
    | cons w r ih =>
      intro hw as st h
      refine ih (fun x hx => hw x (List.mem_cons_of_mem _ hx)) as _ ?_
      have h2 := hc as st w.2 h
      rw [sput_keys (by rw [h2]; exact hw w List.mem_cons_self)]
      exact h2
  intro n
  induction n with
  | zero =>
    have e : ∀ as st t, st.map (·.1) = cells.map (·.1) → (evT (clAt fs 0) as st t).2.map (·.1) = cells.map (·.1) := fun as st t h => by cases t <;> exact h
    exact ⟨e, fun g hg as st h => by rw [run_eq]; exact ws _ e g.writes (hf g hg) as _ (e as st g.result h)⟩
  | succ n ih =>
    have e : ∀ as st t, st.map (·.1) = cells.map (·.1) → (evT (clAt fs (n + 1)) as st t).2.map (·.1) = cells.map (·.1) := fun as st t h => by
      cases t with
      | lf l => exact h
      | bin o a b => exact h
      | ite c a b => exact h
      | call f ts =>
        show (callee fs (run fs n) f (ts.map (evL as st)) st).2.map (·.1) = _
        unfold callee
        cases q : fget fs f with
        | none => exact h
        | some g => exact ih.2 g (fget_mem q).1 _ _ h
    exact ⟨e, fun g hg as st h => by rw [run_eq]; exact ws _ e g.writes (hf g hg) as _ (e as st g.result h)⟩
theorem Bv.wr {B : Bk} (h : Bv B) : ∀ g ∈ B.fns, ∀ w ∈ g.writes, w.1 ∈ B.cells.map (·.1) := fun g hg w hw => by
  obtain ⟨i, hi, e⟩ := List.getElem_of_mem hg
  exact List.mem_map.mpr ⟨_, ((h.fv i g (by rw [List.getElem?_eq_getElem hi, e])).wr w hw).1, rfl⟩
section
variable {P : Program} {w : World} {K : PySem.W.Frag} {mg : Str → Option Value} {base : Heap}
def spChecked (K : PySem.W.Frag) : Sp := fun vs H Q _ => ∃ b x p B g, ∃ as : List Int, vs = [.ref b, .str x, .ref p] ∧ BkAt K H b B ∧ fget B.fns x = some g ∧ H p = some (.tup (as.map V.int)) ∧ as.length = g.many ∧ as.length ≤ 2 ∧ (∀ i ∈ as, 0 ≤ i ∧ i ≤ 2) ∧ ∀ H' l, Same H H' → H' l = some (.lst (as.map V.int)) → Q (.ref l) H'
theorem C_checked_arguments (T : TX K mg) : Cal P w K mg base 4 "checked_arguments" (spChecked K) [] := by
  have C_is_value : Cal P w K mg base 3 "is_value" spIsValue [] := SC.C_is_value T
  have M_Book_getitem : Met P w K mg base 1 (He.ga K "Book") "__getitem__" (spGet K) [] := SC.M_Book_getitem T
  obtain ⟨fd, F⟩ := T.d_checked_arguments
  refine calD "checked_arguments" F T.g_checked_arguments (b_checked_arguments F) .nil S_checked_arguments (fun vs H Q E h => ?_) (fun cdv A outer s H vs Q E hr h => ?_)
  · obtain ⟨b, x, p, B, g, as, rfl, hb, hg, hp, hl, h2, hv, q⟩ := h
    rfl
  obtain ⟨b, x, p, B, g, as, rfl, hb, hg, hp, hl, h2, hv, q⟩ := h
  refine ⟨_, (pss_cons (ps_set (i := 3) S_checked_arguments.nd rfl (Or.inl rfl) (pe_fld (pe_ixO M_Book_getitem (hr.mono (by decide)) (fun _ e => SC.sub_fn T.sub_Book T.me_Book_getitem e) (pv 0) (pv 1) (fun _ _ => rfl)) rfl))
  (pss_cons (ps_if (PW.pt (pw_or (pt_not (pt_val (pe_callB call_isiT (by rfl) T.f_isinstance v_isinstance (pa_cons (pv 2) (pa_cons (pe_tup (pa_cons (pe_bltn (v := .ty "list") (u := .type "list") (by rfl) T.f_list v_list rfl) (pa_cons (pe_bltn (v := .ty "tuple") (u := .type "tuple") (by rfl) T.f_tuple v_tuple rfl) pa_nil))) pa_nil))))) (pw_or1 (pt_cmpR op_ne (pe_callB call_len (by rfl) T.f_len v_len (pa_cons (pv 2) pa_nil)) (pv 3) (nomark _))))) (pss_one ps_never) pss_nil)
  (pss_cons (ps_if (pt_not (pt_val (pe_callB (cr_all rfl) (by rfl) T.f_all v_all (pa_cons (pe_lc (own := [("value", 4)]) (by rfl) S_checked_arguments.nd  (pi_tup (pv 2)) (blkOk_by (own := [("value", 4)]) (N := N_checked_arguments) (sc := d_checked_arguments.scope) (by decide +kernel)) (fun _ _ _ _ _ => (pg_name (i := 4) S_checked_arguments.nd rfl (Or.inl rfl))) (fun _ _ _ _ _ => pts_nil) (fun _ _ _ _ _ => (pe_c C_is_value hr (by decide) rfl (pa_cons (pv 4) pa_nil)))) pa_nil)))) (pss_one ps_never) pss_nil)
  (pss_one (ps_ret (pe_callTy call_list_of (by rfl) T.f_list v_list (pa_cons (pv 2) pa_nil))))))), ?_⟩
  obtain ⟨dx, bp, br, cs, fs, e, ep, er, hc, hf⟩ := id hb
  refine ⟨_, rfl, _, rfl, b, dx, _, rfl, e, b, x, B, g, rfl, hb, hg, fun fa hfa => ?_⟩
  obtain ⟨dx2, l, r, w, ea, tr, ws⟩ := hfa
  refine ⟨_, _, _, _, _, rfl, ea, T.cls_Function, T.at_Function_arguments, rfl, ?_⟩
  refine ⟨_, rfl, (by show 2 ≤ sizeLine; decide), fun t ht => ?_⟩
  refine ⟨_, t, _, _, _, _, rfl, upd_same, cls_lt, .base (.tup (by rw [upd_ne (ne_of_none hp ht)]; exact hp)), kk_tuple_lt, _, rfl, iteF ?_⟩
  have s1 : Same H (upd H t (.tup [.ty "list", .ty "tuple"])) := same_upd ht
  have hp1 := s1 _ _ hp
  refine ⟨_, rfl, _, _, rfl, .inr ⟨_, SqT.of hp1, rfl⟩, _, rfl, rfl, _, rfl, neF (by rw [List.length_map, hl]) ?_⟩
  refine ⟨_, rfl, _, rfl, ⟨_, SqT.of hp1⟩, fun D hD => ?_⟩
  refine lcF (walk_tup (K := K)) hD (small (by rw [List.length_map]; omega)) (fun i => as[i]?.map fun j => V.bl (decide (0 ≤ j ∧ j ≤ 2))) (fun H2 s2 => SqT.of (s2 _ _ hp1)) (fun i y H2 H3 No Ye hi s2 y1 no ye => ?_) fun H2 s2 h2' => ?_
  · obtain ⟨rfl, ey⟩ := y1
    rw [List.getElem?_map] at ey
    cases ea : as[i]? with
    | none => rw [ea] at ey; cases ey
    | some j =>
      rw [ea] at ey
      cases ey
      exact ⟨rfl, ty ⟨_, rfl, _, rfl, .inl ⟨j, rfl, ye _ (by rw [ea]; rfl) _ (Same.refl _)⟩⟩⟩
  · have e1 : (List.range (as.map V.int).length).filterMap (fun i => as[i]?.map fun j => V.bl (decide (0 ≤ j ∧ j ≤ 2))) = (as.map fun j => decide (0 ≤ j ∧ j ≤ 2)).map V.bl := by
      rw [List.length_map, fm_map, List.map_map]
      rfl
    rw [e1] at h2'
    refine ⟨_, _, rfl, SqL.of h2', ?_⟩
    have e2 : (as.map fun j => decide (0 ≤ j ∧ j ≤ 2)).all id = true := by
      rw [List.all_map, List.all_eq_true]
      exact fun j hj => decide_eq_true (hv j hj)
    rw [e2]
    refine ⟨_, rfl, iteF ?_⟩
    exact ⟨_, rfl, _, _, rfl, .inr (SqT.of (s2 _ _ hp1)), fun l2 hl2 => q _ l2 ((s1.trans s2).trans (same_upd hl2)) upd_same⟩
def spScene (K : PySem.W.Frag) : Sp := fun vs H Q _ => ∃ a dx b d st, vs = [.ref a, .ref b, .ref d, .int 0, .non] ∧ H a = some (.ins (He.ga K "Scene") dx []) ∧ StAt H d st ∧ ∀ H' h, But a H H' → ScAt K H' a b h → H h = none → StAt H' h st → Q .non H'
theorem K_Scene (T : TX K mg) : Mak P w K mg base 1 "Scene" (He.ga K "Scene") (spScene K) [] := by
  obtain ⟨fd, F⟩ := T.d_Scene_init
  refine makD "Scene" (He.ga K "Scene") F T.mk_Scene T.g_Scene (b_Scene_init F) .nil S_Scene_init (fun vs H Q E h => ?_) (fun cdv A outer s H vs Q E hr h => ?_)
  · obtain ⟨a, dx, b, d, st, rfl, e, hd, q⟩ := h
    rfl
  obtain ⟨a, dx, b, d, st, rfl, e, hd, q⟩ := h
  refine ⟨_, (pss_cons (ps_fld (pv 0) (pv 1) rfl)
  (pss_cons (ps_fld (pv 0) (pe_callTy call_dictD (by rfl) T.f_dict v_dict (pa_cons (pv 2) pa_nil)) rfl)
  (pss_cons (ps_fld (pv 0) (pv 3) rfl)
  (pss_one (ps_fld (pv 0) (pv 4) rfl))))), ?_⟩
  refine ⟨_, rfl, _, rfl, a, _, dx, _, rfl, e, T.cls_Scene, T.at_Scene_book, by show 0 < 1000; decide, ?_⟩
  have na : d ≠ a := ne_of hd e (by intro z; cases z)
  refine ⟨_, rfl, _, _, rfl, .inl (by rw [upd_ne na]; exact hd), fun h hh => ?_⟩
  have nh : a ≠ h := fun z => by rw [← z, upd_same] at hh; cases hh
  refine ⟨_, rfl, a, _, dx, _, rfl, by rw [upd_ne nh]; exact upd_same, T.cls_Scene, T.at_Scene_held, by show 1 < 1000; decide, ?_⟩
  refine ⟨_, rfl, _, rfl, a, _, dx, _, rfl, upd_same, T.cls_Scene, T.at_Scene_tick_now, by show 2 < 1000; decide, ?_⟩
  refine ⟨_, rfl, _, rfl, a, _, dx, _, rfl, upd_same, T.cls_Scene, T.at_Scene_view_held, by show 3 < 1000; decide, ?_⟩
  have hH : H h = none := by rw [upd_ne (Ne.symm nh)] at hh; exact hh
  refine q _ h (fun c u hc n => ?_) ⟨dx, upd_same⟩ hH ?_
  · rw [upd_ne n, upd_ne n, upd_ne n, upd_ne (ne_of_none hc hH), upd_ne n]
    exact hc
  · show upd _ _ _ h = _
    rw [upd_ne (Ne.symm nh), upd_ne (Ne.symm nh), upd_ne (Ne.symm nh)]
    exact upd_same
theorem M_leaf (T : TX K mg) : Met P w K mg base 1 (He.ga K "Scene") "worked" (spLeaf K) [] := by
  obtain ⟨fd, F⟩ := T.d_Scene_worked
  refine metD (He.ga K "Scene") "worked" F T.cls_Scene T.me_Scene_worked (b_Scene_worked F) .nil S_Scene_worked (fun vs H Q E h => ?_) (fun cdv A outer s H vs Q E hr h => ?_)
  · obtain ⟨a, v, p, b, h, l, st, as, rfl, ⟨dx, ea⟩, hs, hp, hl, hv, q⟩ := h
    rfl
  obtain ⟨a, v, p, b, h, l, st, as, rfl, ⟨dx, ea⟩, hs, hp, hl, hv, q⟩ := h
  refine ⟨_, (pss_cons (ps_if (pt_not (pt_val (pe_callB call_isi (by rfl) T.f_isinstance v_isinstance (pa_cons (pv 1) (pa_cons (pe_bltn (v := .ty "tuple") (u := .type "tuple") (by rfl) T.f_tuple v_tuple rfl) pa_nil))))) (pss_one (ps_ret (pv 1))) pss_nil)
  (pss_cons (ps_if (pt_cmpR op_eq (pe_ix ix_tup (pv 1) pe_int (fun _ _ => rfl)) pe_str (nomark _)) (pss_one (ps_ret (pe_ix ix_list (pv 2) (pe_ix ix_tup (pv 1) pe_int (fun _ _ => rfl)) (fun _ _ => rfl)))) pss_nil)
  (pss_cons (ps_if (pt_cmpR op_eq (pe_ix ix_tup (pv 1) pe_int (fun _ _ => rfl)) pe_str (nomark _)) (pss_one (ps_ret (pe_dget (hu_of hr) (pe_fld (pv 0) rfl) (pe_ix ix_tup (pv 1) pe_int (fun _ _ => rfl)) (fun _ _ => rfl)))) pss_nil)
  (pss_cons (ps_if (pt_cmpR op_eq (pe_ix ix_tup (pv 1) pe_int (fun _ _ => rfl)) pe_str (nomark _)) (pss_one (ps_ret (pe_op op_mod (pe_fld (pv 0) rfl) pe_int))) pss_nil)
  pss_never)))), ?_⟩
  cases l with
  | val i =>
    cases (show v = .int i from hl)
    exact ⟨_, rfl, _, _, _, _, _, rfl, .ty _, .base (.int i), kk_int_tuple, _, rfl, iteT ⟨_, rfl, q⟩⟩
  | arg i =>
    obtain ⟨x, rfl, e⟩ := hl
    refine ⟨_, rfl, _, _, _, _, _, rfl, .ty _, .base (.tup e), kk_tuple_tuple, _, rfl, iteF ?_⟩
    refine ⟨_, rfl, _, _, _, _, rfl, rfl, SqT.of e, at0, rfl, _, rfl, iteD rfl ?_⟩
    exact ⟨_, rfl, _, rfl, _, _, _, _, rfl, rfl, SqT.of e, at1, _, _, _, _, rfl, rfl, SqL.of hp, atI_nat (getD_at hv), q⟩
  | cell x =>
    obtain ⟨y, rfl, e⟩ := hl
    refine ⟨_, rfl, _, _, _, _, _, rfl, .ty _, .base (.tup e), kk_tuple_tuple, _, rfl, iteF ?_⟩
    refine ⟨_, rfl, _, _, _, _, rfl, rfl, SqT.of e, at0, rfl, _, rfl, iteDN (by decide +kernel) ?_⟩
    refine ⟨_, rfl, _, _, _, _, rfl, rfl, SqT.of e, at0, rfl, _, rfl, iteD rfl ?_⟩
    exact ⟨_, rfl, _, _, _, _, _, rfl, ea, T.cls_Scene, T.at_Scene_held, rfl, _, rfl, _, _, _, _, rfl, rfl, SqT.of e, at1, _, _, rfl, held_at hs hv.1, q⟩
  | tick =>
    obtain ⟨y, rfl, e⟩ := hl
    refine ⟨_, rfl, _, _, _, _, _, rfl, .ty _, .base (.tup e), kk_tuple_tuple, _, rfl, iteF ?_⟩
    refine ⟨_, rfl, _, _, _, _, rfl, rfl, SqT.of e, at0, rfl, _, rfl, iteDN (by decide +kernel) ?_⟩
    refine ⟨_, rfl, _, _, _, _, rfl, rfl, SqT.of e, at0, rfl, _, rfl, iteDN (by decide +kernel) ?_⟩
    refine ⟨_, rfl, _, _, _, _, rfl, rfl, SqT.of e, at0, rfl, _, rfl, iteD rfl ?_⟩
    exact ⟨_, rfl, _, _, _, _, _, rfl, ea, T.cls_Scene, T.at_Scene_tick_now, rfl, _, _, rfl, rfl, by show (0 : Int) < 3; decide, q⟩
end
end SC

set_option Elab.async false
set_option linter.all false
set_option maxRecDepth 100000
set_option maxHeartbeats 4000000
namespace SC
open PySem PySem.Spec PyProof.Rows L2
theorem b_run_alone {K : PySem.W.Frag} {f : Addr} {fd : FuncData} (F : FunD K d_run_alone.name d_run_alone.qual d_run_alone.params d_run_alone.body d_run_alone.scope [] [("tick", .int 0)] f fd) : ∃ ds, Vals [V.int 0] ds ∧ Binds K fd P_run_alone ds :=
  F.binds0 4 (by simp) rfl fun D doc pm an cdv ct us ks hl hk => match us, ks, hl, hk with
    | [_, _, _, _], [_], _, _ => ⟨_, _, _, _, _, _, rfl, rfl, rfl⟩
theorem b_Function_init {K : PySem.W.Frag} {f : Addr} {fd : FuncData} (F : FunD K d_Function_init.name d_Function_init.qual d_Function_init.params d_Function_init.body d_Function_init.scope [] [("label", .str "changing")] f fd) :
    ∃ mv : List Value, KBn K fd P_Function_init 4 ["label", "writes", "cost"] (fun us ws => us ++ ws) (fun vs zs => vs ++ zs) :=
  F.kbinds0 4 ["label", "writes", "cost"] [] (fun vs mz zs => vs ++ zs) (by simp) (fun q h => by cases h) (fun a _ c => a.append c) fun D doc pm an cdv ct us mv ws hl hm hw => match us, mv, ws, hl, hm, hw with
    | [_, _, _, _], [], [_, _, _], _, _, _ => rfl
end SC

set_option Elab.async false
set_option linter.all false
set_option maxRecDepth 100000
set_option maxHeartbeats 4000000
namespace SC
open PySem PySem.Spec PyProof.Rows L2
open C8 (Cal Met Mak pe_c pe_mk pe_mt pe_mt0 pe_gc InsC)
theorem opnm_ne (o : Op) : o.nm ≠ "arg" ∧ o.nm ≠ "cell" ∧ o.nm ≠ "tick" ∧ o.nm ≠ "call" ∧ o.nm ≠ "if" := by
  cases o <;> decide +kernel
theorem strne {x y : Str} (h : x ≠ y) : ¬ V.str x = V.str y := fun z => h (by injection z)
theorem bint {p : Prop} [Decidable p] : (if decide p = true then (1 : Int) else 0) = if p then 1 else 0 := by
  by_cases h : p
  · rw [if_pos h, if_pos (decide_eq_true h)]
  · rw [if_neg h, if_neg (by simpa using h)]
theorem eq_int {i j : Int} : decide (V.int i = V.int j) = decide (i = j) := decide_eq_decide.mpr ⟨fun z => by injection z, fun z => congrArg _ z⟩
theorem leaf_list {st : Sta} {as : List Int} {ts : List Lf} {xs : List V} {H : Hp} (h : Paired (LfAt H) xs ts) : (List.range xs.length).filterMap (fun k => ts[k]?.map fun l => V.int (evL as st l)) = (ts.map (evL as st)).map V.int := by
  rw [Paired.length h, fm_map, List.map_map]
  rfl
section
variable {P : Program} {w : World} {K : PySem.W.Frag} {mg : Str → Option Value} {base : Heap}
theorem M_worked (T : TX K mg) (n : Nat) (M_Scene_worked : Met P w K mg base 1 (He.ga K "Scene") "worked" (spLeaf K) []) (M_Scene_called : Met P w K mg base (3 * n + 1) (He.ga K "Scene") "called" (spCalled K n) []) : Met P w K mg base (3 * n + 2) (He.ga K "Scene") "worked" (spWorked K n) [] := by
  obtain ⟨fd, F⟩ := T.d_Scene_worked
  refine metD (He.ga K "Scene") "worked" F T.cls_Scene T.me_Scene_worked (b_Scene_worked F) .nil S_Scene_worked (fun vs H Q E h => ?_) (fun cdv A outer s H vs Q E hr h => ?_)
  · obtain ⟨a, v, p, b, h, B, st, as, i, t, rfl, go, ht, hv, hi, q⟩ := h
    rfl
  obtain ⟨a, v, p, b, h, B, st, as, i, t, rfl, go, ht, hv, hi, q⟩ := h
  refine ⟨_, (pss_cons (ps_if (pt_not (pt_val (pe_callB call_isi (by rfl) T.f_isinstance v_isinstance (pa_cons (pv 1) (pa_cons (pe_bltn (v := .ty "tuple") (u := .type "tuple") (by rfl) T.f_tuple v_tuple rfl) pa_nil))))) (pss_one (ps_ret (pv 1))) pss_nil)
  (pss_cons (ps_if (pt_cmpR op_eq (pe_ix ix_tup (pv 1) pe_int (fun _ _ => rfl)) pe_str (nomark _)) (pss_one (ps_ret (pe_ix ix_list (pv 2) (pe_ix ix_tup (pv 1) pe_int (fun _ _ => rfl)) (fun _ _ => rfl)))) pss_nil)
  (pss_cons (ps_if (pt_cmpR op_eq (pe_ix ix_tup (pv 1) pe_int (fun _ _ => rfl)) pe_str (nomark _)) (pss_one (ps_ret (pe_dget (hu_of hr) (pe_fld (pv 0) rfl) (pe_ix ix_tup (pv 1) pe_int (fun _ _ => rfl)) (fun _ _ => rfl)))) pss_nil)
  (pss_cons (ps_if (pt_cmpR op_eq (pe_ix ix_tup (pv 1) pe_int (fun _ _ => rfl)) pe_str (nomark _)) (pss_one (ps_ret (pe_op op_mod (pe_fld (pv 0) rfl) pe_int))) pss_nil)
  (pss_cons (ps_if (pt_cmpR op_eq (pe_ix ix_tup (pv 1) pe_int (fun _ _ => rfl)) pe_str (nomark _)) (pss_one (ps_ret (pe_mt M_Scene_called hr (by omega) (pv 0) (pa_cons (pe_ix ix_tup (pv 1) pe_int (fun _ _ => rfl)) (pa_cons (pe_lc (own := [("part", 5)]) (by rfl) S_Scene_worked.nd  (pi_tup (pe_ix ix_tup (pv 1) pe_int (fun _ _ => rfl))) (blkOk_by (own := [("part", 5)]) (N := N_Scene_worked) (sc := d_Scene_worked.scope) (by decide +kernel)) (fun _ _ _ _ _ => (pg_name (i := 5) S_Scene_worked.nd rfl (Or.inl rfl))) (fun _ _ _ _ _ => pts_nil) (fun _ _ _ _ _ => (pe_mt M_Scene_worked hr (by omega) (pv 0) (pa_cons (pv 5) (pa_cons (pv 2) pa_nil))))) pa_nil))))) pss_nil)
  (pss_cons (ps_if (pt_cmpR op_eq (pe_ix ix_tup (pv 1) pe_int (fun _ _ => rfl)) pe_str (nomark _)) (pss_one (ps_ret (pe_mt M_Scene_worked hr (by omega) (pv 0) (pa_cons (pe_ifExp (pt_cmpR op_ne (pe_mt M_Scene_worked hr (by omega) (pv 0) (pa_cons (pe_ix ix_tup (pv 1) pe_int (fun _ _ => rfl)) (pa_cons (pv 2) pa_nil))) pe_int (nomark _)) (pe_ix ix_tup (pv 1) pe_int (fun _ _ => rfl)) (pe_ix ix_tup (pv 1) pe_int (fun _ _ => rfl))) (pa_cons (pv 2) pa_nil))))) pss_nil)
  (pss_cons (ps_set (i := 3) S_Scene_worked.nd rfl (Or.inl rfl) (pe_mt M_Scene_worked hr (by omega) (pv 0) (pa_cons (pe_ix ix_tup (pv 1) pe_int (fun _ _ => rfl)) (pa_cons (pv 2) pa_nil))))
  (pss_cons (ps_set (i := 4) S_Scene_worked.nd rfl (Or.inl rfl) (pe_mt M_Scene_worked hr (by omega) (pv 0) (pa_cons (pe_ix ix_tup (pv 1) pe_int (fun _ _ => rfl)) (pa_cons (pv 2) pa_nil))))
  (pss_cons (ps_if (pt_cmpR op_eq (pe_ix ix_tup (pv 1) pe_int (fun _ _ => rfl)) pe_str (nomark _)) (pss_one (ps_ret (pe_op op_mod (pe_op op_add (pv 3) (pv 4)) pe_int))) pss_nil)
  (pss_one (ps_ret (pe_ifExp (pt_cmpR op_eq (pe_ix ix_tup (pv 1) pe_int (fun _ _ => rfl)) pe_str (nomark _)) (pe_callTy call_int1 (by rfl) T.f_int v_int (pa_cons (pe_cmpR op_lt (pv 3) (pv 4) (nomark _)) pa_nil)) (pe_callTy call_int1 (by rfl) T.f_int v_int (pa_cons (pe_cmpR op_eq (pv 3) (pv 4) (nomark _)) pa_nil)))))))))))))), ?_⟩
  obtain ⟨dx, ea⟩ := go.sc
  have hs := go.hs
  have hp := go.ha
  cases t with
  | lf l =>
    have hl : LfAt H v l := ht
    have hv := leaf_ks go.ks hv
    have q : Q (.int (evL as st l)) H := q H But.refl go.hs
    cases l with
    | val i =>
      cases (show v = .int i from hl)
      exact ⟨_, rfl, _, _, _, _, _, rfl, .ty _, .base (.int i), kk_int_tuple, _, rfl, iteT ⟨_, rfl, q⟩⟩
    | arg i =>
      obtain ⟨x, rfl, e⟩ := hl
      refine ⟨_, rfl, _, _, _, _, _, rfl, .ty _, .base (.tup e), kk_tuple_tuple, _, rfl, iteF ?_⟩
      refine ⟨_, rfl, _, _, _, _, rfl, rfl, SqT.of e, at0, rfl, _, rfl, iteD rfl ?_⟩
      exact ⟨_, rfl, _, rfl, _, _, _, _, rfl, rfl, SqT.of e, at1, _, _, _, _, rfl, rfl, SqL.of hp, atI_nat (getD_at hv), q⟩
    | cell x =>
      obtain ⟨y, rfl, e⟩ := hl
      refine ⟨_, rfl, _, _, _, _, _, rfl, .ty _, .base (.tup e), kk_tuple_tuple, _, rfl, iteF ?_⟩
      refine ⟨_, rfl, _, _, _, _, rfl, rfl, SqT.of e, at0, rfl, _, rfl, iteDN (by decide +kernel) ?_⟩
      refine ⟨_, rfl, _, _, _, _, rfl, rfl, SqT.of e, at0, rfl, _, rfl, iteD rfl ?_⟩
      exact ⟨_, rfl, _, _, _, _, _, rfl, ea, T.cls_Scene, T.at_Scene_held, rfl, _, rfl, _, _, _, _, rfl, rfl, SqT.of e, at1, _, _, rfl, held_at hs hv.1, q⟩
    | tick =>
      obtain ⟨y, rfl, e⟩ := hl
      refine ⟨_, rfl, _, _, _, _, _, rfl, .ty _, .base (.tup e), kk_tuple_tuple, _, rfl, iteF ?_⟩
      refine ⟨_, rfl, _, _, _, _, rfl, rfl, SqT.of e, at0, rfl, _, rfl, iteDN (by decide +kernel) ?_⟩
      refine ⟨_, rfl, _, _, _, _, rfl, rfl, SqT.of e, at0, rfl, _, rfl, iteDN (by decide +kernel) ?_⟩
      refine ⟨_, rfl, _, _, _, _, rfl, rfl, SqT.of e, at0, rfl, _, rfl, iteD rfl ?_⟩
      exact ⟨_, rfl, _, _, _, _, _, rfl, ea, T.cls_Scene, T.at_Scene_tick_now, rfl, _, _, rfl, rfl, by show (0 : Int) < 3; decide, q⟩
  | bin o x y =>
    obtain ⟨r, vx, vy, rfl, e, hx, hy⟩ := ht
    have q : Q (.int (evO o (evL as st x) (evL as st y))) H := q H But.refl go.hs
    obtain ⟨n1, n2, n3, n4, n5⟩ := opnm_ne o
    refine ⟨_, rfl, _, _, _, _, _, rfl, .ty _, .base (.tup e), kk_tuple_tuple, _, rfl, iteF ?_⟩
    refine ⟨_, rfl, _, _, _, _, rfl, rfl, SqT.of e, at0, rfl, _, rfl, iteDN (strne n1) ?_⟩
    refine ⟨_, rfl, _, _, _, _, rfl, rfl, SqT.of e, at0, rfl, _, rfl, iteDN (strne n2) ?_⟩
    refine ⟨_, rfl, _, _, _, _, rfl, rfl, SqT.of e, at0, rfl, _, rfl, iteDN (strne n3) ?_⟩
    refine ⟨_, rfl, _, _, _, _, rfl, rfl, SqT.of e, at0, rfl, _, rfl, iteDN (strne n4) ?_⟩
    refine ⟨_, rfl, _, _, _, _, rfl, rfl, SqT.of e, at0, rfl, _, rfl, iteDN (strne n5) ?_⟩
    refine ⟨_, rfl, a, dx, _, rfl, ea, rfl, _, rfl, _, _, _, _, rfl, rfl, SqT.of e, at1, _, rfl, a, vx, p, b, h, x, st, as, rfl, go.sc, go.hs, go.ha, hx, leaf_ks go.ks hv.1, ?_⟩
    refine ⟨_, rfl, a, dx, _, rfl, ea, rfl, _, rfl, _, _, _, _, rfl, rfl, SqT.of e, at2, _, rfl, a, vy, p, b, h, y, st, as, rfl, go.sc, go.hs, go.ha, hy, leaf_ks go.ks hv.2, ?_⟩
    cases o with
    | plus =>
      refine ⟨_, rfl, _, _, _, _, rfl, rfl, SqT.of e, at0, rfl, _, rfl, iteD rfl ?_⟩
      exact ⟨_, rfl, _, rfl, _, _, rfl, rfl, _, _, rfl, rfl, by show (0 : Int) < 3; decide, q⟩
    | less =>
      refine ⟨_, rfl, _, _, _, _, rfl, rfl, SqT.of e, at0, rfl, _, rfl, iteDN (by decide +kernel) ?_⟩
      refine ⟨_, rfl, _, _, _, _, rfl, rfl, SqT.of e, at0, rfl, _, rfl, iteD rfl ?_⟩
      refine ⟨_, rfl, _, rfl, _, _, rfl, rfl, .inr ⟨_, rfl, ?_⟩⟩
      rw [bint]
      exact q
    | same =>
      refine ⟨_, rfl, _, _, _, _, rfl, rfl, SqT.of e, at0, rfl, _, rfl, iteDN (by decide +kernel) ?_⟩
      refine ⟨_, rfl, _, _, _, _, rfl, rfl, SqT.of e, at0, rfl, _, rfl, iteDN (by decide +kernel) ?_⟩
      refine ⟨_, rfl, _, rfl, rfl, .inr ⟨_, rfl, ?_⟩⟩
      rw [eq_int, bint]
      exact q
  | ite c x y =>
    obtain ⟨r, vc, vx, vy, rfl, e, hc, hx, hy⟩ := ht
    have q : Q (.int (if evL as st c ≠ 0 then evL as st x else evL as st y)) H := q H But.refl go.hs
    refine ⟨_, rfl, _, _, _, _, _, rfl, .ty _, .base (.tup e), kk_tuple_tuple, _, rfl, iteF ?_⟩
    refine ⟨_, rfl, _, _, _, _, rfl, rfl, SqT.of e, at0, rfl, _, rfl, iteDN (by decide +kernel) ?_⟩
    refine ⟨_, rfl, _, _, _, _, rfl, rfl, SqT.of e, at0, rfl, _, rfl, iteDN (by decide +kernel) ?_⟩
    refine ⟨_, rfl, _, _, _, _, rfl, rfl, SqT.of e, at0, rfl, _, rfl, iteDN (by decide +kernel) ?_⟩
    refine ⟨_, rfl, _, _, _, _, rfl, rfl, SqT.of e, at0, rfl, _, rfl, iteDN (by decide +kernel) ?_⟩
    refine ⟨_, rfl, _, _, _, _, rfl, rfl, SqT.of e, at0, rfl, _, rfl, iteD rfl ?_⟩
    refine ⟨_, rfl, a, dx, _, rfl, ea, rfl, ?_⟩
    refine ⟨_, rfl, a, dx, _, rfl, ea, rfl, _, rfl, _, _, _, _, rfl, rfl, SqT.of e, at1, _, rfl, a, vc, p, b, h, c, st, as, rfl, go.sc, go.hs, go.ha, hc, leaf_ks go.ks hv.1, rfl, _, rfl, ?_⟩
    by_cases h0 : evL as st c = 0
    · rw [if_neg (fun z => z h0)] at q
      exact neF (congrArg V.int h0) ⟨_, rfl, _, _, _, _, rfl, rfl, SqT.of e, at3, _, rfl, a, vy, p, b, h, y, st, as, rfl, go.sc, go.hs, go.ha, hy, leaf_ks go.ks hv.2.2, q⟩
    · rw [if_pos h0] at q
      exact neT (fun z => h0 (by injection z)) ⟨_, rfl, _, _, _, _, rfl, rfl, SqT.of e, at2, _, rfl, a, vx, p, b, h, x, st, as, rfl, go.sc, go.hs, go.ha, hx, leaf_ks go.ks hv.2.1, q⟩
  | call f ts =>
    obtain ⟨r, r2, xs, rfl, e, e2, prs⟩ := ht
    obtain ⟨⟨g, hg, rfl, hm⟩, _, t2, lv⟩ := hv
    obtain ⟨j, hj, ej⟩ := mem_take_at hg
    refine ⟨_, rfl, _, _, _, _, _, rfl, .ty _, .base (.tup e), kk_tuple_tuple, _, rfl, iteF ?_⟩
    refine ⟨_, rfl, _, _, _, _, rfl, rfl, SqT.of e, at0, rfl, _, rfl, iteDN (by decide +kernel) ?_⟩
    refine ⟨_, rfl, _, _, _, _, rfl, rfl, SqT.of e, at0, rfl, _, rfl, iteDN (by decide +kernel) ?_⟩
    refine ⟨_, rfl, _, _, _, _, rfl, rfl, SqT.of e, at0, rfl, _, rfl, iteDN (by decide +kernel) ?_⟩
    refine ⟨_, rfl, _, _, _, _, rfl, rfl, SqT.of e, at0, rfl, _, rfl, iteD rfl ?_⟩
    refine ⟨_, rfl, a, dx, _, rfl, ea, rfl, _, rfl, _, _, _, _, rfl, rfl, SqT.of e, at1, _, rfl, _, _, _, _, rfl, rfl, SqT.of e, at2, _, rfl, ⟨_, SqT.of e2⟩, fun D hD => ?_⟩
    refine lcF (walk_tup (K := K)) hD (small (by rw [Paired.length prs]; omega)) (fun k => ts[k]?.map fun l => V.int (evL as st l)) (fun H2 s2 => SqT.of (s2 _ _ e2)) (fun k y H2 H3 No Ye hk s2 y1 no ye => ?_) fun H2 s2 h2 => ?_
    · obtain ⟨rfl, ey⟩ := y1
      obtain ⟨l, el, hl⟩ := paired_get prs ey
      have go2 := go.same s2
      obtain ⟨dx2, ea2⟩ := go2.sc
      exact ⟨rfl, ty ⟨_, rfl, a, dx2, _, rfl, ea2, rfl, _, rfl, _, rfl, a, _, p, b, h, l, st, as, rfl, go2.sc, go2.hs, go2.ha, (Same.keep0 (K := K) s2).lf hl, leaf_ks go2.ks (lv l (List.mem_of_getElem? el)), (ye _ (by rw [el]; rfl) _ (Same.refl _))⟩⟩
    · rw [leaf_list prs] at h2
      cases n with
      | zero => omega
      | succ n =>
        have e3 : evT (clAt B.fns (n + 1)) as st (.call g.name ts) = run B.fns n g (ts.map (evL as st)) st := by
          show callee B.fns (run B.fns n) g.name _ st = _
          unfold callee
          rw [fget_at go.bv ej]
        rw [e3] at q
        have go2 := go.same s2
        exact ⟨a, D, b, h, B, st, _, j, g, rfl, ⟨go2.sc, go2.bk, go2.bv, go2.hs, go2.ks, h2⟩, ej, by omega, by rw [List.length_map, hm], fun H3 b3 s3 => q H3 ((Same.but s2).trans b3) s3⟩
theorem M_run_function (T : TX K mg) (n : Nat) (M_Scene_worked : Met P w K mg base (3 * n + 2) (He.ga K "Scene") "worked" (spWorked K n) []) : Met P w K mg base (3 * n + 3) (He.ga K "Scene") "run_function" (spRun K n) [] := by
  obtain ⟨fd, F⟩ := T.d_Scene_run_function
  refine metD (He.ga K "Scene") "run_function" F T.cls_Scene T.me_Scene_run_function (b_Scene_run_function F) .nil S_Scene_run_function (fun vs H Q E h => ?_) (fun cdv A outer s H vs Q E hr h => ?_)
  · obtain ⟨a, fa, p, b, h, B, st, as, i, g, rfl, go, hf, ei, hi, hl, q⟩ := h
    rfl
  obtain ⟨a, fa, p, b, h, B, st, as, i, g, rfl, go, hf, ei, hi, hl, q⟩ := h
  refine ⟨_, (pss_cons (ps_set (i := 3) S_Scene_run_function.nd rfl (Or.inl rfl) (pe_mt M_Scene_worked hr (by omega) (pv 0) (pa_cons (pe_fld (pv 1) rfl) (pa_cons (pv 2) pa_nil))))
  (pss_cons (ps_for PassesOwn.never rfl (pi_tup (pe_fld (pv 1) rfl)) (pg_tup (by rfl) (pgs_cons (pg_name (i := 4) S_Scene_run_function.nd rfl (Or.inl rfl)) (pgs_cons (pg_name (i := 5) S_Scene_run_function.nd rfl (Or.inl rfl)) pgs_nil)))
    (pss_one (ps_dput (hu_of hr) (pe_fld (pv 0) rfl) (pv 4) (pe_mt M_Scene_worked hr (by omega) (pv 0) (pa_cons (pv 5) (pa_cons (pv 2) pa_nil))) rfl)))
  (pss_one (ps_ret (pv 3))))), ?_⟩
  obtain ⟨dx, ea⟩ := go.sc
  obtain ⟨dx2, l, r, w, efa, tr, pw, ps, rfl, epw, prs⟩ := id hf
  have fv := go.bv.fv i g ei
  have kx : ∀ x : Sta, True := fun _ => trivial
  refine ⟨_, rfl, a, dx, _, rfl, ea, rfl, _, rfl, _, _, _, _, _, rfl, efa, T.cls_Function, T.at_Function_result, rfl, _, rfl, a, r, p, b, h, B, st, as, i, g.result, rfl, go, tr, by rw [hl]; exact fv.res, hi, fun H1 b1 hs1 => ?_⟩
  have go1 := go.step b1 hs1 ((ev_keys go.bv.wr n).1 as st g.result go.ks)
  have k1 : Keep0 K H H1 := But.keep0 b1 go.hs st_firm0
  refine ⟨_, rfl, _, _, _, _, _, rfl, k1 _ _ efa (.inl rfl), T.cls_Function, T.at_Function_writes, rfl, _, rfl, ⟨_, SqT.of (k1.tup epw)⟩, ?_⟩
  refine for_it (walk_tup (xs := ps.map V.ref)) (fun k σ H2 => ∃ st2, But h H H2 ∧ Go K H2 a b h p B st2 as ∧ runWs (clAt B.fns n) as (g.writes.drop k) st2 = (run B.fns n g as st).2 ∧ ∃ c t, σ = [some (.ref a), some (.ref fa), some (.ref p), some (.int (evT (clAt B.fns n) as st g.result).1), c, t])
    ⟨_, b1, go1, by rw [run_eq]; rfl, _, _, rfl⟩ (fun k σ H2 _ ⟨st2, b2, _⟩ => SqT.of ((But.keep0 (K := K) b2 go.hs st_firm0).tup epw)) (fun k y σ H2 H3 hk ⟨st2, b2, go2, er, c, t, es⟩ y1 => ?_) fun σ H2 ⟨st2, b2, go2, er, c, t, es⟩ => ?_
  · subst es
    obtain ⟨rfl, ey⟩ := y1
    have k2 : Keep0 K H H3 := But.keep0 b2 go.hs st_firm0
    obtain ⟨wk, ek, pa, rfl, vw, ew, tw⟩ := paired_get (paired_map V.ref prs) ey
    obtain ⟨dx3, ea3⟩ := go2.sc
    obtain ⟨w1, w2, w3⟩ := fv.wr wk (List.mem_of_getElem? ek)
    have ed : g.writes.drop k = wk :: g.writes.drop (k + 1) := by
      obtain ⟨h1, h2⟩ := List.getElem?_eq_some_iff.mp ek
      rw [← h2, List.drop_eq_getElem_cons h1]
    rw [ed] at er
    refine ⟨_, _, rfl, SqT.of (k2.tup ew), rfl, _, _, rfl, _, _, rfl, rfl, ?_⟩
    refine ⟨_, rfl, a, dx3, _, rfl, ea3, rfl, _, rfl, _, rfl, a, vw, p, b, h, B, st2, as, i, wk.2, rfl, go2, k2.tm tw, by rw [hl]; exact w3, hi, fun H4 b4 hs4 => ?_⟩
    have ks4 := (ev_keys go.bv.wr n).1 as st2 wk.2 go2.ks
    have go4 := go2.step b4 hs4 ks4
    obtain ⟨dx4, ea4⟩ := go4.sc
    have hw : wk.1 ∈ B.cells.map (·.1) := List.mem_map.mpr ⟨_, w1, rfl⟩
    have l4 : (skv (evT (clAt B.fns n) as st2 wk.2).2).length < sizeLine := by
      have z := congrArg List.length ks4
      rw [List.length_map, List.length_map] at z
      have := go.bv.cl
      exact small' (by rw [List.length_map]; omega)
    refine ⟨_, rfl, _, _, _, _, _, rfl, ea4, T.cls_Scene, T.at_Scene_held, rfl, _, rfl, h, _, rfl, DPut.k (k := Sum.inr wk.1) hs4 l4, _, (b2.trans b4).trans But.upd, ?_, er, _, _, rfl⟩
    refine go4.step But.upd ?_ (by rw [sput_keys (by rw [ks4]; exact hw)]; exact ks4)
    show upd H4 h _ h = _
    rw [upd_same, sput_kv]
  · subst es
    rw [List.length_map, Paired.length prs, List.drop_length] at er
    refine ⟨_, rfl, ?_⟩
    have e1 : (run B.fns n g as st).1 = (evT (clAt B.fns n) as st g.result).1 := by rw [run_eq]; rfl
    rw [e1] at q
    exact q H2 b2 (er ▸ go2.hs)
theorem M_called0 (T : TX K mg) : Met P w K mg base 1 (He.ga K "Scene") "called" (spCalled K 0) [] := by
  obtain ⟨fd, F⟩ := T.d_Scene_called
  refine metD (He.ga K "Scene") "called" F T.cls_Scene T.me_Scene_called (b_Scene_called F) .nil S_Scene_called (fun vs H Q E h => ?_) (fun cdv A outer s H vs Q E hr h => ?_)
  · exact h.elim
  refine ⟨_, pss_never, ?_⟩
  exact h.elim
theorem M_calledS (T : TX K mg) (n : Nat) (M_Scene_run_function : Met P w K mg base (3 * n + 3) (He.ga K "Scene") "run_function" (spRun K n) []) : Met P w K mg base (3 * (n + 1) + 1) (He.ga K "Scene") "called" (spCalled K (n + 1)) [] := by
  have M_Book_getitem : Met P w K mg base 1 (He.ga K "Book") "__getitem__" (spGet K) [] := SC.M_Book_getitem T
  obtain ⟨fd, F⟩ := T.d_Scene_called
  refine metD (He.ga K "Scene") "called" F T.cls_Scene T.me_Scene_called (b_Scene_called F) .nil S_Scene_called (fun vs H Q E h => ?_) (fun cdv A outer s H vs Q E hr h => ?_)
  · obtain ⟨a, p, b, h, B, st, as, i, g, rfl, go, ei, hi, hl, q⟩ := h
    rfl
  obtain ⟨a, p, b, h, B, st, as, i, g, rfl, go, ei, hi, hl, q⟩ := h
  refine ⟨_, (pss_cons (ps_set (i := 3) S_Scene_called.nd rfl (Or.inl rfl) (pe_ixO M_Book_getitem (hr.mono (by omega)) (fun _ e => SC.sub_fn T.sub_Book T.me_Book_getitem e) (pe_fld (pv 0) rfl) (pv 1) (fun _ _ => rfl)))
  (pss_cons (ps_if (PW.pt (pw_and (pt_cmpR op_notN (pe_fld (pv 0) rfl) pe_non (nomark _)) (pw_and1 pt_dead))) (pss_one ps_never) pss_nil)
  (pss_one (ps_ret (pe_mt M_Scene_run_function hr (by omega) (pv 0) (pa_cons (pv 3) (pa_cons (pv 2) pa_nil))))))), ?_⟩
  obtain ⟨dx, ea⟩ := go.sc
  obtain ⟨dxb, _, _, _, _, eb, _⟩ := id go.bk
  refine ⟨_, rfl, _, _, _, _, _, rfl, ea, T.cls_Scene, T.at_Scene_book, rfl, _, rfl, b, dxb, _, rfl, eb, b, g.name, B, g, rfl, go.bk, fget_at go.bv ei, fun fa hfa => ?_⟩
  refine ⟨_, rfl, _, _, _, _, _, rfl, ea, T.cls_Scene, T.at_Scene_view_held, rfl, rfl, _, rfl, ?_⟩
  refine neF rfl (iteF ?_)
  exact ⟨_, rfl, a, dx, _, rfl, ea, rfl, _, rfl, _, rfl, a, fa, p, b, h, B, st, as, i, g, rfl, go, hfa, ei, hi, hl, q⟩
end
end SC

set_option Elab.async false
set_option linter.all false
set_option maxRecDepth 100000
set_option maxHeartbeats 4000000
namespace SC
open PySem PySem.Spec PyProof.Rows L2
open C8 (Cal Met Mak pe_c pe_mk pe_mt pe_mt0 pe_gc InsC)
section
variable {P : Program} {w : World} {K : PySem.W.Frag} {mg : Str → Option Value} {base : Heap}
theorem M_Scene_run_function (T : TX K mg) : Met P w K mg base 9 (He.ga K "Scene") "run_function" (spRun K 2) [] :=
  M_run_function T 2 (M_worked T 2 (M_leaf T) (M_calledS T 1 (M_run_function T 1 (M_worked T 1 (M_leaf T) (M_calledS T 0 (M_run_function T 0 (M_worked T 0 (M_leaf T) (M_called0 T))))))))
end
theorem But.same {h : Addr} {H0 H H' : Hp} (b : But h H H') (s : Same H0 H) (f : H0 h = none) : Same H0 H' := fun a o e => b a o (s a o e) (ne_of_none e f)
section
variable {P : Program} {w : World} {K : PySem.W.Frag} {mg : Str → Option Value} {base : Heap}
def spAlone (K : PySem.W.Frag) : Sp := fun vs H Q _ => ∃ b p d B g, ∃ i : Nat, ∃ as : List Int, ∃ st, vs = [.ref b, .str g.name, .ref p, .ref d, .int 0] ∧ BkAt K H b B ∧ Bv B ∧ B.fns[i]? = some g ∧ H p = some (.tup (as.map V.int)) ∧ as.length = g.many ∧ (∀ i ∈ as, 0 ≤ i ∧ i ≤ 2) ∧
  StAt H d st ∧ Sv (B.cells.map (·.1)) st ∧ ∀ H' t e, Same H H' → H' t = some (.tup [.int (run B.fns 2 g as st).1, .ref e]) → Q (.ref t) H'
theorem C_run_alone (T : TX K mg) : Cal P w K mg base 10 "run_alone" (spAlone K) [.int 0] := by
  have C_check_state : Cal P w K mg base 4 "check_state" (spCheckState K) [] := SC.C_check_state T
  have C_checked_arguments : Cal P w K mg base 4 "checked_arguments" (spChecked K) [] := SC.C_checked_arguments T
  have C_is_integer : Cal P w K mg base 1 "is_integer" spIsInteger [] := SC.C_is_integer T
  have K_Scene : Mak P w K mg base 1 "Scene" (He.ga K "Scene") (spScene K) [] := SC.K_Scene T
  have M_Book_all_cells : Met P w K mg base 1 (He.ga K "Book") "all_cells" (spCells K) [] := SC.M_Book_all_cells T
  have M_Book_getitem : Met P w K mg base 1 (He.ga K "Book") "__getitem__" (spGet K) [] := SC.M_Book_getitem T
  have M_Scene_run_function : Met P w K mg base 9 (He.ga K "Scene") "run_function" (spRun K 2) [] := SC.M_Scene_run_function T
  obtain ⟨fd, F⟩ := T.d_run_alone
  obtain ⟨ds, vd, bi⟩ := b_run_alone F
  refine calD "run_alone" F T.g_run_alone bi vd S_run_alone (fun vs H Q E h => ?_) (fun cdv A outer s H vs Q E hr h => ?_)
  · obtain ⟨b, p, d, B, g, i, as, st, rfl, hb, hB, ei, hp, hl, hv, hd, hs, q⟩ := h
    rfl
  obtain ⟨b, p, d, B, g, i, as, st, rfl, hb, hB, ei, hp, hl, hv, hd, hs, q⟩ := h
  refine ⟨_, (pss_cons (ps_set (i := 5) S_run_alone.nd rfl (Or.inl rfl) (pe_c C_checked_arguments hr (by decide) rfl (pa_cons (pv 0) (pa_cons (pv 1) (pa_cons (pv 2) pa_nil)))))
  (pss_cons (ps_expr (pe_c C_check_state hr (by decide) rfl (pa_cons (pe_mt0 M_Book_all_cells hr (by decide) (pv 0)) (pa_cons (pv 3) pa_nil))))
  (pss_cons (ps_if (PW.pt (pw_or (pt_not (pt_val (pe_c C_is_integer hr (by decide) rfl (pa_cons (pv 4) pa_nil)))) (pw_or1 (pt_cmpR op_lt (pv 4) pe_int (nomark _))))) (pss_one ps_never) pss_nil)
  (pss_cons (ps_set (i := 6) S_run_alone.nd rfl (Or.inr rfl) (pe_mk K_Scene hr (by decide) rfl (pa_cons (pv 0) (pa_cons (pv 3) (pa_cons (pv 4) (pa_cons pe_non pa_nil))))))
  (pss_cons (ps_set (i := 7) S_run_alone.nd rfl (Or.inl rfl) (pe_mt M_Scene_run_function hr (by decide) (pv 6) (pa_cons (pe_ixO M_Book_getitem (hr.mono (by decide)) (fun _ e => SC.sub_fn T.sub_Book T.me_Book_getitem e) (pv 0) (pv 1) (fun _ _ => rfl)) (pa_cons (pv 5) pa_nil))))
  (pss_one (ps_ret (pe_tup (pa_cons (pv 7) (pa_cons (pe_dc (own := [("cell", 8)]) (by rfl) S_run_alone.nd  (pi_list (pe_mt0 M_Book_all_cells hr (by decide) (pv 0))) (blkOk_by (own := [("cell", 8)]) (N := N_run_alone) (sc := d_run_alone.scope) (by decide +kernel)) (fun _ _ _ _ _ => (pg_name (i := 8) S_run_alone.nd rfl (Or.inl rfl))) (fun _ _ _ _ _ => pts_nil) (fun _ _ _ _ _ => (pe_fld' K rfl (pv 8) rfl)) (fun _ _ _ _ _ => (pe_dget (hu_of hr) (pe_fld' K rfl (pv 6) rfl) (pe_fld' K rfl (pv 8) rfl) (fun _ _ => rfl)))) pa_nil)))))))))), ?_⟩
  have hg := fget_at hB ei
  have fv := hB.fv i g ei
  have hi : i ≤ 2 := by
    have := (List.getElem?_eq_some_iff.mp ei).1
    have := hB.f3
    omega
  refine ⟨_, rfl, _, rfl, _, rfl, b, g.name, p, B, g, as, rfl, hb, hg, hp, hl, by rw [hl]; exact fv.many, hv, fun H1 l s1 h1 => ?_⟩
  have hb1 := (Same.keep0 (K := K) s1).bk hb
  obtain ⟨dxb, _, _, _, _, eb, _⟩ := id hb1
  refine ⟨_, rfl, b, dxb, _, rfl, eb, rfl, b, B, rfl, hb1, fun H2 pc cs s2 h2 hc => ?_⟩
  have hd2 := s2 _ _ (s1 _ _ hd)
  refine ⟨_, rfl, pc, d, cs, B.cells, st, rfl, h2, hc, hd2, hs, hB.cl, ?_⟩
  refine ⟨_, rfl, _, rfl, .inl ⟨0, rfl, _, rfl, iteF ?_⟩⟩
  refine ⟨_, rfl, _, _, rfl, rfl, _, rfl, iteDN (by decide) ?_⟩
  refine ⟨_, rfl, _, rfl, _, rfl, fun x dx hx hdx nx => ?_⟩
  have hd3 : upd (upd H2 dx (.own x)) x (.ins (He.ga K "Scene") dx []) d = some (.dK (skv st)) := by
    rw [upd_ne (ne_of_none hd2 hx), upd_ne (ne_of_none hd2 hdx)]
    exact hd2
  have hx3 : upd H2 dx (.own x) x = none := by
    rw [upd_ne (Ne.symm nx)]
    exact hx
  have s3 : Same H2 (upd (upd H2 dx (.own x)) x (.ins (He.ga K "Scene") dx [])) := (same_upd hdx).trans (same_upd hx3)
  refine ⟨x, dx, b, d, st, rfl, upd_same, hd3, fun H4 h b4 sc hh hst => ⟨rfl, ?_⟩⟩
  have s4 : Same H2 H4 := But.same b4 s3 hx
  have hb4 := (Same.keep0 (K := K) (s2.trans s4)).bk hb1
  obtain ⟨dxs, esc⟩ := id sc
  obtain ⟨dxb, _, _, _, _, eb4, _⟩ := id hb4
  refine ⟨_, rfl, x, dxs, _, rfl, esc, rfl, _, rfl, _, rfl, b, dxb, _, rfl, eb4, b, g.name, B, g, rfl, hb4, hg, fun fa hfa => ?_⟩
  have hH2 : H2 h = none := by
    cases z : H2 h with
    | none => rfl
    | some o => rw [s3 _ _ z] at hh; cases hh
  refine ⟨_, rfl, x, fa, l, b, h, B, st, as, i, g, rfl, ⟨sc, hb4, hB, hst, hs.keys, s4 _ _ (s2 _ _ h1)⟩, hfa, ei, hi, hl, fun H6 b6 hs6 => ?_⟩
  have go6 : Go K H6 x b h l B (run B.fns 2 g as st).2 as := Go.step ⟨sc, hb4, hB, hst, hs.keys, s4 _ _ (s2 _ _ h1)⟩ b6 hs6 ((ev_keys hB.wr 2).2 g (List.mem_of_getElem? ei) as st hs.keys)
  have s6 : Same H H6 := (s1.trans s2).trans (But.same b6 s4 hH2)
  obtain ⟨dxb, _, _, _, _, eb6, _⟩ := id go6.bk
  refine ⟨_, rfl, _, rfl, b, dxb, _, rfl, eb6, rfl, b, B, rfl, go6.bk, fun H7 pc cs s7 h7 hc7 => ?_⟩
  refine ⟨pc, rfl, ⟨_, SqL.of h7⟩, fun D hD => ?_⟩
  refine dcF (walk_list (K := K)) hD (small (by rw [List.length_map, Paired.length hc7]; have := hB.cl; omega)) (fun k => B.cells[k]?.map fun c => ((Sum.inr c.1 : Key), V.int ((sget (run B.fns 2 g as st).2 c.1).getD 0))) (fun H8 s8 => SqL.of (s8 _ _ h7)) (fun k y H8 H9 No Ye hk s8 y1 no ye => ?_) fun H8 s8 h8 => ⟨by show 2 ≤ sizeLine; decide, fun t ht => q _ t D (((s6.trans s7).trans s8).trans (same_upd ht)) upd_same⟩
  obtain ⟨rfl, ey⟩ := y1
  obtain ⟨c, ec, ca, rfl, hca⟩ := paired_get (paired_map V.ref hc7) ey
  obtain ⟨dxc, eca⟩ := (Same.keep0 (K := K) s8).cell hca
  have go8 := (go6.same s7).same s8
  obtain ⟨dx8, e8⟩ := go8.sc
  refine ⟨rfl, ty ⟨_, rfl, _, _, _, _, _, rfl, eca, T.cls_Cell, T.at_Cell_name, rfl, ?_⟩⟩
  refine ⟨_, rfl, _, _, _, _, _, rfl, e8, T.cls_Scene, T.at_Scene_held, rfl, ?_⟩
  refine ⟨_, rfl, _, _, _, _, _, rfl, eca, T.cls_Cell, T.at_Cell_name, rfl, _, _, rfl, held_at go8.hs (by rw [go8.ks]; exact List.mem_map.mpr ⟨c, List.mem_of_getElem? ec, rfl⟩), ?_⟩
  exact ye (Sum.inr c.1) _ (by rw [ec]; rfl) _ (Same.refl _)
end
end SC

set_option Elab.async false
set_option linter.all false
set_option maxRecDepth 100000
set_option maxHeartbeats 4000000
namespace SC
open PySem PySem.Spec PyProof.Rows L2
open C8 (Cal Met Mak pe_c pe_mk pe_mt pe_mt0 pe_gc InsC)
/-! ### terms -/
def kids : Tm → List Lf
  | .lf _ => []
  | .bin _ a b => [a, b]
  | .ite c a b => [c, a, b]
  | .call _ ts => ts
def lkids (t : Tm) : List Tm := (kids t).map .lf
theorem kids_v {fs : List Fn} {cs : List Str} {m : Nat} : ∀ {t : Tm}, Tv fs cs m t → (kids t).length ≤ 3 ∧ ∀ l ∈ kids t, Lv cs m l
  | .lf _, _ => ⟨Nat.zero_le _, fun _ h => by cases h⟩
  | .bin _ a b, h => ⟨by show 2 ≤ 3; decide, fun l hl => by
      simp only [kids, List.mem_cons, List.not_mem_nil, or_false] at hl
      rcases hl with rfl | rfl
      · exact h.1
      · exact h.2⟩
  | .ite c a b, h => ⟨by show 3 ≤ 3; decide, fun l hl => by
      simp only [kids, List.mem_cons, List.not_mem_nil, or_false] at hl
      rcases hl with rfl | rfl | rfl
      · exact h.1
      · exact h.2.1
      · exact h.2.2⟩
  | .call _ ts, h => ⟨Nat.le_trans h.2.2.1 (by decide), h.2.2.2⟩
/-- a tuple's first place and how many follow -/
def hdT : Tm → Str × Nat
  | .lf (.val _) => ("", 0)
  | .lf (.arg _) => ("arg", 1)
  | .lf (.cell _) => ("cell", 1)
  | .lf .tick => ("tick", 0)
  | .bin o _ _ => (o.nm, 2)
  | .ite _ _ _ => ("if", 3)
  | .call _ _ => ("call", 2)
theorem hk_no {n : Nat} {m : Int} {k q : Str} {A B : Prop} (h : k ≠ q) (b : B) : if decide ((n : Int) + 1 = m ∧ k = q) = true then A else B := iteDN (fun z => h z.2) b
theorem hk_no' {n : Nat} {m : Int} {k q : Str} {A B : Prop} (h : (n : Int) + 1 ≠ m) (b : B) : if decide ((n : Int) + 1 = m ∧ k = q) = true then A else B := iteDN (fun z => h z.1) b
theorem hk_yes {n : Nat} {m : Int} {k q : Str} {A B : Prop} (h : (n : Int) + 1 = m) (h2 : k = q) (a : A) : if decide ((n : Int) + 1 = m ∧ k = q) = true then A else B := iteD ⟨h, h2⟩ a
theorem if_of {b : Bool} {A B : Prop} (h : b = true) (a : A) : if b = true then A else B := by rw [if_pos h]; exact a
theorem if_off {b : Bool} {A B : Prop} (h : b = false) (a : B) : if b = true then A else B := by rw [if_neg (by rw [h]; exact Bool.false_ne_true)]; exact a
abbrev PRS : List V := [V.str "plus", V.str "less", V.str "same"]
theorem in_pairs (o : Op) : inV (.str o.nm) PRS = true := by cases o <;> decide +kernel
theorem lf_tup {H : Hp} {v : V} {l : Lf} (h : LfAt H v l) : (∃ i, l = .val i ∧ v = .int i) ∨ ∃ a k xs, v = .ref a ∧ H a = some (.tup (.str k :: xs)) ∧ k ≠ "call" ∧ k ≠ "if" ∧ inV (.str k) PRS = false := by
  cases l with
  | val i => exact .inl ⟨i, rfl, h⟩
  | arg i => obtain ⟨a, e, z⟩ := h; exact .inr ⟨a, _, _, e, z, by decide +kernel, by decide +kernel, by decide +kernel⟩
  | cell x => obtain ⟨a, e, z⟩ := h; exact .inr ⟨a, _, _, e, z, by decide +kernel, by decide +kernel, by decide +kernel⟩
  | tick => obtain ⟨a, e, z⟩ := h; exact .inr ⟨a, _, _, e, z, by decide +kernel, by decide +kernel, by decide +kernel⟩
section
variable {P : Program} {w : World} {K : PySem.W.Frag} {mg : Str → Option Value} {base : Heap}
def spInner : Sp := fun vs H Q _ => ∃ v t, vs = [v] ∧ TmAt H v t ∧ ∀ H' p xs, Same H H' → H' p = some (.tup xs) → Paired (LfAt H') xs (kids t) → Q (.ref p) H'
theorem C_inner_terms (T : TX K mg) : Cal P w K mg base 1 "inner_terms" spInner [] := by
  obtain ⟨fd, F⟩ := T.d_inner_terms
  refine calD "inner_terms" F T.g_inner_terms (b_inner_terms F) .nil S_inner_terms (fun vs H Q E h => ?_) (fun cdv A outer s H vs Q E hr h => ?_)
  · obtain ⟨v, t, rfl, ht, q⟩ := h
    rfl
  obtain ⟨v, t, rfl, ht, q⟩ := h
  refine ⟨_, (pss_cons (ps_if (pt_not (pt_val (pe_callB call_isi (by rfl) T.f_isinstance v_isinstance (pa_cons (pv 0) (pa_cons (pe_bltn (v := .ty "tuple") (u := .type "tuple") (by rfl) T.f_tuple v_tuple rfl) pa_nil))))) (pss_one (ps_ret (pe_tup pa_nil))) pss_nil)
  (pss_cons (ps_if (pt_cmpR op_eq (pe_ix ix_tup (pv 0) pe_int (fun _ _ => rfl)) pe_str (nomark _)) (pss_one (ps_ret (pe_ix ix_tup (pv 0) pe_int (fun _ _ => rfl)))) pss_nil)
  (pss_one (ps_ret (pe_ifExp (PW.pt (pw_or (pt_cmpR op_in_seq (pe_ix ix_tup (pv 0) pe_int (fun _ _ => rfl)) (pe_gc rfl T.g_PAIRS) (by rfl)) (pw_or1 (pt_cmpR op_eq (pe_ix ix_tup (pv 0) pe_int (fun _ _ => rfl)) pe_str (nomark _))))) (pe_slice sl_tupA (pv 0) (po_some pe_int) po_none) (pe_tup pa_nil)))))), ?_⟩
  cases t with
  | lf l =>
    rcases lf_tup (show LfAt H v l from ht) with ⟨i, rfl, rfl⟩ | ⟨a, k, xs, rfl, e, n1, n2, n3⟩
    · exact ⟨_, rfl, _, _, _, _, _, rfl, .ty _, .base (.int i), kk_int_tuple, _, rfl, iteT ⟨small (by decide), fun p hp => q _ p _ (same_upd hp) upd_same .nil⟩⟩
    · refine ⟨_, rfl, _, _, _, _, _, rfl, .ty _, .base (.tup e), kk_tuple_tuple, _, rfl, iteF ?_⟩
      refine ⟨_, rfl, _, _, _, _, rfl, rfl, SqT.of e, at0, rfl, _, rfl, iteDN (strne n1) ?_⟩
      refine ⟨_, rfl, _, _, _, _, rfl, rfl, SqT.of e, at0, _, _, rfl, .inr (T.t_PAIRS _), rfl, rfl, _, rfl, if_off n3 ?_⟩
      refine ⟨_, rfl, _, _, _, _, rfl, rfl, SqT.of e, at0, rfl, _, rfl, iteDN (strne n2) ?_⟩
      exact ⟨small (by decide), fun p hp => q _ p _ (same_upd hp) upd_same .nil⟩
  | bin o x y =>
    obtain ⟨r, vx, vy, rfl, e, hx, hy⟩ := ht
    obtain ⟨n1, n2, n3, n4, n5⟩ := opnm_ne o
    refine ⟨_, rfl, _, _, _, _, _, rfl, .ty _, .base (.tup e), kk_tuple_tuple, _, rfl, iteF ?_⟩
    refine ⟨_, rfl, _, _, _, _, rfl, rfl, SqT.of e, at0, rfl, _, rfl, iteDN (strne n4) ?_⟩
    refine ⟨_, rfl, _, _, _, _, rfl, rfl, SqT.of e, at0, _, _, rfl, .inr (T.t_PAIRS _), rfl, rfl, _, rfl, if_of (in_pairs o) ?_⟩
    refine ⟨_, rfl, _, rfl, _, _, rfl, SqT.of e, fun z => ?_, fun _ p hp => ?_⟩
    · exact absurd z.1 (by show ¬ (1 : Nat) = 0; decide)
    · have k := keep0_new (K := K) (o := .tup (cutV [.str o.nm, vx, vy] (some 1) none)) hp
      exact q _ p _ (same_upd hp) upd_same (.cons (k.lf hx) (.cons (k.lf hy) .nil))
  | ite c x y =>
    obtain ⟨r, vc, vx, vy, rfl, e, hc, hx, hy⟩ := ht
    refine ⟨_, rfl, _, _, _, _, _, rfl, .ty _, .base (.tup e), kk_tuple_tuple, _, rfl, iteF ?_⟩
    refine ⟨_, rfl, _, _, _, _, rfl, rfl, SqT.of e, at0, rfl, _, rfl, iteDN (by decide +kernel) ?_⟩
    refine ⟨_, rfl, _, _, _, _, rfl, rfl, SqT.of e, at0, _, _, rfl, .inr (T.t_PAIRS _), rfl, rfl, _, rfl, if_off (by decide +kernel) ?_⟩
    refine ⟨_, rfl, _, _, _, _, rfl, rfl, SqT.of e, at0, rfl, _, rfl, iteD rfl ?_⟩
    refine ⟨_, rfl, _, rfl, _, _, rfl, SqT.of e, fun z => ?_, fun _ p hp => ?_⟩
    · exact absurd z.1 (by show ¬ (1 : Nat) = 0; decide)
    · have k := keep0_new (K := K) (o := .tup (cutV [.str "if", vc, vx, vy] (some 1) none)) hp
      exact q _ p _ (same_upd hp) upd_same (.cons (k.lf hc) (.cons (k.lf hx) (.cons (k.lf hy) .nil)))
  | call f ts =>
    obtain ⟨r, r2, xs, rfl, e, e2, prs⟩ := ht
    refine ⟨_, rfl, _, _, _, _, _, rfl, .ty _, .base (.tup e), kk_tuple_tuple, _, rfl, iteF ?_⟩
    refine ⟨_, rfl, _, _, _, _, rfl, rfl, SqT.of e, at0, rfl, _, rfl, iteD rfl ?_⟩
    exact ⟨_, rfl, _, _, _, _, rfl, rfl, SqT.of e, at2, q H r2 xs (Same.refl _) e2 prs⟩
def spForm : Sp := fun vs H Q _ => ∃ v t, ∃ m : Nat, ∃ fs cs, vs = [v, .int m] ∧ TmAt H v t ∧ Tv fs cs m t ∧ ∀ H', Same H H' → Q (.bl true) H'
theorem C_has_form (T : TX K mg) : Cal P w K mg base 4 "has_form" spForm [] := by
  have C_has_kind : Cal P w K mg base 1 "has_kind" spHasKind [] := SC.C_has_kind T
  have C_is_between : Cal P w K mg base 2 "is_between" spIsBetween [] := SC.C_is_between T
  have C_is_name : Cal P w K mg base 1 "is_name" spIsName [] := SC.C_is_name T
  have C_is_value : Cal P w K mg base 3 "is_value" spIsValue [] := SC.C_is_value T
  obtain ⟨fd, F⟩ := T.d_has_form
  refine calD "has_form" F T.g_has_form (b_has_form F) .nil S_has_form (fun vs H Q E h => ?_) (fun cdv A outer s H vs Q E hr h => ?_)
  · obtain ⟨v, t, m, fs, cs, rfl, ht, hv, q⟩ := h
    rfl
  obtain ⟨v, t, m, fs, cs, rfl, ht, hv, q⟩ := h
  refine ⟨_, (pss_cons (ps_if (PW.pt (pw_or (pt_val (pe_c C_is_value hr (by decide) rfl (pa_cons (pv 0) pa_nil))) (pw_or1 (pt_val (pe_c C_has_kind hr (by decide) rfl (pa_cons (pv 0) (pa_cons pe_str (pa_cons pe_int pa_nil)))))))) (pss_one (ps_ret pe_bl)) pss_nil)
  (pss_cons (ps_if (pt_val (pe_c C_has_kind hr (by decide) rfl (pa_cons (pv 0) (pa_cons pe_str (pa_cons pe_int pa_nil))))) (pss_one (ps_ret (pe_c C_is_between hr (by decide) rfl (pa_cons (pe_ix ix_tup (pv 0) pe_int (fun _ _ => rfl)) (pa_cons pe_int (pa_cons (pe_op op_sub (pv 1) pe_int) pa_nil)))))) pss_nil)
  (pss_cons (ps_if (pt_val (pe_c C_has_kind hr (by decide) rfl (pa_cons (pv 0) (pa_cons pe_str (pa_cons pe_int pa_nil))))) (pss_one (ps_ret (pe_c C_is_name hr (by decide) rfl (pa_cons (pe_ix ix_tup (pv 0) pe_int (fun _ _ => rfl)) pa_nil)))) pss_nil)
  (pss_cons (ps_if (pt_val (pe_c C_has_kind hr (by decide) rfl (pa_cons (pv 0) (pa_cons pe_str (pa_cons pe_int pa_nil))))) (pss_one (ps_ret (pe_and (pe_c C_is_name hr (by decide) rfl (pa_cons (pe_ix ix_tup (pv 0) pe_int (fun _ _ => rfl)) pa_nil)) (pe_and (pe_callB call_isi (by rfl) T.f_isinstance v_isinstance (pa_cons (pe_ix ix_tup (pv 0) pe_int (fun _ _ => rfl)) (pa_cons (pe_bltn (v := .ty "tuple") (u := .type "tuple") (by rfl) T.f_tuple v_tuple rfl) pa_nil))) (pe_one (pe_cmpR op_le (pe_callB call_len (by rfl) T.f_len v_len (pa_cons (pe_ix ix_tup (pv 0) pe_int (fun _ _ => rfl)) pa_nil)) (pe_gc rfl T.k_MOST_ARGUMENTS) (nomark _))))))) pss_nil)
  (pss_one (ps_ret (pe_or (pe_callB (cr_any rfl) (by rfl) T.f_any v_any (pa_cons (pe_lc (own := [("kind", 2)]) (by rfl) S_has_form.nd  (pi_tup (pe_gc rfl T.g_PAIRS)) (blkOk_by (own := [("kind", 2)]) (N := N_has_form) (sc := d_has_form.scope) (by decide +kernel)) (fun _ _ _ _ _ => (pg_name (i := 2) S_has_form.nd rfl (Or.inl rfl))) (fun _ _ _ _ _ => pts_nil) (fun _ _ _ _ _ => (pe_c C_has_kind hr (by decide) rfl (pa_cons (pv 0) (pa_cons (pv 2) (pa_cons pe_int pa_nil)))))) pa_nil)) (pe_one (pe_c C_has_kind hr (by decide) rfl (pa_cons (pv 0) (pa_cons pe_str (pa_cons pe_int pa_nil)))))))))))), ?_⟩
  cases t with
  | lf l =>
    cases l with
    | val i =>
      cases (show v = .int i from ht)
      have z := (show 0 ≤ i ∧ i ≤ 2 from hv)
      exact ⟨_, rfl, _, rfl, .inl ⟨i, rfl, _, rfl, iteD z (q H (Same.refl _))⟩⟩
    | arg i =>
      obtain ⟨a, rfl, e⟩ := (show ∃ a, v = .ref a ∧ H a = some (.tup [.str "arg", .int i]) from ht)
      have z := (show i < m from hv)
      refine ⟨_, rfl, _, rfl, .inr ⟨_, _, rfl, e, _, rfl, iteF ?_⟩⟩
      refine ⟨_, rfl, _, _, _, _, _, rfl, e, _, rfl, hk_no (by decide +kernel) ?_⟩
      refine ⟨_, rfl, _, _, _, _, _, rfl, e, _, rfl, hk_yes rfl rfl ?_⟩
      refine ⟨_, rfl, _, _, _, _, rfl, rfl, SqT.of e, at1, _, rfl, _, _, rfl, rfl, _, _, _, rfl, .inl ⟨_, rfl, ?_⟩⟩
      rw [decide_eq_true (show (0 : Int) ≤ (i : Int) ∧ (i : Int) ≤ (m : Int) - 1 by omega)]
      exact q H (Same.refl _)
    | cell x =>
      obtain ⟨a, rfl, e⟩ := (show ∃ a, v = .ref a ∧ H a = some (.tup [.str "cell", .str x]) from ht)
      refine ⟨_, rfl, _, rfl, .inr ⟨_, _, rfl, e, _, rfl, iteF ?_⟩⟩
      refine ⟨_, rfl, _, _, _, _, _, rfl, e, _, rfl, hk_no (by decide +kernel) ?_⟩
      refine ⟨_, rfl, _, _, _, _, _, rfl, e, _, rfl, hk_no (by decide +kernel) ?_⟩
      refine ⟨_, rfl, _, _, _, _, _, rfl, e, _, rfl, hk_yes rfl rfl ?_⟩
      exact ⟨_, rfl, _, _, _, _, rfl, rfl, SqT.of e, at1, _, rfl, hv.2, q⟩
    | tick =>
      obtain ⟨a, rfl, e⟩ := (show ∃ a, v = .ref a ∧ H a = some (.tup [.str "tick"]) from ht)
      refine ⟨_, rfl, _, rfl, .inr ⟨_, _, rfl, e, _, rfl, iteF ?_⟩⟩
      exact ⟨_, rfl, _, _, _, _, _, rfl, e, _, rfl, hk_yes rfl rfl (q H (Same.refl _))⟩
  | bin o x y =>
    obtain ⟨r, vx, vy, rfl, e, hx, hy⟩ := ht
    obtain ⟨n1, n2, n3, n4, n5⟩ := opnm_ne o
    refine ⟨_, rfl, _, rfl, .inr ⟨_, _, rfl, e, _, rfl, iteF ?_⟩⟩
    refine ⟨_, rfl, _, _, _, _, _, rfl, e, _, rfl, hk_no n3 ?_⟩
    refine ⟨_, rfl, _, _, _, _, _, rfl, e, _, rfl, hk_no n1 ?_⟩
    refine ⟨_, rfl, _, _, _, _, _, rfl, e, _, rfl, hk_no n2 ?_⟩
    refine ⟨_, rfl, _, _, _, _, _, rfl, e, _, rfl, hk_no n4 ?_⟩
    refine ⟨_, rfl, ⟨_, T.t_PAIRS _⟩, fun D hD => ?_⟩
    refine lcF (walk_tup (K := K) (xs := PRS)) hD (by show 3 ≤ sizeLine; decide) (fun k => ([("plus" : Str), "less", "same"])[k]?.map fun s => V.bl (decide (((2 : Nat) : Int) + 1 = 3 ∧ o.nm = s))) (fun H2 s2 => T.t_PAIRS _) (fun k y H2 H3 No Ye hk s2 y1 no ye => ?_) fun H2 s2 h2 => ?_
    · obtain ⟨rfl, ey⟩ := y1
      have e2 := s2 _ _ e
      match k, hk with
      | 0, _ => cases ey; exact ⟨rfl, ty ⟨_, rfl, _, rfl, _, _, _, _, _, rfl, e2, ye _ rfl _ (Same.refl _)⟩⟩
      | 1, _ => cases ey; exact ⟨rfl, ty ⟨_, rfl, _, rfl, _, _, _, _, _, rfl, e2, ye _ rfl _ (Same.refl _)⟩⟩
      | 2, _ => cases ey; exact ⟨rfl, ty ⟨_, rfl, _, rfl, _, _, _, _, _, rfl, e2, ye _ rfl _ (Same.refl _)⟩⟩
      | k + 3, hk => exact absurd hk (by show ¬ k + 3 < 3; omega)
    · have h3 : H2 D = some (.lst (([("plus" : Str), "less", "same"].map fun s => decide (((2 : Nat) : Int) + 1 = 3 ∧ o.nm = s)).map V.bl)) := h2
      refine ⟨_, _, rfl, SqL.of h3, _, rfl, if_of (by cases o <;> decide +kernel) (q _ s2)⟩
  | ite c x y =>
    obtain ⟨r, vc, vx, vy, rfl, e, hc, hx, hy⟩ := ht
    refine ⟨_, rfl, _, rfl, .inr ⟨_, _, rfl, e, _, rfl, iteF ?_⟩⟩
    refine ⟨_, rfl, _, _, _, _, _, rfl, e, _, rfl, hk_no (by decide +kernel) ?_⟩
    refine ⟨_, rfl, _, _, _, _, _, rfl, e, _, rfl, hk_no (by decide +kernel) ?_⟩
    refine ⟨_, rfl, _, _, _, _, _, rfl, e, _, rfl, hk_no (by decide +kernel) ?_⟩
    refine ⟨_, rfl, _, _, _, _, _, rfl, e, _, rfl, hk_no (by decide +kernel) ?_⟩
    refine ⟨_, rfl, ⟨_, T.t_PAIRS _⟩, fun D hD => ?_⟩
    refine lcF (walk_tup (K := K) (xs := PRS)) hD (by show 3 ≤ sizeLine; decide) (fun k => ([("plus" : Str), "less", "same"])[k]?.map fun s => V.bl (decide (((3 : Nat) : Int) + 1 = 3 ∧ ("if" : Str) = s))) (fun H2 s2 => T.t_PAIRS _) (fun k y H2 H3 No Ye hk s2 y1 no ye => ?_) fun H2 s2 h2 => ?_
    · obtain ⟨rfl, ey⟩ := y1
      have e2 := s2 _ _ e
      match k, hk with
      | 0, _ => cases ey; exact ⟨rfl, ty ⟨_, rfl, _, rfl, _, _, _, _, _, rfl, e2, ye _ rfl _ (Same.refl _)⟩⟩
      | 1, _ => cases ey; exact ⟨rfl, ty ⟨_, rfl, _, rfl, _, _, _, _, _, rfl, e2, ye _ rfl _ (Same.refl _)⟩⟩
      | 2, _ => cases ey; exact ⟨rfl, ty ⟨_, rfl, _, rfl, _, _, _, _, _, rfl, e2, ye _ rfl _ (Same.refl _)⟩⟩
      | k + 3, hk => exact absurd hk (by show ¬ k + 3 < 3; omega)
    · have h3 : H2 D = some (.lst (([("plus" : Str), "less", "same"].map fun s => decide (((3 : Nat) : Int) + 1 = 3 ∧ ("if" : Str) = s)).map V.bl)) := h2
      refine ⟨_, _, rfl, SqL.of h3, _, rfl, if_off (by decide +kernel) ?_⟩
      refine ⟨_, rfl, _, _, _, _, _, rfl, s2 _ _ e, ?_⟩
      rw [decide_eq_true (⟨rfl, rfl⟩ : (([vc, vx, vy] : List V).length : Int) + 1 = 4 ∧ ("if" : Str) = "if")]
      exact q _ s2
  | call f ts =>
    obtain ⟨r, r2, xs, rfl, e, e2, prs⟩ := ht
    obtain ⟨_, nf, t2, _⟩ := hv
    refine ⟨_, rfl, _, rfl, .inr ⟨_, _, rfl, e, _, rfl, iteF ?_⟩⟩
    refine ⟨_, rfl, _, _, _, _, _, rfl, e, _, rfl, hk_no (by decide +kernel) ?_⟩
    refine ⟨_, rfl, _, _, _, _, _, rfl, e, _, rfl, hk_no (by decide +kernel) ?_⟩
    refine ⟨_, rfl, _, _, _, _, _, rfl, e, _, rfl, hk_no (by decide +kernel) ?_⟩
    refine ⟨_, rfl, _, _, _, _, _, rfl, e, _, rfl, hk_yes rfl rfl ?_⟩
    refine ⟨_, rfl, _, _, _, _, rfl, rfl, SqT.of e, at1, _, rfl, nf, fun H1 s1 => ⟨_, rfl, iteT ?_⟩⟩
    refine ⟨_, rfl, _, _, _, _, rfl, rfl, SqT.of (s1 _ _ e), at2, _, _, _, _, _, rfl, .ty _, .base (.tup (s1 _ _ e2)), kk_tuple_tuple, _, rfl, iteT ?_⟩
    refine ⟨_, rfl, _, _, _, _, rfl, rfl, SqT.of (s1 _ _ e), at2, _, _, rfl, .inr ⟨_, SqT.of (s1 _ _ e2), rfl⟩, _, _, rfl, rfl, ?_⟩
    show Q (.bl (decide (((xs.length : Nat) : Int) ≤ 2))) H1
    rw [decide_eq_true (show ((xs.length : Nat) : Int) ≤ 2 by rw [Paired.length prs]; omega)]
    exact q _ s1
end
end SC

set_option Elab.async false
set_option linter.all false
set_option maxRecDepth 100000
set_option maxHeartbeats 4000000
namespace SC
open PySem PySem.Spec PyProof.Rows L2
open C8 (Cal Met Mak pe_c pe_mk pe_mt pe_mt0 pe_gc InsC)
theorem Keep0.tms {K : PySem.W.Frag} {H H' : Hp} (k : Keep0 K H H') {ys : List V} {ts : List Tm} (h : Paired (TmAt H) ys ts) : Paired (TmAt H') ys ts := Paired.mapP h fun _ _ z => k.tm z
theorem lk_at {t : Tm} {i : Nat} {l : Lf} (h : (kids t)[i]? = some l) : (lkids t)[i]? = some (.lf l) := by
  unfold lkids
  rw [List.getElem?_map, h]
  rfl
theorem lkids_lf {u : Tm} (h : ∃ l, u = .lf l) : lkids u = [] := by
  obtain ⟨l, rfl⟩ := h
  rfl
theorem fo_len {ts : List Tm} (h3 : ∀ u ∈ ts, (kids u).length ≤ 3) (i : Nat) : ((List.range i).flatMap (fo ts lkids)).length ≤ i * 3 := by
  induction i with
  | zero => simp
  | succ i ih =>
    rw [List.range_succ, List.flatMap_append, List.length_append, List.flatMap_singleton, Nat.succ_mul]
    have : (fo ts lkids i).length ≤ 3 := by
      unfold fo
      cases q : ts[i]? with
      | none => exact Nat.zero_le _
      | some x =>
        show ((kids x).map Tm.lf).length ≤ 3
        rw [List.length_map]
        exact h3 x (List.mem_of_getElem? q)
    omega
section
variable {P : Program} {w : World} {K : PySem.W.Frag} {mg : Str → Option Value} {base : Heap}
def spTerm : Sp := fun vs H Q _ => ∃ v t, ∃ m : Nat, ∃ fs cs, vs = [v, .int m] ∧ TmAt H v t ∧ Tv fs cs m t ∧ ∀ H', Same H H' → Q (.bl true) H'
theorem C_is_term (T : TX K mg) : Cal P w K mg base 5 "is_term" spTerm [] := by
  have C_has_form : Cal P w K mg base 4 "has_form" spForm [] := SC.C_has_form T
  have C_inner_terms : Cal P w K mg base 1 "inner_terms" spInner [] := SC.C_inner_terms T
  obtain ⟨fd, F⟩ := T.d_is_term
  refine calD "is_term" F T.g_is_term (b_is_term F) .nil S_is_term (fun vs H Q E h => ?_) (fun cdv A outer s H vs Q E hr h => ?_)
  · obtain ⟨v, t, m, fs, cs, rfl, ht, hv, q⟩ := h
    rfl
  obtain ⟨v, t, m, fs, cs, rfl, ht, hv, q⟩ := h
  refine ⟨_, (pss_cons (ps_par (i := 2) (j := 3) (by rfl) S_is_term.nd rfl rfl (by decide) rfl rfl (pa_cons (pe_lst (pa_cons (pv 0) pa_nil)) (pa_cons pe_int pa_nil)) (by rfl))
  (pss_cons (ps_for PassesOwn.never rfl (pi_range1 (by rfl) T.f_range (pa_cons (pe_gc rfl T.k_MOST_DEPTH) pa_nil)) (pg_name (i := 4) S_is_term.nd rfl (Or.inl rfl))
    (pss_cons (ps_aug (i := 3) S_is_term.nd rfl (Or.inl rfl) (pe_callB call_len (by rfl) T.f_len v_len (pa_cons (pv 2) pa_nil)) ip_add)
  (pss_cons (ps_if (PW.pt (pw_or (pt_cmpR op_gt (pv 3) (pe_gc rfl T.k_MOST_PARTS) (nomark _)) (pw_or1 (pt_not (pt_val (pe_callB (cr_all rfl) (by rfl) T.f_all v_all (pa_cons (pe_lc (own := [("part", 6)]) (by rfl) S_is_term.nd  (pi_list (pv 2)) (blkOk_by (own := [("part", 6)]) (N := N_is_term) (sc := d_is_term.scope) (by decide +kernel)) (fun _ _ _ _ _ => (pg_name (i := 6) S_is_term.nd rfl (Or.inl rfl))) (fun _ _ _ _ _ => pts_nil) (fun _ _ _ _ _ => (pe_c C_has_form hr (by decide) rfl (pa_cons (pv 6) (pa_cons (pv 1) pa_nil))))) pa_nil))))))) (pss_one (ps_ret pe_bl)) pss_nil)
  (pss_cons (ps_setLc2 (i := 2) (own := [("term", 5), ("part", 6)]) (vs1 := [6]) (by rfl) S_is_term.nd rfl rfl (sw_true rfl rfl rfl (by decide +kernel)) (pi_list (pv 2)) (blkOk_by (own := [("term", 5), ("part", 6)]) (N := N_is_term) (sc := d_is_term.scope) (by decide +kernel)) (by decide) (fun _ _ _ _ _ => (pg_name (i := 5) S_is_term.nd rfl (Or.inl rfl))) (fun _ _ _ _ _ => pts_nil) (fun _ _ _ _ _ => (pi_tup' K rfl (pe_c C_inner_terms hr (by decide) rfl (pa_cons (pv 5) pa_nil)))) (fun _ _ _ _ _ => (pg_name (i := 6) S_is_term.nd rfl (Or.inl rfl))) (fun _ _ _ _ _ => pts_nil) (fun _ _ _ _ _ => (pv 6)))
  (pss_one (ps_if (pt_cmpR (op_eqNil (Nat.lt_of_succ_lt (hu_of hr))) (pv 2) (pe_lst pa_nil) (nomark _)) (pss_one (ps_ret pe_bl)) pss_nil))))))
  (pss_one (ps_ret pe_bl)))), ?_⟩
  refine ⟨_, rfl, small (by show 1 ≤ 1000000; decide), fun l hl => ?_⟩
  refine ⟨_, _, rfl, _, rfl, by decide, by decide, ?_⟩
  refine for_it walk_range (fun i σ H1 => i ≤ 1 ∧ Same H H1 ∧ ∃ l ys ts n r x y, σ = [some v, some (.int m), some (.ref l), some (.int n), r, x, y] ∧ H1 l = some (.lst ys) ∧ Paired (TmAt H1) ys ts ∧ ts.length ≤ 3 ∧ (∀ u ∈ ts, Tv fs cs m u) ∧ 0 ≤ n ∧ n ≤ 3 * i ∧ (i = 1 → ∀ u ∈ ts, ∃ l, u = .lf l) ∧ (i = 0 → ts.length = 1))
    ⟨Nat.zero_le _, same_upd hl, l, [v], [t], 0, _, _, _, rfl, upd_same, .cons ((keep0_new (K := K) hl).tm ht) .nil, by show 1 ≤ 3; decide, fun u hu => ?_, by decide, by decide, (fun z => nomatch z), fun _ => rfl⟩ (fun _ _ _ _ _ => trivial) (fun i x σ H1 H2 hi p y => ?_) fun σ H1 p => absurd p.1 (by decide)
  · rw [List.mem_singleton] at hu
    exact hu ▸ hv
  obtain ⟨i1, s1, l, ys, ts, n, r0, x0, y0, rfl, h1, pr, l3, tv, n0, n3, lf, i0⟩ := p
  obtain ⟨rfl, rfl⟩ := y
  have el := Paired.length pr
  refine ⟨_, rfl, _, rfl, _, _, rfl, .inl ⟨_, SqL.of h1, rfl⟩, _, _, rfl, rfl, ?_⟩
  refine ⟨_, rfl, _, _, rfl, rfl, _, rfl, iteDN (by show ¬ (n + (ys.length : Int) > 30); omega) ?_⟩
  refine ⟨_, rfl, _, rfl, ⟨_, SqL.of h1⟩, fun D hD => ?_⟩
  refine lcF (walk_list (K := K)) hD (small (by omega)) (fun k => ts[k]?.map fun u => V.bl true) (fun H3 s3 => SqL.of (s3 _ _ h1)) (fun k y H3 H4 No Ye hk s3 y1 no ye => ?_) fun H3 s3 h3 => ?_
  · obtain ⟨rfl, ey⟩ := y1
    obtain ⟨u, eu, hu⟩ := paired_get pr ey
    exact ⟨rfl, ty ⟨_, rfl, _, rfl, y, u, m, fs, cs, rfl, (Same.keep0 (K := K) s3).tm hu, tv u (List.mem_of_getElem? eu), fun H5 s5 => ye _ (by rw [eu]; rfl) _ s5⟩⟩
  have e1 : (List.range ys.length).filterMap (fun k => ts[k]?.map fun u => V.bl true) = (ts.map fun _ => true).map V.bl := by
    rw [el, fm_map, List.map_map]
    rfl
  rw [e1] at h3
  refine ⟨_, _, rfl, SqL.of h3, _, rfl, ?_⟩
  rw [show (ts.map fun _ => true).all id = true by rw [List.all_map, List.all_eq_true]; exact fun _ _ => rfl]
  refine iteF ?_
  have h3' := s3 _ _ h1
  have pr3 := (Same.keep0 (K := K) s3).tms pr
  refine ⟨_, rfl, l, rfl, ⟨_, SqL.of h3'⟩, fun D2 hD2 => ?_⟩
  refine lc2R (K := K) walk_list hD2 TmAt (fun _ _ _ _ k h => k.tm h) (fo ts lkids) (fun j hj => small (Nat.le_trans (fo_len (fun u hu => (kids_v (tv u hu)).1) j) (by omega))) (fun H s => .inl (.inl (s _ _ h3'))) (fun j x H5 H6 zs Wi hj s5 hz y in_ => ?_) (fun H5 zs s5 h5 r5 => ?_) (fun _ _ _ _ _ h q => h _ _ q) (fun _ _ _ _ h q => h _ _ q) (fun _ _ _ _ _ h q => h _ _ q) (fun _ _ _ _ h q => h _ _ q)
  · obtain ⟨rfl, ex⟩ := y
    obtain ⟨u, eu, hu⟩ := paired_get pr3 ex
    refine ⟨rfl, rfl, _, rfl, x, u, rfl, (Same.keep0 (K := K) s5).tm hu, fun H7 p xs s7 h7 pk => ⟨p, rfl, ⟨_, SqT.of h7⟩, ?_⟩⟩
    have hz7 := s7 _ _ hz
    have np : p ≠ D2 := ne_of h7 hz7 (by intro z; cases z)
    refine in_ _ _ _ _ _ s7 (walk_tup.mono (fun H h => SqT.of (h _ _ h7 np)) fun _ _ _ _ _ _ h => h) (by rw [fo_some eu, Paired.length pk]; exact (List.length_map _).symm) fun k x H H' Ye hk b y ye => ?_
    obtain ⟨rfl, ex⟩ := y
    obtain ⟨lf1, el1, hl1⟩ := paired_get pk ex
    rw [fo_some eu] at ye
    exact ⟨rfl, rfl, _, rfl, ye _ _ _ (lk_at el1) (Same.refl _) ((But.keep0 (K := K) b hz7 lst_firm0).lf hl1)⟩
  · rw [show (List.range ys.length).flatMap (fo ts lkids) = ts.flatMap lkids by rw [el]; exact fl_range _ _] at r5
    refine ⟨_, rfl, small (by decide), fun p hp => ?_⟩
    have hp5 : upd H5 p (.lst []) D2 = some (.lst zs) := by
      rw [upd_ne (ne_of_none h5 hp)]
      exact h5
    have s6 : Same H (upd H5 p (.lst [])) := ((s1.trans s3).trans s5).trans (same_upd hp)
    refine ⟨_, _, _, rfl, rfl, SqL.of hp5, SqL.of upd_same, _, rfl, ?_⟩
    cases zs with
    | nil => exact iteT (q _ s6)
    | cons z zs =>
      refine iteF ?_
      have hi0 : i = 0 := by
        rcases Nat.lt_or_ge i 1 with h | h
        · omega
        · have hh : i = 1 := by omega
          have z1 : ts.flatMap lkids = [] := by
            rw [List.flatMap_eq_nil_iff]
            exact fun u hu => lkids_lf (lf hh u hu)
          rw [z1] at r5
          cases r5
      have hl1 := i0 hi0
      obtain ⟨u, rfl⟩ : ∃ u, ts = [u] := by
        match ts, hl1 with
        | [u], _ => exact ⟨u, rfl⟩
      have eu : [u].flatMap lkids = lkids u := List.flatMap_singleton ..
      rw [eu] at r5
      have kv := kids_v (tv u List.mem_cons_self)
      refine ⟨by omega, s6, D2, _, lkids u, n + (ys.length : Int), _, _, _, rfl, hp5, (keep0_new (K := K) hp).tms r5, by show ((kids u).map Tm.lf).length ≤ 3; rw [List.length_map]; exact kv.1, fun x hx => ?_, by omega, by omega, fun _ x hx => ?_, fun h => absurd h (by omega)⟩
      · obtain ⟨l, hl, rfl⟩ := List.mem_map.mp hx
        exact kv.2 l hl
      · obtain ⟨l, hl, rfl⟩ := List.mem_map.mp hx
        exact ⟨l, rfl⟩
end
end SC

set_option Elab.async false
set_option linter.all false
set_option maxRecDepth 100000
set_option maxHeartbeats 4000000
namespace SC
open PySem PySem.Spec PyProof.Rows L2
open C8 (Cal Met Mak pe_c pe_mk pe_mt pe_mt0 pe_gc InsC)
theorem take_map_lf {t : Tm} {i : Nat} {l : Lf} (h : (kids t)[i]? = some l) : ((kids t).take (i + 1)).map Tm.lf = ((kids t).take i).map Tm.lf ++ [.lf l] := by
  rw [List.take_add_one, h, List.map_append]
  rfl
/-- the name a part tells -/
def pnm (k : Str) : Tm → Option Str
  | .lf (.cell x) => if k = "cell" then some x else none
  | .call f _ => if k = "call" then some f else none
  | _ => none
def parts (t : Tm) : List Tm := t :: lkids t
theorem merge_keys : ∀ (more : List (Key × V)) (kvs : List (Key × V)) (S : Str → Prop), (∀ kv ∈ kvs, ∃ x, kv.1 = Sum.inr x ∧ S x) → (∀ kv ∈ more, ∃ x, kv.1 = Sum.inr x ∧ S x) → ∀ kv ∈ mergeK kvs more, ∃ x, kv.1 = Sum.inr x ∧ S x
  | [], _, _, h, _ => h
  | p :: r, kvs, S, h, h2 => by
    refine merge_keys r (putK kvs p.1 p.2) S (fun kv hk => ?_) fun kv hk => h2 kv (List.mem_cons_of_mem _ hk)
    unfold putK at hk
    split at hk
    · obtain ⟨kw, hw, e⟩ := List.mem_map.mp hk
      obtain ⟨x, e2, hx⟩ := h kw hw
      refine ⟨x, ?_, hx⟩
      rw [← e]
      split <;> exact e2
    · rcases List.mem_append.mp hk with hk | hk
      · exact h kv hk
      · rw [List.mem_singleton] at hk
        obtain ⟨x, e, hx⟩ := h2 p List.mem_cons_self
        exact ⟨x, by rw [hk]; exact e, hx⟩
theorem keys_str {kvs : List (Key × V)} {S : Str → Prop} (h : ∀ kv ∈ kvs, ∃ x, kv.1 = Sum.inr x ∧ S x) : ∃ ys : List Str, kvs.map (·.1) = ys.map Sum.inr ∧ (∀ y ∈ ys, S y) := by
  induction kvs with
  | nil => exact ⟨[], rfl, fun _ h => by cases h⟩
  | cons p r ih =>
    obtain ⟨ys, e, hs⟩ := ih fun kv hk => h kv (List.mem_cons_of_mem _ hk)
    obtain ⟨x, ex, hx⟩ := h p List.mem_cons_self
    refine ⟨x :: ys, by rw [List.map_cons, List.map_cons, e, ex], fun y hy => ?_⟩
    rcases List.mem_cons.mp hy with rfl | hy
    · exact hx
    · exact hs y hy
theorem tm_part {H : Hp} {k : Str} (hk : k = "cell" ∨ k = "call") {y : V} {u : Tm} (h : TmAt H y u) : (∃ i, y = .int i ∧ pnm k u = none) ∨ ∃ a hd xs, y = .ref a ∧ H a = some (.tup (.str hd :: xs)) ∧ ((hd = k ∧ ∃ x r, xs = .str x :: r ∧ pnm k u = some x) ∨ (hd ≠ k ∧ pnm k u = none)) := by
  cases u with
  | lf l =>
    cases l with
    | val i => exact .inl ⟨i, h, rfl⟩
    | arg i =>
      obtain ⟨a, e, z⟩ := h
      exact .inr ⟨a, _, _, e, z, .inr ⟨by rcases hk with rfl | rfl <;> decide +kernel, rfl⟩⟩
    | cell x =>
      obtain ⟨a, e, z⟩ := h
      rcases hk with rfl | rfl
      · exact .inr ⟨a, _, _, e, z, .inl ⟨rfl, x, _, rfl, by show (if ("cell" : Str) = "cell" then some x else none) = some x; exact if_pos rfl⟩⟩
      · exact .inr ⟨a, _, _, e, z, .inr ⟨by decide +kernel, by show (if ("call" : Str) = "cell" then some x else none) = none; exact if_neg (by decide +kernel)⟩⟩
    | tick =>
      obtain ⟨a, e, z⟩ := h
      exact .inr ⟨a, _, _, e, z, .inr ⟨by rcases hk with rfl | rfl <;> decide +kernel, rfl⟩⟩
  | bin o a b =>
    obtain ⟨r, vx, vy, e, z, _, _⟩ := h
    exact .inr ⟨r, _, _, e, z, .inr ⟨by rcases hk with rfl | rfl <;> cases o <;> decide +kernel, rfl⟩⟩
  | ite c a b =>
    obtain ⟨r, vc, vx, vy, e, z, _, _⟩ := h
    exact .inr ⟨r, _, _, e, z, .inr ⟨by rcases hk with rfl | rfl <;> decide +kernel, rfl⟩⟩
  | call f ts =>
    obtain ⟨r, r2, xs, e, z, _, _⟩ := h
    rcases hk with rfl | rfl
    · exact .inr ⟨r, _, _, e, z, .inr ⟨by decide +kernel, by show (if ("cell" : Str) = "call" then some f else none) = none; exact if_neg (by decide +kernel)⟩⟩
    · exact .inr ⟨r, _, _, e, z, .inl ⟨rfl, f, _, rfl, by show (if ("call" : Str) = "call" then some f else none) = some f; exact if_pos rfl⟩⟩
theorem lock_same {H H2 : Hp} {d : Addr} {u f : HO} (hd : H d = some u) (s : Same (upd H d f) H2) : Same H (upd H2 d u) := fun b o h => by
  by_cases e : b = d
  · subst e
    rw [hd] at h
    cases h
    exact upd_same
  · rw [upd_ne e]
    exact s _ _ (by rw [upd_ne e]; exact h)
section
variable {P : Program} {w : World} {K : PySem.W.Frag} {mg : Str → Option Value} {base : Heap}
def spLeaf1 : Sp := fun vs H Q _ => ∃ v l, vs = [v] ∧ LfAt H v l ∧ ∀ H' p, Same H H' → H' p = some (.lst [v]) → H p = none → Q (.ref p) H'
theorem C_leaves1 (T : TX K mg) : Cal P w K mg base 2 "leaves" spLeaf1 [] := by
  have C_inner_terms : Cal P w K mg base 1 "inner_terms" spInner [] := SC.C_inner_terms T
  obtain ⟨fd, F⟩ := T.d_leaves
  refine calD "leaves" F T.g_leaves (b_leaves F) .nil S_leaves (fun vs H Q E h => ?_) (fun cdv A outer s H vs Q E hr h => ?_)
  · obtain ⟨v, l, rfl, hl, q⟩ := h
    rfl
  obtain ⟨v, l, rfl, hl, q⟩ := h
  refine ⟨_, (pss_cons (ps_set (i := 1) S_leaves.nd rfl (Or.inl rfl) (pe_lst (pa_cons (pv 0) pa_nil)))
  (pss_cons (ps_for PassesOwn.never rfl (pi_tup (pe_c C_inner_terms hr (by decide) rfl (pa_cons (pv 0) pa_nil))) (pg_name (i := 2) S_leaves.nd rfl (Or.inl rfl))
    (pss_one ps_never))
  (pss_one (ps_ret (pv 1))))), ?_⟩
  refine ⟨_, rfl, small (by show 1 ≤ 1000000; decide), fun p hp => ?_⟩
  refine ⟨_, rfl, v, .lf l, rfl, (keep0_new (K := K) hp).lf hl, fun H1 r xs s1 h1 pr => ?_⟩
  cases pr
  have hp1 := s1 _ _ upd_same
  refine ⟨r, rfl, ⟨_, SqT.of h1⟩, ?_⟩
  exact for_it (walk_tup (xs := [])) (fun i σ H2 => H2 = H1 ∧ ∃ z, σ = [some v, some (.ref p), z]) ⟨rfl, _, rfl⟩ (fun i σ H2 _ p => by rw [p.1]; exact SqT.of h1) (fun i y σ H2 H3 hi _ _ => absurd hi (Nat.not_lt_zero _)) fun σ H2 ⟨e, z, es⟩ => by
    subst es
    subst e
    exact ⟨_, rfl, q H2 p ((same_upd hp).trans s1) hp1 hp⟩
def spLeaves : Sp := fun vs H Q _ => ∃ v t, vs = [v] ∧ TmAt H v t ∧ (kids t).length ≤ 3 ∧ ∀ H' p ys, Same H H' → H' p = some (.lst ys) → Paired (TmAt H') ys (parts t) → Q (.ref p) H'
theorem C_leaves (T : TX K mg) : Cal P w K mg base 3 "leaves" spLeaves [] := by
  have C_inner_terms : Cal P w K mg base 1 "inner_terms" spInner [] := SC.C_inner_terms T
  have C_leaves : Cal P w K mg base 2 "leaves" spLeaf1 [] := SC.C_leaves1 T
  obtain ⟨fd, F⟩ := T.d_leaves
  refine calD "leaves" F T.g_leaves (b_leaves F) .nil S_leaves (fun vs H Q E h => ?_) (fun cdv A outer s H vs Q E hr h => ?_)
  · obtain ⟨v, t, rfl, ht, k3, q⟩ := h
    rfl
  obtain ⟨v, t, rfl, ht, k3, q⟩ := h
  refine ⟨_, (pss_cons (ps_set (i := 1) S_leaves.nd rfl (Or.inl rfl) (pe_lst (pa_cons (pv 0) pa_nil)))
  (pss_cons (ps_for PassesOwn.never rfl (pi_tup (pe_c C_inner_terms hr (by decide) rfl (pa_cons (pv 0) pa_nil))) (pg_name (i := 2) S_leaves.nd rfl (Or.inl rfl))
    (pss_one (ps_expr (pe_bm PySem.F.plainAttrs_list PySem.F.slot_list_extend PySem.F.type_list_extend mt_extend (pv 1) (pa_cons (pe_c C_leaves hr (by decide) rfl (pa_cons (pv 2) pa_nil)) pa_nil)))))
  (pss_one (ps_ret (pv 1))))), ?_⟩
  refine ⟨_, rfl, small (by show 1 ≤ 1000000; decide), fun p hp => ?_⟩
  have k0 := keep0_new (K := K) (o := .lst [v]) hp
  refine ⟨_, rfl, v, t, rfl, k0.tm ht, fun H1 r xs s1 h1 pr => ?_⟩
  have hp1 := s1 _ _ upd_same
  refine ⟨r, rfl, ⟨_, SqT.of h1⟩, ?_⟩
  have s01 := (same_upd hp).trans s1
  refine for_it (walk_tup (xs := xs)) (fun i σ H2 => Same H H2 ∧ H2 r = some (.tup xs) ∧ Paired (LfAt H2) xs (kids t) ∧ (∃ z, σ = [some v, some (.ref p), z]) ∧ ∃ ys, H2 p = some (.lst ys) ∧ Paired (TmAt H2) ys (t :: ((kids t).take i).map Tm.lf)) ⟨s01, h1, pr, ⟨_, rfl⟩, [v], hp1, .cons ((Same.keep0 (K := K) s01).tm ht) .nil⟩ (fun i σ H2 _ p => SqT.of p.2.1) (fun i y σ H2 H3 hi p y1 => ?_) fun σ H2 p => ?_
  · obtain ⟨s2, h2, pr2, ⟨z, rfl⟩, ys, hy, py⟩ := p
    obtain ⟨rfl, ey⟩ := y1
    obtain ⟨l, el, hl⟩ := paired_get pr2 ey
    refine ⟨_, rfl, .inl ⟨rfl, _, SqL.of hy⟩, ?_⟩
    refine ⟨_, rfl, y, l, rfl, hl, fun H4 p4 s4 h4 _ => ?_⟩
    have hy4 := s4 _ _ hy
    have ly := Paired.length py
    rw [List.length_cons, List.length_map] at ly
    have lt := List.length_take_le i (kids t)
    have lt2 : ((kids t).take i).length ≤ 3 := Nat.le_trans (by rw [List.length_take]; exact Nat.min_le_right _ _) k3
    refine ⟨p, p4, ys, [y], rfl, rfl, hy4, h4, small (by rw [List.length_singleton]; omega), ?_⟩
    have k4 : Keep0 K H4 (upd H4 p (.lst (ys ++ [y]))) := keep0_upd hy4 lst_firm0
    have k24 : Keep0 K H3 H4 := Same.keep0 s4
    refine ⟨Same.of_upd (s2.trans s4) hp, k4.tup (s4 _ _ h2), Paired.mapP pr2 fun _ _ z => k4.lf (k24.lf z), ⟨_, rfl⟩, _, upd_same, ?_⟩
    rw [take_map_lf el]
    exact Paired.snoc (l₂ := t :: ((kids t).take i).map Tm.lf) (k4.tms (k24.tms py)) (k4.lf (k24.lf hl))
  · obtain ⟨s2, h2, pr2, ⟨z, rfl⟩, ys, hy, py⟩ := p
    rw [Paired.length pr, List.take_length] at py
    exact ⟨_, rfl, q H2 p ys s2 hy py⟩
def spNames : Sp := fun vs H Q _ => ∃ v t k, vs = [v, .str k] ∧ TmAt H v t ∧ (kids t).length ≤ 3 ∧ (k = "cell" ∨ k = "call") ∧ ∀ H' p (ys : List Str), Same H H' → H' p = some (.lst (ys.map V.str)) → ys.length ≤ 4 → (∀ y ∈ ys, ∃ u ∈ parts t, pnm k u = some y) → Q (.ref p) H'
theorem C_names_with (T : TX K mg) : Cal P w K mg base 4 "names_with" spNames [] := by
  have C_leaves : Cal P w K mg base 3 "leaves" spLeaves [] := SC.C_leaves T
  obtain ⟨fd, F⟩ := T.d_names_with
  refine calD "names_with" F T.g_names_with (b_names_with F) .nil S_names_with (fun vs H Q E h => ?_) (fun cdv A outer s H vs Q E hr h => ?_)
  · obtain ⟨v, t, k, rfl, ht, k3, hk, q⟩ := h
    rfl
  obtain ⟨v, t, k, rfl, ht, k3, hk, q⟩ := h
  refine ⟨_, (pss_cons (ps_setDc (i := 2) (own := [("part", 3)]) (by rfl) S_names_with.nd rfl rfl (sw_trueD rfl rfl rfl (by decide +kernel)) (pi_list (pe_c C_leaves hr (by decide) rfl (pa_cons (pv 0) pa_nil))) (blkOk_by (own := [("part", 3)]) (N := N_names_with) (sc := d_names_with.scope) (by decide +kernel)) (fun _ _ _ _ _ => (pg_name (i := 3) S_names_with.nd rfl (Or.inl rfl))) (fun _ _ _ _ _ => (pts_one (PW.pt (pw_and (pt_val (pe_callB (call_isi' K rfl) (by rfl) T.f_isinstance v_isinstance (pa_cons (pv 3) (pa_cons (pe_bltn (v := .ty "tuple") (u := .type "tuple") (by rfl) T.f_tuple v_tuple rfl) pa_nil)))) (pw_and1 (pt_cmpR op_eq (pe_ix (ix_tup' K rfl) (pv 3) pe_int (fun _ _ => rfl)) (pv 1) (nomark _))))))) (fun _ _ _ _ _ => (pe_ix (ix_tup' K rfl) (pv 3) pe_int (fun _ _ => rfl))) (fun _ _ _ _ _ => pe_bl))
  (pss_one (ps_ret (pe_callB cr_sortedS (by rfl) T.f_sorted v_sorted (pa_cons (pe_lock (pe_lc (own := [("name", 4)]) (by rfl) S_names_with.nd  (pi_keys (pv 2)) (blkOk_by (own := [("name", 4)]) (N := N_names_with) (sc := d_names_with.scope) (by decide +kernel)) (fun _ _ _ _ _ => (pg_name (i := 4) S_names_with.nd rfl (Or.inl rfl))) (fun _ _ _ _ _ => pts_nil) (fun _ _ _ _ _ => (pe_callTy SkE.call_str_str (by rfl) T.f_str v_str (pa_cons (pv 4) pa_nil))))) pa_nil))))), ?_⟩
  refine ⟨_, rfl, v, t, rfl, ht, k3, fun H1 p ys s1 h1 pr => ?_⟩
  refine ⟨p, rfl, ⟨_, SqL.of h1⟩, fun D hD => ?_⟩
  have l4 : ys.length ≤ 4 := by
    rw [Paired.length pr]
    show ((kids t).map Tm.lf).length + 1 ≤ 4
    rw [List.length_map]
    omega
  refine dcF (walk_list (K := K)) hD (small (by omega)) (fun i => (parts t)[i]?.bind fun u => (pnm k u).map fun x => ((Sum.inr x : Key), V.bl true)) (fun H2 s2 => SqL.of (s2 _ _ h1)) (fun i y H2 H3 No Ye hi s2 y1 no ye => ?_) fun H2 s2 h2 => ?_
  · obtain ⟨rfl, ey⟩ := y1
    obtain ⟨u, eu, hu⟩ := paired_get pr ey
    have hu := (Same.keep0 (K := K) s2).tm hu
    have hw : ∀ σ : L2.St, True := fun _ => trivial
    refine ⟨rfl, ?_⟩
    rcases tm_part hk hu with ⟨i, rfl, e⟩ | ⟨a, hd, xs, rfl, e, ⟨rfl, x, r, rfl, en⟩ | ⟨n, en⟩⟩
    · exact ⟨_, rfl, _, _, _, _, _, rfl, .ty _, .base (.int i), kk_int_tuple, _, rfl, iteF (iteF (no (by rw [eu]; show (pnm k u).map _ = none; rw [e]; rfl) _ (Same.refl _)))⟩
    · refine ⟨_, rfl, _, _, _, _, _, rfl, .ty _, .base (.tup e), kk_tuple_tuple, _, rfl, iteT ?_⟩
      refine ⟨_, rfl, _, _, _, _, rfl, rfl, SqT.of e, at0, _, rfl, rfl, _, rfl, iteD rfl ?_⟩
      exact ⟨_, rfl, _, _, _, _, rfl, rfl, SqT.of e, at1, ye (Sum.inr x) _ (by rw [eu]; show (pnm _ u).map _ = _; rw [en]; rfl) _ (Same.refl _)⟩
    · refine ⟨_, rfl, _, _, _, _, _, rfl, .ty _, .base (.tup e), kk_tuple_tuple, _, rfl, iteT ?_⟩
      exact ⟨_, rfl, _, _, _, _, rfl, rfl, SqT.of e, at0, _, rfl, rfl, _, rfl, iteDN (strne n) (no (by rw [eu]; show (pnm k u).map _ = none; rw [en]; rfl) _ (Same.refl _))⟩
  · have hm : ∀ kv ∈ mergeK [] ((List.range ys.length).filterMap fun i => (parts t)[i]?.bind fun u => (pnm k u).map fun x => ((Sum.inr x : Key), V.bl true)), ∃ x, kv.1 = Sum.inr x ∧ ∃ u ∈ parts t, pnm k u = some x := by
      refine merge_keys _ _ _ (fun kv h => by cases h) fun kv h => ?_
      obtain ⟨i, _, hi⟩ := List.mem_filterMap.mp h
      cases q1 : (parts t)[i]? with
      | none => rw [q1] at hi; cases hi
      | some u =>
        rw [q1] at hi
        cases q2 : pnm k u with
        | none =>
          have hi : (pnm k u).map (fun x => ((Sum.inr x : Key), V.bl true)) = some kv := hi
          rw [q2] at hi
          cases hi
        | some x =>
          have hi : (pnm k u).map (fun x => ((Sum.inr x : Key), V.bl true)) = some kv := hi
          rw [q2] at hi
          cases hi
          exact ⟨x, rfl, u, List.mem_of_getElem? q1, q2⟩
    have hl := length_mergeK ((List.range ys.length).filterMap fun i => (parts t)[i]?.bind fun u => (pnm k u).map fun x => ((Sum.inr x : Key), V.bl true)) []
    have hl2 := fm_le (fun i => (parts t)[i]?.bind fun u => (pnm k u).map fun x => ((Sum.inr x : Key), V.bl true)) ys.length
    revert hm hl h2
    generalize mergeK [] ((List.range ys.length).filterMap fun i => (parts t)[i]?.bind fun u => (pnm k u).map fun x => ((Sum.inr x : Key), V.bl true)) = kvs
    intro h2 hm hl
    have kl : kvs.length ≤ 4 := by
      have : ([] : List (Key × V)).length = 0 := rfl
      omega
    obtain ⟨ns, en, hn⟩ := keys_str hm
    have ln : ns.length = kvs.length := by
      have z := congrArg List.length en
      rw [List.length_map, List.length_map] at z
      exact z.symm
    refine ⟨D, _, h2, trivial, fun od => ⟨_, rfl, D, od, rfl, .inl ⟨kvs, upd_same, fun D3 hD3 => ?_⟩⟩⟩
    refine lcF walk_keys hD3 (small (by omega)) (fun i => ns[i]?.map V.str) (fun H3 s3 => s3 _ _ upd_same) (fun i y H3 H4 No Ye hi s3 y1 no ye => ?_) fun H3 s3 h3 => ⟨s3 _ _ upd_same, ?_⟩
    · obtain ⟨rfl, kk, vv, ek, rfl⟩ := y1
      have ek2 : (kvs.map (·.1))[i]? = some kk := by rw [List.getElem?_map, ek]; rfl
      rw [en, List.getElem?_map] at ek2
      cases ex : ns[i]? with
      | none => rw [ex] at ek2; cases ek2
      | some x =>
        rw [ex] at ek2
        cases ek2
        exact ⟨rfl, ty ⟨_, rfl, x, rfl, ye _ (by rw [ex]; rfl) _ (Same.refl _)⟩⟩
    · rw [show kvs.length = ns.length from ln.symm, fm_map] at h3
      have s0 : Same H2 (upd H3 D (.dK kvs)) := lock_same h2 s3
      have nD : D3 ≠ D := fun z => by
        rw [z, upd_same] at hD3
        cases hD3
      refine ⟨D3, ns, rfl, SqL.of (by rw [upd_ne nD]; exact h3), by omega, fun zs p2 pm _ hp2 => ?_⟩
      exact q _ p2 zs (((s1.trans s2).trans s0).trans (same_upd hp2)) upd_same (by rw [pm.length_eq]; omega) fun y hy => hn y (pm.mem_iff.mp hy)
def spNames1 (k : Str) : Sp := fun vs H Q _ => ∃ v t, vs = [v] ∧ TmAt H v t ∧ (kids t).length ≤ 3 ∧ ∀ H' p (ys : List Str), Same H H' → H' p = some (.lst (ys.map V.str)) → ys.length ≤ 4 → (∀ y ∈ ys, ∃ u ∈ parts t, pnm k u = some y) → Q (.ref p) H'
theorem C_cells_in (T : TX K mg) : Cal P w K mg base 5 "cells_in" (spNames1 "cell") [] := by
  have C_names_with : Cal P w K mg base 4 "names_with" spNames [] := SC.C_names_with T
  obtain ⟨fd, F⟩ := T.d_cells_in
  refine calD "cells_in" F T.g_cells_in (b_cells_in F) .nil S_cells_in (fun vs H Q E h => ?_) (fun cdv A outer s H vs Q E hr h => ?_)
  · obtain ⟨v, t, rfl, ht, k3, q⟩ := h
    rfl
  obtain ⟨v, t, rfl, ht, k3, q⟩ := h
  refine ⟨_, (pss_one (ps_ret (pe_c C_names_with hr (by decide) rfl (pa_cons (pv 0) (pa_cons pe_str pa_nil))))), ?_⟩
  exact ⟨_, rfl, v, t, _, rfl, ht, k3, .inl rfl, q⟩
theorem C_calls_in (T : TX K mg) : Cal P w K mg base 5 "calls_in" (spNames1 "call") [] := by
  have C_names_with : Cal P w K mg base 4 "names_with" spNames [] := SC.C_names_with T
  obtain ⟨fd, F⟩ := T.d_calls_in
  refine calD "calls_in" F T.g_calls_in (b_calls_in F) .nil S_calls_in (fun vs H Q E h => ?_) (fun cdv A outer s H vs Q E hr h => ?_)
  · obtain ⟨v, t, rfl, ht, k3, q⟩ := h
    rfl
  obtain ⟨v, t, rfl, ht, k3, q⟩ := h
  refine ⟨_, (pss_one (ps_ret (pe_c C_names_with hr (by decide) rfl (pa_cons (pv 0) (pa_cons pe_str pa_nil))))), ?_⟩
  exact ⟨_, rfl, v, t, _, rfl, ht, k3, .inr rfl, q⟩
end
end SC

set_option Elab.async false
set_option linter.all false
set_option maxRecDepth 100000
set_option maxHeartbeats 4000000
namespace SC
open PySem PySem.Spec PyProof.Rows L2
open C8 (Cal Met Mak pe_c pe_mk pe_mt pe_mt0 pe_gc InsC)
/-! ### labels, functions -/
theorem lbl_in {x : Str} (h : x ∈ LBS) : inV (.str x) [V.str "always", V.str "session", V.str "statement", V.str "changing"] = true := by
  simp only [LBS, List.mem_cons, List.not_mem_nil, or_false] at h
  rcases h with rfl | rfl | rfl | rfl <;> decide +kernel
theorem lbl_ix {x : Str} (h : x ∈ LBS) : ∃ j : Nat, LBS[j]? = some x ∧ ∀ m, m < j → LBS[m]? ≠ some x := by
  simp only [LBS, List.mem_cons, List.not_mem_nil, or_false] at h
  rcases h with rfl | rfl | rfl | rfl
  · exact ⟨0, rfl, by decide +kernel⟩
  · exact ⟨1, rfl, by decide +kernel⟩
  · exact ⟨2, rfl, by decide +kernel⟩
  · exact ⟨3, rfl, by decide +kernel⟩
theorem Same.tms {H H' : Hp} (s : Same H H') {ys : List V} {ts : List Tm} (h : Paired (TmAt H) ys ts) : Paired (TmAt H') ys ts := (Same.keep0 (K := []) s).tms h
theorem Same.tm {H H' : Hp} (s : Same H H') {v : V} {t : Tm} (h : TmAt H v t) : TmAt H' v t := (Same.keep0 (K := []) s).tm h
theorem Same.ws {H H' : Hp} (s : Same H H') {v : V} {ws : List (Str × Tm)} (h : WsAt H v ws) : WsAt H' v ws := (Same.keep0 (K := []) s).ws h
section
variable {P : Program} {w : World} {K : PySem.W.Frag} {mg : Str → Option Value} {base : Heap}
def spIsLabel : Sp := fun vs H Q _ => ∃ x, vs = [.str x] ∧ x ∈ LBS ∧ Q (.bl true) H
theorem C_is_label_name (T : TX K mg) : Cal P w K mg base 1 "is_label_name" spIsLabel [] := by
  obtain ⟨fd, F⟩ := T.d_is_label_name
  refine calD "is_label_name" F T.g_is_label_name (b_is_label_name F) .nil S_is_label_name (fun vs H Q E h => ?_) (fun cdv A outer s H vs Q E hr h => ?_)
  · obtain ⟨x, rfl, hx, q⟩ := h
    rfl
  obtain ⟨x, rfl, hx, q⟩ := h
  refine ⟨_, (pss_one (ps_ret (pe_and (pe_callB call_isi (by rfl) T.f_isinstance v_isinstance (pa_cons (pv 0) (pa_cons (pe_bltn (v := .ty "str") (u := .type "str") (by rfl) T.f_str v_str rfl) pa_nil))) (pe_one (pe_cmpR op_in_seq (pv 0) (pe_gc rfl T.g_LABELS) (by rfl)))))), ?_⟩
  refine ⟨_, rfl, _, _, _, _, _, rfl, .ty _, .base (.str _), kk_str_str, _, rfl, iteT ?_⟩
  refine ⟨_, rfl, _, _, rfl, .inr (T.t_LABELS _), rfl, rfl, ?_⟩
  rw [lbl_in hx]
  exact q
def spLabel (K : PySem.W.Frag) : Sp := fun vs H Q _ => ∃ a dx x, vs = [.ref a, .str x] ∧ H a = some (.ins (He.ga K "Label") dx []) ∧ x ∈ LBS ∧ ∀ H', But a H H' → Q .non H'
theorem K_Label (T : TX K mg) : Mak P w K mg base 2 "Label" (He.ga K "Label") (spLabel K) [] := by
  have C_is_label_name : Cal P w K mg base 1 "is_label_name" spIsLabel [] := SC.C_is_label_name T
  obtain ⟨fd, F⟩ := T.d_Label_init
  refine makD "Label" (He.ga K "Label") F T.mk_Label T.g_Label (b_Label_init F) .nil S_Label_init (fun vs H Q E h => ?_) (fun cdv A outer s H vs Q E hr h => ?_)
  · obtain ⟨a, dx, x, rfl, e, hx, q⟩ := h
    rfl
  obtain ⟨a, dx, x, rfl, e, hx, q⟩ := h
  refine ⟨_, (pss_cons (ps_if (pt_not (pt_val (pe_c C_is_label_name hr (by decide) rfl (pa_cons (pv 1) pa_nil)))) (pss_one ps_never) pss_nil)
  (pss_cons (ps_fld (pv 0) (pv 1) rfl)
  (pss_one (ps_fld (pv 0) (pe_op op_sub (pe_op op_sub (pe_callB call_len (by rfl) T.f_len v_len (pa_cons (pe_gc rfl T.g_LABELS) pa_nil)) pe_int) (pe_bm PySem.F.plainAttrs_tuple PySem.F.slot_tuple_index PySem.F.type_tuple_index mt_tup_index (pe_gc rfl T.g_LABELS) (pa_cons (pv 1) pa_nil))) rfl)))), ?_⟩
  obtain ⟨j, hj, hn⟩ := lbl_ix hx
  refine ⟨_, rfl, _, rfl, hx, _, rfl, iteF ?_⟩
  refine ⟨_, rfl, _, rfl, a, _, dx, _, rfl, e, T.cls_Label, T.at_Label_name, by show 0 < 1000; decide, ?_⟩
  refine ⟨_, _, rfl, .inr ⟨_, T.t_LABELS _, rfl⟩, _, _, rfl, rfl, .inr (.inl ⟨rfl, T.pl_LABELS⟩), _, rfl, _, LBS, x, j, rfl, rfl, T.t_LABELS _, hj, hn, _, _, rfl, rfl, ?_⟩
  refine ⟨_, rfl, a, _, dx, _, rfl, upd_same, T.cls_Label, T.at_Label_height, by show 1 < 1000; decide, ?_⟩
  exact q _ (But.upd.trans But.upd)
def spMade : Sp := fun vs H Q _ => ∃ x, vs = [.str x] ∧ x ∈ LBS ∧ ∀ H' l, Same H H' → Q (.ref l) H'
theorem C_made_label (T : TX K mg) : Cal P w K mg base 4 "made_label" spMade [] := by
  have K_Label : Mak P w K mg base 2 "Label" (He.ga K "Label") (spLabel K) [] := SC.K_Label T
  obtain ⟨fd, F⟩ := T.d_made_label
  refine calD "made_label" F T.g_made_label (b_made_label F) .nil S_made_label (fun vs H Q E h => ?_) (fun cdv A outer s H vs Q E hr h => ?_)
  · obtain ⟨x, rfl, hx, q⟩ := h
    rfl
  obtain ⟨x, rfl, hx, q⟩ := h
  refine ⟨_, (pss_one (ps_ret (pe_ifExp (pt_val (pe_callB call_isi (by rfl) T.f_isinstance v_isinstance (pa_cons (pv 0) (pa_cons (pe_glob (v := .ref (He.ga K "Label")) rfl T.g_Label rfl) pa_nil)))) (pv 0) (pe_mk K_Label hr (by decide) rfl (pa_cons (pv 0) pa_nil))))), ?_⟩
  refine ⟨_, rfl, _, _, _, _, _, rfl, .own _, .base (.str _), T.isi_str_Label, _, rfl, iteF ?_⟩
  refine ⟨_, rfl, fun a dx ha hdx n => ?_⟩
  have ha2 : upd H dx (.own a) a = none := by
    rw [upd_ne (Ne.symm n)]
    exact ha
  have s : Same H (upd (upd H dx (.own a)) a (.ins (He.ga K "Label") dx [])) := (same_upd hdx).trans (same_upd ha2)
  exact ⟨a, dx, x, rfl, upd_same, hx, fun H' b => ⟨rfl, q H' a (But.same b s ha)⟩⟩
def spWrites : Sp := fun vs H Q _ => ∃ v ws, vs = [v] ∧ WsAt H v ws ∧ ws.length ≤ 1 ∧ (∀ w ∈ ws, IsNm w.1) ∧ ∀ H', Same H H' → Q (.bl true) H'
theorem C_are_writes (T : TX K mg) : Cal P w K mg base 3 "are_writes" spWrites [] := by
  have C_is_name : Cal P w K mg base 1 "is_name" spIsName [] := SC.C_is_name T
  obtain ⟨fd, F⟩ := T.d_are_writes
  refine calD "are_writes" F T.g_are_writes (b_are_writes F) .nil S_are_writes (fun vs H Q E h => ?_) (fun cdv A outer s H vs Q E hr h => ?_)
  · obtain ⟨v, ws, rfl, hw, l1, nm, q⟩ := h
    rfl
  obtain ⟨v, ws, rfl, hw, l1, nm, q⟩ := h
  refine ⟨_, (pss_cons (ps_if (PW.pt (pw_or (pt_not (pt_val (pe_callB call_isiT (by rfl) T.f_isinstance v_isinstance (pa_cons (pv 0) (pa_cons (pe_tup (pa_cons (pe_bltn (v := .ty "list") (u := .type "list") (by rfl) T.f_list v_list rfl) (pa_cons (pe_bltn (v := .ty "tuple") (u := .type "tuple") (by rfl) T.f_tuple v_tuple rfl) pa_nil))) pa_nil))))) (pw_or1 (pt_cmpR op_gt (pe_callB call_len (by rfl) T.f_len v_len (pa_cons (pv 0) pa_nil)) (pe_gc rfl T.k_MOST_WRITES) (nomark _))))) (pss_one (ps_ret pe_bl)) pss_nil)
  (pss_cons (ps_if (pt_not (pt_val (pe_callB (cr_all rfl) (by rfl) T.f_all v_all (pa_cons (pe_lc (own := [("row", 2)]) (by rfl) S_are_writes.nd  (pi_tup (pv 0)) (blkOk_by (own := [("row", 2)]) (N := N_are_writes) (sc := d_are_writes.scope) (by decide +kernel)) (fun _ _ _ _ _ => (pg_name (i := 2) S_are_writes.nd rfl (Or.inl rfl))) (fun _ _ _ _ _ => pts_nil) (fun _ _ _ _ _ => (pe_and (pe_callB (call_isi' K rfl) (by rfl) T.f_isinstance v_isinstance (pa_cons (pv 2) (pa_cons (pe_bltn (v := .ty "tuple") (u := .type "tuple") (by rfl) T.f_tuple v_tuple rfl) pa_nil))) (pe_and (pe_cmpR op_eq (pe_callB (call_len' K rfl) (by rfl) T.f_len v_len (pa_cons (pv 2) pa_nil)) pe_int (nomark _)) (pe_one (pe_c C_is_name hr (by decide) rfl (pa_cons (pe_ix (ix_tup' K rfl) (pv 2) pe_int (fun _ _ => rfl)) pa_nil))))))) pa_nil)))) (pss_one (ps_ret pe_bl)) pss_nil)
  (pss_cons (ps_set (i := 1) S_are_writes.nd rfl (Or.inr rfl) (pe_lc (own := [("row", 2)]) (by rfl) S_are_writes.nd  (pi_tup (pv 0)) (blkOk_by (own := [("row", 2)]) (N := N_are_writes) (sc := d_are_writes.scope) (by decide +kernel)) (fun _ _ _ _ _ => (pg_name (i := 2) S_are_writes.nd rfl (Or.inl rfl))) (fun _ _ _ _ _ => pts_nil) (fun _ _ _ _ _ => (pe_ix (ix_tup' K rfl) (pv 2) pe_int (fun _ _ => rfl)))))
  (pss_one (ps_ret (pe_callB (cr_all rfl) (by rfl) T.f_all v_all (pa_cons (pe_lc (own := [("at", 3), ("name", 4)]) (by rfl) S_are_writes.nd  (pi_enum (by rfl) T.f_enumerate (pa_cons (pv 1) pa_nil)) (blkOk_by (own := [("at", 3), ("name", 4)]) (N := N_are_writes) (sc := d_are_writes.scope) (by decide +kernel)) (fun _ _ _ _ _ => (pg_tup' K rfl (n := 2) (by rfl) (pgs_cons (pg_name (i := 3) S_are_writes.nd rfl (Or.inl rfl)) (pgs_cons (pg_name (i := 4) S_are_writes.nd rfl (Or.inl rfl)) pgs_nil)))) (fun _ _ _ _ _ => pts_nil) (fun _ _ _ _ _ => (pe_cmpR (op_notIn_seq' K rfl) (pv 4) (pe_slice (sl_list' K rfl) (pv 1) po_none (po_some (pv 3))) (by rfl)))) pa_nil))))))), ?_⟩
  obtain ⟨p, ps, rfl, hp, prs⟩ := hw
  have lp : ps.length ≤ 1 := by rw [Paired.length prs]; exact l1
  refine ⟨_, rfl, (by show 2 ≤ sizeLine; decide), fun t ht => ?_⟩
  refine ⟨_, t, _, _, _, _, rfl, upd_same, cls_lt, .base (.tup (by rw [upd_ne (ne_of_none hp ht)]; exact hp)), kk_tuple_lt, _, rfl, iteF ?_⟩
  have s1 : Same H (upd H t (.tup [.ty "list", .ty "tuple"])) := same_upd ht
  have hp1 := s1 _ _ hp
  have pr1 : Paired (WAt (upd H t (.tup [.ty "list", .ty "tuple"]))) ps ws := Paired.mapP prs fun _ _ z => (Same.keep0 (K := K) s1).w z
  refine ⟨_, rfl, _, _, rfl, .inr ⟨_, SqT.of hp1, rfl⟩, _, _, rfl, rfl, _, rfl, iteDN (by show ¬ (((ps.map V.ref).length : Nat) : Int) > 3; rw [List.length_map]; omega) ?_⟩
  refine ⟨_, rfl, _, rfl, ⟨_, SqT.of hp1⟩, fun D hD => ?_⟩
  refine lcF (walk_tup (K := K)) hD (small (by rw [List.length_map]; omega)) (fun k => ws[k]?.map fun _ => V.bl true) (fun H2 s2 => SqT.of (s2 _ _ hp1)) (fun k y H2 H3 No Ye hk s2 y1 no ye => ?_) fun H2 s2 h2 => ?_
  · obtain ⟨rfl, ey⟩ := y1
    obtain ⟨wk, ek, pa, rfl, vw, ew, tw⟩ := paired_get (paired_map V.ref pr1) ey
    have ew2 := s2 _ _ ew
    refine ⟨rfl, ty ⟨_, rfl, _, _, _, _, _, rfl, .ty _, .base (.tup ew2), kk_tuple_tuple, _, rfl, iteT ?_⟩⟩
    refine ⟨_, rfl, _, _, rfl, .inr ⟨_, SqT.of ew2, rfl⟩, rfl, _, rfl, iteD rfl ?_⟩
    exact ⟨_, rfl, _, _, _, _, rfl, rfl, SqT.of ew2, at0, _, rfl, nm wk (List.mem_of_getElem? ek), fun H4 s4 => ye _ (by rw [ek]; rfl) _ s4⟩
  rw [List.length_map, Paired.length prs, show (List.range ws.length).filterMap (fun k => ws[k]?.map fun _ => V.bl true) = (ws.map fun _ => true).map V.bl by rw [fm_map, List.map_map]; rfl] at h2
  refine ⟨_, _, rfl, SqL.of h2, _, rfl, if_off (b := !((ws.map fun _ => true).all id)) (by rw [show (ws.map fun _ => true).all id = true by rw [List.all_map, List.all_eq_true]; exact fun _ _ => rfl]; rfl) ?_⟩
  have hp2 := s2 _ _ hp1
  have pr2 : Paired (WAt H2) ps ws := Paired.mapP pr1 fun _ _ z => (Same.keep0 (K := K) s2).w z
  refine ⟨_, rfl, _, rfl, ⟨_, SqT.of hp2⟩, fun D2 hD2 => ?_⟩
  refine lcF (walk_tup (K := K)) hD2 (small (by rw [List.length_map]; omega)) (fun k => ws[k]?.map fun w => V.str w.1) (fun H3 s3 => SqT.of (s3 _ _ hp2)) (fun k y H3 H4 No Ye hk s3 y1 no ye => ?_) fun H3 s3 h3 => ?_
  · obtain ⟨rfl, ey⟩ := y1
    obtain ⟨wk, ek, pa, rfl, vw, ew, tw⟩ := paired_get (paired_map V.ref pr2) ey
    exact ⟨rfl, ty ⟨_, rfl, _, _, _, _, rfl, rfl, SqT.of (s3 _ _ ew), at0, ye _ (by rw [ek]; rfl) _ (Same.refl _)⟩⟩
  rw [List.length_map, Paired.length prs, fm_map] at h3
  have s03 := (s1.trans s2).trans s3
  refine ⟨_, rfl, D2, _, rfl, SqL.of h3, fun D3 hD3 => ?_⟩
  refine lcF (walk_enum (K := K)) hD3 (small (by rw [List.length_map]; omega)) (fun k => (ws.map fun w => V.str w.1)[k]?.map fun _ => V.bl true) (fun H4 s4 => SqL.of (s4 _ _ h3)) (fun k y H4 H5 No Ye hk s4 y1 no ye => ?_) fun H4 s4 h4 => ?_
  · obtain ⟨t5, x, z, rfl, h5, rfl, e1, e2⟩ := y1
    cases e1
    have k0 : k = 0 := by
      rw [List.length_map] at hk
      omega
    subst k0
    have z5 : upd H4 t5 (.tup [.int ((0 : Nat) : Int), z]) D2 = some (.lst (ws.map fun w => V.str w.1)) := by
      rw [upd_ne (ne_of_none (s4 _ _ h3) h5)]
      exact s4 _ _ h3
    have e2 : (ws.map fun w => V.str w.1)[0]? = some z := e2
    have fz : ∃ s, z = .str s := by
      rw [List.getElem?_map] at e2
      cases q : ws[0]? with
      | none => rw [q] at e2; cases e2
      | some w => rw [q] at e2; exact ⟨_, (Option.some.inj e2).symm⟩
    obtain ⟨s, rfl⟩ := fz
    refine ⟨_, _, rfl, SqT.of upd_same, rfl, _, _, rfl, _, _, rfl, rfl, rfl, ty ⟨_, rfl, _, rfl, _, rfl, _, rfl, _, _, rfl, SqL.of z5, fun p hp => ?_⟩⟩
    have ec : cutV (ws.map fun w => V.str w.1) none (some ((0 : Nat) : Int)) = [] := by
      match ws, l1 with
      | [], _ => rfl
      | [w], _ => rfl
    rw [ec]
    exact ⟨_, _, rfl, .inl (SqL.of upd_same), rfl, rfl, ye _ (by rw [e2]; rfl) _ ((same_upd h5).trans (same_upd hp))⟩
  · rw [List.length_map, show (List.range ws.length).filterMap (fun k => (ws.map fun w => V.str w.1)[k]?.map fun _ => V.bl true) = (ws.map fun _ => true).map V.bl by
      have z := fm_map (ws.map fun w => V.str w.1) (fun _ => V.bl true)
      rw [List.length_map] at z
      rw [z, List.map_map, List.map_map]
      rfl] at h4
    refine ⟨_, _, rfl, SqL.of h4, ?_⟩
    rw [show (ws.map fun _ => true).all id = true by rw [List.all_map, List.all_eq_true]; exact fun _ _ => rfl]
    exact q _ (s03.trans s4)
def spParts (K : PySem.W.Frag) : Sp := fun vs H Q _ => ∃ a f, vs = [.ref a] ∧ FnAt K H a f ∧ f.writes.length ≤ 1 ∧ ∀ H' p ys, Same H H' → H' p = some (.lst ys) → Paired (TmAt H') ys (f.result :: f.writes.map (·.2)) → Q (.ref p) H'
theorem M_Function_parts (T : TX K mg) : Met P w K mg base 1 (He.ga K "Function") "parts" (spParts K) [] := by
  obtain ⟨fd, F⟩ := T.d_Function_parts
  refine metD (He.ga K "Function") "parts" F T.cls_Function T.me_Function_parts (b_Function_parts F) .nil S_Function_parts (fun vs H Q E h => ?_) (fun cdv A outer s H vs Q E hr h => ?_)
  · obtain ⟨a, f, rfl, ⟨dx, l, r, w, ea, tr, p, ps, rfl, ep, prs⟩, l1, q⟩ := h
    rfl
  obtain ⟨a, f, rfl, ⟨dx, l, r, w, ea, tr, p, ps, rfl, ep, prs⟩, l1, q⟩ := h
  refine ⟨_, (pss_one (ps_ret (pe_lst (pa_cons (pe_fld (pv 0) rfl) (StX.pa_star (pe_lc (own := [("row", 1)]) (by rfl) S_Function_parts.nd  (pi_tup (pe_fld (pv 0) rfl)) (blkOk_by (own := [("row", 1)]) (N := N_Function_parts) (sc := d_Function_parts.scope) (by decide +kernel)) (fun _ _ _ _ _ => (pg_name (i := 1) S_Function_parts.nd rfl (Or.inl rfl))) (fun _ _ _ _ _ => pts_nil) (fun _ _ _ _ _ => (pe_ix (ix_tup' K rfl) (pv 1) pe_int (fun _ _ => rfl)))) pa_nil))))), ?_⟩
  refine ⟨_, rfl, _, _, _, _, _, rfl, ea, T.cls_Function, T.at_Function_result, rfl, ?_⟩
  refine ⟨_, rfl, _, _, _, _, _, rfl, ea, T.cls_Function, T.at_Function_writes, rfl, p, rfl, ⟨_, SqT.of ep⟩, fun D hD => ?_⟩
  refine lcR (K := K) (walk_tup (K := K)) hD (small (by rw [List.length_map, Paired.length prs]; omega)) TmAt (fun _ _ _ _ k h => k.tm h) (fun k => f.writes[k]?.map (·.2)) (fun H2 s2 => SqT.of (s2 _ _ ep)) (fun k y H2 H3 No Ye hk s2 y1 no ye => ?_) fun H2 ys s2 h2 r2 => ?_
  · obtain ⟨rfl, ey⟩ := y1
    obtain ⟨wk, ek, pa, rfl, vw, ew, tw⟩ := paired_get (paired_map V.ref prs) ey
    exact ⟨rfl, ty ⟨_, rfl, _, _, _, _, rfl, rfl, SqT.of (s2 _ _ ew), at1, ye wk.2 (by rw [ek]; rfl) _ _ (Same.refl _) ((Same.keep0 (K := K) s2).tm tw)⟩⟩
  · rw [List.length_map, Paired.length prs, fm_map] at r2
    refine ⟨D, ys, rfl, .inr (SqL.of h2), ?_⟩
    have ly : ys.length ≤ 1 := by
      rw [Paired.length r2, List.length_map]
      exact l1
    refine ⟨small (by rw [List.append_nil, List.length_cons]; omega), fun p2 hp2 => ?_⟩
    refine q _ p2 (r :: (ys ++ [])) (s2.trans (same_upd hp2)) upd_same ?_
    rw [List.append_nil]
    exact .cons (Same.tm (s2.trans (same_upd hp2)) tr) (Same.tms (same_upd hp2) r2)
def spFunction (K : PySem.W.Frag) : Sp := fun vs H Q _ => ∃ a dx f vr vw fs cells H0, vs = [.ref a, .str f.name, .int (f.many : Nat), vr, .str f.label, vw, .int f.cost] ∧ H a = some (.ins (He.ga K "Function") dx []) ∧ Same H0 H ∧ H0 a = none ∧ TmAt H0 vr f.result ∧ WsAt H0 vw f.writes ∧ Fv cells fs f ∧
  ∀ H', Same H0 H' → FnAt K H' a f → Q .non H'
theorem F_Function (T : TX K mg) : ∃ f fd, Mk K (He.ga K "Function") f ∧ FnOk P w K mg base CX0 6 f fd P_Function_init (spFunction K) ∧ KBn K fd P_Function_init 4 ["label", "writes", "cost"] (fun us ws => us ++ ws) (fun vs zs => vs ++ zs) := by
  have C_are_writes : Cal P w K mg base 3 "are_writes" spWrites [] := SC.C_are_writes T
  have C_is_between : Cal P w K mg base 2 "is_between" spIsBetween [] := SC.C_is_between T
  have C_is_name : Cal P w K mg base 1 "is_name" spIsName [] := SC.C_is_name T
  have C_is_term : Cal P w K mg base 5 "is_term" spTerm [] := SC.C_is_term T
  have C_made_label : Cal P w K mg base 4 "made_label" spMade [] := SC.C_made_label T
  obtain ⟨fd, F⟩ := T.d_Function_init
  obtain ⟨mv, bi⟩ := b_Function_init F
  refine ⟨_, fd, T.mk_Function, F.ok S_Function_init (fun vs H Q E h => ?_) (fun cdv A outer s H vs Q E hr h => ?_), bi⟩
  · obtain ⟨a, dx, f, vr, vw, fs, cells, H0, rfl, e, s0, a0, tr, ws, fv, q⟩ := h
    rfl
  obtain ⟨a, dx, f, vr, vw, fs, cells, H0, rfl, e, s0, a0, tr, ws, fv, q⟩ := h
  suffices h2 : ∃ t, PSs (cxOf CX0 P w K mg base N_Function_init d_Function_init.qual d_Function_init.scope (He.fAd K d_Function_init.at_) cdv A outer s H E).nox d_Function_init.body t ∧ t { nx := fun _ H' => Q .non H', rt := Q } (L2.start N_Function_init _) H from
    let ⟨t, h, q⟩ := h2
    ⟨t, h.nox, q⟩
  refine ⟨_, (pss_cons (ps_if (pt_not (pt_val (pe_c C_is_name hr (by decide) rfl (pa_cons (pv 1) pa_nil)))) (pss_one ps_never) pss_nil)
  (pss_cons (ps_if (pt_not (pt_val (pe_c C_is_between hr (by decide) rfl (pa_cons (pv 2) (pa_cons pe_int (pa_cons (pe_gc rfl T.k_MOST_ARGUMENTS) pa_nil)))))) (pss_one ps_never) pss_nil)
  (pss_cons (ps_fld (pv 0) (pe_c C_made_label hr (by decide) rfl (pa_cons (pv 4) pa_nil)) rfl)
  (pss_cons (ps_if (pt_not (pt_val (pe_c C_is_term hr (by decide) rfl (pa_cons (pv 3) (pa_cons (pv 2) pa_nil))))) (pss_one ps_never) pss_nil)
  (pss_cons (ps_if (pt_not (pt_val (pe_c C_are_writes hr (by decide) rfl (pa_cons (pv 5) pa_nil)))) (pss_one ps_never) pss_nil)
  (pss_cons (ps_for PassesOwn.never rfl (pi_tup (pv 5)) (pg_name (i := 7) S_Function_init.nd rfl (Or.inl rfl))
    (pss_one (ps_if (pt_not (pt_val (pe_c C_is_term hr (by decide) rfl (pa_cons (pe_ix ix_tup (pv 7) pe_int (fun _ _ => rfl)) (pa_cons (pv 2) pa_nil))))) (pss_one ps_never) pss_nil)))
  (pss_cons (ps_if (pt_not (pt_val (pe_c C_is_between hr (by decide) rfl (pa_cons (pv 6) (pa_cons pe_int (pa_cons (pe_gc rfl T.k_MOST_COST) pa_nil)))))) (pss_one ps_never) pss_nil)
  (pss_cons (ps_fld (pv 0) (pv 1) rfl)
  (pss_cons (ps_fld (pv 0) (pv 2) rfl)
  (pss_cons (ps_fld (pv 0) (pv 3) rfl)
  (pss_cons (ps_fld (pv 0) (pe_callTy call_tuple_of (by rfl) T.f_tuple v_tuple (pa_cons (pv 5) pa_nil)) rfl)
  (pss_one (ps_fld (pv 0) (pv 6) rfl))))))))))))), ?_⟩
  have sj : ∀ H', But a H H' → Same H0 H' := fun H' b => But.same b s0 a0
  refine ⟨_, rfl, _, rfl, fv.nm, fun H1 s1 => ⟨_, rfl, iteF ?_⟩⟩
  refine ⟨_, rfl, _, _, _, rfl, .inl ⟨_, rfl, _, rfl, if_off (b := !decide ((0 : Int) ≤ (f.many : Nat) ∧ ((f.many : Nat) : Int) ≤ 2)) (by rw [decide_eq_true (show (0 : Int) ≤ (f.many : Nat) ∧ ((f.many : Nat) : Int) ≤ 2 by have := fv.many; omega)]; rfl) ?_⟩⟩
  refine ⟨_, rfl, _, rfl, fv.lb, fun H2 l s2 => ?_⟩
  have e2 := s2 _ _ (s1 _ _ e)
  refine ⟨_, rfl, a, _, dx, _, rfl, e2, T.cls_Function, T.at_Function_label, by show 0 < 1000; decide, ?_⟩
  have s3 : Same H0 (upd H2 a (.ins (He.ga K "Function") dx (putF "label" (V.ref l) []))) := sj _ (((Same.but s1).trans (Same.but s2)).trans But.upd)
  have e3 : upd H2 a (.ins (He.ga K "Function") dx (putF "label" (V.ref l) [])) a = some (.ins (He.ga K "Function") dx [("label", V.ref l)]) := upd_same
  refine ⟨_, rfl, _, rfl, vr, f.result, f.many, fs, cells.map (·.1), rfl, Same.tm s3 tr, fv.res, fun H4 s4 => ⟨_, rfl, iteF ?_⟩⟩
  refine ⟨_, rfl, vw, f.writes, rfl, Same.ws s4 (Same.ws s3 ws), fv.wlen, fun w hw => (fv.wr w hw).2.1, fun H5 s5 => ⟨_, rfl, iteF ?_⟩⟩
  have s35 := s4.trans s5
  obtain ⟨p, ps, rfl, ep, prs⟩ := Same.ws s35 (Same.ws s3 ws)
  refine ⟨_, rfl, p, rfl, ⟨_, SqT.of ep⟩, ?_⟩
  refine for_it (walk_tup (xs := ps.map V.ref)) (fun i σ H6 => Same H5 H6 ∧ ∃ z, σ = [some (.ref a), some (.str f.name), some (.int (f.many : Nat)), some vr, some (.str f.label), some (.ref p), some (.int f.cost), z]) ⟨Same.refl _, _, rfl⟩ (fun i σ H6 _ p => SqT.of (p.1 _ _ ep)) (fun i y σ H6 H7 hi p y1 => ?_) fun σ H6 p => ?_
  · obtain ⟨s6, z, rfl⟩ := p
    obtain ⟨rfl, ey⟩ := y1
    obtain ⟨wk, ek, pa, rfl, vk, ew, tw⟩ := paired_get (paired_map V.ref prs) ey
    exact ⟨_, rfl, _, _, _, _, rfl, rfl, SqT.of (s6 _ _ ew), at1, _, rfl, vk, wk.2, f.many, fs, cells.map (·.1), rfl, Same.tm s6 tw, (fv.wr wk (List.mem_of_getElem? ek)).2.2, fun H8 s8 => ⟨_, rfl, iteF ⟨s6.trans s8, _, rfl⟩⟩⟩
  · obtain ⟨s6, z, rfl⟩ := p
    have e6 := s6 _ _ (s35 _ _ e3)
    refine ⟨_, rfl, _, _, _, rfl, .inl ⟨_, rfl, _, rfl, if_off (b := !decide ((0 : Int) ≤ f.cost ∧ f.cost ≤ 99)) (by rw [decide_eq_true (show (0 : Int) ≤ f.cost ∧ f.cost ≤ 99 by have := fv.c0; have := fv.c9; omega)]; rfl) ?_⟩⟩
    refine ⟨_, rfl, _, rfl, a, _, dx, _, rfl, e6, T.cls_Function, T.at_Function_name, by show 1 < 1000; decide, ?_⟩
    refine ⟨_, rfl, _, rfl, a, _, dx, _, rfl, upd_same, T.cls_Function, T.at_Function_arguments, by show 2 < 1000; decide, ?_⟩
    refine ⟨_, rfl, _, rfl, a, _, dx, _, rfl, upd_same, T.cls_Function, T.at_Function_result, by show 3 < 1000; decide, ?_⟩
    have np : p ≠ a := ne_of ep (s35 _ _ e3) (by intro z; cases z)
    refine ⟨_, rfl, p, ps.map V.ref, rfl, .inr ⟨SqT.of (by rw [upd_ne np, upd_ne np, upd_ne np]; exact s6 _ _ ep), ?_⟩⟩
    refine ⟨_, rfl, a, _, dx, _, rfl, upd_same, T.cls_Function, T.at_Function_writes, by show 4 < 1000; decide, ?_⟩
    refine ⟨_, rfl, _, rfl, a, _, dx, _, rfl, upd_same, T.cls_Function, T.at_Function_cost, by show 5 < 1000; decide, ?_⟩
    have b6 : ∀ H', But a H6 H' → Same H0 H' := fun H' b => sj _ (((((Same.but s1).trans (Same.but s2)).trans But.upd).trans (Same.but (s35.trans s6))).trans b)
    have fin : ∀ H', Same H0 H' → H' a = some (.ins (He.ga K "Function") dx (ff (V.ref l) f vr (V.ref p))) → Q .non H' := fun H' sf ha => q H' sf ⟨dx, _, vr, _, ha, Same.tm sf tr, Same.ws sf ws⟩
    refine fin _ (b6 _ ?_) upd_same
    exact (((But.upd.trans But.upd).trans But.upd).trans But.upd).trans But.upd
end
end SC

set_option Elab.async false
set_option linter.all false
set_option maxRecDepth 100000
set_option maxHeartbeats 4000000
namespace SC
open PySem PySem.Spec PyProof.Rows L2
open C8 (Cal Met Mak pe_c pe_mk pe_mt pe_mt0 pe_gc InsC)
open C8 (call_isC)
/-! ### books -/
theorem valV_none {kvs : List (Key × V)} {k : Key} (h : ∀ kv ∈ kvs, kv.1 ≠ k) : valV kvs k = none := by
  induction kvs with
  | nil => rfl
  | cons p r ih => rw [valV_neg (h p List.mem_cons_self), ih fun kv hk => h kv (List.mem_cons_of_mem _ hk)]
theorem putK_new {kvs : List (Key × V)} {k : Key} {v : V} (h : ∀ kv ∈ kvs, kv.1 ≠ k) : putK kvs k v = kvs ++ [(k, v)] := by
  unfold putK
  rw [valV_any, valV_none h]
  rfl
theorem mergeK_new : ∀ (more kvs : List (Key × V)), (more.map (·.1)).Nodup → (∀ kv ∈ more, ∀ kw ∈ kvs, kw.1 ≠ kv.1) → mergeK kvs more = kvs ++ more
  | [], kvs, _, _ => (List.append_nil _).symm
  | p :: r, kvs, h, h2 => by
    show mergeK (putK kvs p.1 p.2) r = _
    rw [List.map_cons, List.nodup_cons] at h
    rw [putK_new (h2 p List.mem_cons_self), mergeK_new r _ h.2 (fun kv hk kw hw => ?_), List.append_assoc]
    · rfl
    · rcases List.mem_append.mp hw with hw | hw
      · exact h2 kv (List.mem_cons_of_mem _ hk) kw hw
      · rw [List.mem_singleton] at hw
        intro e
        exact h.1 (List.mem_map.mpr ⟨kv, hk, by rw [← e, hw]⟩)
theorem paired_mem {α β : Type} {R : α → β → Prop} {xs : List α} {ys : List β} (h : Paired R xs ys) {x : α} (hx : x ∈ xs) : ∃ y ∈ ys, R x y := by
  obtain ⟨i, hi, e⟩ := List.getElem_of_mem hx
  obtain ⟨y, hy, r⟩ := paired_get h (i := i) (x := x) (by rw [List.getElem?_eq_getElem hi, e])
  exact ⟨y, List.mem_of_getElem? hy, r⟩
abbrev ckv (l : List (Str × Str)) (v : Str × Str → V) : List (Key × V) := l.map fun c => (Sum.inr c.1, v c)
theorem ckv_ne {l : List (Str × Str)} {v : Str × Str → V} {x : Str} (h : x ∉ l.map (·.1)) : ∀ kv ∈ ckv l v, kv.1 ≠ Sum.inr x := fun kv hk e => by
  obtain ⟨c, hc, rfl⟩ := List.mem_map.mp hk
  exact h (List.mem_map.mpr ⟨c, hc, Sum.inr.inj e⟩)
theorem nodup_inr : ∀ {xs : List Str}, xs.Nodup → (xs.map (Sum.inr : Str → Key)).Nodup
  | [], _ => List.nodup_nil
  | x :: r, h => by
    rw [List.nodup_cons] at h
    rw [List.map_cons, List.nodup_cons]
    refine ⟨fun hm => ?_, nodup_inr h.2⟩
    obtain ⟨y, hy, e⟩ := List.mem_map.mp hm
    exact h.1 (Sum.inr.inj e ▸ hy)
theorem ckv_nodup {l : List (Str × Str)} {v : Str × Str → V} (h : (l.map (·.1)).Nodup) : ((ckv l v).map (·.1)).Nodup := by
  rw [List.map_map]
  have e : l.map ((fun kv : Key × V => kv.1) ∘ fun c => (Sum.inr c.1, v c)) = (l.map (·.1)).map (Sum.inr : Str → Key) := by
    rw [List.map_map]
    rfl
  rw [e]
  exact nodup_inr h
theorem ckv_get {l : List (Str × Str)} {v : Str × Str → V} (h : (l.map (·.1)).Nodup) {c : Str × Str} (hc : c ∈ l) : valV (ckv l v) (Sum.inr c.1) = some (v c) := by
  induction l with
  | nil => cases hc
  | cons p r ih =>
    rw [List.map_cons, List.nodup_cons] at h
    show valV ((Sum.inr p.1, v p) :: ckv r v) _ = _
    rcases List.mem_cons.mp hc with rfl | hc
    · exact valV_pos rfl
    · rw [valV_neg (fun e => h.1 (List.mem_map.mpr ⟨c, hc, (Sum.inr.inj e).symm⟩))]
      exact ih h.2 hc
theorem take_nodup_new {l : List (Str × Str)} (h : (l.map (·.1)).Nodup) {i : Nat} {c : Str × Str} (hc : l[i]? = some c) : c.1 ∉ (l.take i).map (·.1) := by
  intro hm
  obtain ⟨d, hd, e⟩ := List.mem_map.mp hm
  obtain ⟨j, hj, ej⟩ := mem_take_at hd
  rw [List.nodup_iff_pairwise_ne, List.pairwise_iff_getElem] at h
  obtain ⟨h1, h2⟩ := List.getElem?_eq_some_iff.mp hc
  obtain ⟨h3, h4⟩ := List.getElem?_eq_some_iff.mp ej
  refine h j i (by rw [List.length_map]; exact h3) (by rw [List.length_map]; exact h1) hj ?_
  rw [List.getElem_map, List.getElem_map, h2, h4]
  exact e
theorem take_snoc {α : Type} {l : List α} {i : Nat} {c : α} (h : l[i]? = some c) : l.take (i + 1) = l.take i ++ [c] := by
  rw [List.take_add_one, h]
  rfl
section
variable {P : Program} {w : World} {K : PySem.W.Frag} {mg : Str → Option Value} {base : Heap}
def spCCells (K : PySem.W.Frag) : Sp := fun vs H Q _ => ∃ p cs l, vs = [.ref p] ∧ H p = some (.lst (cs.map V.ref)) ∧ CellsAt K H cs l ∧ (l.map (·.1)).Nodup ∧ l.length ≤ 3 ∧ ∀ H' r, Same H H' → H' r = some (.tup (cs.map V.ref)) → Q (.ref r) H'
theorem C_checked_cells (T : TX K mg) : Cal P w K mg base 1 "checked_cells" (spCCells K) [] := by
  obtain ⟨fd, F⟩ := T.d_checked_cells
  refine calD "checked_cells" F T.g_checked_cells (b_checked_cells F) .nil S_checked_cells (fun vs H Q E h => ?_) (fun cdv A outer s H vs Q E hr h => ?_)
  · obtain ⟨p, cs, l, rfl, hp, hc, nd, l3, q⟩ := h
    rfl
  obtain ⟨p, cs, l, rfl, hp, hc, nd, l3, q⟩ := h
  refine ⟨_, (pss_cons (ps_if (pt_not (pt_val (pe_callB call_isiT (by rfl) T.f_isinstance v_isinstance (pa_cons (pv 0) (pa_cons (pe_tup (pa_cons (pe_bltn (v := .ty "list") (u := .type "list") (by rfl) T.f_list v_list rfl) (pa_cons (pe_bltn (v := .ty "tuple") (u := .type "tuple") (by rfl) T.f_tuple v_tuple rfl) pa_nil))) pa_nil))))) (pss_one ps_never) pss_nil)
  (pss_cons (ps_set (i := 1) S_checked_cells.nd rfl (Or.inl rfl) pe_dnewK)
  (pss_cons (ps_for PassesOwn.never rfl (pi_enum (by rfl) T.f_enumerate (pa_cons (pv 0) pa_nil)) (pg_tup (by rfl) (pgs_cons (pg_name (i := 2) S_checked_cells.nd rfl (Or.inl rfl)) (pgs_cons (pg_name (i := 3) S_checked_cells.nd rfl (Or.inl rfl)) pgs_nil)))
    (pss_cons (ps_if (PW.pt (pw_or (pt_not (pt_val (pe_callB (call_isC T.i_Cell) (by rfl) T.f_isinstance v_isinstance (pa_cons (pv 3) (pa_cons (pe_glob (v := .ref (He.ga K "Cell")) rfl T.g_Cell rfl) pa_nil))))) (pw_or1 (pt_cmp (pc_din (hu_of hr) (pe_fld (pv 3) rfl) (pv 1)) (by rfl))))) (pss_one ps_never) pss_nil)
  (pss_one (ps_dput (hu_of hr) (pv 1) (pe_fld (pv 3) rfl) pe_bl rfl))))
  (pss_cons (ps_if (pt_cmpR op_gt (pe_callB call_len (by rfl) T.f_len v_len (pa_cons (pv 0) pa_nil)) (pe_gc rfl T.k_MOST_CELLS) (nomark _)) (pss_one ps_never) pss_nil)
  (pss_one (ps_ret (pe_callTy call_tuple_of (by rfl) T.f_tuple v_tuple (pa_cons (pv 0) pa_nil)))))))), ?_⟩
  have lc : cs.length ≤ 3 := by rw [Paired.length hc]; exact l3
  refine ⟨_, rfl, (by show 2 ≤ sizeLine; decide), fun t ht => ?_⟩
  refine ⟨_, t, _, _, _, _, rfl, upd_same, cls_lt, .base (.lst (by rw [upd_ne (ne_of_none hp ht)]; exact hp)), kk_list_lt, _, rfl, iteF ?_⟩
  have s1 : Same H (upd H t (.tup [.ty "list", .ty "tuple"])) := same_upd ht
  refine fun k hk => ?_
  have s2 := s1.trans (same_upd (o := .dK []) hk)
  have hHk : H k = none := by
    cases z : H k with
    | none => rfl
    | some o => rw [s1 _ _ z] at hk; cases hk
  refine ⟨_, rfl, p, _, rfl, SqL.of (s2 _ _ hp), ?_⟩
  refine for_it (walk_enum (K := K) (xs := cs.map V.ref)) (fun i σ H1 => Same H H1 ∧ H1 k = some (.dK (ckv (l.take i) fun _ => .bl true)) ∧ ∃ x y, σ = [some (.ref p), some (.ref k), x, y]) ⟨s2, by rw [upd_same]; rfl, _, _, rfl⟩ (fun i σ H1 _ p => SqL.of (p.1 _ _ hp)) (fun i v σ H1 H2 hi pv y1 => ?_) fun σ H1 pv => ?_
  · obtain ⟨s3, h3, x, y, rfl⟩ := pv
    obtain ⟨t5, vi, z, rfl, h5, rfl, e1, e2⟩ := y1
    have s5 := same_upd (o := .tup [vi, z]) h5
    obtain ⟨c, ec, a, rfl, hca⟩ := paired_get (paired_map V.ref hc) e2
    obtain ⟨dx, ea⟩ := (Same.keep0 (K := K) (s3.trans s5)).cell hca
    have nw := take_nodup_new nd ec
    have h3' := s5 _ _ h3
    have dg := DGet.k (k := Sum.inr c.1) h3'
    rw [valV_none (ckv_ne nw)] at dg
    refine ⟨_, _, rfl, SqT.of upd_same, rfl, _, _, rfl, _, _, rfl, rfl, ?_⟩
    refine ⟨_, rfl, a, dx, _, rfl, ea, _, rfl, iteF ?_⟩
    refine ⟨_, rfl, _, _, _, _, _, rfl, ea, T.cls_Cell, T.at_Cell_name, rfl, _, rfl, _, _, rfl, dg, _, rfl, iteF ?_⟩
    refine ⟨_, rfl, _, rfl, _, _, _, _, _, rfl, ea, T.cls_Cell, T.at_Cell_name, rfl, k, _, rfl, DPut.k (k := Sum.inr c.1) h3' (small' (by rw [List.length_map, List.length_take]; omega)), ?_⟩
    refine ⟨Same.of_upd (s3.trans s5) hHk, ?_, _, _, rfl⟩
    rw [upd_same, putK_new (ckv_ne nw), take_snoc ec, ckv, ckv, List.map_append]
    rfl
  · obtain ⟨s3, h3, x, y, rfl⟩ := pv
    have hp3 := s3 _ _ hp
    refine ⟨_, rfl, _, _, rfl, .inl ⟨_, SqL.of hp3, rfl⟩, _, _, rfl, rfl, _, rfl, iteDN (by show ¬ (((cs.map V.ref).length : Nat) : Int) > 6; rw [List.length_map]; omega) ?_⟩
    exact ⟨_, rfl, _, _, rfl, .inl ⟨SqL.of hp3, fun r hr => q _ r (s3.trans (same_upd hr)) upd_same⟩⟩
def spNms (K : PySem.W.Frag) : Sp := fun vs H Q _ => ∃ b B, vs = [.ref b] ∧ BkAt K H b B ∧ B.fns.length ≤ 3 ∧ ∀ H' p, Same H H' → H' p = some (.lst (B.fns.map fun f => V.str f.name)) → Q (.ref p) H'
theorem M_Book_names (T : TX K mg) : Met P w K mg base 1 (He.ga K "Book") "names" (spNms K) [] := by
  obtain ⟨fd, F⟩ := T.d_Book_names
  refine metD (He.ga K "Book") "names" F T.cls_Book T.me_Book_names (b_Book_names F) .nil S_Book_names (fun vs H Q E h => ?_) (fun cdv A outer s H vs Q E hr h => ?_)
  · obtain ⟨b, B, rfl, ⟨dx, p, r, cs, fs, e, ep, er, hc, hf⟩, l3, q⟩ := h
    rfl
  obtain ⟨b, B, rfl, ⟨dx, p, r, cs, fs, e, ep, er, hc, hf⟩, l3, q⟩ := h
  refine ⟨_, (pss_one (ps_ret (pe_lc (own := [("function", 1)]) (by rfl) S_Book_names.nd  (pi_tup (pe_fld (pv 0) rfl)) (blkOk_by (own := [("function", 1)]) (N := N_Book_names) (sc := d_Book_names.scope) (by decide +kernel)) (fun _ _ _ _ _ => (pg_name (i := 1) S_Book_names.nd rfl (Or.inl rfl))) (fun _ _ _ _ _ => pts_nil) (fun _ _ _ _ _ => (pe_fld' K rfl (pv 1) rfl))))), ?_⟩
  refine ⟨_, rfl, _, _, _, _, _, rfl, e, T.cls_Book, T.at_Book_row, rfl, r, rfl, ⟨_, SqT.of er⟩, fun D hD => ?_⟩
  refine lcF (walk_tup (K := K)) hD (small (by rw [List.length_map, Paired.length hf]; omega)) (fun k => B.fns[k]?.map fun f => V.str f.name) (fun H2 s2 => SqT.of (s2 _ _ er)) (fun k y H2 H3 No Ye hk s2 y1 no ye => ?_) fun H2 s2 h2 => ?_
  · obtain ⟨rfl, ey⟩ := y1
    obtain ⟨f, ef, a, rfl, hfa⟩ := paired_get (paired_map V.ref hf) ey
    obtain ⟨dx2, l, r2, w, ea, _, _⟩ := (Same.keep0 (K := K) s2).fn hfa
    exact ⟨rfl, ty ⟨_, rfl, _, _, _, _, _, rfl, ea, T.cls_Function, T.at_Function_name, rfl, ye _ (by rw [ef]; rfl) _ (Same.refl _)⟩⟩
  · rw [List.length_map, Paired.length hf, fm_map] at h2
    exact q _ D s2 h2
def spBkEq (K : PySem.W.Frag) : Sp := fun vs H Q _ => ∃ b B, vs = [.ref b, .ref b] ∧ BkAt K H b B ∧ Q (.bl true) H
theorem M_Book_eq (T : TX K mg) : Met P w K mg base 1 (He.ga K "Book") "__eq__" (spBkEq K) [] := by
  obtain ⟨fd, F⟩ := T.d_Book_eq
  refine metD (He.ga K "Book") "__eq__" F T.cls_Book T.me_Book_eq (b_Book_eq F) .nil S_Book_eq (fun vs H Q E h => ?_) (fun cdv A outer s H vs Q E hr h => ?_)
  · obtain ⟨b, B, rfl, ⟨dx, p, r, cs, fs, e, ep, er, hc, hf⟩, q⟩ := h
    rfl
  obtain ⟨b, B, rfl, ⟨dx, p, r, cs, fs, e, ep, er, hc, hf⟩, q⟩ := h
  refine ⟨_, (pss_one (ps_ret (pe_and (pe_callB (call_isC T.i_Book) (by rfl) T.f_isinstance v_isinstance (pa_cons (pv 1) (pa_cons (pe_glob (v := .ref (He.ga K "Book")) rfl T.g_Book rfl) pa_nil))) (pe_and (pe_cmpR (op_eqSelf (Nat.lt_of_succ_lt (hu_of hr))) (pe_fld (pv 0) rfl) (pe_fld (pv 1) rfl) (nomark _)) (pe_one (pe_cmpR (op_eqSelf (Nat.lt_of_succ_lt (hu_of hr))) (pe_fld (pv 0) rfl) (pe_fld (pv 1) rfl) (nomark _))))))), ?_⟩
  have hm : ∀ l : List Addr, ∀ v ∈ l.map V.ref, ∃ b, v = .ref b := fun l v hv => let ⟨a, _, e⟩ := List.mem_map.mp hv; ⟨a, e.symm⟩
  refine ⟨_, rfl, b, dx, _, rfl, e, _, rfl, iteT ?_⟩
  refine ⟨_, rfl, _, _, _, _, _, rfl, e, T.cls_Book, T.at_Book_cell_row, rfl, _, rfl, _, _, _, _, _, rfl, e, T.cls_Book, T.at_Book_cell_row, rfl, _, _, rfl, rfl, SqT.of ep, hm cs, _, rfl, iteT ?_⟩
  exact ⟨_, rfl, _, _, _, _, _, rfl, e, T.cls_Book, T.at_Book_row, rfl, _, rfl, _, _, _, _, _, rfl, e, T.cls_Book, T.at_Book_row, rfl, _, _, rfl, rfl, SqT.of er, hm fs, q⟩
end
end SC

set_option Elab.async false
set_option linter.all false
set_option maxRecDepth 100000
set_option maxHeartbeats 4000000
namespace SC
open PySem PySem.Spec PyProof.Rows L2
open C8 (Cal Met Mak pe_c pe_mk pe_mt pe_mt0 pe_gc InsC)
open C8 (call_isC)
/-- a book's functions by their names -/
def fkv (as : List Addr) (fs : List Fn) : List (Key × V) := List.zipWith (fun a f => ((Sum.inr f.name : Key), V.ref a)) as fs
theorem fkv_ne {as : List Addr} {fs : List Fn} {x : Str} (h : x ∉ fs.map (·.name)) : ∀ kv ∈ fkv as fs, kv.1 ≠ Sum.inr x := by
  induction fs generalizing as with
  | nil => intro kv hk; rw [fkv, List.zipWith_nil_right] at hk; cases hk
  | cons f r ih =>
    cases as with
    | nil => intro kv hk; cases hk
    | cons a as =>
      intro kv hk e
      rw [fkv, List.zipWith_cons_cons] at hk
      rw [List.map_cons, List.mem_cons, not_or] at h
      rcases List.mem_cons.mp hk with rfl | hk
      · exact h.1 (Sum.inr.inj e).symm
      · exact ih h.2 kv hk e
theorem fkv_get {R : Addr → Fn → Prop} {as : List Addr} {fs : List Fn} (h : Paired R as fs) (nd : (fs.map (·.name)).Nodup) {g : Fn} (hg : g ∈ fs) : ∃ a, valV (fkv as fs) (Sum.inr g.name) = some (.ref a) ∧ R a g := by
  induction h with
  | nil => cases hg
  | @cons a f as fs r t ih =>
    rw [List.map_cons, List.nodup_cons] at nd
    rw [fkv, List.zipWith_cons_cons]
    rcases List.mem_cons.mp hg with rfl | hg
    · exact ⟨a, valV_pos rfl, r⟩
    · rw [valV_neg (fun e => nd.1 (List.mem_map.mpr ⟨g, hg, (Sum.inr.inj e).symm⟩))]
      exact ih nd.2 hg
theorem parts_v {fs : List Fn} {cs : List Str} {m : Nat} {t : Tm} (h : Tv fs cs m t) : ∀ u ∈ parts t, Tv fs cs m u := fun u hu => by
  rcases List.mem_cons.mp hu with rfl | hu
  · exact h
  · obtain ⟨l, hl, rfl⟩ := List.mem_map.mp hu
    exact (kids_v h).2 l hl
theorem pnm_cell {fs : List Fn} {cs : List Str} {m : Nat} {u : Tm} (h : Tv fs cs m u) {y : Str} (e : pnm "cell" u = some y) : y ∈ cs := by
  cases u with
  | lf l =>
    cases l with
    | cell x =>
      have e : (if ("cell" : Str) = "cell" then some x else none) = some y := e
      rw [if_pos rfl] at e
      cases e
      exact h.1
    | val i => cases e
    | arg i => cases e
    | tick => cases e
  | bin o a b => cases e
  | ite c a b => cases e
  | call f ts =>
    have e : (if ("cell" : Str) = "call" then some f else none) = some y := e
    rw [if_neg (by decide +kernel)] at e
    cases e
theorem pnm_call {u : Tm} (h : ∀ f ts, u ≠ .call f ts) : pnm "call" u = none := by
  cases u with
  | lf l =>
    cases l with
    | cell x =>
      show (if ("call" : Str) = "cell" then some x else none) = none
      exact if_neg (by decide +kernel)
    | val i => rfl
    | arg i => rfl
    | tick => rfl
  | bin o a b => rfl
  | ite c a b => rfl
  | call f ts => exact absurd rfl (h f ts)
section
variable {P : Program} {w : World} {K : PySem.W.Frag} {mg : Str → Option Value} {base : Heap}
def spFits (K : PySem.W.Frag) : Sp := fun vs H Q _ => ∃ fa d kn as f fs cells, ∃ v : Str × Str → V, vs = [.ref fa, .ref d, .ref kn] ∧ FnAt K H fa f ∧ H d = some (.dK (ckv cells v)) ∧ H kn = some (.dK (fkv as fs)) ∧ FnsAt K H as fs ∧ (fs.map (·.name)).Nodup ∧ Fv cells fs f ∧ (cells.map (·.1)).Nodup ∧ (v = fun c => .str c.2) ∧ ∀ H', Same H H' → Q (.bl true) H'
theorem C_fits (T : TX K mg) : Cal P w K mg base 6 "fits" (spFits K) [] := by
  have C_cells_in : Cal P w K mg base 5 "cells_in" (spNames1 "cell") [] := SC.C_cells_in T
  have C_leaves : Cal P w K mg base 3 "leaves" spLeaves [] := SC.C_leaves T
  have M_Function_parts : Met P w K mg base 1 (He.ga K "Function") "parts" (spParts K) [] := SC.M_Function_parts T
  obtain ⟨fd, F⟩ := T.d_fits
  refine calD "fits" F T.g_fits (b_fits F) .nil S_fits (fun vs H Q E h => ?_) (fun cdv A outer s H vs Q E hr h => ?_)
  · obtain ⟨fa, d, kn, as, f, fs, cells, v, rfl, hf, hd, hk, has, nd, fv, cn, ctab, q⟩ := h
    rfl
  obtain ⟨fa, d, kn, as, f, fs, cells, v, rfl, hf, hd, hk, has, nd, fv, cn, ctab, q⟩ := h
  refine ⟨_, (pss_cons (ps_if (PW.pt (pw_or (pt_cmp (pc_din (hu_of hr) (pe_fld (pv 0) rfl) (pv 1)) (by rfl)) (pw_or1 (pt_cmp (pc_din (hu_of hr) (pe_fld (pv 0) rfl) (pv 2)) (by rfl))))) (pss_one (ps_ret pe_bl)) pss_nil)
  (pss_cons (ps_if (pt_val (pe_callB (cr_any rfl) (by rfl) T.f_any v_any (pa_cons (pe_lc (own := [("row", 5)]) (by rfl) S_fits.nd  (pi_tup (pe_fld (pv 0) rfl)) (blkOk_by (own := [("row", 5)]) (N := N_fits) (sc := d_fits.scope) (by decide +kernel)) (fun _ _ _ _ _ => (pg_name (i := 5) S_fits.nd rfl (Or.inl rfl))) (fun _ _ _ _ _ => pts_nil) (fun _ _ _ _ _ => (pe_cmpR op_ne (pe_dget1 (hu_of hr) (pv 1) (pe_ix (ix_tup' K rfl) (pv 5) pe_int (fun _ _ => rfl)) ⟨rfl, rfl, rfl, rfl⟩) pe_str (nomark _)))) pa_nil))) (pss_one (ps_ret pe_bl)) pss_nil)
  (pss_cons (ps_for PassesOwn.never rfl (pi_list (pe_mt0 M_Function_parts hr (by decide) (pv 0))) (pg_name (i := 3) S_fits.nd rfl (Or.inl rfl))
    (pss_cons (ps_if (pt_val (pe_callB (cr_any rfl) (by rfl) T.f_any v_any (pa_cons (pe_lc (own := [("name", 6)]) (by rfl) S_fits.nd  (pi_list (pe_c C_cells_in hr (by decide) rfl (pa_cons (pv 3) pa_nil))) (blkOk_by (own := [("name", 6)]) (N := N_fits) (sc := d_fits.scope) (by decide +kernel)) (fun _ _ _ _ _ => (pg_name (i := 6) S_fits.nd rfl (Or.inl rfl))) (fun _ _ _ _ _ => pts_nil) (fun _ _ _ _ _ => (pe_cmp (pc_dnotin (hu_of hr) (pv 6) (pv 1)) (by rfl)))) pa_nil))) (pss_one (ps_ret pe_bl)) pss_nil)
  (pss_one (ps_for PassesOwn.never rfl (pi_list (pe_c C_leaves hr (by decide) rfl (pa_cons (pv 3) pa_nil))) (pg_name (i := 4) S_fits.nd rfl (Or.inl rfl))
    (pss_one (ps_if (PW.pt (pw_and (pt_val (pe_callB call_isi (by rfl) T.f_isinstance v_isinstance (pa_cons (pv 4) (pa_cons (pe_bltn (v := .ty "tuple") (u := .type "tuple") (by rfl) T.f_tuple v_tuple rfl) pa_nil)))) (pw_and1 (pt_cmpR op_eq (pe_ix ix_tup (pv 4) pe_int (fun _ _ => rfl)) pe_str (nomark _))))) (pss_one (ps_if (PW.pt (pw_or (pt_cmp (pc_dnotin (hu_of hr) (pe_ix ix_tup (pv 4) pe_int (fun _ _ => rfl)) (pv 2)) (by rfl)) (pw_or1 (pt_cmpR op_ne (pe_fld (pe_dget (hu_of hr) (pv 2) (pe_ix ix_tup (pv 4) pe_int (fun _ _ => rfl)) (fun _ _ => rfl)) rfl) (pe_callB call_len (by rfl) T.f_len v_len (pa_cons (pe_ix ix_tup (pv 4) pe_int (fun _ _ => rfl)) pa_nil)) (nomark _))))) (pss_one (ps_ret pe_bl)) pss_nil)) pss_nil))))))
  (pss_one (ps_ret pe_bl))))), ?_⟩
  subst ctab
  obtain ⟨dx, l, r, w, ea, tr, wp, ps, rfl, ewp, prs⟩ := id hf
  have dg1 := DGet.k (k := Sum.inr f.name) hd
  rw [valV_none (ckv_ne fv.new.1)] at dg1
  have dg2 := DGet.k (k := Sum.inr f.name) hk
  rw [valV_none (fkv_ne fv.new.2)] at dg2
  refine ⟨_, rfl, _, _, _, _, _, rfl, ea, T.cls_Function, T.at_Function_name, rfl, _, rfl, _, _, rfl, dg1, _, rfl, iteF ?_⟩
  refine ⟨_, rfl, _, _, _, _, _, rfl, ea, T.cls_Function, T.at_Function_name, rfl, _, rfl, _, _, rfl, dg2, _, rfl, iteF ?_⟩
  refine ⟨_, rfl, _, _, _, _, _, rfl, ea, T.cls_Function, T.at_Function_writes, rfl, wp, rfl, ⟨_, SqT.of ewp⟩, fun D hD => ?_⟩
  refine lcF (walk_tup (K := K)) hD (small (by rw [List.length_map, Paired.length prs]; have := fv.wlen; omega)) (fun k => f.writes[k]?.map fun _ => V.bl false) (fun H2 s2 => SqT.of (s2 _ _ ewp)) (fun k y H2 H3 No Ye hk2 s2 y1 no ye => ?_) fun H2 s2 h2 => ?_
  · obtain ⟨rfl, ey⟩ := y1
    obtain ⟨wk, ek, pa, rfl, vw, ew, tw⟩ := paired_get (paired_map V.ref prs) ey
    obtain ⟨w1, w2, w3⟩ := fv.wr wk (List.mem_of_getElem? ek)
    have dg := DGet.k (k := Sum.inr wk.1) (s2 _ _ hd)
    rw [show valV (ckv cells fun c => V.str c.2) (Sum.inr wk.1) = some (.str "table") from ckv_get cn w1] at dg
    exact ⟨rfl, ty ⟨_, rfl, d, rfl, .inl ⟨_, .inl (s2 _ _ hd)⟩, _, rfl, _, _, _, _, rfl, rfl, SqT.of (s2 _ _ ew), at0, _, dg, rfl, ye _ (by rw [ek]; rfl) _ (Same.refl _)⟩⟩
  rw [List.length_map, Paired.length prs, show (List.range f.writes.length).filterMap (fun k => f.writes[k]?.map fun _ => V.bl false) = (f.writes.map fun _ => false).map V.bl by rw [fm_map, List.map_map]; rfl] at h2
  refine ⟨_, _, rfl, SqL.of h2, _, rfl, if_off (by rw [List.any_map, List.any_eq_false]; exact fun _ _ => Bool.false_ne_true) ?_⟩
  have ea2 := s2 _ _ ea
  refine ⟨_, rfl, fa, dx, _, rfl, ea2, rfl, fa, f, rfl, (Same.keep0 (K := K) s2).fn hf, fv.wlen, fun H3 p ys s3 h3 pr3 => ?_⟩
  have s03 := s2.trans s3
  refine ⟨p, rfl, ⟨_, SqL.of h3⟩, ?_⟩
  have tv : ∀ t ∈ f.result :: f.writes.map (·.2), Tv fs (cells.map (·.1)) f.many t := fun t ht => by
    rcases List.mem_cons.mp ht with rfl | ht
    · exact fv.res
    · obtain ⟨wk, hw, rfl⟩ := List.mem_map.mp ht
      exact (fv.wr wk hw).2.2
  refine for_it (walk_list (K := K) (xs := ys)) (fun i σ H4 => Same H3 H4 ∧ ∃ x y z u, σ = [some (.ref fa), some (.ref d), some (.ref kn), x, y, z, u]) ⟨Same.refl _, _, _, _, _, rfl⟩ (fun i σ H4 _ p => SqL.of (p.1 _ _ h3)) (fun i y σ H4 H5 hi pv y1 => ?_) fun σ H4 pv => ?_
  · obtain ⟨s4, x1, x2, x3, x4, rfl⟩ := pv
    obtain ⟨rfl, ey⟩ := y1
    obtain ⟨t, et, ht⟩ := paired_get pr3 ey
    have htv := tv t (List.mem_of_getElem? et)
    have ht := Same.tm s4 ht
    have s05 := s03.trans s4
    refine ⟨_, rfl, y, t, rfl, ht, (kids_v htv).1, fun H6 p6 ns s6 h6 l6 hn6 => ?_⟩
    refine ⟨p6, rfl, ⟨_, SqL.of h6⟩, fun D6 hD6 => ?_⟩
    refine lcF (walk_list (K := K)) hD6 (small (by rw [List.length_map]; omega)) (fun k => ns[k]?.map fun _ => V.bl false) (fun H7 s7 => SqL.of (s7 _ _ h6)) (fun k y H7 H8 No Ye hk7 s7 y1 no ye => ?_) fun H7 s7 h7 => ?_
    · obtain ⟨rfl, ey⟩ := y1
      rw [List.getElem?_map] at ey
      cases en : ns[k]? with
      | none => rw [en] at ey; cases ey
      | some nm =>
        rw [en] at ey
        cases ey
        obtain ⟨u, hu, eu⟩ := hn6 nm (List.mem_of_getElem? en)
        obtain ⟨c, hc, ec⟩ := List.mem_map.mp (pnm_cell (parts_v htv u hu) eu)
        have dg := DGet.k (k := Sum.inr nm) (s7 _ _ (s6 _ _ (s05 _ _ hd)))
        rw [← ec, ckv_get cn hc] at dg
        exact ⟨rfl, ty ⟨_, rfl, _, rfl, _, _, rfl, ec ▸ dg, ye _ (by rw [en]; rfl) _ (Same.refl _)⟩⟩
    rw [List.length_map, show (List.range ns.length).filterMap (fun k => ns[k]?.map fun _ => V.bl false) = (ns.map fun _ => false).map V.bl by rw [fm_map, List.map_map]; rfl] at h7
    refine ⟨_, _, rfl, SqL.of h7, _, rfl, if_off (by rw [List.any_map, List.any_eq_false]; exact fun _ _ => Bool.false_ne_true) ?_⟩
    have s47 := s6.trans s7
    refine ⟨_, rfl, y, t, rfl, Same.tm s47 ht, (kids_v htv).1, fun H9 p9 zs s9 h9 pr9 => ?_⟩
    refine ⟨p9, rfl, ⟨_, SqL.of h9⟩, ?_⟩
    have s39 := (s4.trans s47).trans s9
    refine for_it (walk_list (K := K) (xs := zs)) (fun i σ H10 => H10 = H9 ∧ ∃ x z u, σ = [some (.ref fa), some (.ref d), some (.ref kn), some y, x, z, u]) ⟨rfl, _, _, _, rfl⟩ (fun i σ H10 _ p => by rw [p.1]; exact SqL.of h9) (fun j z σ H10 H11 hj pw y2 => ?_) fun σ H10 pw => ?_
    · obtain ⟨rfl, w1, w2, w3, rfl⟩ := pw
      obtain ⟨rfl, ez⟩ := y2
      obtain ⟨u, eu, hu⟩ := paired_get pr9 ez
      have huv := parts_v htv u (List.mem_of_getElem? eu)
      by_cases hcall : ∃ g ts, u = .call g ts
      · obtain ⟨g, ts, rfl⟩ := hcall
        obtain ⟨r1, r2, xs, rfl, e1, e2, prs2⟩ := hu
        obtain ⟨⟨g2, hg2, rfl, hm2⟩, _, _, _⟩ := huv
        have hk9 : H11 kn = some (.dK (fkv as fs)) := s39 _ _ (s03 _ _ hk)
        obtain ⟨ag, eg, hag⟩ := fkv_get has nd hg2
        obtain ⟨dxg, lg, rg, wg, eag, _, _⟩ := (Same.keep0 (K := K) (s03.trans s39)).fn hag
        have dg := DGet.k (k := Sum.inr g2.name) hk9
        rw [eg] at dg
        refine ⟨_, rfl, _, _, _, _, _, rfl, .ty _, .base (.tup e1), kk_tuple_tuple, _, rfl, iteT ?_⟩
        refine ⟨_, rfl, _, _, _, _, rfl, rfl, SqT.of e1, at0, rfl, _, rfl, iteD rfl ?_⟩
        refine ⟨_, rfl, _, _, _, _, rfl, rfl, SqT.of e1, at1, _, rfl, _, _, rfl, dg, _, rfl, iteF ?_⟩
        refine ⟨_, rfl, _, rfl, _, _, _, _, rfl, rfl, SqT.of e1, at1, _, _, rfl, dg, _, _, _, _, _, rfl, eag, T.cls_Function, T.at_Function_arguments, rfl, ?_⟩
        refine ⟨_, rfl, _, _, _, _, rfl, rfl, SqT.of e1, at2, _, _, rfl, .inr ⟨_, SqT.of e2, rfl⟩, rfl, _, rfl, neF (by rw [Paired.length prs2, hm2]) ?_⟩
        exact ⟨rfl, _, _, _, rfl⟩
      · have hn := pnm_call (u := u) fun f ts e => hcall ⟨f, ts, e⟩
        rcases tm_part (.inr rfl) hu with ⟨i, rfl, _⟩ | ⟨a, hd, xs, rfl, e1, ⟨rfl, x, r, rfl, en⟩ | ⟨n, en⟩⟩
        · exact ⟨_, rfl, _, _, _, _, _, rfl, .ty _, .base (.int i), kk_int_tuple, _, rfl, iteF (iteF ⟨rfl, _, _, _, rfl⟩)⟩
        · rw [hn] at en
          cases en
        · refine ⟨_, rfl, _, _, _, _, _, rfl, .ty _, .base (.tup e1), kk_tuple_tuple, _, rfl, iteT ?_⟩
          exact ⟨_, rfl, _, _, _, _, rfl, rfl, SqT.of e1, at0, rfl, _, rfl, iteDN (strne n) ⟨rfl, _, _, _, rfl⟩⟩
    · obtain ⟨rfl, w1, w2, w3, rfl⟩ := pw
      exact ⟨s39, _, _, _, _, rfl⟩
  · obtain ⟨s4, x1, x2, x3, x4, rfl⟩ := pv
    exact q _ (s03.trans s4)
end
end SC

set_option Elab.async false
set_option linter.all false
set_option maxRecDepth 100000
set_option maxHeartbeats 4000000
namespace SC
open PySem PySem.Spec PyProof.Rows L2
open C8 (Cal Met Mak pe_c pe_mk pe_mt pe_mt0 pe_gc InsC)
open C8 (call_isC)
theorem Bv.nd {B : Bk} (h : Bv B) : (B.fns.map (·.name)).Nodup := by
  rw [List.nodup_iff_pairwise_ne, List.pairwise_iff_getElem]
  intro i j hi hj hij e
  rw [List.length_map] at hi hj
  rw [List.getElem_map, List.getElem_map] at e
  refine (h.fv j _ (List.getElem?_eq_getElem hj)).new.2 (List.mem_map.mpr ⟨B.fns[i], List.mem_of_getElem? (i := i) ?_, e⟩)
  rw [List.getElem?_take_of_lt hij, List.getElem?_eq_getElem hi]
/-- tuples stay -/
def KeepT (H H' : Hp) : Prop := ∀ a xs, H a = some (.tup xs) → H' a = some (.tup xs)
theorem KeepT.lf {H H' : Hp} (k : KeepT H H') {v : V} : ∀ {l : Lf}, LfAt H v l → LfAt H' v l
  | .val _, h => h
  | .arg _, ⟨a, e, h⟩ => ⟨a, e, k _ _ h⟩
  | .cell _, ⟨a, e, h⟩ => ⟨a, e, k _ _ h⟩
  | .tick, ⟨a, e, h⟩ => ⟨a, e, k _ _ h⟩
theorem KeepT.tm {H H' : Hp} (k : KeepT H H') {v : V} : ∀ {t : Tm}, TmAt H v t → TmAt H' v t
  | .lf _, h => k.lf h
  | .bin _ _ _, ⟨p, x, y, e, h, a, b⟩ => ⟨p, x, y, e, k _ _ h, k.lf a, k.lf b⟩
  | .ite _ _ _, ⟨p, z, x, y, e, h, c, a, b⟩ => ⟨p, z, x, y, e, k _ _ h, k.lf c, k.lf a, k.lf b⟩
  | .call _ _, ⟨p, q, xs, e, h, h2, r⟩ => ⟨p, q, xs, e, k _ _ h, k _ _ h2, Paired.mapP r fun _ _ z => k.lf z⟩
theorem But.keepT {p : Addr} {H H' : Hp} {kvs : List (Key × V)} (s : But p H H') (hp : H p = some (.dK kvs)) : KeepT H H' := fun a xs h => s a _ h (ne_of h hp (by intro z; cases z))
theorem ifs {b : Bool} {A B : Prop} (h : A) (k : B) : if b = true then A else B := by
  cases b
  · exact iteF k
  · exact iteT h
theorem nodup_take {α : Type} {l : List α} (h : l.Nodup) (n : Nat) : (l.take n).Nodup := List.Nodup.sublist (List.take_sublist n l) h
theorem paired_take {α β : Type} {R : α → β → Prop} {xs : List α} {ys : List β} (h : Paired R xs ys) (n : Nat) : Paired R (xs.take n) (ys.take n) := by
  induction h generalizing n with
  | nil => rw [List.take_nil, List.take_nil]; exact .nil
  | cons a _ ih =>
    cases n with
    | zero => exact .nil
    | succ n => exact .cons a (ih n)
theorem fkv_snoc {as : List Addr} {fs : List Fn} {a : Addr} {f : Fn} (h : as.length = fs.length) : fkv (as ++ [a]) (fs ++ [f]) = fkv as fs ++ [(Sum.inr f.name, .ref a)] := by
  unfold fkv
  rw [List.zipWith_append h]
  rfl
section
variable {P : Program} {w : World} {K : PySem.W.Frag} {mg : Str → Option Value} {base : Heap}
def spCFns (K : PySem.W.Frag) : Sp := fun vs H Q _ => ∃ p r as cs B, vs = [.ref p, .ref r] ∧ H p = some (.lst (as.map V.ref)) ∧ H r = some (.tup (cs.map V.ref)) ∧ FnsAt K H as B.fns ∧ CellsAt K H cs B.cells ∧ Bv B ∧ ∀ H' t, Same H H' → H' t = some (.tup (as.map V.ref)) → Q (.ref t) H'
theorem C_checked_functions (T : TX K mg) : Cal P w K mg base 7 "checked_functions" (spCFns K) [] := by
  have C_fits : Cal P w K mg base 6 "fits" (spFits K) [] := SC.C_fits T
  obtain ⟨fd, F⟩ := T.d_checked_functions
  refine calD "checked_functions" F T.g_checked_functions (b_checked_functions F) .nil S_checked_functions (fun vs H Q E h => ?_) (fun cdv A outer s H vs Q E hr h => ?_)
  · obtain ⟨p, r, as, cs, B, rfl, hp, hr2, has, hcs, hB, q⟩ := h
    rfl
  obtain ⟨p, r, as, cs, B, rfl, hp, hr2, has, hcs, hB, q⟩ := h
  refine ⟨_, (pss_cons (ps_if (PW.pt (pw_or (pt_not (pt_val (pe_callB call_isiT (by rfl) T.f_isinstance v_isinstance (pa_cons (pv 0) (pa_cons (pe_tup (pa_cons (pe_bltn (v := .ty "list") (u := .type "list") (by rfl) T.f_list v_list rfl) (pa_cons (pe_bltn (v := .ty "tuple") (u := .type "tuple") (by rfl) T.f_tuple v_tuple rfl) pa_nil))) pa_nil))))) (pw_or1 (pt_cmpR op_eq (pe_callB call_len (by rfl) T.f_len v_len (pa_cons (pv 0) pa_nil)) pe_int (nomark _))))) (pss_one ps_never) pss_nil)
  (pss_cons (ps_setDc (i := 2) (own := [("cell", 6)]) (by rfl) S_checked_functions.nd rfl rfl (sw_trueD rfl rfl rfl (by decide +kernel)) (pi_tup (pv 1)) (blkOk_by (own := [("cell", 6)]) (N := N_checked_functions) (sc := d_checked_functions.scope) (by decide +kernel)) (fun _ _ _ _ _ => (pg_name (i := 6) S_checked_functions.nd rfl (Or.inl rfl))) (fun _ _ _ _ _ => pts_nil) (fun _ _ _ _ _ => (pe_fld' K rfl (pv 6) rfl)) (fun _ _ _ _ _ => (pe_fld' K rfl (pv 6) rfl)))
  (pss_cons (ps_set (i := 3) S_checked_functions.nd rfl (Or.inl rfl) pe_dnewK)
  (pss_cons (ps_for PassesOwn.never rfl (pi_enum (by rfl) T.f_enumerate (pa_cons (pv 0) pa_nil)) (pg_tup (by rfl) (pgs_cons (pg_name (i := 4) S_checked_functions.nd rfl (Or.inl rfl)) (pgs_cons (pg_name (i := 5) S_checked_functions.nd rfl (Or.inl rfl)) pgs_nil)))
    (pss_cons (ps_if (PW.pt (pw_or (pt_not (pt_val (pe_callB (call_isC T.i_Function) (by rfl) T.f_isinstance v_isinstance (pa_cons (pv 5) (pa_cons (pe_glob (v := .ref (He.ga K "Function")) rfl T.g_Function rfl) pa_nil))))) (pw_or1 (pt_not (pt_val (pe_c C_fits hr (by decide) rfl (pa_cons (pv 5) (pa_cons (pv 2) (pa_cons (pv 3) pa_nil))))))))) (pss_one ps_never) pss_nil)
  (pss_one (ps_dput (hu_of hr) (pv 3) (pe_fld (pv 5) rfl) (pv 5) rfl))))
  (pss_cons (ps_if (pt_cmpR op_gt (pe_callB call_len (by rfl) T.f_len v_len (pa_cons (pv 0) pa_nil)) (pe_gc rfl T.k_MOST_FUNCTIONS) (nomark _)) (pss_one ps_never) pss_nil)
  (pss_one (ps_ret (pe_callTy call_tuple_of (by rfl) T.f_tuple v_tuple (pa_cons (pv 0) pa_nil))))))))), ?_⟩
  have la := Paired.length has
  have f1 := hB.f1
  have f3 := hB.f3
  refine ⟨_, rfl, (by show 2 ≤ sizeLine; decide), fun t ht => ?_⟩
  refine ⟨_, t, _, _, _, _, rfl, upd_same, cls_lt, .base (.lst (by rw [upd_ne (ne_of_none hp ht)]; exact hp)), kk_list_lt, _, rfl, iteF ?_⟩
  have s1 : Same H (upd H t (.tup [.ty "list", .ty "tuple"])) := same_upd ht
  refine ⟨_, rfl, _, _, rfl, .inl ⟨_, SqL.of (s1 _ _ hp), rfl⟩, rfl, _, rfl, iteDN (by rw [List.length_map]; intro z; injection z with z; omega) ?_⟩
  refine ⟨_, rfl, r, rfl, ⟨_, SqT.of (s1 _ _ hr2)⟩, fun D hD => ?_⟩
  refine dcF (walk_tup (K := K)) hD (small (by rw [List.length_map, Paired.length hcs]; have := hB.cl; omega)) (fun k => B.cells[k]?.map fun c => ((Sum.inr c.1 : Key), V.str c.2)) (fun H2 s2 => SqT.of (s2 _ _ (s1 _ _ hr2))) (fun k y H2 H3 No Ye hk s2 y1 no ye => ?_) fun H2 s2 h2 => ?_
  · obtain ⟨rfl, ey⟩ := y1
    obtain ⟨c, ec, a, rfl, hca⟩ := paired_get (paired_map V.ref hcs) ey
    obtain ⟨dxc, eca⟩ := (Same.keep0 (K := K) (s1.trans s2)).cell hca
    exact ⟨rfl, ty ⟨_, rfl, _, _, _, _, _, rfl, eca, T.cls_Cell, T.at_Cell_name, rfl, _, rfl, _, _, _, _, _, rfl, eca, T.cls_Cell, T.at_Cell_kind, rfl, ye (Sum.inr c.1) _ (by rw [ec]; rfl) _ (Same.refl _)⟩⟩
  rw [List.length_map, Paired.length hcs, fm_map, mergeK_new _ _ (ckv_nodup (v := fun c => V.str c.2) hB.cn) (fun _ _ _ h => by cases h), List.nil_append] at h2
  have s02 := s1.trans s2
  refine fun k hk => ?_
  have hHk : H k = none := by
    cases z : H k with
    | none => rfl
    | some o => rw [s02 _ _ z] at hk; cases hk
  have nDk : D ≠ k := ne_of_none h2 hk
  have s3 := s02.trans (same_upd (o := .dK []) hk)
  have h2k : upd H2 k (.dK []) D = some (.dK (ckv B.cells fun c => V.str c.2)) := by
    rw [upd_ne nDk]
    exact h2
  refine ⟨_, rfl, p, _, rfl, SqL.of (s3 _ _ hp), ?_⟩
  refine for_it (walk_enum (K := K) (xs := as.map V.ref)) (fun i σ H1 => Same H H1 ∧ H1 k = some (.dK (fkv (as.take i) (B.fns.take i))) ∧ H1 D = some (.dK (ckv B.cells fun c => V.str c.2)) ∧ ∃ x y z, σ = [some (.ref p), some (.ref r), some (.ref D), some (.ref k), x, y, z]) ⟨s3, by rw [upd_same]; rfl, h2k, _, _, _, rfl⟩ (fun i σ H1 _ p => SqL.of (p.1 _ _ hp)) (fun i v σ H1 H3 hi pv y1 => ?_) fun σ H1 pv => ?_
  · obtain ⟨s4, h4, d4, x, y, z, rfl⟩ := pv
    obtain ⟨t5, vi, vz, rfl, h5, rfl, e1, e2⟩ := y1
    have s5 := same_upd (o := .tup [vi, vz]) h5
    obtain ⟨f, ef, a, rfl, hfa⟩ := paired_get (paired_map V.ref has) e2
    have hfa5 := (Same.keep0 (K := K) (s4.trans s5)).fn hfa
    obtain ⟨dx, l, rr, w, ea, _⟩ := id hfa5
    have fv := hB.fv i f ef
    have hs5 : FnsAt K (upd H1 t5 (.tup [vi, .ref a])) (as.take i) (B.fns.take i) := paired_take ((Same.keep0 (K := K) (s4.trans s5)).fns has) i
    refine ⟨_, _, rfl, SqT.of upd_same, rfl, _, _, rfl, _, _, rfl, rfl, ?_⟩
    refine ⟨_, rfl, a, dx, _, rfl, ea, _, rfl, iteF ?_⟩
    refine ⟨_, rfl, _, rfl, _, rfl, a, D, k, as.take i, f, B.fns.take i, B.cells, _, rfl, hfa5, s5 _ _ d4, s5 _ _ h4, hs5, by rw [List.map_take]; exact nodup_take hB.nd i, fv, hB.cn, rfl, fun H6 s6 => ⟨_, rfl, iteF ?_⟩⟩
    have ea6 := s6 _ _ ea
    have h46 := s6 _ _ (s5 _ _ h4)
    have ea1 : ∃ a', as[i]? = some a' ∧ V.ref a' = V.ref a := by
      have e2 : (as.map V.ref)[i]? = some (.ref a) := e2
      rw [List.getElem?_map] at e2
      cases q2 : as[i]? with
      | none => rw [q2] at e2; cases e2
      | some a' => rw [q2] at e2; exact ⟨a', rfl, Option.some.inj e2⟩
    obtain ⟨a', ea', e3⟩ := ea1
    cases e3
    have ll : (as.take i).length = (B.fns.take i).length := by rw [List.length_take, List.length_take, la]
    have lf : (fkv (as.take i) (B.fns.take i)).length < sizeLine := small' (by unfold fkv; rw [List.length_zipWith, List.length_take, List.length_take]; omega)
    refine ⟨_, rfl, _, rfl, _, rfl, _, _, _, _, _, rfl, ea6, T.cls_Function, T.at_Function_name, rfl, k, _, rfl, DPut.k (k := Sum.inr f.name) h46 lf, ?_⟩
    refine ⟨Same.of_upd ((s4.trans s5).trans s6) hHk, ?_, ?_, _, _, _, rfl⟩
    · rw [upd_same, putK_new (fkv_ne fv.new.2), take_snoc ea', take_snoc ef, fkv_snoc ll]
    · rw [upd_ne nDk]
      exact s6 _ _ (s5 _ _ d4)
  · obtain ⟨s4, h4, d4, x, y, z, rfl⟩ := pv
    have hp3 := s4 _ _ hp
    refine ⟨_, rfl, _, _, rfl, .inl ⟨_, SqL.of hp3, rfl⟩, _, _, rfl, rfl, _, rfl, iteDN (by show ¬ (((as.map V.ref).length : Nat) : Int) > 8; rw [List.length_map]; omega) ?_⟩
    exact ⟨_, rfl, _, _, rfl, .inl ⟨SqL.of hp3, fun r hr => q _ r (s4.trans (same_upd hr)) upd_same⟩⟩
def spBook (K : PySem.W.Frag) : Sp := fun vs H Q _ => ∃ a dx p q cs as B H0, vs = [.ref a, .ref p, .ref q] ∧ H a = some (.ins (He.ga K "Book") dx []) ∧ Same H0 H ∧ H0 a = none ∧ H0 p = some (.lst (cs.map V.ref)) ∧ CellsAt K H0 cs B.cells ∧ H0 q = some (.lst (as.map V.ref)) ∧ FnsAt K H0 as B.fns ∧ Bv B ∧
  ∀ H', Same H0 H' → BkAt K H' a B → Q .non H'
theorem K_Book (T : TX K mg) : Mak P w K mg base 8 "Book" (He.ga K "Book") (spBook K) [] := by
  have C_checked_cells : Cal P w K mg base 1 "checked_cells" (spCCells K) [] := SC.C_checked_cells T
  have C_checked_functions : Cal P w K mg base 7 "checked_functions" (spCFns K) [] := SC.C_checked_functions T
  obtain ⟨fd, F⟩ := T.d_Book_init
  refine makD "Book" (He.ga K "Book") F T.mk_Book T.g_Book (b_Book_init F) .nil S_Book_init (fun vs H Q E h => ?_) (fun cdv A outer s H vs Q E hr h => ?_)
  · obtain ⟨a, dx, p, q1, cs, as, B, H0, rfl, e, s0, a0, hp, hc, hq, hf, hB, q⟩ := h
    rfl
  obtain ⟨a, dx, p, q1, cs, as, B, H0, rfl, e, s0, a0, hp, hc, hq, hf, hB, q⟩ := h
  refine ⟨_, (pss_cons (ps_fld (pv 0) (pe_c C_checked_cells hr (by decide) rfl (pa_cons (pv 1) pa_nil)) rfl)
  (pss_one (ps_fld (pv 0) (pe_c C_checked_functions hr (by decide) rfl (pa_cons (pv 2) (pa_cons (pe_fld (pv 0) rfl) pa_nil))) rfl))), ?_⟩
  refine ⟨_, rfl, p, cs, B.cells, rfl, s0 _ _ hp, (Same.keep0 (K := K) s0).cells hc, hB.cn, hB.cl, fun H1 r1 s1 h1 => ?_⟩
  have n1 : r1 ≠ a := ne_of h1 (s1 _ _ e) (by intro z; cases z)
  refine ⟨_, rfl, a, _, dx, _, rfl, s1 _ _ e, T.cls_Book, T.at_Book_cell_row, by show 0 < 1000; decide, ?_⟩
  have b2 : But a H (upd H1 a (.ins (He.ga K "Book") dx (putF "cell_row" (V.ref r1) []))) := (Same.but s1).trans But.upd
  have s2 := But.same b2 s0 a0
  have e2 : upd H1 a (.ins (He.ga K "Book") dx (putF "cell_row" (V.ref r1) [])) a = some (.ins (He.ga K "Book") dx [("cell_row", V.ref r1)]) := upd_same
  have h1' : upd H1 a (.ins (He.ga K "Book") dx (putF "cell_row" (V.ref r1) [])) r1 = some (.tup (cs.map V.ref)) := by
    rw [upd_ne n1]
    exact h1
  refine ⟨_, rfl, _, rfl, _, _, _, _, _, rfl, e2, T.cls_Book, T.at_Book_cell_row, rfl, q1, r1, as, cs, B, rfl, s2 _ _ hq, h1', (Same.keep0 (K := K) s2).fns hf, (Same.keep0 (K := K) s2).cells hc, hB, fun H3 r3 s3 h3 => ?_⟩
  have n3 : r3 ≠ a := ne_of h3 (s3 _ _ e2) (by intro z; cases z)
  refine ⟨_, rfl, a, _, dx, _, rfl, s3 _ _ e2, T.cls_Book, T.at_Book_row, by show 1 < 1000; decide, ?_⟩
  have fin : ∀ H', Same H0 H' → H' a = some (.ins (He.ga K "Book") dx [("cell_row", .ref r1), ("row", .ref r3)]) → H' r1 = some (.tup (cs.map V.ref)) → H' r3 = some (.tup (as.map V.ref)) → Q .non H' := fun H' s h1 h2 h3 => q H' s ⟨dx, r1, r3, cs, as, h1, h2, h3, (Same.keep0 (K := K) s).cells hc, (Same.keep0 (K := K) s).fns hf⟩
  refine fin _ (But.same ((b2.trans (Same.but s3)).trans But.upd) s0 a0) upd_same ?_ ?_
  · rw [upd_ne n1]
    exact s3 _ _ h1'
  · rw [upd_ne n3]
    exact h3
def spReaches (K : PySem.W.Frag) : Sp := fun vs H Q _ => ∃ b x B g, vs = [.ref b, .str x] ∧ BkAt K H b B ∧ Bv B ∧ fget B.fns x = some g ∧ ∀ H' p, Same H H' → Q (.ref p) H'
theorem M_Book_reaches (T : TX K mg) : Met P w K mg base 6 (He.ga K "Book") "reaches" (spReaches K) [] := by
  have C_calls_in : Cal P w K mg base 5 "calls_in" (spNames1 "call") [] := SC.C_calls_in T
  have M_Book_getitem : Met P w K mg base 1 (He.ga K "Book") "__getitem__" (spGet K) [] := SC.M_Book_getitem T
  have M_Book_names : Met P w K mg base 1 (He.ga K "Book") "names" (spNms K) [] := SC.M_Book_names T
  have M_Function_parts : Met P w K mg base 1 (He.ga K "Function") "parts" (spParts K) [] := SC.M_Function_parts T
  obtain ⟨fd, F⟩ := T.d_Book_reaches
  refine metD (He.ga K "Book") "reaches" F T.cls_Book T.me_Book_reaches (b_Book_reaches F) .nil S_Book_reaches (fun vs H Q E h => ?_) (fun cdv A outer s H vs Q E hr h => ?_)
  · obtain ⟨b, x, B, g, rfl, hb, hB, hg, q⟩ := h
    rfl
  obtain ⟨b, x, B, g, rfl, hb, hB, hg, q⟩ := h
  refine ⟨_, (pss_cons (ps_set (i := 2) S_Book_reaches.nd rfl (Or.inr rfl) (pe_disp (pps_cons (pe_fld (pe_ixO M_Book_getitem (hr.mono (by decide)) (fun _ e => SC.sub_fn T.sub_Book T.me_Book_getitem e) (pv 0) (pv 1) (fun _ _ => rfl)) rfl) pe_bl pps_nil) (by rfl) (by rfl) (fun z => by cases z) (by decide)))
  (pss_cons (ps_for PassesOwn.never rfl (pi_tup (pe_revT (pe_fld (pv 0) rfl))) (pg_name (i := 3) S_Book_reaches.nd rfl (Or.inl rfl))
    (pss_one (ps_if (pt_cmp (pc_din (hu_of hr) (pe_fld (pv 3) rfl) (pv 2)) (by rfl)) (pss_one (ps_for PassesOwn.never rfl (pi_list (pe_mt0 M_Function_parts hr (by decide) (pv 3))) (pg_name (i := 4) S_Book_reaches.nd rfl (Or.inl rfl))
    (pss_one (ps_expr (pe_bm PySem.F.plainAttrs_dict PySem.F.slot_dict_update PySem.F.type_dict_update mt_update (pv 2) (pa_cons (pe_dc (own := [("called", 6)]) (by rfl) S_Book_reaches.nd  (pi_list (pe_c C_calls_in hr (by decide) rfl (pa_cons (pv 4) pa_nil))) (blkOk_by (own := [("called", 6)]) (N := N_Book_reaches) (sc := d_Book_reaches.scope) (by decide +kernel)) (fun _ _ _ _ _ => (pg_name (i := 6) S_Book_reaches.nd rfl (Or.inl rfl))) (fun _ _ _ _ _ => pts_nil) (fun _ _ _ _ _ => (pv 6)) (fun _ _ _ _ _ => pe_bl)) pa_nil)))))) pss_nil)))
  (pss_one (ps_ret (pe_lc (own := [("one", 5)]) (by rfl) S_Book_reaches.nd  (pi_list (pe_mt0 M_Book_names hr (by decide) (pv 0))) (blkOk_by (own := [("one", 5)]) (N := N_Book_reaches) (sc := d_Book_reaches.scope) (by decide +kernel)) (fun _ _ _ _ _ => (pg_name (i := 5) S_Book_reaches.nd rfl (Or.inl rfl))) (fun _ _ _ _ _ => (pts_one (pt_cmp (pc_din (hu_of hr) (pv 5) (pv 2)) (by rfl)))) (fun _ _ _ _ _ => (pv 5))))))), ?_⟩
  refine fun d hd => ?_
  have s1 := same_upd (o := .dK []) hd
  have hb1 := (Same.keep0 (K := K) s1).bk hb
  obtain ⟨dxb, bp, br, cs, fs, eb, ebp, ebr, hc, hf⟩ := id hb1
  refine ⟨_, rfl, _, rfl, b, dxb, _, rfl, eb, b, x, B, g, rfl, hb1, hg, fun fa hfa => ?_⟩
  obtain ⟨dx2, l, r, w, ea, _⟩ := id hfa
  refine ⟨_, _, _, _, _, rfl, ea, T.cls_Function, T.at_Function_name, rfl, ?_⟩
  refine ⟨upd_same, [(Sum.inr g.name, .bl true)], rfl, by show 1 ≤ 15; decide, ?_⟩
  have s2 : Same H (upd (upd H d (.dK [])) d (.dK (mergeK [] [(Sum.inr g.name, V.bl true)]))) := Same.of_upd s1 hd
  have m1 : (mergeK [] [((Sum.inr g.name : Key), V.bl true)]).length ≤ 1 := length_mergeK _ _
  obtain ⟨dxb2, bp2, br2, cs2, fs2, eb2, ebp2, ebr2, hc2, hf2⟩ := id hb
  refine ⟨_, rfl, _, _, _, _, _, rfl, s2 _ _ eb2, T.cls_Book, T.at_Book_row, rfl, _, _, rfl, SqT.of (s2 _ _ ebr2), fun rv hrv => ?_⟩
  refine ⟨rv, rfl, ⟨_, SqT.of upd_same⟩, ?_⟩
  have s3 := s2.trans (same_upd (o := .tup (fs2.map V.ref).reverse) hrv)
  have n3 : d ≠ rv := ne_of_none upd_same hrv
  have lf := hB.f3
  have lfs : fs2.length ≤ 3 := by rw [Paired.length hf2]; exact lf
  refine for_it (walk_tup (xs := (fs2.map V.ref).reverse)) (fun i σ H1 => Same H H1 ∧ H1 rv = some (.tup (fs2.map V.ref).reverse) ∧ (∃ kvs, H1 d = some (.dK kvs) ∧ kvs.length ≤ 1 + 8 * i) ∧ ∃ x0 y z u, σ = [some (.ref b), some (.str x), some (.ref d), x0, y, z, u]) ⟨s3, upd_same, ⟨_, by rw [upd_ne n3]; exact upd_same, by omega⟩, _, _, _, _, rfl⟩ (fun i σ H1 _ p => SqT.of p.2.1) (fun i v σ H1 H3 hi pv y1 => ?_) fun σ H1 pv => ?_
  · obtain ⟨s4, h4, ⟨kvs, hk, lk⟩, x1, x2, x3, x4, rfl⟩ := pv
    obtain ⟨rfl, ey⟩ := y1
    have hi3 : i < 3 := by
      rw [List.length_reverse, List.length_map] at hi
      omega
    have mv : v ∈ fs2.map V.ref := List.mem_reverse.mp (List.mem_of_getElem? ey)
    obtain ⟨f, hfm, a, rfl, hfa0⟩ := paired_mem (paired_map V.ref hf2) mv
    have hfa4 := (Same.keep0 (K := K) s4).fn hfa0
    obtain ⟨dxa, la, ra, wa, eaf, _⟩ := id hfa4
    obtain ⟨j, hj, ej⟩ := List.getElem_of_mem hfm
    have fv := hB.fv j f (by rw [List.getElem?_eq_getElem hj, ej])
    refine ⟨_, rfl, _, _, _, _, _, rfl, eaf, T.cls_Function, T.at_Function_name, rfl, _, rfl, _, _, rfl, DGet.k (k := Sum.inr f.name) hk, _, rfl, ifs ?_ ?_⟩
    · refine ⟨_, rfl, a, dxa, _, rfl, eaf, rfl, a, f, rfl, hfa4, fv.wlen, fun H5 p ys s5 h5 pr5 => ?_⟩
      refine ⟨p, rfl, ⟨_, SqL.of h5⟩, ?_⟩
      have hk5 := s5 _ _ hk
      have np : p ≠ d := ne_of h5 hk5 (by intro z; cases z)
      have nr : rv ≠ d := Ne.symm n3
      have ly : ys.length ≤ 2 := by
        rw [Paired.length pr5, List.length_cons, List.length_map]
        have := fv.wlen
        omega
      have tv : ∀ t ∈ f.result :: f.writes.map (·.2), (kids t).length ≤ 3 := fun t ht => by
        rcases List.mem_cons.mp ht with rfl | ht
        · exact (kids_v fv.res).1
        · obtain ⟨wk, hw, rfl⟩ := List.mem_map.mp ht
          exact (kids_v (fv.wr wk hw).2.2).1
      refine for_it (walk_list (K := K) (xs := ys)) (fun m σ H6 => But d H5 H6 ∧ Same H H6 ∧ (∃ kvs, H6 d = some (.dK kvs) ∧ kvs.length ≤ 1 + 8 * i + 4 * m) ∧ ∃ y z u, σ = [some (.ref b), some (.str x), some (.ref d), some (.ref a), y, z, u]) ⟨But.refl, s4.trans s5, ⟨kvs, hk5, by omega⟩, _, _, _, rfl⟩ (fun m σ H6 _ p => SqL.of (p.1 _ _ h5 np)) (fun m v σ H6 H7 hm pv y1 => ?_) fun σ H6 pv => ?_
      · obtain ⟨b6, s6, ⟨kv6, hk6, lk6⟩, z1, z2, z3, rfl⟩ := pv
        obtain ⟨rfl, ev⟩ := y1
        obtain ⟨t, et, ht⟩ := paired_get pr5 ev
        have ht6 := (But.keepT b6 hk5).tm ht
        refine ⟨_, rfl, .inr (.inr (.inl ⟨rfl, .inl ⟨_, hk6⟩⟩)), ?_⟩
        refine ⟨_, rfl, v, t, rfl, ht6, tv t (List.mem_of_getElem? et), fun H8 p8 ns s8 h8 l8 _ => ?_⟩
        refine ⟨p8, rfl, ⟨_, SqL.of h8⟩, fun D hD => ?_⟩
        refine dcF (walk_list (K := K)) hD (small (by rw [List.length_map]; omega)) (fun k => ns[k]?.map fun n => ((Sum.inr n : Key), V.bl true)) (fun H9 s9 => SqL.of (s9 _ _ h8)) (fun k y H9 H10 No Ye hk9 s9 y1 no ye => ?_) fun H9 s9 h9 => ?_
        · obtain ⟨rfl, ey⟩ := y1
          rw [List.getElem?_map] at ey
          cases en : ns[k]? with
          | none => rw [en] at ey; cases ey
          | some nm =>
            rw [en] at ey
            cases ey
            exact ⟨rfl, ty ⟨_, rfl, ye (Sum.inr nm) _ (by rw [en]; rfl) _ (Same.refl _)⟩⟩
        have hk9 := s9 _ _ (s8 _ _ hk6)
        have nD : d ≠ D := ne_of_none (s8 _ _ hk6) hD
        have l9 := length_mergeK ((List.range (ns.map V.str).length).filterMap fun k => ns[k]?.map fun n => ((Sum.inr n : Key), V.bl true)) []
        have l10 := fm_le (fun k => ns[k]?.map fun n => ((Sum.inr n : Key), V.bl true)) (ns.map V.str).length
        rw [List.length_map] at l10 l9
        have l0 : ([] : List (Key × V)).length = 0 := rfl
        refine ⟨d, D, kv6, _, rfl, rfl, nD, hk9, h9, small (by rw [List.length_map]; omega), ?_⟩
        have hdn : H d = none := hd
        refine ⟨(b6.trans (Same.but (s8.trans s9))).trans But.upd, Same.of_upd (s6.trans (s8.trans s9)) hdn, ⟨_, upd_same, ?_⟩, _, _, _, rfl⟩
        have l11 := length_mergeK (mergeK [] ((List.range (ns.map V.str).length).filterMap fun k => ns[k]?.map fun n => ((Sum.inr n : Key), V.bl true))) kv6
        rw [List.length_map] at l11 ⊢
        omega
      · obtain ⟨b6, s6, ⟨kv6, hk6, lk6⟩, z1, z2, z3, rfl⟩ := pv
        exact ⟨s6, b6 _ _ (s5 _ _ h4) nr, ⟨kv6, hk6, by omega⟩, _, _, _, _, rfl⟩
    · exact ⟨s4, h4, ⟨kvs, hk, by omega⟩, _, _, _, _, rfl⟩
  · obtain ⟨s4, h4, ⟨kvs, hk, lk⟩, x1, x2, x3, x4, rfl⟩ := pv
    have hb4 := (Same.keep0 (K := K) s4).bk hb
    obtain ⟨dx4, _, _, _, _, eb4, _⟩ := id hb4
    refine ⟨_, rfl, b, dx4, _, rfl, eb4, rfl, b, B, rfl, hb4, lf, fun H5 p s5 h5 => ?_⟩
    refine ⟨p, rfl, ⟨_, SqL.of h5⟩, fun D hD => ?_⟩
    refine lcF (walk_list (K := K)) hD (small (by rw [List.length_map]; omega)) (fun k => B.fns[k]?.bind fun f => if (valV kvs (Sum.inr f.name)).isSome = true then some (V.str f.name) else none) (fun H6 s6 => SqL.of (s6 _ _ h5)) (fun k y H6 H7 No Ye hk2 s6 y1 no ye => ?_) fun H6 s6 h6 => q _ D ((s4.trans s5).trans s6)
    obtain ⟨rfl, ey⟩ := y1
    rw [List.getElem?_map] at ey
    cases en : B.fns[k]? with
    | none => rw [en] at ey; cases ey
    | some f =>
      rw [en] at ey
      cases ey
      refine ⟨rfl, _, rfl, _, rfl, d, _, rfl, DGet.k (k := Sum.inr f.name) (s6 _ _ (s5 _ _ hk)), _, rfl, ?_⟩
      by_cases h : (valV kvs (Sum.inr f.name)).isSome = true
      · exact if_of h ⟨_, rfl, ye _ (by rw [en]; exact if_pos h) _ (Same.refl _)⟩
      · exact if_off (by simpa using h) (no (by rw [en]; exact if_neg h) _ (Same.refl _))
end
end SC

set_option Elab.async false
set_option linter.all false
set_option maxRecDepth 100000
set_option maxHeartbeats 4000000
namespace SC
open PySem PySem.Spec PyProof.Rows L2
open C8 (Cal Met Mak pe_c pe_mk pe_mt pe_mt0 pe_gc InsC)
open C8 (call_isC)
theorem hu2 {A : Around} {k : Nat} (hr : Room k A) : A.units + 2 < cLine := by
  have := hr.un
  omega
/-! ### dicts by tuples -/
def kI (r : List Int) : List Key := r.map Sum.inl
theorem kI_inj : ∀ {r q : List Int}, kI r = kI q → r = q
  | [], [], _ => rfl
  | [], _ :: _, h => by cases h
  | _ :: _, [], h => by cases h
  | x :: r, y :: q, h => by
    unfold kI at h
    rw [List.map_cons, List.map_cons] at h
    injection h with h1 h2
    rw [Sum.inl.inj h1, kI_inj h2]
theorem kI_tup {H : Hp} {a : Addr} {r : List Int} (h : H a = some (.tup (r.map V.int))) : H a = some (.tup ((kI r).map kV)) := by
  unfold kI
  rw [List.map_map]
  exact h
def hI (r : List Int) : Int := reduceHash (PySem.Builtin.Tuple.tupleHashOf (r.map hashInt))
theorem hI_eq (X : Cx) (r : List Int) : (tupleKind (mixKind X.prog X.w)).hash (kI r) = hI r := by
  show reduceHash (PySem.Builtin.Tuple.tupleHashOf ((kI r).map (keyH X.w))) = _
  unfold kI
  rw [List.map_map]
  rfl
theorem apart_tups (X : Cx) : ∀ {m : Nat}, m ≤ 2 → Apart X ((tups m).map kI) := by
  intro m hm
  unfold Apart
  rw [List.map_map, show (fun k => (tupleKind (mixKind X.prog X.w)).hash k) ∘ kI = hI from funext (hI_eq X)]
  match m, hm with
  | 0, _ => decide +kernel
  | 1, _ => decide +kernel
  | 2, _ => decide +kernel
abbrev TD := List (List Int × Int)
abbrev tl (td : TD) : List (List Key × Int) := td.map fun p => (kI p.1, p.2)
abbrev tdv (td : TD) : List (List Key × V) := tkv (tl td)
def tget (td : TD) (r : List Int) : Option Int := (td.find? fun p => decide (p.1 = r)).map (·.2)
def tput (td : TD) (r : List Int) (v : Int) : TD := if (td.any fun p => decide (p.1 = r)) = true then td.map (fun p => if p.1 = r then (p.1, v) else p) else td ++ [(r, v)]
theorem tdv_keys (td : TD) : (tdv td).map (·.1) = (td.map (·.1)).map kI := by
  rw [List.map_map, List.map_map, List.map_map]
  rfl
theorem tget_kv : ∀ (td : TD) (r : List Int), valV (tdv td) (kI r) = (tget td r).map V.int
  | [], _ => rfl
  | p :: t, r => by
    have ih := tget_kv t r
    unfold tget at ih ⊢
    rw [List.find?_cons, show tdv (p :: t) = (kI p.1, V.int p.2) :: tdv t from rfl]
    by_cases h : p.1 = r
    · rw [valV_pos (by rw [h]), decide_eq_true h]
      rfl
    · rw [valV_neg (fun e => h (kI_inj e)), decide_eq_false h]
      exact ih
theorem tput_kv (td : TD) (r : List Int) (v : Int) : putK (tdv td) (kI r) (V.int v) = tdv (tput td r v) := by
  have e1 : ((tdv td).any fun kv => decide (kv.1 = kI r)) = td.any fun p => decide (p.1 = r) := by
    rw [tdv, tkv, tl, List.any_map, List.any_map]
    refine congrArg (fun f => td.any f) (funext fun p => ?_)
    exact decide_eq_decide.mpr ⟨fun z => kI_inj z, fun z => congrArg kI z⟩
  unfold putK tput
  rw [e1]
  split
  · rw [tdv, tkv, tl, List.map_map, List.map_map, tdv, tkv, tl, List.map_map, List.map_map]
    refine List.map_congr_left fun p _ => ?_
    show (if kI p.1 = kI r then (kI p.1, V.int v) else (kI p.1, V.int p.2)) = _
    by_cases h : p.1 = r
    · rw [if_pos (by rw [h])]
      show _ = (kI (if p.1 = r then (p.1, v) else p).1, V.int (if p.1 = r then (p.1, v) else p).2)
      rw [if_pos h]
    · rw [if_neg (fun z => h (kI_inj z))]
      show _ = (kI (if p.1 = r then (p.1, v) else p).1, V.int (if p.1 = r then (p.1, v) else p).2)
      rw [if_neg h]
  · rw [tdv, tkv, tl, tdv, tkv, tl, List.map_append, List.map_append]
    rfl
theorem tput_keys {td : TD} {r : List Int} {v : Int} (h : r ∈ td.map (·.1)) : (tput td r v).map (·.1) = td.map (·.1) := by
  have e : (td.any fun p => decide (p.1 = r)) = true := by
    obtain ⟨p, hp, e⟩ := List.mem_map.mp h
    exact List.any_eq_true.mpr ⟨p, hp, decide_eq_true e⟩
  unfold tput
  rw [if_pos e, List.map_map]
  refine List.map_congr_left fun p _ => ?_
  show (if p.1 = r then (p.1, v) else p).1 = p.1
  by_cases h : p.1 = r
  · rw [if_pos h]
  · rw [if_neg h]
theorem tput_new {td : TD} {r : List Int} {v : Int} (h : r ∉ td.map (·.1)) : tput td r v = td ++ [(r, v)] := by
  unfold tput
  rw [if_neg]
  intro e
  obtain ⟨p, hp, e⟩ := List.any_eq_true.mp e
  exact h (List.mem_map.mpr ⟨p, hp, of_decide_eq_true e⟩)
theorem tput_get {td : TD} {r : List Int} {v : Int} : tget (tput td r v) r = some v := by
  unfold tget tput
  induction td with
  | nil => show (List.find? _ [(r, v)]).map _ = _; rw [List.find?_cons, decide_eq_true rfl]; rfl
  | cons p t ih =>
    by_cases h : p.1 = r
    · rw [List.any_cons, decide_eq_true h, Bool.true_or, if_pos rfl, List.map_cons, if_pos h, List.find?_cons, decide_eq_true h]
      rfl
    · rw [List.any_cons, decide_eq_false h, Bool.false_or]
      split at ih <;> rename_i hc
      · rw [if_pos hc, List.map_cons, if_neg h, List.find?_cons, decide_eq_false h]
        exact ih
      · rw [if_neg hc, List.cons_append, List.find?_cons, decide_eq_false h]
        exact ih
theorem tget_mem : ∀ {td : TD}, (td.map (·.1)).Nodup → ∀ {p : List Int × Int}, p ∈ td → tget td p.1 = some p.2
  | [], _, _, h => by cases h
  | q :: t, nd, p, h => by
    rw [List.map_cons, List.nodup_cons] at nd
    unfold tget
    rw [List.find?_cons]
    rcases List.mem_cons.mp h with rfl | h
    · rw [decide_eq_true rfl]
      rfl
    · rw [decide_eq_false fun e => nd.1 (List.mem_map.mpr ⟨p, h, e.symm⟩)]
      exact tget_mem nd.2 h
theorem tget_in {td : TD} {r : List Int} (h : r ∈ td.map (·.1)) : ∃ v, tget td r = some v := by
  obtain ⟨p, hp, e⟩ := List.mem_map.mp h
  unfold tget
  cases q : td.find? fun p => decide (p.1 = r) with
  | none => exact absurd (decide_eq_true e) (List.find?_eq_none.mp q p hp)
  | some z => exact ⟨_, rfl⟩
theorem tups_nodup : ∀ {m : Nat}, m ≤ 2 → (tups m).Nodup := by
  intro m hm
  match m, hm with
  | 0, _ => decide +kernel
  | 1, _ => decide +kernel
  | 2, _ => decide +kernel
theorem tups_val : ∀ n r, r ∈ tups n → ∀ i ∈ r, 0 ≤ i ∧ i ≤ 2
  | 0, r, h, i, hi => by
    have h : r ∈ [([] : List Int)] := h
    rw [List.mem_singleton] at h
    rw [h] at hi
    cases hi
  | n + 1, r, h, i, hi => by
    obtain ⟨x, hx, hr⟩ := List.mem_flatMap.mp h
    have z := tups_val n x hx
    have hr : r ∈ [x ++ [0], x ++ [1], x ++ [2]] := hr
    simp only [List.mem_cons, List.not_mem_nil, or_false] at hr
    rcases hr with rfl | rfl | rfl <;> rcases List.mem_append.mp hi with hi | hi
    · exact z i hi
    · rw [List.mem_singleton] at hi; omega
    · exact z i hi
    · rw [List.mem_singleton] at hi; omega
    · exact z i hi
    · rw [List.mem_singleton] at hi; omega
/-! ### indexes -/
def ixf (b d : Addr) (x : Str) : List (Str × V) := [("book", .ref b), ("name", .str x), ("told", .ref d)]
def IxF (K : PySem.W.Frag) (H : Hp) (i b d : Addr) (x : Str) : Prop := ∃ dx, H i = some (.ins (He.ga K "Index") dx (ixf b d x))
/-- the entry of g for r on st -/
def ent (B : Bk) (g : Fn) (st : Sta) (r : List Int) : Int := (run B.fns 2 g r st).1
def ents (B : Bk) (g : Fn) (st : Sta) : TD := (tups g.many).map fun r => (r, ent B g st r)
theorem ents_keys (B : Bk) (g : Fn) (st : Sta) : (ents B g st).map (·.1) = tups g.many := by
  unfold ents
  rw [List.map_map]
  exact List.map_id _
/-- a book, one of its functions -/
structure Bo (K : PySem.W.Frag) (H : Hp) (b : Addr) (B : Bk) (j : Nat) (g : Fn) : Prop where
  bk : BkAt K H b B
  bv : Bv B
  at_ : B.fns[j]? = some g
theorem Bo.m2 {K : PySem.W.Frag} {H : Hp} {b : Addr} {B : Bk} {j : Nat} {g : Fn} (h : Bo K H b B j g) : g.many ≤ 2 := (h.bv.fv j g h.at_).many
theorem Bo.get {K : PySem.W.Frag} {H : Hp} {b : Addr} {B : Bk} {j : Nat} {g : Fn} (h : Bo K H b B j g) : fget B.fns g.name = some g := fget_at h.bv h.at_
theorem Bo.keep {K : PySem.W.Frag} {H H' : Hp} {b : Addr} {B : Bk} {j : Nat} {g : Fn} (h : Bo K H b B j g) (k : Keep0 K H H') : Bo K H' b B j g := ⟨k.bk h.bk, h.bv, h.at_⟩
theorem Bo.same {K : PySem.W.Frag} {H H' : Hp} {b : Addr} {B : Bk} {j : Nat} {g : Fn} (h : Bo K H b B j g) (s : Same H H') : Bo K H' b B j g := h.keep (Same.keep0 s)
/-- arguments -/
structure Ar (H : Hp) (p : Addr) (r : List Int) (g : Fn) : Prop where
  at_ : H p = some (.tup (r.map V.int))
  len : r.length = g.many
  val : ∀ i ∈ r, 0 ≤ i ∧ i ≤ 2
theorem Ar.same {H H' : Hp} {p : Addr} {r : List Int} {g : Fn} (h : Ar H p r g) (s : Same H H') : Ar H' p r g := ⟨s _ _ h.at_, h.len, h.val⟩
theorem tups_ar {H : Hp} {p : Addr} {r : List Int} {g : Fn} (h : H p = some (.tup (r.map V.int))) (hr : r ∈ tups g.many) : Ar H p r g := ⟨h, tups_in _ r hr, tups_val _ r hr⟩
section
variable {P : Program} {w : World} {K : PySem.W.Frag} {mg : Str → Option Value} {base : Heap}
def spValueOn (K : PySem.W.Frag) : Sp := fun vs H Q _ => ∃ i b d p s B j g r st, vs = [.ref i, .ref p, .ref s] ∧ IxF K H i b d g.name ∧ Bo K H b B j g ∧ Ar H p r g ∧ StAt H s st ∧ Sv (B.cells.map (·.1)) st ∧ ∀ H', Same H H' → Q (.int (ent B g st r)) H'
theorem M_Index_value_on (T : TX K mg) : Met P w K mg base 11 (He.ga K "Index") "value_on" (spValueOn K) [] := by
  have C_run_alone : Cal P w K mg base 10 "run_alone" (spAlone K) [.int 0] := SC.C_run_alone T
  obtain ⟨fd, F⟩ := T.d_Index_value_on
  refine metD (He.ga K "Index") "value_on" F T.cls_Index T.me_Index_value_on (b_Index_value_on F) .nil S_Index_value_on (fun vs H Q E h => ?_) (fun cdv A outer s H vs Q E hr h => ?_)
  · obtain ⟨i, b, d, p, s0, B, j, g, r, st, rfl, ⟨dx, e⟩, bo, ar, hs, sv, q⟩ := h
    rfl
  obtain ⟨i, b, d, p, s0, B, j, g, r, st, rfl, ⟨dx, e⟩, bo, ar, hs, sv, q⟩ := h
  refine ⟨_, (pss_one (ps_ret (pe_ix ix_tup (pe_c C_run_alone hr (by decide) rfl (pa_cons (pe_fld (pv 0) rfl) (pa_cons (pe_fld (pv 0) rfl) (pa_cons (pv 1) (pa_cons (pv 2) pa_nil))))) pe_int (fun _ _ => rfl)))), ?_⟩
  refine ⟨_, rfl, _, _, _, _, _, rfl, e, T.cls_Index, T.at_Index_book, rfl, _, rfl, _, _, _, _, _, rfl, e, T.cls_Index, T.at_Index_name, rfl, _, rfl, _, rfl, ?_⟩
  refine ⟨b, p, s0, B, g, j, r, st, rfl, bo.bk, bo.bv, bo.at_, ar.at_, ar.len, ar.val, hs, sv, fun H1 t e1 s1 h1 => ?_⟩
  exact ⟨_, _, _, _, rfl, rfl, SqT.of h1, at0, q _ s1⟩
def spCheckArgs (K : PySem.W.Frag) : Sp := fun vs H Q _ => ∃ i b d p B j g r, vs = [.ref i, .ref p] ∧ IxF K H i b d g.name ∧ Bo K H b B j g ∧ Ar H p r g ∧ ∀ H', Same H H' → Q .non H'
theorem M_Index_check_arguments (T : TX K mg) : Met P w K mg base 4 (He.ga K "Index") "check_arguments" (spCheckArgs K) [] := by
  have C_is_value : Cal P w K mg base 3 "is_value" spIsValue [] := SC.C_is_value T
  have M_Book_getitem : Met P w K mg base 1 (He.ga K "Book") "__getitem__" (spGet K) [] := SC.M_Book_getitem T
  obtain ⟨fd, F⟩ := T.d_Index_check_arguments
  refine metD (He.ga K "Index") "check_arguments" F T.cls_Index T.me_Index_check_arguments (b_Index_check_arguments F) .nil S_Index_check_arguments (fun vs H Q E h => ?_) (fun cdv A outer s H vs Q E hr h => ?_)
  · obtain ⟨i, b, d, p, B, j, g, r, rfl, ⟨dx, e⟩, bo, ar, q⟩ := h
    rfl
  obtain ⟨i, b, d, p, B, j, g, r, rfl, ⟨dx, e⟩, bo, ar, q⟩ := h
  refine ⟨_, (pss_cons (ps_if (PW.pt (pw_or (pt_not (pt_val (pe_callB call_isi (by rfl) T.f_isinstance v_isinstance (pa_cons (pv 1) (pa_cons (pe_bltn (v := .ty "tuple") (u := .type "tuple") (by rfl) T.f_tuple v_tuple rfl) pa_nil))))) (pw_or1 (pt_not (pt_val (pe_callB (cr_all rfl) (by rfl) T.f_all v_all (pa_cons (pe_lc (own := [("value", 2)]) (by rfl) S_Index_check_arguments.nd  (pi_tup (pv 1)) (blkOk_by (own := [("value", 2)]) (N := N_Index_check_arguments) (sc := d_Index_check_arguments.scope) (by decide +kernel)) (fun _ _ _ _ _ => (pg_name (i := 2) S_Index_check_arguments.nd rfl (Or.inl rfl))) (fun _ _ _ _ _ => pts_nil) (fun _ _ _ _ _ => (pe_c C_is_value hr (by decide) rfl (pa_cons (pv 2) pa_nil)))) pa_nil))))))) (pss_one ps_never) pss_nil)
  (pss_one (ps_if (pt_cmpR op_ne (pe_callB call_len (by rfl) T.f_len v_len (pa_cons (pv 1) pa_nil)) (pe_fld (pe_ixO M_Book_getitem (hr.mono (by decide)) (fun _ e => SC.sub_fn T.sub_Book T.me_Book_getitem e) (pe_fld (pv 0) rfl) (pe_fld (pv 0) rfl) (fun _ _ => rfl)) rfl) (nomark _)) (pss_one ps_never) pss_nil))), ?_⟩
  have hp := ar.at_
  have m2 := bo.m2
  have rl := ar.len
  refine ⟨_, rfl, _, _, _, _, _, rfl, .ty _, .base (.tup hp), kk_tuple_tuple, _, rfl, iteF ?_⟩
  refine ⟨_, rfl, p, rfl, ⟨_, SqT.of hp⟩, fun D hD => ?_⟩
  refine lcF (walk_tup (K := K)) hD (small (by rw [List.length_map]; omega)) (fun k => r[k]?.map fun j => V.bl true) (fun H2 s2 => SqT.of (s2 _ _ hp)) (fun k y H2 H3 No Ye hk s2 y1 no ye => ?_) fun H2 s2 h2 => ?_
  · obtain ⟨rfl, ey⟩ := y1
    rw [List.getElem?_map] at ey
    cases ek : r[k]? with
    | none => rw [ek] at ey; cases ey
    | some z =>
      rw [ek] at ey
      cases ey
      refine ⟨rfl, ty ⟨_, rfl, _, rfl, .inl ⟨z, rfl, ?_⟩⟩⟩
      rw [decide_eq_true (ar.val z (List.mem_of_getElem? ek))]
      exact ye _ (by rw [ek]; rfl) _ (Same.refl _)
  · rw [List.length_map, show (List.range r.length).filterMap (fun k => r[k]?.map fun j => V.bl true) = (r.map fun _ => true).map V.bl by rw [fm_map, List.map_map]; rfl] at h2
    refine ⟨_, _, rfl, SqL.of h2, _, rfl, if_off (b := !((r.map fun _ => true).all id)) (by rw [show (r.map fun _ => true).all id = true by rw [List.all_map, List.all_eq_true]; exact fun _ _ => rfl]; rfl) ?_⟩
    have bo2 := bo.same s2
    have e2 := s2 _ _ e
    obtain ⟨dxb, _, _, _, _, eb, _⟩ := id bo2.bk
    refine ⟨_, rfl, _, _, rfl, .inr ⟨_, SqT.of (s2 _ _ hp), rfl⟩, ?_⟩
    refine ⟨_, rfl, _, _, _, _, _, rfl, e2, T.cls_Index, T.at_Index_book, rfl, _, rfl, _, _, _, _, _, rfl, e2, T.cls_Index, T.at_Index_name, rfl, b, dxb, _, rfl, eb, b, g.name, B, g, rfl, bo2.bk, bo.get, fun fa hfa => ?_⟩
    obtain ⟨dxf, _, _, _, ef, _⟩ := hfa
    exact ⟨_, _, _, _, _, rfl, ef, T.cls_Function, T.at_Function_arguments, rfl, rfl, _, rfl, neF (by rw [List.length_map, rl]) (q _ s2)⟩
def spIxLen (K : PySem.W.Frag) : Sp := fun vs H Q _ => ∃ i b d x td, vs = [.ref i] ∧ IxF K H i b d x ∧ H d = some (.dT (tdv td)) ∧ Q (.int (td.length : Nat)) H
theorem M_Index_len (T : TX K mg) : Met P w K mg base 1 (He.ga K "Index") "__len__" (spIxLen K) [] := by
  obtain ⟨fd, F⟩ := T.d_Index_len
  refine metD (He.ga K "Index") "__len__" F T.cls_Index T.me_Index_len (b_Index_len F) .nil S_Index_len (fun vs H Q E h => ?_) (fun cdv A outer s H vs Q E hr h => ?_)
  · obtain ⟨i, b, d, x, td, rfl, ⟨dx, e⟩, hd, q⟩ := h
    rfl
  obtain ⟨i, b, d, x, td, rfl, ⟨dx, e⟩, hd, q⟩ := h
  refine ⟨_, (pss_one (ps_ret (pe_callB call_len_dT (by rfl) T.f_len v_len (pa_cons (pe_fld (pv 0) rfl) pa_nil)))), ?_⟩
  refine ⟨_, rfl, _, _, _, _, _, rfl, e, T.cls_Index, T.at_Index_told, rfl, d, _, rfl, hd, ?_⟩
  rw [List.length_map, List.length_map]
  exact q
def spIxGet (K : PySem.W.Frag) : Sp := fun vs H Q _ => ∃ i b d p B j g r td v, vs = [.ref i, .ref p] ∧ IxF K H i b d g.name ∧ Bo K H b B j g ∧ Ar H p r g ∧ H d = some (.dT (tdv td)) ∧ tget td r = some v ∧ ∀ H', Same H H' → Q (.int v) H'
theorem M_Index_getitem (T : TX K mg) : Met P w K mg base 5 (He.ga K "Index") "__getitem__" (spIxGet K) [] := by
  have M_Index_check_arguments : Met P w K mg base 4 (He.ga K "Index") "check_arguments" (spCheckArgs K) [] := SC.M_Index_check_arguments T
  obtain ⟨fd, F⟩ := T.d_Index_getitem
  refine metD (He.ga K "Index") "__getitem__" F T.cls_Index T.me_Index_getitem (b_Index_getitem F) .nil S_Index_getitem (fun vs H Q E h => ?_) (fun cdv A outer s H vs Q E hr h => ?_)
  · obtain ⟨i, b, d, p, B, j, g, r, td, v, rfl, ix, bo, ar, hd, hv, q⟩ := h
    rfl
  obtain ⟨i, b, d, p, B, j, g, r, td, v, rfl, ix, bo, ar, hd, hv, q⟩ := h
  refine ⟨_, (pss_cons (ps_expr (pe_mt M_Index_check_arguments hr (by decide) (pv 0) (pa_cons (pv 1) pa_nil)))
  (pss_one (ps_ret (pe_dget (hu_of hr) (pe_fld (pv 0) rfl) (pv 1) (fun _ _ => rfl))))), ?_⟩
  obtain ⟨dx, e⟩ := id ix
  refine ⟨_, rfl, i, dx, _, rfl, e, rfl, _, rfl, i, b, d, p, B, j, g, r, rfl, ix, bo, ar, fun H1 s1 => ?_⟩
  have dg := DGet.t (s1 _ _ hd) (kI_tup (s1 _ _ ar.at_))
  rw [tget_kv, hv] at dg
  exact ⟨_, rfl, _, _, _, _, _, rfl, s1 _ _ e, T.cls_Index, T.at_Index_told, rfl, _, rfl, _, _, rfl, dg, q _ s1⟩
def spIxEnt (K : PySem.W.Frag) : Sp := fun vs H Q _ => ∃ i b d x td m, vs = [.ref i] ∧ IxF K H i b d x ∧ H d = some (.dT (tdv td)) ∧ td.map (·.1) = tups m ∧ m ≤ 2 ∧ ∀ H' p, Same H H' → H p = none → H' p = some (.dT (tdv td)) → Q (.ref p) H'
theorem M_Index_entries (T : TX K mg) : Met P w K mg base 1 (He.ga K "Index") "entries" (spIxEnt K) [] := by
  obtain ⟨fd, F⟩ := T.d_Index_entries
  refine metD (He.ga K "Index") "entries" F T.cls_Index T.me_Index_entries (b_Index_entries F) .nil S_Index_entries (fun vs H Q E h => ?_) (fun cdv A outer s H vs Q E hr h => ?_)
  · obtain ⟨i, b, d, x, td, m, rfl, ⟨dx, e⟩, hd, hk, m2, q⟩ := h
    rfl
  obtain ⟨i, b, d, x, td, m, rfl, ⟨dx, e⟩, hd, hk, m2, q⟩ := h
  refine ⟨_, (pss_one (ps_ret (pe_callTy (call_dictT (hu2 hr)) (by rfl) T.f_dict v_dict (pa_cons (pe_fld (pv 0) rfl) pa_nil)))), ?_⟩
  refine ⟨_, rfl, _, _, _, _, _, rfl, e, T.cls_Index, T.at_Index_told, rfl, d, _, rfl, .inl hd, ?_, fun p hp => q _ p (same_upd hp) hp upd_same⟩
  rw [tdv_keys, hk]
  exact apart_tups _ m2
end
end SC

set_option Elab.async false
set_option linter.all false
set_option maxRecDepth 100000
set_option maxHeartbeats 4000000
namespace SC
open PySem PySem.Spec PyProof.Rows L2
open C8 (Cal Met Mak pe_c pe_mk pe_mt pe_mt0 pe_gc InsC)
open C8 (call_isC)
theorem tl_inj : ∀ {l m : TD}, tl l = tl m → l = m
  | [], [], _ => rfl
  | [], _ :: _, h => by cases h
  | _ :: _, [], h => by cases h
  | x :: r, y :: q, h => by
    rw [tl, tl, List.map_cons, List.map_cons] at h
    injection h with h1 h2
    injection h1 with h3 h4
    rw [tl_inj (l := r) (m := q) h2, show x = y from Prod.ext (kI_inj h3) h4]
theorem nf_self {K : PySem.W.Frag} {C : Addr} : PySem.W.notFirst K C (.ref C) = true := by
  unfold PySem.W.notFirst
  rw [beq_self_eq_true, Bool.true_or]
theorem dT_firm0 {K : PySem.W.Frag} {kvs : List (List Key × V)} : ¬ Firm0 K (.dT kvs) := fun h => h
theorem frz_firm0 {K : PySem.W.Frag} {o : Obj} {u : HO} : ¬ Firm0 K (.frz o u) := fun h => h
/-- the tuples of the entries that P tells -/
def tsel (P : List Int × Int → Bool) (td : TD) : List (List Int) := td.filterMap fun p => if P p = true then some p.1 else none
theorem tdv_at {td : TD} {k : Nat} {kk : List Key} {vv : V} (h : (tdv td)[k]? = some (kk, vv)) : ∃ p, td[k]? = some p ∧ kk = kI p.1 ∧ vv = .int p.2 := by
  rw [List.getElem?_map, List.getElem?_map] at h
  cases q : td[k]? with
  | none => rw [q] at h; cases h
  | some p => rw [q] at h; cases h; exact ⟨p, rfl, rfl, rfl⟩
theorem ents_at {B : Bk} {g : Fn} {st : Sta} {i : Nat} {r : List Int} (h : (tups g.many)[i]? = some r) : (ents B g st)[i]? = some (r, ent B g st r) := by
  unfold ents
  rw [List.getElem?_map, h]
  rfl
theorem take_new {m : Nat} (hm : m ≤ 2) {i : Nat} {r : List Int} (h : (tups m)[i]? = some r) : r ∉ (tups m).take i := by
  intro hr
  obtain ⟨j, hj, ej⟩ := mem_take_at hr
  have nd := tups_nodup hm
  rw [List.nodup_iff_pairwise_ne, List.pairwise_iff_getElem] at nd
  obtain ⟨h1, h2⟩ := List.getElem?_eq_some_iff.mp h
  obtain ⟨h3, h4⟩ := List.getElem?_eq_some_iff.mp ej
  exact nd j i h3 h1 hj (by rw [h2, h4])
section
variable {P : Program} {w : World} {K : PySem.W.Frag} {mg : Str → Option Value} {base : Heap}
def spIndex (K : PySem.W.Frag) : Sp := fun vs H Q _ => ∃ a dx b s B j g st H0, vs = [.ref a, .ref b, .str g.name, .ref s] ∧ H a = some (.ins (He.ga K "Index") dx []) ∧ Same H0 H ∧ H0 a = none ∧ Bo K H0 b B j g ∧ StAt H0 s st ∧ Sv (B.cells.map (·.1)) st ∧
  ∀ H' d, Same H0 H' → IxF K H' a b d g.name → H' d = some (.dT (tdv (ents B g st))) → H0 d = none → Q .non H'
theorem K_Index (T : TX K mg) : Mak P w K mg base 12 "Index" (He.ga K "Index") (spIndex K) [] := by
  have C_check_state : Cal P w K mg base 4 "check_state" (spCheckState K) [] := SC.C_check_state T
  have C_tuples_of : Cal P w K mg base 1 "tuples_of" spTuples [] := SC.C_tuples_of T
  have M_Book_all_cells : Met P w K mg base 1 (He.ga K "Book") "all_cells" (spCells K) [] := SC.M_Book_all_cells T
  have M_Book_getitem : Met P w K mg base 1 (He.ga K "Book") "__getitem__" (spGet K) [] := SC.M_Book_getitem T
  have M_Book_reaches : Met P w K mg base 6 (He.ga K "Book") "reaches" (spReaches K) [] := SC.M_Book_reaches T
  have M_Index_value_on : Met P w K mg base 11 (He.ga K "Index") "value_on" (spValueOn K) [] := SC.M_Index_value_on T
  obtain ⟨fd, F⟩ := T.d_Index_init
  refine makD "Index" (He.ga K "Index") F T.mk_Index T.g_Index (b_Index_init F) .nil S_Index_init (fun vs H Q E h => ?_) (fun cdv A outer s H vs Q E hr h => ?_)
  · obtain ⟨a, dx, b, s, B, j, g, st, H0, rfl, e, s0, a0, bo0, hs0, sv, q⟩ := h
    rfl
  obtain ⟨a, dx, b, s, B, j, g, st, H0, rfl, e, s0, a0, bo0, hs0, sv, q⟩ := h
  refine ⟨_, (pss_cons (ps_expr (pe_mt M_Book_reaches hr (by decide) (pv 1) (pa_cons (pv 2) pa_nil)))
  (pss_cons (ps_expr (pe_c C_check_state hr (by decide) rfl (pa_cons (pe_mt0 M_Book_all_cells hr (by decide) (pv 1)) (pa_cons (pv 3) pa_nil))))
  (pss_cons (ps_fld (pv 0) (pv 1) rfl)
  (pss_cons (ps_fld (pv 0) (pv 2) rfl)
  (pss_cons (ps_fld (pv 0) pe_dnewT rfl)
  (pss_one (ps_for PassesOwn.never rfl (pi_list (pe_c C_tuples_of hr (by decide) rfl (pa_cons (pe_fld (pe_ixO M_Book_getitem (hr.mono (by decide)) (fun _ e => SC.sub_fn T.sub_Book T.me_Book_getitem e) (pv 1) (pv 2) (fun _ _ => rfl)) rfl) pa_nil))) (pg_name (i := 4) S_Index_init.nd rfl (Or.inl rfl))
    (pss_one (ps_dput (hu_of hr) (pe_fld (pv 0) rfl) (pv 4) (pe_mt M_Index_value_on hr (by decide) (pv 0) (pa_cons (pv 4) (pa_cons (pv 3) pa_nil))) rfl))))))))), ?_⟩
  have sj : ∀ H', But a H H' → Same H0 H' := fun H' b => But.same b s0 a0
  have m2 := bo0.m2
  have bo := bo0.same s0
  obtain ⟨dxb, _, _, _, _, eb, _⟩ := id bo.bk
  refine ⟨_, rfl, b, dxb, _, rfl, eb, rfl, _, rfl, b, g.name, B, g, rfl, bo.bk, bo.bv, bo.get, fun H1 p1 s1 => ?_⟩
  have bo1 := bo.same s1
  obtain ⟨dxb1, _, _, _, _, eb1, _⟩ := id bo1.bk
  refine ⟨_, rfl, b, dxb1, _, rfl, eb1, rfl, b, B, rfl, bo1.bk, fun H2 pc cs s2 h2 hc => ?_⟩
  refine ⟨_, rfl, pc, s, cs, B.cells, st, rfl, h2, hc, s2 _ _ (s1 _ _ (s0 _ _ hs0)), sv, bo0.bv.cl, ?_⟩
  have b2 : But a H H2 := Same.but (s1.trans s2)
  refine ⟨_, rfl, _, rfl, a, _, dx, _, rfl, s2 _ _ (s1 _ _ e), T.cls_Index, T.at_Index_book, by show 0 < 1000; decide, ?_⟩
  refine ⟨_, rfl, _, rfl, a, _, dx, _, rfl, upd_same, T.cls_Index, T.at_Index_name, by show 1 < 1000; decide, ?_⟩
  refine fun d hd => ?_
  have nd : a ≠ d := fun z => by rw [← z, upd_same] at hd; cases hd
  refine ⟨_, rfl, a, _, dx, _, rfl, by rw [upd_ne nd]; exact upd_same, T.cls_Index, T.at_Index_told, by show 2 < 1000; decide, ?_⟩
  have hd2 : H2 d = none := by
    rw [upd_ne (Ne.symm nd), upd_ne (Ne.symm nd)] at hd
    exact hd
  have h0d : H0 d = none := by
    cases z : H0 d with
    | none => rfl
    | some o => rw [s2 _ _ (s1 _ _ (s0 _ _ z))] at hd2; cases hd2
  obtain ⟨dx0, p0, q0, cs0, fs0, eb0, _⟩ := id bo0.bk
  refine ⟨_, rfl, _, rfl, b, dx0, _, rfl, (sj _ ((((b2.trans But.upd).trans But.upd).trans (Same.but (same_upd hd))).trans But.upd)) _ _ eb0, b, g.name, B, g, rfl, (Same.keep0 (K := K) (sj _ ((((b2.trans But.upd).trans But.upd).trans (Same.but (same_upd hd))).trans But.upd))).bk bo0.bk, bo0.get, fun fa hfa => ?_⟩
  obtain ⟨dxf, _, _, _, ef, _⟩ := hfa
  refine ⟨_, _, _, _, _, rfl, ef, T.cls_Function, T.at_Function_arguments, rfl, g.many, rfl, m2, fun H6 p6 ys s6 h6 py => ?_⟩
  have S6 : Same H0 H6 := (sj _ ((((b2.trans But.upd).trans But.upd).trans (Same.but (same_upd hd))).trans But.upd)).trans s6
  have ix6 : IxF K H6 a b d g.name := ⟨dx, s6 _ _ upd_same⟩
  have t6 : H6 d = some (.dT []) := s6 _ _ (by rw [upd_ne (Ne.symm nd)]; exact upd_same)
  refine ⟨p6, rfl, ⟨_, SqL.of h6⟩, ?_⟩
  have n6 : p6 ≠ d := ne_of h6 t6 (by intro z; cases z)
  have ly := Paired.length py
  have lt : (tups g.many).length ≤ 9 := by
    rw [tups_len]
    exact Nat.le_trans (Nat.pow_le_pow_right (by decide) m2) (by decide)
  refine for_it (walk_list (K := K) (xs := ys)) (fun i σ H1 => Same H0 H1 ∧ IxF K H1 a b d g.name ∧ H1 d = some (.dT (tdv ((ents B g st).take i))) ∧ H1 p6 = some (.lst ys) ∧ Paired (TuAt H1) ys (tups g.many) ∧ ∃ z, σ = [some (.ref a), some (.ref b), some (.str g.name), some (.ref s), z]) ⟨S6, ix6, t6, h6, py, _, rfl⟩ (fun i σ H1 _ p => SqL.of p.2.2.2.1) (fun i v σ H1 H3 hi pv y1 => ?_) fun σ H1 pv => ?_
  · obtain ⟨S7, ⟨dx7, e7⟩, t7, h7, py7, z, rfl⟩ := pv
    obtain ⟨rfl, ey⟩ := y1
    obtain ⟨r, er, pa, rfl, ha⟩ := paired_get py7 ey
    have ar := tups_ar ha (List.mem_of_getElem? er)
    refine ⟨_, rfl, a, dx7, _, rfl, e7, rfl, _, rfl, _, rfl, a, b, d, pa, s, B, j, g, r, st, rfl, ⟨dx7, e7⟩, bo0.same S7, ar, S7 _ _ hs0, sv, fun H8 s8 => ?_⟩
    have t8 := s8 _ _ t7
    have e8 := s8 _ _ e7
    have ha8 := s8 _ _ ha
    have S8 := S7.trans s8
    refine ⟨_, rfl, _, _, _, _, _, rfl, e8, T.cls_Index, T.at_Index_told, rfl, _, rfl, d, _, rfl, DPut.t t8 (kI_tup ha8) (small' ?_), ?_⟩
    · rw [List.length_map, List.length_map, List.length_take]
      unfold ents
      rw [List.length_map]
      omega
    · have k8 : Keep0 K H8 (upd H8 d (.dT (putK (tdv ((ents B g st).take i)) (kI r) (.int (ent B g st r))))) := keep0_upd t8 dT_firm0
      refine ⟨Same.of_upd S8 h0d, ⟨dx7, ?_⟩, ?_, ?_, Paired.mapP py7 fun _ _ h => k8.tu ((Same.keep0 (K := K) s8).tu h), _, rfl⟩
      · rw [upd_ne (ne_of e8 t8 (by intro z; cases z))]
        exact e8
      · rw [upd_same, tput_kv, tput_new (by rw [List.map_take, ents_keys]; exact take_new m2 er), take_snoc (ents_at er)]
      · rw [upd_ne n6]
        exact s8 _ _ h7
  · obtain ⟨S7, ix7, t7, _, _, z, rfl⟩ := pv
    rw [ly, List.take_of_length_le (by unfold ents; rw [List.length_map]; exact Nat.le_refl _)] at t7
    exact q _ d S7 ix7 t7 h0d
def spIxEq (K : PySem.W.Frag) : Sp := fun vs H Q _ => ∃ i o b d x B td, vs = [.ref i, .ref o] ∧ IxF K H i b d x ∧ BkAt K H b B ∧ H d = some (.dT (tdv td)) ∧
  ((o = b ∧ Q (.bl false) H) ∨ ∃ d2 td2, IxF K H o b d2 x ∧ H d2 = some (.dT (tdv td2)) ∧ td.map (·.1) = td2.map (·.1) ∧ Q (.bl (decide (td = td2))) H)
theorem M_Index_eq (T : TX K mg) : Met P w K mg base 3 (He.ga K "Index") "__eq__" (spIxEq K) [] := by
  have M_Book_eq : Met P w K mg base 1 (He.ga K "Book") "__eq__" (spBkEq K) [] := SC.M_Book_eq T
  obtain ⟨fd, F⟩ := T.d_Index_eq
  refine metD (He.ga K "Index") "__eq__" F T.cls_Index T.me_Index_eq (b_Index_eq F) .nil S_Index_eq (fun vs H Q E h => ?_) (fun cdv A outer s H vs Q E hr h => ?_)
  · obtain ⟨i, o, b, d, x, B, td, rfl, ⟨dx, e⟩, hb, hd, _⟩ := h
    rfl
  obtain ⟨i, o, b, d, x, B, td, rfl, ⟨dx, e⟩, hb, hd, h⟩ := h
  refine ⟨_, (pss_cons (ps_if (PW.pt (pw_or (pt_not (pt_val (pe_callB call_isi (by rfl) T.f_isinstance v_isinstance (pa_cons (pv 1) (pa_cons (pe_glob (v := .ref (He.ga K "Index")) rfl T.g_Index rfl) pa_nil))))) (pw_or1 (pt_cmpR (op_neOwn M_Book_eq (hr.mono (by decide)) T.i_Book.hm T.ne_Book) (pe_fld (pv 0) rfl) (pe_fld (pv 1) rfl) (nomark _))))) (pss_one (ps_ret pe_bl)) pss_nil)
  (pss_one (ps_ret (pe_and (pe_cmpR op_eq (pe_fld (pv 0) rfl) (pe_fld (pv 1) rfl) (nomark _)) (pe_one (pe_cmpR (op_eqT (hu_of hr)) (pe_fld (pv 0) rfl) (pe_fld (pv 1) rfl) (nomark _))))))), ?_⟩
  rcases h with ⟨rfl, q⟩ | ⟨d2, td2, ⟨dx2, e2⟩, hd2, hk, q⟩
  · obtain ⟨dxb, _, _, _, _, eb, _⟩ := id hb
    exact ⟨_, rfl, _, _, _, _, _, rfl, .own _, .base (.ins eb T.i_Book.cl T.i_Book.ha T.i_Book.hn T.i_Book.htk T.i_Book.hm), T.isi_Book_Index, _, rfl, iteT (iteT q)⟩
  · obtain ⟨dxb, _, _, _, _, eb, _⟩ := id hb
    refine ⟨_, rfl, _, _, _, _, _, rfl, .own _, .base (.ins e2 T.i_Index.cl T.i_Index.ha T.i_Index.hn T.i_Index.htk T.i_Index.hm), T.i_Index.me, _, rfl, iteF ?_⟩
    refine ⟨_, rfl, _, _, _, _, _, rfl, e, T.cls_Index, T.at_Index_book, rfl, _, rfl, _, _, _, _, _, rfl, e2, T.cls_Index, T.at_Index_book, rfl, b, dxb, b, _, dxb, _, _, rfl, rfl, eb, eb, nf_self, b, B, rfl, hb, true, rfl, _, rfl, iteF ?_⟩
    refine ⟨_, rfl, _, _, _, _, _, rfl, e, T.cls_Index, T.at_Index_name, rfl, _, rfl, _, _, _, _, _, rfl, e2, T.cls_Index, T.at_Index_name, rfl, rfl, _, rfl, iteD rfl ?_⟩
    refine ⟨_, rfl, _, _, _, _, _, rfl, e, T.cls_Index, T.at_Index_told, rfl, _, rfl, _, _, _, _, _, rfl, e2, T.cls_Index, T.at_Index_told, rfl, d, d2, tl td, tl td2, rfl, rfl, hd, hd2, ?_, ?_⟩
    · have z := congrArg (List.map kI) hk
      rw [List.map_map, List.map_map] at z
      rw [List.map_map, List.map_map]
      exact z
    · rw [show decide (tl td = tl td2) = decide (td = td2) from decide_eq_decide.mpr ⟨tl_inj, fun z => congrArg tl z⟩]
      exact q
def spIxFind (K : PySem.W.Frag) : Sp := fun vs H Q _ => ∃ i b d x td v, vs = [.ref i, .int v] ∧ IxF K H i b d x ∧ H d = some (.dT (tdv td)) ∧ (td.map (·.1)).Nodup ∧ td.length ≤ 9 ∧ 0 ≤ v ∧ v ≤ 2 ∧
  ∀ H' p ys, Same H H' → H p = none → H' p = some (.lst ys) → Paired (TuAt H') ys (tsel (fun e => decide (e.2 = v)) td) → Q (.ref p) H'
theorem M_Index_find (T : TX K mg) : Met P w K mg base 4 (He.ga K "Index") "find" (spIxFind K) [] := by
  have C_is_value : Cal P w K mg base 3 "is_value" spIsValue [] := SC.C_is_value T
  obtain ⟨fd, F⟩ := T.d_Index_find
  refine metD (He.ga K "Index") "find" F T.cls_Index T.me_Index_find (b_Index_find F) .nil S_Index_find (fun vs H Q E h => ?_) (fun cdv A outer s H vs Q E hr h => ?_)
  · obtain ⟨i, b, d, x, td, v, rfl, ⟨dx, e⟩, hd, nd, l9, v0, v2, q⟩ := h
    rfl
  obtain ⟨i, b, d, x, td, v, rfl, ⟨dx, e⟩, hd, nd, l9, v0, v2, q⟩ := h
  refine ⟨_, (pss_cons (ps_if (pt_not (pt_val (pe_c C_is_value hr (by decide) rfl (pa_cons (pv 1) pa_nil)))) (pss_one ps_never) pss_nil)
  (pss_one (ps_ret (pe_lock (pe_lc (own := [("arguments", 2)]) (by rfl) S_Index_find.nd  (pi_keys (pe_fld (pv 0) rfl)) (blkOk_by (own := [("arguments", 2)]) (N := N_Index_find) (sc := d_Index_find.scope) (by decide +kernel)) (fun _ _ _ _ _ => (pg_name (i := 2) S_Index_find.nd rfl (Or.inl rfl))) (fun _ _ _ _ _ => (pts_one (pt_cmpR op_eq (pe_dget (hu_of hr) (pe_fld' K rfl (pv 0) rfl) (pv 2) (fun _ _ => rfl)) (pv 1) (nomark _)))) (fun _ _ _ _ _ => (pv 2))))))), ?_⟩
  have z := (⟨v0, v2⟩ : 0 ≤ v ∧ v ≤ 2)
  refine ⟨_, rfl, _, rfl, .inl ⟨v, rfl, ?_⟩⟩
  rw [decide_eq_true z]
  refine ⟨_, rfl, iteF ?_⟩
  have ni : i ≠ d := ne_of e hd (by intro z; cases z)
  refine ⟨d, _, hd, trivial, fun od => ?_⟩
  have e1 : upd H d (.frz od (.dT (tdv td))) i = some (.ins (He.ga K "Index") dx (ixf b d x)) := by
    rw [upd_ne ni]
    exact e
  refine ⟨_, rfl, _, _, _, _, _, rfl, e1, T.cls_Index, T.at_Index_told, rfl, d, od, rfl, .inr ⟨_, upd_same, fun D hD => ?_⟩⟩
  have nD : D ≠ d := fun z => by rw [z, upd_same] at hD; cases hD
  refine lcR (K := K) walk_keysT hD (small (by rw [List.length_map, List.length_map]; omega)) TuAt (fun _ _ _ _ k h => k.tu h) (fun k => td[k]?.bind fun p => if decide (p.2 = v) = true then some p.1 else none) (fun H2 s2 => s2 _ _ upd_same) (fun k y H2 H3 No Ye hk s2 y1 no ye => ?_) fun H2 ys s2 h2 r2 => ⟨s2 _ _ upd_same, ?_⟩
  · obtain ⟨rfl, kk, vv, pa, ek, rfl, ha⟩ := y1
    obtain ⟨p, ep, rfl, rfl⟩ := tdv_at ek
    have gv := tget_mem nd (List.mem_of_getElem? ep)
    have ha2 : H3 pa = some (.tup (p.1.map V.int)) := by
      rw [show p.1.map V.int = (kI p.1).map kV by unfold kI; rw [List.map_map]; rfl]
      exact ha
    have ev : valV (tdv td) (kI p.1) = some (.int p.2) := by rw [tget_kv, gv]; rfl
    have dg : DGet H3 d (.ref pa) (some (.int p.2)) := .inr ⟨tdv td, kI p.1, pa, .inr ⟨od, s2 _ _ upd_same⟩, rfl, ha, ev.symm⟩
    refine ⟨rfl, _, rfl, _, _, _, _, _, rfl, s2 _ _ e1, T.cls_Index, T.at_Index_told, rfl, _, rfl, _, _, rfl, dg, _, rfl, rfl, _, rfl, ?_⟩
    by_cases h : p.2 = v
    · exact iteD (congrArg V.int h) ⟨_, rfl, ye p.1 (by rw [ep]; exact if_pos (decide_eq_true h)) _ _ (Same.refl _) ⟨pa, rfl, ha2⟩⟩
    · exact iteDN (fun z => h (by injection z)) (no (by rw [ep]; exact if_neg (by simpa using h)) _ (Same.refl _))
  · have s3 := lock_same hd s2
    have hHD : H D = none := by
      rw [upd_ne nD] at hD
      exact hD
    refine q _ D ys s3 hHD (by rw [upd_ne nD]; exact h2) ?_
    have k3 : Keep0 K H2 (upd H2 d (.dT (tdv td))) := keep0_upd (s2 _ _ upd_same) frz_firm0
    have r3 := Paired.mapP r2 fun _ _ h => k3.tu h
    rw [List.length_map, List.length_map, fm_get] at r3
    exact r3
def spIxWrong (K : PySem.W.Frag) : Sp := fun vs H Q _ => ∃ i b d s B j g td st, vs = [.ref i, .ref s] ∧ IxF K H i b d g.name ∧ Bo K H b B j g ∧ H d = some (.dT (tdv td)) ∧ td.map (·.1) = tups g.many ∧ StAt H s st ∧ Sv (B.cells.map (·.1)) st ∧
  ∀ H' p ys, Same H H' → H p = none → H' p = some (.lst ys) → Paired (TuAt H') ys (tsel (fun e => !decide (e.2 = ent B g st e.1)) td) → Q (.ref p) H'
theorem M_Index_wrong (T : TX K mg) : Met P w K mg base 12 (He.ga K "Index") "wrong" (spIxWrong K) [] := by
  have C_check_state : Cal P w K mg base 4 "check_state" (spCheckState K) [] := SC.C_check_state T
  have M_Book_all_cells : Met P w K mg base 1 (He.ga K "Book") "all_cells" (spCells K) [] := SC.M_Book_all_cells T
  have M_Index_value_on : Met P w K mg base 11 (He.ga K "Index") "value_on" (spValueOn K) [] := SC.M_Index_value_on T
  obtain ⟨fd, F⟩ := T.d_Index_wrong
  refine metD (He.ga K "Index") "wrong" F T.cls_Index T.me_Index_wrong (b_Index_wrong F) .nil S_Index_wrong (fun vs H Q E h => ?_) (fun cdv A outer s H vs Q E hr h => ?_)
  · obtain ⟨i, b, d, s0, B, j, g, td, st, rfl, ⟨dx, e⟩, bo, hd, hk, hs, sv, q⟩ := h
    rfl
  obtain ⟨i, b, d, s0, B, j, g, td, st, rfl, ⟨dx, e⟩, bo, hd, hk, hs, sv, q⟩ := h
  refine ⟨_, (pss_cons (ps_expr (pe_c C_check_state hr (by decide) rfl (pa_cons (pe_mt0 M_Book_all_cells hr (by decide) (pe_fld (pv 0) rfl)) (pa_cons (pv 1) pa_nil))))
  (pss_one (ps_ret (pe_lock (pe_lc (own := [("arguments", 2)]) (by rfl) S_Index_wrong.nd  (pi_keys (pe_fld (pv 0) rfl)) (blkOk_by (own := [("arguments", 2)]) (N := N_Index_wrong) (sc := d_Index_wrong.scope) (by decide +kernel)) (fun _ _ _ _ _ => (pg_name (i := 2) S_Index_wrong.nd rfl (Or.inl rfl))) (fun _ _ _ _ _ => (pts_one (pt_cmpR op_ne (pe_dget (hu_of hr) (pe_fld' K rfl (pv 0) rfl) (pv 2) (fun _ _ => rfl)) (pe_mt M_Index_value_on hr (by decide) (pv 0) (pa_cons (pv 2) (pa_cons (pv 1) pa_nil))) (nomark _)))) (fun _ _ _ _ _ => (pv 2))))))), ?_⟩
  have m2 := bo.m2
  have nd : (td.map (·.1)).Nodup := by rw [hk]; exact tups_nodup m2
  have l9 : td.length ≤ 9 := by
    rw [← List.length_map (f := (·.1)) (as := td), hk, tups_len]
    exact Nat.le_trans (Nat.pow_le_pow_right (by decide) m2) (by decide)
  obtain ⟨dxb, _, _, _, _, eb, _⟩ := id bo.bk
  refine ⟨_, rfl, _, _, _, _, _, rfl, e, T.cls_Index, T.at_Index_book, rfl, b, dxb, _, rfl, eb, rfl, b, B, rfl, bo.bk, fun H1 pc cs s1 h1 hc => ?_⟩
  refine ⟨_, rfl, pc, s0, cs, B.cells, st, rfl, h1, hc, s1 _ _ hs, sv, bo.bv.cl, ?_⟩
  have hd1 := s1 _ _ hd
  have ni : i ≠ d := ne_of e hd (by intro z; cases z)
  have ns : s0 ≠ d := ne_of hs hd (by intro z; cases z)
  refine ⟨d, _, hd1, trivial, fun od => ?_⟩
  have e1 : upd H1 d (.frz od (.dT (tdv td))) i = some (.ins (He.ga K "Index") dx (ixf b d g.name)) := by
    rw [upd_ne ni]
    exact s1 _ _ e
  have hs1 : upd H1 d (.frz od (.dT (tdv td))) s0 = some (.dK (skv st)) := by
    rw [upd_ne ns]
    exact s1 _ _ hs
  have bo1 : Bo K (upd H1 d (.frz od (.dT (tdv td)))) b B j g := (bo.same s1).keep (keep0_upd hd1 dT_firm0)
  refine ⟨_, rfl, _, _, _, _, _, rfl, e1, T.cls_Index, T.at_Index_told, rfl, d, od, rfl, .inr ⟨_, upd_same, fun D hD => ?_⟩⟩
  have nD : D ≠ d := fun z => by rw [z, upd_same] at hD; cases hD
  refine lcR (K := K) walk_keysT hD (small (by rw [List.length_map, List.length_map]; omega)) TuAt (fun _ _ _ _ k h => k.tu h) (fun k => td[k]?.bind fun p => if (!decide (p.2 = ent B g st p.1)) = true then some p.1 else none) (fun H2 s2 => s2 _ _ upd_same) (fun k y H2 H3 No Ye hk3 s2 y1 no ye => ?_) fun H2 ys s2 h2 r2 => ⟨s2 _ _ upd_same, ?_⟩
  · obtain ⟨rfl, kk, vv, pa, ek, rfl, ha⟩ := y1
    obtain ⟨p, ep, rfl, rfl⟩ := tdv_at ek
    have gv := tget_mem nd (List.mem_of_getElem? ep)
    have ha2 : H3 pa = some (.tup (p.1.map V.int)) := by
      rw [show p.1.map V.int = (kI p.1).map kV by unfold kI; rw [List.map_map]; rfl]
      exact ha
    have hp : p.1 ∈ tups g.many := by rw [← hk]; exact List.mem_map.mpr ⟨p, List.mem_of_getElem? ep, rfl⟩
    have ev : valV (tdv td) (kI p.1) = some (.int p.2) := by rw [tget_kv, gv]; rfl
    have dg : DGet H3 d (.ref pa) (some (.int p.2)) := .inr ⟨tdv td, kI p.1, pa, .inr ⟨od, s2 _ _ upd_same⟩, rfl, ha, ev.symm⟩
    refine ⟨rfl, _, rfl, _, _, _, _, _, rfl, s2 _ _ e1, T.cls_Index, T.at_Index_told, rfl, _, rfl, _, _, rfl, dg, ?_⟩
    refine ⟨_, rfl, i, dx, _, rfl, s2 _ _ e1, rfl, _, rfl, _, rfl, i, b, d, pa, s0, B, j, g, p.1, st, rfl, ⟨dx, s2 _ _ e1⟩, bo1.same s2, tups_ar ha2 hp, s2 _ _ hs1, sv, fun H4 s4 => ?_⟩
    refine ⟨rfl, _, rfl, ?_⟩
    by_cases h : p.2 = ent B g st p.1
    · exact neF (congrArg V.int h) (no (by rw [ep]; exact if_neg (by rw [decide_eq_true h]; decide)) _ s4)
    · exact neT (fun z => h (by injection z)) ⟨_, rfl, ye p.1 (by rw [ep]; exact if_pos (by rw [decide_eq_false h]; rfl)) _ _ s4 ⟨pa, rfl, s4 _ _ ha2⟩⟩
  · have s3 := lock_same hd1 s2
    have hHD : H D = none := by
      rw [upd_ne nD] at hD
      cases z : H D with
      | none => rfl
      | some o => rw [s1 _ _ z] at hD; cases hD
    refine q _ D ys (s1.trans s3) hHD (by rw [upd_ne nD]; exact h2) ?_
    have k3 : Keep0 K H2 (upd H2 d (.dT (tdv td))) := keep0_upd (s2 _ _ upd_same) frz_firm0
    have r3 := Paired.mapP r2 fun _ _ h => k3.tu h
    rw [List.length_map, List.length_map, fm_get] at r3
    exact r3
def spRewrite (K : PySem.W.Frag) : Sp := fun vs H Q _ => ∃ i b d p s B j g r td st, vs = [.ref i, .ref p, .ref s] ∧ IxF K H i b d g.name ∧ Bo K H b B j g ∧ Ar H p r g ∧ r ∈ tups g.many ∧ H d = some (.dT (tdv td)) ∧ td.map (·.1) = tups g.many ∧ StAt H s st ∧ Sv (B.cells.map (·.1)) st ∧
  ∀ H' d', But i H H' → IxF K H' i b d' g.name → H' d' = some (.dT (tdv (tput td r (ent B g st r)))) → H d' = none → Q .non H'
theorem M_Index_rewrite (T : TX K mg) : Met P w K mg base 12 (He.ga K "Index") "rewrite" (spRewrite K) [] := by
  have C_check_state : Cal P w K mg base 4 "check_state" (spCheckState K) [] := SC.C_check_state T
  have M_Book_all_cells : Met P w K mg base 1 (He.ga K "Book") "all_cells" (spCells K) [] := SC.M_Book_all_cells T
  have M_Index_check_arguments : Met P w K mg base 4 (He.ga K "Index") "check_arguments" (spCheckArgs K) [] := SC.M_Index_check_arguments T
  have M_Index_value_on : Met P w K mg base 11 (He.ga K "Index") "value_on" (spValueOn K) [] := SC.M_Index_value_on T
  obtain ⟨fd, F⟩ := T.d_Index_rewrite
  refine metD (He.ga K "Index") "rewrite" F T.cls_Index T.me_Index_rewrite (b_Index_rewrite F) .nil S_Index_rewrite (fun vs H Q E h => ?_) (fun cdv A outer s H vs Q E hr h => ?_)
  · obtain ⟨i, b, d, p, s0, B, j, g, r, td, st, rfl, ⟨dx, e⟩, bo, ar, hr3, hd, hk, hs, sv, q⟩ := h
    rfl
  obtain ⟨i, b, d, p, s0, B, j, g, r, td, st, rfl, ⟨dx, e⟩, bo, ar, hr3, hd, hk, hs, sv, q⟩ := h
  refine ⟨_, (pss_cons (ps_expr (pe_mt M_Index_check_arguments hr (by decide) (pv 0) (pa_cons (pv 1) pa_nil)))
  (pss_cons (ps_expr (pe_c C_check_state hr (by decide) rfl (pa_cons (pe_mt0 M_Book_all_cells hr (by decide) (pe_fld (pv 0) rfl)) (pa_cons (pv 2) pa_nil))))
  (pss_one (ps_fld (pv 0) (pe_mergeT (hu_of hr) (pe_fld (pv 0) rfl) (pv 1) (pe_mt M_Index_value_on hr (by decide) (pv 0) (pa_cons (pv 1) (pa_cons (pv 2) pa_nil)))) rfl)))), ?_⟩
  have m2 := bo.m2
  have l9 : td.length ≤ 9 := by
    rw [← List.length_map (f := (·.1)) (as := td), hk, tups_len]
    exact Nat.le_trans (Nat.pow_le_pow_right (by decide) m2) (by decide)
  have tn : td ≠ [] := fun z => by
    rw [z] at hk
    rw [← hk] at hr3
    cases hr3
  refine ⟨_, rfl, i, dx, _, rfl, e, rfl, _, rfl, i, b, d, p, B, j, g, r, rfl, ⟨dx, e⟩, bo, ar, fun H1 s1 => ?_⟩
  have bo1 := bo.same s1
  obtain ⟨dxb, _, _, _, _, eb, _⟩ := id bo1.bk
  refine ⟨_, rfl, _, _, _, _, _, rfl, s1 _ _ e, T.cls_Index, T.at_Index_book, rfl, b, dxb, _, rfl, eb, rfl, b, B, rfl, bo1.bk, fun H2 pc cs s2 h2 hc => ?_⟩
  have s12 := s1.trans s2
  refine ⟨_, rfl, pc, s0, cs, B.cells, st, rfl, h2, hc, s12 _ _ hs, sv, bo.bv.cl, ?_⟩
  refine fun n hn => ?_
  have s3 := s12.trans (same_upd (o := .dT []) hn)
  refine ⟨_, rfl, _, _, _, _, _, rfl, s3 _ _ e, T.cls_Index, T.at_Index_told, rfl, d, tdv td, rfl, upd_same, .inl (s3 _ _ hd), ?_, ?_, fun m hm => ?_⟩
  · intro z
    exact tn (List.map_eq_nil_iff.mp (List.map_eq_nil_iff.mp z))
  · rw [tdv_keys, hk]
    exact apart_tups _ m2
  · have hHn : H n = none := by
      cases z : H n with
      | none => rfl
      | some o => rw [s12 _ _ z] at hn; cases hn
    have s4 : Same H (upd (upd H2 n (.dT [])) n (.dT (tdv td))) := Same.of_upd s3 hHn
    have s5 := s4.trans (same_upd (o := .dT []) hm)
    have nm : n ≠ m := ne_of_none upd_same hm
    have n5 : upd (upd (upd H2 n (.dT [])) n (.dT (tdv td))) m (.dT []) n = some (.dT (tdv td)) := by
      rw [upd_ne nm]
      exact upd_same
    refine ⟨_, rfl, _, rfl, i, dx, _, rfl, s5 _ _ e, rfl, _, rfl, _, rfl, i, b, d, p, s0, B, j, g, r, st, rfl, ⟨dx, s5 _ _ e⟩, bo.same s5, ar.same s5, s5 _ _ hs, sv, fun H6 s6 => ?_⟩
    have s06 := s5.trans s6
    refine ⟨s6 _ _ n5, s6 _ _ upd_same, p, kI r, rfl, kI_tup (s06 _ _ ar.at_), small' (by rw [List.length_map, List.length_map]; omega), ?_⟩
    have hHm : H m = none := by
      cases z : H m with
      | none => rfl
      | some o => rw [s4 _ _ z] at hm; cases hm
    have s7 : Same H (upd (upd H6 m (.dT [(kI r, .int (ent B g st r))])) n (.dT (putK (tdv td) (kI r) (.int (ent B g st r))))) := Same.of_upd (Same.of_upd s06 hHm) hHn
    refine ⟨_, rfl, i, _, dx, _, rfl, s7 _ _ e, T.cls_Index, T.at_Index_told, by show 3 < 1000; decide, ?_⟩
    have fin : ∀ H', But i H H' → H' i = some (.ins (He.ga K "Index") dx (ixf b n g.name)) → H' n = some (.dT (tdv (tput td r (ent B g st r)))) → Q .non H' := fun H' b e h => q H' n b ⟨dx, e⟩ h hHn
    refine fin _ ((Same.but s7).trans But.upd) upd_same ?_
    have ni : n ≠ i := fun z => by
      rw [z, e] at hHn
      cases hHn
    rw [upd_ne ni, upd_same, tput_kv]
end
end SC

set_option Elab.async false
set_option linter.all false
set_option maxRecDepth 100000
set_option maxHeartbeats 4000000
namespace SC
open PySem PySem.Spec PyProof.Rows L2
open C8 (Cal Met Mak pe_c pe_mk pe_mt pe_mt0 pe_gc InsC)
/-! ### the law's own: draws -/
theorem bit_rng (b : Bool) : -(2 ^ 64) < (if b = true then (1 : Int) else 0) ∧ (if b = true then (1 : Int) else 0) < 2 ^ 64 := by
  cases b <;> exact ⟨by decide, by decide⟩
theorem bit_nn (b : Bool) : 0 ≤ (if b = true then (1 : Int) else 0) := by cases b <;> decide
theorem abs_nn (c : Int) : 0 ≤ (if c < 0 then -c else c) := by
  by_cases h : c < 0
  · rw [if_pos h]; omega
  · rw [if_neg h]; omega
theorem mod_rng (x : Int) : -(2 ^ 64) < x % 2147483647 ∧ x % 2147483647 < 2 ^ 64 := by
  have h1 := Int.emod_nonneg x (b := 2147483647) (by decide)
  have h2 := Int.emod_lt_of_pos x (b := 2147483647) (by decide)
  exact ⟨by omega, by omega⟩
theorem cut63 (ns : List Int) : ∃ ms : List Int, cutV (ns.map V.int) none (some 63) = ms.map V.int := by
  unfold cutV
  rw [← List.map_drop, ← List.map_take]
  exact ⟨_, rfl⟩
theorem refs_ne_pool {cs : List Addr} {i j : Int} : cs.map V.ref ≠ [V.int i, V.int j] := fun e => by
  cases cs with
  | nil => cases e
  | cons c r => injection e with e1 _; cases e1
section
variable {P : Program} {w : World} {K : PySem.W.Frag} {mg : Str → Option Value} {base : Heap}
def spPool (K : PySem.W.Frag) : Sp := fun vs H Q _ => ∃ l, ∃ ns : List Int, ∃ k : Nat, vs = [.ref l, .int k] ∧ SqL K H l (ns.map V.int) ∧ k ≤ 3 ∧ ∀ H' p, Same H H' → H p = none → PoolAt H' p → Q (.ref p) H'
theorem C_law_pool (T : TX K mg) : Cal P w K mg base 1 "_law_pool" (spPool K) [] := by
  obtain ⟨fd, F⟩ := T.d_law_pool
  refine calD "_law_pool" F T.g_law_pool (b_law_pool F) .nil S_law_pool (fun vs H Q E h => ?_) (fun cdv A outer s H vs Q E hr h => ?_)
  · obtain ⟨l, ns, k, rfl, hs, k3, q⟩ := h
    rfl
  obtain ⟨l, ns, k, rfl, hs, k3, q⟩ := h
  refine ⟨_, (pss_cons (ps_set (i := 2) S_law_pool.nd rfl (Or.inl rfl) (pe_ifExp (pt_cmpR op_lt (pv 1) (pe_callB call_len (by rfl) T.f_len v_len (pa_cons (pv 0) pa_nil)) (nomark _)) (pe_ix ix_list (pv 0) (pv 1) (fun _ _ => rfl)) (pe_op op_add (pe_op op_mul pe_int (pe_callB (cr_sum rfl) (by rfl) T.f_sum v_sum (pa_cons (pe_slice sl_list (pv 0) po_none (po_some pe_int)) pa_nil))) (pv 1))))
  (pss_cons (ps_set (i := 3) S_law_pool.nd rfl (Or.inl rfl) (pe_callB call_abs (by rfl) T.f_abs v_abs (pa_cons (pv 2) pa_nil)))
  (pss_cons (ps_set (i := 4) S_law_pool.nd rfl (Or.inl rfl) (pe_op op_add (pe_op op_add (pe_op op_add (pe_op op_mod (pe_callTy call_int1 (by rfl) T.f_int v_int (pa_cons (pv 3) pa_nil)) pe_int) (pe_op op_mul (pe_op op_mul pe_int (pv 1)) (pv 1))) (pe_op op_mul pe_int (pv 1))) pe_int))
  (pss_cons (ps_set (i := 4) S_law_pool.nd rfl (Or.inl rfl) (pe_op op_mod (pe_callTy call_int1 (by rfl) T.f_int v_int (pa_cons (pe_op op_mul (pv 4) pe_int) pa_nil)) pe_int))
  (pss_one (ps_ret (pe_lst (pa_cons (pe_op op_mul (pv 3) (pe_callTy call_int1 (by rfl) T.f_int v_int (pa_cons (pe_cmpR op_ge (pv 3) (pe_op op_pow pe_int pe_int) (nomark _)) pa_nil))) (pa_cons (pe_op op_mod (pe_callTy call_int1 (by rfl) T.f_int v_int (pa_cons (pe_op op_mul (pv 4) (pv 4)) pa_nil)) pe_int) pa_nil))))))))), ?_⟩
  refine ⟨_, rfl, _, rfl, _, _, rfl, .inl ⟨_, hs, rfl⟩, _, _, rfl, rfl, _, rfl, ?_⟩
  by_cases h : k < ns.length
  · refine iteD (by rw [List.length_map]; omega) ?_
    refine ⟨_, rfl, _, rfl, _, _, _, _, rfl, rfl, hs, atI_cell h, ?_⟩
    refine ⟨_, rfl, _, rfl, ?_⟩
    refine ⟨_, rfl, .inl ⟨_, rfl, _, _, rfl, rfl, by show (0 : Int) < 2147483629; decide, ?_⟩⟩
    refine ⟨_, rfl, _, _, rfl, rfl, .inl ⟨by decide, by decide⟩, _, rfl, _, _, rfl, rfl, .inr ⟨by omega, by omega⟩, _, _, rfl, rfl, ?_⟩
    refine ⟨_, rfl, _, _, rfl, rfl, .inl ⟨by decide, by decide⟩, _, _, rfl, rfl, _, _, rfl, rfl, ?_⟩
    refine ⟨_, rfl, _, _, rfl, rfl, .inr ⟨by decide, by decide⟩, .inl ⟨_, rfl, _, _, rfl, rfl, by show (0 : Int) < 2147483647; decide, ?_⟩⟩
    refine ⟨_, rfl, _, rfl, _, _, rfl, rfl, ⟨by decide, by decide, by decide⟩, _, _, rfl, rfl, .inr ⟨_, rfl, ?_⟩⟩
    refine ⟨_, _, rfl, rfl, .inr (bit_rng _), ?_⟩
    refine ⟨_, rfl, _, rfl, _, _, rfl, rfl, .inl (mod_rng _), .inl ⟨_, rfl, _, _, rfl, rfl, by show (0 : Int) < 2147483629; decide, ?_⟩⟩
    refine ⟨small (by show 2 ≤ 1000000; decide), fun p hp => q _ p ((Same.refl _).trans (same_upd hp)) (hp) ⟨_, _, upd_same, Int.mul_nonneg (abs_nn _) (bit_nn _), Int.emod_nonneg _ (by decide), Int.lt_trans (Int.emod_lt_of_pos _ (by decide)) (by decide)⟩⟩
  · refine iteDN (by rw [List.length_map]; omega) ?_
    obtain ⟨ms, em⟩ := cut63 ns
    refine ⟨_, rfl, _, rfl, _, _, rfl, hs, fun p0 hp0 => ⟨p0, ms, rfl, SqL.of (by rw [upd_same, em]), _, _, rfl, rfl, .inl ⟨by decide, by decide⟩, _, rfl, _, _, rfl, rfl, ?_⟩⟩
    have s0 := same_upd (o := .lst (cutV (ns.map V.int) none (some 63))) hp0
    refine ⟨_, rfl, _, rfl, ?_⟩
    refine ⟨_, rfl, .inl ⟨_, rfl, _, _, rfl, rfl, by show (0 : Int) < 2147483629; decide, ?_⟩⟩
    refine ⟨_, rfl, _, _, rfl, rfl, .inl ⟨by decide, by decide⟩, _, rfl, _, _, rfl, rfl, .inr ⟨by omega, by omega⟩, _, _, rfl, rfl, ?_⟩
    refine ⟨_, rfl, _, _, rfl, rfl, .inl ⟨by decide, by decide⟩, _, _, rfl, rfl, _, _, rfl, rfl, ?_⟩
    refine ⟨_, rfl, _, _, rfl, rfl, .inr ⟨by decide, by decide⟩, .inl ⟨_, rfl, _, _, rfl, rfl, by show (0 : Int) < 2147483647; decide, ?_⟩⟩
    refine ⟨_, rfl, _, rfl, _, _, rfl, rfl, ⟨by decide, by decide, by decide⟩, _, _, rfl, rfl, .inr ⟨_, rfl, ?_⟩⟩
    refine ⟨_, _, rfl, rfl, .inr (bit_rng _), ?_⟩
    refine ⟨_, rfl, _, rfl, _, _, rfl, rfl, .inl (mod_rng _), .inl ⟨_, rfl, _, _, rfl, rfl, by show (0 : Int) < 2147483629; decide, ?_⟩⟩
    refine ⟨small (by show 2 ≤ 1000000; decide), fun p hp => q _ p (s0.trans (same_upd hp)) (by
      cases z : H p with
      | none => rfl
      | some o => rw [s0 _ _ z] at hp; cases hp) ⟨_, _, upd_same, Int.mul_nonneg (abs_nn _) (bit_nn _), Int.emod_nonneg _ (by decide), Int.lt_trans (Int.emod_lt_of_pos _ (by decide)) (by decide)⟩⟩
def spDraw : Sp := fun vs H Q _ => ∃ p, ∃ n : Int, vs = [.ref p, .int n] ∧ PoolAt H p ∧ 0 < n ∧ n ≤ 1000 ∧ ∀ H' r, Pl p H H' → 0 ≤ r → r < n → Q (.int r) H'
theorem C_law_draw (T : TX K mg) : Cal P w K mg base 1 "_law_draw" spDraw [] := by
  obtain ⟨fd, F⟩ := T.d_law_draw
  refine calD "_law_draw" F T.g_law_draw (b_law_draw F) .nil S_law_draw (fun vs H Q E h => ?_) (fun cdv A outer s H vs Q E hr h => ?_)
  · obtain ⟨p, n, rfl, ⟨i, j, h, i0, j0, j1⟩, n0, n1, q⟩ := h
    rfl
  obtain ⟨p, n, rfl, ⟨i, j, h, i0, j0, j1⟩, n0, n1, q⟩ := h
  refine ⟨_, (pss_cons (ps_if (pt_cmpR op_gt (pe_ix ix_list (pv 0) pe_int (fun _ _ => rfl)) pe_int (nomark _)) (pss_cons (ps_set (i := 2) S_law_draw.nd rfl (Or.inl rfl) (pe_op op_mod (pe_callTy call_int1 (by rfl) T.f_int v_int (pa_cons (pe_ix ix_list (pv 0) pe_int (fun _ _ => rfl)) pa_nil)) (pv 1)))
  (pss_cons (ps_asg (pe_op op_fdiv (pe_ix ix_list (pv 0) pe_int (fun _ _ => rfl)) (pv 1)) (pg_sub (pv 0) pe_int set_list))
  (pss_one (ps_ret (pv 2))))) pss_nil)
  (pss_cons (ps_asg (pe_op op_mod (pe_callTy call_int1 (by rfl) T.f_int v_int (pa_cons (pe_op op_add (pe_op op_mul (pe_ix ix_list (pv 0) pe_int (fun _ _ => rfl)) pe_int) pe_int) pa_nil)) pe_int) (pg_sub (pv 0) pe_int set_list))
  (pss_one (ps_ret (pe_op op_mod (pe_callTy call_int1 (by rfl) T.f_int v_int (pa_cons (pe_op op_fdiv (pe_op op_mod (pe_callTy call_int1 (by rfl) T.f_int v_int (pa_cons (pe_op op_mul (pe_ix ix_list (pv 0) pe_int (fun _ _ => rfl)) (pe_ix ix_list (pv 0) pe_int (fun _ _ => rfl))) pa_nil)) pe_int) pe_int) pa_nil)) (pv 1)))))), ?_⟩
  have hP : PoolAt H p := ⟨i, j, h, i0, j0, j1⟩
  refine ⟨_, rfl, _, _, _, _, rfl, rfl, SqL.of h, at0, _, _, rfl, rfl, _, rfl, ?_⟩
  by_cases hi : i > 0
  · refine iteD hi ?_
    refine ⟨_, rfl, _, _, _, _, rfl, rfl, SqL.of h, at0, .inl ⟨_, rfl, _, rfl, _, _, rfl, rfl, n0, ?_⟩⟩
    refine ⟨_, rfl, _, _, _, _, rfl, rfl, SqL.of h, at0, _, rfl, _, _, rfl, rfl, ⟨n0, by omega⟩, ?_⟩
    refine ⟨_, rfl, p, _, _, 0, rfl, rfl, h, rfl, ?_⟩
    exact ⟨_, rfl, q _ _ ⟨But.upd, hP, ⟨i / n, j, upd_same, Int.ediv_nonneg i0 (Int.le_of_lt n0), j0, j1⟩⟩ (Int.emod_nonneg _ (by omega)) (Int.emod_lt_of_pos _ n0)⟩
  · refine iteDN hi ?_
    refine ⟨_, rfl, _, _, _, _, rfl, rfl, SqL.of h, at1, _, _, rfl, rfl, .inr ⟨by decide, by decide⟩, _, _, rfl, rfl, .inl ⟨_, rfl, _, _, rfl, rfl, by show (0 : Int) < 2147483647; decide, ?_⟩⟩
    refine ⟨_, rfl, p, _, _, 1, rfl, rfl, h, rfl, ?_⟩
    have h2 : upd H p (.lst ([V.int i, V.int j].set 1 (V.int ((j * 48271 + 11) % 2147483647)))) p = some (.lst [V.int i, V.int ((j * 48271 + 11) % 2147483647)]) := upd_same
    refine ⟨_, rfl, _, _, _, _, rfl, rfl, SqL.of h2, at1, _, rfl, _, _, _, _, rfl, rfl, SqL.of h2, at1, _, _, rfl, rfl, .inl (mod_rng _), .inl ⟨_, rfl, _, _, rfl, rfl, by show (0 : Int) < 2147483629; decide, ?_⟩⟩
    refine ⟨_, _, rfl, rfl, ⟨by decide, by decide⟩, .inl ⟨_, rfl, _, rfl, _, _, rfl, rfl, n0, ?_⟩⟩
    exact q _ _ ⟨But.upd, hP, ⟨i, _, h2, i0, Int.emod_nonneg _ (by decide), Int.lt_trans (Int.emod_lt_of_pos _ (by decide)) (by decide)⟩⟩ (Int.emod_nonneg _ (by omega)) (Int.emod_lt_of_pos _ n0)
def spPick : Sp := fun vs H Q _ => ∃ p l xs, vs = [.ref p, .ref l] ∧ PoolAt H p ∧ H l = some (.lst xs) ∧ l ≠ p ∧ 0 < xs.length ∧ xs.length ≤ 1000 ∧ ∀ H' (k : Nat) v, Pl p H H' → xs[k]? = some v → Q v H'
theorem C_law_pick (T : TX K mg) : Cal P w K mg base 2 "_law_pick" spPick [] := by
  have C_law_draw : Cal P w K mg base 1 "_law_draw" spDraw [] := SC.C_law_draw T
  obtain ⟨fd, F⟩ := T.d_law_pick
  refine calD "_law_pick" F T.g_law_pick (b_law_pick F) .nil S_law_pick (fun vs H Q E h => ?_) (fun cdv A outer s H vs Q E hr h => ?_)
  · obtain ⟨p, l, xs, rfl, hP, hl, nl, l0, l9, q⟩ := h
    rfl
  obtain ⟨p, l, xs, rfl, hP, hl, nl, l0, l9, q⟩ := h
  refine ⟨_, (pss_one (ps_ret (pe_ix ix_list (pv 1) (pe_c C_law_draw hr (by decide) rfl (pa_cons (pv 0) (pa_cons (pe_callB call_len (by rfl) T.f_len v_len (pa_cons (pv 1) pa_nil)) pa_nil))) (fun _ _ => rfl)))), ?_⟩
  refine ⟨_, rfl, _, rfl, _, rfl, _, _, rfl, .inl ⟨_, SqL.of hl, rfl⟩, p, _, rfl, hP, by omega, by omega, fun H1 r pl r0 r1 => ?_⟩
  obtain ⟨k, rfl⟩ := Int.eq_ofNat_of_zero_le r0
  have hk : k < xs.length := by omega
  exact ⟨_, _, _, _, rfl, rfl, SqL.of (pl.at_ hl nl), atI_nat (List.getElem?_eq_getElem hk), q _ k _ pl (List.getElem?_eq_getElem hk)⟩
end
end SC

set_option Elab.async false
set_option linter.all false
set_option maxRecDepth 100000
set_option maxHeartbeats 4000000
namespace SC
open PySem PySem.Spec PyProof.Rows L2
open C8 (Cal Met Mak pe_c pe_mk pe_mt pe_mt0 pe_gc InsC)
/-! ### the law's own: names -/
theorem Pl.new {p a : Addr} {H A : Hp} {u : HO} (pl : Pl p H A) (h : A a = none) : Pl p H (upd A a u) := pl.trans (Same.pl (same_upd h) pl.2.2)
theorem Pl.sm {p : Addr} {H A B : Hp} (pl : Pl p H A) (s : Same A B) : Pl p H B := pl.trans (Same.pl s pl.2.2)
def sgn (j : Nat) : Str := ⟨#[LETT.cps.toList.getD j 0]⟩
def mkN (h t : Str) (j : Nat) : Str := h ++ sgn j ++ t
def OkEnd (h t : Str) : Prop := h.length + t.length ≤ 7 ∧ (∀ c ∈ h.cps.toList, c ∈ LETT.cps.toList) ∧ ∀ c ∈ t.cps.toList, c ∈ LETT.cps.toList
theorem cps_app (a b : Str) : (a ++ b).cps.toList = a.cps.toList ++ b.cps.toList := Array.toList_append
theorem len_app (a b : Str) : (a ++ b).length = a.length + b.length := Array.size_append
theorem getD_inj : ∀ j, j < 26 → ∀ k, k < 26 → LETT.cps.toList.getD j 0 = LETT.cps.toList.getD k 0 → j = k := by decide +kernel
theorem getD_in : ∀ j, j < 26 → LETT.cps.toList.getD j 0 ∈ LETT.cps.toList := by decide +kernel
theorem getD_at' : ∀ j, j < 26 → LETT.cps.toList[j]? = some (LETT.cps.toList.getD j 0) := by decide +kernel
theorem mkN_inj {h t : Str} {j k : Nat} (hj : j < 26) (hk : k < 26) (e : mkN h t j = mkN h t k) : j = k := by
  have z := congrArg (fun s : Str => s.cps.toList) e
  simp only [mkN, cps_app] at z
  rw [List.append_assoc, List.append_assoc] at z
  have z2 := List.append_cancel_left z
  have z3 : [LETT.cps.toList.getD j 0] ++ t.cps.toList = [LETT.cps.toList.getD k 0] ++ t.cps.toList := z2
  have z4 := List.append_cancel_right z3
  injection z4 with z5 _
  exact getD_inj j hj k hk z5
theorem mkN_nm {h t : Str} (o : OkEnd h t) {j : Nat} (hj : j < 26) : IsNm (mkN h t j) := by
  obtain ⟨o1, o2, o3⟩ := o
  have l1 : (sgn j).length = 1 := rfl
  have l : (mkN h t j).length = h.length + 1 + t.length := by
    unfold mkN
    rw [len_app, len_app, l1]
  refine ⟨by omega, by omega, fun c hc => ?_⟩
  have e : (mkN h t j).cps.toList = h.cps.toList ++ [LETT.cps.toList.getD j 0] ++ t.cps.toList := by
    unfold mkN
    rw [cps_app, cps_app]
    rfl
  rw [e] at hc
  rcases List.mem_append.mp hc with hc | hc
  · rcases List.mem_append.mp hc with hc | hc
    · exact o2 c hc
    · rw [List.mem_singleton] at hc
      exact hc ▸ getD_in j hj
  · exact o3 c hc
def ixn (o s : Int) (k : Nat) : Nat := ((o + s * k) % 26).toNat
theorem ixn_lt (o s : Int) (k : Nat) : ixn o s k < 26 := by
  unfold ixn
  have h1 := Int.emod_nonneg (o + s * k) (b := 26) (by decide)
  have h2 := Int.emod_lt_of_pos (o + s * k) (b := 26) (by decide)
  omega
theorem ixn_inj {o r : Int} (r0 : 0 ≤ r) (r6 : r < 6) {j k : Nat} (hj : j < 8) (hk : k < 8) (e : ixn o (1 + 2 * r) j = ixn o (1 + 2 * r) k) : j = k := by
  unfold ixn at e
  have h : r = 0 ∨ r = 1 ∨ r = 2 ∨ r = 3 ∨ r = 4 ∨ r = 5 := by omega
  rcases h with rfl | rfl | rfl | rfl | rfl | rfl <;> omega
theorem nms_nodup {h t : Str} {o r : Int} (r0 : 0 ≤ r) (r6 : r < 6) : ((List.range 8).map fun k => mkN h t (ixn o (1 + 2 * r) k)).Nodup := by
  rw [List.nodup_iff_pairwise_ne, List.pairwise_map]
  refine List.Pairwise.imp_of_mem (R := fun a b => a ≠ b) (fun {a b} ha hb n e => n ?_) (by decide +kernel)
  exact ixn_inj r0 r6 (List.mem_range.mp ha) (List.mem_range.mp hb) (mkN_inj (ixn_lt _ _ _) (ixn_lt _ _ _) e)
theorem ok5 : OkEnd "" "" ∧ OkEnd "" "q" ∧ OkEnd "ab" "" ∧ OkEnd "abcdefg" "" ∧ OkEnd "" "abcdefg" := by
  refine ⟨⟨?_, ?_, ?_⟩, ⟨?_, ?_, ?_⟩, ⟨?_, ?_, ?_⟩, ⟨?_, ?_, ?_⟩, ⟨?_, ?_, ?_⟩⟩ <;> decide +kernel
section
variable {P : Program} {w : World} {K : PySem.W.Frag} {mg : Str → Option Value} {base : Heap}
def spLNames : Sp := fun vs H Q _ => ∃ p, vs = [.ref p, .int 8] ∧ PoolAt H p ∧ ∀ H' a (ns : List Str), Pl p H H' → H' a = some (.lst (ns.map V.str)) → ns.length = 8 → ns.Nodup → (∀ x ∈ ns, IsNm x) → Q (.ref a) H'
theorem C_law_names (T : TX K mg) : Cal P w K mg base 3 "_law_names" spLNames [] := by
  have C_law_draw : Cal P w K mg base 1 "_law_draw" spDraw [] := SC.C_law_draw T
  have C_law_pick : Cal P w K mg base 2 "_law_pick" spPick [] := SC.C_law_pick T
  obtain ⟨fd, F⟩ := T.d_law_names
  refine calD "_law_names" F T.g_law_names (b_law_names F) .nil S_law_names (fun vs H Q E h => ?_) (fun cdv A outer s H vs Q E hr h => ?_)
  · obtain ⟨p, rfl, hP, q⟩ := h
    rfl
  obtain ⟨p, rfl, hP, q⟩ := h
  refine ⟨_, (pss_cons (ps_set (i := 2) S_law_names.nd rfl (Or.inr rfl) pe_str)
  (pss_cons (ps_asg (pe_tup (pa_cons (pe_c C_law_draw hr (by decide) rfl (pa_cons (pv 0) (pa_cons pe_int pa_nil))) (pa_cons (pe_op op_add pe_int (pe_op op_mul pe_int (pe_c C_law_draw hr (by decide) rfl (pa_cons (pv 0) (pa_cons pe_int pa_nil))))) pa_nil))) (pg_tup (by rfl) (pgs_cons (pg_name (i := 3) S_law_names.nd rfl (Or.inr rfl)) (pgs_cons (pg_name (i := 4) S_law_names.nd rfl (Or.inr rfl)) pgs_nil))))
  (pss_cons (ps_set (i := 5) S_law_names.nd rfl (Or.inl rfl) (pe_lst (pa_cons (pe_tup (pa_cons pe_str (pa_cons pe_str pa_nil))) (pa_cons (pe_tup (pa_cons pe_str (pa_cons pe_str pa_nil))) (pa_cons (pe_tup (pa_cons pe_str (pa_cons pe_str pa_nil))) (pa_cons (pe_tup (pa_cons pe_str (pa_cons pe_str pa_nil))) (pa_cons (pe_tup (pa_cons pe_str (pa_cons pe_str pa_nil))) pa_nil)))))))
  (pss_cons (ps_asg (pe_c C_law_pick hr (by decide) rfl (pa_cons (pv 0) (pa_cons (pv 5) pa_nil))) (pg_tup (by rfl) (pgs_cons (pg_name (i := 6) S_law_names.nd rfl (Or.inr rfl)) (pgs_cons (pg_name (i := 7) S_law_names.nd rfl (Or.inr rfl)) pgs_nil))))
  (pss_one (ps_ret (pe_lc (own := [("_law_k", 8)]) (by rfl) S_law_names.nd  (pi_range1 (by rfl) T.f_range (pa_cons (pv 1) pa_nil)) (blkOk_by (own := [("_law_k", 8)]) (N := N_law_names) (sc := d_law_names.scope) (by decide +kernel)) (fun _ _ _ _ _ => (pg_name (i := 8) S_law_names.nd rfl (Or.inl rfl))) (fun _ _ _ _ _ => pts_nil) (fun _ _ _ _ _ => (pe_op op_add_str (pe_op op_add_str (pv 6) (pe_ix ix_str (pv 2) (pe_op op_mod (pe_callTy call_int1 (by rfl) T.f_int v_int (pa_cons (pe_op op_add (pv 3) (pe_op op_mul (pv 4) (pv 8))) pa_nil)) pe_int) (fun _ _ => rfl))) (pv 7)))))))))), ?_⟩
  refine ⟨_, rfl, p, 26, rfl, hP, by decide, by decide, fun H1 o pl1 o0 o1 => ?_⟩
  refine ⟨_, rfl, p, 6, rfl, pl1.2.2, by decide, by decide, fun H2 r pl2 r0 r1 => ?_⟩
  refine ⟨_, _, rfl, rfl, .inl ⟨by decide, by decide⟩, _, _, rfl, rfl, small (by show 2 ≤ 1000000; decide), fun t ht => ?_⟩
  have pl3 := (pl1.trans pl2).new (u := .tup [.int o, .int (1 + 2 * r)]) ht
  refine ⟨_, _, rfl, SqT.of upd_same, rfl, _, _, rfl, _, _, rfl, rfl, ?_⟩
  refine ⟨small (by show 2 ≤ 1000000; decide), fun t1 h1 => ⟨small (by show 2 ≤ 1000000; decide), fun t2 h2 => ⟨small (by show 2 ≤ 1000000; decide), fun t3 h3 => ⟨small (by show 2 ≤ 1000000; decide), fun t4 h4 => ⟨small (by show 2 ≤ 1000000; decide), fun t5 h5 => ⟨small (by show 5 ≤ 1000000; decide), fun l hl => ?_⟩⟩⟩⟩⟩⟩
  have s5 := same_upd (o := .lst [.ref t1, .ref t2, .ref t3, .ref t4, .ref t5]) hl
  have s4 := (same_upd (o := .tup [.str "", .str "abcdefg"]) h5).trans s5
  have s3 := (same_upd (o := .tup [.str "abcdefg", .str ""]) h4).trans s4
  have s2 := (same_upd (o := .tup [.str "ab", .str ""]) h3).trans s3
  have s1 := (same_upd (o := .tup [.str "", .str "q"]) h2).trans s2
  have s0 := (same_upd (o := .tup [.str "", .str ""]) h1).trans s1
  have pl4 := pl3.sm s0
  have pl3' := ((((pl3.new (u := .tup [.str "", .str ""]) h1).new (u := .tup [.str "", .str "q"]) h2).new (u := .tup [.str "ab", .str ""]) h3).new (u := .tup [.str "abcdefg", .str ""]) h4).new (u := .tup [.str "", .str "abcdefg"]) h5
  refine ⟨_, rfl, _, rfl, p, l, _, rfl, pl4.2.2, upd_same, pool_ne pl3'.2.2 hl, by show 0 < 5; decide, by show 5 ≤ 1000; decide, fun H6 k v pl6 ev => ?_⟩
  have hv : ∃ h t a, OkEnd h t ∧ v = .ref a ∧ H6 a = some (.tup [.str h, .str t]) := by
    have np : ∀ {a : Addr} {x y : V}, upd (upd (upd (upd (upd (upd (upd H2 t (.tup [.int o, .int (1 + 2 * r)])) t1 (.tup [.str "", .str ""])) t2 (.tup [.str "", .str "q"])) t3 (.tup [.str "ab", .str ""])) t4 (.tup [.str "abcdefg", .str ""])) t5 (.tup [.str "", .str "abcdefg"])) l (.lst [.ref t1, .ref t2, .ref t3, .ref t4, .ref t5]) a = some (.tup [x, y]) → H6 a = some (.tup [x, y]) := fun h => pl6.keep.tup (K := K) h
    obtain ⟨k1, k2, k3, k4, k5⟩ := ok5
    match k, ev with
    | 0, ev => cases ev; exact ⟨_, _, t1, k1, rfl, np (s1 _ _ upd_same)⟩
    | 1, ev => cases ev; exact ⟨_, _, t2, k2, rfl, np (s2 _ _ upd_same)⟩
    | 2, ev => cases ev; exact ⟨_, _, t3, k3, rfl, np (s3 _ _ upd_same)⟩
    | 3, ev => cases ev; exact ⟨_, _, t4, k4, rfl, np (s4 _ _ upd_same)⟩
    | 4, ev => cases ev; exact ⟨_, _, t5, k5, rfl, np (s5 _ _ upd_same)⟩
    | k + 5, ev => cases ev
  obtain ⟨h, t, a, ok, rfl, ha⟩ := hv
  have ok1 := ok.1
  refine ⟨_, _, rfl, SqT.of ha, rfl, _, _, rfl, _, _, rfl, rfl, ?_⟩
  refine ⟨_, rfl, 8, rfl, by decide, by decide, fun D hD => ?_⟩
  refine lcF walk_range hD (by show 8 ≤ sizeLine; decide) (fun k => some (V.str (mkN h t (ixn o (1 + 2 * r) k)))) (fun _ _ => trivial) (fun k y H7 H8 No Ye hk s7 y1 no ye => ?_) fun H7 s7 h7 => ?_
  · obtain ⟨rfl, rfl⟩ := y1
    have hk8 : k < 8 := hk
    refine ⟨rfl, ty ⟨_, rfl, _, rfl, _, rfl, _, rfl, _, rfl, _, _, rfl, rfl, .inl ⟨by omega, by omega⟩, _, _, rfl, rfl, .inl ⟨_, rfl, _, _, rfl, rfl, by show (0 : Int) < 26; decide, ?_⟩⟩⟩
    have e1 : (o + (1 + 2 * r) * (0 + (k : Int))) % 26 = ((ixn o (1 + 2 * r) k : Nat) : Int) := by
      unfold ixn
      rw [Int.zero_add]
      have h1 := Int.emod_nonneg (o + (1 + 2 * r) * k) (b := 26) (by decide)
      omega
    have lh : (h ++ sgn (ixn o (1 + 2 * r) k)).length = h.length + 1 := len_app _ _
    refine ⟨LETT, _, LETT.cps.toList.getD (ixn o (1 + 2 * r) k) 0, rfl, rfl, by decide +kernel, ?_, ?_⟩
    · rw [e1]
      exact atI_nat (getD_at' _ (ixn_lt _ _ _))
    · refine ⟨_, _, rfl, rfl, small (by show h.length + 1 ≤ 1000000; omega), _, rfl, _, _, rfl, rfl, small (by show (h ++ sgn (ixn o (1 + 2 * r) k)).length + t.length ≤ 1000000; omega), ye _ rfl _ (Same.refl _)⟩
  · have e : (List.range 8).filterMap (fun k => some (V.str (mkN h t (ixn o (1 + 2 * r) k)))) = ((List.range 8).map fun k => mkN h t (ixn o (1 + 2 * r) k)).map V.str := by
      rw [List.filterMap_eq_map', List.map_map]
      rfl
    have h7 : H7 D = some (.lst ((List.range 8).filterMap fun k => some (V.str (mkN h t (ixn o (1 + 2 * r) k))))) := h7
    rw [e] at h7
    refine q _ D _ ((pl4.trans pl6).sm s7) h7 (by rw [List.length_map, List.length_range]) (nms_nodup r0 r1) fun x hx => ?_
    obtain ⟨k, _, rfl⟩ := List.mem_map.mp hx
    exact mkN_nm ok (ixn_lt _ _ _)
end
end SC

set_option Elab.async false
set_option linter.all false
set_option maxRecDepth 100000
set_option maxHeartbeats 4000000
namespace SC
open PySem PySem.Spec PyProof.Rows L2
open C8 (Cal Met Mak pe_c pe_mk pe_mt pe_mt0 pe_gc InsC)
/-! ### the law's own: terms -/
structure Lb (H : Hp) (p b : Addr) (B : Bk) : Prop where
  lb : LbAt H b B
  pool : PoolAt H p
  c3 : B.cells.length ≤ 3
  f3 : B.fns.length ≤ 3
  cn : ∀ c ∈ B.cells, IsNm c.1
  fnn : ∀ f ∈ B.fns, IsNm f.name ∧ f.many ≤ 2
theorem Lb.pl {H H' : Hp} {p b : Addr} {B : Bk} (L : Lb H p b B) (s : Pl p H H') : Lb H' p b B := ⟨(s.keep (K := [])).lb L.lb, s.2.2, L.c3, L.f3, L.cn, L.fnn⟩
theorem kne {a b : Str} {x : V} (h : a ≠ b) : ¬ ((Sum.inr a : Key), x).1 = Sum.inr b := fun e => h (Sum.inr.inj e)
theorem lb_cells {H : Hp} {b : Addr} {x y : V} (e : H b = some (.dK [(.inr "cells", x), (.inr "functions", y)])) : DGet H b (.str "cells") (some x) := by
  have z := DGet.k (k := Sum.inr "cells") e
  rw [valV_pos rfl] at z
  exact z
theorem lb_fns {H : Hp} {b : Addr} {x y : V} (e : H b = some (.dK [(.inr "cells", x), (.inr "functions", y)])) : DGet H b (.str "functions") (some y) := by
  have z := DGet.k (k := Sum.inr "functions") e
  rw [valV_neg (kne (by decide +kernel)), valV_pos rfl] at z
  exact z
theorem lf_name {H : Hp} {a : Addr} {f : Fn} {r w : V} (e : H a = some (.dK (lfs f r w))) : DGet H a (.str "name") (some (.str f.name)) := by
  have z := DGet.k (k := Sum.inr "name") e
  rw [lfs, valV_pos rfl] at z
  exact z
theorem lf_many {H : Hp} {a : Addr} {f : Fn} {r w : V} (e : H a = some (.dK (lfs f r w))) : DGet H a (.str "many") (some (.int f.many)) := by
  have z := DGet.k (k := Sum.inr "many") e
  rw [lfs, valV_neg (kne (by decide +kernel)), valV_pos rfl] at z
  exact z
theorem lf_result {H : Hp} {a : Addr} {f : Fn} {r w : V} (e : H a = some (.dK (lfs f r w))) : DGet H a (.str "result") (some r) := by
  have z := DGet.k (k := Sum.inr "result") e
  rw [lfs, valV_neg (kne (by decide +kernel)), valV_neg (kne (by decide +kernel)), valV_pos rfl] at z
  exact z
theorem lf_writes {H : Hp} {a : Addr} {f : Fn} {r w : V} (e : H a = some (.dK (lfs f r w))) : DGet H a (.str "writes") (some w) := by
  have z := DGet.k (k := Sum.inr "writes") e
  rw [lfs, valV_neg (kne (by decide +kernel)), valV_neg (kne (by decide +kernel)), valV_neg (kne (by decide +kernel)), valV_pos rfl] at z
  exact z
theorem lf_cost {H : Hp} {a : Addr} {f : Fn} {r w : V} (e : H a = some (.dK (lfs f r w))) : DGet H a (.str "cost") (some (.int f.cost)) := by
  have z := DGet.k (k := Sum.inr "cost") e
  rw [lfs, valV_neg (kne (by decide +kernel)), valV_neg (kne (by decide +kernel)), valV_neg (kne (by decide +kernel)), valV_neg (kne (by decide +kernel)), valV_pos rfl] at z
  exact z
theorem lf_label {H : Hp} {a : Addr} {f : Fn} {r w : V} (e : H a = some (.dK (lfs f r w))) : DGet H a (.str "label") (some (.str f.label)) := by
  have z := DGet.k (k := Sum.inr "label") e
  rw [lfs, valV_neg (kne (by decide +kernel)), valV_neg (kne (by decide +kernel)), valV_neg (kne (by decide +kernel)), valV_neg (kne (by decide +kernel)), valV_neg (kne (by decide +kernel)), valV_pos rfl] at z
  exact z
theorem ops_at {k : Nat} {v : V} (h : [V.str "plus", V.str "less", V.str "same"][k]? = some v) : ∃ o : Op, v = .str o.nm := by
  match k, h with
  | 0, h => cases h; exact ⟨.plus, rfl⟩
  | 1, h => cases h; exact ⟨.less, rfl⟩
  | 2, h => cases h; exact ⟨.same, rfl⟩
  | k + 3, h => cases h
section
variable {P : Program} {w : World} {K : PySem.W.Frag} {mg : Str → Option Value} {base : Heap}
def spTm0 : Sp := fun vs H Q _ => ∃ p b B, ∃ m : Nat, vs = [.ref p, .ref b, .int m, .int 0] ∧ Lb H p b B ∧ m ≤ 2 ∧ ∀ H' v l, Pl p H H' → LfAt H' v l → Lv (B.cells.map (·.1)) m l → Q v H'
theorem C_law_term0 (T : TX K mg) : Cal P w K mg base 3 "_law_term" spTm0 [] := by
  have C_law_draw : Cal P w K mg base 1 "_law_draw" spDraw [] := SC.C_law_draw T
  have C_law_pick : Cal P w K mg base 2 "_law_pick" spPick [] := SC.C_law_pick T
  obtain ⟨fd, F⟩ := T.d_law_term
  refine calD "_law_term" F T.g_law_term (b_law_term F) .nil S_law_term (fun vs H Q E h => ?_) (fun cdv A outer s H vs Q E hr h => ?_)
  · obtain ⟨p, b, B, m, rfl, L, m2, q⟩ := h
    rfl
  obtain ⟨p, b, B, m, rfl, L, m2, q⟩ := h
  refine ⟨_, (pss_cons (ps_set (i := 4) S_law_term.nd rfl (Or.inl rfl) (pe_c C_law_draw hr (by decide) rfl (pa_cons (pv 0) (pa_cons (pe_ifExp (pt_cmpR op_gt (pv 3) pe_int (nomark _)) pe_int pe_int) pa_nil))))
  (pss_cons (ps_if (PW.pt (pw_or (pt_cmpR op_eq (pv 4) pe_int (nomark _)) (pw_or (PW.pt (pw_and (pt_cmpR op_eq (pv 4) pe_int (nomark _)) (pw_and1 (pt_cmpR op_eq (pv 2) pe_int (nomark _))))) (pw_or1 (PW.pt (pw_and (pt_cmpR op_in_seq (pv 4) (pe_lst (pa_cons pe_int (pa_cons pe_int pa_nil))) (by rfl)) (pw_and1 (pt_cmpR (op_eqNil (Nat.lt_of_succ_lt (hu_of hr))) (pe_dget (hu_of hr) (pv 1) pe_str (fun _ _ => rfl)) (pe_lst pa_nil) (nomark _))))))))) (pss_one (ps_ret (pe_c C_law_draw hr (by decide) rfl (pa_cons (pv 0) (pa_cons pe_int pa_nil))))) pss_nil)
  (pss_cons (ps_if (pt_cmpR op_eq (pv 4) pe_int (nomark _)) (pss_one (ps_ret (pe_tup (pa_cons pe_str (pa_cons (pe_c C_law_draw hr (by decide) rfl (pa_cons (pv 0) (pa_cons (pv 2) pa_nil))) pa_nil))))) pss_nil)
  (pss_cons (ps_if (PW.pt (pw_or (pt_cmpR op_eq (pv 4) pe_int (nomark _)) (pw_or1 (pt_cmpR op_eq (pv 4) pe_int (nomark _))))) (pss_one (ps_ret (pe_tup (pa_cons pe_str (pa_cons (pe_ix ix_tup (pe_c C_law_pick hr (by decide) rfl (pa_cons (pv 0) (pa_cons (pe_dget (hu_of hr) (pv 1) pe_str (fun _ _ => rfl)) pa_nil))) pe_int (fun _ _ => rfl)) pa_nil))))) pss_nil)
  (pss_cons (ps_if (pt_cmpR op_eq (pv 4) pe_int (nomark _)) (pss_one (ps_ret (pe_ifExp (pt_cmpR op_eq (pe_c C_law_draw hr (by decide) rfl (pa_cons (pv 0) (pa_cons pe_int pa_nil))) pe_int (nomark _)) (pe_tup (pa_cons pe_str pa_nil)) (pe_c C_law_draw hr (by decide) rfl (pa_cons (pv 0) (pa_cons pe_int pa_nil)))))) pss_nil)
  pss_never))))), ?_⟩
  obtain ⟨p1, q1, cs, fs, eb, e1, e2, pc, pf⟩ := id L.lb
  obtain ⟨pi, pj, hpp, _⟩ := id L.pool
  have nb : b ≠ p := ne_of eb hpp (by intro z; cases z)
  have n1 : p1 ≠ p := ne_of e1 hpp (by intro z; injection z with z; exact refs_ne_pool z)
  refine ⟨_, rfl, _, rfl, _, _, rfl, rfl, _, rfl, iteDN (by decide) ⟨p, 4, rfl, L.pool, by decide, by decide, fun H1 kd pl1 k0 k1 => ?_⟩⟩
  have hk : kd = 0 ∨ kd = 1 ∨ kd = 2 ∨ kd = 3 := by omega
  rcases hk with rfl | rfl | rfl | rfl
  · refine ⟨_, rfl, rfl, _, rfl, iteD rfl (iteT ?_)⟩
    refine ⟨_, rfl, p, 3, rfl, pl1.2.2, by decide, by decide, fun H9 r pl9 r0 r1 => q _ _ (.val r) (pl1.trans pl9) rfl ⟨r0, by omega⟩⟩
  · by_cases hm : m = 0
    · refine ⟨_, rfl, rfl, _, rfl, iteDN (by decide +kernel) ⟨_, rfl, rfl, _, rfl, iteD rfl ⟨_, rfl, rfl, _, rfl, iteD (by rw [hm]; rfl) (iteT ?_)⟩⟩⟩
      refine ⟨_, rfl, p, 3, rfl, pl1.2.2, by decide, by decide, fun H9 r pl9 r0 r1 => q _ _ (.val r) (pl1.trans pl9) rfl ⟨r0, by omega⟩⟩
    · refine ⟨_, rfl, rfl, _, rfl, iteDN (by decide +kernel) ⟨_, rfl, rfl, _, rfl, iteD rfl ⟨_, rfl, rfl, _, rfl, iteDN (fun z => hm (by injection z with z; omega)) ⟨_, rfl, small (by show 2 ≤ 1000000; decide), fun l hl => ⟨_, _, rfl, .inl (SqL.of upd_same), rfl, rfl, _, rfl, if_off rfl (iteF ?_)⟩⟩⟩⟩⟩
      have pl2 := pl1.new (u := .lst [.int 2, .int 8]) hl
      refine ⟨_, rfl, rfl, _, rfl, iteD rfl ?_⟩
      refine ⟨_, rfl, _, rfl, p, ((m : Nat) : Int), rfl, pl2.2.2, by omega, by omega, fun H9 r pl9 r0 r1 => ⟨small (by show 2 ≤ 1000000; decide), fun t ht => ?_⟩⟩
      obtain ⟨r, rfl⟩ := Int.eq_ofNat_of_zero_le r0
      exact q _ _ (.arg r) ((pl2.trans pl9).new ht) ⟨t, rfl, upd_same⟩ (show r < m by omega)
  · refine ⟨_, rfl, rfl, _, rfl, iteDN (by decide +kernel) ⟨_, rfl, rfl, _, rfl, iteDN (by decide +kernel) (iteF ⟨_, rfl, small (by show 2 ≤ 1000000; decide), fun l hl => ⟨_, _, rfl, .inl (SqL.of upd_same), rfl, rfl, _, rfl, if_of rfl ?_⟩⟩)⟩⟩
    have pl2 := pl1.new (u := .lst [.int 2, .int 8]) hl
    have eb2 := pl2.at_ eb nb
    have e12 := pl2.at_ e1 n1
    refine ⟨_, rfl, _, _, rfl, lb_cells eb2, small (by decide), fun l2 hl2 => ?_⟩
    have s2 := same_upd (o := .lst []) hl2
    have pl3 := pl2.sm s2
    refine ⟨_, _, _, rfl, rfl, SqL.of (s2 _ _ e12), SqL.of upd_same, _, rfl, ?_⟩
    by_cases hc : cs = []
    · refine if_of (by rw [hc]; rfl) ?_
      refine ⟨_, rfl, p, 3, rfl, pl3.2.2, by decide, by decide, fun H9 r pl9 r0 r1 => q _ _ (.val r) (pl3.trans pl9) rfl ⟨r0, by omega⟩⟩
    · refine if_off (by cases cs with | nil => exact absurd rfl hc | cons _ _ => rfl) ?_
      refine ⟨_, rfl, rfl, _, rfl, iteDN (by decide +kernel) ?_⟩
      refine ⟨_, rfl, rfl, _, rfl, iteD rfl (iteT ?_)⟩
      have lc := Paired.length pc
      have l0 : 0 < cs.length := List.length_pos_iff.mpr hc
      refine ⟨_, rfl, _, rfl, _, _, rfl, lb_cells (s2 _ _ eb2), p, p1, _, rfl, pl3.2.2, s2 _ _ e12, n1, by rw [List.length_map]; omega, by rw [List.length_map]; have := L.c3; omega, fun H9 k v pl9 ev => ?_⟩
      obtain ⟨c, hc, a, rfl, ha⟩ := paired_get (paired_map V.ref pc) ev
      have ha9 := (pl3.trans pl9).keep.tup (K := K) ha
      refine ⟨_, _, _, _, rfl, rfl, SqT.of ha9, at0, small (by show 2 ≤ 1000000; decide), fun t ht => ?_⟩
      have mc := List.mem_of_getElem? hc
      exact q _ _ (.cell c.1) ((pl3.trans pl9).new ht) ⟨t, rfl, upd_same⟩ ⟨List.mem_map.mpr ⟨c, mc, rfl⟩, L.cn c mc⟩
  · refine ⟨_, rfl, rfl, _, rfl, iteDN (by decide +kernel) ⟨_, rfl, rfl, _, rfl, iteDN (by decide +kernel) (iteF ⟨_, rfl, small (by show 2 ≤ 1000000; decide), fun l hl => ⟨_, _, rfl, .inl (SqL.of upd_same), rfl, rfl, _, rfl, if_off rfl (iteF ?_)⟩⟩)⟩⟩
    have pl2 := pl1.new (u := .lst [.int 2, .int 8]) hl
    refine ⟨_, rfl, rfl, _, rfl, iteDN (by decide +kernel) ?_⟩
    refine ⟨_, rfl, rfl, _, rfl, iteDN (by decide +kernel) ⟨_, rfl, rfl, _, rfl, iteDN (by decide +kernel) ?_⟩⟩
    refine ⟨_, rfl, rfl, _, rfl, iteD rfl ?_⟩
    refine ⟨_, rfl, p, 3, rfl, pl2.2.2, by decide, by decide, fun H8 z pl8 z0 z1 => ⟨rfl, _, rfl, ?_⟩⟩
    by_cases hz : z = 0
    · refine iteD (by rw [hz]) ⟨small (by show 1 ≤ 1000000; decide), fun t ht => ?_⟩
      exact q _ _ .tick ((pl2.trans pl8).new ht) ⟨t, rfl, upd_same⟩ trivial
    · refine iteDN (fun w => hz (by injection w)) ?_
      refine ⟨_, rfl, p, 3, rfl, pl8.2.2, by decide, by decide, fun H9 r pl9 r0 r1 => q _ _ (.val r) ((pl2.trans pl8).trans pl9) rfl ⟨r0, by omega⟩⟩
def spTm : Sp := fun vs H Q _ => ∃ p b B, ∃ m : Nat, vs = [.ref p, .ref b, .int m, .int 1] ∧ Lb H p b B ∧ m ≤ 2 ∧ ∀ H' v t, Pl p H H' → TmAt H' v t → Tv B.fns (B.cells.map (·.1)) m t → Q v H'
theorem C_law_term (T : TX K mg) : Cal P w K mg base 4 "_law_term" spTm [] := by
  have C_law_draw : Cal P w K mg base 1 "_law_draw" spDraw [] := SC.C_law_draw T
  have C_law_pick : Cal P w K mg base 2 "_law_pick" spPick [] := SC.C_law_pick T
  have C_law_term : Cal P w K mg base 3 "_law_term" spTm0 [] := SC.C_law_term0 T
  obtain ⟨fd, F⟩ := T.d_law_term
  refine calD "_law_term" F T.g_law_term (b_law_term F) .nil S_law_term (fun vs H Q E h => ?_) (fun cdv A outer s H vs Q E hr h => ?_)
  · obtain ⟨p, b, B, m, rfl, L, m2, q⟩ := h
    rfl
  obtain ⟨p, b, B, m, rfl, L, m2, q⟩ := h
  refine ⟨_, (pss_cons (ps_set (i := 4) S_law_term.nd rfl (Or.inl rfl) (pe_c C_law_draw hr (by decide) rfl (pa_cons (pv 0) (pa_cons (pe_ifExp (pt_cmpR op_gt (pv 3) pe_int (nomark _)) pe_int pe_int) pa_nil))))
  (pss_cons (ps_if (PW.pt (pw_or (pt_cmpR op_eq (pv 4) pe_int (nomark _)) (pw_or (PW.pt (pw_and (pt_cmpR op_eq (pv 4) pe_int (nomark _)) (pw_and1 (pt_cmpR op_eq (pv 2) pe_int (nomark _))))) (pw_or1 (PW.pt (pw_and (pt_cmpR op_in_seq (pv 4) (pe_lst (pa_cons pe_int (pa_cons pe_int pa_nil))) (by rfl)) (pw_and1 (pt_cmpR (op_eqNil (Nat.lt_of_succ_lt (hu_of hr))) (pe_dget (hu_of hr) (pv 1) pe_str (fun _ _ => rfl)) (pe_lst pa_nil) (nomark _))))))))) (pss_one (ps_ret (pe_c C_law_draw hr (by decide) rfl (pa_cons (pv 0) (pa_cons pe_int pa_nil))))) pss_nil)
  (pss_cons (ps_if (pt_cmpR op_eq (pv 4) pe_int (nomark _)) (pss_one (ps_ret (pe_tup (pa_cons pe_str (pa_cons (pe_c C_law_draw hr (by decide) rfl (pa_cons (pv 0) (pa_cons (pv 2) pa_nil))) pa_nil))))) pss_nil)
  (pss_cons (ps_if (PW.pt (pw_or (pt_cmpR op_eq (pv 4) pe_int (nomark _)) (pw_or1 (pt_cmpR op_eq (pv 4) pe_int (nomark _))))) (pss_one (ps_ret (pe_tup (pa_cons pe_str (pa_cons (pe_ix ix_tup (pe_c C_law_pick hr (by decide) rfl (pa_cons (pv 0) (pa_cons (pe_dget (hu_of hr) (pv 1) pe_str (fun _ _ => rfl)) pa_nil))) pe_int (fun _ _ => rfl)) pa_nil))))) pss_nil)
  (pss_cons (ps_if (pt_cmpR op_eq (pv 4) pe_int (nomark _)) (pss_one (ps_ret (pe_ifExp (pt_cmpR op_eq (pe_c C_law_draw hr (by decide) rfl (pa_cons (pv 0) (pa_cons pe_int pa_nil))) pe_int (nomark _)) (pe_tup (pa_cons pe_str pa_nil)) (pe_c C_law_draw hr (by decide) rfl (pa_cons (pv 0) (pa_cons pe_int pa_nil)))))) pss_nil)
  (pss_cons (ps_if (PW.pt (pw_and (pt_cmpR op_eq (pv 4) pe_int (nomark _)) (pw_and1 (pt_cmpR (op_neNil (Nat.lt_of_succ_lt (hu_of hr))) (pe_dget (hu_of hr) (pv 1) pe_str (fun _ _ => rfl)) (pe_lst pa_nil) (nomark _))))) (pss_cons (ps_set (i := 5) S_law_term.nd rfl (Or.inl rfl) (pe_c C_law_pick hr (by decide) rfl (pa_cons (pv 0) (pa_cons (pe_dget (hu_of hr) (pv 1) pe_str (fun _ _ => rfl)) pa_nil))))
  (pss_one (ps_ret (pe_tup (pa_cons pe_str (pa_cons (pe_dget (hu_of hr) (pv 5) pe_str (fun _ _ => rfl)) (pa_cons (pe_callTy call_tuple_of (by rfl) T.f_tuple v_tuple (pa_cons (pe_lc (own := [("_law_at", 7)]) (by rfl) S_law_term.nd  (pi_range1 (by rfl) T.f_range (pa_cons (pe_dget (hu_of hr) (pv 5) pe_str (fun _ _ => rfl)) pa_nil)) (blkOk_by (own := [("_law_at", 7)]) (N := N_law_term) (sc := d_law_term.scope) (by decide +kernel)) (fun _ _ _ _ _ => (pg_name (i := 7) S_law_term.nd rfl (Or.inl rfl))) (fun _ _ _ _ _ => pts_nil) (fun _ _ _ _ _ => (pe_c C_law_term hr (by decide) rfl (pa_cons (pv 0) (pa_cons (pv 1) (pa_cons (pv 2) (pa_cons pe_int pa_nil))))))) pa_nil)) pa_nil))))))) pss_nil)
  (pss_cons (ps_if (pt_cmpR op_eq (pv 4) pe_int (nomark _)) (pss_one (ps_ret (pe_op op_catA (pe_tup (pa_cons pe_str pa_nil)) (pe_callTy call_tuple_of (by rfl) T.f_tuple v_tuple (pa_cons (pe_lc (own := [("_law_at", 7)]) (by rfl) S_law_term.nd  (pi_range1 (by rfl) T.f_range (pa_cons pe_int pa_nil)) (blkOk_by (own := [("_law_at", 7)]) (N := N_law_term) (sc := d_law_term.scope) (by decide +kernel)) (fun _ _ _ _ _ => (pg_name (i := 7) S_law_term.nd rfl (Or.inl rfl))) (fun _ _ _ _ _ => pts_nil) (fun _ _ _ _ _ => (pe_c C_law_term hr (by decide) rfl (pa_cons (pv 0) (pa_cons (pv 1) (pa_cons (pv 2) (pa_cons (pe_op op_sub (pv 3) pe_int) pa_nil))))))) pa_nil))))) pss_nil)
  (pss_cons (ps_set (i := 6) S_law_term.nd rfl (Or.inl rfl) (pe_c C_law_pick hr (by decide) rfl (pa_cons (pv 0) (pa_cons (pe_lst (pa_cons pe_str (pa_cons pe_str (pa_cons pe_str pa_nil)))) pa_nil))))
  (pss_one (ps_ret (pe_tup (pa_cons (pv 6) (pa_cons (pe_c C_law_term hr (by decide) rfl (pa_cons (pv 0) (pa_cons (pv 1) (pa_cons (pv 2) (pa_cons (pe_op op_sub (pv 3) pe_int) pa_nil))))) (pa_cons (pe_c C_law_term hr (by decide) rfl (pa_cons (pv 0) (pa_cons (pv 1) (pa_cons (pv 2) (pa_cons (pe_op op_sub (pv 3) pe_int) pa_nil))))) pa_nil)))))))))))))), ?_⟩
  obtain ⟨p1, q1, cs, fs, eb, e1, e2, pc, pf⟩ := id L.lb
  obtain ⟨pi, pj, hpp, _⟩ := id L.pool
  have nb : b ≠ p := ne_of eb hpp (by intro z; cases z)
  have n1 : p1 ≠ p := ne_of e1 hpp (by intro z; injection z with z; exact refs_ne_pool z)
  have n2 : q1 ≠ p := ne_of e2 hpp (by intro z; injection z with z; exact refs_ne_pool z)
  refine ⟨_, rfl, _, rfl, _, _, rfl, rfl, _, rfl, iteD (by decide) ⟨p, 9, rfl, L.pool, by decide, by decide, fun H1 kd pl1 k0 k1 => ?_⟩⟩
  have hk : kd = 0 ∨ kd = 1 ∨ kd = 2 ∨ kd = 3 ∨ kd = 4 ∨ kd = 5 ∨ kd = 6 ∨ kd = 7 ∨ kd = 8 := by omega
  rcases hk with rfl | rfl | rfl | rfl | rfl | rfl | rfl | rfl | rfl
  · refine ⟨_, rfl, rfl, _, rfl, iteD rfl (iteT ?_)⟩
    refine ⟨_, rfl, p, 3, rfl, pl1.2.2, by decide, by decide, fun H9 r pl9 r0 r1 => q _ _ (.lf (.val r)) (pl1.trans pl9) rfl ⟨r0, by omega⟩⟩
  · by_cases hm : m = 0
    · refine ⟨_, rfl, rfl, _, rfl, iteDN (by decide +kernel) ⟨_, rfl, rfl, _, rfl, iteD rfl ⟨_, rfl, rfl, _, rfl, iteD (by rw [hm]; rfl) (iteT ?_)⟩⟩⟩
      refine ⟨_, rfl, p, 3, rfl, pl1.2.2, by decide, by decide, fun H9 r pl9 r0 r1 => q _ _ (.lf (.val r)) (pl1.trans pl9) rfl ⟨r0, by omega⟩⟩
    · refine ⟨_, rfl, rfl, _, rfl, iteDN (by decide +kernel) ⟨_, rfl, rfl, _, rfl, iteD rfl ⟨_, rfl, rfl, _, rfl, iteDN (fun z => hm (by injection z with z; omega)) ⟨_, rfl, small (by show 2 ≤ 1000000; decide), fun l hl => ⟨_, _, rfl, .inl (SqL.of upd_same), rfl, rfl, _, rfl, if_off rfl (iteF ?_)⟩⟩⟩⟩⟩
      have pl2 := pl1.new (u := .lst [.int 2, .int 8]) hl
      refine ⟨_, rfl, rfl, _, rfl, iteD rfl ?_⟩
      refine ⟨_, rfl, _, rfl, p, ((m : Nat) : Int), rfl, pl2.2.2, by omega, by omega, fun H9 r pl9 r0 r1 => ⟨small (by show 2 ≤ 1000000; decide), fun t ht => ?_⟩⟩
      obtain ⟨r, rfl⟩ := Int.eq_ofNat_of_zero_le r0
      exact q _ _ (.lf (.arg r)) ((pl2.trans pl9).new ht) ⟨t, rfl, upd_same⟩ (show r < m by omega)
  · refine ⟨_, rfl, rfl, _, rfl, iteDN (by decide +kernel) ⟨_, rfl, rfl, _, rfl, iteDN (by decide +kernel) (iteF ⟨_, rfl, small (by show 2 ≤ 1000000; decide), fun l hl => ⟨_, _, rfl, .inl (SqL.of upd_same), rfl, rfl, _, rfl, if_of rfl ?_⟩⟩)⟩⟩
    have pl2 := pl1.new (u := .lst [.int 2, .int 8]) hl
    have eb2 := pl2.at_ eb nb
    have e12 := pl2.at_ e1 n1
    refine ⟨_, rfl, _, _, rfl, lb_cells eb2, small (by decide), fun l2 hl2 => ?_⟩
    have s2 := same_upd (o := .lst []) hl2
    have pl3 := pl2.sm s2
    refine ⟨_, _, _, rfl, rfl, SqL.of (s2 _ _ e12), SqL.of upd_same, _, rfl, ?_⟩
    by_cases hc : cs = []
    · refine if_of (by rw [hc]; rfl) ?_
      refine ⟨_, rfl, p, 3, rfl, pl3.2.2, by decide, by decide, fun H9 r pl9 r0 r1 => q _ _ (.lf (.val r)) (pl3.trans pl9) rfl ⟨r0, by omega⟩⟩
    · refine if_off (by cases cs with | nil => exact absurd rfl hc | cons _ _ => rfl) ?_
      refine ⟨_, rfl, rfl, _, rfl, iteDN (by decide +kernel) ?_⟩
      refine ⟨_, rfl, rfl, _, rfl, iteD rfl (iteT ?_)⟩
      have lc := Paired.length pc
      have l0 : 0 < cs.length := List.length_pos_iff.mpr hc
      refine ⟨_, rfl, _, rfl, _, _, rfl, lb_cells (s2 _ _ eb2), p, p1, _, rfl, pl3.2.2, s2 _ _ e12, n1, by rw [List.length_map]; omega, by rw [List.length_map]; have := L.c3; omega, fun H9 k v pl9 ev => ?_⟩
      obtain ⟨c, hc, a, rfl, ha⟩ := paired_get (paired_map V.ref pc) ev
      have ha9 := (pl3.trans pl9).keep.tup (K := K) ha
      refine ⟨_, _, _, _, rfl, rfl, SqT.of ha9, at0, small (by show 2 ≤ 1000000; decide), fun t ht => ?_⟩
      have mc := List.mem_of_getElem? hc
      exact q _ _ (.lf (.cell c.1)) ((pl3.trans pl9).new ht) ⟨t, rfl, upd_same⟩ ⟨List.mem_map.mpr ⟨c, mc, rfl⟩, L.cn c mc⟩
  · refine ⟨_, rfl, rfl, _, rfl, iteDN (by decide +kernel) ⟨_, rfl, rfl, _, rfl, iteDN (by decide +kernel) (iteF ⟨_, rfl, small (by show 2 ≤ 1000000; decide), fun l hl => ⟨_, _, rfl, .inl (SqL.of upd_same), rfl, rfl, _, rfl, if_off rfl (iteF ?_)⟩⟩)⟩⟩
    have pl2 := pl1.new (u := .lst [.int 2, .int 8]) hl
    refine ⟨_, rfl, rfl, _, rfl, iteDN (by decide +kernel) ?_⟩
    refine ⟨_, rfl, rfl, _, rfl, iteDN (by decide +kernel) ⟨_, rfl, rfl, _, rfl, iteDN (by decide +kernel) ?_⟩⟩
    refine ⟨_, rfl, rfl, _, rfl, iteD rfl ?_⟩
    refine ⟨_, rfl, p, 3, rfl, pl2.2.2, by decide, by decide, fun H8 z pl8 z0 z1 => ⟨rfl, _, rfl, ?_⟩⟩
    by_cases hz : z = 0
    · refine iteD (by rw [hz]) ⟨small (by show 1 ≤ 1000000; decide), fun t ht => ?_⟩
      exact q _ _ (.lf .tick) ((pl2.trans pl8).new ht) ⟨t, rfl, upd_same⟩ trivial
    · refine iteDN (fun w => hz (by injection w)) ?_
      refine ⟨_, rfl, p, 3, rfl, pl8.2.2, by decide, by decide, fun H9 r pl9 r0 r1 => q _ _ (.lf (.val r)) ((pl2.trans pl8).trans pl9) rfl ⟨r0, by omega⟩⟩
  · refine ⟨_, rfl, rfl, _, rfl, iteDN (by decide +kernel) ⟨_, rfl, rfl, _, rfl, iteDN (by decide +kernel) (iteF ⟨_, rfl, small (by show 2 ≤ 1000000; decide), fun l hl => ⟨_, _, rfl, .inl (SqL.of upd_same), rfl, rfl, _, rfl, if_off rfl (iteF ?_)⟩⟩)⟩⟩
    have pl2 := pl1.new (u := .lst [.int 2, .int 8]) hl
    refine ⟨_, rfl, rfl, _, rfl, iteDN (by decide +kernel) ?_⟩
    refine ⟨_, rfl, rfl, _, rfl, iteDN (by decide +kernel) ⟨_, rfl, rfl, _, rfl, iteDN (by decide +kernel) ?_⟩⟩
    refine ⟨_, rfl, rfl, _, rfl, iteDN (by decide +kernel) ?_⟩
    have eb2 := pl2.at_ eb nb
    have e22 := pl2.at_ e2 n2
    refine ⟨_, rfl, rfl, _, rfl, iteD rfl ⟨_, rfl, _, _, rfl, lb_fns eb2, small (by decide), fun l2 hl2 => ?_⟩⟩
    have s2 := same_upd (o := .lst []) hl2
    have pl3 := pl2.sm s2
    refine ⟨_, _, _, rfl, rfl, SqL.of (s2 _ _ e22), SqL.of upd_same, _, rfl, ?_⟩
    by_cases hc : fs = []
    · refine if_off (by rw [hc]; rfl) ?_
      refine ⟨_, rfl, rfl, _, rfl, iteDN (by decide +kernel) ?_⟩
      refine ⟨_, rfl, small (by show 3 ≤ 1000000; decide), fun l9 hl9 => ?_⟩
      have plb := pl3.new (u := .lst [.str "plus", .str "less", .str "same"]) hl9
      refine ⟨p, l9, _, rfl, plb.2.2, upd_same, pool_ne pl3.2.2 hl9, by show 0 < 3; decide, by show 3 ≤ 1000; decide, fun H9 k9 v9 pl9 ev9 => ?_⟩
      obtain ⟨o, rfl⟩ := ops_at ev9
      refine ⟨_, rfl, ?_⟩
      refine ⟨_, rfl, _, rfl, _, rfl, _, rfl, _, _, rfl, rfl, p, b, B, m, rfl, L.pl (plb.trans pl9), m2, fun H10 v1 l1 pl10 hl1 hv1 => ?_⟩
      refine ⟨_, rfl, _, rfl, _, rfl, _, rfl, _, _, rfl, rfl, p, b, B, m, rfl, L.pl ((plb.trans pl9).trans pl10), m2, fun H11 v2 l2 pl11 hl2 hv2 => ?_⟩
      refine ⟨small (by show 3 ≤ 1000000; decide), fun t ht => ?_⟩
      have k11 := pl11.keep0 (K := K)
      have kt := keep0_new (K := K) (o := .tup [.str o.nm, v1, v2]) ht
      exact q _ _ (.bin o l1 l2) ((((plb.trans pl9).trans pl10).trans pl11).new ht) ⟨t, v1, v2, rfl, upd_same, kt.lf (k11.lf hl1), kt.lf hl2⟩ ⟨hv1, hv2⟩
    · refine if_of (by cases fs with | nil => exact absurd rfl hc | cons _ _ => rfl) ?_
      have lf := Paired.length pf
      have l0 : 0 < fs.length := List.length_pos_iff.mpr hc
      refine ⟨_, rfl, _, rfl, _, _, rfl, lb_fns (s2 _ _ eb2), p, q1, _, rfl, pl3.2.2, s2 _ _ e22, n2, by rw [List.length_map]; omega, by rw [List.length_map]; have := L.f3; omega, fun H9 k v pl9 ev => ?_⟩
      obtain ⟨f, hf, fa, rfl, hfa⟩ := paired_get (paired_map V.ref pf) ev
      have pl39 := pl3.trans pl9
      have mf := List.mem_of_getElem? hf
      obtain ⟨fn1, fm⟩ := L.fnn f mf
      obtain ⟨fr, fw, ef, _⟩ := (pl39.keep (K := K)).lfn hfa
      refine ⟨_, rfl, _, _, rfl, lf_name ef, _, rfl, _, _, rfl, lf_many ef, _, rfl, by omega, by omega, fun D hD => ?_⟩
      have nD := pool_ne pl39.2.2 hD
      refine lcM (K := K) (E := Pl p) walk_range (envP nD) hD ((Pl.refl pl39.2.2).new hD) (small (by rw [Int.toNat_natCast]; omega)) LfAt (fun _ _ _ _ k h => k.lf h) (fun i ls => ls.length = i ∧ ∀ l ∈ ls, Lv (B.cells.map (·.1)) m l) ⟨rfl, fun _ h => by cases h⟩ (fun i ls _ h => Nat.le_of_eq h.1) (fun _ _ => trivial) (fun i x H10 H11 ls No Ye hi e10 ml y1 no ye => ?_) (fun H10 ys ls e10 h10 r10 m10 => ?_)
      · obtain ⟨rfl, rfl⟩ := y1
        refine ⟨rfl, ty ⟨_, rfl, _, rfl, _, rfl, p, b, B, m, rfl, L.pl (pl39.trans e10), m2, fun H12 v l pl12 hl hv => ye v l H12 pl12 hl ⟨by rw [List.length_append, ml.1]; rfl, fun x hx => ?_⟩⟩⟩
        rcases List.mem_append.mp hx with hx | hx
        · exact ml.2 x hx
        · rw [List.mem_singleton] at hx
          exact hx ▸ hv
      · have lm : ls.length = f.many := by
          have z := m10.1
          rw [Int.toNat_natCast] at z
          exact z
        refine ⟨D, ys, rfl, .inl ⟨SqL.of h10, fun l3 hl3 => ⟨small (by show 3 ≤ 1000000; decide), fun t ht => ?_⟩⟩⟩
        have s3 := (same_upd (o := .tup ys) hl3)
        have s4 := (same_upd (o := .tup [.str "call", .str f.name, .ref l3]) ht)
        exact q _ _ (.call f.name ls) (((pl39.trans e10).sm s3).sm s4) ⟨t, l3, ys, rfl, upd_same, s4 _ _ upd_same, Paired.mapP r10 fun _ _ h => (Same.keep0 (K := K) (s3.trans s4)).lf h⟩ ⟨⟨f, mf, rfl, lm⟩, fn1, by omega, m10.2⟩
  · refine ⟨_, rfl, rfl, _, rfl, iteDN (by decide +kernel) ⟨_, rfl, rfl, _, rfl, iteDN (by decide +kernel) (iteF ⟨_, rfl, small (by show 2 ≤ 1000000; decide), fun l hl => ⟨_, _, rfl, .inl (SqL.of upd_same), rfl, rfl, _, rfl, if_off rfl (iteF ?_)⟩⟩)⟩⟩
    have pl2 := pl1.new (u := .lst [.int 2, .int 8]) hl
    refine ⟨_, rfl, rfl, _, rfl, iteDN (by decide +kernel) ?_⟩
    refine ⟨_, rfl, rfl, _, rfl, iteDN (by decide +kernel) ⟨_, rfl, rfl, _, rfl, iteDN (by decide +kernel) ?_⟩⟩
    refine ⟨_, rfl, rfl, _, rfl, iteDN (by decide +kernel) ?_⟩
    refine ⟨_, rfl, rfl, _, rfl, iteDN (by decide +kernel) (iteF ?_)⟩
    refine ⟨_, rfl, rfl, _, rfl, iteDN (by decide +kernel) ?_⟩
    refine ⟨_, rfl, small (by show 3 ≤ 1000000; decide), fun l9 hl9 => ?_⟩
    have plb := pl2.new (u := .lst [.str "plus", .str "less", .str "same"]) hl9
    refine ⟨p, l9, _, rfl, plb.2.2, upd_same, pool_ne pl2.2.2 hl9, by show 0 < 3; decide, by show 3 ≤ 1000; decide, fun H9 k9 v9 pl9 ev9 => ?_⟩
    obtain ⟨o, rfl⟩ := ops_at ev9
    refine ⟨_, rfl, ?_⟩
    refine ⟨_, rfl, _, rfl, _, rfl, _, rfl, _, _, rfl, rfl, p, b, B, m, rfl, L.pl (plb.trans pl9), m2, fun H10 v1 l1 pl10 hl1 hv1 => ?_⟩
    refine ⟨_, rfl, _, rfl, _, rfl, _, rfl, _, _, rfl, rfl, p, b, B, m, rfl, L.pl ((plb.trans pl9).trans pl10), m2, fun H11 v2 l2 pl11 hl2 hv2 => ?_⟩
    refine ⟨small (by show 3 ≤ 1000000; decide), fun t ht => ?_⟩
    have k11 := pl11.keep0 (K := K)
    have kt := keep0_new (K := K) (o := .tup [.str o.nm, v1, v2]) ht
    exact q _ _ (.bin o l1 l2) ((((plb.trans pl9).trans pl10).trans pl11).new ht) ⟨t, v1, v2, rfl, upd_same, kt.lf (k11.lf hl1), kt.lf hl2⟩ ⟨hv1, hv2⟩
  · refine ⟨_, rfl, rfl, _, rfl, iteDN (by decide +kernel) ⟨_, rfl, rfl, _, rfl, iteDN (by decide +kernel) (iteF ⟨_, rfl, small (by show 2 ≤ 1000000; decide), fun l hl => ⟨_, _, rfl, .inl (SqL.of upd_same), rfl, rfl, _, rfl, if_off rfl (iteF ?_)⟩⟩)⟩⟩
    have pl2 := pl1.new (u := .lst [.int 2, .int 8]) hl
    refine ⟨_, rfl, rfl, _, rfl, iteDN (by decide +kernel) ?_⟩
    refine ⟨_, rfl, rfl, _, rfl, iteDN (by decide +kernel) ⟨_, rfl, rfl, _, rfl, iteDN (by decide +kernel) ?_⟩⟩
    refine ⟨_, rfl, rfl, _, rfl, iteDN (by decide +kernel) ?_⟩
    refine ⟨_, rfl, rfl, _, rfl, iteDN (by decide +kernel) (iteF ?_)⟩
    refine ⟨_, rfl, rfl, _, rfl, iteDN (by decide +kernel) ?_⟩
    refine ⟨_, rfl, small (by show 3 ≤ 1000000; decide), fun l9 hl9 => ?_⟩
    have plb := pl2.new (u := .lst [.str "plus", .str "less", .str "same"]) hl9
    refine ⟨p, l9, _, rfl, plb.2.2, upd_same, pool_ne pl2.2.2 hl9, by show 0 < 3; decide, by show 3 ≤ 1000; decide, fun H9 k9 v9 pl9 ev9 => ?_⟩
    obtain ⟨o, rfl⟩ := ops_at ev9
    refine ⟨_, rfl, ?_⟩
    refine ⟨_, rfl, _, rfl, _, rfl, _, rfl, _, _, rfl, rfl, p, b, B, m, rfl, L.pl (plb.trans pl9), m2, fun H10 v1 l1 pl10 hl1 hv1 => ?_⟩
    refine ⟨_, rfl, _, rfl, _, rfl, _, rfl, _, _, rfl, rfl, p, b, B, m, rfl, L.pl ((plb.trans pl9).trans pl10), m2, fun H11 v2 l2 pl11 hl2 hv2 => ?_⟩
    refine ⟨small (by show 3 ≤ 1000000; decide), fun t ht => ?_⟩
    have k11 := pl11.keep0 (K := K)
    have kt := keep0_new (K := K) (o := .tup [.str o.nm, v1, v2]) ht
    exact q _ _ (.bin o l1 l2) ((((plb.trans pl9).trans pl10).trans pl11).new ht) ⟨t, v1, v2, rfl, upd_same, kt.lf (k11.lf hl1), kt.lf hl2⟩ ⟨hv1, hv2⟩
  · refine ⟨_, rfl, rfl, _, rfl, iteDN (by decide +kernel) ⟨_, rfl, rfl, _, rfl, iteDN (by decide +kernel) (iteF ⟨_, rfl, small (by show 2 ≤ 1000000; decide), fun l hl => ⟨_, _, rfl, .inl (SqL.of upd_same), rfl, rfl, _, rfl, if_off rfl (iteF ?_)⟩⟩)⟩⟩
    have pl2 := pl1.new (u := .lst [.int 2, .int 8]) hl
    refine ⟨_, rfl, rfl, _, rfl, iteDN (by decide +kernel) ?_⟩
    refine ⟨_, rfl, rfl, _, rfl, iteDN (by decide +kernel) ⟨_, rfl, rfl, _, rfl, iteDN (by decide +kernel) ?_⟩⟩
    refine ⟨_, rfl, rfl, _, rfl, iteDN (by decide +kernel) ?_⟩
    refine ⟨_, rfl, rfl, _, rfl, iteDN (by decide +kernel) (iteF ?_)⟩
    refine ⟨_, rfl, rfl, _, rfl, iteD rfl ?_⟩
    refine ⟨small (by show 1 ≤ 1000000; decide), fun ta hta => ?_⟩
    have pl3 := pl2.new (u := .tup [.str "if"]) hta
    refine ⟨3, rfl, by decide, by decide, fun D hD => ?_⟩
    have nD := pool_ne pl3.2.2 hD
    refine lcM (K := K) (E := Pl p) walk_range (envP nD) hD ((Pl.refl pl3.2.2).new hD) (by show 3 ≤ sizeLine; decide) LfAt (fun _ _ _ _ k h => k.lf h) (fun i ls => ls.length = i ∧ ∀ l ∈ ls, Lv (B.cells.map (·.1)) m l) ⟨rfl, fun _ h => by cases h⟩ (fun i ls _ h => Nat.le_of_eq h.1) (fun _ _ => trivial) (fun i x H10 H11 ls No Ye hi e10 ml y1 no ye => ?_) (fun H10 ys ls e10 h10 r10 m10 => ?_)
    · obtain ⟨rfl, rfl⟩ := y1
      refine ⟨rfl, ty ⟨_, rfl, _, rfl, _, rfl, _, rfl, _, _, rfl, rfl, p, b, B, m, rfl, L.pl (pl3.trans e10), m2, fun H12 v l pl12 hl hv => ye v l H12 pl12 hl ⟨by rw [List.length_append, ml.1]; rfl, fun x hx => ?_⟩⟩⟩
      rcases List.mem_append.mp hx with hx | hx
      · exact ml.2 x hx
      · rw [List.mem_singleton] at hx
        exact hx ▸ hv
    · obtain ⟨m3, mv⟩ := m10
      have m3 : ls.length = 3 := m3
      match ls, ys, m3, r10 with
      | [c, x, y], _, _, .cons (a := vc) hc (.cons (a := vx) hx (.cons (a := vy) hy .nil)) =>
        refine ⟨D, [vc, vx, vy], rfl, .inl ⟨SqL.of h10, fun l3 hl3 => ?_⟩⟩
        have s3 := (same_upd (o := .tup [vc, vx, vy]) hl3)
        have pl4 := (pl3.trans e10).sm s3
        have eta := s3 _ _ (e10.keep.tup (K := K) (upd_same (H := upd H1 l (.lst [.int 2, .int 8])) (a := ta) (o := .tup [.str "if"])))
        refine ⟨ta, l3, [.str "if"], [vc, vx, vy], rfl, rfl, SqT.of eta, SqT.of upd_same, small (by show 4 ≤ 1000000; decide), (fun h => nomatch h), (fun _ h => nomatch h), fun _ _ t ht => ?_⟩
        have k4 : Keep0 K H10 _ := (Same.keep0 s3).trans (keep0_new (o := .tup [.str "if", vc, vx, vy]) ht)
        exact q _ _ (.ite c x y) (pl4.new ht) ⟨t, vc, vx, vy, rfl, upd_same, k4.lf hc, k4.lf hx, k4.lf hy⟩ ⟨mv c (by simp), mv x (by simp), mv y (by simp)⟩
  · refine ⟨_, rfl, rfl, _, rfl, iteDN (by decide +kernel) ⟨_, rfl, rfl, _, rfl, iteDN (by decide +kernel) (iteF ⟨_, rfl, small (by show 2 ≤ 1000000; decide), fun l hl => ⟨_, _, rfl, .inl (SqL.of upd_same), rfl, rfl, _, rfl, if_of rfl ?_⟩⟩)⟩⟩
    have pl2 := pl1.new (u := .lst [.int 2, .int 8]) hl
    have eb2 := pl2.at_ eb nb
    have e12 := pl2.at_ e1 n1
    refine ⟨_, rfl, _, _, rfl, lb_cells eb2, small (by decide), fun l2 hl2 => ?_⟩
    have s2 := same_upd (o := .lst []) hl2
    have pl3 := pl2.sm s2
    refine ⟨_, _, _, rfl, rfl, SqL.of (s2 _ _ e12), SqL.of upd_same, _, rfl, ?_⟩
    by_cases hc : cs = []
    · refine if_of (by rw [hc]; rfl) ?_
      refine ⟨_, rfl, p, 3, rfl, pl3.2.2, by decide, by decide, fun H9 r pl9 r0 r1 => q _ _ (.lf (.val r)) (pl3.trans pl9) rfl ⟨r0, by omega⟩⟩
    · refine if_off (by cases cs with | nil => exact absurd rfl hc | cons _ _ => rfl) ?_
      refine ⟨_, rfl, rfl, _, rfl, iteDN (by decide +kernel) ?_⟩
      refine ⟨_, rfl, rfl, _, rfl, iteDN (by decide +kernel) ⟨_, rfl, rfl, _, rfl, iteD rfl ?_⟩⟩
      have lc := Paired.length pc
      have l0 : 0 < cs.length := List.length_pos_iff.mpr hc
      refine ⟨_, rfl, _, rfl, _, _, rfl, lb_cells (s2 _ _ eb2), p, p1, _, rfl, pl3.2.2, s2 _ _ e12, n1, by rw [List.length_map]; omega, by rw [List.length_map]; have := L.c3; omega, fun H9 k v pl9 ev => ?_⟩
      obtain ⟨c, hc, a, rfl, ha⟩ := paired_get (paired_map V.ref pc) ev
      have ha9 := (pl3.trans pl9).keep.tup (K := K) ha
      refine ⟨_, _, _, _, rfl, rfl, SqT.of ha9, at0, small (by show 2 ≤ 1000000; decide), fun t ht => ?_⟩
      have mc := List.mem_of_getElem? hc
      exact q _ _ (.lf (.cell c.1)) ((pl3.trans pl9).new ht) ⟨t, rfl, upd_same⟩ ⟨List.mem_map.mpr ⟨c, mc, rfl⟩, L.cn c mc⟩
end
end SC

set_option Elab.async false
set_option linter.all false
set_option maxRecDepth 100000
set_option maxHeartbeats 4000000
namespace SC
open PySem PySem.Spec PyProof.Rows L2
open C8 (Cal Met Mak pe_c pe_mk pe_mt pe_mt0 pe_gc InsC)
def tabf (c : Str × Str) : Option V := if c.2 = ("table" : Str) then some (V.str c.1) else none
theorem tab_mem {cs : List (Str × Str)} {v : V} (h : v ∈ cs.filterMap tabf) : ∃ c ∈ cs, c.2 = "table" ∧ v = .str c.1 := by
  obtain ⟨c, hc, e⟩ := List.mem_filterMap.mp h
  unfold tabf at e
  by_cases h : c.2 = ("table" : Str)
  · rw [if_pos h] at e
    exact ⟨c, hc, h, (Option.some.inj e).symm⟩
  · rw [if_neg h] at e
    cases e
section
variable {P : Program} {w : World} {K : PySem.W.Frag} {mg : Str → Option Value} {base : Heap}
def spLWrites : Sp := fun vs H Q _ => ∃ p b B, ∃ m : Nat, vs = [.ref p, .ref b, .int m] ∧ Lb H p b B ∧ m ≤ 2 ∧ ∀ H' v ws, Pl p H H' → WsAt H' v ws → ws.length ≤ 1 → (∀ w ∈ ws, (w.1, ("table" : Str)) ∈ B.cells ∧ IsNm w.1 ∧ Tv B.fns (B.cells.map (·.1)) m w.2) → Q v H'
theorem C_law_writes (T : TX K mg) : Cal P w K mg base 5 "_law_writes" spLWrites [] := by
  have C_law_draw : Cal P w K mg base 1 "_law_draw" spDraw [] := SC.C_law_draw T
  have C_law_pick : Cal P w K mg base 2 "_law_pick" spPick [] := SC.C_law_pick T
  have C_law_term : Cal P w K mg base 4 "_law_term" spTm [] := SC.C_law_term T
  obtain ⟨fd, F⟩ := T.d_law_writes
  refine calD "_law_writes" F T.g_law_writes (b_law_writes F) .nil S_law_writes (fun vs H Q E h => ?_) (fun cdv A outer s H vs Q E hr h => ?_)
  · obtain ⟨p, b, B, m, rfl, L, m2, q⟩ := h
    rfl
  obtain ⟨p, b, B, m, rfl, L, m2, q⟩ := h
  refine ⟨_, (pss_cons (ps_setLc (i := 3) (own := [("_law_cell", 4)]) (by rfl) S_law_writes.nd rfl rfl (sw_true rfl rfl rfl (by decide +kernel)) (pi_list (pe_dget (hu_of hr) (pv 1) pe_str (fun _ _ => rfl))) (blkOk_by (own := [("_law_cell", 4)]) (N := N_law_writes) (sc := d_law_writes.scope) (by decide +kernel)) (fun _ _ _ _ _ => (pg_name (i := 4) S_law_writes.nd rfl (Or.inl rfl))) (fun _ _ _ _ _ => (pts_one (pt_cmpR op_eq (pe_ix (ix_tup' K rfl) (pv 4) pe_int (fun _ _ => rfl)) pe_str (nomark _)))) (fun _ _ _ _ _ => (pe_ix (ix_tup' K rfl) (pv 4) pe_int (fun _ _ => rfl))))
  (pss_cons (ps_if (PW.pt (pw_or (pt_cmpR (op_eqNil (Nat.lt_of_succ_lt (hu_of hr))) (pv 3) (pe_lst pa_nil) (nomark _)) (pw_or1 (pt_cmpR op_eq (pe_c C_law_draw hr (by decide) rfl (pa_cons (pv 0) (pa_cons pe_int pa_nil))) pe_int (nomark _))))) (pss_one (ps_ret (pe_tup pa_nil))) pss_nil)
  (pss_one (ps_ret (pe_tup (pa_cons (pe_tup (pa_cons (pe_c C_law_pick hr (by decide) rfl (pa_cons (pv 0) (pa_cons (pv 3) pa_nil))) (pa_cons (pe_c C_law_term hr (by decide) rfl (pa_cons (pv 0) (pa_cons (pv 1) (pa_cons (pv 2) (pa_cons pe_int pa_nil))))) pa_nil))) pa_nil)))))), ?_⟩
  obtain ⟨p1, q1, cs, fs, eb, e1, e2, pc, pf⟩ := id L.lb
  have lc := Paired.length pc
  have c3 := L.c3
  refine ⟨_, rfl, _, _, rfl, lb_cells eb, p1, rfl, ⟨_, SqL.of e1⟩, fun D hD => ?_⟩
  refine lcF (walk_list (K := K)) hD (small (by rw [List.length_map]; omega)) (fun k => B.cells[k]?.bind tabf) (fun H2 s2 => SqL.of (s2 _ _ e1)) (fun k y H2 H3 No Ye hk s2 y1 no ye => ?_) fun H2 s2 h2 => ?_
  · obtain ⟨rfl, ey⟩ := y1
    obtain ⟨c, ec, a, rfl, ha⟩ := paired_get (paired_map V.ref pc) ey
    have ha := s2 _ _ ha
    refine ⟨rfl, _, rfl, _, _, _, _, rfl, rfl, SqT.of ha, at1, rfl, _, rfl, ?_⟩
    by_cases h : c.2 = ("table" : Str)
    · exact iteD (congrArg V.str h) ⟨_, rfl, _, _, _, _, rfl, rfl, SqT.of ha, at0, ye _ (by rw [ec]; exact if_pos h) _ (Same.refl _)⟩
    · exact iteDN (strne h) (no (by rw [ec]; exact if_neg h) _ (Same.refl _))
  rw [List.length_map, lc, fm_get] at h2
  have ltb := List.length_filterMap_le tabf B.cells
  have mtb := fun v => tab_mem (cs := B.cells) (v := v)
  revert h2 ltb mtb
  generalize B.cells.filterMap tabf = tb
  intro h2 ltb mtb
  have pl2 := Same.pl s2 L.pool
  have nD : D ≠ p := pool_ne L.pool hD
  refine ⟨_, rfl, small (by decide), fun l hl => ?_⟩
  have s3 := same_upd (o := .lst []) hl
  have pl3 := pl2.sm s3
  refine ⟨_, _, _, rfl, rfl, SqL.of (s3 _ _ h2), SqL.of upd_same, _, rfl, ?_⟩
  have fin0 : ∀ H' t, Pl p H H' → H' t = some (.tup []) → Q (.ref t) H' := fun H' t pl h => q H' _ [] pl ⟨t, [], rfl, h, .nil⟩ (Nat.zero_le _) fun _ h => by cases h
  by_cases ht : tb = []
  · refine if_of (by rw [ht]; rfl) (iteT ⟨small (by decide), fun t ht => fin0 _ t (pl3.new ht) upd_same⟩)
  · refine if_off (by cases tb with | nil => exact absurd rfl ht | cons _ _ => rfl) ?_
    refine ⟨_, rfl, p, 2, rfl, pl3.2.2, by decide, by decide, fun H5 r pl5 r0 r1 => ⟨rfl, _, rfl, ?_⟩⟩
    have pl35 := pl3.trans pl5
    by_cases hr0 : r = 0
    · refine iteD (by rw [hr0]) ⟨small (by decide), fun t ht => fin0 _ t (pl35.new ht) upd_same⟩
    · refine iteDN (fun z => hr0 (by injection z)) ?_
      have l0 : 0 < tb.length := List.length_pos_iff.mpr ht
      refine ⟨_, rfl, _, rfl, p, D, tb, rfl, pl5.2.2, pl5.at_ (s3 _ _ h2) nD, nD, l0, by omega, fun H6 k v pl6 ev => ?_⟩
      obtain ⟨c, hc, ck, rfl⟩ := mtb v (List.mem_of_getElem? ev)
      refine ⟨_, rfl, _, rfl, _, rfl, p, b, B, m, rfl, L.pl (pl35.trans pl6), m2, fun H7 v t pl7 htm htv => ?_⟩
      refine ⟨small (by show 2 ≤ 1000000; decide), fun t1 ht1 => ⟨small (by show 1 ≤ 1000000; decide), fun t2 ht2 => ?_⟩⟩
      have s1 := same_upd (o := .tup [.str c.1, v]) ht1
      have s2 := same_upd (o := .tup [.ref t1]) ht2
      refine q _ _ [(c.1, t)] ((((pl35.trans pl6).trans pl7).sm s1).sm s2) ⟨t2, [t1], rfl, upd_same, .cons ⟨v, s2 _ _ upd_same, Same.tm (s1.trans s2) htm⟩ .nil⟩ (Nat.le_refl _) fun w hw => ?_
      rw [List.mem_singleton] at hw
      subst hw
      exact ⟨by rw [← ck]; exact hc, L.cn c hc, htv⟩
end
end SC

set_option Elab.async false
set_option linter.all false
set_option maxRecDepth 100000
set_option maxHeartbeats 4000000
namespace SC
open PySem PySem.Spec PyProof.Rows L2
open C8 (Cal Met Mak pe_c pe_mk pe_mt pe_mt0 pe_gc InsC)
/-! ### the law's own: books -/
theorem KeepT.w {H H' : Hp} (k : KeepT H H') {a : Addr} {w : Str × Tm} (h : WAt H a w) : WAt H' a w := let ⟨v, e, t⟩ := h; ⟨v, k _ _ e, k.tm t⟩
theorem KeepT.ws {H H' : Hp} (k : KeepT H H') {v : V} {ws : List (Str × Tm)} (h : WsAt H v ws) : WsAt H' v ws := let ⟨a, ps, e, h, r⟩ := h; ⟨a, ps, e, k _ _ h, Paired.mapP r fun _ _ z => k.w z⟩
theorem Pl.keepT {p : Addr} {H H' : Hp} (s : Pl p H H') : KeepT H H' := fun a xs h => s.keep.tup (K := []) h
theorem Same.keepT {H H' : Hp} (s : Same H H') : KeepT H H' := fun a xs h => s _ _ h
theorem KeepT.trans {H H1 H2 : Hp} (a : KeepT H H1) (b : KeepT H1 H2) : KeepT H H2 := fun c xs h => b _ _ (a _ _ h)
theorem upd_keepT {H : Hp} {d : Addr} {kvs : List (Key × V)} {o : HO} (h : H d = some (.dK kvs)) : KeepT H (upd H d o) := But.keepT But.upd h
abbrev bkv (x y : V) : List (Key × V) := [(.inr "cells", x), (.inr "functions", y)]
theorem lfs_ne {f : Fn} {r w x y : V} : lfs f r w ≠ bkv x y := fun z => absurd (congrArg List.length z) (by show ¬ (6 : Nat) = 2; decide)
theorem lb_put {H : Hp} {d p' q' : Addr} {x y : V} {cs fs : List Addr} {B : Bk} (hd : H d = some (.dK (bkv x y))) (h1 : H p' = some (.lst (cs.map V.ref))) (h2 : H q' = some (.lst (fs.map V.ref))) (pc : Paired (LcAt H) cs B.cells) (pf : Paired (LfnAt H) fs B.fns) :
    LbAt (upd H d (.dK (bkv (.ref p') (.ref q')))) d B := by
  have k := upd_keepT (o := .dK (bkv (.ref p') (.ref q'))) hd
  refine ⟨p', q', cs, fs, upd_same, ?_, ?_, Paired.mapP pc fun _ _ z => k _ _ z, Paired.mapP pf fun a f z => ?_⟩
  · rw [upd_ne (ne_of h1 hd (by intro z; cases z))]
    exact h1
  · rw [upd_ne (ne_of h2 hd (by intro z; cases z))]
    exact h2
  · obtain ⟨r, w, e, t, u⟩ := z
    refine ⟨r, w, ?_, k.tm t, k.ws u⟩
    rw [upd_ne (ne_of e hd (by intro z; injection z with z; exact lfs_ne z))]
    exact e
abbrev KNDS : List V := [V.str "frozen", V.str "setting", V.str "table", V.str "table"]
theorem knds_ne {i j : Int} : KNDS ≠ [V.int i, V.int j] := fun e => absurd (congrArg List.length e) (by show ¬ (4 : Nat) = 2; decide)
theorem knds_at {k : Nat} {v : V} (h : KNDS[k]? = some v) : ∃ x : Str, v = .str x ∧ x ∈ KDS := by
  match k, h with
  | 0, h => cases h; exact ⟨_, rfl, by decide +kernel⟩
  | 1, h => cases h; exact ⟨_, rfl, by decide +kernel⟩
  | 2, h => cases h; exact ⟨_, rfl, by decide +kernel⟩
  | 3, h => cases h; exact ⟨_, rfl, by decide +kernel⟩
  | k + 4, h => cases h
theorem lbls_at {k : Nat} {v : V} (h : [V.str "always", V.str "session", V.str "statement", V.str "changing", V.str "changing"][k]? = some v) : ∃ x : Str, v = .str x ∧ x ∈ LBS := by
  match k, h with
  | 0, h => cases h; exact ⟨_, rfl, by decide +kernel⟩
  | 1, h => cases h; exact ⟨_, rfl, by decide +kernel⟩
  | 2, h => cases h; exact ⟨_, rfl, by decide +kernel⟩
  | 3, h => cases h; exact ⟨_, rfl, by decide +kernel⟩
  | 4, h => cases h; exact ⟨_, rfl, by decide +kernel⟩
  | k + 5, h => cases h
structure BkS (H0 H : Hp) (p d lk wa : Addr) (ns : List Str) (B : Bk) : Prop where
  pl : Pl p H0 H
  d0 : H0 d = none
  lb : LbAt H d B
  wa : H wa = some (.lst (ns.map V.str))
  lk : H lk = some (.lst KNDS)
theorem strs_ne {ns : List Str} {i j : Int} : ns.map V.str ≠ [V.int i, V.int j] := fun e => by
  cases ns with
  | nil => cases e
  | cons c r => injection e with e1 _; cases e1
theorem BkS.step {H0 H H' : Hp} {p d lk wa : Addr} {ns : List Str} {B : Bk} (h : BkS H0 H p d lk wa ns B) (s : Pl p H H') : BkS H0 H' p d lk wa ns B :=
  ⟨h.pl.trans s, h.d0, (s.keep (K := [])).lb h.lb, (s.keep (K := [])) _ _ h.wa fun i j e => strs_ne e, (s.keep (K := [])) _ _ h.lk fun i j e => by injection e with e _; cases e⟩
theorem BkS.put {H0 H : Hp} {p d lk wa : Addr} {ns : List Str} {B B' : Bk} {x y x' y' : V} (h : BkS H0 H p d lk wa ns B) (hd : H d = some (.dK (bkv x y))) (lb : LbAt (upd H d (.dK (bkv x' y'))) d B') : BkS H0 (upd H d (.dK (bkv x' y'))) p d lk wa ns B' :=
  ⟨h.pl.put h.d0, h.d0, lb, by rw [upd_ne (ne_of h.wa hd (by intro z; cases z))]; exact h.wa, by rw [upd_ne (ne_of h.lk hd (by intro z; cases z))]; exact h.lk⟩
theorem nodup_at {α : Type} {xs : List α} (nd : xs.Nodup) {i j : Nat} {x : α} (h : xs[i]? = some x) (hj : j ≤ i) : x ∉ xs.take j := by
  intro hm
  obtain ⟨k, hk, ek⟩ := mem_take_at hm
  rw [List.nodup_iff_pairwise_ne, List.pairwise_iff_getElem] at nd
  obtain ⟨h1, h2⟩ := List.getElem?_eq_some_iff.mp h
  obtain ⟨h3, h4⟩ := List.getElem?_eq_some_iff.mp ek
  exact nd k i h3 h1 (by omega) (by rw [h2, h4])
theorem at_map {ns : List Str} {i : Nat} {x : Str} (h : ns[i]? = some x) : (ns.map V.str)[i]? = some (.str x) := by
  rw [List.getElem?_map, h]
  rfl
theorem Fv.app {cells : List (Str × Str)} {fns : List Fn} {fs : List Fn} {f : Fn} (h : Fv cells fs f) (e : fns = fs) : Fv cells fns f := e ▸ h
section
variable {P : Program} {w : World} {K : PySem.W.Frag} {mg : Str → Option Value} {base : Heap}
def spLBook : Sp := fun vs H Q _ => ∃ p, vs = [.ref p, .int 3, .int 1] ∧ PoolAt H p ∧ ∀ H' b B, Pl p H H' → LbAt H' b B → Bv B → Q (.ref b) H'
theorem C_law_book (T : TX K mg) : Cal P w K mg base 6 "_law_book" spLBook [] := by
  have C_law_draw : Cal P w K mg base 1 "_law_draw" spDraw [] := SC.C_law_draw T
  have C_law_names : Cal P w K mg base 3 "_law_names" spLNames [] := SC.C_law_names T
  have C_law_pick : Cal P w K mg base 2 "_law_pick" spPick [] := SC.C_law_pick T
  have C_law_term : Cal P w K mg base 4 "_law_term" spTm [] := SC.C_law_term T
  have C_law_writes : Cal P w K mg base 5 "_law_writes" spLWrites [] := SC.C_law_writes T
  obtain ⟨fd, F⟩ := T.d_law_book
  refine calD "_law_book" F T.g_law_book (b_law_book F) .nil S_law_book (fun vs H Q E h => ?_) (fun cdv A outer s H vs Q E hr h => ?_)
  · obtain ⟨p, rfl, hP, q⟩ := h
    rfl
  obtain ⟨p, rfl, hP, q⟩ := h
  refine ⟨_, (pss_cons (ps_set (i := 3) S_law_book.nd rfl (Or.inl rfl) (pe_c C_law_names hr (by decide) rfl (pa_cons (pv 0) (pa_cons pe_int pa_nil))))
  (pss_cons (ps_par (i := 4) (j := 5) (by rfl) S_law_book.nd rfl rfl (by decide) rfl rfl (pa_cons (pe_disp (pps_cons pe_str (pe_lst pa_nil) (pps_cons pe_str (pe_lst pa_nil) pps_nil)) (by rfl) (by rfl) (fun z => by cases z) (by decide)) (pa_cons (pe_lst (pa_cons pe_str (pa_cons pe_str (pa_cons pe_str (pa_cons pe_str pa_nil))))) pa_nil)) (by rfl))
  (pss_cons (ps_for PassesOwn.never rfl (pi_range1 (by rfl) T.f_range (pa_cons (pe_c C_law_draw hr (by decide) rfl (pa_cons (pv 0) (pa_cons pe_int pa_nil))) pa_nil)) (pg_name (i := 6) S_law_book.nd rfl (Or.inl rfl))
    (pss_one (ps_dput (hu_of hr) (pv 4) pe_str (pe_op op_cat (pe_dget (hu_of hr) (pv 4) pe_str (fun _ _ => rfl)) (pe_lst (pa_cons (pe_tup (pa_cons (pe_ix ix_list (pv 3) (pv 6) (fun _ _ => rfl)) (pa_cons (pe_c C_law_pick hr (by decide) rfl (pa_cons (pv 0) (pa_cons (pv 5) pa_nil))) pa_nil))) pa_nil))) rfl)))
  (pss_cons (ps_for PassesOwn.never rfl (pi_range1 (by rfl) T.f_range (pa_cons (pe_op op_add pe_int (pe_c C_law_draw hr (by decide) rfl (pa_cons (pv 0) (pa_cons (pv 1) pa_nil)))) pa_nil)) (pg_name (i := 6) S_law_book.nd rfl (Or.inl rfl))
    (pss_cons (ps_set (i := 7) S_law_book.nd rfl (Or.inl rfl) (pe_c C_law_draw hr (by decide) rfl (pa_cons (pv 0) (pa_cons pe_int pa_nil))))
  (pss_cons (ps_set (i := 8) S_law_book.nd rfl (Or.inl rfl) (pe_disp (pps_cons pe_str (pe_ix ix_list (pv 3) (pe_op op_add pe_int (pv 6)) (fun _ _ => rfl)) (pps_cons pe_str (pv 7) (pps_cons pe_str (pe_c C_law_term hr (by decide) rfl (pa_cons (pv 0) (pa_cons (pv 4) (pa_cons (pv 7) (pa_cons (pv 2) pa_nil))))) pps_nil))) (by rfl) (by rfl) (fun z => by cases z) (by decide)))
  (pss_cons (ps_asg (pe_tup (pa_cons (pe_c C_law_writes hr (by decide) rfl (pa_cons (pv 0) (pa_cons (pv 4) (pa_cons (pv 7) pa_nil)))) (pa_cons (pe_c C_law_draw hr (by decide) rfl (pa_cons (pv 0) (pa_cons pe_int pa_nil))) pa_nil))) (pg_tup (by rfl) (pgs_cons (pg_sub (pv 8) pe_str (set_dict (hu_of hr))) (pgs_cons (pg_sub (pv 8) pe_str (set_dict (hu_of hr))) pgs_nil))))
  (pss_cons (ps_dput (hu_of hr) (pv 8) pe_str (pe_c C_law_pick hr (by decide) rfl (pa_cons (pv 0) (pa_cons (pe_lst (pa_cons pe_str (pa_cons pe_str (pa_cons pe_str (pa_cons pe_str (pa_cons pe_str pa_nil)))))) pa_nil))) rfl)
  (pss_one (ps_dput (hu_of hr) (pv 4) pe_str (pe_op op_cat (pe_dget (hu_of hr) (pv 4) pe_str (fun _ _ => rfl)) (pe_lst (pa_cons (pv 8) pa_nil))) rfl)))))))
  (pss_one (ps_ret (pv 4))))))), ?_⟩
  refine ⟨_, rfl, p, rfl, hP, fun H1 wa ns pl1 hw nl nnd nnm => ?_⟩
  refine fun d hd => ?_
  refine ⟨small (by decide), fun l1 hl1 => ⟨small (by decide), fun l2 hl2 => ?_⟩⟩
  have pd := pl1.new (u := .dK []) hd
  have s1 := same_upd (o := .lst []) hl1
  have s2 := same_upd (o := .lst []) hl2
  refine ⟨s2 _ _ (s1 _ _ upd_same), [(.inr "cells", .ref l1), (.inr "functions", .ref l2)], rfl, by show 2 ≤ 15; decide, ?_⟩
  refine ⟨small (by show 4 ≤ 1000000; decide), fun lk hlk => ?_⟩
  refine ⟨_, _, rfl, ?_⟩
  have hd0 : H d = none := by
    cases z : H d with
    | none => rfl
    | some o =>
      have n : d ≠ p := fun e => by
        obtain ⟨i, j, h, _⟩ := pl1.2.2
        rw [e, h] at hd
        cases hd
      rw [pl1.at_ z n] at hd
      cases hd
  have hdd := s2 _ _ (s1 _ _ (upd_same (H := H1) (a := d) (o := .dK [])))
  have n1d : l1 ≠ d := ne_of (s2 _ _ upd_same) hdd (by intro z; cases z)
  have n2d : l2 ≠ d := ne_of upd_same hdd (by intro z; cases z)
  have pl2 : Pl p H (upd (upd (upd H1 d (.dK [])) l1 (.lst [])) l2 (.lst [])) := (pd.sm s1).sm s2
  have em : mergeK [] [((Sum.inr "cells" : Key), V.ref l1), (Sum.inr "functions", V.ref l2)] = bkv (.ref l1) (.ref l2) := by
    rw [mergeK_new _ _ (by show ([Sum.inr "cells", Sum.inr "functions"] : List Key).Nodup; decide +kernel) (fun _ _ _ h => by cases h)]
    rfl
  rw [em] at hlk ⊢
  have sB : Same H1 (upd (upd (upd (upd (upd H1 d (.dK [])) l1 (.lst [])) l2 (.lst [])) d (.dK (bkv (.ref l1) (.ref l2)))) lk (.lst KNDS)) := (Same.of_upd ((same_upd hd).trans (s1.trans s2)) hd).trans (same_upd hlk)
  have nlk : d ≠ lk := ne_of_none upd_same hlk
  have b0 : BkS H (upd (upd (upd (upd (upd H1 d (.dK [])) l1 (.lst [])) l2 (.lst [])) d (.dK (bkv (.ref l1) (.ref l2)))) lk (.lst KNDS)) p d lk wa ns ⟨[], []⟩ := by
    refine ⟨(pl2.put hd0).new hlk, hd0, ⟨l1, l2, [], [], ?_, ?_, ?_, .nil, .nil⟩, sB _ _ hw, upd_same⟩
    · rw [upd_ne nlk]
      exact upd_same
    · have z : upd (upd (upd (upd H1 d (.dK [])) l1 (.lst [])) l2 (.lst [])) d (.dK (bkv (.ref l1) (.ref l2))) l1 = some (.lst []) := by
        rw [upd_ne n1d]
        exact s2 _ _ upd_same
      exact same_upd hlk _ _ z
    · have z : upd (upd (upd (upd H1 d (.dK [])) l1 (.lst [])) l2 (.lst [])) d (.dK (bkv (.ref l1) (.ref l2))) l2 = some (.lst []) := by
        rw [upd_ne n2d]
        exact upd_same
      exact same_upd hlk _ _ z
  refine ⟨_, rfl, p, 4, rfl, b0.pl.2.2, by decide, by decide, fun H2 n pln n0 n4 => ⟨n, rfl, by omega, by omega, ?_⟩⟩
  refine for_it walk_range (fun i σ H3 => ∃ cells, BkS H H3 p d lk wa ns ⟨cells, []⟩ ∧ cells.map (·.1) = ns.take i ∧ (∀ c ∈ cells, c.2 ∈ KDS) ∧ ∃ x y z, σ = [some (.ref p), some (.int 3), some (.int 1), some (.ref wa), some (.ref d), some (.ref lk), x, y, z]) ⟨[], b0.step pln, by rw [List.take_zero]; rfl, (fun _ h => by cases h), _, _, _, rfl⟩ (fun _ _ _ _ _ => trivial) (fun i v σ H3 H4 hi pv y1 => ?_) fun σ H3 pv => ?_
  · obtain ⟨cells, S, ec, kc, x, y, z, rfl⟩ := pv
    obtain ⟨rfl, rfl⟩ := y1
    have hi4 : i < 4 := by omega
    obtain ⟨p1, q1, cs, fs, eb, e1, e2, pc, pf⟩ := id S.lb
    obtain ⟨pi, pj, hpp, _⟩ := id S.pl.2.2
    have hni : i < ns.length := by omega
    have en := List.getElem?_eq_getElem hni
    refine ⟨_, rfl, _, _, rfl, lb_cells eb, _, rfl, _, rfl, _, _, _, _, rfl, rfl, SqL.of S.wa, by rw [Int.zero_add]; exact atI_nat (at_map en), ?_⟩
    refine ⟨_, rfl, _, rfl, p, lk, KNDS, rfl, S.pl.2.2, S.lk, ne_of S.lk hpp (by intro z; injection z with z; exact knds_ne z), by show 0 < 4; decide, by show 4 ≤ 1000; decide, fun H5 k v pl5 ev => ?_⟩
    obtain ⟨kd, rfl, hkd⟩ := knds_at ev
    have S5 := S.step pl5
    refine ⟨small (by show 2 ≤ 1000000; decide), fun t ht => ⟨small (by show 1 ≤ 1000000; decide), fun l3 hl3 => ?_⟩⟩
    have s6 := same_upd (o := .tup [.str ns[i], .str kd]) ht
    have s7 := same_upd (o := .lst [.ref t]) hl3
    have plA := Same.pl (s6.trans s7) pl5.2.2
    have S7 := S5.step plA
    have plB := pl5.trans plA
    have eb7 := (plB.keep (K := K)) _ _ eb ⟨(.inr "cells", .ref p1), List.mem_cons_self, fun i z => nomatch z⟩
    have e17 := (plB.keep (K := K)).refs e1
    have e27 := (plB.keep (K := K)).refs e2
    have lc : cs.length ≤ 3 := by
      have z1 := Paired.length pc
      have z2 := congrArg List.length ec
      rw [List.length_map, List.length_take] at z2
      have z1 : cs.length = cells.length := z1
      omega
    refine ⟨p1, l3, cs.map V.ref, [.ref t], rfl, rfl, e17, upd_same, small (by rw [List.length_map]; show cs.length + 1 ≤ 1000000; omega), fun l4 hl4 => ?_⟩
    have s8 := same_upd (o := .lst (cs.map V.ref ++ [.ref t])) hl4
    have S8 := S7.step (Same.pl s8 S7.pl.2.2)
    have eb8 := s8 _ _ eb7
    refine ⟨_, rfl, d, _, rfl, DPut.k (k := Sum.inr "cells") eb8 (small' (by show 2 < 1000000; decide)), ?_⟩
    rw [show putK [((Sum.inr "cells" : Key), V.ref p1), (Sum.inr "functions", V.ref q1)] (Sum.inr "cells") (V.ref l4) = bkv (.ref l4) (.ref q1) from rfl]
    have kT := (plB.keepT).trans (Same.keepT s8)
    have hcs : upd (upd (upd H5 t (.tup [.str ns[i], .str kd])) l3 (.lst [.ref t])) l4 (.lst (cs.map V.ref ++ [.ref t])) l4 = some (.lst ((cs ++ [t]).map V.ref)) := by
      rw [upd_same, List.map_append]
      rfl
    cases pf
    have lbn := lb_put (B := ⟨cells ++ [(ns[i], kd)], []⟩) (fs := []) eb8 hcs (s8 _ _ e27) (Paired.snoc (Paired.mapP pc fun _ _ z => kT _ _ z) (show LcAt _ t (ns[i], kd) from s8 _ _ (s7 _ _ upd_same))) .nil
    refine ⟨_, S8.put eb8 lbn, ?_, fun c hc => ?_, _, _, _, rfl⟩
    · rw [List.map_append, ec, take_snoc en]
      rfl
    · rcases List.mem_append.mp hc with hc | hc
      · exact kc c hc
      · rw [List.mem_singleton] at hc
        rw [hc]
        exact hkd
  · obtain ⟨cells, S, ec, kc, x, y, z, rfl⟩ := pv
    have lc : cells.length ≤ 3 := by
      have z2 := congrArg List.length ec
      rw [List.length_map, List.length_take] at z2
      omega
    have cnm : ∀ c ∈ cells, IsNm c.1 := fun c hc => by
      have z : c.1 ∈ ns.take n.toNat := by rw [← ec]; exact List.mem_map.mpr ⟨c, hc, rfl⟩
      exact nnm _ (List.mem_of_mem_take z)
    refine ⟨_, rfl, _, rfl, p, 3, rfl, S.pl.2.2, by decide, by decide, fun H4 m plm m0 m3 => ⟨_, _, rfl, rfl, _, rfl, by omega, by omega, ?_⟩⟩
    refine for_it walk_range (fun i σ H5 => ∃ fns, BkS H H5 p d lk wa ns ⟨cells, fns⟩ ∧ fns.length = i ∧ fns.map (·.name) = (ns.drop 4).take i ∧ (∀ j f, fns[j]? = some f → Fv cells (fns.take j) f) ∧ ∃ x y z, σ = [some (.ref p), some (.int 3), some (.int 1), some (.ref wa), some (.ref d), some (.ref lk), x, y, z]) ⟨[], S.step plm, rfl, by rw [List.take_zero]; rfl, (fun j f h => by cases h), _, _, _, rfl⟩ (fun _ _ _ _ _ => trivial) (fun i v σ H5 H6 hi pv y1 => ?_) fun σ H5 pv => ?_
    · obtain ⟨fns, S5, el, en, fv, x, y, z, rfl⟩ := pv
      obtain ⟨rfl, rfl⟩ := y1
      have hi3 : i < 3 := by omega
      have L0 : Lb _ p d ⟨cells, fns⟩ := ⟨S5.lb, S5.pl.2.2, lc, by show fns.length ≤ 3; omega, cnm, fun f hf => by
        obtain ⟨j, hj, ej⟩ := List.getElem_of_mem hf
        have z := fv j f (by rw [List.getElem?_eq_getElem hj, ej])
        exact ⟨z.nm, z.many⟩⟩
      have hni : 4 + i < ns.length := by omega
      have en4 := List.getElem?_eq_getElem hni
      refine ⟨_, rfl, p, 3, rfl, S5.pl.2.2, by decide, by decide, fun H7 r plr r0 r3 => ?_⟩
      obtain ⟨mn, rfl⟩ := Int.eq_ofNat_of_zero_le r0
      have m2 : mn ≤ 2 := by omega
      refine fun fd hfd => ?_
      have nfd : fd ≠ p := pool_ne plr.2.2 hfd
      have P7 := plr.new (u := .dK []) hfd
      refine ⟨_, rfl, _, rfl, _, _, rfl, rfl, _, _, _, _, rfl, rfl, SqL.of (S5.step P7).wa, by rw [show (4 + (0 + (i : Int))) = ((4 + i : Nat) : Int) by omega]; exact atI_nat (at_map en4), ?_⟩
      refine ⟨_, rfl, ?_⟩
      refine ⟨_, rfl, _, rfl, _, rfl, _, rfl, p, d, ⟨cells, fns⟩, mn, rfl, L0.pl P7, m2, fun H8 vt tt plt htm htv => ?_⟩
      have e8 := plt.at_ upd_same nfd
      have hf5 := But.free plr.1 nfd hfd
      have P8 := P7.trans plt
      refine ⟨e8, [(.inr "name", .str ns[4 + i]), (.inr "many", .int (mn : Nat)), (.inr "result", vt)], rfl, by show 3 ≤ 15; decide, ?_⟩
      have em3 : mergeK [] [((Sum.inr "name" : Key), V.str ns[4 + i]), (Sum.inr "many", .int (mn : Nat)), (Sum.inr "result", vt)] = [((Sum.inr "name" : Key), V.str ns[4 + i]), (Sum.inr "many", .int (mn : Nat)), (Sum.inr "result", vt)] := by
        rw [mergeK_new _ _ (by show ([Sum.inr "name", Sum.inr "many", Sum.inr "result"] : List Key).Nodup; decide +kernel) (fun _ _ _ h => by cases h)]
        rfl
      rw [em3]
      have P9 := P8.put (o := .dK [((Sum.inr "name" : Key), V.str ns[4 + i]), (Sum.inr "many", .int (mn : Nat)), (Sum.inr "result", vt)]) hf5
      refine ⟨_, rfl, _, rfl, _, rfl, p, d, ⟨cells, fns⟩, mn, rfl, L0.pl P9, m2, fun H10 vw ws plw hws lws pws => ?_⟩
      have e10 := plw.at_ (upd_same (H := H8) (a := fd) (o := .dK [((Sum.inr "name" : Key), V.str ns[4 + i]), (Sum.inr "many", .int (mn : Nat)), (Sum.inr "result", vt)])) nfd
      refine ⟨_, rfl, p, 10, rfl, plw.2.2, by decide, by decide, fun H11 c plc c0 c10 => ?_⟩
      have e11 := plc.at_ e10 nfd
      refine ⟨small (by show 2 ≤ 1000000; decide), fun tp htp => ?_⟩
      have stp := same_upd (o := .tup [vw, .int c]) htp
      have e12 := stp _ _ e11
      have P12 := ((P9.trans plw).trans plc).sm stp
      refine ⟨_, _, rfl, SqT.of upd_same, rfl, _, _, rfl, ?_⟩
      refine ⟨_, rfl, fd, _, rfl, DPut.k (k := Sum.inr "writes") e12 (small' (by show 3 < 1000000; decide)), ?_⟩
      refine ⟨_, _, rfl, _, rfl, fd, _, rfl, DPut.k (k := Sum.inr "cost") upd_same (small' (by show 4 < 1000000; decide)), rfl, ?_⟩
      have P13 := (P12.put (o := .dK (putK [((Sum.inr "name" : Key), V.str ns[4 + i]), (Sum.inr "many", .int (mn : Nat)), (Sum.inr "result", vt)] (Sum.inr "writes") vw)) hf5).put (o := .dK (putK (putK [((Sum.inr "name" : Key), V.str ns[4 + i]), (Sum.inr "many", .int (mn : Nat)), (Sum.inr "result", vt)] (Sum.inr "writes") vw) (Sum.inr "cost") (.int c))) hf5
      refine ⟨_, rfl, small (by show 5 ≤ 1000000; decide), fun ll hll => ?_⟩
      have sll := same_upd (o := .lst [V.str "always", .str "session", .str "statement", .str "changing", .str "changing"]) hll
      have P14 := P13.sm sll
      refine ⟨p, ll, _, rfl, P14.2.2, upd_same, pool_ne P13.2.2 hll, by show 0 < 5; decide, by show 5 ≤ 1000; decide, fun H15 k v pl15 ev => ?_⟩
      obtain ⟨lab, rfl, hlab⟩ := lbls_at ev
      have e13 := sll _ _ (upd_same (H := upd (upd H11 tp (.tup [vw, .int c])) fd (.dK (putK [((Sum.inr "name" : Key), V.str ns[4 + i]), (Sum.inr "many", .int (mn : Nat)), (Sum.inr "result", vt)] (Sum.inr "writes") vw))) (a := fd) (o := .dK (putK (putK [((Sum.inr "name" : Key), V.str ns[4 + i]), (Sum.inr "many", .int (mn : Nat)), (Sum.inr "result", vt)] (Sum.inr "writes") vw) (Sum.inr "cost") (.int c))))
      have e15 := pl15.at_ e13 nfd
      refine ⟨_, rfl, fd, _, rfl, DPut.k (k := Sum.inr "label") e15 (small' (by show 5 < 1000000; decide)), ?_⟩
      have P16 := (P14.trans pl15).put (o := .dK (putK (putK (putK [((Sum.inr "name" : Key), V.str ns[4 + i]), (Sum.inr "many", .int (mn : Nat)), (Sum.inr "result", vt)] (Sum.inr "writes") vw) (Sum.inr "cost") (.int c)) (Sum.inr "label") (.str lab))) hf5
      have S16 := S5.step P16
      obtain ⟨p1, q1, cs, fs, eb, e1, e2, pc, pf⟩ := id S16.lb
      have lfs3 : fs.length ≤ 3 := by
        have z1 := Paired.length pf
        have z1 : fs.length = fns.length := z1
        omega
      refine ⟨_, rfl, _, _, rfl, lb_fns eb, _, rfl, small (by show 1 ≤ 1000000; decide), fun l3 hl3 => ?_⟩
      have s3 := same_upd (o := .lst [V.ref fd]) hl3
      refine ⟨q1, l3, fs.map V.ref, [.ref fd], rfl, rfl, s3 _ _ e2, upd_same, small (by rw [List.length_map]; show fs.length + 1 ≤ 1000000; omega), fun l4 hl4 => ?_⟩
      have s4 := same_upd (o := .lst (fs.map V.ref ++ [V.ref fd])) hl4
      have s34 := s3.trans s4
      have P17 := P16.sm s34
      have S17 := S5.step P17
      refine ⟨_, rfl, d, _, rfl, DPut.k (k := Sum.inr "functions") (s34 _ _ eb) (small' (by show 2 < 1000000; decide)), ?_⟩
      rw [show putK [((Sum.inr "cells" : Key), V.ref p1), (Sum.inr "functions", V.ref q1)] (Sum.inr "functions") (V.ref l4) = bkv (.ref p1) (.ref l4) from rfl]
      have fnew : Fn := ⟨ns[4 + i], mn, tt, ws, c, lab⟩
      have k1 : KeepT H10 H15 := ((((plc.keepT.trans (Same.keepT stp)).trans (upd_keepT e12)).trans (upd_keepT upd_same)).trans (Same.keepT sll)).trans pl15.keepT
      have k2 : KeepT H15 _ := (upd_keepT (o := .dK (putK (putK (putK [((Sum.inr "name" : Key), V.str ns[4 + i]), (Sum.inr "many", .int (mn : Nat)), (Sum.inr "result", vt)] (Sum.inr "writes") vw) (Sum.inr "cost") (.int c)) (Sum.inr "label") (.str lab))) e15).trans (Same.keepT s34)
      have k0 : KeepT H8 H10 := (upd_keepT e8).trans plw.keepT
      have hfn : LfnAt _ fd ⟨ns[4 + i], mn, tt, ws, c, lab⟩ := ⟨vt, vw, s34 _ _ upd_same, k2.tm (k1.tm (k0.tm htm)), k2.ws (k1.ws hws)⟩
      have hfs : upd (upd (upd H15 fd (.dK (putK (putK (putK [((Sum.inr "name" : Key), V.str ns[4 + i]), (Sum.inr "many", .int (mn : Nat)), (Sum.inr "result", vt)] (Sum.inr "writes") vw) (Sum.inr "cost") (.int c)) (Sum.inr "label") (.str lab)))) l3 (.lst [V.ref fd])) l4 (.lst (fs.map V.ref ++ [V.ref fd])) l4 = some (.lst ((fs ++ [fd]).map V.ref)) := by
        rw [upd_same, List.map_append]
        rfl
      have lbn := lb_put (B := ⟨cells, fns ++ [⟨ns[4 + i], mn, tt, ws, c, lab⟩]⟩) (s34 _ _ eb) (s34 _ _ e1) hfs (Paired.mapP pc fun _ _ z => s34 _ _ z) (Paired.snoc (Paired.mapP pf fun _ _ z => (Same.keep0 (K := K) s34).lfn z) hfn)
      refine ⟨_, S17.put (s34 _ _ eb) lbn, by rw [List.length_append, el]; rfl, ?_, fun j f hj => ?_, _, _, _, rfl⟩
      · have ed : (ns.drop 4)[i]? = some ns[4 + i] := by
          rw [List.getElem?_drop]
          exact en4
        rw [List.map_append, en, take_snoc ed]
        rfl
      · by_cases hjl : j < fns.length
        · rw [List.getElem?_append_left hjl] at hj
          rw [List.take_append_of_le_length (Nat.le_of_lt hjl)]
          exact fv j f hj
        · have hje : j = fns.length := by
            have z := (List.getElem?_eq_some_iff.mp hj).1
            rw [List.length_append, List.length_singleton] at z
            omega
          subst hje
          rw [List.getElem?_append_right (Nat.le_refl _), Nat.sub_self] at hj
          cases hj
          rw [List.take_append_of_le_length (Nat.le_refl _), List.take_length]
          refine ⟨nnm _ (List.getElem_mem hni), m2, htv, lws, pws, c0, by show c ≤ 9; omega, hlab, ?_, ?_⟩
          · rw [ec]
            exact nodup_at nnd en4 (by omega)
          · rw [en]
            have nd4 : (ns.drop 4).Nodup := List.Nodup.sublist (List.drop_sublist 4 ns) nnd
            exact nodup_at nd4 (by rw [List.getElem?_drop]; exact en4) (Nat.le_refl _)
    · obtain ⟨fns, S5, el, en, fv, x, y, z, rfl⟩ := pv
      refine ⟨_, rfl, q _ d ⟨cells, fns⟩ S5.pl S5.lb ⟨?_, fun c hc => ⟨cnm c hc, kc c hc⟩, lc, ?_, ?_, fv⟩⟩
      · show (cells.map (·.1)).Nodup
        rw [ec]
        exact nodup_take nnd _
      · show 1 ≤ fns.length
        omega
      · show fns.length ≤ 3
        omega
end
end SC

set_option Elab.async false
set_option linter.all false
set_option maxRecDepth 100000
set_option maxHeartbeats 4000000
namespace SC
open PySem PySem.Spec PyProof.Rows L2
open C8 (Cal Met Mak pe_c pe_mk pe_mt pe_mt0 pe_gc InsC)
theorem paired_refs {α : Type} {P : Addr → α → Prop} {ys : List V} {l : List α} (h : Paired (fun v c => ∃ a, v = V.ref a ∧ P a c) ys l) : ∃ as : List Addr, ys = as.map V.ref ∧ Paired P as l := by
  induction h with
  | nil => exact ⟨[], rfl, .nil⟩
  | cons a _ ih =>
    obtain ⟨x, rfl, hx⟩ := a
    obtain ⟨as, rfl, hp⟩ := ih
    exact ⟨x :: as, rfl, .cons hx hp⟩
theorem found_at {fs : List Fn} {x : Str} {g : Fn} (h : fget fs x = some g) : ∃ r, (fs.filterMap fun f => if f.name = x then some f else none) = g :: r := by
  induction fs with
  | nil => cases h
  | cons f r ih =>
    unfold fget at h
    rw [List.find?_cons] at h
    by_cases e : f.name = x
    · rw [decide_eq_true e] at h
      cases h
      rw [List.filterMap_cons, if_pos e]
      exact ⟨_, rfl⟩
    · rw [decide_eq_false e] at h
      rw [List.filterMap_cons, if_neg e]
      exact ih h
section
variable {P : Program} {w : World} {K : PySem.W.Frag} {mg : Str → Option Value} {base : Heap}
def spMadeBook (K : PySem.W.Frag) : Sp := fun vs H Q _ => ∃ b B, vs = [.ref b] ∧ LbAt H b B ∧ Bv B ∧ ∀ H' a, Same H H' → BkAt K H' a B → Q (.ref a) H'
theorem C_law_made_book (T : TX K mg) : Cal P w K mg base 10 "_law_made_book" (spMadeBook K) [] := by
  have K_Book : Mak P w K mg base 8 "Book" (He.ga K "Book") (spBook K) [] := SC.K_Book T
  have K_Cell : Mak P w K mg base 2 "Cell" (He.ga K "Cell") (spCell K) [] := SC.K_Cell T
  obtain ⟨f_, fd_, MF, FF, BF⟩ := SC.F_Function (P := P) (w := w) (base := base) T
  obtain ⟨fd, F⟩ := T.d_law_made_book
  refine calD "_law_made_book" F T.g_law_made_book (b_law_made_book F) .nil S_law_made_book (fun vs H Q E h => ?_) (fun cdv A outer s H vs Q E hr h => ?_)
  · obtain ⟨b, B, rfl, lb, hB, q⟩ := h
    rfl
  obtain ⟨b, B, rfl, lb, hB, q⟩ := h
  refine ⟨_, (pss_cons (ps_set (i := 1) S_law_made_book.nd rfl (Or.inl rfl) (pe_lst pa_nil))
  (pss_cons (ps_for PassesOwn.never rfl (pi_list (pe_dget (hu_of hr) (pv 0) pe_str (fun _ _ => rfl))) (pg_name (i := 2) S_law_made_book.nd rfl (Or.inl rfl))
    (pss_cons (ps_set (i := 3) S_law_made_book.nd rfl (Or.inl rfl) (pe_makeK MF FF (hr.mono (by decide)) rfl T.g_Function BF pass0 (pa_cons (pe_dget (hu_of hr) (pv 2) pe_str (fun _ _ => rfl)) (pa_cons (pe_dget (hu_of hr) (pv 2) pe_str (fun _ _ => rfl)) (pa_cons (pe_dget (hu_of hr) (pv 2) pe_str (fun _ _ => rfl)) pa_nil))) (pk_cons (pe_dget (hu_of hr) (pv 2) pe_str (fun _ _ => rfl)) (pk_cons (pe_dget (hu_of hr) (pv 2) pe_str (fun _ _ => rfl)) (pk_cons (pe_dget (hu_of hr) (pv 2) pe_str (fun _ _ => rfl)) pk_nil)))))
  (pss_one (ps_expr (pe_bm PySem.F.plainAttrs_list PySem.F.slot_list_append PySem.F.type_list_append mt_append (pv 1) (pa_cons (pv 3) pa_nil))))))
  (pss_one (ps_ret (pe_mk K_Book hr (by decide) rfl (pa_cons (pe_lc (own := [("_law_name", 4), ("_law_kind", 5)]) (by rfl) S_law_made_book.nd  (pi_list (pe_dget (hu_of hr) (pv 0) pe_str (fun _ _ => rfl))) (blkOk_by (own := [("_law_name", 4), ("_law_kind", 5)]) (N := N_law_made_book) (sc := d_law_made_book.scope) (by decide +kernel)) (fun _ _ _ _ _ => (pg_tup' K rfl (n := 2) (by rfl) (pgs_cons (pg_name (i := 4) S_law_made_book.nd rfl (Or.inl rfl)) (pgs_cons (pg_name (i := 5) S_law_made_book.nd rfl (Or.inl rfl)) pgs_nil)))) (fun _ _ _ _ _ => pts_nil) (fun _ _ _ _ _ => (pe_mk K_Cell hr (by decide) rfl (pa_cons (pv 4) (pa_cons (pv 5) pa_nil))))) (pa_cons (pv 1) pa_nil))))))), ?_⟩
  obtain ⟨p1, q1, cs, fs, eb, e1, e2, pc, pf⟩ := id lb
  have lf := Paired.length pf
  have lc := Paired.length pc
  have f3 := hB.f3
  have c3 := hB.cl
  refine ⟨small (by decide), fun l hl => ?_⟩
  have s0 := same_upd (o := .lst []) hl
  refine ⟨_, rfl, _, _, rfl, lb_fns (s0 _ _ eb), q1, rfl, ⟨_, SqL.of (s0 _ _ e2)⟩, ?_⟩
  refine for_it (walk_list (K := K) (xs := fs.map V.ref)) (fun i σ H1 => Same H H1 ∧ ∃ as x y z u, σ = [some (.ref b), some (.ref l), x, y, z, u] ∧ H1 l = some (.lst (as.map V.ref)) ∧ FnsAt K H1 as (B.fns.take i)) ⟨s0, [], _, _, _, _, rfl, upd_same, by rw [List.take_zero]; exact .nil⟩ (fun i σ H1 _ p => SqL.of (p.1 _ _ e2)) (fun i v σ H1 H2 hi pv y1 => ?_) fun σ H1 pv => ?_
  · obtain ⟨s1, as, x, y, z, u, rfl, h1, ha⟩ := pv
    obtain ⟨rfl, ev⟩ := y1
    obtain ⟨f, ef, fa, rfl, hfa⟩ := paired_get (paired_map V.ref pf) ev
    obtain ⟨r, w_, efa, tr, ws⟩ := (Same.keep0 (K := K) s1).lfn hfa
    have las : as.length ≤ 3 := by
      have z := Paired.length ha
      rw [List.length_take] at z
      omega
    refine ⟨_, rfl, _, _, rfl, lf_name efa, _, rfl, _, _, rfl, lf_many efa, _, rfl, _, _, rfl, lf_result efa, _, rfl, _, _, rfl, lf_label efa, _, rfl, _, _, rfl, lf_writes efa, _, rfl, _, _, rfl, lf_cost efa, rfl, rfl, fun x dx hx hdx n => ?_⟩
    have hx2 : upd H2 dx (.own x) x = none := by
      rw [upd_ne (Ne.symm n)]
      exact hx
    have s2 : Same H2 (upd (upd H2 dx (.own x)) x (.ins (He.ga K "Function") dx [])) := (same_upd hdx).trans (same_upd hx2)
    refine ⟨x, dx, f, r, w_, B.fns.take i, B.cells, H2, rfl, upd_same, s2, hx, tr, ws, hB.fv i f ef, fun H3 s3 hfn => ⟨rfl, ?_⟩⟩
    have h3 := s3 _ _ h1
    refine ⟨_, rfl, .inl ⟨rfl, _, SqL.of h3⟩, _, rfl, l, _, _, rfl, rfl, h3, small' (by rw [List.length_map]; omega), ?_⟩
    have k3 : Keep0 K H3 (upd H3 l (.lst (as.map V.ref ++ [.ref x]))) := keep0_upd h3 lst_firm0
    refine ⟨Same.of_upd (s1.trans s3) hl, as ++ [x], _, _, _, _, rfl, by rw [upd_same, List.map_append]; rfl, ?_⟩
    rw [take_snoc ef]
    exact Paired.snoc (k3.fns ((Same.keep0 (K := K) s3).fns ha)) (k3.fn hfn)
  · obtain ⟨s1, as, x, y, z, u, rfl, h1, ha⟩ := pv
    rw [List.length_map, lf, List.take_length] at ha
    refine ⟨_, rfl, _, _, rfl, lb_cells (s1 _ _ eb), p1, rfl, ⟨_, SqL.of (s1 _ _ e1)⟩, fun D hD => ?_⟩
    refine lcR (K := K) (walk_list (K := K)) hD (small (by rw [List.length_map]; omega)) (fun H v c => ∃ a, v = .ref a ∧ CellAt K H a c) (fun _ _ _ _ k h => let ⟨a, e, h⟩ := h; ⟨a, e, k.cell h⟩) (fun k => B.cells[k]?) (fun H2 s2 => SqL.of (s2 _ _ (s1 _ _ e1))) (fun k v H2 H3 No Ye hk s2 y1 no ye => ?_) fun H2 ys s2 h2 r2 => ?_
    · obtain ⟨rfl, ev⟩ := y1
      obtain ⟨c, ec, a, rfl, hc⟩ := paired_get (paired_map V.ref pc) ev
      have hc := s2 _ _ (s1 _ _ hc)
      obtain ⟨cn, ck⟩ := hB.cv c (List.mem_of_getElem? ec)
      refine ⟨_, _, rfl, SqT.of hc, rfl, _, _, rfl, _, _, rfl, rfl, rfl, ty ⟨_, rfl, _, rfl, fun x dx hx hdx n => ?_⟩⟩
      have hx2 : upd H3 dx (.own x) x = none := by
        rw [upd_ne (Ne.symm n)]
        exact hx
      have s3 : Same H3 (upd (upd H3 dx (.own x)) x (.ins (He.ga K "Cell") dx [])) := (same_upd hdx).trans (same_upd hx2)
      exact ⟨x, dx, c, rfl, upd_same, cn, ck, fun H4 b4 h4 => ⟨rfl, ye c ec _ _ (But.same b4 s3 hx) ⟨x, rfl, h4⟩⟩⟩
    · have er : (List.range (cs.map V.ref).length).filterMap (fun k => B.cells[k]?) = B.cells := by
        have z := fm_map B.cells (fun c => c)
        rw [List.length_map, lc]
        rw [List.map_id'] at z
        refine Eq.trans (fm_congr fun i _ => ?_) z
        cases B.cells[i]? <;> rfl
      rw [er] at r2
      obtain ⟨cs2, rfl, hcs⟩ := paired_refs r2
      refine ⟨_, rfl, fun x dx hx hdx n => ?_⟩
      have hx2 : upd H2 dx (.own x) x = none := by
        rw [upd_ne (Ne.symm n)]
        exact hx
      have s3 : Same H2 (upd (upd H2 dx (.own x)) x (.ins (He.ga K "Book") dx [])) := (same_upd hdx).trans (same_upd hx2)
      exact ⟨x, dx, D, l, cs2, as, B, H2, rfl, upd_same, s3, hx, h2, hcs, s2 _ _ h1, (Same.keep0 (K := K) s2).fns ha, hB, fun H4 s4 h4 => ⟨rfl, q _ x ((s1.trans s2).trans s4) h4⟩⟩
def spLState : Sp := fun vs H Q _ => ∃ p b B, vs = [.ref p, .ref b] ∧ LbAt H b B ∧ PoolAt H p ∧ (B.cells.map (·.1)).Nodup ∧ B.cells.length ≤ 3 ∧ ∀ H' s st, Pl p H H' → H s = none → StAt H' s st → Sv (B.cells.map (·.1)) st → Q (.ref s) H'
theorem C_law_state (T : TX K mg) : Cal P w K mg base 2 "_law_state" spLState [] := by
  have C_law_draw : Cal P w K mg base 1 "_law_draw" spDraw [] := SC.C_law_draw T
  obtain ⟨fd, F⟩ := T.d_law_state
  refine calD "_law_state" F T.g_law_state (b_law_state F) .nil S_law_state (fun vs H Q E h => ?_) (fun cdv A outer s H vs Q E hr h => ?_)
  · obtain ⟨p, b, B, rfl, lb, hP, cn, c3, q⟩ := h
    rfl
  obtain ⟨p, b, B, rfl, lb, hP, cn, c3, q⟩ := h
  refine ⟨_, (pss_one (ps_ret (pe_callTy (call_dictP rfl) (by rfl) T.f_dict v_dict (pa_cons (pe_lc (own := [("_law_cell", 2)]) (by rfl) S_law_state.nd  (pi_list (pe_dget (hu_of hr) (pv 1) pe_str (fun _ _ => rfl))) (blkOk_by (own := [("_law_cell", 2)]) (N := N_law_state) (sc := d_law_state.scope) (by decide +kernel)) (fun _ _ _ _ _ => (pg_name (i := 2) S_law_state.nd rfl (Or.inl rfl))) (fun _ _ _ _ _ => pts_nil) (fun _ _ _ _ _ => (pe_tup (pa_cons (pe_ix (ix_tup' K rfl) (pv 2) pe_int (fun _ _ => rfl)) (pa_cons (pe_c C_law_draw hr (by decide) rfl (pa_cons (pv 0) (pa_cons pe_int pa_nil))) pa_nil))))) pa_nil)))), ?_⟩
  obtain ⟨p1, q1, cs, fs, eb, e1, e2, pc, pf⟩ := id lb
  have lc := Paired.length pc
  refine ⟨_, rfl, _, _, rfl, lb_cells eb, p1, rfl, ⟨_, SqL.of e1⟩, fun D hD => ?_⟩
  have nD := pool_ne hP hD
  refine lcM (K := K) (E := Pl p) (walk_list (K := K)) (envP nD) hD ((Pl.refl hP).new hD) (small (by rw [List.length_map]; omega)) (fun H v (a : Str × Int) => ∃ t, v = .ref t ∧ H t = some (.tup [.str a.1, .int a.2])) (fun _ _ _ _ k h => let ⟨t, e, h⟩ := h; ⟨t, e, k.tup h⟩) (fun i ls => ls.map (·.1) = (B.cells.map (·.1)).take i ∧ ∀ p ∈ ls, 0 ≤ p.2 ∧ p.2 ≤ 2) ⟨by rw [List.take_zero]; rfl, fun _ h => by cases h⟩ (fun i ls hi h => by
      have z := congrArg List.length h.1
      rw [List.length_map, List.length_take] at z
      omega) (fun H2 s2 => SqL.of ((s2.keep (K := K)).refs e1)) (fun i v H2 H3 ls No Ye hi s2 ml y1 no ye => ?_) (fun H2 ys ls s2 h2 r2 m2 => ?_)
  · obtain ⟨rfl, ev⟩ := y1
    obtain ⟨c, ec, a, rfl, hc⟩ := paired_get (paired_map V.ref pc) ev
    have hc := (s2.keep (K := K)).lc hc
    refine ⟨rfl, ty ⟨_, rfl, _, _, _, _, rfl, rfl, SqT.of hc, at0, _, rfl, p, 3, rfl, s2.2.2, by decide, by decide, fun H4 r pl4 r0 r3 => ⟨small (by show 2 ≤ 1000000; decide), fun t ht => ?_⟩⟩⟩
    refine ye _ (c.1, r) _ (pl4.new ht) ⟨t, rfl, upd_same⟩ ⟨?_, fun x hx => ?_⟩
    · have ec2 : (B.cells.map (·.1))[i]? = some c.1 := by rw [List.getElem?_map, ec]; rfl
      rw [List.map_append, ml.1, take_snoc ec2]
      rfl
    · rcases List.mem_append.mp hx with hx | hx
      · exact ml.2 x hx
      · rw [List.mem_singleton] at hx
        rw [hx]
        exact ⟨r0, by show r ≤ 2; omega⟩
  · obtain ⟨mk, mv⟩ := m2
    rw [List.length_map, lc, List.take_of_length_le (by rw [List.length_map]; exact Nat.le_refl _)] at mk
    obtain ⟨as, rfl, ha⟩ := paired_refs r2
    have ha2 : Paired (fun p kv => SqT K H2 p [kV kv.1, kv.2]) as (skv ls) := by
      have key : ∀ {as : List Addr} {ls : List (Str × Int)}, Paired (fun t a => H2 t = some (.tup [.str a.1, .int a.2])) as ls → Paired (fun p kv => SqT K H2 p [kV kv.1, kv.2]) as (skv ls) := by
        intro as ls h
        induction h with
        | nil => exact .nil
        | cons a _ ih => exact .cons (SqT.of a) ih
      exact key ha
    refine ⟨D, as, skv ls, rfl, SqL.of h2, ha2, fun s hs => ?_⟩
    have nd : ((skv ls).map (·.1)).Nodup := by
      have e : (skv ls).map (·.1) = (ls.map (·.1)).map (Sum.inr : Str → Key) := by
        rw [List.map_map, List.map_map]
        rfl
      rw [e, mk]
      exact nodup_inr cn
    rw [mergeK_new _ _ nd (fun _ _ _ h => by cases h), List.nil_append]
    have hs0 : H s = none := by
      cases z : H s with
      | none => rfl
      | some o =>
        have n : s ≠ p := fun e => by
          obtain ⟨i, j, h, _⟩ := s2.2.2
          rw [e, h] at hs
          cases hs
        rw [s2.at_ z n] at hs
        cases hs
    exact q _ s ls (s2.new hs) hs0 upd_same ⟨mk, mv⟩
def spFound : Sp := fun vs H Q _ => ∃ b x B g, vs = [.ref b, .str x] ∧ LbAt H b B ∧ B.fns.length ≤ 3 ∧ fget B.fns x = some g ∧ ∀ H' fa, Same H H' → LfnAt H' fa g → Q (.ref fa) H'
theorem C_law_found (T : TX K mg) : Cal P w K mg base 1 "_law_found" spFound [] := by
  obtain ⟨fd, F⟩ := T.d_law_found
  refine calD "_law_found" F T.g_law_found (b_law_found F) .nil S_law_found (fun vs H Q E h => ?_) (fun cdv A outer s H vs Q E hr h => ?_)
  · obtain ⟨b, x, B, g, rfl, lb, f3, hg, q⟩ := h
    rfl
  obtain ⟨b, x, B, g, rfl, lb, f3, hg, q⟩ := h
  refine ⟨_, (pss_one (ps_ret (pe_ix ix_list (pe_lc (own := [("_law_f", 2)]) (by rfl) S_law_found.nd  (pi_list (pe_dget (hu_of hr) (pv 0) pe_str (fun _ _ => rfl))) (blkOk_by (own := [("_law_f", 2)]) (N := N_law_found) (sc := d_law_found.scope) (by decide +kernel)) (fun _ _ _ _ _ => (pg_name (i := 2) S_law_found.nd rfl (Or.inl rfl))) (fun _ _ _ _ _ => (pts_one (pt_cmpR op_eq (pe_dget (hu_of hr) (pv 2) pe_str (fun _ _ => rfl)) (pv 1) (nomark _)))) (fun _ _ _ _ _ => (pv 2))) pe_int (fun _ _ => rfl)))), ?_⟩
  obtain ⟨p1, q1, cs, fs, eb, e1, e2, pc, pf⟩ := id lb
  have lf := Paired.length pf
  refine ⟨_, rfl, _, _, rfl, lb_fns eb, q1, rfl, ⟨_, SqL.of e2⟩, fun D hD => ?_⟩
  refine lcR (K := K) (walk_list (K := K)) hD (small (by rw [List.length_map]; omega)) (fun H v f => ∃ a, v = .ref a ∧ LfnAt H a f) (fun _ _ _ _ k h => let ⟨a, e, h⟩ := h; ⟨a, e, k.lfn h⟩) (fun k => B.fns[k]?.bind fun f => if f.name = x then some f else none) (fun H2 s2 => SqL.of (s2 _ _ e2)) (fun k v H2 H3 No Ye hk s2 y1 no ye => ?_) fun H2 ys s2 h2 r2 => ?_
  · obtain ⟨rfl, ev⟩ := y1
    obtain ⟨f, ef, a, rfl, ha⟩ := paired_get (paired_map V.ref pf) ev
    have ha := (Same.keep0 (K := K) s2).lfn ha
    obtain ⟨r, w_, ea, _⟩ := id ha
    refine ⟨rfl, _, rfl, _, _, rfl, lf_name ea, _, rfl, rfl, _, rfl, ?_⟩
    by_cases h : f.name = x
    · exact iteD (congrArg V.str h) ⟨_, rfl, ye f (by rw [ef]; exact if_pos h) _ _ (Same.refl _) ⟨a, rfl, ha⟩⟩
    · exact iteDN (strne h) (no (by rw [ef]; exact if_neg h) _ (Same.refl _))
  · rw [List.length_map, lf, fm_get] at r2
    obtain ⟨r, er⟩ := found_at hg
    rw [er] at r2
    cases r2 with
    | cons ha _ =>
      obtain ⟨a, rfl, ha⟩ := ha
      exact ⟨_, _, _, _, rfl, rfl, SqL.of h2, at0, q _ a s2 ha⟩
end
end SC

set_option Elab.async false
set_option linter.all false
set_option maxRecDepth 100000
set_option maxHeartbeats 4000000
namespace SC
open PySem PySem.Spec PyProof.Rows L2
open C8 (Cal Met Mak pe_c pe_mk pe_mt pe_mt0 pe_gc InsC)
theorem op_catA' {X : Cx} (K : PySem.W.Frag) (h : X.K = K) : OpR X (binaryOp .Add) (rCatA K) := h ▸ op_catA
/-! ### the law's own runs -/
structure GoL (H : Hp) (b h p : Addr) (B : Bk) (st : Sta) (as : List Int) : Prop where
  lb : LbAt H b B
  bv : Bv B
  hs : StAt H h st
  ks : st.map (·.1) = B.cells.map (·.1)
  ha : H p = some (.lst (as.map V.int))
theorem GoL.same {H H' : Hp} {b h p : Addr} {B : Bk} {st : Sta} {as : List Int} (z : GoL H b h p B st as) (s : Same H H') : GoL H' b h p B st as :=
  ⟨(Same.keep (K := []) s).lb z.lb, z.bv, s _ _ z.hs, z.ks, s _ _ z.ha⟩
theorem GoL.step {H H' : Hp} {b h p : Addr} {B : Bk} {st st' : Sta} {as : List Int} (z : GoL H b h p B st as) (s : But h H H') (hs : StAt H' h st') (ks : st'.map (·.1) = B.cells.map (·.1)) : GoL H' b h p B st' as :=
  ⟨(But.keep (K := []) s z.hs st_firm).lb z.lb, z.bv, hs, ks, s _ _ z.ha (ne_of z.ha z.hs (by intro z; cases z))⟩
def spLL : Sp := fun vs H Q _ => ∃ b v p h l st, ∃ as : List Int, vs = [.ref b, v, .ref p, .ref h, .int 0, .non] ∧ StAt H h st ∧ H p = some (.lst (as.map V.int)) ∧ LfAt H v l ∧ Lv (st.map (·.1)) as.length l ∧ Q (.int (evL as st l)) H
def spLW (n : Nat) : Sp := fun vs H Q _ => ∃ b v p h B st as i t, vs = [.ref b, v, .ref p, .ref h, .int 0, .non] ∧ GoL H b h p B st as ∧ TmAt H v t ∧ Tv (B.fns.take i) (B.cells.map (·.1)) as.length t ∧ i ≤ n ∧
  ∀ H', But h H H' → StAt H' h (evT (clAt B.fns n) as st t).2 → Q (.int (evT (clAt B.fns n) as st t).1) H'
def spLR (n : Nat) : Sp := fun vs H Q _ => ∃ b fa p h B st as i g, vs = [.ref b, .ref fa, .ref p, .ref h, .int 0, .non] ∧ GoL H b h p B st as ∧ LfnAt H fa g ∧ B.fns[i]? = some g ∧ i ≤ n ∧ as.length = g.many ∧
  ∀ H', But h H H' → StAt H' h (run B.fns n g as st).2 → Q (.int (run B.fns n g as st).1) H'
def spLC : Nat → Sp
  | 0 => fun _ _ _ _ => False
  | n + 1 => fun vs H Q _ => ∃ b p h B st as i g, vs = [.ref b, .str g.name, .ref p, .ref h, .int 0, .non] ∧ GoL H b h p B st as ∧ B.fns[i]? = some g ∧ i ≤ n ∧ as.length = g.many ∧
    ∀ H', But h H H' → StAt H' h (run B.fns n g as st).2 → Q (.int (run B.fns n g as st).1) H'
section
variable {P : Program} {w : World} {K : PySem.W.Frag} {mg : Str → Option Value} {base : Heap}
theorem C_law_leaf (T : TX K mg) : Cal P w K mg base 1 "_law_worked" spLL [] := by
  obtain ⟨fd, F⟩ := T.d_law_worked
  refine calD "_law_worked" F T.g_law_worked (b_law_worked F) .nil S_law_worked (fun vs H Q E h => ?_) (fun cdv A outer s H vs Q E hr h => ?_)
  · obtain ⟨b, v, p, h, l, st, as, rfl, hs, hp, hl, hv, q⟩ := h
    rfl
  obtain ⟨b, v, p, h, l, st, as, rfl, hs, hp, hl, hv, q⟩ := h
  refine ⟨_, (pss_cons (ps_if (pt_not (pt_val (pe_callB call_isi (by rfl) T.f_isinstance v_isinstance (pa_cons (pv 1) (pa_cons (pe_bltn (v := .ty "tuple") (u := .type "tuple") (by rfl) T.f_tuple v_tuple rfl) pa_nil))))) (pss_one (ps_ret (pv 1))) pss_nil)
  (pss_cons (ps_if (pt_cmpR op_eq (pe_ix ix_tup (pv 1) pe_int (fun _ _ => rfl)) pe_str (nomark _)) (pss_one (ps_ret (pe_ix ix_list (pv 2) (pe_ix ix_tup (pv 1) pe_int (fun _ _ => rfl)) (fun _ _ => rfl)))) pss_nil)
  (pss_cons (ps_if (pt_cmpR op_eq (pe_ix ix_tup (pv 1) pe_int (fun _ _ => rfl)) pe_str (nomark _)) (pss_one (ps_ret (pe_dget (hu_of hr) (pv 3) (pe_ix ix_tup (pv 1) pe_int (fun _ _ => rfl)) (fun _ _ => rfl)))) pss_nil)
  (pss_cons (ps_if (pt_cmpR op_eq (pe_ix ix_tup (pv 1) pe_int (fun _ _ => rfl)) pe_str (nomark _)) (pss_one (ps_ret (pe_op op_mod (pe_callTy call_int1 (by rfl) T.f_int v_int (pa_cons (pv 4) pa_nil)) pe_int))) pss_nil)
  pss_never)))), ?_⟩
  cases l with
  | val i =>
    cases (show v = .int i from hl)
    exact ⟨_, rfl, _, _, _, _, _, rfl, .ty _, .base (.int i), kk_int_tuple, _, rfl, iteT ⟨_, rfl, q⟩⟩
  | arg i =>
    obtain ⟨x, rfl, e⟩ := hl
    refine ⟨_, rfl, _, _, _, _, _, rfl, .ty _, .base (.tup e), kk_tuple_tuple, _, rfl, iteF ?_⟩
    refine ⟨_, rfl, _, _, _, _, rfl, rfl, SqT.of e, at0, rfl, _, rfl, iteD rfl ?_⟩
    exact ⟨_, rfl, _, rfl, _, _, _, _, rfl, rfl, SqT.of e, at1, _, _, _, _, rfl, rfl, SqL.of hp, atI_nat (getD_at hv), q⟩
  | cell x =>
    obtain ⟨y, rfl, e⟩ := hl
    refine ⟨_, rfl, _, _, _, _, _, rfl, .ty _, .base (.tup e), kk_tuple_tuple, _, rfl, iteF ?_⟩
    refine ⟨_, rfl, _, _, _, _, rfl, rfl, SqT.of e, at0, rfl, _, rfl, iteDN (by decide +kernel) ?_⟩
    refine ⟨_, rfl, _, _, _, _, rfl, rfl, SqT.of e, at0, rfl, _, rfl, iteD rfl ?_⟩
    exact ⟨_, rfl, _, rfl, _, _, _, _, rfl, rfl, SqT.of e, at1, _, _, rfl, held_at hs hv.1, q⟩
  | tick =>
    obtain ⟨y, rfl, e⟩ := hl
    refine ⟨_, rfl, _, _, _, _, _, rfl, .ty _, .base (.tup e), kk_tuple_tuple, _, rfl, iteF ?_⟩
    refine ⟨_, rfl, _, _, _, _, rfl, rfl, SqT.of e, at0, rfl, _, rfl, iteDN (by decide +kernel) ?_⟩
    refine ⟨_, rfl, _, _, _, _, rfl, rfl, SqT.of e, at0, rfl, _, rfl, iteDN (by decide +kernel) ?_⟩
    refine ⟨_, rfl, _, _, _, _, rfl, rfl, SqT.of e, at0, rfl, _, rfl, iteD rfl ?_⟩
    exact ⟨_, rfl, .inl ⟨_, rfl, _, _, rfl, rfl, by show (0 : Int) < 3; decide, q⟩⟩
theorem C_law_workedN (T : TX K mg) (n : Nat) (C_law_worked : Cal P w K mg base 1 "_law_worked" spLL []) (C_law_called : Cal P w K mg base (3 * n + 1) "_law_called" (spLC n) []) : Cal P w K mg base (3 * n + 2) "_law_worked" (spLW n) [] := by
  obtain ⟨fd, F⟩ := T.d_law_worked
  refine calD "_law_worked" F T.g_law_worked (b_law_worked F) .nil S_law_worked (fun vs H Q E h => ?_) (fun cdv A outer s H vs Q E hr h => ?_)
  · obtain ⟨b, v, p, h, B, st, as, i, t, rfl, go, ht, hv, hi, q⟩ := h
    rfl
  obtain ⟨b, v, p, h, B, st, as, i, t, rfl, go, ht, hv, hi, q⟩ := h
  refine ⟨_, (pss_cons (ps_if (pt_not (pt_val (pe_callB call_isi (by rfl) T.f_isinstance v_isinstance (pa_cons (pv 1) (pa_cons (pe_bltn (v := .ty "tuple") (u := .type "tuple") (by rfl) T.f_tuple v_tuple rfl) pa_nil))))) (pss_one (ps_ret (pv 1))) pss_nil)
  (pss_cons (ps_if (pt_cmpR op_eq (pe_ix ix_tup (pv 1) pe_int (fun _ _ => rfl)) pe_str (nomark _)) (pss_one (ps_ret (pe_ix ix_list (pv 2) (pe_ix ix_tup (pv 1) pe_int (fun _ _ => rfl)) (fun _ _ => rfl)))) pss_nil)
  (pss_cons (ps_if (pt_cmpR op_eq (pe_ix ix_tup (pv 1) pe_int (fun _ _ => rfl)) pe_str (nomark _)) (pss_one (ps_ret (pe_dget (hu_of hr) (pv 3) (pe_ix ix_tup (pv 1) pe_int (fun _ _ => rfl)) (fun _ _ => rfl)))) pss_nil)
  (pss_cons (ps_if (pt_cmpR op_eq (pe_ix ix_tup (pv 1) pe_int (fun _ _ => rfl)) pe_str (nomark _)) (pss_one (ps_ret (pe_op op_mod (pe_callTy call_int1 (by rfl) T.f_int v_int (pa_cons (pv 4) pa_nil)) pe_int))) pss_nil)
  (pss_cons (ps_if (pt_cmpR op_eq (pe_ix ix_tup (pv 1) pe_int (fun _ _ => rfl)) pe_str (nomark _)) (pss_cons (ps_setLc (i := 6) (own := [("_law_part", 9)]) (by rfl) S_law_worked.nd rfl rfl (sw_true rfl rfl rfl (by decide +kernel)) (pi_tup (pe_ix ix_tup (pv 1) pe_int (fun _ _ => rfl))) (blkOk_by (own := [("_law_part", 9)]) (N := N_law_worked) (sc := d_law_worked.scope) (by decide +kernel)) (fun _ _ _ _ _ => (pg_name (i := 9) S_law_worked.nd rfl (Or.inl rfl))) (fun _ _ _ _ _ => pts_nil) (fun _ _ _ _ _ => (pe_c C_law_worked hr (by omega) rfl (pa_cons (pv 0) (pa_cons (pv 9) (pa_cons (pv 2) (pa_cons (pv 3) (pa_cons (pv 4) (pa_cons (pv 5) pa_nil)))))))))
  (pss_one (ps_ret (pe_c C_law_called hr (by omega) rfl (pa_cons (pv 0) (pa_cons (pe_ix ix_tup (pv 1) pe_int (fun _ _ => rfl)) (pa_cons (pv 6) (pa_cons (pv 3) (pa_cons (pv 4) (pa_cons (pv 5) pa_nil)))))))))) pss_nil)
  (pss_cons (ps_set (i := 7) S_law_worked.nd rfl (Or.inl rfl) (pe_c C_law_worked hr (by omega) rfl (pa_cons (pv 0) (pa_cons (pe_ix ix_tup (pv 1) pe_int (fun _ _ => rfl)) (pa_cons (pv 2) (pa_cons (pv 3) (pa_cons (pv 4) (pa_cons (pv 5) pa_nil))))))))
  (pss_cons (ps_if (pt_cmpR op_eq (pe_ix ix_tup (pv 1) pe_int (fun _ _ => rfl)) pe_str (nomark _)) (pss_one (ps_ret (pe_c C_law_worked hr (by omega) rfl (pa_cons (pv 0) (pa_cons (pe_ifExp (pt_cmpR op_ne (pv 7) pe_int (nomark _)) (pe_ix ix_tup (pv 1) pe_int (fun _ _ => rfl)) (pe_ix ix_tup (pv 1) pe_int (fun _ _ => rfl))) (pa_cons (pv 2) (pa_cons (pv 3) (pa_cons (pv 4) (pa_cons (pv 5) pa_nil))))))))) pss_nil)
  (pss_cons (ps_set (i := 8) S_law_worked.nd rfl (Or.inl rfl) (pe_c C_law_worked hr (by omega) rfl (pa_cons (pv 0) (pa_cons (pe_ix ix_tup (pv 1) pe_int (fun _ _ => rfl)) (pa_cons (pv 2) (pa_cons (pv 3) (pa_cons (pv 4) (pa_cons (pv 5) pa_nil))))))))
  (pss_cons (ps_if (pt_cmpR op_eq (pe_ix ix_tup (pv 1) pe_int (fun _ _ => rfl)) pe_str (nomark _)) (pss_one (ps_ret (pe_op op_mod (pe_callTy call_int1 (by rfl) T.f_int v_int (pa_cons (pe_op op_add (pv 7) (pv 8)) pa_nil)) pe_int))) pss_nil)
  (pss_one (ps_ret (pe_ifExp (pt_cmpR op_eq (pe_ix ix_tup (pv 1) pe_int (fun _ _ => rfl)) pe_str (nomark _)) (pe_callTy call_int1 (by rfl) T.f_int v_int (pa_cons (pe_cmpR op_lt (pv 7) (pv 8) (nomark _)) pa_nil)) (pe_callTy call_int1 (by rfl) T.f_int v_int (pa_cons (pe_cmpR op_eq (pv 7) (pv 8) (nomark _)) pa_nil)))))))))))))), ?_⟩
  have hs := go.hs
  have hp := go.ha
  cases t with
  | lf l =>
    have hl : LfAt H v l := ht
    have hv := leaf_ks go.ks hv
    have q : Q (.int (evL as st l)) H := q H But.refl go.hs
    cases l with
    | val i =>
      cases (show v = .int i from hl)
      exact ⟨_, rfl, _, _, _, _, _, rfl, .ty _, .base (.int i), kk_int_tuple, _, rfl, iteT ⟨_, rfl, q⟩⟩
    | arg i =>
      obtain ⟨x, rfl, e⟩ := hl
      refine ⟨_, rfl, _, _, _, _, _, rfl, .ty _, .base (.tup e), kk_tuple_tuple, _, rfl, iteF ?_⟩
      refine ⟨_, rfl, _, _, _, _, rfl, rfl, SqT.of e, at0, rfl, _, rfl, iteD rfl ?_⟩
      exact ⟨_, rfl, _, rfl, _, _, _, _, rfl, rfl, SqT.of e, at1, _, _, _, _, rfl, rfl, SqL.of hp, atI_nat (getD_at hv), q⟩
    | cell x =>
      obtain ⟨y, rfl, e⟩ := hl
      refine ⟨_, rfl, _, _, _, _, _, rfl, .ty _, .base (.tup e), kk_tuple_tuple, _, rfl, iteF ?_⟩
      refine ⟨_, rfl, _, _, _, _, rfl, rfl, SqT.of e, at0, rfl, _, rfl, iteDN (by decide +kernel) ?_⟩
      refine ⟨_, rfl, _, _, _, _, rfl, rfl, SqT.of e, at0, rfl, _, rfl, iteD rfl ?_⟩
      exact ⟨_, rfl, _, rfl, _, _, _, _, rfl, rfl, SqT.of e, at1, _, _, rfl, held_at hs hv.1, q⟩
    | tick =>
      obtain ⟨y, rfl, e⟩ := hl
      refine ⟨_, rfl, _, _, _, _, _, rfl, .ty _, .base (.tup e), kk_tuple_tuple, _, rfl, iteF ?_⟩
      refine ⟨_, rfl, _, _, _, _, rfl, rfl, SqT.of e, at0, rfl, _, rfl, iteDN (by decide +kernel) ?_⟩
      refine ⟨_, rfl, _, _, _, _, rfl, rfl, SqT.of e, at0, rfl, _, rfl, iteDN (by decide +kernel) ?_⟩
      refine ⟨_, rfl, _, _, _, _, rfl, rfl, SqT.of e, at0, rfl, _, rfl, iteD rfl ?_⟩
      exact ⟨_, rfl, .inl ⟨_, rfl, _, _, rfl, rfl, by show (0 : Int) < 3; decide, q⟩⟩
  | bin o x y =>
    obtain ⟨r, vx, vy, rfl, e, hx, hy⟩ := ht
    have q : Q (.int (evO o (evL as st x) (evL as st y))) H := q H But.refl go.hs
    obtain ⟨n1, n2, n3, n4, n5⟩ := opnm_ne o
    refine ⟨_, rfl, _, _, _, _, _, rfl, .ty _, .base (.tup e), kk_tuple_tuple, _, rfl, iteF ?_⟩
    refine ⟨_, rfl, _, _, _, _, rfl, rfl, SqT.of e, at0, rfl, _, rfl, iteDN (strne n1) ?_⟩
    refine ⟨_, rfl, _, _, _, _, rfl, rfl, SqT.of e, at0, rfl, _, rfl, iteDN (strne n2) ?_⟩
    refine ⟨_, rfl, _, _, _, _, rfl, rfl, SqT.of e, at0, rfl, _, rfl, iteDN (strne n3) ?_⟩
    refine ⟨_, rfl, _, _, _, _, rfl, rfl, SqT.of e, at0, rfl, _, rfl, iteDN (strne n4) ?_⟩
    refine ⟨_, rfl, _, rfl, _, _, _, _, rfl, rfl, SqT.of e, at1, _, rfl, _, rfl, _, rfl, _, rfl, b, vx, p, h, x, st, as, rfl, go.hs, go.ha, hx, leaf_ks go.ks hv.1, ?_⟩
    refine ⟨_, rfl, _, _, _, _, rfl, rfl, SqT.of e, at0, rfl, _, rfl, iteDN (strne n5) ?_⟩
    refine ⟨_, rfl, _, rfl, _, _, _, _, rfl, rfl, SqT.of e, at2, _, rfl, _, rfl, _, rfl, _, rfl, b, vy, p, h, y, st, as, rfl, go.hs, go.ha, hy, leaf_ks go.ks hv.2, ?_⟩
    cases o with
    | plus =>
      refine ⟨_, rfl, _, _, _, _, rfl, rfl, SqT.of e, at0, rfl, _, rfl, iteD rfl ?_⟩
      exact ⟨_, rfl, _, rfl, _, _, rfl, rfl, .inl ⟨_, rfl, _, _, rfl, rfl, by show (0 : Int) < 3; decide, q⟩⟩
    | less =>
      refine ⟨_, rfl, _, _, _, _, rfl, rfl, SqT.of e, at0, rfl, _, rfl, iteDN (by decide +kernel) ?_⟩
      refine ⟨_, rfl, _, _, _, _, rfl, rfl, SqT.of e, at0, rfl, _, rfl, iteD rfl ?_⟩
      refine ⟨_, rfl, _, rfl, _, _, rfl, rfl, .inr ⟨_, rfl, ?_⟩⟩
      rw [bint]
      exact q
    | same =>
      refine ⟨_, rfl, _, _, _, _, rfl, rfl, SqT.of e, at0, rfl, _, rfl, iteDN (by decide +kernel) ?_⟩
      refine ⟨_, rfl, _, _, _, _, rfl, rfl, SqT.of e, at0, rfl, _, rfl, iteDN (by decide +kernel) ?_⟩
      refine ⟨_, rfl, _, rfl, rfl, .inr ⟨_, rfl, ?_⟩⟩
      rw [eq_int, bint]
      exact q
  | ite c x y =>
    obtain ⟨r, vc, vx, vy, rfl, e, hc, hx, hy⟩ := ht
    have q : Q (.int (if evL as st c ≠ 0 then evL as st x else evL as st y)) H := q H But.refl go.hs
    refine ⟨_, rfl, _, _, _, _, _, rfl, .ty _, .base (.tup e), kk_tuple_tuple, _, rfl, iteF ?_⟩
    refine ⟨_, rfl, _, _, _, _, rfl, rfl, SqT.of e, at0, rfl, _, rfl, iteDN (by decide +kernel) ?_⟩
    refine ⟨_, rfl, _, _, _, _, rfl, rfl, SqT.of e, at0, rfl, _, rfl, iteDN (by decide +kernel) ?_⟩
    refine ⟨_, rfl, _, _, _, _, rfl, rfl, SqT.of e, at0, rfl, _, rfl, iteDN (by decide +kernel) ?_⟩
    refine ⟨_, rfl, _, _, _, _, rfl, rfl, SqT.of e, at0, rfl, _, rfl, iteDN (by decide +kernel) ?_⟩
    refine ⟨_, rfl, _, rfl, _, _, _, _, rfl, rfl, SqT.of e, at1, _, rfl, _, rfl, _, rfl, _, rfl, b, vc, p, h, c, st, as, rfl, go.hs, go.ha, hc, leaf_ks go.ks hv.1, ?_⟩
    refine ⟨_, rfl, _, _, _, _, rfl, rfl, SqT.of e, at0, rfl, _, rfl, iteD rfl ?_⟩
    refine ⟨_, rfl, _, rfl, rfl, _, rfl, ?_⟩
    by_cases h0 : evL as st c = 0
    · rw [if_neg (fun z => z h0)] at q
      exact neF (congrArg V.int h0) ⟨_, rfl, _, _, _, _, rfl, rfl, SqT.of e, at3, _, rfl, _, rfl, _, rfl, _, rfl, b, vy, p, h, y, st, as, rfl, go.hs, go.ha, hy, leaf_ks go.ks hv.2.2, q⟩
    · rw [if_pos h0] at q
      exact neT (fun z => h0 (by injection z)) ⟨_, rfl, _, _, _, _, rfl, rfl, SqT.of e, at2, _, rfl, _, rfl, _, rfl, _, rfl, b, vx, p, h, x, st, as, rfl, go.hs, go.ha, hx, leaf_ks go.ks hv.2.1, q⟩
  | call f ts =>
    obtain ⟨r, r2, xs, rfl, e, e2, prs⟩ := ht
    obtain ⟨⟨g, hg, rfl, hm⟩, _, t2, lv⟩ := hv
    obtain ⟨j, hj, ej⟩ := mem_take_at hg
    refine ⟨_, rfl, _, _, _, _, _, rfl, .ty _, .base (.tup e), kk_tuple_tuple, _, rfl, iteF ?_⟩
    refine ⟨_, rfl, _, _, _, _, rfl, rfl, SqT.of e, at0, rfl, _, rfl, iteDN (by decide +kernel) ?_⟩
    refine ⟨_, rfl, _, _, _, _, rfl, rfl, SqT.of e, at0, rfl, _, rfl, iteDN (by decide +kernel) ?_⟩
    refine ⟨_, rfl, _, _, _, _, rfl, rfl, SqT.of e, at0, rfl, _, rfl, iteDN (by decide +kernel) ?_⟩
    refine ⟨_, rfl, _, _, _, _, rfl, rfl, SqT.of e, at0, rfl, _, rfl, iteD rfl ?_⟩
    refine ⟨_, rfl, _, _, _, _, rfl, rfl, SqT.of e, at2, _, rfl, ⟨_, SqT.of e2⟩, fun D hD => ?_⟩
    refine lcF (walk_tup (K := K)) hD (small (by rw [Paired.length prs]; omega)) (fun k => ts[k]?.map fun l => V.int (evL as st l)) (fun H2 s2 => SqT.of (s2 _ _ e2)) (fun k y H2 H3 No Ye hk s2 y1 no ye => ?_) fun H2 s2 h2 => ?_
    · obtain ⟨rfl, ey⟩ := y1
      obtain ⟨l, el, hl⟩ := paired_get prs ey
      have go2 := go.same s2
      exact ⟨rfl, ty ⟨_, rfl, _, rfl, _, rfl, _, rfl, _, rfl, _, rfl, b, _, p, h, l, st, as, rfl, go2.hs, go2.ha, (Same.keep0 (K := K) s2).lf hl, leaf_ks go2.ks (lv l (List.mem_of_getElem? el)), ye _ (by rw [el]; rfl) _ (Same.refl _)⟩⟩
    · rw [leaf_list prs] at h2
      cases n with
      | zero => omega
      | succ n =>
        have e3 : evT (clAt B.fns (n + 1)) as st (.call g.name ts) = run B.fns n g (ts.map (evL as st)) st := by
          show callee B.fns (run B.fns n) g.name _ st = _
          unfold callee
          rw [fget_at go.bv ej]
        rw [e3] at q
        have go2 := go.same s2
        exact ⟨_, rfl, _, rfl, _, _, _, _, rfl, rfl, SqT.of (s2 _ _ e), at1, _, rfl, _, rfl, _, rfl, _, rfl, b, D, h, B, st, _, j, g, rfl, ⟨go2.lb, go2.bv, go2.hs, go2.ks, h2⟩, ej, by omega, by rw [List.length_map, hm], fun H3 b3 s3 => q H3 ((Same.but s2).trans b3) s3⟩
theorem C_law_ranN (T : TX K mg) (n : Nat) (C_law_worked : Cal P w K mg base (3 * n + 2) "_law_worked" (spLW n) []) : Cal P w K mg base (3 * n + 3) "_law_ran" (spLR n) [] := by
  obtain ⟨fd, F⟩ := T.d_law_ran
  refine calD "_law_ran" F T.g_law_ran (b_law_ran F) .nil S_law_ran (fun vs H Q E h => ?_) (fun cdv A outer s H vs Q E hr h => ?_)
  · obtain ⟨b, fa, p, h, B, st, as, i, g, rfl, go, hf, ei, hi, hl, q⟩ := h
    rfl
  obtain ⟨b, fa, p, h, B, st, as, i, g, rfl, go, hf, ei, hi, hl, q⟩ := h
  refine ⟨_, (pss_cons (ps_set (i := 6) S_law_ran.nd rfl (Or.inl rfl) (pe_c C_law_worked hr (by omega) rfl (pa_cons (pv 0) (pa_cons (pe_dget (hu_of hr) (pv 1) pe_str (fun _ _ => rfl)) (pa_cons (pv 2) (pa_cons (pv 3) (pa_cons (pv 4) (pa_cons (pv 5) pa_nil))))))))
  (pss_cons (ps_for PassesOwn.never rfl (pi_tup (pe_dget (hu_of hr) (pv 1) pe_str (fun _ _ => rfl))) (pg_tup (by rfl) (pgs_cons (pg_name (i := 7) S_law_ran.nd rfl (Or.inl rfl)) (pgs_cons (pg_name (i := 8) S_law_ran.nd rfl (Or.inl rfl)) pgs_nil)))
    (pss_one (ps_dput (hu_of hr) (pv 3) (pv 7) (pe_c C_law_worked hr (by omega) rfl (pa_cons (pv 0) (pa_cons (pv 8) (pa_cons (pv 2) (pa_cons (pv 3) (pa_cons (pv 4) (pa_cons (pv 5) pa_nil))))))) rfl)))
  (pss_one (ps_ret (pv 6))))), ?_⟩
  obtain ⟨r, w_, efa, tr, pw, ps, rfl, epw, prs⟩ := id hf
  have fv := go.bv.fv i g ei
  refine ⟨_, rfl, _, rfl, _, _, rfl, lf_result efa, _, rfl, _, rfl, _, rfl, _, rfl, b, r, p, h, B, st, as, i, g.result, rfl, go, tr, by rw [hl]; exact fv.res, hi, fun H1 b1 hs1 => ?_⟩
  have go1 := go.step b1 hs1 ((ev_keys go.bv.wr n).1 as st g.result go.ks)
  have kk1 : Keep K H H1 := But.keep b1 go.hs st_firm
  have ffirm : Firm K (.dK (lfs g r (.ref pw))) := ⟨(.inr "name", .str g.name), List.mem_cons_self, fun i z => nomatch z⟩
  have k1 : Keep0 K H H1 := kk1.weak
  refine ⟨_, rfl, _, _, rfl, lf_writes (kk1 _ _ efa ffirm), _, rfl, ⟨_, SqT.of (k1.tup epw)⟩, ?_⟩
  refine for_it (walk_tup (xs := ps.map V.ref)) (fun k σ H2 => ∃ st2, But h H H2 ∧ GoL H2 b h p B st2 as ∧ runWs (clAt B.fns n) as (g.writes.drop k) st2 = (run B.fns n g as st).2 ∧ ∃ c t, σ = [some (.ref b), some (.ref fa), some (.ref p), some (.ref h), some (.int 0), some .non, some (.int (evT (clAt B.fns n) as st g.result).1), c, t])
    ⟨_, b1, go1, by rw [run_eq]; rfl, _, _, rfl⟩ (fun k σ H2 _ ⟨st2, b2, _⟩ => SqT.of ((But.keep0 (K := K) b2 go.hs st_firm0).tup epw)) (fun k y σ H2 H3 hk ⟨st2, b2, go2, er, c, t, es⟩ y1 => ?_) fun σ H2 ⟨st2, b2, go2, er, c, t, es⟩ => ?_
  · subst es
    obtain ⟨rfl, ey⟩ := y1
    have k2 : Keep0 K H H3 := But.keep0 b2 go.hs st_firm0
    obtain ⟨wk, ek, pa, rfl, vw, ew, tw⟩ := paired_get (paired_map V.ref prs) ey
    obtain ⟨w1, w2, w3⟩ := fv.wr wk (List.mem_of_getElem? ek)
    have ed : g.writes.drop k = wk :: g.writes.drop (k + 1) := by
      obtain ⟨h1, h2⟩ := List.getElem?_eq_some_iff.mp ek
      rw [← h2, List.drop_eq_getElem_cons h1]
    rw [ed] at er
    refine ⟨_, _, rfl, SqT.of (k2.tup ew), rfl, _, _, rfl, _, _, rfl, rfl, ?_⟩
    refine ⟨_, rfl, _, rfl, _, rfl, _, rfl, _, rfl, _, rfl, b, vw, p, h, B, st2, as, i, wk.2, rfl, go2, k2.tm tw, by rw [hl]; exact w3, hi, fun H4 b4 hs4 => ?_⟩
    have ks4 := (ev_keys go.bv.wr n).1 as st2 wk.2 go2.ks
    have go4 := go2.step b4 hs4 ks4
    have hw : wk.1 ∈ B.cells.map (·.1) := List.mem_map.mpr ⟨_, w1, rfl⟩
    have l4 : (skv (evT (clAt B.fns n) as st2 wk.2).2).length < sizeLine := by
      have z := congrArg List.length ks4
      rw [List.length_map, List.length_map] at z
      have := go.bv.cl
      exact small' (by rw [List.length_map]; omega)
    refine ⟨_, rfl, _, rfl, h, _, rfl, DPut.k (k := Sum.inr wk.1) hs4 l4, _, (b2.trans b4).trans But.upd, ?_, er, _, _, rfl⟩
    refine go4.step But.upd ?_ (by rw [sput_keys (by rw [ks4]; exact hw)]; exact ks4)
    show upd H4 h _ h = _
    rw [upd_same, sput_kv]
  · subst es
    rw [List.length_map, Paired.length prs, List.drop_length] at er
    refine ⟨_, rfl, ?_⟩
    have e1 : (run B.fns n g as st).1 = (evT (clAt B.fns n) as st g.result).1 := by rw [run_eq]; rfl
    rw [e1] at q
    exact q H2 b2 (er ▸ go2.hs)
theorem C_law_called0 (T : TX K mg) : Cal P w K mg base 1 "_law_called" (spLC 0) [] := by
  obtain ⟨fd, F⟩ := T.d_law_called
  refine calD "_law_called" F T.g_law_called (b_law_called F) .nil S_law_called (fun vs H Q E h => ?_) (fun cdv A outer s H vs Q E hr h => ?_)
  · exact h.elim
  refine ⟨_, pss_never, ?_⟩
  exact h.elim
theorem C_law_calledS (T : TX K mg) (n : Nat) (C_law_ran : Cal P w K mg base (3 * n + 3) "_law_ran" (spLR n) []) : Cal P w K mg base (3 * (n + 1) + 1) "_law_called" (spLC (n + 1)) [] := by
  have C_law_found : Cal P w K mg base 1 "_law_found" spFound [] := SC.C_law_found T
  obtain ⟨fd, F⟩ := T.d_law_called
  refine calD "_law_called" F T.g_law_called (b_law_called F) .nil S_law_called (fun vs H Q E h => ?_) (fun cdv A outer s H vs Q E hr h => ?_)
  · obtain ⟨b, p, h, B, st, as, i, g, rfl, go, ei, hi, hl, q⟩ := h
    rfl
  obtain ⟨b, p, h, B, st, as, i, g, rfl, go, ei, hi, hl, q⟩ := h
  refine ⟨_, (pss_cons (ps_set (i := 6) S_law_called.nd rfl (Or.inl rfl) (pe_c C_law_found hr (by omega) rfl (pa_cons (pv 0) (pa_cons (pv 1) pa_nil))))
  (pss_cons (ps_if (PW.pt (pw_and (pt_cmpR op_notN (pv 5) pe_non (nomark _)) (pw_and1 pt_dead))) (pss_one ps_never) pss_nil)
  (pss_one (ps_ret (pe_c C_law_ran hr (by omega) rfl (pa_cons (pv 0) (pa_cons (pv 6) (pa_cons (pv 2) (pa_cons (pv 3) (pa_cons (pv 4) (pa_cons (pv 5) pa_nil))))))))))), ?_⟩
  refine ⟨_, rfl, _, rfl, b, g.name, B, g, rfl, go.lb, go.bv.f3, fget_at go.bv ei, fun H1 fa s1 hfa => ?_⟩
  refine ⟨_, rfl, rfl, _, rfl, ?_⟩
  refine neF rfl (iteF ?_)
  exact ⟨_, rfl, _, rfl, _, rfl, _, rfl, _, rfl, _, rfl, b, fa, p, h, B, st, as, i, g, rfl, go.same s1, hfa, ei, hi, hl, fun H2 b2 h2 => q H2 ((Same.but s1).trans b2) h2⟩
end
end SC

set_option Elab.async false
set_option linter.all false
set_option maxRecDepth 100000
set_option maxHeartbeats 4000000
namespace SC
open PySem PySem.Spec PyProof.Rows L2
open C8 (Cal Met Mak pe_c pe_mk pe_mt pe_mt0 pe_gc InsC)
section
variable {P : Program} {w : World} {K : PySem.W.Frag} {mg : Str → Option Value} {base : Heap}
theorem C_law_ran2 (T : TX K mg) : Cal P w K mg base 9 "_law_ran" (spLR 2) [] :=
  C_law_ranN T 2 (C_law_workedN T 2 (C_law_leaf T) (C_law_calledS T 1 (C_law_ranN T 1 (C_law_workedN T 1 (C_law_leaf T) (C_law_calledS T 0 (C_law_ranN T 0 (C_law_workedN T 0 (C_law_leaf T) (C_law_called0 T))))))))
end
theorem take_fl {α β : Type} {xs : List α} {g : α → List β} {j : Nat} {x : α} (h : xs[j]? = some x) : (xs.take (j + 1)).flatMap g = (xs.take j).flatMap g ++ g x := by
  rw [take_snoc h, List.flatMap_append, List.flatMap_singleton]
theorem fl3_len : ∀ l : List (List Int), (l.flatMap ext3).length = l.length * 3
  | [] => rfl
  | x :: r => by
    rw [List.flatMap_cons, List.length_append, fl3_len r, List.length_cons]
    show 3 + r.length * 3 = (r.length + 1) * 3
    omega
theorem free_back {H H' : Hp} {a : Addr} (s : Same H H') (h : H' a = none) : H a = none := by
  cases z : H a with
  | none => rfl
  | some o => rw [s _ _ z] at h; cases h
section
variable {P : Program} {w : World} {K : PySem.W.Frag} {mg : Str → Option Value} {base : Heap}
def spLTuples : Sp := fun vs H Q _ => ∃ m : Nat, vs = [.int m] ∧ m ≤ 2 ∧ ∀ H' p ys, Same H H' → H' p = some (.lst ys) → Paired (TuAt H') ys (tups m) → Q (.ref p) H'
theorem C_law_tuples (T : TX K mg) : Cal P w K mg base 1 "_law_tuples" spLTuples [] := by
  obtain ⟨fd, F⟩ := T.d_law_tuples
  refine calD "_law_tuples" F T.g_law_tuples (b_law_tuples F) .nil S_law_tuples (fun vs H Q E h => ?_) (fun cdv A outer s H vs Q E hr h => ?_)
  · obtain ⟨m, rfl, m2, q⟩ := h
    rfl
  obtain ⟨m, rfl, m2, q⟩ := h
  refine ⟨_, (pss_cons (ps_set (i := 1) S_law_tuples.nd rfl (Or.inl rfl) (pe_lst (pa_cons (pe_tup pa_nil) pa_nil)))
  (pss_cons (ps_for PassesOwn.never rfl (pi_range1 (by rfl) T.f_range (pa_cons (pv 0) pa_nil)) (pg_name (i := 2) S_law_tuples.nd rfl (Or.inl rfl))
    (pss_cons (ps_set (i := 3) S_law_tuples.nd rfl (Or.inl rfl) (pe_lst pa_nil))
  (pss_cons (ps_for PassesOwn.never rfl (pi_list (pv 1)) (pg_name (i := 4) S_law_tuples.nd rfl (Or.inr rfl))
    (pss_one (ps_set (i := 3) S_law_tuples.nd rfl (Or.inl rfl) (pe_op op_cat (pv 3) (pe_lc (own := [("_law_value", 5)]) (by rfl) S_law_tuples.nd  (pi_range1 (by rfl) T.f_range (pa_cons pe_int pa_nil)) (blkOk_by (own := [("_law_value", 5)]) (N := N_law_tuples) (sc := d_law_tuples.scope) (by decide +kernel)) (fun _ _ _ _ _ => (pg_name (i := 5) S_law_tuples.nd rfl (Or.inl rfl))) (fun _ _ _ _ _ => pts_nil) (fun _ _ _ _ _ => (pe_op (op_catA' K rfl) (pv 4) (pe_tup (pa_cons (pv 5) pa_nil)))))))))
  (pss_one (ps_set (i := 1) S_law_tuples.nd rfl (Or.inl rfl) (pv 3))))))
  (pss_one (ps_ret (pv 1))))), ?_⟩
  refine ⟨small (by decide), fun t ht => ⟨small (by show 1 ≤ 1000000; decide), fun l hl => ?_⟩⟩
  refine ⟨_, rfl, m, rfl, by omega, by omega, ?_⟩
  refine for_it walk_range (fun i σ H1 => ∃ p ys t la r v, σ = [some (V.int m), some (.ref p), t, la, r, v] ∧ Same H H1 ∧ H1 p = some (.lst ys) ∧ Paired (TuAt H1) ys (tups i)) ⟨l, [.ref t], _, _, _, _, rfl, ?_, upd_same, .cons ⟨t, rfl, ?_⟩ .nil⟩ (fun _ _ _ _ _ => trivial) (fun i x σ H1 H2 hi p y => ?_) fun σ H1 p => ?_
  · exact (same_upd ht).trans (same_upd hl)
  · rw [upd_ne (ne_of_none upd_same hl)]
    exact upd_same
  · obtain ⟨p, ys, t, la, r, v, rfl, s1, h1, r1⟩ := p
    obtain ⟨rfl, rfl⟩ := y
    have ly := Paired.length r1
    have lt : (tups i).length ≤ 9 := by
      rw [tups_len]
      have hi2 : i ≤ 2 := by omega
      exact Nat.le_trans (Nat.pow_le_pow_right (by decide) hi2) (by decide)
    refine ⟨small (by decide), fun q0 hq0 => ?_⟩
    have s2 := same_upd (o := .lst []) hq0
    have n1 : p ≠ q0 := ne_of_none h1 hq0
    refine ⟨_, rfl, p, rfl, ⟨_, SqL.of (s2 _ _ h1)⟩, ?_⟩
    refine for_it (walk_list (K := K) (xs := ys)) (fun j σ H3 => Same H2 H3 ∧ ∃ q zs t r v, σ = [some (V.int m), some (.ref p), t, some (.ref q), r, v] ∧ H3 q = some (.lst zs) ∧ Paired (TuAt H3) zs (((tups i).take j).flatMap ext3)) ⟨s2, q0, [], _, _, _, rfl, upd_same, by rw [List.take_zero]; exact .nil⟩ (fun j σ H3 _ z => SqL.of (z.1 _ _ h1)) (fun j x σ H3 H4 hj z y1 => ?_) fun σ H3 z => ?_
    · obtain ⟨s3, qa, zs, t3, r3, v3, rfl, h3, p3⟩ := z
      obtain ⟨rfl, ex⟩ := y1
      obtain ⟨r, er, a, rfl, ha⟩ := paired_get r1 ex
      have ha := s3 _ _ ha
      have hr3 : r.length ≤ 2 := by
        have z := tups_in i r (List.mem_of_getElem? er)
        omega
      have lz : zs.length ≤ 27 := by
        have z := Paired.length p3
        have z2 := fl3_len ((tups i).take j)
        rw [List.length_take] at z2
        omega
      refine ⟨_, rfl, 3, rfl, by decide, by decide, fun D hD => ?_⟩
      refine lcR (K := K) walk_range hD (by show 3 ≤ sizeLine; decide) TuAt (fun _ _ _ _ k h => k.tu h) (fun k => some (r ++ [(k : Int)])) (fun _ _ => trivial) (fun k x H5 H6 No Ye hk s5 y2 no ye => ?_) fun H5 ws s5 h5 r5 => ?_
      · obtain ⟨rfl, rfl⟩ := y2
        have ha5 := s5 _ _ ha
        refine ⟨rfl, ty ⟨_, rfl, _, rfl, small (by show 1 ≤ 1000000; decide), fun t5 ht5 => ?_⟩⟩
        have s6 := same_upd (o := .tup [V.int (0 + (k : Int))]) ht5
        refine ⟨a, t5, r.map V.int, [.int (0 + (k : Int))], rfl, rfl, SqT.of (s6 _ _ ha5), SqT.of upd_same, small (by rw [List.length_map]; show r.length + 1 ≤ 1000000; omega), fun e => ?_, (fun _ e => nomatch e), fun _ _ t6 ht6 => ?_⟩
        · refine ye _ rfl _ _ s6 ⟨t5, rfl, ?_⟩
          have er0 : r = [] := List.map_eq_nil_iff.mp e
          rw [er0, upd_same]
          show some (HO.tup [V.int (0 + (k : Int))]) = some (HO.tup [V.int (k : Int)])
          rw [Int.zero_add]
        · refine ye _ rfl _ _ (s6.trans (same_upd ht6)) ⟨t6, rfl, ?_⟩
          rw [upd_same, List.map_append]
          show some (HO.tup (r.map V.int ++ [V.int (0 + (k : Int))])) = some (HO.tup (r.map V.int ++ [V.int (k : Int)]))
          rw [Int.zero_add]
      · have h3' := s5 _ _ h3
        refine ⟨qa, D, zs, ws, rfl, rfl, h3', h5, small ?_, fun l6 hl6 => ?_⟩
        · have z := Paired.length r5
          have z2 := fm_le (fun k => some (r ++ [(k : Int)])) 3
          have z3 : ws.length ≤ 3 := by
            rw [z]
            exact z2
          omega
        · have s6 := same_upd (o := .lst (zs ++ ws)) hl6
          have k6 : Keep0 K H4 _ := Same.keep0 (s5.trans s6)
          refine ⟨s3.trans (s5.trans s6), l6, _, _, _, _, rfl, upd_same, ?_⟩
          rw [take_fl er]
          have app : ∀ {xs ys : List V} {us vs : List (List Int)}, Paired (TuAt (upd H5 l6 (.lst (zs ++ ws)))) xs us → Paired (TuAt (upd H5 l6 (.lst (zs ++ ws)))) ys vs → Paired (TuAt (upd H5 l6 (.lst (zs ++ ws)))) (xs ++ ys) (us ++ vs) := by
            intro xs ys us vs h1 h2
            induction h1 with
            | nil => exact h2
            | cons a _ ih => exact .cons a ih
          exact app (Paired.mapP p3 fun _ _ h => k6.tu h) (Paired.mapP r5 fun _ _ h => (Same.keep0 (K := K) s6).tu h)
    · obtain ⟨s3, qa, zs, t3, r3, v3, rfl, h3, p3⟩ := z
      rw [ly, List.take_length] at p3
      exact ⟨_, rfl, qa, zs, _, _, _, _, rfl, s1.trans s3, h3, p3⟩
  · obtain ⟨p, ys, t, la, r, v, rfl, s1, h1, r1⟩ := p
    exact ⟨_, rfl, q _ _ _ s1 h1 r1⟩
def spEntries : Sp := fun vs H Q _ => ∃ b fa s B, ∃ j : Nat, ∃ g st, vs = [.ref b, .ref fa, .ref s] ∧ LbAt H b B ∧ Bv B ∧ LfnAt H fa g ∧ B.fns[j]? = some g ∧ StAt H s st ∧ Sv (B.cells.map (·.1)) st ∧ ∀ H' d, Same H H' → H d = none → H' d = some (.dT (tdv (ents B g st))) → Q (.ref d) H'
theorem C_law_entries (T : TX K mg) : Cal P w K mg base 10 "_law_entries" spEntries [] := by
  have C_law_tuples : Cal P w K mg base 1 "_law_tuples" spLTuples [] := SC.C_law_tuples T
  have C_law_ran : Cal P w K mg base 9 "_law_ran" (spLR 2) [] := SC.C_law_ran2 T
  obtain ⟨fd, F⟩ := T.d_law_entries
  refine calD "_law_entries" F T.g_law_entries (b_law_entries F) .nil S_law_entries (fun vs H Q E h => ?_) (fun cdv A outer s H vs Q E hr h => ?_)
  · obtain ⟨b, fa, s0, B, j, g, st, rfl, lb, hB, hf, ej, hs, sv, q⟩ := h
    rfl
  obtain ⟨b, fa, s0, B, j, g, st, rfl, lb, hB, hf, ej, hs, sv, q⟩ := h
  refine ⟨_, (pss_cons (ps_set (i := 3) S_law_entries.nd rfl (Or.inl rfl) pe_dnewT)
  (pss_cons (ps_for PassesOwn.never rfl (pi_list (pe_c C_law_tuples hr (by decide) rfl (pa_cons (pe_dget (hu_of hr) (pv 1) pe_str (fun _ _ => rfl)) pa_nil))) (pg_name (i := 4) S_law_entries.nd rfl (Or.inl rfl))
    (pss_one (ps_dput (hu_of hr) (pv 3) (pv 4) (pe_c C_law_ran hr (by decide) rfl (pa_cons (pv 0) (pa_cons (pv 1) (pa_cons (pe_callTy call_list_of (by rfl) T.f_list v_list (pa_cons (pv 4) pa_nil)) (pa_cons (pe_callTy call_dictD (by rfl) T.f_dict v_dict (pa_cons (pv 2) pa_nil)) (pa_cons pe_int (pa_cons pe_non pa_nil))))))) rfl)))
  (pss_one (ps_ret (pv 3))))), ?_⟩
  have m2 : g.many ≤ 2 := (hB.fv j g ej).many
  have j2 : j ≤ 2 := by
    have := (List.getElem?_eq_some_iff.mp ej).1
    have := hB.f3
    omega
  refine fun d hd => ?_
  have s1 := same_upd (o := .dT []) hd
  obtain ⟨r, w_, ef, _⟩ := (Same.keep0 (K := K) s1).lfn hf
  refine ⟨_, rfl, _, _, rfl, lf_many ef, g.many, rfl, m2, fun H2 p ys s2 h2 py => ?_⟩
  refine ⟨p, rfl, ⟨_, SqL.of h2⟩, ?_⟩
  have t2 := s2 _ _ (upd_same (H := H) (a := d) (o := .dT []))
  have np : p ≠ d := ne_of h2 t2 (by intro z; cases z)
  have ly := Paired.length py
  have lt : (tups g.many).length ≤ 9 := by
    rw [tups_len]
    exact Nat.le_trans (Nat.pow_le_pow_right (by decide) m2) (by decide)
  refine for_it (walk_list (K := K) (xs := ys)) (fun i σ H3 => Same H H3 ∧ H3 d = some (.dT (tdv ((ents B g st).take i))) ∧ H3 p = some (.lst ys) ∧ Paired (TuAt H3) ys (tups g.many) ∧ ∃ z, σ = [some (.ref b), some (.ref fa), some (.ref s0), some (.ref d), z]) ⟨s1.trans s2, t2, h2, py, _, rfl⟩ (fun i σ H3 _ p => SqL.of p.2.2.1) (fun i v σ H3 H4 hi pv y1 => ?_) fun σ H3 pv => ?_
  · obtain ⟨s3, t3, h3, p3, z, rfl⟩ := pv
    obtain ⟨rfl, ey⟩ := y1
    obtain ⟨r, er, pa, rfl, ha⟩ := paired_get p3 ey
    refine ⟨_, rfl, _, rfl, _, rfl, _, _, rfl, .inr (SqT.of ha), fun l5 hl5 => ?_⟩
    have s5 := same_upd (o := .lst (r.map V.int)) hl5
    refine ⟨_, rfl, _, _, rfl, .inl (s5 _ _ (s3 _ _ hs)), fun h6 hh6 => ?_⟩
    have s6 := s5.trans (same_upd (o := .dK (skv st)) hh6)
    have s06 := s3.trans s6
    have hl6 := same_upd (o := .dK (skv st)) hh6 _ _ (upd_same (H := H4) (a := l5) (o := .lst (r.map V.int)))
    refine ⟨b, fa, l5, h6, B, st, r, j, g, rfl, ⟨(Same.keep (K := K) s06).lb lb, hB, upd_same, sv.keys, hl6⟩, (Same.keep0 (K := K) s06).lfn hf, ej, j2, tups_in _ r (List.mem_of_getElem? er), fun H7 b7 hs7 => ?_⟩
    have hH6 : H4 h6 = none := free_back s5 hh6
    have s7 : Same H4 H7 := But.same b7 s6 hH6
    have t7 := s7 _ _ t3
    have ha7 := s7 _ _ ha
    refine ⟨_, rfl, _, rfl, d, _, rfl, DPut.t t7 (kI_tup ha7) (small' ?_), ?_⟩
    · rw [List.length_map, List.length_map, List.length_take]
      unfold ents
      rw [List.length_map]
      omega
    · have k8 : Keep0 K H7 (upd H7 d (.dT (putK (tdv ((ents B g st).take i)) (kI r) (.int (run B.fns 2 g r st).1)))) := keep0_upd t7 dT_firm0
      refine ⟨Same.of_upd (s3.trans s7) hd, ?_, ?_, Paired.mapP p3 fun _ _ h => k8.tu ((Same.keep0 (K := K) s7).tu h), _, rfl⟩
      · rw [upd_same, tput_kv, tput_new (by rw [List.map_take, ents_keys]; exact take_new m2 er), take_snoc (ents_at er)]
        rfl
      · rw [upd_ne np]
        exact s7 _ _ h3
  · obtain ⟨s3, t3, _, _, z, rfl⟩ := pv
    rw [ly, List.take_of_length_le (by unfold ents; rw [List.length_map]; exact Nat.le_refl _)] at t3
    exact ⟨_, rfl, q _ d s3 hd t3⟩
end
end SC

set_option Elab.async false
set_option linter.all false
set_option maxRecDepth 100000
set_option maxHeartbeats 4000000
namespace SC
open PySem PySem.Spec PyProof.Rows L2
open C8 (Cal Met Mak pe_c pe_mk pe_mt pe_mt0 pe_gc InsC)
/-! ### lists of tuples, by what they hold -/
def pdT (r : List Int) : PyData := .tuple (r.map PyData.int)
def pdL (l : List (List Int)) : PyData := .list (l.map pdT)
theorem lay_ints : ∀ r : List Int, PyData.canLayAll0 (r.map PyData.int) = true
  | [] => rfl
  | x :: r => by
    rw [List.map_cons, PyData.canLayAll0, PyData.canLay0, lay_ints r]
    rfl
theorem dep_ints : ∀ r : List Int, PyData.depthAll (r.map PyData.int) = 0
  | [] => rfl
  | x :: r => by
    rw [List.map_cons, PyData.depthAll, PyData.depth, dep_ints r]
    rfl
theorem lay_tups : ∀ l : List (List Int), PyData.canLayAll0 (l.map pdT) = true
  | [] => rfl
  | x :: r => by
    rw [List.map_cons, PyData.canLayAll0, lay_tups r]
    show (PyData.canLayAll0 (x.map PyData.int) && true) = true
    rw [lay_ints]
    rfl
theorem dep_tups : ∀ l : List (List Int), PyData.depthAll (l.map pdT) ≤ 1
  | [] => Nat.zero_le _
  | x :: r => by
    rw [List.map_cons, PyData.depthAll]
    have h1 : PyData.depth (pdT x) = 1 := by
      show PyData.depthAll (x.map PyData.int) + 1 = 1
      rw [dep_ints]
    have h2 := dep_tups r
    omega
theorem pd_lay (l : List (List Int)) : PyData.canLay0 (pdL l) = true := lay_tups l
theorem pd_shaped (l : List (List Int)) : SeqAt.shaped (pdL l) = true := by
  unfold SeqAt.shaped
  rw [pd_lay, Bool.true_and]
  refine decide_eq_true ?_
  show PyData.depthAll (l.map pdT) + 1 ≤ 64
  have := dep_tups l
  omega
theorem dp_ints {K : PySem.W.Frag} {H : Hp} : ∀ r : List Int, DpAll K H (r.map V.int) (r.map PyData.int)
  | [] => .nil
  | x :: r => .cons (.int x) (dp_ints r)
theorem dp_tups {K : PySem.W.Frag} {H : Hp} {ys : List V} {l : List (List Int)} (h : Paired (TuAt H) ys l) : DpAll K H ys (l.map pdT) := by
  induction h with
  | nil => exact .nil
  | cons a _ ih =>
    obtain ⟨p, rfl, hp⟩ := a
    exact .cons (.tup (SqT.of hp) (dp_ints _)) ih
theorem dp_list {K : PySem.W.Frag} {H : Hp} {p : Addr} {ys : List V} {l : List (List Int)} (h : H p = some (.lst ys)) (r : Paired (TuAt H) ys l) : Dp K H (.ref p) (pdL l) := .lst (SqL.of h) (dp_tups r)
theorem ne_pd {K : PySem.W.Frag} {H : Hp} {x y : V} {l : List (List Int)} {Q : VK} (hx : Dp K H x (pdL l)) (hy : Dp K H y (pdL l)) (q : Q (.bl false) H) : rNeD K x y H Q := by
  refine ⟨_, _, hx, hy, pd_shaped l, pd_shaped l, ?_⟩
  rw [PySem.SeqAt.eqv_refl _ (pd_lay l)]
  exact q
theorem keys_tu {H : Hp} : ∀ {td : TD} {bs : List Addr}, IsKeys H (tdv td) bs → Paired (TuAt H) (bs.map V.ref) (td.map (·.1))
  | [], _, h => by cases h; exact .nil
  | p :: r, _, h => by
    cases h with
    | cons a t =>
      refine .cons ⟨_, rfl, ?_⟩ (keys_tu t)
      have e : (kI p.1).map kV = p.1.map V.int := by
        unfold kI
        rw [List.map_map]
        rfl
      rw [← e]
      exact a
theorem SqL_same {K : PySem.W.Frag} {H H' : Hp} {a : Addr} {xs : List V} (s : Same H H') (h : SqL K H a xs) : SqL K H' a xs := by
  rcases h with (h | ⟨o, h⟩) | h
  · exact .inl (.inl (s _ _ h))
  · exact .inl (.inr ⟨o, s _ _ h⟩)
  · exact .inr h
theorem tus_ne {H : Hp} {ys : List V} {l : List (List Int)} (h : Paired (TuAt H) ys l) {i j : Int} : ys ≠ [V.int i, V.int j] := fun e => by
  subst e
  cases h with
  | cons a _ =>
    obtain ⟨p, e, _⟩ := a
    cases e
/-! ### the law's own state -/
structure LS (K : PySem.W.Frag) (H0 Hf H : Hp) (p b fa bk i d dd : Addr) (B : Bk) (j : Nat) (g : Fn) (td du : TD) : Prop where
  s0 : Same H0 H
  p0 : H0 p = none
  i0 : H0 i = none
  dd0 : H0 dd = none
  kf : Keep K Hf H
  hlb : LbAt Hf b B
  hfn : LfnAt Hf fa g
  hbk : BkAt K Hf bk B
  fi : Hf i = none
  hB : Bv B
  at_ : B.fns[j]? = some g
  pool : PoolAt H p
  ix : IxF K H i bk d g.name
  hd : H d = some (.dT (tdv td))
  hdd : H dd = some (.dT (tdv du))
  nd : d ≠ dd
  kt : td.map (·.1) = tups g.many
  ku : du.map (·.1) = tups g.many
section
variable {K : PySem.W.Frag} {H0 Hf H H' : Hp} {p b fa bk i d dd : Addr} {B : Bk} {j : Nat} {g : Fn} {td du : TD}
theorem LS.m2 (L : LS K H0 Hf H p b fa bk i d dd B j g td du) : g.many ≤ 2 := (L.hB.fv j g L.at_).many
theorem LS.bo (L : LS K H0 Hf H p b fa bk i d dd B j g td du) : Bo K H bk B j g := ⟨L.kf.bk L.hbk, L.hB, L.at_⟩
theorem LS.nip (L : LS K H0 Hf H p b fa bk i d dd B j g td du) : i ≠ p := by
  obtain ⟨dx, e⟩ := L.ix
  obtain ⟨x, y, h, _⟩ := L.pool
  exact ne_of e h (by intro z; cases z)
theorem LS.ndp (L : LS K H0 Hf H p b fa bk i d dd B j g td du) : d ≠ p := by
  obtain ⟨x, y, h, _⟩ := L.pool
  exact ne_of L.hd h (by intro z; cases z)
theorem LS.nddp (L : LS K H0 Hf H p b fa bk i d dd B j g td du) : dd ≠ p := by
  obtain ⟨x, y, h, _⟩ := L.pool
  exact ne_of L.hdd h (by intro z; cases z)
theorem LS.ndi (L : LS K H0 Hf H p b fa bk i d dd B j g td du) : dd ≠ i := by
  obtain ⟨dx, e⟩ := L.ix
  exact ne_of L.hdd e (by intro z; cases z)
theorem LS.pl (L : LS K H0 Hf H p b fa bk i d dd B j g td du) (s : Pl p H H') : LS K H0 Hf H' p b fa bk i d dd B j g td du :=
  ⟨But.same s.1 L.s0 L.p0, L.p0, L.i0, L.dd0, L.kf.trans s.keep, L.hlb, L.hfn, L.hbk, L.fi, L.hB, L.at_, s.2.2, let ⟨dx, e⟩ := L.ix; ⟨dx, s.at_ e L.nip⟩, s.at_ L.hd L.ndp, s.at_ L.hdd L.nddp, L.nd, L.kt, L.ku⟩
theorem LS.sm (L : LS K H0 Hf H p b fa bk i d dd B j g td du) (s : Same H H') : LS K H0 Hf H' p b fa bk i d dd B j g td du := L.pl (Same.pl s L.pool)
theorem LS.rew {td' : TD} {d' : Addr} (L : LS K H0 Hf H p b fa bk i d dd B j g td du) (s : But i H H') (ix : IxF K H' i bk d' g.name) (hd : H' d' = some (.dT (tdv td'))) (hn : H d' = none) (kt : td'.map (·.1) = tups g.many) : LS K H0 Hf H' p b fa bk i d' dd B j g td' du :=
  ⟨But.same s L.s0 L.i0, L.p0, L.i0, L.dd0, fun a o h f => s a o (L.kf a o h f) (ne_of_none h L.fi), L.hlb, L.hfn, L.hbk, L.fi, L.hB, L.at_, let ⟨x, y, h, q⟩ := L.pool; ⟨x, y, s _ _ h (Ne.symm L.nip), q⟩, ix, hd, s _ _ L.hdd L.ndi, Ne.symm (ne_of_none L.hdd hn), kt, L.ku⟩
theorem LS.put {du' : TD} (L : LS K H0 Hf H p b fa bk i d dd B j g td du) (ku : du'.map (·.1) = tups g.many) : LS K H0 Hf (upd H dd (.dT (tdv du'))) p b fa bk i d dd B j g td du' :=
  ⟨Same.of_upd L.s0 L.dd0, L.p0, L.i0, L.dd0, L.kf.trans (But.keep But.upd L.hdd (fun h => h)), L.hlb, L.hfn, L.hbk, L.fi, L.hB, L.at_, let ⟨x, y, h, q⟩ := L.pool; ⟨x, y, by rw [upd_ne (Ne.symm L.nddp)]; exact h, q⟩,
    let ⟨dx, e⟩ := L.ix; ⟨dx, by rw [upd_ne (Ne.symm L.ndi)]; exact e⟩, by rw [upd_ne L.nd]; exact L.hd, upd_same, L.nd, L.kt, ku⟩
theorem td_len (m2 : g.many ≤ 2) (k : td.map (·.1) = tups g.many) : td.length = 3 ^ g.many ∧ td.length ≤ 9 := by
  have z := congrArg List.length k
  rw [List.length_map, tups_len] at z
  exact ⟨z, by rw [z]; exact Nat.le_trans (Nat.pow_le_pow_right (by decide) m2) (by decide)⟩
theorem ent_get {st : Sta} (m2 : g.many ≤ 2) {r : List Int} (h : r ∈ tups g.many) : tget (ents B g st) r = some (ent B g st r) := by
  have nd : ((ents B g st).map (·.1)).Nodup := by
    rw [ents_keys]
    exact tups_nodup m2
  exact tget_mem nd (p := (r, ent B g st r)) (by unfold ents; exact List.mem_map.mpr ⟨r, h, rfl⟩)
end
section
variable {P : Program} {w : World} {K : PySem.W.Frag} {mg : Str → Option Value} {base : Heap}
end
end SC

set_option Elab.async false
set_option linter.all false
set_option maxRecDepth 100000
set_option maxHeartbeats 4000000
namespace SC
open PySem PySem.Spec PyProof.Rows L2
open C8 (Cal Met Mak pe_c pe_mk pe_mt pe_mt0 pe_gc InsC)
theorem hu64 {A : Around} {k : Nat} (hr : Room k A) : A.units + 64 < cLine := by
  have := hr.un
  omega
theorem jr (L : Nat) : 1 ≤ (if (if (4 : Int) < (L : Int) then (4 : Int) else L) > 1 then (if (4 : Int) < (L : Int) then (4 : Int) else L) else 1) ∧ (if (if (4 : Int) < (L : Int) then (4 : Int) else L) > 1 then (if (4 : Int) < (L : Int) then (4 : Int) else L) else 1) ≤ 4 := by
  by_cases h : (4 : Int) < (L : Int)
  · rw [if_pos h]
    exact ⟨by decide, by decide⟩
  · rw [if_neg h]
    by_cases h2 : (L : Int) > 1
    · rw [if_pos h2]
      omega
    · rw [if_neg h2]
      omega
theorem at139 : ∀ {m : Nat}, m ≤ 2 → atI [V.int 1, V.int 3, V.int 9] (m : Int) = some (V.int ((3 ^ m : Nat) : Int)) := by
  intro m hm
  match m, hm with
  | 0, _ => exact at0
  | 1, _ => exact at1
  | 2, _ => exact at2
theorem nf_book {K : PySem.W.Frag} {C D : Addr} (h : PySem.W.subIn K (.ref D) (.ref C) = some false) : PySem.W.notFirst K C (.ref D) = true := by
  unfold PySem.W.notFirst
  rw [h]
  simp
section
variable {P : Program} {w : World} {K : PySem.W.Frag} {mg : Str → Option Value} {base : Heap}
def spLaw (K : PySem.W.Frag) : Sp := fun vs H Q _ => ∃ l, ∃ ns : List Int, vs = [.ref l] ∧ SqL K H l (ns.map V.int) ∧ ∀ H', Q (.bl true) H'
theorem W_law (T : TX K mg) {fd : FuncData} (F : FunD K d_law.name d_law.qual d_law.params d_law.body d_law.scope (d_law.dvs K) (d_law.kws K) (He.fAd K d_law.at_) fd) : FnOk P w K mg base CX0 14 (He.fAd K d_law.at_) fd P_law (spLaw K) := by
  have C_law_book : Cal P w K mg base 6 "_law_book" spLBook [] := SC.C_law_book T
  have C_law_entries : Cal P w K mg base 10 "_law_entries" spEntries [] := SC.C_law_entries T
  have C_law_made_book : Cal P w K mg base 10 "_law_made_book" (spMadeBook K) [] := SC.C_law_made_book T
  have C_law_pick : Cal P w K mg base 2 "_law_pick" spPick [] := SC.C_law_pick T
  have C_law_pool : Cal P w K mg base 1 "_law_pool" (spPool K) [] := SC.C_law_pool T
  have C_law_state : Cal P w K mg base 2 "_law_state" spLState [] := SC.C_law_state T
  have C_law_tuples : Cal P w K mg base 1 "_law_tuples" spLTuples [] := SC.C_law_tuples T
  have K_Index : Mak P w K mg base 12 "Index" (He.ga K "Index") (spIndex K) [] := SC.K_Index T
  have M_Book_eq : Met P w K mg base 1 (He.ga K "Book") "__eq__" (spBkEq K) [] := SC.M_Book_eq T
  have M_Index_entries : Met P w K mg base 1 (He.ga K "Index") "entries" (spIxEnt K) [] := SC.M_Index_entries T
  have M_Index_eq : Met P w K mg base 3 (He.ga K "Index") "__eq__" (spIxEq K) [] := SC.M_Index_eq T
  have M_Index_find : Met P w K mg base 4 (He.ga K "Index") "find" (spIxFind K) [] := SC.M_Index_find T
  have M_Index_getitem : Met P w K mg base 5 (He.ga K "Index") "__getitem__" (spIxGet K) [] := SC.M_Index_getitem T
  have M_Index_len : Met P w K mg base 1 (He.ga K "Index") "__len__" (spIxLen K) [] := SC.M_Index_len T
  have M_Index_rewrite : Met P w K mg base 12 (He.ga K "Index") "rewrite" (spRewrite K) [] := SC.M_Index_rewrite T
  have M_Index_wrong : Met P w K mg base 12 (He.ga K "Index") "wrong" (spIxWrong K) [] := SC.M_Index_wrong T
  refine F.ok S_law (fun vs H Q E h => ?_) (fun cdv A outer s H vs Q E hr h => ?_)
  · obtain ⟨l, ns, rfl, hs, q⟩ := h
    rfl
  obtain ⟨l, ns, rfl, hs, q⟩ := h
  suffices h2 : ∃ t, PSs (cxOf CX0 P w K mg base N_law d_law.qual d_law.scope (He.fAd K d_law.at_) cdv A outer s H E).nox d_law.body t ∧ t { nx := fun _ H' => Q .non H', rt := Q } (L2.start N_law _) H from
    let ⟨t, h, q⟩ := h2
    ⟨t, h.nox, q⟩
  refine ⟨_, (pss_cons (ps_for PassesOwn.never rfl (pi_range1 (by rfl) T.f_range (pa_cons (pe_callB (call_max2 rfl) (by rfl) T.f_max v_max (pa_cons pe_int (pa_cons (pe_callB (call_min2 rfl) (by rfl) T.f_min v_min (pa_cons (pe_callB call_len (by rfl) T.f_len v_len (pa_cons (pv 0) pa_nil)) (pa_cons pe_int pa_nil))) pa_nil))) pa_nil)) (pg_name (i := 1) S_law.nd rfl (Or.inl rfl))
    (pss_cons (ps_set (i := 2) S_law.nd rfl (Or.inl rfl) (pe_c C_law_pool hr (by decide) rfl (pa_cons (pv 0) (pa_cons (pv 1) pa_nil))))
  (pss_cons (ps_set (i := 3) S_law.nd rfl (Or.inl rfl) (pe_c C_law_book hr (by decide) rfl (pa_cons (pv 2) (pa_cons pe_int (pa_cons pe_int pa_nil)))))
  (pss_cons (ps_par3 (i := 4) (j := 5) (l := 6) (by rfl) S_law.nd rfl rfl rfl (by decide) (by decide) (by decide) rfl rfl rfl (pa_cons (pe_c C_law_pick hr (by decide) rfl (pa_cons (pv 2) (pa_cons (pe_dget (hu_of hr) (pv 3) pe_str (fun _ _ => rfl)) pa_nil))) (pa_cons (pe_c C_law_made_book hr (by decide) rfl (pa_cons (pv 3) pa_nil)) (pa_cons (pe_c C_law_state hr (by decide) rfl (pa_cons (pv 2) (pa_cons (pv 3) pa_nil))) pa_nil))) (by rfl))
  (pss_cons (ps_asg (pe_tup (pa_cons (pe_mk K_Index hr (by decide) rfl (pa_cons (pv 5) (pa_cons (pe_dget (hu_of hr) (pv 4) pe_str (fun _ _ => rfl)) (pa_cons (pv 6) pa_nil)))) (pa_cons (pe_c C_law_entries hr (by decide) rfl (pa_cons (pv 3) (pa_cons (pv 4) (pa_cons (pv 6) pa_nil)))) pa_nil))) (pg_tup (by rfl) (pgs_cons (pg_name (i := 7) S_law.nd rfl (Or.inl rfl)) (pgs_cons (pg_name (i := 8) S_law.nd rfl (Or.inr rfl)) pgs_nil))))
  (pss_cons (ps_if (PW.pt (pw_or (pt_cmpR (op_neOwn M_Book_eq (hr.mono (by decide)) T.i_Book.hm T.ne_Book) (pe_fld (pv 7) rfl) (pv 5) (nomark _)) (pw_or (pt_cmpR op_ne (pe_fld (pv 7) rfl) (pe_dget (hu_of hr) (pv 4) pe_str (fun _ _ => rfl)) (nomark _)) (pw_or1 (pt_cmpR op_ne (pe_callB (call_lenO M_Index_len (hr.mono (by decide))) (by rfl) T.f_len v_len (pa_cons (pv 7) pa_nil)) (pe_ix ix_list (pe_lst (pa_cons pe_int (pa_cons pe_int (pa_cons pe_int pa_nil)))) (pe_dget (hu_of hr) (pv 4) pe_str (fun _ _ => rfl)) (fun _ _ => rfl)) (nomark _)))))) (pss_one (ps_ret pe_bl)) pss_nil)
  (pss_cons (ps_for PassesOwn.never rfl (pi_range1 (by rfl) T.f_range (pa_cons pe_int pa_nil)) (pg_name (i := 9) S_law.nd rfl (Or.inl rfl))
    (pss_cons (ps_set (i := 10) S_law.nd rfl (Or.inl rfl) (pe_c C_law_state hr (by decide) rfl (pa_cons (pv 2) (pa_cons (pv 3) pa_nil))))
  (pss_cons (ps_set (i := 11) S_law.nd rfl (Or.inr rfl) (pe_c C_law_entries hr (by decide) rfl (pa_cons (pv 3) (pa_cons (pv 4) (pa_cons (pv 10) pa_nil)))))
  (pss_cons (ps_if (PW.pt (pw_or (pt_cmpR (op_neT (hu_of hr)) (pe_mt0 M_Index_entries hr (by decide) (pv 7)) (pv 8) (nomark _)) (pw_or1 (pt_cmpR (op_neD (hu64 hr)) (pe_callTy (call_list_dT rfl) (by rfl) T.f_list v_list (pa_cons (pe_mt0 M_Index_entries hr (by decide) (pv 7)) pa_nil)) (pe_c C_law_tuples hr (by decide) rfl (pa_cons (pe_dget (hu_of hr) (pv 4) pe_str (fun _ _ => rfl)) pa_nil)) (nomark _))))) (pss_one (ps_ret pe_bl)) pss_nil)
  (pss_cons (ps_for PassesOwn.never rfl (pi_range1 (by rfl) T.f_range (pa_cons pe_int pa_nil)) (pg_name (i := 12) S_law.nd rfl (Or.inr rfl))
    (pss_one (ps_if (pt_cmpR (op_neD (hu64 hr)) (pe_mt M_Index_find hr (by decide) (pv 7) (pa_cons (pv 12) pa_nil)) (pe_lock (pe_lc (own := [("_law_values", 13)]) (by rfl) S_law.nd  (pi_keys (pv 8)) (blkOk_by (own := [("_law_values", 13)]) (N := N_law) (sc := d_law.scope) (by decide +kernel)) (fun _ _ _ _ _ => (pg_name (i := 13) S_law.nd rfl (Or.inl rfl))) (fun _ _ _ _ _ => (pts_one (pt_cmpR op_eq (pe_dget (hu_of hr) (pv 8) (pv 13) (fun _ _ => rfl)) (pv 12) (nomark _)))) (fun _ _ _ _ _ => (pv 13)))) (nomark _)) (pss_one (ps_ret pe_bl)) pss_nil)))
  (pss_cons (ps_if (pt_cmpR (op_neD (hu64 hr)) (pe_mt M_Index_wrong hr (by decide) (pv 7) (pa_cons (pv 10) pa_nil)) (pe_lock (pe_lc (own := [("_law_values", 13)]) (by rfl) S_law.nd  (pi_keys (pv 8)) (blkOk_by (own := [("_law_values", 13)]) (N := N_law) (sc := d_law.scope) (by decide +kernel)) (fun _ _ _ _ _ => (pg_name (i := 13) S_law.nd rfl (Or.inl rfl))) (fun _ _ _ _ _ => (pts_one (pt_cmpR op_ne (pe_dget (hu_of hr) (pv 8) (pv 13) (fun _ _ => rfl)) (pe_dget (hu_of hr) (pv 11) (pv 13) (fun _ _ => rfl)) (nomark _)))) (fun _ _ _ _ _ => (pv 13)))) (nomark _)) (pss_one (ps_ret pe_bl)) pss_nil)
  (pss_cons (ps_if (pt_cmpR op_ne (pe_cmpR (op_eqOwn M_Index_eq (hr.mono (by decide))) (pe_mk K_Index hr (by decide) rfl (pa_cons (pv 5) (pa_cons (pe_dget (hu_of hr) (pv 4) pe_str (fun _ _ => rfl)) (pa_cons (pv 10) pa_nil)))) (pv 7) (nomark _)) (pe_cmpR (op_eqT (hu_of hr)) (pv 11) (pv 8) (nomark _)) (nomark _)) (pss_one (ps_ret pe_bl)) pss_nil)
  (pss_cons (ps_set (i := 13) S_law.nd rfl (Or.inl rfl) (pe_c C_law_pick hr (by decide) rfl (pa_cons (pv 2) (pa_cons (pe_c C_law_tuples hr (by decide) rfl (pa_cons (pe_dget (hu_of hr) (pv 4) pe_str (fun _ _ => rfl)) pa_nil)) pa_nil))))
  (pss_cons (ps_if (pt_cmpR op_notN (pe_mt M_Index_rewrite hr (by decide) (pv 7) (pa_cons (pv 13) (pa_cons (pv 10) pa_nil))) pe_non (nomark _)) (pss_one (ps_ret pe_bl)) pss_nil)
  (pss_cons (ps_dput (hu_of hr) (pv 8) (pv 13) (pe_dget (hu_of hr) (pv 11) (pv 13) (fun _ _ => rfl)) rfl)
  (pss_cons (ps_if (pt_cmpR op_ne (pe_ixO M_Index_getitem (hr.mono (by decide)) (fun _ e => SC.sub_fn T.sub_Index T.me_Index_getitem e) (pv 7) (pv 13) (fun _ _ => rfl)) (pe_dget (hu_of hr) (pv 8) (pv 13) (fun _ _ => rfl)) (nomark _)) (pss_one (ps_ret pe_bl)) pss_nil)
  (pss_cons (ps_set (i := 14) S_law.nd rfl (Or.inl rfl) (pe_mt0 M_Index_entries hr (by decide) (pv 7)))
  (pss_cons (ps_dput (hu_of hr) (pv 14) (pv 13) pe_int rfl)
  (pss_one (ps_expr (pe_bm PySem.F.plainAttrs_list PySem.F.slot_list_append PySem.F.type_list_append mt_append (pe_mt M_Index_find hr (by decide) (pv 7) (pa_cons pe_int pa_nil)) (pa_cons pe_non pa_nil)))))))))))))))))
  (pss_one (ps_if (pt_cmpR (op_eqOwn M_Index_eq (hr.mono (by decide))) (pv 7) (pv 5) (nomark _)) (pss_one (ps_ret pe_bl)) pss_nil)))))))))
  (pss_one (ps_ret pe_bl))), ?_⟩
  have hJ := jr (ns.map V.int).length
  refine ⟨_, rfl, _, _, rfl, .inl ⟨_, hs, rfl⟩, _, _, rfl, _, _, rfl, _, rfl, by omega, by omega, ?_⟩
  refine for_it walk_range (fun i σ H1 => Same H H1 ∧ ∃ a1 a2 a3 a4 a5 a6 a7 a8 a9 a10 a11 a12 a13 a14, σ = [some (.ref l), a1, a2, a3, a4, a5, a6, a7, a8, a9, a10, a11, a12, a13, a14]) ⟨Same.refl _, _, _, _, _, _, _, _, _, _, _, _, _, _, _, rfl⟩ (fun _ _ _ _ _ => trivial) (fun i xx σ Ha Hb hi pv y1 => ?_) fun σ H1 pv => ?_
  rotate_left
  · obtain ⟨s1, a1, a2, a3, a4, a5, a6, a7, a8, a9, a10, a11, a12, a13, a14, rfl⟩ := pv
    exact q _
  obtain ⟨sH, a1, a2, a3, a4, a5, a6, a7, a8, a9, a10, a11, a12, a13, a14, rfl⟩ := pv
  obtain ⟨rfl, rfl⟩ := y1
  have hi3 : i ≤ 3 := by omega
  refine ⟨_, rfl, _, rfl, l, ns, i, by show [V.ref l, V.int (0 + (i : Int))] = [V.ref l, V.int (i : Int)]; rw [Int.zero_add], SqL_same sH hs, hi3, fun H2 p s2 hp hP => ?_⟩
  refine ⟨_, rfl, p, rfl, hP, fun H3 b B pl3 lb hB => ?_⟩
  obtain ⟨p1, q1, cs, fs, eb, e1, e2, pc, pf⟩ := id lb
  obtain ⟨pi, pj, hpp, _⟩ := id pl3.2.2
  have n2 : q1 ≠ p := ne_of e2 hpp (by intro z; injection z with z; exact refs_ne_pool z)
  have lf := Paired.length pf
  have f1 := hB.f1
  have f3 := hB.f3
  refine ⟨_, rfl, _, rfl, _, _, rfl, lb_fns eb, p, q1, _, rfl, pl3.2.2, e2, n2, by rw [List.length_map]; omega, by rw [List.length_map]; omega, fun H4 kk v pl4 ev => ?_⟩
  obtain ⟨g, eg, fa, rfl, hfa0⟩ := paired_get (paired_map V.ref pf) ev
  refine ⟨_, rfl, b, B, rfl, (pl4.keep (K := K)).lb lb, hB, fun H5 bk s5 hbk => ?_⟩
  have pl35 := pl4.sm s5
  refine ⟨_, rfl, _, rfl, p, b, B, rfl, (pl35.keep (K := K)).lb lb, pl35.2.2, hB.cn, hB.cl, fun H6 s0 st pl6 hs0 hst sv => ?_⟩
  refine ⟨_, _, _, rfl, ?_⟩
  have pl36 := pl35.trans pl6
  have lb6 := (pl36.keep (K := K)).lb lb
  have hfa6 := (pl36.keep (K := K)).lfn hfa0
  have hbk6 := (pl6.keep (K := K)).bk hbk
  obtain ⟨fr, fw, ef6, _⟩ := id hfa6
  have S6 : Same Hb H6 := But.same (pl3.trans pl36).1 s2 hp
  refine ⟨_, rfl, _, rfl, _, _, rfl, lf_name ef6, _, rfl, fun x dx hx hdx nx => ?_⟩
  have hx2 : upd H6 dx (.own x) x = none := by
    rw [upd_ne (Ne.symm nx)]
    exact hx
  have s67 : Same H6 (upd (upd H6 dx (.own x)) x (.ins (He.ga K "Index") dx [])) := (same_upd hdx).trans (same_upd hx2)
  refine ⟨x, dx, bk, s0, B, kk, g, st, H6, rfl, upd_same, s67, hx, ⟨hbk6, hB, eg⟩, hst, sv, fun H7 d s7 ix7 hd7 hd6 => ⟨rfl, ?_⟩⟩
  refine ⟨_, rfl, _, rfl, _, rfl, b, fa, s0, B, kk, g, st, rfl, (Same.keep (K := K) s7).lb lb6, hB, (Same.keep (K := K) s7).lfn hfa6, eg, s7 _ _ hst, sv, fun H8 dd s8 hdd8 h8 => ?_⟩
  refine ⟨small (by show 2 ≤ 1000000; decide), fun t ht => ?_⟩
  have s9 := same_upd (o := .tup [.ref x, .ref dd]) ht
  have s69 := s7.trans (s8.trans s9)
  have L0 : LS K Hb H6 (upd H8 t (.tup [.ref x, .ref dd])) p b fa bk x d dd B kk g (ents B g st) (ents B g st) :=
    ⟨S6.trans s69, hp, free_back S6 hx, free_back (S6.trans s7) hdd8, Same.keep s69, lb6, hfa6, hbk6, hx, hB, eg, Same.pool s69 pl6.2.2, (let ⟨y, e⟩ := ix7; ⟨y, s9 _ _ (s8 _ _ e)⟩), s9 _ _ (s8 _ _ hd7), s9 _ _ h8, ne_of_none hd7 hdd8, ents_keys _ _ _, ents_keys _ _ _⟩
  have m2 := L0.m2
  refine ⟨_, _, rfl, SqT.of upd_same, rfl, _, _, rfl, _, _, rfl, rfl, ?_⟩
  obtain ⟨dxx, eix⟩ := id L0.ix
  obtain ⟨dxb, _, _, _, _, ebk, _⟩ := id L0.bo.bk
  obtain ⟨fr0, fw0, ef0, _⟩ := L0.kf.lfn L0.hfn
  have tl0 := td_len m2 L0.kt
  refine ⟨_, rfl, _, _, _, _, _, rfl, eix, T.cls_Index, T.at_Index_book, rfl, _, rfl, bk, dxb, bk, _, dxb, _, _, rfl, rfl, ebk, ebk, nf_self, bk, B, rfl, L0.bo.bk, true, rfl, _, rfl, iteF ?_⟩
  refine ⟨_, rfl, _, _, _, _, _, rfl, eix, T.cls_Index, T.at_Index_name, rfl, _, rfl, _, _, rfl, lf_name ef0, rfl, _, rfl, neF rfl ?_⟩
  refine ⟨_, rfl, x, dxx, _, rfl, eix, x, bk, d, g.name, _, rfl, L0.ix, L0.hd, _, rfl, ⟨by omega, by omega⟩, small (by show 3 ≤ 1000000; decide), fun l9 hl9 => ?_⟩
  have s10 := same_upd (o := .lst [.int 1, .int 3, .int 9]) hl9
  refine ⟨_, rfl, _, _, rfl, lf_many (s10 _ _ ef0), _, _, _, _, rfl, rfl, SqL.of upd_same, at139 m2, rfl, _, rfl, neF (by rw [tl0.1]) ?_⟩
  have L1 := L0.sm s10
  refine ⟨5, rfl, by decide, by decide, ?_⟩
  refine for_it walk_range (fun i σ H1 => ∃ d td, LS K Hb H6 H1 p b fa bk x d dd B kk g td td ∧ ∃ a1 a6 a9 a10 a11 a12 a13 a14, σ = [some (.ref l), a1, some (.ref p), some (.ref b), some (.ref fa), some (.ref bk), a6, some (.ref x), some (.ref dd), a9, a10, a11, a12, a13, a14]) ⟨d, _, L1, _, _, _, _, _, _, _, _, rfl⟩ (fun _ _ _ _ _ => trivial) (fun i xx σ Hc H10 hi5 pv y1 => ?_) fun σ H10 pv => ?_
  rotate_left
  · obtain ⟨d, td, L, a1, a6, a9, a10, a11, a12, a13, a14, rfl⟩ := pv
    obtain ⟨dxx, eix⟩ := id L.ix
    obtain ⟨dxb, _, _, _, _, ebk, _⟩ := id L.bo.bk
    refine ⟨_, rfl, _, rfl, x, dxx, bk, _, dxb, _, _, rfl, rfl, eix, ebk, nf_book T.so_Book_Index, x, bk, bk, d, g.name, B, td, rfl, L.ix, L.bo.bk, L.hd, .inl ⟨rfl, false, rfl, _, rfl, iteF ?_⟩⟩
    exact ⟨sH.trans L.s0, _, _, _, _, _, _, _, _, _, _, _, _, _, _, rfl⟩
  obtain ⟨d, td, L, a1, a6, a9, a10, a11, a12, a13, a14, rfl⟩ := pv
  obtain ⟨rfl, rfl⟩ := y1
  have ndk : (td.map (·.1)).Nodup := by
    rw [L.kt]
    exact tups_nodup m2
  have l9 := (td_len m2 L.kt).2
  refine ⟨_, rfl, _, rfl, p, b, B, rfl, L.kf.lb L.hlb, L.pool, L.hB.cn, L.hB.cl, fun H11 s1 st1 pl11 hs1 hst1 sv1 => ?_⟩
  have L11 := L.pl pl11
  refine ⟨_, rfl, _, rfl, _, rfl, b, fa, s1, B, kk, g, st1, rfl, L11.kf.lb L11.hlb, hB, L11.kf.lfn L11.hfn, eg, hst1, sv1, fun H12 dn s12 hdn hn12 => ?_⟩
  have L12 := L11.sm s12
  obtain ⟨dx12, e12⟩ := id L12.ix
  refine ⟨_, rfl, x, dx12, _, rfl, e12, rfl, x, bk, d, g.name, td, g.many, rfl, L12.ix, L12.hd, L12.kt, m2, fun H13 pe s13 hpe he13 => ?_⟩
  have L13 := L12.sm s13
  refine ⟨_, rfl, pe, dd, tl td, tl td, rfl, rfl, he13, L13.hdd, rfl, _, rfl, neF rfl ?_⟩
  obtain ⟨dx13, e13⟩ := id L13.ix
  refine ⟨_, rfl, x, dx13, _, rfl, e13, rfl, x, bk, d, g.name, td, g.many, rfl, L13.ix, L13.hd, L13.kt, m2, fun H14 pe2 s14 hpe2 he14 => ?_⟩
  refine ⟨pe2, tdv td, rfl, .inl he14, fun lq bs hlq hks => ?_⟩
  have s15 := same_upd (o := .lst (bs.map V.ref)) hlq
  have L15 := (L13.sm s14).sm s15
  obtain ⟨fr15, fw15, ef15, _⟩ := L15.kf.lfn L15.hfn
  refine ⟨_, rfl, _, _, rfl, lf_many ef15, g.many, rfl, m2, fun H16 pt ys s16 h16 py16 => ?_⟩
  have ktu := keys_tu hks
  rw [L.kt] at ktu
  refine ne_pd (K := K) (dp_list (s16 _ _ upd_same) (Paired.mapP ktu fun _ _ h => (Same.keep0 (K := K) (s15.trans s16)).tu h)) (dp_list h16 py16) ⟨_, rfl, iteF ?_⟩
  have L16 := L15.sm s16
  have s1216 := (s13.trans (s14.trans (s15.trans s16)))
  refine ⟨3, rfl, by decide, by decide, ?_⟩
  refine for_it walk_range (fun v σ H1 => Same H16 H1 ∧ ∃ a12, σ = [some (.ref l), a1, some (.ref p), some (.ref b), some (.ref fa), some (.ref bk), a6, some (.ref x), some (.ref dd), some (.int (0 + (i : Int))), some (.ref s1), some (.ref dn), a12, a13, a14]) ⟨Same.refl _, _, rfl⟩ (fun _ _ _ _ _ => trivial) (fun v xx σ Hd H17 hv3 pv y1 => ?_) fun σ H17 pv => ?_
  · obtain ⟨s17, a12, rfl⟩ := pv
    obtain ⟨rfl, rfl⟩ := y1
    have L17 := L16.sm s17
    obtain ⟨dx17, e17⟩ := id L17.ix
    refine ⟨_, rfl, x, dx17, _, rfl, e17, rfl, _, rfl, x, bk, d, g.name, td, 0 + (v : Int), rfl, L17.ix, L17.hd, ndk, l9, by omega, by omega, fun H18 pf_ ys s18 hpf h18 py18 => ?_⟩
    have L18 := L17.sm s18
    have hdd := L18.hdd
    refine ⟨dd, _, hdd, trivial, fun od => ⟨_, rfl, dd, od, rfl, .inr ⟨_, upd_same, fun D hD => ?_⟩⟩⟩
    have nD : D ≠ dd := fun z => by rw [z, upd_same] at hD; cases hD
    refine lcR (K := K) walk_keysT hD (small (by rw [List.length_map, List.length_map]; omega)) TuAt (fun _ _ _ _ k h => k.tu h) (fun k => td[k]?.bind fun p => if decide (p.2 = 0 + (v : Int)) = true then some p.1 else none) (fun H2 s2 => s2 _ _ upd_same) (fun k y He H19 No Ye hk s2 y1 no ye => ?_) fun H19 zs s2 h2 r2 => ⟨s2 _ _ upd_same, ?_⟩
    · obtain ⟨rfl, kk_, vv, pa, ek, rfl, ha⟩ := y1
      obtain ⟨e, ep, rfl, rfl⟩ := tdv_at ek
      have gv := tget_mem ndk (List.mem_of_getElem? ep)
      have ha2 : H19 pa = some (.tup (e.1.map V.int)) := by
        rw [show e.1.map V.int = (kI e.1).map kV by unfold kI; rw [List.map_map]; rfl]
        exact ha
      have ev : valV (tdv td) (kI e.1) = some (.int e.2) := by rw [tget_kv, gv]; rfl
      have dg : DGet H19 dd (.ref pa) (some (.int e.2)) := .inr ⟨tdv td, kI e.1, pa, .inr ⟨od, s2 _ _ upd_same⟩, rfl, ha, ev.symm⟩
      refine ⟨rfl, _, rfl, _, rfl, _, _, rfl, dg, _, rfl, rfl, _, rfl, ?_⟩
      by_cases h : e.2 = 0 + (v : Int)
      · exact iteD (congrArg V.int h) ⟨_, rfl, ye e.1 (by rw [ep]; exact if_pos (decide_eq_true h)) _ _ (Same.refl _) ⟨pa, rfl, ha2⟩⟩
      · exact iteDN (fun z => h (by injection z)) (no (by rw [ep]; exact if_neg (by simpa using h)) _ (Same.refl _))
    · have s3 := lock_same hdd s2
      have k3 : Keep0 K H19 (upd H19 dd (.dT (tdv td))) := keep0_upd (s2 _ _ upd_same) frz_firm0
      have r3 := Paired.mapP r2 fun _ _ h => k3.tu h
      rw [List.length_map, List.length_map, fm_get] at r3
      refine ne_pd (K := K) (l := tsel (fun e => decide (e.2 = 0 + (v : Int))) td) (dp_list (s3 _ _ h18) (Paired.mapP py18 fun _ _ h => (Same.keep0 (K := K) s3).tu h)) (dp_list (by rw [upd_ne nD]; exact h2) r3) ⟨_, rfl, iteF ?_⟩
      exact ⟨(s17.trans s18).trans s3, _, rfl⟩
  obtain ⟨s17, a12, rfl⟩ := pv
  have L17 := L16.sm s17
  obtain ⟨dx17, e17⟩ := id L17.ix
  have hst17 := s17 _ _ (s1216 _ _ (s12 _ _ hst1))
  have hn17 := s17 _ _ (s1216 _ _ hn12)
  refine ⟨_, rfl, x, dx17, _, rfl, e17, rfl, _, rfl, x, bk, d, s1, B, kk, g, td, st1, rfl, L17.ix, L17.bo, L17.hd, L17.kt, hst17, sv1, fun H18 pw ys s18 hpw h18 py18 => ?_⟩
  have L18 := L17.sm s18
  have hdd := L18.hdd
  have hn18 := s18 _ _ hn17
  have nnd : dn ≠ dd := Ne.symm (ne_of_none L11.hdd hdn)
  refine ⟨dd, _, hdd, trivial, fun od => ⟨_, rfl, dd, od, rfl, .inr ⟨_, upd_same, fun D hD => ?_⟩⟩⟩
  have nD : D ≠ dd := fun z => by rw [z, upd_same] at hD; cases hD
  have hn18' : upd H18 dd (.frz od (.dT (tdv td))) dn = some (.dT (tdv (ents B g st1))) := by
    rw [upd_ne nnd]
    exact hn18
  refine lcR (K := K) walk_keysT hD (small (by rw [List.length_map, List.length_map]; omega)) TuAt (fun _ _ _ _ k h => k.tu h) (fun k => td[k]?.bind fun p => if (!decide (p.2 = ent B g st1 p.1)) = true then some p.1 else none) (fun H2 s2 => s2 _ _ upd_same) (fun k y He H19 No Ye hk s2 y1 no ye => ?_) fun H19 zs s2 h2 r2 => ⟨s2 _ _ upd_same, ?_⟩
  · obtain ⟨rfl, kk_, vv, pa, ek, rfl, ha⟩ := y1
    obtain ⟨e, ep, rfl, rfl⟩ := tdv_at ek
    have gv := tget_mem ndk (List.mem_of_getElem? ep)
    have ha2 : H19 pa = some (.tup (e.1.map V.int)) := by
      rw [show e.1.map V.int = (kI e.1).map kV by unfold kI; rw [List.map_map]; rfl]
      exact ha
    have he1 : e.1 ∈ tups g.many := by rw [← L.kt]; exact List.mem_map.mpr ⟨e, List.mem_of_getElem? ep, rfl⟩
    have ev : valV (tdv td) (kI e.1) = some (.int e.2) := by rw [tget_kv, gv]; rfl
    have dg : DGet H19 dd (.ref pa) (some (.int e.2)) := .inr ⟨tdv td, kI e.1, pa, .inr ⟨od, s2 _ _ upd_same⟩, rfl, ha, ev.symm⟩
    have dg2 := DGet.t (s2 _ _ hn18') (kI_tup ha2)
    rw [tget_kv, ent_get m2 he1] at dg2
    refine ⟨rfl, _, rfl, _, rfl, _, _, rfl, dg, _, rfl, _, rfl, _, _, rfl, dg2, rfl, _, rfl, ?_⟩
    by_cases h : e.2 = ent B g st1 e.1
    · exact neF (congrArg V.int h) (no (by rw [ep]; exact if_neg (by rw [decide_eq_true h]; decide)) _ (Same.refl _))
    · exact neT (fun z => h (by injection z)) ⟨_, rfl, ye e.1 (by rw [ep]; exact if_pos (by rw [decide_eq_false h]; rfl)) _ _ (Same.refl _) ⟨pa, rfl, ha2⟩⟩
  have s3 := lock_same hdd s2
  have k3 : Keep0 K H19 (upd H19 dd (.dT (tdv td))) := keep0_upd (s2 _ _ upd_same) frz_firm0
  have r3 := Paired.mapP r2 fun _ _ h => k3.tu h
  rw [List.length_map, List.length_map, fm_get] at r3
  refine ne_pd (K := K) (l := tsel (fun e => !decide (e.2 = ent B g st1 e.1)) td) (dp_list (s3 _ _ h18) (Paired.mapP py18 fun _ _ h => (Same.keep0 (K := K) s3).tu h)) (dp_list (by rw [upd_ne nD]; exact h2) r3) ⟨_, rfl, iteF ?_⟩
  have L20 := L18.sm s3
  have hst20 := s3 _ _ (s18 _ _ hst17)
  have hn20 := s3 _ _ hn18
  -- Index(..) == index, now == due
  obtain ⟨fr20, fw20, ef20, _⟩ := L20.kf.lfn L20.hfn
  refine ⟨_, rfl, _, rfl, _, _, rfl, lf_name ef20, _, rfl, fun x2 dx2 hx2' hdx2 nx2 => ?_⟩
  have hx3 : upd (upd H19 dd (.dT (tdv td))) dx2 (.own x2) x2 = none := by
    rw [upd_ne (Ne.symm nx2)]
    exact hx2'
  have s21 : Same (upd H19 dd (.dT (tdv td))) (upd (upd (upd H19 dd (.dT (tdv td))) dx2 (.own x2)) x2 (.ins (He.ga K "Index") dx2 [])) := (same_upd hdx2).trans (same_upd hx3)
  refine ⟨x2, dx2, bk, s1, B, kk, g, st1, _, rfl, upd_same, s21, hx2', L20.bo, hst20, sv1, fun H21 d2 s22 ix2 hd2 hd2n => ⟨rfl, ?_⟩⟩
  have L21 := L20.sm s22
  have hn21 := s22 _ _ hn20
  have hst21 := s22 _ _ hst20
  obtain ⟨dxa, exa⟩ := id ix2
  obtain ⟨dxc, exc⟩ := id L21.ix
  refine ⟨_, rfl, x2, dxa, x, _, dxc, _, _, rfl, rfl, exa, exc, nf_self, x2, x, bk, d2, g.name, B, ents B g st1, rfl, ix2, L21.bo.bk, hd2, .inr ⟨d, td, L21.ix, L21.hd, by rw [ents_keys, L21.kt], _, rfl, ?_⟩⟩
  refine ⟨_, rfl, _, rfl, dn, dd, tl (ents B g st1), tl td, rfl, rfl, hn21, L21.hdd, ?_, rfl, _, rfl, neF ?_ ?_⟩
  · have z : (ents B g st1).map (·.1) = td.map (·.1) := by rw [ents_keys, L21.kt]
    have z := congrArg (List.map kI) z
    rw [List.map_map, List.map_map] at z
    rw [List.map_map, List.map_map]
    exact z
  · refine congrArg V.bl ?_
    exact decide_eq_decide.mpr ⟨fun z => congrArg tl z, tl_inj⟩
  -- values = pick(pool, tuples)
  obtain ⟨fr21, fw21, ef21, _⟩ := L21.kf.lfn L21.hfn
  refine ⟨_, rfl, _, rfl, _, _, rfl, lf_many ef21, g.many, rfl, m2, fun H22 pt2 ys2 s23 h22 py22 => ?_⟩
  have L22 := L21.sm s23
  have ly2 := Paired.length py22
  have l2 := tups_len g.many
  have l3 : 0 < 3 ^ g.many := Nat.pow_pos (by decide)
  have l4 : 3 ^ g.many ≤ 3 ^ 2 := Nat.pow_le_pow_right (by decide) m2
  obtain ⟨qi, qj, hq, _⟩ := id L22.pool
  refine ⟨p, pt2, ys2, rfl, L22.pool, h22, ne_of h22 hq (by intro z; injection z with z; exact tus_ne py22 z), by omega, by omega, fun H23 kv vv pl23 evv => ?_⟩
  obtain ⟨r, er, pa, rfl, hpa⟩ := paired_get py22 evv
  have hrt := List.mem_of_getElem? er
  have L23 := L22.pl pl23
  have hpa23 := pl23.keep.tup (K := K) hpa
  have nsp : s1 ≠ p := by
    obtain ⟨qi2, qj2, hq2, _⟩ := id L11.pool
    exact ne_of hst1 hq2 (by intro z; cases z)
  have hst23 := pl23.at_ (s23 _ _ hst21) nsp
  have ndn : dn ≠ p := ne_of (s23 _ _ hn21) hq (by intro z; cases z)
  have hn23 := pl23.at_ (s23 _ _ hn21) ndn
  obtain ⟨dx23, e23⟩ := id L23.ix
  -- rewrite
  refine ⟨_, rfl, x, dx23, _, rfl, e23, rfl, _, rfl, _, rfl, x, bk, d, pa, s1, B, kk, g, r, td, st1, rfl, L23.ix, L23.bo, tups_ar hpa23 hrt, hrt, L23.hd, L23.kt, hst23, sv1, fun H24 d3 b24 ix24 hd24 hd3n => ?_⟩
  have hrk : r ∈ td.map (·.1) := by rw [L23.kt]; exact hrt
  have kt24 : (tput td r (ent B g st1 r)).map (·.1) = tups g.many := by rw [tput_keys hrk]; exact L23.kt
  have L24 := L23.rew b24 ix24 hd24 hd3n kt24
  refine ⟨rfl, _, rfl, neF rfl ?_⟩
  have hpa24 := b24 _ _ hpa23 (ne_of hpa23 e23 (by intro z; cases z))
  have hn24 := b24 _ _ hn23 (ne_of hn23 e23 (by intro z; cases z))
  -- due[values] = now[values]
  have dg3 := DGet.t hn24 (kI_tup hpa24)
  rw [tget_kv, ent_get m2 hrt] at dg3
  refine ⟨_, rfl, _, rfl, _, _, rfl, dg3, _, rfl, _, rfl, dd, _, rfl, DPut.t L24.hdd (kI_tup hpa24) (small' (by rw [List.length_map, List.length_map]; omega)), ?_⟩
  rw [tput_kv]
  have L25 := L24.put kt24
  have hpa25 : upd H24 dd (.dT (tdv (tput td r (ent B g st1 r)))) pa = some (.tup (r.map V.int)) := by
    rw [upd_ne (ne_of hpa24 L24.hdd (by intro z; cases z))]
    exact hpa24
  obtain ⟨dx25, e25⟩ := id L25.ix
  -- index[values] != due[values]
  refine ⟨_, rfl, _, rfl, x, dx25, _, rfl, e25, x, bk, d3, pa, B, kk, g, r, _, _, rfl, L25.ix, L25.bo, tups_ar hpa25 hrt, L25.hd, tput_get, fun H26 s26 => ?_⟩
  have L26 := L25.sm s26
  have hpa26 := s26 _ _ hpa25
  have dg4 := DGet.t L26.hdd (kI_tup hpa26)
  rw [tget_kv, tput_get] at dg4
  refine ⟨_, rfl, _, rfl, _, _, rfl, dg4, rfl, _, rfl, neF rfl ?_⟩
  -- spoilt
  obtain ⟨dx26, e26⟩ := id L26.ix
  refine ⟨_, rfl, x, dx26, _, rfl, e26, rfl, x, bk, d3, g.name, _, g.many, rfl, L26.ix, L26.hd, L26.kt, m2, fun H27 sp s27 hsp he27 => ?_⟩
  have l9' := (td_len m2 kt24).2
  refine ⟨_, rfl, _, rfl, sp, _, rfl, DPut.t he27 (kI_tup (s27 _ _ hpa26)) (small' (by rw [List.length_map, List.length_map]; omega)), ?_⟩
  have s28 : Same H26 (upd H27 sp (.dT (putK (tdv (tput td r (ent B g st1 r))) (kI r) (.int 5)))) := Same.of_upd s27 hsp
  have L28 := L26.sm s28
  obtain ⟨dx28, e28⟩ := id L28.ix
  have ndk' : ((tput td r (ent B g st1 r)).map (·.1)).Nodup := by
    rw [kt24]
    exact tups_nodup m2
  -- find(0).append(None)
  refine ⟨_, rfl, x, dx28, _, rfl, e28, rfl, x, bk, d3, g.name, _, 0, rfl, L28.ix, L28.hd, ndk', l9', by decide, by decide, fun H29 pf ys3 s29 hpf h29 py29 => ?_⟩
  have ly3 := Paired.length py29
  have ls3 := List.length_filterMap_le (fun p : List Int × Int => if decide (p.2 = 0) = true then some p.1 else none) (tput td r (ent B g st1 r))
  have ls4 : ys3.length ≤ 9 := by
    rw [ly3]
    exact Nat.le_trans ls3 l9'
  refine ⟨.inl ⟨rfl, _, SqL.of h29⟩, pf, ys3, _, rfl, rfl, h29, small' (by omega), ?_⟩
  exact ⟨d3, _, L28.sm (Same.of_upd s29 hpf), _, _, _, _, _, _, _, _, rfl⟩
end
end SC

set_option Elab.async false
set_option linter.all false
set_option maxRecDepth 100000
set_option maxHeartbeats 0
namespace SC
open PySem PySem.Spec PyProof.Rows L2
abbrev R : PySem.W.OpenRow := PySem.W.OpenLaw.row PySem.Challenge.rw_steadycalls_k57_whole_indexes
def nm0 : List PySem.Str := ["_wall", "StoreError", "BadLabel", "BadCell", "BadPart", "BadTerm", "BadFunction", "BadState", "BadArguments", "BadTick", "UnknownName", "TooMany", "LETTERS", "MOST_LETTERS", "MOST_VALUE", "VALUES", "is_integer", "is_between", "is_value", "is_name", "has_kind", "tuples_of", "KINDS", "Cell", "check_state", "checked_arguments", "Scene", "run_alone", "MOST_PARTS", "MOST_DEPTH"]
def nm1 : List PySem.Str := ["MOST_ARGUMENTS", "PAIRS", "inner_terms", "has_form", "is_term", "leaves", "names_with", "cells_in", "calls_in", "LABELS", "is_label_name", "Label", "made_label", "Index", "MOST_WRITES", "MOST_COST", "are_writes", "Function", "MOST_CELLS", "MOST_FUNCTIONS", "checked_cells", "fits", "checked_functions", "Book", "_law_pool", "_law_draw", "_law_pick", "_law_names", "_law_term", "_law_writes"]
def nm2 : List PySem.Str := ["_law_book", "_law_made_book", "_law_state", "_law_found", "_law_ran", "_law_called", "_law_worked", "_law_tuples", "_law_entries"]
def names : List PySem.Str := nm0 ++ nm1 ++ nm2
abbrev hk : PySem.W.Hook := He.hookX 4 fa fn [] [] ex
def ob (s : PySem.W.SharedT) : He.AlX := He.obsX 4 fa fn [] [] ex (HandSHeadRun.getT s)
theorem ob_eq (s : PySem.W.SharedT) : ob s = hk.obs s.abs := He.obsX_eq (HandSHeadRun.getT_eq s)
end SC
namespace SC
open PySem PySem.W PySem.Calls PyProof.Rows HandSHeadRun
noncomputable abbrev eF (w : World) (os : OsState) : Option SharedT := endF (stepQ (denQ tabQ) SC.R.prog w) 9000 SC.R.prog w os
theorem run1 (w : World) : ∀ os : OsState, (eF w os).map (fun s => looksF SC.R.prog (boot_heap w.params) s.abs) = some true := by
  intro os
  kernel_rfl
theorem run2 (w : World) : ∀ os : OsState, (eF w os).map (fun s => seenQ (view SC.R.prog [79]) SC.names (importedModules SC.R.prog.main.body) (fun s => xlAt (view SC.R.prog [79]) [] s && recOk SC.R.toRowW.records s) s.abs) = some (openGood (view SC.R.prog [79]) SC.names) := by
  intro os
  kernel_rfl
theorem run3 (w : World) : ∀ os : OsState, (eF w os).map (fun s => (SC.ob s).1.1.1) = some true := by
  intro os
  kernel_rfl
theorem run4 (w : World) : ∀ os : OsState, (eF w os).map (fun s => (SC.ob s).1.1.2) = some (fn.map He.DefD.val) := by
  intro os
  kernel_rfl
theorem run5 (w : World) : ∀ os : OsState, (eF w os).map (fun s => (SC.ob s).2) = some true := by
  intro os
  kernel_rfl
theorem join5 {o : Option SharedT} {β : Type} {f1 : SharedT → Bool} {f2 : SharedT → β} {b : β} (h1 : o.map f1 = some true) (h2 : o.map f2 = some b) (h3 : o.map (fun s => (SC.ob s).1.1.1) = some true) (h4 : o.map (fun s => (SC.ob s).1.1.2) = some (fn.map He.DefD.val)) (h5 : o.map (fun s => (SC.ob s).2) = some true) (w : World) :
    o.map (fun s => (f1 s, f2 s, SC.ob s)) = some (true, b, SC.hk.val w) := by
  cases o with
  | none => cases h1
  | some s =>
    have e1 : f1 s = true := Option.some.inj h1
    have e2 : f2 s = b := Option.some.inj h2
    have e3 : (SC.ob s).1.1.1 = true := Option.some.inj h3
    have e4 : (SC.ob s).1.1.2 = fn.map He.DefD.val := Option.some.inj h4
    have e5 : (SC.ob s).2 = true := Option.some.inj h5
    have e6 : (SC.ob s).1.2 = [] := rfl
    have e : SC.ob s = SC.hk.val w := by
      show SC.ob s = (((true, fn.map He.DefD.val), []), true)
      exact Prod.ext (Prod.ext (Prod.ext e3 e4) e6) e5
    show some (f1 s, f2 s, SC.ob s) = _
    rw [e1, e2, e]
    try rfl
theorem runAll (w : World) : RunEq SC.R (view SC.R.prog [79]) SC.hk SC.ob 9000 SC.names w := fun os => join5 (run1 w os) (run2 w os) (run3 w os) (run4 w os) (run5 w os) w
end SC
namespace SC
open PySem PySem.Spec PyProof.Rows L2
theorem facts {P : Program} {w : World} {K : PySem.W.Frag} {h : Heap} {mg : Str → Option Value} {f : Addr} (X : K.In h) (G : h.Ns mainGlobals mg) (hfa : mg ("law" : Str) = some (.ref f)) (c : He.SaysX fa fn [] [] ex w h K) :
    ∃ fd : FuncData, (∀ (s : Shared) (v : Value), BindsTo s fd ⟨[v], []⟩ [("_law_script", v)]) ∧ ∀ base : Heap, K.In base → base.Ns mainGlobals mg → FnOk P w K mg base CX0 14 f fd ["_law_script"] (spLaw K) := by
  have T : TX K mg := ⟨⟨h, X, G⟩, congrArg (fun z : He.AlT => z.1) c.t, c.more⟩
  obtain ⟨fd, F⟩ := T.d_law
  have e := hfa.symm.trans T.g_law
  injection e with e
  injection e with e
  subst e
  have b := FunD.bindsA (ps := ["_law_script"]) F fun _ _ _ _ _ _ us hl => match us, hl with | [_], _ => rfl
  exact ⟨fd, fun s v => b s [v] rfl, fun base _ _ => W_law T F⟩
end SC
open PySem PySem.W PySem.Calls PyProof.Rows
theorem PySem.Challenge.cw_steadycalls_k57_whole_indexes_holds : PySem.Challenge.rw_steadycalls_k57_whole_indexes.Holds := by
  w_on; o_law
  refine HandSHeadRun.head_any (r := OpenLaw.row PySem.Challenge.rw_steadycalls_k57_whole_indexes) (q := view (OpenLaw.row PySem.Challenge.rw_steadycalls_k57_whole_indexes).prog [79]) (H := SC.hk) (ob := SC.ob) (M := 9000) (loose := SC.names) (d := HandSHeadRun.topDef (OpenLaw.row PySem.Challenge.rw_steadycalls_k57_whole_indexes).prog 79) (kwd := []) SC.ob_eq
    (by kernel_rfl) (fun s => by kernel_rfl) SC.runAll (by kernel_rfl) (by kernel_rfl) (by kernel_rfl) (by rfl) (by first | assumption | decide +kernel) (by decide +kernel) ⟨rfl, rfl, rfl, rfl, rfl, by decide +kernel⟩ ?hw ?hc
  case hw => w_witness2
  case hc =>
    refine L2.walk_ofE (l := PySem.Challenge.rw_steadycalls_k57_whole_indexes) (n := 63) (k := 14) (x := "_law_script") (CX := L2.CX0) rfl (by decide) (by kernel_rfl) ⟨rfl, by decide, by decide⟩ ?F (fun _ _ _ _ z => z)
    intro w mg fa h Y G hmg0
    obtain ⟨K, KX, c⟩ := Y
    have hmg : mg ("law" : PySem.Str) = some (.ref fa) := by
      have e : (HandSHeadRun.topDef (OpenLaw.row PySem.Challenge.rw_steadycalls_k57_whole_indexes).prog 79).name = ("law" : PySem.Str) := by kernel_rfl
      rw [← e]
      exact hmg0
    obtain ⟨fd, hb, hF⟩ := SC.facts (P := (PySem.Challenge.rw_steadycalls_k57_whole_indexes).prog) (w := w) KX G hmg c
    exact ⟨K, fd, SC.spLaw K, KX, hb, fun H a ns hl _ hS => ⟨a, ns, rfl, hS, fun _ => rfl⟩, hF⟩

