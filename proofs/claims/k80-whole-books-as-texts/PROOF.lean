import PyProof.Rows.All
import Wide.All
import OpenK.AllK
import Wide.FinOn
import KE.KStateDown
import Lean
import HandS.ForMost
import HandS.OwnEq
import HandS.Star
import HandS.Defaults
import HandS.MakeKwOnly
import HandS.FStr
import HandS.IsInst
import HandS.DictComp
import HandS.Style
import HandS.NoneIn
import HandS.More
import HandS.Codes
import HandS.RaiseMore
import HandS.Strs
import HandS.Small
import HandS.Walk
import HandS.Head0
import HandS.Head1
import HandS.Head2
import HandS.HeadEnd
import HandS.HeadHook1
import HandS.HeadHook2
import PySem.Challenge.RW_steadycalls_k80_whole_books_as_texts
set_option Elab.async false
set_option linter.all false
set_option maxRecDepth 100000
namespace K80
open PySem PySem.Spec PyProof.Rows L2
/-! ### the text by places -/
def top (i : Nat) : Stmt := PySem.Challenge.pw_steadycalls_k80_whole_books_as_texts.main.body.getD i (.Pass ⟨0, 0, 0, 0⟩)
abbrev s_is_integer : Stmt := top 15
abbrev s_is_between : Stmt := top 16
abbrev s_is_value : Stmt := top 17
abbrev s_is_name : Stmt := top 18
abbrev s_has_kind : Stmt := top 19
abbrev s_Cell_init : Stmt := inClass (top 22) 0
abbrev s_Cell_eq : Stmt := inClass (top 22) 1
abbrev s_is_label_name : Stmt := top 25
abbrev s_Label_init : Stmt := inClass (top 26) 0
abbrev s_made_label : Stmt := top 27
abbrev s_inner_terms : Stmt := top 33
abbrev s_has_form : Stmt := top 34
abbrev s_is_term : Stmt := top 35
abbrev s_leaves : Stmt := top 36
abbrev s_names_with : Stmt := top 37
abbrev s_cells_in : Stmt := top 38
abbrev s_are_writes : Stmt := top 42
abbrev s_Function_init : Stmt := inClass (top 43) 0
abbrev s_Function_eq : Stmt := inClass (top 43) 1
abbrev s_Function_parts : Stmt := inClass (top 43) 2
abbrev s_checked_cells : Stmt := top 47
abbrev s_fits : Stmt := top 48
abbrev s_checked_functions : Stmt := top 49
abbrev s_Book_init : Stmt := inClass (top 50) 0
abbrev s_Book_getitem : Stmt := inClass (top 50) 4
abbrev s_Book_eq : Stmt := inClass (top 50) 5
abbrev s_Book_all_cells : Stmt := inClass (top 50) 6
abbrev s_Book_names : Stmt := inClass (top 50) 7
abbrev s_write_term : Stmt := top 54
abbrev s_function_rows : Stmt := top 55
abbrev s_write_book : Stmt := top 56
abbrev s_Words_init : Stmt := inClass (top 57) 0
abbrev s_Words_pull : Stmt := inClass (top 57) 1
abbrev s_Words_pull_figure : Stmt := inClass (top 57) 3
abbrev s_Words_pull_name : Stmt := inClass (top 57) 4
abbrev s_Words_is_done : Stmt := inClass (top 57) 5
abbrev s_pulled_term : Stmt := top 58
abbrev s_term_in : Stmt := top 59
abbrev s_rows_in : Stmt := top 60
abbrev s_cell_in : Stmt := top 61
abbrev s_is_cost : Stmt := top 62
abbrev s_is_head : Stmt := top 63
abbrev s_write_in : Stmt := top 64
abbrev s_function_at : Stmt := top 65
abbrev s_read_book : Stmt := top 66
abbrev s__law_pool : Stmt := top 68
abbrev s__law_draw : Stmt := top 69
abbrev s__law_pick : Stmt := top 70
abbrev s__law_names : Stmt := top 71
abbrev s__law_term : Stmt := top 72
abbrev s__law_writes : Stmt := top 73
abbrev s__law_book : Stmt := top 74
abbrev s__law_made_book : Stmt := top 75
abbrev s__law_term_text : Stmt := top 76
abbrev s__law_book_text : Stmt := top 77
abbrev s_law : Stmt := top 78
/-! ### scopes, binding -/
abbrev n_is_integer : List Str := ["value"]
theorem sc_is_integer : FnScope n_is_integer ["value"] (defScope s_is_integer) := ⟨rfl, rfl, rfl, by decide +kernel, rfl, by decide +kernel, by decide +kernel⟩
theorem b_is_integer (kV doc pm : Value) (an : Option Addr) (cdv ct : Value) : ∀ (us : List Value), us.length = (["value"] : List Str).length → bindArgs (PySem.W.fnOf "is_integer" "is_integer" (defArgs s_is_integer) (defBody s_is_integer) (defScope s_is_integer) .none kV doc pm an cdv ct) ⟨us, []⟩ = pure ((["value"] : List Str).zip us)
  | [_], _ => rfl
abbrev n_is_between : List Str := ["value", "least", "most"]
theorem sc_is_between : FnScope n_is_between ["value", "least", "most"] (defScope s_is_between) := ⟨rfl, rfl, rfl, by decide +kernel, rfl, by decide +kernel, by decide +kernel⟩
theorem b_is_between (kV doc pm : Value) (an : Option Addr) (cdv ct : Value) : ∀ (us : List Value), us.length = (["value", "least", "most"] : List Str).length → bindArgs (PySem.W.fnOf "is_between" "is_between" (defArgs s_is_between) (defBody s_is_between) (defScope s_is_between) .none kV doc pm an cdv ct) ⟨us, []⟩ = pure ((["value", "least", "most"] : List Str).zip us)
  | [_, _, _], _ => rfl
abbrev n_is_value : List Str := ["value"]
theorem sc_is_value : FnScope n_is_value ["value"] (defScope s_is_value) := ⟨rfl, rfl, rfl, by decide +kernel, rfl, by decide +kernel, by decide +kernel⟩
theorem b_is_value (kV doc pm : Value) (an : Option Addr) (cdv ct : Value) : ∀ (us : List Value), us.length = (["value"] : List Str).length → bindArgs (PySem.W.fnOf "is_value" "is_value" (defArgs s_is_value) (defBody s_is_value) (defScope s_is_value) .none kV doc pm an cdv ct) ⟨us, []⟩ = pure ((["value"] : List Str).zip us)
  | [_], _ => rfl
abbrev n_is_name : List Str := ["value", "sign"]
theorem sc_is_name : FnScope n_is_name ["value"] (defScope s_is_name) := ⟨rfl, rfl, rfl, by decide +kernel, rfl, by decide +kernel, by decide +kernel⟩
theorem b_is_name (kV doc pm : Value) (an : Option Addr) (cdv ct : Value) : ∀ (us : List Value), us.length = (["value"] : List Str).length → bindArgs (PySem.W.fnOf "is_name" "is_name" (defArgs s_is_name) (defBody s_is_name) (defScope s_is_name) .none kV doc pm an cdv ct) ⟨us, []⟩ = pure ((["value"] : List Str).zip us)
  | [_], _ => rfl
abbrev n_has_kind : List Str := ["value", "kind", "many"]
theorem sc_has_kind : FnScope n_has_kind ["value", "kind", "many"] (defScope s_has_kind) := ⟨rfl, rfl, rfl, by decide +kernel, rfl, by decide +kernel, by decide +kernel⟩
theorem b_has_kind (kV doc pm : Value) (an : Option Addr) (cdv ct : Value) : ∀ (us : List Value), us.length = (["value", "kind", "many"] : List Str).length → bindArgs (PySem.W.fnOf "has_kind" "has_kind" (defArgs s_has_kind) (defBody s_has_kind) (defScope s_has_kind) .none kV doc pm an cdv ct) ⟨us, []⟩ = pure ((["value", "kind", "many"] : List Str).zip us)
  | [_, _, _], _ => rfl
abbrev n_Cell_init : List Str := ["self", "name", "kind"]
theorem sc_Cell_init : FnScope n_Cell_init ["self", "name", "kind"] (defScope s_Cell_init) := ⟨rfl, rfl, rfl, by decide +kernel, rfl, by decide +kernel, by decide +kernel⟩
theorem b_Cell_init (kV doc pm : Value) (an : Option Addr) (cdv ct : Value) : ∀ (us : List Value), us.length = (["self", "name", "kind"] : List Str).length → bindArgs (PySem.W.fnOf "__init__" "Cell.__init__" (defArgs s_Cell_init) (defBody s_Cell_init) (defScope s_Cell_init) .none kV doc pm an cdv ct) ⟨us, []⟩ = pure ((["self", "name", "kind"] : List Str).zip us)
  | [_, _, _], _ => rfl
abbrev n_Cell_eq : List Str := ["self", "other"]
theorem sc_Cell_eq : FnScope n_Cell_eq ["self", "other"] (defScope s_Cell_eq) := ⟨rfl, rfl, rfl, by decide +kernel, rfl, by decide +kernel, by decide +kernel⟩
theorem b_Cell_eq (kV doc pm : Value) (an : Option Addr) (cdv ct : Value) : ∀ (us : List Value), us.length = (["self", "other"] : List Str).length → bindArgs (PySem.W.fnOf "__eq__" "Cell.__eq__" (defArgs s_Cell_eq) (defBody s_Cell_eq) (defScope s_Cell_eq) .none kV doc pm an cdv ct) ⟨us, []⟩ = pure ((["self", "other"] : List Str).zip us)
  | [_, _], _ => rfl
abbrev n_is_label_name : List Str := ["value"]
theorem sc_is_label_name : FnScope n_is_label_name ["value"] (defScope s_is_label_name) := ⟨rfl, rfl, rfl, by decide +kernel, rfl, by decide +kernel, by decide +kernel⟩
theorem b_is_label_name (kV doc pm : Value) (an : Option Addr) (cdv ct : Value) : ∀ (us : List Value), us.length = (["value"] : List Str).length → bindArgs (PySem.W.fnOf "is_label_name" "is_label_name" (defArgs s_is_label_name) (defBody s_is_label_name) (defScope s_is_label_name) .none kV doc pm an cdv ct) ⟨us, []⟩ = pure ((["value"] : List Str).zip us)
  | [_], _ => rfl
abbrev n_Label_init : List Str := ["self", "name"]
theorem sc_Label_init : FnScope n_Label_init ["self", "name"] (defScope s_Label_init) := ⟨rfl, rfl, rfl, by decide +kernel, rfl, by decide +kernel, by decide +kernel⟩
theorem b_Label_init (kV doc pm : Value) (an : Option Addr) (cdv ct : Value) : ∀ (us : List Value), us.length = (["self", "name"] : List Str).length → bindArgs (PySem.W.fnOf "__init__" "Label.__init__" (defArgs s_Label_init) (defBody s_Label_init) (defScope s_Label_init) .none kV doc pm an cdv ct) ⟨us, []⟩ = pure ((["self", "name"] : List Str).zip us)
  | [_, _], _ => rfl
abbrev n_made_label : List Str := ["value"]
theorem sc_made_label : FnScope n_made_label ["value"] (defScope s_made_label) := ⟨rfl, rfl, rfl, by decide +kernel, rfl, by decide +kernel, by decide +kernel⟩
theorem b_made_label (kV doc pm : Value) (an : Option Addr) (cdv ct : Value) : ∀ (us : List Value), us.length = (["value"] : List Str).length → bindArgs (PySem.W.fnOf "made_label" "made_label" (defArgs s_made_label) (defBody s_made_label) (defScope s_made_label) .none kV doc pm an cdv ct) ⟨us, []⟩ = pure ((["value"] : List Str).zip us)
  | [_], _ => rfl
abbrev n_inner_terms : List Str := ["term"]
theorem sc_inner_terms : FnScope n_inner_terms ["term"] (defScope s_inner_terms) := ⟨rfl, rfl, rfl, by decide +kernel, rfl, by decide +kernel, by decide +kernel⟩
theorem b_inner_terms (kV doc pm : Value) (an : Option Addr) (cdv ct : Value) : ∀ (us : List Value), us.length = (["term"] : List Str).length → bindArgs (PySem.W.fnOf "inner_terms" "inner_terms" (defArgs s_inner_terms) (defBody s_inner_terms) (defScope s_inner_terms) .none kV doc pm an cdv ct) ⟨us, []⟩ = pure ((["term"] : List Str).zip us)
  | [_], _ => rfl
abbrev n_has_form : List Str := ["value", "arguments", "kind"]
theorem sc_has_form : FnScope n_has_form ["value", "arguments"] (defScope s_has_form) := ⟨rfl, rfl, rfl, by decide +kernel, rfl, by decide +kernel, by decide +kernel⟩
theorem b_has_form (kV doc pm : Value) (an : Option Addr) (cdv ct : Value) : ∀ (us : List Value), us.length = (["value", "arguments"] : List Str).length → bindArgs (PySem.W.fnOf "has_form" "has_form" (defArgs s_has_form) (defBody s_has_form) (defScope s_has_form) .none kV doc pm an cdv ct) ⟨us, []⟩ = pure ((["value", "arguments"] : List Str).zip us)
  | [_, _], _ => rfl
abbrev n_is_term : List Str := ["value", "arguments", "layer", "parts", "turn", "part", "term"]
theorem sc_is_term : FnScope n_is_term ["value", "arguments"] (defScope s_is_term) := ⟨rfl, rfl, rfl, by decide +kernel, rfl, by decide +kernel, by decide +kernel⟩
theorem b_is_term (kV doc pm : Value) (an : Option Addr) (cdv ct : Value) : ∀ (us : List Value), us.length = (["value", "arguments"] : List Str).length → bindArgs (PySem.W.fnOf "is_term" "is_term" (defArgs s_is_term) (defBody s_is_term) (defScope s_is_term) .none kV doc pm an cdv ct) ⟨us, []⟩ = pure ((["value", "arguments"] : List Str).zip us)
  | [_, _], _ => rfl
abbrev n_leaves : List Str := ["term", "found", "part"]
theorem sc_leaves : FnScope n_leaves ["term"] (defScope s_leaves) := ⟨rfl, rfl, rfl, by decide +kernel, rfl, by decide +kernel, by decide +kernel⟩
theorem b_leaves (kV doc pm : Value) (an : Option Addr) (cdv ct : Value) : ∀ (us : List Value), us.length = (["term"] : List Str).length → bindArgs (PySem.W.fnOf "leaves" "leaves" (defArgs s_leaves) (defBody s_leaves) (defScope s_leaves) .none kV doc pm an cdv ct) ⟨us, []⟩ = pure ((["term"] : List Str).zip us)
  | [_], _ => rfl
abbrev n_names_with : List Str := ["term", "kind", "found", "part", "name"]
theorem sc_names_with : FnScope n_names_with ["term", "kind"] (defScope s_names_with) := ⟨rfl, rfl, rfl, by decide +kernel, rfl, by decide +kernel, by decide +kernel⟩
theorem b_names_with (kV doc pm : Value) (an : Option Addr) (cdv ct : Value) : ∀ (us : List Value), us.length = (["term", "kind"] : List Str).length → bindArgs (PySem.W.fnOf "names_with" "names_with" (defArgs s_names_with) (defBody s_names_with) (defScope s_names_with) .none kV doc pm an cdv ct) ⟨us, []⟩ = pure ((["term", "kind"] : List Str).zip us)
  | [_, _], _ => rfl
abbrev n_cells_in : List Str := ["term"]
theorem sc_cells_in : FnScope n_cells_in ["term"] (defScope s_cells_in) := ⟨rfl, rfl, rfl, by decide +kernel, rfl, by decide +kernel, by decide +kernel⟩
theorem b_cells_in (kV doc pm : Value) (an : Option Addr) (cdv ct : Value) : ∀ (us : List Value), us.length = (["term"] : List Str).length → bindArgs (PySem.W.fnOf "cells_in" "cells_in" (defArgs s_cells_in) (defBody s_cells_in) (defScope s_cells_in) .none kV doc pm an cdv ct) ⟨us, []⟩ = pure ((["term"] : List Str).zip us)
  | [_], _ => rfl
abbrev n_are_writes : List Str := ["value", "row", "names", "at", "name"]
theorem sc_are_writes : FnScope n_are_writes ["value"] (defScope s_are_writes) := ⟨rfl, rfl, rfl, by decide +kernel, rfl, by decide +kernel, by decide +kernel⟩
theorem b_are_writes (kV doc pm : Value) (an : Option Addr) (cdv ct : Value) : ∀ (us : List Value), us.length = (["value"] : List Str).length → bindArgs (PySem.W.fnOf "are_writes" "are_writes" (defArgs s_are_writes) (defBody s_are_writes) (defScope s_are_writes) .none kV doc pm an cdv ct) ⟨us, []⟩ = pure ((["value"] : List Str).zip us)
  | [_], _ => rfl
abbrev n_Function_init : List Str := ["self", "name", "arguments", "result", "label", "writes", "cost", "row"]
theorem sc_Function_init : FnScope n_Function_init ["self", "name", "arguments", "result", "label", "writes", "cost"] (defScope s_Function_init) := ⟨rfl, rfl, rfl, by decide +kernel, rfl, by decide +kernel, by decide +kernel⟩
abbrev n_Function_eq : List Str := ["self", "other"]
theorem sc_Function_eq : FnScope n_Function_eq ["self", "other"] (defScope s_Function_eq) := ⟨rfl, rfl, rfl, by decide +kernel, rfl, by decide +kernel, by decide +kernel⟩
theorem b_Function_eq (kV doc pm : Value) (an : Option Addr) (cdv ct : Value) : ∀ (us : List Value), us.length = (["self", "other"] : List Str).length → bindArgs (PySem.W.fnOf "__eq__" "Function.__eq__" (defArgs s_Function_eq) (defBody s_Function_eq) (defScope s_Function_eq) .none kV doc pm an cdv ct) ⟨us, []⟩ = pure ((["self", "other"] : List Str).zip us)
  | [_, _], _ => rfl
abbrev n_Function_parts : List Str := ["self", "row"]
theorem sc_Function_parts : FnScope n_Function_parts ["self"] (defScope s_Function_parts) := ⟨rfl, rfl, rfl, by decide +kernel, rfl, by decide +kernel, by decide +kernel⟩
theorem b_Function_parts (kV doc pm : Value) (an : Option Addr) (cdv ct : Value) : ∀ (us : List Value), us.length = (["self"] : List Str).length → bindArgs (PySem.W.fnOf "parts" "Function.parts" (defArgs s_Function_parts) (defBody s_Function_parts) (defScope s_Function_parts) .none kV doc pm an cdv ct) ⟨us, []⟩ = pure ((["self"] : List Str).zip us)
  | [_], _ => rfl
abbrev n_checked_cells : List Str := ["cells", "known", "index", "cell"]
theorem sc_checked_cells : FnScope n_checked_cells ["cells"] (defScope s_checked_cells) := ⟨rfl, rfl, rfl, by decide +kernel, rfl, by decide +kernel, by decide +kernel⟩
theorem b_checked_cells (kV doc pm : Value) (an : Option Addr) (cdv ct : Value) : ∀ (us : List Value), us.length = (["cells"] : List Str).length → bindArgs (PySem.W.fnOf "checked_cells" "checked_cells" (defArgs s_checked_cells) (defBody s_checked_cells) (defScope s_checked_cells) .none kV doc pm an cdv ct) ⟨us, []⟩ = pure ((["cells"] : List Str).zip us)
  | [_], _ => rfl
abbrev n_fits : List Str := ["function", "cells", "known", "row", "term", "name", "part"]
theorem sc_fits : FnScope n_fits ["function", "cells", "known"] (defScope s_fits) := ⟨rfl, rfl, rfl, by decide +kernel, rfl, by decide +kernel, by decide +kernel⟩
theorem b_fits (kV doc pm : Value) (an : Option Addr) (cdv ct : Value) : ∀ (us : List Value), us.length = (["function", "cells", "known"] : List Str).length → bindArgs (PySem.W.fnOf "fits" "fits" (defArgs s_fits) (defBody s_fits) (defScope s_fits) .none kV doc pm an cdv ct) ⟨us, []⟩ = pure ((["function", "cells", "known"] : List Str).zip us)
  | [_, _, _], _ => rfl
abbrev n_checked_functions : List Str := ["functions", "cells", "kinds", "cell", "known", "index", "function"]
theorem sc_checked_functions : FnScope n_checked_functions ["functions", "cells"] (defScope s_checked_functions) := ⟨rfl, rfl, rfl, by decide +kernel, rfl, by decide +kernel, by decide +kernel⟩
theorem b_checked_functions (kV doc pm : Value) (an : Option Addr) (cdv ct : Value) : ∀ (us : List Value), us.length = (["functions", "cells"] : List Str).length → bindArgs (PySem.W.fnOf "checked_functions" "checked_functions" (defArgs s_checked_functions) (defBody s_checked_functions) (defScope s_checked_functions) .none kV doc pm an cdv ct) ⟨us, []⟩ = pure ((["functions", "cells"] : List Str).zip us)
  | [_, _], _ => rfl
abbrev n_Book_init : List Str := ["self", "cells", "functions"]
theorem sc_Book_init : FnScope n_Book_init ["self", "cells", "functions"] (defScope s_Book_init) := ⟨rfl, rfl, rfl, by decide +kernel, rfl, by decide +kernel, by decide +kernel⟩
theorem b_Book_init (kV doc pm : Value) (an : Option Addr) (cdv ct : Value) : ∀ (us : List Value), us.length = (["self", "cells", "functions"] : List Str).length → bindArgs (PySem.W.fnOf "__init__" "Book.__init__" (defArgs s_Book_init) (defBody s_Book_init) (defScope s_Book_init) .none kV doc pm an cdv ct) ⟨us, []⟩ = pure ((["self", "cells", "functions"] : List Str).zip us)
  | [_, _, _], _ => rfl
abbrev n_Book_getitem : List Str := ["self", "name", "function"]
theorem sc_Book_getitem : FnScope n_Book_getitem ["self", "name"] (defScope s_Book_getitem) := ⟨rfl, rfl, rfl, by decide +kernel, rfl, by decide +kernel, by decide +kernel⟩
theorem b_Book_getitem (kV doc pm : Value) (an : Option Addr) (cdv ct : Value) : ∀ (us : List Value), us.length = (["self", "name"] : List Str).length → bindArgs (PySem.W.fnOf "__getitem__" "Book.__getitem__" (defArgs s_Book_getitem) (defBody s_Book_getitem) (defScope s_Book_getitem) .none kV doc pm an cdv ct) ⟨us, []⟩ = pure ((["self", "name"] : List Str).zip us)
  | [_, _], _ => rfl
abbrev n_Book_eq : List Str := ["self", "other"]
theorem sc_Book_eq : FnScope n_Book_eq ["self", "other"] (defScope s_Book_eq) := ⟨rfl, rfl, rfl, by decide +kernel, rfl, by decide +kernel, by decide +kernel⟩
theorem b_Book_eq (kV doc pm : Value) (an : Option Addr) (cdv ct : Value) : ∀ (us : List Value), us.length = (["self", "other"] : List Str).length → bindArgs (PySem.W.fnOf "__eq__" "Book.__eq__" (defArgs s_Book_eq) (defBody s_Book_eq) (defScope s_Book_eq) .none kV doc pm an cdv ct) ⟨us, []⟩ = pure ((["self", "other"] : List Str).zip us)
  | [_, _], _ => rfl
abbrev n_Book_all_cells : List Str := ["self"]
theorem sc_Book_all_cells : FnScope n_Book_all_cells ["self"] (defScope s_Book_all_cells) := ⟨rfl, rfl, rfl, by decide +kernel, rfl, by decide +kernel, by decide +kernel⟩
theorem b_Book_all_cells (kV doc pm : Value) (an : Option Addr) (cdv ct : Value) : ∀ (us : List Value), us.length = (["self"] : List Str).length → bindArgs (PySem.W.fnOf "all_cells" "Book.all_cells" (defArgs s_Book_all_cells) (defBody s_Book_all_cells) (defScope s_Book_all_cells) .none kV doc pm an cdv ct) ⟨us, []⟩ = pure ((["self"] : List Str).zip us)
  | [_], _ => rfl
abbrev n_Book_names : List Str := ["self", "function"]
theorem sc_Book_names : FnScope n_Book_names ["self"] (defScope s_Book_names) := ⟨rfl, rfl, rfl, by decide +kernel, rfl, by decide +kernel, by decide +kernel⟩
theorem b_Book_names (kV doc pm : Value) (an : Option Addr) (cdv ct : Value) : ∀ (us : List Value), us.length = (["self"] : List Str).length → bindArgs (PySem.W.fnOf "names" "Book.names" (defArgs s_Book_names) (defBody s_Book_names) (defScope s_Book_names) .none kV doc pm an cdv ct) ⟨us, []⟩ = pure ((["self"] : List Str).zip us)
  | [_], _ => rfl
abbrev n_write_term : List Str := ["term", "part"]
theorem sc_write_term : FnScope n_write_term ["term"] (defScope s_write_term) := ⟨rfl, rfl, rfl, by decide +kernel, rfl, by decide +kernel, by decide +kernel⟩
theorem b_write_term (kV doc pm : Value) (an : Option Addr) (cdv ct : Value) : ∀ (us : List Value), us.length = (["term"] : List Str).length → bindArgs (PySem.W.fnOf "write_term" "write_term" (defArgs s_write_term) (defBody s_write_term) (defScope s_write_term) .none kV doc pm an cdv ct) ⟨us, []⟩ = pure ((["term"] : List Str).zip us)
  | [_], _ => rfl
abbrev n_function_rows : List Str := ["function", "head", "writes", "cell", "term"]
theorem sc_function_rows : FnScope n_function_rows ["function"] (defScope s_function_rows) := ⟨rfl, rfl, rfl, by decide +kernel, rfl, by decide +kernel, by decide +kernel⟩
theorem b_function_rows (kV doc pm : Value) (an : Option Addr) (cdv ct : Value) : ∀ (us : List Value), us.length = (["function"] : List Str).length → bindArgs (PySem.W.fnOf "function_rows" "function_rows" (defArgs s_function_rows) (defBody s_function_rows) (defScope s_function_rows) .none kV doc pm an cdv ct) ⟨us, []⟩ = pure ((["function"] : List Str).zip us)
  | [_], _ => rfl
abbrev n_write_book : List Str := ["book", "rows", "cell", "name"]
theorem sc_write_book : FnScope n_write_book ["book"] (defScope s_write_book) := ⟨rfl, rfl, rfl, by decide +kernel, rfl, by decide +kernel, by decide +kernel⟩
theorem b_write_book (kV doc pm : Value) (an : Option Addr) (cdv ct : Value) : ∀ (us : List Value), us.length = (["book"] : List Str).length → bindArgs (PySem.W.fnOf "write_book" "write_book" (defArgs s_write_book) (defBody s_write_book) (defScope s_write_book) .none kV doc pm an cdv ct) ⟨us, []⟩ = pure ((["book"] : List Str).zip us)
  | [_], _ => rfl
abbrev n_Words_init : List Str := ["self", "words"]
theorem sc_Words_init : FnScope n_Words_init ["self", "words"] (defScope s_Words_init) := ⟨rfl, rfl, rfl, by decide +kernel, rfl, by decide +kernel, by decide +kernel⟩
theorem b_Words_init (kV doc pm : Value) (an : Option Addr) (cdv ct : Value) : ∀ (us : List Value), us.length = (["self", "words"] : List Str).length → bindArgs (PySem.W.fnOf "__init__" "Words.__init__" (defArgs s_Words_init) (defBody s_Words_init) (defScope s_Words_init) .none kV doc pm an cdv ct) ⟨us, []⟩ = pure ((["self", "words"] : List Str).zip us)
  | [_, _], _ => rfl
abbrev n_Words_pull : List Str := ["self"]
theorem sc_Words_pull : FnScope n_Words_pull ["self"] (defScope s_Words_pull) := ⟨rfl, rfl, rfl, by decide +kernel, rfl, by decide +kernel, by decide +kernel⟩
theorem b_Words_pull (kV doc pm : Value) (an : Option Addr) (cdv ct : Value) : ∀ (us : List Value), us.length = (["self"] : List Str).length → bindArgs (PySem.W.fnOf "pull" "Words.pull" (defArgs s_Words_pull) (defBody s_Words_pull) (defScope s_Words_pull) .none kV doc pm an cdv ct) ⟨us, []⟩ = pure ((["self"] : List Str).zip us)
  | [_], _ => rfl
abbrev n_Words_pull_figure : List Str := ["self", "least", "most", "word"]
theorem sc_Words_pull_figure : FnScope n_Words_pull_figure ["self", "least", "most"] (defScope s_Words_pull_figure) := ⟨rfl, rfl, rfl, by decide +kernel, rfl, by decide +kernel, by decide +kernel⟩
theorem b_Words_pull_figure (kV doc pm : Value) (an : Option Addr) (cdv ct : Value) : ∀ (us : List Value), us.length = (["self", "least", "most"] : List Str).length → bindArgs (PySem.W.fnOf "pull_figure" "Words.pull_figure" (defArgs s_Words_pull_figure) (defBody s_Words_pull_figure) (defScope s_Words_pull_figure) .none kV doc pm an cdv ct) ⟨us, []⟩ = pure ((["self", "least", "most"] : List Str).zip us)
  | [_, _, _], _ => rfl
abbrev n_Words_pull_name : List Str := ["self", "word"]
theorem sc_Words_pull_name : FnScope n_Words_pull_name ["self"] (defScope s_Words_pull_name) := ⟨rfl, rfl, rfl, by decide +kernel, rfl, by decide +kernel, by decide +kernel⟩
theorem b_Words_pull_name (kV doc pm : Value) (an : Option Addr) (cdv ct : Value) : ∀ (us : List Value), us.length = (["self"] : List Str).length → bindArgs (PySem.W.fnOf "pull_name" "Words.pull_name" (defArgs s_Words_pull_name) (defBody s_Words_pull_name) (defScope s_Words_pull_name) .none kV doc pm an cdv ct) ⟨us, []⟩ = pure ((["self"] : List Str).zip us)
  | [_], _ => rfl
abbrev n_Words_is_done : List Str := ["self"]
theorem sc_Words_is_done : FnScope n_Words_is_done ["self"] (defScope s_Words_is_done) := ⟨rfl, rfl, rfl, by decide +kernel, rfl, by decide +kernel, by decide +kernel⟩
theorem b_Words_is_done (kV doc pm : Value) (an : Option Addr) (cdv ct : Value) : ∀ (us : List Value), us.length = (["self"] : List Str).length → bindArgs (PySem.W.fnOf "is_done" "Words.is_done" (defArgs s_Words_is_done) (defBody s_Words_is_done) (defScope s_Words_is_done) .none kV doc pm an cdv ct) ⟨us, []⟩ = pure ((["self"] : List Str).zip us)
  | [_], _ => rfl
abbrev n_pulled_term : List Str := ["words", "deep", "word", "turn", "name", "many"]
theorem sc_pulled_term : FnScope n_pulled_term ["words", "deep"] (defScope s_pulled_term) := ⟨rfl, rfl, rfl, by decide +kernel, rfl, by decide +kernel, by decide +kernel⟩
theorem b_pulled_term (kV doc pm : Value) (an : Option Addr) (cdv ct : Value) : ∀ (us : List Value), us.length = (["words", "deep"] : List Str).length → bindArgs (PySem.W.fnOf "pulled_term" "pulled_term" (defArgs s_pulled_term) (defBody s_pulled_term) (defScope s_pulled_term) .none kV doc pm an cdv ct) ⟨us, []⟩ = pure ((["words", "deep"] : List Str).zip us)
  | [_, _], _ => rfl
abbrev n_term_in : List Str := ["words", "arguments", "row", "term"]
theorem sc_term_in : FnScope n_term_in ["words", "arguments"] (defScope s_term_in) := ⟨rfl, rfl, rfl, by decide +kernel, rfl, by decide +kernel, by decide +kernel⟩
theorem b_term_in (kV doc pm : Value) (an : Option Addr) (cdv ct : Value) : ∀ (us : List Value), us.length = (["words", "arguments"] : List Str).length → bindArgs (PySem.W.fnOf "term_in" "term_in" (defArgs s_term_in) (defBody s_term_in) (defScope s_term_in) .none kV doc pm an cdv ct) ⟨us, []⟩ = pure ((["words", "arguments"] : List Str).zip us)
  | [_, _], _ => rfl
abbrev n_rows_in : List Str := ["text", "row"]
theorem sc_rows_in : FnScope n_rows_in ["text"] (defScope s_rows_in) := ⟨rfl, rfl, rfl, by decide +kernel, rfl, by decide +kernel, by decide +kernel⟩
theorem b_rows_in (kV doc pm : Value) (an : Option Addr) (cdv ct : Value) : ∀ (us : List Value), us.length = (["text"] : List Str).length → bindArgs (PySem.W.fnOf "rows_in" "rows_in" (defArgs s_rows_in) (defBody s_rows_in) (defScope s_rows_in) .none kV doc pm an cdv ct) ⟨us, []⟩ = pure ((["text"] : List Str).zip us)
  | [_], _ => rfl
abbrev n_cell_in : List Str := ["words"]
theorem sc_cell_in : FnScope n_cell_in ["words"] (defScope s_cell_in) := ⟨rfl, rfl, rfl, by decide +kernel, rfl, by decide +kernel, by decide +kernel⟩
theorem b_cell_in (kV doc pm : Value) (an : Option Addr) (cdv ct : Value) : ∀ (us : List Value), us.length = (["words"] : List Str).length → bindArgs (PySem.W.fnOf "cell_in" "cell_in" (defArgs s_cell_in) (defBody s_cell_in) (defScope s_cell_in) .none kV doc pm an cdv ct) ⟨us, []⟩ = pure ((["words"] : List Str).zip us)
  | [_], _ => rfl
abbrev n_is_cost : List Str := ["word", "sign"]
theorem sc_is_cost : FnScope n_is_cost ["word"] (defScope s_is_cost) := ⟨rfl, rfl, rfl, by decide +kernel, rfl, by decide +kernel, by decide +kernel⟩
theorem b_is_cost (kV doc pm : Value) (an : Option Addr) (cdv ct : Value) : ∀ (us : List Value), us.length = (["word"] : List Str).length → bindArgs (PySem.W.fnOf "is_cost" "is_cost" (defArgs s_is_cost) (defBody s_is_cost) (defScope s_is_cost) .none kV doc pm an cdv ct) ⟨us, []⟩ = pure ((["word"] : List Str).zip us)
  | [_], _ => rfl
abbrev n_is_head : List Str := ["words"]
theorem sc_is_head : FnScope n_is_head ["words"] (defScope s_is_head) := ⟨rfl, rfl, rfl, by decide +kernel, rfl, by decide +kernel, by decide +kernel⟩
theorem b_is_head (kV doc pm : Value) (an : Option Addr) (cdv ct : Value) : ∀ (us : List Value), us.length = (["words"] : List Str).length → bindArgs (PySem.W.fnOf "is_head" "is_head" (defArgs s_is_head) (defBody s_is_head) (defScope s_is_head) .none kV doc pm an cdv ct) ⟨us, []⟩ = pure ((["words"] : List Str).zip us)
  | [_], _ => rfl
abbrev n_write_in : List Str := ["words", "arguments", "term"]
theorem sc_write_in : FnScope n_write_in ["words", "arguments"] (defScope s_write_in) := ⟨rfl, rfl, rfl, by decide +kernel, rfl, by decide +kernel, by decide +kernel⟩
theorem b_write_in (kV doc pm : Value) (an : Option Addr) (cdv ct : Value) : ∀ (us : List Value), us.length = (["words", "arguments"] : List Str).length → bindArgs (PySem.W.fnOf "write_in" "write_in" (defArgs s_write_in) (defBody s_write_in) (defScope s_write_in) .none kV doc pm an cdv ct) ⟨us, []⟩ = pure ((["words", "arguments"] : List Str).zip us)
  | [_, _], _ => rfl
abbrev n_function_at : List Str := ["rows", "at", "name", "arguments", "label", "cost", "many", "later", "result", "writes", "row"]
theorem sc_function_at : FnScope n_function_at ["rows", "at"] (defScope s_function_at) := ⟨rfl, rfl, rfl, by decide +kernel, rfl, by decide +kernel, by decide +kernel⟩
theorem b_function_at (kV doc pm : Value) (an : Option Addr) (cdv ct : Value) : ∀ (us : List Value), us.length = (["rows", "at"] : List Str).length → bindArgs (PySem.W.fnOf "function_at" "function_at" (defArgs s_function_at) (defBody s_function_at) (defScope s_function_at) .none kV doc pm an cdv ct) ⟨us, []⟩ = pure ((["rows", "at"] : List Str).zip us)
  | [_, _], _ => rfl
abbrev n_read_book : List Str := ["text", "rows", "cells", "functions", "at", "cell", "function", "made", "name", "many", "result", "label", "writes", "cost"]
theorem sc_read_book : FnScope n_read_book ["text"] (defScope s_read_book) := ⟨rfl, rfl, rfl, by decide +kernel, rfl, by decide +kernel, by decide +kernel⟩
theorem b_read_book (kV doc pm : Value) (an : Option Addr) (cdv ct : Value) : ∀ (us : List Value), us.length = (["text"] : List Str).length → bindArgs (PySem.W.fnOf "read_book" "read_book" (defArgs s_read_book) (defBody s_read_book) (defScope s_read_book) .none kV doc pm an cdv ct) ⟨us, []⟩ = pure ((["text"] : List Str).zip us)
  | [_], _ => rfl
abbrev n__law_pool : List Str := ["_law_script", "_law_k", "_law_cell", "_law_size", "_law_mixed"]
theorem sc__law_pool : FnScope n__law_pool ["_law_script", "_law_k"] (defScope s__law_pool) := ⟨rfl, rfl, rfl, by decide +kernel, rfl, by decide +kernel, by decide +kernel⟩
theorem b__law_pool (kV doc pm : Value) (an : Option Addr) (cdv ct : Value) : ∀ (us : List Value), us.length = (["_law_script", "_law_k"] : List Str).length → bindArgs (PySem.W.fnOf "_law_pool" "_law_pool" (defArgs s__law_pool) (defBody s__law_pool) (defScope s__law_pool) .none kV doc pm an cdv ct) ⟨us, []⟩ = pure ((["_law_script", "_law_k"] : List Str).zip us)
  | [_, _], _ => rfl
abbrev n__law_draw : List Str := ["_law_pool_here", "_law_many", "_law_found"]
theorem sc__law_draw : FnScope n__law_draw ["_law_pool_here", "_law_many"] (defScope s__law_draw) := ⟨rfl, rfl, rfl, by decide +kernel, rfl, by decide +kernel, by decide +kernel⟩
theorem b__law_draw (kV doc pm : Value) (an : Option Addr) (cdv ct : Value) : ∀ (us : List Value), us.length = (["_law_pool_here", "_law_many"] : List Str).length → bindArgs (PySem.W.fnOf "_law_draw" "_law_draw" (defArgs s__law_draw) (defBody s__law_draw) (defScope s__law_draw) .none kV doc pm an cdv ct) ⟨us, []⟩ = pure ((["_law_pool_here", "_law_many"] : List Str).zip us)
  | [_, _], _ => rfl
abbrev n__law_pick : List Str := ["_law_pool_here", "_law_row"]
theorem sc__law_pick : FnScope n__law_pick ["_law_pool_here", "_law_row"] (defScope s__law_pick) := ⟨rfl, rfl, rfl, by decide +kernel, rfl, by decide +kernel, by decide +kernel⟩
theorem b__law_pick (kV doc pm : Value) (an : Option Addr) (cdv ct : Value) : ∀ (us : List Value), us.length = (["_law_pool_here", "_law_row"] : List Str).length → bindArgs (PySem.W.fnOf "_law_pick" "_law_pick" (defArgs s__law_pick) (defBody s__law_pick) (defScope s__law_pick) .none kV doc pm an cdv ct) ⟨us, []⟩ = pure ((["_law_pool_here", "_law_row"] : List Str).zip us)
  | [_, _], _ => rfl
abbrev n__law_names : List Str := ["_law_pool_here", "_law_count", "_law_signs", "_law_origin", "_law_step", "_law_ends", "_law_head", "_law_tail", "_law_k"]
theorem sc__law_names : FnScope n__law_names ["_law_pool_here", "_law_count"] (defScope s__law_names) := ⟨rfl, rfl, rfl, by decide +kernel, rfl, by decide +kernel, by decide +kernel⟩
theorem b__law_names (kV doc pm : Value) (an : Option Addr) (cdv ct : Value) : ∀ (us : List Value), us.length = (["_law_pool_here", "_law_count"] : List Str).length → bindArgs (PySem.W.fnOf "_law_names" "_law_names" (defArgs s__law_names) (defBody s__law_names) (defScope s__law_names) .none kV doc pm an cdv ct) ⟨us, []⟩ = pure ((["_law_pool_here", "_law_count"] : List Str).zip us)
  | [_, _], _ => rfl
abbrev n__law_term : List Str := ["_law_pool_here", "_law_b", "_law_many", "_law_deep", "_law_kind", "_law_f", "_law_at", "_law_head"]
theorem sc__law_term : FnScope n__law_term ["_law_pool_here", "_law_b", "_law_many", "_law_deep"] (defScope s__law_term) := ⟨rfl, rfl, rfl, by decide +kernel, rfl, by decide +kernel, by decide +kernel⟩
theorem b__law_term (kV doc pm : Value) (an : Option Addr) (cdv ct : Value) : ∀ (us : List Value), us.length = (["_law_pool_here", "_law_b", "_law_many", "_law_deep"] : List Str).length → bindArgs (PySem.W.fnOf "_law_term" "_law_term" (defArgs s__law_term) (defBody s__law_term) (defScope s__law_term) .none kV doc pm an cdv ct) ⟨us, []⟩ = pure ((["_law_pool_here", "_law_b", "_law_many", "_law_deep"] : List Str).zip us)
  | [_, _, _, _], _ => rfl
abbrev n__law_writes : List Str := ["_law_pool_here", "_law_b", "_law_many", "_law_tables", "_law_cell"]
theorem sc__law_writes : FnScope n__law_writes ["_law_pool_here", "_law_b", "_law_many"] (defScope s__law_writes) := ⟨rfl, rfl, rfl, by decide +kernel, rfl, by decide +kernel, by decide +kernel⟩
theorem b__law_writes (kV doc pm : Value) (an : Option Addr) (cdv ct : Value) : ∀ (us : List Value), us.length = (["_law_pool_here", "_law_b", "_law_many"] : List Str).length → bindArgs (PySem.W.fnOf "_law_writes" "_law_writes" (defArgs s__law_writes) (defBody s__law_writes) (defScope s__law_writes) .none kV doc pm an cdv ct) ⟨us, []⟩ = pure ((["_law_pool_here", "_law_b", "_law_many"] : List Str).zip us)
  | [_, _, _], _ => rfl
abbrev n__law_book : List Str := ["_law_pool_here", "_law_most", "_law_deep", "_law_words", "_law_b", "_law_at", "_law_many", "_law_f"]
theorem sc__law_book : FnScope n__law_book ["_law_pool_here", "_law_most", "_law_deep"] (defScope s__law_book) := ⟨rfl, rfl, rfl, by decide +kernel, rfl, by decide +kernel, by decide +kernel⟩
theorem b__law_book (kV doc pm : Value) (an : Option Addr) (cdv ct : Value) : ∀ (us : List Value), us.length = (["_law_pool_here", "_law_most", "_law_deep"] : List Str).length → bindArgs (PySem.W.fnOf "_law_book" "_law_book" (defArgs s__law_book) (defBody s__law_book) (defScope s__law_book) .none kV doc pm an cdv ct) ⟨us, []⟩ = pure ((["_law_pool_here", "_law_most", "_law_deep"] : List Str).zip us)
  | [_, _, _], _ => rfl
abbrev n__law_made_book : List Str := ["_law_b", "_law_rows", "_law_f", "_law_one", "_law_name", "_law_kind"]
theorem sc__law_made_book : FnScope n__law_made_book ["_law_b"] (defScope s__law_made_book) := ⟨rfl, rfl, rfl, by decide +kernel, rfl, by decide +kernel, by decide +kernel⟩
theorem b__law_made_book (kV doc pm : Value) (an : Option Addr) (cdv ct : Value) : ∀ (us : List Value), us.length = (["_law_b"] : List Str).length → bindArgs (PySem.W.fnOf "_law_made_book" "_law_made_book" (defArgs s__law_made_book) (defBody s__law_made_book) (defScope s__law_made_book) .none kV doc pm an cdv ct) ⟨us, []⟩ = pure ((["_law_b"] : List Str).zip us)
  | [_], _ => rfl
abbrev n__law_term_text : List Str := ["_law_term_here", "_law_part"]
theorem sc__law_term_text : FnScope n__law_term_text ["_law_term_here"] (defScope s__law_term_text) := ⟨rfl, rfl, rfl, by decide +kernel, rfl, by decide +kernel, by decide +kernel⟩
theorem b__law_term_text (kV doc pm : Value) (an : Option Addr) (cdv ct : Value) : ∀ (us : List Value), us.length = (["_law_term_here"] : List Str).length → bindArgs (PySem.W.fnOf "_law_term_text" "_law_term_text" (defArgs s__law_term_text) (defBody s__law_term_text) (defScope s__law_term_text) .none kV doc pm an cdv ct) ⟨us, []⟩ = pure ((["_law_term_here"] : List Str).zip us)
  | [_], _ => rfl
abbrev n__law_book_text : List Str := ["_law_b", "_law_rows", "_law_name", "_law_kind", "_law_f", "_law_cell", "_law_term_here"]
theorem sc__law_book_text : FnScope n__law_book_text ["_law_b"] (defScope s__law_book_text) := ⟨rfl, rfl, rfl, by decide +kernel, rfl, by decide +kernel, by decide +kernel⟩
theorem b__law_book_text (kV doc pm : Value) (an : Option Addr) (cdv ct : Value) : ∀ (us : List Value), us.length = (["_law_b"] : List Str).length → bindArgs (PySem.W.fnOf "_law_book_text" "_law_book_text" (defArgs s__law_book_text) (defBody s__law_book_text) (defScope s__law_book_text) .none kV doc pm an cdv ct) ⟨us, []⟩ = pure ((["_law_b"] : List Str).zip us)
  | [_], _ => rfl
abbrev n_law : List Str := ["_law_script", "_law_k", "_law_pool_here", "_law_b", "_law_book_here", "_law_text", "_law_more"]
theorem sc_law : FnScope n_law ["_law_script"] (defScope s_law) := ⟨rfl, rfl, rfl, by decide +kernel, rfl, by decide +kernel, by decide +kernel⟩
theorem b_law (kV doc pm : Value) (an : Option Addr) (cdv ct : Value) : ∀ (us : List Value), us.length = (["_law_script"] : List Str).length → bindArgs (PySem.W.fnOf "law" "law" (defArgs s_law) (defBody s_law) (defScope s_law) .none kV doc pm an cdv ct) ⟨us, []⟩ = pure ((["_law_script"] : List Str).zip us)
  | [_], _ => rfl
/-! ### the facts that the head tells -/
def d_is_integer : He.DefD := ⟨("is_integer", none), "is_integer", "is_integer", defArgs s_is_integer, defBody s_is_integer, defScope s_is_integer, [], []⟩
def d_is_between : He.DefD := ⟨("is_between", none), "is_between", "is_between", defArgs s_is_between, defBody s_is_between, defScope s_is_between, [], []⟩
def d_is_value : He.DefD := ⟨("is_value", none), "is_value", "is_value", defArgs s_is_value, defBody s_is_value, defScope s_is_value, [], []⟩
def d_is_name : He.DefD := ⟨("is_name", none), "is_name", "is_name", defArgs s_is_name, defBody s_is_name, defScope s_is_name, [], []⟩
def d_has_kind : He.DefD := ⟨("has_kind", none), "has_kind", "has_kind", defArgs s_has_kind, defBody s_has_kind, defScope s_has_kind, [], []⟩
def d_Cell_init : He.DefD := ⟨("Cell", some "__init__"), "__init__", "Cell.__init__", defArgs s_Cell_init, defBody s_Cell_init, defScope s_Cell_init, [], []⟩
def d_Cell_eq : He.DefD := ⟨("Cell", some "__eq__"), "__eq__", "Cell.__eq__", defArgs s_Cell_eq, defBody s_Cell_eq, defScope s_Cell_eq, [], []⟩
def d_is_label_name : He.DefD := ⟨("is_label_name", none), "is_label_name", "is_label_name", defArgs s_is_label_name, defBody s_is_label_name, defScope s_is_label_name, [], []⟩
def d_Label_init : He.DefD := ⟨("Label", some "__init__"), "__init__", "Label.__init__", defArgs s_Label_init, defBody s_Label_init, defScope s_Label_init, [], []⟩
def d_made_label : He.DefD := ⟨("made_label", none), "made_label", "made_label", defArgs s_made_label, defBody s_made_label, defScope s_made_label, [], []⟩
def d_inner_terms : He.DefD := ⟨("inner_terms", none), "inner_terms", "inner_terms", defArgs s_inner_terms, defBody s_inner_terms, defScope s_inner_terms, [], []⟩
def d_has_form : He.DefD := ⟨("has_form", none), "has_form", "has_form", defArgs s_has_form, defBody s_has_form, defScope s_has_form, [], []⟩
def d_is_term : He.DefD := ⟨("is_term", none), "is_term", "is_term", defArgs s_is_term, defBody s_is_term, defScope s_is_term, [], []⟩
def d_leaves : He.DefD := ⟨("leaves", none), "leaves", "leaves", defArgs s_leaves, defBody s_leaves, defScope s_leaves, [], []⟩
def d_names_with : He.DefD := ⟨("names_with", none), "names_with", "names_with", defArgs s_names_with, defBody s_names_with, defScope s_names_with, [], []⟩
def d_cells_in : He.DefD := ⟨("cells_in", none), "cells_in", "cells_in", defArgs s_cells_in, defBody s_cells_in, defScope s_cells_in, [], []⟩
def d_are_writes : He.DefD := ⟨("are_writes", none), "are_writes", "are_writes", defArgs s_are_writes, defBody s_are_writes, defScope s_are_writes, [], []⟩
def d_Function_init : He.DefD := ⟨("Function", some "__init__"), "__init__", "Function.__init__", defArgs s_Function_init, defBody s_Function_init, defScope s_Function_init, [], [("cost", .int 1)]⟩
def d_Function_eq : He.DefD := ⟨("Function", some "__eq__"), "__eq__", "Function.__eq__", defArgs s_Function_eq, defBody s_Function_eq, defScope s_Function_eq, [], []⟩
def d_Function_parts : He.DefD := ⟨("Function", some "parts"), "parts", "Function.parts", defArgs s_Function_parts, defBody s_Function_parts, defScope s_Function_parts, [], []⟩
def d_checked_cells : He.DefD := ⟨("checked_cells", none), "checked_cells", "checked_cells", defArgs s_checked_cells, defBody s_checked_cells, defScope s_checked_cells, [], []⟩
def d_fits : He.DefD := ⟨("fits", none), "fits", "fits", defArgs s_fits, defBody s_fits, defScope s_fits, [], []⟩
def d_checked_functions : He.DefD := ⟨("checked_functions", none), "checked_functions", "checked_functions", defArgs s_checked_functions, defBody s_checked_functions, defScope s_checked_functions, [], []⟩
def d_Book_init : He.DefD := ⟨("Book", some "__init__"), "__init__", "Book.__init__", defArgs s_Book_init, defBody s_Book_init, defScope s_Book_init, [], []⟩
def d_Book_getitem : He.DefD := ⟨("Book", some "__getitem__"), "__getitem__", "Book.__getitem__", defArgs s_Book_getitem, defBody s_Book_getitem, defScope s_Book_getitem, [], []⟩
def d_Book_eq : He.DefD := ⟨("Book", some "__eq__"), "__eq__", "Book.__eq__", defArgs s_Book_eq, defBody s_Book_eq, defScope s_Book_eq, [], []⟩
def d_Book_all_cells : He.DefD := ⟨("Book", some "all_cells"), "all_cells", "Book.all_cells", defArgs s_Book_all_cells, defBody s_Book_all_cells, defScope s_Book_all_cells, [], []⟩
def d_Book_names : He.DefD := ⟨("Book", some "names"), "names", "Book.names", defArgs s_Book_names, defBody s_Book_names, defScope s_Book_names, [], []⟩
def d_write_term : He.DefD := ⟨("write_term", none), "write_term", "write_term", defArgs s_write_term, defBody s_write_term, defScope s_write_term, [], []⟩
def d_function_rows : He.DefD := ⟨("function_rows", none), "function_rows", "function_rows", defArgs s_function_rows, defBody s_function_rows, defScope s_function_rows, [], []⟩
def d_write_book : He.DefD := ⟨("write_book", none), "write_book", "write_book", defArgs s_write_book, defBody s_write_book, defScope s_write_book, [], []⟩
def d_Words_init : He.DefD := ⟨("Words", some "__init__"), "__init__", "Words.__init__", defArgs s_Words_init, defBody s_Words_init, defScope s_Words_init, [], []⟩
def d_Words_pull : He.DefD := ⟨("Words", some "pull"), "pull", "Words.pull", defArgs s_Words_pull, defBody s_Words_pull, defScope s_Words_pull, [], []⟩
def d_Words_pull_figure : He.DefD := ⟨("Words", some "pull_figure"), "pull_figure", "Words.pull_figure", defArgs s_Words_pull_figure, defBody s_Words_pull_figure, defScope s_Words_pull_figure, [], []⟩
def d_Words_pull_name : He.DefD := ⟨("Words", some "pull_name"), "pull_name", "Words.pull_name", defArgs s_Words_pull_name, defBody s_Words_pull_name, defScope s_Words_pull_name, [], []⟩
def d_Words_is_done : He.DefD := ⟨("Words", some "is_done"), "is_done", "Words.is_done", defArgs s_Words_is_done, defBody s_Words_is_done, defScope s_Words_is_done, [], []⟩
def d_pulled_term : He.DefD := ⟨("pulled_term", none), "pulled_term", "pulled_term", defArgs s_pulled_term, defBody s_pulled_term, defScope s_pulled_term, [], []⟩
def d_term_in : He.DefD := ⟨("term_in", none), "term_in", "term_in", defArgs s_term_in, defBody s_term_in, defScope s_term_in, [], []⟩
def d_rows_in : He.DefD := ⟨("rows_in", none), "rows_in", "rows_in", defArgs s_rows_in, defBody s_rows_in, defScope s_rows_in, [], []⟩
def d_cell_in : He.DefD := ⟨("cell_in", none), "cell_in", "cell_in", defArgs s_cell_in, defBody s_cell_in, defScope s_cell_in, [], []⟩
def d_is_cost : He.DefD := ⟨("is_cost", none), "is_cost", "is_cost", defArgs s_is_cost, defBody s_is_cost, defScope s_is_cost, [], []⟩
def d_is_head : He.DefD := ⟨("is_head", none), "is_head", "is_head", defArgs s_is_head, defBody s_is_head, defScope s_is_head, [], []⟩
def d_write_in : He.DefD := ⟨("write_in", none), "write_in", "write_in", defArgs s_write_in, defBody s_write_in, defScope s_write_in, [], []⟩
def d_function_at : He.DefD := ⟨("function_at", none), "function_at", "function_at", defArgs s_function_at, defBody s_function_at, defScope s_function_at, [], []⟩
def d_read_book : He.DefD := ⟨("read_book", none), "read_book", "read_book", defArgs s_read_book, defBody s_read_book, defScope s_read_book, [], []⟩
def d__law_pool : He.DefD := ⟨("_law_pool", none), "_law_pool", "_law_pool", defArgs s__law_pool, defBody s__law_pool, defScope s__law_pool, [], []⟩
def d__law_draw : He.DefD := ⟨("_law_draw", none), "_law_draw", "_law_draw", defArgs s__law_draw, defBody s__law_draw, defScope s__law_draw, [], []⟩
def d__law_pick : He.DefD := ⟨("_law_pick", none), "_law_pick", "_law_pick", defArgs s__law_pick, defBody s__law_pick, defScope s__law_pick, [], []⟩
def d__law_names : He.DefD := ⟨("_law_names", none), "_law_names", "_law_names", defArgs s__law_names, defBody s__law_names, defScope s__law_names, [], []⟩
def d__law_term : He.DefD := ⟨("_law_term", none), "_law_term", "_law_term", defArgs s__law_term, defBody s__law_term, defScope s__law_term, [], []⟩
def d__law_writes : He.DefD := ⟨("_law_writes", none), "_law_writes", "_law_writes", defArgs s__law_writes, defBody s__law_writes, defScope s__law_writes, [], []⟩
def d__law_book : He.DefD := ⟨("_law_book", none), "_law_book", "_law_book", defArgs s__law_book, defBody s__law_book, defScope s__law_book, [], []⟩
def d__law_made_book : He.DefD := ⟨("_law_made_book", none), "_law_made_book", "_law_made_book", defArgs s__law_made_book, defBody s__law_made_book, defScope s__law_made_book, [], []⟩
def d__law_term_text : He.DefD := ⟨("_law_term_text", none), "_law_term_text", "_law_term_text", defArgs s__law_term_text, defBody s__law_term_text, defScope s__law_term_text, [], []⟩
def d__law_book_text : He.DefD := ⟨("_law_book_text", none), "_law_book_text", "_law_book_text", defArgs s__law_book_text, defBody s__law_book_text, defScope s__law_book_text, [], []⟩
def d_law : He.DefD := ⟨("law", none), "law", "law", defArgs s_law, defBody s_law, defScope s_law, [], []⟩
def fn : List He.DefD := [d_is_integer, d_is_between, d_is_value, d_is_name, d_has_kind, d_Cell_init, d_Cell_eq, d_is_label_name, d_Label_init, d_made_label, d_inner_terms, d_has_form, d_is_term, d_leaves, d_names_with, d_cells_in, d_are_writes, d_Function_init, d_Function_eq, d_Function_parts, d_checked_cells, d_fits, d_checked_functions, d_Book_init, d_Book_getitem, d_Book_eq, d_Book_all_cells, d_Book_names, d_write_term, d_function_rows, d_write_book, d_Words_init, d_Words_pull, d_Words_pull_figure, d_Words_pull_name, d_Words_is_done, d_pulled_term, d_term_in, d_rows_in, d_cell_in, d_is_cost, d_is_head, d_write_in, d_function_at, d_read_book, d__law_pool, d__law_draw, d__law_pick, d__law_names, d__law_term, d__law_writes, d__law_book, d__law_made_book, d__law_term_text, d__law_book_text, d_law]
def fa : List He.Fa := [.glo "is_integer", .glo "is_between", .glo "is_value", .glo "is_name", .glo "has_kind", .glo "is_label_name", .glo "made_label", .glo "inner_terms", .glo "has_form", .glo "is_term", .glo "leaves", .glo "names_with", .glo "cells_in", .glo "are_writes", .glo "checked_cells", .glo "fits", .glo "checked_functions", .glo "write_term", .glo "function_rows", .glo "write_book", .glo "pulled_term", .glo "term_in", .glo "rows_in", .glo "cell_in", .glo "is_cost", .glo "is_head", .glo "write_in", .glo "function_at", .glo "read_book", .glo "_law_pool", .glo "_law_draw", .glo "_law_pick", .glo "_law_names", .glo "_law_term", .glo "_law_writes", .glo "_law_book", .glo "_law_made_book", .glo "_law_term_text", .glo "_law_book_text", .glo "law", .glo "Cell", .glo "Label", .glo "Function", .glo "Book", .glo "Words", .glo "KINDS", .glo "LABELS", .glo "PAIRS", .int "MOST_LETTERS" 8, .int "MOST_VALUE" 2, .int "MOST_PARTS" 30, .int "MOST_DEPTH" 8, .int "MOST_ARGUMENTS" 2, .int "MOST_WRITES" 3, .int "MOST_COST" 99, .int "MOST_CELLS" 6, .int "MOST_FUNCTIONS" 8, .str "LETTERS" "abcdefghijklmnopqrstuvwxyz", .str "FIGURES" "0123456789", .str "VALUES" "012", .free "isinstance", .free "int", .free "bool", .free "str", .free "tuple", .free "list", .free "dict", .free "len", .free "all", .free "any", .free "range", .free "sorted", .free "enumerate", .free "abs", .free "sum", .free "min", .free "max", .cls "Cell", .mkr "Cell", .noat "Cell" "name", .noat "Cell" "kind", .meth "Cell" "__eq__", .cls "Label", .mkr "Label", .noat "Label" "name", .noat "Label" "height", .cls "Function", .mkr "Function", .noat "Function" "label", .noat "Function" "name", .noat "Function" "arguments", .noat "Function" "result", .noat "Function" "writes", .noat "Function" "cost", .meth "Function" "__eq__", .meth "Function" "parts", .cls "Book", .mkr "Book", .noat "Book" "cell_row", .noat "Book" "row", .meth "Book" "__getitem__", .meth "Book" "__eq__", .meth "Book" "all_cells", .meth "Book" "names", .cls "Words", .mkr "Words", .noat "Words" "left", .noat "Words" "is_bad", .meth "Words" "pull", .meth "Words" "pull_figure", .meth "Words" "pull_name", .meth "Words" "is_done"]
def tabs (K : PySem.W.Frag) : Bool := He.tupB K "KINDS" [.str "frozen", .str "setting", .str "table"] && (He.tupB K "LABELS" [.str "always", .str "session", .str "statement", .str "changing"] && (He.tupB K "PAIRS" [.str "plus", .str "less", .str "same"]))
/-- what isinstance asks of the class x -/
def insB (K : PySem.W.Frag) (x : Str) : Bool := decide (PySem.W.findIn K (.ref (He.ga K x)) "__class__" = some (some (.builtin "object.__class__"))) && (decide (PySem.W.specialIn K (.builtin "object.__class__") "__get__" = some (some (.builtin "getset_descriptor.__get__"))) &&
  (decide (PySem.W.takesIn K (.builtin "object.__class__") = some true) && (decide (PySem.W.mroIn K (He.ga K x) (.type "object") = some true) && decide (PySem.W.kitOne K (.ref (He.ga K x)) (.ref (He.ga K x)) = some true))))
/-- a class with an own == and no own != -/
def neB (K : PySem.W.Frag) (C f : Addr) : Bool := match K.lookup C with
  | some ⟨.type t, dd, .cls cd, sl⟩ => decide (t = "type") && (decide (cd.mro = [.ref C, .type "object"]) && (!cd.hasDel && (decide (sl.size = 6) && ((match sl.toList with
    | [_, _, _, _, some (.builtin id), _] => true
    | _ => false) && (match K.lookup cd.ns with
    | some ⟨_, _, .dict es _, _⟩ => es.toList.all (fun e => match e.key with
      | .str _ _ => true
      | _ => false) && (decide (nsFind es "__eq__" = some (.ref f)) && decide (nsFind es "__ne__" = none))
    | _ => false)))))
  | _ => false
/-- a written tuple without a dict of its own -/
def tdB (K : PySem.W.Frag) (x : Str) : Bool := match K.lookup (He.ga K x) with
  | some ⟨.type c, none, _, _⟩ => decide (c = "tuple")
  | _ => false
def exB (K : PySem.W.Frag) : Bool := tdB K "LABELS" && (tabs K && (insB K "Cell" && (insB K "Label" && (insB K "Function" && (insB K "Book" && (decide (PySem.W.kitOne K (.type "str") (.ref (He.ga K "Label")) = some false) &&
  (neB K (He.ga K "Book") (He.ma K (He.ga K "Book") "__eq__") && PySem.W.fnIn K (He.ma K (He.ga K "Book") "__getitem__"))))))))
/-- what all the walks lean on -/
structure Top (K : PySem.W.Frag) (mg : Str → Option Value) : Prop where
  at_ : ∃ h : Heap, K.In h ∧ h.Ns mainGlobals mg
  says : He.SaysD fa fn K
  ex : exB K = true
section
variable {K : PySem.W.Frag} {mg : Str → Option Value}
theorem Top.g_is_integer (T : Top K mg) : mg "is_integer" = some (.ref (He.ga K "is_integer")) := let ⟨_, X, G⟩ := T.at_; He.glo_ok X G (T.says.fact 0 (f := .glo "is_integer") rfl)
theorem Top.g_is_between (T : Top K mg) : mg "is_between" = some (.ref (He.ga K "is_between")) := let ⟨_, X, G⟩ := T.at_; He.glo_ok X G (T.says.fact 1 (f := .glo "is_between") rfl)
theorem Top.g_is_value (T : Top K mg) : mg "is_value" = some (.ref (He.ga K "is_value")) := let ⟨_, X, G⟩ := T.at_; He.glo_ok X G (T.says.fact 2 (f := .glo "is_value") rfl)
theorem Top.g_is_name (T : Top K mg) : mg "is_name" = some (.ref (He.ga K "is_name")) := let ⟨_, X, G⟩ := T.at_; He.glo_ok X G (T.says.fact 3 (f := .glo "is_name") rfl)
theorem Top.g_has_kind (T : Top K mg) : mg "has_kind" = some (.ref (He.ga K "has_kind")) := let ⟨_, X, G⟩ := T.at_; He.glo_ok X G (T.says.fact 4 (f := .glo "has_kind") rfl)
theorem Top.g_is_label_name (T : Top K mg) : mg "is_label_name" = some (.ref (He.ga K "is_label_name")) := let ⟨_, X, G⟩ := T.at_; He.glo_ok X G (T.says.fact 5 (f := .glo "is_label_name") rfl)
theorem Top.g_made_label (T : Top K mg) : mg "made_label" = some (.ref (He.ga K "made_label")) := let ⟨_, X, G⟩ := T.at_; He.glo_ok X G (T.says.fact 6 (f := .glo "made_label") rfl)
theorem Top.g_inner_terms (T : Top K mg) : mg "inner_terms" = some (.ref (He.ga K "inner_terms")) := let ⟨_, X, G⟩ := T.at_; He.glo_ok X G (T.says.fact 7 (f := .glo "inner_terms") rfl)
theorem Top.g_has_form (T : Top K mg) : mg "has_form" = some (.ref (He.ga K "has_form")) := let ⟨_, X, G⟩ := T.at_; He.glo_ok X G (T.says.fact 8 (f := .glo "has_form") rfl)
theorem Top.g_is_term (T : Top K mg) : mg "is_term" = some (.ref (He.ga K "is_term")) := let ⟨_, X, G⟩ := T.at_; He.glo_ok X G (T.says.fact 9 (f := .glo "is_term") rfl)
theorem Top.g_leaves (T : Top K mg) : mg "leaves" = some (.ref (He.ga K "leaves")) := let ⟨_, X, G⟩ := T.at_; He.glo_ok X G (T.says.fact 10 (f := .glo "leaves") rfl)
theorem Top.g_names_with (T : Top K mg) : mg "names_with" = some (.ref (He.ga K "names_with")) := let ⟨_, X, G⟩ := T.at_; He.glo_ok X G (T.says.fact 11 (f := .glo "names_with") rfl)
theorem Top.g_cells_in (T : Top K mg) : mg "cells_in" = some (.ref (He.ga K "cells_in")) := let ⟨_, X, G⟩ := T.at_; He.glo_ok X G (T.says.fact 12 (f := .glo "cells_in") rfl)
theorem Top.g_are_writes (T : Top K mg) : mg "are_writes" = some (.ref (He.ga K "are_writes")) := let ⟨_, X, G⟩ := T.at_; He.glo_ok X G (T.says.fact 13 (f := .glo "are_writes") rfl)
theorem Top.g_checked_cells (T : Top K mg) : mg "checked_cells" = some (.ref (He.ga K "checked_cells")) := let ⟨_, X, G⟩ := T.at_; He.glo_ok X G (T.says.fact 14 (f := .glo "checked_cells") rfl)
theorem Top.g_fits (T : Top K mg) : mg "fits" = some (.ref (He.ga K "fits")) := let ⟨_, X, G⟩ := T.at_; He.glo_ok X G (T.says.fact 15 (f := .glo "fits") rfl)
theorem Top.g_checked_functions (T : Top K mg) : mg "checked_functions" = some (.ref (He.ga K "checked_functions")) := let ⟨_, X, G⟩ := T.at_; He.glo_ok X G (T.says.fact 16 (f := .glo "checked_functions") rfl)
theorem Top.g_write_term (T : Top K mg) : mg "write_term" = some (.ref (He.ga K "write_term")) := let ⟨_, X, G⟩ := T.at_; He.glo_ok X G (T.says.fact 17 (f := .glo "write_term") rfl)
theorem Top.g_function_rows (T : Top K mg) : mg "function_rows" = some (.ref (He.ga K "function_rows")) := let ⟨_, X, G⟩ := T.at_; He.glo_ok X G (T.says.fact 18 (f := .glo "function_rows") rfl)
theorem Top.g_write_book (T : Top K mg) : mg "write_book" = some (.ref (He.ga K "write_book")) := let ⟨_, X, G⟩ := T.at_; He.glo_ok X G (T.says.fact 19 (f := .glo "write_book") rfl)
theorem Top.g_pulled_term (T : Top K mg) : mg "pulled_term" = some (.ref (He.ga K "pulled_term")) := let ⟨_, X, G⟩ := T.at_; He.glo_ok X G (T.says.fact 20 (f := .glo "pulled_term") rfl)
theorem Top.g_term_in (T : Top K mg) : mg "term_in" = some (.ref (He.ga K "term_in")) := let ⟨_, X, G⟩ := T.at_; He.glo_ok X G (T.says.fact 21 (f := .glo "term_in") rfl)
theorem Top.g_rows_in (T : Top K mg) : mg "rows_in" = some (.ref (He.ga K "rows_in")) := let ⟨_, X, G⟩ := T.at_; He.glo_ok X G (T.says.fact 22 (f := .glo "rows_in") rfl)
theorem Top.g_cell_in (T : Top K mg) : mg "cell_in" = some (.ref (He.ga K "cell_in")) := let ⟨_, X, G⟩ := T.at_; He.glo_ok X G (T.says.fact 23 (f := .glo "cell_in") rfl)
theorem Top.g_is_cost (T : Top K mg) : mg "is_cost" = some (.ref (He.ga K "is_cost")) := let ⟨_, X, G⟩ := T.at_; He.glo_ok X G (T.says.fact 24 (f := .glo "is_cost") rfl)
theorem Top.g_is_head (T : Top K mg) : mg "is_head" = some (.ref (He.ga K "is_head")) := let ⟨_, X, G⟩ := T.at_; He.glo_ok X G (T.says.fact 25 (f := .glo "is_head") rfl)
theorem Top.g_write_in (T : Top K mg) : mg "write_in" = some (.ref (He.ga K "write_in")) := let ⟨_, X, G⟩ := T.at_; He.glo_ok X G (T.says.fact 26 (f := .glo "write_in") rfl)
theorem Top.g_function_at (T : Top K mg) : mg "function_at" = some (.ref (He.ga K "function_at")) := let ⟨_, X, G⟩ := T.at_; He.glo_ok X G (T.says.fact 27 (f := .glo "function_at") rfl)
theorem Top.g_read_book (T : Top K mg) : mg "read_book" = some (.ref (He.ga K "read_book")) := let ⟨_, X, G⟩ := T.at_; He.glo_ok X G (T.says.fact 28 (f := .glo "read_book") rfl)
theorem Top.g__law_pool (T : Top K mg) : mg "_law_pool" = some (.ref (He.ga K "_law_pool")) := let ⟨_, X, G⟩ := T.at_; He.glo_ok X G (T.says.fact 29 (f := .glo "_law_pool") rfl)
theorem Top.g__law_draw (T : Top K mg) : mg "_law_draw" = some (.ref (He.ga K "_law_draw")) := let ⟨_, X, G⟩ := T.at_; He.glo_ok X G (T.says.fact 30 (f := .glo "_law_draw") rfl)
theorem Top.g__law_pick (T : Top K mg) : mg "_law_pick" = some (.ref (He.ga K "_law_pick")) := let ⟨_, X, G⟩ := T.at_; He.glo_ok X G (T.says.fact 31 (f := .glo "_law_pick") rfl)
theorem Top.g__law_names (T : Top K mg) : mg "_law_names" = some (.ref (He.ga K "_law_names")) := let ⟨_, X, G⟩ := T.at_; He.glo_ok X G (T.says.fact 32 (f := .glo "_law_names") rfl)
theorem Top.g__law_term (T : Top K mg) : mg "_law_term" = some (.ref (He.ga K "_law_term")) := let ⟨_, X, G⟩ := T.at_; He.glo_ok X G (T.says.fact 33 (f := .glo "_law_term") rfl)
theorem Top.g__law_writes (T : Top K mg) : mg "_law_writes" = some (.ref (He.ga K "_law_writes")) := let ⟨_, X, G⟩ := T.at_; He.glo_ok X G (T.says.fact 34 (f := .glo "_law_writes") rfl)
theorem Top.g__law_book (T : Top K mg) : mg "_law_book" = some (.ref (He.ga K "_law_book")) := let ⟨_, X, G⟩ := T.at_; He.glo_ok X G (T.says.fact 35 (f := .glo "_law_book") rfl)
theorem Top.g__law_made_book (T : Top K mg) : mg "_law_made_book" = some (.ref (He.ga K "_law_made_book")) := let ⟨_, X, G⟩ := T.at_; He.glo_ok X G (T.says.fact 36 (f := .glo "_law_made_book") rfl)
theorem Top.g__law_term_text (T : Top K mg) : mg "_law_term_text" = some (.ref (He.ga K "_law_term_text")) := let ⟨_, X, G⟩ := T.at_; He.glo_ok X G (T.says.fact 37 (f := .glo "_law_term_text") rfl)
theorem Top.g__law_book_text (T : Top K mg) : mg "_law_book_text" = some (.ref (He.ga K "_law_book_text")) := let ⟨_, X, G⟩ := T.at_; He.glo_ok X G (T.says.fact 38 (f := .glo "_law_book_text") rfl)
theorem Top.g_law (T : Top K mg) : mg "law" = some (.ref (He.ga K "law")) := let ⟨_, X, G⟩ := T.at_; He.glo_ok X G (T.says.fact 39 (f := .glo "law") rfl)
theorem Top.g_Cell (T : Top K mg) : mg "Cell" = some (.ref (He.ga K "Cell")) := let ⟨_, X, G⟩ := T.at_; He.glo_ok X G (T.says.fact 40 (f := .glo "Cell") rfl)
theorem Top.g_Label (T : Top K mg) : mg "Label" = some (.ref (He.ga K "Label")) := let ⟨_, X, G⟩ := T.at_; He.glo_ok X G (T.says.fact 41 (f := .glo "Label") rfl)
theorem Top.g_Function (T : Top K mg) : mg "Function" = some (.ref (He.ga K "Function")) := let ⟨_, X, G⟩ := T.at_; He.glo_ok X G (T.says.fact 42 (f := .glo "Function") rfl)
theorem Top.g_Book (T : Top K mg) : mg "Book" = some (.ref (He.ga K "Book")) := let ⟨_, X, G⟩ := T.at_; He.glo_ok X G (T.says.fact 43 (f := .glo "Book") rfl)
theorem Top.g_Words (T : Top K mg) : mg "Words" = some (.ref (He.ga K "Words")) := let ⟨_, X, G⟩ := T.at_; He.glo_ok X G (T.says.fact 44 (f := .glo "Words") rfl)
theorem Top.g_KINDS (T : Top K mg) : mg "KINDS" = some (.ref (He.ga K "KINDS")) := let ⟨_, X, G⟩ := T.at_; He.glo_ok X G (T.says.fact 45 (f := .glo "KINDS") rfl)
theorem Top.g_LABELS (T : Top K mg) : mg "LABELS" = some (.ref (He.ga K "LABELS")) := let ⟨_, X, G⟩ := T.at_; He.glo_ok X G (T.says.fact 46 (f := .glo "LABELS") rfl)
theorem Top.g_PAIRS (T : Top K mg) : mg "PAIRS" = some (.ref (He.ga K "PAIRS")) := let ⟨_, X, G⟩ := T.at_; He.glo_ok X G (T.says.fact 47 (f := .glo "PAIRS") rfl)
theorem Top.i_MOST_LETTERS (T : Top K mg) : ∃ t, mg "MOST_LETTERS" = some (.int 8 t) := let ⟨_, X, G⟩ := T.at_; He.int_ok X G (T.says.fact 48 (f := .int "MOST_LETTERS" 8) rfl)
theorem Top.i_MOST_VALUE (T : Top K mg) : ∃ t, mg "MOST_VALUE" = some (.int 2 t) := let ⟨_, X, G⟩ := T.at_; He.int_ok X G (T.says.fact 49 (f := .int "MOST_VALUE" 2) rfl)
theorem Top.i_MOST_PARTS (T : Top K mg) : ∃ t, mg "MOST_PARTS" = some (.int 30 t) := let ⟨_, X, G⟩ := T.at_; He.int_ok X G (T.says.fact 50 (f := .int "MOST_PARTS" 30) rfl)
theorem Top.i_MOST_DEPTH (T : Top K mg) : ∃ t, mg "MOST_DEPTH" = some (.int 8 t) := let ⟨_, X, G⟩ := T.at_; He.int_ok X G (T.says.fact 51 (f := .int "MOST_DEPTH" 8) rfl)
theorem Top.i_MOST_ARGUMENTS (T : Top K mg) : ∃ t, mg "MOST_ARGUMENTS" = some (.int 2 t) := let ⟨_, X, G⟩ := T.at_; He.int_ok X G (T.says.fact 52 (f := .int "MOST_ARGUMENTS" 2) rfl)
theorem Top.i_MOST_WRITES (T : Top K mg) : ∃ t, mg "MOST_WRITES" = some (.int 3 t) := let ⟨_, X, G⟩ := T.at_; He.int_ok X G (T.says.fact 53 (f := .int "MOST_WRITES" 3) rfl)
theorem Top.i_MOST_COST (T : Top K mg) : ∃ t, mg "MOST_COST" = some (.int 99 t) := let ⟨_, X, G⟩ := T.at_; He.int_ok X G (T.says.fact 54 (f := .int "MOST_COST" 99) rfl)
theorem Top.i_MOST_CELLS (T : Top K mg) : ∃ t, mg "MOST_CELLS" = some (.int 6 t) := let ⟨_, X, G⟩ := T.at_; He.int_ok X G (T.says.fact 55 (f := .int "MOST_CELLS" 6) rfl)
theorem Top.i_MOST_FUNCTIONS (T : Top K mg) : ∃ t, mg "MOST_FUNCTIONS" = some (.int 8 t) := let ⟨_, X, G⟩ := T.at_; He.int_ok X G (T.says.fact 56 (f := .int "MOST_FUNCTIONS" 8) rfl)
theorem Top.t_LETTERS (T : Top K mg) : ∃ t, mg "LETTERS" = some (.str "abcdefghijklmnopqrstuvwxyz" t) := let ⟨_, X, G⟩ := T.at_; He.str_ok X G (T.says.fact 57 (f := .str "LETTERS" "abcdefghijklmnopqrstuvwxyz") rfl)
theorem Top.t_FIGURES (T : Top K mg) : ∃ t, mg "FIGURES" = some (.str "0123456789" t) := let ⟨_, X, G⟩ := T.at_; He.str_ok X G (T.says.fact 58 (f := .str "FIGURES" "0123456789") rfl)
theorem Top.t_VALUES (T : Top K mg) : ∃ t, mg "VALUES" = some (.str "012" t) := let ⟨_, X, G⟩ := T.at_; He.str_ok X G (T.says.fact 59 (f := .str "VALUES" "012") rfl)
theorem Top.f_isinstance (T : Top K mg) : mg "isinstance" = none := let ⟨_, X, G⟩ := T.at_; He.free_ok X G (T.says.fact 60 (f := .free "isinstance") rfl)
theorem Top.f_int (T : Top K mg) : mg "int" = none := let ⟨_, X, G⟩ := T.at_; He.free_ok X G (T.says.fact 61 (f := .free "int") rfl)
theorem Top.f_bool (T : Top K mg) : mg "bool" = none := let ⟨_, X, G⟩ := T.at_; He.free_ok X G (T.says.fact 62 (f := .free "bool") rfl)
theorem Top.f_str (T : Top K mg) : mg "str" = none := let ⟨_, X, G⟩ := T.at_; He.free_ok X G (T.says.fact 63 (f := .free "str") rfl)
theorem Top.f_tuple (T : Top K mg) : mg "tuple" = none := let ⟨_, X, G⟩ := T.at_; He.free_ok X G (T.says.fact 64 (f := .free "tuple") rfl)
theorem Top.f_list (T : Top K mg) : mg "list" = none := let ⟨_, X, G⟩ := T.at_; He.free_ok X G (T.says.fact 65 (f := .free "list") rfl)
theorem Top.f_dict (T : Top K mg) : mg "dict" = none := let ⟨_, X, G⟩ := T.at_; He.free_ok X G (T.says.fact 66 (f := .free "dict") rfl)
theorem Top.f_len (T : Top K mg) : mg "len" = none := let ⟨_, X, G⟩ := T.at_; He.free_ok X G (T.says.fact 67 (f := .free "len") rfl)
theorem Top.f_all (T : Top K mg) : mg "all" = none := let ⟨_, X, G⟩ := T.at_; He.free_ok X G (T.says.fact 68 (f := .free "all") rfl)
theorem Top.f_any (T : Top K mg) : mg "any" = none := let ⟨_, X, G⟩ := T.at_; He.free_ok X G (T.says.fact 69 (f := .free "any") rfl)
theorem Top.f_range (T : Top K mg) : mg "range" = none := let ⟨_, X, G⟩ := T.at_; He.free_ok X G (T.says.fact 70 (f := .free "range") rfl)
theorem Top.f_sorted (T : Top K mg) : mg "sorted" = none := let ⟨_, X, G⟩ := T.at_; He.free_ok X G (T.says.fact 71 (f := .free "sorted") rfl)
theorem Top.f_enumerate (T : Top K mg) : mg "enumerate" = none := let ⟨_, X, G⟩ := T.at_; He.free_ok X G (T.says.fact 72 (f := .free "enumerate") rfl)
theorem Top.f_abs (T : Top K mg) : mg "abs" = none := let ⟨_, X, G⟩ := T.at_; He.free_ok X G (T.says.fact 73 (f := .free "abs") rfl)
theorem Top.f_sum (T : Top K mg) : mg "sum" = none := let ⟨_, X, G⟩ := T.at_; He.free_ok X G (T.says.fact 74 (f := .free "sum") rfl)
theorem Top.f_min (T : Top K mg) : mg "min" = none := let ⟨_, X, G⟩ := T.at_; He.free_ok X G (T.says.fact 75 (f := .free "min") rfl)
theorem Top.f_max (T : Top K mg) : mg "max" = none := let ⟨_, X, G⟩ := T.at_; He.free_ok X G (T.says.fact 76 (f := .free "max") rfl)
theorem Top.c_Cell (T : Top K mg) : Cls K (He.ga K "Cell") := He.cls_ok (T.says.fact 77 (f := .cls "Cell") rfl)
theorem Top.k_Cell (T : Top K mg) : Mk K (He.ga K "Cell") (He.ma K (He.ga K "Cell") "__init__") := He.mkr_ok (T.says.fact 78 (f := .mkr "Cell") rfl)
theorem Top.n_Cell_name (T : Top K mg) : NoAttr K (He.ga K "Cell") "name" := He.noat_ok (T.says.fact 79 (f := .noat "Cell" "name") rfl)
theorem Top.n_Cell_kind (T : Top K mg) : NoAttr K (He.ga K "Cell") "kind" := He.noat_ok (T.says.fact 80 (f := .noat "Cell" "kind") rfl)
theorem Top.m_Cell_eq (T : Top K mg) : Meth K (He.ga K "Cell") "__eq__" (He.ma K (He.ga K "Cell") "__eq__") := He.meth_ok (T.says.fact 81 (f := .meth "Cell" "__eq__") rfl)
theorem Top.c_Label (T : Top K mg) : Cls K (He.ga K "Label") := He.cls_ok (T.says.fact 82 (f := .cls "Label") rfl)
theorem Top.k_Label (T : Top K mg) : Mk K (He.ga K "Label") (He.ma K (He.ga K "Label") "__init__") := He.mkr_ok (T.says.fact 83 (f := .mkr "Label") rfl)
theorem Top.n_Label_name (T : Top K mg) : NoAttr K (He.ga K "Label") "name" := He.noat_ok (T.says.fact 84 (f := .noat "Label" "name") rfl)
theorem Top.n_Label_height (T : Top K mg) : NoAttr K (He.ga K "Label") "height" := He.noat_ok (T.says.fact 85 (f := .noat "Label" "height") rfl)
theorem Top.c_Function (T : Top K mg) : Cls K (He.ga K "Function") := He.cls_ok (T.says.fact 86 (f := .cls "Function") rfl)
theorem Top.k_Function (T : Top K mg) : Mk K (He.ga K "Function") (He.ma K (He.ga K "Function") "__init__") := He.mkr_ok (T.says.fact 87 (f := .mkr "Function") rfl)
theorem Top.n_Function_label (T : Top K mg) : NoAttr K (He.ga K "Function") "label" := He.noat_ok (T.says.fact 88 (f := .noat "Function" "label") rfl)
theorem Top.n_Function_name (T : Top K mg) : NoAttr K (He.ga K "Function") "name" := He.noat_ok (T.says.fact 89 (f := .noat "Function" "name") rfl)
theorem Top.n_Function_arguments (T : Top K mg) : NoAttr K (He.ga K "Function") "arguments" := He.noat_ok (T.says.fact 90 (f := .noat "Function" "arguments") rfl)
theorem Top.n_Function_result (T : Top K mg) : NoAttr K (He.ga K "Function") "result" := He.noat_ok (T.says.fact 91 (f := .noat "Function" "result") rfl)
theorem Top.n_Function_writes (T : Top K mg) : NoAttr K (He.ga K "Function") "writes" := He.noat_ok (T.says.fact 92 (f := .noat "Function" "writes") rfl)
theorem Top.n_Function_cost (T : Top K mg) : NoAttr K (He.ga K "Function") "cost" := He.noat_ok (T.says.fact 93 (f := .noat "Function" "cost") rfl)
theorem Top.m_Function_eq (T : Top K mg) : Meth K (He.ga K "Function") "__eq__" (He.ma K (He.ga K "Function") "__eq__") := He.meth_ok (T.says.fact 94 (f := .meth "Function" "__eq__") rfl)
theorem Top.m_Function_parts (T : Top K mg) : Meth K (He.ga K "Function") "parts" (He.ma K (He.ga K "Function") "parts") := He.meth_ok (T.says.fact 95 (f := .meth "Function" "parts") rfl)
theorem Top.c_Book (T : Top K mg) : Cls K (He.ga K "Book") := He.cls_ok (T.says.fact 96 (f := .cls "Book") rfl)
theorem Top.k_Book (T : Top K mg) : Mk K (He.ga K "Book") (He.ma K (He.ga K "Book") "__init__") := He.mkr_ok (T.says.fact 97 (f := .mkr "Book") rfl)
theorem Top.n_Book_cell_row (T : Top K mg) : NoAttr K (He.ga K "Book") "cell_row" := He.noat_ok (T.says.fact 98 (f := .noat "Book" "cell_row") rfl)
theorem Top.n_Book_row (T : Top K mg) : NoAttr K (He.ga K "Book") "row" := He.noat_ok (T.says.fact 99 (f := .noat "Book" "row") rfl)
theorem Top.m_Book_getitem (T : Top K mg) : Meth K (He.ga K "Book") "__getitem__" (He.ma K (He.ga K "Book") "__getitem__") := He.meth_ok (T.says.fact 100 (f := .meth "Book" "__getitem__") rfl)
theorem Top.m_Book_eq (T : Top K mg) : Meth K (He.ga K "Book") "__eq__" (He.ma K (He.ga K "Book") "__eq__") := He.meth_ok (T.says.fact 101 (f := .meth "Book" "__eq__") rfl)
theorem Top.m_Book_all_cells (T : Top K mg) : Meth K (He.ga K "Book") "all_cells" (He.ma K (He.ga K "Book") "all_cells") := He.meth_ok (T.says.fact 102 (f := .meth "Book" "all_cells") rfl)
theorem Top.m_Book_names (T : Top K mg) : Meth K (He.ga K "Book") "names" (He.ma K (He.ga K "Book") "names") := He.meth_ok (T.says.fact 103 (f := .meth "Book" "names") rfl)
theorem Top.c_Words (T : Top K mg) : Cls K (He.ga K "Words") := He.cls_ok (T.says.fact 104 (f := .cls "Words") rfl)
theorem Top.k_Words (T : Top K mg) : Mk K (He.ga K "Words") (He.ma K (He.ga K "Words") "__init__") := He.mkr_ok (T.says.fact 105 (f := .mkr "Words") rfl)
theorem Top.n_Words_left (T : Top K mg) : NoAttr K (He.ga K "Words") "left" := He.noat_ok (T.says.fact 106 (f := .noat "Words" "left") rfl)
theorem Top.n_Words_is_bad (T : Top K mg) : NoAttr K (He.ga K "Words") "is_bad" := He.noat_ok (T.says.fact 107 (f := .noat "Words" "is_bad") rfl)
theorem Top.m_Words_pull (T : Top K mg) : Meth K (He.ga K "Words") "pull" (He.ma K (He.ga K "Words") "pull") := He.meth_ok (T.says.fact 108 (f := .meth "Words" "pull") rfl)
theorem Top.m_Words_pull_figure (T : Top K mg) : Meth K (He.ga K "Words") "pull_figure" (He.ma K (He.ga K "Words") "pull_figure") := He.meth_ok (T.says.fact 109 (f := .meth "Words" "pull_figure") rfl)
theorem Top.m_Words_pull_name (T : Top K mg) : Meth K (He.ga K "Words") "pull_name" (He.ma K (He.ga K "Words") "pull_name") := He.meth_ok (T.says.fact 110 (f := .meth "Words" "pull_name") rfl)
theorem Top.m_Words_is_done (T : Top K mg) : Meth K (He.ga K "Words") "is_done" (He.ma K (He.ga K "Words") "is_done") := He.meth_ok (T.says.fact 111 (f := .meth "Words" "is_done") rfl)
/-- a def of the module -/
structure DF (K : PySem.W.Frag) (mg : Str → Option Value) (x : Str) (st : Stmt) : Prop where
  ex : ∃ f fd, FunD K x x (defArgs st) (defBody st) (defScope st) [] [] f fd ∧ mg x = some (.ref f)
theorem Top.d_is_integer (T : Top K mg) : DF K mg "is_integer" s_is_integer := let ⟨fd, F⟩ := T.says.def_ 0 (d := K80.d_is_integer) rfl; ⟨_, fd, F, T.g_is_integer⟩
theorem Top.d_is_between (T : Top K mg) : DF K mg "is_between" s_is_between := let ⟨fd, F⟩ := T.says.def_ 1 (d := K80.d_is_between) rfl; ⟨_, fd, F, T.g_is_between⟩
theorem Top.d_is_value (T : Top K mg) : DF K mg "is_value" s_is_value := let ⟨fd, F⟩ := T.says.def_ 2 (d := K80.d_is_value) rfl; ⟨_, fd, F, T.g_is_value⟩
theorem Top.d_is_name (T : Top K mg) : DF K mg "is_name" s_is_name := let ⟨fd, F⟩ := T.says.def_ 3 (d := K80.d_is_name) rfl; ⟨_, fd, F, T.g_is_name⟩
theorem Top.d_has_kind (T : Top K mg) : DF K mg "has_kind" s_has_kind := let ⟨fd, F⟩ := T.says.def_ 4 (d := K80.d_has_kind) rfl; ⟨_, fd, F, T.g_has_kind⟩
theorem Top.d_Cell_init (T : Top K mg) : ∃ fd, FunD K "__init__" "Cell.__init__" (defArgs s_Cell_init) (defBody s_Cell_init) (defScope s_Cell_init) [] [] (He.ma K (He.ga K "Cell") "__init__") fd := T.says.def_ 5 (d := K80.d_Cell_init) rfl
theorem Top.d_Cell_eq (T : Top K mg) : ∃ fd, FunD K "__eq__" "Cell.__eq__" (defArgs s_Cell_eq) (defBody s_Cell_eq) (defScope s_Cell_eq) [] [] (He.ma K (He.ga K "Cell") "__eq__") fd := T.says.def_ 6 (d := K80.d_Cell_eq) rfl
theorem Top.d_is_label_name (T : Top K mg) : DF K mg "is_label_name" s_is_label_name := let ⟨fd, F⟩ := T.says.def_ 7 (d := K80.d_is_label_name) rfl; ⟨_, fd, F, T.g_is_label_name⟩
theorem Top.d_Label_init (T : Top K mg) : ∃ fd, FunD K "__init__" "Label.__init__" (defArgs s_Label_init) (defBody s_Label_init) (defScope s_Label_init) [] [] (He.ma K (He.ga K "Label") "__init__") fd := T.says.def_ 8 (d := K80.d_Label_init) rfl
theorem Top.d_made_label (T : Top K mg) : DF K mg "made_label" s_made_label := let ⟨fd, F⟩ := T.says.def_ 9 (d := K80.d_made_label) rfl; ⟨_, fd, F, T.g_made_label⟩
theorem Top.d_inner_terms (T : Top K mg) : DF K mg "inner_terms" s_inner_terms := let ⟨fd, F⟩ := T.says.def_ 10 (d := K80.d_inner_terms) rfl; ⟨_, fd, F, T.g_inner_terms⟩
theorem Top.d_has_form (T : Top K mg) : DF K mg "has_form" s_has_form := let ⟨fd, F⟩ := T.says.def_ 11 (d := K80.d_has_form) rfl; ⟨_, fd, F, T.g_has_form⟩
theorem Top.d_is_term (T : Top K mg) : DF K mg "is_term" s_is_term := let ⟨fd, F⟩ := T.says.def_ 12 (d := K80.d_is_term) rfl; ⟨_, fd, F, T.g_is_term⟩
theorem Top.d_leaves (T : Top K mg) : DF K mg "leaves" s_leaves := let ⟨fd, F⟩ := T.says.def_ 13 (d := K80.d_leaves) rfl; ⟨_, fd, F, T.g_leaves⟩
theorem Top.d_names_with (T : Top K mg) : DF K mg "names_with" s_names_with := let ⟨fd, F⟩ := T.says.def_ 14 (d := K80.d_names_with) rfl; ⟨_, fd, F, T.g_names_with⟩
theorem Top.d_cells_in (T : Top K mg) : DF K mg "cells_in" s_cells_in := let ⟨fd, F⟩ := T.says.def_ 15 (d := K80.d_cells_in) rfl; ⟨_, fd, F, T.g_cells_in⟩
theorem Top.d_are_writes (T : Top K mg) : DF K mg "are_writes" s_are_writes := let ⟨fd, F⟩ := T.says.def_ 16 (d := K80.d_are_writes) rfl; ⟨_, fd, F, T.g_are_writes⟩
theorem Top.d_Function_init (T : Top K mg) : ∃ fd, FunD K "__init__" "Function.__init__" (defArgs s_Function_init) (defBody s_Function_init) (defScope s_Function_init) [] [("cost", .int 1)] (He.ma K (He.ga K "Function") "__init__") fd := T.says.def_ 17 (d := K80.d_Function_init) rfl
theorem Top.d_Function_eq (T : Top K mg) : ∃ fd, FunD K "__eq__" "Function.__eq__" (defArgs s_Function_eq) (defBody s_Function_eq) (defScope s_Function_eq) [] [] (He.ma K (He.ga K "Function") "__eq__") fd := T.says.def_ 18 (d := K80.d_Function_eq) rfl
theorem Top.d_Function_parts (T : Top K mg) : ∃ fd, FunD K "parts" "Function.parts" (defArgs s_Function_parts) (defBody s_Function_parts) (defScope s_Function_parts) [] [] (He.ma K (He.ga K "Function") "parts") fd := T.says.def_ 19 (d := K80.d_Function_parts) rfl
theorem Top.d_checked_cells (T : Top K mg) : DF K mg "checked_cells" s_checked_cells := let ⟨fd, F⟩ := T.says.def_ 20 (d := K80.d_checked_cells) rfl; ⟨_, fd, F, T.g_checked_cells⟩
theorem Top.d_fits (T : Top K mg) : DF K mg "fits" s_fits := let ⟨fd, F⟩ := T.says.def_ 21 (d := K80.d_fits) rfl; ⟨_, fd, F, T.g_fits⟩
theorem Top.d_checked_functions (T : Top K mg) : DF K mg "checked_functions" s_checked_functions := let ⟨fd, F⟩ := T.says.def_ 22 (d := K80.d_checked_functions) rfl; ⟨_, fd, F, T.g_checked_functions⟩
theorem Top.d_Book_init (T : Top K mg) : ∃ fd, FunD K "__init__" "Book.__init__" (defArgs s_Book_init) (defBody s_Book_init) (defScope s_Book_init) [] [] (He.ma K (He.ga K "Book") "__init__") fd := T.says.def_ 23 (d := K80.d_Book_init) rfl
theorem Top.d_Book_getitem (T : Top K mg) : ∃ fd, FunD K "__getitem__" "Book.__getitem__" (defArgs s_Book_getitem) (defBody s_Book_getitem) (defScope s_Book_getitem) [] [] (He.ma K (He.ga K "Book") "__getitem__") fd := T.says.def_ 24 (d := K80.d_Book_getitem) rfl
theorem Top.d_Book_eq (T : Top K mg) : ∃ fd, FunD K "__eq__" "Book.__eq__" (defArgs s_Book_eq) (defBody s_Book_eq) (defScope s_Book_eq) [] [] (He.ma K (He.ga K "Book") "__eq__") fd := T.says.def_ 25 (d := K80.d_Book_eq) rfl
theorem Top.d_Book_all_cells (T : Top K mg) : ∃ fd, FunD K "all_cells" "Book.all_cells" (defArgs s_Book_all_cells) (defBody s_Book_all_cells) (defScope s_Book_all_cells) [] [] (He.ma K (He.ga K "Book") "all_cells") fd := T.says.def_ 26 (d := K80.d_Book_all_cells) rfl
theorem Top.d_Book_names (T : Top K mg) : ∃ fd, FunD K "names" "Book.names" (defArgs s_Book_names) (defBody s_Book_names) (defScope s_Book_names) [] [] (He.ma K (He.ga K "Book") "names") fd := T.says.def_ 27 (d := K80.d_Book_names) rfl
theorem Top.d_write_term (T : Top K mg) : DF K mg "write_term" s_write_term := let ⟨fd, F⟩ := T.says.def_ 28 (d := K80.d_write_term) rfl; ⟨_, fd, F, T.g_write_term⟩
theorem Top.d_function_rows (T : Top K mg) : DF K mg "function_rows" s_function_rows := let ⟨fd, F⟩ := T.says.def_ 29 (d := K80.d_function_rows) rfl; ⟨_, fd, F, T.g_function_rows⟩
theorem Top.d_write_book (T : Top K mg) : DF K mg "write_book" s_write_book := let ⟨fd, F⟩ := T.says.def_ 30 (d := K80.d_write_book) rfl; ⟨_, fd, F, T.g_write_book⟩
theorem Top.d_Words_init (T : Top K mg) : ∃ fd, FunD K "__init__" "Words.__init__" (defArgs s_Words_init) (defBody s_Words_init) (defScope s_Words_init) [] [] (He.ma K (He.ga K "Words") "__init__") fd := T.says.def_ 31 (d := K80.d_Words_init) rfl
theorem Top.d_Words_pull (T : Top K mg) : ∃ fd, FunD K "pull" "Words.pull" (defArgs s_Words_pull) (defBody s_Words_pull) (defScope s_Words_pull) [] [] (He.ma K (He.ga K "Words") "pull") fd := T.says.def_ 32 (d := K80.d_Words_pull) rfl
theorem Top.d_Words_pull_figure (T : Top K mg) : ∃ fd, FunD K "pull_figure" "Words.pull_figure" (defArgs s_Words_pull_figure) (defBody s_Words_pull_figure) (defScope s_Words_pull_figure) [] [] (He.ma K (He.ga K "Words") "pull_figure") fd := T.says.def_ 33 (d := K80.d_Words_pull_figure) rfl
theorem Top.d_Words_pull_name (T : Top K mg) : ∃ fd, FunD K "pull_name" "Words.pull_name" (defArgs s_Words_pull_name) (defBody s_Words_pull_name) (defScope s_Words_pull_name) [] [] (He.ma K (He.ga K "Words") "pull_name") fd := T.says.def_ 34 (d := K80.d_Words_pull_name) rfl
theorem Top.d_Words_is_done (T : Top K mg) : ∃ fd, FunD K "is_done" "Words.is_done" (defArgs s_Words_is_done) (defBody s_Words_is_done) (defScope s_Words_is_done) [] [] (He.ma K (He.ga K "Words") "is_done") fd := T.says.def_ 35 (d := K80.d_Words_is_done) rfl
theorem Top.d_pulled_term (T : Top K mg) : DF K mg "pulled_term" s_pulled_term := let ⟨fd, F⟩ := T.says.def_ 36 (d := K80.d_pulled_term) rfl; ⟨_, fd, F, T.g_pulled_term⟩
theorem Top.d_term_in (T : Top K mg) : DF K mg "term_in" s_term_in := let ⟨fd, F⟩ := T.says.def_ 37 (d := K80.d_term_in) rfl; ⟨_, fd, F, T.g_term_in⟩
theorem Top.d_rows_in (T : Top K mg) : DF K mg "rows_in" s_rows_in := let ⟨fd, F⟩ := T.says.def_ 38 (d := K80.d_rows_in) rfl; ⟨_, fd, F, T.g_rows_in⟩
theorem Top.d_cell_in (T : Top K mg) : DF K mg "cell_in" s_cell_in := let ⟨fd, F⟩ := T.says.def_ 39 (d := K80.d_cell_in) rfl; ⟨_, fd, F, T.g_cell_in⟩
theorem Top.d_is_cost (T : Top K mg) : DF K mg "is_cost" s_is_cost := let ⟨fd, F⟩ := T.says.def_ 40 (d := K80.d_is_cost) rfl; ⟨_, fd, F, T.g_is_cost⟩
theorem Top.d_is_head (T : Top K mg) : DF K mg "is_head" s_is_head := let ⟨fd, F⟩ := T.says.def_ 41 (d := K80.d_is_head) rfl; ⟨_, fd, F, T.g_is_head⟩
theorem Top.d_write_in (T : Top K mg) : DF K mg "write_in" s_write_in := let ⟨fd, F⟩ := T.says.def_ 42 (d := K80.d_write_in) rfl; ⟨_, fd, F, T.g_write_in⟩
theorem Top.d_function_at (T : Top K mg) : DF K mg "function_at" s_function_at := let ⟨fd, F⟩ := T.says.def_ 43 (d := K80.d_function_at) rfl; ⟨_, fd, F, T.g_function_at⟩
theorem Top.d_read_book (T : Top K mg) : DF K mg "read_book" s_read_book := let ⟨fd, F⟩ := T.says.def_ 44 (d := K80.d_read_book) rfl; ⟨_, fd, F, T.g_read_book⟩
theorem Top.d__law_pool (T : Top K mg) : DF K mg "_law_pool" s__law_pool := let ⟨fd, F⟩ := T.says.def_ 45 (d := K80.d__law_pool) rfl; ⟨_, fd, F, T.g__law_pool⟩
theorem Top.d__law_draw (T : Top K mg) : DF K mg "_law_draw" s__law_draw := let ⟨fd, F⟩ := T.says.def_ 46 (d := K80.d__law_draw) rfl; ⟨_, fd, F, T.g__law_draw⟩
theorem Top.d__law_pick (T : Top K mg) : DF K mg "_law_pick" s__law_pick := let ⟨fd, F⟩ := T.says.def_ 47 (d := K80.d__law_pick) rfl; ⟨_, fd, F, T.g__law_pick⟩
theorem Top.d__law_names (T : Top K mg) : DF K mg "_law_names" s__law_names := let ⟨fd, F⟩ := T.says.def_ 48 (d := K80.d__law_names) rfl; ⟨_, fd, F, T.g__law_names⟩
theorem Top.d__law_term (T : Top K mg) : DF K mg "_law_term" s__law_term := let ⟨fd, F⟩ := T.says.def_ 49 (d := K80.d__law_term) rfl; ⟨_, fd, F, T.g__law_term⟩
theorem Top.d__law_writes (T : Top K mg) : DF K mg "_law_writes" s__law_writes := let ⟨fd, F⟩ := T.says.def_ 50 (d := K80.d__law_writes) rfl; ⟨_, fd, F, T.g__law_writes⟩
theorem Top.d__law_book (T : Top K mg) : DF K mg "_law_book" s__law_book := let ⟨fd, F⟩ := T.says.def_ 51 (d := K80.d__law_book) rfl; ⟨_, fd, F, T.g__law_book⟩
theorem Top.d__law_made_book (T : Top K mg) : DF K mg "_law_made_book" s__law_made_book := let ⟨fd, F⟩ := T.says.def_ 52 (d := K80.d__law_made_book) rfl; ⟨_, fd, F, T.g__law_made_book⟩
theorem Top.d__law_term_text (T : Top K mg) : DF K mg "_law_term_text" s__law_term_text := let ⟨fd, F⟩ := T.says.def_ 53 (d := K80.d__law_term_text) rfl; ⟨_, fd, F, T.g__law_term_text⟩
theorem Top.d__law_book_text (T : Top K mg) : DF K mg "_law_book_text" s__law_book_text := let ⟨fd, F⟩ := T.says.def_ 54 (d := K80.d__law_book_text) rfl; ⟨_, fd, F, T.g__law_book_text⟩
theorem Top.d_law (T : Top K mg) : DF K mg "law" s_law := let ⟨fd, F⟩ := T.says.def_ 55 (d := K80.d_law) rfl; ⟨_, fd, F, T.g_law⟩
end
end K80
set_option maxHeartbeats 0
namespace K80
open PySem PySem.W PySem.Calls PySem.Spec PyProof.Rows L2
/-! ### the head: one run of the top in the kernel -/
abbrev R : PySem.W.OpenRow := PySem.W.OpenLaw.row PySem.Challenge.rw_steadycalls_k80_whole_books_as_texts
abbrev AlM : Type := He.AlD × Bool
def obsM (K : PySem.W.Frag) : AlM := (He.obsD fa fn K, exB K)
def valM : AlM := (He.valD fn, true)
def obsMG (n : Nat) (g : Addr → Option Obj) : AlM := obsM (He.frG g (He.asD g n))
def hookM (n : Nat) : PySem.W.Hook where
  α := AlM
  obs := fun s => obsMG n s.heap.get?
  val := fun _ => valM
  says := fun _ h => ∃ K : PySem.W.Frag, K.In h ∧ obsM K = valM
  of := fun _ _ e => ⟨_, He.frG_in, e⟩
  keeps := fun _ _ _ ⟨K, hK, c⟩ k => ⟨K, PySem.W.Frag.In.keeps hK k, c⟩
theorem obsMG_eq {n : Nat} {g : Addr → Option Obj} {s : Shared} (h : ∀ a, g a = s.heap.get? a) : obsMG n g = (hookM n).obs s := by
  have e : g = s.heap.get? := funext h
  rw [e] <;> rfl
abbrev hk : PySem.W.Hook := hookM 4
def ob (s : PySem.W.SharedT) : AlM := obsMG 4 (HandSHeadRun.getT s)
theorem ob_eq (s : PySem.W.SharedT) : ob s = hk.obs s.abs := obsMG_eq (HandSHeadRun.getT_eq s)
def l1 : List Str := ["__name__", "_wall", "StoreError", "BadLabel", "BadCell", "BadPart", "BadTerm", "BadFunction", "BadText", "UnknownName", "TooMany", "LETTERS", "MOST_LETTERS", "MOST_VALUE", "is_integer", "is_between", "is_value", "is_name", "has_kind", "KINDS", "Cell", "LABELS", "is_label_name", "Label", "made_label", "MOST_PARTS", "MOST_DEPTH", "MOST_ARGUMENTS", "PAIRS"]
def l2 : List Str := ["inner_terms", "has_form", "is_term", "leaves", "names_with", "cells_in", "MOST_WRITES", "MOST_COST", "are_writes", "Function", "MOST_CELLS", "MOST_FUNCTIONS", "checked_cells", "fits", "checked_functions", "Book", "FIGURES", "VALUES", "write_term", "function_rows", "write_book", "Words", "pulled_term", "term_in", "rows_in", "cell_in", "is_cost", "is_head", "write_in", "function_at", "read_book"]
def l3 : List Str := ["_law_pool", "_law_draw", "_law_pick", "_law_names", "_law_term", "_law_writes", "_law_book", "_law_made_book", "_law_term_text", "_law_book_text"]
def loose : List Str := l1 ++ (l2 ++ l3)
/-- the state behind the top, by the library's twins -/
noncomputable abbrev atEnd (w : World) (os : OsState) : Option PySem.W.SharedT := HandSHeadRun.endF (HandSHeadRun.stepQ (HandSHeadRun.denQ HandSHeadRun.tabQ) R.prog w) 6000 R.prog w os
theorem runA (w : World) (os : OsState) : (atEnd w os).map (fun s => HandSHeadRun.looksF R.prog (boot_heap w.params) s.abs) = some true := by
  kernel_rfl
theorem runB (w : World) (os : OsState) : (atEnd w os).map (fun s => HandSHeadRun.seenQ (PySem.W.view R.prog [78]) loose (importedModules R.prog.main.body) (fun s => PySem.W.xlAt (PySem.W.view R.prog [78]) [] s && PySem.W.recOk R.toRowW.records s) s.abs) = some (PySem.W.openGood (PySem.W.view R.prog [78]) loose) := by
  kernel_rfl
theorem runC (w : World) (os : OsState) : (atEnd w os).map (fun s => ob s) = some valM := by
  kernel_rfl
theorem map3 {A B C D : Type} {o : Option A} {f : A → B} {g : A → C} {h : A → D} {x : B} {y : C} {z : D} (e1 : o.map f = some x) (e2 : o.map g = some y) (e3 : o.map h = some z) : o.map (fun s => (f s, g s, h s)) = some (x, y, z) := by
  cases o with
  | none => cases e1
  | some a =>
    have h1 : f a = x := Option.some.inj e1
    have h2 : g a = y := Option.some.inj e2
    have h3 : h a = z := Option.some.inj e3
    rw [← h1, ← h2, ← h3]
    all_goals rfl
theorem run (w : World) : HandSHeadRun.RunEq R (PySem.W.view R.prog [78]) hk ob 6000 loose w := fun os => map3 (runA w os) (runB w os) (runC w os)
theorem top_of {K : PySem.W.Frag} {mg : Str → Option Value} {h : Heap} (X : K.In h) (G : h.Ns mainGlobals mg) (c : obsM K = valM) : Top K mg :=
  ⟨⟨h, X, G⟩, congrArg (fun z : AlM => z.1) c, congrArg (fun z : AlM => z.2) c⟩
end K80
namespace K80
open PySem PySem.Spec PyProof.Rows L2
/-! ### texts: rows of words -/
abbrev tl (x : Str) : List Nat := TL.tl x
/-- the text of a row of words -/
def tx (ws : List Str) : Str := Txt.join " " ws
/-- a text of rows -/
def ty (rs : List Str) : Str := Txt.join "\n" rs
theorem tl_sp : tl " " = [32] := by decide +kernel
theorem tl_nl : tl "\n" = [10] := by decide +kernel
theorem joinL_app (S : List Nat) : ∀ (l m : List (List Nat)), l ≠ [] → m ≠ [] → TL.joinL S (l ++ m) = TL.joinL S l ++ (S ++ TL.joinL S m)
  | [], _, h, _ => absurd rfl h
  | [p], q :: r, _, _ => rfl
  | [p], [], _, h => absurd rfl h
  | p :: q :: r, m, _, h => by
    show p ++ (S ++ TL.joinL S (q :: r ++ m)) = p ++ (S ++ TL.joinL S (q :: r)) ++ (S ++ TL.joinL S m)
    rw [joinL_app S (q :: r) m (by simp) h]
    simp [List.append_assoc]
theorem joinL_flat (S : List Nat) : ∀ (l : List (List (List Nat))), (∀ w ∈ l, w ≠ []) → TL.joinL S (l.map (TL.joinL S)) = TL.joinL S l.flatten
  | [], _ => rfl
  | [w], _ => by simp [TL.joinL]
  | w :: v :: r, h => by
    have ih := joinL_flat S (v :: r) fun x hx => h x (List.mem_cons_of_mem _ hx)
    have hv : (v :: r).flatten ≠ [] := by
      have := h v (by simp)
      simp [this]
    show TL.joinL S w ++ (S ++ TL.joinL S ((v :: r).map (TL.joinL S))) = TL.joinL S (w ++ (v :: r).flatten)
    rw [ih, joinL_app S w _ (h w (by simp)) hv]
theorem tl_tx (ws : List Str) : tl (tx ws) = TL.joinL [32] (ws.map tl) := by
  show TL.tl (Txt.join " " ws) = _
  rw [TL.join_eq, TL.tl_join]
  show TL.joinL (tl " ") _ = _
  rw [tl_sp]
theorem map_tl_flat : ∀ l : List (List Str), (l.flatten).map tl = (l.map (fun ws => ws.map tl)).flatten
  | [] => rfl
  | w :: r => by rw [List.flatten_cons, List.map_append, map_tl_flat r]; rfl
theorem tx_flat (l : List (List Str)) (h : ∀ w ∈ l, w ≠ []) : tx (l.map tx) = tx l.flatten := by
  refine TL.ext_tl ?_
  have e := joinL_flat [32] (l.map (fun ws => ws.map tl)) (fun w hw => by
    obtain ⟨z, hz, rfl⟩ := List.mem_map.mp hw
    intro q
    exact h z hz (List.map_eq_nil_iff.mp q))
  have e1 : tl (tx (l.map tx)) = TL.joinL [32] (l.map fun ws => TL.joinL [32] (ws.map tl)) := by
    rw [tl_tx, List.map_map]
    congr 1
    exact List.map_congr_left fun ws _ => tl_tx ws
  rw [List.map_map] at e
  show tl (tx (l.map tx)) = tl (tx l.flatten)
  rw [e1, tl_tx, map_tl_flat]
  exact e
theorem tx_one (w : Str) : tx [w] = w := by
  refine TL.ext_tl ?_
  show tl (tx [w]) = tl w
  rw [tl_tx]
  rfl
theorem map_one : ∀ hd : List Str, hd.map (tx ∘ fun w => [w]) = hd
  | [] => rfl
  | a :: r => by rw [List.map_cons, map_one r, Function.comp_apply, tx_one]
theorem flat_one : ∀ hd : List Str, (hd.map (fun w => [w])).flatten = hd
  | [] => rfl
  | a :: r => by rw [List.map_cons, List.flatten_cons, flat_one r]; rfl
/-- a head of words, then texts -/
theorem tx_head (hd : List Str) (l : List (List Str)) (h : ∀ w ∈ l, w ≠ []) : tx (hd ++ l.map tx) = tx (hd ++ l.flatten) := by
  have e := tx_flat (hd.map (fun w => [w]) ++ l) (fun w hw => by
    rcases List.mem_append.mp hw with q | q
    · obtain ⟨z, _, rfl⟩ := List.mem_map.mp q
      simp
    · exact h w q)
  rw [List.map_append, List.map_map, List.flatten_append] at e
  have e1 := map_one hd
  have e2 := flat_one hd
  rw [e1, e2] at e
  exact e
theorem split_tx {ws : List Str} (hne : ws ≠ []) (h : ∀ w ∈ ws, 32 ∉ tl w) : Txt.split (tx ws) " " = ws := TL.split_join (y := " ") (s := 32) (S := []) tl_sp (by decide +kernel) hne h
theorem split_ty {ws : List Str} (hne : ws ≠ []) (h : ∀ w ∈ ws, 10 ∉ tl w) : Txt.split (ty ws) "\n" = ws := TL.split_join (y := "\n") (s := 10) (S := []) tl_nl (by decide +kernel) hne h
theorem mem_joinL {S : List Nat} {c : Nat} : ∀ {l : List (List Nat)}, c ∈ TL.joinL S l → c ∈ S ∨ ∃ w ∈ l, c ∈ w
  | [], h => by simp [TL.joinL] at h
  | [p], h => .inr ⟨p, by simp, h⟩
  | p :: q :: r, h => by
    have h1 : c ∈ p ++ (S ++ TL.joinL S (q :: r)) := h
    rcases List.mem_append.mp h1 with h2 | h2
    · exact .inr ⟨p, by simp, h2⟩
    · rcases List.mem_append.mp h2 with h3 | h3
      · exact .inl h3
      · rcases mem_joinL h3 with h4 | ⟨w, hw, h4⟩
        · exact .inl h4
        · exact .inr ⟨w, List.mem_cons_of_mem _ hw, h4⟩
theorem tx_no10 {ws : List Str} (h : ∀ w ∈ ws, 10 ∉ tl w) : 10 ∉ tl (tx ws) := by
  intro m
  rw [tl_tx] at m
  rcases mem_joinL m with q | ⟨w, hw, q⟩
  · simp at q
  · obtain ⟨z, hz, rfl⟩ := List.mem_map.mp hw
    exact h z hz q
theorem len_joinL (S : List Nat) : ∀ l : List (List Nat), (TL.joinL S l).length ≤ (l.map (·.length)).sum + l.length * S.length
  | [] => by simp [TL.joinL]
  | [p] => by simp [TL.joinL]
  | p :: q :: r => by
    have ih := len_joinL S (q :: r)
    show (p ++ (S ++ TL.joinL S (q :: r))).length ≤ _
    rw [List.length_append, List.length_append, List.map_cons, List.sum_cons, List.length_cons, Nat.succ_mul]
    omega
/-- how long a row of words is, with a sign behind each -/
def wl (ws : List Str) : Nat := (ws.map (·.length)).sum + ws.length
theorem wl_nil : wl [] = 0 := rfl
theorem wl_cons (w : Str) (ws : List Str) : wl (w :: ws) = w.length + 1 + wl ws := by
  unfold wl
  rw [List.map_cons, List.sum_cons, List.length_cons]
  omega
theorem wl_app (a b : List Str) : wl (a ++ b) = wl a + wl b := by
  unfold wl
  rw [List.map_append, List.sum_append, List.length_append]
  omega
theorem map_len_tl (ws : List Str) : (ws.map tl).map (·.length) = ws.map (·.length) := by
  rw [List.map_map]
  exact List.map_congr_left fun w _ => (TL.len_tl w).symm
theorem len_tx (ws : List Str) : (tx ws).length ≤ wl ws := by
  have e := len_joinL [32] (ws.map tl)
  rw [map_len_tl, List.length_map] at e
  rw [TL.len_tl]
  show (tl (tx ws)).length ≤ _
  rw [tl_tx]
  unfold wl
  simpa using e
theorem len_ty (ws : List Str) : (ty ws).length ≤ wl ws := by
  have e := len_joinL [10] (ws.map tl)
  rw [map_len_tl, List.length_map] at e
  rw [TL.len_tl]
  show (TL.tl (Txt.join "\n" ws)).length ≤ _
  rw [TL.join_eq, TL.tl_join]
  show (TL.joinL (tl "\n") _).length ≤ _
  rw [tl_nl]
  unfold wl
  simpa using e
/-! ### figures, names -/
def num (n : Nat) : Str := Str.ofString (toString ((n : Nat) : Int))
theorem num_eq : ∀ n, n < 10 → num n = ⟨#[48 + n]⟩ := by decide +kernel
theorem num_len {n : Nat} (h : n < 10) : (num n).length = 1 := by rw [num_eq n h]; rfl
theorem tl_num {n : Nat} (h : n < 10) : tl (num n) = [48 + n] := by rw [num_eq n h]
/-- a name -/
def Nm (z : Str) : Prop := 1 ≤ z.length ∧ z.length ≤ 8 ∧ ∀ c ∈ tl z, 97 ≤ c ∧ c ≤ 122
theorem Nm.no {z : Str} (h : Nm z) {c : Nat} (hc : c < 97) : c ∉ tl z := fun m => by
  have := (h.2.2 c m).1
  omega
/-- a word of a row: neither a blank nor a line break, at most nine signs -/
def Wd (z : Str) : Prop := 32 ∉ tl z ∧ 10 ∉ tl z ∧ z.length ≤ 9
theorem Nm.wd {z : Str} (h : Nm z) : Wd z := ⟨h.no (by decide), h.no (by decide), by have := h.2.1; omega⟩
theorem num_wd {n : Nat} (h : n < 10) : Wd (num n) := ⟨by rw [tl_num h]; simp; omega, by rw [tl_num h]; simp; omega, by rw [num_len h]; omega⟩
instance (z : Str) : Decidable (Wd z) := by unfold Wd; exact inferInstance
/-! ### terms -/
inductive Tm where
  | val (n : Nat) | arg (i : Nat) | cell (c : Str) | tick
  | two (k : Str) (a b : Tm) | ite (c a b : Tm)
  | call0 (f : Str) | call1 (f : Str) (a : Tm) | call2 (f : Str) (a b : Tm)
/-- how a term stands: a value; a tuple of plain things; a word and the terms; a call, its name and the terms in a tuple -/
inductive Sh where
  | val (n : Nat) | leaf (xs : List V) | node (k : Str) | call (f : Str)
namespace Tm
def sh : Tm → Sh
  | .val n => .val n
  | .arg i => .leaf [.str "arg", .int (i : Nat)]
  | .cell c => .leaf [.str "cell", .str c]
  | .tick => .leaf [.str "tick"]
  | .two k _ _ => .node k
  | .ite _ _ _ => .node "if"
  | .call0 f => .call f
  | .call1 f _ => .call f
  | .call2 f _ _ => .call f
def kids : Tm → List Tm
  | .two _ a b => [a, b]
  | .ite c a b => [c, a, b]
  | .call1 _ a => [a]
  | .call2 _ a b => [a, b]
  | _ => []
def depth : Tm → Nat
  | .two _ a b => 1 + max a.depth b.depth
  | .ite c a b => 1 + max c.depth (max a.depth b.depth)
  | .call1 _ a => 1 + a.depth
  | .call2 _ a b => 1 + max a.depth b.depth
  | _ => 1
def size : Tm → Nat
  | .two _ a b => 1 + a.size + b.size
  | .ite c a b => 1 + c.size + a.size + b.size
  | .call1 _ a => 1 + a.size
  | .call2 _ a b => 1 + a.size + b.size
  | _ => 1
def words : Tm → List Str
  | .val n => [num n]
  | .arg i => ["arg", num i]
  | .cell c => ["cell", c]
  | .tick => ["tick"]
  | .two k a b => k :: (a.words ++ b.words)
  | .ite c a b => "if" :: (c.words ++ (a.words ++ b.words))
  | .call0 f => ["call", f, num 0]
  | .call1 f a => "call" :: f :: num 1 :: a.words
  | .call2 f a b => "call" :: f :: num 2 :: (a.words ++ b.words)
/-- the words ahead of the terms within -/
def head : Tm → List Str
  | .val n => [num n]
  | .arg i => ["arg", num i]
  | .cell c => ["cell", c]
  | .tick => ["tick"]
  | .two k _ _ => [k]
  | .ite _ _ _ => ["if"]
  | .call0 f => ["call", f, num 0]
  | .call1 f _ => ["call", f, num 1]
  | .call2 f _ _ => ["call", f, num 2]
def IsPair (k : Str) : Prop := k = "plus" ∨ k = "less" ∨ k = "same"
/-- its form: names are names, figures are figures -/
def wf (m : Nat) : Tm → Prop
  | .val n => n ≤ 2
  | .arg i => i < m
  | .cell c => Nm c
  | .tick => True
  | .two k a b => IsPair k ∧ a.wf m ∧ b.wf m
  | .ite c a b => c.wf m ∧ a.wf m ∧ b.wf m
  | .call0 f => Nm f
  | .call1 f a => Nm f ∧ a.wf m
  | .call2 f a b => Nm f ∧ a.wf m ∧ b.wf m
/-- it names cells of cs and functions of fs alone -/
def ok (cs : List Str) (fs : List (Str × Nat)) : Tm → Prop
  | .cell c => c ∈ cs
  | .two _ a b => a.ok cs fs ∧ b.ok cs fs
  | .ite c a b => c.ok cs fs ∧ a.ok cs fs ∧ b.ok cs fs
  | .call0 f => (f, 0) ∈ fs
  | .call1 f a => (f, 1) ∈ fs ∧ a.ok cs fs
  | .call2 f a b => (f, 2) ∈ fs ∧ a.ok cs fs ∧ b.ok cs fs
  | _ => True
theorem words_eq (t : Tm) : t.words = t.head ++ (t.kids.map words).flatten := by
  cases t <;> simp [words, head, kids]
theorem words_ne (t : Tm) : t.words ≠ [] := by
  cases t <;> simp [words]
theorem depth_eq (t : Tm) : ∀ k ∈ t.kids, k.depth + 1 ≤ t.depth := by
  cases t <;> simp [depth, kids] <;> omega
theorem depth_pos (t : Tm) : 1 ≤ t.depth := by
  cases t <;> simp [depth]
theorem size_eq (t : Tm) : t.size = 1 + (t.kids.map size).sum := by
  cases t <;> simp [size, kids] <;> omega
theorem size_pos (t : Tm) : 1 ≤ t.size := by
  rw [size_eq]; omega
theorem wf_kids {m : Nat} {t : Tm} (h : t.wf m) : ∀ k ∈ t.kids, k.wf m := by
  cases t <;> simp [wf, kids] at h ⊢
  · exact h.2
  · exact h
  · exact h.2
  · exact h.2
theorem ok_kids {cs : List Str} {fs : List (Str × Nat)} {t : Tm} (h : t.ok cs fs) : ∀ k ∈ t.kids, k.ok cs fs := by
  cases t <;> simp [ok, kids] at h ⊢
  · exact h
  · exact h
  · exact h.2
  · exact h.2
theorem wf_mono {m m' : Nat} (hm : m ≤ m') : ∀ {t : Tm}, t.wf m → t.wf m'
  | .val _, h => h
  | .arg i, h => Nat.lt_of_lt_of_le h hm
  | .cell _, h => h
  | .tick, h => h
  | .two _ _ _, h => ⟨h.1, wf_mono hm h.2.1, wf_mono hm h.2.2⟩
  | .ite _ _ _, h => ⟨wf_mono hm h.1, wf_mono hm h.2.1, wf_mono hm h.2.2⟩
  | .call0 _, h => h
  | .call1 _ _, h => ⟨h.1, wf_mono hm h.2⟩
  | .call2 _ _ _, h => ⟨h.1, wf_mono hm h.2.1, wf_mono hm h.2.2⟩
theorem wd_pair {k : Str} (h : IsPair k) : Wd k := by
  rcases h with rfl | rfl | rfl <;> decide +kernel
/-- every word of a term -/
theorem words_wd {m : Nat} (hm : m ≤ 2) : ∀ {t : Tm}, t.wf m → ∀ w ∈ t.words, Wd w
  | .val n, h => by
    have h' : n ≤ 2 := h
    intro w hw
    simp [words] at hw
    subst hw
    exact num_wd (by omega)
  | .arg i, h => by
    have h' : i < m := h
    intro w hw
    simp [words] at hw
    rcases hw with rfl | rfl
    · decide +kernel
    · exact num_wd (by omega)
  | .cell c, h => by
    intro w hw
    simp [words] at hw
    rcases hw with rfl | rfl
    · decide +kernel
    · exact Nm.wd h
  | .tick, h => by
    intro w hw
    simp [words] at hw
    subst hw
    decide +kernel
  | .two k a b, h => by
    intro w hw
    simp [words] at hw
    rcases hw with rfl | hw | hw
    · exact wd_pair h.1
    · exact words_wd hm h.2.1 w hw
    · exact words_wd hm h.2.2 w hw
  | .ite c a b, h => by
    intro w hw
    simp [words] at hw
    rcases hw with rfl | hw | hw | hw
    · decide +kernel
    · exact words_wd hm h.1 w hw
    · exact words_wd hm h.2.1 w hw
    · exact words_wd hm h.2.2 w hw
  | .call0 f, h => by
    intro w hw
    simp [words] at hw
    rcases hw with rfl | rfl | rfl
    · decide +kernel
    · exact Nm.wd h
    · exact num_wd (by decide)
  | .call1 f a, h => by
    intro w hw
    simp [words] at hw
    rcases hw with rfl | rfl | rfl | hw
    · decide +kernel
    · exact Nm.wd h.1
    · exact num_wd (by decide)
    · exact words_wd hm h.2 w hw
  | .call2 f a b, h => by
    intro w hw
    simp [words] at hw
    rcases hw with rfl | rfl | rfl | hw | hw
    · decide +kernel
    · exact Nm.wd h.1
    · exact num_wd (by decide)
    · exact words_wd hm h.2.1 w hw
    · exact words_wd hm h.2.2 w hw
theorem words_len : ∀ t : Tm, t.words.length ≤ 3 * t.size
  | .val _ => by simp [words, size]
  | .arg _ => by simp [words, size]
  | .cell _ => by simp [words, size]
  | .tick => by simp [words, size]
  | .two _ a b => by
    have h1 := words_len a
    have h2 := words_len b
    simp [words, size]
    omega
  | .ite c a b => by
    have h0 := words_len c
    have h1 := words_len a
    have h2 := words_len b
    simp [words, size]
    omega
  | .call0 _ => by simp [words, size]
  | .call1 _ a => by
    have h1 := words_len a
    simp [words, size]
    omega
  | .call2 _ a b => by
    have h1 := words_len a
    have h2 := words_len b
    simp [words, size]
    omega
end Tm
theorem wl_le {ws : List Str} (h : ∀ w ∈ ws, Wd w) : wl ws ≤ 10 * ws.length := by
  induction ws with
  | nil => simp [wl]
  | cons w r ih =>
    have h1 := ih fun x hx => h x (List.mem_cons_of_mem _ hx)
    have h2 := (h w (List.mem_cons_self ..)).2.2
    rw [wl_cons, List.length_cons]
    omega
/-- the text of a term -/
def Tm.text (t : Tm) : Str := tx t.words
theorem Tm.text_eq (t : Tm) : t.text = tx (t.head ++ t.kids.map Tm.text) := by
  have e := tx_head t.head (t.kids.map Tm.words) (fun w hw => by
    obtain ⟨k, _, rfl⟩ := List.mem_map.mp hw
    exact k.words_ne)
  rw [List.map_map] at e
  unfold Tm.text
  rw [t.words_eq]
  exact e.symm
theorem Tm.text_len {m : Nat} (hm : m ≤ 2) {t : Tm} (h : t.wf m) : t.text.length ≤ 30 * t.size := by
  have h1 := len_tx t.words
  have h2 := wl_le (t.words_wd hm h)
  have h3 := t.words_len
  unfold Tm.text
  omega
end K80
namespace K80
open PySem PySem.Spec PyProof.Rows L2
/-! ### a def by its name, a method, a class: what may be called -/
section
variable (P : Program) (w : World) (K : PySem.W.Frag) (mg : Str → Option Value) (base : Heap)
structure Cal (k : Nat) (x : Str) (sp : Sp) : Prop where
  ex : ∃ (f : Addr) (fd : FuncData) (ps : List Str), FnOk P w K mg base CX0 k f fd ps sp ∧ mg x = some (.ref f) ∧ PySem.W.keepIn K (.ref f) = true ∧ Binds K fd ps []
structure Met (k : Nat) (C : Addr) (m : Str) (sp : Sp) : Prop where
  ex : ∃ (f : Addr) (fd : FuncData) (ps : List Str), Cls K C ∧ Meth K C m f ∧ FnOk P w K mg base CX0 k f fd ps sp ∧ Binds K fd ps []
structure Mak (k : Nat) (x : Str) (C : Addr) (sp : Sp) : Prop where
  ex : ∃ (f : Addr) (fd : FuncData) (ps : List Str), Mk K C f ∧ FnOk P w K mg base CX0 k f fd ps sp ∧ mg x = some (.ref C) ∧ Binds K fd ps []
end
section
variable {P : Program} {w : World} {K : PySem.W.Frag} {mg : Str → Option Value} {base : Heap}
theorem mkFn {m qual : Str} {st : Stmt} {f : Addr} {fd : FuncData} {kws : List (Str × V)} {N ps : List Str} {k : Nat} {sp : Sp} (F : FunD K m qual (defArgs st) (defBody st) (defScope st) [] kws f fd) (S : FnScope N ps (defScope st)) (len : ∀ vs H Q E, sp vs H Q E → vs.length = ps.length)
    (hbody : ∀ (f : Addr) (cdv : Value) (A : Around) (outer : List Env) (s : Shared) (H : Hp) (vs : List V) (Q : VK) (E : XK), Room k (A.deeper (envOfC qual (defScope st) s.heap.objs.size f cdv)) → sp vs H Q E →
      ∃ t, PSs (cxOf CX0 P w K mg base N qual (defScope st) f cdv A outer s H E).nox (defBody st) t ∧ t { nx := fun _ H' => Q .non H', rt := Q } (start N vs) H) : FnOk P w K mg base CX0 (k + 1) f fd ps sp :=
  F.ok S len fun cdv A outer s H vs Q E hr h => let ⟨t, q, z⟩ := hbody f cdv A outer s H vs Q E hr h; ⟨t, q.nox, z⟩
theorem mkCal {x : Str} {st : Stmt} {N ps : List Str} {k : Nat} {sp : Sp} (D : DF K mg x st) (S : FnScope N ps (defScope st))
    (hb : ∀ (kV doc pm : Value) (an : Option Addr) (cdv ct : Value) (us : List Value), us.length = ps.length → bindArgs (PySem.W.fnOf x x (defArgs st) (defBody st) (defScope st) .none kV doc pm an cdv ct) ⟨us, []⟩ = pure (ps.zip us))
    (len : ∀ vs H Q E, sp vs H Q E → vs.length = ps.length)
    (hbody : ∀ (f : Addr) (cdv : Value) (A : Around) (outer : List Env) (s : Shared) (H : Hp) (vs : List V) (Q : VK) (E : XK), Room k (A.deeper (envOfC x (defScope st) s.heap.objs.size f cdv)) → sp vs H Q E →
      ∃ t, PSs (cxOf CX0 P w K mg base N x (defScope st) f cdv A outer s H E).nox (defBody st) t ∧ t { nx := fun _ H' => Q .non H', rt := Q } (start N vs) H) : Cal P w K mg base (k + 1) x sp := by
  obtain ⟨f, fd, F, hm⟩ := D.ex
  exact ⟨f, fd, ps, mkFn F S len hbody, hm, F.kp, F.bindsN hb⟩
theorem mkMet {m qual : Str} {C f : Addr} {st : Stmt} {fd : FuncData} {N ps : List Str} {k : Nat} {sp : Sp} (c : Cls K C) (me : Meth K C m f) (F : FunD K m qual (defArgs st) (defBody st) (defScope st) [] [] f fd) (S : FnScope N ps (defScope st))
    (hb : ∀ (kV doc pm : Value) (an : Option Addr) (cdv ct : Value) (us : List Value), us.length = ps.length → bindArgs (PySem.W.fnOf m qual (defArgs st) (defBody st) (defScope st) .none kV doc pm an cdv ct) ⟨us, []⟩ = pure (ps.zip us))
    (len : ∀ vs H Q E, sp vs H Q E → vs.length = ps.length)
    (hbody : ∀ (f : Addr) (cdv : Value) (A : Around) (outer : List Env) (s : Shared) (H : Hp) (vs : List V) (Q : VK) (E : XK), Room k (A.deeper (envOfC qual (defScope st) s.heap.objs.size f cdv)) → sp vs H Q E →
      ∃ t, PSs (cxOf CX0 P w K mg base N qual (defScope st) f cdv A outer s H E).nox (defBody st) t ∧ t { nx := fun _ H' => Q .non H', rt := Q } (start N vs) H) : Met P w K mg base (k + 1) C m sp :=
  ⟨f, fd, ps, c, me, mkFn F S len hbody, F.bindsN hb⟩
theorem mkMak {x qual : Str} {C f : Addr} {st : Stmt} {fd : FuncData} {N ps : List Str} {k : Nat} {sp : Sp} (M : Mk K C f) (hm : mg x = some (.ref C)) (F : FunD K "__init__" qual (defArgs st) (defBody st) (defScope st) [] [] f fd) (S : FnScope N ps (defScope st))
    (hb : ∀ (kV doc pm : Value) (an : Option Addr) (cdv ct : Value) (us : List Value), us.length = ps.length → bindArgs (PySem.W.fnOf "__init__" qual (defArgs st) (defBody st) (defScope st) .none kV doc pm an cdv ct) ⟨us, []⟩ = pure (ps.zip us))
    (len : ∀ vs H Q E, sp vs H Q E → vs.length = ps.length)
    (hbody : ∀ (f : Addr) (cdv : Value) (A : Around) (outer : List Env) (s : Shared) (H : Hp) (vs : List V) (Q : VK) (E : XK), Room k (A.deeper (envOfC qual (defScope st) s.heap.objs.size f cdv)) → sp vs H Q E →
      ∃ t, PSs (cxOf CX0 P w K mg base N qual (defScope st) f cdv A outer s H E).nox (defBody st) t ∧ t { nx := fun _ H' => Q .non H', rt := Q } (start N vs) H) : Mak P w K mg base (k + 1) x C sp :=
  ⟨f, fd, ps, M, mkFn F S len hbody, hm, F.bindsN hb⟩
theorem Cal.imp {k : Nat} {x : Str} {sp sp' : Sp} (c : Cal P w K mg base k x sp) (h : ∀ vs H Q E, sp' vs H Q E → sp vs H Q E) : Cal P w K mg base k x sp' := by
  obtain ⟨f, fd, ps, F, a, b, d⟩ := c.ex
  exact ⟨f, fd, ps, F.imp h, a, b, d⟩
end
section
variable {X : Cx} {k j : Nat} {C : Addr} {x m : Str} {sp : Sp} {p pos apos : Pos} {e o : Expr} {es : List Expr} {ta : TE} {t : TA}
theorem passZ {X : Cx} {E : XK} : Passes CX0 X E := fun _ _ _ _ _ _ _ h => h.elim
theorem cc (c : Cal X.prog X.w X.K X.mg X.base k x sp) (hr : Room j X.A) (ha : PA X (e :: es) t) (hk : k ≤ j := by decide) (hg : Gl X x := by rfl)
    (hdb : (x == ("__debug__" : Str)) = false := by decide) (he : starEach (e :: es) X.env = (false, eval e X.env) :: starEach es X.env := by rfl) (hpl : (backTo pos (starEach es X.env)).any (·.1) = false := by rfl) :
    PE X (.Call (.Name x p) (e :: es) [] pos) (tCall sp [] E0 t) := by
  obtain ⟨f, fd, ps, F, hm, kp, b⟩ := c.ex
  exact pe_call F (hr.mono hk) hg hm kp b .nil passZ ha hdb he hpl
theorem cmk (c : Mak X.prog X.w X.K X.mg X.base k x C sp) (hr : Room j X.A) (ha : PA X (e :: es) t) (hk : k + 1 ≤ j := by decide) (hg : Gl X x := by rfl)
    (hdb : (x == ("__debug__" : Str)) = false := by decide) (he : starEach (e :: es) X.env = (false, eval e X.env) :: starEach es X.env := by rfl) (hpl : (backTo pos (starEach es X.env)).any (·.1) = false := by rfl) :
    PE X (.Call (.Name x p) (e :: es) [] pos) (tMake C sp [] E0 t) := by
  obtain ⟨f, fd, ps, M, F, hm, b⟩ := c.ex
  exact pe_make M F (hr.mono hk) hg hm b .nil passZ ha hdb he hpl
theorem cm {pl : Sem Bool} (c : Met X.prog X.w X.K X.mg X.base k C m sp) (hr : Room j X.A) (he : PE X o ta) (ha : PA X (e :: es) t) (hk : k ≤ j := by decide)
    (hst : starEach (e :: es) X.env = (false, eval e X.env) :: starEach es X.env := by rfl) (hpl : (backTo pos (starEach es X.env)).any (·.1) = false := by rfl)
    (ht : eval (.Call (.Attribute o m apos) (e :: es) [] pos) X.env = (do
      let ov ← eval o X.env
      standAt apos.atName
      let (f, first) ← holding [ov] (getMethod ov m pl)
      callWith pos f first (backTo pos (starEach (e :: es) X.env)) (backToKw pos (keywordEach [] X.env))) := by rfl) :
    PE X (.Call (.Attribute o m apos) (e :: es) [] pos) (tMeth C m sp [] E0 ta t) := by
  obtain ⟨f, fd, ps, hc, hm, F, b⟩ := c.ex
  exact pe_meth (pl := pl) he hc hm F (hr.mono hk) b .nil passZ ha hst hpl ht
theorem cm0 {pl : Sem Bool} (c : Met X.prog X.w X.K X.mg X.base k C m sp) (hr : Room j X.A) (he : PE X o ta) (hk : k ≤ j := by decide)
    (ht : eval (.Call (.Attribute o m apos) [] [] pos) X.env = (do
      let ov ← eval o X.env
      standAt apos.atName
      let (f, first) ← holding [ov] (getMethod ov m pl)
      callWith pos f first (backTo pos (starEach [] X.env)) (backToKw pos (keywordEach [] X.env))) := by rfl) :
    PE X (.Call (.Attribute o m apos) [] [] pos) (tMeth C m sp [] E0 ta tNil) := by
  obtain ⟨f, fd, ps, hc, hm, F, b⟩ := c.ex
  exact pe_meth0 (pl := pl) he hc hm F (hr.mono hk) b .nil passZ ht
/-! ### constants of the module -/
theorem ki {n : Int} (h : ∃ t, X.mg x = some (.int n t)) (hg : Gl X x := by rfl) (hd : (x == ("__debug__" : Str)) = false := by decide) : PE X (.Name x pos) (tC (.int n)) := by
  obtain ⟨t, h⟩ := h
  exact pe_glob hg h ⟨t, rfl⟩ hd
theorem ks {z : Str} (h : ∃ t, X.mg x = some (.str z t)) (hg : Gl X x := by rfl) (hd : (x == ("__debug__" : Str)) = false := by decide) : PE X (.Name x pos) (tC (.str z)) := by
  obtain ⟨t, h⟩ := h
  exact pe_glob hg h ⟨t, rfl⟩ hd
theorem kr {a : Addr} (h : X.mg x = some (.ref a)) (hg : Gl X x := by rfl) (hd : (x == ("__debug__" : Str)) = false := by decide) : PE X (.Name x pos) (tC (.ref a)) := pe_glob hg h rfl hd
end
section
variable {X : Cx} {x : Str} {p p2 pos : Pos} {e : Expr} {te : TE}
/-- a built-in class as a value -/
theorem kty {n : String} (hm : X.mg x = none) (hv : bootBuiltins x = some (.type n)) (hg : Gl X x := by rfl) (hn : x ≠ "__name__" := by decide) (hd : (x == ("__debug__" : Str)) = false := by decide) : PE X (.Name x pos) (tC (.ty n)) := pe_bltn (v := .ty n) hg hm hv rfl hn hd
/-- isinstance(e, T), T a built-in class -/
def tIsi (K : PySem.W.Frag) (te : TE) (n : String) : TE := fun σ H Q => te σ H fun v H1 => rIsi K [v, .ty n] H1 Q
theorem pisi {n : String} (hi : X.mg "isinstance" = none) (hm : X.mg x = none) (hv : bootBuiltins x = some (.type n)) (he : PE X e te) (hg0 : Gl X "isinstance" := by rfl) (hg : Gl X x := by rfl) (hn : x ≠ "__name__" := by decide) (hd : (x == ("__debug__" : Str)) = false := by decide)
    (h1 : starEach [e, .Name x p2] X.env = (false, eval e X.env) :: starEach [.Name x p2] X.env := by rfl) (h2 : (backTo pos (starEach [.Name x p2] X.env)).any (·.1) = false := by rfl) :
    PE X (.Call (.Name "isinstance" p) [e, .Name x p2] [] pos) (tIsi X.K te n) :=
  pe_callB call_isi hg0 hi boot_isinstance (pa_cons he (pa_cons (kty hm hv hg hn hd) pa_nil) h1) (by decide) (by decide) h1 h2
/-- len(e) -/
theorem plen (hm : X.mg "len" = none) (he : PE X e te) (hg : Gl X "len" := by rfl) (h1 : starEach [e] X.env = (false, eval e X.env) :: starEach [] X.env := by rfl) :
    PE X (.Call (.Name "len" p) [e] [] pos) (tCB (fun xs H Q => ∃ x n, xs = [x] ∧ LenV X.K x H n ∧ Q (.int n) H) (tCons te tNil)) :=
  pe_callB call_len hg hm boot_len (pa_cons he pa_nil h1) (by decide) (by decide) h1 rfl
end
/-! ### isinstance -/
section
variable {K : PySem.W.Frag} {H : Hp}
theorem tyT {a : Addr} {xs : List V} (h : SqT K H a xs) : TyX K H (.ref a) (.type "tuple") := by
  rcases h with (h | ⟨o, h⟩) | ⟨o, its, n, h, c, _⟩
  · exact .base (.tup h)
  · exact .fTuple h
  · exact .kTuple h c
theorem tyL {a : Addr} {xs : List V} (h : SqL K H a xs) : TyX K H (.ref a) (.type "list") := by
  rcases h with (h | ⟨o, h⟩) | ⟨o, its, n, h, c, _⟩
  · exact .base (.lst h)
  · exact .base (.frz h)
  · exact .kList h c
theorem isi {x : V} {a b : String} {r : Bool} {Q : VK} (ty : TyX K H x (.type a)) (q : Q (.bl r) H) (e : kitB a b = some r := by decide +kernel) : rIsi K [x, .ty b] H Q := ⟨x, .ty b, .type a, .type b, r, rfl, .ty b, ty, kit_ty e, q⟩
end
/-! ### the written tuples, the own classes -/
section
variable {K : PySem.W.Frag} {mg : Str → Option Value}
theorem ba {a b : Bool} (h : (a && b) = true) : a = true ∧ b = true := Bool.and_eq_true_iff.mp h
structure ExB (K : PySem.W.Frag) : Prop where
  td : tdB K "LABELS" = true
  kinds : He.tupB K "KINDS" [.str "frozen", .str "setting", .str "table"] = true
  labels : He.tupB K "LABELS" [.str "always", .str "session", .str "statement", .str "changing"] = true
  pairs : He.tupB K "PAIRS" [.str "plus", .str "less", .str "same"] = true
  iC : insB K "Cell" = true
  iL : insB K "Label" = true
  iF : insB K "Function" = true
  iB : insB K "Book" = true
  sL : PySem.W.kitOne K (.type "str") (.ref (He.ga K "Label")) = some false
  neB : neB K (He.ga K "Book") (He.ma K (He.ga K "Book") "__eq__") = true
  gi : PySem.W.fnIn K (He.ma K (He.ga K "Book") "__getitem__") = true
theorem Top.exs (T : Top K mg) : ExB K := by
  have h := T.ex
  unfold exB tabs at h
  obtain ⟨h0, h⟩ := ba h
  obtain ⟨h1, h⟩ := ba h
  obtain ⟨k1, h1⟩ := ba h1
  obtain ⟨k2, k3⟩ := ba h1
  obtain ⟨h2, h⟩ := ba h
  obtain ⟨h3, h⟩ := ba h
  obtain ⟨h4, h⟩ := ba h
  obtain ⟨h5, h⟩ := ba h
  obtain ⟨h6, h⟩ := ba h
  obtain ⟨h7, h8⟩ := ba h
  exact ⟨h0, k1, k2, k3, h2, h3, h4, h5, of_decide_eq_true h6, h7, h8⟩
theorem Top.kinds (T : Top K mg) (H : Hp) : SqT K H (He.ga K "KINDS") [.str "frozen", .str "setting", .str "table"] := He.tupB_ok T.exs.kinds H
theorem Top.labels (T : Top K mg) (H : Hp) : SqT K H (He.ga K "LABELS") [.str "always", .str "session", .str "statement", .str "changing"] := He.tupB_ok T.exs.labels H
theorem Top.pairs (T : Top K mg) (H : Hp) : SqT K H (He.ga K "PAIRS") [.str "plus", .str "less", .str "same"] := He.tupB_ok T.exs.pairs H
theorem Top.labTup (T : Top K mg) : ∃ o, K.lookup (He.ga K "LABELS") = some o ∧ o.cls = .type "tuple" ∧ o.dict = none := by
  have h := T.exs.td
  unfold tdB at h
  cases q : K.lookup (He.ga K "LABELS") with
  | none =>
    rw [q] at h
    cases h
  | some o =>
    rw [q] at h
    obtain ⟨oc, od, dt, sl⟩ := o
    cases oc with
    | type c =>
      cases od with
      | none => exact ⟨_, rfl, congrArg Value.type (of_decide_eq_true h), rfl⟩
      | some a => cases h
    | _ => cases od <;> cases h
theorem insC {x : Str} (c : Cls K (He.ga K x)) (h : insB K x = true) : C8.InsC K (He.ga K x) := by
  unfold insB at h
  obtain ⟨h1, h⟩ := ba h
  obtain ⟨h2, h⟩ := ba h
  obtain ⟨h3, h⟩ := ba h
  obtain ⟨h4, h5⟩ := ba h
  exact ⟨c, of_decide_eq_true h1, of_decide_eq_true h2, of_decide_eq_true h3, of_decide_eq_true h4, of_decide_eq_true h5⟩
theorem Top.isC (T : Top K mg) : C8.InsC K (He.ga K "Cell") := insC T.c_Cell T.exs.iC
theorem Top.isL (T : Top K mg) : C8.InsC K (He.ga K "Label") := insC T.c_Label T.exs.iL
theorem Top.isF (T : Top K mg) : C8.InsC K (He.ga K "Function") := insC T.c_Function T.exs.iF
theorem Top.isB (T : Top K mg) : C8.InsC K (He.ga K "Book") := insC T.c_Book T.exs.iB
end
/-! ### heaps: all but one list -/
def isL : HO → Bool
  | .lst _ => true
  | _ => false
/-- what is no list stands -/
def NL (H H' : Hp) : Prop := ∀ b o, H b = some o → isL o = false → H' b = some o
theorem NL.of {H H' : Hp} (s : Same H H') : NL H H' := fun b o h _ => s b o h
theorem NL.rfl' {H : Hp} : NL H H := fun _ _ h _ => h
theorem NL.trans {H H1 H2 : Hp} (a : NL H H1) (b : NL H1 H2) : NL H H2 := fun c o h n => b c o (a c o h n) n
theorem NL.tup {K : PySem.W.Frag} {H H' : Hp} {a : Addr} {xs : List V} (s : NL H H') (h : SqT K H a xs) : SqT K H' a xs := by
  rcases h with (h | ⟨o, h⟩) | h
  · exact .inl (.inl (s _ _ h rfl))
  · exact .inl (.inr ⟨o, s _ _ h rfl⟩)
  · exact .inr h
/-- all stands but what is at p, a list ahead and behind -/
structure Kp (p : Addr) (H H' : Hp) : Prop where
  at_ : ∃ ys, H p = some (.lst ys)
  to : ∃ ys, H' p = some (.lst ys)
  but : ∀ b o, H b = some o → b ≠ p → H' b = some o
theorem Kp.nl {p : Addr} {H H' : Hp} (k : Kp p H H') : NL H H' := fun b o h n => k.but b o h fun e => by
  obtain ⟨ys, hy⟩ := k.at_
  subst e
  rw [hy] at h
  cases h
  cases n
theorem Kp.rfl' {p : Addr} {H : Hp} {ys : List V} (h : H p = some (.lst ys)) : Kp p H H := ⟨⟨ys, h⟩, ⟨ys, h⟩, fun _ _ h _ => h⟩
theorem Kp.trans {p : Addr} {H H1 H2 : Hp} (a : Kp p H H1) (b : Kp p H1 H2) : Kp p H H2 := ⟨a.at_, b.to, fun c o h n => b.but c o (a.but c o h n) n⟩
theorem Kp.of {p : Addr} {H H' : Hp} {ys : List V} (s : Same H H') (h : H p = some (.lst ys)) : Kp p H H' := ⟨⟨ys, h⟩, ⟨ys, s _ _ h⟩, fun b o e _ => s b o e⟩
theorem Kp.set {p : Addr} {H : Hp} {ys zs : List V} (h : H p = some (.lst ys)) : Kp p H (upd H p (.lst zs)) := ⟨⟨ys, h⟩, ⟨zs, upd_same⟩, fun b o e n => by rw [upd_ne n]; exact e⟩
theorem Same.upd {H : Hp} {p : Addr} {o : HO} (h : H p = none) : Same H (upd H p o) := fun a u e => by rw [upd_ne (ne_of_none e h)]; exact e
theorem Same.upd' {H H1 : Hp} {p : Addr} {o : HO} (s : Same H H1) (h : H1 p = none) : Same H (L2.upd H1 p o) := s.trans (Same.upd h)
/-- a list made since, then written: what stood ahead stands -/
theorem Same.put {H H1 : Hp} {p : Addr} {o : HO} (s : Same H H1) (h : H p = none) : Same H (L2.upd H1 p o) := fun a u e => by rw [upd_ne (ne_of_none e h)]; exact s a u e
end K80
namespace K80
open PySem PySem.Spec PyProof.Rows L2
/-! ### a term in the heap -/
section
variable (K : PySem.W.Frag) (H : Hp)
def TV : Tm → V → Prop
  | .val n, v => v = .int (n : Nat)
  | .arg i, v => ∃ p, v = .ref p ∧ SqT K H p [.str "arg", .int (i : Nat)]
  | .cell c, v => ∃ p, v = .ref p ∧ SqT K H p [.str "cell", .str c]
  | .tick, v => ∃ p, v = .ref p ∧ SqT K H p [.str "tick"]
  | .two k a b, v => ∃ p x y, v = .ref p ∧ SqT K H p [.str k, x, y] ∧ TV a x ∧ TV b y
  | .ite c a b, v => ∃ p z x y, v = .ref p ∧ SqT K H p [.str "if", z, x, y] ∧ TV c z ∧ TV a x ∧ TV b y
  | .call0 f, v => ∃ p q, v = .ref p ∧ SqT K H p [.str "call", .str f, .ref q] ∧ SqT K H q []
  | .call1 f a, v => ∃ p q x, v = .ref p ∧ SqT K H p [.str "call", .str f, .ref q] ∧ SqT K H q [x] ∧ TV a x
  | .call2 f a b, v => ∃ p q x y, v = .ref p ∧ SqT K H p [.str "call", .str f, .ref q] ∧ SqT K H q [x, y] ∧ TV a x ∧ TV b y
abbrev TVs (ts : List Tm) (vs : List V) : Prop := Paired (TV K H) ts vs
/-- by its shape -/
inductive TSh : Tm → V → Prop where
  | val {t : Tm} (n : Nat) : t.sh = .val n → t.kids = [] → t = .val n → TSh t (.int (n : Nat))
  | leaf {t : Tm} {p : Addr} (xs : List V) : t.sh = .leaf xs → t.kids = [] → SqT K H p xs → TSh t (.ref p)
  | node {t : Tm} {p : Addr} {vs : List V} (k : Str) : t.sh = .node k → SqT K H p (.str k :: vs) → TVs K H t.kids vs → TSh t (.ref p)
  | call {t : Tm} {p q : Addr} {vs : List V} (f : Str) : t.sh = .call f → SqT K H p [.str "call", .str f, .ref q] → SqT K H q vs → TVs K H t.kids vs → TSh t (.ref p)
end
section
variable {K : PySem.W.Frag} {H H' : Hp}
theorem TV.by_sh {t : Tm} {v : V} (h : TV K H t v) : TSh K H t v := by
  cases t with
  | val n =>
    have e : v = .int (n : Nat) := h
    subst e
    exact .val n rfl rfl rfl
  | arg i =>
    obtain ⟨p, rfl, h1⟩ := h
    exact .leaf _ rfl rfl h1
  | cell c =>
    obtain ⟨p, rfl, h1⟩ := h
    exact .leaf _ rfl rfl h1
  | tick =>
    obtain ⟨p, rfl, h1⟩ := h
    exact .leaf _ rfl rfl h1
  | two k a b =>
    obtain ⟨p, x, y, rfl, h1, h2, h3⟩ := h
    exact .node k rfl h1 (.cons h2 (.cons h3 .nil))
  | ite c a b =>
    obtain ⟨p, z, x, y, rfl, h1, h2, h3, h4⟩ := h
    exact .node "if" rfl h1 (.cons h2 (.cons h3 (.cons h4 .nil)))
  | call0 f =>
    obtain ⟨p, q, rfl, h1, h2⟩ := h
    exact .call f rfl h1 h2 .nil
  | call1 f a =>
    obtain ⟨p, q, x, rfl, h1, h2, h3⟩ := h
    exact .call f rfl h1 h2 (.cons h3 .nil)
  | call2 f a b =>
    obtain ⟨p, q, x, y, rfl, h1, h2, h3, h4⟩ := h
    exact .call f rfl h1 h2 (.cons h3 (.cons h4 .nil))
theorem TV.nl (s : NL H H') : ∀ {t : Tm} {v : V}, TV K H t v → TV K H' t v
  | .val _, _, h => h
  | .arg _, _, ⟨p, e, h⟩ => ⟨p, e, s.tup h⟩
  | .cell _, _, ⟨p, e, h⟩ => ⟨p, e, s.tup h⟩
  | .tick, _, ⟨p, e, h⟩ => ⟨p, e, s.tup h⟩
  | .two _ _ _, _, ⟨p, x, y, e, h, h1, h2⟩ => ⟨p, x, y, e, s.tup h, TV.nl s h1, TV.nl s h2⟩
  | .ite _ _ _, _, ⟨p, z, x, y, e, h, h0, h1, h2⟩ => ⟨p, z, x, y, e, s.tup h, TV.nl s h0, TV.nl s h1, TV.nl s h2⟩
  | .call0 _, _, ⟨p, q, e, h, h1⟩ => ⟨p, q, e, s.tup h, s.tup h1⟩
  | .call1 _ _, _, ⟨p, q, x, e, h, h1, h2⟩ => ⟨p, q, x, e, s.tup h, s.tup h1, TV.nl s h2⟩
  | .call2 _ _ _, _, ⟨p, q, x, y, e, h, h1, h2, h3⟩ => ⟨p, q, x, y, e, s.tup h, s.tup h1, TV.nl s h2, TV.nl s h3⟩
theorem TVs.nl (s : NL H H') {ts : List Tm} {vs : List V} (h : TVs K H ts vs) : TVs K H' ts vs := Paired.mapP h fun _ _ => TV.nl s
/-! ### as data, for == -/
def Tm.data : Tm → PyData
  | .val n => .int (n : Nat)
  | .arg i => .tuple [.str "arg", .int (i : Nat)]
  | .cell c => .tuple [.str "cell", .str c]
  | .tick => .tuple [.str "tick"]
  | .two k a b => .tuple [.str k, a.data, b.data]
  | .ite c a b => .tuple [.str "if", c.data, a.data, b.data]
  | .call0 f => .tuple [.str "call", .str f, .tuple []]
  | .call1 f a => .tuple [.str "call", .str f, .tuple [a.data]]
  | .call2 f a b => .tuple [.str "call", .str f, .tuple [a.data, b.data]]
theorem TV.dp : ∀ {t : Tm} {v : V}, TV K H t v → Dp K H v t.data
  | .val n, _, h => by
    cases h
    exact .int _
  | .arg _, _, ⟨p, e, h⟩ => e ▸ .tup h (.cons (.str _) (.cons (.int _) .nil))
  | .cell _, _, ⟨p, e, h⟩ => e ▸ .tup h (.cons (.str _) (.cons (.str _) .nil))
  | .tick, _, ⟨p, e, h⟩ => e ▸ .tup h (.cons (.str _) .nil)
  | .two _ _ _, _, ⟨p, x, y, e, h, h1, h2⟩ => e ▸ .tup h (.cons (.str _) (.cons (TV.dp h1) (.cons (TV.dp h2) .nil)))
  | .ite _ _ _, _, ⟨p, z, x, y, e, h, h0, h1, h2⟩ => e ▸ .tup h (.cons (.str _) (.cons (TV.dp h0) (.cons (TV.dp h1) (.cons (TV.dp h2) .nil))))
  | .call0 _, _, ⟨p, q, e, h, h1⟩ => e ▸ .tup h (.cons (.str _) (.cons (.str _) (.cons (.tup h1 .nil) .nil)))
  | .call1 _ _, _, ⟨p, q, x, e, h, h1, h2⟩ => e ▸ .tup h (.cons (.str _) (.cons (.str _) (.cons (.tup h1 (.cons (TV.dp h2) .nil)) .nil)))
  | .call2 _ _ _, _, ⟨p, q, x, y, e, h, h1, h2, h3⟩ => e ▸ .tup h (.cons (.str _) (.cons (.str _) (.cons (.tup h1 (.cons (TV.dp h2) (.cons (TV.dp h3) .nil))) .nil)))
end
theorem Nm.strOk {z : Str} (h : Nm z) : PyData.strOk z = true := by
  unfold PyData.strOk
  rw [Array.all_eq_true_iff_forall_mem]
  intro c hc
  have := h.2.2 c (Array.mem_toList_iff.mpr hc)
  simp
  omega
theorem strOk_pair {k : Str} (h : Tm.IsPair k) : PyData.strOk k = true := by
  rcases h with rfl | rfl | rfl <;> decide +kernel
theorem strOk_c1 : PyData.strOk "arg" = true := by decide +kernel
theorem strOk_c2 : PyData.strOk "cell" = true := by decide +kernel
theorem strOk_c3 : PyData.strOk "tick" = true := by decide +kernel
theorem strOk_c4 : PyData.strOk "if" = true := by decide +kernel
theorem strOk_c5 : PyData.strOk "call" = true := by decide +kernel
theorem Tm.canLay {m : Nat} : ∀ {t : Tm}, t.wf m → t.data.canLay0 = true
  | .val n, _ => by simp [Tm.data, PyData.canLay0]
  | .arg _, _ => by simp [Tm.data, PyData.canLay0, PyData.canLayAll0, strOk_c1]
  | .cell _, h => by simp [Tm.data, PyData.canLay0, PyData.canLayAll0, strOk_c2, Nm.strOk h]
  | .tick, _ => by simp [Tm.data, PyData.canLay0, PyData.canLayAll0, strOk_c3]
  | .two _ _ _, h => by simp [Tm.data, PyData.canLay0, PyData.canLayAll0, strOk_pair h.1, Tm.canLay h.2.1, Tm.canLay h.2.2]
  | .ite _ _ _, h => by simp [Tm.data, PyData.canLay0, PyData.canLayAll0, strOk_c4, Tm.canLay h.1, Tm.canLay h.2.1, Tm.canLay h.2.2]
  | .call0 _, h => by simp [Tm.data, PyData.canLay0, PyData.canLayAll0, strOk_c5, Nm.strOk h]
  | .call1 _ _, h => by simp [Tm.data, PyData.canLay0, PyData.canLayAll0, strOk_c5, Nm.strOk h.1, Tm.canLay h.2]
  | .call2 _ _ _, h => by simp [Tm.data, PyData.canLay0, PyData.canLayAll0, strOk_c5, Nm.strOk h.1, Tm.canLay h.2.1, Tm.canLay h.2.2]
theorem Tm.data_depth : ∀ t : Tm, t.data.depth ≤ 2 * t.depth
  | .val n => by simp [Tm.data, PyData.depth]
  | .arg _ => by simp [Tm.data, PyData.depth, PyData.depthAll, Tm.depth]
  | .cell _ => by simp [Tm.data, PyData.depth, PyData.depthAll, Tm.depth]
  | .tick => by simp [Tm.data, PyData.depth, PyData.depthAll, Tm.depth]
  | .two _ a b => by
    have h1 := a.data_depth
    have h2 := b.data_depth
    simp [Tm.data, PyData.depth, PyData.depthAll, Tm.depth]
    omega
  | .ite c a b => by
    have h0 := c.data_depth
    have h1 := a.data_depth
    have h2 := b.data_depth
    simp [Tm.data, PyData.depth, PyData.depthAll, Tm.depth]
    omega
  | .call0 _ => by simp [Tm.data, PyData.depth, PyData.depthAll, Tm.depth]
  | .call1 _ a => by
    have h1 := a.data_depth
    simp [Tm.data, PyData.depth, PyData.depthAll, Tm.depth]
    omega
  | .call2 _ a b => by
    have h1 := a.data_depth
    have h2 := b.data_depth
    simp [Tm.data, PyData.depth, PyData.depthAll, Tm.depth]
    omega
theorem Tm.shaped {m : Nat} {t : Tm} (h : t.wf m) (hd : t.depth ≤ 8) : SeqAt.shaped t.data = true := by
  unfold SeqAt.shaped
  have := t.data_depth
  rw [Tm.canLay h, Bool.true_and]
  exact decide_eq_true (by omega)
theorem Tm.eqv {m : Nat} {t : Tm} (h : t.wf m) : PyData.eqv t.data t.data = true := SeqAt.eqv_refl _ (Tm.canLay h)
/-! ### books -/
structure Fd where
  name : Str
  many : Nat
  result : Tm
  writes : List (Str × Tm)
  cost : Nat
  label : Str
structure Bk where
  cells : List (Str × Str)
  fns : List Fd
def Fd.sig (f : Fd) : Str × Nat := (f.name, f.many)
def IsKind (k : Str) : Prop := k = "frozen" ∨ k = "setting" ∨ k = "table"
def IsLab (k : Str) : Prop := k = "always" ∨ k = "session" ∨ k = "statement" ∨ k = "changing"
/-- a term of a function with m arguments, of a book with these cells, behind these functions -/
structure TmOk (cs : List Str) (fs : List (Str × Nat)) (m : Nat) (t : Tm) : Prop where
  wf : t.wf m
  ok : t.ok cs fs
  size : t.size ≤ 13
  depth : t.depth ≤ 3
structure Fd.Ok (cells : List (Str × Str)) (ahead : List (Str × Nat)) (f : Fd) : Prop where
  name : Nm f.name
  many : f.many ≤ 2
  result : TmOk (cells.map (·.1)) ahead f.many f.result
  few : f.writes.length ≤ 1
  writes : ∀ q ∈ f.writes, (q.1, ("table" : Str)) ∈ cells ∧ Nm q.1 ∧ TmOk (cells.map (·.1)) ahead f.many q.2
  cost : f.cost < 10
  label : IsLab f.label
structure Bk.Ok (b : Bk) : Prop where
  few : b.cells.length ≤ 3
  cells : ∀ q ∈ b.cells, Nm q.1 ∧ IsKind q.2
  nd : (b.cells.map (·.1) ++ b.fns.map (·.name)).Nodup
  some_ : b.fns ≠ []
  most : b.fns.length ≤ 4
  fns : ∀ (i : Nat) (f : Fd), b.fns[i]? = some f → f.Ok b.cells ((b.fns.take i).map Fd.sig)
def Fd.rows (f : Fd) : List (List Str) := ["function", f.name, num f.many, f.label, num f.cost] :: ("result" :: f.result.words) :: f.writes.map (fun q => "write" :: q.1 :: q.2.words)
def cellRow (q : Str × Str) : List Str := ["cell", q.1, q.2]
def Bk.rows (b : Bk) : List (List Str) := b.cells.map cellRow ++ (b.fns.map Fd.rows).flatten
def Bk.text (b : Bk) : Str := ty (b.rows.map tx)
/-! ### .. in the heap -/
section
variable (K : PySem.W.Frag) (H : Hp)
def LabAt (p : Addr) (l : Str) : Prop := ∃ dx h, H p = some (.ins (He.ga K "Label") dx [("name", .str l), ("height", .int h)])
def CellAt (q : Str × Str) (v : V) : Prop := ∃ p dx, v = .ref p ∧ H p = some (.ins (He.ga K "Cell") dx [("name", .str q.1), ("kind", .str q.2)])
def WrAt (q : Str × Tm) (v : V) : Prop := ∃ p x, v = .ref p ∧ SqT K H p [.str q.1, x] ∧ TV K H q.2 x
def fnF (f : Fd) (lp wp : Addr) (x : V) : List (Str × V) := [("label", .ref lp), ("name", .str f.name), ("arguments", .int (f.many : Nat)), ("result", x), ("writes", .ref wp), ("cost", .int (f.cost : Nat))]
def FnAt (f : Fd) (v : V) : Prop := ∃ p dx lp wp x ws, v = .ref p ∧ H p = some (.ins (He.ga K "Function") dx (fnF f lp wp x)) ∧ LabAt K H lp f.label ∧ TV K H f.result x ∧ SqT K H wp ws ∧ Paired (WrAt K H) f.writes ws
def BookAt (p : Addr) (b : Bk) : Prop := ∃ dx cr rw cs fs, H p = some (.ins (He.ga K "Book") dx [("cell_row", .ref cr), ("row", .ref rw)]) ∧ SqT K H cr cs ∧ Paired (CellAt K H) b.cells cs ∧ SqT K H rw fs ∧ Paired (FnAt K H) b.fns fs
end
section
variable {K : PySem.W.Frag} {H H' : Hp}
theorem LabAt.nl (s : NL H H') {p : Addr} {l : Str} (h : LabAt K H p l) : LabAt K H' p l := let ⟨dx, z, h⟩ := h; ⟨dx, z, s _ _ h rfl⟩
theorem CellAt.nl (s : NL H H') {q : Str × Str} {v : V} (h : CellAt K H q v) : CellAt K H' q v := let ⟨p, dx, e, h⟩ := h; ⟨p, dx, e, s _ _ h rfl⟩
theorem WrAt.nl (s : NL H H') {q : Str × Tm} {v : V} (h : WrAt K H q v) : WrAt K H' q v := let ⟨p, x, e, h, t⟩ := h; ⟨p, x, e, s.tup h, t.nl s⟩
theorem FnAt.nl (s : NL H H') {f : Fd} {v : V} (h : FnAt K H f v) : FnAt K H' f v :=
  let ⟨p, dx, lp, wp, x, ws, e, h, l, t, w, q⟩ := h; ⟨p, dx, lp, wp, x, ws, e, s _ _ h rfl, l.nl s, t.nl s, s.tup w, Paired.mapP q fun _ _ => WrAt.nl s⟩
theorem BookAt.nl (s : NL H H') {p : Addr} {b : Bk} (h : BookAt K H p b) : BookAt K H' p b :=
  let ⟨dx, cr, rw, cs, fs, h, a, b, c, d⟩ := h; ⟨dx, cr, rw, cs, fs, s _ _ h rfl, s.tup a, Paired.mapP b fun _ _ => CellAt.nl s, s.tup c, Paired.mapP d fun _ _ => FnAt.nl s⟩
theorem Paired.get {A B : Type} {F : A → B → Prop} : ∀ {as : List A} {bs : List B} {i : Nat} {a : A}, Paired F as bs → as[i]? = some a → ∃ b, bs[i]? = some b ∧ F a b
  | _, _, _, _, .nil, e => by simp at e
  | _, _, 0, _, .cons r _, e => by simp at e; subst e; exact ⟨_, rfl, r⟩
  | _, _, i + 1, x, .cons _ t, e => by
    obtain ⟨u, h1, h2⟩ := Paired.get (i := i) (a := x) t (by simpa using e)
    exact ⟨u, by simpa using h1, h2⟩
theorem Paired.get' {A B : Type} {F : A → B → Prop} : ∀ {as : List A} {bs : List B} {i : Nat} {b : B}, Paired F as bs → bs[i]? = some b → ∃ a, as[i]? = some a ∧ F a b
  | _, _, _, _, .nil, e => by simp at e
  | _, _, 0, _, .cons r _, e => by simp at e; subst e; exact ⟨_, rfl, r⟩
  | _, _, i + 1, x, .cons _ t, e => by
    obtain ⟨u, h1, h2⟩ := Paired.get' (i := i) (b := x) t (by simpa using e)
    exact ⟨u, by simpa using h1, h2⟩
theorem Paired.snoc {A B : Type} {F : A → B → Prop} {a : A} {b : B} (r : F a b) : ∀ {as : List A} {bs : List B}, Paired F as bs → Paired F (as ++ [a]) (bs ++ [b])
  | _, _, .nil => .cons r .nil
  | _, _, .cons q t => .cons q (Paired.snoc r t)
theorem Paired.app {A B : Type} {F : A → B → Prop} : ∀ {as cs : List A} {bs ds : List B}, Paired F as bs → Paired F cs ds → Paired F (as ++ cs) (bs ++ ds)
  | _, _, _, _, .nil, s => s
  | _, _, _, _, .cons q t, s => .cons q (Paired.app t s)
theorem Paired.len {A B : Type} {F : A → B → Prop} {as : List A} {bs : List B} (h : Paired F as bs) : as.length = bs.length := Paired.length h
theorem Paired.of_get {A B : Type} {F : A → B → Prop} : ∀ {as : List A} {bs : List B}, as.length = bs.length → (∀ (i : Nat) a b, as[i]? = some a → bs[i]? = some b → F a b) → Paired F as bs
  | [], [], _, _ => .nil
  | [], _ :: _, h, _ => by simp at h
  | _ :: _, [], h, _ => by simp at h
  | a :: as, b :: bs, h, k => .cons (k 0 a b rfl rfl) (Paired.of_get (by simpa using h) fun i x y e1 e2 => k (i + 1) x y (by simpa using e1) (by simpa using e2))
end
end K80
namespace K80
open PySem PySem.Spec PyProof.Rows L2
/-! ### comprehensions: all([..]), any([..]); one name; the reading -/
section
variable {X : Cx} {e : Expr} {te : TE} {p pos : Pos}
theorem pall (hm : X.mg "all" = none) (he : PE X e te) (hc : X.calm = true := by rfl) (hg : Gl X "all" := by rfl) (h1 : starEach [e] X.env = (false, eval e X.env) :: starEach [] X.env := by rfl) :
    PE X (.Call (.Name "all" p) [e] [] pos) (tCB (rAll X.K) (tCons te tNil)) :=
  pe_callB (cr_all hc) hg hm (by decide +kernel) (pa_cons he pa_nil h1) (by decide) (by decide) h1 rfl
theorem pany (hm : X.mg "any" = none) (he : PE X e te) (hc : X.calm = true := by rfl) (hg : Gl X "any" := by rfl) (h1 : starEach [e] X.env = (false, eval e X.env) :: starEach [] X.env := by rfl) :
    PE X (.Call (.Name "any" p) [e] [] pos) (tCB (rAny X.K) (tCons te tNil)) :=
  pe_callB (cr_any hc) hg hm (by decide +kernel) (pa_cons he pa_nil h1) (by decide) (by decide) h1 rfl
/-- [elt for y in iter], y in slot i -/
theorem plc (N : List Str) (sc : Scope) (i : Nat) {y : Str} {py pos : Pos} {elt iter : Expr} {scope : Scope} {wi : TI} {te : TE} (hN : X.N.Nodup) (hi : PI X (.Name y py) iter wi)
    (he : ∀ (s : Shared) (H : Hp) (C : Addr) (cl : List (Str × Addr)) (fp : List Addr), PE (X.blk s H scope (compEnvC scope cl C X.env) fp) elt te)
    (hb : blkC N sc scope [(y, i)] = true := by decide +kernel) (eN : X.N = N := by rfl) (esc : X.env.scope = sc := by rfl) (hx : X.N[i]? = some y := by rfl)
    (hl : ∀ (s : Shared) (H : Hp) (C : Addr) (cl : List (Str × Addr)) (fp : List Addr), (X.blk s H scope (compEnvC scope cl C X.env) fp).env.scope.names.lookup y = some .local := by intros; rfl)
    (hc : X.calm = true := by rfl) (hs : ∀ x, foldedSetIterable iter X.env x = pure x := by intro _; rfl) :
    PE X (.ListComp elt [⟨.Name y py, iter, [], 0⟩] scope pos) (tLc wi (gName i) tYes te [i]) :=
  pe_lc (own := [(y, i)]) hc hN hi (by rw [eN, esc]; exact blkOk_by hb) (fun s H C cl fp => pg_name (i := i) hN hx (Or.inl (hl s H C cl fp)) (Or.inr (hl s H C cl fp))) (fun _ _ _ _ _ => pts_nil) he hs
end
section
variable {J : It} {n : Nat} {G : Hp → Prop} {Y : Nat → Hp → V → Hp → Prop}
/-- the items so far: each with its word -/
def Acc (R : Nat → V → Hp → Prop) (H : Hp) (D : Addr) (i : Nat) (acc : List V) : Prop := H D = some (.lst acc) ∧ acc.length = i ∧ ∀ j y, acc[j]? = some y → R j y H
/-- THE READING of a comprehension: Jv what holds of the heap by the turn, R what each item is -/
theorem lc_gen (w : Walk J n G Y) {g : TG} {te : TE} {vs : List Nat} {σ : L2.St} {H1 : Hp} {D : Addr} {Qd : Hp → Prop} (hn : n ≤ 1000000) (Jv : Nat → Hp → Prop) (R : Nat → V → Hp → Prop)
    (h0 : Jv 0 (upd H1 D (.lst []))) (hG : ∀ i H, i ≤ n → Jv i H → G H)
    (hJ : ∀ i H l l', Jv i H → H D = some (.lst l) → Jv i (upd H D (.lst l')))
    (hR : ∀ j y H l l', R j y H → H D = some (.lst l) → R j y (upd H D (.lst l')))
    (hs : ∀ i x H H' acc (Qk : VK), i < n → Jv i H → H D = some (.lst acc) → Y i H x H' → (∀ y H4, H4 D = some (.lst acc) → Jv (i + 1) H4 → R i y H4 → (∀ j z, acc[j]? = some z → R j z H → R j z H4) → Qk y H4) →
      g x (wipe σ vs) H' fun σ2 H2 => wipe σ2 vs = wipe σ vs ∧ te σ2 H2 Qk)
    (hd : ∀ H acc, Jv n H → Acc R H D n acc → Qd H) :
    ∃ W : Nat → Nat → Hp → Prop, (∃ m, W 0 m (upd H1 D (.lst []))) ∧ ∀ i m H, W i m H →
      (J.stop i H ∧ Qd H) ∨ (J.go i H ∧ ∃ Nx : Hp → Prop, (∀ H', Nx H' → ∃ m', m' < m ∧ W (i + 1) m' H') ∧ ∀ x H', J.yld i H x H' → g x (wipe σ vs) H' fun σ2 H2 => wipe σ2 vs = wipe σ vs ∧ tYes σ2 H2 fun b H3 =>
        if b = true then te σ2 H3 fun y H4 => ∃ acc, H4 D = some (.lst acc) ∧ acc.length < sizeLine ∧ Nx (upd H4 D (.lst (acc ++ [y]))) else Nx H3) := by
  refine ⟨fun i m H => m = n - i ∧ i ≤ n ∧ Jv i H ∧ ∃ acc, Acc R H D i acc, ⟨n, by simp, Nat.zero_le _, h0, [], upd_same, rfl, fun j y h => by simp at h⟩, ?_⟩
  rintro i m H ⟨rfl, hi, p, acc, a⟩
  have q := hG i H hi p
  by_cases hlt : i < n
  · refine .inr ⟨w.goes i H hlt q, fun H' => Jv (i + 1) H' ∧ ∃ acc, Acc R H' D (i + 1) acc, fun H' p' => ⟨n - (i + 1), by omega, rfl, hlt, p'⟩, fun x H' y => ?_⟩
    obtain ⟨a1, a2, a3⟩ := a
    refine hs i x H H' acc (fun y H4 => ∃ acc, H4 D = some (.lst acc) ∧ acc.length < sizeLine ∧ (Jv (i + 1) (upd H4 D (.lst (acc ++ [y]))) ∧ ∃ acc', Acc R (upd H4 D (.lst (acc ++ [y]))) D (i + 1) acc')) hlt p a1 (w.yields i H x H' hlt q y) ?_
    intro y H4 h4 hj hr hk
    refine ⟨acc, h4, by rw [a2, sizeLine_eq]; omega, hJ _ _ _ _ hj h4, acc ++ [y], upd_same, by simp [a2], fun j z hz => ?_⟩
    by_cases hlt2 : j < acc.length
    · rw [List.getElem?_append_left hlt2] at hz
      exact hR _ _ _ _ _ (hk j z hz (a3 j z hz)) h4
    · rw [List.getElem?_append_right (by omega)] at hz
      have e : j - acc.length = 0 := by
        have := (List.getElem?_eq_some_iff.mp hz).1
        simp at this
        omega
      rw [e] at hz
      have e2 : y = z := Option.some.inj hz
      subst e2
      have e3 : j = i := by omega
      subst e3
      exact hR _ _ _ _ _ hr h4
  · have e : i = n := by omega
    subst e
    exact .inl ⟨w.stops H q, hd H acc p a⟩
/-- .. where nothing that stood changes: R is kept wherever all but lists stands -/
theorem lc_same (w : Walk J n G Y) {g : TG} {te : TE} {vs : List Nat} {σ : L2.St} {H1 : Hp} {D : Addr} {Qd : Hp → Prop} (hn : n ≤ 1000000) (hD : H1 D = none) (R : Nat → V → Hp → Prop) (hG : ∀ H, Same H1 H → G H)
    (hR : ∀ j y H H', NL H H' → R j y H → R j y H')
    (hs : ∀ i x H H' (Qk : VK), i < n → Same H1 H → Y i H x H' → (∀ y H4, Same H H4 → R i y H4 → Qk y H4) → g x (wipe σ vs) H' fun σ2 H2 => wipe σ2 vs = wipe σ vs ∧ te σ2 H2 Qk)
    (hd : ∀ H acc, Same H1 H → Acc R H D n acc → Qd H) :
    ∃ W : Nat → Nat → Hp → Prop, (∃ m, W 0 m (upd H1 D (.lst []))) ∧ ∀ i m H, W i m H →
      (J.stop i H ∧ Qd H) ∨ (J.go i H ∧ ∃ Nx : Hp → Prop, (∀ H', Nx H' → ∃ m', m' < m ∧ W (i + 1) m' H') ∧ ∀ x H', J.yld i H x H' → g x (wipe σ vs) H' fun σ2 H2 => wipe σ2 vs = wipe σ vs ∧ tYes σ2 H2 fun b H3 =>
        if b = true then te σ2 H3 fun y H4 => ∃ acc, H4 D = some (.lst acc) ∧ acc.length < sizeLine ∧ Nx (upd H4 D (.lst (acc ++ [y]))) else Nx H3) := by
  have set_nl : ∀ (H : Hp) (l l' : List V), H D = some (.lst l) → NL H (upd H D (.lst l')) := fun H l l' h => (Kp.set h).nl
  refine lc_gen w hn (fun _ H => Same H1 H) R (Same.upd hD) (fun _ H _ s => hG H s) (fun _ H l l' s h => Same.put s hD) (fun j y H l l' r h => hR j y _ _ (set_nl H l l' h) r) ?_ hd
  intro i x H H' acc Qk hi s h y k
  exact hs i x H H' Qk hi s y fun y H4 s4 r => k y H4 (s4 _ _ h) (s.trans s4) r fun j z _ rz => hR j z _ _ (NL.of s4) rz
end
/-! ### [part for term in layer for part in inner(term)] -/
section
variable {K : PySem.W.Frag}
theorem yes_if {σ : L2.St} {H : Hp} {A B : Hp → Prop} (h : A H) : tYes σ H fun b H3 => if b = true then A H3 else B H3 := iteT (B := B H) h
/-- the inner for: the items of a tuple go to the list at D -/
theorem inner_tup {q D : Addr} {ks acc : List V} {H4 : Hp} {σ2 : L2.St} {vs1 : List Nat} {ii : Nat} (hq : SqT K H4 q ks) (hD : H4 D = some (.lst acc)) (hlen : acc.length + ks.length ≤ 1000000) (h1 : ∀ x, wipe ((wipe σ2 vs1).set ii (some x)) vs1 = wipe σ2 vs1) (h2 : ∀ x, ((wipe σ2 vs1).set ii (some x))[ii]? = some (some x))
    (Nx : Hp → Prop) (hNx : ∀ H, Kp D H4 H → H D = some (.lst (acc ++ ks)) → Nx H) :
    ∃ W1 : Nat → Nat → Hp → Prop, (∃ m, W1 0 m H4) ∧ ∀ j k H, W1 j k H →
      ((Itt K q).stop j H ∧ Nx H) ∨ ((Itt K q).go j H ∧ ∃ Nx1 : Hp → Prop, (∀ H', Nx1 H' → ∃ k', k' < k ∧ W1 (j + 1) k' H') ∧ ∀ x H', (Itt K q).yld j H x H' → gName ii x (wipe σ2 vs1) H' fun σ3 H5 => wipe σ3 vs1 = wipe σ2 vs1 ∧ tYes σ3 H5 fun b H6 =>
        if b = true then tVar ii σ3 H6 fun y H7 => ∃ acc, H7 D = some (.lst acc) ∧ acc.length < sizeLine ∧ Nx1 (upd H7 D (.lst (acc ++ [y]))) else Nx1 H6) := by
  have w := walk_tup (K := K) (a := q) (xs := ks)
  refine ⟨fun j k H => k = ks.length - j ∧ j ≤ ks.length ∧ Kp D H4 H ∧ H D = some (.lst (acc ++ ks.take j)), ⟨ks.length, by simp, Nat.zero_le _, Kp.rfl' hD, by simpa using hD⟩, ?_⟩
  rintro j k H ⟨rfl, hj, kp, h⟩
  have q' := kp.nl.tup hq
  by_cases hlt : j < ks.length
  · refine .inr ⟨w.goes j H hlt q', fun H' => j + 1 ≤ ks.length ∧ Kp D H4 H' ∧ H' D = some (.lst (acc ++ ks.take (j + 1))), fun H' p' => ⟨ks.length - (j + 1), by omega, rfl, p'⟩, fun x H' y => ?_⟩
    obtain ⟨rfl, hx⟩ := w.yields j H x H' hlt q' y
    refine ⟨h1 x, ?_⟩
    refine yes_if ⟨x, h2 x, acc ++ ks.take j, h, by rw [List.length_append, List.length_take, sizeLine_eq]; omega, hlt, kp.trans (Kp.set h), ?_⟩
    rw [upd_same, List.append_assoc]
    congr 3
    rw [List.take_succ, hx]
    rfl
  · have e : j = ks.length := by omega
    subst e
    rw [List.take_length] at h
    exact .inl ⟨w.stops H q', hNx H kp h⟩
theorem lc2_flat {a D : Addr} {xs : List V} {H1 : Hp} {σ : L2.St} {vs vs1 : List Nat} {io ii : Nat} {wi1 : TI} {Qd : Hp → Prop} (hD : H1 D = none) (hL : SqL K H1 a xs) (R : Nat → List V → Hp → Prop) (hR : ∀ j ks H H', NL H H' → R j ks H → R j ks H')
    (hks : ∀ j ks H, R j ks H → ks.length ≤ 100) (hn : xs.length ≤ 1000)
    (h0 : ∀ x, wipe ((wipe σ vs).set io (some x)) vs = wipe σ vs)
    (h1 : ∀ z x, wipe ((wipe ((wipe σ vs).set io (some z)) vs1).set ii (some x)) vs1 = wipe ((wipe σ vs).set io (some z)) vs1) (h2 : ∀ z x, ((wipe ((wipe σ vs).set io (some z)) vs1).set ii (some x))[ii]? = some (some x))
    (hin : ∀ i x H3 (R' : It → Hp → Prop), xs[i]? = some x → Same H1 H3 → (∀ q ks H4, Same H3 H4 → SqT K H4 q ks → R i ks H4 → R' (Itt K q) H4) → wi1 ((wipe σ vs).set io (some x)) H3 R')
    (hd : ∀ H (kss : List (List V)), Same H1 H → H D = some (.lst kss.flatten) → kss.length = xs.length → (∀ i ks, kss[i]? = some ks → R i ks H) → Qd H) :
    ∃ W : Nat → Nat → Hp → Prop, (∃ m, W 0 m (upd H1 D (.lst []))) ∧ ∀ i m H, W i m H →
      ((Itl K a).stop i H ∧ Qd H) ∨ ((Itl K a).go i H ∧ ∃ Nx : Hp → Prop, (∀ H', Nx H' → ∃ m', m' < m ∧ W (i + 1) m' H') ∧ ∀ x H', (Itl K a).yld i H x H' → gName io x (wipe σ vs) H' fun σ2 H2 => wipe σ2 vs = wipe σ vs ∧ tYes σ2 H2 fun b H3 =>
        if b = true then wi1 σ2 H3 fun J1 H4 => ∃ W1 : Nat → Nat → Hp → Prop, (∃ m, W1 0 m H4) ∧ ∀ j k H, W1 j k H →
          (J1.stop j H ∧ Nx H) ∨ (J1.go j H ∧ ∃ Nx1 : Hp → Prop, (∀ H', Nx1 H' → ∃ k', k' < k ∧ W1 (j + 1) k' H') ∧ ∀ x H', J1.yld j H x H' → gName ii x (wipe σ2 vs1) H' fun σ3 H5 => wipe σ3 vs1 = wipe σ2 vs1 ∧ tYes σ3 H5 fun b H6 =>
            if b = true then tVar ii σ3 H6 fun y H7 => ∃ acc, H7 D = some (.lst acc) ∧ acc.length < sizeLine ∧ Nx1 (upd H7 D (.lst (acc ++ [y]))) else Nx1 H6)
        else Nx H3) := by
  have w := walk_list (K := K) (a := a) (xs := xs)
  have flen : ∀ (H : Hp) (kss : List (List V)), (∀ i ks, kss[i]? = some ks → R i ks H) → kss.flatten.length ≤ 100 * kss.length := by
    intro H kss h
    have : ∀ l : List (List V), (∀ ks ∈ l, ks.length ≤ 100) → l.flatten.length ≤ 100 * l.length := by
      intro l
      induction l with
      | nil => intro _; simp
      | cons b r ih =>
        intro hl
        have i1 := ih fun ks hk => hl ks (List.mem_cons_of_mem _ hk)
        have i2 := hl b (List.mem_cons_self ..)
        rw [List.flatten_cons, List.length_append, List.length_cons]
        omega
    refine this kss fun ks hk => ?_
    obtain ⟨i, hi⟩ := List.getElem?_of_mem hk
    exact hks i ks H (h i ks hi)
  refine ⟨fun i m H => m = xs.length - i ∧ i ≤ xs.length ∧ Same H1 H ∧ ∃ kss : List (List V), H D = some (.lst kss.flatten) ∧ kss.length = i ∧ ∀ j ks, kss[j]? = some ks → R j ks H, ⟨xs.length, by simp, Nat.zero_le _, Same.upd hD, [], upd_same, rfl, fun j ks h => by simp at h⟩, ?_⟩
  rintro i m H ⟨rfl, hi, s1, kss, hk, hl, hr⟩
  have q' : SqL K H a xs := s1.seq hL
  by_cases hlt : i < xs.length
  · refine .inr ⟨w.goes i H hlt q', fun H' => i + 1 ≤ xs.length ∧ Same H1 H' ∧ ∃ kss : List (List V), H' D = some (.lst kss.flatten) ∧ kss.length = i + 1 ∧ ∀ j ks, kss[j]? = some ks → R j ks H', fun H' p' => ⟨xs.length - (i + 1), by omega, rfl, p'⟩, fun x H' y => ?_⟩
    obtain ⟨rfl, hx⟩ := w.yields i H x H' hlt q' y
    refine ⟨h0 x, ?_⟩
    refine yes_if (hin i x _ _ hx s1 fun q ks H4 s4 hq r4 => ?_)
    have fl := flen _ kss hr
    have kl := hks _ _ _ r4
    refine inner_tup hq (s4 _ _ hk) (by omega) (h1 x) (h2 x) _ fun H5 kp h5 => ⟨hlt, fun b o e => ?_, kss ++ [ks], by rw [h5]; simp, by simp [hl], fun j ls hj => ?_⟩
    · refine kp.but b o (s4 b o (s1 b o e)) (ne_of_none e hD)
    · by_cases hjl : j < kss.length
      · rw [List.getElem?_append_left hjl] at hj
        exact hR _ _ _ _ kp.nl (hR _ _ _ _ (NL.of s4) (hr j ls hj))
      · rw [List.getElem?_append_right (by omega)] at hj
        have e0 : j - kss.length = 0 := by
          have := (List.getElem?_eq_some_iff.mp hj).1
          simp at this
          omega
        rw [e0] at hj
        have e2 : ks = ls := Option.some.inj hj
        subst e2
        have e3 : j = i := by omega
        subst e3
        exact hR _ _ _ _ kp.nl r4
  · have e : i = xs.length := by omega
    subst e
    exact .inl ⟨w.stops H q', hd H kss s1 hk hl hr⟩
end
/-! ### dict comprehensions -/
section
variable {X : Cx}
theorem sw_trueD {kx vx : Expr} {gs : List Comprehension} {scope : Scope} {pos py : Pos} {y : Str} {l : Nat} {env : Env} (hk : env.scope.kind = .function) (hy : env.scope.names.lookup y = some .local) (hl : (py.line == pos.line) = true)
    (ha : (scope.names.any fun (n, k) => n == y && (k == .local || k == .cell)) = false) : swapsWith (.DictComp kx vx gs scope pos) (some (.Name y py)) l env = pure true := by
  have ky : env.kindOf y = some .local := hy
  have hb : env.blockKind = .function := by unfold Env.blockKind; rw [hk]; rfl
  unfold swapsWith
  simp only [hb, ky, ha, Expr.pos, hl]
  rfl
/-- name = {k: v for ..} on one line, the name a local -/
theorem ps_setDc {i : Nat} {y : Str} {py : Pos} {kx vx tg iter : Expr} {ifs : List Expr} {scope : Scope} {own : List (Str × Nat)} {pos spos : Pos} {wi : TI} {g : TG} {tt : TT} {tk tv : TE} (hc : X.calm = true) (hN : X.N.Nodup) (hy : X.N[i]? = some y) (hyl : X.env.scope.names.lookup y = some .local)
    (hsw : swapsWith (.DictComp kx vx [⟨tg, iter, ifs, 0⟩] scope pos) (some (.Name y py)) spos.line X.env = pure true) (hi : PI X tg iter wi) (ok : BlkOk X.N X.env.scope scope own)
    (hg : ∀ (s : Shared) (H : Hp) (C : Addr) (cl : List (Str × Addr)) (fp : List Addr), PG (X.blk s H scope (compEnvC scope cl C X.env) fp) tg g) (ht : ∀ (s : Shared) (H : Hp) (C : Addr) (cl : List (Str × Addr)) (fp : List Addr), PTs (X.blk s H scope (compEnvC scope cl C X.env) fp) ifs tt)
    (hk : ∀ (s : Shared) (H : Hp) (C : Addr) (cl : List (Str × Addr)) (fp : List Addr), PE (X.blk s H scope (compEnvC scope cl C X.env) fp) kx tk) (he : ∀ (s : Shared) (H : Hp) (C : Addr) (cl : List (Str × Addr)) (fp : List Addr), PE (X.blk s H scope (compEnvC scope cl C X.env) fp) vx tv) (hs : ∀ x, foldedSetIterable iter X.env x = pure x := by intro _; rfl) :
    PS X (.Assign [.Name y py] (.DictComp kx vx [⟨tg, iter, ifs, 0⟩] scope pos) spos) (tAsg (tDc wi g tt tk tv (own.map (·.2))) (gName i)) := by
  refine ⟨fun pins s σ H D I h => ?_⟩
  rw [exec_Assign_Name_used _ _ _ _ hsw]
  refine wpAny_bind (wpAny_standAt (wpAny_bind ?_))
  show wpAny _ X.A (do let _ ← comprehension (.DictComp kx vx [⟨tg, iter, ifs, 0⟩] scope pos) scope X.env (firstIterPos [⟨tg, iter, ifs, 0⟩] pos) newDict false (eval iter X.env) (some (assign (.Name y py) X.env))) _ _ s
  have h : tDc wi g tt tk tv (own.map (·.2)) σ H (fun x H1 => gName i x σ H1 D.nx) := h
  refine wpAny_bind (thn (dc_core (Qf := fun _ s' => SP X pins D .next s') hc hN I hi ok hg ht hk he hs h fun L C s' m H' I' q hn f => ?_) fun _ s' hq => wpAny_pure (wpAny_pure hq))
  show wpAny _ _ (assign (.Name y py) X.env (.ref L)) _ _ _
  refine wpAny_assign_Name (store_ok2 (v := V.ref L) I' hN hy (.inl hyl) rfl (fun s2 I2 ⟨a, sb, ha⟩ => ?_) (.inr hyl))
  obtain ⟨f0, f1, f2, f3, f4, f5⟩ := f
  have haC : C ≠ a := by
    rcases ha with z | z
    · rw [z]; exact f1
    · exact fun e => f4 y a z e.symm
  refine ⟨m, hn.sameBut sb haC, fun h3 sb3 => ?_⟩
  exact ⟨_, H', I2.turned (t' := s2.toks) (fun b o hb e => (sb3.2 b hb).trans e) f0 f1 f3 f4 f5, q⟩
end
section
variable {J : It} {n : Nat} {G : Hp → Prop} {Y : Nat → Hp → V → Hp → Prop}
theorem dc_same (w : Walk J n G Y) {g : TG} {tt : TT} {tk tv : TE} {vs : List Nat} {σ : L2.St} {H1 : Hp} {D : Addr} {Qd : Hp → Prop} (hn : n ≤ 1000000) (hD : H1 D = none) (R : Nat → List (Key × V) → Prop) (hG : ∀ H, Same H1 H → G H) (hR0 : R 0 [])
    (hRl : ∀ i kvs, R i kvs → kvs.length ≤ i)
    (hs : ∀ i x H H' kvs (QN : Hp → Prop) (QP : V → V → Hp → Prop), i < n → Same H1 H → R i kvs → Y i H x H' → (∀ H3, Same H H3 → R (i + 1) kvs → QN H3) → (∀ k z H5, Same H H5 → R (i + 1) (putK kvs k z) → QP (kV k) z H5) →
      g x (wipe σ vs) H' fun σ2 H2 => wipe σ2 vs = wipe σ vs ∧ tt σ2 H2 fun b H3 => if b = true then tk σ2 H3 fun y H4 => tv σ2 H4 fun z H5 => QP y z H5 else QN H3)
    (hd : ∀ H kvs, Same H1 H → H D = some (.dK kvs) → R n kvs → Qd H) :
    ∃ W : Nat → Nat → Hp → Prop, (∃ m, W 0 m (upd H1 D (.dK []))) ∧ ∀ i m H, W i m H →
      (J.stop i H ∧ Qd H) ∨ (J.go i H ∧ ∃ Nx : Hp → Prop, (∀ H', Nx H' → ∃ m', m' < m ∧ W (i + 1) m' H') ∧ ∀ x H', J.yld i H x H' → g x (wipe σ vs) H' fun σ2 H2 => wipe σ2 vs = wipe σ vs ∧ tt σ2 H2 fun b H3 =>
        if b = true then tk σ2 H3 fun y H4 => tv σ2 H4 fun z H5 => ∃ kvs k, y = kV k ∧ H5 D = some (.dK kvs) ∧ kvs.length < sizeLine ∧ Nx (upd H5 D (.dK (putK kvs k z))) else Nx H3) := by
  refine ⟨fun i m H => m = n - i ∧ i ≤ n ∧ Same H1 H ∧ ∃ kvs, H D = some (.dK kvs) ∧ R i kvs, ⟨n, by simp, Nat.zero_le _, Same.upd hD, [], upd_same, hR0⟩, ?_⟩
  rintro i m H ⟨rfl, hi, s1, kvs, hk, r⟩
  have q := hG H s1
  by_cases hlt : i < n
  · refine .inr ⟨w.goes i H hlt q, fun H' => i + 1 ≤ n ∧ Same H1 H' ∧ ∃ kvs, H' D = some (.dK kvs) ∧ R (i + 1) kvs, fun H' p' => ⟨n - (i + 1), by omega, rfl, p'⟩, fun x H' y => ?_⟩
    refine hs i x H H' kvs _ (fun y z H5 => ∃ kvs k, y = kV k ∧ H5 D = some (.dK kvs) ∧ kvs.length < sizeLine ∧ (i + 1 ≤ n ∧ Same H1 (upd H5 D (.dK (putK kvs k z))) ∧ ∃ kvs', upd H5 D (.dK (putK kvs k z)) D = some (.dK kvs') ∧ R (i + 1) kvs')) hlt s1 r (w.yields i H x H' hlt q y) ?_ ?_
    · intro H3 s3 r3
      exact ⟨hlt, s1.trans s3, kvs, s3 _ _ hk, r3⟩
    · intro k z H5 s5 r5
      have := hRl _ _ r
      exact ⟨kvs, k, rfl, s5 _ _ hk, by rw [sizeLine_eq]; omega, hlt, Same.put (s1.trans s5) hD, _, upd_same, r5⟩
  · have e : i = n := by omega
    subst e
    exact .inl ⟨w.stops H q, hd H kvs s1 hk r⟩
end
theorem putK_len {kvs : List (Key × V)} {k : Key} {v : V} : (putK kvs k v).length ≤ kvs.length + 1 := by
  unfold putK
  split <;> simp
theorem putK_mem {kvs : List (Key × V)} {k : Key} {v : V} {q : Key × V} (h : q ∈ putK kvs k v) : (q.1 = k ∧ q.2 = v) ∨ q ∈ kvs := by
  unfold putK at h
  split at h
  · obtain ⟨z, hz, e⟩ := List.mem_map.mp h
    by_cases hk : z.1 = k
    · rw [if_pos hk] at e
      subst e
      exact .inl ⟨hk, rfl⟩
    · rw [if_neg hk] at e
      subst e
      exact .inr hz
  · rcases List.mem_append.mp h with h | h
    · exact .inr h
    · rw [List.mem_singleton.mp h]
      exact .inl ⟨rfl, rfl⟩
/-- the items of a comprehension of True, False -/
theorem acc_bl {f : Nat → Bool} {H : Hp} {D : Addr} {n : Nat} {acc : List V} (a : Acc (fun j y _ => y = .bl (f j)) H D n acc) : acc = ((List.range n).map f).map V.bl := by
  obtain ⟨_, h2, h3⟩ := a
  apply List.ext_getElem?
  intro j
  by_cases hj : j < acc.length
  · have e := h3 j _ (List.getElem?_eq_getElem hj)
    rw [List.getElem?_eq_getElem hj, e]
    simp [h2 ▸ hj]
  · rw [List.getElem?_eq_none (by omega), List.getElem?_eq_none (by simp; omega)]
theorem all_range {f : Nat → Bool} {n : Nat} (h : ∀ i, i < n → f i = true) : ((List.range n).map f).all id = true := by
  simp
  exact h
end K80
namespace K80
open PySem PySem.Spec PyProof.Rows L2
section
variable {P : Program} {w : World} {K : PySem.W.Frag} {mg : Str → Option Value} {base : Heap}
/-! ### words.py -/
/-- an int, or a tuple -/
def IntV (K : PySem.W.Frag) (H : Hp) (v : V) (b : Bool) : Prop := (∃ i, v = .int i ∧ b = true) ∨ (∃ a xs, v = .ref a ∧ SqT K H a xs ∧ b = false)
def spIsInteger (K : PySem.W.Frag) : Sp := fun vs H Q _ => ∃ v b, vs = [v] ∧ IntV K H v b ∧ Q (.bl b) H
theorem c_is_integer (T : Top K mg) : Cal P w K mg base 1 "is_integer" (spIsInteger K) := by
  refine mkCal T.d_is_integer sc_is_integer b_is_integer (fun vs H Q E h => ?_) (fun f cdv A outer s H vs Q E hr h => ?_)
  · obtain ⟨v, b, rfl, _⟩ := h
    rfl
  · obtain ⟨v, b, rfl, hv, q⟩ := h
    refine ⟨_, pss_one (ps_ret (pe_and (pisi T.f_isinstance T.f_int boot_int (pv 0))
      (pe_one (pe_not (pisi T.f_isinstance T.f_bool boot_bool (pv 0)))))), ?_⟩
    rcases hv with ⟨i, rfl, rfl⟩ | ⟨a, xs, rfl, hx, rfl⟩
    · exact ⟨_, rfl, isi (.base (.int _)) ⟨true, rfl, iteT ⟨_, rfl, isi (.base (.int _)) ⟨false, rfl, q⟩⟩⟩⟩
    · exact ⟨_, rfl, isi (tyT hx) ⟨false, rfl, iteF q⟩⟩
/-- between two numbers, an int; a tuple is not -/
def BetV (K : PySem.W.Frag) (H : Hp) (v : V) (lo hi : Int) (b : Bool) : Prop := (∃ i, v = .int i ∧ b = decide (lo ≤ i ∧ i ≤ hi)) ∨ (∃ a xs, v = .ref a ∧ SqT K H a xs ∧ b = false)
def spIsBetween (K : PySem.W.Frag) : Sp := fun vs H Q _ => ∃ v lo hi b, vs = [v, .int lo, .int hi] ∧ BetV K H v lo hi b ∧ Q (.bl b) H
theorem c_is_between (T : Top K mg) : Cal P w K mg base 2 "is_between" (spIsBetween K) := by
  refine mkCal T.d_is_between sc_is_between b_is_between (fun vs H Q E h => ?_) (fun f cdv A outer s H vs Q E hr h => ?_)
  · obtain ⟨v, lo, hi, b, rfl, _⟩ := h
    rfl
  · obtain ⟨v, lo, hi, b, rfl, hv, q⟩ := h
    refine ⟨_, pss_one (ps_ret (pe_and (cc (c_is_integer T) hr (pa_cons (pv 0) pa_nil)) (pe_one (pe_chain op_le op_le (pv 1) (pv 0) (pv 2))))), ?_⟩
    rcases hv with ⟨i, rfl, rfl⟩ | ⟨a, xs, rfl, hx, rfl⟩
    · refine ⟨_, rfl, _, true, rfl, .inl ⟨i, rfl, rfl⟩, true, rfl, iteT ⟨_, rfl, _, rfl, _, _, rfl, rfl, _, rfl, ?_⟩⟩
      by_cases h1 : lo ≤ i
      · rw [decide_eq_true h1]
        refine iteT ⟨_, rfl, _, _, rfl, rfl, ?_⟩
        have e : decide (lo ≤ i ∧ i ≤ hi) = decide (i ≤ hi) := by simp [h1]
        rw [e] at q
        exact q
      · rw [decide_eq_false h1]
        refine iteF ?_
        have e : decide (lo ≤ i ∧ i ≤ hi) = false := by simp [h1]
        rw [e] at q
        exact q
    · exact ⟨_, rfl, _, false, rfl, .inr ⟨a, xs, rfl, hx, rfl⟩, false, rfl, iteF q⟩
def spIsValue (K : PySem.W.Frag) : Sp := fun vs H Q _ => ∃ v b, vs = [v] ∧ BetV K H v 0 2 b ∧ Q (.bl b) H
theorem c_is_value (T : Top K mg) : Cal P w K mg base 3 "is_value" (spIsValue K) := by
  refine mkCal T.d_is_value sc_is_value b_is_value (fun vs H Q E h => ?_) (fun f cdv A outer s H vs Q E hr h => ?_)
  · obtain ⟨v, b, rfl, _⟩ := h
    rfl
  · obtain ⟨v, b, rfl, hv, q⟩ := h
    refine ⟨_, pss_one (ps_ret (cc (c_is_between T) hr (pa_cons (pv 0) (pa_cons pe_int (pa_cons (ki T.i_MOST_VALUE) pa_nil))))), ?_⟩
    exact ⟨_, rfl, v, 0, 2, b, rfl, hv, q⟩
/-- a name -/
def spIsName : Sp := fun vs H Q _ => ∃ z, vs = [.str z] ∧ Nm z ∧ ∀ H', Same H H' → Q (.bl true) H'
theorem letters {c : Nat} (h : 97 ≤ c ∧ c ≤ 122) : decide (c ∈ ("abcdefghijklmnopqrstuvwxyz" : Str).cps.toList) = true := by
  obtain ⟨k, rfl⟩ : ∃ k, c = 97 + k := ⟨c - 97, by omega⟩
  have hk : k < 26 := by omega
  have : ∀ k, k < 26 → decide (97 + k ∈ ("abcdefghijklmnopqrstuvwxyz" : Str).cps.toList) = true := by decide +kernel
  exact this k hk
theorem Nm.len {z : Str} (h : Nm z) : z.length ≤ sizeLine := by
  have := h.2.1
  rw [sizeLine_eq]
  omega
theorem c_is_name (T : Top K mg) : Cal P w K mg base 1 "is_name" spIsName := by
  refine mkCal T.d_is_name sc_is_name b_is_name (fun vs H Q E h => ?_) (fun f cdv A outer s H vs Q E hr h => ?_)
  · obtain ⟨z, rfl, _⟩ := h
    rfl
  · obtain ⟨z, rfl, hz, q⟩ := h
    refine ⟨_, pss_one (ps_ret (pe_and (pisi T.f_isinstance T.f_str boot_str (pv 0)) (pe_and (pe_chain op_le op_le pe_int (plen T.f_len (pv 0)) (ki T.i_MOST_LETTERS))
      (pe_one (pall T.f_all (plc n_is_name (defScope s_is_name) 1 sc_is_name.nd (pi_str (pv 0)) (fun _ _ _ _ _ => pe_cmpR op_in_sign (pv 1) (ks T.t_LETTERS) rfl))))))), ?_⟩
    refine ⟨_, rfl, isi (.base (.str _)) ⟨true, rfl, iteT ⟨_, rfl, _, z.length, rfl, ⟨hz.len, rfl⟩, 1, (z.length : Int), rfl, rfl, true, ?_, iteT ⟨_, _, rfl, rfl, true, ?_, iteT ⟨_, rfl, z, rfl, fun D hD => ?_⟩⟩⟩⟩⟩
    · have := hz.1
      exact congrArg V.bl (decide_eq_true (by omega))
    · have := hz.2.1
      exact congrArg V.bl (decide_eq_true (by omega))
    · refine lc_same walk_str (by have := hz.2.1; have e : z.length = z.cps.size := rfl; omega) hD (fun j y _ => y = .bl ((fun _ => true) j)) (fun _ _ => trivial) (fun _ _ _ _ _ r => r) ?_ ?_
      · rintro i x H1 H2 Qk hi s1 ⟨rfl, c, hc, rfl⟩ k
        refine ⟨rfl, _, rfl, c, _, rfl, rfl, ?_⟩
        rw [letters (hz.2.2 c (Array.mem_toList_iff.mpr (Array.mem_of_getElem? hc)))]
        exact k _ _ (Same.refl _) rfl
      · intro H1 acc s1 a
        refine ⟨D, _, rfl, SqL.of (by rw [a.1, acc_bl a]), ?_⟩
        rw [all_range (fun _ _ => rfl)]
        exact q _ s1
/-- a tuple's first word and its length; a value is none -/
def HasK (K : PySem.W.Frag) (H : Hp) (v : V) (k : Str) (m : Int) (b : Bool) : Prop := (∃ i, v = .int i ∧ b = false) ∨ (∃ a h xs, v = .ref a ∧ SqT K H a (.str h :: xs) ∧ b = (decide ((xs.length : Int) + 1 = m) && decide (h = k)))
def spHasKind (K : PySem.W.Frag) : Sp := fun vs H Q _ => ∃ v k m b, vs = [v, .str k, .int m] ∧ HasK K H v k m b ∧ Q (.bl b) H
theorem c_has_kind (T : Top K mg) : Cal P w K mg base 1 "has_kind" (spHasKind K) := by
  refine mkCal T.d_has_kind sc_has_kind b_has_kind (fun vs H Q E h => ?_) (fun f cdv A outer s H vs Q E hr h => ?_)
  · obtain ⟨v, k, m, b, rfl, _⟩ := h
    rfl
  · obtain ⟨v, k, m, b, rfl, hv, q⟩ := h
    refine ⟨_, pss_one (ps_ret (pe_and (pisi T.f_isinstance T.f_tuple boot_tuple (pv 0)) (pe_and (pe_cmpR op_eq (plen T.f_len (pv 0)) (pv 2) (nomark _))
      (pe_and (pisi T.f_isinstance T.f_str boot_str (pe_ix ix_tup (pv 0) pe_int (fun _ _ => rfl))) (pe_one (pe_cmpR op_eq (pe_ix ix_tup (pv 0) pe_int (fun _ _ => rfl)) (pv 1) (nomark _))))))), ?_⟩
    rcases hv with ⟨i, rfl, rfl⟩ | ⟨a, h, xs, rfl, hx, rfl⟩
    · exact ⟨_, rfl, isi (.base (.int _)) ⟨false, rfl, iteF q⟩⟩
    · have h0 : atI (V.str h :: xs) 0 = some (V.str h) := atI_nat (j := 0) rfl
      refine ⟨_, rfl, isi (tyT hx) ⟨true, rfl, iteT ⟨_, rfl, _, _, rfl, .inr ⟨_, hx, rfl⟩, _, rfl, rfl, decide ((xs.length : Int) + 1 = m), ?_, ?_⟩⟩⟩
      · rw [List.length_cons]
        exact congrArg V.bl (decide_eq_decide.mpr ⟨fun e => by injection e, fun e => by rw [← e]; rfl⟩)
      · by_cases e : (xs.length : Int) + 1 = m
        · rw [decide_eq_true e]
          rw [decide_eq_true e, Bool.true_and] at q
          refine iteT ⟨_, rfl, a, _, 0, _, rfl, rfl, hx, h0, isi (.base (.str _)) ⟨true, rfl, iteT ⟨_, rfl, a, _, 0, _, rfl, rfl, hx, h0, _, rfl, rfl, ?_⟩⟩⟩
          have e2 : decide (V.str h = V.str k) = decide (h = k) := decide_eq_decide.mpr ⟨fun z => by injection z, fun z => by rw [z]⟩
          show Q (V.bl (decide (V.str h = V.str k))) H
          rw [e2]
          exact q
        · rw [decide_eq_false e]
          rw [decide_eq_false e, Bool.false_and] at q
          exact iteF q
end
end K80
namespace K80
open PySem PySem.Spec PyProof.Rows L2
section
variable {P : Program} {w : World} {K : PySem.W.Frag} {mg : Str → Option Value} {base : Heap}
/-! ### cells.py, labels.py -/
/-- all stands but the new object at p -/
def But (p : Addr) (H H' : Hp) : Prop := ∀ b o, H b = some o → b ≠ p → H' b = some o
theorem But.of {p : Addr} {H H' : Hp} (s : Same H H') : But p H H' := fun b o e _ => s b o e
theorem But.trans {p : Addr} {H H1 H2 : Hp} (a : But p H H1) (b : But p H1 H2) : But p H H2 := fun c o e n => b c o (a c o e n) n
theorem But.upd {p : Addr} {H : Hp} {o : HO} : But p H (upd H p o) := fun b u e n => by rw [upd_ne n]; exact e
theorem in_kinds {k : Str} (h : IsKind k) : inV (.str k) [.str "frozen", .str "setting", .str "table"] = true := by
  rcases h with rfl | rfl | rfl <;> decide +kernel
theorem in_labels {k : Str} (h : IsLab k) : inV (.str k) [.str "always", .str "session", .str "statement", .str "changing"] = true := by
  rcases h with rfl | rfl | rfl | rfl <;> decide +kernel
def spCellI (K : PySem.W.Frag) : Sp := fun vs H Q _ => ∃ p dx n k, vs = [.ref p, .str n, .str k] ∧ H p = some (.ins (He.ga K "Cell") dx []) ∧ Nm n ∧ IsKind k ∧
  ∀ H', H' p = some (.ins (He.ga K "Cell") dx [("name", .str n), ("kind", .str k)]) → But p H H' → Q .non H'
theorem c_Cell (T : Top K mg) : Mak P w K mg base 2 "Cell" (He.ga K "Cell") (spCellI K) := by
  obtain ⟨fd, F⟩ := T.d_Cell_init
  refine mkMak T.k_Cell T.g_Cell F sc_Cell_init b_Cell_init (fun vs H Q E h => ?_) (fun f cdv A outer s H vs Q E hr h => ?_)
  · obtain ⟨p, dx, n, k, rfl, _⟩ := h
    rfl
  · obtain ⟨p, dx, n, k, rfl, hp, hn, hk, q⟩ := h
    refine ⟨_, pss_cons (ps_if (pt_not (pt_val (cc (c_is_name T) hr (pa_cons (pv 1) pa_nil)))) pss_never pss_nil)
      (pss_cons (ps_if (PW.pt (pw_or (pt_not (pt_val (pisi T.f_isinstance T.f_str boot_str (pv 2)))) (pw_or1 (pt_cmpR op_notIn_seq (pv 2) (kr T.g_KINDS) rfl)))) pss_never pss_nil)
      (pss_cons (ps_fld (pv 0) (pv 1) rfl) (pss_one (ps_fld (pv 0) (pv 2) rfl)))), ?_⟩
    refine ⟨_, rfl, n, rfl, hn, fun H1 s1 => ⟨true, rfl, iteF ⟨_, rfl, isi (.base (.str _)) ⟨true, rfl, iteF ⟨_, rfl, _, _, rfl, .inr (T.kinds H1), rfl, rfl, _, rfl, ?_⟩⟩⟩⟩⟩
    rw [in_kinds hk]
    refine iteF ⟨_, rfl, _, rfl, p, _, dx, [], rfl, s1 _ _ hp, T.c_Cell, T.n_Cell_name, (by show 0 < 1000; decide), _, rfl, _, rfl, p, _, dx, _, rfl, upd_same, T.c_Cell, T.n_Cell_kind, (by show 1 < 1000; decide), ?_⟩
    exact q _ upd_same ((But.of s1).trans (But.upd.trans But.upd))
def spIsLab : Sp := fun vs H Q _ => ∃ l, vs = [.str l] ∧ IsLab l ∧ Q (.bl true) H
theorem c_is_label_name (T : Top K mg) : Cal P w K mg base 1 "is_label_name" spIsLab := by
  refine mkCal T.d_is_label_name sc_is_label_name b_is_label_name (fun vs H Q E h => ?_) (fun f cdv A outer s H vs Q E hr h => ?_)
  · obtain ⟨l, rfl, _⟩ := h
    rfl
  · obtain ⟨l, rfl, hl, q⟩ := h
    refine ⟨_, pss_one (ps_ret (pe_and (pisi T.f_isinstance T.f_str boot_str (pv 0)) (pe_one (pe_cmpR op_in_seq (pv 0) (kr T.g_LABELS) rfl)))), ?_⟩
    refine ⟨_, rfl, isi (.base (.str _)) ⟨true, rfl, iteT ⟨_, rfl, _, _, rfl, .inr (T.labels H), rfl, rfl, ?_⟩⟩⟩
    show Q (V.bl (inV _ _)) H
    rw [in_labels hl]
    exact q
def spLabI (K : PySem.W.Frag) : Sp := fun vs H Q _ => ∃ p dx l, vs = [.ref p, .str l] ∧ H p = some (.ins (He.ga K "Label") dx []) ∧ IsLab l ∧
  ∀ H' h, H' p = some (.ins (He.ga K "Label") dx [("name", .str l), ("height", .int h)]) → But p H H' → Q .non H'
theorem lab_ix {l : Str} (h : IsLab l) : ∃ j : Nat, (["always", "session", "statement", "changing"] : List Str)[j]? = some l ∧ ∀ m, m < j → (["always", "session", "statement", "changing"] : List Str)[m]? ≠ some l := by
  rcases h with rfl | rfl | rfl | rfl
  · exact ⟨0, rfl, by decide +kernel⟩
  · exact ⟨1, rfl, by decide +kernel⟩
  · exact ⟨2, rfl, by decide +kernel⟩
  · exact ⟨3, rfl, by decide +kernel⟩
theorem c_Label (T : Top K mg) : Mak P w K mg base 2 "Label" (He.ga K "Label") (spLabI K) := by
  obtain ⟨fd, F⟩ := T.d_Label_init
  refine mkMak T.k_Label T.g_Label F sc_Label_init b_Label_init (fun vs H Q E h => ?_) (fun f cdv A outer s H vs Q E hr h => ?_)
  · obtain ⟨p, dx, l, rfl, _⟩ := h
    rfl
  · obtain ⟨p, dx, l, rfl, hp, hl, q⟩ := h
    obtain ⟨j, hj, hm⟩ := lab_ix hl
    refine ⟨_, pss_cons (ps_if (pt_not (pt_val (cc (c_is_label_name T) hr (pa_cons (pv 1) pa_nil)))) pss_never pss_nil)
      (pss_cons (ps_fld (pv 0) (pv 1) rfl) (pss_one (ps_fld (pv 0) (pe_op op_sub (pe_op op_sub (plen T.f_len (kr T.g_LABELS)) pe_int)
        (pe_bm PySem.F.plainAttrs_tuple PySem.F.slot_tuple_index PySem.F.type_tuple_index mt_tup_index (kr T.g_LABELS) (pa_cons (pv 1) pa_nil))) rfl))), ?_⟩
    refine ⟨_, rfl, l, rfl, hl, true, rfl, iteF ⟨_, rfl, _, rfl, p, _, dx, [], rfl, hp, T.c_Label, T.n_Label_name, (by show 0 < 1000; decide), ?_⟩⟩
    refine ⟨_, 4, rfl, .inr ⟨_, T.labels _, rfl⟩, _, _, rfl, rfl, ?_⟩
    refine ⟨.inr (.inl ⟨rfl, T.labTup⟩), _, rfl, _, ["always", "session", "statement", "changing"], l, j, rfl, rfl, T.labels _, hj, hm, _, _, rfl, rfl, ?_⟩
    refine ⟨_, rfl, p, _, dx, _, rfl, upd_same, T.c_Label, T.n_Label_height, (by show 1 < 1000; decide), ?_⟩
    exact q _ _ upd_same (But.upd.trans But.upd)
/-- a label by its name -/
def spMadeLab (K : PySem.W.Frag) : Sp := fun vs H Q _ => ∃ l, vs = [.str l] ∧ IsLab l ∧ ∀ p H', LabAt K H' p l → H p = none → Same H H' → Q (.ref p) H'
theorem c_made_label (T : Top K mg) : Cal P w K mg base 4 "made_label" (spMadeLab K) := by
  refine mkCal T.d_made_label sc_made_label b_made_label (fun vs H Q E h => ?_) (fun f cdv A outer s H vs Q E hr h => ?_)
  · obtain ⟨l, rfl, _⟩ := h
    rfl
  · obtain ⟨l, rfl, hl, q⟩ := h
    refine ⟨_, pss_one (ps_ret (pe_ifExp (pt_val (pe_callB call_isi rfl T.f_isinstance boot_isinstance (pa_cons (pv 0) (pa_cons (kr T.g_Label) pa_nil)))) (pv 0) (cmk (c_Label T) hr (pa_cons (pv 0) pa_nil)))), ?_⟩
    refine ⟨_, rfl, .str l, .ref (He.ga K "Label"), .type "str", .ref (He.ga K "Label"), false, rfl, .own _, .base (.str _), T.exs.sL, false, rfl, iteF ⟨_, rfl, fun x dx nx ndx nex => ?_⟩⟩
    refine ⟨x, dx, l, rfl, upd_same, hl, fun H' h hx b => ⟨rfl, q x H' ⟨dx, h, hx⟩ nx fun c o e => ?_⟩⟩
    exact b c o (by rw [upd_ne (ne_of_none e nx), upd_ne (ne_of_none e ndx)]; exact e) (ne_of_none e nx)
end
end K80
namespace K80
open PySem PySem.Spec PyProof.Rows L2
section
variable {P : Program} {w : World} {K : PySem.W.Frag} {mg : Str → Option Value} {base : Heap}
/-! ### terms.py -/
theorem in_pairs {k : Str} (h : Tm.IsPair k) : inV (.str k) [.str "plus", .str "less", .str "same"] = true := by
  rcases h with rfl | rfl | rfl <;> decide +kernel
theorem in_pairs_if : inV (.str "if") [.str "plus", .str "less", .str "same"] = false := by decide +kernel
/-- the first word of a leaf -/
theorem leaf_head {t : Tm} {xs : List V} (h : t.sh = .leaf xs) : ∃ z r, xs = .str z :: r ∧ decide (V.str z = V.str "call") = false ∧ decide (V.str z = V.str "if") = false ∧ inV (.str z) [.str "plus", .str "less", .str "same"] = false := by
  cases t with
  | arg i => cases h; exact ⟨_, _, rfl, by decide +kernel, by decide +kernel, by decide +kernel⟩
  | cell i => cases h; exact ⟨_, _, rfl, by decide +kernel, by decide +kernel, by decide +kernel⟩
  | tick => cases h; exact ⟨_, _, rfl, by decide +kernel, by decide +kernel, by decide +kernel⟩
  | _ => cases h
/-- the word of a node -/
theorem node_head {m : Nat} {t : Tm} {k : Str} (hw : t.wf m) (h : t.sh = .node k) : decide (V.str k = V.str "call") = false ∧ ((inV (.str k) [.str "plus", .str "less", .str "same"] = true) ∨ (inV (.str k) [.str "plus", .str "less", .str "same"] = false ∧ decide (V.str k = V.str "if") = true)) := by
  cases t with
  | two k' a b =>
    have hp : Tm.IsPair k := by
      cases h
      exact hw.1
    rcases hp with rfl | rfl | rfl
    · exact ⟨by decide +kernel, .inl (by decide +kernel)⟩
    · exact ⟨by decide +kernel, .inl (by decide +kernel)⟩
    · exact ⟨by decide +kernel, .inl (by decide +kernel)⟩
  | ite c a b => cases h; exact ⟨by decide +kernel, .inr ⟨by decide +kernel, by decide +kernel⟩⟩
  | _ => cases h
def spInner (K : PySem.W.Frag) : Sp := fun vs H Q _ => ∃ v t m, vs = [v] ∧ TV K H t v ∧ t.wf m ∧ ∀ q ks H', Same H H' → SqT K H' q ks → TVs K H' t.kids ks → Q (.ref q) H'
theorem c_inner_terms (T : Top K mg) : Cal P w K mg base 1 "inner_terms" (spInner K) := by
  refine mkCal T.d_inner_terms sc_inner_terms b_inner_terms (fun vs H Q E h => ?_) (fun f cdv A outer s H vs Q E hr h => ?_)
  · obtain ⟨v, t, m, rfl, _⟩ := h
    rfl
  · obtain ⟨v, t, m, rfl, hv, hw, q⟩ := h
    refine ⟨_, pss_cons (ps_if (pt_not (pt_val (pisi T.f_isinstance T.f_tuple boot_tuple (pv 0)))) (pss_one (ps_ret (pe_tup pa_nil))) pss_nil)
      (pss_cons (ps_if (pt_cmpR op_eq (pe_ix ix_tup (pv 0) pe_int (fun _ _ => rfl)) pe_str (nomark _)) (pss_one (ps_ret (pe_ix ix_tup (pv 0) pe_int (fun _ _ => rfl)))) pss_nil)
      (pss_one (ps_ret (pe_ifExp (PW.pt (pw_or (pt_cmpR op_in_seq (pe_ix ix_tup (pv 0) pe_int (fun _ _ => rfl)) (kr T.g_PAIRS) rfl) (pw_or1 (pt_cmpR op_eq (pe_ix ix_tup (pv 0) pe_int (fun _ _ => rfl)) pe_str (nomark _)))))
        (pe_slice sl_tup (pv 0) (po_some pe_int) po_none) (pe_tup pa_nil))))), ?_⟩
    have none_ : t.kids = [] → ∀ p, H p = none → Q (.ref p) (upd H p (.tup [])) := fun e p hp => q p [] _ (Same.upd hp) (SqT.of upd_same) (by rw [e]; exact .nil)
    cases hv.by_sh with
    | val n h1 h2 h3 => exact ⟨_, rfl, isi (.base (.int _)) ⟨false, rfl, iteT ⟨(by show 0 ≤ sizeLine; decide), none_ h2⟩⟩⟩
    | leaf xs h1 h2 hp =>
      obtain ⟨z, r, rfl, e1, e2, e3⟩ := leaf_head h1
      have h0 : atI (V.str z :: r) 0 = some (V.str z) := atI_nat (j := 0) rfl
      refine ⟨_, rfl, isi (tyT hp) ⟨true, rfl, iteF ⟨_, rfl, _, _, _, _, rfl, rfl, hp, h0, rfl, _, rfl, ?_⟩⟩⟩
      rw [e1]
      refine iteF ⟨_, rfl, _, _, _, _, rfl, rfl, hp, h0, _, _, rfl, .inr (T.pairs H), rfl, rfl, _, rfl, ?_⟩
      rw [if_neg Bool.false_ne_true, e3]
      refine iteF ⟨_, rfl, _, _, _, _, rfl, rfl, hp, h0, rfl, _, rfl, ?_⟩
      rw [e2]
      exact iteF ⟨(by show 0 ≤ sizeLine; decide), none_ h2⟩
    | node k h1 hp ks =>
      rename_i a vs
      have h0 : atI (V.str k :: vs) 0 = some (V.str k) := atI_nat (j := 0) rfl
      obtain ⟨e1, e2⟩ := node_head hw h1
      have cut : ∀ H1, Same H H1 → rSlT K (.ref a) (some 1) none H1 Q := fun H1 s1 => by
        refine ⟨a, _, rfl, (NL.of s1).tup hp, fun z => ?_, fun p hn => ?_⟩
        · have : HT.sIx (V.str k :: vs).length 0 (some 1) = min 1 (V.str k :: vs).length := HT.sIx_nat _ 0 1
          rw [this, List.length_cons] at z
          omega
        · have e : cutV (V.str k :: vs) (some 1) none = vs := by
            unfold cutV
            rw [show HT.sIx (V.str k :: vs).length 0 (some 1) = min 1 (V.str k :: vs).length from HT.sIx_nat _ 0 1, List.length_cons, HT.sIx_none, show min 1 (vs.length + 1) = 1 by omega]
            simp
          rw [e]
          exact q p vs _ (Same.upd' s1 hn) (SqT.of upd_same) (TVs.nl (NL.of (Same.upd' s1 hn)) ks)
      refine ⟨_, rfl, isi (tyT hp) ⟨true, rfl, iteF ⟨_, rfl, _, _, _, _, rfl, rfl, hp, h0, rfl, _, rfl, ?_⟩⟩⟩
      rw [e1]
      refine iteF ⟨_, rfl, _, _, _, _, rfl, rfl, hp, h0, _, _, rfl, .inr (T.pairs H), rfl, rfl, _, rfl, ?_⟩
      rw [if_neg Bool.false_ne_true]
      rcases e2 with e2 | ⟨e2, e3⟩
      · rw [e2]
        exact iteT ⟨_, rfl, 1, rfl, cut H (Same.refl H)⟩
      · rw [e2]
        refine iteF ⟨_, rfl, _, _, _, _, rfl, rfl, hp, h0, rfl, _, rfl, ?_⟩
        rw [e3]
        exact iteT ⟨_, rfl, 1, rfl, cut H (Same.refl H)⟩
    | call g h1 hp hq ks =>
      rename_i a b vs
      have h0 : atI [V.str "call", V.str g, V.ref b] 0 = some (V.str "call") := atI_nat (j := 0) rfl
      have h2 : atI [V.str "call", V.str g, V.ref b] 2 = some (V.ref b) := atI_nat (j := 2) rfl
      refine ⟨_, rfl, isi (tyT hp) ⟨true, rfl, iteF ⟨_, rfl, _, _, _, _, rfl, rfl, hp, h0, rfl, _, rfl, ?_⟩⟩⟩
      rw [decide_eq_true rfl]
      exact iteT ⟨_, rfl, _, _, _, _, rfl, rfl, hp, h2, q b vs H (Same.refl H) hq ks⟩
end
end K80
namespace K80
open PySem PySem.Spec PyProof.Rows L2
section
variable {P : Program} {w : World} {K : PySem.W.Frag} {mg : Str → Option Value} {base : Heap}
theorem qT {Q : VK} {H : Hp} {p : Prop} [Decidable p] (h : p) (q : Q (.bl true) H) : Q (.bl (decide p)) H := by
  rw [decide_eq_true h]
  exact q
theorem qF {Q : VK} {H : Hp} {p : Prop} [Decidable p] (h : ¬ p) (q : Q (.bl false) H) : Q (.bl (decide p)) H := by
  rw [decide_eq_false h]
  exact q
theorem HasK.len {H : Hp} {a : Addr} {h k : Str} {xs : List V} {m : Int} (hp : SqT K H a (.str h :: xs)) (e : (xs.length : Int) + 1 ≠ m) : HasK K H (.ref a) k m false := .inr ⟨a, h, xs, rfl, hp, by rw [decide_eq_false e]; rfl⟩
theorem HasK.head {H : Hp} {a : Addr} {h k : Str} {xs : List V} {m : Int} (hp : SqT K H a (.str h :: xs)) (e : h ≠ k) : HasK K H (.ref a) k m false := .inr ⟨a, h, xs, rfl, hp, by rw [decide_eq_false e, Bool.and_false]⟩
theorem HasK.yes {H : Hp} {a : Addr} {h : Str} {xs : List V} {m : Int} (hp : SqT K H a (.str h :: xs)) (e : (xs.length : Int) + 1 = m) : HasK K H (.ref a) h m true := .inr ⟨a, h, xs, rfl, hp, by rw [decide_eq_true e, decide_eq_true rfl]; rfl⟩
theorem HasK.any {H : Hp} {a : Addr} {h k : Str} {xs : List V} (hp : SqT K H a (.str h :: xs)) {m : Int} (e : (xs.length : Int) + 1 = m) : HasK K H (.ref a) k m (decide (h = k)) := .inr ⟨a, h, xs, rfl, hp, by rw [decide_eq_true e, Bool.true_and]⟩
def spHasForm (K : PySem.W.Frag) : Sp := fun vs H Q _ => ∃ v t, ∃ m : Nat, vs = [v, .int (m : Nat)] ∧ TV K H t v ∧ t.wf m ∧ ∀ H', Same H H' → Q (.bl true) H'
theorem c_has_form (T : Top K mg) : Cal P w K mg base 4 "has_form" (spHasForm K) := by
  refine mkCal T.d_has_form sc_has_form b_has_form (fun vs H Q E h => ?_) (fun f cdv A outer s H vs Q E hr h => ?_)
  · obtain ⟨v, t, m, rfl, _⟩ := h
    rfl
  · obtain ⟨v, t, m, rfl, hv, hw, q⟩ := h
    have hk := c_has_kind (P := P) (w := w) (base := base) T
    refine ⟨_, pss_cons (ps_if (PW.pt (pw_or (pt_val (cc (c_is_value T) hr (pa_cons (pv 0) pa_nil))) (pw_or1 (pt_val (cc hk hr (pa_cons (pv 0) (pa_cons pe_str (pa_cons pe_int pa_nil)))))))) (pss_one (ps_ret pe_bl)) pss_nil)
      (pss_cons (ps_if (pt_val (cc hk hr (pa_cons (pv 0) (pa_cons pe_str (pa_cons pe_int pa_nil))))) (pss_one (ps_ret (cc (c_is_between T) hr (pa_cons (pe_ix ix_tup (pv 0) pe_int (fun _ _ => rfl)) (pa_cons pe_int (pa_cons (pe_op op_sub (pv 1) pe_int) pa_nil)))))) pss_nil)
      (pss_cons (ps_if (pt_val (cc hk hr (pa_cons (pv 0) (pa_cons pe_str (pa_cons pe_int pa_nil))))) (pss_one (ps_ret (cc (c_is_name T) hr (pa_cons (pe_ix ix_tup (pv 0) pe_int (fun _ _ => rfl)) pa_nil)))) pss_nil)
      (pss_cons (ps_if (pt_val (cc hk hr (pa_cons (pv 0) (pa_cons pe_str (pa_cons pe_int pa_nil)))))
        (pss_one (ps_ret (pe_and (cc (c_is_name T) hr (pa_cons (pe_ix ix_tup (pv 0) pe_int (fun _ _ => rfl)) pa_nil)) (pe_and (pisi T.f_isinstance T.f_tuple boot_tuple (pe_ix ix_tup (pv 0) pe_int (fun _ _ => rfl)))
          (pe_one (pe_cmpR op_le (plen T.f_len (pe_ix ix_tup (pv 0) pe_int (fun _ _ => rfl))) (ki T.i_MOST_ARGUMENTS) (nomark _)))))))
        pss_nil)
      (pss_one (ps_ret (pe_or (pany T.f_any (plc n_has_form (defScope s_has_form) 2 sc_has_form.nd (pi_tup (kr T.g_PAIRS)) (fun _ _ _ _ _ => cc hk hr (pa_cons (pv 0) (pa_cons (pv 2) (pa_cons pe_int pa_nil)))))) (pe_one (cc hk hr (pa_cons (pv 0) (pa_cons pe_str (pa_cons pe_int pa_nil))))))))))), ?_⟩
    have notval : ∀ {a : Addr} {xs : List V}, SqT K H a xs → BetV K H (.ref a) 0 2 false := fun {a xs} h => .inr ⟨a, xs, rfl, h, rfl⟩
    by_cases hcall : ∃ p r g ws, v = .ref p ∧ SqT K H p [.str "call", .str g, .ref r] ∧ SqT K H r ws ∧ ws.length ≤ 2 ∧ Nm g
    · obtain ⟨p, r, g, ws, rfl, hp, hq, hl, hg⟩ := hcall
      have h1 : atI [V.str "call", V.str g, V.ref r] 1 = some (V.str g) := atI_nat (j := 1) rfl
      have h2 : atI [V.str "call", V.str g, V.ref r] 2 = some (V.ref r) := atI_nat (j := 2) rfl
      refine ⟨_, rfl, _, false, rfl, notval hp, false, rfl, iteF ⟨_, rfl, _, _, _, false, rfl, HasK.len hp (by show ((2 : Nat) : Int) + 1 ≠ 1; decide), false, rfl, iteF ⟨_, rfl, _, _, _, false, rfl, HasK.len hp (by show ((2 : Nat) : Int) + 1 ≠ 2; decide), false, rfl, iteF ⟨_, rfl, _, _, _, false, rfl, HasK.len hp (by show ((2 : Nat) : Int) + 1 ≠ 2; decide), false, rfl,
        iteF ⟨_, rfl, _, _, _, true, rfl, HasK.yes hp rfl, true, rfl, iteT ?_⟩⟩⟩⟩⟩
      refine ⟨_, rfl, _, _, _, _, rfl, rfl, hp, h1, g, rfl, hg, fun H1 s1 => ⟨true, rfl, iteT ⟨_, rfl, _, _, _, _, rfl, rfl, (NL.of s1).tup hp, h2, isi (tyT ((NL.of s1).tup hq)) ⟨true, rfl, iteT ?_⟩⟩⟩⟩
      refine ⟨_, rfl, _, _, _, _, rfl, rfl, (NL.of s1).tup hp, h2, _, ws.length, rfl, .inr ⟨ws, (NL.of s1).tup hq, rfl⟩, _, _, rfl, rfl, ?_⟩
      exact qT (show (ws.length : Int) ≤ 2 by omega) (q _ s1)
    cases t with
    | val n =>
      have e : v = .int (n : Nat) := hv
      subst e
      have hn : n ≤ 2 := hw
      exact ⟨_, rfl, _, true, rfl, .inl ⟨_, rfl, (decide_eq_true (by omega)).symm⟩, true, rfl, iteT (iteT (q _ (Same.refl _)))⟩
    | tick =>
      obtain ⟨p, rfl, hp⟩ := hv
      exact ⟨_, rfl, _, false, rfl, notval hp, false, rfl, iteF ⟨_, rfl, _, _, _, true, rfl, HasK.yes hp rfl, true, rfl, iteT (q _ (Same.refl _))⟩⟩
    | arg i =>
      obtain ⟨p, rfl, hp⟩ := hv
      have hi : i < m := hw
      have h1 : atI [V.str "arg", V.int (i : Nat)] 1 = some (V.int (i : Nat)) := atI_nat (j := 1) rfl
      refine ⟨_, rfl, _, false, rfl, notval hp, false, rfl, iteF ⟨_, rfl, _, _, _, false, rfl, HasK.len hp (by show ((1 : Nat) : Int) + 1 ≠ 1; decide), false, rfl, iteF ⟨_, rfl, _, _, _, true, rfl, HasK.yes hp rfl, true, rfl, iteT ?_⟩⟩⟩
      exact ⟨_, rfl, _, _, _, _, rfl, rfl, hp, h1, _, rfl, _, _, rfl, rfl, _, _, _, true, rfl, .inl ⟨_, rfl, (decide_eq_true (by omega)).symm⟩, q _ (Same.refl _)⟩
    | cell c =>
      obtain ⟨p, rfl, hp⟩ := hv
      have h1 : atI [V.str "cell", V.str c] 1 = some (V.str c) := atI_nat (j := 1) rfl
      refine ⟨_, rfl, _, false, rfl, notval hp, false, rfl, iteF ⟨_, rfl, _, _, _, false, rfl, HasK.len hp (by show ((1 : Nat) : Int) + 1 ≠ 1; decide), false, rfl, iteF ⟨_, rfl, _, _, _, false, rfl, HasK.head hp (by decide +kernel), false, rfl, iteF ⟨_, rfl, _, _, _, true, rfl, HasK.yes hp rfl, true, rfl, iteT ?_⟩⟩⟩⟩
      exact ⟨_, rfl, _, _, _, _, rfl, rfl, hp, h1, c, rfl, hw, q⟩
    | two k a b =>
      obtain ⟨p, x, y, rfl, hp, _⟩ := hv
      have hk' : Tm.IsPair k := hw.1
      refine ⟨_, rfl, _, false, rfl, notval hp, false, rfl, iteF ⟨_, rfl, _, _, _, false, rfl, HasK.len hp (by show ((2 : Nat) : Int) + 1 ≠ 1; decide), false, rfl, iteF ⟨_, rfl, _, _, _, false, rfl, HasK.len hp (by show ((2 : Nat) : Int) + 1 ≠ 2; decide), false, rfl, iteF ⟨_, rfl, _, _, _, false, rfl, HasK.len hp (by show ((2 : Nat) : Int) + 1 ≠ 2; decide), false, rfl,
        iteF ⟨_, rfl, _, _, _, false, rfl, HasK.head hp (by rcases hk' with rfl | rfl | rfl <;> decide +kernel), false, rfl, iteF ⟨_, rfl, ⟨_, T.pairs H⟩, fun D hD => ?_⟩⟩⟩⟩⟩⟩
      refine lc_same walk_tup (by decide) hD (fun j y _ => y = .bl ((fun j => decide (k = (["plus", "less", "same"] : List Str).getD j "")) j)) (fun H1 s1 => (NL.of s1).tup (T.pairs H)) (fun _ _ _ _ _ r => r) ?_ ?_
      · rintro i x H1 H2 Qk hi s1 ⟨rfl, hx⟩ kk
        have hp1 := (NL.of s1).tup hp
        match i, hx with
        | 0, hx => cases hx; exact ⟨rfl, _, rfl, _, rfl, _, _, _, _, rfl, HasK.any hp1 rfl, kk _ _ (Same.refl _) rfl⟩
        | 1, hx => cases hx; exact ⟨rfl, _, rfl, _, rfl, _, _, _, _, rfl, HasK.any hp1 rfl, kk _ _ (Same.refl _) rfl⟩
        | 2, hx => cases hx; exact ⟨rfl, _, rfl, _, rfl, _, _, _, _, rfl, HasK.any hp1 rfl, kk _ _ (Same.refl _) rfl⟩
        | n + 3, hx => simp at hx
      · intro H1 acc s1 a
        refine ⟨D, _, rfl, SqL.of (by rw [a.1, acc_bl a]), ?_⟩
        have e : (List.map (fun j => decide (k = (["plus", "less", "same"] : List Str).getD j "")) (List.range [V.str "plus", V.str "less", V.str "same"].length)).any id = true := by
          rcases hk' with rfl | rfl | rfl <;> decide +kernel
        rw [e]
        exact ⟨true, rfl, iteT (q _ s1)⟩
    | ite c a b =>
      obtain ⟨p, z, x, y, rfl, hp, _⟩ := hv
      refine ⟨_, rfl, _, false, rfl, notval hp, false, rfl, iteF ⟨_, rfl, _, _, _, false, rfl, HasK.len hp (by show ((3 : Nat) : Int) + 1 ≠ 1; decide), false, rfl, iteF ⟨_, rfl, _, _, _, false, rfl, HasK.len hp (by show ((3 : Nat) : Int) + 1 ≠ 2; decide), false, rfl, iteF ⟨_, rfl, _, _, _, false, rfl, HasK.len hp (by show ((3 : Nat) : Int) + 1 ≠ 2; decide), false, rfl,
        iteF ⟨_, rfl, _, _, _, false, rfl, HasK.len hp (by show ((3 : Nat) : Int) + 1 ≠ 3; decide), false, rfl, iteF ⟨_, rfl, ⟨_, T.pairs H⟩, fun D hD => ?_⟩⟩⟩⟩⟩⟩
      refine lc_same walk_tup (by decide) hD (fun j y _ => y = .bl ((fun j => false) j)) (fun H1 s1 => (NL.of s1).tup (T.pairs H)) (fun _ _ _ _ _ r => r) ?_ ?_
      · rintro i x H1 H2 Qk hi s1 ⟨rfl, hx⟩ kk
        have hp1 := (NL.of s1).tup hp
        match i, hx with
        | 0, hx => cases hx; exact ⟨rfl, _, rfl, _, rfl, _, _, _, _, rfl, HasK.len hp1 (by show ((3 : Nat) : Int) + 1 ≠ 3; decide), kk _ _ (Same.refl _) rfl⟩
        | 1, hx => cases hx; exact ⟨rfl, _, rfl, _, rfl, _, _, _, _, rfl, HasK.len hp1 (by show ((3 : Nat) : Int) + 1 ≠ 3; decide), kk _ _ (Same.refl _) rfl⟩
        | 2, hx => cases hx; exact ⟨rfl, _, rfl, _, rfl, _, _, _, _, rfl, HasK.len hp1 (by show ((3 : Nat) : Int) + 1 ≠ 3; decide), kk _ _ (Same.refl _) rfl⟩
        | n + 3, hx => simp at hx
      · intro H1 acc s1 a
        refine ⟨D, _, rfl, SqL.of (by rw [a.1, acc_bl a]), false, by rfl, iteF ?_⟩
        exact ⟨_, rfl, _, _, _, true, rfl, HasK.yes ((NL.of s1).tup hp) rfl, q _ s1⟩
    | call0 g =>
      obtain ⟨p, r, rfl, hp, hq⟩ := hv
      exact absurd ⟨p, r, g, [], rfl, hp, hq, by decide, hw⟩ hcall
    | call1 g a =>
      obtain ⟨p, r, x, rfl, hp, hq, _⟩ := hv
      exact absurd ⟨p, r, g, [x], rfl, hp, hq, by simp, hw.1⟩ hcall
    | call2 g a b =>
      obtain ⟨p, r, x, y, rfl, hp, hq, _⟩ := hv
      exact absurd ⟨p, r, g, [x, y], rfl, hp, hq, by simp, hw.1⟩ hcall
end
end K80
namespace K80
open PySem PySem.Spec PyProof.Rows L2
/-! ### layers of terms -/
def nextL (ts : List Tm) : List Tm := (ts.map Tm.kids).flatten
def sizeS (ts : List Tm) : Nat := (ts.map Tm.size).sum
theorem sizeS_app (a b : List Tm) : sizeS (a ++ b) = sizeS a + sizeS b := by
  unfold sizeS
  rw [List.map_append, List.sum_append]
theorem sizeS_next : ∀ ts : List Tm, sizeS ts = ts.length + sizeS (nextL ts)
  | [] => rfl
  | t :: r => by
    have ih := sizeS_next r
    have e : nextL (t :: r) = t.kids ++ nextL r := rfl
    have e2 : sizeS (t :: r) = t.size + sizeS r := rfl
    rw [e, sizeS_app, e2, ih, t.size_eq, List.length_cons]
    show 1 + sizeS t.kids + _ = _
    omega
theorem mem_next {k : Tm} {ts : List Tm} (h : k ∈ nextL ts) : ∃ t ∈ ts, k ∈ t.kids := by
  obtain ⟨l, hl, hk⟩ := List.mem_flatten.mp h
  obtain ⟨t, ht, rfl⟩ := List.mem_map.mp hl
  exact ⟨t, ht, hk⟩
theorem len_le_size : ∀ ts : List Tm, ts.length ≤ sizeS ts
  | [] => Nat.le_refl _
  | t :: r => by
    have ih := len_le_size r
    have e2 : sizeS (t :: r) = t.size + sizeS r := rfl
    have := t.size_pos
    rw [e2, List.length_cons]
    omega
section
variable {K : PySem.W.Frag} {H : Hp}
theorem TVs.dp : ∀ {ts : List Tm} {vs : List V}, TVs K H ts vs → DpAll K H vs (ts.map Tm.data)
  | _, _, .nil => .nil
  | _, _, .cons a b => .cons a.dp (TVs.dp b)
theorem shaped_list {m : Nat} : ∀ {ts : List Tm}, (∀ t ∈ ts, t.wf m ∧ t.depth ≤ 8) → PyData.canLayAll0 (ts.map Tm.data) = true ∧ PyData.depthAll (ts.map Tm.data) ≤ 16
  | [], _ => ⟨rfl, Nat.zero_le _⟩
  | t :: r, h => by
    obtain ⟨h1, h2⟩ := shaped_list (ts := r) fun x hx => h x (List.mem_cons_of_mem _ hx)
    obtain ⟨h3, h4⟩ := h t (List.mem_cons_self ..)
    have := t.data_depth
    rw [List.map_cons]
    refine ⟨by simp [PyData.canLayAll0, Tm.canLay h3, h1], ?_⟩
    simp only [PyData.depthAll]
    omega
theorem shapedL {m : Nat} {ts : List Tm} (h : ∀ t ∈ ts, t.wf m ∧ t.depth ≤ 8) : SeqAt.shaped (.list (ts.map Tm.data)) = true := by
  obtain ⟨h1, h2⟩ := shaped_list h
  unfold SeqAt.shaped
  simp only [PyData.canLay0, PyData.depth, h1, Bool.true_and]
  exact decide_eq_true (by omega)
theorem eqv_nil (ts : List Tm) : PyData.eqv (.list (ts.map Tm.data)) (.list []) = ts.isEmpty := by
  cases ts <;> simp [PyData.eqv, PyData.eqvAll]
theorem TVs.flat : ∀ {ts : List Tm} {kss : List (List V)}, ts.length = kss.length → (∀ (i : Nat) t ks, ts[i]? = some t → kss[i]? = some ks → TVs K H t.kids ks) → TVs K H (nextL ts) kss.flatten
  | [], [], _, _ => .nil
  | [], _ :: _, h, _ => by simp at h
  | _ :: _, [], h, _ => by simp at h
  | t :: ts, ks :: kss, h, k => Paired.app (k 0 t ks rfl rfl) (TVs.flat (by simpa using h) fun i x y e1 e2 => k (i + 1) x y (by simpa using e1) (by simpa using e2))
end
theorem kids_len (t : Tm) : t.kids.length ≤ 3 := by
  cases t <;> simp [Tm.kids]
section
variable {P : Program} {w : World} {K : PySem.W.Frag} {mg : Str → Option Value} {base : Heap}
def spIsTerm (K : PySem.W.Frag) : Sp := fun vs H Q _ => ∃ v t, ∃ m : Nat, vs = [v, .int (m : Nat)] ∧ TV K H t v ∧ t.wf m ∧ t.size ≤ 30 ∧ t.depth ≤ 8 ∧ ∀ H', Same H H' → Q (.bl true) H'
/-- what the loop over the layers keeps -/
structure LayI (K : PySem.W.Frag) (t : Tm) (v : V) (m : Nat) (H0 : Hp) (i : Nat) (σ : L2.St) (H : Hp) : Prop where
  ex : ∃ (lp : Addr) (ls : List V) (ts : List Tm) (parts : Nat) (tv : Option V), σ = [some v, some (.int (m : Nat)), some (.ref lp), some (.int (parts : Nat)), tv, none, none] ∧ H lp = some (.lst ls) ∧ TVs K H ts ls ∧
    parts + sizeS ts = t.size ∧ ts ≠ [] ∧ (∀ x ∈ ts, x.wf m ∧ x.depth + i ≤ 8)
  same : Same H0 H
theorem c_is_term (T : Top K mg) : Cal P w K mg base 5 "is_term" (spIsTerm K) := by
  refine mkCal T.d_is_term sc_is_term b_is_term (fun vs H Q E h => ?_) (fun f cdv A outer s H vs Q E hr h => ?_)
  · obtain ⟨v, t, m, rfl, _⟩ := h
    rfl
  · obtain ⟨v, t, m, rfl, hv, hw, hs, hd, q⟩ := h
    have nd := sc_is_term.nd
    refine ⟨_, pss_cons (ps_par (i := 2) (j := 3) rfl nd rfl rfl (by decide) rfl rfl (pa_cons (pe_lst (pa_cons (pv 0) pa_nil)) (pa_cons pe_int pa_nil)) (by rfl))
      (pss_cons (ps_for PassesOwn.never rfl (pi_range1 rfl T.f_range (pa_cons (ki T.i_MOST_DEPTH) pa_nil)) (pg_name (i := 4) nd rfl (Or.inl rfl))
        (pss_cons (ps_aug (i := 3) nd rfl (.inl rfl) (plen T.f_len (pv 2)) ip_add)
        (pss_cons (ps_if (PW.pt (pw_or (pt_cmpR op_gt (pv 3) (ki T.i_MOST_PARTS) (nomark _)) (pw_or1 (pt_not (pt_val (pall T.f_all (plc n_is_term (defScope s_is_term) 5 nd (pi_list (pv 2)) (fun _ _ _ _ _ => cc (c_has_form T) hr (pa_cons (pv 5) (pa_cons (pv 1) pa_nil)))))))))) (pss_one (ps_ret pe_bl)) pss_nil)
        (pss_cons (ps_setLc2 (i := 2) (own := [("term", 6), ("part", 5)]) (vs1 := [5]) (g := gName 6) (g1 := gName 5) (tt := tYes) (tt1 := tYes) (wi1 := iTup K (tCall (spInner K) [] E0 (tCons (tVar 6) tNil))) rfl nd rfl rfl (sw_true rfl rfl rfl (by decide +kernel)) (pi_list (pv 2)) (blkOk_by (N := n_is_term) (sc := defScope s_is_term) (by decide +kernel)) (by decide)
          (fun _ _ _ _ _ => pg_name (i := 6) nd rfl (Or.inl rfl)) (fun _ _ _ _ _ => pts_nil) (fun _ _ _ _ _ => pi_tup (cc (c_inner_terms T) hr (pa_cons (pv 6) pa_nil))) (fun _ _ _ _ _ => pg_name (i := 5) nd rfl (Or.inl rfl)) (fun _ _ _ _ _ => pts_nil) (fun _ _ _ _ _ => pv 5))
        (pss_one (ps_if (pt_cmpR (op_eqD hr.units) (pv 2) (pe_lst pa_nil) (nomark _)) (pss_one (ps_ret pe_bl)) pss_nil))))))
      (pss_one (ps_ret pe_bl))), ?_⟩
    refine ⟨v, rfl, (by show 1 ≤ sizeLine; decide), fun lp hlp => ⟨_, _, rfl, ?_⟩⟩
    refine ⟨8, rfl, by decide, by decide, for_range (lo := 0) (n := 8) (fun i σ H1 => LayI K t v m H i σ H1) ?_ ?_ ?_⟩
    · exact ⟨⟨lp, [v], [t], 0, none, rfl, upd_same, .cons (hv.nl (NL.of (Same.upd hlp))) .nil, by simp [sizeS], by simp, fun x hx => by simp at hx; subst hx; exact ⟨hw, by omega⟩⟩, Same.upd hlp⟩
    · rintro i σ H1 hi ⟨⟨lp1, ls, ts, parts, tv, rfl, hl, htv, hsz, hne, hall⟩, s1⟩
      have hlen : ls.length = ts.length := (Paired.len htv).symm
      have hle := len_le_size ts
      refine ⟨_, rfl, _, rfl, _, ls.length, rfl, .inl ⟨ls, SqL.of hl, rfl⟩, _, _, rfl, rfl, ?_⟩
      refine ⟨_, rfl, _, _, rfl, rfl, _, rfl, ?_⟩
      rw [decide_eq_false (show ¬ (30 : Int) < (parts : Int) + (ls.length : Nat) by omega)]
      refine iteF ⟨_, rfl, lp1, rfl, ⟨_, SqL.of hl⟩, fun D hD => ?_⟩
      refine lc_same walk_list (by omega) hD (fun j y _ => y = .bl ((fun _ => true) j)) (fun _ s2 => s2.seq (SqL.of hl)) (fun _ _ _ _ _ r => r) ?_ ?_
      · rintro j x H2 H3 Qk hj s2 ⟨rfl, hx⟩ kk
        obtain ⟨tj, htj, hvj⟩ := Paired.get' htv hx
        exact ⟨rfl, _, rfl, _, rfl, _, tj, m, rfl, hvj.nl (NL.of s2), (hall tj (List.mem_of_getElem? htj)).1, fun H4 s4 => kk _ _ s4 rfl⟩
      · intro H2 acc s2 a
        refine ⟨D, _, rfl, SqL.of (by rw [a.1, acc_bl a]), ?_⟩
        rw [all_range (fun _ _ => rfl)]
        refine ⟨true, rfl, iteF ?_⟩
        refine ⟨_, rfl, lp1, rfl, ⟨_, SqL.of (s2 _ _ hl)⟩, fun D2 hD2 => ?_⟩
        refine lc2_flat (xs := ls) hD2 (SqL.of (s2 _ _ hl)) (fun j ks H' => ∃ tj, ts[j]? = some tj ∧ TVs K H' tj.kids ks) (fun j ks H3 H4 n4 ⟨tj, e, z⟩ => ⟨tj, e, z.nl n4⟩) (fun j ks H3 ⟨tj, e, z⟩ => by have h1 := Paired.len z; have h2 := kids_len tj; omega) (by omega)
          (fun _ => rfl) (fun _ _ => rfl) (fun _ _ => rfl) ?_ ?_
        · intro j x H3 R' hx s3 kk
          obtain ⟨tj, htj, hvj⟩ := Paired.get' htv hx
          exact ⟨_, rfl, _, tj, m, rfl, hvj.nl (NL.of (s2.trans s3)), (hall tj (List.mem_of_getElem? htj)).1, fun p ks H4 s4 hq hk => ⟨p, rfl, ⟨_, hq⟩, kk p ks H4 s4 hq ⟨tj, htj, hk⟩⟩⟩
        · intro H3 kss s3 h3 hl3 hk3
          have hnext : TVs K H3 (nextL ts) kss.flatten := TVs.flat (by omega) fun j tj ks e1 e2 => by
            obtain ⟨tj', e3, z⟩ := hk3 j ks e2
            rw [e1] at e3
            cases e3
            exact z
          have hall2 : ∀ x ∈ nextL ts, x.wf m ∧ x.depth + (i + 1) ≤ 8 := fun x hx => by
            obtain ⟨tj, h1, h2⟩ := mem_next hx
            have h3 := tj.depth_eq x h2
            have h4 := (hall tj h1).2
            exact ⟨Tm.wf_kids (hall tj h1).1 x h2, by omega⟩
          have s13 : Same H H3 := (s1.trans s2).trans s3
          refine ⟨_, rfl, (by show 0 ≤ sizeLine; decide), fun p hp => ?_⟩
          refine ⟨_, _, .lst (SqL.of (by rw [upd_ne (ne_of_none h3 hp)]; exact h3)) (TVs.dp (hnext.nl (NL.of (Same.upd hp)))), .lst (SqL.of upd_same) .nil, shapedL fun x hx => ⟨(hall2 x hx).1, by have := (hall2 x hx).2; omega⟩, by decide +kernel, _, rfl, ?_⟩
          rw [eqv_nil]
          by_cases hz : nextL ts = []
          · rw [hz]
            exact iteT (q _ (Same.upd' s13 hp))
          · rw [show (nextL ts).isEmpty = false by cases hn : nextL ts with | nil => exact absurd hn hz | cons a b => rfl]
            refine iteF ⟨⟨D2, kss.flatten, nextL ts, parts + ls.length, _, by rw [Int.natCast_add]; rfl, by rw [upd_ne (ne_of_none h3 hp)]; exact h3, hnext.nl (NL.of (Same.upd hp)), ?_, hz, hall2⟩, Same.upd' s13 hp⟩
            have := sizeS_next ts
            omega
    · rintro σ H1 ⟨⟨lp1, ls, ts, parts, tv, rfl, hl, htv, hsz, hne, hall⟩, s1⟩
      cases ts with
      | nil => exact absurd rfl hne
      | cons a b =>
        have h1 := (hall a (List.mem_cons_self ..)).2
        have h2 := a.depth_pos
        omega
end
end K80
namespace K80
open PySem PySem.Spec PyProof.Rows L2
/-! ### a term and all within it -/
def Tm.all : Tm → List Tm
  | .val n => [.val n]
  | .arg i => [.arg i]
  | .cell c => [.cell c]
  | .tick => [.tick]
  | .two k a b => .two k a b :: (a.all ++ b.all)
  | .ite c a b => .ite c a b :: (c.all ++ (a.all ++ b.all))
  | .call0 f => [.call0 f]
  | .call1 f a => .call1 f a :: a.all
  | .call2 f a b => .call2 f a b :: (a.all ++ b.all)
theorem Tm.all_eq (t : Tm) : t.all = t :: (t.kids.map Tm.all).flatten := by
  cases t <;> simp [Tm.all, Tm.kids]
theorem Tm.all_len : ∀ t : Tm, t.all.length = t.size
  | .val _ => rfl
  | .arg _ => rfl
  | .cell _ => rfl
  | .tick => rfl
  | .two _ a b => by simp [Tm.all, Tm.size, a.all_len, b.all_len]; omega
  | .ite c a b => by simp [Tm.all, Tm.size, c.all_len, a.all_len, b.all_len]; omega
  | .call0 _ => rfl
  | .call1 _ a => by simp [Tm.all, Tm.size, a.all_len]; omega
  | .call2 _ a b => by simp [Tm.all, Tm.size, a.all_len, b.all_len]; omega
theorem Tm.all_ok {m : Nat} {cs : List Str} {fs : List (Str × Nat)} : ∀ {t : Tm}, t.wf m → t.ok cs fs → ∀ k ∈ t.all, k.wf m ∧ k.ok cs fs
  | .val _, hw, ho, k, hk => by simp [Tm.all] at hk; subst hk; exact ⟨hw, ho⟩
  | .arg _, hw, ho, k, hk => by simp [Tm.all] at hk; subst hk; exact ⟨hw, ho⟩
  | .cell _, hw, ho, k, hk => by simp [Tm.all] at hk; subst hk; exact ⟨hw, ho⟩
  | .tick, hw, ho, k, hk => by simp [Tm.all] at hk; subst hk; exact ⟨hw, ho⟩
  | .two _ a b, hw, ho, k, hk => by
    simp [Tm.all] at hk
    rcases hk with rfl | hk | hk
    · exact ⟨hw, ho⟩
    · exact Tm.all_ok hw.2.1 ho.1 k hk
    · exact Tm.all_ok hw.2.2 ho.2 k hk
  | .ite c a b, hw, ho, k, hk => by
    simp [Tm.all] at hk
    rcases hk with rfl | hk | hk | hk
    · exact ⟨hw, ho⟩
    · exact Tm.all_ok hw.1 ho.1 k hk
    · exact Tm.all_ok hw.2.1 ho.2.1 k hk
    · exact Tm.all_ok hw.2.2 ho.2.2 k hk
  | .call0 _, hw, ho, k, hk => by simp [Tm.all] at hk; subst hk; exact ⟨hw, ho⟩
  | .call1 _ a, hw, ho, k, hk => by
    simp [Tm.all] at hk
    rcases hk with rfl | hk
    · exact ⟨hw, ho⟩
    · exact Tm.all_ok hw.2 ho.2 k hk
  | .call2 _ a b, hw, ho, k, hk => by
    simp [Tm.all] at hk
    rcases hk with rfl | hk | hk
    · exact ⟨hw, ho⟩
    · exact Tm.all_ok hw.2.1 ho.2.1 k hk
    · exact Tm.all_ok hw.2.2 ho.2.2 k hk
theorem take_flat {A : Type} {l : List (List A)} {i : Nat} {x : List A} (h : l[i]? = some x) : (l.take (i + 1)).flatten = (l.take i).flatten ++ x := by
  rw [List.take_succ, h]
  simp
theorem flat_le {l : List (List Tm)} (i : Nat) : (l.take i).flatten.length ≤ l.flatten.length := by
  conv => rhs; rw [← List.take_append_drop i l]
  rw [List.flatten_append, List.length_append]
  omega
section
variable {P : Program} {w : World} {K : PySem.W.Frag} {mg : Str → Option Value} {base : Heap}
def spLeaves (K : PySem.W.Frag) (d : Nat) : Sp := fun vs H Q _ => ∃ v t m, vs = [v] ∧ TV K H t v ∧ t.wf m ∧ t.depth ≤ d ∧ t.size ≤ 1000 ∧ ∀ p ls H', Same H H' → H p = none → H' p = some (.lst ls) → TVs K H' t.all ls → Q (.ref p) H'
theorem c_leaves (T : Top K mg) : ∀ d : Nat, Cal P w K mg base (d + 2) "leaves" (spLeaves K d)
  | 0 => by
    refine mkCal T.d_leaves sc_leaves b_leaves (fun vs H Q E h => ?_) (fun f cdv A outer s H vs Q E hr h => ?_)
    · obtain ⟨v, t, m, rfl, _⟩ := h
      rfl
    · obtain ⟨v, t, m, rfl, _, _, hd, _⟩ := h
      have := t.depth_pos
      omega
  | d + 1 => by
    have ih := c_leaves T d
    refine mkCal T.d_leaves sc_leaves b_leaves (fun vs H Q E h => ?_) (fun f cdv A outer s H vs Q E hr h => ?_)
    · obtain ⟨v, t, m, rfl, _⟩ := h
      rfl
    · obtain ⟨v, t, m, rfl, hv, hw, hd, hsz, q⟩ := h
      have nd := sc_leaves.nd
      refine ⟨_, pss_cons (ps_set (i := 1) nd rfl (Or.inl rfl) (pe_lst (pa_cons (pv 0) pa_nil)))
        (pss_cons (ps_for PassesOwn.never rfl (pi_tup (cc (c_inner_terms T) hr (pa_cons (pv 0) pa_nil) (by omega))) (pg_name (i := 2) nd rfl (Or.inl rfl))
          (pss_one (ps_expr (pe_bm PySem.F.plainAttrs_list PySem.F.slot_list_extend PySem.F.type_list_extend mt_extend (pv 1) (pa_cons (cc ih hr (pa_cons (pv 2) pa_nil) (Nat.le_refl _)) pa_nil)))))
        (pss_one (ps_ret (pv 1)))), ?_⟩
      refine ⟨_, rfl, (by show 1 ≤ sizeLine; decide), fun p hp => ?_⟩
      refine ⟨_, rfl, _, t, m, rfl, hv.nl (NL.of (Same.upd hp)), hw, fun r ks H1 s1 hq hk => ⟨r, rfl, ⟨ks, hq⟩, ?_⟩⟩
      have hlen := Paired.len hk
      have hsize : ((t.kids.map Tm.all).flatten).length + 1 = t.size := by
        have e := t.all_len
        rw [t.all_eq, List.length_cons] at e
        exact e
      refine for_tup (K := K) (a := r) (xs := ks) (fun i σ H2 => ∃ (ls : List V) (pv : Option V), σ = [some v, some (.ref p), pv] ∧ Kp p H1 H2 ∧ H2 p = some (.lst ls) ∧ TVs K H2 (t :: ((t.kids.map Tm.all).take i).flatten) ls)
        ⟨[v], none, rfl, Kp.rfl' (s1 _ _ upd_same), s1 _ _ upd_same, .cons ((hv.nl (NL.of (Same.upd hp))).nl (NL.of s1)) .nil⟩ (fun i σ H2 _ ⟨_, _, _, k2, _⟩ => k2.nl.tup hq) ?_ ?_
      · rintro i x σ H2 hx ⟨ls, pv', rfl, k2, h2, tv⟩
        obtain ⟨ti, hti, hvi⟩ := Paired.get' hk hx
        have hmem := List.mem_of_getElem? hti
        have hdi := t.depth_eq ti hmem
        have hall : (t.kids.map Tm.all)[i]? = some ti.all := by rw [List.getElem?_map, hti]; rfl
        have hle : (((t.kids.map Tm.all).take (i + 1)).flatten).length ≤ ((t.kids.map Tm.all).flatten).length := flat_le (i + 1)
        have hszi : ti.size ≤ t.size := by
          rw [take_flat hall, List.length_append, ti.all_len] at hle
          omega
        refine ⟨_, rfl, .inl ⟨rfl, _, SqL.of h2⟩, _, rfl, _, ti, m, rfl, hvi.nl k2.nl, Tm.wf_kids hw ti hmem, by omega, by omega, fun b zs H3 s3 hb hz tz => ?_⟩
        have hpb : p ≠ b := ne_of_none h2 hb
        have l1 := Paired.len tv
        have l2 := Paired.len tz
        rw [take_flat hall, List.length_append] at hle
        rw [List.length_cons] at l1
        refine ⟨p, b, ls, zs, rfl, rfl, s3 _ _ h2, hz, by rw [← l1, ← l2, sizeLine_eq]; omega, ls ++ zs, _, rfl, ?_, upd_same, ?_⟩
        · exact k2.trans ((Kp.of s3 h2).trans (Kp.set (s3 _ _ h2)))
        · have n3 : NL H3 (upd H3 p (.lst (ls ++ zs))) := (Kp.set (s3 _ _ h2)).nl
          rw [take_flat hall]
          exact Paired.app (TVs.nl n3 (TVs.nl (NL.of s3) tv)) (TVs.nl n3 tz)
      · rintro σ H2 ⟨ls, pv', rfl, k2, h2, tv⟩
        refine ⟨_, rfl, q p ls H2 (fun b o e => k2.but b o (s1 b o (Same.upd hp b o e)) (ne_of_none e hp)) hp h2 ?_⟩
        rw [t.all_eq]
        have e : (t.kids.map Tm.all).take ks.length = t.kids.map Tm.all := List.take_of_length_le (by rw [List.length_map]; omega)
        rw [e] at tv
        exact tv
end
end K80
namespace K80
open PySem PySem.Spec PyProof.Rows L2
section
variable {P : Program} {w : World} {K : PySem.W.Frag} {mg : Str → Option Value} {base : Heap}
theorem strs_of {S : Str → Prop} : ∀ {acc : List V}, (∀ (j : Nat) y, acc[j]? = some y → ∃ c, y = .str c ∧ S c) → ∃ ns : List Str, acc = ns.map V.str ∧ ∀ n ∈ ns, S n
  | [], _ => ⟨[], rfl, fun n h => by cases h⟩
  | a :: r, h => by
    obtain ⟨ns, e, hn⟩ := strs_of (acc := r) fun j y e => h (j + 1) y (by simpa using e)
    obtain ⟨c, rfl, hc⟩ := h 0 a rfl
    exact ⟨c :: ns, by rw [e]; rfl, fun n hn' => (List.mem_cons.mp hn').elim (fun z => z ▸ hc) (hn n)⟩
def spNamesWith (K : PySem.W.Frag) : Sp := fun vs H Q _ => ∃ v t m cs fs, vs = [v, .str "cell"] ∧ TV K H t v ∧ t.wf m ∧ t.depth ≤ 8 ∧ t.size ≤ 60 ∧ t.ok cs fs ∧
  ∀ p (ns : List Str) H', Same H H' → H p = none → H' p = some (.lst (ns.map V.str)) → ns.length ≤ 100 → (∀ n ∈ ns, n ∈ cs) → Q (.ref p) H'
/-- the head word of what is no cell -/
theorem head_not_cell {K : PySem.W.Frag} {H : Hp} {t : Tm} {m : Nat} {v : V} (hw : t.wf m) (h : TV K H t v) : (∃ n, t = .val n ∧ v = .int (n : Nat)) ∨ (∃ c p, t = .cell c ∧ v = .ref p ∧ SqT K H p [.str "cell", .str c]) ∨
    ∃ p z xs, v = .ref p ∧ SqT K H p (.str z :: xs) ∧ decide (V.str z = V.str "cell") = false := by
  cases t with
  | val n => exact .inl ⟨n, rfl, h⟩
  | arg i =>
    obtain ⟨p, rfl, h1⟩ := h
    exact .inr (.inr ⟨p, _, _, rfl, h1, by decide +kernel⟩)
  | cell c =>
    obtain ⟨p, rfl, h1⟩ := h
    exact .inr (.inl ⟨c, p, rfl, rfl, h1⟩)
  | tick =>
    obtain ⟨p, rfl, h1⟩ := h
    exact .inr (.inr ⟨p, _, _, rfl, h1, by decide +kernel⟩)
  | two k a b =>
    obtain ⟨p, x, y, rfl, h1, _⟩ := h
    refine .inr (.inr ⟨p, _, _, rfl, h1, ?_⟩)
    have hk : Tm.IsPair k := hw.1
    rcases hk with rfl | rfl | rfl <;> decide +kernel
  | ite c a b =>
    obtain ⟨p, z, x, y, rfl, h1, _⟩ := h
    exact .inr (.inr ⟨p, _, _, rfl, h1, by decide +kernel⟩)
  | call0 f =>
    obtain ⟨p, q, rfl, h1, _⟩ := h
    exact .inr (.inr ⟨p, _, _, rfl, h1, by decide +kernel⟩)
  | call1 f a =>
    obtain ⟨p, q, x, rfl, h1, _⟩ := h
    exact .inr (.inr ⟨p, _, _, rfl, h1, by decide +kernel⟩)
  | call2 f a b =>
    obtain ⟨p, q, x, y, rfl, h1, _⟩ := h
    exact .inr (.inr ⟨p, _, _, rfl, h1, by decide +kernel⟩)
theorem c_names_with (T : Top K mg) : Cal P w K mg base 11 "names_with" (spNamesWith K) := by
  refine mkCal T.d_names_with sc_names_with b_names_with (fun vs H Q E h => ?_) (fun f cdv A outer s H vs Q E hr h => ?_)
  · obtain ⟨v, t, m, cs, fs, rfl, _⟩ := h
    rfl
  · obtain ⟨v, t, m, cs, fs, rfl, hv, hw, hd, hsz, hok, q⟩ := h
    have nd := sc_names_with.nd
    refine ⟨_, pss_cons (ps_setDc (i := 2) (own := [("part", 3)]) (g := gName 3) (tt := tAnd (tB (tIsi K (tVar 3) "tuple")) (tTest (tOp rEq (tOp (rIxT K) (tVar 3) (tC (.int 0))) (tVar 1)))) (tk := tOp (rIxT K) (tVar 3) (tC (.int 1))) rfl nd rfl rfl (sw_trueD rfl rfl rfl (by decide +kernel))
        (pi_list (cc (c_leaves T 8) hr (pa_cons (pv 0) pa_nil))) (blkOk_by (N := n_names_with) (sc := defScope s_names_with) (by decide +kernel)) (fun _ _ _ _ _ => pg_name (i := 3) nd rfl (Or.inl rfl))
        (fun _ _ _ _ _ => pts_one (PW.pt (pw_and (pt_val (pisi T.f_isinstance T.f_tuple boot_tuple (pv 3))) (pw_and1 (pt_cmpR op_eq (pe_ix ix_tup (pv 3) pe_int (fun _ _ => rfl)) (pv 1) (nomark _))))))
        (fun _ _ _ _ _ => pe_ix ix_tup (pv 3) pe_int (fun _ _ => rfl)) (fun _ _ _ _ _ => pe_bl))
      (pss_one (ps_ret (pe_callB cr_sortedS rfl T.f_sorted (by decide +kernel) (pa_cons (pe_lock (plc n_names_with (defScope s_names_with) 4 nd (pi_keys (pv 2)) (fun _ _ _ _ _ => pe_callTy SkE.call_str_str rfl T.f_str boot_str (pa_cons (pv 4) pa_nil)))) pa_nil)))), ?_⟩
    refine ⟨_, rfl, v, t, m, rfl, hv, hw, hd, by omega, fun p ls H1 s1 hp h1 tv => ⟨p, rfl, ⟨ls, SqL.of h1⟩, fun D hD => ?_⟩⟩
    have hlen := Paired.len tv
    have hall := t.all_len
    refine dc_same (walk_list (xs := ls)) (by omega) hD (fun i kvs => kvs.length ≤ i ∧ ∀ kv ∈ kvs, ∃ c, kv.1 = (Sum.inr c : Key) ∧ c ∈ cs) (fun _ s2 => s2.seq (SqL.of h1)) ⟨Nat.le_refl _, fun kv h => by cases h⟩ (fun i kvs h => h.1) ?_ ?_
    · rintro i x H2 H3 kvs QN QP hi s2 ⟨hl, hk⟩ ⟨rfl, hx⟩ kN kP
      obtain ⟨ti, hti, hvi⟩ := Paired.get' tv hx
      obtain ⟨hwi, hoki⟩ := Tm.all_ok hw hok ti (List.mem_of_getElem? hti)
      refine ⟨rfl, ?_⟩
      rcases head_not_cell hwi (hvi.nl (NL.of s2)) with ⟨n, rfl, rfl⟩ | ⟨c, r, rfl, rfl, hr2⟩ | ⟨r, z, xs, rfl, hr2, ez⟩
      · exact ⟨_, rfl, isi (.base (.int _)) ⟨false, rfl, kN _ (Same.refl _) ⟨by omega, hk⟩⟩⟩
      · have h0 : atI [V.str "cell", V.str c] 0 = some (V.str "cell") := atI_nat (j := 0) rfl
        have h1' : atI [V.str "cell", V.str c] 1 = some (V.str c) := atI_nat (j := 1) rfl
        refine ⟨_, rfl, isi (tyT hr2) ⟨true, rfl, iteT ⟨_, rfl, _, _, _, _, rfl, rfl, hr2, h0, _, rfl, rfl, true, congrArg V.bl (decide_eq_true rfl), iteT ⟨_, rfl, _, _, _, _, rfl, rfl, hr2, h1', ?_⟩⟩⟩⟩
        refine kP (Sum.inr c) _ _ (Same.refl _) ⟨Nat.le_trans putK_len (by omega), fun kv hkv => ?_⟩
        rcases putK_mem hkv with ⟨e, _⟩ | e
        · exact ⟨c, e, hoki⟩
        · exact hk kv e
      · have h0 : atI (V.str z :: xs) 0 = some (V.str z) := atI_nat (j := 0) rfl
        exact ⟨_, rfl, isi (tyT hr2) ⟨true, rfl, iteT ⟨_, rfl, _, _, _, _, rfl, rfl, hr2, h0, _, rfl, rfl, false, congrArg V.bl ez, kN _ (Same.refl _) ⟨by omega, hk⟩⟩⟩⟩
    · intro H2 kvs s2 h2 ⟨hl, hk⟩
      refine ⟨D, _, h2, trivial, fun od => ⟨_, rfl, D, od, rfl, .inl ⟨kvs, upd_same, fun D2 hD2 => ?_⟩⟩⟩
      have hne : D ≠ D2 := ne_of_none upd_same hD2
      refine lc_same (walk_keys (o := od) (kvs := kvs)) (by omega) hD2 (fun j y _ => ∃ c, y = .str c ∧ c ∈ cs) (fun _ s3 => s3 _ _ upd_same) (fun _ _ _ _ _ r => r) ?_ ?_
      · rintro j x H3 H4 Qk hj s3 ⟨rfl, k, u, hk2, rfl⟩ kk
        obtain ⟨c, hc, hcs⟩ := hk _ (List.mem_of_getElem? hk2)
        have hc' : k = Sum.inr c := hc
        subst hc'
        exact ⟨rfl, _, rfl, c, rfl, kk _ _ (Same.refl _) ⟨c, rfl, hcs⟩⟩
      · intro H3 acc s3 a
        obtain ⟨ns, rfl, hns⟩ := strs_of a.2.2
        refine ⟨s3 _ _ upd_same, D2, ns, rfl, SqL.of (by rw [upd_ne hne.symm]; exact a.1), ?_, fun ys r hperm _ hr2 => ?_⟩
        · have e := a.2.1
          rw [List.length_map] at e
          omega
        · have s23 : Same H (L2.upd H3 D (.dK kvs)) := fun b o e => by
            have hb : b ≠ D := ne_of_none (s1 _ _ e) hD
            rw [upd_ne hb]
            exact s3 b o (by rw [upd_ne hb]; exact s2 b o (s1 b o e))
          refine q r ys _ (Same.upd' s23 hr2) (Same.free s23 hr2) upd_same (by have e := a.2.1; rw [List.length_map] at e; have e2 := hperm.length_eq; omega) fun n hn => hns n (hperm.mem_iff.mp hn)
def spCellsIn (K : PySem.W.Frag) : Sp := fun vs H Q _ => ∃ v t m cs fs, vs = [v] ∧ TV K H t v ∧ t.wf m ∧ t.depth ≤ 8 ∧ t.size ≤ 60 ∧ t.ok cs fs ∧
  ∀ p (ns : List Str) H', Same H H' → H p = none → H' p = some (.lst (ns.map V.str)) → ns.length ≤ 100 → (∀ n ∈ ns, n ∈ cs) → Q (.ref p) H'
theorem c_cells_in (T : Top K mg) : Cal P w K mg base 12 "cells_in" (spCellsIn K) := by
  refine mkCal T.d_cells_in sc_cells_in b_cells_in (fun vs H Q E h => ?_) (fun f cdv A outer s H vs Q E hr h => ?_)
  · obtain ⟨v, t, m, cs, fs, rfl, _⟩ := h
    rfl
  · obtain ⟨v, t, m, cs, fs, rfl, hv, hw, hd, hsz, hok, q⟩ := h
    refine ⟨_, pss_one (ps_ret (cc (c_names_with T) hr (pa_cons (pv 0) (pa_cons pe_str pa_nil)))), ?_⟩
    exact ⟨_, rfl, v, t, m, cs, fs, rfl, hv, hw, hd, hsz, hok, q⟩
end
end K80
namespace K80
open PySem PySem.Spec PyProof.Rows L2
/-! ### a list or a tuple at a name, walked -/
/-- a list, a tuple -/
def Sq (K : PySem.W.Frag) (H : Hp) (a : Addr) (xs : List V) : Prop := SqL K H a xs ∨ SqT K H a xs
theorem Sq.same {K : PySem.W.Frag} {H H' : Hp} {a : Addr} {xs : List V} (s : Same H H') (h : Sq K H a xs) : Sq K H' a xs := h.elim (fun h => .inl (s.seq h)) fun h => .inr ((NL.of s).tup h)
def iSeqV (K : PySem.W.Frag) (i : Nat) : TI := fun σ H R => ∃ a, σ[i]? = some (some (.ref a)) ∧ ((∃ xs, SqL K H a xs) ∧ R (Itl K a) H ∨ (∃ xs, SqT K H a xs) ∧ R (Itt K a) H)
theorem pi_seqV {X : Cx} {tg : Expr} (i : Nat) {x : Str} {p : Pos} (h : PE X (.Name x p) (tVar i)) : PI X tg (.Name x p) (iSeqV X.K i) := by
  refine ⟨fun pins s σ H R I q => ?_⟩
  obtain ⟨a, e, q | q⟩ := q
  · exact (pi_list h).run pins s σ H R I ⟨_, e, a, rfl, q.1, q.2⟩
  · exact (pi_tup h).run pins s σ H R I ⟨_, e, a, rfl, q.1, q.2⟩
/-- isinstance(e, (list, tuple)) -/
def tIsi2 (K : PySem.W.Frag) (te : TE) : TE := fun σ H Q => te σ H fun v H1 => 2 ≤ sizeLine ∧ ∀ p, H1 p = none → rIsiT K [v, .ref p] (upd H1 p (.tup [.ty "list", .ty "tuple"])) Q
theorem pisi2 {X : Cx} {e : Expr} {te : TE} {p p1 p2 p3 pos : Pos} {k : Nat} (hi : X.mg "isinstance" = none) (h1 : X.mg "list" = none) (h2 : X.mg "tuple" = none) (he : PE X e te) (g0 : Gl X "isinstance" := by rfl) (g1 : Gl X "list" := by rfl) (g2 : Gl X "tuple" := by rfl)
    (s1 : starEach [e, .Tuple [.Name "list" p1, .Name "tuple" p2] k p3] X.env = (false, eval e X.env) :: starEach [.Tuple [.Name "list" p1, .Name "tuple" p2] k p3] X.env := by rfl) :
    PE X (.Call (.Name "isinstance" p) [e, .Tuple [.Name "list" p1, .Name "tuple" p2] k p3] [] pos) (tIsi2 X.K te) :=
  pe_callB call_isiT g0 hi boot_isinstance (pa_cons he (pa_cons (pe_tup (pa_cons (kty h1 boot_list g1) (pa_cons (kty h2 boot_tuple g2) pa_nil))) pa_nil) s1) (by decide) (by decide) s1 rfl
section
variable {P : Program} {w : World} {K : PySem.W.Frag} {mg : Str → Option Value} {base : Heap}
theorem tySq {H : Hp} {a : Addr} {xs : List V} (h : Sq K H a xs) : TyX K H (.ref a) (.type "list") ∨ TyX K H (.ref a) (.type "tuple") := h.elim (fun h => .inl (tyL h)) fun h => .inr (tyT h)
/-- isinstance(x, (list, tuple)) of one -/
theorem isi2 {H : Hp} {a tp : Addr} {xs : List V} {Q : VK} (h : Sq K H a xs) (ht : H tp = some (.tup [.ty "list", .ty "tuple"])) (q : Q (.bl true) H) : rIsiT K [.ref a, .ref tp] H Q := by
  rcases tySq h with h | h
  · exact ⟨_, tp, _, _, [.type "list", .type "tuple"], true, rfl, ht, .cons (.ty _) (.cons (.ty _) .nil), h, kitAny_cons (b := true) (kit_ty (by decide +kernel)) (fun z => nomatch z) (fun _ => rfl), q⟩
  · exact ⟨_, tp, _, _, [.type "list", .type "tuple"], true, rfl, ht, .cons (.ty _) (.cons (.ty _) .nil), h, kitAny_cons (b := false) (kit_ty (by decide +kernel)) (fun _ => kitAny_cons (b := true) (kit_ty (by decide +kernel)) (fun z => nomatch z) fun _ => rfl) (fun z => nomatch z), q⟩
theorem lenSq {H : Hp} {a : Addr} {xs : List V} (h : Sq K H a xs) : LenV K (.ref a) H xs.length := h.elim (fun h => .inl ⟨xs, h, rfl⟩) fun h => .inr ⟨xs, h, rfl⟩
/-- a comprehension's loop -/
abbrev LcB (J : It) (g : TG) (te : TE) (vs : List Nat) (σ : L2.St) (H1 : Hp) (D : Addr) (Q : Hp → Prop) : Prop := ∃ W : Nat → Nat → Hp → Prop, (∃ m, W 0 m (upd H1 D (.lst []))) ∧ ∀ i m H, W i m H →
  (J.stop i H ∧ Q H) ∨ (J.go i H ∧ ∃ Nx : Hp → Prop, (∀ H', Nx H' → ∃ m', m' < m ∧ W (i + 1) m' H') ∧ ∀ x H', J.yld i H x H' → g x (wipe σ vs) H' fun σ2 H2 => wipe σ2 vs = wipe σ vs ∧ tYes σ2 H2 fun b H3 =>
    if b = true then te σ2 H3 fun y H4 => ∃ acc, H4 D = some (.lst acc) ∧ acc.length < sizeLine ∧ Nx (upd H4 D (.lst (acc ++ [y]))) else Nx H3)
/-- the reading of a comprehension over either -/
theorem lc_seq {a : Addr} {xs : List V} {g : TG} {te : TE} {vs : List Nat} {σ : L2.St} {H1 : Hp} {Qd : Addr → Hp → Prop} (hq : Sq K H1 a xs) (hn : xs.length ≤ 1000000) (R : Addr → Nat → V → Hp → Prop)
    (hR : ∀ D j y H H', NL H H' → R D j y H → R D j y H')
    (hs : ∀ D i x H (Qk : VK), H1 D = none → xs[i]? = some x → Same H1 H → (∀ y H4, Same H H4 → R D i y H4 → Qk y H4) → g x (wipe σ vs) H fun σ2 H2 => wipe σ2 vs = wipe σ vs ∧ te σ2 H2 Qk)
    (hd : ∀ D H acc, H1 D = none → Same H1 H → Acc (R D) H D xs.length acc → Qd D H) :
    (∃ xs, SqL K H1 a xs) ∧ (∀ D, H1 D = none → LcB (Itl K a) g te vs σ H1 D (Qd D)) ∨ (∃ xs, SqT K H1 a xs) ∧ (∀ D, H1 D = none → LcB (Itt K a) g te vs σ H1 D (Qd D)) := by
  rcases hq with hq | hq
  · exact .inl ⟨⟨xs, hq⟩, fun D hD => lc_same walk_list hn hD (R D) (fun _ s => s.seq hq) (hR D) (fun i x H H' Qk _ s y k => by obtain ⟨rfl, hx⟩ := y; exact hs D i x _ Qk hD hx s k) (fun H acc s a => hd D H acc hD s a)⟩
  · exact .inr ⟨⟨xs, hq⟩, fun D hD => lc_same walk_tup hn hD (R D) (fun _ s => (NL.of s).tup hq) (hR D) (fun i x H H' Qk _ s y k => by obtain ⟨rfl, hx⟩ := y; exact hs D i x _ Qk hD hx s k) (fun H acc s a => hd D H acc hD s a)⟩
/-! ### functions.py: are_writes -/
/-- writes in a list or a tuple -/
def WrSq (K : PySem.W.Frag) (H : Hp) (a : Addr) (ws : List (Str × Tm)) : Prop := ∃ xs, Sq K H a xs ∧ Paired (WrAt K H) ws xs
def spAreWrites (K : PySem.W.Frag) : Sp := fun vs H Q _ => ∃ a ws, vs = [.ref a] ∧ WrSq K H a ws ∧ ws.length ≤ 1 ∧ (∀ q ∈ ws, Nm q.1) ∧ ∀ H', Same H H' → Q (.bl true) H'
theorem c_are_writes (T : Top K mg) : Cal P w K mg base 2 "are_writes" (spAreWrites K) := by
  refine mkCal T.d_are_writes sc_are_writes b_are_writes (fun vs H Q E h => ?_) (fun f cdv A outer s H vs Q E hr h => ?_)
  · obtain ⟨a, ws, rfl, _⟩ := h
    rfl
  · obtain ⟨a, ws, rfl, ⟨xs, hx, hp⟩, hl, hn, q⟩ := h
    have nd := sc_are_writes.nd
    have hlen := Paired.len hp
    refine ⟨_, pss_cons (ps_if (PW.pt (pw_or (pt_not (pt_val (pisi2 T.f_isinstance T.f_list T.f_tuple (pv 0))))
        (pw_or1 (pt_cmpR op_gt (plen T.f_len (pv 0)) (ki T.i_MOST_WRITES) (nomark _))))) (pss_one (ps_ret pe_bl)) pss_nil)
      (pss_cons (ps_if (pt_not (pt_val (pall T.f_all (plc n_are_writes (defScope s_are_writes) 1 nd (pi_seqV 0 (pv 0))
          (te := tAndV (tIsi K (tVar 1) "tuple") (tAndV (tOp rEq (tCB (fun xs H Q => ∃ x n, xs = [x] ∧ LenV K x H n ∧ Q (.int n) H) (tCons (tVar 1) tNil)) (tC (.int 2))) (tCall spIsName [] E0 (tCons (tOp (rIxT K) (tVar 1) (tC (.int 0))) tNil))))
          (fun _ _ _ _ _ => pe_and (pisi T.f_isinstance T.f_tuple boot_tuple (pv 1)) (pe_and (pe_cmpR op_eq (plen T.f_len (pv 1)) pe_int (nomark _)) (pe_one (cc (c_is_name T) hr (pa_cons (pe_ix ix_tup (pv 1) pe_int (fun _ _ => rfl)) pa_nil))))))))) (pss_one (ps_ret pe_bl)) pss_nil)
      (pss_cons (ps_set (i := 2) nd rfl (Or.inr rfl) (plc n_are_writes (defScope s_are_writes) 1 nd (pi_seqV 0 (pv 0)) (te := tOp (rIxT K) (tVar 1) (tC (.int 0))) (fun _ _ _ _ _ => pe_ix ix_tup (pv 1) pe_int (fun _ _ => rfl))))
      (pss_one (ps_ret (pall T.f_all (pe_lc (own := [("at", 3), ("name", 4)]) (g := gTup K 2 (gCons (gName 3) (gCons (gName 4) gNil))) (tt := tYes) (te := tOp (rIn K true) (tVar 4) (tSl (rSlL K) (tVar 2) tNoPart (tPart (tVar 3)))) rfl nd (pi_enum rfl T.f_enumerate (pa_cons (pv 2) pa_nil))
        (blkOk_by (N := n_are_writes) (sc := defScope s_are_writes) (by decide +kernel)) (fun _ _ _ _ _ => pg_tup rfl (pgs_cons (pg_name (i := 3) nd rfl (Or.inl rfl)) (pgs_cons (pg_name (i := 4) nd rfl (Or.inl rfl)) pgs_nil))) (fun _ _ _ _ _ => pts_nil)
        (fun _ _ _ _ _ => pe_cmpR op_notIn_seq (pv 4) (pe_slice sl_list (pv 2) po_none (po_some (pv 3))) rfl))))))), ?_⟩
    refine ⟨_, rfl, (by show 2 ≤ sizeLine; decide), fun tp htp => isi2 (hx.same (Same.upd htp)) upd_same ⟨true, rfl, iteF ⟨_, rfl, _, xs.length, rfl, lenSq (hx.same (Same.upd htp)), _, _, rfl, rfl, false, congrArg V.bl (decide_eq_false (by omega)), iteF ?_⟩⟩⟩
    have s0 : Same H (upd H tp (.tup [.ty "list", .ty "tuple"])) := Same.upd htp
    refine ⟨a, rfl, lc_seq (hx.same s0) (by omega) (fun _ j y _ => y = .bl ((fun _ => true) j)) (fun _ _ _ _ _ _ r => r) ?_ ?_⟩
    · intro D i x H1 Qk hD hxi s1 kk
      obtain ⟨qw, hq, p, y, rfl, hp1, ht⟩ := Paired.get' hp hxi
      have hp2 := (NL.of (s0.trans s1)).tup hp1
      exact ⟨rfl, _, rfl, isi (tyT hp2) ⟨true, rfl, iteT ⟨_, rfl, _, 2, rfl, .inr ⟨_, hp2, rfl⟩, rfl, true, congrArg V.bl (decide_eq_true rfl), iteT ⟨_, rfl, _, _, _, _, rfl, rfl, hp2, atI_nat (j := 0) rfl, qw.1, rfl, hn qw (List.mem_of_getElem? hq), fun H4 s4 => kk _ _ s4 rfl⟩⟩⟩⟩
    · intro D H1 acc hD s1 aa
      refine ⟨D, _, rfl, SqL.of (by rw [aa.1, acc_bl aa]), ?_⟩
      rw [all_range (fun _ _ => rfl)]
      refine ⟨true, rfl, iteF ?_⟩
      have s01 := s0.trans s1
      refine ⟨a, rfl, lc_seq (hx.same s01) (by omega) (fun _ j y _ => ∃ c, y = .str c ∧ True) (fun _ _ _ _ _ _ r => r) ?_ ?_⟩
      · intro D2 i x H2 Qk hD2 hxi s2 kk
        obtain ⟨qw, hq, p, y, rfl, hp1, ht⟩ := Paired.get' hp hxi
        exact ⟨rfl, _, rfl, _, _, _, _, rfl, rfl, (NL.of (s01.trans s2)).tup hp1, atI_nat (j := 0) rfl, kk _ _ (Same.refl _) ⟨_, rfl, trivial⟩⟩
      · intro D2 H2 acc2 hD2 s2 a2
        obtain ⟨ns, rfl, _⟩ := strs_of a2.2.2
        have hl2 : (ns.map V.str).length ≤ 1 := by rw [a2.2.1]; omega
        refine ⟨_, rfl, D2, ns.map V.str, rfl, SqL.of a2.1, fun D3 hD3 => ?_⟩
        refine lc_same (walk_enum (xs := ns.map V.str)) (by omega) hD3 (fun j y _ => y = .bl ((fun _ => true) j)) (fun _ s3 => s3.seq (SqL.of a2.1)) (fun _ _ _ _ _ r => r) ?_ ?_
        · rintro i x H3 H4 Qk hi s3 ⟨T3, x1, x2, rfl, hT3, rfl, h1, h2⟩ kk
          have h1' : x1 = .int (i : Nat) := (Option.some.inj h1).symm
          subst h1'
          have hi0 : i = 0 := by omega
          subst hi0
          have h2 : (ns.map V.str)[0]? = some x2 := h2
          rw [List.getElem?_map] at h2
          obtain ⟨c, hc, rfl⟩ := Option.map_eq_some_iff.mp h2
          refine ⟨T3, _, rfl, SqT.of upd_same, rfl, _, _, rfl, _, _, rfl, rfl, rfl, ?_⟩
          refine ⟨_, rfl, _, rfl, _, rfl, 0, rfl, D2, ns.map V.str, rfl, (s3.trans (Same.upd hT3)).seq (SqL.of a2.1), fun p hp3 => ?_⟩
          have e : cutV (ns.map V.str) none (some 0) = [] := by
            unfold cutV
            simp [HT.sIx]
          rw [e]
          exact ⟨p, [], rfl, .inl (SqL.of upd_same), rfl, rfl, kk _ _ ((Same.upd hT3).trans (Same.upd hp3)) rfl⟩
        · intro H3 acc3 s3 a3
          refine ⟨D3, _, rfl, SqL.of (by rw [a3.1, acc_bl a3]), ?_⟩
          rw [all_range (fun _ _ => rfl)]
          exact q _ ((s01.trans s2).trans s3)
end
end K80
namespace K80
open PySem PySem.Spec PyProof.Rows L2
/-! ### the tuples stand -/
def isT : HO → Bool
  | .tup _ => true
  | .frz _ _ => true
  | _ => false
def TU (H H' : Hp) : Prop := ∀ b o, H b = some o → isT o = true → H' b = some o
theorem TU.of {H H' : Hp} (s : NL H H') : TU H H' := fun b o h e => s b o h (by cases o <;> first | rfl | cases e)
theorem TU.trans {H H1 H2 : Hp} (a : TU H H1) (b : TU H1 H2) : TU H H2 := fun c o h n => b c o (a c o h n) n
section
variable {K : PySem.W.Frag} {H H' : Hp}
theorem TU.tup {a : Addr} {xs : List V} (s : TU H H') (h : SqT K H a xs) : SqT K H' a xs := by
  rcases h with (h | ⟨o, h⟩) | h
  · exact .inl (.inl (s _ _ h rfl))
  · exact .inl (.inr ⟨o, s _ _ h rfl⟩)
  · exact .inr h
theorem TV.tu (s : TU H H') : ∀ {t : Tm} {v : V}, TV K H t v → TV K H' t v
  | .val _, _, h => h
  | .arg _, _, ⟨p, e, h⟩ => ⟨p, e, s.tup h⟩
  | .cell _, _, ⟨p, e, h⟩ => ⟨p, e, s.tup h⟩
  | .tick, _, ⟨p, e, h⟩ => ⟨p, e, s.tup h⟩
  | .two _ _ _, _, ⟨p, x, y, e, h, h1, h2⟩ => ⟨p, x, y, e, s.tup h, TV.tu s h1, TV.tu s h2⟩
  | .ite _ _ _, _, ⟨p, z, x, y, e, h, h0, h1, h2⟩ => ⟨p, z, x, y, e, s.tup h, TV.tu s h0, TV.tu s h1, TV.tu s h2⟩
  | .call0 _, _, ⟨p, q, e, h, h1⟩ => ⟨p, q, e, s.tup h, s.tup h1⟩
  | .call1 _ _, _, ⟨p, q, x, e, h, h1, h2⟩ => ⟨p, q, x, e, s.tup h, s.tup h1, TV.tu s h2⟩
  | .call2 _ _ _, _, ⟨p, q, x, y, e, h, h1, h2, h3⟩ => ⟨p, q, x, y, e, s.tup h, s.tup h1, TV.tu s h2, TV.tu s h3⟩
theorem WrAt.tu (s : TU H H') {q : Str × Tm} {v : V} (h : WrAt K H q v) : WrAt K H' q v := let ⟨p, x, e, h, t⟩ := h; ⟨p, x, e, s.tup h, t.tu s⟩
theorem But.tu {p C dx : Addr} {fs : List (Str × V)} (b : But p H H') (h : H p = some (.ins C dx fs)) : TU H H' := fun c o e n => b c o e fun z => by
  subst z
  rw [h] at e
  cases e
  cases n
theorem WrAt.nm {ws : List (Str × Tm)} {xs : List V} (s : TU H H') (h : Paired (WrAt K H) ws xs) : Paired (WrAt K H') ws xs := Paired.mapP h fun _ _ => WrAt.tu s
/-- a sequence but for p -/
theorem Sq.but {p a C dx : Addr} {fs : List (Str × V)} {xs : List V} (b : But p H H') (h : H p = some (.ins C dx fs)) (q : Sq K H a xs) : Sq K H' a xs := by
  rcases q with (q | ⟨o, q⟩) | q
  · rcases q with q | ⟨o, q⟩
    · exact .inl (.inl (.inl (b _ _ q fun z => by subst z; rw [h] at q; cases q)))
    · exact .inl (.inl (.inr ⟨o, b _ _ q fun z => by subst z; rw [h] at q; cases q⟩))
  · exact .inl (.inr ⟨o, q⟩)
  · exact .inr ((But.tu b h).tup q)
end
/-! ### for over either -/
section
variable {K : PySem.W.Frag}
abbrev ForB (J : It) (g : TG) (tb : TS) (D : Ends) (σ : L2.St) (H1 : Hp) : Prop := ∃ W : Nat → Nat → L2.St → Hp → Prop, (∃ m, W 0 m σ H1) ∧ ∀ i m σ H, W i m σ H →
  (J.stop i H ∧ D.nx σ H) ∨ (J.go i H ∧ ∃ N : L2.St → Hp → Prop, (∀ σ' H', N σ' H' → ∃ m', m' < m ∧ W (i + 1) m' σ' H') ∧ ∀ x H', J.yld i H x H' → g x σ H' fun σ2 H2 => tb { D with nx := N, ct := N, bk := D.nx } σ2 H2)
theorem for_seq {a : Addr} {xs : List V} {g : TG} {tb : TS} {D : Ends} {σ : L2.St} {H : Hp} (hq : Sq K H a xs) (Pv : Nat → L2.St → Hp → Prop) (h0 : Pv 0 σ H) (hl : ∀ i σ H', i ≤ xs.length → Pv i σ H' → Same H H')
    (hs : ∀ i x σ H, xs[i]? = some x → Pv i σ H → g x σ H fun σ2 H2 => tb { D with nx := Pv (i + 1), ct := Pv (i + 1), bk := D.nx } σ2 H2) (hd : ∀ σ H, Pv xs.length σ H → D.nx σ H) :
    (∃ xs, SqL K H a xs) ∧ ForB (Itl K a) g tb D σ H ∨ (∃ xs, SqT K H a xs) ∧ ForB (Itt K a) g tb D σ H := by
  rcases hq with hq | hq
  · exact .inl ⟨⟨xs, hq⟩, for_list (xs := xs) Pv h0 (fun i σ H' hi p => (hl i σ H' hi p).seq hq) hs hd⟩
  · exact .inr ⟨⟨xs, hq⟩, for_tup (xs := xs) Pv h0 (fun i σ H' hi p => (NL.of (hl i σ H' hi p)).tup hq) hs hd⟩
end
section
variable {P : Program} {w : World} {K : PySem.W.Frag} {mg : Str → Option Value} {base : Heap}
/-! ### functions.py: Function -/
/-- what a Function is made of -/
structure Fd.Fm (f : Fd) : Prop where
  name : Nm f.name
  many : f.many ≤ 2
  wf : f.result.wf f.many
  size : f.result.size ≤ 30
  depth : f.result.depth ≤ 8
  few : f.writes.length ≤ 1
  writes : ∀ q ∈ f.writes, Nm q.1 ∧ q.2.wf f.many ∧ q.2.size ≤ 30 ∧ q.2.depth ≤ 8
  cost : f.cost < 10
  label : IsLab f.label
theorem Fd.Ok.fm {cs : List (Str × Str)} {ah : List (Str × Nat)} {f : Fd} (h : f.Ok cs ah) : f.Fm :=
  ⟨h.name, h.many, h.result.wf, by have := h.result.size; omega, by have := h.result.depth; omega, h.few, fun q hq => ⟨(h.writes q hq).2.1, (h.writes q hq).2.2.wf, by have := (h.writes q hq).2.2.size; omega, by have := (h.writes q hq).2.2.depth; omega⟩, h.cost, h.label⟩
def spFnI (K : PySem.W.Frag) : Sp := fun vs H Q _ => ∃ p dx f x wp, vs = [.ref p, .str f.name, .int (f.many : Nat), x, .str f.label, .ref wp, .int (f.cost : Nat)] ∧ H p = some (.ins (He.ga K "Function") dx []) ∧ f.Fm ∧ TV K H f.result x ∧ WrSq K H wp f.writes ∧
  ∀ H', FnAt K H' f (.ref p) → But p H H' → Q .non H'
theorem fnI_ok (T : Top K mg) {f0 : Addr} {fd : FuncData} (F : FunD K "__init__" "Function.__init__" (defArgs s_Function_init) (defBody s_Function_init) (defScope s_Function_init) [] [("cost", .int 1)] f0 fd) :
    FnOk P w K mg base CX0 6 f0 fd ["self", "name", "arguments", "result", "label", "writes", "cost"] (spFnI K) := by
  refine mkFn F sc_Function_init (fun vs H Q E h => ?_) (fun f cdv A outer s H vs Q E hr h => ?_)
  · obtain ⟨p, dx, f, x, wp, rfl, _⟩ := h
    rfl
  · obtain ⟨p, dx, f, x, wp, rfl, hp, hf, hx, ⟨xs, hw, hws⟩, q⟩ := h
    have nd := sc_Function_init.nd
    refine ⟨_, pss_cons (ps_if (pt_not (pt_val (cc (c_is_name T) hr (pa_cons (pv 1) pa_nil)))) pss_never pss_nil)
      (pss_cons (ps_if (pt_not (pt_val (cc (c_is_between T) hr (pa_cons (pv 2) (pa_cons pe_int (pa_cons (ki T.i_MOST_ARGUMENTS) pa_nil)))))) pss_never pss_nil)
      (pss_cons (ps_fld (pv 0) (cc (c_made_label T) hr (pa_cons (pv 4) pa_nil)) rfl)
      (pss_cons (ps_if (pt_not (pt_val (cc (c_is_term T) hr (pa_cons (pv 3) (pa_cons (pv 2) pa_nil))))) pss_never pss_nil)
      (pss_cons (ps_if (pt_not (pt_val (cc (c_are_writes T) hr (pa_cons (pv 5) pa_nil)))) pss_never pss_nil)
      (pss_cons (ps_for PassesOwn.never rfl (pi_seqV 5 (pv 5)) (pg_name (i := 7) nd rfl (Or.inl rfl)) (pss_one (ps_if (pt_not (pt_val (cc (c_is_term T) hr (pa_cons (pe_ix ix_tup (pv 7) pe_int (fun _ _ => rfl)) (pa_cons (pv 2) pa_nil))))) pss_never pss_nil)))
      (pss_cons (ps_if (pt_not (pt_val (cc (c_is_between T) hr (pa_cons (pv 6) (pa_cons pe_int (pa_cons (ki T.i_MOST_COST) pa_nil)))))) pss_never pss_nil)
      (pss_cons (ps_fld (pv 0) (pv 1) rfl) (pss_cons (ps_fld (pv 0) (pv 2) rfl) (pss_cons (ps_fld (pv 0) (pv 3) rfl)
      (pss_cons (ps_fld (pv 0) (pe_callTy call_tuple_of rfl T.f_tuple boot_tuple (pa_cons (pv 5) pa_nil)) rfl) (pss_one (ps_fld (pv 0) (pv 6) rfl)))))))))))), ?_⟩
    have b1 := hf.many
    have b2 := hf.cost
    refine ⟨_, rfl, f.name, rfl, hf.name, fun H1 s1 => ⟨true, rfl, iteF ⟨_, rfl, _, _, _, true, rfl, .inl ⟨_, rfl, (decide_eq_true (by omega)).symm⟩, true, rfl, iteF ?_⟩⟩⟩
    refine ⟨_, rfl, f.label, rfl, hf.label, fun lp H2 lab hlp s2 => ⟨_, rfl, p, _, dx, [], rfl, s2 _ _ (s1 _ _ hp), T.c_Function, T.n_Function_label, (by show 0 < 1000; decide), ?_⟩⟩
    have hp2 := s2 _ _ (s1 _ _ hp)
    have plp : lp ≠ p := by
      intro e
      rw [e, s1 _ _ hp] at hlp
      cases hlp
    -- the heap with the label put
    have b3 : But p H (upd H2 p (.ins (He.ga K "Function") dx [("label", .ref lp)])) := (But.of (s1.trans s2)).trans But.upd
    have tu3 := But.tu b3 hp
    refine ⟨_, rfl, _, rfl, x, f.result, f.many, rfl, hx.tu tu3, hf.wf, hf.size, hf.depth, fun H4 s4 => ⟨true, rfl, iteF ?_⟩⟩
    have sq4 : Sq K H4 wp xs := (hw.but b3 hp).same s4
    have tu4 := tu3.trans (TU.of (NL.of s4))
    refine ⟨_, rfl, wp, f.writes, rfl, ⟨xs, sq4, WrAt.nm tu4 hws⟩, hf.few, fun q hq => (hf.writes q hq).1, fun H5 s5 => ⟨true, rfl, iteF ?_⟩⟩
    have sq5 := sq4.same s5
    have tu5 := tu4.trans (TU.of (NL.of s5))
    have ws5 := WrAt.nm (K := K) tu5 hws
    refine ⟨wp, rfl, for_seq sq5 (fun i σ H6 => ∃ rv : Option V, σ = [some (.ref p), some (.str f.name), some (.int (f.many : Nat)), some x, some (.str f.label), some (.ref wp), some (.int (f.cost : Nat)), rv] ∧ Same H5 H6) ⟨none, rfl, Same.refl _⟩ (fun i σ H' _ ⟨_, _, s⟩ => s) ?_ ?_⟩
    · rintro i y σ H6 hy ⟨rv, rfl, s6⟩
      obtain ⟨qw, hq, r, z, rfl, hr2, ht⟩ := Paired.get' ws5 hy
      have hqw := hf.writes qw (List.mem_of_getElem? hq)
      refine ⟨_, rfl, _, _, _, _, rfl, rfl, (NL.of s6).tup hr2, atI_nat (j := 1) rfl, _, rfl, z, qw.2, f.many, rfl, ht.nl (NL.of s6), hqw.2.1, hqw.2.2.1, hqw.2.2.2, fun H7 s7 => ⟨true, rfl, iteF ?_⟩⟩
      exact ⟨_, rfl, s6.trans s7⟩
    · rintro σ H6 ⟨rv, rfl, s6⟩
      refine ⟨_, rfl, _, _, _, true, rfl, .inl ⟨_, rfl, (decide_eq_true (by omega)).symm⟩, true, rfl, iteF ?_⟩
      have h6 : H6 p = some (.ins (He.ga K "Function") dx [("label", .ref lp)]) := s6 _ _ (s5 _ _ (s4 _ _ upd_same))
      have b6 : But p H H6 := b3.trans (But.of ((s4.trans s5).trans s6))
      have l6 : LabAt K H6 lp f.label := by
        obtain ⟨dl, hl, lab⟩ := lab
        exact ⟨dl, hl, s6 _ _ (s5 _ _ (s4 _ _ (by rw [upd_ne plp]; exact lab)))⟩
      refine ⟨_, rfl, _, rfl, p, _, dx, _, rfl, h6, T.c_Function, T.n_Function_name, (by show 1 < 1000; decide), ?_⟩
      refine ⟨_, rfl, _, rfl, p, _, dx, _, rfl, upd_same, T.c_Function, T.n_Function_arguments, (by show 2 < 1000; decide), ?_⟩
      refine ⟨_, rfl, _, rfl, p, _, dx, _, rfl, upd_same, T.c_Function, T.n_Function_result, (by show 3 < 1000; decide), ?_⟩
      rw [upd_upd, upd_upd]
      have b7 : But p H (upd H6 p (.ins (He.ga K "Function") dx [("label", .ref lp), ("name", .str f.name), ("arguments", .int (f.many : Nat)), ("result", x)])) := b6.trans But.upd
      have sq7 : Sq K (upd H6 p (.ins (He.ga K "Function") dx [("label", .ref lp), ("name", .str f.name), ("arguments", .int (f.many : Nat)), ("result", x)])) wp xs := (sq5.same s6).but But.upd h6
      have fin : ∀ l H8, SqT K H8 l xs → Same (upd H6 p (.ins (He.ga K "Function") dx [("label", .ref lp), ("name", .str f.name), ("arguments", .int (f.many : Nat)), ("result", x)])) H8 →
          Q .non (upd (upd H8 p (.ins (He.ga K "Function") dx [("label", .ref lp), ("name", .str f.name), ("arguments", .int (f.many : Nat)), ("result", x), ("writes", .ref l)])) p (.ins (He.ga K "Function") dx (fnF f lp l x))) := by
        intro l H8 hl s8
        have h8 := s8 _ _ upd_same
        have b8 : But p H (upd (upd H8 p (.ins (He.ga K "Function") dx [("label", .ref lp), ("name", .str f.name), ("arguments", .int (f.many : Nat)), ("result", x), ("writes", .ref l)])) p (.ins (He.ga K "Function") dx (fnF f lp l x))) := (b7.trans (But.of s8)).trans (But.upd.trans But.upd)
        have tu8 := But.tu b8 hp
        refine q _ ⟨p, dx, lp, l, x, xs, rfl, upd_same, ?_, hx.tu tu8, ?_, WrAt.nm tu8 hws⟩ b8
        · obtain ⟨dl, hl2, lab⟩ := l6
          exact ⟨dl, hl2, by rw [upd_ne plp, upd_ne plp]; exact s8 _ _ (by rw [upd_ne plp]; exact lab)⟩
        · have bb : But p H8 (upd (upd H8 p (.ins (He.ga K "Function") dx [("label", .ref lp), ("name", .str f.name), ("arguments", .int (f.many : Nat)), ("result", x), ("writes", .ref l)])) p (.ins (He.ga K "Function") dx (fnF f lp l x))) := But.upd.trans But.upd
          exact (But.tu bb h8).tup hl
      rcases sq7 with sq7 | sq7
      · refine ⟨_, rfl, wp, xs, rfl, .inl ⟨sq7, fun l hl => ⟨_, rfl, p, _, dx, _, rfl, (by rw [upd_ne (ne_of_none upd_same hl)]; exact upd_same), T.c_Function, T.n_Function_writes, (by show 4 < 1000; decide), ?_⟩⟩⟩
        refine ⟨_, rfl, _, rfl, p, _, dx, _, rfl, upd_same, T.c_Function, T.n_Function_cost, (by show 5 < 1000; decide), ?_⟩
        exact fin l _ (SqT.of upd_same) (Same.upd hl)
      · refine ⟨_, rfl, wp, xs, rfl, .inr ⟨sq7, ⟨_, rfl, p, _, dx, _, rfl, upd_same, T.c_Function, T.n_Function_writes, (by show 4 < 1000; decide), ?_⟩⟩⟩
        refine ⟨_, rfl, _, rfl, p, _, dx, _, rfl, upd_same, T.c_Function, T.n_Function_cost, (by show 5 < 1000; decide), ?_⟩
        exact fin wp _ sq7 (Same.refl _)
end
end K80
namespace K80
open PySem PySem.Spec PyProof.Rows L2
section
variable {P : Program} {w : World} {K : PySem.W.Frag} {mg : Str → Option Value} {base : Heap}
/-- Function(a, b, c, label=.., writes=.., cost=..) -/
structure MakFn (P : Program) (w : World) (K : PySem.W.Frag) (mg : Str → Option Value) (base : Heap) : Prop where
  ex : ∃ (f : Addr) (fd : FuncData) (g : List Value → List Value → List Value), Mk K (He.ga K "Function") f ∧ FnOk P w K mg base CX0 6 f fd ["self", "name", "arguments", "result", "label", "writes", "cost"] (spFnI K) ∧
    KBn K fd ["self", "name", "arguments", "result", "label", "writes", "cost"] 4 (["label", "writes", "cost"] : List Str) g (fun vs zs => vs ++ zs)
theorem c_Function (T : Top K mg) : MakFn P w K mg base := by
  obtain ⟨fd, F⟩ := T.d_Function_init
  obtain ⟨mv, hb⟩ := F.kbinds0 (ps := ["self", "name", "arguments", "result", "label", "writes", "cost"]) 4 (["label", "writes", "cost"] : List Str) [] (fun us mv ws => us ++ ws) (by simp) (fun q h => by cases h) (fun r1 _ r3 => r1.append r3)
    (fun D doc pm an cdv ct us mv ws h1 h2 h3 => match us, mv, ws, h1, h2, h3 with | [_, _, _, _], [], [_, _, _], _, _, _ => rfl)
  exact ⟨_, fd, _, T.k_Function, fnI_ok T F, hb⟩
theorem cmf {X : Cx} {j : Nat} {p pos : Pos} {e : Expr} {es : List Expr} {kws : List Keyword} {t tk : TA} (c : MakFn X.prog X.w X.K X.mg X.base) (hm : X.mg "Function" = some (.ref (He.ga X.K "Function"))) (hr : Room j X.A) (ha : PA X (e :: es) t) (hkw : PK X kws tk) (hk : 7 ≤ j := by decide) (hg : Gl X "Function" := by rfl)
    (hall : (backToKw pos (keywordEach kws X.env)).all (·.1.isSome) = true := by rfl) (hks : (backToKw pos (keywordEach kws X.env)).filterMap (·.1) = (["label", "writes", "cost"] : List Str) := by rfl)
    (he : starEach (e :: es) X.env = (false, eval e X.env) :: starEach es X.env := by rfl) (hpl : ((backTo pos (starEach (e :: es) X.env)).any (·.1) || (backToKw pos (keywordEach kws X.env)).any (·.1.isNone)) = false := by rfl) :
    PE X (.Call (.Name "Function" p) (e :: es) kws pos) (tMakeK (He.ga X.K "Function") 3 3 (spFnI X.K) (fun vs zs => vs ++ zs) E0 t tk) := by
  obtain ⟨f, fd, g, M, F, hb⟩ := c.ex
  exact pe_makeK (ks := ["label", "writes", "cost"]) (n := 3) M F (hr.mono hk) hg hm hb passZ ha hkw hall hks (by decide) he hpl
/-- the terms of a function -/
def Fd.terms (f : Fd) : List Tm := f.result :: f.writes.map (·.2)
def spParts (K : PySem.W.Frag) : Sp := fun vs H Q _ => ∃ p f, vs = [.ref p] ∧ FnAt K H f (.ref p) ∧ f.Fm ∧ ∀ l ls H', Same H H' → H l = none → H' l = some (.lst ls) → TVs K H' f.terms ls → Q (.ref l) H'
theorem c_parts (T : Top K mg) : Met P w K mg base 1 (He.ga K "Function") "parts" (spParts K) := by
  obtain ⟨fd, F⟩ := T.d_Function_parts
  refine mkMet T.c_Function T.m_Function_parts F sc_Function_parts b_Function_parts (fun vs H Q E h => ?_) (fun f0 cdv A outer s H vs Q E hr h => ?_)
  · obtain ⟨p, f, rfl, _⟩ := h
    rfl
  · obtain ⟨p, f, rfl, ⟨p', dx, lp, wp, x, ws, ep, hp, hlab, hx, hw, hws⟩, hf, q⟩ := h
    cases ep
    have nd := sc_Function_parts.nd
    refine ⟨_, pss_one (ps_ret (pe_lst (pa_cons (pe_fld (pv 0) rfl) (StX.pa_star (plc n_Function_parts (defScope s_Function_parts) 1 nd (pi_tup (pe_fld (pv 0) rfl)) (te := tOp (rIxT K) (tVar 1) (tC (.int 1))) (fun _ _ _ _ _ => pe_ix ix_tup (pv 1) pe_int (fun _ _ => rfl))) pa_nil)))), ?_⟩
    have hlen := Paired.len hws
    have hfew := hf.few
    refine ⟨_, rfl, p, _, dx, _, _, rfl, hp, T.c_Function, T.n_Function_result, rfl, _, rfl, p, _, dx, _, _, rfl, hp, T.c_Function, T.n_Function_writes, rfl, wp, rfl, ⟨_, hw⟩, fun D hD => ?_⟩
    refine lc_same (walk_tup (xs := ws)) (by omega) hD (fun j y H' => ∃ q, f.writes[j]? = some q ∧ TV K H' q.2 y) (fun _ s1 => (NL.of s1).tup hw) (fun j y H1 H2 n ⟨q, e, h⟩ => ⟨q, e, h.nl n⟩) ?_ ?_
    · rintro i y H1 H2 Qk hi s1 ⟨rfl, hy⟩ kk
      obtain ⟨qw, hq, r, z, rfl, hr2, ht⟩ := Paired.get' hws hy
      exact ⟨rfl, _, rfl, _, _, _, _, rfl, rfl, (NL.of s1).tup hr2, atI_nat (j := 1) rfl, kk _ _ (Same.refl _) ⟨qw, hq, ht.nl (NL.of s1)⟩⟩
    · intro H1 acc s1 a
      have hl2 := a.2.1
      refine ⟨D, acc, rfl, .inr (SqL.of a.1), (by show (x :: (acc ++ [])).length ≤ sizeLine; rw [List.append_nil, List.length_cons, sizeLine_eq]; omega), fun l hl => ?_⟩
      refine q l _ _ (Same.upd' s1 hl) (Same.free s1 hl) upd_same ?_
      have n1 : NL H1 (upd H1 l (.lst (x :: (acc ++ [])))) := NL.of (Same.upd hl)
      rw [List.append_nil] at n1 ⊢
      refine .cons ((hx.nl (NL.of s1)).nl n1) (Paired.of_get (by rw [List.length_map]; omega) fun i t y e1 e2 => ?_)
      obtain ⟨qq, e3, h3⟩ := a.2.2 i y e2
      rw [List.getElem?_map, e3] at e1
      cases e1
      exact h3.nl n1
/-! ### == of Functions -/
def wrData (q : Str × Tm) : PyData := .tuple [.str q.1, q.2.data]
theorem wr_dp {H : Hp} : ∀ {ws : List (Str × Tm)} {xs : List V}, Paired (WrAt K H) ws xs → DpAll K H xs (ws.map wrData)
  | _, _, .nil => .nil
  | _, _, .cons ⟨p, x, e, h, t⟩ r => .cons (e ▸ .tup h (.cons (.str _) (.cons t.dp .nil))) (wr_dp r)
theorem wr_shape {m : Nat} : ∀ {ws : List (Str × Tm)}, (∀ q ∈ ws, Nm q.1 ∧ q.2.wf m ∧ q.2.size ≤ 30 ∧ q.2.depth ≤ 8) → PyData.canLayAll0 (ws.map wrData) = true ∧ PyData.depthAll (ws.map wrData) ≤ 17
  | [], _ => ⟨rfl, Nat.zero_le _⟩
  | q :: r, h => by
    obtain ⟨h1, h2⟩ := wr_shape (ws := r) fun x hx => h x (List.mem_cons_of_mem _ hx)
    obtain ⟨n1, n2, _, n4⟩ := h q (List.mem_cons_self ..)
    have := q.2.data_depth
    rw [List.map_cons]
    refine ⟨by simp [wrData, PyData.canLayAll0, PyData.canLay0, Tm.canLay n2, Nm.strOk n1, h1], ?_⟩
    simp only [wrData, PyData.depthAll, PyData.depth] at h2 ⊢
    omega
theorem wr_shaped {m : Nat} {ws : List (Str × Tm)} (h : ∀ q ∈ ws, Nm q.1 ∧ q.2.wf m ∧ q.2.size ≤ 30 ∧ q.2.depth ≤ 8) : SeqAt.shaped (.tuple (ws.map wrData)) = true := by
  obtain ⟨h1, h2⟩ := wr_shape h
  unfold SeqAt.shaped
  simp only [PyData.canLay0, PyData.depth, h1, Bool.true_and]
  exact decide_eq_true (by omega)
def FnSame (K : PySem.W.Frag) (a b : Addr) (H : Hp) : Prop := ∃ f : Fd, f.Fm ∧ FnAt K H f (.ref a) ∧ FnAt K H f (.ref b)
theorem c_Function_eq (T : Top K mg) : Met P w K mg base 1 (He.ga K "Function") "__eq__" (spEq (FnSame K)) := by
  obtain ⟨fd, F⟩ := T.d_Function_eq
  refine mkMet T.c_Function T.m_Function_eq F sc_Function_eq b_Function_eq (fun vs H Q E h => ?_) (fun f0 cdv A outer s H vs Q E hr h => ?_)
  · obtain ⟨a, b, rfl, _⟩ := h
    rfl
  · obtain ⟨a, b, rfl, ⟨f, hf, ⟨a', dx, lp, wp, x, ws, ea, ha, ⟨dl, hh, hlab⟩, hx, hw, hws⟩, ⟨b', dx2, lp2, wp2, x2, ws2, eb, hb, ⟨dl2, hh2, hlab2⟩, hx2, hw2, hws2⟩⟩, q⟩ := h
    cases ea
    cases eb
    refine ⟨_, pss_cons (ps_if (PW.pt (pw_or (pt_not (pt_val (pe_callB call_isi rfl T.f_isinstance boot_isinstance (pa_cons (pv 1) (pa_cons (kr T.g_Function) pa_nil))))) (pw_or (pt_cmpR op_ne (pe_fld (pv 0) rfl) (pe_fld (pv 1) rfl) (nomark _)) (pw_or1 (pt_cmpR op_ne (pe_fld (pv 0) rfl) (pe_fld (pv 1) rfl) (nomark _)))))) (pss_one (ps_ret pe_bl)) pss_nil)
      (pss_cons (ps_if (PW.pt (pw_or (pt_cmpR (op_neD hr.units) (pe_fld (pv 0) rfl) (pe_fld (pv 1) rfl) (nomark _)) (pw_or1 (pt_cmpR op_ne (pe_fld (pe_fld (pv 0) rfl) rfl) (pe_fld (pe_fld (pv 1) rfl) rfl) (nomark _))))) (pss_one (ps_ret pe_bl)) pss_nil)
      (pss_one (ps_ret (pe_and (pe_cmpR (op_eqD hr.units) (pe_fld (pv 0) rfl) (pe_fld (pv 1) rfl) (nomark _)) (pe_one (pe_cmpR op_eq (pe_fld (pv 0) rfl) (pe_fld (pv 1) rfl) (nomark _))))))), ?_⟩
    have ty : TyX K H (.ref b) (.ref (He.ga K "Function")) := .base (.ins hb T.isF.cl T.isF.ha T.isF.hn T.isF.htk T.isF.hm)
    refine ⟨_, rfl, .ref b, .ref (He.ga K "Function"), .ref (He.ga K "Function"), .ref (He.ga K "Function"), true, rfl, .own _, ty, T.isF.me, true, rfl, iteF ?_⟩
    refine ⟨_, rfl, a, _, dx, _, _, rfl, ha, T.c_Function, T.n_Function_name, rfl, _, rfl, b, _, dx2, _, _, rfl, hb, T.c_Function, T.n_Function_name, rfl, rfl, false, by simp, iteF ?_⟩
    refine ⟨_, rfl, a, _, dx, _, _, rfl, ha, T.c_Function, T.n_Function_arguments, rfl, _, rfl, b, _, dx2, _, _, rfl, hb, T.c_Function, T.n_Function_arguments, rfl, rfl, false, by simp, iteF ?_⟩
    refine ⟨_, rfl, a, _, dx, _, _, rfl, ha, T.c_Function, T.n_Function_result, rfl, _, rfl, b, _, dx2, _, _, rfl, hb, T.c_Function, T.n_Function_result, rfl, _, _, hx.dp, hx2.dp, Tm.shaped hf.wf hf.depth, Tm.shaped hf.wf hf.depth, false, by rw [Tm.eqv hf.wf]; rfl, iteF ?_⟩
    refine ⟨_, rfl, a, _, dx, _, _, rfl, ha, T.c_Function, T.n_Function_label, rfl, lp, _, dl, _, _, rfl, hlab, T.c_Label, T.n_Label_name, rfl, _, rfl, b, _, dx2, _, _, rfl, hb, T.c_Function, T.n_Function_label, rfl, lp2, _, dl2, _, _, rfl, hlab2, T.c_Label, T.n_Label_name, rfl, rfl, false, by simp, iteF ?_⟩
    have sh := wr_shaped hf.writes
    refine ⟨_, rfl, a, _, dx, _, _, rfl, ha, T.c_Function, T.n_Function_writes, rfl, _, rfl, b, _, dx2, _, _, rfl, hb, T.c_Function, T.n_Function_writes, rfl, _, _, .tup hw (wr_dp hws), .tup hw2 (wr_dp hws2), sh, sh, true, congrArg V.bl (SeqAt.eqv_refl _ (SeqAt.canLay_of_shaped sh)), iteT ?_⟩
    refine ⟨_, rfl, a, _, dx, _, _, rfl, ha, T.c_Function, T.n_Function_cost, rfl, _, rfl, b, _, dx2, _, _, rfl, hb, T.c_Function, T.n_Function_cost, rfl, rfl, ?_⟩
    exact qT rfl (q H Ext.rfl')
end
end K80
namespace K80
open PySem PySem.Spec PyProof.Rows L2
/-! ### tables: texts and their values -/
/-- a dict's pairs are a table's -/
def Tab (kvs : List (Key × V)) (l : List (Str × V)) : Prop := kvs.length ≤ l.length ∧ ∀ n : Str, valV kvs (Sum.inr n : Key) = l.lookup n
theorem Tab.nil : Tab [] [] := ⟨Nat.le_refl _, fun _ => rfl⟩
theorem look_none {l : List (Str × V)} {n : Str} (h : n ∉ l.map (·.1)) : l.lookup n = none := by
  induction l with
  | nil => rfl
  | cons q r ih =>
    obtain ⟨a, b⟩ := q
    rw [List.map_cons, List.mem_cons, not_or] at h
    rw [List.lookup_cons, ih h.2]
    have : (n == a) = false := by simpa using h.1
    rw [this]
theorem look_snoc {l : List (Str × V)} {n m : Str} {v : V} (h : n ∉ l.map (·.1)) : (l ++ [(n, v)]).lookup m = if m = n then some v else l.lookup m := by
  induction l with
  | nil =>
    rw [List.nil_append, List.lookup_cons]
    by_cases e : m = n
    · subst e; simp
    · have : (m == n) = false := by simpa using e
      rw [this, if_neg e]
  | cons q r ih =>
    obtain ⟨a, b⟩ := q
    rw [List.map_cons, List.mem_cons, not_or] at h
    rw [List.cons_append, List.lookup_cons, List.lookup_cons, ih h.2]
    by_cases e : m = a
    · subst e
      have : m ≠ n := fun z => h.1 z.symm
      have e2 : (m == m) = true := by simp
      rw [e2, if_neg this, if_neg this]
    · have : (m == a) = false := by simpa using e
      rw [this]
theorem look_mem {l : List (Str × V)} {n : Str} {v : V} (nd : (l.map (·.1)).Nodup) (h : (n, v) ∈ l) : l.lookup n = some v := by
  induction l with
  | nil => cases h
  | cons q r ih =>
    obtain ⟨a, b⟩ := q
    rw [List.map_cons, List.nodup_cons] at nd
    rw [List.lookup_cons]
    rcases List.mem_cons.mp h with e | e
    · cases e
      simp
    · have : (n == a) = false := by
        simp
        intro z
        subst z
        exact nd.1 (List.mem_map.mpr ⟨_, e, rfl⟩)
      rw [this]
      exact ih nd.2 e
theorem Tab.put {kvs : List (Key × V)} {l : List (Str × V)} {n : Str} {v : V} (t : Tab kvs l) (h : n ∉ l.map (·.1)) : Tab (putK kvs (Sum.inr n : Key) v) (l ++ [(n, v)]) := by
  refine ⟨?_, fun m => ?_⟩
  · have := t.1
    have := length_putK kvs (Sum.inr n : Key) v
    rw [List.length_append, List.length_singleton]
    omega
  · rw [valV_put, look_snoc h, t.2 m]
    by_cases e : m = n
    · subst e; simp
    · rw [if_neg e, if_neg (fun z => e (Sum.inr.inj z))]
theorem nodup_take {A B : Type} {g : A → B} {l : List A} {i : Nat} {c : A} (nd : (l.map g).Nodup) (h : l[i]? = some c) : g c ∉ (l.take i).map g := by
  intro hm
  obtain ⟨j, hj⟩ := List.getElem?_of_mem hm
  rw [List.getElem?_map, List.getElem?_take] at hj
  by_cases hji : j < i
  · rw [if_pos hji] at hj
    have h1 : (l.map g)[j]? = some (g c) := by rw [List.getElem?_map]; exact hj
    have h2 : (l.map g)[i]? = some (g c) := by rw [List.getElem?_map, h]; rfl
    have hl : i < (l.map g).length := (List.getElem?_eq_some_iff.mp h2).1
    have := (List.getElem?_inj (i := j) (j := i) (by omega) nd).mp (h1.trans h2.symm)
    omega
  · rw [if_neg hji] at hj
    cases hj
section
variable {K : PySem.W.Frag} {H : Hp}
/-- isinstance of an own instance -/
theorem isiO {C b dx : Addr} {fs : List (Str × V)} {Q : VK} (c : C8.InsC K C) (h : H b = some (.ins C dx fs)) (q : Q (.bl true) H) : rIsi K [.ref b, .ref C] H Q :=
  ⟨.ref b, .ref C, .ref C, .ref C, true, rfl, .own _, .base (.ins h c.cl c.ha c.hn c.htk c.hm), c.me, q⟩
/-- isinstance(e, C), C an own class -/
def tIsO (K : PySem.W.Frag) (te : TE) (C : Addr) : TE := fun σ H Q => te σ H fun v H1 => rIsi K [v, .ref C] H1 Q
theorem pisO {X : Cx} {e : Expr} {te : TE} {x : Str} {C : Addr} {p p2 pos : Pos} (hi : X.mg "isinstance" = none) (hm : X.mg x = some (.ref C)) (he : PE X e te) (g0 : Gl X "isinstance" := by rfl) (g1 : Gl X x := by rfl) (hd : (x == ("__debug__" : Str)) = false := by decide)
    (h1 : starEach [e, .Name x p2] X.env = (false, eval e X.env) :: starEach [.Name x p2] X.env := by rfl) (h2 : (backTo pos (starEach [.Name x p2] X.env)).any (·.1) = false := by rfl) :
    PE X (.Call (.Name "isinstance" p) [e, .Name x p2] [] pos) (tIsO X.K te C) :=
  pe_callB call_isi g0 hi boot_isinstance (pa_cons he (pa_cons (kr hm g1 hd) pa_nil) h1) (by decide) (by decide) h1 h2
end
section
variable {P : Program} {w : World} {K : PySem.W.Frag} {mg : Str → Option Value} {base : Heap}
/-! ### books.py: checked_cells -/
def spChkCells (K : PySem.W.Frag) : Sp := fun vs H Q _ => ∃ p xs cs, vs = [.ref p] ∧ SqL K H p xs ∧ Paired (CellAt K H) cs xs ∧ cs.length ≤ 3 ∧ (cs.map (·.1)).Nodup ∧ ∀ q H', Same H H' → SqT K H' q xs → Q (.ref q) H'
theorem c_checked_cells (T : Top K mg) : Cal P w K mg base 1 "checked_cells" (spChkCells K) := by
  refine mkCal T.d_checked_cells sc_checked_cells b_checked_cells (fun vs H Q E h => ?_) (fun f cdv A outer s H vs Q E hr h => ?_)
  · obtain ⟨p, xs, cs, rfl, _⟩ := h
    rfl
  · obtain ⟨p, xs, cs, rfl, hp, hx, hl, hnd, q⟩ := h
    have nd := sc_checked_cells.nd
    have hu := hu_of hr
    refine ⟨_, pss_cons (ps_if (pt_not (pt_val (pisi2 T.f_isinstance T.f_list T.f_tuple (pv 0)))) pss_never pss_nil)
      (pss_cons (ps_set (i := 1) nd rfl (Or.inl rfl) pe_dnewK)
      (pss_cons (ps_for PassesOwn.never rfl (pi_enum rfl T.f_enumerate (pa_cons (pv 0) pa_nil)) (pg_tup rfl (pgs_cons (pg_name (i := 2) nd rfl (Or.inl rfl)) (pgs_cons (pg_name (i := 3) nd rfl (Or.inl rfl)) pgs_nil)))
        (pss_cons (ps_if (PW.pt (pw_or (pt_not (pt_val (pisO T.f_isinstance T.g_Cell (pv 3)))) (pw_or1 (pt_cmp (pc_din hu (pe_fld (pv 3) rfl) (pv 1)) rfl)))) pss_never pss_nil)
        (pss_one (ps_dput hu (pv 1) (pe_fld (pv 3) rfl) pe_bl rfl))))
      (pss_cons (ps_if (pt_cmpR op_gt (plen T.f_len (pv 0)) (ki T.i_MOST_CELLS) (nomark _)) pss_never pss_nil)
      (pss_one (ps_ret (pe_callTy call_tuple_of rfl T.f_tuple boot_tuple (pa_cons (pv 0) pa_nil))))))), ?_⟩
    have hlen := Paired.len hx
    refine ⟨_, rfl, (by show 2 ≤ sizeLine; decide), fun tp htp => isi2 (.inl ((Same.upd htp).seq hp)) upd_same ⟨true, rfl, iteF ?_⟩⟩
    have s0 : Same H (upd H tp (.tup [.ty "list", .ty "tuple"])) := Same.upd htp
    intro d hd
    have s1 : Same H (upd (upd H tp (.tup [.ty "list", .ty "tuple"])) d (.dK [])) := s0.trans (Same.upd hd)
    have hdH : H d = none := Same.free s0 hd
    refine ⟨_, rfl, p, xs, rfl, s1.seq hp, ?_⟩
    refine for_it walk_enum (fun i σ H' => ∃ v1 v2 kvs, σ = [some (.ref p), some (.ref d), v1, v2] ∧ Same H H' ∧ H' d = some (.dK kvs) ∧ Tab kvs ((cs.take i).map fun q => (q.1, V.bl true)))
      ⟨none, none, [], rfl, s1, upd_same, Tab.nil⟩ (fun i σ H' _ ⟨_, _, _, _, s, _⟩ => s.seq hp) ?_ ?_
    · rintro i x σ H1 H2 hi ⟨v1, v2, kvs, rfl, s2, h1, tb⟩ ⟨t, x1, x2, rfl, ht, rfl, hx1, hx2⟩
      obtain ⟨c, hc, cp, dx, rfl, hcp⟩ := Paired.get' hx hx2
      have s3 : Same H (upd H1 t (.tup [x1, .ref cp])) := s2.trans (Same.upd ht)
      have hcell := s3 _ _ hcp
      have hd3 : upd H1 t (.tup [x1, .ref cp]) d = some (.dK kvs) := by rw [upd_ne (ne_of_none h1 ht)]; exact h1
      have hn : c.1 ∉ ((cs.take i).map fun q => (q.1, V.bl true)).map (·.1) := by
        rw [List.map_map]
        show c.1 ∉ (cs.take i).map (·.1)
        exact nodup_take hnd hc
      refine ⟨t, _, rfl, SqT.of upd_same, rfl, _, _, rfl, _, _, rfl, rfl, ?_⟩
      refine ⟨_, rfl, isiO T.isC hcell ⟨true, rfl, iteF ?_⟩⟩
      refine ⟨_, rfl, cp, _, dx, _, _, rfl, hcell, T.c_Cell, T.n_Cell_name, rfl, _, rfl, d, _, rfl, DGet.k (k := Sum.inr c.1) hd3, _, rfl, ?_⟩
      rw [tb.2, look_none hn]
      refine iteF ?_
      refine ⟨_, rfl, _, rfl, cp, _, dx, _, _, rfl, hcell, T.c_Cell, T.n_Cell_name, rfl, d, _, rfl, DPut.k (k := Sum.inr c.1) hd3 ?_, ?_⟩
      · have := tb.1
        rw [List.length_map, List.length_take] at this
        rw [sizeLine_eq]
        omega
      · refine ⟨_, _, _, rfl, Same.put s3 hdH, upd_same, ?_⟩
        rw [List.take_succ, hc, Option.toList_some, List.map_append]
        exact tb.put hn
    · rintro σ H1 ⟨v1, v2, kvs, rfl, s2, h1, tb⟩
      refine ⟨_, rfl, _, xs.length, rfl, .inl ⟨xs, s2.seq hp, rfl⟩, _, _, rfl, rfl, false, congrArg V.bl (decide_eq_false (by omega)), iteF ?_⟩
      exact ⟨_, rfl, p, xs, rfl, .inl ⟨s2.seq hp, fun l hl => q l _ (s2.trans (Same.upd hl)) (SqT.of upd_same)⟩⟩
end
end K80
namespace K80
open PySem PySem.Spec PyProof.Rows L2
theorem any_range {f : Nat → Bool} {n : Nat} (h : ∀ i, i < n → f i = false) : ((List.range n).map f).any id = false := by
  simp
  exact h
theorem Tm.ok_call {t : Tm} {f : Str} {cs : List Str} {fs : List (Str × Nat)} (h : t.sh = .call f) (ho : t.ok cs fs) : (f, t.kids.length) ∈ fs := by
  cases t <;> simp [Tm.sh] at h <;> subst h <;> simp [Tm.ok] at ho
  · exact ho
  · exact ho.1
  · exact ho.1
/-- the word at its head -/
theorem Tm.leaf_head {t : Tm} {xs : List V} (h : t.sh = .leaf xs) : ∃ z ys, xs = .str z :: ys ∧ decide (V.str z = V.str "call") = false := by
  cases t <;> simp [Tm.sh] at h <;> subst h
  · exact ⟨_, _, rfl, by decide +kernel⟩
  · exact ⟨_, _, rfl, by decide +kernel⟩
  · exact ⟨_, _, rfl, by decide +kernel⟩
theorem Tm.node_head {t : Tm} {k : Str} {m : Nat} (h : t.sh = .node k) (hw : t.wf m) : decide (V.str k = V.str "call") = false := by
  cases t <;> simp [Tm.sh] at h <;> subst h
  · have hk : Tm.IsPair _ := hw.1
    rcases hk with rfl | rfl | rfl <;> decide +kernel
  · decide +kernel
section
variable {P : Program} {w : World} {K : PySem.W.Frag} {mg : Str → Option Value} {base : Heap}
/-- functions by their names, in a table -/
def Kn (K : PySem.W.Frag) (H : Hp) (ah : List Fd) (kn : List (Str × V)) : Prop := Paired (fun (g : Fd) (nv : Str × V) => nv.1 = g.name ∧ FnAt K H g nv.2) ah kn
theorem Kn.nl {H H' : Hp} (s : NL H H') {ah : List Fd} {kn : List (Str × V)} (h : Kn K H ah kn) : Kn K H' ah kn := Paired.mapP h fun _ _ h => ⟨h.1, h.2.nl s⟩
theorem Kn.names {H : Hp} {ah : List Fd} {kn : List (Str × V)} (h : Kn K H ah kn) : kn.map (·.1) = ah.map (·.name) := by
  unfold Kn at h
  induction h with
  | nil => rfl
  | cons r _ ih => rw [List.map_cons, List.map_cons, ih, r.1]
theorem Kn.find {H : Hp} {ah : List Fd} {kn : List (Str × V)} (h : Kn K H ah kn) (nd : (ah.map (·.name)).Nodup) {f : Str} {n : Nat} (hm : (f, n) ∈ ah.map Fd.sig) : ∃ v g, kn.lookup f = some v ∧ FnAt K H g v ∧ g.many = n := by
  obtain ⟨g, hg, e⟩ := List.mem_map.mp hm
  obtain ⟨i, hi⟩ := List.getElem?_of_mem hg
  obtain ⟨nv, hn, e1, e2⟩ := Paired.get h hi
  unfold Fd.sig at e
  cases e
  refine ⟨nv.2, g, look_mem (h.names ▸ nd) ?_, e2, rfl⟩
  rw [← e1]
  exact List.mem_of_getElem? hn
def spFits (K : PySem.W.Frag) : Sp := fun vs H Q _ => ∃ (p dc dk : Addr) (f : Fd) (cells : List (Str × Str)) (kc : List (Key × V)) (ah : List Fd) (kn : List (Str × V)) (kk : List (Key × V)), vs = [.ref p, .ref dc, .ref dk] ∧ FnAt K H f (.ref p) ∧ f.Ok cells (ah.map Fd.sig) ∧
  H dc = some (.dK kc) ∧ Tab kc (cells.map fun q => (q.1, V.str q.2)) ∧ (cells.map (·.1)).Nodup ∧ H dk = some (.dK kk) ∧ Tab kk kn ∧ Kn K H ah kn ∧ (ah.map (·.name)).Nodup ∧ f.name ∉ cells.map (·.1) ∧ f.name ∉ ah.map (·.name) ∧
  ∀ H', Same H H' → Q (.bl true) H'
theorem terms_ok {f : Fd} {cells : List (Str × Str)} {ah : List (Str × Nat)} (h : f.Ok cells ah) : ∀ t ∈ f.terms, TmOk (cells.map (·.1)) ah f.many t := by
  intro t ht
  rcases List.mem_cons.mp ht with rfl | ht
  · exact h.result
  · obtain ⟨q, hq, rfl⟩ := List.mem_map.mp ht
    exact (h.writes q hq).2.2
theorem c_fits (T : Top K mg) : Cal P w K mg base 13 "fits" (spFits K) := by
  refine mkCal T.d_fits sc_fits b_fits (fun vs H Q E h => ?_) (fun f0 cdv A outer s H vs Q E hr h => ?_)
  · obtain ⟨p, dc, dk, f, cells, kc, ah, kn, kk, rfl, _⟩ := h
    rfl
  · obtain ⟨p, dc, dk, f, cells, kc, ah, kn, kk, rfl, hf, hok, hdc, tc, ndc, hdk, tk, hkn, nda, nc, na, q⟩ := h
    have nd := sc_fits.nd
    have hu := hu_of hr
    refine ⟨_, pss_cons (ps_if (PW.pt (pw_or (pt_cmp (pc_din hu (pe_fld (pv 0) rfl) (pv 1)) rfl) (pw_or1 (pt_cmp (pc_din hu (pe_fld (pv 0) rfl) (pv 2)) rfl)))) (pss_one (ps_ret pe_bl)) pss_nil)
      (pss_cons (ps_if (pt_val (pany T.f_any (plc n_fits (defScope s_fits) 3 nd (pi_tup (pe_fld (pv 0) rfl)) (te := tOp rNe (tDGet1 (tVar 1) (tOp (rIxT K) (tVar 3) (tC (.int 0)))) (tC (.str "table")))
          (fun _ _ _ _ _ => pe_cmpR op_ne (pe_dget1 hu (pv 1) (pe_ix ix_tup (pv 3) pe_int (fun _ _ => rfl)) ⟨rfl, rfl, rfl, rfl⟩) pe_str (nomark _))))) (pss_one (ps_ret pe_bl)) pss_nil)
      (pss_cons (ps_for PassesOwn.never rfl (pi_list (cm0 (c_parts T) hr (pv 0))) (pg_name (i := 4) nd rfl (Or.inl rfl))
        (pss_cons (ps_if (pt_val (pany T.f_any (plc n_fits (defScope s_fits) 5 nd (pi_list (cc (c_cells_in T) hr (pa_cons (pv 4) pa_nil))) (te := tDNotIn (tVar 5) (tVar 1))
            (fun _ _ _ _ _ => pe_cmp (pc_dnotin hu (pv 5) (pv 1)) rfl)))) (pss_one (ps_ret pe_bl)) pss_nil)
        (pss_one (ps_for PassesOwn.never rfl (pi_list (cc (c_leaves T 8) hr (pa_cons (pv 4) pa_nil))) (pg_name (i := 6) nd rfl (Or.inl rfl))
          (pss_one (ps_if (PW.pt (pw_and (pt_val (pisi T.f_isinstance T.f_tuple boot_tuple (pv 6))) (pw_and1 (pt_cmpR op_eq (pe_ix ix_tup (pv 6) pe_int (fun _ _ => rfl)) pe_str (nomark _)))))
            (pss_one (ps_if (PW.pt (pw_or (pt_cmp (pc_dnotin hu (pe_ix ix_tup (pv 6) pe_int (fun _ _ => rfl)) (pv 2)) rfl)
              (pw_or1 (pt_cmpR op_ne (pe_fld (pe_dget hu (pv 2) (pe_ix ix_tup (pv 6) pe_int (fun _ _ => rfl)) (fun _ _ => rfl)) rfl) (plen T.f_len (pe_ix ix_tup (pv 6) pe_int (fun _ _ => rfl))) (nomark _))))) (pss_one (ps_ret pe_bl)) pss_nil)) pss_nil))))))
      (pss_one (ps_ret pe_bl)))), ?_⟩
    have hf0 := hf
    obtain ⟨p', dx, lp, wp, x, ws, ep, hp, hlab, hx, hw, hws⟩ := hf
    cases ep
    have hlw := Paired.len hws
    have hfew := hok.few
    refine ⟨_, rfl, p, _, dx, _, _, rfl, hp, T.c_Function, T.n_Function_name, rfl, _, rfl, dc, _, rfl, DGet.k (k := Sum.inr f.name) hdc, _, rfl, ?_⟩
    rw [tc.2, look_none (by rw [List.map_map]; exact nc)]
    refine iteF ?_
    refine ⟨_, rfl, p, _, dx, _, _, rfl, hp, T.c_Function, T.n_Function_name, rfl, _, rfl, dk, _, rfl, DGet.k (k := Sum.inr f.name) hdk, _, rfl, ?_⟩
    rw [tk.2, look_none (by rw [hkn.names]; exact na)]
    refine iteF ?_
    refine ⟨_, rfl, p, _, dx, _, _, rfl, hp, T.c_Function, T.n_Function_writes, rfl, wp, rfl, ⟨_, hw⟩, fun D hD => ?_⟩
    refine lc_same (walk_tup (xs := ws)) (by omega) hD (fun j y _ => y = .bl ((fun _ => false) j)) (fun _ s1 => (NL.of s1).tup hw) (fun _ _ _ _ _ r => r) ?_ ?_
    · rintro i y H1 H2 Qk hi s1 ⟨rfl, hy⟩ kk'
      obtain ⟨qw, hq, r, z, rfl, hr2, ht⟩ := Paired.get' hws hy
      have hqw := (hok.writes qw (List.mem_of_getElem? hq)).1
      refine ⟨rfl, _, rfl, dc, rfl, .inl ⟨_, .inl (s1 _ _ hdc)⟩, _, rfl, _, _, _, _, rfl, rfl, (NL.of s1).tup hr2, atI_nat (j := 0) rfl, _, DGet.k (k := Sum.inr qw.1) (s1 _ _ hdc), ?_⟩
      rw [tc.2, look_mem (n := qw.1) (v := V.str "table") (by rw [List.map_map]; exact ndc) (List.mem_map.mpr ⟨_, hqw, rfl⟩)]
      exact ⟨rfl, kk' _ _ (Same.refl _) (congrArg V.bl (by show (!decide (V.str "table" = V.str "table")) = false; simp))⟩
    intro H1 acc s1 aa
    refine ⟨D, _, rfl, SqL.of (by rw [aa.1, acc_bl aa]), ?_⟩
    rw [any_range (fun _ _ => rfl)]
    refine ⟨false, rfl, iteF ?_⟩
    refine ⟨_, rfl, p, dx, _, rfl, s1 _ _ hp, rfl, p, f, rfl, hf0.nl (NL.of s1), hok.fm, fun l ls H2 s2 hl hls tv => ?_⟩
    have s12 : Same H H2 := s1.trans s2
    have hlt := Paired.len tv
    refine ⟨l, rfl, ⟨ls, SqL.of hls⟩, for_list (xs := ls) (fun i σ H' => ∃ v3 v4 v5 v6, σ = [some (.ref p), some (.ref dc), some (.ref dk), v3, v4, v5, v6] ∧ Same H2 H') ⟨none, none, none, none, rfl, Same.refl _⟩ (fun i σ H' _ ⟨_, _, _, _, _, s⟩ => s.seq (SqL.of hls)) ?_ ?_⟩
    · rintro i y σ H3 hy ⟨v3, v4, v5, v6, rfl, s3⟩
      obtain ⟨t, ht, hty⟩ := Paired.get' tv hy
      have hto := terms_ok hok t (List.mem_of_getElem? ht)
      have htd := hto.depth
      have hts := hto.size
      refine ⟨_, rfl, y, t, f.many, _, _, rfl, hty.nl (NL.of s3), hto.wf, by omega, by omega, hto.ok, fun l2 ns H4 s4 hl2 h4 hn100 hns => ⟨l2, rfl, ⟨_, SqL.of h4⟩, fun D2 hD2 => ?_⟩⟩
      have s04 : Same H H4 := (s12.trans s3).trans s4
      have hlen : (ns.map V.str).length ≤ 1000000 := by rw [List.length_map]; omega
      · refine lc_same (walk_list (xs := ns.map V.str)) hlen hD2 (fun j y _ => y = .bl ((fun _ => false) j)) (fun _ s5 => s5.seq (SqL.of h4)) (fun _ _ _ _ _ r => r) ?_ ?_
        · rintro i2 y2 H5 H6 Qk hi2 s5 ⟨rfl, hy2⟩ kk'
          rw [List.getElem?_map] at hy2
          obtain ⟨c, hc, rfl⟩ := Option.map_eq_some_iff.mp hy2
          have hcs := hns c (List.mem_of_getElem? hc)
          obtain ⟨qc, hqc, ec⟩ := List.mem_map.mp hcs
          refine ⟨rfl, _, rfl, _, rfl, dc, _, rfl, DGet.k (k := Sum.inr c) (s5 _ _ (s04 _ _ hdc)), ?_⟩
          rw [tc.2, look_mem (n := c) (v := V.str qc.2) (by rw [List.map_map]; exact ndc) (List.mem_map.mpr ⟨qc, hqc, by rw [ec]⟩)]
          exact kk' _ _ (Same.refl _) rfl
        · intro H5 acc2 s5 a5
          refine ⟨D2, _, rfl, SqL.of (by rw [a5.1, acc_bl a5]), ?_⟩
          rw [any_range (fun _ _ => rfl)]
          refine ⟨false, rfl, iteF ?_⟩
          have s05 := s04.trans s5
          refine ⟨_, rfl, y, t, f.many, rfl, (hty.nl (NL.of s3)).nl (NL.of (s4.trans s5)), hto.wf, by omega, by omega, fun l3 ls3 H6 s6 hl3 h6 tv6 => ⟨l3, rfl, ⟨ls3, SqL.of h6⟩, ?_⟩⟩
          have s06 := s05.trans s6
          refine for_list (xs := ls3) (fun i σ H' => ∃ v3 v5 v6, σ = [some (.ref p), some (.ref dc), some (.ref dk), v3, some y, v5, v6] ∧ Same H6 H') ⟨_, _, _, rfl, Same.refl _⟩ (fun i σ H' _ ⟨_, _, _, _, s⟩ => s.seq (SqL.of h6)) ?_ ?_
          · rintro i2 z σ H7 hz ⟨v3, v5, v6, rfl, s7⟩
            obtain ⟨ti, hti, hvi⟩ := Paired.get' tv6 hz
            obtain ⟨hwi, hoi⟩ := Tm.all_ok hto.wf hto.ok ti (List.mem_of_getElem? hti)
            have hdk7 := s7 _ _ (s06 _ _ hdk)
            rcases (hvi.nl (NL.of s7)).by_sh with ⟨n, _, _, _⟩ | ⟨xs, hsh, _, hxs⟩ | ⟨k, hsh, hxs, _⟩ | ⟨g, hsh, hxs, hys, hks⟩
            · exact ⟨_, rfl, isi (.base (.int _)) ⟨false, rfl, iteF ⟨_, _, _, rfl, s7⟩⟩⟩
            · obtain ⟨zz, ys, rfl, ez⟩ := Tm.leaf_head hsh
              exact ⟨_, rfl, isi (tyT hxs) ⟨true, rfl, iteT ⟨_, rfl, _, _, _, _, rfl, rfl, hxs, atI_nat (j := 0) rfl, rfl, false, congrArg V.bl ez, iteF ⟨_, _, _, rfl, s7⟩⟩⟩⟩
            · exact ⟨_, rfl, isi (tyT hxs) ⟨true, rfl, iteT ⟨_, rfl, _, _, _, _, rfl, rfl, hxs, atI_nat (j := 0) rfl, rfl, false, congrArg V.bl (Tm.node_head hsh hwi), iteF ⟨_, _, _, rfl, s7⟩⟩⟩⟩
            · refine ⟨_, rfl, isi (tyT hxs) ⟨true, rfl, iteT ⟨_, rfl, _, _, _, _, rfl, rfl, hxs, atI_nat (j := 0) rfl, rfl, true, congrArg V.bl (decide_eq_true rfl), iteT ?_⟩⟩⟩
              obtain ⟨v, gd, hlook, hgd, hgm⟩ := (hkn.nl (NL.of (s06.trans s7))).find nda (Tm.ok_call hsh hoi)
              refine ⟨_, rfl, _, _, _, _, rfl, rfl, hxs, atI_nat (j := 1) rfl, _, rfl, dk, _, rfl, DGet.k (k := Sum.inr g) hdk7, _, rfl, ?_⟩
              rw [tk.2, hlook]
              refine iteF ?_
              obtain ⟨p2, dx2, lp2, wp2, x2, ws2, rfl, hp2, _⟩ := hgd
              refine ⟨_, rfl, _, rfl, _, _, _, _, rfl, rfl, hxs, atI_nat (j := 1) rfl, dk, .ref p2, rfl, ?_, p2, _, dx2, _, _, rfl, hp2, T.c_Function, T.n_Function_arguments, rfl, ?_⟩
              · have e := DGet.k (k := Sum.inr g) hdk7
                rw [tk.2, hlook] at e
                exact e
              · refine ⟨_, rfl, _, _, _, _, rfl, rfl, hxs, atI_nat (j := 2) rfl, _, _, rfl, .inr ⟨_, hys, rfl⟩, rfl, false, ?_, iteF ⟨_, _, _, rfl, s7⟩⟩
                rw [hgm, Paired.len hks]
                simp
          · rintro σ H7 ⟨v3, v5, v6, rfl, s7⟩
            exact ⟨_, _, _, _, rfl, ((s3.trans s4).trans s5).trans (s6.trans s7)⟩
    · rintro σ H3 ⟨v3, v4, v5, v6, rfl, s3⟩
      exact q _ (s12.trans s3)
end
end K80
namespace K80
open PySem PySem.Spec PyProof.Rows L2
section
variable {K : PySem.W.Frag} {H H' : Hp}
theorem CellAt.but {p C dx : Addr} (b : But p H H') (h : H p = some (.ins C dx [])) {q : Str × Str} {v : V} (c : CellAt K H q v) : CellAt K H' q v := by
  obtain ⟨r, d, e, hr⟩ := c
  refine ⟨r, d, e, b _ _ hr fun z => ?_⟩
  subst z
  rw [h] at hr
  cases hr
theorem FnAt.but {p C dx : Addr} (b : But p H H') (h : H p = some (.ins C dx [])) {f : Fd} {v : V} (c : FnAt K H f v) : FnAt K H' f v := by
  obtain ⟨r, d, lp, wp, x, ws, e, hr, ⟨dl, hh, hl⟩, ht, hw, hws⟩ := c
  have tu := But.tu b h
  refine ⟨r, d, lp, wp, x, ws, e, b _ _ hr fun z => ?_, ⟨dl, hh, b _ _ hl fun z => ?_⟩, ht.tu tu, tu.tup hw, WrAt.nm tu hws⟩
  · subst z
    rw [h] at hr
    cases hr
  · subst z
    rw [h] at hl
    cases hl
theorem SqL.but {p C dx a : Addr} {fs : List (Str × V)} {xs : List V} (b : But p H H') (h : H p = some (.ins C dx fs)) (q : SqL K H a xs) : SqL K H' a xs := by
  rcases q with (q | ⟨o, q⟩) | q
  · exact .inl (.inl (b _ _ q fun z => by subst z; rw [h] at q; cases q))
  · exact .inl (.inr ⟨o, b _ _ q fun z => by subst z; rw [h] at q; cases q⟩)
  · exact .inr q
end
section
variable {P : Program} {w : World} {K : PySem.W.Frag} {mg : Str → Option Value} {base : Heap}
/-! ### books.py: checked_functions, Book -/
def spChkFns (K : PySem.W.Frag) : Sp := fun vs H Q _ => ∃ (p cp : Addr) (xs fs : List V) (b : Bk), vs = [.ref p, .ref cp] ∧ b.Ok ∧ SqL K H p fs ∧ SqT K H cp xs ∧ Paired (CellAt K H) b.cells xs ∧ Paired (FnAt K H) b.fns fs ∧
  ∀ q H', Same H H' → SqT K H' q fs → Q (.ref q) H'
theorem nd_cells {b : Bk} (h : b.Ok) : (b.cells.map (·.1)).Nodup := (List.nodup_append.mp h.nd).1
theorem nd_fns {b : Bk} (h : b.Ok) : (b.fns.map (·.name)).Nodup := (List.nodup_append.mp h.nd).2.1
theorem c_checked_functions (T : Top K mg) : Cal P w K mg base 14 "checked_functions" (spChkFns K) := by
  refine mkCal T.d_checked_functions sc_checked_functions b_checked_functions (fun vs H Q E h => ?_) (fun f cdv A outer s H vs Q E hr h => ?_)
  · obtain ⟨p, cp, xs, fs, b, rfl, _⟩ := h
    rfl
  · obtain ⟨p, cp, xs, fs, b, rfl, hb, hp, hc, hx, hf, q⟩ := h
    have nd := sc_checked_functions.nd
    have hu := hu_of hr
    refine ⟨_, pss_cons (ps_if (PW.pt (pw_or (pt_not (pt_val (pisi2 T.f_isinstance T.f_list T.f_tuple (pv 0)))) (pw_or1 (pt_cmpR op_eq (plen T.f_len (pv 0)) pe_int (nomark _))))) pss_never pss_nil)
      (pss_cons (ps_setDc (i := 2) (own := [("cell", 3)]) (g := gName 3) (tt := tYes) (tk := tFld K (tVar 3) "name") (tv := tFld K (tVar 3) "kind") rfl nd rfl rfl (sw_trueD rfl rfl rfl (by decide +kernel))
        (pi_tup (pv 1)) (blkOk_by (N := n_checked_functions) (sc := defScope s_checked_functions) (by decide +kernel)) (fun _ _ _ _ _ => pg_name (i := 3) nd rfl (Or.inl rfl)) (fun _ _ _ _ _ => pts_nil)
        (fun _ _ _ _ _ => pe_fld (pv 3) rfl) (fun _ _ _ _ _ => pe_fld (pv 3) rfl))
      (pss_cons (ps_set (i := 4) nd rfl (Or.inl rfl) pe_dnewK)
      (pss_cons (ps_for PassesOwn.never rfl (pi_enum rfl T.f_enumerate (pa_cons (pv 0) pa_nil)) (pg_tup rfl (pgs_cons (pg_name (i := 5) nd rfl (Or.inl rfl)) (pgs_cons (pg_name (i := 6) nd rfl (Or.inl rfl)) pgs_nil)))
        (pss_cons (ps_if (PW.pt (pw_or (pt_not (pt_val (pisO T.f_isinstance T.g_Function (pv 6)))) (pw_or1 (pt_not (pt_val (cc (c_fits T) hr (pa_cons (pv 6) (pa_cons (pv 2) (pa_cons (pv 4) pa_nil))))))))) pss_never pss_nil)
        (pss_one (ps_dput hu (pv 4) (pe_fld (pv 6) rfl) (pv 6) rfl))))
      (pss_cons (ps_if (pt_cmpR op_gt (plen T.f_len (pv 0)) (ki T.i_MOST_FUNCTIONS) (nomark _)) pss_never pss_nil)
      (pss_one (ps_ret (pe_callTy call_tuple_of rfl T.f_tuple boot_tuple (pa_cons (pv 0) pa_nil)))))))), ?_⟩
    have hlx := Paired.len hx
    have hlf := Paired.len hf
    have b1 := hb.few
    have b2 := hb.most
    have hne : fs.length ≠ 0 := by
      have := hb.some_
      intro z
      rw [← hlf] at z
      exact this (List.eq_nil_of_length_eq_zero z)
    refine ⟨_, rfl, (by show 2 ≤ sizeLine; decide), fun tp htp => isi2 (.inl ((Same.upd htp).seq hp)) upd_same ⟨true, rfl, iteF ?_⟩⟩
    have s0 : Same H (upd H tp (.tup [.ty "list", .ty "tuple"])) := Same.upd htp
    refine ⟨_, rfl, _, fs.length, rfl, .inl ⟨fs, s0.seq hp, rfl⟩, rfl, false, congrArg V.bl (decide_eq_false (by intro z; exact hne (by have := V.int.inj z; omega))), iteF ?_⟩
    refine ⟨_, rfl, cp, rfl, ⟨xs, (NL.of s0).tup hc⟩, fun D hD => ?_⟩
    refine dc_same (walk_tup (xs := xs)) (by omega) hD (fun i kvs => Tab kvs ((b.cells.take i).map fun q => (q.1, V.str q.2))) (fun _ s1 => (NL.of (s0.trans s1)).tup hc) Tab.nil
      (fun i kvs h => by have := h.1; rw [List.length_map, List.length_take] at this; omega) ?_ ?_
    · rintro i x H1 H2 kvs QN QP hi s1 tb ⟨rfl, hxi⟩ kN kP
      obtain ⟨c, hci, cq, dx, rfl, hcq⟩ := Paired.get' hx hxi
      have h1 := s1 _ _ (s0 _ _ hcq)
      refine ⟨rfl, yes_if ?_⟩
      refine ⟨_, rfl, cq, _, dx, _, _, rfl, h1, T.c_Cell, T.n_Cell_name, rfl, _, rfl, cq, _, dx, _, _, rfl, h1, T.c_Cell, T.n_Cell_kind, rfl, kP (Sum.inr c.1) _ _ (Same.refl _) ?_⟩
      rw [List.take_succ, hci, Option.toList_some, List.map_append]
      refine tb.put ?_
      rw [List.map_map]
      exact nodup_take (nd_cells hb) hci
    intro H1 kc s1 hkc tc
    have ec : b.cells.take xs.length = b.cells := List.take_of_length_le (by omega)
    rw [ec] at tc
    have s01 := s0.trans s1
    intro d hd
    have hcd : D ≠ d := ne_of_none hkc hd
    have s2 : Same H1 (upd H1 d (.dK [])) := Same.upd hd
    refine ⟨_, rfl, p, fs, rfl, (s01.trans s2).seq hp, ?_⟩
    refine for_it walk_enum (fun i σ H' => ∃ v3 v5 v6 kvs kn, σ = [some (.ref p), some (.ref cp), some (.ref D), v3, some (.ref d), v5, v6] ∧ Same H1 H' ∧ H' d = some (.dK kvs) ∧ Tab kvs kn ∧ Kn K H (b.fns.take i) kn)
      ⟨_, _, _, [], [], rfl, s2, upd_same, Tab.nil, .nil⟩ (fun i σ H' _ ⟨_, _, _, _, _, _, s, _⟩ => (s01.trans s).seq hp) ?_ ?_
    · rintro i x σ H2 H3 hi ⟨v3, v5, v6, kvs, kn, rfl, s3, h2, tb, hkn⟩ ⟨t, x1, x2, rfl, ht, rfl, hx1, hx2⟩
      obtain ⟨fd, hfi, hfx⟩ := Paired.get' hf hx2
      have s4 : Same H2 (upd H2 t (.tup [x1, x2])) := Same.upd ht
      have h4 := (s01.trans s3).trans s4
      have hfx4 := hfx.nl (NL.of h4)
      have hfx4' := hfx4
      obtain ⟨fp, dx, lp, wp, xr, ws, rfl, hfp, hrest⟩ := hfx4'
      refine ⟨t, _, rfl, SqT.of upd_same, rfl, _, _, rfl, _, _, rfl, rfl, ?_⟩
      refine ⟨_, rfl, isiO T.isF hfp ⟨true, rfl, iteF ?_⟩⟩
      have hdt : d ≠ t := ne_of_none h2 ht
      have hfn : fd.name ∉ (b.fns.take i).map (·.name) := nodup_take (nd_fns hb) hfi
      have hfc : fd.name ∉ b.cells.map (·.1) := fun z => (List.nodup_append.mp hb.nd).2.2 _ z _ (List.mem_map.mpr ⟨fd, List.mem_of_getElem? hfi, rfl⟩) rfl
      have hd4 : upd H2 t (.tup [x1, .ref fp]) d = some (.dK kvs) := by rw [upd_ne hdt]; exact h2
      refine ⟨_, rfl, _, rfl, _, rfl, fp, D, d, fd, b.cells, kc, b.fns.take i, kn, kvs, rfl, hfx4, hb.fns i fd hfi, s4 _ _ (s3 _ _ hkc), tc, nd_cells hb, hd4, tb, hkn.nl (NL.of h4),
        List.Nodup.sublist (List.Sublist.map _ (List.take_sublist _ _)) (nd_fns hb), hfc, hfn, fun H5 s5 => ⟨true, rfl, iteF ?_⟩⟩
      have hn : fd.name ∉ kn.map (·.1) := by rw [hkn.names]; exact hfn
      refine ⟨_, rfl, _, rfl, _, rfl, fp, _, dx, _, _, rfl, s5 _ _ hfp, T.c_Function, T.n_Function_name, rfl, d, _, rfl, DPut.k (k := Sum.inr fd.name) (s5 _ _ hd4) ?_, ?_⟩
      · have e1 := tb.1
        have e2 := Paired.len hkn
        rw [List.length_take] at e2
        rw [sizeLine_eq]
        omega
      · refine ⟨_, _, _, _, _, rfl, Same.put ((s3.trans s4).trans s5) hd, upd_same, tb.put hn, ?_⟩
        rw [List.take_succ, hfi, Option.toList_some]
        exact Paired.snoc ⟨rfl, hfx⟩ hkn
    · rintro σ H2 ⟨v3, v5, v6, kvs, kn, rfl, s3, h2, tb, hkn⟩
      have s03 := s01.trans s3
      refine ⟨_, rfl, _, fs.length, rfl, .inl ⟨fs, s03.seq hp, rfl⟩, _, _, rfl, rfl, false, congrArg V.bl (decide_eq_false (by omega)), iteF ?_⟩
      exact ⟨_, rfl, p, fs, rfl, .inl ⟨s03.seq hp, fun l hl => q l _ (s03.trans (Same.upd hl)) (SqT.of upd_same)⟩⟩
def spBookI (K : PySem.W.Frag) : Sp := fun vs H Q _ => ∃ (p dx a l : Addr) (xs fs : List V) (b : Bk), vs = [.ref p, .ref a, .ref l] ∧ H p = some (.ins (He.ga K "Book") dx []) ∧ b.Ok ∧ SqL K H a xs ∧ SqL K H l fs ∧ Paired (CellAt K H) b.cells xs ∧ Paired (FnAt K H) b.fns fs ∧
  ∀ H', BookAt K H' p b → But p H H' → Q .non H'
theorem c_Book (T : Top K mg) : Mak P w K mg base 15 "Book" (He.ga K "Book") (spBookI K) := by
  obtain ⟨fd, F⟩ := T.d_Book_init
  refine mkMak T.k_Book T.g_Book F sc_Book_init b_Book_init (fun vs H Q E h => ?_) (fun f cdv A outer s H vs Q E hr h => ?_)
  · obtain ⟨p, dx, a, l, xs, fs, b, rfl, _⟩ := h
    rfl
  · obtain ⟨p, dx, a, l, xs, fs, b, rfl, hp, hb, ha, hl, hx, hf, q⟩ := h
    refine ⟨_, pss_cons (ps_fld (pv 0) (cc (c_checked_cells T) hr (pa_cons (pv 1) pa_nil)) rfl) (pss_one (ps_fld (pv 0) (cc (c_checked_functions T) hr (pa_cons (pv 2) (pa_cons (pe_fld (pv 0) rfl) pa_nil))) rfl)), ?_⟩
    refine ⟨_, rfl, a, xs, b.cells, rfl, ha, hx, hb.few, nd_cells hb, fun cr H1 s1 hcr => ?_⟩
    have h1 := s1 _ _ hp
    refine ⟨_, rfl, p, _, dx, [], rfl, h1, T.c_Book, T.n_Book_cell_row, (by show 0 < 1000; decide), ?_⟩
    have b2 : But p H (upd H1 p (.ins (He.ga K "Book") dx [("cell_row", .ref cr)])) := (But.of s1).trans But.upd
    have t2 : SqT K (upd H1 p (.ins (He.ga K "Book") dx [("cell_row", .ref cr)])) cr xs := (But.tu But.upd h1).tup hcr
    refine ⟨_, rfl, _, rfl, p, _, dx, _, _, rfl, upd_same, T.c_Book, T.n_Book_cell_row, rfl, ?_⟩
    refine ⟨l, cr, xs, fs, b, rfl, hb, SqL.but b2 hp hl, t2, Paired.mapP hx fun _ _ => CellAt.but b2 hp, Paired.mapP hf fun _ _ => FnAt.but b2 hp, fun rw H3 s3 hrw => ?_⟩
    have h3 := s3 _ _ upd_same
    refine ⟨_, rfl, p, _, dx, _, rfl, h3, T.c_Book, T.n_Book_row, (by show 1 < 1000; decide), ?_⟩
    have b4 : But p H (upd H3 p (.ins (He.ga K "Book") dx [("cell_row", .ref cr), ("row", .ref rw)])) := (b2.trans (But.of s3)).trans But.upd
    refine q _ ⟨dx, cr, rw, xs, fs, upd_same, ?_, Paired.mapP hx fun _ _ => CellAt.but b4 hp, ?_, Paired.mapP hf fun _ _ => FnAt.but b4 hp⟩ b4
    · exact (But.tu ((But.of s3).trans But.upd) upd_same).tup t2
    · exact (But.tu But.upd h3).tup hrw
def spAllCells (K : PySem.W.Frag) : Sp := fun vs H Q _ => ∃ (p : Addr) (b : Bk), vs = [.ref p] ∧ BookAt K H p b ∧ ∀ l xs H', Same H H' → H' l = some (.lst xs) → Paired (CellAt K H') b.cells xs → Q (.ref l) H'
theorem c_all_cells (T : Top K mg) : Met P w K mg base 1 (He.ga K "Book") "all_cells" (spAllCells K) := by
  obtain ⟨fd, F⟩ := T.d_Book_all_cells
  refine mkMet T.c_Book T.m_Book_all_cells F sc_Book_all_cells b_Book_all_cells (fun vs H Q E h => ?_) (fun f cdv A outer s H vs Q E hr h => ?_)
  · obtain ⟨p, b, rfl, _⟩ := h
    rfl
  · obtain ⟨p, b, rfl, ⟨dx, cr, rw, cs, fs, hp, hcr, hcs, hrw, hfs⟩, q⟩ := h
    refine ⟨_, pss_one (ps_ret (pe_callTy call_list_of rfl T.f_list boot_list (pa_cons (pe_fld (pv 0) rfl) pa_nil))), ?_⟩
    refine ⟨_, rfl, p, _, dx, _, _, rfl, hp, T.c_Book, T.n_Book_cell_row, rfl, cr, cs, rfl, .inr hcr, fun l hl => ?_⟩
    exact q l cs _ (Same.upd hl) upd_same (Paired.mapP hcs fun _ _ => CellAt.nl (NL.of (Same.upd hl)))
def spNames (K : PySem.W.Frag) : Sp := fun vs H Q _ => ∃ (p : Addr) (b : Bk), vs = [.ref p] ∧ b.fns.length ≤ 1000 ∧ BookAt K H p b ∧ ∀ l H', Same H H' → H l = none → H' l = some (.lst (b.fns.map fun f => V.str f.name)) → Q (.ref l) H'
theorem c_names (T : Top K mg) : Met P w K mg base 1 (He.ga K "Book") "names" (spNames K) := by
  obtain ⟨fd, F⟩ := T.d_Book_names
  refine mkMet T.c_Book T.m_Book_names F sc_Book_names b_Book_names (fun vs H Q E h => ?_) (fun f cdv A outer s H vs Q E hr h => ?_)
  · obtain ⟨p, b, rfl, _⟩ := h
    rfl
  · obtain ⟨p, b, rfl, hlen, ⟨dx, cr, rw, cs, fs, hp, hcr, hcs, hrw, hfs⟩, q⟩ := h
    have nd := sc_Book_names.nd
    have hl := Paired.len hfs
    refine ⟨_, pss_one (ps_ret (plc n_Book_names (defScope s_Book_names) 1 nd (pi_tup (pe_fld (pv 0) rfl)) (te := tFld K (tVar 1) "name") (fun _ _ _ _ _ => pe_fld (pv 1) rfl))), ?_⟩
    refine ⟨_, rfl, p, _, dx, _, _, rfl, hp, T.c_Book, T.n_Book_row, rfl, rw, rfl, ⟨_, hrw⟩, fun D hD => ?_⟩
    refine lc_same (walk_tup (xs := fs)) (by omega) hD (fun j y _ => ∃ f, b.fns[j]? = some f ∧ y = .str f.name) (fun _ s1 => (NL.of s1).tup hrw) (fun _ _ _ _ _ r => r) ?_ ?_
    · rintro i y H1 H2 Qk hi s1 ⟨rfl, hy⟩ kk
      obtain ⟨f, hf, r, d, lp, wp, x, ws, rfl, hr2, _⟩ := Paired.get' hfs hy
      exact ⟨rfl, _, rfl, r, _, d, _, _, rfl, s1 _ _ hr2, T.c_Function, T.n_Function_name, rfl, kk _ _ (Same.refl _) ⟨f, hf, rfl⟩⟩
    · intro H1 acc s1 a
      have e : acc = b.fns.map fun f => V.str f.name := by
        apply List.ext_getElem?
        intro j
        rw [List.getElem?_map]
        by_cases hj : j < acc.length
        · obtain ⟨f, hf, ey⟩ := a.2.2 j _ (List.getElem?_eq_getElem hj)
          rw [List.getElem?_eq_getElem hj, hf, ey]
          rfl
        · have := a.2.1
          rw [List.getElem?_eq_none (by omega), List.getElem?_eq_none (by omega)]
          rfl
      exact q D H1 s1 hD (by rw [a.1, e])
end
end K80
namespace K80
open PySem PySem.Spec PyProof.Rows L2
/-! ### == of tuples whose common items are equal: their lengths decide -/
section
variable {prog : Program} {w : World} {A : Around} {R : Result → Shared → Prop}
/-- the pairs that the loop walks -/
theorem zip_at {us vs : Array Value} {i : Nat} {q : Value × Value} {rest : List (Value × Value)} (e : q :: rest = (us.toList.zip vs.toList).drop i) : ∃ (h1 : i < us.size) (h2 : i < vs.size), q = (us[i], vs[i]) ∧ rest = (us.toList.zip vs.toList).drop (i + 1) := by
  have hi : i < (us.toList.zip vs.toList).length := by
    apply Decidable.byContradiction
    intro n
    rw [List.drop_of_length_le (by omega)] at e
    cases e
  have hm := hi
  rw [List.length_zip, Array.length_toList, Array.length_toList] at hm
  rw [List.drop_eq_getElem_cons hi] at e
  injection e with e1 e2
  exact ⟨by omega, by omega, by rw [e1, List.getElem_zip]; simp, e2⟩
theorem tuple_eqL (l b : Addr) (us vs : Array Value) (n n2 : Nat) (dd dd2 : Option Addr) (sl sl2 : Array (Option Value)) (I : Nat → Shared → Prop)
    (turn : ∀ i (h1 : i < us.size) (h2 : i < vs.size) s, I i s → wpAny (model prog w) A.in1 (eqBool us[i] vs[i]) (fun r s' => r = true ∧ I (i + 1) s') (fun e s' => R (.error e) s') s)
    (fin : ∀ i s, I i s → R (.ok (.ret (.bool (us.size == vs.size)))) s) {s : Shared} (ha : s.heap.get? l = some { cls := .type "tuple", dict := dd, data := .seq us n, slots := sl }) (hb : s.heap.get? b = some { cls := .type "tuple", dict := dd2, data := .seq vs n2, slots := sl2 }) (h : I 0 s) :
    wpAny (model prog w) A.in1 (Builtin.«tuple.__eq__» ⟨[.ref l, .ref b], []⟩) (GQ.FinOf prog w A R) (fun e s' => R (.error e) s') s := by
  have sub := AutoSeq1.sub_tuple_tuple
  have start := h
  obtain ⟨hp, g, d, tk, os⟩ := s
  wp_walk using wpAny_loadPart' ha, wpAny_loadPart' hb, wpAny_forIn_list _ (fun left st s' => st.1 = none ∧ ∃ i, left = (us.toList.zip vs.toList).drop i ∧ I i s') _
  case turn =>
    rintro q left st s' ⟨none_, i, e, hI⟩
    obtain ⟨h1, h2, rfl, e2⟩ := zip_at e
    refine wpAny_bind (wpAny_mono (turn i h1 h2 s' hI) (fun r s2 z => ?_) fun _ _ x => x)
    obtain ⟨rfl, z⟩ := z
    wp_walk
    exact ⟨rfl, i + 1, e2, z⟩
  case fin =>
    rintro ⟨b1, b2⟩ s' ⟨none_, i, e, hI⟩
    have none_ : b1 = none := none_
    subst none_
    have last := fin i s' hI
    wp_walk
    simpa [Builtin.Tuple.tupleCompareSizes] using last
  case h => exact ⟨rfl, 0, rfl, start⟩
end
section
variable {X : Cx} {n : Nat} {D : Eqv}
def rTupL (K : PySem.W.Frag) (D : Eqv) : R2 := fun x y H Q => ∃ a b xs ys, x = .ref a ∧ y = .ref b ∧ SqT K H a xs ∧ SqT K H b ys ∧ (∀ (i : Nat) x y, xs[i]? = some x → ys[i]? = some y → D x y H) ∧ ∀ H', Ext H H' → Q (.bl (decide (xs.length = ys.length))) H'
/-- a turn: that of the library, asked of the items up to here -/
theorem turnL (hD : Mon D) (h : EqG X n D) {A : Around} (sb : Sub X (n + 1) A) {pins : List (Addr × Obj)} {σ : L2.St} {H : Hp} {xs ys : List V} {its its2 : List Value} (p : ∀ (i : Nat) x y, xs[i]? = some x → ys[i]? = some y → D x y H) (r : Vals xs its) (r2 : Vals ys its2)
    (i : Nat) (h1 : i < its.toArray.size) (h2 : i < its2.toArray.size) (s' : Shared) (l : LoopI X pins σ H s') :
    wpAny (model X.prog X.w) A.in1 (eqBool its.toArray[i] its2.toArray[i]) (fun b s2 => b = true ∧ LoopI X pins σ H s2) X.xe s' := by
  have la : i < its.length := by rw [List.size_toArray] at h1; exact h1
  have lb : i < its2.length := by rw [List.size_toArray] at h2; exact h2
  have lx := r.length
  have ly := r2.length
  have pp : Prs D (xs.take (i + 1)) (ys.take (i + 1)) H := ⟨by rw [List.length_take, List.length_take]; omega, fun j x y e1 e2 => by
    rw [List.getElem?_take] at e1 e2
    by_cases hj : j < i + 1
    · rw [if_pos hj] at e1 e2
      exact p j x y e1 e2
    · rw [if_neg hj] at e1
      cases e1⟩
  have ta : i < (its.take (i + 1)).toArray.size := by rw [List.size_toArray, List.length_take]; omega
  have tb : i < (its2.take (i + 1)).toArray.size := by rw [List.size_toArray, List.length_take]; omega
  have g := turnG hD h sb pp (r.take (i + 1)) (r2.take (i + 1)) i ta tb s' l
  have ea : (its.take (i + 1)).toArray[i] = its.toArray[i] := by simp
  have eb : (its2.take (i + 1)).toArray[i] = its2.toArray[i] := by simp
  rw [ea, eb] at g
  exact g
theorem op_tupL (hD : Mon D) (h : EqG X n D) {j : Nat} (hr : Room j X.A) (hn : n + 1 ≤ j := by decide) : OpR X (compareOp .Eq) (rTupL X.K D) := by
  intro pins s σ H x y v u Q I rx ry hq
  obtain ⟨a, b, xs, ys, rfl, rfl, ha, hb, p, q⟩ := hq
  cases rx
  cases ry
  have hr := hr.mono hn
  obtain ⟨its, r, ⟨⟨cls, dd, data, sl⟩, ho, hc, m, hd⟩, z⟩ := I.tuple ha
  obtain ⟨its2, r2, ⟨⟨cls2, dd2, data2, sl2⟩, ho2, hc2, m2, hd2⟩, z2⟩ := I.tuple hb
  simp only at hc hd hc2 hd2
  subst hc hd hc2 hd2
  show wpAny (model X.prog X.w) X.A (richCompare .Eq (.ref a) (.ref b)) (EP X pins σ Q) X.xe s
  have sb : Sub X (n + 1) X.A := ⟨hr, rfl⟩
  refine wpAny_richCompare_same_room (op := .Eq) ⟨_, ho, rfl⟩ ⟨_, ho2, rfl⟩ F.slot_tuple_eq (GQ.call_here F.slot_tuple_eq ⟨_, ho, rfl⟩ F.entry_tuple_eq (F.args_tuple_eq_2 _ _) ?_) hr.units0
  refine tuple_eqL (R := wants (fun v s' => v ≠ .notImplemented ∧ EP X pins σ Q v s') X.xe) a b its.toArray its2.toArray m m2 dd dd2 sl sl2 (fun _ s' => LoopI X pins σ H s') (fun i h1 h2 s' q => turnL hD h sb p r r2 i h1 h2 s' q) (fun i s' l => ⟨(fun x => nomatch x), ?_⟩) ho ho2 ⟨H, I, Ext.rfl'⟩
  obtain ⟨H1, I1, e1⟩ := l
  have e : (its.toArray.size == its2.toArray.size) = decide (xs.length = ys.length) := by
    rw [List.size_toArray, List.size_toArray, ← r.length, ← r2.length]
    by_cases hx : xs.length = ys.length <;> simp [hx]
  rw [e]
  exact ⟨.bl (decide (xs.length = ys.length)), H1, I1, rfl, q H1 e1⟩
/-! ### ==, != of own instances; o[i] by the class's own def -/
def rOwnE (C : Addr) (sp : Sp) (b : Bool) : R2 := fun x y H Q => ∃ p q dx dy fs gs, x = .ref p ∧ y = .ref q ∧ H p = some (.ins C dx fs) ∧ H q = some (.ins C dy gs) ∧ sp [.ref p, .ref q] H (fun v H' => ∃ k, v = .bl k ∧ Q (.bl (k == b)) H') E0
theorem op_ownE {k j : Nat} {C : Addr} {sp : Sp} (c : Met X.prog X.w X.K X.mg X.base k C "__eq__" sp) (hr : Room j X.A) (hk : k ≤ j := by decide) : OpR X (compareOp .Eq) (rOwnE C sp true) := by
  obtain ⟨f, fd, ps, hc, hm, F, hb⟩ := c.ex
  have hr := hr.mono hk
  intro pins s σ H x y v u Q I rx ry hq
  obtain ⟨p, q, dx, dy, fs, gs, rfl, rfl, hp, hq', hs⟩ := hq
  cases rx
  cases ry
  obtain ⟨mA, J, _⟩ := ins_get I.hok hp
  obtain ⟨mB, J', _⟩ := ins_get I.hok hq'
  obtain ⟨od, J, _⟩ := J.look
  obtain ⟨od', J', _⟩ := J'.look
  obtain ⟨m, hF⟩ := I.fr
  show wpAny (model X.prog X.w) X.A (richCompare .Eq (.ref p) (.ref q)) (EP X pins σ Q) X.xe s
  refine PySem.W.cmp_K (op := .Eq) (tb := .ref C) hr.units0 hF I.ok.mod.kin J J'.type (by simp [PySem.W.notFirst]) hm.at_ hm.fn ?_
  refine wpAny_mono (run_fn (us := [.ref p, .ref q]) (vs := [.ref p, .ref q]) (ds := []) (dvs := []) F hr hb .nil passZ I (.cons rfl (.cons rfl .nil)) hs) (fun w' s' z => ?_) fun _ _ x => x
  obtain ⟨z', H', I', rz, k', ez, qz⟩ := z
  subst ez
  cases rz
  refine ⟨.bl k', H', I', rfl, ?_⟩
  have e : (k' == true) = k' := by cases k' <;> rfl
  rw [e] at qz
  exact qz
def Own2 (h : Heap) (x C f : Addr) : Prop := h.OwnEqNoNe x C f "object" [.type "object"]
theorem neB_ok {K : PySem.W.Frag} {C f : Addr} (h : neB K C f = true) : ∃ nm q N bs hdct sn sub ab col dd k0 k1 k2 k3 k5 newId o es ep, K.lookup C = some (excClassObj nm q C N bs [.type "object"] hdct sn sub ab col dd k0 k1 k2 k3 k5 newId) ∧
    K.lookup N = some o ∧ o.data = .dict es ep ∧ StrKeys es ∧ nsFind es "__eq__" = some (.ref f) ∧ nsFind es "__ne__" = none := by
  unfold neB at h
  cases hl : K.lookup C with
  | none =>
    rw [hl] at h
    cases h
  | some o0 =>
    rw [hl] at h
    obtain ⟨oc, dd, dt, sl⟩ := o0
    cases oc with
    | type t =>
      cases dt with
      | cls cd =>
        obtain ⟨h0, g1⟩ := ba h
        obtain ⟨h1, g2⟩ := ba g1
        obtain ⟨h2, g3⟩ := ba g2
        obtain ⟨h3, g4⟩ := ba g3
        obtain ⟨h4, g5⟩ := ba g4
        clear h g1 g2 g3 g4
        have h0 := of_decide_eq_true h0
        have h1 := of_decide_eq_true h1
        subst h0
        have hsl : ∃ k0 k1 k2 k3 id k5, sl.toList = [k0, k1, k2, k3, some (Value.builtin id), k5] := by
          split at h4
          · rename_i k0 k1 k2 k3 id k5 hsl
            exact ⟨_, _, _, _, _, _, hsl⟩
          · cases h4
        obtain ⟨k0, k1, k2, k3, id, k5, hsl⟩ := hsl
        cases hn : K.lookup cd.ns with
        | none =>
          rw [hn] at g5
          cases g5
        | some o1 =>
          rw [hn] at g5
          obtain ⟨oc, od, dt, osl⟩ := o1
          cases dt with
          | dict es ep =>
            obtain ⟨h5, g6⟩ := ba g5
            obtain ⟨h6, h7⟩ := ba g6
            obtain ⟨nm, bs, mro, ns, q, hd, sn, sub, ab, col, hdel⟩ := cd
            simp only at h1 h2 hn
            subst h1
            have hdel' : hdel = false := by simpa using h2
            subst hdel'
            refine ⟨nm, q, ns, bs, hd, sn, sub, ab, col, dd, k0, k1, k2, k3, k5, id, _, es, ep, ?_, hn, rfl, ?_, of_decide_eq_true h6, of_decide_eq_true h7⟩
            · have : sl = #[k0, k1, k2, k3, some (.builtin id), k5] := by
                apply Array.toList_inj.mp
                rw [hsl]
              rw [this]
            · intro e he
              have := List.all_eq_true.mp h5 e (Array.mem_toList_iff.mpr he)
              split at this
              · rename_i n t hk
                exact ⟨n, t, hk⟩
              · cases this
          | _ => cases g5
      | _ => cases h
    | _ => cases dt <;> cases h
theorem op_ownN {k j : Nat} {C : Addr} {sp : Sp} (c : Met X.prog X.w X.K X.mg X.base k C "__eq__" sp) (hne : neB X.K C (He.ma X.K C "__eq__") = true) (hma : Meth X.K C "__eq__" (He.ma X.K C "__eq__")) (hr : Room j X.A) (hk : k + 1 ≤ j := by decide) : OpR X (compareOp .NotEq) (rOwnE C sp false) := by
  obtain ⟨f, fd, ps, hc, hm, F, hb⟩ := c.ex
  have ef : He.ma X.K C "__eq__" = f := by
    have := hma.at_.symm.trans hm.at_
    cases this
    rfl
  rw [ef] at hne
  have hr := hr.mono hk
  intro pins s σ H x y v u Q I rx ry hq
  obtain ⟨p, q, dx, dy, fs, gs, rfl, rfl, hp, hq', hs⟩ := hq
  cases rx
  cases ry
  obtain ⟨mA, J, _⟩ := ins_get I.hok hp
  obtain ⟨mB, J', _⟩ := ins_get I.hok hq'
  obtain ⟨nm, qn, N, bs, hdct, sn, sub, ab, col, dd, k0, k1, k2, k3, k5, newId, o, es, ep, hC, hN, hod, hst, he, hn⟩ := neB_ok hne
  have kin := I.kIn
  have hfn : ∃ of, s.heap.get? f = some of ∧ of.cls = .type "function" := by
    have h : ((X.K.lookup f).map (·.cls) == some (Value.type "function")) = true := hm.fn
    cases hl : X.K.lookup f with
    | none =>
      rw [hl] at h
      cases h
    | some o =>
      rw [hl] at h
      exact ⟨o, kin _ _ hl, Option.some.inj (beq_iff_eq.mp h)⟩
  obtain ⟨of, hf1, hf2⟩ := hfn
  have hOwn : s.heap.OwnEqNoNe p C f "object" [.type "object"] :=
    ⟨_, of, nm, qn, N, bs, hdct, sn, sub, ab, col, dd, k0, k1, k2, k3, k5, newId, nsFind es, _, J.obj, rfl, kin _ _ hC, ⟨o, es, ep, kin _ _ hN, hod, hst, fun _ => rfl⟩, he, hf1, hf2, PySem.F.cmp_object.mro, PySem.F.cmp_object.eq.lookup, hn⟩
  have I1 := I
  obtain ⟨hh, g, d, t, os⟩ := s
  refine compareOp_ne_ownEq PySem.F.cmp_object hOwn J'.obj rfl (by have := hr.units; omega) ?_
  have e0 := I1.env0.in1
  have hs' : sp ([V.ref p, V.ref q] ++ []) H (fun v H' => ∃ k, v = V.bl k ∧ Q (V.bl (k == false)) H') E0 := hs
  have R := F.raw hb (ds := []) (dvs := []) .nil
  refine wpAny_call (codeAny_mono (R X.A.in1 X.stack _ H [.ref p, .ref q] [.ref p, .ref q] _ _ hr.in1 e0 (.cons rfl (.cons rfl .nil)) hs') fun r s' hq => ?_)
  cases r with
  | error e => exact passZ (E := E0) pins σ H _ e s' I1 hq
  | ok fl =>
    cases fl with
    | ret w' =>
      obtain ⟨z, H', I', rz, k', ez, qz⟩ := I1.after hq
      subst ez
      cases rz
      have e : (k' == false) = !k' := by cases k' <;> rfl
      rw [e] at qz
      exact ⟨k', rfl, .bl (!k'), H', I', rfl, qz⟩
    | next => exact False.elim hq
    | brk => exact False.elim hq
    | cont => exact False.elim hq
/-- o[i], by the class's own def -/
def tOwnSub (C : Addr) (sp : Sp) (to ti : TE) : TE := fun σ H Q => to σ H fun x H1 => ti σ H1 fun y H2 => ∃ p dx fs, x = .ref p ∧ H2 p = some (.ins C dx fs) ∧ sp [x, y] H2 Q E0
theorem pe_own {k j : Nat} {C : Addr} {sp : Sp} {o i : Expr} {to ti : TE} {pos : Pos} (c : Met X.prog X.w X.K X.mg X.base k C "__getitem__" sp) (hgi : PySem.W.fnIn X.K (He.ma X.K C "__getitem__") = true) (hma : Meth X.K C "__getitem__" (He.ma X.K C "__getitem__")) (hr : Room j X.A) (ho : PE X o to) (hi : PE X i ti) (hk : k + 1 ≤ j := by decide)
    (hsl : ∀ x y, subscripted i true x y = runValue (.builtin "lifetime.subscript" ⟨[x, y], []⟩) := by intros; with_unfolding_all rfl) : PE X (.Subscript o i pos) (tOwnSub C sp to ti) := by
  obtain ⟨f, fd, ps, hc, hm, F, hb⟩ := c.ex
  have ef : He.ma X.K C "__getitem__" = f := by
    have := hma.at_.symm.trans hm.at_
    cases this
    rfl
  rw [ef] at hgi
  have hr := hr.mono hk
  refine ⟨fun pins s σ H Q I h => ?_⟩
  refine Subscript_ (binT ho hi I h fun v u s2 x y H2 I2 rx ry q => ?_)
  obtain ⟨p, dx, fs, rfl, hp, hs⟩ := q
  cases rx
  obtain ⟨mA, J, _⟩ := ins_get I2.hok hp
  obtain ⟨od, J, _⟩ := J.look
  obtain ⟨m, hF⟩ := I2.fr
  refine PySem.W.sub_K hF I2.ok.mod.kin J hm.at_ hgi hm.fn ?_ (hsl _ _)
  have e0 := I2.env0.in1
  have hs' : sp ([V.ref p, y] ++ []) H2 Q E0 := hs
  have R := F.raw hb (ds := []) (dvs := []) .nil
  refine wpAny_call (codeAny_mono (R X.A.in1 X.stack _ H2 [.ref p, u] [.ref p, y] _ _ hr.in1 e0 (.cons rfl (.cons ry .nil)) hs') fun r s' hq => ?_)
  cases r with
  | error e => exact passZ (E := E0) pins σ H2 _ e s' I2 hq
  | ok fl =>
    cases fl with
    | ret w' => exact I2.after hq
    | next => exact False.elim hq
    | brk => exact False.elim hq
    | cont => exact False.elim hq
end
end K80
namespace K80
open PySem PySem.Spec PyProof.Rows L2
theorem Met.eqG {X : Cx} {k : Nat} {C : Addr} {R : Addr → Addr → Hp → Prop} (c : Met X.prog X.w X.K X.mg X.base k C "__eq__" (spEq R)) : EqG X k (DIns C R) := by
  obtain ⟨f, fd, ps, hc, hm, F, hb⟩ := c.ex
  exact eqG_ins F hm.at_ hm.fn hb (passZ (E := E0))
section
variable {P : Program} {w : World} {K : PySem.W.Frag} {mg : Str → Option Value} {base : Heap}
theorem kind_ok {k : Str} (h : IsKind k) : PyData.strOk k = true := by
  rcases h with rfl | rfl | rfl <;> decide +kernel
def CellSame (K : PySem.W.Frag) (a b : Addr) (H : Hp) : Prop := ∃ q : Str × Str, Nm q.1 ∧ IsKind q.2 ∧ CellAt K H q (.ref a) ∧ CellAt K H q (.ref b)
theorem c_Cell_eq (T : Top K mg) : Met P w K mg base 1 (He.ga K "Cell") "__eq__" (spEq (CellSame K)) := by
  obtain ⟨fd, F⟩ := T.d_Cell_eq
  refine mkMet T.c_Cell T.m_Cell_eq F sc_Cell_eq b_Cell_eq (fun vs H Q E h => ?_) (fun f0 cdv A outer s H vs Q E hr h => ?_)
  · obtain ⟨a, b, rfl, _⟩ := h
    rfl
  · obtain ⟨a, b, rfl, ⟨c, hn, hk, ⟨a', dx, ea, ha⟩, ⟨b', dx2, eb, hb⟩⟩, q⟩ := h
    cases ea
    cases eb
    refine ⟨_, pss_one (ps_ret (pe_and (pisO T.f_isinstance T.g_Cell (pv 1)) (pe_one (pe_cmpR (op_eqD hr.units) (pe_tup (pa_cons (pe_fld (pv 0) rfl) (pa_cons (pe_fld (pv 0) rfl) pa_nil))) (pe_tup (pa_cons (pe_fld (pv 1) rfl) (pa_cons (pe_fld (pv 1) rfl) pa_nil))) (nomark _))))), ?_⟩
    have sh : SeqAt.shaped (.tuple [.str c.1, .str c.2]) = true := by
      unfold SeqAt.shaped
      simp [PyData.canLay0, PyData.canLayAll0, PyData.depth, PyData.depthAll, Nm.strOk hn, kind_ok hk]
    refine ⟨_, rfl, isiO T.isC hb ⟨true, rfl, iteT ?_⟩⟩
    refine ⟨_, rfl, a, _, dx, _, _, rfl, ha, T.c_Cell, T.n_Cell_name, rfl, _, rfl, a, _, dx, _, _, rfl, ha, T.c_Cell, T.n_Cell_kind, rfl, (by show 2 ≤ sizeLine; decide), fun t1 ht1 => ?_⟩
    have hb1 := Same.upd (o := .tup [.str c.1, .str c.2]) ht1 _ _ hb
    refine ⟨_, rfl, b, _, dx2, _, _, rfl, hb1, T.c_Cell, T.n_Cell_name, rfl, _, rfl, b, _, dx2, _, _, rfl, hb1, T.c_Cell, T.n_Cell_kind, rfl, (by show 2 ≤ sizeLine; decide), fun t2 ht2 => ?_⟩
    refine ⟨_, _, .tup (SqT.of (Same.upd ht2 _ _ upd_same)) (.cons (.str _) (.cons (.str _) .nil)), .tup (SqT.of upd_same) (.cons (.str _) (.cons (.str _) .nil)), sh, sh, ?_⟩
    rw [SeqAt.eqv_refl _ (SeqAt.canLay_of_shaped sh)]
    exact q _ ((Same.upd ht1).trans (Same.upd ht2))
theorem mon_cell : Mon (DIns (He.ga K "Cell") (CellSame K)) := mon_ins fun a b H H' e ⟨q, hn, hk, h1, h2⟩ => ⟨q, hn, hk, h1.nl (NL.of e), h2.nl (NL.of e)⟩
theorem mon_fn : Mon (DIns (He.ga K "Function") (FnSame K)) := mon_ins fun a b H H' e ⟨f, hf, h1, h2⟩ => ⟨f, hf, h1.nl (NL.of e), h2.nl (NL.of e)⟩
def spBookEq (K : PySem.W.Frag) : Sp := fun vs H Q _ => ∃ (p r : Addr) (b1 b2 : Bk), vs = [.ref p, .ref r] ∧ BookAt K H p b1 ∧ BookAt K H r b2 ∧ (∀ q ∈ b1.cells, Nm q.1 ∧ IsKind q.2) ∧ (∀ f ∈ b1.fns, f.Fm) ∧ b1.cells = b2.cells ∧
  (∀ (i : Nat) f g, b1.fns[i]? = some f → b2.fns[i]? = some g → f = g) ∧ ∀ H', Same H H' → Q (.bl (decide (b1.fns.length = b2.fns.length))) H'
theorem c_Book_eq (T : Top K mg) : Met P w K mg base 3 (He.ga K "Book") "__eq__" (spBookEq K) := by
  obtain ⟨fd, F⟩ := T.d_Book_eq
  refine mkMet T.c_Book T.m_Book_eq F sc_Book_eq b_Book_eq (fun vs H Q E h => ?_) (fun f0 cdv A outer s H vs Q E hr h => ?_)
  · obtain ⟨a, b, b1, b2, rfl, _⟩ := h
    rfl
  · obtain ⟨p, r, b1, b2, rfl, ⟨dx, cr, rw1, cs, fs, hp, hcr, hcs, hrw, hfs⟩, ⟨dx2, cr2, rw2, cs2, fs2, hp2, hcr2, hcs2, hrw2, hfs2⟩, hck, hfk, hce, hfe, q⟩ := h
    refine ⟨_, pss_one (ps_ret (pe_and (pisO T.f_isinstance T.g_Book (pv 1)) (pe_and (pe_cmpR (op_tupL mon_cell (Met.eqG (c_Cell_eq T)) hr) (pe_fld (pv 0) rfl) (pe_fld (pv 1) rfl) (nomark _))
      (pe_one (pe_cmpR (op_tupL mon_fn (Met.eqG (c_Function_eq T)) hr) (pe_fld (pv 0) rfl) (pe_fld (pv 1) rfl) (nomark _)))))), ?_⟩
    have l1 := Paired.len hcs
    have l2 := Paired.len hcs2
    have l3 := Paired.len hfs
    have l4 := Paired.len hfs2
    refine ⟨_, rfl, isiO T.isB hp2 ⟨true, rfl, iteT ?_⟩⟩
    refine ⟨_, rfl, p, _, dx, _, _, rfl, hp, T.c_Book, T.n_Book_cell_row, rfl, _, rfl, r, _, dx2, _, _, rfl, hp2, T.c_Book, T.n_Book_cell_row, rfl, cr, cr2, cs, cs2, rfl, rfl, hcr, hcr2, fun i x y e1 e2 => ?_, fun H1 s1 => ?_⟩
    · obtain ⟨c, hc, h1⟩ := Paired.get' hcs e1
      obtain ⟨c2, hc2, h2⟩ := Paired.get' hcs2 e2
      rw [hce] at hc
      have ec : c = c2 := Option.some.inj (hc.symm.trans hc2)
      subst ec
      have hmem := List.mem_of_getElem? hc
      rw [← hce] at hmem
      obtain ⟨k1, k2⟩ := hck c hmem
      have g1 := h1
      have g2 := h2
      obtain ⟨a, d1, rfl, z1⟩ := h1
      obtain ⟨b, d2, rfl, z2⟩ := h2
      exact ⟨a, b, d1, d2, _, _, rfl, rfl, z1, z2, c, k1, k2, g1, g2⟩
    · refine ⟨true, congrArg V.bl (decide_eq_true (by rw [← l1, ← l2, hce])), iteT ?_⟩
      have s1' : Same H H1 := s1
      refine ⟨_, rfl, p, _, dx, _, _, rfl, s1' _ _ hp, T.c_Book, T.n_Book_row, rfl, _, rfl, r, _, dx2, _, _, rfl, s1' _ _ hp2, T.c_Book, T.n_Book_row, rfl, rw1, rw2, fs, fs2, rfl, rfl, (NL.of s1').tup hrw, (NL.of s1').tup hrw2, fun i x y e1 e2 => ?_, fun H2 s2 => ?_⟩
      · obtain ⟨c, hc, h1⟩ := Paired.get' hfs e1
        obtain ⟨c2, hc2, h2⟩ := Paired.get' hfs2 e2
        have ec := hfe i c c2 hc hc2
        subst ec
        have g1 := h1.nl (NL.of s1')
        have g2 := h2.nl (NL.of s1')
        obtain ⟨a, d1, _, _, _, _, rfl, z1, _⟩ := h1
        obtain ⟨b, d2, _, _, _, _, rfl, z2, _⟩ := h2
        exact ⟨a, b, d1, d2, _, _, rfl, rfl, s1' _ _ z1, s1' _ _ z2, c, hfk c (List.mem_of_getElem? hc), g1, g2⟩
      · rw [← l3, ← l4]
        exact q H2 (s1'.trans s2)
def spBookGet (K : PySem.W.Frag) : Sp := fun vs H Q _ => ∃ (p : Addr) (n : Str) (b : Bk) (i : Nat) (f : Fd), vs = [.ref p, .str n] ∧ BookAt K H p b ∧ (b.fns.map (·.name)).Nodup ∧ b.fns[i]? = some f ∧ f.name = n ∧ ∀ v, FnAt K H f v → Q v H
theorem c_Book_getitem (T : Top K mg) : Met P w K mg base 1 (He.ga K "Book") "__getitem__" (spBookGet K) := by
  obtain ⟨fd, F⟩ := T.d_Book_getitem
  refine mkMet T.c_Book T.m_Book_getitem F sc_Book_getitem b_Book_getitem (fun vs H Q E h => ?_) (fun f0 cdv A outer s H vs Q E hr h => ?_)
  · obtain ⟨a, n, b, i, f, rfl, _⟩ := h
    rfl
  · obtain ⟨p, n, b, i, f, rfl, ⟨dx, cr, rw1, cs, fs, hp, hcr, hcs, hrw, hfs⟩, hnd, hf, hn, q⟩ := h
    have nd := sc_Book_getitem.nd
    refine ⟨_, pss_cons (ps_for PassesOwn.never rfl (pi_tup (pe_fld (pv 0) rfl)) (pg_name (i := 2) nd rfl (Or.inl rfl)) (pss_one (ps_if (PW.pt (pw_and (pt_val (pisi T.f_isinstance T.f_str boot_str (pv 1))) (pw_and1 (pt_cmpR op_eq (pe_fld (pv 2) rfl) (pv 1) (nomark _)))))
      (pss_one (ps_ret (pv 2))) pss_nil))) pss_never, ?_⟩
    have l3 := Paired.len hfs
    have hi : i < fs.length := by rw [← l3]; exact (List.getElem?_eq_some_iff.mp hf).1
    refine ⟨_, rfl, p, _, dx, _, _, rfl, hp, T.c_Book, T.n_Book_row, rfl, rw1, rfl, ⟨_, hrw⟩, ?_⟩
    refine for_tup (xs := fs) (fun j σ H' => ∃ v2, σ = [some (.ref p), some (.str n), v2] ∧ H' = H ∧ j ≤ i) ⟨none, rfl, rfl, Nat.zero_le _⟩ (fun j σ H' _ ⟨_, _, e, _⟩ => e ▸ hrw) ?_ ?_
    · rintro j x σ H' hx ⟨v2, rfl, rfl, hj⟩
      obtain ⟨g, hg, hgx⟩ := Paired.get' hfs hx
      have hgx' := hgx
      obtain ⟨a, d, lp, wp, xr, ws, rfl, ha, _⟩ := hgx
      refine ⟨_, rfl, isi (.base (.str _)) ⟨true, rfl, iteT ⟨_, rfl, a, _, d, _, _, rfl, ha, T.c_Function, T.n_Function_name, rfl, _, rfl, rfl, ?_⟩⟩⟩
      by_cases e : g.name = n
      · refine ⟨true, congrArg V.bl (decide_eq_true (by rw [e])), iteT ⟨_, rfl, ?_⟩⟩
        have h1 : (b.fns.map (·.name))[j]? = some n := by rw [List.getElem?_map, hg, ← e]; rfl
        have h2 : (b.fns.map (·.name))[i]? = some n := by rw [List.getElem?_map, hf, ← hn]; rfl
        have hl : j < (b.fns.map (·.name)).length := (List.getElem?_eq_some_iff.mp h1).1
        have ej : j = i := (List.getElem?_inj hl hnd).mp (h1.trans h2.symm)
        subst ej
        rw [hg] at hf
        cases hf
        exact q _ hgx'
      · refine ⟨false, congrArg V.bl (decide_eq_false fun z => e (V.str.inj z)), iteF ⟨_, rfl, rfl, ?_⟩⟩
        rcases Nat.lt_or_ge j i with h | h
        · exact h
        · have ej : j = i := by omega
          subst ej
          rw [hg] at hf
          cases hf
          exact absurd hn e
    · rintro σ H' ⟨v2, rfl, rfl, hj⟩
      omega
end
end K80
namespace K80
open PySem PySem.Spec PyProof.Rows L2
theorem acc_map {A : Type} {f : A → V} {l : List A} {acc : List V} (hl : acc.length = l.length) (h : ∀ (j : Nat) y, acc[j]? = some y → ∃ a, l[j]? = some a ∧ y = f a) : acc = l.map f := by
  apply List.ext_getElem?
  intro j
  rw [List.getElem?_map]
  by_cases hj : j < acc.length
  · obtain ⟨a, ha, ey⟩ := h j _ (List.getElem?_eq_getElem hj)
    rw [List.getElem?_eq_getElem hj, ha, ey]
    rfl
  · rw [List.getElem?_eq_none (by omega), List.getElem?_eq_none (by omega)]
    rfl
theorem Tm.size_kids (t : Tm) : ∀ k ∈ t.kids, k.size + 1 ≤ t.size := by
  cases t <;> simp [Tm.size, Tm.kids] <;> omega
theorem Tm.kids_len (t : Tm) : t.kids.length ≤ 3 := by
  cases t <;> simp [Tm.kids]
theorem Tm.head_len (t : Tm) : t.head.length ≤ 3 := by
  cases t <;> simp [Tm.head]
theorem Tm.node_hd {t : Tm} {k : Str} (h : t.sh = .node k) : t.head = [k] := by
  cases t <;> simp [Tm.sh] at h <;> subst h <;> rfl
theorem Tm.call_hd {t : Tm} {f : Str} (h : t.sh = .call f) : t.head = (["call", f, num t.kids.length] : List Str) := by
  cases t <;> simp [Tm.sh] at h <;> subst h <;> rfl
theorem wl_const {n : Nat} {ws : List Str} (h : ∀ w ∈ ws, w.length ≤ n) : wl ws ≤ (n + 1) * ws.length := by
  induction ws with
  | nil => simp [wl]
  | cons w r ih =>
    have h1 := ih fun x hx => h x (List.mem_cons_of_mem _ hx)
    have h2 := h w (List.mem_cons_self ..)
    rw [wl_cons, List.length_cons, Nat.mul_succ]
    omega
theorem Tm.parts_len {m : Nat} {t : Tm} (hm : m ≤ 2) (hw : t.wf m) (hs : t.size ≤ 30) : wl (t.head ++ t.kids.map Tm.text) ≤ 5000 := by
  rw [wl_app]
  have h1 : wl t.head ≤ 10 * t.head.length := wl_le fun w hw' => t.words_wd hm hw w (by rw [t.words_eq]; exact List.mem_append_left _ hw')
  have h2 := t.head_len
  have h3 : wl (t.kids.map Tm.text) ≤ (900 + 1) * (t.kids.map Tm.text).length := wl_const fun w hw' => by
    obtain ⟨k, hk, rfl⟩ := List.mem_map.mp hw'
    have := Tm.text_len hm (Tm.wf_kids hw k hk)
    have := t.size_kids k hk
    omega
  have h4 := t.kids_len
  rw [List.length_map] at h3
  omega
/-- how long the parts of a join are -/
theorem join_len {ys : List Str} {n : Nat} (h : wl ys ≤ n) (hn : n ≤ 16777216) : (ys.map (·.length)).sum + ys.length * (" " : Str).length ≤ 16777216 := by
  unfold wl at h
  rw [show (" " : Str).length = 1 from by decide +kernel]
  omega
/-- the words of a leaf, as they stand -/
def LeafW (x : V) (w : Str) : Prop := x = .str w ∨ ∃ n : Nat, n < 10 ∧ x = .int n ∧ w = num n
theorem Tm.leaf_words {t : Tm} {xs : List V} {m : Nat} (hm : m ≤ 2) (hw : t.wf m) (h : t.sh = .leaf xs) : Paired LeafW xs t.words := by
  cases t <;> simp [Tm.sh] at h <;> subst h
  · rename_i i
    have : i < m := hw
    exact .cons (.inl rfl) (.cons (.inr ⟨_, by omega, rfl, rfl⟩) .nil)
  · exact .cons (.inl rfl) (.cons (.inl rfl) .nil)
  · exact .cons (.inl rfl) .nil
/-- str(x) of a text or a figure -/
theorem call_strW {X : Cx} : CallR X (.type "str") (fun xs H Q => (∃ a, xs = [.str a] ∧ Q (.str a) H) ∨ ∃ i : Int, xs = [.int i] ∧ i.natAbs.log2 < 1920 ∧ Q (.str (toString i)) H) := CallR.or SkE.call_str_str call_str_int
theorem log_small {n : Nat} (h : n < 10) : ((n : Nat) : Int).natAbs.log2 < 1920 := by
  rw [Int.natAbs_natCast]
  exact Nat.lt_of_le_of_lt (Nat.log2_le_self n) (by omega)
/-- [1:] of a tuple -/
theorem cut1 {k : V} {vs : List V} : cutV (k :: vs) (some 1) none = vs := by
  unfold cutV
  rw [show HT.sIx (k :: vs).length 0 (some 1) = min 1 (k :: vs).length from HT.sIx_nat _ 0 1, List.length_cons, HT.sIx_none, show min 1 (vs.length + 1) = 1 by omega]
  simp
theorem not_whole {k : V} {vs : List V} {A : Prop} (z : HT.sIx (k :: vs).length 0 (some 1) = 0) : A := by
  have : HT.sIx (k :: vs).length 0 (some 1) = min 1 (k :: vs).length := HT.sIx_nat _ 0 1
  rw [this, List.length_cons] at z
  omega
section
variable {P : Program} {w : World} {K : PySem.W.Frag} {mg : Str → Option Value} {base : Heap}
/-! ### texts.py: write_term -/
def spWrTerm (K : PySem.W.Frag) (d : Nat) : Sp := fun vs H Q _ => ∃ (v : V) (t : Tm) (m : Nat), vs = [v] ∧ TV K H t v ∧ t.wf m ∧ m ≤ 2 ∧ t.depth ≤ d ∧ t.size ≤ 30 ∧ ∀ H', Same H H' → Q (.str t.text) H'
theorem c_write_term (T : Top K mg) : ∀ d : Nat, Cal P w K mg base (d + 1) "write_term" (spWrTerm K d)
  | 0 => by
    refine mkCal T.d_write_term sc_write_term b_write_term (fun vs H Q E h => ?_) (fun f cdv A outer s H vs Q E hr h => ?_)
    · obtain ⟨v, t, m, rfl, _⟩ := h
      rfl
    · obtain ⟨v, t, m, rfl, _, _, _, hd, _⟩ := h
      have := t.depth_pos
      omega
  | d + 1 => by
    have ih := c_write_term T d
    refine mkCal T.d_write_term sc_write_term b_write_term (fun vs H Q E h => ?_) (fun f cdv A outer s H vs Q E hr h => ?_)
    · obtain ⟨v, t, m, rfl, _⟩ := h
      rfl
    · obtain ⟨v, t, m, rfl, hv, hw, hm, hd, hsz, q⟩ := h
      have nd := sc_write_term.nd
      have hh : PE (cxOf CX0 P w K mg base n_write_term "write_term" (defScope s_write_term) f cdv A outer s H E).nox (.Name "term" default) (tVar 0) := pv 0
      refine ⟨_, pss_cons (ps_if (pt_not (pt_val (pisi T.f_isinstance T.f_tuple boot_tuple (pv 0)))) (pss_one (ps_ret (pe_callTy call_str_int rfl T.f_str boot_str (pa_cons (pv 0) pa_nil)))) pss_nil)
        (pss_cons (ps_if (pt_cmpR op_eq (pe_ix ix_tup (pv 0) pe_int (fun _ _ => rfl)) pe_str (nomark _))
          (pss_one (ps_ret (pe_join pe_str (pe_lst (pa_cons pe_str (pa_cons (pe_ix ix_tup (pv 0) pe_int (fun _ _ => rfl)) (pa_cons (pe_callTy call_str_int rfl T.f_str boot_str (pa_cons (plen T.f_len (pe_ix ix_tup (pv 0) pe_int (fun _ _ => rfl))) pa_nil))
            (StX.pa_star (plc n_write_term (defScope s_write_term) 1 nd (pi_tup (pe_ix ix_tup (pv 0) pe_int (fun _ _ => rfl))) (te := tCall (spWrTerm K d) [] E0 (tCons (tVar 1) tNil)) (fun _ _ _ _ _ => cc ih hr (pa_cons (pv 1) pa_nil) (Nat.le_refl _))) pa_nil)))))))) pss_nil)
        (pss_cons (ps_if (PW.pt (pw_or (pt_cmpR op_in_seq (pe_ix ix_tup (pv 0) pe_int (fun _ _ => rfl)) (kr T.g_PAIRS) rfl) (pw_or1 (pt_cmpR op_eq (pe_ix ix_tup (pv 0) pe_int (fun _ _ => rfl)) pe_str (nomark _)))))
          (pss_one (ps_ret (pe_join pe_str (pe_lst (pa_cons (pe_ix ix_tup (pv 0) pe_int (fun _ _ => rfl)) (StX.pa_star (plc n_write_term (defScope s_write_term) 1 nd (pi_tup (pe_slice sl_tup (pv 0) (po_some pe_int) po_none)) (te := tCall (spWrTerm K d) [] E0 (tCons (tVar 1) tNil)) (fun _ _ _ _ _ => cc ih hr (pa_cons (pv 1) pa_nil) (Nat.le_refl _))) pa_nil)))))) pss_nil)
        (pss_one (ps_ret (pe_join pe_str (plc n_write_term (defScope s_write_term) 1 nd (pi_tup (pv 0)) (te := tCB (fun xs H Q => (∃ a, xs = [.str a] ∧ Q (.str a) H) ∨ ∃ i : Int, xs = [.int i] ∧ i.natAbs.log2 < 1920 ∧ Q (.str (toString i)) H) (tCons (tVar 1) tNil))
          (fun _ _ _ _ _ => pe_callTy call_strW rfl T.f_str boot_str (pa_cons (pv 1) pa_nil)))))))), ?_⟩
      have hkids : ∀ (H0 : Hp), Same H H0 → ∀ (r : Addr) (vs : List V), SqT K H0 r vs → TVs K H t.kids vs → ∀ (σ : L2.St) (D : Addr), H0 D = none → (∀ x, ((wipe σ [1]).set 1 (some x))[1]? = some (some x)) → (∀ x, wipe ((wipe σ [1]).set 1 (some x)) [1] = wipe σ [1]) → ∀ (Qd : Hp → Prop),
          (∀ H1, Same H0 H1 → H1 D = some (.lst ((t.kids.map Tm.text).map V.str)) → Qd H1) → LcB (Itt K r) (gName 1) (tCall (spWrTerm K d) [] E0 (tCons (tVar 1) tNil)) [1] σ H0 D Qd := by
        intro H0 s0 r vs hr' hks σ D hD hz hz2 Qd hd'
        have hl := Paired.len hks
        have hk3 := t.kids_len
        refine lc_same (walk_tup (xs := vs)) (by omega) hD (fun j y _ => ∃ k, t.kids[j]? = some k ∧ y = .str k.text) (fun _ s1 => (NL.of s1).tup hr') (fun _ _ _ _ _ r => r) ?_ ?_
        · rintro i y H1 H2 Qk hi s1 ⟨rfl, hy⟩ kk
          obtain ⟨k, hk, hky⟩ := Paired.get' hks hy
          have hmem := List.mem_of_getElem? hk
          have := t.depth_eq k hmem
          have := t.size_kids k hmem
          exact ⟨hz2 y, y, hz y, y, k, m, rfl, hky.nl (NL.of (s0.trans s1)), Tm.wf_kids hw k hmem, hm, by omega, by omega, fun H4 s4 => kk _ _ s4 ⟨k, hk, rfl⟩⟩
        · intro H1 acc s1 a
          refine hd' H1 s1 ?_
          rw [a.1, List.map_map, acc_map (l := t.kids) (f := fun k => V.str k.text) (by rw [a.2.1, hl]) a.2.2]
          rfl
      cases hv.by_sh with
      | val n h1 h2 h3 =>
        subst h3
        have hn : n ≤ 2 := hw
        exact ⟨_, rfl, isi (.base (.int _)) ⟨false, rfl, iteT ⟨_, rfl, _, rfl, log_small (by omega), q H (Same.refl _)⟩⟩⟩
      | leaf xs h1 h2 hp =>
        rename_i a
        have hlw := Tm.leaf_words hm hw h1
        have hlen := Paired.len hlw
        obtain ⟨z, r, rfl, e1, e2, e3⟩ := leaf_head h1
        have h0 : atI (V.str z :: r) 0 = some (V.str z) := atI_nat (j := 0) rfl
        refine ⟨_, rfl, isi (tyT hp) ⟨true, rfl, iteF ⟨_, rfl, _, _, _, _, rfl, rfl, hp, h0, rfl, _, rfl, ?_⟩⟩⟩
        rw [e1]
        refine iteF ⟨_, rfl, _, _, _, _, rfl, rfl, hp, h0, _, _, rfl, .inr (T.pairs H), rfl, rfl, _, rfl, ?_⟩
        rw [if_neg Bool.false_ne_true, e3]
        refine iteF ⟨_, rfl, _, _, _, _, rfl, rfl, hp, h0, rfl, _, rfl, ?_⟩
        rw [e2]
        have hwl := t.words_len
        refine iteF ⟨⟨_, rfl⟩, _, rfl, a, rfl, ⟨_, hp⟩, fun D hD => ?_⟩
        refine lc_same (walk_tup (xs := V.str z :: r)) (by rw [hlen]; omega) hD (fun j y _ => ∃ k, t.words[j]? = some k ∧ y = .str k) (fun _ s1 => (NL.of s1).tup hp) (fun _ _ _ _ _ r => r) ?_ ?_
        · rintro i y H1 H2 Qk hi s1 ⟨rfl, hy⟩ kk
          obtain ⟨k, hk, hky⟩ := Paired.get hlw hy
          rcases hky with rfl | ⟨n, hn, rfl, rfl⟩
          · exact ⟨rfl, _, rfl, .inl ⟨k, rfl, kk _ _ (Same.refl _) ⟨k, hk, rfl⟩⟩⟩
          · exact ⟨rfl, _, rfl, .inr ⟨_, rfl, log_small hn, kk _ _ (Same.refl _) ⟨_, hk, rfl⟩⟩⟩
        · intro H1 acc s1 a1
          have e := acc_map (l := t.words) (f := V.str) (by rw [a1.2.1, hlen]) a1.2.2
          refine ⟨_, D, t.words, rfl, rfl, .inl (SqL.of (by rw [a1.1, e])), join_len (n := 1000) ?_ (by omega), q H1 s1⟩
          have := wl_le (t.words_wd hm hw)
          omega
      | node k h1 hp ks =>
        rename_i a vs
        have h0 : atI (V.str k :: vs) 0 = some (V.str k) := atI_nat (j := 0) rfl
        obtain ⟨e1, e2⟩ := node_head hw h1
        have body : ∀ (QQ : VK), (∀ H', Same H H' → QQ (.str t.text) H') → tM1 (fun x xs H Q => ∃ a p, ∃ ys : List Str, x = .str a ∧ xs = [.ref p] ∧ (SqL K H p (ys.map V.str) ∨ SqT K H p (ys.map V.str)) ∧ (ys.map (·.length)).sum + ys.length * a.length ≤ 16777216 ∧ Q (.str (Txt.join a ys)) H) (tC (.str " "))
            (tLst (tCons (tOp (rIxT K) (tVar 0) (tC (.int 0))) (StX.tStar K (tLc (iTup K (tSl (rSlT K) (tVar 0) (tPart (tC (.int 1))) tNoPart)) (gName 1) tYes (tCall (spWrTerm K d) [] E0 (tCons (tVar 1) tNil)) [1]) tNil))) [some (V.ref a), none] H QQ := by
          intro QQ qq
          refine ⟨⟨_, rfl⟩, _, rfl, _, _, _, _, rfl, rfl, hp, h0, _, rfl, 1, rfl, a, _, rfl, hp, fun z => not_whole z.1, fun p hn => ?_⟩
          rw [cut1]
          refine ⟨p, rfl, ⟨_, SqT.of upd_same⟩, fun D hD => ?_⟩
          refine hkids _ (Same.upd hn) p vs (SqT.of upd_same) ks _ D hD (fun _ => rfl) (fun _ => rfl) _ fun H1 s1 h1' => ?_
          refine ⟨D, _, rfl, .inr (SqL.of h1'), ?_, fun l hl => ?_⟩
          · have := t.kids_len
            simp
            rw [sizeLine_eq]
            omega
          · refine ⟨_, l, k :: t.kids.map Tm.text, rfl, rfl, .inl (SqL.of (by rw [upd_same]; simp)), join_len (n := 5000) ?_ (by omega), ?_⟩
            · have := Tm.parts_len hm hw hsz
              rw [Tm.node_hd h1] at this
              exact this
            · have e := t.text_eq
              rw [Tm.node_hd h1] at e
              have := qq (upd H1 l (.lst (V.str k :: ((t.kids.map Tm.text).map V.str ++ [])))) (((Same.upd hn).trans s1).trans (Same.upd hl))
              rw [e] at this
              exact this
        refine ⟨_, rfl, isi (tyT hp) ⟨true, rfl, iteF ⟨_, rfl, _, _, _, _, rfl, rfl, hp, h0, rfl, _, rfl, ?_⟩⟩⟩
        rw [e1]
        refine iteF ⟨_, rfl, _, _, _, _, rfl, rfl, hp, h0, _, _, rfl, .inr (T.pairs H), rfl, rfl, _, rfl, ?_⟩
        rw [if_neg Bool.false_ne_true]
        rcases e2 with e2 | ⟨e2, e3⟩
        · rw [e2]
          exact iteT (body _ q)
        · rw [e2]
          refine iteF ⟨_, rfl, _, _, _, _, rfl, rfl, hp, h0, rfl, _, rfl, ?_⟩
          rw [e3]
          exact iteT (body _ q)
      | call g h1 hp hq ks =>
        rename_i a b vs
        have h0 : atI [V.str "call", V.str g, V.ref b] 0 = some (V.str "call") := atI_nat (j := 0) rfl
        have h01 : atI [V.str "call", V.str g, V.ref b] 1 = some (V.str g) := atI_nat (j := 1) rfl
        have h2 : atI [V.str "call", V.str g, V.ref b] 2 = some (V.ref b) := atI_nat (j := 2) rfl
        have hl := Paired.len ks
        have hk3 := t.kids_len
        refine ⟨_, rfl, isi (tyT hp) ⟨true, rfl, iteF ⟨_, rfl, _, _, _, _, rfl, rfl, hp, h0, rfl, _, rfl, ?_⟩⟩⟩
        rw [decide_eq_true rfl]
        refine iteT ⟨⟨_, rfl⟩, _, rfl, _, _, _, _, rfl, rfl, hp, h01, _, rfl, _, _, _, _, rfl, rfl, hp, h2, _, _, rfl, .inr ⟨_, hq, rfl⟩, _, rfl, log_small (by omega), ?_⟩
        refine ⟨_, rfl, _, _, _, _, rfl, rfl, hp, h2, b, rfl, ⟨_, hq⟩, fun D hD => ?_⟩
        refine hkids _ (Same.refl _) b vs hq ks _ D hD (fun _ => rfl) (fun _ => rfl) _ fun H1 s1 h1' => ?_
        refine ⟨D, _, rfl, .inr (SqL.of h1'), ?_, fun l hl' => ?_⟩
        · simp
          rw [sizeLine_eq]
          omega
        · refine ⟨_, l, "call" :: g :: num vs.length :: t.kids.map Tm.text, rfl, rfl, .inl (SqL.of (by rw [upd_same]; simp [num])), join_len (n := 5000) ?_ (by omega), ?_⟩
          · have := Tm.parts_len hm hw hsz
            rw [Tm.call_hd h1, hl] at this
            exact this
          · have e := t.text_eq
            rw [Tm.call_hd h1, hl] at e
            have := q (upd H1 l (.lst (V.str "call" :: V.str g :: V.str (num vs.length) :: ((t.kids.map Tm.text).map V.str ++ [])))) (s1.trans (Same.upd hl'))
            rw [e] at this
            exact this
end
end K80
namespace K80
open PySem PySem.Spec PyProof.Rows L2
/-! ### written rows -/
theorem tl_empty : tl Str.empty = [] := by decide +kernel
theorem fs_fn (a b c d : Str) : Str.empty ++ "function " ++ a ++ " " ++ b ++ " " ++ c ++ " " ++ d = tx ["function", a, b, c, d] := by
  refine TL.ext_tl ?_
  have e : tl "function " = tl "function" ++ [32] := by decide +kernel
  simp [TL.tl_append, tl_tx, TL.joinL, tl_empty, e, tl_sp]
theorem fs_res (a : Str) : Str.empty ++ "result " ++ a = tx ["result", a] := by
  refine TL.ext_tl ?_
  have e : tl "result " = tl "result" ++ [32] := by decide +kernel
  simp [TL.tl_append, tl_tx, TL.joinL, tl_empty, e]
theorem fs_wr (a b : Str) : Str.empty ++ "write " ++ a ++ " " ++ b = tx ["write", a, b] := by
  refine TL.ext_tl ?_
  have e : tl "write " = tl "write" ++ [32] := by decide +kernel
  simp [TL.tl_append, tl_tx, TL.joinL, tl_empty, e, tl_sp]
theorem fs_cell (a b : Str) : Str.empty ++ "cell " ++ a ++ " " ++ b = tx ["cell", a, b] := by
  refine TL.ext_tl ?_
  have e : tl "cell " = tl "cell" ++ [32] := by decide +kernel
  simp [TL.tl_append, tl_tx, TL.joinL, tl_empty, e, tl_sp]
theorem tx_res (t : Tm) : tx ["result", t.text] = tx ("result" :: t.words) := by
  have := tx_head ["result"] [t.words] (fun w hw => by rw [List.mem_singleton.mp hw]; exact t.words_ne)
  unfold Tm.text
  simpa using this
theorem tx_wr (c : Str) (t : Tm) : tx ["write", c, t.text] = tx ("write" :: c :: t.words) := by
  have := tx_head ["write", c] [t.words] (fun w hw => by rw [List.mem_singleton.mp hw]; exact t.words_ne)
  unfold Tm.text
  simpa using this
theorem le_line {n : Nat} (h : n ≤ 10000) : n ≤ sizeLine := by rw [sizeLine_eq]; omega
theorem len_e : Str.empty.length = 0 := by decide +kernel
theorem len_sp : (" " : Str).length = 1 := by decide +kernel
theorem len_fn : ("function " : Str).length = 9 := by decide +kernel
theorem len_res : ("result " : Str).length = 7 := by decide +kernel
theorem len_wr : ("write " : Str).length = 6 := by decide +kernel
theorem len_cell : ("cell " : Str).length = 5 := by decide +kernel
theorem len_num {n : Nat} (h : n < 10) : (Str.ofString (toString ((n : Nat) : Int))).length = 1 := num_len h
theorem lab_len {l : Str} (h : IsLab l) : l.length ≤ 9 := by
  rcases h with rfl | rfl | rfl | rfl <;> decide +kernel
theorem kind_len {l : Str} (h : IsKind l) : l.length ≤ 9 := by
  rcases h with rfl | rfl | rfl <;> decide +kernel
/-- f'..' -/
def tJd (ts : List TE) : TE := fun σ H Q => tJs ts Str.empty σ H fun out H1 => Q (.str out) H1
theorem wd_lab {l : Str} (h : IsLab l) : Wd l := by
  rcases h with rfl | rfl | rfl | rfl <;> decide +kernel
theorem wd_kind {l : Str} (h : IsKind l) : Wd l := by
  rcases h with rfl | rfl | rfl <;> decide +kernel
/-- a row: of words, some, not too many -/
def RowOk (r : List Str) : Prop := r ≠ [] ∧ (∀ w ∈ r, Wd w) ∧ r.length ≤ 100
theorem Fd.rows_ok {f : Fd} (hf : f.Fm) : ∀ r ∈ f.rows, RowOk r := by
  intro r hr
  have b1 := hf.many
  have b2 := hf.cost
  unfold Fd.rows at hr
  rcases List.mem_cons.mp hr with rfl | hr
  · refine ⟨by simp, fun w hw => ?_, by simp⟩
    simp at hw
    rcases hw with rfl | rfl | rfl | rfl | rfl
    · decide +kernel
    · exact hf.name.wd
    · exact num_wd (by omega)
    · exact wd_lab hf.label
    · exact num_wd (by omega)
  rcases List.mem_cons.mp hr with rfl | hr
  · refine ⟨by simp, fun w hw => ?_, ?_⟩
    · rcases List.mem_cons.mp hw with rfl | hw
      · decide +kernel
      · exact f.result.words_wd b1 hf.wf w hw
    · have := f.result.words_len
      have := hf.size
      rw [List.length_cons]
      omega
  · obtain ⟨q, hq, rfl⟩ := List.mem_map.mp hr
    obtain ⟨k1, k2, k3, k4⟩ := hf.writes q hq
    refine ⟨by simp, fun w hw => ?_, ?_⟩
    · rcases List.mem_cons.mp hw with rfl | hw
      · decide +kernel
      · rcases List.mem_cons.mp hw with rfl | hw
        · exact k1.wd
        · exact q.2.words_wd b1 k2 w hw
    · have := q.2.words_len
      rw [List.length_cons, List.length_cons]
      omega
theorem Bk.rows_ok {b : Bk} (hb : b.Ok) : ∀ r ∈ b.rows, RowOk r := by
  intro r hr
  unfold Bk.rows at hr
  rcases List.mem_append.mp hr with hr | hr
  · obtain ⟨q, hq, rfl⟩ := List.mem_map.mp hr
    obtain ⟨k1, k2⟩ := hb.cells q hq
    refine ⟨by simp [cellRow], fun w hw => ?_, by simp [cellRow]⟩
    simp [cellRow] at hw
    rcases hw with rfl | rfl | rfl
    · decide +kernel
    · exact k1.wd
    · exact wd_kind k2
  · obtain ⟨l, hl, hr⟩ := List.mem_flatten.mp hr
    obtain ⟨f, hf, rfl⟩ := List.mem_map.mp hl
    obtain ⟨i, hi⟩ := List.getElem?_of_mem hf
    exact Fd.rows_ok (hb.fns i f hi).fm r hr
theorem rows_few {l : List Fd} (hl : ∀ g ∈ l, g.writes.length ≤ 1) : ((l.map Fd.rows).flatten).length ≤ 3 * l.length := by
  induction l with
  | nil => simp
  | cons g r ih =>
    have h1 := ih fun x hx => hl x (List.mem_cons_of_mem _ hx)
    have h2 := hl g (List.mem_cons_self ..)
    rw [List.map_cons, List.flatten_cons, List.length_append, List.length_cons]
    have h3 : g.rows.length = 2 + g.writes.length := by simp [Fd.rows]; omega
    omega
theorem Bk.rows_len {b : Bk} (hb : b.Ok) : b.rows.length ≤ 15 := by
  have h1 := hb.few
  have h2 := hb.most
  have h3 := rows_few (l := b.fns) fun g hg => by
    obtain ⟨j, hj⟩ := List.getElem?_of_mem hg
    exact (hb.fns j g hj).few
  unfold Bk.rows
  rw [List.length_append, List.length_map]
  omega
theorem row_len {r : List Str} (h : RowOk r) : (tx r).length ≤ 1000 := by
  have h1 := len_tx r
  have h2 := wl_le h.2.1
  have h3 := h.2.2
  omega
theorem Bk.text_wl {b : Bk} (hb : b.Ok) : wl (b.rows.map tx) ≤ 20000 := by
  have h1 := wl_const (n := 1000) (ws := b.rows.map tx) fun w hw => by
    obtain ⟨r, hr, rfl⟩ := List.mem_map.mp hw
    exact row_len (Bk.rows_ok hb r hr)
  have h2 := Bk.rows_len hb
  rw [List.length_map] at h1
  omega
theorem len_nl : ("\n" : Str).length = 1 := by decide +kernel
section
variable {P : Program} {w : World} {K : PySem.W.Frag} {mg : Str → Option Value} {base : Heap}
def spFnRows (K : PySem.W.Frag) : Sp := fun vs H Q _ => ∃ (p : Addr) (f : Fd), vs = [.ref p] ∧ FnAt K H f (.ref p) ∧ f.Fm ∧ ∀ l H', Same H H' → H l = none → H' l = some (.lst ((f.rows.map tx).map V.str)) → Q (.ref l) H'
theorem c_function_rows (T : Top K mg) : Cal P w K mg base 10 "function_rows" (spFnRows K) := by
  refine mkCal T.d_function_rows sc_function_rows b_function_rows (fun vs H Q E h => ?_) (fun f0 cdv A outer s H vs Q E hr h => ?_)
  · obtain ⟨p, f, rfl, _⟩ := h
    rfl
  · obtain ⟨p, f, rfl, ⟨p', dx, lp, wp, x, ws, ep, hp, ⟨dl, hh, hlab⟩, hx, hw, hws⟩, hf, q⟩ := h
    cases ep
    have nd := sc_function_rows.nd
    refine ⟨_, pss_cons (ps_set (i := 1) nd rfl (Or.inl rfl) (pe_joined (.cons pe_str (.cons (pe_fmt (pe_fld (pv 0) rfl)) (.cons pe_str (.cons (pe_fmt (pe_fld (pv 0) rfl)) (.cons pe_str (.cons (pe_fmt (pe_fld (pe_fld (pv 0) rfl) rfl)) (.cons pe_str (.cons (pe_fmt (pe_fld (pv 0) rfl)) .nil))))))))))
      (pss_cons (ps_setLc (i := 2) (own := [("cell", 3), ("term", 4)]) (g := gTup K 2 (gCons (gName 3) (gCons (gName 4) gNil))) (tt := tYes) (te := tJd [tC (.str "write "), tFmt (tVar 3), tC (.str " "), tFmt (tCall (spWrTerm K 8) [] E0 (tCons (tVar 4) tNil))])
        rfl nd rfl rfl (sw_true rfl rfl rfl (by decide +kernel)) (pi_tup (pe_fld (pv 0) rfl)) (blkOk_by (N := n_function_rows) (sc := defScope s_function_rows) (by decide +kernel))
        (fun _ _ _ _ _ => pg_tup rfl (pgs_cons (pg_name (i := 3) nd rfl (Or.inl rfl)) (pgs_cons (pg_name (i := 4) nd rfl (Or.inl rfl)) pgs_nil))) (fun _ _ _ _ _ => pts_nil)
        (fun _ _ _ _ _ => pe_joined (.cons pe_str (.cons (pe_fmt (pv 3)) (.cons pe_str (.cons (pe_fmt (cc (c_write_term T 8) hr (pa_cons (pv 4) pa_nil))) .nil))))))
      (pss_one (ps_ret (pe_lst (pa_cons (pv 1) (pa_cons (pe_joined (.cons pe_str (.cons (pe_fmt (cc (c_write_term T 8) hr (pa_cons (pe_fld (pv 0) rfl) pa_nil))) .nil))) (StX.pa_star (pv 2) pa_nil))))))), ?_⟩
    have b1 := hf.many
    have b2 := hf.cost
    have b3 := hf.name.2.1
    have b4 := lab_len hf.label
    have b5 := hf.few
    have hlen := Paired.len hws
    have n1 := len_num (n := f.many) (by omega)
    have n2 := len_num (n := f.cost) (by omega)
    refine ⟨_, rfl, le_line (by simp only [Str.length_append, len_e, len_fn]; omega), _, rfl, p, _, dx, _, _, rfl, hp, T.c_Function, T.n_Function_name, rfl, .inl ⟨_, rfl, le_line (by omega), _, rfl, le_line (by simp only [Str.length_append, len_e, len_fn]; omega), ?_⟩⟩
    refine ⟨_, rfl, le_line (by simp only [Str.length_append, len_e, len_fn, len_sp]; omega), _, rfl, p, _, dx, _, _, rfl, hp, T.c_Function, T.n_Function_arguments, rfl, .inr ⟨_, rfl, log_small (by omega), _, rfl, le_line (by simp only [Str.length_append, len_e, len_fn, len_sp]; omega), ?_⟩⟩
    refine ⟨_, rfl, le_line (by simp only [Str.length_append, len_e, len_fn, len_sp]; omega), _, rfl, p, _, dx, _, _, rfl, hp, T.c_Function, T.n_Function_label, rfl, lp, _, dl, _, _, rfl, hlab, T.c_Label, T.n_Label_name, rfl, .inl ⟨_, rfl, le_line (by omega), _, rfl, le_line (by simp only [Str.length_append, len_e, len_fn, len_sp]; omega), ?_⟩⟩
    refine ⟨_, rfl, le_line (by simp only [Str.length_append, len_e, len_fn, len_sp]; omega), _, rfl, p, _, dx, _, _, rfl, hp, T.c_Function, T.n_Function_cost, rfl, .inr ⟨_, rfl, log_small (by omega), _, rfl, le_line (by simp only [Str.length_append, len_e, len_fn, len_sp]; omega), ?_⟩⟩
    show ∃ v, _ ∧ _
    refine ⟨_, rfl, p, _, dx, _, _, rfl, hp, T.c_Function, T.n_Function_writes, rfl, wp, rfl, ⟨_, hw⟩, fun D hD => ?_⟩
    refine lc_same (walk_tup (xs := ws)) (by omega) hD (fun j y _ => ∃ qw, f.writes[j]? = some qw ∧ y = .str (tx ("write" :: qw.1 :: qw.2.words))) (fun _ s1 => (NL.of s1).tup hw) (fun _ _ _ _ _ r => r) ?_ ?_
    · rintro i y H1 H2 Qk hi s1 ⟨rfl, hy⟩ kk
      obtain ⟨qw, hq, r, z, rfl, hr2, ht⟩ := Paired.get' hws hy
      obtain ⟨k1, k2, k3, k4⟩ := hf.writes qw (List.mem_of_getElem? hq)
      have ktx := Tm.text_len b1 k2
      have b6 := k1.2.1
      refine ⟨r, _, rfl, (NL.of s1).tup hr2, rfl, _, _, rfl, _, _, rfl, rfl, rfl, ?_⟩
      refine ⟨_, rfl, le_line (by simp only [Str.length_append, len_e, len_wr]; omega), _, rfl, .inl ⟨_, rfl, le_line (by omega), _, rfl, le_line (by simp only [Str.length_append, len_e, len_wr]; omega), ?_⟩⟩
      refine ⟨_, rfl, le_line (by simp only [Str.length_append, len_e, len_wr, len_sp]; omega), _, rfl, z, qw.2, f.many, rfl, ht.nl (NL.of s1), k2, b1, k4, k3, fun H4 s4 => .inl ⟨_, rfl, le_line (by omega), _, rfl, le_line (by simp only [Str.length_append, len_e, len_wr, len_sp]; omega), ?_⟩⟩
      refine kk _ _ s4 ⟨qw, hq, ?_⟩
      rw [fs_wr, tx_wr]
    intro H1 acc s1 a1
    have eacc := acc_map (l := f.writes) (f := fun qw => V.str (tx ("write" :: qw.1 :: qw.2.words))) (by rw [a1.2.1, hlen]) a1.2.2
    have ktx := Tm.text_len b1 hf.wf
    have ks := hf.size
    refine ⟨_, rfl, _, rfl, le_line (by simp only [Str.length_append, len_e, len_res]; omega), _, rfl, p, _, dx, _, _, rfl, s1 _ _ hp, T.c_Function, T.n_Function_result, rfl, x, f.result, f.many, rfl, hx.nl (NL.of s1), hf.wf, b1, hf.depth, hf.size, fun H4 s4 => ?_⟩
    refine .inl ⟨_, rfl, le_line (by omega), _, rfl, le_line (by simp only [Str.length_append, len_e, len_res]; omega), ?_⟩
    refine ⟨_, rfl, D, acc, rfl, .inr (SqL.of (s4 _ _ a1.1)), le_line (by simp [eacc]; omega), fun l hl => ?_⟩
    have s14 := s1.trans s4
    refine q l _ (Same.upd' s14 hl) (Same.free s14 hl) ?_
    rw [upd_same, fs_fn, fs_res, tx_res, eacc]
    simp [Fd.rows, num]
def spWrBook (K : PySem.W.Frag) : Sp := fun vs H Q _ => ∃ (p : Addr) (b : Bk), vs = [.ref p] ∧ b.Ok ∧ BookAt K H p b ∧ ∀ H', Same H H' → Q (.str b.text) H'
theorem c_write_book (T : Top K mg) : Cal P w K mg base 11 "write_book" (spWrBook K) := by
  refine mkCal T.d_write_book sc_write_book b_write_book (fun vs H Q E h => ?_) (fun f0 cdv A outer s H vs Q E hr h => ?_)
  · obtain ⟨p, b, rfl, _⟩ := h
    rfl
  · obtain ⟨p, b, rfl, hb, hbk, q⟩ := h
    have nd := sc_write_book.nd
    refine ⟨_, pss_cons (ps_setLc (i := 1) (own := [("cell", 2)]) (g := gName 2) (tt := tYes) (te := tJd [tC (.str "cell "), tFmt (tFld K (tVar 2) "name"), tC (.str " "), tFmt (tFld K (tVar 2) "kind")])
        rfl nd rfl rfl (sw_true rfl rfl rfl (by decide +kernel)) (pi_list (cm0 (c_all_cells T) hr (pv 0))) (blkOk_by (N := n_write_book) (sc := defScope s_write_book) (by decide +kernel))
        (fun _ _ _ _ _ => pg_name (i := 2) nd rfl (Or.inl rfl)) (fun _ _ _ _ _ => pts_nil)
        (fun _ _ _ _ _ => pe_joined (.cons pe_str (.cons (pe_fmt (pe_fld (pv 2) rfl)) (.cons pe_str (.cons (pe_fmt (pe_fld (pv 2) rfl)) .nil))))))
      (pss_cons (ps_for PassesOwn.never rfl (pi_list (cm0 (c_names T) hr (pv 0))) (pg_name (i := 3) nd rfl (Or.inl rfl))
        (pss_one (ps_expr (pe_bm PySem.F.plainAttrs_list PySem.F.slot_list_extend PySem.F.type_list_extend mt_extend (pv 1) (pa_cons (cc (c_function_rows T) hr (pa_cons (pe_own (c_Book_getitem T) T.exs.gi T.m_Book_getitem hr (pv 0) (pv 3)) pa_nil)) pa_nil)))))
      (pss_one (ps_ret (pe_join pe_str (pv 1))))), ?_⟩
    have hbk0 := hbk
    obtain ⟨dx, cr, rw1, cs, fs, hp, hcr, hcs, hrw, hfs⟩ := hbk
    have f1 := hb.few
    have f2 := hb.most
    refine ⟨_, rfl, p, dx, _, rfl, hp, rfl, p, b, rfl, hbk0, fun l xs H1 s1 hl hxs => ⟨l, rfl, ⟨xs, SqL.of hl⟩, fun D hD => ?_⟩⟩
    have hlx := Paired.len hxs
    refine lc_same (walk_list (xs := xs)) (by omega) hD (fun j y _ => ∃ c, b.cells[j]? = some c ∧ y = .str (tx (cellRow c))) (fun _ s2 => s2.seq (SqL.of hl)) (fun _ _ _ _ _ r => r) ?_ ?_
    · rintro i y H2 H3 Qk hi s2 ⟨rfl, hy⟩ kk
      obtain ⟨c, hc, cp, dc, rfl, hcp⟩ := Paired.get' hxs hy
      have h2 := s2 _ _ hcp
      obtain ⟨k1, k2⟩ := hb.cells c (List.mem_of_getElem? hc)
      have b6 := k1.2.1
      have b7 := kind_len k2
      refine ⟨rfl, _, rfl, le_line (by simp only [Str.length_append, len_e, len_cell]; omega), _, rfl, cp, _, dc, _, _, rfl, h2, T.c_Cell, T.n_Cell_name, rfl, .inl ⟨_, rfl, le_line (by omega), _, rfl, le_line (by simp only [Str.length_append, len_e, len_cell]; omega), ?_⟩⟩
      refine ⟨_, rfl, le_line (by simp only [Str.length_append, len_e, len_cell, len_sp]; omega), _, rfl, cp, _, dc, _, _, rfl, h2, T.c_Cell, T.n_Cell_kind, rfl, .inl ⟨_, rfl, le_line (by omega), _, rfl, le_line (by simp only [Str.length_append, len_e, len_cell, len_sp]; omega), ?_⟩⟩
      refine kk _ _ (Same.refl _) ⟨c, hc, ?_⟩
      rw [fs_cell]
      rfl
    intro H2 acc s2 a2
    have eacc := acc_map (l := b.cells) (f := fun c => V.str (tx (cellRow c))) (by rw [a2.2.1, hlx]) a2.2.2
    have s12 := s1.trans s2
    have hDH : H D = none := Same.free s1 hD
    have bk2 := hbk0.nl (NL.of s12)
    refine ⟨_, rfl, p, dx, _, rfl, s12 _ _ hp, rfl, p, b, rfl, by omega, bk2, fun l2 H3 s3 hl2 h3 => ⟨l2, rfl, ⟨_, SqL.of h3⟩, ?_⟩⟩
    have hDl : D ≠ l2 := ne_of_none a2.1 hl2
    refine for_list (xs := b.fns.map fun f => V.str f.name) (fun i σ H' => ∃ v2 v3, σ = [some (.ref p), some (.ref D), v2, v3] ∧ Kp D H3 H' ∧ H' D = some (.lst (((b.cells.map cellRow ++ ((b.fns.take i).map Fd.rows).flatten).map tx).map V.str)))
      ⟨none, none, rfl, Kp.rfl' (s3 _ _ a2.1), by rw [s3 _ _ a2.1, eacc]; simp⟩ (fun i σ H' _ ⟨_, _, _, k, _⟩ => SqL.of (k.but _ _ h3 hDl.symm)) ?_ ?_
    · rintro i y σ H4 hy ⟨v2, v3, rfl, k4, h4⟩
      rw [List.getElem?_map] at hy
      obtain ⟨f, hf, rfl⟩ := Option.map_eq_some_iff.mp hy
      have bk4 := (bk2.nl (NL.of s3)).nl k4.nl
      have hfo := (hb.fns i f hf).fm
      have hp4 := k4.nl _ _ (s3 _ _ (s12 _ _ hp)) rfl
      refine ⟨_, rfl, .inl ⟨rfl, _, SqL.of h4⟩, _, rfl, _, rfl, p, dx, _, rfl, hp4, p, f.name, b, i, f, rfl, bk4, nd_fns hb, hf, rfl, fun v hv => ?_⟩
      have hv' := hv
      obtain ⟨fp, _, _, _, _, _, rfl, _⟩ := hv'
      refine ⟨fp, f, rfl, hv, hfo, fun l5 H5 s5 hl5 h5 => ?_⟩
      have hD5 : D ≠ l5 := ne_of_none h4 hl5
      refine ⟨D, l5, _, _, rfl, rfl, s5 _ _ h4, h5, le_line ?_, _, _, rfl, ?_, ?_⟩
      · have e2 := rows_few (l := b.fns.take i) fun g hg => by
          obtain ⟨j, hj⟩ := List.getElem?_of_mem (List.mem_of_mem_take hg)
          exact (hb.fns j g hj).few
        have e3 := hfo.few
        have e4 : f.rows.length = 2 + f.writes.length := by simp [Fd.rows]; omega
        rw [List.length_take] at e2
        rw [List.length_map, List.length_map, List.length_append, List.length_map, List.length_map, List.length_map]
        omega
      · exact k4.trans ((Kp.of s5 h4).trans (Kp.set (s5 _ _ h4)))
      · rw [upd_same, List.take_succ, hf]
        simp
    · rintro σ H4 ⟨v2, v3, rfl, k4, h4⟩
      rw [show b.fns.take (b.fns.map fun f => V.str f.name).length = b.fns from List.take_of_length_le (by simp)] at h4
      refine ⟨⟨_, rfl⟩, _, rfl, _, D, b.rows.map tx, rfl, rfl, .inl (SqL.of h4), ?_, ?_⟩
      · have := Bk.text_wl hb
        unfold wl at this
        rw [len_nl]
        omega
      · refine q H4 fun a o e => ?_
        have ha : a ≠ D := ne_of_none e hDH
        exact k4.but a o (s3 _ _ (s12 _ _ e)) ha
end
end K80
namespace K80
open PySem PySem.Spec PyProof.Rows L2
/-! ### == of lists of texts; == and != of a list and an empty one -/
theorem isL_of {h : Heap} {a : Addr} {its : Array Value} (p : PlainL h a its) : h.IsList a its := let ⟨o, n, h1, h2, _, h3⟩ := p; ⟨o, h1, h2, n, h3⟩
section
variable {X : Cx}
def rEqS (K : PySem.W.Frag) : R2 := fun x y H Q => ∃ (a b : Addr) (ws vs : List Str), x = .ref a ∧ y = .ref b ∧ SqL K H a (ws.map V.str) ∧ SqL K H b (vs.map V.str) ∧ Q (.bl (decide (ws = vs))) H
theorem op_eqS {k : Nat} (hr : Room k X.A) : OpR X (compareOp .Eq) (rEqS X.K) := by
  intro pins s σ H x y v u Q I rx ry h
  obtain ⟨a, b, ws, vs, rfl, rfl, ha, hb, q⟩ := h
  cases rx
  cases ry
  obtain ⟨its, r, la, _⟩ := I.list ha
  obtain ⟨its2, r2, lb, _⟩ := I.list hb
  have l1 := r.length
  have l2 := r2.length
  rw [List.length_map] at l1 l2
  by_cases hl : ws.length = vs.length
  · have hsz : its.toArray.size = its2.toArray.size := by rw [List.size_toArray, List.size_toArray]; omega
    refine SeqAt.eq_listAt (e := fun j => decide (ws[j]? = vs[j]?)) (isL_of la) (isL_of lb) hsz hr.units0 (fun j h1 h2 => ?_) ?_
    · have h1' : j < its.length := by simpa using h1
      have h2' : j < its2.length := by simpa using h2
      have k1 : j < ws.length := by omega
      have k2 : j < vs.length := by omega
      have g1 : (ws.map V.str)[j]? = some (V.str ws[j]) := by rw [List.getElem?_map, List.getElem?_eq_getElem k1]; rfl
      have g2 : (vs.map V.str)[j]? = some (V.str vs[j]) := by rw [List.getElem?_map, List.getElem?_eq_getElem k2]; rfl
      obtain ⟨u1, hu1, ru1⟩ := r.get g1
      obtain ⟨u2, hu2, ru2⟩ := r2.get g2
      rw [List.getElem?_eq_getElem h1'] at hu1
      rw [List.getElem?_eq_getElem h2'] at hu2
      have e := eqAt_V (A := X.A.in1) (s := s) ru1 ru2 rfl rfl
      rw [← Option.some.inj hu1, ← Option.some.inj hu2] at e
      have e2 : eqV (V.str ws[j]) (V.str vs[j]) = decide (ws[j]? = vs[j]?) := by
        rw [List.getElem?_eq_getElem k1, List.getElem?_eq_getElem k2]
        show (ws[j] == vs[j]) = _
        by_cases z : ws[j] = vs[j] <;> simp [z]
      rw [e2] at e
      simpa using e
    · have e3 : (List.range its.toArray.size).all (fun j => decide (ws[j]? = vs[j]?)) = decide (ws = vs) := by
        rw [List.size_toArray, ← l1]
        by_cases z : ws = vs
        · subst z
          simp
        · rw [decide_eq_false z]
          apply Bool.eq_false_iff.mpr
          intro hall
          apply z
          apply List.ext_getElem?
          intro j
          by_cases hj : j < ws.length
          · have := List.all_eq_true.mp hall j (List.mem_range.mpr hj)
            exact of_decide_eq_true this
          · rw [List.getElem?_eq_none (by omega), List.getElem?_eq_none (by omega)]
      rw [e3]
      exact ⟨.bl (decide (ws = vs)), H, I, rfl, q⟩
  · have hsz : (its.toArray.size != its2.toArray.size) = true := by
      rw [List.size_toArray, List.size_toArray, ← l1, ← l2]
      simpa using hl
    refine SeqAt.eq_list_lengthsAt (isL_of la) (isL_of lb) hsz hr.units0 ?_
    have e : decide (ws = vs) = false := decide_eq_false fun z => hl (by rw [z])
    rw [e] at q
    exact ⟨.bl false, H, I, rfl, q⟩
def rNil (K : PySem.W.Frag) (f : Bool → Bool) : R2 := fun x y H Q => ∃ (a b : Addr) (xs : List V), x = .ref a ∧ y = .ref b ∧ SqL K H a xs ∧ SqL K H b [] ∧ Q (.bl (f xs.isEmpty)) H
theorem op_eqNil {k : Nat} (hr : Room k X.A) : OpR X (compareOp .Eq) (rNil X.K id) := by
  intro pins s σ H x y v u Q I rx ry h
  obtain ⟨a, b, xs, rfl, rfl, ha, hb, q⟩ := h
  cases rx
  cases ry
  obtain ⟨its, r, la, _⟩ := I.list ha
  obtain ⟨its2, r2, lb, _⟩ := I.list hb
  cases r2
  cases xs with
  | nil =>
    cases r
    refine SeqAt.eq_listAt (e := fun _ => true) (isL_of la) (isL_of lb) rfl hr.units0 (fun j h1 h2 => ?_) ?_
    · simp at h1
    · exact ⟨.bl true, H, I, rfl, q⟩
  | cons z zs =>
    cases r
    refine SeqAt.eq_list_lengthsAt (isL_of la) (isL_of lb) (by simp) hr.units0 ?_
    exact ⟨.bl false, H, I, rfl, q⟩
theorem op_neNil {k : Nat} (hr : Room k X.A) : OpR X (compareOp .NotEq) (rNil X.K not) := by
  intro pins s σ H x y v u Q I rx ry h
  obtain ⟨a, b, xs, rfl, rfl, ha, hb, q⟩ := h
  cases rx
  cases ry
  obtain ⟨its, r, la, _⟩ := I.list ha
  obtain ⟨its2, r2, lb, _⟩ := I.list hb
  cases r2
  show wpAny (model X.prog X.w) X.A (richCompare .NotEq (.ref a) (.ref b)) (EP X pins σ Q) X.xe s
  cases xs with
  | nil =>
    cases r
    refine SeqAt.RcNeAt.lists (e := fun _ => true) (isL_of la) (isL_of lb) rfl hr.units0 (fun j h1 h2 => ?_) _ _ _ _ ?_
    · simp at h1
    · exact ⟨.bl false, H, I, rfl, q⟩
  | cons z zs =>
    cases r
    refine SeqAt.RcNeAt.lists_lengths (isL_of la) (isL_of lb) (by simp) hr.units0 _ _ _ _ ?_
    exact ⟨.bl true, H, I, rfl, q⟩
end
end K80
namespace K80
open PySem PySem.Spec PyProof.Rows L2
/-! ### figures read -/
theorem int_num : ∀ n, n < 10 → PySem.intText? (num n) = some (n : Int) := by decide +kernel
theorem in_figs : ∀ n, n < 10 → decide (48 + n ∈ ("0123456789" : Str).cps.toList) = true := by decide +kernel
theorem in_vals : ∀ n, n < 3 → decide (48 + n ∈ ("012" : Str).cps.toList) = true := by decide +kernel
/-- a stack of words: those that are left, the last first -/
structure Wst (K : PySem.W.Frag) (H : Hp) (p l : Addr) (ws : List Str) : Prop where
  at_ : ∃ dx, H p = some (.ins (He.ga K "Words") dx [("left", .ref l), ("is_bad", .bl false)])
  left : H l = some (.lst (ws.reverse.map V.str))
theorem Wst.same {K : PySem.W.Frag} {H H' : Hp} {p l : Addr} {ws : List Str} (s : Same H H') (w : Wst K H p l ws) : Wst K H' p l ws := ⟨let ⟨dx, h⟩ := w.at_; ⟨dx, s _ _ h⟩, s _ _ w.left⟩
section
variable {P : Program} {w : World} {K : PySem.W.Frag} {mg : Str → Option Value} {base : Heap}
def spWordsI (K : PySem.W.Frag) : Sp := fun vs H Q _ => ∃ (p dx a : Addr) (ws : List Str), vs = [.ref p, .ref a] ∧ H p = some (.ins (He.ga K "Words") dx []) ∧ SqL K H a (ws.map V.str) ∧ ∀ l H', But p H H' → H l = none → Wst K H' p l ws → Q .non H'
theorem c_Words (T : Top K mg) : Mak P w K mg base 1 "Words" (He.ga K "Words") (spWordsI K) := by
  obtain ⟨fd, F⟩ := T.d_Words_init
  refine mkMak T.k_Words T.g_Words F sc_Words_init b_Words_init (fun vs H Q E h => ?_) (fun f cdv A outer s H vs Q E hr h => ?_)
  · obtain ⟨p, dx, a, ws, rfl, _⟩ := h
    rfl
  · obtain ⟨p, dx, a, ws, rfl, hp, ha, q⟩ := h
    refine ⟨_, pss_cons (ps_fld (pv 0) (pe_callTy call_list_of rfl T.f_list boot_list (pa_cons (pe_revL (pv 1)) pa_nil)) rfl) (pss_one (ps_fld (pv 0) pe_bl rfl)), ?_⟩
    refine ⟨_, rfl, a, _, rfl, ha, fun r hr' => ⟨r, _, rfl, .inl (SqL.of upd_same), fun l hl => ?_⟩⟩
    have s1 : Same H (upd H r (.lst (ws.map V.str).reverse)) := Same.upd hr'
    have h1 := Same.upd' s1 (o := .lst (ws.map V.str).reverse) hl _ _ hp
    have hlH : H l = none := Same.free s1 hl
    refine ⟨_, rfl, p, _, dx, [], rfl, h1, T.c_Words, T.n_Words_left, (by show 0 < 1000; decide), _, rfl, p, _, dx, _, rfl, upd_same, T.c_Words, T.n_Words_is_bad, (by show 1 < 1000; decide), ?_⟩
    refine q l _ ((But.of (Same.upd' s1 hl)).trans (But.upd.trans But.upd)) hlH ⟨⟨dx, upd_same⟩, ?_⟩
    have hpl : l ≠ p := fun e => by rw [e, hp] at hlH; cases hlH
    rw [upd_ne hpl, upd_ne hpl, upd_same, List.map_reverse]
def spPull (K : PySem.W.Frag) : Sp := fun vs H Q _ => ∃ (p l : Addr) (z : Str) (ws : List Str), vs = [.ref p] ∧ Wst K H p l (z :: ws) ∧ ∀ H', Kp l H H' → Wst K H' p l ws → Q (.str z) H'
theorem c_pull (T : Top K mg) : Met P w K mg base 1 (He.ga K "Words") "pull" (spPull K) := by
  obtain ⟨fd, F⟩ := T.d_Words_pull
  refine mkMet T.c_Words T.m_Words_pull F sc_Words_pull b_Words_pull (fun vs H Q E h => ?_) (fun f cdv A outer s H vs Q E hr h => ?_)
  · obtain ⟨p, l, z, ws, rfl, _⟩ := h
    rfl
  · obtain ⟨p, l, z, ws, rfl, ⟨⟨dx, hp⟩, hl⟩, q⟩ := h
    refine ⟨_, pss_cons (ps_if (pt_cmpR (op_eqS hr) (pe_fld (pv 0) rfl) (pe_lst pa_nil) (nomark _)) pss_never pss_nil)
      (pss_one (ps_ret (pe_bm0 PySem.F.plainAttrs_list PySem.F.slot_list_pop PySem.F.type_list_pop mt_pop (pe_fld (pv 0) rfl)))), ?_⟩
    have n0 : (z :: ws).reverse ≠ [] := by simp
    refine ⟨_, rfl, p, _, dx, _, _, rfl, hp, T.c_Words, T.n_Words_left, rfl, (by show 0 ≤ sizeLine; decide), fun e he => ?_⟩
    have s1 : Same H (upd H e (.lst [])) := Same.upd he
    refine ⟨l, e, _, [], rfl, rfl, SqL.of (s1 _ _ hl), SqL.of upd_same, _, congrArg V.bl (decide_eq_false n0), iteF ?_⟩
    refine ⟨_, rfl, p, _, dx, _, _, rfl, s1 _ _ hp, T.c_Words, T.n_Words_left, rfl, .inl ⟨rfl, _, SqL.of (s1 _ _ hl)⟩, l, _, .str z, rfl, rfl, s1 _ _ hl, by simp, ?_⟩
    have hpl : p ≠ l := fun e => by rw [e, hl] at hp; cases hp
    refine q _ ((Kp.of s1 hl).trans (Kp.set (s1 _ _ hl))) ⟨⟨dx, by rw [upd_ne hpl]; exact s1 _ _ hp⟩, by rw [upd_same]; simp⟩
def spPullFig (K : PySem.W.Frag) : Sp := fun vs H Q _ => ∃ (p l : Addr) (n : Nat) (lo hi : Int) (ws : List Str), vs = [.ref p, .int lo, .int hi] ∧ Wst K H p l (num n :: ws) ∧ n < 10 ∧ lo ≤ n ∧ (n : Int) ≤ hi ∧ ∀ H', Kp l H H' → Wst K H' p l ws → Q (.int (n : Nat)) H'
theorem c_pull_figure (T : Top K mg) : Met P w K mg base 2 (He.ga K "Words") "pull_figure" (spPullFig K) := by
  obtain ⟨fd, F⟩ := T.d_Words_pull_figure
  refine mkMet T.c_Words T.m_Words_pull_figure F sc_Words_pull_figure b_Words_pull_figure (fun vs H Q E h => ?_) (fun f cdv A outer s H vs Q E hr h => ?_)
  · obtain ⟨p, l, n, lo, hi, ws, rfl, _⟩ := h
    rfl
  · obtain ⟨p, l, n, lo, hi, ws, rfl, hw, hn, h1, h2, q⟩ := h
    have nd := sc_Words_pull_figure.nd
    refine ⟨_, pss_cons (ps_set (i := 3) nd rfl (Or.inl rfl) (cm0 (c_pull T) hr (pv 0)))
      (pss_cons (ps_if (PW.pt (pw_or (pt_cmpR op_ne (pe_callB call_len_str rfl T.f_len boot_len (pa_cons (pv 3) pa_nil)) pe_int (nomark _)) (pw_or (pt_cmpR op_notIn_sign (pv 3) (ks T.t_FIGURES) rfl) (pw_or1 (pt_not (pt_chain op_le op_le (pv 1) (pe_callTy call_int_str rfl T.f_int PySem.Pv.boot_int (pa_cons (pv 3) pa_nil)) (pv 2))))))) pss_never pss_nil)
      (pss_one (ps_ret (pe_callTy call_int_str rfl T.f_int PySem.Pv.boot_int (pa_cons (pv 3) pa_nil))))), ?_⟩
    obtain ⟨dx, hp⟩ := hw.at_
    have hnl := num_len hn
    refine ⟨_, rfl, p, dx, _, rfl, hp, rfl, p, l, num n, ws, rfl, hw, fun H1 k1 w1 => ?_⟩
    refine ⟨_, rfl, num n, rfl, le_line (by omega), rfl, false, by rw [hnl]; simp, iteF ?_⟩
    refine ⟨_, rfl, 48 + n, _, by rw [num_eq n hn], rfl, false, by rw [in_figs n hn]; rfl, iteF ?_⟩
    refine ⟨_, rfl, _, rfl, num n, n, rfl, int_num n hn, by omega, _, _, rfl, rfl, _, rfl, ?_⟩
    rw [decide_eq_true h1]
    refine iteT ⟨_, rfl, _, _, rfl, rfl, true, congrArg V.bl (decide_eq_true h2), iteF ?_⟩
    exact ⟨_, rfl, num n, n, rfl, int_num n hn, by omega, q H1 k1 w1⟩
def spPullName (K : PySem.W.Frag) : Sp := fun vs H Q _ => ∃ (p l : Addr) (z : Str) (ws : List Str), vs = [.ref p] ∧ Wst K H p l (z :: ws) ∧ Nm z ∧ ∀ H', Kp l H H' → Wst K H' p l ws → Q (.str z) H'
theorem c_pull_name (T : Top K mg) : Met P w K mg base 2 (He.ga K "Words") "pull_name" (spPullName K) := by
  obtain ⟨fd, F⟩ := T.d_Words_pull_name
  refine mkMet T.c_Words T.m_Words_pull_name F sc_Words_pull_name b_Words_pull_name (fun vs H Q E h => ?_) (fun f cdv A outer s H vs Q E hr h => ?_)
  · obtain ⟨p, l, z, ws, rfl, _⟩ := h
    rfl
  · obtain ⟨p, l, z, ws, rfl, hw, hz, q⟩ := h
    have nd := sc_Words_pull_name.nd
    refine ⟨_, pss_cons (ps_set (i := 1) nd rfl (Or.inl rfl) (cm0 (c_pull T) hr (pv 0)))
      (pss_cons (ps_if (pt_not (pt_val (cc (c_is_name T) hr (pa_cons (pv 1) pa_nil)))) pss_never pss_nil)
      (pss_one (ps_ret (pv 1)))), ?_⟩
    obtain ⟨dx, hp⟩ := hw.at_
    refine ⟨_, rfl, p, dx, _, rfl, hp, rfl, p, l, z, ws, rfl, hw, fun H1 k1 w1 => ?_⟩
    exact ⟨_, rfl, z, rfl, hz, fun H2 s2 => ⟨true, rfl, iteF ⟨_, rfl, q H2 (k1.trans (Kp.of s2 w1.left)) (w1.same s2)⟩⟩⟩
def spDone (K : PySem.W.Frag) : Sp := fun vs H Q _ => ∃ (p l : Addr), vs = [.ref p] ∧ Wst K H p l [] ∧ ∀ H', Same H H' → Q (.bl true) H'
theorem c_is_done (T : Top K mg) : Met P w K mg base 1 (He.ga K "Words") "is_done" (spDone K) := by
  obtain ⟨fd, F⟩ := T.d_Words_is_done
  refine mkMet T.c_Words T.m_Words_is_done F sc_Words_is_done b_Words_is_done (fun vs H Q E h => ?_) (fun f cdv A outer s H vs Q E hr h => ?_)
  · obtain ⟨p, l, rfl, _⟩ := h
    rfl
  · obtain ⟨p, l, rfl, ⟨⟨dx, hp⟩, hl⟩, q⟩ := h
    refine ⟨_, pss_one (ps_ret (pe_and (pe_not (pe_fld (pv 0) rfl)) (pe_one (pe_cmpR (op_eqS hr) (pe_fld (pv 0) rfl) (pe_lst pa_nil) (nomark _))))), ?_⟩
    refine ⟨_, rfl, p, _, dx, _, _, rfl, hp, T.c_Words, T.n_Words_is_bad, rfl, false, rfl, true, rfl, iteT ?_⟩
    refine ⟨_, rfl, p, _, dx, _, _, rfl, hp, T.c_Words, T.n_Words_left, rfl, (by show 0 ≤ sizeLine; decide), fun e he => ?_⟩
    exact ⟨l, e, [], [], rfl, rfl, SqL.of (Same.upd he _ _ hl), SqL.of upd_same, q _ (Same.upd he)⟩
end
end K80
namespace K80
open PySem PySem.Spec PyProof.Rows L2
abbrev Prs3 : List V := [.str "plus", .str "less", .str "same"]
theorem TV.of_node {K : PySem.W.Frag} {H : Hp} {t : Tm} {k : Str} {q : Addr} {vs : List V} (h : t.sh = .node k) (hq : SqT K H q (.str k :: vs)) (ks : TVs K H t.kids vs) : TV K H t (.ref q) := by
  cases t <;> simp [Tm.sh] at h <;> subst h
  · cases ks with
    | cons h1 r =>
      cases r with
      | cons h2 r =>
        cases r
        exact ⟨q, _, _, rfl, hq, h1, h2⟩
  · cases ks with
    | cons h1 r =>
      cases r with
      | cons h2 r =>
        cases r with
        | cons h3 r =>
          cases r
          exact ⟨q, _, _, _, rfl, hq, h1, h2, h3⟩
theorem TV.of_call {K : PySem.W.Frag} {H : Hp} {t : Tm} {f : Str} {p q : Addr} {vs : List V} (h : t.sh = .call f) (hp : SqT K H p [.str "call", .str f, .ref q]) (hq : SqT K H q vs) (ks : TVs K H t.kids vs) : TV K H t (.ref p) := by
  cases t <;> simp [Tm.sh] at h <;> subst h
  · cases ks
    exact ⟨p, q, rfl, hp, hq⟩
  · cases ks with
    | cons h1 r =>
      cases r
      exact ⟨p, q, _, rfl, hp, hq, h1⟩
  · cases ks with
    | cons h1 r =>
      cases r with
      | cons h2 r =>
        cases r
        exact ⟨p, q, _, _, rfl, hp, hq, h1, h2⟩
/-- the first word of a term's words says what it is -/
inductive Fst (m : Nat) : Tm → Prop where
  | val (n : Nat) : n ≤ 2 → Fst m (.val n)
  | arg (i : Nat) : i < m → Fst m (.arg i)
  | cell (c : Str) : Nm c → Fst m (.cell c)
  | tick : Fst m .tick
  | node {t : Tm} (k : Str) : t.sh = .node k → t.words = k :: (t.kids.map Tm.words).flatten → ((inV (.str k) Prs3 = true ∧ decide (V.str k = V.str "if") = false ∧ t.kids.length = 2) ∨ (inV (.str k) Prs3 = false ∧ k = "if" ∧ t.kids.length = 3)) → Fst m t
  | call {t : Tm} (f : Str) : t.sh = .call f → Nm f → t.words = ("call" : Str) :: f :: num t.kids.length :: (t.kids.map Tm.words).flatten → Fst m t
theorem Tm.fst {m : Nat} {t : Tm} (h : t.wf m) : Fst m t := by
  cases t with
  | val n => exact .val n h
  | arg i => exact .arg i h
  | cell c => exact .cell c h
  | tick => exact .tick
  | two k a b =>
    refine .node k rfl (by simp [Tm.words, Tm.kids]) (.inl ?_)
    have hk : Tm.IsPair k := h.1
    rcases hk with rfl | rfl | rfl
    · exact ⟨by decide +kernel, by decide +kernel, rfl⟩
    · exact ⟨by decide +kernel, by decide +kernel, rfl⟩
    · exact ⟨by decide +kernel, by decide +kernel, rfl⟩
  | ite c a b => exact .node "if" rfl (by simp [Tm.words, Tm.kids]) (.inr ⟨by decide +kernel, rfl, rfl⟩)
  | call0 f => exact .call f rfl h (by simp [Tm.words, Tm.kids])
  | call1 f a => exact .call f rfl h.1 (by simp [Tm.words, Tm.kids])
  | call2 f a b => exact .call f rfl h.1 (by simp [Tm.words, Tm.kids])
theorem num_not : ∀ n, n < 3 → inV (.str (num n)) Prs3 = false ∧ decide (V.str (num n) = V.str "if") = false ∧ decide (V.str (num n) = V.str "call") = false ∧ decide (V.str (num n) = V.str "arg") = false ∧ decide (V.str (num n) = V.str "cell") = false ∧ decide (V.str (num n) = V.str "tick") = false := by decide +kernel
section
variable {P : Program} {w : World} {K : PySem.W.Frag} {mg : Str → Option Value} {base : Heap}
/-! ### texts.py: pulled_term -/
def spPulled (K : PySem.W.Frag) (d : Nat) : Sp := fun vs H Q _ => ∃ (p l : Addr) (t : Tm) (m : Nat) (rest : List Str), vs = [.ref p, .int (d : Nat)] ∧ Wst K H p l (t.words ++ rest) ∧ t.wf m ∧ m ≤ 2 ∧ t.depth ≤ d ∧
  ∀ v H', Kp l H H' → Wst K H' p l rest → TV K H' t v → Q v H'
/-- the terms within, one after the other -/
theorem pull_kids {K : PySem.W.Frag} {d m n : Nat} {p l D : Addr} {ks : List Tm} {rest : List Str} {H0 : Hp} {σ : L2.St} {lo : Int} (hm : m ≤ 2) (hw : Wst K H0 p l ((ks.map Tm.words).flatten ++ rest)) (hD : H0 D = none) (hlen : ks.length ≤ 3) (hn : n = ks.length) (hk : ∀ k ∈ ks, k.wf m ∧ k.depth ≤ d)
    (hz : ∀ x, wipe ((wipe σ [3]).set 3 (some x)) [3] = wipe σ [3]) (h0 : ∀ x, ((wipe σ [3]).set 3 (some x))[0]? = some (some (.ref p))) (h1 : ∀ x, ((wipe σ [3]).set 3 (some x))[1]? = some (some (.int ((d + 1 : Nat) : Int)))) (Qd : Hp → Prop)
    (q : ∀ H1 vs, Kp l H0 H1 → Wst K H1 p l rest → H1 D = some (.lst vs) → TVs K H1 ks vs → Qd H1) :
    LcB (Itr lo n) (gName 3) (tCall (spPulled K d) [] E0 (tCons (tVar 0) (tCons (tOp (rI0 fun i j => V.int (i - j)) (tVar 1) (tC (.int 1))) tNil))) [3] σ H0 D Qd := by
  subst hn
  have hDl : l ≠ D := ne_of_none hw.left hD
  obtain ⟨dx, hp0⟩ := hw.at_
  have hDp : p ≠ D := ne_of_none hp0 hD
  refine lc_gen walk_range (by omega) (fun i H => Kp l H0 H ∧ Wst K H p l (((ks.drop i).map Tm.words).flatten ++ rest)) (fun j y H => ∃ k, ks[j]? = some k ∧ TV K H k y) ⟨?_, ?_⟩ (fun _ _ _ _ => trivial) ?_ ?_ ?_ ?_
  · exact Kp.of (Same.upd hD) hw.left
  · exact hw.same (Same.upd hD)
  · rintro i H z z' ⟨k1, w1⟩ hz'
    refine ⟨⟨k1.at_, ?_, fun b o e n => ?_⟩, ⟨?_, ?_⟩⟩
    · obtain ⟨ys, hy⟩ := k1.to
      exact ⟨ys, by rw [upd_ne hDl]; exact hy⟩
    · rw [upd_ne (ne_of_none e hD)]
      exact k1.but b o e n
    · obtain ⟨dx, h⟩ := w1.at_
      exact ⟨dx, by rw [upd_ne hDp]; exact h⟩
    · rw [upd_ne hDl]
      exact w1.left
  · rintro j y H z z' ⟨k, hk1, hk2⟩ hz'
    exact ⟨k, hk1, hk2.nl (Kp.set hz').nl⟩
  · rintro i x H H' acc Qk hi ⟨k1, w1⟩ hacc ⟨rfl, rfl⟩ kk
    have hki : ks[i]? = some ks[i] := List.getElem?_eq_getElem hi
    obtain ⟨hwf, hdp⟩ := hk ks[i] (List.getElem_mem hi)
    have e1 : ks.drop i = ks[i] :: ks.drop (i + 1) := List.drop_eq_getElem_cons hi
    rw [e1, List.map_cons, List.flatten_cons, List.append_assoc] at w1
    refine ⟨hz _, _, h0 _, _, h1 _, _, _, rfl, rfl, p, l, ks[i], m, _, ?_, w1, hwf, hm, hdp, fun v H4 k4 w4 tv => ?_⟩
    · show [V.ref p, V.int (((d + 1 : Nat) : Int) - 1)] ++ [] = _
      rw [show (((d + 1 : Nat) : Int) - 1) = ((d : Nat) : Int) by omega]
      rfl
    · exact kk v H4 (k4.but _ _ hacc hDl.symm) ⟨k1.trans k4, w4⟩ ⟨_, hki, tv⟩ fun j z _ ⟨k, e, t⟩ => ⟨k, e, t.nl k4.nl⟩
  · rintro H acc ⟨k1, w1⟩ a
    rw [List.drop_length] at w1
    refine q H acc k1 w1 a.1 (Paired.of_get a.2.1.symm fun i k y e1 e2 => ?_)
    obtain ⟨k', e3, t⟩ := a.2.2 i y e2
    rw [e1] at e3
    cases e3
    exact t
theorem c_pulled_term (T : Top K mg) : ∀ d : Nat, Cal P w K mg base (d + 3) "pulled_term" (spPulled K d)
  | 0 => by
    refine mkCal T.d_pulled_term sc_pulled_term b_pulled_term (fun vs H Q E h => ?_) (fun f cdv A outer s H vs Q E hr h => ?_)
    · obtain ⟨p, l, t, m, rest, rfl, _⟩ := h
      rfl
    · obtain ⟨p, l, t, m, rest, rfl, _, _, _, hd, _⟩ := h
      have := t.depth_pos
      omega
  | d + 1 => by
    have ih := c_pulled_term T d
    refine mkCal T.d_pulled_term sc_pulled_term b_pulled_term (fun vs H Q E h => ?_) (fun f cdv A outer s H vs Q E hr h => ?_)
    · obtain ⟨p, l, t, m, rest, rfl, _⟩ := h
      rfl
    · obtain ⟨p, l, t, m, rest, rfl, hw, hwf, hm, hd, q⟩ := h
      have nd := sc_pulled_term.nd
      have hk3 := t.kids_len
      refine ⟨_, pss_cons (ps_set (i := 2) nd rfl (Or.inl rfl) (cm0 (c_pull T) hr (pv 0) (by omega)))
        (pss_cons (ps_if (PW.pt (pw_or (pt_cmpR op_eq (pv 1) pe_int (nomark _)) (pw_or1 (pt_val (pe_fld (pv 0) rfl))))) pss_never pss_nil)
        (pss_cons (ps_if (PW.pt (pw_or (pt_cmpR op_in_seq (pv 2) (kr T.g_PAIRS) rfl) (pw_or1 (pt_cmpR op_eq (pv 2) pe_str (nomark _)))))
          (pss_one (ps_ret (pe_tup (pa_cons (pv 2) (StX.pa_star (plc n_pulled_term (defScope s_pulled_term) 3 nd (pi_range1 rfl T.f_range (pa_cons (pe_ifExp (pt_cmpR op_eq (pv 2) pe_str (nomark _)) pe_int pe_int) pa_nil))
            (te := tCall (spPulled K d) [] E0 (tCons (tVar 0) (tCons (tOp (rI0 fun i j => V.int (i - j)) (tVar 1) (tC (.int 1))) tNil))) (fun _ _ _ _ _ => cc ih hr (pa_cons (pv 0) (pa_cons (pe_op op_sub (pv 1) pe_int) pa_nil)) (Nat.le_refl _))) pa_nil))))) pss_nil)
        (pss_cons (ps_if (pt_cmpR op_eq (pv 2) pe_str (nomark _))
          (pss_cons (ps_par rfl nd (i := 4) (j := 5) rfl rfl (by decide) rfl rfl (pa_cons (cm0 (c_pull_name T) hr (pv 0) (by omega)) (pa_cons (cm (c_pull_figure T) hr (pv 0) (pa_cons pe_int (pa_cons pe_int pa_nil)) (by omega)) pa_nil)) (by rfl))
          (pss_one (ps_ret (pe_tup (pa_cons pe_str (pa_cons (pv 4) (pa_cons (pe_callTy call_tuple_of rfl T.f_tuple boot_tuple (pa_cons (plc n_pulled_term (defScope s_pulled_term) 3 nd (pi_range1 rfl T.f_range (pa_cons (pv 5) pa_nil))
            (te := tCall (spPulled K d) [] E0 (tCons (tVar 0) (tCons (tOp (rI0 fun i j => V.int (i - j)) (tVar 1) (tC (.int 1))) tNil))) (fun _ _ _ _ _ => cc ih hr (pa_cons (pv 0) (pa_cons (pe_op op_sub (pv 1) pe_int) pa_nil)) (Nat.le_refl _))) pa_nil)) pa_nil))))))) pss_nil)
        (pss_cons (ps_if (pt_cmpR op_eq (pv 2) pe_str (nomark _)) (pss_one (ps_ret (pe_tup (pa_cons pe_str (pa_cons (cm (c_pull_figure T) hr (pv 0) (pa_cons pe_int (pa_cons pe_int pa_nil)) (by omega)) pa_nil))))) pss_nil)
        (pss_cons (ps_if (pt_cmpR op_eq (pv 2) pe_str (nomark _)) (pss_one (ps_ret (pe_tup (pa_cons pe_str (pa_cons (cm0 (c_pull_name T) hr (pv 0) (by omega)) pa_nil))))) pss_nil)
        (pss_cons (ps_if (pt_cmpR op_eq (pv 2) pe_str (nomark _)) (pss_one (ps_ret (pe_tup (pa_cons pe_str pa_nil)))) pss_nil)
        (pss_cons (ps_if (PW.pt (pw_or (pt_cmpR op_ne (pe_callB call_len_str rfl T.f_len boot_len (pa_cons (pv 2) pa_nil)) pe_int (nomark _)) (pw_or1 (pt_cmpR op_notIn_sign (pv 2) (ks T.t_VALUES) rfl)))) pss_never pss_nil)
        (pss_one (ps_ret (pe_callTy call_int_str rfl T.f_int PySem.Pv.boot_int (pa_cons (pv 2) pa_nil))))))))))), ?_⟩
      obtain ⟨dx, hp⟩ := hw.at_
      have hd0 : decide (V.int ((d + 1 : Nat) : Int) = V.int 0) = false := decide_eq_false fun z => by have := V.int.inj z; omega
      cases Tm.fst hwf with
      | val n hn =>
        obtain ⟨e1, e2, e3, e4, e5, e6⟩ := num_not n (by omega)
        have hnl := num_len (n := n) (by omega)
        refine ⟨_, rfl, p, dx, _, rfl, hp, rfl, p, l, num n, rest, rfl, hw, fun H1 k1 w1 => ?_⟩
        obtain ⟨dx1, hp1⟩ := w1.at_
        refine ⟨_, rfl, rfl, false, congrArg V.bl hd0, iteF ⟨_, rfl, p, _, dx1, _, _, rfl, hp1, T.c_Words, T.n_Words_is_bad, rfl, false, rfl, iteF ?_⟩⟩
        refine ⟨_, rfl, _, _, rfl, .inr (T.pairs H1), rfl, rfl, false, congrArg V.bl e1, iteF ⟨_, rfl, rfl, false, congrArg V.bl e2, iteF ?_⟩⟩
        refine ⟨_, rfl, rfl, false, congrArg V.bl e3, iteF ⟨_, rfl, rfl, false, congrArg V.bl e4, iteF ⟨_, rfl, rfl, false, congrArg V.bl e5, iteF ⟨_, rfl, rfl, false, congrArg V.bl e6, iteF ?_⟩⟩⟩⟩
        refine ⟨_, rfl, num n, rfl, le_line (by omega), rfl, false, by rw [hnl]; simp, iteF ?_⟩
        refine ⟨_, rfl, 48 + n, _, by rw [num_eq n (by omega)], rfl, false, by rw [in_vals n (by omega)]; rfl, iteF ?_⟩
        exact ⟨_, rfl, num n, n, rfl, int_num n (by omega), by omega, q _ H1 k1 w1 rfl⟩
      | arg i hi =>
        refine ⟨_, rfl, p, dx, _, rfl, hp, rfl, p, l, "arg", num i :: rest, rfl, hw, fun H1 k1 w1 => ?_⟩
        obtain ⟨dx1, hp1⟩ := w1.at_
        refine ⟨_, rfl, rfl, false, congrArg V.bl hd0, iteF ⟨_, rfl, p, _, dx1, _, _, rfl, hp1, T.c_Words, T.n_Words_is_bad, rfl, false, rfl, iteF ?_⟩⟩
        refine ⟨_, rfl, _, _, rfl, .inr (T.pairs H1), rfl, rfl, false, congrArg V.bl (by decide +kernel), iteF ⟨_, rfl, rfl, false, congrArg V.bl (by decide +kernel), iteF ?_⟩⟩
        refine ⟨_, rfl, rfl, false, congrArg V.bl (by decide +kernel), iteF ⟨_, rfl, rfl, true, congrArg V.bl (by decide +kernel), iteT ?_⟩⟩
        refine ⟨_, rfl, p, dx1, _, rfl, hp1, rfl, p, l, i, 0, 1, rest, rfl, w1, by omega, by omega, by omega, fun H2 k2 w2 => ⟨(by show 2 ≤ sizeLine; decide), fun r hr' => ?_⟩⟩
        exact q _ _ (k1.trans (k2.trans (Kp.of (Same.upd hr') w2.left))) (w2.same (Same.upd hr')) ⟨r, rfl, SqT.of upd_same⟩
      | cell c hc =>
        refine ⟨_, rfl, p, dx, _, rfl, hp, rfl, p, l, "cell", c :: rest, rfl, hw, fun H1 k1 w1 => ?_⟩
        obtain ⟨dx1, hp1⟩ := w1.at_
        refine ⟨_, rfl, rfl, false, congrArg V.bl hd0, iteF ⟨_, rfl, p, _, dx1, _, _, rfl, hp1, T.c_Words, T.n_Words_is_bad, rfl, false, rfl, iteF ?_⟩⟩
        refine ⟨_, rfl, _, _, rfl, .inr (T.pairs H1), rfl, rfl, false, congrArg V.bl (by decide +kernel), iteF ⟨_, rfl, rfl, false, congrArg V.bl (by decide +kernel), iteF ?_⟩⟩
        refine ⟨_, rfl, rfl, false, congrArg V.bl (by decide +kernel), iteF ⟨_, rfl, rfl, false, congrArg V.bl (by decide +kernel), iteF ⟨_, rfl, rfl, true, congrArg V.bl (by decide +kernel), iteT ?_⟩⟩⟩
        refine ⟨_, rfl, p, dx1, _, rfl, hp1, rfl, p, l, c, rest, rfl, w1, hc, fun H2 k2 w2 => ⟨(by show 2 ≤ sizeLine; decide), fun r hr' => ?_⟩⟩
        exact q _ _ (k1.trans (k2.trans (Kp.of (Same.upd hr') w2.left))) (w2.same (Same.upd hr')) ⟨r, rfl, SqT.of upd_same⟩
      | tick =>
        refine ⟨_, rfl, p, dx, _, rfl, hp, rfl, p, l, "tick", rest, rfl, hw, fun H1 k1 w1 => ?_⟩
        obtain ⟨dx1, hp1⟩ := w1.at_
        refine ⟨_, rfl, rfl, false, congrArg V.bl hd0, iteF ⟨_, rfl, p, _, dx1, _, _, rfl, hp1, T.c_Words, T.n_Words_is_bad, rfl, false, rfl, iteF ?_⟩⟩
        refine ⟨_, rfl, _, _, rfl, .inr (T.pairs H1), rfl, rfl, false, congrArg V.bl (by decide +kernel), iteF ⟨_, rfl, rfl, false, congrArg V.bl (by decide +kernel), iteF ?_⟩⟩
        refine ⟨_, rfl, rfl, false, congrArg V.bl (by decide +kernel), iteF ⟨_, rfl, rfl, false, congrArg V.bl (by decide +kernel), iteF ⟨_, rfl, rfl, false, congrArg V.bl (by decide +kernel), iteF ⟨_, rfl, rfl, true, congrArg V.bl (by decide +kernel), iteT ?_⟩⟩⟩⟩
        refine ⟨(by show 1 ≤ sizeLine; decide), fun r hr' => ?_⟩
        exact q _ _ (k1.trans (Kp.of (Same.upd hr') w1.left)) (w1.same (Same.upd hr')) ⟨r, rfl, SqT.of upd_same⟩
      | node k hsh hws hkk =>
        rw [hws, List.cons_append] at hw
        have hkid : ∀ x ∈ t.kids, x.wf m ∧ x.depth ≤ d := fun x hx => ⟨Tm.wf_kids hwf x hx, by have := t.depth_eq x hx; omega⟩
        refine ⟨_, rfl, p, dx, _, rfl, hp, rfl, p, l, k, _, rfl, hw, fun H1 k1 w1 => ?_⟩
        obtain ⟨dx1, hp1⟩ := w1.at_
        refine ⟨_, rfl, rfl, false, congrArg V.bl hd0, iteF ⟨_, rfl, p, _, dx1, _, _, rfl, hp1, T.c_Words, T.n_Words_is_bad, rfl, false, rfl, iteF ?_⟩⟩
        have fin : ∀ (H2 : Hp) (vs : List V), Kp l H1 H2 → Wst K H2 p l rest → TVs K H2 t.kids vs → ∀ r, H2 r = none → Q (.ref r) (upd H2 r (.tup (V.str k :: (vs ++ [])))) := by
          intro H2 vs k2 w2 tv r hr'
          refine q _ _ (k1.trans (k2.trans (Kp.of (Same.upd hr') w2.left))) (w2.same (Same.upd hr')) (TV.of_node hsh (SqT.of (by rw [upd_same, List.append_nil])) (TVs.nl (NL.of (Same.upd hr')) tv))
        rcases hkk with ⟨e1, e2, e3⟩ | ⟨e1, e2, e3⟩
        · refine ⟨_, rfl, _, _, rfl, .inr (T.pairs H1), rfl, rfl, true, congrArg V.bl e1, iteT ?_⟩
          refine ⟨_, rfl, _, rfl, rfl, false, congrArg V.bl e2, iteF ⟨2, rfl, by decide, by decide, fun D hD => ?_⟩⟩
          refine pull_kids hm w1 hD hk3 (by rw [e3]; rfl) hkid (fun _ => rfl) (fun _ => rfl) (fun _ => rfl) _ fun H2 vs k2 w2 hvs tv => ?_
          exact ⟨D, vs, rfl, .inr (SqL.of hvs), le_line (by have := Paired.len tv; simp; omega), fin H2 vs k2 w2 tv⟩
        · subst e2
          refine ⟨_, rfl, _, _, rfl, .inr (T.pairs H1), rfl, rfl, false, congrArg V.bl e1, iteF ⟨_, rfl, rfl, true, congrArg V.bl (decide_eq_true rfl), iteT ?_⟩⟩
          refine ⟨_, rfl, _, rfl, rfl, true, congrArg V.bl (decide_eq_true rfl), iteT ⟨3, rfl, by decide, by decide, fun D hD => ?_⟩⟩
          refine pull_kids hm w1 hD hk3 (by rw [e3]; rfl) hkid (fun _ => rfl) (fun _ => rfl) (fun _ => rfl) _ fun H2 vs k2 w2 hvs tv => ?_
          exact ⟨D, vs, rfl, .inr (SqL.of hvs), le_line (by have := Paired.len tv; simp; omega), fin H2 vs k2 w2 tv⟩
      | call g hsh hg hws =>
        rw [hws, List.cons_append, List.cons_append, List.cons_append] at hw
        have hkid : ∀ x ∈ t.kids, x.wf m ∧ x.depth ≤ d := fun x hx => ⟨Tm.wf_kids hwf x hx, by have := t.depth_eq x hx; omega⟩
        have hk2 : t.kids.length ≤ 2 := by
          cases t <;> simp [Tm.sh] at hsh <;> simp [Tm.kids]
        refine ⟨_, rfl, p, dx, _, rfl, hp, rfl, p, l, "call", _, rfl, hw, fun H1 k1 w1 => ?_⟩
        obtain ⟨dx1, hp1⟩ := w1.at_
        refine ⟨_, rfl, rfl, false, congrArg V.bl hd0, iteF ⟨_, rfl, p, _, dx1, _, _, rfl, hp1, T.c_Words, T.n_Words_is_bad, rfl, false, rfl, iteF ?_⟩⟩
        refine ⟨_, rfl, _, _, rfl, .inr (T.pairs H1), rfl, rfl, false, congrArg V.bl (by decide +kernel), iteF ⟨_, rfl, rfl, false, congrArg V.bl (by decide +kernel), iteF ?_⟩⟩
        refine ⟨_, rfl, rfl, true, congrArg V.bl (by decide +kernel), iteT ?_⟩
        refine ⟨_, rfl, p, dx1, _, rfl, hp1, rfl, p, l, g, _, rfl, w1, hg, fun H2 k2 w2 => ?_⟩
        obtain ⟨dx2, hp2⟩ := w2.at_
        refine ⟨_, rfl, p, dx2, _, rfl, hp2, rfl, p, l, t.kids.length, 0, 2, _, rfl, w2, by omega, by omega, by omega, fun H3 k3 w3 => ?_⟩
        refine ⟨_, _, rfl, ?_⟩
        refine ⟨_, rfl, _, rfl, _, rfl, by omega, by omega, fun D hD => ?_⟩
        refine pull_kids hm w3 hD hk3 (by simp) hkid (fun _ => rfl) (fun _ => rfl) (fun _ => rfl) _ fun H4 vs k4 w4 hvs tv => ?_
        refine ⟨D, vs, rfl, .inl ⟨SqL.of hvs, fun r1 hr1 => ⟨(by show 3 ≤ sizeLine; decide), fun r2 hr2 => ?_⟩⟩⟩
        have s5 : Same H4 (upd H4 r1 (.tup vs)) := Same.upd hr1
        have s6 := Same.upd' s5 hr2 (o := .tup [.str "call", .str g, .ref r1])
        exact q _ _ (k1.trans (k2.trans (k3.trans (k4.trans (Kp.of s6 w4.left))))) (w4.same s6) (TV.of_call hsh (SqT.of upd_same) (SqT.of (Same.upd hr2 _ _ upd_same)) (TVs.nl (NL.of s6) tv))
/-! ### texts.py: term_in -/
def spTermIn (K : PySem.W.Frag) : Sp := fun vs H Q _ => ∃ (a : Addr) (m : Nat) (t : Tm), vs = [.ref a, .int (m : Nat)] ∧ SqL K H a (t.words.map V.str) ∧ t.wf m ∧ m ≤ 2 ∧ t.depth ≤ 8 ∧ t.size ≤ 30 ∧ ∀ v H', Same H H' → TV K H' t v → Q v H'
theorem c_term_in (T : Top K mg) : Cal P w K mg base 12 "term_in" (spTermIn K) := by
  refine mkCal T.d_term_in sc_term_in b_term_in (fun vs H Q E h => ?_) (fun f cdv A outer s H vs Q E hr h => ?_)
  · obtain ⟨a, m, t, rfl, _⟩ := h
    rfl
  · obtain ⟨a, m, t, rfl, ha, hwf, hm, hd, hs, q⟩ := h
    have nd := sc_term_in.nd
    refine ⟨_, pss_cons (ps_set (i := 2) nd rfl (Or.inl rfl) (cmk (c_Words T) hr (pa_cons (pv 0) pa_nil)))
      (pss_cons (ps_set (i := 3) nd rfl (Or.inl rfl) (cc (c_pulled_term T 8) hr (pa_cons (pv 2) (pa_cons (ki T.i_MOST_DEPTH) pa_nil))))
      (pss_one (ps_ret (pe_ifExp (PW.pt (pw_and (pt_val (cm0 (c_is_done T) hr (pv 2))) (pw_and1 (pt_val (cc (c_is_term T) hr (pa_cons (pv 3) (pa_cons (pv 1) pa_nil))))))) (pv 3) pe_non)))), ?_⟩
    refine ⟨_, rfl, fun x dx nx ndx nex => ?_⟩
    have s1 : Same H (upd (upd H dx (.own x)) x (.ins (He.ga K "Words") dx [])) := by
      intro c o e
      rw [upd_ne (ne_of_none e nx), upd_ne (ne_of_none e ndx)]
      exact e
    refine ⟨x, dx, a, t.words, rfl, upd_same, s1.seq ha, fun l H2 b2 hl w2 => ⟨rfl, ?_⟩⟩
    have s2 : Same H H2 := fun c o e => b2 c o (s1 c o e) (ne_of_none e nx)
    have hlH : H l = none := Same.free s1 hl
    refine ⟨_, rfl, x, l, t, m, [], rfl, by rw [List.append_nil]; exact w2, hwf, hm, hd, fun v H3 k3 w3 tv => ?_⟩
    obtain ⟨dx3, hp3⟩ := w3.at_
    refine ⟨_, rfl, x, dx3, _, rfl, hp3, rfl, x, l, rfl, w3, fun H4 s4 => ⟨true, rfl, iteT ?_⟩⟩
    refine ⟨_, rfl, _, rfl, v, t, m, rfl, tv.nl (NL.of s4), hwf, hs, hd, fun H5 s5 => ⟨true, rfl, iteT ⟨_, rfl, ?_⟩⟩⟩
    have s45 := s4.trans s5
    exact q v H5 (fun c o e => s45 c o (k3.but c o (s2 c o e) (ne_of_none e hlH))) (tv.nl (NL.of s45))
end
end K80
namespace K80
open PySem PySem.Spec PyProof.Rows L2
/-- lists of texts, in a list -/
def RowAt (H : Hp) (r : List Str) (v : V) : Prop := ∃ a, v = .ref a ∧ H a = some (.lst (r.map V.str))
def Lol (H : Hp) (l : Addr) (rs : List (List Str)) : Prop := ∃ ps, H l = some (.lst ps) ∧ Paired (RowAt H) rs ps
theorem RowAt.same {H H' : Hp} (s : Same H H') {r : List Str} {v : V} (h : RowAt H r v) : RowAt H' r v := let ⟨a, e, h⟩ := h; ⟨a, e, s _ _ h⟩
theorem Lol.same {H H' : Hp} (s : Same H H') {l : Addr} {rs : List (List Str)} (h : Lol H l rs) : Lol H' l rs := let ⟨ps, h, p⟩ := h; ⟨ps, s _ _ h, Paired.mapP p fun _ _ => RowAt.same s⟩
/-! ### slices of lists -/
theorem cut2 {k j : V} {vs : List V} : cutV (k :: j :: vs) (some 2) none = vs := by
  unfold cutV
  rw [show HT.sIx (k :: j :: vs).length 0 (some 2) = min 2 (k :: j :: vs).length from HT.sIx_nat _ 0 2, List.length_cons, List.length_cons, HT.sIx_none, show min 2 (vs.length + 1 + 1) = 2 by omega]
  simp
theorem cutTo1 {vs : List V} : cutV vs none (some 1) = vs.take 1 := by
  unfold cutV
  rw [HT.sIx_none, show HT.sIx vs.length vs.length (some 1) = min 1 vs.length from HT.sIx_nat _ _ 1]
  cases vs <;> simp
theorem TV.ne_non {K : PySem.W.Frag} {H : Hp} {t : Tm} {v : V} (h : TV K H t v) : decide (v = .non) = false := by
  cases h.by_sh <;> exact decide_eq_false fun z => by cases z
theorem ty_len {b : List (List Str)} (h : ∀ r ∈ b, RowOk r) (hl : b.length ≤ 30) : (ty (b.map tx)).length ≤ 40000 := by
  have h1 := wl_const (n := 1000) (ws := b.map tx) fun w hw => by
    obtain ⟨r, hr, rfl⟩ := List.mem_map.mp hw
    exact row_len (h r hr)
  have h2 := len_ty (b.map tx)
  rw [List.length_map] at h1
  omega
theorem len1s : ((" " : Str).length == 0) = false := by decide +kernel
theorem len1n : (("\n" : Str).length == 0) = false := by decide +kernel
section
variable {P : Program} {w : World} {K : PySem.W.Frag} {mg : Str → Option Value} {base : Heap}
/-! ### texts.py: the rows of a text -/
def spRowsIn : Sp := fun vs H Q _ => ∃ rs : List (List Str), vs = [.str (ty (rs.map tx))] ∧ rs ≠ [] ∧ rs.length ≤ 30 ∧ (∀ r ∈ rs, RowOk r) ∧ ∀ l H', Same H H' → H l = none → Lol H' l (rs ++ [[]]) → Q (.ref l) H'
theorem c_rows_in (T : Top K mg) : Cal P w K mg base 1 "rows_in" spRowsIn := by
  refine mkCal T.d_rows_in sc_rows_in b_rows_in (fun vs H Q E h => ?_) (fun f cdv A outer s H vs Q E hr h => ?_)
  · obtain ⟨rs, rfl, _⟩ := h
    rfl
  · obtain ⟨rs, rfl, hne, hlen, hrs, q⟩ := h
    have nd := sc_rows_in.nd
    refine ⟨_, pss_cons (ps_if (pt_not (pt_val (pisi T.f_isinstance T.f_str boot_str (pv 0)))) pss_never pss_nil)
      (pss_one (ps_ret (pe_lst (StX.pa_star (plc n_rows_in (defScope s_rows_in) 1 nd (pi_list (pe_split (pv 0) pe_str)) (te := tM1 (fun x xs H Q => ∃ a b, x = .str a ∧ xs = [.str b] ∧ (b.length == 0) = false ∧ a.length + 2 ≤ sizeLine ∧ rNewStrs (Txt.split a b) H Q) (tVar 1) (tC (.str " ")))
        (fun _ _ _ _ _ => pe_split (pv 1) pe_str)) (pa_cons (pe_lst pa_nil) pa_nil))))), ?_⟩
    have hl := ty_len hrs hlen
    have esp : Txt.split (ty (rs.map tx)) "\n" = rs.map tx := split_ty (by simpa using hne) fun w hw => by
      obtain ⟨r, hr', rfl⟩ := List.mem_map.mp hw
      exact tx_no10 fun z hz => ((hrs r hr').2.1 z hz).2.1
    refine ⟨_, rfl, isi (.base (.str _)) ⟨true, rfl, iteF ?_⟩⟩
    refine ⟨_, rfl, ⟨_, rfl⟩, _, _, rfl, rfl, len1n, by rw [sizeLine_eq]; omega, fun r0 hr0 => ?_⟩
    rw [esp]
    have s0 : Same H (upd H r0 (.lst ((rs.map tx).map V.str))) := Same.upd hr0
    refine ⟨r0, rfl, ⟨_, SqL.of upd_same⟩, fun D hD => ?_⟩
    refine lc_gen (walk_list (xs := (rs.map tx).map V.str)) (by simp; omega) (fun i H2 => Same (upd H r0 (.lst ((rs.map tx).map V.str))) H2) (fun j y H2 => ∃ r a, rs[j]? = some r ∧ y = .ref a ∧ a ≠ D ∧ H2 a = some (.lst (r.map V.str))) (Same.upd hD) (fun _ _ _ s => s.seq (SqL.of upd_same)) ?_ ?_ ?_ ?_
    · exact fun i H2 z z' s h => Same.put s hD
    · rintro j y H2 z z' ⟨r, a, e1, e2, e3, e4⟩ h
      exact ⟨r, a, e1, e2, e3, by rw [upd_ne e3]; exact e4⟩
    · rintro i x H2 H3 acc Qk hi s2 hacc ⟨rfl, hx⟩ kk
      rw [List.getElem?_map] at hx
      obtain ⟨tr, htr, rfl⟩ := Option.map_eq_some_iff.mp hx
      rw [List.getElem?_map] at htr
      obtain ⟨r, hri, rfl⟩ := Option.map_eq_some_iff.mp htr
      have hro := hrs r (List.mem_of_getElem? hri)
      have hrl := row_len hro
      have e5 : Txt.split (tx r) " " = r := split_tx hro.1 fun z hz => (hro.2.1 z hz).1
      refine ⟨rfl, _, rfl, ⟨_, rfl⟩, _, _, rfl, rfl, len1s, by rw [sizeLine_eq]; omega, fun a ha => ?_⟩
      rw [e5]
      have haD : a ≠ D := (ne_of_none hacc ha).symm
      refine kk _ _ (Same.upd ha _ _ hacc) (s2.trans (Same.upd ha)) ⟨r, a, hri, rfl, haD, upd_same⟩ ?_
      rintro j z hz ⟨r', a', e1, e2, e3, e4⟩
      exact ⟨r', a', e1, e2, e3, Same.upd ha _ _ e4⟩
    · intro H2 acc s2 a2
      have e := a2.2.1
      rw [List.length_map, List.length_map] at e
      refine ⟨D, acc, rfl, .inr (SqL.of a2.1), (by show 0 ≤ sizeLine; decide), fun e1 he1 => ?_⟩
      refine ⟨le_line (by simp; omega), fun l hl' => ?_⟩
      have s3 : Same H2 (upd H2 e1 (.lst [])) := Same.upd he1
      have s4 : Same H2 (upd (upd H2 e1 (.lst [])) l (.lst (acc ++ [.ref e1]))) := Same.upd' s3 hl'
      have last : RowAt (upd (upd H2 e1 (.lst [])) l (.lst (acc ++ [.ref e1]))) [] (.ref e1) := ⟨e1, rfl, Same.upd hl' _ _ upd_same⟩
      have rest : Paired (RowAt (upd (upd H2 e1 (.lst [])) l (.lst (acc ++ [.ref e1])))) rs acc := Paired.of_get e.symm fun i r y z1 z2 => by
        obtain ⟨r', a', g1, g2, g3, g4⟩ := a2.2.2 i y z2
        rw [z1] at g1
        cases g1
        exact ⟨a', g2, s4 _ _ g4⟩
      exact q l _ ((s0.trans s2).trans s4) (Same.free ((s0.trans s2).trans s3) hl') ⟨_, upd_same, Paired.snoc last rest⟩
def spCellIn (K : PySem.W.Frag) : Sp := fun vs H Q _ => ∃ (a : Addr) (c : Str × Str), vs = [.ref a] ∧ SqL K H a ((cellRow c).map V.str) ∧ Nm c.1 ∧ IsKind c.2 ∧ ∀ p H', Same H H' → H p = none → CellAt K H' c (.ref p) → Q (.ref p) H'
theorem c_cell_in (T : Top K mg) : Cal P w K mg base 4 "cell_in" (spCellIn K) := by
  refine mkCal T.d_cell_in sc_cell_in b_cell_in (fun vs H Q E h => ?_) (fun f cdv A outer s H vs Q E hr h => ?_)
  · obtain ⟨a, c, rfl, _⟩ := h
    rfl
  · obtain ⟨a, c, rfl, ha, hn, hk, q⟩ := h
    refine ⟨_, pss_cons (ps_if (PW.pt (pw_or (pt_cmpR op_ne (plen T.f_len (pv 0)) pe_int (nomark _)) (pw_or (pt_cmpR op_ne (pe_ix ix_list (pv 0) pe_int (fun _ _ => rfl)) pe_str (nomark _))
        (pw_or (pt_not (pt_val (cc (c_is_name T) hr (pa_cons (pe_ix ix_list (pv 0) pe_int (fun _ _ => rfl)) pa_nil)))) (pw_or1 (pt_cmpR op_notIn_seq (pe_ix ix_list (pv 0) pe_int (fun _ _ => rfl)) (kr T.g_KINDS) rfl)))))) (pss_one (ps_ret pe_non)) pss_nil)
      (pss_one (ps_ret (cmk (c_Cell T) hr (pa_cons (pe_ix ix_list (pv 0) pe_int (fun _ _ => rfl)) (pa_cons (pe_ix ix_list (pv 0) pe_int (fun _ _ => rfl)) pa_nil))))), ?_⟩
    have i0 : atI ((cellRow c).map V.str) 0 = some (V.str "cell") := atI_nat (j := 0) rfl
    have i1 : atI ((cellRow c).map V.str) 1 = some (V.str c.1) := atI_nat (j := 1) rfl
    have i2 : atI ((cellRow c).map V.str) 2 = some (V.str c.2) := atI_nat (j := 2) rfl
    refine ⟨_, rfl, _, 3, rfl, .inl ⟨_, ha, rfl⟩, rfl, false, congrArg V.bl (by decide +kernel), iteF ?_⟩
    refine ⟨_, rfl, _, _, _, _, rfl, rfl, ha, i0, rfl, false, congrArg V.bl (by decide +kernel), iteF ?_⟩
    refine ⟨_, rfl, _, _, _, _, rfl, rfl, ha, i1, c.1, rfl, hn, fun H1 s1 => ⟨true, rfl, iteF ?_⟩⟩
    refine ⟨_, rfl, _, _, _, _, rfl, rfl, s1.seq ha, i2, _, _, rfl, .inr (T.kinds H1), rfl, rfl, _, rfl, ?_⟩
    rw [in_kinds hk]
    refine iteF ⟨_, rfl, _, _, _, _, rfl, rfl, s1.seq ha, i1, _, rfl, _, _, _, _, rfl, rfl, s1.seq ha, i2, fun x dx nx ndx nex => ?_⟩
    refine ⟨x, dx, c.1, c.2, rfl, upd_same, hn, hk, fun H2 h2 b2 => ⟨rfl, q x H2 (fun a o e => ?_) (Same.free s1 nx) ⟨x, dx, rfl, h2⟩⟩⟩
    have e1 := s1 _ _ e
    exact b2 a o (by rw [upd_ne (ne_of_none e1 nx), upd_ne (ne_of_none e1 ndx)]; exact e1) (ne_of_none e1 nx)
def spIsCost : Sp := fun vs H Q _ => ∃ n : Nat, vs = [.str (num n)] ∧ n < 10 ∧ ∀ H', Same H H' → Q (.bl true) H'
theorem c_is_cost (T : Top K mg) : Cal P w K mg base 1 "is_cost" spIsCost := by
  refine mkCal T.d_is_cost sc_is_cost b_is_cost (fun vs H Q E h => ?_) (fun f cdv A outer s H vs Q E hr h => ?_)
  · obtain ⟨n, rfl, _⟩ := h
    rfl
  · obtain ⟨n, rfl, hn, q⟩ := h
    have hnl := num_len hn
    refine ⟨_, pss_cons (ps_if (PW.pt (pw_or (pt_not (pt_chain op_le op_le pe_int (plen T.f_len (pv 0)) pe_int)) (pw_or1 (pt_not (pt_val (pall T.f_all (plc n_is_cost (defScope s_is_cost) 1 sc_is_cost.nd (pi_str (pv 0)) (fun _ _ _ _ _ => pe_cmpR op_in_sign (pv 1) (ks T.t_FIGURES) rfl))))))))
        (pss_one (ps_ret pe_bl)) pss_nil)
      (pss_one (ps_ret (pe_or (pe_cmpR op_eq (plen T.f_len (pv 0)) pe_int (nomark _)) (pe_one (pe_cmpR op_ne (pe_ix ix_str (pv 0) pe_int (fun _ _ => rfl)) pe_str (nomark _)))))), ?_⟩
    have hz : (num n).length ≤ sizeLine := le_line (by omega)
    refine ⟨_, rfl, _, (num n).length, rfl, ⟨hz, rfl⟩, 1, ((num n).length : Int), rfl, rfl, true, by rw [hnl]; rfl, iteT ⟨_, _, rfl, rfl, true, by rw [hnl]; rfl, iteF ?_⟩⟩
    refine ⟨_, rfl, _, rfl, fun D hD => ?_⟩
    refine lc_same walk_str (by have e : (num n).length = (num n).cps.size := rfl; omega) hD (fun j y _ => y = .bl ((fun _ => true) j)) (fun _ _ => trivial) (fun _ _ _ _ _ r => r) ?_ ?_
    · rintro i x H1 H2 Qk hi s1 ⟨rfl, c, hc, rfl⟩ k
      refine ⟨rfl, _, rfl, c, _, rfl, rfl, ?_⟩
      have e : c = 48 + n := by
        rw [num_eq n hn] at hc
        cases i with
        | zero => exact (Option.some.inj hc).symm
        | succ i => simp at hc
      rw [e, in_figs n hn]
      exact k _ _ (Same.refl _) rfl
    · intro H1 acc s1 a
      refine ⟨D, _, rfl, SqL.of (by rw [a.1, acc_bl a]), ?_⟩
      rw [all_range (fun _ _ => rfl)]
      refine ⟨true, rfl, iteF ?_⟩
      refine ⟨_, rfl, _, (num n).length, rfl, ⟨hz, rfl⟩, rfl, true, by rw [hnl]; rfl, iteT (q _ s1)⟩
/-- the words of a head -/
def Fd.headRow (f : Fd) : List Str := ["function", f.name, num f.many, f.label, num f.cost]
def spIsHead (K : PySem.W.Frag) : Sp := fun vs H Q _ => ∃ (a : Addr) (f : Fd), vs = [.ref a] ∧ SqL K H a (f.headRow.map V.str) ∧ f.Fm ∧ ∀ H', Same H H' → Q (.bl true) H'
theorem c_is_head (T : Top K mg) : Cal P w K mg base 2 "is_head" (spIsHead K) := by
  refine mkCal T.d_is_head sc_is_head b_is_head (fun vs H Q E h => ?_) (fun f cdv A outer s H vs Q E hr h => ?_)
  · obtain ⟨a, f, rfl, _⟩ := h
    rfl
  · obtain ⟨a, f, rfl, ha, hf, q⟩ := h
    refine ⟨_, pss_cons (ps_if (PW.pt (pw_or (pt_cmpR op_ne (plen T.f_len (pv 0)) pe_int (nomark _)) (pw_or (pt_cmpR op_ne (pe_ix ix_list (pv 0) pe_int (fun _ _ => rfl)) pe_str (nomark _))
        (pw_or (pt_not (pt_val (cc (c_is_name T) hr (pa_cons (pe_ix ix_list (pv 0) pe_int (fun _ _ => rfl)) pa_nil)))) (pw_or1 (pt_not (pt_val (cc (c_is_label_name T) hr (pa_cons (pe_ix ix_list (pv 0) pe_int (fun _ _ => rfl)) pa_nil))))))))) (pss_one (ps_ret pe_bl)) pss_nil)
      (pss_one (ps_ret (pe_and (pe_cmpR op_eq (plen T.f_len (pe_ix ix_list (pv 0) pe_int (fun _ _ => rfl))) pe_int (nomark _)) (pe_and (pe_cmpR op_in_sign (pe_ix ix_list (pv 0) pe_int (fun _ _ => rfl)) (ks T.t_VALUES) rfl)
        (pe_one (cc (c_is_cost T) hr (pa_cons (pe_ix ix_list (pv 0) pe_int (fun _ _ => rfl)) pa_nil))))))), ?_⟩
    have i0 : atI (f.headRow.map V.str) 0 = some (V.str "function") := atI_nat (j := 0) rfl
    have i1 : atI (f.headRow.map V.str) 1 = some (V.str f.name) := atI_nat (j := 1) rfl
    have i2 : atI (f.headRow.map V.str) 2 = some (V.str (num f.many)) := atI_nat (j := 2) rfl
    have i3 : atI (f.headRow.map V.str) 3 = some (V.str f.label) := atI_nat (j := 3) rfl
    have i4 : atI (f.headRow.map V.str) 4 = some (V.str (num f.cost)) := atI_nat (j := 4) rfl
    have b1 := hf.many
    have hnl := num_len (n := f.many) (by omega)
    have hz : (num f.many).length ≤ sizeLine := le_line (by omega)
    refine ⟨_, rfl, _, 5, rfl, .inl ⟨_, ha, rfl⟩, rfl, false, congrArg V.bl (by decide +kernel), iteF ?_⟩
    refine ⟨_, rfl, _, _, _, _, rfl, rfl, ha, i0, rfl, false, congrArg V.bl (by decide +kernel), iteF ?_⟩
    refine ⟨_, rfl, _, _, _, _, rfl, rfl, ha, i1, f.name, rfl, hf.name, fun H1 s1 => ⟨true, rfl, iteF ?_⟩⟩
    refine ⟨_, rfl, _, _, _, _, rfl, rfl, s1.seq ha, i3, f.label, rfl, hf.label, true, rfl, iteF ?_⟩
    refine ⟨_, rfl, _, _, _, _, rfl, rfl, s1.seq ha, i2, _, (num f.many).length, rfl, ⟨hz, rfl⟩, rfl, true, by rw [hnl]; rfl, iteT ?_⟩
    refine ⟨_, rfl, _, _, _, _, rfl, rfl, s1.seq ha, i2, 48 + f.many, _, by rw [num_eq f.many (by omega)], rfl, true, by rw [in_vals f.many (by omega)], iteT ?_⟩
    exact ⟨_, rfl, _, _, _, _, rfl, rfl, s1.seq ha, i4, f.cost, rfl, hf.cost, fun H2 s2 => q H2 (s1.trans s2)⟩
def spWriteIn (K : PySem.W.Frag) : Sp := fun vs H Q _ => ∃ (a : Addr) (m : Nat) (q : Str × Tm), vs = [.ref a, .int (m : Nat)] ∧ SqL K H a ((("write" :: q.1 :: q.2.words : List Str)).map V.str) ∧ Nm q.1 ∧ q.2.wf m ∧ m ≤ 2 ∧ q.2.depth ≤ 8 ∧ q.2.size ≤ 30 ∧ ∀ v H', Same H H' → WrAt K H' q v → Q v H'
theorem c_write_in (T : Top K mg) : Cal P w K mg base 13 "write_in" (spWriteIn K) := by
  refine mkCal T.d_write_in sc_write_in b_write_in (fun vs H Q E h => ?_) (fun f cdv A outer s H vs Q E hr h => ?_)
  · obtain ⟨a, m, f, rfl, _⟩ := h
    rfl
  · obtain ⟨a, m, qw, rfl, ha, hn, hwf, hm, hd, hs, q⟩ := h
    have nd := sc_write_in.nd
    refine ⟨_, pss_cons (ps_if (PW.pt (pw_or (pt_cmpR op_lt (plen T.f_len (pv 0)) pe_int (nomark _)) (pw_or (pt_cmpR op_ne (pe_ix ix_list (pv 0) pe_int (fun _ _ => rfl)) pe_str (nomark _))
        (pw_or1 (pt_not (pt_val (cc (c_is_name T) hr (pa_cons (pe_ix ix_list (pv 0) pe_int (fun _ _ => rfl)) pa_nil)))))))) (pss_one (ps_ret pe_non)) pss_nil)
      (pss_cons (ps_set (i := 2) nd rfl (Or.inl rfl) (cc (c_term_in T) hr (pa_cons (pe_slice sl_list (pv 0) (po_some pe_int) po_none) (pa_cons (pv 1) pa_nil))))
      (pss_one (ps_ret (pe_ifExp (pt_cmp (pc_isN (pv 2)) rfl) pe_non (pe_tup (pa_cons (pe_ix ix_list (pv 0) pe_int (fun _ _ => rfl)) (pa_cons (pv 2) pa_nil))))))), ?_⟩
    have i0 : atI (("write" :: qw.1 :: qw.2.words : List Str).map V.str) 0 = some (V.str "write") := atI_nat (j := 0) rfl
    have i1 : atI (("write" :: qw.1 :: qw.2.words : List Str).map V.str) 1 = some (V.str qw.1) := atI_nat (j := 1) rfl
    have hwl : 1 ≤ qw.2.words.length := List.length_pos_iff.mpr qw.2.words_ne
    refine ⟨_, rfl, _, _, rfl, .inl ⟨_, ha, rfl⟩, _, _, rfl, rfl, false, congrArg V.bl (decide_eq_false (by simp; omega)), iteF ?_⟩
    refine ⟨_, rfl, _, _, _, _, rfl, rfl, ha, i0, rfl, false, congrArg V.bl (by decide +kernel), iteF ?_⟩
    refine ⟨_, rfl, _, _, _, _, rfl, rfl, ha, i1, qw.1, rfl, hn, fun H1 s1 => ⟨true, rfl, iteF ?_⟩⟩
    refine ⟨_, rfl, 2, rfl, a, _, rfl, s1.seq ha, fun r hr' => ?_⟩
    rw [List.map_cons, List.map_cons, cut2]
    have s2 : Same H (upd H1 r (.lst (qw.2.words.map V.str))) := Same.upd' s1 hr'
    refine ⟨_, rfl, r, m, qw.2, rfl, SqL.of upd_same, hwf, hm, hd, hs, fun v H3 s3 tv => ?_⟩
    have s23 := s2.trans s3
    refine ⟨_, rfl, false, congrArg V.bl tv.ne_non, iteF ?_⟩
    refine ⟨_, rfl, _, _, _, _, rfl, rfl, s23.seq ha, i1, _, rfl, (by show 2 ≤ sizeLine; decide), fun t ht => ?_⟩
    exact q _ _ (Same.upd' s23 ht) ⟨t, v, rfl, SqT.of upd_same, tv.nl (NL.of (Same.upd ht))⟩
end
end K80
namespace K80
open PySem PySem.Spec PyProof.Rows L2
theorem cut1s {k : Str} {ws : List Str} : cutV ((k :: ws).map V.str) (some 1) none = ws.map V.str := cut1
theorem cutTo1s {ws : List Str} : cutV (ws.map V.str) none (some 1) = (ws.take 1).map V.str := by
  rw [cutTo1, List.map_take]
/-- what function_at tells of a function: its parts; the list of its writes isn't at D -/
def FnTup (K : PySem.W.Frag) (D : Addr) (H : Hp) (f : Fd) (v : V) : Prop := ∃ (q wl : Addr) (x : V) (ws : List V), v = .ref q ∧ SqT K H q [.str f.name, .int (f.many : Nat), x, .str f.label, .ref wl, .int (f.cost : Nat)] ∧ TV K H f.result x ∧ wl ≠ D ∧ H wl = some (.lst ws) ∧ Paired (WrAt K H) f.writes ws
theorem FnTup.kp {K : PySem.W.Frag} {D : Addr} {H H' : Hp} (k : Kp D H H') {f : Fd} {v : V} (h : FnTup K D H f v) : FnTup K D H' f v :=
  let ⟨q, wl, x, ws, e, h1, h2, h3, h4, h5⟩ := h; ⟨q, wl, x, ws, e, k.nl.tup h1, h2.nl k.nl, h3, k.but _ _ h4 h3, Paired.mapP h5 fun _ _ => WrAt.nl k.nl⟩
theorem FnTup.same {K : PySem.W.Frag} {D : Addr} {H H' : Hp} (s : Same H H') {f : Fd} {v : V} (h : FnTup K D H f v) : FnTup K D H' f v :=
  let ⟨q, wl, x, ws, e, h1, h2, h3, h4, h5⟩ := h; ⟨q, wl, x, ws, e, (NL.of s).tup h1, h2.nl (NL.of s), h3, s _ _ h4, Paired.mapP h5 fun _ _ => WrAt.nl (NL.of s)⟩
theorem FnTup.other {K : PySem.W.Frag} {D M : Addr} {H : Hp} (hM : H M = none) {f : Fd} {v : V} (h : FnTup K D H f v) : FnTup K M H f v :=
  let ⟨q, wl, x, ws, e, h1, h2, h3, h4, h5⟩ := h; ⟨q, wl, x, ws, e, h1, h2, ne_of_none h4 hM, h4, h5⟩
/-- a row of a list of rows -/
theorem Lol.row {H : Hp} {l : Addr} {rs : List (List Str)} (h : Lol H l rs) {i : Nat} {r : List Str} (hi : rs[i]? = some r) : ∃ ps a, H l = some (.lst ps) ∧ atI ps (i : Nat) = some (.ref a) ∧ H a = some (.lst (r.map V.str)) := by
  obtain ⟨ps, hl, hp⟩ := h
  obtain ⟨v, hv, a, rfl, ha⟩ := Paired.get hp hi
  exact ⟨ps, a, hl, atI_nat (j := i) hv, ha⟩
theorem Fd.rows_eq (f : Fd) : f.rows = f.headRow :: ("result" :: f.result.words) :: f.writes.map (fun q => "write" :: q.1 :: q.2.words) := rfl
theorem Fd.rows_length (f : Fd) : f.rows.length = 2 + f.writes.length := by
  rw [f.rows_eq, List.length_cons, List.length_cons, List.length_map]
  omega
section
variable {P : Program} {w : World} {K : PySem.W.Frag} {mg : Str → Option Value} {base : Heap}
/-- the loop over the writes -/
def FaInv (K : PySem.W.Frag) (l a1 wl : Addr) (x : V) (at_ : Nat) (f : Fd) (H6 : Hp) (m : Nat) (σ : L2.St) (H' : Hp) : Prop := ∃ (i : Nat) (ws : List V) (v10 : Option V), i ≤ f.writes.length ∧ m = f.writes.length - i ∧
  σ = [some (.ref l), some (.int ((at_ + (2 + i) : Nat) : Int)), some (.str f.name), some (.str (num f.many)), some (.str f.label), some (.str (num f.cost)), some (.int (f.many : Nat)), some (.ref a1), some x, some (.ref wl), v10] ∧
  Same H6 H' ∧ H' wl = some (.lst ws) ∧ Paired (WrAt K H') (f.writes.take i) ws
def spFnAtRow (K : PySem.W.Frag) : Sp := fun vs H Q _ => ∃ (l : Addr) (at_ : Nat) (rs : List (List Str)) (f : Fd) (r0 : List Str) (more : List (List Str)), vs = [.ref l, .int (at_ : Nat)] ∧ Lol H l rs ∧ rs.drop at_ = f.rows ++ r0 :: more ∧ r0.take 1 ≠ (["write"] : List Str) ∧ f.Fm ∧
  ∀ p v H', Same H H' → H p = none → SqT K H' p [v, .int ((at_ + f.rows.length : Nat) : Int)] → (∀ D o, H D = some o → FnTup K D H' f v) → Q (.ref p) H'
theorem c_function_at (T : Top K mg) : Cal P w K mg base 14 "function_at" (spFnAtRow K) := by
  refine mkCal T.d_function_at sc_function_at b_function_at (fun vs H Q E h => ?_) (fun f0 cdv A outer s H vs Q E hr h => ?_)
  · obtain ⟨l, at_, rs, f, r0, more, rfl, _⟩ := h
    rfl
  · obtain ⟨l, at_, rs, f, r0, more, rfl, hl, hdrop, hr0, hf, q⟩ := h
    have nd := sc_function_at.nd
    refine ⟨_, pss_cons (ps_if (pt_not (pt_val (cc (c_is_head T) hr (pa_cons (pe_ix ix_list (pv 0) (pv 1) (fun _ _ => rfl)) pa_nil)))) pss_never pss_nil)
      (pss_cons (ps_asg (pe_slice sl_list (pe_ix ix_list (pv 0) (pv 1) (fun _ _ => rfl)) (po_some pe_int) po_none) (pg_unl rfl (pgs_cons (pg_name (i := 2) nd rfl (Or.inl rfl)) (pgs_cons (pg_name (i := 3) nd rfl (Or.inl rfl)) (pgs_cons (pg_name (i := 4) nd rfl (Or.inl rfl)) (pgs_cons (pg_name (i := 5) nd rfl (Or.inl rfl)) pgs_nil))))))
      (pss_cons (ps_par rfl nd (i := 6) (j := 7) rfl rfl (by decide) rfl rfl (pa_cons (pe_callTy call_int_str rfl T.f_int PySem.Pv.boot_int (pa_cons (pv 3) pa_nil)) (pa_cons (pe_ix ix_list (pv 0) (pe_op op_add (pv 1) pe_int) (fun _ _ => rfl)) pa_nil)) (by rfl))
      (pss_cons (ps_set (i := 8) nd rfl (Or.inl rfl) (pe_ifExp (pt_cmpR (op_eqS hr) (pe_slice sl_list (pv 7) po_none (po_some pe_int)) (pe_lst (pa_cons pe_str pa_nil)) (nomark _)) (cc (c_term_in T) hr (pa_cons (pe_slice sl_list (pv 7) (po_some pe_int) po_none) (pa_cons (pv 6) pa_nil))) pe_non))
      (pss_cons (ps_if (pt_cmp (pc_isN (pv 8)) rfl) pss_never pss_nil)
      (pss_cons (ps_aug (i := 1) nd rfl (.inl rfl) pe_int ip_add)
      (pss_cons (ps_set (i := 9) nd rfl (Or.inl rfl) (pe_lst pa_nil))
      (pss_cons (ps_while PassesOwn.never (pt_cmpR (op_eqS hr) (pe_slice sl_list (pe_ix ix_list (pv 0) (pv 1) (fun _ _ => rfl)) po_none (po_some pe_int)) (pe_lst (pa_cons pe_str pa_nil)) (nomark _))
        (pss_cons (ps_set (i := 10) nd rfl (Or.inl rfl) (cc (c_write_in T) hr (pa_cons (pe_ix ix_list (pv 0) (pv 1) (fun _ _ => rfl)) (pa_cons (pv 6) pa_nil))))
        (pss_cons (ps_if (pt_cmp (pc_isN (pv 10)) rfl) pss_never pss_nil)
        (pss_cons (ps_expr (pe_bm PySem.F.plainAttrs_list PySem.F.slot_list_append PySem.F.type_list_append mt_append (pv 9) (pa_cons (pv 10) pa_nil)))
        (pss_one (ps_aug (i := 1) nd rfl (.inl rfl) pe_int ip_add))))))
      (pss_one (ps_ret (pe_tup (pa_cons (pe_tup (pa_cons (pv 2) (pa_cons (pv 6) (pa_cons (pv 8) (pa_cons (pv 4) (pa_cons (pv 9) (pa_cons (pe_callTy call_int_str rfl T.f_int PySem.Pv.boot_int (pa_cons (pv 5) pa_nil)) pa_nil))))))) (pa_cons (pv 1) pa_nil)))))))))))), ?_⟩
    have row : ∀ k r, (f.rows ++ r0 :: more)[k]? = some r → rs[at_ + k]? = some r := fun k r h => by
      rw [← hdrop, List.getElem?_drop] at h
      exact h
    have g0 : rs[at_]? = some f.headRow := row 0 _ rfl
    have g1 : rs[at_ + 1]? = some ("result" :: f.result.words : List Str) := row 1 _ rfl
    have b1 := hf.many
    have b2 := hf.cost
    have hm := num_len (n := f.many) (by omega)
    have hc := num_len (n := f.cost) (by omega)
    -- the head
    obtain ⟨ps0, a0, hl0, hat0, ha0⟩ := hl.row g0
    refine ⟨_, rfl, _, rfl, l, _, _, _, rfl, rfl, SqL.of hl0, hat0, a0, f, rfl, SqL.of ha0, hf, fun H1 s1 => ⟨true, rfl, iteF ?_⟩⟩
    refine ⟨_, rfl, _, rfl, l, _, _, _, rfl, rfl, SqL.of (s1 _ _ hl0), hat0, 1, rfl, a0, _, rfl, SqL.of (s1 _ _ ha0), fun c1 hc1 => ?_⟩
    refine ⟨c1, [.str f.name, .str (num f.many), .str f.label, .str (num f.cost)], rfl, SqL.of (by rw [upd_same]; rfl), rfl, _, _, rfl, _, _, rfl, _, _, rfl, _, _, rfl, rfl, ?_⟩
    have s2 : Same H (upd H1 c1 (.lst (cutV (f.headRow.map V.str) (some 1) none))) := Same.upd' s1 hc1
    obtain ⟨ps1, a1, hl1, hat1, ha1⟩ := (hl.same s2).row g1
    refine ⟨_, rfl, num f.many, f.many, rfl, int_num _ (by omega), by omega, _, rfl, _, rfl, _, _, rfl, rfl, l, _, _, _, rfl, rfl, SqL.of hl1, hat1, _, _, rfl, ?_⟩
    -- the result
    refine ⟨_, rfl, 1, rfl, a1, _, rfl, SqL.of ha1, fun c2 hc2 => ⟨(by show 1 ≤ sizeLine; decide), fun c3 hc3 => ?_⟩⟩
    have s3 := Same.upd' s2 hc2 (o := .lst (cutV (("result" :: f.result.words : List Str).map V.str) none (some 1)))
    have s4 := Same.upd' s3 hc3 (o := .lst [.str "result"])
    refine ⟨c2, c3, ["result"], ["result"], rfl, rfl, SqL.of (Same.upd hc3 _ _ (by rw [upd_same, cutTo1s]; rfl)), SqL.of upd_same, true, congrArg V.bl (decide_eq_true rfl), iteT ?_⟩
    have ha1' : upd (upd (upd H1 c1 (.lst (cutV (f.headRow.map V.str) (some 1) none))) c2 (.lst (cutV (("result" :: f.result.words : List Str).map V.str) none (some 1)))) c3 (.lst [.str "result"]) a1 = some (.lst (("result" :: f.result.words : List Str).map V.str)) :=
      Same.upd hc3 _ _ (Same.upd hc2 _ _ ha1)
    refine ⟨_, rfl, 1, rfl, a1, _, rfl, SqL.of ha1', fun c4 hc4 => ?_⟩
    have s5 := Same.upd' s4 hc4 (o := .lst (cutV (("result" :: f.result.words : List Str).map V.str) (some 1) none))
    refine ⟨_, rfl, c4, f.many, f.result, rfl, SqL.of (by rw [upd_same, cut1s]), hf.wf, b1, hf.depth, hf.size, fun x H6 s6 hx => ?_⟩
    have s06 := s5.trans s6
    refine ⟨_, rfl, false, congrArg V.bl hx.ne_non, iteF ?_⟩
    refine ⟨_, rfl, _, _, rfl, rfl, (by show 0 ≤ sizeLine; decide), fun wl hwl => ?_⟩
    have s07 : Same H (upd H6 wl (.lst [])) := Same.upd' s06 hwl
    have hwlH : H wl = none := Same.free s06 hwl
    have fw := hf.few
    refine ⟨FaInv K l a1 wl x at_ f H6, ⟨_, 0, [], none, Nat.zero_le _, rfl, rfl, Same.upd hwl, upd_same, .nil⟩, ?_⟩
    rintro m σ H' ⟨i, ws, v10, hi, rfl, rfl, s8, hws, hpw⟩
    have s08 := s06.trans s8
    have wlen := Paired.len hpw
    rw [List.length_take] at wlen
    by_cases hlt : i < f.writes.length
    · have hqi : f.writes[i]? = some f.writes[i] := List.getElem?_eq_getElem hlt
      have g2 : rs[at_ + (2 + i)]? = some ("write" :: f.writes[i].1 :: f.writes[i].2.words : List Str) := row (2 + i) _ (by
        rw [f.rows_eq, List.getElem?_append_left (by simp; omega), show 2 + i = i + 1 + 1 by omega, List.getElem?_cons_succ, List.getElem?_cons_succ, List.getElem?_map, hqi]
        rfl)
      obtain ⟨k1, k2, k3, k4⟩ := hf.writes f.writes[i] (List.getElem_mem hlt)
      obtain ⟨ps2, a2, hl2, hat2, ha2⟩ := (hl.same s08).row g2
      refine ⟨_, rfl, _, rfl, l, _, _, _, rfl, rfl, SqL.of hl2, hat2, 1, rfl, a2, _, rfl, SqL.of ha2, fun c5 hc5 => ⟨(by show 1 ≤ sizeLine; decide), fun c6 hc6 => ?_⟩⟩
      refine ⟨c5, c6, ["write"], ["write"], rfl, rfl, SqL.of (Same.upd hc6 _ _ (by rw [upd_same, cutTo1s]; rfl)), SqL.of upd_same, true, congrArg V.bl (decide_eq_true rfl), iteT ?_⟩
      refine ⟨FaInv K l a1 wl x at_ f H6 (f.writes.length - (i + 1)), fun σ' H' h => ⟨_, by omega, h⟩, ?_⟩
      have s9 := Same.upd' (Same.upd hc5 (o := .lst (cutV (("write" :: f.writes[i].1 :: f.writes[i].2.words : List Str).map V.str) none (some 1)))) hc6 (o := .lst [.str "write"])
      refine ⟨_, rfl, _, rfl, l, _, _, _, rfl, rfl, SqL.of (s9 _ _ hl2), hat2, _, rfl, a2, f.many, f.writes[i], rfl, SqL.of (s9 _ _ ha2), k1, k2, b1, k4, k3, fun v H9 s10 hv => ?_⟩
      have s19 := s9.trans s10
      have hnn : decide (v = .non) = false := by
        obtain ⟨r, y, rfl, _⟩ := hv
        exact decide_eq_false fun z => by cases z
      refine ⟨_, rfl, false, congrArg V.bl hnn, iteF ?_⟩
      have h9 := s19 _ _ hws
      refine ⟨_, rfl, .inl ⟨rfl, _, SqL.of h9⟩, _, rfl, wl, ws, v, rfl, rfl, h9, le_line (by omega), ?_⟩
      refine ⟨_, rfl, _, _, rfl, rfl, i + 1, ws ++ [v], some v, hlt, rfl, rfl, ?_, upd_same, ?_⟩
      · exact Same.put (s8.trans s19) hwl
      · have n9 : NL H9 (upd H9 wl (.lst (ws ++ [v]))) := (Kp.set h9).nl
        rw [List.take_succ, hqi, Option.toList_some]
        exact Paired.snoc (hv.nl n9) (Paired.mapP hpw fun _ _ h => (h.nl (NL.of s19)).nl n9)
    · have ei : i = f.writes.length := by omega
      subst ei
      have g2 : rs[at_ + (2 + f.writes.length)]? = some r0 := row (2 + f.writes.length) _ (by
        rw [List.getElem?_append_right (by rw [f.rows_length]; omega), f.rows_length, Nat.sub_self]
        rfl)
      obtain ⟨ps2, a2, hl2, hat2, ha2⟩ := (hl.same s08).row g2
      refine ⟨_, rfl, _, rfl, l, _, _, _, rfl, rfl, SqL.of hl2, hat2, 1, rfl, a2, _, rfl, SqL.of ha2, fun c5 hc5 => ⟨(by show 1 ≤ sizeLine; decide), fun c6 hc6 => ?_⟩⟩
      refine ⟨c5, c6, r0.take 1, ["write"], rfl, rfl, SqL.of (Same.upd hc6 _ _ (by rw [upd_same, cutTo1s])), SqL.of upd_same, false, congrArg V.bl (decide_eq_false hr0), iteF ?_⟩
      have s9 := Same.upd' (Same.upd hc5 (o := .lst (cutV (r0.map V.str) none (some 1)))) hc6 (o := .lst [.str "write"])
      refine ⟨_, rfl, _, rfl, _, rfl, _, rfl, _, rfl, _, rfl, num f.cost, f.cost, rfl, int_num _ (by omega), by omega, (by show 6 ≤ sizeLine; decide), fun q1 hq1 => ⟨_, rfl, (by show 2 ≤ sizeLine; decide), fun p1 hp1 => ?_⟩⟩
      have s10 := Same.upd' s9 hq1 (o := .tup [.str f.name, .int (f.many : Nat), x, .str f.label, .ref wl, .int (f.cost : Nat)])
      have s11 := Same.upd' s10 hp1 (o := .tup [.ref q1, .int ((at_ + (2 + f.writes.length) : Nat) : Int)])
      have sH : Same H _ := s08.trans s11
      refine q p1 (.ref q1) _ sH (Same.free (s08.trans s10) hp1) (SqT.of (by rw [upd_same, f.rows_length])) fun D o hD => ?_
      rw [List.take_of_length_le (Nat.le_refl _)] at hpw
      exact ⟨q1, wl, x, ws, rfl, SqT.of (Same.upd hp1 _ _ upd_same), (hx.nl (NL.of s8)).nl (NL.of s11), (ne_of_none hD hwlH).symm, s11 _ _ hws, Paired.mapP hpw fun _ _ => WrAt.nl (NL.of s11)⟩
end
end K80
namespace K80
open PySem PySem.Spec PyProof.Rows L2
/-! ### where the rows of a book stand -/
def Bk.pos (b : Bk) (j : Nat) : Nat := b.cells.length + (((b.fns.take j).map Fd.rows).flatten).length
theorem Bk.drop_pos (b : Bk) (j : Nat) : (b.rows ++ [[]]).drop (b.pos j) = ((b.fns.drop j).map Fd.rows).flatten ++ [[]] := by
  have e : b.rows ++ [[]] = (b.cells.map cellRow ++ ((b.fns.take j).map Fd.rows).flatten) ++ (((b.fns.drop j).map Fd.rows).flatten ++ [[]]) := by
    unfold Bk.rows
    have : b.fns.map Fd.rows = (b.fns.take j).map Fd.rows ++ (b.fns.drop j).map Fd.rows := by rw [← List.map_append, List.take_append_drop]
    rw [this, List.flatten_append]
    simp [List.append_assoc]
  rw [e]
  exact List.drop_left' (by unfold Bk.pos; rw [List.length_append, List.length_map])
theorem no_write (l : List Fd) : ∃ r0 more, (l.map Fd.rows).flatten ++ [[]] = r0 :: more ∧ r0.take 1 ≠ (["write"] : List Str) := by
  cases l with
  | nil => exact ⟨[], [], rfl, by simp⟩
  | cons f r => exact ⟨f.headRow, _, rfl, by simp [Fd.headRow]; decide +kernel⟩
theorem Bk.pos_succ {b : Bk} {j : Nat} {f : Fd} (h : b.fns[j]? = some f) : b.pos (j + 1) = b.pos j + f.rows.length := by
  unfold Bk.pos
  rw [List.take_succ, h, Option.toList_some, List.map_append, List.flatten_append, List.length_append]
  simp
  omega
theorem Bk.pos_end (b : Bk) : b.pos b.fns.length = b.rows.length := by
  unfold Bk.pos Bk.rows
  rw [List.take_of_length_le (Nat.le_refl _), List.length_append, List.length_map]
theorem Bk.pos_lt {b : Bk} {j : Nat} (h : j < b.fns.length) : b.pos j < b.rows.length := by
  have e := b.drop_pos j
  have h1 : b.fns.drop j = b.fns[j] :: b.fns.drop (j + 1) := List.drop_eq_getElem_cons h
  rw [h1, List.map_cons, List.flatten_cons] at e
  have l1 := congrArg List.length e
  have l2 := b.fns[j].rows_length
  simp at l1
  omega
theorem Bk.at_fn {b : Bk} {j : Nat} {f : Fd} (h : b.fns[j]? = some f) : ∃ r0 more, (b.rows ++ [[]]).drop (b.pos j) = f.rows ++ r0 :: more ∧ r0.take 1 ≠ (["write"] : List Str) := by
  obtain ⟨hl, e⟩ := List.getElem?_eq_some_iff.mp h
  have h1 : b.fns.drop j = f :: b.fns.drop (j + 1) := by rw [← e]; exact List.drop_eq_getElem_cons hl
  obtain ⟨r0, more, e2, hr⟩ := no_write (b.fns.drop (j + 1))
  refine ⟨r0, more, ?_, hr⟩
  rw [b.drop_pos, h1, List.map_cons, List.flatten_cons, List.append_assoc, e2]
theorem Bk.at_cell {b : Bk} {i : Nat} {c : Str × Str} (h : b.cells[i]? = some c) : (b.rows ++ [[]])[i]? = some (cellRow c) := by
  obtain ⟨hl, e⟩ := List.getElem?_eq_some_iff.mp h
  unfold Bk.rows
  rw [List.append_assoc, List.getElem?_append_left (by rw [List.length_map]; exact hl), List.getElem?_map, h]
  rfl
theorem Bk.at_first {b : Bk} (h : b.fns ≠ []) : ∃ f, b.fns[0]? = some f ∧ (b.rows ++ [[]])[b.cells.length]? = some f.headRow := by
  cases hf : b.fns with
  | nil => exact absurd hf h
  | cons f r =>
    refine ⟨f, rfl, ?_⟩
    have hf0 : b.fns[0]? = some f := by rw [hf]; rfl
    obtain ⟨r0, more, e, _⟩ := Bk.at_fn hf0
    have ep : b.pos 0 = b.cells.length := by simp [Bk.pos]
    rw [ep] at e
    have : ((b.rows ++ [[]]).drop b.cells.length)[0]? = some f.headRow := by rw [e]; rfl
    rw [List.getElem?_drop] at this
    exact this
section
variable {P : Program} {w : World} {K : PySem.W.Frag} {mg : Str → Option Value} {base : Heap}
def spReadBook (K : PySem.W.Frag) : Sp := fun vs H Q _ => ∃ b : Bk, vs = [.str b.text] ∧ b.Ok ∧ ∀ p H', Same H H' → H p = none → BookAt K H' p b → Q (.ref p) H'
/-- the loop over the cells -/
def RbCell (K : PySem.W.Frag) (l C D : Addr) (b : Bk) (H1 : Hp) (m : Nat) (σ : L2.St) (H' : Hp) : Prop := ∃ (i : Nat) (vs : List V) (v5 : Option V), i ≤ b.cells.length ∧ m = b.cells.length - i ∧
  σ = [some (.str b.text), some (.ref l), some (.ref C), some (.ref D), some (.int (i : Nat)), v5, none, none, none, none, none, none, none, none] ∧ Same H1 H' ∧ H' C = some (.lst vs) ∧ H' D = some (.lst []) ∧ Paired (CellAt K H') (b.cells.take i) vs
/-- the loop over the functions -/
def RbFn (K : PySem.W.Frag) (l C D : Addr) (cs : List V) (b : Bk) (H1 : Hp) (m : Nat) (σ : L2.St) (H' : Hp) : Prop := ∃ (j : Nat) (vs : List V) (v5 v6 : Option V), j ≤ b.fns.length ∧ m = b.fns.length - j ∧
  σ = [some (.str b.text), some (.ref l), some (.ref C), some (.ref D), some (.int (b.pos j : Nat)), v5, v6, none, none, none, none, none, none, none] ∧ Same H1 H' ∧ H' C = some (.lst cs) ∧ H' D = some (.lst vs) ∧ Paired (CellAt K H') b.cells cs ∧ Paired (FnTup K D H') (b.fns.take j) vs
theorem c_read_book (T : Top K mg) : Cal P w K mg base 17 "read_book" (spReadBook K) := by
  refine mkCal T.d_read_book sc_read_book b_read_book (fun vs H Q E h => ?_) (fun f0 cdv A outer s H vs Q E hr h => ?_)
  · obtain ⟨b, rfl, _⟩ := h
    rfl
  · obtain ⟨b, rfl, hb, q⟩ := h
    have nd := sc_read_book.nd
    refine ⟨_, pss_cons (ps_set (i := 1) nd rfl (Or.inl rfl) (cc (c_rows_in T) hr (pa_cons (pv 0) pa_nil)))
      (pss_cons (ps_par3 rfl nd (i := 2) (j := 3) (l := 4) rfl rfl rfl (by decide) (by decide) (by decide) rfl rfl rfl (pa_cons (pe_lst pa_nil) (pa_cons (pe_lst pa_nil) (pa_cons pe_int pa_nil))) (by rfl))
      (pss_cons (ps_while PassesOwn.never (pt_cmpR (op_eqS hr) (pe_slice sl_list (pe_ix ix_list (pv 1) (pv 4) (fun _ _ => rfl)) po_none (po_some pe_int)) (pe_lst (pa_cons pe_str pa_nil)) (nomark _))
        (pss_cons (ps_set (i := 5) nd rfl (Or.inl rfl) (cc (c_cell_in T) hr (pa_cons (pe_ix ix_list (pv 1) (pv 4) (fun _ _ => rfl)) pa_nil)))
        (pss_cons (ps_if (pt_cmp (pc_isN (pv 5)) rfl) pss_never pss_nil)
        (pss_cons (ps_expr (pe_bm PySem.F.plainAttrs_list PySem.F.slot_list_append PySem.F.type_list_append mt_append (pv 2) (pa_cons (pv 5) pa_nil)))
        (pss_one (ps_aug (i := 4) nd rfl (.inl rfl) pe_int ip_add))))))
      (pss_cons (ps_while PassesOwn.never (pt_cmpR op_lt (pv 4) (pe_op op_sub (plen T.f_len (pv 1)) pe_int) (nomark _))
        (pss_cons (ps_asg (cc (c_function_at T) hr (pa_cons (pv 1) (pa_cons (pv 4) pa_nil))) (pg_tup rfl (pgs_cons (pg_name (i := 6) nd rfl (Or.inl rfl)) (pgs_cons (pg_name (i := 4) nd rfl (Or.inl rfl)) pgs_nil))))
        (pss_one (ps_expr (pe_bm PySem.F.plainAttrs_list PySem.F.slot_list_append PySem.F.type_list_append mt_append (pv 3) (pa_cons (pv 6) pa_nil))))))
      (pss_cons (ps_set (i := 7) nd rfl (Or.inl rfl) (pe_lst pa_nil))
      (pss_cons (ps_for PassesOwn.never rfl (pi_list (pv 3)) (pg_tup rfl (pgs_cons (pg_name (i := 8) nd rfl (Or.inl rfl)) (pgs_cons (pg_name (i := 9) nd rfl (Or.inl rfl)) (pgs_cons (pg_name (i := 10) nd rfl (Or.inl rfl)) (pgs_cons (pg_name (i := 11) nd rfl (Or.inl rfl)) (pgs_cons (pg_name (i := 12) nd rfl (Or.inl rfl)) (pgs_cons (pg_name (i := 13) nd rfl (Or.inl rfl)) pgs_nil)))))))
        (pss_one (ps_expr (pe_bm PySem.F.plainAttrs_list PySem.F.slot_list_append PySem.F.type_list_append mt_append (pv 7) (pa_cons (cmf (c_Function T) T.g_Function hr (pa_cons (pv 8) (pa_cons (pv 9) (pa_cons (pv 10) pa_nil))) (pk_cons (pv 11) (pk_cons (pv 12) (pk_cons (pv 13) pk_nil)))) pa_nil)))))
      (pss_one (ps_ret (cmk (c_Book T) hr (pa_cons (pv 2) (pa_cons (pv 7) pa_nil)))))))))), ?_⟩
    have hrl := Bk.rows_len hb
    have hrn : b.rows ≠ [] := by
      have := Bk.pos_lt (b := b) (j := 0) (List.length_pos_iff.mpr hb.some_)
      intro z
      rw [z] at this
      simp at this
    refine ⟨_, rfl, b.rows, rfl, hrn, by omega, Bk.rows_ok hb, fun l H1 s1 hln hl => ?_⟩
    have hs1n : ∀ x, H1 x = none → H x = none := fun x h => Same.free s1 h
    refine ⟨(by show 0 ≤ sizeLine; decide), fun C hC => ⟨(by show 0 ≤ sizeLine; decide), fun D hD => ⟨_, _, _, rfl, ?_⟩⟩⟩
    have hCD : C ≠ D := ne_of_none upd_same hD
    have hD1 : H1 D = none := Same.free (Same.upd hC) hD
    refine ⟨RbCell K l C D b H1, ⟨_, 0, [], none, Nat.zero_le _, rfl, rfl, Same.upd' (Same.upd hC) hD, by rw [upd_ne hCD]; exact upd_same, upd_same, .nil⟩, ?_⟩
    have c3 := hb.few
    have f4 := hb.most
    rintro m σ H2 ⟨i, vs, v5, hi, rfl, rfl, s2, h2C, h2D, hcs⟩
    have vlen := Paired.len hcs
    rw [List.length_take] at vlen
    by_cases hlt : i < b.cells.length
    · have hci : b.cells[i]? = some b.cells[i] := List.getElem?_eq_getElem hlt
      obtain ⟨ps2, a2, hl2, hat2, ha2⟩ := (hl.same s2).row (Bk.at_cell hci)
      obtain ⟨k1, k2⟩ := hb.cells b.cells[i] (List.getElem_mem hlt)
      refine ⟨_, rfl, _, rfl, l, _, _, _, rfl, rfl, SqL.of hl2, hat2, 1, rfl, a2, _, rfl, SqL.of ha2, fun c5 hc5 => ⟨(by show 1 ≤ sizeLine; decide), fun c6 hc6 => ?_⟩⟩
      refine ⟨c5, c6, ["cell"], ["cell"], rfl, rfl, SqL.of (Same.upd hc6 _ _ (by rw [upd_same, cutTo1s]; rfl)), SqL.of upd_same, true, congrArg V.bl (decide_eq_true rfl), iteT ?_⟩
      refine ⟨RbCell K l C D b H1 (b.cells.length - (i + 1)), fun σ' H' h => ⟨_, by omega, h⟩, ?_⟩
      have s9 := Same.upd' (Same.upd hc5 (o := .lst (cutV ((cellRow b.cells[i]).map V.str) none (some 1)))) hc6 (o := .lst [.str "cell"])
      refine ⟨_, rfl, _, rfl, l, _, _, _, rfl, rfl, SqL.of (s9 _ _ hl2), hat2, a2, b.cells[i], rfl, SqL.of (s9 _ _ ha2), k1, k2, fun cp H9 s10 hcp hca => ?_⟩
      have s19 := s9.trans s10
      have h9 := s19 _ _ h2C
      refine ⟨_, rfl, false, congrArg V.bl (decide_eq_false fun z => by cases z), iteF ?_⟩
      refine ⟨_, rfl, .inl ⟨rfl, _, SqL.of h9⟩, _, rfl, C, vs, .ref cp, rfl, rfl, h9, le_line (by omega), ?_⟩
      have n9 : NL H9 (upd H9 C (.lst (vs ++ [.ref cp]))) := (Kp.set h9).nl
      refine ⟨_, rfl, _, _, rfl, rfl, i + 1, vs ++ [.ref cp], some (.ref cp), hlt, rfl, rfl, Same.put (s2.trans s19) hC, upd_same, by rw [upd_ne hCD.symm]; exact s19 _ _ h2D, ?_⟩
      rw [List.take_succ, hci, Option.toList_some]
      exact Paired.snoc (hca.nl n9) (Paired.mapP hcs fun _ _ h => (h.nl (NL.of s19)).nl n9)
    have ei : i = b.cells.length := by omega
    subst ei
    obtain ⟨ff, hff, hfirst⟩ := Bk.at_first hb.some_
    obtain ⟨ps2, a2, hl2, hat2, ha2⟩ := (hl.same s2).row hfirst
    refine ⟨_, rfl, _, rfl, l, _, _, _, rfl, rfl, SqL.of hl2, hat2, 1, rfl, a2, _, rfl, SqL.of ha2, fun c5 hc5 => ⟨(by show 1 ≤ sizeLine; decide), fun c6 hc6 => ?_⟩⟩
    refine ⟨c5, c6, ["function"], ["cell"], rfl, rfl, SqL.of (Same.upd hc6 _ _ (by rw [upd_same, cutTo1s]; rfl)), SqL.of upd_same, false, congrArg V.bl (by decide +kernel), iteF ?_⟩
    have s9 := Same.upd' (Same.upd hc5 (o := .lst (cutV (ff.headRow.map V.str) none (some 1)))) hc6 (o := .lst [.str "cell"])
    rw [List.take_of_length_le (Nat.le_refl _)] at hcs
    have ep : b.pos 0 = b.cells.length := by simp [Bk.pos]
    -- the functions
    refine ⟨RbFn K l C D vs b H1, ⟨_, 0, [], v5, none, Nat.zero_le _, rfl, by rw [ep], s2.trans s9, s9 _ _ h2C, s9 _ _ h2D, Paired.mapP hcs fun _ _ => CellAt.nl (NL.of s9), .nil⟩, ?_⟩
    rintro m σ H3 ⟨j, ws, w5, w6, hj, rfl, rfl, s3, h3C, h3D, hcs3, hfs3⟩
    have wlen := Paired.len hfs3
    rw [List.length_take] at wlen
    obtain ⟨psl, hpsl, hpr⟩ := hl.same s3
    have plen := Paired.len hpr
    rw [List.length_append, List.length_singleton] at plen
    by_cases hlt : j < b.fns.length
    · have hpos := Bk.pos_lt hlt
      have hfj : b.fns[j]? = some b.fns[j] := List.getElem?_eq_getElem hlt
      obtain ⟨r0, more, hdr, hr0⟩ := Bk.at_fn hfj
      refine ⟨_, rfl, _, rfl, _, psl.length, rfl, .inl ⟨psl, SqL.of hpsl, rfl⟩, _, _, rfl, rfl, _, _, rfl, rfl, true, congrArg V.bl (decide_eq_true (by omega)), iteT ?_⟩
      refine ⟨RbFn K l C D vs b H1 (b.fns.length - (j + 1)), fun σ' H' h => ⟨_, by omega, h⟩, ?_⟩
      refine ⟨_, rfl, _, rfl, l, b.pos j, b.rows ++ [[]], b.fns[j], r0, more, rfl, hl.same s3, hdr, hr0, (hb.fns j _ hfj).fm, fun p v H4 s4 hp4 hpt hft => ?_⟩
      refine ⟨p, _, rfl, hpt, rfl, _, _, rfl, _, _, rfl, rfl, ?_⟩
      have h4 := s4 _ _ h3D
      have hft := hft D _ h3D
      refine ⟨_, rfl, .inl ⟨rfl, _, SqL.of h4⟩, _, rfl, D, ws, v, rfl, rfl, h4, le_line (by omega), ?_⟩
      have kp : Kp D H4 (upd H4 D (.lst (ws ++ [v]))) := Kp.set h4
      refine ⟨j + 1, ws ++ [v], w5, some v, hlt, rfl, by rw [Bk.pos_succ hfj]; rfl, Same.put (s3.trans s4) hD1, by rw [upd_ne hCD]; exact s4 _ _ h3C, upd_same, Paired.mapP hcs3 fun _ _ h => (h.nl (NL.of s4)).nl kp.nl, ?_⟩
      rw [List.take_succ, hfj, Option.toList_some]
      exact Paired.snoc (hft.kp kp) (Paired.mapP hfs3 fun _ _ h => (h.same s4).kp kp)
    have ej : j = b.fns.length := by omega
    subst ej
    rw [List.take_of_length_le (Nat.le_refl _)] at hfs3
    have hpe := b.pos_end
    refine ⟨_, rfl, _, rfl, _, psl.length, rfl, .inl ⟨psl, SqL.of hpsl, rfl⟩, _, _, rfl, rfl, _, _, rfl, rfl, false, congrArg V.bl (decide_eq_false (by omega)), iteF ?_⟩
    refine ⟨(by show 0 ≤ sizeLine; decide), fun M hM => ?_⟩
    have hM1 : H1 M = none := Same.free s3 hM
    have hDM : D ≠ M := ne_of_none h3D hM
    have flen := Paired.len hfs3
    refine ⟨_, rfl, D, rfl, ⟨ws, SqL.of (Same.upd hM _ _ h3D)⟩, for_list (xs := ws) (fun i σ H' => ∃ (ms : List V) (v8 v9 v10 v11 v12 v13 : Option V), σ = [some (.str b.text), some (.ref l), some (.ref C), some (.ref D), some (.int (b.pos b.fns.length : Nat)), w5, w6, some (.ref M), v8, v9, v10, v11, v12, v13] ∧ Same H3 H' ∧ H' M = some (.lst ms) ∧ Paired (FnAt K H') (b.fns.take i) ms)
      ⟨[], none, none, none, none, none, none, rfl, Same.upd hM, upd_same, .nil⟩ (fun i σ H' _ ⟨_, _, _, _, _, _, _, _, s, _⟩ => SqL.of (s _ _ h3D)) ?_ ?_⟩
    · rintro i v σ H4 hv ⟨ms, v8, v9, v10, v11, v12, v13, rfl, s4, h4M, hms⟩
      obtain ⟨f, hfi, hft⟩ := Paired.get' hfs3 hv
      have mlen := Paired.len hms
      rw [List.length_take] at mlen
      obtain ⟨qa, wl, xr, wws, rfl, hqa, hxr, _, hwl, hww⟩ := hft.same s4
      refine ⟨qa, _, rfl, hqa, rfl, _, _, rfl, _, _, rfl, _, _, rfl, _, _, rfl, _, _, rfl, _, _, rfl, rfl, ?_⟩
      refine ⟨_, rfl, .inl ⟨rfl, _, SqL.of h4M⟩, _, rfl, _, rfl, _, rfl, _, rfl, _, rfl, _, rfl, rfl, rfl, fun x dx nx ndx nex => ?_⟩
      have s5 : Same H4 (upd (upd H4 dx (.own x)) x (.ins (He.ga K "Function") dx [])) := by
        intro c o e
        rw [upd_ne (ne_of_none e nx), upd_ne (ne_of_none e ndx)]
        exact e
      refine ⟨x, dx, f, xr, wl, rfl, upd_same, (hb.fns i f hfi).fm, hxr.nl (NL.of s5), ⟨wws, .inl (SqL.of (s5 _ _ hwl)), Paired.mapP hww fun _ _ => WrAt.nl (NL.of s5)⟩, fun H6 hfa bx => ⟨rfl, ?_⟩⟩
      have s6 : Same H4 H6 := fun c o e => bx c o (s5 c o e) (ne_of_none e nx)
      have h6 := s6 _ _ h4M
      have n6 : NL H6 (upd H6 M (.lst (ms ++ [.ref x]))) := (Kp.set h6).nl
      refine ⟨M, ms, .ref x, rfl, rfl, h6, le_line (by omega), ms ++ [.ref x], _, _, _, _, _, _, rfl, Same.put (s4.trans s6) hM, upd_same, ?_⟩
      rw [List.take_succ, hfi, Option.toList_some]
      exact Paired.snoc (hfa.nl n6) (Paired.mapP hms fun _ _ h => (h.nl (NL.of s6)).nl n6)
    · rintro σ H4 ⟨ms, v8, v9, v10, v11, v12, v13, rfl, s4, h4M, hms⟩
      rw [List.take_of_length_le (by omega)] at hms
      refine ⟨_, rfl, _, rfl, fun x dx nx ndx nex => ?_⟩
      have s5 : Same H4 (upd (upd H4 dx (.own x)) x (.ins (He.ga K "Book") dx [])) := by
        intro c o e
        rw [upd_ne (ne_of_none e nx), upd_ne (ne_of_none e ndx)]
        exact e
      have s45 := s4.trans s5
      refine ⟨x, dx, C, M, vs, ms, b, rfl, upd_same, hb, SqL.of (s45 _ _ h3C), SqL.of (s5 _ _ h4M), Paired.mapP hcs3 fun _ _ => CellAt.nl (NL.of s45), Paired.mapP hms fun _ _ => FnAt.nl (NL.of s5), fun H6 hbk bx => ⟨rfl, ?_⟩⟩
      have s14 := (s1.trans s3).trans s4
      exact q x H6 (fun c o e => bx c o (s5 c o (s14 c o e)) (ne_of_none (s14 c o e) nx)) (Same.free s14 nx) hbk
end
end K80
namespace K80
open PySem PySem.Spec PyProof.Rows L2
/-! ### the law's pool of numbers -/
def Pool (H : Hp) (p : Addr) : Prop := ∃ a m : Int, H p = some (.lst [.int a, .int m]) ∧ 0 ≤ a ∧ 0 ≤ m ∧ m < 2147483647
theorem cutTo {vs : List V} (k : Nat) : cutV vs none (some (k : Int)) = vs.take k := by
  unfold cutV
  rw [HT.sIx_none, show HT.sIx vs.length vs.length (some (k : Int)) = min k vs.length from HT.sIx_nat _ _ k]
  simp
section
variable {P : Program} {w : World} {K : PySem.W.Frag} {mg : Str → Option Value} {base : Heap}
def spPool (K : PySem.W.Frag) : Sp := fun vs H Q _ => ∃ (p : Addr) (k : Nat) (ns : List Int), vs = [.ref p, .int (k : Nat)] ∧ SqL K H p (ns.map V.int) ∧ k ≤ 10 ∧ ∀ q H', Same H H' → H q = none → Pool H' q → Q (.ref q) H'
theorem c_law_pool (T : Top K mg) : Cal P w K mg base 1 "_law_pool" (spPool K) := by
  refine mkCal T.d__law_pool sc__law_pool b__law_pool (fun vs H Q E h => ?_) (fun f cdv A outer s H vs Q E hr h => ?_)
  · obtain ⟨p, k, ns, rfl, _⟩ := h
    rfl
  · obtain ⟨p, k, ns, rfl, hp, hk, q⟩ := h
    have nd := sc__law_pool.nd
    refine ⟨_, pss_cons (ps_set (i := 2) nd rfl (Or.inl rfl) (pe_ifExp (pt_cmpR op_lt (pv 1) (plen T.f_len (pv 0)) (nomark _)) (pe_ix ix_list (pv 0) (pv 1) (fun _ _ => rfl))
        (pe_op op_add (pe_op op_mul pe_int (pe_callB (cr_sum rfl) rfl T.f_sum (by decide +kernel) (pa_cons (pe_slice sl_list (pv 0) po_none (po_some pe_int)) pa_nil))) (pv 1))))
      (pss_cons (ps_set (i := 3) nd rfl (Or.inl rfl) (pe_callB call_abs rfl T.f_abs (by decide +kernel) (pa_cons (pv 2) pa_nil)))
      (pss_cons (ps_set (i := 4) nd rfl (Or.inl rfl) (pe_op op_add (pe_op op_add (pe_op op_add (pe_op op_mod (pe_callTy call_int1 rfl T.f_int PySem.Pv.boot_int (pa_cons (pv 3) pa_nil)) pe_int) (pe_op op_mul (pe_op op_mul pe_int (pv 1)) (pv 1))) (pe_op op_mul pe_int (pv 1))) pe_int))
      (pss_cons (ps_set (i := 4) nd rfl (Or.inl rfl) (pe_op op_mod (pe_callTy call_int1 rfl T.f_int PySem.Pv.boot_int (pa_cons (pe_op op_mul (pv 4) pe_int) pa_nil)) pe_int))
      (pss_one (ps_ret (pe_lst (pa_cons (pe_op op_mul (pv 3) (pe_callTy call_int1 rfl T.f_int PySem.Pv.boot_int (pa_cons (pe_cmpR op_ge (pv 3) (pe_op op_pow pe_int pe_int) (nomark _)) pa_nil)))
        (pa_cons (pe_op op_mod (pe_callTy call_int1 rfl T.f_int PySem.Pv.boot_int (pa_cons (pe_op op_mul (pv 4) (pv 4)) pa_nil)) pe_int) pa_nil)))))))), ?_⟩
    refine ⟨_, rfl, _, rfl, _, ns.length, rfl, .inl ⟨_, hp, by simp⟩, _, _, rfl, rfl, decide ((k : Int) < (ns.length : Int)), rfl, ?_⟩
    refine (if hkl : k < ns.length then ?a else ?b)
    case' a =>
      rw [decide_eq_true (show (k : Int) < (ns.length : Int) by omega)]
      refine iteT ⟨_, rfl, _, rfl, p, _, _, _, rfl, rfl, hp, atI_nat (j := k) (by rw [List.getElem?_map, List.getElem?_eq_getElem hkl]; rfl), ?_⟩
      have s1 : Same H H := Same.refl _
      obtain ⟨c, hc⟩ : ∃ c, c = ns[k] := ⟨_, rfl⟩
      rw [← hc]
      clear hc
    case' b =>
      have e63 : cutV (ns.map V.int) none (some 63) = (ns.map V.int).take 63 := cutTo 63
      rw [decide_eq_false (show ¬ (k : Int) < (ns.length : Int) by omega)]
      refine iteF ⟨_, rfl, 63, rfl, p, _, rfl, hp, fun r hr' => ?_⟩
      have s1 : Same H (upd H r (.lst (cutV (ns.map V.int) none (some 63)))) := Same.upd hr'
      refine ⟨r, ns.take 63, rfl, SqL.of (by rw [upd_same, e63, List.map_take]), _, _, rfl, rfl, .inl ⟨by decide, by decide⟩, _, rfl, _, _, rfl, rfl, ?_⟩
      obtain ⟨c, hc⟩ : ∃ c, c = 7 * (ns.take 63).sum + (k : Int) := ⟨_, rfl⟩
      dsimp only
      rw [← hc]
      clear hc
    all_goals
      refine ⟨_, rfl, c, rfl, ?_⟩
      have hsz : 0 ≤ (if c < 0 then -c else c) := by split <;> omega
      revert hsz
      generalize (if c < 0 then -c else c) = z
      intro hsz
      refine ⟨_, rfl, .inl ⟨z, rfl, _, _, rfl, rfl, (by show (0 : Int) < 2147483629; decide), _, rfl, _, _, rfl, rfl, .inl ⟨by decide, by decide⟩, _, rfl, _, _, rfl, rfl, .inr ⟨by omega, by omega⟩, _, _, rfl, rfl, _, rfl, _, _, rfl, rfl, .inl ⟨by decide, by decide⟩, _, _, rfl, rfl, _, _, rfl, rfl, ?_⟩⟩
      dsimp only
      generalize z % 2147483629 + 7919 * (k : Int) * (k : Int) + 31 * (k : Int) + 17 = x1
      refine ⟨_, rfl, _, _, rfl, rfl, .inr ⟨by decide, by decide⟩, .inl ⟨_, rfl, _, _, rfl, rfl, (by show (0 : Int) < 2147483647; decide), ?_⟩⟩
      dsimp only
      have hx2 : 0 ≤ x1 * 48271 % 2147483647 ∧ x1 * 48271 % 2147483647 < 2147483647 := ⟨Int.emod_nonneg _ (by decide), Int.emod_lt_of_pos _ (by decide)⟩
      revert hx2
      generalize x1 * 48271 % 2147483647 = x2
      rintro ⟨hx2, hx3⟩
      refine ⟨_, rfl, _, rfl, _, _, rfl, rfl, ⟨by decide, by decide, by decide⟩, _, _, rfl, rfl, .inr ⟨_, rfl, _, _, rfl, rfl, .inr ⟨by split <;> decide, by split <;> decide⟩, ?_⟩⟩
      refine ⟨_, rfl, _, rfl, _, _, rfl, rfl, .inl ⟨by omega, by omega⟩, .inl ⟨_, rfl, _, _, rfl, rfl, (by show (0 : Int) < 2147483629; decide), (by show 2 ≤ sizeLine; decide), fun l hl => ?_⟩⟩
      refine q l _ (Same.upd' s1 hl) (Same.free s1 hl) ⟨_, _, upd_same, ?_, Int.emod_nonneg _ (by decide), Int.lt_trans (Int.emod_lt_of_pos _ (by decide)) (by decide)⟩
      exact Int.mul_nonneg hsz (by split <;> decide)
end
end K80
namespace K80
open PySem PySem.Spec PyProof.Rows L2
theorem emod_nat (a : Int) {n : Nat} (h : 1 ≤ n) : ∃ r : Nat, a % (n : Int) = (r : Int) ∧ r < n := by
  have h1 : 0 ≤ a % (n : Int) := Int.emod_nonneg _ (by omega)
  have h2 : a % (n : Int) < n := Int.emod_lt_of_pos _ (by omega)
  obtain ⟨r, hr⟩ := Int.eq_ofNat_of_zero_le h1
  exact ⟨r, hr, by omega⟩
theorem Pool.at_ {H : Hp} {p : Addr} (h : Pool H p) : ∃ ys, H p = some (.lst ys) := let ⟨a, m, h, _⟩ := h; ⟨_, h⟩
theorem Pool.kp {H H' : Hp} {p : Addr} (h : Pool H p) (s : Same H H') : Pool H' p := let ⟨a, m, h, r⟩ := h; ⟨a, m, s _ _ h, r⟩
section
variable {P : Program} {w : World} {K : PySem.W.Frag} {mg : Str → Option Value} {base : Heap}
def spDraw : Sp := fun vs H Q _ => ∃ (p : Addr) (n : Nat), vs = [.ref p, .int (n : Nat)] ∧ Pool H p ∧ 1 ≤ n ∧ n ≤ 1000 ∧ ∀ (r : Nat) H', r < n → Kp p H H' → Pool H' p → Q (.int (r : Nat)) H'
theorem c_law_draw (T : Top K mg) : Cal P w K mg base 1 "_law_draw" spDraw := by
  refine mkCal T.d__law_draw sc__law_draw b__law_draw (fun vs H Q E h => ?_) (fun f cdv A outer s H vs Q E hr h => ?_)
  · obtain ⟨p, n, rfl, _⟩ := h
    rfl
  · obtain ⟨p, n, rfl, ⟨a, m, hp, ha, hm0, hm⟩, h1, h2, q⟩ := h
    have nd := sc__law_draw.nd
    refine ⟨_, pss_cons (ps_if (pt_cmpR op_gt (pe_ix ix_list (pv 0) pe_int (fun _ _ => rfl)) pe_int (nomark _))
        (pss_cons (ps_set (i := 2) nd rfl (Or.inl rfl) (pe_op op_mod (pe_callTy call_int1 rfl T.f_int PySem.Pv.boot_int (pa_cons (pe_ix ix_list (pv 0) pe_int (fun _ _ => rfl)) pa_nil)) (pv 1)))
        (pss_cons (ps_asg (pe_op op_fdiv (pe_ix ix_list (pv 0) pe_int (fun _ _ => rfl)) (pv 1)) (pg_sub (pv 0) pe_int set_list)) (pss_one (ps_ret (pv 2))))) pss_nil)
      (pss_cons (ps_asg (pe_op op_mod (pe_callTy call_int1 rfl T.f_int PySem.Pv.boot_int (pa_cons (pe_op op_add (pe_op op_mul (pe_ix ix_list (pv 0) pe_int (fun _ _ => rfl)) pe_int) pe_int) pa_nil)) pe_int) (pg_sub (pv 0) pe_int set_list))
      (pss_one (ps_ret (pe_op op_mod (pe_callTy call_int1 rfl T.f_int PySem.Pv.boot_int (pa_cons (pe_op op_fdiv (pe_op op_mod (pe_callTy call_int1 rfl T.f_int PySem.Pv.boot_int (pa_cons (pe_op op_mul (pe_ix ix_list (pv 0) pe_int (fun _ _ => rfl)) (pe_ix ix_list (pv 0) pe_int (fun _ _ => rfl))) pa_nil)) pe_int) pe_int) pa_nil)) (pv 1))))), ?_⟩
    have i0 : ∀ x y : V, atI [x, y] 0 = some x := fun x y => atI_nat (j := 0) rfl
    have i1 : ∀ x y : V, atI [x, y] 1 = some y := fun x y => atI_nat (j := 1) rfl
    refine ⟨_, rfl, p, _, _, _, rfl, rfl, SqL.of hp, i0 _ _, _, _, rfl, rfl, _, rfl, ?_⟩
    by_cases hz : 0 < a
    · rw [decide_eq_true hz]
      obtain ⟨r, hr1, hr2⟩ := emod_nat a h1
      refine iteT ⟨_, rfl, p, _, _, _, rfl, rfl, SqL.of hp, i0 _ _, .inl ⟨_, rfl, _, rfl, _, _, rfl, rfl, (by show (0 : Int) < (n : Int); omega), ?_⟩⟩
      refine ⟨_, rfl, p, _, _, _, rfl, rfl, SqL.of hp, i0 _ _, _, rfl, _, _, rfl, rfl, ⟨by omega, by omega⟩, _, rfl, p, _, 0, 0, rfl, rfl, hp, (by show ixN 2 0 = some 0; decide), ?_⟩
      refine ⟨_, rfl, ?_⟩
      dsimp only
      rw [hr1]
      exact q r _ hr2 (Kp.set hp) ⟨_, m, upd_same, Int.ediv_nonneg ha (by omega), hm0, hm⟩
    · rw [decide_eq_false hz]
      refine iteF ⟨_, rfl, p, _, _, _, rfl, rfl, SqL.of hp, i1 _ _, _, _, rfl, rfl, .inr ⟨by decide, by decide⟩, _, _, rfl, rfl, .inl ⟨_, rfl, _, _, rfl, rfl, (by show (0 : Int) < 2147483647; decide), ?_⟩⟩
      dsimp only
      have hx2 : 0 ≤ (m * 48271 + 11) % 2147483647 ∧ (m * 48271 + 11) % 2147483647 < 2147483647 := ⟨Int.emod_nonneg _ (by decide), Int.emod_lt_of_pos _ (by decide)⟩
      revert hx2
      generalize (m * 48271 + 11) % 2147483647 = m2
      rintro ⟨hx2, hx3⟩
      refine ⟨_, rfl, p, _, 1, 1, rfl, rfl, hp, (by show ixN 2 1 = some 1; decide), ?_⟩
      have hp2 : upd H p (.lst [.int a, .int m2]) p = some (.lst [.int a, .int m2]) := upd_same
      refine ⟨_, rfl, p, _, _, _, rfl, rfl, SqL.of hp2, i1 _ _, _, rfl, p, _, _, _, rfl, rfl, SqL.of hp2, i1 _ _, _, _, rfl, rfl, .inl ⟨by omega, by omega⟩, .inl ⟨_, rfl, _, _, rfl, rfl, (by show (0 : Int) < 2147483629; decide), _, _, rfl, rfl, ⟨by decide, by decide⟩, .inl ⟨_, rfl, _, rfl, _, _, rfl, rfl, (by show (0 : Int) < (n : Int); omega), ?_⟩⟩⟩
      dsimp only
      obtain ⟨r, hr1, hr2⟩ := emod_nat (m2 * m2 % 2147483629 / 16) h1
      rw [hr1]
      exact q r _ hr2 (Kp.set hp) ⟨a, m2, hp2, ha, hx2, hx3⟩
def spPick (K : PySem.W.Frag) : Sp := fun vs H Q _ => ∃ (p r : Addr) (xs : List V), vs = [.ref p, .ref r] ∧ Pool H p ∧ SqL K H r xs ∧ r ≠ p ∧ 1 ≤ xs.length ∧ xs.length ≤ 1000 ∧ ∀ (i : Nat) x H', xs[i]? = some x → Kp p H H' → Pool H' p → Q x H'
theorem SqL.kp {H H' : Hp} {p r : Addr} {xs : List V} (k : Kp p H H') (h : SqL K H r xs) (n : r ≠ p) : SqL K H' r xs := by
  rcases h with (h | ⟨o, h⟩) | h
  · exact .inl (.inl (k.but _ _ h n))
  · exact .inl (.inr ⟨o, k.but _ _ h n⟩)
  · exact .inr h
theorem c_law_pick (T : Top K mg) : Cal P w K mg base 2 "_law_pick" (spPick K) := by
  refine mkCal T.d__law_pick sc__law_pick b__law_pick (fun vs H Q E h => ?_) (fun f cdv A outer s H vs Q E hr h => ?_)
  · obtain ⟨p, r, xs, rfl, _⟩ := h
    rfl
  · obtain ⟨p, r, xs, rfl, hp, hx, hne, h1, h2, q⟩ := h
    refine ⟨_, pss_one (ps_ret (pe_ix ix_list (pv 1) (cc (c_law_draw T) hr (pa_cons (pv 0) (pa_cons (plen T.f_len (pv 1)) pa_nil))) (fun _ _ => rfl))), ?_⟩
    refine ⟨_, rfl, _, rfl, _, rfl, _, xs.length, rfl, .inl ⟨xs, hx, rfl⟩, p, xs.length, rfl, hp, h1, h2, fun i H1 hi k1 p1 => ?_⟩
    exact ⟨r, xs, _, _, rfl, rfl, SqL.kp k1 hx hne, atI_nat (j := i) (List.getElem?_eq_getElem hi), q i _ H1 (List.getElem?_eq_getElem hi) k1 p1⟩
end
end K80
namespace K80
open PySem PySem.Spec PyProof.Rows L2
theorem Pool.k {H H' : Hp} {p : Addr} (h : Pool H p) (s : Same H H') : Kp p H H' := let ⟨_, _, h, _⟩ := h; Kp.of s h
theorem Pool.ne {H : Hp} {p e : Addr} (h : Pool H p) (he : H e = none) : e ≠ p := let ⟨_, _, h, _⟩ := h; (ne_of_none h he).symm
theorem Kp.new {H H' : Hp} {p x : Addr} (k : Kp p H H') (h : H' x = none) : H x = none := by
  cases e : H x with
  | none => rfl
  | some o =>
    by_cases n : x = p
    · subst n
      obtain ⟨ys, hy⟩ := k.to
      rw [hy] at h
      cases h
    · rw [k.but _ _ e n] at h
      cases h
/-! ### the names -/
def EndOk (h t : Str) : Prop := (h = "" ∧ t = "") ∨ (h = "" ∧ t = "q") ∨ (h = "ab" ∧ t = "") ∨ (h = "abcdefg" ∧ t = "") ∨ (h = "" ∧ t = "abcdefg")
def nmOf (h t : Str) (c : Nat) : Str := h ++ ⟨#[c]⟩ ++ t
theorem tl_nmOf (h t : Str) (c : Nat) : tl (nmOf h t c) = tl h ++ [c] ++ tl t := by
  show TL.tl (h ++ ⟨#[c]⟩ ++ t) = TL.tl h ++ [c] ++ TL.tl t
  rw [TL.tl_append, TL.tl_append]
theorem nmOf_inj {h t : Str} {c d : Nat} (e : nmOf h t c = nmOf h t d) : c = d := by
  have e2 := congrArg tl e
  rw [tl_nmOf, tl_nmOf] at e2
  simpa using e2
theorem end_len {h t : Str} (e : EndOk h t) : (h.length + t.length ≤ 7) ∧ h.length + t.length ≠ 3 := by
  rcases e with ⟨rfl, rfl⟩ | ⟨rfl, rfl⟩ | ⟨rfl, rfl⟩ | ⟨rfl, rfl⟩ | ⟨rfl, rfl⟩ <;> decide +kernel
theorem end_tl {h t : Str} (e : EndOk h t) : ∀ c, (c ∈ tl h ∨ c ∈ tl t) → 97 ≤ c ∧ c ≤ 122 := by
  have e0 : tl "" = [] := by decide +kernel
  have e1 : tl "q" = [113] := by decide +kernel
  have e2 : tl "ab" = [97, 98] := by decide +kernel
  have e3 : tl "abcdefg" = [97, 98, 99, 100, 101, 102, 103] := by decide +kernel
  intro c hc
  rcases e with ⟨rfl, rfl⟩ | ⟨rfl, rfl⟩ | ⟨rfl, rfl⟩ | ⟨rfl, rfl⟩ | ⟨rfl, rfl⟩ <;> simp [e0, e1, e2, e3] at hc <;> omega
theorem nmOf_len {h t : Str} {c : Nat} : (nmOf h t c).length = h.length + 1 + t.length := by
  unfold nmOf
  rw [Str.length_append, Str.length_append]
  rfl
theorem nmOf_nm {h t : Str} {c : Nat} (e : EndOk h t) (h1 : 97 ≤ c) (h2 : c ≤ 122) : Nm (nmOf h t c) := by
  have := end_len e
  refine ⟨by rw [nmOf_len]; omega, by rw [nmOf_len]; omega, fun d hd => ?_⟩
  rw [tl_nmOf, List.mem_append, List.mem_append, List.mem_singleton] at hd
  rcases hd with (hd | rfl) | hd
  · exact end_tl e d (.inl hd)
  · exact ⟨h1, h2⟩
  · exact end_tl e d (.inr hd)
theorem nmOf_ne {h t : Str} {c : Nat} (e : EndOk h t) : nmOf h t c ≠ "zzzz" := by
  intro z
  have := end_len e
  have e2 := congrArg Str.length z
  rw [nmOf_len, show ("zzzz" : Str).length = 4 by decide +kernel] at e2
  omega
theorem steps_nd : ∀ o, o < 26 → ∀ s, s < 6 → ((List.range 8).map fun k => 97 + (o + (1 + 2 * s) * k) % 26).Nodup := by decide +kernel
theorem sign_at : ∀ n, n < 26 → ("abcdefghijklmnopqrstuvwxyz" : Str).cps[n]? = some (97 + n) := by decide +kernel
structure NamesOk (ws : List Str) : Prop where
  len : ws.length = 8
  nm : ∀ w ∈ ws, Nm w ∧ w ≠ "zzzz"
  nd : ws.Nodup
theorem names_ok {h t : Str} (e : EndOk h t) {o s : Nat} (ho : o < 26) (hs : s < 6) : NamesOk ((List.range 8).map fun k => nmOf h t (97 + (o + (1 + 2 * s) * k) % 26)) := by
  refine ⟨by simp, fun w hw => ?_, ?_⟩
  · obtain ⟨k, _, rfl⟩ := List.mem_map.mp hw
    exact ⟨nmOf_nm e (by omega) (by omega), nmOf_ne e⟩
  · have n1 := steps_nd o ho s hs
    have e2 : ((List.range 8).map fun k => nmOf h t (97 + (o + (1 + 2 * s) * k) % 26)) = ((List.range 8).map fun k => 97 + (o + (1 + 2 * s) * k) % 26).map (nmOf h t) := by rw [List.map_map]; rfl
    rw [e2]
    exact List.Pairwise.map _ (fun a b hab hc => hab (nmOf_inj hc)) n1
section
variable {P : Program} {w : World} {K : PySem.W.Frag} {mg : Str → Option Value} {base : Heap}
def spNamesL (K : PySem.W.Frag) : Sp := fun vs H Q _ => ∃ p : Addr, vs = [.ref p, .int 8] ∧ Pool H p ∧ ∀ q ws H', Kp p H H' → Pool H' p → H q = none → H' q = some (.lst (ws.map V.str)) → NamesOk ws → Q (.ref q) H'
theorem c_law_names (T : Top K mg) : Cal P w K mg base 3 "_law_names" (spNamesL K) := by
  refine mkCal T.d__law_names sc__law_names b__law_names (fun vs H Q E h => ?_) (fun f cdv A outer s H vs Q E hr h => ?_)
  · obtain ⟨p, rfl, _⟩ := h
    rfl
  · obtain ⟨p, rfl, hp, q⟩ := h
    have nd := sc__law_names.nd
    refine ⟨_, pss_cons (ps_set (i := 2) nd rfl (Or.inr rfl) pe_str)
      (pss_cons (ps_asg (pe_tup (pa_cons (cc (c_law_draw T) hr (pa_cons (pv 0) (pa_cons pe_int pa_nil))) (pa_cons (pe_op op_add pe_int (pe_op op_mul pe_int (cc (c_law_draw T) hr (pa_cons (pv 0) (pa_cons pe_int pa_nil))))) pa_nil))) (pg_tup rfl (pgs_cons (pg_name (i := 3) nd rfl (Or.inr rfl)) (pgs_cons (pg_name (i := 4) nd rfl (Or.inr rfl)) pgs_nil))))
      (pss_cons (ps_set (i := 5) nd rfl (Or.inl rfl) (pe_lst (pa_cons (pe_tup (pa_cons pe_str (pa_cons pe_str pa_nil))) (pa_cons (pe_tup (pa_cons pe_str (pa_cons pe_str pa_nil))) (pa_cons (pe_tup (pa_cons pe_str (pa_cons pe_str pa_nil))) (pa_cons (pe_tup (pa_cons pe_str (pa_cons pe_str pa_nil))) (pa_cons (pe_tup (pa_cons pe_str (pa_cons pe_str pa_nil))) pa_nil)))))))
      (pss_cons (ps_asg (cc (c_law_pick T) hr (pa_cons (pv 0) (pa_cons (pv 5) pa_nil))) (pg_tup rfl (pgs_cons (pg_name (i := 6) nd rfl (Or.inr rfl)) (pgs_cons (pg_name (i := 7) nd rfl (Or.inr rfl)) pgs_nil))))
      (pss_one (ps_ret (plc n__law_names (defScope s__law_names) 8 nd (pi_range1 rfl T.f_range (pa_cons (pv 1) pa_nil))
        (te := tOp (fun x y H Q => ∃ i j, x = .str i ∧ y = .str j ∧ i.length + j.length ≤ sizeLine ∧ Q (.str (i ++ j)) H) (tOp (fun x y H Q => ∃ i j, x = .str i ∧ y = .str j ∧ i.length + j.length ≤ sizeLine ∧ Q (.str (i ++ j)) H) (tVar 6)
          (tOp (fun x y H Q => ∃ z i c, x = .str z ∧ y = .int i ∧ 0 ≤ i ∧ i < 2 ^ 63 ∧ i < z.length ∧ z.cps[i.toNat]? = some c ∧ Q (.str ⟨#[c]⟩) H) (tVar 2) (tOp (rI (fun _ j => 0 < j) fun i j => .int (i % j)) (tCB (fun xs H Q => (∃ i, xs = [.int i] ∧ Q (.int i) H) ∨ ∃ k, xs = [.bl k] ∧ Q (.int (if k then 1 else 0)) H) (tCons (tOp (rI0 fun i j => .int (i + j)) (tVar 3) (tOp (rI CMul fun i j => .int (i * j)) (tVar 4) (tVar 8))) tNil)) (tC (.int 26))))) (tVar 7))
        (fun _ _ _ _ _ => pe_op op_add_str (pe_op op_add_str (pv 6) (pe_item_str (pv 2) (pe_op op_mod (pe_callTy call_int1 rfl T.f_int PySem.Pv.boot_int (pa_cons (pe_op op_add (pv 3) (pe_op op_mul (pv 4) (pv 8))) pa_nil)) pe_int) (fun _ _ => rfl))) (pv 7)))))))), ?_⟩
    refine ⟨_, rfl, p, 26, rfl, hp, by decide, by decide, fun o H1 ho k1 p1 => ?_⟩
    refine ⟨_, rfl, p, 6, rfl, p1, by decide, by decide, fun st H2 hst k2 p2 => ?_⟩
    refine ⟨_, _, rfl, rfl, .inl ⟨by decide, by decide⟩, _, _, rfl, rfl, (by show 2 ≤ sizeLine; decide), fun t0 ht0 => ?_⟩
    refine ⟨t0, _, rfl, SqT.of upd_same, rfl, _, _, rfl, _, _, rfl, rfl, ?_⟩
    have s0 : Same H2 (upd H2 t0 (.tup [.int (o : Nat), .int (1 + 2 * (st : Nat))])) := Same.upd ht0
    refine ⟨(by show 2 ≤ sizeLine; decide), fun t1 h1 => ⟨(by show 2 ≤ sizeLine; decide), fun t2 h2 => ⟨(by show 2 ≤ sizeLine; decide), fun t3 h3 => ⟨(by show 2 ≤ sizeLine; decide), fun t4 h4 => ⟨(by show 2 ≤ sizeLine; decide), fun t5 h5 => ⟨(by show 5 ≤ sizeLine; decide), fun e he => ?_⟩⟩⟩⟩⟩⟩
    have s1 := Same.upd h1 (o := .tup [.str "", .str ""])
    have s2 := Same.upd h2 (o := .tup [.str "", .str "q"])
    have s3 := Same.upd h3 (o := .tup [.str "ab", .str ""])
    have s4 := Same.upd h4 (o := .tup [.str "abcdefg", .str ""])
    have s5 := Same.upd h5 (o := .tup [.str "", .str "abcdefg"])
    have s6 := Same.upd he (o := .lst [.ref t1, .ref t2, .ref t3, .ref t4, .ref t5])
    have s05 := ((((s0.trans s1).trans s2).trans s3).trans s4).trans s5
    have p5 := p2.kp s05
    have p6 := p5.kp s6
    have item : ∀ (i : Nat) x, ([.ref t1, .ref t2, .ref t3, .ref t4, .ref t5] : List V)[i]? = some x → ∃ a h t, x = .ref a ∧ EndOk h t ∧ upd (upd (upd (upd (upd (upd (upd H2 t0 (.tup [.int (o : Nat), .int (1 + 2 * (st : Nat))])) t1 (.tup [.str "", .str ""])) t2 (.tup [.str "", .str "q"])) t3 (.tup [.str "ab", .str ""])) t4 (.tup [.str "abcdefg", .str ""])) t5 (.tup [.str "", .str "abcdefg"])) e (.lst [.ref t1, .ref t2, .ref t3, .ref t4, .ref t5]) a = some (.tup [.str h, .str t]) := by
      intro i x hx
      rcases i with _ | _ | _ | _ | _ | i
      · cases hx
        exact ⟨t1, _, _, rfl, .inl ⟨rfl, rfl⟩, s6 _ _ (s5 _ _ (s4 _ _ (s3 _ _ (s2 _ _ upd_same))))⟩
      · cases hx
        exact ⟨t2, _, _, rfl, .inr (.inl ⟨rfl, rfl⟩), s6 _ _ (s5 _ _ (s4 _ _ (s3 _ _ upd_same)))⟩
      · cases hx
        exact ⟨t3, _, _, rfl, .inr (.inr (.inl ⟨rfl, rfl⟩)), s6 _ _ (s5 _ _ (s4 _ _ upd_same))⟩
      · cases hx
        exact ⟨t4, _, _, rfl, .inr (.inr (.inr (.inl ⟨rfl, rfl⟩))), s6 _ _ (s5 _ _ upd_same)⟩
      · cases hx
        exact ⟨t5, _, _, rfl, .inr (.inr (.inr (.inr ⟨rfl, rfl⟩))), s6 _ _ upd_same⟩
      · simp at hx
    refine ⟨_, rfl, _, rfl, p, e, _, rfl, p6, SqL.of upd_same, p5.ne he, (by show 1 ≤ 5; decide), (by show 5 ≤ 1000; decide), fun i x H7 hx k7 p7 => ?_⟩
    obtain ⟨a, hd, tl', rfl, eok, ha⟩ := item i x hx
    have kall := (k1.trans k2).trans ((p2.k (s05.trans s6)).trans k7)
    refine ⟨a, _, rfl, SqT.of (k7.nl _ _ ha rfl), rfl, _, _, rfl, _, _, rfl, rfl, ?_⟩
    refine ⟨_, rfl, 8, rfl, by decide, by decide, fun D hD => ?_⟩
    have el := end_len eok
    refine lc_same walk_range (by decide) hD (fun j y _ => y = .str (nmOf hd tl' (97 + (o + (1 + 2 * st) * j) % 26))) (fun _ _ => trivial) (fun _ _ _ _ _ r => r) ?_ ?_
    · rintro j x H8 H9 Qk hj s8 ⟨rfl, rfl⟩ kk
      have hj8 : j < 8 := hj
      have ei : ((o : Int) + (1 + 2 * (st : Int)) * (0 + (j : Int))) % 26 = (((o + (1 + 2 * st) * j) % 26 : Nat) : Int) := by
        rw [Int.zero_add]
        push_cast
        rfl
      refine ⟨rfl, _, rfl, _, rfl, _, rfl, _, rfl, _, rfl, _, _, rfl, rfl, .inl ⟨by omega, by omega⟩, _, _, rfl, rfl, .inl ⟨_, rfl, _, _, rfl, rfl, (by show (0 : Int) < 26; decide), ?_⟩⟩
      dsimp only
      rw [ei]
      have hlt : (o + (1 + 2 * st) * j) % 26 < 26 := Nat.mod_lt _ (by decide)
      have hsl : ("abcdefghijklmnopqrstuvwxyz" : Str).length = 26 := by decide +kernel
      refine ⟨_, _, 97 + (o + (1 + 2 * st) * j) % 26, rfl, rfl, by omega, by omega, by rw [hsl]; omega, by rw [Int.toNat_natCast]; exact sign_at _ hlt, _, _, rfl, rfl, le_line ?_, _, rfl, _, _, rfl, rfl, le_line ?_, kk _ _ (Same.refl _) rfl⟩
      · have : (⟨#[97 + (o + (1 + 2 * st) * j) % 26]⟩ : Str).length = 1 := rfl
        omega
      · rw [Str.length_append]
        have : (⟨#[97 + (o + (1 + 2 * st) * j) % 26]⟩ : Str).length = 1 := rfl
        omega
    · intro H8 acc s8 a8
      have e8 := a8.2.1
      have eacc := acc_map (l := List.range 8) (f := fun j => V.str (nmOf hd tl' (97 + (o + (1 + 2 * st) * j) % 26))) (acc := acc) (by rw [e8]; simp) fun j y hy => by
        have hl : j < acc.length := (List.getElem?_eq_some_iff.mp hy).1
        have hl8 : j < 8 := by rw [e8] at hl; exact hl
        exact ⟨j, by rw [List.getElem?_range hl8], a8.2.2 j y hy⟩
      refine q D _ H8 (kall.trans (p7.k s8)) (p7.kp s8) (kall.new hD) (by rw [a8.1, eacc, List.map_map]; rfl) (names_ok eok ho hst)
end
end K80
namespace K80
open PySem PySem.Spec PyProof.Rows L2
/-! ### the law's book: a dict -/
def CellT (K : PySem.W.Frag) (H : Hp) (q : Str × Str) (v : V) : Prop := ∃ a, v = .ref a ∧ SqT K H a [.str q.1, .str q.2]
def fnKv (f : Fd) (x : V) (wp : Addr) : List (Key × V) := [(Sum.inr "name", .str f.name), (Sum.inr "many", .int (f.many : Nat)), (Sum.inr "result", x), (Sum.inr "writes", .ref wp), (Sum.inr "cost", .int (f.cost : Nat)), (Sum.inr "label", .str f.label)]
def FnD (K : PySem.W.Frag) (H : Hp) (f : Fd) (v : V) : Prop := ∃ a wp x ws, v = .ref a ∧ H a = some (.dK (fnKv f x wp)) ∧ TV K H f.result x ∧ SqT K H wp ws ∧ Paired (WrAt K H) f.writes ws
def bkKv (c fl : Addr) : List (Key × V) := [(Sum.inr "cells", .ref c), (Sum.inr "functions", .ref fl)]
def BkD (K : PySem.W.Frag) (p : Addr) (H : Hp) (d : Addr) (cells : List (Str × Str)) (fns : List Fd) : Prop := ∃ c fl cs fs, H d = some (.dK (bkKv c fl)) ∧ c ≠ p ∧ fl ≠ p ∧ H c = some (.lst cs) ∧ Paired (CellT K H) cells cs ∧ H fl = some (.lst fs) ∧ Paired (FnD K H) fns fs
section
variable {K : PySem.W.Frag} {H H' : Hp}
theorem CellT.nl (s : NL H H') {q : Str × Str} {v : V} (h : CellT K H q v) : CellT K H' q v := let ⟨a, e, h⟩ := h; ⟨a, e, s.tup h⟩
theorem FnD.nl (s : NL H H') {f : Fd} {v : V} (h : FnD K H f v) : FnD K H' f v :=
  let ⟨a, wp, x, ws, e, h, t, w, r⟩ := h; ⟨a, wp, x, ws, e, s _ _ h rfl, t.nl s, s.tup w, Paired.mapP r fun _ _ => WrAt.nl s⟩
theorem BkD.kp {p d : Addr} {cells : List (Str × Str)} {fns : List Fd} (k : Kp p H H') (h : BkD K p H d cells fns) : BkD K p H' d cells fns :=
  let ⟨c, fl, cs, fs, h1, n1, n2, h2, h3, h4, h5⟩ := h
  ⟨c, fl, cs, fs, k.nl _ _ h1 rfl, n1, n2, k.but _ _ h2 n1, Paired.mapP h3 fun _ _ => CellT.nl k.nl, k.but _ _ h4 n2, Paired.mapP h5 fun _ _ => FnD.nl k.nl⟩
theorem BkD.same {p d : Addr} {cells : List (Str × Str)} {fns : List Fd} (s : Same H H') (h : BkD K p H d cells fns) : BkD K p H' d cells fns :=
  let ⟨c, fl, cs, fs, h1, n1, n2, h2, h3, h4, h5⟩ := h
  ⟨c, fl, cs, fs, s _ _ h1, n1, n2, s _ _ h2, Paired.mapP h3 fun _ _ => CellT.nl (NL.of s), s _ _ h4, Paired.mapP h5 fun _ _ => FnD.nl (NL.of s)⟩
theorem dg {a : Addr} {kvs : List (Key × V)} {z : Str} {v : V} (h : H a = some (.dK kvs)) (e : valV kvs (Sum.inr z : Key) = some v) : DGet H a (.str z) (some v) := e ▸ DGet.k (k := Sum.inr z) h
end
theorem vn {a b : Str} {x : V} {r : List (Key × V)} {v : Option V} (n : a ≠ b) (e : valV r (Sum.inr b : Key) = v) : valV ((Sum.inr a, x) :: r) (Sum.inr b : Key) = v := (valV_neg (fun z => n (Sum.inr.inj z))).trans e
theorem bk_c {c fl : Addr} : valV (bkKv c fl) (Sum.inr "cells" : Key) = some (.ref c) := valV_pos rfl
theorem bk_f {c fl : Addr} : valV (bkKv c fl) (Sum.inr "functions" : Key) = some (.ref fl) := vn (by decide +kernel) (valV_pos rfl)
section
variable {f : Fd} {x : V} {wp : Addr}
theorem fk_n : valV (fnKv f x wp) (Sum.inr "name" : Key) = some (.str f.name) := valV_pos rfl
theorem fk_m : valV (fnKv f x wp) (Sum.inr "many" : Key) = some (.int (f.many : Nat)) := vn (by decide +kernel) (valV_pos rfl)
theorem fk_r : valV (fnKv f x wp) (Sum.inr "result" : Key) = some x := vn (by decide +kernel) (vn (by decide +kernel) (valV_pos rfl))
theorem fk_w : valV (fnKv f x wp) (Sum.inr "writes" : Key) = some (.ref wp) := vn (by decide +kernel) (vn (by decide +kernel) (vn (by decide +kernel) (valV_pos rfl)))
theorem fk_c : valV (fnKv f x wp) (Sum.inr "cost" : Key) = some (.int (f.cost : Nat)) := vn (by decide +kernel) (vn (by decide +kernel) (vn (by decide +kernel) (vn (by decide +kernel) (valV_pos rfl))))
theorem fk_l : valV (fnKv f x wp) (Sum.inr "label" : Key) = some (.str f.label) := vn (by decide +kernel) (vn (by decide +kernel) (vn (by decide +kernel) (vn (by decide +kernel) (vn (by decide +kernel) (valV_pos rfl)))))
end
/-! ### the law's terms -/
def sz : Nat → Nat
  | 0 => 1
  | d + 1 => 1 + 3 * sz d
theorem sz_pos : ∀ d, 1 ≤ sz d
  | 0 => Nat.le_refl _
  | d + 1 => by show 1 ≤ 1 + 3 * sz d; omega
structure LT (cs : List Str) (fs : List (Str × Nat)) (m d : Nat) (t : Tm) : Prop where
  wf : t.wf m
  ok : t.ok cs fs
  size : t.size ≤ sz d
  depth : t.depth ≤ d + 1
def mkCall (f : Str) : List Tm → Tm
  | [] => .call0 f
  | [a] => .call1 f a
  | a :: b :: _ => .call2 f a b
section
variable {cs : List Str} {fs : List (Str × Nat)} {m d : Nat}
theorem LT.val {n : Nat} (h : n < 3) : LT cs fs m d (.val n) := ⟨by show n ≤ 2; omega, trivial, sz_pos d, by show 1 ≤ d + 1; omega⟩
theorem LT.arg {i : Nat} (h : i < m) : LT cs fs m d (.arg i) := ⟨h, trivial, sz_pos d, by show 1 ≤ d + 1; omega⟩
theorem LT.cell {c : Str} (h : Nm c) (hm : c ∈ cs) : LT cs fs m d (.cell c) := ⟨h, hm, sz_pos d, by show 1 ≤ d + 1; omega⟩
theorem LT.tick : LT cs fs m d .tick := ⟨trivial, trivial, sz_pos d, by show 1 ≤ d + 1; omega⟩
theorem LT.two {k : Str} {a b : Tm} (hk : Tm.IsPair k) (ha : LT cs fs m d a) (hb : LT cs fs m d b) : LT cs fs m (d + 1) (.two k a b) :=
  ⟨⟨hk, ha.wf, hb.wf⟩, ⟨ha.ok, hb.ok⟩, by have := ha.size; have := hb.size; show 1 + a.size + b.size ≤ 1 + 3 * sz d; omega, by have := ha.depth; have := hb.depth; show 1 + max a.depth b.depth ≤ d + 1 + 1; omega⟩
theorem LT.ite {c a b : Tm} (hc : LT cs fs m d c) (ha : LT cs fs m d a) (hb : LT cs fs m d b) : LT cs fs m (d + 1) (.ite c a b) :=
  ⟨⟨hc.wf, ha.wf, hb.wf⟩, ⟨hc.ok, ha.ok, hb.ok⟩, by have := hc.size; have := ha.size; have := hb.size; show 1 + c.size + a.size + b.size ≤ 1 + 3 * sz d; omega, by have := hc.depth; have := ha.depth; have := hb.depth; show 1 + max c.depth (max a.depth b.depth) ≤ d + 1 + 1; omega⟩
theorem LT.call {f : Str} {n : Nat} (hf : Nm f) (hm : (f, n) ∈ fs) (hn : n ≤ 2) : ∀ {ts : List Tm}, ts.length = n → (∀ t ∈ ts, LT cs fs m 0 t) → LT cs fs m (d + 1) (mkCall f ts)
  | [], e, _ => by
    subst e
    exact ⟨hf, hm, sz_pos _, by show 1 ≤ d + 1 + 1; omega⟩
  | [a], e, h => by
    subst e
    have ha := h a (List.mem_cons_self ..)
    have h1 := ha.size
    have h2 := ha.depth
    have h3 := sz_pos d
    have h4 : sz 0 = 1 := rfl
    exact ⟨⟨hf, ha.wf⟩, ⟨hm, ha.ok⟩, by show 1 + a.size ≤ 1 + 3 * sz d; omega, by show 1 + a.depth ≤ d + 1 + 1; omega⟩
  | [a, b], e, h => by
    subst e
    have ha := h a (List.mem_cons_self ..)
    have hb := h b (by simp)
    have h1 := ha.size
    have h2 := ha.depth
    have h5 := hb.size
    have h6 := hb.depth
    have h3 := sz_pos d
    have h4 : sz 0 = 1 := rfl
    exact ⟨⟨hf, ha.wf, hb.wf⟩, ⟨hm, ha.ok, hb.ok⟩, by show 1 + a.size + b.size ≤ 1 + 3 * sz d; omega, by show 1 + max a.depth b.depth ≤ d + 1 + 1; omega⟩
  | a :: b :: c :: r, e, _ => by
    rw [List.length_cons, List.length_cons, List.length_cons] at e
    omega
end
theorem mk_call {K : PySem.W.Frag} {H : Hp} {f : Str} {p q : Addr} : ∀ {ts : List Tm} {vs : List V}, ts.length ≤ 2 → SqT K H p [.str "call", .str f, .ref q] → SqT K H q vs → TVs K H ts vs → TV K H (mkCall f ts) (.ref p)
  | [], _, _, hp, hq, h => TV.of_call (t := .call0 f) rfl hp hq h
  | [a], _, _, hp, hq, h => TV.of_call (t := .call1 f a) rfl hp hq h
  | [a, b], _, _, hp, hq, h => TV.of_call (t := .call2 f a b) rfl hp hq h
  | a :: b :: c :: r, _, hl, _, _, _ => by
    rw [List.length_cons, List.length_cons, List.length_cons] at hl
    omega
theorem acc_ex {A : Type} {F : A → V → Prop} : ∀ {acc : List V}, (∀ (j : Nat) y, acc[j]? = some y → ∃ a, F a y) → ∃ l : List A, Paired F l acc
  | [], _ => ⟨[], .nil⟩
  | y :: r, h => by
    obtain ⟨a, ha⟩ := h 0 y rfl
    obtain ⟨l, hl⟩ := acc_ex (acc := r) fun j z e => h (j + 1) z (by simpa using e)
    exact ⟨a :: l, .cons ha hl⟩
section
variable {P : Program} {w : World} {K : PySem.W.Frag} {mg : Str → Option Value} {base : Heap}
structure BkS (cells : List (Str × Str)) (fns : List Fd) : Prop where
  cnm : ∀ q ∈ cells, Nm q.1
  fnm : ∀ f ∈ fns, Nm f.name ∧ f.many ≤ 2
  c3 : cells.length ≤ 3
  f4 : fns.length ≤ 4
def spLawTerm (K : PySem.W.Frag) (d : Nat) : Sp := fun vs H Q _ => ∃ (p db : Addr) (m : Nat) (cells : List (Str × Str)) (fns : List Fd), vs = [.ref p, .ref db, .int (m : Nat), .int (d : Nat)] ∧ Pool H p ∧ BkD K p H db cells fns ∧ BkS cells fns ∧ m ≤ 2 ∧
  ∀ t v H', Kp p H H' → Pool H' p → TV K H' t v → LT (cells.map (·.1)) (fns.map Fd.sig) m d t → Q v H'
/-- n terms, one after the other -/
theorem gen_terms {d m n : Nat} {p db D : Addr} {cells : List (Str × Str)} {fns : List Fd} {H0 : Hp} {σ : L2.St} {lo : Int} {ta : TE} (hn : n ≤ 3) (hp : Pool H0 p) (hb : BkD K p H0 db cells fns) (hs : BkS cells fns) (hm : m ≤ 2) (hD : H0 D = none)
    (hz : ∀ x, wipe ((wipe σ [6]).set 6 (some x)) [6] = wipe σ [6]) (h0 : ∀ x, ((wipe σ [6]).set 6 (some x))[0]? = some (some (.ref p))) (h1 : ∀ x, ((wipe σ [6]).set 6 (some x))[1]? = some (some (.ref db))) (h2 : ∀ x, ((wipe σ [6]).set 6 (some x))[2]? = some (some (.int (m : Nat))))
    (hta : ∀ x H (Q : VK), Q (.int (d : Nat)) H → ta ((wipe σ [6]).set 6 (some x)) H Q) (Qd : Hp → Prop)
    (q : ∀ H1 ts vs, Kp p H0 H1 → Pool H1 p → H1 D = some (.lst vs) → ts.length = n → TVs K H1 ts vs → (∀ t ∈ ts, LT (cells.map (·.1)) (fns.map Fd.sig) m d t) → Qd H1) :
    LcB (Itr lo n) (gName 6) (tCall (spLawTerm K d) [] E0 (tCons (tVar 0) (tCons (tVar 1) (tCons (tVar 2) (tCons ta tNil))))) [6] σ H0 D Qd := by
  obtain ⟨ys, hp0⟩ := hp.at_
  have hDp : p ≠ D := ne_of_none hp0 hD
  refine lc_gen walk_range (by omega) (fun i H => Kp p H0 H ∧ Pool H p) (fun j y H => ∃ t, TV K H t y ∧ LT (cells.map (·.1)) (fns.map Fd.sig) m d t) ⟨hp.k (Same.upd hD), hp.kp (Same.upd hD)⟩ (fun _ _ _ _ => trivial) ?_ ?_ ?_ ?_
  · rintro i H z z' ⟨k1, p1⟩ hz'
    obtain ⟨a, b, h, r⟩ := p1
    refine ⟨⟨k1.at_, ⟨_, by rw [upd_ne hDp]; exact h⟩, fun c o e n => ?_⟩, a, b, by rw [upd_ne hDp]; exact h, r⟩
    rw [upd_ne (ne_of_none e hD)]
    exact k1.but c o e n
  · rintro j y H z z' ⟨t, ht, hl⟩ hz'
    exact ⟨t, ht.nl (Kp.set hz').nl, hl⟩
  · rintro i x H H' acc Qk hi ⟨k1, p1⟩ hacc ⟨rfl, rfl⟩ kk
    refine ⟨hz _, _, h0 _, _, h1 _, _, h2 _, hta _ _ _ ?_⟩
    refine ⟨p, db, m, cells, fns, rfl, p1, hb.kp k1, hs, hm, fun t v H4 k4 p4 tv lt => ?_⟩
    exact kk v H4 (k4.but _ _ hacc hDp.symm) ⟨k1.trans k4, p4⟩ ⟨t, tv, lt⟩ fun j z _ ⟨t', e, l⟩ => ⟨t', e.nl k4.nl, l⟩
  · rintro H acc ⟨k1, p1⟩ a
    obtain ⟨ts, hts⟩ := acc_ex a.2.2
    refine q H ts acc k1 p1 a.1 (by rw [Paired.len hts, a.2.1]) (Paired.mapP hts fun _ _ h => h.1) fun t ht => ?_
    obtain ⟨i, hi⟩ := List.getElem?_of_mem ht
    obtain ⟨y, _, _, h⟩ := Paired.get hts hi
    exact h
end
end K80
namespace K80
open PySem PySem.Spec PyProof.Rows L2
theorem pick3 {i : Nat} {x : V} (h : ([.str "plus", .str "less", .str "same"] : List V)[i]? = some x) : ∃ k, x = .str k ∧ Tm.IsPair k := by
  rcases i with _ | _ | _ | i
  · cases h
    exact ⟨_, rfl, .inl rfl⟩
  · cases h
    exact ⟨_, rfl, .inr (.inl rfl)⟩
  · cases h
    exact ⟨_, rfl, .inr (.inr rfl)⟩
  · simp at h
section
variable {P : Program} {w : World} {K : PySem.W.Frag} {mg : Str → Option Value} {base : Heap}
theorem c_law_term0 (T : Top K mg) : Cal P w K mg base 3 "_law_term" (spLawTerm K 0) := by
  refine mkCal T.d__law_term sc__law_term b__law_term (fun vs H Q E h => ?_) (fun f cdv A outer s H vs Q E hr h => ?_)
  · obtain ⟨p, db, m, cells, fns, rfl, _⟩ := h
    rfl
  · obtain ⟨p, db, m, cells, fns, rfl, hp, hb, hs, hm, q⟩ := h
    have nd := sc__law_term.nd
    have hu := hu_of hr

    refine ⟨_, pss_cons (ps_set (i := 4) nd rfl (Or.inl rfl) (cc (c_law_draw T) hr (pa_cons (pv 0) (pa_cons (pe_ifExp (pt_cmpR op_gt (pv 3) pe_int (nomark _)) pe_int pe_int) pa_nil)) (by omega)))
      (pss_cons (ps_if (PW.pt (pw_or (pt_cmpR op_eq (pv 4) pe_int (nomark _)) (pw_or (PW.pt (pw_and (pt_cmpR op_eq (pv 4) pe_int (nomark _)) (pw_and1 (pt_cmpR op_eq (pv 2) pe_int (nomark _))))) (pw_or1 (PW.pt (pw_and (pt_cmpR op_in_seq (pv 4) (pe_lst (pa_cons pe_int (pa_cons pe_int pa_nil))) rfl) (pw_and1 (pt_cmpR (op_eqNil hr) (pe_dget hu (pv 1) pe_str (fun _ _ => rfl)) (pe_lst pa_nil) (nomark _)))))))))
          (pss_one (ps_ret (cc (c_law_draw T) hr (pa_cons (pv 0) (pa_cons pe_int pa_nil)) (by omega)))) pss_nil)
      (pss_cons (ps_if (pt_cmpR op_eq (pv 4) pe_int (nomark _)) (pss_one (ps_ret (pe_tup (pa_cons pe_str (pa_cons (cc (c_law_draw T) hr (pa_cons (pv 0) (pa_cons (pv 2) pa_nil)) (by omega)) pa_nil))))) pss_nil)
      (pss_cons (ps_if (PW.pt (pw_or (pt_cmpR op_eq (pv 4) pe_int (nomark _)) (pw_or1 (pt_cmpR op_eq (pv 4) pe_int (nomark _))))) (pss_one (ps_ret (pe_tup (pa_cons pe_str (pa_cons (pe_ix ix_tup (cc (c_law_pick T) hr (pa_cons (pv 0) (pa_cons (pe_dget hu (pv 1) pe_str (fun _ _ => rfl)) pa_nil)) (by omega)) pe_int (fun _ _ => rfl)) pa_nil))))) pss_nil)
      (pss_cons (ps_if (pt_cmpR op_eq (pv 4) pe_int (nomark _)) (pss_one (ps_ret (pe_ifExp (pt_cmpR op_eq (cc (c_law_draw T) hr (pa_cons (pv 0) (pa_cons pe_int pa_nil)) (by omega)) pe_int (nomark _)) (pe_tup (pa_cons pe_str pa_nil)) (cc (c_law_draw T) hr (pa_cons (pv 0) (pa_cons pe_int pa_nil)) (by omega))))) pss_nil)
      pss_never)))), ?_⟩
    refine ⟨_, rfl, _, rfl, _, _, rfl, rfl, false, congrArg V.bl (by decide +kernel), iteF ⟨p, 4, rfl, hp, by decide, by decide, fun kd H1 hk k1 p1 => ?_⟩⟩
    have e2 : ∀ l, H1 l = none → Pool (upd H1 l (.lst [.int 2, .int 8])) p ∧ Kp p H (upd H1 l (.lst [.int 2, .int 8])) := fun l hl => ⟨p1.kp (Same.upd hl), k1.trans (p1.k (Same.upd hl))⟩
    rcases kd with _ | _ | _ | _ | kd
    · exact ⟨_, rfl, rfl, true, congrArg V.bl (by decide +kernel), iteT ⟨_, rfl, p, 3, rfl, p1, by decide, by decide, fun n H9 hn k9 p9 => q (.val n) _ H9 (k1.trans k9) p9 rfl (LT.val hn)⟩⟩
    · by_cases hm0 : m = 0
      · subst hm0
        exact ⟨_, rfl, rfl, false, congrArg V.bl (by decide +kernel), iteF ⟨_, rfl, rfl, true, congrArg V.bl (by decide +kernel), iteT ⟨_, rfl, rfl, true, congrArg V.bl (by decide +kernel), iteT ⟨_, rfl, p, 3, rfl, p1, by decide, by decide, fun n H9 hn k9 p9 => q (.val n) _ H9 (k1.trans k9) p9 rfl (LT.val hn)⟩⟩⟩⟩
      · refine ⟨_, rfl, rfl, false, congrArg V.bl (by decide +kernel), iteF ⟨_, rfl, rfl, true, congrArg V.bl (by decide +kernel), iteT ⟨_, rfl, rfl, false, congrArg V.bl (decide_eq_false fun z => hm0 (by have := V.int.inj z; omega)), iteF ⟨_, rfl, (by show 2 ≤ sizeLine; decide), fun l hl => ⟨l, _, rfl, .inl (SqL.of upd_same), rfl, rfl, false, congrArg V.bl (by decide +kernel), iteF ?_⟩⟩⟩⟩⟩
        obtain ⟨p2, k2⟩ := e2 l hl
        refine ⟨_, rfl, rfl, true, congrArg V.bl (by decide +kernel), iteT ⟨_, rfl, _, rfl, p, m, rfl, p2, by omega, by omega, fun n H9 hn k9 p9 => ⟨(by show 2 ≤ sizeLine; decide), fun r hr9 => ?_⟩⟩⟩
        exact q (.arg n) _ _ (k2.trans (k9.trans (p9.k (Same.upd hr9)))) (p9.kp (Same.upd hr9)) ⟨r, rfl, SqT.of upd_same⟩ (LT.arg hn)
    · refine ⟨_, rfl, rfl, false, congrArg V.bl (by decide +kernel), iteF ⟨_, rfl, rfl, false, congrArg V.bl (by decide +kernel), iteF ⟨_, rfl, (by show 2 ≤ sizeLine; decide), fun l hl => ⟨l, _, rfl, .inl (SqL.of upd_same), rfl, rfl, true, congrArg V.bl (by decide +kernel), iteT ?_⟩⟩⟩⟩
      obtain ⟨p2, k2⟩ := e2 l hl
      have b2 := hb.kp k2
      obtain ⟨c, fl, cs, fs, h1, n1, n2, h2, h3, h4, h5⟩ := b2
      have lc := Paired.len h3
      refine ⟨_, rfl, db, .ref c, rfl, dg h1 bk_c, (by show 0 ≤ sizeLine; decide), fun l2 hl2 => ⟨c, l2, cs, rfl, rfl, SqL.of (Same.upd hl2 _ _ h2), SqL.of upd_same, ?_⟩⟩
      have s3 : Same (upd H1 l (.lst [.int 2, .int 8])) (upd (upd H1 l (.lst [.int 2, .int 8])) l2 (.lst [])) := Same.upd hl2
      have k3 := k2.trans (p2.k s3)
      have p3 := p2.kp s3
      cases cs with
      | nil => exact ⟨true, rfl, iteT ⟨_, rfl, p, 3, rfl, p3, by decide, by decide, fun n H9 hn k9 p9 => q (.val n) _ H9 (k3.trans k9) p9 rfl (LT.val hn)⟩⟩
      | cons y ys =>
        refine ⟨false, rfl, iteF ⟨_, rfl, rfl, false, congrArg V.bl (by decide +kernel), iteF ⟨_, rfl, rfl, true, congrArg V.bl (by decide +kernel), iteT ⟨_, rfl, _, rfl, db, .ref c, rfl, dg (s3 _ _ h1) bk_c, p, c, y :: ys, rfl, p3, SqL.of (s3 _ _ h2), n1, by simp, by rw [← lc]; have := hs.c3; omega, fun i x H9 hx k9 p9 => ?_⟩⟩⟩⟩
        obtain ⟨cq, hcq, ca, rfl, hca⟩ := Paired.get' h3 hx
        refine ⟨ca, _, _, _, rfl, rfl, k9.nl.tup ((NL.of s3).tup hca), atI_nat (j := 0) rfl, (by show 2 ≤ sizeLine; decide), fun r hr9 => ?_⟩
        have hmem := List.mem_of_getElem? hcq
        exact q (.cell cq.1) _ _ (k3.trans (k9.trans (p9.k (Same.upd hr9)))) (p9.kp (Same.upd hr9)) ⟨r, rfl, SqT.of upd_same⟩ (LT.cell (hs.cnm cq hmem) (List.mem_map.mpr ⟨cq, hmem, rfl⟩))
    · refine ⟨_, rfl, rfl, false, congrArg V.bl (by decide +kernel), iteF ⟨_, rfl, rfl, false, congrArg V.bl (by decide +kernel), iteF ⟨_, rfl, (by show 2 ≤ sizeLine; decide), fun l hl => ⟨l, _, rfl, .inl (SqL.of upd_same), rfl, rfl, false, congrArg V.bl (by decide +kernel), iteF ?_⟩⟩⟩⟩
      obtain ⟨p2, k2⟩ := e2 l hl
      refine ⟨_, rfl, rfl, false, congrArg V.bl (by decide +kernel), iteF ⟨_, rfl, rfl, false, congrArg V.bl (by decide +kernel), iteF ⟨_, rfl, rfl, false, congrArg V.bl (by decide +kernel), iteF ⟨_, rfl, rfl, true, congrArg V.bl (by decide +kernel), iteT ⟨_, rfl, p, 3, rfl, p2, by decide, by decide, fun n H9 hn k9 p9 => ?_⟩⟩⟩⟩⟩
      have k3 := k2.trans k9
      by_cases hn0 : n = 0
      · subst hn0
        exact ⟨rfl, true, congrArg V.bl (by decide +kernel), iteT ⟨(by show 1 ≤ sizeLine; decide), fun r hr9 => q .tick _ _ (k3.trans (p9.k (Same.upd hr9))) (p9.kp (Same.upd hr9)) ⟨r, rfl, SqT.of upd_same⟩ LT.tick⟩⟩
      · exact ⟨rfl, false, congrArg V.bl (decide_eq_false fun z => hn0 (by have := V.int.inj z; omega)), iteF ⟨_, rfl, p, 3, rfl, p9, by decide, by decide, fun n H10 hn k10 p10 => q (.val n) _ H10 (k3.trans k10) p10 rfl (LT.val hn)⟩⟩
    · omega
theorem c_law_term (T : Top K mg) : ∀ d : Nat, Cal P w K mg base (d + 3) "_law_term" (spLawTerm K d)
  | 0 => c_law_term0 T
  | d + 1 => by
    have ih := c_law_term T d
    refine mkCal T.d__law_term sc__law_term b__law_term (fun vs H Q E h => ?_) (fun f cdv A outer s H vs Q E hr h => ?_)
    · obtain ⟨p, db, m, cells, fns, rfl, _⟩ := h
      rfl
    · obtain ⟨p, db, m, cells, fns, rfl, hp, hb, hs, hm, q⟩ := h
      have nd := sc__law_term.nd
      have hu := hu_of hr

      refine ⟨_, pss_cons (ps_set (i := 4) nd rfl (Or.inl rfl) (cc (c_law_draw T) hr (pa_cons (pv 0) (pa_cons (pe_ifExp (pt_cmpR op_gt (pv 3) pe_int (nomark _)) pe_int pe_int) pa_nil)) (by omega)))
        (pss_cons (ps_if (PW.pt (pw_or (pt_cmpR op_eq (pv 4) pe_int (nomark _)) (pw_or (PW.pt (pw_and (pt_cmpR op_eq (pv 4) pe_int (nomark _)) (pw_and1 (pt_cmpR op_eq (pv 2) pe_int (nomark _))))) (pw_or1 (PW.pt (pw_and (pt_cmpR op_in_seq (pv 4) (pe_lst (pa_cons pe_int (pa_cons pe_int pa_nil))) rfl) (pw_and1 (pt_cmpR (op_eqNil hr) (pe_dget hu (pv 1) pe_str (fun _ _ => rfl)) (pe_lst pa_nil) (nomark _)))))))))
          (pss_one (ps_ret (cc (c_law_draw T) hr (pa_cons (pv 0) (pa_cons pe_int pa_nil)) (by omega)))) pss_nil)
        (pss_cons (ps_if (pt_cmpR op_eq (pv 4) pe_int (nomark _)) (pss_one (ps_ret (pe_tup (pa_cons pe_str (pa_cons (cc (c_law_draw T) hr (pa_cons (pv 0) (pa_cons (pv 2) pa_nil)) (by omega)) pa_nil))))) pss_nil)
        (pss_cons (ps_if (PW.pt (pw_or (pt_cmpR op_eq (pv 4) pe_int (nomark _)) (pw_or1 (pt_cmpR op_eq (pv 4) pe_int (nomark _))))) (pss_one (ps_ret (pe_tup (pa_cons pe_str (pa_cons (pe_ix ix_tup (cc (c_law_pick T) hr (pa_cons (pv 0) (pa_cons (pe_dget hu (pv 1) pe_str (fun _ _ => rfl)) pa_nil)) (by omega)) pe_int (fun _ _ => rfl)) pa_nil))))) pss_nil)
        (pss_cons (ps_if (pt_cmpR op_eq (pv 4) pe_int (nomark _)) (pss_one (ps_ret (pe_ifExp (pt_cmpR op_eq (cc (c_law_draw T) hr (pa_cons (pv 0) (pa_cons pe_int pa_nil)) (by omega)) pe_int (nomark _)) (pe_tup (pa_cons pe_str pa_nil)) (cc (c_law_draw T) hr (pa_cons (pv 0) (pa_cons pe_int pa_nil)) (by omega))))) pss_nil)
        (pss_cons (ps_if (PW.pt (pw_and (pt_cmpR op_eq (pv 4) pe_int (nomark _)) (pw_and1 (pt_cmpR (op_neNil hr) (pe_dget hu (pv 1) pe_str (fun _ _ => rfl)) (pe_lst pa_nil) (nomark _)))))
          (pss_cons (ps_set (i := 5) nd rfl (Or.inl rfl) (cc (c_law_pick T) hr (pa_cons (pv 0) (pa_cons (pe_dget hu (pv 1) pe_str (fun _ _ => rfl)) pa_nil)) (by omega)))
          (pss_one (ps_ret (pe_tup (pa_cons pe_str (pa_cons (pe_dget hu (pv 5) pe_str (fun _ _ => rfl)) (pa_cons (pe_callTy call_tuple_of rfl T.f_tuple boot_tuple (pa_cons (plc n__law_term (defScope s__law_term) 6 nd (pi_range1 rfl T.f_range (pa_cons (pe_dget hu (pv 5) pe_str (fun _ _ => rfl)) pa_nil)) (te := tCall (spLawTerm K 0) [] E0 (tCons (tVar 0) (tCons (tVar 1) (tCons (tVar 2) (tCons (tC (.int 0)) tNil))))) (fun _ _ _ _ _ => (cc (c_law_term0 T) hr (pa_cons (pv 0) (pa_cons (pv 1) (pa_cons (pv 2) (pa_cons pe_int pa_nil)))) (by omega)))) pa_nil)) pa_nil))))))) pss_nil)
        (pss_cons (ps_if (pt_cmpR op_eq (pv 4) pe_int (nomark _)) (pss_one (ps_ret (pe_op op_catT (pe_tup (pa_cons pe_str pa_nil)) (pe_callTy call_tuple_of rfl T.f_tuple boot_tuple (pa_cons (plc n__law_term (defScope s__law_term) 6 nd (pi_range1 rfl T.f_range (pa_cons pe_int pa_nil)) (te := tCall (spLawTerm K d) [] E0 (tCons (tVar 0) (tCons (tVar 1) (tCons (tVar 2) (tCons (tOp (rI0 fun i j => V.int (i - j)) (tVar 3) (tC (.int 1))) tNil))))) (fun _ _ _ _ _ => (cc ih hr (pa_cons (pv 0) (pa_cons (pv 1) (pa_cons (pv 2) (pa_cons (pe_op op_sub (pv 3) pe_int) pa_nil)))) (Nat.le_refl _)))) pa_nil))))) pss_nil)
        (pss_cons (ps_set (i := 7) nd rfl (Or.inl rfl) (cc (c_law_pick T) hr (pa_cons (pv 0) (pa_cons (pe_lst (pa_cons pe_str (pa_cons pe_str (pa_cons pe_str pa_nil)))) pa_nil)) (by omega)))
        (pss_one (ps_ret (pe_tup (pa_cons (pv 7) (pa_cons (cc ih hr (pa_cons (pv 0) (pa_cons (pv 1) (pa_cons (pv 2) (pa_cons (pe_op op_sub (pv 3) pe_int) pa_nil)))) (Nat.le_refl _)) (pa_cons (cc ih hr (pa_cons (pv 0) (pa_cons (pv 1) (pa_cons (pv 2) (pa_cons (pe_op op_sub (pv 3) pe_int) pa_nil)))) (Nat.le_refl _)) pa_nil))))))))))))), ?_⟩
      refine ⟨_, rfl, _, rfl, _, _, rfl, rfl, true, congrArg V.bl (decide_eq_true (by omega)), iteT ⟨p, 9, rfl, hp, by decide, by decide, fun kd H1 hk k1 p1 => ?_⟩⟩
      have hsub : ∀ x H2 (Q2 : VK), Q2 (.int (d : Nat)) H2 → tOp (rI0 fun i j => V.int (i - j)) (tVar 3) (tC (.int 1)) ((wipe [some (.ref p), some (.ref db), some (.int (m : Nat)), some (.int ((d + 1 : Nat) : Int)), some (.int (kd : Nat)), none, none, none] [6]).set 6 (some x)) H2 Q2 := by
        intro x H2 Q2 h2
        refine ⟨_, rfl, _, _, rfl, rfl, ?_⟩
        dsimp only
        rw [show (((d + 1 : Nat) : Int) - 1) = ((d : Nat) : Int) by omega]
        exact h2
      have esub : [V.ref p, V.ref db, V.int (m : Nat), V.int (((d + 1 : Nat) : Int) - 1)] ++ [] = [V.ref p, V.ref db, V.int (m : Nat), V.int (d : Nat)] := by
        rw [show (((d + 1 : Nat) : Int) - 1) = ((d : Nat) : Int) by omega]
        rfl
      have e2 : ∀ l, H1 l = none → Pool (upd H1 l (.lst [.int 2, .int 8])) p ∧ Kp p H (upd H1 l (.lst [.int 2, .int 8])) := fun l hl => ⟨p1.kp (Same.upd hl), k1.trans (p1.k (Same.upd hl))⟩
      rcases kd with _ | _ | _ | _ | _ | _ | _ | _ | _ | kd
      · exact ⟨_, rfl, rfl, true, congrArg V.bl (by decide +kernel), iteT ⟨_, rfl, p, 3, rfl, p1, by decide, by decide, fun n H9 hn k9 p9 => q (.val n) _ H9 (k1.trans k9) p9 rfl (LT.val hn)⟩⟩
      · by_cases hm0 : m = 0
        · subst hm0
          exact ⟨_, rfl, rfl, false, congrArg V.bl (by decide +kernel), iteF ⟨_, rfl, rfl, true, congrArg V.bl (by decide +kernel), iteT ⟨_, rfl, rfl, true, congrArg V.bl (by decide +kernel), iteT ⟨_, rfl, p, 3, rfl, p1, by decide, by decide, fun n H9 hn k9 p9 => q (.val n) _ H9 (k1.trans k9) p9 rfl (LT.val hn)⟩⟩⟩⟩
        · refine ⟨_, rfl, rfl, false, congrArg V.bl (by decide +kernel), iteF ⟨_, rfl, rfl, true, congrArg V.bl (by decide +kernel), iteT ⟨_, rfl, rfl, false, congrArg V.bl (decide_eq_false fun z => hm0 (by have := V.int.inj z; omega)), iteF ⟨_, rfl, (by show 2 ≤ sizeLine; decide), fun l hl => ⟨l, _, rfl, .inl (SqL.of upd_same), rfl, rfl, false, congrArg V.bl (by decide +kernel), iteF ?_⟩⟩⟩⟩⟩
          obtain ⟨p2, k2⟩ := e2 l hl
          refine ⟨_, rfl, rfl, true, congrArg V.bl (by decide +kernel), iteT ⟨_, rfl, _, rfl, p, m, rfl, p2, by omega, by omega, fun n H9 hn k9 p9 => ⟨(by show 2 ≤ sizeLine; decide), fun r hr9 => ?_⟩⟩⟩
          exact q (.arg n) _ _ (k2.trans (k9.trans (p9.k (Same.upd hr9)))) (p9.kp (Same.upd hr9)) ⟨r, rfl, SqT.of upd_same⟩ (LT.arg hn)
      · refine ⟨_, rfl, rfl, false, congrArg V.bl (by decide +kernel), iteF ⟨_, rfl, rfl, false, congrArg V.bl (by decide +kernel), iteF ⟨_, rfl, (by show 2 ≤ sizeLine; decide), fun l hl => ⟨l, _, rfl, .inl (SqL.of upd_same), rfl, rfl, true, congrArg V.bl (by decide +kernel), iteT ?_⟩⟩⟩⟩
        obtain ⟨p2, k2⟩ := e2 l hl
        have b2 := hb.kp k2
        obtain ⟨c, fl, cs, fs, h1, n1, n2, h2, h3, h4, h5⟩ := b2
        have lc := Paired.len h3
        refine ⟨_, rfl, db, .ref c, rfl, dg h1 bk_c, (by show 0 ≤ sizeLine; decide), fun l2 hl2 => ⟨c, l2, cs, rfl, rfl, SqL.of (Same.upd hl2 _ _ h2), SqL.of upd_same, ?_⟩⟩
        have s3 : Same (upd H1 l (.lst [.int 2, .int 8])) (upd (upd H1 l (.lst [.int 2, .int 8])) l2 (.lst [])) := Same.upd hl2
        have k3 := k2.trans (p2.k s3)
        have p3 := p2.kp s3
        cases cs with
        | nil => exact ⟨true, rfl, iteT ⟨_, rfl, p, 3, rfl, p3, by decide, by decide, fun n H9 hn k9 p9 => q (.val n) _ H9 (k3.trans k9) p9 rfl (LT.val hn)⟩⟩
        | cons y ys =>
          refine ⟨false, rfl, iteF ⟨_, rfl, rfl, false, congrArg V.bl (by decide +kernel), iteF ⟨_, rfl, rfl, true, congrArg V.bl (by decide +kernel), iteT ⟨_, rfl, _, rfl, db, .ref c, rfl, dg (s3 _ _ h1) bk_c, p, c, y :: ys, rfl, p3, SqL.of (s3 _ _ h2), n1, by simp, by rw [← lc]; have := hs.c3; omega, fun i x H9 hx k9 p9 => ?_⟩⟩⟩⟩
          obtain ⟨cq, hcq, ca, rfl, hca⟩ := Paired.get' h3 hx
          refine ⟨ca, _, _, _, rfl, rfl, k9.nl.tup ((NL.of s3).tup hca), atI_nat (j := 0) rfl, (by show 2 ≤ sizeLine; decide), fun r hr9 => ?_⟩
          have hmem := List.mem_of_getElem? hcq
          exact q (.cell cq.1) _ _ (k3.trans (k9.trans (p9.k (Same.upd hr9)))) (p9.kp (Same.upd hr9)) ⟨r, rfl, SqT.of upd_same⟩ (LT.cell (hs.cnm cq hmem) (List.mem_map.mpr ⟨cq, hmem, rfl⟩))
      · refine ⟨_, rfl, rfl, false, congrArg V.bl (by decide +kernel), iteF ⟨_, rfl, rfl, false, congrArg V.bl (by decide +kernel), iteF ⟨_, rfl, (by show 2 ≤ sizeLine; decide), fun l hl => ⟨l, _, rfl, .inl (SqL.of upd_same), rfl, rfl, false, congrArg V.bl (by decide +kernel), iteF ?_⟩⟩⟩⟩
        obtain ⟨p2, k2⟩ := e2 l hl
        refine ⟨_, rfl, rfl, false, congrArg V.bl (by decide +kernel), iteF ⟨_, rfl, rfl, false, congrArg V.bl (by decide +kernel), iteF ⟨_, rfl, rfl, false, congrArg V.bl (by decide +kernel), iteF ⟨_, rfl, rfl, true, congrArg V.bl (by decide +kernel), iteT ⟨_, rfl, p, 3, rfl, p2, by decide, by decide, fun n H9 hn k9 p9 => ?_⟩⟩⟩⟩⟩
        have k3 := k2.trans k9
        by_cases hn0 : n = 0
        · subst hn0
          exact ⟨rfl, true, congrArg V.bl (by decide +kernel), iteT ⟨(by show 1 ≤ sizeLine; decide), fun r hr9 => q .tick _ _ (k3.trans (p9.k (Same.upd hr9))) (p9.kp (Same.upd hr9)) ⟨r, rfl, SqT.of upd_same⟩ LT.tick⟩⟩
        · exact ⟨rfl, false, congrArg V.bl (decide_eq_false fun z => hn0 (by have := V.int.inj z; omega)), iteF ⟨_, rfl, p, 3, rfl, p9, by decide, by decide, fun n H10 hn k10 p10 => q (.val n) _ H10 (k3.trans k10) p10 rfl (LT.val hn)⟩⟩
      · refine ⟨_, rfl, rfl, false, congrArg V.bl (by decide +kernel), iteF ⟨_, rfl, rfl, false, congrArg V.bl (by decide +kernel), iteF ⟨_, rfl, (by show 2 ≤ sizeLine; decide), fun l hl => ⟨l, _, rfl, .inl (SqL.of upd_same), rfl, rfl, false, congrArg V.bl (by decide +kernel), iteF ?_⟩⟩⟩⟩
        obtain ⟨p2, k2⟩ := e2 l hl
        obtain ⟨c, fl, cs, fs, h1, n1, n2, h2, h3, h4, h5⟩ := hb.kp k2
        have lf := Paired.len h5
        refine ⟨_, rfl, rfl, false, congrArg V.bl (by decide +kernel), iteF ⟨_, rfl, rfl, false, congrArg V.bl (by decide +kernel), iteF ⟨_, rfl, rfl, false, congrArg V.bl (by decide +kernel), iteF ⟨_, rfl, rfl, false, congrArg V.bl (by decide +kernel), iteF ⟨_, rfl, rfl, true, congrArg V.bl (by decide +kernel), iteT ⟨_, rfl, db, .ref fl, rfl, dg h1 bk_f, (by show 0 ≤ sizeLine; decide), fun l2 hl2 => ⟨fl, l2, fs, rfl, rfl, SqL.of (Same.upd hl2 _ _ h4), SqL.of upd_same, ?_⟩⟩⟩⟩⟩⟩⟩
        have s3 : Same (upd H1 l (.lst [.int 2, .int 8])) (upd (upd H1 l (.lst [.int 2, .int 8])) l2 (.lst [])) := Same.upd hl2
        have k3 := k2.trans (p2.k s3)
        have p3 := p2.kp s3
        cases fs with
        | nil =>
          refine ⟨false, rfl, iteF ⟨_, rfl, rfl, false, congrArg V.bl (by decide +kernel), iteF ⟨_, rfl, (by show 3 ≤ sizeLine; decide), fun l3 hl3 => ?_⟩⟩⟩
          have s4 : Same (upd (upd H1 l (.lst [.int 2, .int 8])) l2 (.lst [])) (upd (upd (upd H1 l (.lst [.int 2, .int 8])) l2 (.lst [])) l3 (.lst [.str "plus", .str "less", .str "same"])) := Same.upd hl3
          have p4 := p3.kp s4
          have k4 := k3.trans (p3.k s4)
          refine ⟨p, l3, _, rfl, p4, SqL.of upd_same, p3.ne hl3, (by show 1 ≤ 3; decide), (by show 3 ≤ 1000; decide), fun i x H9 hx k9 p9 => ?_⟩
          obtain ⟨kw, rfl, hkw⟩ := pick3 hx
          have k5 := k4.trans k9
          refine ⟨_, rfl, _, rfl, _, rfl, _, rfl, _, rfl, _, _, rfl, rfl, p, db, m, cells, fns, esub, p9, hb.kp k5, hs, hm, fun ta va H10 k10 p10 tv1 lt1 => ?_⟩
          have k6 := k5.trans k10
          refine ⟨_, rfl, _, rfl, _, rfl, _, rfl, _, _, rfl, rfl, p, db, m, cells, fns, esub, p10, hb.kp k6, hs, hm, fun tb vb H11 k11 p11 tv2 lt2 => ⟨(by show 3 ≤ sizeLine; decide), fun r hr9 => ?_⟩⟩
          have s12 : Same H11 (upd H11 r (.tup [.str kw, va, vb])) := Same.upd hr9
          exact q (.two kw ta tb) _ _ (k6.trans (k11.trans (p11.k s12))) (p11.kp s12) (TV.of_node (t := .two kw ta tb) rfl (SqT.of upd_same) (.cons ((tv1.nl k11.nl).nl (NL.of s12)) (.cons (tv2.nl (NL.of s12)) .nil))) (LT.two hkw lt1 lt2)
        | cons y ys =>
          refine ⟨true, rfl, iteT ⟨_, rfl, _, rfl, db, .ref fl, rfl, dg (s3 _ _ h1) bk_f, p, fl, y :: ys, rfl, p3, SqL.of (s3 _ _ h4), n2, by simp, by rw [← lf]; have := hs.f4; omega, fun i x H9 hx k9 p9 => ?_⟩⟩
          obtain ⟨ff, hff, hfd⟩ := Paired.get' h5 hx
          have hmem := List.mem_of_getElem? hff
          obtain ⟨hfn, hfm⟩ := hs.fnm ff hmem
          obtain ⟨fa, wp, xr, ws, rfl, hfa, _⟩ := (hfd.nl (NL.of s3)).nl k9.nl
          refine ⟨_, rfl, fa, _, rfl, dg hfa fk_n, _, rfl, fa, _, rfl, dg hfa fk_m, _, rfl, by omega, by omega, fun D hD => ?_⟩
          have k39 := k3.trans k9
          refine gen_terms (n := ff.many) (by omega) p9 (hb.kp k39) hs hm hD (fun _ => rfl) (fun _ => rfl) (fun _ => rfl) (fun _ => rfl) (fun _ _ _ h => h) _ fun H10 ts vs k10 p10 hvs hts tv hlt => ?_
          refine ⟨D, vs, rfl, .inl ⟨SqL.of hvs, fun r1 hr1 => ⟨(by show 3 ≤ sizeLine; decide), fun r2 hr2 => ?_⟩⟩⟩
          have s11 : Same H10 (upd H10 r1 (.tup vs)) := Same.upd hr1
          have s12 := Same.upd' s11 hr2 (o := .tup [.str "call", .str ff.name, .ref r1])
          exact q (mkCall ff.name ts) _ _ (k39.trans (k10.trans (p10.k s12))) (p10.kp s12) (mk_call (by omega) (SqT.of upd_same) (SqT.of (Same.upd hr2 _ _ upd_same)) (TVs.nl (NL.of s12) tv)) (LT.call hfn (List.mem_map.mpr ⟨ff, hmem, rfl⟩) hfm hts hlt)
      · refine ⟨_, rfl, rfl, false, congrArg V.bl (by decide +kernel), iteF ⟨_, rfl, rfl, false, congrArg V.bl (by decide +kernel), iteF ⟨_, rfl, (by show 2 ≤ sizeLine; decide), fun l hl => ⟨l, _, rfl, .inl (SqL.of upd_same), rfl, rfl, false, congrArg V.bl (by decide +kernel), iteF ?_⟩⟩⟩⟩
        obtain ⟨p2, k2⟩ := e2 l hl
        refine ⟨_, rfl, rfl, false, congrArg V.bl (by decide +kernel), iteF ⟨_, rfl, rfl, false, congrArg V.bl (by decide +kernel), iteF ⟨_, rfl, rfl, false, congrArg V.bl (by decide +kernel), iteF ⟨_, rfl, rfl, false, congrArg V.bl (by decide +kernel), iteF ⟨_, rfl, rfl, false, congrArg V.bl (by decide +kernel), iteF ⟨_, rfl, rfl, false, congrArg V.bl (by decide +kernel), iteF ⟨_, rfl, (by show 3 ≤ sizeLine; decide), fun l3 hl3 => ?_⟩⟩⟩⟩⟩⟩⟩
        have s4 : Same (upd H1 l (.lst [.int 2, .int 8])) (upd (upd H1 l (.lst [.int 2, .int 8])) l3 (.lst [.str "plus", .str "less", .str "same"])) := Same.upd hl3
        have p4 := p2.kp s4
        have k4 := k2.trans (p2.k s4)
        refine ⟨p, l3, _, rfl, p4, SqL.of upd_same, p2.ne hl3, (by show 1 ≤ 3; decide), (by show 3 ≤ 1000; decide), fun i x H9 hx k9 p9 => ?_⟩
        obtain ⟨kw, rfl, hkw⟩ := pick3 hx
        have k5 := k4.trans k9
        refine ⟨_, rfl, _, rfl, _, rfl, _, rfl, _, rfl, _, _, rfl, rfl, p, db, m, cells, fns, esub, p9, hb.kp k5, hs, hm, fun ta va H10 k10 p10 tv1 lt1 => ?_⟩
        have k6 := k5.trans k10
        refine ⟨_, rfl, _, rfl, _, rfl, _, rfl, _, _, rfl, rfl, p, db, m, cells, fns, esub, p10, hb.kp k6, hs, hm, fun tb vb H11 k11 p11 tv2 lt2 => ⟨(by show 3 ≤ sizeLine; decide), fun r hr9 => ?_⟩⟩
        have s12 : Same H11 (upd H11 r (.tup [.str kw, va, vb])) := Same.upd hr9
        exact q (.two kw ta tb) _ _ (k6.trans (k11.trans (p11.k s12))) (p11.kp s12) (TV.of_node (t := .two kw ta tb) rfl (SqT.of upd_same) (.cons ((tv1.nl k11.nl).nl (NL.of s12)) (.cons (tv2.nl (NL.of s12)) .nil))) (LT.two hkw lt1 lt2)
      · refine ⟨_, rfl, rfl, false, congrArg V.bl (by decide +kernel), iteF ⟨_, rfl, rfl, false, congrArg V.bl (by decide +kernel), iteF ⟨_, rfl, (by show 2 ≤ sizeLine; decide), fun l hl => ⟨l, _, rfl, .inl (SqL.of upd_same), rfl, rfl, false, congrArg V.bl (by decide +kernel), iteF ?_⟩⟩⟩⟩
        obtain ⟨p2, k2⟩ := e2 l hl
        refine ⟨_, rfl, rfl, false, congrArg V.bl (by decide +kernel), iteF ⟨_, rfl, rfl, false, congrArg V.bl (by decide +kernel), iteF ⟨_, rfl, rfl, false, congrArg V.bl (by decide +kernel), iteF ⟨_, rfl, rfl, false, congrArg V.bl (by decide +kernel), iteF ⟨_, rfl, rfl, false, congrArg V.bl (by decide +kernel), iteF ⟨_, rfl, rfl, false, congrArg V.bl (by decide +kernel), iteF ⟨_, rfl, (by show 3 ≤ sizeLine; decide), fun l3 hl3 => ?_⟩⟩⟩⟩⟩⟩⟩
        have s4 : Same (upd H1 l (.lst [.int 2, .int 8])) (upd (upd H1 l (.lst [.int 2, .int 8])) l3 (.lst [.str "plus", .str "less", .str "same"])) := Same.upd hl3
        have p4 := p2.kp s4
        have k4 := k2.trans (p2.k s4)
        refine ⟨p, l3, _, rfl, p4, SqL.of upd_same, p2.ne hl3, (by show 1 ≤ 3; decide), (by show 3 ≤ 1000; decide), fun i x H9 hx k9 p9 => ?_⟩
        obtain ⟨kw, rfl, hkw⟩ := pick3 hx
        have k5 := k4.trans k9
        refine ⟨_, rfl, _, rfl, _, rfl, _, rfl, _, rfl, _, _, rfl, rfl, p, db, m, cells, fns, esub, p9, hb.kp k5, hs, hm, fun ta va H10 k10 p10 tv1 lt1 => ?_⟩
        have k6 := k5.trans k10
        refine ⟨_, rfl, _, rfl, _, rfl, _, rfl, _, _, rfl, rfl, p, db, m, cells, fns, esub, p10, hb.kp k6, hs, hm, fun tb vb H11 k11 p11 tv2 lt2 => ⟨(by show 3 ≤ sizeLine; decide), fun r hr9 => ?_⟩⟩
        have s12 : Same H11 (upd H11 r (.tup [.str kw, va, vb])) := Same.upd hr9
        exact q (.two kw ta tb) _ _ (k6.trans (k11.trans (p11.k s12))) (p11.kp s12) (TV.of_node (t := .two kw ta tb) rfl (SqT.of upd_same) (.cons ((tv1.nl k11.nl).nl (NL.of s12)) (.cons (tv2.nl (NL.of s12)) .nil))) (LT.two hkw lt1 lt2)
      · refine ⟨_, rfl, rfl, false, congrArg V.bl (by decide +kernel), iteF ⟨_, rfl, rfl, false, congrArg V.bl (by decide +kernel), iteF ⟨_, rfl, (by show 2 ≤ sizeLine; decide), fun l hl => ⟨l, _, rfl, .inl (SqL.of upd_same), rfl, rfl, false, congrArg V.bl (by decide +kernel), iteF ?_⟩⟩⟩⟩
        obtain ⟨p2, k2⟩ := e2 l hl
        refine ⟨_, rfl, rfl, false, congrArg V.bl (by decide +kernel), iteF ⟨_, rfl, rfl, false, congrArg V.bl (by decide +kernel), iteF ⟨_, rfl, rfl, false, congrArg V.bl (by decide +kernel), iteF ⟨_, rfl, rfl, false, congrArg V.bl (by decide +kernel), iteF ⟨_, rfl, rfl, false, congrArg V.bl (by decide +kernel), iteF ⟨_, rfl, rfl, true, congrArg V.bl (by decide +kernel), iteT ⟨(by show 1 ≤ sizeLine; decide), fun t1 ht1 => ⟨3, rfl, by decide, by decide, fun D hD => ?_⟩⟩⟩⟩⟩⟩⟩⟩
        have s3 : Same (upd H1 l (.lst [.int 2, .int 8])) (upd (upd H1 l (.lst [.int 2, .int 8])) t1 (.tup [.str "if"])) := Same.upd ht1
        have k3 := k2.trans (p2.k s3)
        refine gen_terms (n := 3) (by omega) (p2.kp s3) (hb.kp k3) hs hm hD (fun _ => rfl) (fun _ => rfl) (fun _ => rfl) (fun _ => rfl) hsub _ fun H10 ts vs k10 p10 hvs hts tv hlt => ?_
        refine ⟨D, vs, rfl, .inl ⟨SqL.of hvs, fun r1 hr1 => ?_⟩⟩
        have s11 : Same H10 (upd H10 r1 (.tup vs)) := Same.upd hr1
        obtain ⟨ta, tb, tc, rfl⟩ : ∃ ta tb tc, ts = [ta, tb, tc] := by
          match ts, hts with
          | [ta, tb, tc], _ => exact ⟨ta, tb, tc, rfl⟩
        have hvl := Paired.len tv
        have h1 : SqT K (upd H10 r1 (.tup vs)) t1 [.str "if"] := SqT.of (s11 _ _ (k10.nl _ _ upd_same rfl))
        refine ⟨t1, r1, _, _, rfl, rfl, h1, SqT.of upd_same, by simp, by rw [← hvl, sizeLine_eq]; simp, fun z => ?_, fun _ r2 hr2 => ?_⟩
        · rw [z] at hvl
          cases hvl
        · have s12 := Same.upd' s11 hr2 (o := .tup ([.str "if"] ++ vs))
          exact q (.ite ta tb tc) _ _ (k3.trans (k10.trans (p10.k s12))) (p10.kp s12) (TV.of_node (t := .ite ta tb tc) rfl (SqT.of upd_same) (TVs.nl (NL.of s12) tv)) (LT.ite (hlt ta (by simp)) (hlt tb (by simp)) (hlt tc (by simp)))
      · refine ⟨_, rfl, rfl, false, congrArg V.bl (by decide +kernel), iteF ⟨_, rfl, rfl, false, congrArg V.bl (by decide +kernel), iteF ⟨_, rfl, (by show 2 ≤ sizeLine; decide), fun l hl => ⟨l, _, rfl, .inl (SqL.of upd_same), rfl, rfl, true, congrArg V.bl (by decide +kernel), iteT ?_⟩⟩⟩⟩
        obtain ⟨p2, k2⟩ := e2 l hl
        have b2 := hb.kp k2
        obtain ⟨c, fl, cs, fs, h1, n1, n2, h2, h3, h4, h5⟩ := b2
        have lc := Paired.len h3
        refine ⟨_, rfl, db, .ref c, rfl, dg h1 bk_c, (by show 0 ≤ sizeLine; decide), fun l2 hl2 => ⟨c, l2, cs, rfl, rfl, SqL.of (Same.upd hl2 _ _ h2), SqL.of upd_same, ?_⟩⟩
        have s3 : Same (upd H1 l (.lst [.int 2, .int 8])) (upd (upd H1 l (.lst [.int 2, .int 8])) l2 (.lst [])) := Same.upd hl2
        have k3 := k2.trans (p2.k s3)
        have p3 := p2.kp s3
        cases cs with
        | nil => exact ⟨true, rfl, iteT ⟨_, rfl, p, 3, rfl, p3, by decide, by decide, fun n H9 hn k9 p9 => q (.val n) _ H9 (k3.trans k9) p9 rfl (LT.val hn)⟩⟩
        | cons y ys =>
          refine ⟨false, rfl, iteF ⟨_, rfl, rfl, false, congrArg V.bl (by decide +kernel), iteF ⟨_, rfl, rfl, false, congrArg V.bl (by decide +kernel), iteF ⟨_, rfl, rfl, true, congrArg V.bl (by decide +kernel), iteT ⟨_, rfl, _, rfl, db, .ref c, rfl, dg (s3 _ _ h1) bk_c, p, c, y :: ys, rfl, p3, SqL.of (s3 _ _ h2), n1, by simp, by rw [← lc]; have := hs.c3; omega, fun i x H9 hx k9 p9 => ?_⟩⟩⟩⟩⟩
          obtain ⟨cq, hcq, ca, rfl, hca⟩ := Paired.get' h3 hx
          refine ⟨ca, _, _, _, rfl, rfl, k9.nl.tup ((NL.of s3).tup hca), atI_nat (j := 0) rfl, (by show 2 ≤ sizeLine; decide), fun r hr9 => ?_⟩
          have hmem := List.mem_of_getElem? hcq
          exact q (.cell cq.1) _ _ (k3.trans (k9.trans (p9.k (Same.upd hr9)))) (p9.kp (Same.upd hr9)) ⟨r, rfl, SqT.of upd_same⟩ (LT.cell (hs.cnm cq hmem) (List.mem_map.mpr ⟨cq, hmem, rfl⟩))
      · omega
end
end K80
namespace K80
open PySem PySem.Spec PyProof.Rows L2
section
variable {P : Program} {w : World} {K : PySem.W.Frag} {mg : Str → Option Value} {base : Heap}
def spLawWr (K : PySem.W.Frag) : Sp := fun vs H Q _ => ∃ (p db : Addr) (m : Nat) (cells : List (Str × Str)) (fns : List Fd), vs = [.ref p, .ref db, .int (m : Nat)] ∧ Pool H p ∧ BkD K p H db cells fns ∧ BkS cells fns ∧ m ≤ 2 ∧
  ∀ wp ws xs H', Kp p H H' → Pool H' p → SqT K H' wp xs → Paired (WrAt K H') ws xs → ws.length ≤ 1 → (∀ q ∈ ws, (q.1, ("table" : Str)) ∈ cells ∧ LT (cells.map (·.1)) (fns.map Fd.sig) m 1 q.2) → Q (.ref wp) H'
theorem c_law_writes (T : Top K mg) : Cal P w K mg base 5 "_law_writes" (spLawWr K) := by
  refine mkCal T.d__law_writes sc__law_writes b__law_writes (fun vs H Q E h => ?_) (fun f cdv A outer s H vs Q E hr h => ?_)
  · obtain ⟨p, db, m, cells, fns, rfl, _⟩ := h
    rfl
  · obtain ⟨p, db, m, cells, fns, rfl, hp, hb, hs, hm, q⟩ := h
    have nd := sc__law_writes.nd
    have hu := hu_of hr
    refine ⟨_, pss_cons (ps_setLc (i := 3) (own := [("_law_cell", 4)]) (g := gName 4) (tt := tTest (tOp rEq (tOp (rIxT K) (tVar 4) (tC (.int 1))) (tC (.str "table")))) (te := tOp (rIxT K) (tVar 4) (tC (.int 0))) rfl nd rfl rfl (sw_true rfl rfl rfl (by decide +kernel))
        (pi_list (pe_dget hu (pv 1) pe_str (fun _ _ => rfl))) (blkOk_by (N := n__law_writes) (sc := defScope s__law_writes) (by decide +kernel)) (fun _ _ _ _ _ => pg_name (i := 4) nd rfl (Or.inl rfl))
        (fun _ _ _ _ _ => pts_one (pt_cmpR op_eq (pe_ix ix_tup (pv 4) pe_int (fun _ _ => rfl)) pe_str (nomark _))) (fun _ _ _ _ _ => pe_ix ix_tup (pv 4) pe_int (fun _ _ => rfl)))
      (pss_cons (ps_if (PW.pt (pw_or (pt_cmpR (op_eqNil hr) (pv 3) (pe_lst pa_nil) (nomark _)) (pw_or1 (pt_cmpR op_eq (cc (c_law_draw T) hr (pa_cons (pv 0) (pa_cons pe_int pa_nil))) pe_int (nomark _))))) (pss_one (ps_ret (pe_tup pa_nil))) pss_nil)
      (pss_one (ps_ret (pe_tup (pa_cons (pe_tup (pa_cons (cc (c_law_pick T) hr (pa_cons (pv 0) (pa_cons (pv 3) pa_nil))) (pa_cons (cc (c_law_term T 1) hr (pa_cons (pv 0) (pa_cons (pv 1) (pa_cons (pv 2) (pa_cons pe_int pa_nil))))) pa_nil))) pa_nil))))), ?_⟩
    obtain ⟨c, fl, cs, fs, h1, n1, n2, h2, h3, h4, h5⟩ := id hb
    have lc := Paired.len h3
    have c3 := hs.c3
    refine ⟨_, rfl, db, .ref c, rfl, dg h1 bk_c, c, rfl, ⟨cs, SqL.of h2⟩, fun D hD => ?_⟩
    refine lc_list (xs := cs) (fun i H1 => Same H H1 ∧ ∃ ws : List Str, H1 D = some (.lst (ws.map V.str)) ∧ ws.length ≤ i ∧ ∀ z ∈ ws, (z, ("table" : Str)) ∈ cells) ⟨Same.upd hD, [], upd_same, Nat.le_refl _, fun z h => by cases h⟩ (fun i H1 _ h => SqL.of (h.1 _ _ h2)) ?_ ?_
    · rintro i x H1 hx ⟨s1, ws, hws, hl, hall⟩
      obtain ⟨cq, hcq, a, rfl, ha⟩ := Paired.get' h3 hx
      have hi : i < cs.length := (List.getElem?_eq_some_iff.mp hx).1
      have ha1 := (NL.of s1).tup ha
      refine ⟨rfl, _, rfl, _, _, _, _, rfl, rfl, ha1, atI_nat (j := 1) rfl, rfl, ?_⟩
      by_cases e : cq.2 = "table"
      · refine ⟨true, congrArg V.bl (decide_eq_true (by rw [e])), iteT ⟨_, rfl, _, _, _, _, rfl, rfl, ha1, atI_nat (j := 0) rfl, ws.map V.str, hws, le_line (by simp; omega), Same.put s1 hD, ws ++ [cq.1], by rw [upd_same]; simp, by simp; omega, fun z hz => ?_⟩⟩
        rcases List.mem_append.mp hz with hz | hz
        · exact hall z hz
        · rw [List.mem_singleton.mp hz, ← e]
          exact List.mem_of_getElem? hcq
      · exact ⟨false, congrArg V.bl (decide_eq_false fun z => e (V.str.inj z)), iteF ⟨s1, ws, hws, by omega, hall⟩⟩
    rintro H1 ⟨s1, ws, hws, hl, hall⟩
    have p1 := hp.kp s1
    have k1 := hp.k s1
    refine ⟨_, rfl, (by show 0 ≤ sizeLine; decide), fun e he => ?_⟩
    have s2 : Same H1 (upd H1 e (.lst [])) := Same.upd he
    have p2 := p1.kp s2
    have k2 := k1.trans (p1.k s2)
    refine ⟨D, e, ws.map V.str, rfl, rfl, SqL.of (s2 _ _ hws), SqL.of upd_same, ?_⟩
    have none_ : ∀ H3, Kp p H H3 → Pool H3 p → ∀ r, H3 r = none → Q (.ref r) (upd H3 r (.tup [])) := fun H3 k3 p3 r hr3 => q r [] [] _ (k3.trans (p3.k (Same.upd hr3))) (p3.kp (Same.upd hr3)) (SqT.of upd_same) .nil (by simp) (fun z hz => by cases hz)
    cases ws with
    | nil => exact ⟨true, rfl, iteT ⟨(by show 0 ≤ sizeLine; decide), none_ _ k2 p2⟩⟩
    | cons z zs =>
      refine ⟨false, rfl, iteF ⟨_, rfl, p, 2, rfl, p2, by decide, by decide, fun n H3 hn k3 p3 => ?_⟩⟩
      have k3' := k2.trans k3
      by_cases hn0 : n = 0
      · subst hn0
        exact ⟨rfl, true, congrArg V.bl (by decide +kernel), iteT ⟨(by show 0 ≤ sizeLine; decide), none_ _ k3' p3⟩⟩
      · have hDp : D ≠ p := hp.ne hD
        refine ⟨rfl, false, congrArg V.bl (decide_eq_false fun z => hn0 (by have := V.int.inj z; omega)), iteF ?_⟩
        refine ⟨_, rfl, _, rfl, p, D, (z :: zs).map V.str, rfl, p3, SqL.of (k3.but _ _ (s2 _ _ hws) hDp), hDp, by simp, by simp at hl ⊢; omega, fun i x H4 hx k4 p4 => ?_⟩
        rw [List.getElem?_map] at hx
        obtain ⟨tb, htb, rfl⟩ := Option.map_eq_some_iff.mp hx
        have k4' := k3'.trans k4
        refine ⟨_, rfl, _, rfl, _, rfl, p, db, m, cells, fns, rfl, p4, hb.kp k4', hs, hm, fun t v H5 k5 p5 tv lt => ⟨(by show 2 ≤ sizeLine; decide), fun r1 hr1 => ⟨(by show 1 ≤ sizeLine; decide), fun r2 hr2 => ?_⟩⟩⟩
        have s6 : Same H5 (upd H5 r1 (.tup [.str tb, v])) := Same.upd hr1
        have s7 := Same.upd' s6 hr2 (o := .tup [.ref r1])
        refine q r2 [(tb, t)] [.ref r1] _ (k4'.trans (k5.trans (p5.k s7))) (p5.kp s7) (SqT.of upd_same) (.cons ⟨r1, v, rfl, SqT.of (Same.upd hr2 _ _ upd_same), tv.nl (NL.of s7)⟩ .nil) (by simp) fun qq hqq => ?_
        rw [List.mem_singleton.mp hqq]
        exact ⟨hall tb (List.mem_of_getElem? htb), lt⟩
end
end K80
namespace K80
open PySem PySem.Spec PyProof.Rows L2
theorem lt_line {n : Nat} (h : n < 1000) : n < sizeLine := by rw [sizeLine_eq]; omega
/-! ### what the dicts become -/
theorem bk_put1 {c fl : Addr} : putK [((Sum.inr "cells" : Key), V.ref c)] (Sum.inr "functions" : Key) (.ref fl) = bkKv c fl := putK_new _ (vn (by decide +kernel) rfl)
theorem bk_put2 {c fl l : Addr} : putK (bkKv c fl) (Sum.inr "functions" : Key) (.ref l) = bkKv c l := by
  have h : ((bkKv c fl).any fun kv => decide (kv.1 = (Sum.inr "functions" : Key))) = true := by
    rw [valV_any, bk_f]
    rfl
  have n1 : ¬ ((Sum.inr "cells" : Key) = (Sum.inr "functions" : Key)) := by decide +kernel
  unfold putK
  rw [if_pos h]
  show [(if (Sum.inr "cells" : Key) = (Sum.inr "functions" : Key) then _ else _), (if (Sum.inr "functions" : Key) = (Sum.inr "functions" : Key) then _ else _)] = _
  rw [if_neg n1, if_pos rfl]
  rfl
abbrev kv3 (n : Str) (m : Nat) (x : V) : List (Key × V) := [(Sum.inr "name", .str n), (Sum.inr "many", .int (m : Nat)), (Sum.inr "result", x)]
theorem merge1 {c : V} : mergeK [] [((Sum.inr "cells" : Key), c)] = [((Sum.inr "cells" : Key), c)] := rfl
theorem merge3 {n : Str} {m : Nat} {x : V} : mergeK [] (kv3 n m x) = kv3 n m x := by
  show putK (putK (putK [] (Sum.inr "name" : Key) (.str n)) (Sum.inr "many" : Key) (.int (m : Nat))) (Sum.inr "result" : Key) x = _
  rw [show putK [] (Sum.inr "name" : Key) (V.str n) = [((Sum.inr "name" : Key), V.str n)] from rfl, putK_new (kvs := [((Sum.inr "name" : Key), V.str n)]) _ (vn (by decide +kernel) rfl),
    putK_new (kvs := [((Sum.inr "name" : Key), V.str n)] ++ [((Sum.inr "many" : Key), V.int (m : Nat))]) _ (vn (by decide +kernel) (vn (by decide +kernel) rfl))]
  rfl
abbrev kv4 (n : Str) (m : Nat) (x wp : V) : List (Key × V) := [(Sum.inr "name", .str n), (Sum.inr "many", .int (m : Nat)), (Sum.inr "result", x), (Sum.inr "writes", wp)]
abbrev kv5 (n : Str) (m : Nat) (x wp c : V) : List (Key × V) := [(Sum.inr "name", .str n), (Sum.inr "many", .int (m : Nat)), (Sum.inr "result", x), (Sum.inr "writes", wp), (Sum.inr "cost", c)]
abbrev kv6 (n : Str) (m : Nat) (x wp c l : V) : List (Key × V) := [(Sum.inr "name", .str n), (Sum.inr "many", .int (m : Nat)), (Sum.inr "result", x), (Sum.inr "writes", wp), (Sum.inr "cost", c), (Sum.inr "label", l)]
theorem put_w {n : Str} {m : Nat} {x wp : V} : putK (kv3 n m x) (Sum.inr "writes" : Key) wp = kv4 n m x wp := putK_new _ (vn (by decide +kernel) (vn (by decide +kernel) (vn (by decide +kernel) rfl)))
theorem put_c {n : Str} {m : Nat} {x wp c : V} : putK (kv4 n m x wp) (Sum.inr "cost" : Key) c = kv5 n m x wp c := putK_new _ (vn (by decide +kernel) (vn (by decide +kernel) (vn (by decide +kernel) (vn (by decide +kernel) rfl))))
theorem put_l {n : Str} {m : Nat} {x wp c l : V} : putK (kv5 n m x wp c) (Sum.inr "label" : Key) l = kv6 n m x wp c l := putK_new _ (vn (by decide +kernel) (vn (by decide +kernel) (vn (by decide +kernel) (vn (by decide +kernel) (vn (by decide +kernel) rfl)))))
/-! ### heaps -/
section
variable {K : PySem.W.Frag} {G G' H : Hp} {p a : Addr}
theorem Kp.put {o : HO} (k : Kp p G H) (h : G a = none) (n : a ≠ p) : Kp p G (upd H a o) := ⟨k.at_, let ⟨ys, e⟩ := k.to; ⟨ys, by rw [upd_ne n.symm]; exact e⟩, fun b o' e m => by rw [upd_ne (ne_of_none e h)]; exact k.but b o' e m⟩
theorem Pool.put {o : HO} (h : Pool H p) (n : a ≠ p) : Pool (upd H a o) p := let ⟨x, m, e, r⟩ := h; ⟨x, m, by rw [upd_ne n.symm]; exact e, r⟩
theorem TU.putd {kvs kvs' : List (Key × V)} (h : H a = some (.dK kvs)) : TU H (upd H a (.dK kvs')) := fun b o e z => by
  by_cases n : b = a
  · subst n
    rw [h] at e
    cases e
    cases z
  · rw [upd_ne n]
    exact e
theorem TU.kp (k : Kp p G H) : TU G H := TU.of k.nl
theorem TU.new {o : HO} (h : H a = none) : TU H (upd H a o) := TU.of (NL.of (Same.upd h))
theorem CellT.tu (s : TU G G') {q : Str × Str} {v : V} (h : CellT K G q v) : CellT K G' q v := let ⟨a, e, h⟩ := h; ⟨a, e, s.tup h⟩
theorem FnD.mv (s : TU G G') (st : ∀ a kvs, G a = some (.dK kvs) → kvs.length = 6 → G' a = some (.dK kvs)) {f : Fd} {v : V} (h : FnD K G f v) : FnD K G' f v :=
  let ⟨a, wp, x, ws, e, h, t, w, r⟩ := h; ⟨a, wp, x, ws, e, st _ _ h rfl, t.tu s, s.tup w, Paired.mapP r fun _ _ => WrAt.tu s⟩
end
theorem pick_kind {i : Nat} {x : V} (h : ([.str "frozen", .str "setting", .str "table", .str "table"] : List V)[i]? = some x) : ∃ k, x = .str k ∧ IsKind k := by
  rcases i with _ | _ | _ | _ | i
  · cases h
    exact ⟨_, rfl, .inl rfl⟩
  · cases h
    exact ⟨_, rfl, .inr (.inl rfl)⟩
  · cases h
    exact ⟨_, rfl, .inr (.inr rfl)⟩
  · cases h
    exact ⟨_, rfl, .inr (.inr rfl)⟩
  · simp at h
theorem pick_lab {i : Nat} {x : V} (h : ([.str "always", .str "session", .str "statement", .str "changing", .str "changing"] : List V)[i]? = some x) : ∃ k, x = .str k ∧ IsLab k := by
  rcases i with _ | _ | _ | _ | _ | i
  · cases h
    exact ⟨_, rfl, .inl rfl⟩
  · cases h
    exact ⟨_, rfl, .inr (.inl rfl)⟩
  · cases h
    exact ⟨_, rfl, .inr (.inr (.inl rfl))⟩
  · cases h
    exact ⟨_, rfl, .inr (.inr (.inr rfl))⟩
  · cases h
    exact ⟨_, rfl, .inr (.inr (.inr rfl))⟩
  · simp at h
theorem cells_ex {F : Str × Str → V → Prop} : ∀ {acc : List V} {ws : List Str}, (∀ (j : Nat) y, acc[j]? = some y → ∃ k z, ws[j]? = some z ∧ IsKind k ∧ F (z, k) y) → ∃ cells : List (Str × Str), Paired F cells acc ∧ cells.map (·.1) = ws.take acc.length ∧ ∀ q ∈ cells, IsKind q.2
  | [], ws, _ => ⟨[], .nil, rfl, fun q h => by cases h⟩
  | y :: r, ws, h => by
    obtain ⟨k, z, hz, hk, hf⟩ := h 0 y rfl
    cases ws with
    | nil => cases hz
    | cons w0 ws =>
      have ew : w0 = z := Option.some.inj hz
      obtain ⟨cells, h1, h2, h3⟩ := cells_ex (acc := r) (ws := ws) fun j u e => by
        obtain ⟨k', z', e1, e2⟩ := h (j + 1) u (by simpa using e)
        exact ⟨k', z', by simpa using e1, e2⟩
      exact ⟨(z, k) :: cells, .cons hf h1, by rw [List.map_cons, h2, ew]; rfl, fun q hq => (List.mem_cons.mp hq).elim (fun e => e ▸ hk) (h3 q)⟩
section
variable {P : Program} {w : World} {K : PySem.W.Frag} {mg : Str → Option Value} {base : Heap}
def spLawBook (K : PySem.W.Frag) : Sp := fun vs H Q _ => ∃ p : Addr, vs = [.ref p, .int 3, .int 2] ∧ Pool H p ∧ ∀ db (b : Bk) H', Kp p H H' → Pool H' p → H db = none → BkD K p H' db b.cells b.fns → b.Ok → b.fns.length ≤ 3 →
  (∀ n ∈ b.cells.map (·.1) ++ b.fns.map (·.name), n ≠ "zzzz") → Q (.ref db) H'
/-- the functions so far -/
structure FnsOk (ws : List Str) (cells : List (Str × Str)) (fns : List Fd) : Prop where
  ok : ∀ (j : Nat) f, fns[j]? = some f → f.Ok cells ((fns.take j).map Fd.sig) ∧ ws[4 + j]? = some f.name
theorem FnsOk.snoc {ws : List Str} {cells : List (Str × Str)} {fns : List Fd} {f : Fd} (h : FnsOk ws cells fns) (h1 : f.Ok cells (fns.map Fd.sig)) (h2 : ws[4 + fns.length]? = some f.name) : FnsOk ws cells (fns ++ [f]) := by
  refine ⟨fun j g hg => ?_⟩
  by_cases hj : j < fns.length
  · rw [List.getElem?_append_left hj] at hg
    rw [List.take_append_of_le_length (by omega)]
    exact h.ok j g hg
  · have hl := (List.getElem?_eq_some_iff.mp hg).1
    rw [List.length_append, List.length_singleton] at hl
    have ej : j = fns.length := by omega
    subst ej
    rw [List.getElem?_append_right (Nat.le_refl _), Nat.sub_self] at hg
    cases hg
    rw [List.take_left']
    · exact ⟨h1, h2⟩
    · rfl
theorem LT.tmok {cs : List Str} {fs : List (Str × Nat)} {m d : Nat} {t : Tm} (h : LT cs fs m d t) (hd : d ≤ 2) : TmOk cs fs m t := by
  have h1 := h.size
  have h2 := h.depth
  have h3 : sz d ≤ 13 := by
    rcases d with _ | _ | _ | d
    · decide
    · decide
    · decide
    · omega
  exact ⟨h.wf, h.ok, by omega, by omega⟩
theorem book_ok {ws : List Str} {cells : List (Str × Str)} {fns : List Fd} (hn : NamesOk ws) (hc : cells.map (·.1) = ws.take cells.length) (hk : ∀ q ∈ cells, IsKind q.2) (c3 : cells.length ≤ 3) (hf : FnsOk ws cells fns) (f0 : fns ≠ []) (f3 : fns.length ≤ 3) :
    Bk.Ok ⟨cells, fns⟩ ∧ ∀ n ∈ cells.map (·.1) ++ fns.map (·.name), n ≠ "zzzz" := by
  have hfn : fns.map (·.name) = (ws.drop 4).take fns.length := by
    apply List.ext_getElem?
    intro j
    rw [List.getElem?_map, List.getElem?_take, List.getElem?_drop]
    by_cases hj : j < fns.length
    · rw [if_pos hj, List.getElem?_eq_getElem hj, (hf.ok j _ (List.getElem?_eq_getElem hj)).2]
      rfl
    · rw [if_neg hj, List.getElem?_eq_none (by omega)]
      rfl
  have hsub : List.Sublist (cells.map (·.1) ++ fns.map (·.name)) ws := by
    rw [hc, hfn]
    have h1 : List.Sublist (ws.take cells.length) (ws.take 4) := by
      have e : ws.take cells.length = (ws.take 4).take cells.length := by rw [List.take_take, Nat.min_eq_left (by omega)]
      rw [e]
      exact List.take_sublist _ _
    have h2 : List.Sublist ((ws.drop 4).take fns.length) (ws.drop 4) := List.take_sublist _ _
    have h3 := h1.append h2
    rw [List.take_append_drop] at h3
    exact h3
  refine ⟨⟨c3, fun q hq => ⟨(hn.nm q.1 (hsub.subset (List.mem_append_left _ (List.mem_map.mpr ⟨q, hq, rfl⟩)))).1, hk q hq⟩, List.Nodup.sublist hsub hn.nd, f0, by show fns.length ≤ 4; omega, fun i f h => (hf.ok i f h).1⟩, fun n hm => (hn.nm n (hsub.subset hm)).2⟩
theorem c_law_book (T : Top K mg) : Cal P w K mg base 6 "_law_book" (spLawBook K) := by
  refine mkCal T.d__law_book sc__law_book b__law_book (fun vs H Q E h => ?_) (fun f0 cdv A outer s H vs Q E hr h => ?_)
  · obtain ⟨p, rfl, _⟩ := h
    rfl
  · obtain ⟨p, rfl, hp, q⟩ := h
    have nd := sc__law_book.nd
    have hu := hu_of hr
    refine ⟨_, pss_cons (ps_set (i := 3) nd rfl (Or.inr rfl) (cc (c_law_names T) hr (pa_cons (pv 0) (pa_cons pe_int pa_nil))))
      (pss_cons (ps_set (i := 4) nd rfl (Or.inl rfl) (pe_disp (pps_cons pe_str (plc n__law_book (defScope s__law_book) 5 nd (pi_range1 rfl T.f_range (pa_cons (cc (c_law_draw T) hr (pa_cons (pv 0) (pa_cons pe_int pa_nil))) pa_nil))
          (te := tTup (tCons (tOp (rIxL K) (tVar 3) (tVar 5)) (tCons (tCall (spPick K) [] E0 (tCons (tVar 0) (tCons (tLst (tCons (tC (.str "frozen")) (tCons (tC (.str "setting")) (tCons (tC (.str "table")) (tCons (tC (.str "table")) tNil))))) tNil))) tNil)))
          (fun _ _ _ _ _ => pe_tup (pa_cons (pe_ix ix_list (pv 3) (pv 5) (fun _ _ => rfl)) (pa_cons (cc (c_law_pick T) hr (pa_cons (pv 0) (pa_cons (pe_lst (pa_cons pe_str (pa_cons pe_str (pa_cons pe_str (pa_cons pe_str pa_nil))))) pa_nil))) pa_nil)))) pps_nil) (by rfl) (by rfl) (fun z => by cases z) (by decide)))
      (pss_cons (ps_dput hu (pv 4) pe_str (pe_lst pa_nil) rfl)
      (pss_cons (ps_for PassesOwn.never rfl (pi_range1 rfl T.f_range (pa_cons (pe_op op_add pe_int (cc (c_law_draw T) hr (pa_cons (pv 0) (pa_cons (pv 1) pa_nil)))) pa_nil)) (pg_name (i := 5) nd rfl (Or.inl rfl))
        (pss_cons (ps_set (i := 6) nd rfl (Or.inl rfl) (cc (c_law_draw T) hr (pa_cons (pv 0) (pa_cons pe_int pa_nil))))
        (pss_cons (ps_set (i := 7) nd rfl (Or.inl rfl) (pe_disp (pps_cons pe_str (pe_ix ix_list (pv 3) (pe_op op_add pe_int (pv 5)) (fun _ _ => rfl)) (pps_cons pe_str (pv 6) (pps_cons pe_str (cc (c_law_term T 2) hr (pa_cons (pv 0) (pa_cons (pv 4) (pa_cons (pv 6) (pa_cons (pv 2) pa_nil))))) pps_nil))) (by rfl) (by rfl) (fun z => by cases z) (by decide)))
        (pss_cons (ps_asg (pe_tup (pa_cons (cc (c_law_writes T) hr (pa_cons (pv 0) (pa_cons (pv 4) (pa_cons (pv 6) pa_nil)))) (pa_cons (cc (c_law_draw T) hr (pa_cons (pv 0) (pa_cons pe_int pa_nil))) pa_nil))) (pg_tup rfl (pgs_cons (pg_sub (pv 7) pe_str (set_dict hu)) (pgs_cons (pg_sub (pv 7) pe_str (set_dict hu)) pgs_nil))))
        (pss_cons (ps_dput hu (pv 7) pe_str (cc (c_law_pick T) hr (pa_cons (pv 0) (pa_cons (pe_lst (pa_cons pe_str (pa_cons pe_str (pa_cons pe_str (pa_cons pe_str (pa_cons pe_str pa_nil)))))) pa_nil))) rfl)
        (pss_one (ps_dput hu (pv 4) pe_str (pe_op op_cat (pe_dget hu (pv 4) pe_str (fun _ _ => rfl)) (pe_lst (pa_cons (pv 7) pa_nil))) rfl)))))))
      (pss_one (ps_ret (pv 4)))))), ?_⟩
    refine ⟨_, rfl, p, rfl, hp, fun W ws H1 k1 p1 hWn hW hws => ?_⟩
    have hWp : W ≠ p := hp.ne hWn
    have wlen := hws.len
    intro db hdb
    have hdbH : H db = none := k1.new hdb
    have hdbp : db ≠ p := p1.ne hdb
    have s2 : Same H1 (upd H1 db (.dK [])) := Same.upd hdb
    have p2 := p1.kp s2
    have k2 := k1.trans (p1.k s2)
    refine ⟨_, rfl, p, 4, rfl, p2, by decide, by decide, fun nc H3 hnc k3 p3 => ?_⟩
    have kk3 := k2.trans k3
    have W3 := k3.but _ _ (s2 _ _ hW) hWp
    have d3 : H3 db = some (.dK []) := k3.nl _ _ upd_same rfl
    refine ⟨_, rfl, by omega, by omega, fun D hD => ?_⟩
    obtain ⟨ysp, hysp⟩ := p3.at_
    have hDp : p ≠ D := ne_of_none hysp hD
    refine lc_gen walk_range (by omega) (fun i G => Kp p H3 G ∧ Pool G p) (fun j y G => ∃ k z, ws[j]? = some z ∧ IsKind k ∧ CellT K G (z, k) y) ⟨p3.k (Same.upd hD), p3.kp (Same.upd hD)⟩ (fun _ _ _ _ => trivial) ?_ ?_ ?_ ?_
    · rintro i G z z' ⟨k4, p4⟩ hz'
      exact ⟨⟨k4.at_, let ⟨ys, h⟩ := k4.to; ⟨ys, by rw [upd_ne hDp]; exact h⟩, fun c o e n => by rw [upd_ne (ne_of_none e hD)]; exact k4.but c o e n⟩, p4.put hDp.symm⟩
    · rintro j y G z z' ⟨k, zz, e1, e2, e3⟩ hz'
      exact ⟨k, zz, e1, e2, e3.nl (Kp.set hz').nl⟩
    · rintro i x G G' acc Qk hi ⟨k4, p4⟩ hacc ⟨rfl, rfl⟩ kk
      have hi8 : i < ws.length := by
        have : (nc : Int).toNat = nc := Int.toNat_natCast nc
        omega
      have hwi : ws[i]? = some ws[i] := List.getElem?_eq_getElem hi8
      refine ⟨rfl, _, rfl, _, rfl, W, _, _, .str ws[i], rfl, rfl, SqL.of (k4.but _ _ W3 hWp), ?_, ?_⟩
      · rw [Int.zero_add]
        exact atI_nat (j := i) (by rw [List.getElem?_map, hwi]; rfl)
      refine ⟨_, rfl, (by show 4 ≤ sizeLine; decide), fun l hl => ?_⟩
      have s5 : Same G' (upd G' l (.lst [.str "frozen", .str "setting", .str "table", .str "table"])) := Same.upd hl
      refine ⟨p, l, _, rfl, p4.kp s5, SqL.of upd_same, p4.ne hl, (by show 1 ≤ 4; decide), (by show 4 ≤ 1000; decide), fun ii y G6 hy k6 p6 => ?_⟩
      obtain ⟨kd, rfl, hkd⟩ := pick_kind hy
      refine ⟨(by show 2 ≤ sizeLine; decide), fun r hr7 => ?_⟩
      have s7 : Same G6 (upd G6 r (.tup [.str ws[i], .str kd])) := Same.upd hr7
      have k7 := (p4.k s5).trans (k6.trans (p6.k s7))
      refine kk _ _ (k7.but _ _ hacc hDp.symm) ⟨k4.trans k7, p6.kp s7⟩ ⟨kd, ws[i], hwi, hkd, r, rfl, SqT.of upd_same⟩ fun j z _ ⟨k, zz, e1, e2, e3⟩ => ⟨k, zz, e1, e2, e3.nl k7.nl⟩
    rintro H4 acc ⟨k4, p4⟩ a4
    obtain ⟨cells, hcp, hcn, hck⟩ := cells_ex a4.2.2
    have hal : acc.length = nc := a4.2.1.trans (Int.toNat_natCast nc)
    have hcl : cells.length = nc := (Paired.len hcp).trans hal
    have c3 : cells.length ≤ 3 := by omega
    have hcn' : cells.map (·.1) = ws.take cells.length := by rw [hcn, hal, hcl]
    have kk4 := kk3.trans k4
    have W4 := k4.but _ _ W3 hWp
    have d4 : H4 db = some (.dK []) := k4.nl _ _ d3 rfl
    refine ⟨d4, [(Sum.inr "cells", .ref D)], rfl, (by show 1 ≤ 15; decide), ?_⟩
    rw [merge1]
    have hDdb : D ≠ db := fun e => by have h := a4.1; rw [e, d4] at h; cases h
    have hWdb : W ≠ db := fun e => by rw [e, d4] at W4; cases W4
    have t5 : TU H4 (upd H4 db (.dK [((Sum.inr "cells" : Key), V.ref D)])) := TU.putd d4
    have kk5 : Kp p H (upd H4 db (.dK [((Sum.inr "cells" : Key), V.ref D)])) := kk4.put hdbH hdbp
    have p5 : Pool (upd H4 db (.dK [((Sum.inr "cells" : Key), V.ref D)])) p := p4.put hdbp
    refine ⟨(by show 0 ≤ sizeLine; decide), fun fl hfl => ⟨_, rfl, db, _, rfl, DPut.k (k := Sum.inr "functions") (Same.upd hfl _ _ upd_same) (lt_line (by show 1 < 1000; decide)), ?_⟩⟩
    rw [bk_put1]
    have hfldb : db ≠ fl := ne_of_none upd_same hfl
    have hflp : fl ≠ p := p5.ne hfl
    have hflD : D ≠ fl := ne_of_none (show upd H4 db (.dK [((Sum.inr "cells" : Key), V.ref D)]) D = some (.lst acc) by rw [upd_ne hDdb]; exact a4.1) hfl
    have hflW : W ≠ fl := ne_of_none (show upd H4 db (.dK [((Sum.inr "cells" : Key), V.ref D)]) W = some (.lst (ws.map V.str)) by rw [upd_ne hWdb]; exact W4) hfl
    have kk6 : Kp p H (upd (upd H4 db (.dK [((Sum.inr "cells" : Key), V.ref D)])) fl (.lst [])) := kk5.trans (p5.k (Same.upd hfl))
    have kk7 : Kp p H (upd (upd (upd H4 db (.dK [((Sum.inr "cells" : Key), V.ref D)])) fl (.lst [])) db (.dK (bkKv D fl))) := kk6.put hdbH hdbp
    have p7 : Pool (upd (upd (upd H4 db (.dK [((Sum.inr "cells" : Key), V.ref D)])) fl (.lst [])) db (.dK (bkKv D fl))) p := (p5.put hflp).put hdbp
    have t7 : TU H4 (upd (upd (upd H4 db (.dK [((Sum.inr "cells" : Key), V.ref D)])) fl (.lst [])) db (.dK (bkKv D fl))) := (t5.trans (TU.new hfl)).trans (TU.putd (by rw [upd_ne hfldb]; exact upd_same))
    have b7 : BkD K p (upd (upd (upd H4 db (.dK [((Sum.inr "cells" : Key), V.ref D)])) fl (.lst [])) db (.dK (bkKv D fl))) db cells [] :=
      ⟨D, fl, acc, [], upd_same, hDp.symm, hflp, by rw [upd_ne hDdb, upd_ne hflD, upd_ne hDdb]; exact a4.1, Paired.mapP hcp fun _ _ => CellT.tu t7, by rw [upd_ne hfldb.symm]; exact upd_same, .nil⟩
    have W7 : upd (upd (upd H4 db (.dK [((Sum.inr "cells" : Key), V.ref D)])) fl (.lst [])) db (.dK (bkKv D fl)) W = some (.lst (ws.map V.str)) := by
      rw [upd_ne hWdb, upd_ne hflW, upd_ne hWdb]
      exact W4
    refine ⟨_, rfl, _, rfl, p, 3, rfl, p7, by decide, by decide, fun nf H8 hnf k8 p8 => ⟨_, _, rfl, rfl, _, rfl, by omega, by omega, ?_⟩⟩
    have en : (1 + (nf : Int)).toNat = 1 + nf := by omega
    have kk8 := kk7.trans k8
    refine for_it walk_range (fun i σ G => ∃ (v5 v6 v7 : Option V) (fns : List Fd), σ = [some (.ref p), some (.int 3), some (.int 2), some (.ref W), some (.ref db), v5, v6, v7] ∧ Kp p H G ∧ Pool G p ∧ G W = some (.lst (ws.map V.str)) ∧ BkD K p G db cells fns ∧ fns.length = i ∧ FnsOk ws cells fns)
      ⟨none, none, none, [], rfl, kk8, p8, k8.but _ _ W7 hWp, b7.kp k8, rfl, ⟨fun j f h => by simp at h⟩⟩ (fun _ _ _ _ _ => trivial) ?_ ?_
    · rintro i x σ G G' hi ⟨v5, v6, v7, fns, rfl, kG, pG, wG, bG, hfl_, hfo⟩ ⟨rfl, rfl⟩
      have hi3 : i < 3 := by omega
      have hcnm : ∀ q ∈ cells, Nm q.1 := fun q hq => by
        have hm : q.1 ∈ ws.take cells.length := by rw [← hcn']; exact List.mem_map.mpr ⟨q, hq, rfl⟩
        exact (hws.nm _ (List.mem_of_mem_take hm)).1
      have bS : BkS cells fns := ⟨hcnm, fun f hf => by
        obtain ⟨j, hj⟩ := List.getElem?_of_mem hf
        exact ⟨(hfo.ok j f hj).1.name, (hfo.ok j f hj).1.many⟩, c3, by omega⟩
      refine ⟨_, rfl, p, 3, rfl, pG, by decide, by decide, fun m G1 hm k1' p1' => ?_⟩
      intro fa hfa
      have hfap : fa ≠ p := p1'.ne hfa
      have s2' : Same G1 (upd G1 fa (.dK [])) := Same.upd hfa
      have wG1 := k1'.but _ _ wG hWp
      have hi8 : 4 + i < ws.length := by omega
      have hwi : ws[4 + i]? = some ws[4 + i] := List.getElem?_eq_getElem hi8
      refine ⟨_, rfl, _, rfl, _, _, rfl, rfl, W, _, _, .str ws[4 + i], rfl, rfl, SqL.of (s2' _ _ wG1), ?_, ?_⟩
      · rw [show (4 + (0 + (i : Int))) = ((4 + i : Nat) : Int) by omega]
        exact atI_nat (j := 4 + i) (by rw [List.getElem?_map, hwi]; rfl)
      have bG1 := bG.kp k1'
      refine ⟨_, rfl, _, rfl, _, rfl, _, rfl, _, rfl, p, db, m, cells, fns, rfl, p1'.kp s2', bG1.same s2', bS, by omega, fun t x G3 k3' p3' tv lt => ?_⟩
      have f3 : G3 fa = some (.dK []) := k3'.nl _ _ upd_same rfl
      have kg3 : Kp p G1 G3 := (p1'.k s2').trans k3'
      refine ⟨f3, kv3 ws[4 + i] m x, rfl, (by show 3 ≤ 15; decide), ?_⟩
      rw [merge3]
      have kg4 : Kp p G1 (upd G3 fa (.dK (kv3 ws[4 + i] m x))) := kg3.put hfa hfap
      have p4' : Pool (upd G3 fa (.dK (kv3 ws[4 + i] m x))) p := p3'.put hfap
      have t4' : TU G3 (upd G3 fa (.dK (kv3 ws[4 + i] m x))) := TU.putd f3
      refine ⟨_, rfl, _, rfl, _, rfl, p, db, m, cells, fns, rfl, p4', bG1.kp kg4, bS, by omega, fun wp wrs xs G5 k5' p5' hwp hwr hfew hwok => ?_⟩
      refine ⟨_, rfl, p, 10, rfl, p5', by decide, by decide, fun cst G6 hcst k6' p6' => ⟨(by show 2 ≤ sizeLine; decide), fun tq htq => ?_⟩⟩
      have s7 : Same G6 (upd G6 tq (.tup [.ref wp, .int (cst : Nat)])) := Same.upd htq
      have f5 : G5 fa = some (.dK (kv3 ws[4 + i] m x)) := k5'.nl _ _ upd_same rfl
      have f6 : G6 fa = some (.dK (kv3 ws[4 + i] m x)) := k6'.nl _ _ f5 rfl
      have f7 := s7 _ _ f6
      refine ⟨tq, _, rfl, SqT.of upd_same, rfl, _, _, rfl, _, rfl, fa, _, rfl, DPut.k (k := Sum.inr "writes") f7 (lt_line (by show 3 < 1000; decide)), _, _, rfl, _, rfl, fa, _, rfl, DPut.k (k := Sum.inr "cost") upd_same (lt_line (by rw [put_w]; show 4 < 1000; decide)), rfl, ?_⟩
      rw [put_w, put_c]
      have kg7 : Kp p G1 (upd G6 tq (.tup [.ref wp, .int (cst : Nat)])) := kg4.trans (k5'.trans (k6'.trans (p6'.k s7)))
      have p7' := p6'.kp s7
      have kg9 : Kp p G1 (upd (upd (upd G6 tq (.tup [.ref wp, .int (cst : Nat)])) fa (.dK (kv4 ws[4 + i] m x (.ref wp)))) fa (.dK (kv5 ws[4 + i] m x (.ref wp) (.int (cst : Nat))))) := (kg7.put hfa hfap).put hfa hfap
      have p9' : Pool (upd (upd (upd G6 tq (.tup [.ref wp, .int (cst : Nat)])) fa (.dK (kv4 ws[4 + i] m x (.ref wp)))) fa (.dK (kv5 ws[4 + i] m x (.ref wp) (.int (cst : Nat))))) p := (p7'.put hfap).put hfap
      have t59 : TU G5 (upd (upd (upd G6 tq (.tup [.ref wp, .int (cst : Nat)])) fa (.dK (kv4 ws[4 + i] m x (.ref wp)))) fa (.dK (kv5 ws[4 + i] m x (.ref wp) (.int (cst : Nat))))) :=
        (((TU.kp k6').trans (TU.new htq)).trans (TU.putd f7)).trans (TU.putd upd_same)
      refine ⟨_, rfl, (by show 5 ≤ sizeLine; decide), fun l hl => ?_⟩
      have s10 := Same.upd hl (o := .lst [.str "always", .str "session", .str "statement", .str "changing", .str "changing"])
      refine ⟨p, l, _, rfl, p9'.kp s10, SqL.of upd_same, p9'.ne hl, (by show 1 ≤ 5; decide), (by show 5 ≤ 1000; decide), fun ii y G11 hy k11 p11 => ?_⟩
      obtain ⟨lab, rfl, hlab⟩ := pick_lab hy
      have f11 : G11 fa = some (.dK (kv5 ws[4 + i] m x (.ref wp) (.int (cst : Nat)))) := k11.nl _ _ (s10 _ _ upd_same) rfl
      refine ⟨_, rfl, fa, _, rfl, DPut.k (k := Sum.inr "label") f11 (lt_line (by show 5 < 1000; decide)), ?_⟩
      rw [put_l]
      have kg11 := kg9.trans ((p9'.k s10).trans k11)
      have kg12 : Kp p G1 (upd G11 fa (.dK (kv6 ws[4 + i] m x (.ref wp) (.int (cst : Nat)) (.str lab)))) := kg11.put hfa hfap
      have p12 : Pool (upd G11 fa (.dK (kv6 ws[4 + i] m x (.ref wp) (.int (cst : Nat)) (.str lab)))) p := p11.put hfap
      have t5c : TU G5 (upd G11 fa (.dK (kv6 ws[4 + i] m x (.ref wp) (.int (cst : Nat)) (.str lab)))) := ((t59.trans (TU.new hl)).trans (TU.kp k11)).trans (TU.putd f11)
      obtain ⟨c, flx, cs, fs, e1, n1, n2, e2, e3, e4, e5⟩ := bG1
      have e1' := kg12.nl _ _ e1 rfl
      have e4' := kg12.but _ _ e4 n2
      refine ⟨_, rfl, db, .ref flx, rfl, dg e1' bk_f, _, rfl, (by show 1 ≤ sizeLine; decide), fun l2 hl2 => ?_⟩
      have s13 := Same.upd hl2 (o := .lst [.ref fa])
      have flen := Paired.len e5
      refine ⟨flx, l2, fs, [.ref fa], rfl, rfl, s13 _ _ e4', upd_same, le_line (by rw [← flen]; simp; omega), fun l3 hl3 => ?_⟩
      have s14 := Same.upd hl3 (o := .lst (fs ++ [.ref fa]))
      have e1'' := s14 _ _ (s13 _ _ e1')
      refine ⟨_, rfl, db, _, rfl, DPut.k (k := Sum.inr "functions") e1'' (lt_line (by show 2 < 1000; decide)), ?_⟩
      rw [bk_put2]
      have kg14 := kg12.trans (p12.k (s13.trans s14))
      have p14 := p12.kp (s13.trans s14)
      have t14 := (t5c.trans (TU.of (NL.of s13))).trans (TU.of (NL.of s14))
      have tF := t14.trans (TU.putd (kvs' := bkKv c l3) e1'')
      have tG1 := (TU.kp kg14).trans (TU.putd (kvs' := bkKv c l3) e1'')
      have hl3db : l3 ≠ db := (ne_of_none (s13 _ _ e1') hl3).symm
      have hl3p : l3 ≠ p := (p12.kp s13).ne hl3
      have hcdb : c ≠ db := fun z => by rw [z, e1] at e2; cases e2
      have hWdb' : W ≠ db := hWdb
      have hfadb : fa ≠ db := fun z => by rw [z, e1] at hfa; cases hfa
      have hlen_ne : ∀ a kvs, G1 a = some (.dK kvs) → kvs.length = 6 → a ≠ db := fun a kvs h6 hk z => by
        rw [z, e1] at h6
        cases h6
        cases hk
      refine ⟨_, _, _, fns ++ [⟨ws[4 + i], m, t, wrs, cst, lab⟩], rfl, (kG.trans (k1'.trans kg14)).put hdbH hdbp, p14.put hdbp, ?_, ⟨c, l3, cs, fs ++ [.ref fa], upd_same, n1, hl3p, ?_, Paired.mapP e3 fun _ _ => CellT.tu tG1, ?_, ?_⟩, ?_, ?_⟩
      · rw [upd_ne hWdb]
        exact kg14.but _ _ wG1 hWp
      · rw [upd_ne hcdb]
        exact kg14.but _ _ e2 n1
      · rw [upd_ne hl3db]
        exact upd_same
      · have hold := Paired.mapP e5 fun f v h => FnD.mv tG1 (fun a kvs h6 hk => by rw [upd_ne (hlen_ne a kvs h6 hk)]; exact kg14.nl _ _ h6 rfl) h
        refine Paired.snoc ⟨fa, wp, x, xs, rfl, ?_, ?_, ?_, ?_⟩ hold
        · rw [upd_ne hfadb]
          exact s14 _ _ (s13 _ _ upd_same)
        · exact ((tv.tu t4').tu (TU.kp k5')).tu tF
        · exact tF.tup hwp
        · exact Paired.mapP hwr fun _ _ => WrAt.tu tF
      · rw [List.length_append, hfl_]
        rfl
      · refine hfo.snoc ⟨(hws.nm _ (List.getElem_mem hi8)).1, by show m ≤ 2; omega, lt.tmok (by decide), hfew, fun qw hqw => ?_, hcst, hlab⟩ (by rw [hfl_]; exact hwi)
        obtain ⟨z1, z2⟩ := hwok qw hqw
        exact ⟨z1, hcnm _ z1, z2.tmok (by decide)⟩
    · rintro σ G ⟨v5, v6, v7, fns, rfl, kG, pG, wG, bG, hfl_, hfo⟩
      have hnl : fns.length = 1 + nf := hfl_.trans en
      have hne : fns ≠ [] := fun z => by rw [z] at hnl; simp at hnl; omega
      obtain ⟨ok1, ok2⟩ := book_ok hws hcn' hck c3 hfo hne (by omega)
      exact ⟨_, rfl, q db ⟨cells, fns⟩ G kG pG hdbH bG ok1 (by show fns.length ≤ 3; omega) ok2⟩
end
end K80
namespace K80
open PySem PySem.Spec PyProof.Rows L2
section
variable {P : Program} {w : World} {K : PySem.W.Frag} {mg : Str → Option Value} {base : Heap}
theorem bk_fm {b : Bk} (hb : b.Ok) {i : Nat} {f : Fd} (h : b.fns[i]? = some f) : f.Fm := (hb.fns i f h).fm
def spMadeBook (K : PySem.W.Frag) : Sp := fun vs H Q _ => ∃ (d p : Addr) (b : Bk), vs = [.ref d] ∧ BkD K p H d b.cells b.fns ∧ b.Ok ∧ ∀ r H', Same H H' → H r = none → BookAt K H' r b → Q (.ref r) H'
theorem c_law_made_book (T : Top K mg) : Cal P w K mg base 17 "_law_made_book" (spMadeBook K) := by
  refine mkCal T.d__law_made_book sc__law_made_book b__law_made_book (fun vs H Q E h => ?_) (fun f0 cdv A outer s H vs Q E hr h => ?_)
  · obtain ⟨d, p, b, rfl, _⟩ := h
    rfl
  · obtain ⟨d, p, b, rfl, hd, hb, q⟩ := h
    have nd := sc__law_made_book.nd
    have hu := hu_of hr
    obtain ⟨c, fl, cs, fs, h1, _, _, h2, h3, h4, h5⟩ := hd
    refine ⟨_, pss_cons (ps_set (i := 1) nd rfl (Or.inl rfl) (pe_lst pa_nil))
      (pss_cons (ps_for PassesOwn.never rfl (pi_list (pe_dget hu (pv 0) pe_str (fun _ _ => rfl))) (pg_name (i := 2) nd rfl (Or.inl rfl))
        (pss_cons (ps_set (i := 3) nd rfl (Or.inl rfl) (cmf (c_Function T) T.g_Function hr (pa_cons (pe_dget hu (pv 2) pe_str (fun _ _ => rfl)) (pa_cons (pe_dget hu (pv 2) pe_str (fun _ _ => rfl)) (pa_cons (pe_dget hu (pv 2) pe_str (fun _ _ => rfl)) pa_nil)))
          (pk_cons (pe_dget hu (pv 2) pe_str (fun _ _ => rfl)) (pk_cons (pe_dget hu (pv 2) pe_str (fun _ _ => rfl)) (pk_cons (pe_dget hu (pv 2) pe_str (fun _ _ => rfl)) pk_nil)))))
        (pss_one (ps_expr (pe_bm PySem.F.plainAttrs_list PySem.F.slot_list_append PySem.F.type_list_append mt_append (pv 1) (pa_cons (pv 3) pa_nil))))))
      (pss_one (ps_ret (cmk (c_Book T) hr (pa_cons (pe_lc (own := [("_law_name", 4), ("_law_kind", 5)]) (g := gTup K 2 (gCons (gName 4) (gCons (gName 5) gNil))) (tt := tYes) (te := tMake (He.ga K "Cell") (spCellI K) [] E0 (tCons (tVar 4) (tCons (tVar 5) tNil))) rfl nd (pi_list (pe_dget hu (pv 0) pe_str (fun _ _ => rfl)))
          (blkOk_by (N := n__law_made_book) (sc := defScope s__law_made_book) (by decide +kernel)) (fun _ _ _ _ _ => pg_tup rfl (pgs_cons (pg_name (i := 4) nd rfl (Or.inl rfl)) (pgs_cons (pg_name (i := 5) nd rfl (Or.inl rfl)) pgs_nil))) (fun _ _ _ _ _ => pts_nil)
          (fun _ _ _ _ _ => cmk (c_Cell T) hr (pa_cons (pv 4) (pa_cons (pv 5) pa_nil)))) (pa_cons (pv 1) pa_nil)))))), ?_⟩
    have lf := Paired.len h5
    have lc := Paired.len h3
    have f4 := hb.most
    have c3 := hb.few
    refine ⟨(by show 0 ≤ sizeLine; decide), fun M hM => ?_⟩
    have s1 : Same H (upd H M (.lst [])) := Same.upd hM
    refine ⟨_, rfl, d, .ref fl, rfl, dg (s1 _ _ h1) bk_f, fl, rfl, ⟨fs, SqL.of (s1 _ _ h4)⟩, for_list (xs := fs) (fun i σ H' => ∃ (ms : List V) (v2 v3 : Option V), σ = [some (.ref d), some (.ref M), v2, v3, none, none] ∧ Same H H' ∧ H' M = some (.lst ms) ∧ Paired (FnAt K H') (b.fns.take i) ms)
      ⟨[], none, none, rfl, s1, upd_same, .nil⟩ (fun i σ H' _ ⟨_, _, _, _, s, _⟩ => SqL.of (s _ _ h4)) ?_ ?_⟩
    · rintro i v σ H4 hv ⟨ms, v2, v3, rfl, s4, h4M, hms⟩
      obtain ⟨f, hfi, hfd⟩ := Paired.get' h5 hv
      have mlen := Paired.len hms
      rw [List.length_take] at mlen
      obtain ⟨fa, wp, xr, wws, rfl, hfa, hxr, hwp, hww⟩ := hfd.nl (NL.of s4)
      refine ⟨_, rfl, fa, _, rfl, dg hfa fk_n, _, rfl, fa, _, rfl, dg hfa fk_m, _, rfl, fa, _, rfl, dg hfa fk_r, _, rfl, fa, _, rfl, dg hfa fk_l, _, rfl, fa, _, rfl, dg hfa fk_w, _, rfl, fa, _, rfl, dg hfa fk_c, rfl, rfl, fun x dx nx ndx nex => ?_⟩
      have s5 : Same H4 (upd (upd H4 dx (.own x)) x (.ins (He.ga K "Function") dx [])) := by
        intro c o e
        rw [upd_ne (ne_of_none e nx), upd_ne (ne_of_none e ndx)]
        exact e
      refine ⟨x, dx, f, xr, wp, rfl, upd_same, bk_fm hb hfi, hxr.nl (NL.of s5), ⟨wws, .inr ((NL.of s5).tup hwp), Paired.mapP hww fun _ _ => WrAt.nl (NL.of s5)⟩, fun H6 hfn bx => ⟨rfl, ?_⟩⟩
      have s6 : Same H4 H6 := fun c o e => bx c o (s5 c o e) (ne_of_none e nx)
      have h6 := s6 _ _ h4M
      have n6 : NL H6 (upd H6 M (.lst (ms ++ [.ref x]))) := (Kp.set h6).nl
      refine ⟨_, rfl, .inl ⟨rfl, _, SqL.of h6⟩, _, rfl, M, ms, .ref x, rfl, rfl, h6, le_line (by omega), ms ++ [.ref x], _, _, rfl, Same.put (s4.trans s6) hM, upd_same, ?_⟩
      rw [List.take_succ, hfi, Option.toList_some]
      exact Paired.snoc (hfn.nl n6) (Paired.mapP hms fun _ _ h => (h.nl (NL.of s6)).nl n6)
    · rintro σ H4 ⟨ms, v2, v3, rfl, s4, h4M, hms⟩
      rw [List.take_of_length_le (by omega)] at hms
      refine ⟨_, rfl, d, .ref c, rfl, dg (s4 _ _ h1) bk_c, c, rfl, ⟨cs, SqL.of (s4 _ _ h2)⟩, fun D hD => ?_⟩
      refine lc_same (walk_list (xs := cs)) (by omega) hD (fun j y G => ∃ q, b.cells[j]? = some q ∧ CellAt K G q y) (fun _ s5 => s5.seq (SqL.of (s4 _ _ h2))) (fun j y G G' n ⟨q, e, h⟩ => ⟨q, e, h.nl n⟩) ?_ ?_
      · rintro i y G G' Qk hi s5 ⟨rfl, hy⟩ kk
        obtain ⟨cq, hcq, ca, rfl, hca⟩ := Paired.get' h3 hy
        obtain ⟨k1, k2⟩ := hb.cells cq (List.mem_of_getElem? hcq)
        refine ⟨ca, _, rfl, (NL.of (s4.trans s5)).tup hca, rfl, _, _, rfl, _, _, rfl, rfl, rfl, _, rfl, _, rfl, fun x dx nx ndx nex => ?_⟩
        refine ⟨x, dx, cq.1, cq.2, rfl, upd_same, k1, k2, fun G2 hg2 b2 => ⟨rfl, kk _ _ (fun a o e => ?_) ⟨cq, hcq, x, dx, rfl, hg2⟩⟩⟩
        exact b2 a o (by rw [upd_ne (ne_of_none e nx), upd_ne (ne_of_none e ndx)]; exact e) (ne_of_none e nx)
      · intro G acc s5 a5
        have hcells : Paired (CellAt K G) b.cells acc := Paired.of_get (by rw [a5.2.1, lc]) fun i q y e1 e2 => by
          obtain ⟨q', e3, h⟩ := a5.2.2 i y e2
          rw [e1] at e3
          cases e3
          exact h
        refine ⟨_, rfl, fun x dx nx ndx nex => ?_⟩
        have s6 : Same G (upd (upd G dx (.own x)) x (.ins (He.ga K "Book") dx [])) := by
          intro c o e
          rw [upd_ne (ne_of_none e nx), upd_ne (ne_of_none e ndx)]
          exact e
        have s46 := s5.trans s6
        have sHG := s4.trans s5
        refine ⟨x, dx, D, M, acc, ms, b, rfl, upd_same, hb, SqL.of (s6 _ _ a5.1), SqL.of (s46 _ _ h4M), Paired.mapP hcells fun _ _ => CellAt.nl (NL.of s6), Paired.mapP hms fun _ _ => FnAt.nl (NL.of s46), fun H6 hbk bx => ⟨rfl, ?_⟩⟩
        exact q x H6 (fun c o e => bx c o (s6 c o (sHG c o e)) (ne_of_none (sHG c o e) nx)) (Same.free sHG nx) hbk
end
end K80
namespace K80
open PySem PySem.Spec PyProof.Rows L2
abbrev AC : List V := [.str "arg", .str "cell"]
theorem node_ac {m : Nat} {t : Tm} {k : Str} (hw : t.wf m) (h : t.sh = .node k) : inV (.str k) AC = false := by
  cases t <;> simp [Tm.sh] at h <;> subst h
  · have hk : Tm.IsPair _ := hw.1
    rcases hk with rfl | rfl | rfl <;> decide +kernel
  · decide +kernel
theorem fs_two (a b : Str) : a ++ " " ++ b = tx [a, b] := by
  refine TL.ext_tl ?_
  simp [TL.tl_append, tl_tx, TL.joinL, tl_sp]
theorem fs_res2 (a : Str) : "result " ++ a = tx ["result", a] := by
  refine TL.ext_tl ?_
  have e : tl "result " = tl "result" ++ [32] := by decide +kernel
  simp [TL.tl_append, tl_tx, TL.joinL, e]
theorem fs_wr2 (a b : Str) : "write " ++ a ++ " " ++ b = tx ["write", a, b] := by
  refine TL.ext_tl ?_
  have e : tl "write " = tl "write" ++ [32] := by decide +kernel
  simp [TL.tl_append, tl_tx, TL.joinL, e, tl_sp]
theorem fs_cell2 (a b : Str) : "cell " ++ a ++ " " ++ b = tx ["cell", a, b] := by
  refine TL.ext_tl ?_
  have e : tl "cell " = tl "cell" ++ [32] := by decide +kernel
  simp [TL.tl_append, tl_tx, TL.joinL, e, tl_sp]
section
variable {P : Program} {w : World} {K : PySem.W.Frag} {mg : Str → Option Value} {base : Heap}
theorem c_law_term_text (T : Top K mg) : ∀ d : Nat, Cal P w K mg base (d + 1) "_law_term_text" (spWrTerm K d)
  | 0 => by
    refine mkCal T.d__law_term_text sc__law_term_text b__law_term_text (fun vs H Q E h => ?_) (fun f cdv A outer s H vs Q E hr h => ?_)
    · obtain ⟨v, t, m, rfl, _⟩ := h
      rfl
    · obtain ⟨v, t, m, rfl, _, _, _, hd, _⟩ := h
      have := t.depth_pos
      omega
  | d + 1 => by
    have ih := c_law_term_text T d
    refine mkCal T.d__law_term_text sc__law_term_text b__law_term_text (fun vs H Q E h => ?_) (fun f cdv A outer s H vs Q E hr h => ?_)
    · obtain ⟨v, t, m, rfl, _⟩ := h
      rfl
    · obtain ⟨v, t, m, rfl, hv, hw, hm, hd, hsz, q⟩ := h
      have nd := sc__law_term_text.nd
      refine ⟨_, pss_cons (ps_if (pt_not (pt_val (pisi T.f_isinstance T.f_tuple boot_tuple (pv 0)))) (pss_one (ps_ret (pe_callTy call_str_int rfl T.f_str boot_str (pa_cons (pv 0) pa_nil)))) pss_nil)
        (pss_cons (ps_if (pt_cmpR op_in_seq (pe_ix ix_tup (pv 0) pe_int (fun _ _ => rfl)) (pe_lst (pa_cons pe_str (pa_cons pe_str pa_nil))) rfl)
          (pss_one (ps_ret (pe_op op_add_str (pe_op op_add_str (pe_ix ix_tup (pv 0) pe_int (fun _ _ => rfl)) pe_str) (pe_callTy call_strW rfl T.f_str boot_str (pa_cons (pe_ix ix_tup (pv 0) pe_int (fun _ _ => rfl)) pa_nil))))) pss_nil)
        (pss_cons (ps_if (pt_cmpR op_eq (pe_ix ix_tup (pv 0) pe_int (fun _ _ => rfl)) pe_str (nomark _))
          (pss_one (ps_ret (pe_join pe_str (pe_op op_cat (pe_lst (pa_cons pe_str (pa_cons (pe_ix ix_tup (pv 0) pe_int (fun _ _ => rfl)) (pa_cons (pe_callTy call_str_int rfl T.f_str boot_str (pa_cons (plen T.f_len (pe_ix ix_tup (pv 0) pe_int (fun _ _ => rfl))) pa_nil)) pa_nil))))
            (plc n__law_term_text (defScope s__law_term_text) 1 nd (pi_tup (pe_ix ix_tup (pv 0) pe_int (fun _ _ => rfl))) (te := tCall (spWrTerm K d) [] E0 (tCons (tVar 1) tNil)) (fun _ _ _ _ _ => cc ih hr (pa_cons (pv 1) pa_nil) (Nat.le_refl _))))))) pss_nil)
        (pss_one (ps_ret (pe_join pe_str (pe_op op_cat (pe_lst (pa_cons (pe_ix ix_tup (pv 0) pe_int (fun _ _ => rfl)) pa_nil))
          (plc n__law_term_text (defScope s__law_term_text) 1 nd (pi_tup (pe_slice sl_tup (pv 0) (po_some pe_int) po_none)) (te := tCall (spWrTerm K d) [] E0 (tCons (tVar 1) tNil)) (fun _ _ _ _ _ => cc ih hr (pa_cons (pv 1) pa_nil) (Nat.le_refl _))))))))), ?_⟩
      have hkids : ∀ (H0 : Hp), Same H H0 → ∀ (r : Addr) (vs : List V), SqT K H0 r vs → TVs K H t.kids vs → ∀ (σ : L2.St) (D : Addr), H0 D = none → (∀ x, ((wipe σ [1]).set 1 (some x))[1]? = some (some x)) → (∀ x, wipe ((wipe σ [1]).set 1 (some x)) [1] = wipe σ [1]) → ∀ (Qd : Hp → Prop),
          (∀ H1, Same H0 H1 → H1 D = some (.lst ((t.kids.map Tm.text).map V.str)) → Qd H1) → LcB (Itt K r) (gName 1) (tCall (spWrTerm K d) [] E0 (tCons (tVar 1) tNil)) [1] σ H0 D Qd := by
        intro H0 s0 r vs hr' hks σ D hD hz hz2 Qd hd'
        have hl := Paired.len hks
        have hk3 := t.kids_len
        refine lc_same (walk_tup (xs := vs)) (by omega) hD (fun j y _ => ∃ k, t.kids[j]? = some k ∧ y = .str k.text) (fun _ s1 => (NL.of s1).tup hr') (fun _ _ _ _ _ r => r) ?_ ?_
        · rintro i y H1 H2 Qk hi s1 ⟨rfl, hy⟩ kk
          obtain ⟨k, hk, hky⟩ := Paired.get' hks hy
          have hmem := List.mem_of_getElem? hk
          have := t.depth_eq k hmem
          have := t.size_kids k hmem
          exact ⟨hz2 y, y, hz y, y, k, m, rfl, hky.nl (NL.of (s0.trans s1)), Tm.wf_kids hw k hmem, hm, by omega, by omega, fun H4 s4 => kk _ _ s4 ⟨k, hk, rfl⟩⟩
        · intro H1 acc s1 a
          refine hd' H1 s1 ?_
          rw [a.1, List.map_map, acc_map (l := t.kids) (f := fun k => V.str k.text) (by rw [a.2.1, hl]) a.2.2]
          rfl
      cases hv.by_sh with
      | val n h1 h2 h3 =>
        subst h3
        have hn : n ≤ 2 := hw
        exact ⟨_, rfl, isi (.base (.int _)) ⟨false, rfl, iteT ⟨_, rfl, _, rfl, log_small (by omega), q H (Same.refl _)⟩⟩⟩
      | leaf xs h1 h2 hp =>
        rename_i a
        cases t with
        | arg i =>
          cases h1
          have hi : i < m := hw
          have h0 : atI [V.str "arg", V.int (i : Nat)] 0 = some (V.str "arg") := atI_nat (j := 0) rfl
          have h01 : atI [V.str "arg", V.int (i : Nat)] 1 = some (V.int (i : Nat)) := atI_nat (j := 1) rfl
          refine ⟨_, rfl, isi (tyT hp) ⟨true, rfl, iteF ⟨_, rfl, _, _, _, _, rfl, rfl, hp, h0, (by show 2 ≤ sizeLine; decide), fun l hl => ⟨l, _, rfl, .inl (SqL.of upd_same), rfl, rfl, true, congrArg V.bl (by decide +kernel), iteT ?_⟩⟩⟩⟩
          have hp1 := (NL.of (Same.upd hl (o := .lst [.str "arg", .str "cell"]))).tup hp
          have hnl := num_len (n := i) (by omega)
          refine ⟨_, rfl, _, _, _, _, rfl, rfl, hp1, h0, _, _, rfl, rfl, le_line (by decide +kernel), _, rfl, _, _, _, _, rfl, rfl, hp1, h01, .inr ⟨_, rfl, log_small (by omega), _, _, rfl, rfl, le_line ?_, ?_⟩⟩
          · show ("arg" ++ " " : Str).length + (num i).length ≤ 10000
            rw [hnl]
            decide +kernel
          · show Q (.str ("arg" ++ " " ++ num i)) _
            rw [fs_two]
            exact q _ (Same.upd hl)
        | cell c =>
          cases h1
          have hc : Nm c := hw
          have h0 : atI [V.str "cell", V.str c] 0 = some (V.str "cell") := atI_nat (j := 0) rfl
          have h01 : atI [V.str "cell", V.str c] 1 = some (V.str c) := atI_nat (j := 1) rfl
          refine ⟨_, rfl, isi (tyT hp) ⟨true, rfl, iteF ⟨_, rfl, _, _, _, _, rfl, rfl, hp, h0, (by show 2 ≤ sizeLine; decide), fun l hl => ⟨l, _, rfl, .inl (SqL.of upd_same), rfl, rfl, true, congrArg V.bl (by decide +kernel), iteT ?_⟩⟩⟩⟩
          have hp1 := (NL.of (Same.upd hl (o := .lst [.str "arg", .str "cell"]))).tup hp
          have hcl := hc.2.1
          have e4 : ("cell" ++ " " : Str).length = 5 := by decide +kernel
          refine ⟨_, rfl, _, _, _, _, rfl, rfl, hp1, h0, _, _, rfl, rfl, le_line (by decide +kernel), _, rfl, _, _, _, _, rfl, rfl, hp1, h01, .inl ⟨_, rfl, _, _, rfl, rfl, le_line (by omega), ?_⟩⟩
          rw [fs_two]
          exact q _ (Same.upd hl)
        | tick =>
          cases h1
          have h0 : atI [V.str "tick"] 0 = some (V.str "tick") := atI_nat (j := 0) rfl
          refine ⟨_, rfl, isi (tyT hp) ⟨true, rfl, iteF ⟨_, rfl, _, _, _, _, rfl, rfl, hp, h0, (by show 2 ≤ sizeLine; decide), fun l hl => ⟨l, _, rfl, .inl (SqL.of upd_same), rfl, rfl, false, congrArg V.bl (by decide +kernel), iteF ?_⟩⟩⟩⟩
          have s1 : Same H (upd H l (.lst [.str "arg", .str "cell"])) := Same.upd hl
          have hp1 := (NL.of s1).tup hp
          refine ⟨_, rfl, _, _, _, _, rfl, rfl, hp1, h0, rfl, false, congrArg V.bl (by decide +kernel), iteF ?_⟩
          refine ⟨⟨_, rfl⟩, _, rfl, _, _, _, _, rfl, rfl, hp1, h0, (by show 1 ≤ sizeLine; decide), fun l1 hl1 => ?_⟩
          have s2 := Same.upd' s1 hl1 (o := .lst [.str "tick"])
          have hp2 := (NL.of s2).tup hp
          refine ⟨_, rfl, 1, rfl, a, _, rfl, hp2, fun z => not_whole z.1, fun p hn => ?_⟩
          rw [cut1]
          have s3 := Same.upd' s2 hn (o := .tup [])
          refine ⟨p, rfl, ⟨_, SqT.of upd_same⟩, fun D hD => ?_⟩
          refine hkids _ s3 p [] (SqT.of upd_same) .nil _ D hD (fun _ => rfl) (fun _ => rfl) _ fun H1 s4 h1' => ?_
          have s34 := s3.trans s4
          have hl1' : H1 l1 = some (.lst [.str "tick"]) := s4 _ _ (Same.upd hn _ _ upd_same)
          refine ⟨l1, D, _, _, rfl, rfl, hl1', h1', le_line (by decide +kernel), fun r hr' => ?_⟩
          refine ⟨_, r, ["tick"], rfl, rfl, .inl (SqL.of (by rw [upd_same]; rfl)), by decide +kernel, ?_⟩
          exact q _ (Same.upd' s34 hr')
        | _ => cases h1
      | node k h1 hp ks =>
        rename_i a vs
        have h0 : atI (V.str k :: vs) 0 = some (V.str k) := atI_nat (j := 0) rfl
        have e1 := node_ac hw h1
        obtain ⟨e2, _⟩ := node_head hw h1
        refine ⟨_, rfl, isi (tyT hp) ⟨true, rfl, iteF ⟨_, rfl, _, _, _, _, rfl, rfl, hp, h0, (by show 2 ≤ sizeLine; decide), fun l hl => ⟨l, _, rfl, .inl (SqL.of upd_same), rfl, rfl, false, congrArg V.bl e1, iteF ?_⟩⟩⟩⟩
        have s1 : Same H (upd H l (.lst [.str "arg", .str "cell"])) := Same.upd hl
        have hp1 := (NL.of s1).tup hp
        refine ⟨_, rfl, _, _, _, _, rfl, rfl, hp1, h0, rfl, false, congrArg V.bl e2, iteF ?_⟩
        refine ⟨⟨_, rfl⟩, _, rfl, _, _, _, _, rfl, rfl, hp1, h0, (by show 1 ≤ sizeLine; decide), fun l1 hl1 => ?_⟩
        have s2 := Same.upd' s1 hl1 (o := .lst [.str k])
        have hp2 := (NL.of s2).tup hp
        refine ⟨_, rfl, 1, rfl, a, _, rfl, hp2, fun z => not_whole z.1, fun p hn => ?_⟩
        rw [cut1]
        have s3 := Same.upd' s2 hn (o := .tup vs)
        refine ⟨p, rfl, ⟨_, SqT.of upd_same⟩, fun D hD => ?_⟩
        refine hkids _ s3 p vs (SqT.of upd_same) ks _ D hD (fun _ => rfl) (fun _ => rfl) _ fun H1 s4 h1' => ?_
        have s34 := s3.trans s4
        have hl1' : H1 l1 = some (.lst [.str k]) := s4 _ _ (Same.upd hn _ _ upd_same)
        have hk3 := t.kids_len
        refine ⟨l1, D, _, _, rfl, rfl, hl1', h1', le_line (by simp; omega), fun r hr' => ?_⟩
        refine ⟨_, r, k :: t.kids.map Tm.text, rfl, rfl, .inl (SqL.of (by rw [upd_same]; rfl)), join_len (n := 5000) ?_ (by omega), ?_⟩
        · have := Tm.parts_len hm hw hsz
          rw [Tm.node_hd h1] at this
          exact this
        · have e := t.text_eq
          rw [Tm.node_hd h1] at e
          have := q _ (Same.upd' s34 hr' (o := .lst ([V.str k] ++ (t.kids.map Tm.text).map V.str)))
          rw [e] at this
          exact this
      | call g h1 hp hq ks =>
        rename_i a b vs
        have h0 : atI [V.str "call", V.str g, V.ref b] 0 = some (V.str "call") := atI_nat (j := 0) rfl
        have h01 : atI [V.str "call", V.str g, V.ref b] 1 = some (V.str g) := atI_nat (j := 1) rfl
        have h2 : atI [V.str "call", V.str g, V.ref b] 2 = some (V.ref b) := atI_nat (j := 2) rfl
        have hl := Paired.len ks
        have hk3 := t.kids_len
        refine ⟨_, rfl, isi (tyT hp) ⟨true, rfl, iteF ⟨_, rfl, _, _, _, _, rfl, rfl, hp, h0, (by show 2 ≤ sizeLine; decide), fun l hl0 => ⟨l, _, rfl, .inl (SqL.of upd_same), rfl, rfl, false, congrArg V.bl (by decide +kernel), iteF ?_⟩⟩⟩⟩
        have s1 : Same H (upd H l (.lst [.str "arg", .str "cell"])) := Same.upd hl0
        have hp1 := (NL.of s1).tup hp
        have hq1 := (NL.of s1).tup hq
        refine ⟨_, rfl, _, _, _, _, rfl, rfl, hp1, h0, rfl, true, congrArg V.bl (decide_eq_true rfl), iteT ?_⟩
        refine ⟨⟨_, rfl⟩, _, rfl, _, _, _, _, rfl, rfl, hp1, h01, _, rfl, _, _, _, _, rfl, rfl, hp1, h2, _, _, rfl, .inr ⟨_, hq1, rfl⟩, _, rfl, log_small (by omega), (by show 3 ≤ sizeLine; decide), fun l1 hl1 => ?_⟩
        have s2 := Same.upd' s1 hl1 (o := .lst [.str "call", .str g, .str (num vs.length)])
        have hp2 := (NL.of s2).tup hp
        have hq2 := (NL.of s2).tup hq
        refine ⟨_, rfl, _, _, _, _, rfl, rfl, hp2, h2, b, rfl, ⟨_, hq2⟩, fun D hD => ?_⟩
        refine hkids _ s2 b vs hq2 ks _ D hD (fun _ => rfl) (fun _ => rfl) _ fun H1 s4 h1' => ?_
        have s24 := s2.trans s4
        refine ⟨l1, D, _, _, rfl, rfl, s4 _ _ upd_same, h1', le_line (by simp; omega), fun r hr' => ?_⟩
        refine ⟨_, r, "call" :: g :: num vs.length :: t.kids.map Tm.text, rfl, rfl, .inl (SqL.of (by rw [upd_same]; rfl)), join_len (n := 5000) ?_ (by omega), ?_⟩
        · have := Tm.parts_len hm hw hsz
          rw [Tm.call_hd h1, hl] at this
          exact this
        · have e := t.text_eq
          rw [Tm.call_hd h1, hl] at e
          have := q _ (Same.upd' s24 hr' (o := .lst ([V.str "call", V.str g, V.str (num vs.length)] ++ (t.kids.map Tm.text).map V.str)))
          rw [e] at this
          exact this
end
end K80
namespace K80
open PySem PySem.Spec PyProof.Rows L2
def rAddS : R2 := fun x y H Q => ∃ i j, x = .str i ∧ y = .str j ∧ i.length + j.length ≤ sizeLine ∧ Q (.str (i ++ j)) H
theorem op_addS {X : Cx} : OpR X (binaryOp .Add) rAddS := op_add_str
section
variable {P : Program} {w : World} {K : PySem.W.Frag} {mg : Str → Option Value} {base : Heap}
def spBookText (K : PySem.W.Frag) : Sp := fun vs H Q _ => ∃ (d p : Addr) (b : Bk), vs = [.ref d] ∧ BkD K p H d b.cells b.fns ∧ b.Ok ∧ ∀ H', Same H H' → Q (.str b.text) H'
theorem c_law_book_text (T : Top K mg) : Cal P w K mg base 10 "_law_book_text" (spBookText K) := by
  refine mkCal T.d__law_book_text sc__law_book_text b__law_book_text (fun vs H Q E h => ?_) (fun f0 cdv A outer s H vs Q E hr h => ?_)
  · obtain ⟨d, p, b, rfl, _⟩ := h
    rfl
  · obtain ⟨d, p, b, rfl, hd, hb, q⟩ := h
    have nd := sc__law_book_text.nd
    have hu := hu_of hr
    obtain ⟨c, fl, cs, fs, h1, _, _, h2, h3, h4, h5⟩ := hd
    refine ⟨_, pss_cons (ps_setLc (i := 1) (own := [("_law_name", 2), ("_law_kind", 3)]) (g := gTup K 2 (gCons (gName 2) (gCons (gName 3) gNil))) (tt := tYes) (te := tOp rAddS (tOp rAddS (tOp rAddS (tC (.str "cell ")) (tVar 2)) (tC (.str " "))) (tVar 3))
        rfl nd rfl rfl (sw_true rfl rfl rfl (by decide +kernel)) (pi_list (pe_dget hu (pv 0) pe_str (fun _ _ => rfl))) (blkOk_by (N := n__law_book_text) (sc := defScope s__law_book_text) (by decide +kernel))
        (fun _ _ _ _ _ => pg_tup rfl (pgs_cons (pg_name (i := 2) nd rfl (Or.inl rfl)) (pgs_cons (pg_name (i := 3) nd rfl (Or.inl rfl)) pgs_nil))) (fun _ _ _ _ _ => pts_nil)
        (fun _ _ _ _ _ => pe_op op_addS (pe_op op_addS (pe_op op_addS pe_str (pv 2)) pe_str) (pv 3)))
      (pss_cons (ps_for PassesOwn.never rfl (pi_list (pe_dget hu (pv 0) pe_str (fun _ _ => rfl))) (pg_name (i := 4) nd rfl (Or.inl rfl))
        (pss_cons (ps_expr (pe_bm PySem.F.plainAttrs_list PySem.F.slot_list_append PySem.F.type_list_append mt_append (pv 1) (pa_cons (pe_join pe_str (pe_lst (pa_cons pe_str (pa_cons (pe_dget hu (pv 4) pe_str (fun _ _ => rfl))
          (pa_cons (pe_callTy call_str_int rfl T.f_str boot_str (pa_cons (pe_dget hu (pv 4) pe_str (fun _ _ => rfl)) pa_nil)) (pa_cons (pe_dget hu (pv 4) pe_str (fun _ _ => rfl)) (pa_cons (pe_callTy call_str_int rfl T.f_str boot_str (pa_cons (pe_dget hu (pv 4) pe_str (fun _ _ => rfl)) pa_nil)) pa_nil))))))) pa_nil)))
        (pss_cons (ps_expr (pe_bm PySem.F.plainAttrs_list PySem.F.slot_list_append PySem.F.type_list_append mt_append (pv 1) (pa_cons (pe_op op_addS pe_str (cc (c_law_term_text T 8) hr (pa_cons (pe_dget hu (pv 4) pe_str (fun _ _ => rfl)) pa_nil))) pa_nil)))
        (pss_one (ps_set (i := 1) nd rfl (Or.inl rfl) (pe_op op_cat (pv 1) (pe_lc (own := [("_law_cell", 5), ("_law_term_here", 6)]) (g := gTup K 2 (gCons (gName 5) (gCons (gName 6) gNil))) (tt := tYes) (te := tOp rAddS (tOp rAddS (tOp rAddS (tC (.str "write ")) (tVar 5)) (tC (.str " "))) (tCall (spWrTerm K 8) [] E0 (tCons (tVar 6) tNil)))
          rfl nd (pi_tup (pe_dget hu (pv 4) pe_str (fun _ _ => rfl))) (blkOk_by (N := n__law_book_text) (sc := defScope s__law_book_text) (by decide +kernel))
          (fun _ _ _ _ _ => pg_tup rfl (pgs_cons (pg_name (i := 5) nd rfl (Or.inl rfl)) (pgs_cons (pg_name (i := 6) nd rfl (Or.inl rfl)) pgs_nil))) (fun _ _ _ _ _ => pts_nil)
          (fun _ _ _ _ _ => pe_op op_addS (pe_op op_addS (pe_op op_addS pe_str (pv 5)) pe_str) (cc (c_law_term_text T 8) hr (pa_cons (pv 6) pa_nil))))))))))
      (pss_one (ps_ret (pe_join pe_str (pv 1))))), ?_⟩
    have lf := Paired.len h5
    have lc := Paired.len h3
    have f4 := hb.most
    have c3 := hb.few
    refine ⟨_, rfl, d, .ref c, rfl, dg h1 bk_c, c, rfl, ⟨cs, SqL.of h2⟩, fun D hD => ?_⟩
    refine lc_same (walk_list (xs := cs)) (by omega) hD (fun j y _ => ∃ q, b.cells[j]? = some q ∧ y = .str (tx (cellRow q))) (fun _ s1 => s1.seq (SqL.of h2)) (fun _ _ _ _ _ r => r) ?_ ?_
    · rintro i y G G' Qk hi s1 ⟨rfl, hy⟩ kk
      obtain ⟨cq, hcq, ca, rfl, hca⟩ := Paired.get' h3 hy
      obtain ⟨k1, k2⟩ := hb.cells cq (List.mem_of_getElem? hcq)
      have b6 := k1.2.1
      have b7 := kind_len k2
      refine ⟨ca, _, rfl, (NL.of s1).tup hca, rfl, _, _, rfl, _, _, rfl, rfl, rfl, ?_⟩
      refine ⟨_, rfl, _, _, rfl, rfl, le_line (by simp only [len_cell]; omega), _, _, rfl, rfl, le_line (by simp only [Str.length_append, len_cell, len_sp]; omega), _, rfl, _, _, rfl, rfl, le_line (by simp only [Str.length_append, len_cell, len_sp]; omega), kk _ _ (Same.refl _) ⟨cq, hcq, ?_⟩⟩
      rw [fs_cell2]
      rfl
    intro H1 acc s1 a1
    have eacc := acc_map (l := b.cells) (f := fun q => V.str (tx (cellRow q))) (by rw [a1.2.1, lc]) a1.2.2
    refine ⟨_, rfl, d, .ref fl, rfl, dg (s1 _ _ h1) bk_f, fl, rfl, ⟨fs, SqL.of (s1 _ _ h4)⟩, for_list (xs := fs) (fun i σ G => ∃ (R : Addr) (v4 : Option V), σ = [some (.ref d), some (.ref R), none, none, v4, none, none] ∧ Same H G ∧ H R = none ∧ G R = some (.lst (((b.cells.map cellRow ++ ((b.fns.take i).map Fd.rows).flatten).map tx).map V.str)))
      ⟨D, none, rfl, s1, hD, by rw [a1.1, eacc]; simp⟩ (fun i σ G _ ⟨_, _, _, s, _⟩ => SqL.of (s _ _ h4)) ?_ ?_⟩
    · rintro i y σ G hy ⟨R, v4, rfl, sG, hRn, hR⟩
      obtain ⟨f, hfi, hfd⟩ := Paired.get' h5 hy
      have hf := bk_fm hb hfi
      have b1 := hf.many
      have b2 := hf.cost
      have b3 := hf.name.2.1
      have b4 := lab_len hf.label
      have b5 := hf.few
      have n1 := len_num (n := f.many) (by omega)
      have n2 := len_num (n := f.cost) (by omega)
      obtain ⟨fa, wp, xr, wws, rfl, hfa, hxr, hwp, hww⟩ := hfd
      have hfaG := sG _ _ hfa
      have rlen : (((b.cells.map cellRow ++ ((b.fns.take i).map Fd.rows).flatten).map tx).map V.str).length ≤ 20 := by
        have e2 := rows_few (l := b.fns.take i) fun g hg => by
          obtain ⟨j, hj⟩ := List.getElem?_of_mem (List.mem_of_mem_take hg)
          exact (hb.fns j g hj).few
        rw [List.length_take] at e2
        rw [List.length_map, List.length_map, List.length_append, List.length_map]
        omega
      -- the head
      refine ⟨_, rfl, .inl ⟨rfl, _, SqL.of hR⟩, ⟨_, rfl⟩, _, rfl, fa, _, rfl, dg hfaG fk_n, _, rfl, fa, _, rfl, dg hfaG fk_m, _, rfl, log_small (by omega), _, rfl, fa, _, rfl, dg hfaG fk_l, _, rfl, fa, _, rfl, dg hfaG fk_c, _, rfl, log_small (by omega), (by show 5 ≤ sizeLine; decide), fun l1 hl1 => ?_⟩
      have s1' : Same G (upd G l1 (.lst [.str "function", .str f.name, .str (num f.many), .str f.label, .str (num f.cost)])) := Same.upd hl1
      have hhr : RowOk f.headRow := Fd.rows_ok hf _ (List.mem_cons_self ..)
      have hwl := wl_le hhr.2.1
      have hhl := hhr.2.2
      refine ⟨_, l1, f.headRow, rfl, rfl, .inl (SqL.of (by rw [upd_same]; rfl)), join_len (n := 1000) (by omega) (by omega), ?_⟩
      refine ⟨R, _, _, rfl, rfl, s1' _ _ hR, le_line (by omega), ?_⟩
      -- the result
      have s2' := Same.put (sG.trans s1') hRn (o := .lst ((((b.cells.map cellRow ++ ((b.fns.take i).map Fd.rows).flatten).map tx).map V.str) ++ [V.str (Txt.join " " f.headRow)]))
      have htl := Tm.text_len b1 hf.wf
      have hsz := hf.size
      refine ⟨_, rfl, .inl ⟨rfl, _, SqL.of upd_same⟩, _, rfl, fa, _, rfl, dg (s2' _ _ hfa) fk_r, xr, f.result, f.many, rfl, hxr.nl (NL.of s2'), hf.wf, b1, hf.depth, hf.size, fun G3 s3 => ?_⟩
      refine ⟨_, _, rfl, rfl, le_line (by simp only [len_res]; omega), R, _, _, rfl, rfl, s3 _ _ upd_same, le_line (by simp at rlen ⊢; omega), ?_⟩
      have s4' := Same.put (s2'.trans s3) hRn (o := .lst ((((b.cells.map cellRow ++ ((b.fns.take i).map Fd.rows).flatten).map tx).map V.str) ++ [V.str (Txt.join " " f.headRow)] ++ [V.str ("result " ++ f.result.text)]))
      -- the writes
      have hwl2 := Paired.len hww
      refine ⟨_, rfl, _, rfl, fa, _, rfl, dg (s4' _ _ hfa) fk_w, wp, rfl, ⟨_, (NL.of s4').tup hwp⟩, fun D2 hD2 => ?_⟩
      refine lc_same (walk_tup (xs := wws)) (by omega) hD2 (fun j y _ => ∃ qw, f.writes[j]? = some qw ∧ y = .str (tx ("write" :: qw.1 :: qw.2.words))) (fun _ s5 => (NL.of (s4'.trans s5)).tup hwp) (fun _ _ _ _ _ r => r) ?_ ?_
      · rintro j z G5 G6 Qk hj s5 ⟨rfl, hz⟩ kk
        obtain ⟨qw, hq, r, u, rfl, hr2, ht⟩ := Paired.get' hww hz
        obtain ⟨k1, k2, k3, k4⟩ := hf.writes qw (List.mem_of_getElem? hq)
        have ktx := Tm.text_len b1 k2
        have b6 := k1.2.1
        have s45 := s4'.trans s5
        refine ⟨r, _, rfl, (NL.of s45).tup hr2, rfl, _, _, rfl, _, _, rfl, rfl, rfl, ?_⟩
        refine ⟨_, rfl, _, _, rfl, rfl, le_line (by simp only [len_wr]; omega), _, _, rfl, rfl, le_line (by simp only [Str.length_append, len_wr, len_sp]; omega), _, rfl, u, qw.2, f.many, rfl, ht.nl (NL.of s45), k2, b1, k4, k3, fun G7 s7 => ⟨_, _, rfl, rfl, le_line (by simp only [Str.length_append, len_wr, len_sp]; omega), kk _ _ s7 ⟨qw, hq, ?_⟩⟩⟩
        rw [fs_wr2, tx_wr]
      · intro G5 acc2 s5 a5
        have eacc2 := acc_map (l := f.writes) (f := fun qw => V.str (tx ("write" :: qw.1 :: qw.2.words))) (by rw [a5.2.1, hwl2]) a5.2.2
        refine ⟨R, D2, _, _, rfl, rfl, s5 _ _ upd_same, a5.1, le_line (by rw [eacc2]; simp at rlen ⊢; omega), fun R2 hR2 => ?_⟩
        have s45 := s4'.trans s5
        refine ⟨R2, _, rfl, s45.trans (Same.upd hR2), Same.free s45 hR2, ?_⟩
        rw [upd_same, eacc2, List.take_succ, hfi, fs_res2, tx_res]
        simp [Fd.rows_eq, List.map_map]
        rfl
    · rintro σ G ⟨R, v4, rfl, sG, hRn, hR⟩
      rw [show b.fns.take fs.length = b.fns from List.take_of_length_le (by omega)] at hR
      refine ⟨⟨_, rfl⟩, _, rfl, _, R, b.rows.map tx, rfl, rfl, .inl (SqL.of hR), ?_, q G sG⟩
      have := Bk.text_wl hb
      unfold wl at this
      rw [len_nl]
      omega
end
end K80
namespace K80
open PySem PySem.Spec PyProof.Rows L2
/-! ### one function more -/
def zf : Fd := ⟨"zzzz", 0, .val 1, [], 0, "always"⟩
def Bk.more (b : Bk) : Bk := ⟨b.cells, b.fns ++ [zf]⟩
theorem zf_nm : Nm zf.name := by
  refine ⟨by decide +kernel, by decide +kernel, ?_⟩
  decide +kernel
theorem zf_ok {cells : List (Str × Str)} {ah : List (Str × Nat)} : zf.Ok cells ah :=
  ⟨zf_nm, by decide, ⟨by show 1 ≤ 2; decide, trivial, by decide, by decide⟩, by decide, fun q h => (by cases h), by decide, .inl rfl⟩
theorem Bk.more_ok {b : Bk} (hb : b.Ok) (h3 : b.fns.length ≤ 3) (hz : ∀ n ∈ b.cells.map (·.1) ++ b.fns.map (·.name), n ≠ "zzzz") : b.more.Ok := by
  refine ⟨hb.few, hb.cells, ?_, by simp [Bk.more], by simp [Bk.more]; omega, fun i f h => ?_⟩
  · show (b.cells.map (·.1) ++ (b.fns ++ [zf]).map (·.name)).Nodup
    rw [List.map_append, ← List.append_assoc, List.nodup_append]
    refine ⟨hb.nd, by simp, fun a ha b' hb' => ?_⟩
    have e : b' = "zzzz" := by simpa [zf] using hb'
    rw [e]
    exact hz a ha
  · show f.Ok b.cells (((b.fns ++ [zf]).take i).map Fd.sig)
    have h : (b.fns ++ [zf])[i]? = some f := h
    by_cases hi : i < b.fns.length
    · rw [List.getElem?_append_left hi] at h
      rw [List.take_append_of_le_length (by omega)]
      exact hb.fns i f h
    · have hl := (List.getElem?_eq_some_iff.mp h).1
      rw [List.length_append, List.length_singleton] at hl
      have ei : i = b.fns.length := by omega
      subst ei
      rw [List.getElem?_append_right (Nat.le_refl _), Nat.sub_self] at h
      cases h
      exact zf_ok
theorem merge6 {f : Fd} {x : V} {wp : Addr} : mergeK [] (fnKv f x wp) = fnKv f x wp := by
  show putK (putK (putK (mergeK [] (kv3 f.name f.many x)) (Sum.inr "writes" : Key) (.ref wp)) (Sum.inr "cost" : Key) (.int (f.cost : Nat))) (Sum.inr "label" : Key) (.str f.label) = _
  rw [merge3, put_w, put_c, put_l]
  rfl
section
variable {P : Program} {w : World} {K : PySem.W.Frag} {mg : Str → Option Value} {base : Heap}
def spLaw (K : PySem.W.Frag) : Sp := fun vs H Q _ => ∃ (a : Addr) (ns : List Int), vs = [.ref a] ∧ SqL K H a (ns.map V.int) ∧ ns.length ≤ 63 ∧ ∀ H', Q (.bl true) H'
theorem fn_law (T : Top K mg) {f0 : Addr} {fd : FuncData} (F : FunD K "law" "law" (defArgs s_law) (defBody s_law) (defScope s_law) [] [] f0 fd) : FnOk P w K mg base CX0 18 f0 fd ["_law_script"] (spLaw K) := by
  refine mkFn F sc_law (fun vs H Q E h => ?_) (fun f1 cdv A outer s H vs Q E hr h => ?_)
  · obtain ⟨a, ns, rfl, _⟩ := h
    rfl
  · obtain ⟨a, ns, rfl, ha, hn, q⟩ := h
    have nd := sc_law.nd
    have hu := hu_of hr
    refine ⟨_, pss_cons (ps_for PassesOwn.never rfl (pi_range1 rfl T.f_range (pa_cons (pe_callB (call_max2 rfl) rfl T.f_max (by decide +kernel) (pa_cons pe_int (pa_cons (pe_callB (call_min2 rfl) rfl T.f_min (by decide +kernel) (pa_cons (plen T.f_len (pv 0)) (pa_cons pe_int pa_nil))) pa_nil))) pa_nil)) (pg_name (i := 1) nd rfl (Or.inl rfl))
        (pss_cons (ps_set (i := 2) nd rfl (Or.inl rfl) (cc (c_law_pool T) hr (pa_cons (pv 0) (pa_cons (pv 1) pa_nil))))
        (pss_cons (ps_set (i := 3) nd rfl (Or.inl rfl) (cc (c_law_book T) hr (pa_cons (pv 2) (pa_cons pe_int (pa_cons pe_int pa_nil)))))
        (pss_cons (ps_par rfl nd (i := 4) (j := 5) rfl rfl (by decide) rfl rfl (pa_cons (cc (c_law_made_book T) hr (pa_cons (pv 3) pa_nil)) (pa_cons (cc (c_law_book_text T) hr (pa_cons (pv 3) pa_nil)) pa_nil)) (by rfl))
        (pss_cons (ps_if (PW.pt (pw_or (pt_cmpR op_ne (cc (c_write_book T) hr (pa_cons (pv 4) pa_nil)) (pv 5) (nomark _)) (pw_or (pt_cmpR (op_ownN (c_Book_eq T) T.exs.neB T.m_Book_eq hr) (cc (c_read_book T) hr (pa_cons (pv 5) pa_nil)) (pv 4) (nomark _))
          (pw_or1 (pt_cmpR op_ne (cc (c_write_book T) hr (pa_cons (cc (c_read_book T) hr (pa_cons (pv 5) pa_nil)) pa_nil)) (pv 5) (nomark _)))))) (pss_one (ps_ret pe_bl)) pss_nil)
        (pss_cons (ps_set (i := 6) nd rfl (Or.inl rfl) (pe_callTy call_dictD rfl T.f_dict (by decide +kernel) (pa_cons (pv 3) pa_nil)))
        (pss_cons (ps_dput hu (pv 6) pe_str (pe_op op_cat (pe_dget hu (pv 3) pe_str (fun _ _ => rfl)) (pe_lst (pa_cons (pe_disp (pps_cons pe_str pe_str (pps_cons pe_str pe_int (pps_cons pe_str pe_int (pps_cons pe_str (pe_tup pa_nil) (pps_cons pe_str pe_int (pps_cons pe_str pe_str pps_nil)))))) (by rfl) (by rfl) (fun z => by cases z) (by decide)) pa_nil))) rfl)
        (pss_one (ps_if (PW.pt (pw_or (pt_cmpR (op_ownN (c_Book_eq T) T.exs.neB T.m_Book_eq hr) (cc (c_read_book T) hr (pa_cons (cc (c_law_book_text T) hr (pa_cons (pv 6) pa_nil)) pa_nil)) (cc (c_law_made_book T) hr (pa_cons (pv 6) pa_nil)) (nomark _))
          (pw_or1 (pt_cmpR (op_ownE (c_Book_eq T) hr) (cc (c_read_book T) hr (pa_cons (cc (c_law_book_text T) hr (pa_cons (pv 6) pa_nil)) pa_nil)) (pv 4) (nomark _))))) (pss_one (ps_ret pe_bl)) pss_nil)))))))))
      (pss_one (ps_ret pe_bl)), ?_⟩
    refine ⟨_, rfl, _, _, rfl, .inl ⟨_, ha, rfl⟩, _, _, rfl, _, _, rfl, ?_⟩
    have hj : ∃ j : Nat, (if (if (2 : Int) < ((ns.map V.int).length : Nat) then (2 : Int) else ((ns.map V.int).length : Nat)) > 1 then (if (2 : Int) < ((ns.map V.int).length : Nat) then (2 : Int) else ((ns.map V.int).length : Nat)) else 1) = (j : Int) ∧ j ≤ 2 := by
      by_cases h2 : (2 : Int) < ((ns.map V.int).length : Nat)
      · rw [if_pos h2]
        exact ⟨2, by decide, by decide⟩
      · rw [if_neg h2]
        by_cases h1 : (((ns.map V.int).length : Nat) : Int) > 1
        · rw [if_pos h1]
          exact ⟨_, rfl, by omega⟩
        · rw [if_neg h1]
          exact ⟨1, rfl, by decide⟩
    obtain ⟨j, hj1, hj2⟩ := hj
    refine ⟨(j : Int), congrArg (fun z => [V.int z]) hj1, by omega, by omega, ?_⟩
    refine for_it walk_range (fun i σ G => ∃ v1 v2 v3 v4 v5 v6 : Option V, σ = [some (.ref a), v1, v2, v3, v4, v5, v6] ∧ Same H G) ⟨none, none, none, none, none, none, rfl, Same.refl _⟩ (fun _ _ _ _ _ => trivial) ?_ ?_
    · rintro i x σ G G' hi ⟨v1, v2, v3, v4, v5, v6, rfl, sG⟩ ⟨rfl, rfl⟩
      have hi2 : i < j := by rw [Int.toNat_natCast] at hi; exact hi
      have e0 : [V.ref a, V.int (0 + (i : Int))] ++ [] = [V.ref a, V.int (i : Nat)] := by rw [Int.zero_add]; rfl
      -- the book
      refine ⟨_, rfl, _, rfl, a, i, ns, e0, sG.seq ha, by omega, fun pq G1 s1 hpq hp1 => ?_⟩
      refine ⟨_, rfl, pq, rfl, hp1, fun db b G2 k2 hp2 hdb hbk hok hf3 hz => ?_⟩
      have s2 : Same G' G2 := fun c o e => k2.but c o (s1 c o e) (ne_of_none e hpq)
      have hck : ∀ c ∈ b.cells, Nm c.1 ∧ IsKind c.2 := hok.cells
      have hfk : ∀ f ∈ b.fns, f.Fm := fun f hf => by
        obtain ⟨i, hi⟩ := List.getElem?_of_mem hf
        exact bk_fm hok hi
      refine ⟨_, rfl, db, pq, b, rfl, hbk, hok, fun bh G3 s3 hbh hbh3 => ?_⟩
      refine ⟨_, rfl, db, pq, b, rfl, hbk.same s3, hok, fun G4 s4 => ⟨_, _, rfl, ?_⟩⟩
      have hbh4 := hbh3.nl (NL.of s4)
      -- write_book tells its text
      refine ⟨_, rfl, bh, b, rfl, hok, hbh4, fun G5 s5 => ⟨_, rfl, rfl, false, by simp, iteF ?_⟩⟩
      -- read_book brings it back
      refine ⟨_, rfl, b, rfl, hok, fun r G6 s6 hr6 hbr => ⟨_, rfl, ?_⟩⟩
      have hbh6 := hbh4.nl (NL.of (s5.trans s6))
      obtain ⟨dx, cr, rw1, cs, fs, hrp, _⟩ := id hbr
      obtain ⟨dx2, cr2, rw2, cs2, fs2, hbp, _⟩ := id hbh6
      refine ⟨r, bh, dx, dx2, _, _, rfl, rfl, hrp, hbp, r, bh, b, b, rfl, hbr, hbh6, hck, hfk, rfl, fun i f g e1 e2 => Option.some.inj (e1.symm.trans e2), fun G7 s7 => ⟨true, congrArg V.bl (decide_eq_true rfl), false, rfl, iteF ?_⟩⟩
      refine ⟨_, rfl, b, rfl, hok, fun r2 G8 s8 hr8 hbr2 => ⟨r2, b, rfl, hok, hbr2, fun G9 s9 => ⟨_, rfl, rfl, false, by simp, iteF ?_⟩⟩⟩
      have s49 : Same G4 G9 := (((s5.trans s6).trans s7).trans s8).trans s9
      have s29 : Same G2 G9 := (s3.trans s4).trans s49
      have hbk9 := hbk.same s29
      obtain ⟨c, fl, ccs, ffs, h1, n1, n2, h2, h3, h4, h5⟩ := hbk9
      have hflen := Paired.len h5
      -- one more
      refine ⟨_, rfl, db, _, rfl, .inl h1, fun md hmd => ?_⟩
      have s10 : Same G9 (upd G9 md (.dK (bkKv c fl))) := Same.upd hmd
      refine ⟨_, rfl, db, .ref fl, rfl, dg (s10 _ _ h1) bk_f, fun zd hzd => ?_⟩
      have s11 := Same.upd hzd (o := .dK [])
      refine ⟨(by show 0 ≤ sizeLine; decide), fun t ht => ?_⟩
      have s12 := Same.upd ht (o := .tup [])
      refine ⟨s12 _ _ upd_same, fnKv zf (.int 1) t, rfl, (by show 6 ≤ 15; decide), (by show 1 ≤ sizeLine; decide), fun l hl => ?_⟩
      rw [merge6] at hl ⊢
      have hzn : G9 zd = none := Same.free s10 hzd
      have sA := (s10.trans s11).trans s12
      have sB := Same.put sA hzn (o := .dK (fnKv zf (.int 1) t))
      have sC := Same.upd' sB hl (o := .lst [.ref zd])
      refine ⟨fl, l, ffs, [.ref zd], rfl, rfl, sC _ _ h4, upd_same, le_line (by rw [← hflen]; simp; omega), fun l3 hl3 => ?_⟩
      have sD := Same.upd' sC hl3 (o := .lst (ffs ++ [.ref zd]))
      have hmz : md ≠ zd := ne_of_none upd_same hzd
      have hzt : zd ≠ t := ne_of_none upd_same ht
      have m12 := s12 _ _ (s11 _ _ (upd_same (H := G9) (a := md) (o := .dK (bkKv c fl))))
      have s14 := Same.upd hl (o := .lst [.ref zd])
      have s15 := Same.upd hl3 (o := .lst (ffs ++ [.ref zd]))
      have m15 := s15 _ _ (s14 _ _ ((upd_ne (o := .dK (fnKv zf (.int 1) t)) hmz).trans m12))
      have z15 := s15 _ _ (s14 _ _ (upd_same (o := .dK (fnKv zf (.int 1) t)) (a := zd)))
      have t15 := s15 _ _ (s14 _ _ ((upd_ne (o := .dK (fnKv zf (.int 1) t)) hzt.symm).trans (upd_same (o := .tup []) (a := t))))
      refine ⟨_, rfl, md, _, rfl, DPut.k (k := Sum.inr "functions") m15 (lt_line (by show 2 < 1000; decide)), ?_⟩
      rw [bk_put2]
      have sE := Same.put sD hmd (o := .dK (bkKv c l3))
      have hl3md : l3 ≠ md := (ne_of_none (s14 _ _ ((upd_ne (o := .dK (fnKv zf (.int 1) t)) hmz).trans m12)) hl3).symm
      have hpq9 := hp2.kp s29
      have hl3p : l3 ≠ pq := (hpq9.kp sC).ne hl3
      have hmt : md ≠ t := ne_of_none (s11 _ _ upd_same) ht
      have tE := (upd_ne (o := .dK (bkKv c l3)) hmt.symm).trans t15
      have hnew : FnD K _ zf (.ref zd) := ⟨zd, t, .int 1, [], rfl, (upd_ne (o := .dK (bkKv c l3)) hmz.symm).trans z15, rfl, SqT.of tE, .nil⟩
      have hbm0 : BkD K pq _ md b.cells (b.fns ++ [zf]) := ⟨c, l3, ccs, ffs ++ [.ref zd], upd_same, n1, hl3p, sE _ _ h2, Paired.mapP h3 fun _ _ => CellT.nl (NL.of sE), (upd_ne hl3md).trans upd_same, Paired.snoc hnew (Paired.mapP h5 fun _ _ => FnD.nl (NL.of sE))⟩
      have hbm : BkD K pq _ md b.more.cells b.more.fns := hbm0
      have hok2 : b.more.Ok := Bk.more_ok hok hf3 hz
      have hck2 : ∀ c ∈ b.more.cells, Nm c.1 ∧ IsKind c.2 := hok2.cells
      have hfk2 : ∀ f ∈ b.more.fns, f.Fm := fun f hf => by
        obtain ⟨i, hi⟩ := List.getElem?_of_mem hf
        exact bk_fm hok2 hi
      refine ⟨_, rfl, md, pq, b.more, rfl, hbm, hok2, fun G17 s17 => ⟨b.more, rfl, hok2, fun r3 G18 s18 hr18 hb18 => ?_⟩⟩
      refine ⟨_, rfl, md, pq, b.more, rfl, (hbm.same s17).same s18, hok2, fun m2 G19 s19 hm2 hbm2 => ?_⟩
      have hb19 := hb18.nl (NL.of s19)
      obtain ⟨dx3, cr3, rw3, cs3, fs3, hrp3, _⟩ := id hb19
      obtain ⟨dx4, cr4, rw4, cs4, fs4, hrp4, _⟩ := id hbm2
      refine ⟨r3, m2, dx3, dx4, _, _, rfl, rfl, hrp3, hrp4, r3, m2, b.more, b.more, rfl, hb19, hbm2, hck2, hfk2, rfl, fun i f g e1 e2 => Option.some.inj (e1.symm.trans e2), fun G20 s20 => ⟨true, congrArg V.bl (decide_eq_true rfl), false, rfl, iteF ?_⟩⟩
      have sF := ((s17.trans s18).trans s19).trans s20
      refine ⟨_, rfl, md, pq, b.more, rfl, hbm.same sF, hok2, fun G21 s21 => ⟨b.more, rfl, hok2, fun r4 G22 s22 hr22 hb22 => ⟨_, rfl, ?_⟩⟩⟩
      have s222 := (sF.trans s21).trans s22
      have hbh22 := ((hbh4.nl (NL.of s49)).nl (NL.of sE)).nl (NL.of s222)
      obtain ⟨dx5, cr5, rw5, cs5, fs5, hrp5, _⟩ := id hb22
      obtain ⟨dx6, cr6, rw6, cs6, fs6, hrp6, _⟩ := id hbh22
      have hlne : ¬ b.more.fns.length = b.fns.length := by simp [Bk.more]
      refine ⟨r4, bh, dx5, dx6, _, _, rfl, rfl, hrp5, hrp6, r4, bh, b.more, b, rfl, hb22, hbh22, hck2, hfk2, rfl, fun i f g e1 e2 => ?_, fun G23 s23 => ⟨false, congrArg V.bl (decide_eq_false hlne), false, rfl, iteF ?_⟩⟩
      · have hi3 : i < b.fns.length := (List.getElem?_eq_some_iff.mp e2).1
        have e1 : (b.fns ++ [zf])[i]? = some f := e1
        rw [List.getElem?_append_left hi3] at e1
        exact Option.some.inj (e1.symm.trans e2)
      · exact ⟨_, _, _, _, _, _, rfl, (((sG.trans s2).trans s29).trans sE).trans (s222.trans s23)⟩
    · rintro σ G ⟨v1, v2, v3, v4, v5, v6, rfl, sG⟩
      exact q G
end
end K80
set_option maxHeartbeats 0
namespace K80
open PySem PySem.W PySem.Calls PySem.Spec PyProof.Rows L2
abbrev lvLaw : Nat := 60
theorem ok_law {w : World} {K : PySem.W.Frag} {mg : Str → Option Value} (T : Top K mg) : ∃ fd, (∀ base : Heap, FnOk R.prog w K mg base CX0 lvLaw (He.ga K "law") fd ["_law_script"] (spLaw K)) ∧ ∀ (s : Shared) (v : Value), BindsTo s fd ⟨[v], []⟩ [("_law_script", v)] := by
  obtain ⟨f, fd, F, hm⟩ := T.d_law
  have e : f = He.ga K "law" := by
    have := hm.symm.trans T.g_law
    cases this
    rfl
  subst e
  exact ⟨fd, fun base => (fn_law (P := R.prog) (w := w) (base := base) T F).mono (by decide), fun s v => F.bindsA (ps := ["_law_script"]) b_law s [v] rfl⟩
end K80
open PySem PySem.W PySem.Calls PyProof.Rows
theorem PySem.Challenge.cw_steadycalls_k80_whole_books_as_texts_holds : PySem.Challenge.rw_steadycalls_k80_whole_books_as_texts.Holds := by
  w_on; o_law
  refine HandSHeadRun.head_any (r := OpenLaw.row PySem.Challenge.rw_steadycalls_k80_whole_books_as_texts) (q := view (OpenLaw.row PySem.Challenge.rw_steadycalls_k80_whole_books_as_texts).prog [78]) (H := K80.hk) (ob := K80.ob) (M := 6000) (loose := K80.loose) (d := HandSHeadRun.topDef (OpenLaw.row PySem.Challenge.rw_steadycalls_k80_whole_books_as_texts).prog 78) (kwd := []) K80.ob_eq
    (by kernel_rfl) (fun s => by kernel_rfl) K80.run (by kernel_rfl) (by kernel_rfl) (by kernel_rfl) (by rfl) (by first | assumption | decide +kernel) (by decide +kernel) ⟨rfl, rfl, rfl, rfl, rfl, by decide +kernel⟩ ?hw ?hc
  case hw => w_witness2
  case hc =>
    refine L2.walk_ofE (l := PySem.Challenge.rw_steadycalls_k80_whole_books_as_texts) (n := 63) (k := K80.lvLaw) (x := "_law_script") (CX := L2.CX0) rfl (by decide) (by kernel_rfl) ⟨rfl, by decide, by decide⟩ ?F (fun _ _ _ _ z => z)
    intro w mg fa h Y G hmg0
    obtain ⟨K, KX, c⟩ := Y
    have T : K80.Top K mg := K80.top_of KX G c
    have hmg : mg ("law" : PySem.Str) = some (.ref fa) := by
      have e : (HandSHeadRun.topDef (OpenLaw.row PySem.Challenge.rw_steadycalls_k80_whole_books_as_texts).prog 78).name = ("law" : PySem.Str) := by kernel_rfl
      rw [← e]
      exact hmg0
    have e := hmg.symm.trans T.g_law
    cases e
    obtain ⟨fd, hF, hb⟩ := K80.ok_law (w := w) T
    exact ⟨K, fd, K80.spLaw K, KX, hb, fun H a ns hl _ hS => ⟨a, ns, rfl, hS, hl, fun _ => rfl⟩, fun base _ _ => hF base⟩
