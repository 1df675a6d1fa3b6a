import PyProof.Rows.All
import Wide.All
import OpenK.AllK
import Wide.FinOn
import PyProof.InstStoreFacts
import Lean
import PySem.Challenge.RW_on0186_01
open PySem PySem.W PySem.Calls PyProof.Rows
set_option Elab.async false
set_option maxRecDepth 100000
set_option maxHeartbeats 0
set_option linter.all false
set_option compiler.extract_closed false
namespace Mine
noncomputable abbrev P0 : Program := PySem.Challenge.pw_on0186_01
noncomputable def nth : List Stmt → Nat → Stmt
  | [], _ => .Pass default
  | x :: _, 0 => x
  | _ :: l, n + 1 => nth l n
noncomputable def fnA : Stmt → Arguments
  | .FunctionDef _ a _ _ _ _ _ _ _ _ => a
  | _ => { posonlyargs := [], args := [], vararg := none, kwonlyargs := [], kw_defaults := [], kwarg := none, defaults := [] }
noncomputable def fnB : Stmt → List Stmt
  | .FunctionDef _ _ b _ _ _ _ _ _ _ => b
  | .ClassDef _ _ _ b _ _ _ _ _ _ _ => b
  | _ => []
noncomputable def fnS : Stmt → Scope
  | .FunctionDef _ _ _ _ _ _ s _ _ _ => s
  | _ => default
noncomputable def st (i : Nat) : Stmt := nth P0.main.body i
noncomputable def mt (i j : Nat) : Stmt := nth (fnB (st i)) j
@[reducible] noncomputable def aa_wall : {x : Arguments // x = fnA (st 0)} := ⟨_, by conv => rhs; whnf⟩
@[reducible] noncomputable def bb_wall : {x : List Stmt // x = fnB (st 0)} := ⟨_, by conv => rhs; whnf⟩
@[reducible] noncomputable def ss_wall : {x : Scope // x = fnS (st 0)} := ⟨_, by conv => rhs; whnf⟩
@[reducible] noncomputable def aa_MarkupError_init : {x : Arguments // x = fnA (mt 2 0)} := ⟨_, by conv => rhs; whnf⟩
@[reducible] noncomputable def bb_MarkupError_init : {x : List Stmt // x = fnB (mt 2 0)} := ⟨_, by conv => rhs; whnf⟩
@[reducible] noncomputable def ss_MarkupError_init : {x : Scope // x = fnS (mt 2 0)} := ⟨_, by conv => rhs; whnf⟩
@[reducible] noncomputable def aa_is_instruction : {x : Arguments // x = fnA (st 7)} := ⟨_, by conv => rhs; whnf⟩
@[reducible] noncomputable def bb_is_instruction : {x : List Stmt // x = fnB (st 7)} := ⟨_, by conv => rhs; whnf⟩
@[reducible] noncomputable def ss_is_instruction : {x : Scope // x = fnS (st 7)} := ⟨_, by conv => rhs; whnf⟩
@[reducible] noncomputable def aa_attribute_of : {x : Arguments // x = fnA (st 8)} := ⟨_, by conv => rhs; whnf⟩
@[reducible] noncomputable def bb_attribute_of : {x : List Stmt // x = fnB (st 8)} := ⟨_, by conv => rhs; whnf⟩
@[reducible] noncomputable def ss_attribute_of : {x : Scope // x = fnS (st 8)} := ⟨_, by conv => rhs; whnf⟩
@[reducible] noncomputable def aa_needed : {x : Arguments // x = fnA (st 9)} := ⟨_, by conv => rhs; whnf⟩
@[reducible] noncomputable def bb_needed : {x : List Stmt // x = fnB (st 9)} := ⟨_, by conv => rhs; whnf⟩
@[reducible] noncomputable def ss_needed : {x : Scope // x = fnS (st 9)} := ⟨_, by conv => rhs; whnf⟩
@[reducible] noncomputable def aa_is_yes : {x : Arguments // x = fnA (st 10)} := ⟨_, by conv => rhs; whnf⟩
@[reducible] noncomputable def bb_is_yes : {x : List Stmt // x = fnB (st 10)} := ⟨_, by conv => rhs; whnf⟩
@[reducible] noncomputable def ss_is_yes : {x : Scope // x = fnS (st 10)} := ⟨_, by conv => rhs; whnf⟩
@[reducible] noncomputable def aa_body_of : {x : Arguments // x = fnA (st 11)} := ⟨_, by conv => rhs; whnf⟩
@[reducible] noncomputable def bb_body_of : {x : List Stmt // x = fnB (st 11)} := ⟨_, by conv => rhs; whnf⟩
@[reducible] noncomputable def ss_body_of : {x : Scope // x = fnS (st 11)} := ⟨_, by conv => rhs; whnf⟩
@[reducible] noncomputable def aa_is_blank : {x : Arguments // x = fnA (st 12)} := ⟨_, by conv => rhs; whnf⟩
@[reducible] noncomputable def bb_is_blank : {x : List Stmt // x = fnB (st 12)} := ⟨_, by conv => rhs; whnf⟩
@[reducible] noncomputable def ss_is_blank : {x : Scope // x = fnS (st 12)} := ⟨_, by conv => rhs; whnf⟩
@[reducible] noncomputable def aa_keeps_spaces : {x : Arguments // x = fnA (st 13)} := ⟨_, by conv => rhs; whnf⟩
@[reducible] noncomputable def bb_keeps_spaces : {x : List Stmt // x = fnB (st 13)} := ⟨_, by conv => rhs; whnf⟩
@[reducible] noncomputable def ss_keeps_spaces : {x : Scope // x = fnS (st 13)} := ⟨_, by conv => rhs; whnf⟩
@[reducible] noncomputable def aa_blank_texts : {x : Arguments // x = fnA (st 14)} := ⟨_, by conv => rhs; whnf⟩
@[reducible] noncomputable def bb_blank_texts : {x : List Stmt // x = fnB (st 14)} := ⟨_, by conv => rhs; whnf⟩
@[reducible] noncomputable def ss_blank_texts : {x : Scope // x = fnS (st 14)} := ⟨_, by conv => rhs; whnf⟩
@[reducible] noncomputable def aa_NodeRow_init : {x : Arguments // x = fnA (mt 17 0)} := ⟨_, by conv => rhs; whnf⟩
@[reducible] noncomputable def bb_NodeRow_init : {x : List Stmt // x = fnB (mt 17 0)} := ⟨_, by conv => rhs; whnf⟩
@[reducible] noncomputable def ss_NodeRow_init : {x : Scope // x = fnS (mt 17 0)} := ⟨_, by conv => rhs; whnf⟩
@[reducible] noncomputable def aa_Tree_init : {x : Arguments // x = fnA (mt 18 0)} := ⟨_, by conv => rhs; whnf⟩
@[reducible] noncomputable def bb_Tree_init : {x : List Stmt // x = fnB (mt 18 0)} := ⟨_, by conv => rhs; whnf⟩
@[reducible] noncomputable def ss_Tree_init : {x : Scope // x = fnS (mt 18 0)} := ⟨_, by conv => rhs; whnf⟩
@[reducible] noncomputable def aa_Tree_new_row : {x : Arguments // x = fnA (mt 18 1)} := ⟨_, by conv => rhs; whnf⟩
@[reducible] noncomputable def bb_Tree_new_row : {x : List Stmt // x = fnB (mt 18 1)} := ⟨_, by conv => rhs; whnf⟩
@[reducible] noncomputable def ss_Tree_new_row : {x : Scope // x = fnS (mt 18 1)} := ⟨_, by conv => rhs; whnf⟩
@[reducible] noncomputable def aa_Tree_row : {x : Arguments // x = fnA (mt 18 2)} := ⟨_, by conv => rhs; whnf⟩
@[reducible] noncomputable def bb_Tree_row : {x : List Stmt // x = fnB (mt 18 2)} := ⟨_, by conv => rhs; whnf⟩
@[reducible] noncomputable def ss_Tree_row : {x : Scope // x = fnS (mt 18 2)} := ⟨_, by conv => rhs; whnf⟩
@[reducible] noncomputable def aa_Tree_new_root : {x : Arguments // x = fnA (mt 18 3)} := ⟨_, by conv => rhs; whnf⟩
@[reducible] noncomputable def bb_Tree_new_root : {x : List Stmt // x = fnB (mt 18 3)} := ⟨_, by conv => rhs; whnf⟩
@[reducible] noncomputable def ss_Tree_new_root : {x : Scope // x = fnS (mt 18 3)} := ⟨_, by conv => rhs; whnf⟩
@[reducible] noncomputable def aa_Tree_add_child : {x : Arguments // x = fnA (mt 18 4)} := ⟨_, by conv => rhs; whnf⟩
@[reducible] noncomputable def bb_Tree_add_child : {x : List Stmt // x = fnB (mt 18 4)} := ⟨_, by conv => rhs; whnf⟩
@[reducible] noncomputable def ss_Tree_add_child : {x : Scope // x = fnS (mt 18 4)} := ⟨_, by conv => rhs; whnf⟩
@[reducible] noncomputable def aa_Tree_add_element : {x : Arguments // x = fnA (mt 18 5)} := ⟨_, by conv => rhs; whnf⟩
@[reducible] noncomputable def bb_Tree_add_element : {x : List Stmt // x = fnB (mt 18 5)} := ⟨_, by conv => rhs; whnf⟩
@[reducible] noncomputable def ss_Tree_add_element : {x : Scope // x = fnS (mt 18 5)} := ⟨_, by conv => rhs; whnf⟩
@[reducible] noncomputable def aa_Tree_add_text : {x : Arguments // x = fnA (mt 18 6)} := ⟨_, by conv => rhs; whnf⟩
@[reducible] noncomputable def bb_Tree_add_text : {x : List Stmt // x = fnB (mt 18 6)} := ⟨_, by conv => rhs; whnf⟩
@[reducible] noncomputable def ss_Tree_add_text : {x : Scope // x = fnS (mt 18 6)} := ⟨_, by conv => rhs; whnf⟩
@[reducible] noncomputable def aa_Tree_add_comment : {x : Arguments // x = fnA (mt 18 7)} := ⟨_, by conv => rhs; whnf⟩
@[reducible] noncomputable def bb_Tree_add_comment : {x : List Stmt // x = fnB (mt 18 7)} := ⟨_, by conv => rhs; whnf⟩
@[reducible] noncomputable def ss_Tree_add_comment : {x : Scope // x = fnS (mt 18 7)} := ⟨_, by conv => rhs; whnf⟩
@[reducible] noncomputable def aa_Tree_add_instruction : {x : Arguments // x = fnA (mt 18 8)} := ⟨_, by conv => rhs; whnf⟩
@[reducible] noncomputable def bb_Tree_add_instruction : {x : List Stmt // x = fnB (mt 18 8)} := ⟨_, by conv => rhs; whnf⟩
@[reducible] noncomputable def ss_Tree_add_instruction : {x : Scope // x = fnS (mt 18 8)} := ⟨_, by conv => rhs; whnf⟩
@[reducible] noncomputable def aa_Tree_element_row : {x : Arguments // x = fnA (mt 18 9)} := ⟨_, by conv => rhs; whnf⟩
@[reducible] noncomputable def bb_Tree_element_row : {x : List Stmt // x = fnB (mt 18 9)} := ⟨_, by conv => rhs; whnf⟩
@[reducible] noncomputable def ss_Tree_element_row : {x : Scope // x = fnS (mt 18 9)} := ⟨_, by conv => rhs; whnf⟩
@[reducible] noncomputable def aa_Tree_set_attribute : {x : Arguments // x = fnA (mt 18 10)} := ⟨_, by conv => rhs; whnf⟩
@[reducible] noncomputable def bb_Tree_set_attribute : {x : List Stmt // x = fnB (mt 18 10)} := ⟨_, by conv => rhs; whnf⟩
@[reducible] noncomputable def ss_Tree_set_attribute : {x : Scope // x = fnS (mt 18 10)} := ⟨_, by conv => rhs; whnf⟩
@[reducible] noncomputable def aa_Tree_add_namespace : {x : Arguments // x = fnA (mt 18 11)} := ⟨_, by conv => rhs; whnf⟩
@[reducible] noncomputable def bb_Tree_add_namespace : {x : List Stmt // x = fnB (mt 18 11)} := ⟨_, by conv => rhs; whnf⟩
@[reducible] noncomputable def ss_Tree_add_namespace : {x : Scope // x = fnS (mt 18 11)} := ⟨_, by conv => rhs; whnf⟩
@[reducible] noncomputable def aa_Tree_set_value : {x : Arguments // x = fnA (mt 18 12)} := ⟨_, by conv => rhs; whnf⟩
@[reducible] noncomputable def bb_Tree_set_value : {x : List Stmt // x = fnB (mt 18 12)} := ⟨_, by conv => rhs; whnf⟩
@[reducible] noncomputable def ss_Tree_set_value : {x : Scope // x = fnS (mt 18 12)} := ⟨_, by conv => rhs; whnf⟩
@[reducible] noncomputable def aa_Tree_kind : {x : Arguments // x = fnA (mt 18 13)} := ⟨_, by conv => rhs; whnf⟩
@[reducible] noncomputable def bb_Tree_kind : {x : List Stmt // x = fnB (mt 18 13)} := ⟨_, by conv => rhs; whnf⟩
@[reducible] noncomputable def ss_Tree_kind : {x : Scope // x = fnS (mt 18 13)} := ⟨_, by conv => rhs; whnf⟩
@[reducible] noncomputable def aa_Tree_name : {x : Arguments // x = fnA (mt 18 14)} := ⟨_, by conv => rhs; whnf⟩
@[reducible] noncomputable def bb_Tree_name : {x : List Stmt // x = fnB (mt 18 14)} := ⟨_, by conv => rhs; whnf⟩
@[reducible] noncomputable def ss_Tree_name : {x : Scope // x = fnS (mt 18 14)} := ⟨_, by conv => rhs; whnf⟩
@[reducible] noncomputable def aa_Tree_uri : {x : Arguments // x = fnA (mt 18 15)} := ⟨_, by conv => rhs; whnf⟩
@[reducible] noncomputable def bb_Tree_uri : {x : List Stmt // x = fnB (mt 18 15)} := ⟨_, by conv => rhs; whnf⟩
@[reducible] noncomputable def ss_Tree_uri : {x : Scope // x = fnS (mt 18 15)} := ⟨_, by conv => rhs; whnf⟩
@[reducible] noncomputable def aa_Tree_local : {x : Arguments // x = fnA (mt 18 16)} := ⟨_, by conv => rhs; whnf⟩
@[reducible] noncomputable def bb_Tree_local : {x : List Stmt // x = fnB (mt 18 16)} := ⟨_, by conv => rhs; whnf⟩
@[reducible] noncomputable def ss_Tree_local : {x : Scope // x = fnS (mt 18 16)} := ⟨_, by conv => rhs; whnf⟩
@[reducible] noncomputable def aa_Tree_value : {x : Arguments // x = fnA (mt 18 17)} := ⟨_, by conv => rhs; whnf⟩
@[reducible] noncomputable def bb_Tree_value : {x : List Stmt // x = fnB (mt 18 17)} := ⟨_, by conv => rhs; whnf⟩
@[reducible] noncomputable def ss_Tree_value : {x : Scope // x = fnS (mt 18 17)} := ⟨_, by conv => rhs; whnf⟩
@[reducible] noncomputable def aa_Tree_parent : {x : Arguments // x = fnA (mt 18 18)} := ⟨_, by conv => rhs; whnf⟩
@[reducible] noncomputable def bb_Tree_parent : {x : List Stmt // x = fnB (mt 18 18)} := ⟨_, by conv => rhs; whnf⟩
@[reducible] noncomputable def ss_Tree_parent : {x : Scope // x = fnS (mt 18 18)} := ⟨_, by conv => rhs; whnf⟩
@[reducible] noncomputable def aa_Tree_children : {x : Arguments // x = fnA (mt 18 19)} := ⟨_, by conv => rhs; whnf⟩
@[reducible] noncomputable def bb_Tree_children : {x : List Stmt // x = fnB (mt 18 19)} := ⟨_, by conv => rhs; whnf⟩
@[reducible] noncomputable def ss_Tree_children : {x : Scope // x = fnS (mt 18 19)} := ⟨_, by conv => rhs; whnf⟩
@[reducible] noncomputable def aa_Tree_attributes : {x : Arguments // x = fnA (mt 18 20)} := ⟨_, by conv => rhs; whnf⟩
@[reducible] noncomputable def bb_Tree_attributes : {x : List Stmt // x = fnB (mt 18 20)} := ⟨_, by conv => rhs; whnf⟩
@[reducible] noncomputable def ss_Tree_attributes : {x : Scope // x = fnS (mt 18 20)} := ⟨_, by conv => rhs; whnf⟩
@[reducible] noncomputable def aa_Tree_namespaces : {x : Arguments // x = fnA (mt 18 21)} := ⟨_, by conv => rhs; whnf⟩
@[reducible] noncomputable def bb_Tree_namespaces : {x : List Stmt // x = fnB (mt 18 21)} := ⟨_, by conv => rhs; whnf⟩
@[reducible] noncomputable def ss_Tree_namespaces : {x : Scope // x = fnS (mt 18 21)} := ⟨_, by conv => rhs; whnf⟩
@[reducible] noncomputable def aa_Tree_root_of : {x : Arguments // x = fnA (mt 18 22)} := ⟨_, by conv => rhs; whnf⟩
@[reducible] noncomputable def bb_Tree_root_of : {x : List Stmt // x = fnB (mt 18 22)} := ⟨_, by conv => rhs; whnf⟩
@[reducible] noncomputable def ss_Tree_root_of : {x : Scope // x = fnS (mt 18 22)} := ⟨_, by conv => rhs; whnf⟩
@[reducible] noncomputable def aa_Tree_is_above : {x : Arguments // x = fnA (mt 18 23)} := ⟨_, by conv => rhs; whnf⟩
@[reducible] noncomputable def bb_Tree_is_above : {x : List Stmt // x = fnB (mt 18 23)} := ⟨_, by conv => rhs; whnf⟩
@[reducible] noncomputable def ss_Tree_is_above : {x : Scope // x = fnS (mt 18 23)} := ⟨_, by conv => rhs; whnf⟩
@[reducible] noncomputable def aa_Tree_attribute_value : {x : Arguments // x = fnA (mt 18 24)} := ⟨_, by conv => rhs; whnf⟩
@[reducible] noncomputable def bb_Tree_attribute_value : {x : List Stmt // x = fnB (mt 18 24)} := ⟨_, by conv => rhs; whnf⟩
@[reducible] noncomputable def ss_Tree_attribute_value : {x : Scope // x = fnS (mt 18 24)} := ⟨_, by conv => rhs; whnf⟩
@[reducible] noncomputable def aa_law_pool : {x : Arguments // x = fnA (st 20)} := ⟨_, by conv => rhs; whnf⟩
@[reducible] noncomputable def bb_law_pool : {x : List Stmt // x = fnB (st 20)} := ⟨_, by conv => rhs; whnf⟩
@[reducible] noncomputable def ss_law_pool : {x : Scope // x = fnS (st 20)} := ⟨_, by conv => rhs; whnf⟩
@[reducible] noncomputable def aa_law_take : {x : Arguments // x = fnA (st 21)} := ⟨_, by conv => rhs; whnf⟩
@[reducible] noncomputable def bb_law_take : {x : List Stmt // x = fnB (st 21)} := ⟨_, by conv => rhs; whnf⟩
@[reducible] noncomputable def ss_law_take : {x : Scope // x = fnS (st 21)} := ⟨_, by conv => rhs; whnf⟩
@[reducible] noncomputable def aa_law_one : {x : Arguments // x = fnA (st 22)} := ⟨_, by conv => rhs; whnf⟩
@[reducible] noncomputable def bb_law_one : {x : List Stmt // x = fnB (st 22)} := ⟨_, by conv => rhs; whnf⟩
@[reducible] noncomputable def ss_law_one : {x : Scope // x = fnS (st 22)} := ⟨_, by conv => rhs; whnf⟩
@[reducible] noncomputable def aa_law_attributes : {x : Arguments // x = fnA (st 23)} := ⟨_, by conv => rhs; whnf⟩
@[reducible] noncomputable def bb_law_attributes : {x : List Stmt // x = fnB (st 23)} := ⟨_, by conv => rhs; whnf⟩
@[reducible] noncomputable def ss_law_attributes : {x : Scope // x = fnS (st 23)} := ⟨_, by conv => rhs; whnf⟩
@[reducible] noncomputable def aa_law_document : {x : Arguments // x = fnA (st 24)} := ⟨_, by conv => rhs; whnf⟩
@[reducible] noncomputable def bb_law_document : {x : List Stmt // x = fnB (st 24)} := ⟨_, by conv => rhs; whnf⟩
@[reducible] noncomputable def ss_law_document : {x : Scope // x = fnS (st 24)} := ⟨_, by conv => rhs; whnf⟩
@[reducible] noncomputable def aa_law_inner : {x : Arguments // x = fnA (st 25)} := ⟨_, by conv => rhs; whnf⟩
@[reducible] noncomputable def bb_law_inner : {x : List Stmt // x = fnB (st 25)} := ⟨_, by conv => rhs; whnf⟩
@[reducible] noncomputable def ss_law_inner : {x : Scope // x = fnS (st 25)} := ⟨_, by conv => rhs; whnf⟩
@[reducible] noncomputable def aa_law_blanks : {x : Arguments // x = fnA (st 26)} := ⟨_, by conv => rhs; whnf⟩
@[reducible] noncomputable def bb_law_blanks : {x : List Stmt // x = fnB (st 26)} := ⟨_, by conv => rhs; whnf⟩
@[reducible] noncomputable def ss_law_blanks : {x : Scope // x = fnS (st 26)} := ⟨_, by conv => rhs; whnf⟩
@[reducible] noncomputable def aa_law_kept : {x : Arguments // x = fnA (st 27)} := ⟨_, by conv => rhs; whnf⟩
@[reducible] noncomputable def bb_law_kept : {x : List Stmt // x = fnB (st 27)} := ⟨_, by conv => rhs; whnf⟩
@[reducible] noncomputable def ss_law_kept : {x : Scope // x = fnS (st 27)} := ⟨_, by conv => rhs; whnf⟩
@[reducible] noncomputable def aa_law_fell : {x : Arguments // x = fnA (st 28)} := ⟨_, by conv => rhs; whnf⟩
@[reducible] noncomputable def bb_law_fell : {x : List Stmt // x = fnB (st 28)} := ⟨_, by conv => rhs; whnf⟩
@[reducible] noncomputable def ss_law_fell : {x : Scope // x = fnS (st 28)} := ⟨_, by conv => rhs; whnf⟩
@[reducible] noncomputable def aa_law_element_right : {x : Arguments // x = fnA (st 29)} := ⟨_, by conv => rhs; whnf⟩
@[reducible] noncomputable def bb_law_element_right : {x : List Stmt // x = fnB (st 29)} := ⟨_, by conv => rhs; whnf⟩
@[reducible] noncomputable def ss_law_element_right : {x : Scope // x = fnS (st 29)} := ⟨_, by conv => rhs; whnf⟩
@[reducible] noncomputable def aa_law_row_right : {x : Arguments // x = fnA (st 30)} := ⟨_, by conv => rhs; whnf⟩
@[reducible] noncomputable def bb_law_row_right : {x : List Stmt // x = fnB (st 30)} := ⟨_, by conv => rhs; whnf⟩
@[reducible] noncomputable def ss_law_row_right : {x : Scope // x = fnS (st 30)} := ⟨_, by conv => rhs; whnf⟩
@[reducible] noncomputable def aa_law_fixed_right : {x : Arguments // x = fnA (st 31)} := ⟨_, by conv => rhs; whnf⟩
@[reducible] noncomputable def bb_law_fixed_right : {x : List Stmt // x = fnB (st 31)} := ⟨_, by conv => rhs; whnf⟩
@[reducible] noncomputable def ss_law_fixed_right : {x : Scope // x = fnS (st 31)} := ⟨_, by conv => rhs; whnf⟩
@[reducible] noncomputable def aa_law : {x : Arguments // x = fnA (st 32)} := ⟨_, by conv => rhs; whnf⟩
@[reducible] noncomputable def bb_law : {x : List Stmt // x = fnB (st 32)} := ⟨_, by conv => rhs; whnf⟩
@[reducible] noncomputable def ss_law : {x : Scope // x = fnS (st 32)} := ⟨_, by conv => rhs; whnf⟩
noncomputable abbrev vS (s : String) (t : Tok) : Value := .str (Str.ofString s) t
noncomputable abbrev kE (P : Params) (s : String) (t : Tok) (v : Value) : DictEntry := DictEntry.mk (PyData.keyHash P (Str.ofString s)) (.str (Str.ofString s) t) v
noncomputable def ob_2 (P : Params) : Obj := Obj.mk .none none (.dict #[kE P "type.__subclasses__.Exception.0" 221 (.int 38 0), kE P "type.__subclasses__.Exception.n" 222 (.int 1 0)] 2) #[]
noncomputable def ob_3 (P : Params) : Obj := Obj.mk (.type "dict") none (.dict #[kE P "__name__" 165 (vS "law_on0186_01" 636), kE P "__doc__" 166 .none, kE P "__package__" 167 .none, kE P "__loader__" 168 (.builtin "__main__.__loader__#opaque"), kE P "__spec__" 169 .none, kE P "__annotations__" 170 (.ref 6), kE P "__builtins__" 171 (.ref 4), kE P "__file__" 173 (vS "/claim/cut.py" 172), kE P "__cached__" 174 .none, kE P "_wall" 193 (.ref 21), kE P "MarkupError" 224 (.ref 38), kE P "TreeFault" 240 (.ref 51), kE P "SheetFault" 256 (.ref 63), kE P "XSLT" 260 (vS "http://www.w3.org/1999/XSL/Transform" 259), kE P "is_instruction" 269 (.ref 73), kE P "attribute_of" 281 (.ref 81), kE P "needed" 291 (.ref 88), kE P "is_yes" 301 (.ref 95), kE P "body_of" 309 (.ref 102), kE P "is_blank" 316 (.ref 109), kE P "keeps_spaces" 326 (.ref 116), kE P "blank_texts" 337 (.ref 123), kE P "PARENTS" 342 (.ref 124), kE P "NodeRow" 384 (.ref 141), kE P "Tree" 635 (.ref 330), kE P "_law_pool" 648 (.ref 341), kE P "_law_take" 657 (.ref 348), kE P "_law_one" 665 (.ref 355), kE P "_law_attributes" 680 (.ref 362), kE P "_law_document" 686 (.ref 367), kE P "_law_inner" 692 (.ref 372), kE P "_law_blanks" 698 (.ref 377), kE P "_law_kept" 705 (.ref 384), kE P "_law_fell" 712 (.ref 391), kE P "_law_element_right" 725 (.ref 398), kE P "_law_row_right" 731 (.ref 403), kE P "_law_fixed_right" 739 (.ref 410), kE P "law" 751 (.ref 417)] 38) #[]
noncomputable def ob_15 (P : Params) : Obj := Obj.mk (.type "tuple") none (.seq #[]) #[]
noncomputable def ob_17 (P : Params) : Obj := Obj.mk (.type "tuple") none (.seq #[vS "k" 190]) #[]
noncomputable def ob_18 (P : Params) : Obj := Obj.mk (.type "tuple") none (.seq #[]) #[]
noncomputable def ob_20 (P : Params) : Obj := Obj.mk (.type "code") none (.fields #[vS "_wall" 187, vS "_wall" 188, vS "/claim/cut.py" 189, .int 1 0, .int 1 0, .int 0 0, .int 0 0, .int 3 0, .ref 15, .bool true, .int 181 0, .ref 16, .none, .ref 17, .ref 18, .ref 19, .int 191 0, .int 1 0, vS "/claim/cut.py" 192]) #[]
noncomputable def ob_21 (P : Params) : Obj := Obj.mk (.type "function") none (.func (FuncData.mk (Str.ofString "_wall") (Str.ofString "_wall") aa_wall.1 (.stmts bb_wall.1) ss_wall.1 3 [] .none .none .none (vS "__main__" 164) none (.ref 20) .none 0)) #[]
noncomputable def ob_22 (P : Params) : Obj := Obj.mk (.type "tuple") none (.seq #[.type "Exception"]) #[]
noncomputable def ob_29 (P : Params) : Obj := Obj.mk (.type "tuple") none (.seq #[]) #[]
noncomputable def ob_31 (P : Params) : Obj := Obj.mk (.type "tuple") none (.seq #[vS "self" 211, vS "message" 212]) #[]
noncomputable def ob_32 (P : Params) : Obj := Obj.mk (.type "tuple") none (.seq #[]) #[]
noncomputable def ob_34 (P : Params) : Obj := Obj.mk (.type "code") none (.fields #[vS "__init__" 208, vS "MarkupError.__init__" 209, vS "/claim/cut.py" 210, .int 7 0, .int 2 0, .int 0 0, .int 0 0, .int 3 0, .ref 29, .bool true, .int 181 0, .ref 30, .none, .ref 31, .ref 32, .ref 33, .int 213 0, .int 7 0, vS "/claim/cut.py" 214]) #[]
noncomputable def ob_35 (P : Params) : Obj := Obj.mk (.type "function") none (.func (FuncData.mk (Str.ofString "__init__") (Str.ofString "MarkupError.__init__") aa_MarkupError_init.1 (.stmts bb_MarkupError_init.1) ss_MarkupError_init.1 3 [] .none .none .none (vS "markupmill.errors" 194) none (.ref 34) .none 0)) #[]
noncomputable def ob_36 (P : Params) : Obj := Obj.mk (.type "tuple") none (.seq #[vS "message" 216]) #[]
noncomputable def ob_37 (P : Params) : Obj := Obj.mk (.type "dict") none (.dict #[kE P "__module__" 203 (vS "markupmill.errors" 194), kE P "__firstlineno__" 207 (.int 5 206), kE P "__init__" 215 (.ref 35), kE P "__static_attributes__" 217 (.ref 36), kE P "__weakref__" 219 (.ref 39), kE P "__doc__" 220 .none] 3) #[]
noncomputable def ob_38 (P : Params) : Obj := Obj.mk (.type "type") none (.cls (ClassData.mk (Str.ofString "MarkupError") [.type "Exception"] [.ref 38, .type "Exception", .type "BaseException", .type "object"] 37 (Str.ofString "MarkupError") true [] [.ref 51, .ref 63] false none false)) #[some (.ref 22), none, some (vS "MarkupError" 196), some (vS "MarkupError" 204), some (.builtin "Exception.__new__"), some (.bool true)]
noncomputable def ob_39 (P : Params) : Obj := Obj.mk (.type "getset_descriptor") none (.fields #[vS "__weakref__" 218, .ref 38, .builtin "ExceptionGroup.__weakref__", .none]) #[]
noncomputable def ob_42 (P : Params) : Obj := Obj.mk (.type "tuple") none (.seq #[.ref 38]) #[]
noncomputable def ob_49 (P : Params) : Obj := Obj.mk (.type "tuple") none (.seq #[]) #[]
noncomputable def ob_50 (P : Params) : Obj := Obj.mk (.type "dict") none (.dict #[kE P "__module__" 232 (vS "markupmill.errors" 194), kE P "__firstlineno__" 236 (.int 10 235), kE P "__static_attributes__" 237 (.ref 49), kE P "__doc__" 238 .none] 2) #[]
noncomputable def ob_51 (P : Params) : Obj := Obj.mk (.type "type") none (.cls (ClassData.mk (Str.ofString "TreeFault") [.ref 38] [.ref 51, .ref 38, .type "Exception", .type "BaseException", .type "object"] 50 (Str.ofString "TreeFault") true [] [] false none false)) #[some (.ref 42), none, some (vS "TreeFault" 225), some (vS "TreeFault" 233), some (.builtin "Exception.__new__"), some (.bool true)]
noncomputable def ob_54 (P : Params) : Obj := Obj.mk (.type "tuple") none (.seq #[.ref 38]) #[]
noncomputable def ob_61 (P : Params) : Obj := Obj.mk (.type "tuple") none (.seq #[]) #[]
noncomputable def ob_62 (P : Params) : Obj := Obj.mk (.type "dict") none (.dict #[kE P "__module__" 248 (vS "markupmill.errors" 194), kE P "__firstlineno__" 252 (.int 12 251), kE P "__static_attributes__" 253 (.ref 61), kE P "__doc__" 254 .none] 2) #[]
noncomputable def ob_63 (P : Params) : Obj := Obj.mk (.type "type") none (.cls (ClassData.mk (Str.ofString "SheetFault") [.ref 38] [.ref 63, .ref 38, .type "Exception", .type "BaseException", .type "object"] 62 (Str.ofString "SheetFault") true [] [] false none false)) #[some (.ref 54), none, some (vS "SheetFault" 241), some (vS "SheetFault" 249), some (.builtin "Exception.__new__"), some (.bool true)]
noncomputable def ob_66 (P : Params) : Obj := Obj.mk (.type "tuple") none (.seq #[.none]) #[]
noncomputable def ob_67 (P : Params) : Obj := Obj.mk (.type "tuple") none (.seq #[]) #[]
noncomputable def ob_69 (P : Params) : Obj := Obj.mk (.type "tuple") none (.seq #[vS "tree" 264, vS "node" 265, vS "local" 266]) #[]
noncomputable def ob_70 (P : Params) : Obj := Obj.mk (.type "tuple") none (.seq #[]) #[]
noncomputable def ob_72 (P : Params) : Obj := Obj.mk (.type "code") none (.fields #[vS "is_instruction" 261, vS "is_instruction" 262, vS "/claim/cut.py" 263, .int 16 0, .int 3 0, .int 0 0, .int 0 0, .int 3 0, .ref 67, .bool true, .int 181 0, .ref 68, .none, .ref 69, .ref 70, .ref 71, .int 267 0, .int 16 0, vS "/claim/cut.py" 268]) #[]
noncomputable def ob_73 (P : Params) : Obj := Obj.mk (.type "function") none (.func (FuncData.mk (Str.ofString "is_instruction") (Str.ofString "is_instruction") aa_is_instruction.1 (.stmts bb_is_instruction.1) ss_is_instruction.1 3 [] (.ref 66) .none .none (vS "markupmill.sheet_words" 257) none (.ref 72) .none 0)) #[]
noncomputable def ob_74 (P : Params) : Obj := Obj.mk (.type "tuple") none (.seq #[vS "" 270]) #[]
noncomputable def ob_75 (P : Params) : Obj := Obj.mk (.type "tuple") none (.seq #[]) #[]
noncomputable def ob_77 (P : Params) : Obj := Obj.mk (.type "tuple") none (.seq #[vS "tree" 274, vS "element" 275, vS "local" 276, vS "uri" 277, vS "node" 278]) #[]
noncomputable def ob_78 (P : Params) : Obj := Obj.mk (.type "tuple") none (.seq #[]) #[]
noncomputable def ob_80 (P : Params) : Obj := Obj.mk (.type "code") none (.fields #[vS "attribute_of" 271, vS "attribute_of" 272, vS "/claim/cut.py" 273, .int 20 0, .int 4 0, .int 0 0, .int 0 0, .int 3 0, .ref 75, .bool true, .int 181 0, .ref 76, .none, .ref 77, .ref 78, .ref 79, .int 279 0, .int 20 0, vS "/claim/cut.py" 280]) #[]
noncomputable def ob_81 (P : Params) : Obj := Obj.mk (.type "function") none (.func (FuncData.mk (Str.ofString "attribute_of") (Str.ofString "attribute_of") aa_attribute_of.1 (.stmts bb_attribute_of.1) ss_attribute_of.1 3 [] (.ref 74) .none .none (vS "markupmill.sheet_words" 257) none (.ref 80) .none 0)) #[]
noncomputable def ob_82 (P : Params) : Obj := Obj.mk (.type "tuple") none (.seq #[]) #[]
noncomputable def ob_84 (P : Params) : Obj := Obj.mk (.type "tuple") none (.seq #[vS "tree" 285, vS "element" 286, vS "local" 287, vS "found" 288]) #[]
noncomputable def ob_85 (P : Params) : Obj := Obj.mk (.type "tuple") none (.seq #[]) #[]
noncomputable def ob_87 (P : Params) : Obj := Obj.mk (.type "code") none (.fields #[vS "needed" 282, vS "needed" 283, vS "/claim/cut.py" 284, .int 25 0, .int 3 0, .int 0 0, .int 0 0, .int 3 0, .ref 82, .bool true, .int 181 0, .ref 83, .none, .ref 84, .ref 85, .ref 86, .int 289 0, .int 25 0, vS "/claim/cut.py" 290]) #[]
noncomputable def ob_88 (P : Params) : Obj := Obj.mk (.type "function") none (.func (FuncData.mk (Str.ofString "needed") (Str.ofString "needed") aa_needed.1 (.stmts bb_needed.1) ss_needed.1 3 [] .none .none .none (vS "markupmill.sheet_words" 257) none (.ref 87) .none 0)) #[]
noncomputable def ob_89 (P : Params) : Obj := Obj.mk (.type "tuple") none (.seq #[]) #[]
noncomputable def ob_91 (P : Params) : Obj := Obj.mk (.type "tuple") none (.seq #[vS "tree" 295, vS "element" 296, vS "local" 297, vS "found" 298]) #[]
noncomputable def ob_92 (P : Params) : Obj := Obj.mk (.type "tuple") none (.seq #[]) #[]
noncomputable def ob_94 (P : Params) : Obj := Obj.mk (.type "code") none (.fields #[vS "is_yes" 292, vS "is_yes" 293, vS "/claim/cut.py" 294, .int 30 0, .int 3 0, .int 0 0, .int 0 0, .int 3 0, .ref 89, .bool true, .int 181 0, .ref 90, .none, .ref 91, .ref 92, .ref 93, .int 299 0, .int 30 0, vS "/claim/cut.py" 300]) #[]
noncomputable def ob_95 (P : Params) : Obj := Obj.mk (.type "function") none (.func (FuncData.mk (Str.ofString "is_yes") (Str.ofString "is_yes") aa_is_yes.1 (.stmts bb_is_yes.1) ss_is_yes.1 3 [] .none .none .none (vS "markupmill.sheet_words" 257) none (.ref 94) .none 0)) #[]
noncomputable def ob_96 (P : Params) : Obj := Obj.mk (.type "tuple") none (.seq #[]) #[]
noncomputable def ob_98 (P : Params) : Obj := Obj.mk (.type "tuple") none (.seq #[vS "tree" 305, vS "element" 306]) #[]
noncomputable def ob_99 (P : Params) : Obj := Obj.mk (.type "tuple") none (.seq #[]) #[]
noncomputable def ob_101 (P : Params) : Obj := Obj.mk (.type "code") none (.fields #[vS "body_of" 302, vS "body_of" 303, vS "/claim/cut.py" 304, .int 35 0, .int 2 0, .int 0 0, .int 0 0, .int 3 0, .ref 96, .bool true, .int 181 0, .ref 97, .none, .ref 98, .ref 99, .ref 100, .int 307 0, .int 35 0, vS "/claim/cut.py" 308]) #[]
noncomputable def ob_102 (P : Params) : Obj := Obj.mk (.type "function") none (.func (FuncData.mk (Str.ofString "body_of") (Str.ofString "body_of") aa_body_of.1 (.stmts bb_body_of.1) ss_body_of.1 3 [] .none .none .none (vS "markupmill.sheet_words" 257) none (.ref 101) .none 0)) #[]
noncomputable def ob_103 (P : Params) : Obj := Obj.mk (.type "tuple") none (.seq #[]) #[]
noncomputable def ob_105 (P : Params) : Obj := Obj.mk (.type "tuple") none (.seq #[vS "text" 313]) #[]
noncomputable def ob_106 (P : Params) : Obj := Obj.mk (.type "tuple") none (.seq #[]) #[]
noncomputable def ob_108 (P : Params) : Obj := Obj.mk (.type "code") none (.fields #[vS "is_blank" 310, vS "is_blank" 311, vS "/claim/cut.py" 312, .int 37 0, .int 1 0, .int 0 0, .int 0 0, .int 3 0, .ref 103, .bool true, .int 181 0, .ref 104, .none, .ref 105, .ref 106, .ref 107, .int 314 0, .int 37 0, vS "/claim/cut.py" 315]) #[]
noncomputable def ob_109 (P : Params) : Obj := Obj.mk (.type "function") none (.func (FuncData.mk (Str.ofString "is_blank") (Str.ofString "is_blank") aa_is_blank.1 (.stmts bb_is_blank.1) ss_is_blank.1 3 [] .none .none .none (vS "markupmill.sheet_words" 257) none (.ref 108) .none 0)) #[]
noncomputable def ob_110 (P : Params) : Obj := Obj.mk (.type "tuple") none (.seq #[]) #[]
noncomputable def ob_112 (P : Params) : Obj := Obj.mk (.type "tuple") none (.seq #[vS "tree" 320, vS "element" 321, vS "here" 322, vS "node" 323]) #[]
noncomputable def ob_113 (P : Params) : Obj := Obj.mk (.type "tuple") none (.seq #[]) #[]
noncomputable def ob_115 (P : Params) : Obj := Obj.mk (.type "code") none (.fields #[vS "keeps_spaces" 317, vS "keeps_spaces" 318, vS "/claim/cut.py" 319, .int 39 0, .int 2 0, .int 0 0, .int 0 0, .int 3 0, .ref 110, .bool true, .int 181 0, .ref 111, .none, .ref 112, .ref 113, .ref 114, .int 324 0, .int 39 0, vS "/claim/cut.py" 325]) #[]
noncomputable def ob_116 (P : Params) : Obj := Obj.mk (.type "function") none (.func (FuncData.mk (Str.ofString "keeps_spaces") (Str.ofString "keeps_spaces") aa_keeps_spaces.1 (.stmts bb_keeps_spaces.1) ss_keeps_spaces.1 3 [] .none .none .none (vS "markupmill.sheet_words" 257) none (.ref 115) .none 0)) #[]
noncomputable def ob_117 (P : Params) : Obj := Obj.mk (.type "tuple") none (.seq #[]) #[]
noncomputable def ob_119 (P : Params) : Obj := Obj.mk (.type "tuple") none (.seq #[vS "tree" 330, vS "root" 331, vS "found" 332, vS "left" 333, vS "node" 334]) #[]
noncomputable def ob_120 (P : Params) : Obj := Obj.mk (.type "tuple") none (.seq #[]) #[]
noncomputable def ob_122 (P : Params) : Obj := Obj.mk (.type "code") none (.fields #[vS "blank_texts" 327, vS "blank_texts" 328, vS "/claim/cut.py" 329, .int 47 0, .int 2 0, .int 0 0, .int 0 0, .int 3 0, .ref 117, .bool true, .int 181 0, .ref 118, .none, .ref 119, .ref 120, .ref 121, .int 335 0, .int 47 0, vS "/claim/cut.py" 336]) #[]
noncomputable def ob_123 (P : Params) : Obj := Obj.mk (.type "function") none (.func (FuncData.mk (Str.ofString "blank_texts") (Str.ofString "blank_texts") aa_blank_texts.1 (.stmts bb_blank_texts.1) ss_blank_texts.1 3 [] .none .none .none (vS "markupmill.sheet_words" 257) none (.ref 122) .none 0)) #[]
noncomputable def ob_124 (P : Params) : Obj := Obj.mk (.type "tuple") none (.seq #[vS "root" 340, vS "element" 341]) #[]
noncomputable def ob_132 (P : Params) : Obj := Obj.mk (.type "tuple") none (.seq #[]) #[]
noncomputable def ob_134 (P : Params) : Obj := Obj.mk (.type "tuple") none (.seq #[vS "self" 358, vS "kind" 359, vS "name" 360, vS "uri" 361, vS "local" 362, vS "value" 363, vS "parent" 364]) #[]
noncomputable def ob_135 (P : Params) : Obj := Obj.mk (.type "tuple") none (.seq #[]) #[]
noncomputable def ob_137 (P : Params) : Obj := Obj.mk (.type "code") none (.fields #[vS "__init__" 355, vS "NodeRow.__init__" 356, vS "/claim/cut.py" 357, .int 61 0, .int 7 0, .int 0 0, .int 0 0, .int 3 0, .ref 132, .bool true, .int 181 0, .ref 133, .none, .ref 134, .ref 135, .ref 136, .int 365 0, .int 61 0, vS "/claim/cut.py" 366]) #[]
noncomputable def ob_138 (P : Params) : Obj := Obj.mk (.type "function") none (.func (FuncData.mk (Str.ofString "__init__") (Str.ofString "NodeRow.__init__") aa_NodeRow_init.1 (.stmts bb_NodeRow_init.1) ss_NodeRow_init.1 3 [] .none .none .none (vS "markupmill.tree" 338) none (.ref 137) .none 0)) #[]
noncomputable def ob_139 (P : Params) : Obj := Obj.mk (.type "tuple") none (.seq #[vS "attributes" 368, vS "children" 369, vS "kind" 370, vS "local" 371, vS "name" 372, vS "namespaces" 373, vS "parent" 374, vS "uri" 375, vS "value" 376]) #[]
noncomputable def ob_140 (P : Params) : Obj := Obj.mk (.type "dict") none (.dict #[kE P "__module__" 350 (vS "markupmill.tree" 338), kE P "__firstlineno__" 354 (.int 59 353), kE P "__init__" 367 (.ref 138), kE P "__static_attributes__" 377 (.ref 139), kE P "__dict__" 379 (.ref 142), kE P "__weakref__" 381 (.ref 143), kE P "__doc__" 382 .none] 4) #[]
noncomputable def ob_141 (P : Params) : Obj := Obj.mk (.type "type") none (.cls (ClassData.mk (Str.ofString "NodeRow") [.type "object"] [.ref 141, .type "object"] 140 (Str.ofString "NodeRow") true [] [] false none false)) #[none, none, some (vS "NodeRow" 343), some (vS "NodeRow" 351), some (.builtin "object.__new__"), some (.bool true)]
noncomputable def ob_142 (P : Params) : Obj := Obj.mk (.type "getset_descriptor") none (.fields #[vS "__dict__" 378, .ref 141, .builtin "function.__dict__", .builtin "function.__dict__#set"]) #[]
noncomputable def ob_143 (P : Params) : Obj := Obj.mk (.type "getset_descriptor") none (.fields #[vS "__weakref__" 380, .ref 141, .builtin "ExceptionGroup.__weakref__", .none]) #[]
noncomputable def ob_153 (P : Params) : Obj := Obj.mk (.type "tuple") none (.seq #[]) #[]
noncomputable def ob_155 (P : Params) : Obj := Obj.mk (.type "tuple") none (.seq #[vS "self" 400]) #[]
noncomputable def ob_156 (P : Params) : Obj := Obj.mk (.type "tuple") none (.seq #[]) #[]
noncomputable def ob_158 (P : Params) : Obj := Obj.mk (.type "code") none (.fields #[vS "__init__" 397, vS "Tree.__init__" 398, vS "/claim/cut.py" 399, .int 73 0, .int 1 0, .int 0 0, .int 0 0, .int 3 0, .ref 153, .bool true, .int 181 0, .ref 154, .none, .ref 155, .ref 156, .ref 157, .int 401 0, .int 73 0, vS "/claim/cut.py" 402]) #[]
noncomputable def ob_159 (P : Params) : Obj := Obj.mk (.type "function") none (.func (FuncData.mk (Str.ofString "__init__") (Str.ofString "Tree.__init__") aa_Tree_init.1 (.stmts bb_Tree_init.1) ss_Tree_init.1 3 [] .none .none .none (vS "markupmill.tree" 338) none (.ref 158) .none 0)) #[]
noncomputable def ob_160 (P : Params) : Obj := Obj.mk (.type "tuple") none (.seq #[]) #[]
noncomputable def ob_162 (P : Params) : Obj := Obj.mk (.type "tuple") none (.seq #[vS "self" 407, vS "kind" 408, vS "name" 409, vS "uri" 410, vS "local" 411, vS "value" 412, vS "parent" 413]) #[]
noncomputable def ob_163 (P : Params) : Obj := Obj.mk (.type "tuple") none (.seq #[]) #[]
noncomputable def ob_165 (P : Params) : Obj := Obj.mk (.type "code") none (.fields #[vS "new_row" 404, vS "Tree.new_row" 405, vS "/claim/cut.py" 406, .int 76 0, .int 7 0, .int 0 0, .int 0 0, .int 3 0, .ref 160, .bool true, .int 181 0, .ref 161, .none, .ref 162, .ref 163, .ref 164, .int 414 0, .int 76 0, vS "/claim/cut.py" 415]) #[]
noncomputable def ob_166 (P : Params) : Obj := Obj.mk (.type "function") none (.func (FuncData.mk (Str.ofString "new_row") (Str.ofString "Tree.new_row") aa_Tree_new_row.1 (.stmts bb_Tree_new_row.1) ss_Tree_new_row.1 3 [] .none .none .none (vS "markupmill.tree" 338) none (.ref 165) .none 0)) #[]
noncomputable def ob_167 (P : Params) : Obj := Obj.mk (.type "tuple") none (.seq #[]) #[]
noncomputable def ob_169 (P : Params) : Obj := Obj.mk (.type "tuple") none (.seq #[vS "self" 420, vS "node" 421]) #[]
noncomputable def ob_170 (P : Params) : Obj := Obj.mk (.type "tuple") none (.seq #[]) #[]
noncomputable def ob_172 (P : Params) : Obj := Obj.mk (.type "code") none (.fields #[vS "row" 417, vS "Tree.row" 418, vS "/claim/cut.py" 419, .int 80 0, .int 2 0, .int 0 0, .int 0 0, .int 3 0, .ref 167, .bool true, .int 181 0, .ref 168, .none, .ref 169, .ref 170, .ref 171, .int 422 0, .int 80 0, vS "/claim/cut.py" 423]) #[]
noncomputable def ob_173 (P : Params) : Obj := Obj.mk (.type "function") none (.func (FuncData.mk (Str.ofString "row") (Str.ofString "Tree.row") aa_Tree_row.1 (.stmts bb_Tree_row.1) ss_Tree_row.1 3 [] .none .none .none (vS "markupmill.tree" 338) none (.ref 172) .none 0)) #[]
noncomputable def ob_174 (P : Params) : Obj := Obj.mk (.type "tuple") none (.seq #[]) #[]
noncomputable def ob_176 (P : Params) : Obj := Obj.mk (.type "tuple") none (.seq #[vS "self" 428]) #[]
noncomputable def ob_177 (P : Params) : Obj := Obj.mk (.type "tuple") none (.seq #[]) #[]
noncomputable def ob_179 (P : Params) : Obj := Obj.mk (.type "code") none (.fields #[vS "new_root" 425, vS "Tree.new_root" 426, vS "/claim/cut.py" 427, .int 85 0, .int 1 0, .int 0 0, .int 0 0, .int 3 0, .ref 174, .bool true, .int 181 0, .ref 175, .none, .ref 176, .ref 177, .ref 178, .int 429 0, .int 85 0, vS "/claim/cut.py" 430]) #[]
noncomputable def ob_180 (P : Params) : Obj := Obj.mk (.type "function") none (.func (FuncData.mk (Str.ofString "new_root") (Str.ofString "Tree.new_root") aa_Tree_new_root.1 (.stmts bb_Tree_new_root.1) ss_Tree_new_root.1 3 [] .none .none .none (vS "markupmill.tree" 338) none (.ref 179) .none 0)) #[]
noncomputable def ob_181 (P : Params) : Obj := Obj.mk (.type "tuple") none (.seq #[]) #[]
noncomputable def ob_183 (P : Params) : Obj := Obj.mk (.type "tuple") none (.seq #[vS "self" 435, vS "parent" 436, vS "kind" 437, vS "name" 438, vS "uri" 439, vS "local" 440, vS "value" 441, vS "node" 442]) #[]
noncomputable def ob_184 (P : Params) : Obj := Obj.mk (.type "tuple") none (.seq #[]) #[]
noncomputable def ob_186 (P : Params) : Obj := Obj.mk (.type "code") none (.fields #[vS "add_child" 432, vS "Tree.add_child" 433, vS "/claim/cut.py" 434, .int 88 0, .int 7 0, .int 0 0, .int 0 0, .int 3 0, .ref 181, .bool true, .int 181 0, .ref 182, .none, .ref 183, .ref 184, .ref 185, .int 443 0, .int 88 0, vS "/claim/cut.py" 444]) #[]
noncomputable def ob_187 (P : Params) : Obj := Obj.mk (.type "function") none (.func (FuncData.mk (Str.ofString "add_child") (Str.ofString "Tree.add_child") aa_Tree_add_child.1 (.stmts bb_Tree_add_child.1) ss_Tree_add_child.1 3 [] .none .none .none (vS "markupmill.tree" 338) none (.ref 186) .none 0)) #[]
noncomputable def ob_188 (P : Params) : Obj := Obj.mk (.type "tuple") none (.seq #[]) #[]
noncomputable def ob_190 (P : Params) : Obj := Obj.mk (.type "tuple") none (.seq #[vS "self" 449, vS "parent" 450, vS "name" 451, vS "uri" 452, vS "local" 453]) #[]
noncomputable def ob_191 (P : Params) : Obj := Obj.mk (.type "tuple") none (.seq #[]) #[]
noncomputable def ob_193 (P : Params) : Obj := Obj.mk (.type "code") none (.fields #[vS "add_element" 446, vS "Tree.add_element" 447, vS "/claim/cut.py" 448, .int 96 0, .int 5 0, .int 0 0, .int 0 0, .int 3 0, .ref 188, .bool true, .int 181 0, .ref 189, .none, .ref 190, .ref 191, .ref 192, .int 454 0, .int 96 0, vS "/claim/cut.py" 455]) #[]
noncomputable def ob_194 (P : Params) : Obj := Obj.mk (.type "function") none (.func (FuncData.mk (Str.ofString "add_element") (Str.ofString "Tree.add_element") aa_Tree_add_element.1 (.stmts bb_Tree_add_element.1) ss_Tree_add_element.1 3 [] .none .none .none (vS "markupmill.tree" 338) none (.ref 193) .none 0)) #[]
noncomputable def ob_195 (P : Params) : Obj := Obj.mk (.type "tuple") none (.seq #[]) #[]
noncomputable def ob_197 (P : Params) : Obj := Obj.mk (.type "tuple") none (.seq #[vS "self" 460, vS "parent" 461, vS "value" 462]) #[]
noncomputable def ob_198 (P : Params) : Obj := Obj.mk (.type "tuple") none (.seq #[]) #[]
noncomputable def ob_200 (P : Params) : Obj := Obj.mk (.type "code") none (.fields #[vS "add_text" 457, vS "Tree.add_text" 458, vS "/claim/cut.py" 459, .int 99 0, .int 3 0, .int 0 0, .int 0 0, .int 3 0, .ref 195, .bool true, .int 181 0, .ref 196, .none, .ref 197, .ref 198, .ref 199, .int 463 0, .int 99 0, vS "/claim/cut.py" 464]) #[]
noncomputable def ob_201 (P : Params) : Obj := Obj.mk (.type "function") none (.func (FuncData.mk (Str.ofString "add_text") (Str.ofString "Tree.add_text") aa_Tree_add_text.1 (.stmts bb_Tree_add_text.1) ss_Tree_add_text.1 3 [] .none .none .none (vS "markupmill.tree" 338) none (.ref 200) .none 0)) #[]
noncomputable def ob_202 (P : Params) : Obj := Obj.mk (.type "tuple") none (.seq #[]) #[]
noncomputable def ob_204 (P : Params) : Obj := Obj.mk (.type "tuple") none (.seq #[vS "self" 469, vS "parent" 470, vS "value" 471]) #[]
noncomputable def ob_205 (P : Params) : Obj := Obj.mk (.type "tuple") none (.seq #[]) #[]
noncomputable def ob_207 (P : Params) : Obj := Obj.mk (.type "code") none (.fields #[vS "add_comment" 466, vS "Tree.add_comment" 467, vS "/claim/cut.py" 468, .int 102 0, .int 3 0, .int 0 0, .int 0 0, .int 3 0, .ref 202, .bool true, .int 181 0, .ref 203, .none, .ref 204, .ref 205, .ref 206, .int 472 0, .int 102 0, vS "/claim/cut.py" 473]) #[]
noncomputable def ob_208 (P : Params) : Obj := Obj.mk (.type "function") none (.func (FuncData.mk (Str.ofString "add_comment") (Str.ofString "Tree.add_comment") aa_Tree_add_comment.1 (.stmts bb_Tree_add_comment.1) ss_Tree_add_comment.1 3 [] .none .none .none (vS "markupmill.tree" 338) none (.ref 207) .none 0)) #[]
noncomputable def ob_209 (P : Params) : Obj := Obj.mk (.type "tuple") none (.seq #[]) #[]
noncomputable def ob_211 (P : Params) : Obj := Obj.mk (.type "tuple") none (.seq #[vS "self" 478, vS "parent" 479, vS "target" 480, vS "data" 481]) #[]
noncomputable def ob_212 (P : Params) : Obj := Obj.mk (.type "tuple") none (.seq #[]) #[]
noncomputable def ob_214 (P : Params) : Obj := Obj.mk (.type "code") none (.fields #[vS "add_instruction" 475, vS "Tree.add_instruction" 476, vS "/claim/cut.py" 477, .int 105 0, .int 4 0, .int 0 0, .int 0 0, .int 3 0, .ref 209, .bool true, .int 181 0, .ref 210, .none, .ref 211, .ref 212, .ref 213, .int 482 0, .int 105 0, vS "/claim/cut.py" 483]) #[]
noncomputable def ob_215 (P : Params) : Obj := Obj.mk (.type "function") none (.func (FuncData.mk (Str.ofString "add_instruction") (Str.ofString "Tree.add_instruction") aa_Tree_add_instruction.1 (.stmts bb_Tree_add_instruction.1) ss_Tree_add_instruction.1 3 [] .none .none .none (vS "markupmill.tree" 338) none (.ref 214) .none 0)) #[]
noncomputable def ob_216 (P : Params) : Obj := Obj.mk (.type "tuple") none (.seq #[]) #[]
noncomputable def ob_218 (P : Params) : Obj := Obj.mk (.type "tuple") none (.seq #[vS "self" 488, vS "element" 489, vS "row" 490]) #[]
noncomputable def ob_219 (P : Params) : Obj := Obj.mk (.type "tuple") none (.seq #[]) #[]
noncomputable def ob_221 (P : Params) : Obj := Obj.mk (.type "code") none (.fields #[vS "element_row" 485, vS "Tree.element_row" 486, vS "/claim/cut.py" 487, .int 108 0, .int 2 0, .int 0 0, .int 0 0, .int 3 0, .ref 216, .bool true, .int 181 0, .ref 217, .none, .ref 218, .ref 219, .ref 220, .int 491 0, .int 108 0, vS "/claim/cut.py" 492]) #[]
noncomputable def ob_222 (P : Params) : Obj := Obj.mk (.type "function") none (.func (FuncData.mk (Str.ofString "element_row") (Str.ofString "Tree.element_row") aa_Tree_element_row.1 (.stmts bb_Tree_element_row.1) ss_Tree_element_row.1 3 [] .none .none .none (vS "markupmill.tree" 338) none (.ref 221) .none 0)) #[]
noncomputable def ob_223 (P : Params) : Obj := Obj.mk (.type "tuple") none (.seq #[]) #[]
noncomputable def ob_225 (P : Params) : Obj := Obj.mk (.type "tuple") none (.seq #[vS "self" 497, vS "element" 498, vS "name" 499, vS "uri" 500, vS "local" 501, vS "value" 502, vS "row" 503, vS "node" 504, vS "known" 505]) #[]
noncomputable def ob_226 (P : Params) : Obj := Obj.mk (.type "tuple") none (.seq #[]) #[]
noncomputable def ob_228 (P : Params) : Obj := Obj.mk (.type "code") none (.fields #[vS "set_attribute" 494, vS "Tree.set_attribute" 495, vS "/claim/cut.py" 496, .int 114 0, .int 6 0, .int 0 0, .int 0 0, .int 3 0, .ref 223, .bool true, .int 181 0, .ref 224, .none, .ref 225, .ref 226, .ref 227, .int 506 0, .int 114 0, vS "/claim/cut.py" 507]) #[]
noncomputable def ob_229 (P : Params) : Obj := Obj.mk (.type "function") none (.func (FuncData.mk (Str.ofString "set_attribute") (Str.ofString "Tree.set_attribute") aa_Tree_set_attribute.1 (.stmts bb_Tree_set_attribute.1) ss_Tree_set_attribute.1 3 [] .none .none .none (vS "markupmill.tree" 338) none (.ref 228) .none 0)) #[]
noncomputable def ob_230 (P : Params) : Obj := Obj.mk (.type "tuple") none (.seq #[]) #[]
noncomputable def ob_232 (P : Params) : Obj := Obj.mk (.type "tuple") none (.seq #[vS "self" 512, vS "element" 513, vS "prefix" 514, vS "uri" 515]) #[]
noncomputable def ob_233 (P : Params) : Obj := Obj.mk (.type "tuple") none (.seq #[]) #[]
noncomputable def ob_235 (P : Params) : Obj := Obj.mk (.type "code") none (.fields #[vS "add_namespace" 509, vS "Tree.add_namespace" 510, vS "/claim/cut.py" 511, .int 126 0, .int 4 0, .int 0 0, .int 0 0, .int 3 0, .ref 230, .bool true, .int 181 0, .ref 231, .none, .ref 232, .ref 233, .ref 234, .int 516 0, .int 126 0, vS "/claim/cut.py" 517]) #[]
noncomputable def ob_236 (P : Params) : Obj := Obj.mk (.type "function") none (.func (FuncData.mk (Str.ofString "add_namespace") (Str.ofString "Tree.add_namespace") aa_Tree_add_namespace.1 (.stmts bb_Tree_add_namespace.1) ss_Tree_add_namespace.1 3 [] .none .none .none (vS "markupmill.tree" 338) none (.ref 235) .none 0)) #[]
noncomputable def ob_237 (P : Params) : Obj := Obj.mk (.type "tuple") none (.seq #[]) #[]
noncomputable def ob_239 (P : Params) : Obj := Obj.mk (.type "tuple") none (.seq #[vS "self" 522, vS "node" 523, vS "value" 524]) #[]
noncomputable def ob_240 (P : Params) : Obj := Obj.mk (.type "tuple") none (.seq #[]) #[]
noncomputable def ob_242 (P : Params) : Obj := Obj.mk (.type "code") none (.fields #[vS "set_value" 519, vS "Tree.set_value" 520, vS "/claim/cut.py" 521, .int 129 0, .int 3 0, .int 0 0, .int 0 0, .int 3 0, .ref 237, .bool true, .int 181 0, .ref 238, .none, .ref 239, .ref 240, .ref 241, .int 525 0, .int 129 0, vS "/claim/cut.py" 526]) #[]
noncomputable def ob_243 (P : Params) : Obj := Obj.mk (.type "function") none (.func (FuncData.mk (Str.ofString "set_value") (Str.ofString "Tree.set_value") aa_Tree_set_value.1 (.stmts bb_Tree_set_value.1) ss_Tree_set_value.1 3 [] .none .none .none (vS "markupmill.tree" 338) none (.ref 242) .none 0)) #[]
noncomputable def ob_244 (P : Params) : Obj := Obj.mk (.type "tuple") none (.seq #[]) #[]
noncomputable def ob_246 (P : Params) : Obj := Obj.mk (.type "tuple") none (.seq #[vS "self" 531, vS "node" 532]) #[]
noncomputable def ob_247 (P : Params) : Obj := Obj.mk (.type "tuple") none (.seq #[]) #[]
noncomputable def ob_249 (P : Params) : Obj := Obj.mk (.type "code") none (.fields #[vS "kind" 528, vS "Tree.kind" 529, vS "/claim/cut.py" 530, .int 132 0, .int 2 0, .int 0 0, .int 0 0, .int 3 0, .ref 244, .bool true, .int 181 0, .ref 245, .none, .ref 246, .ref 247, .ref 248, .int 533 0, .int 132 0, vS "/claim/cut.py" 534]) #[]
noncomputable def ob_250 (P : Params) : Obj := Obj.mk (.type "function") none (.func (FuncData.mk (Str.ofString "kind") (Str.ofString "Tree.kind") aa_Tree_kind.1 (.stmts bb_Tree_kind.1) ss_Tree_kind.1 3 [] .none .none .none (vS "markupmill.tree" 338) none (.ref 249) .none 0)) #[]
noncomputable def ob_251 (P : Params) : Obj := Obj.mk (.type "tuple") none (.seq #[]) #[]
noncomputable def ob_253 (P : Params) : Obj := Obj.mk (.type "tuple") none (.seq #[vS "self" 539, vS "node" 540]) #[]
noncomputable def ob_254 (P : Params) : Obj := Obj.mk (.type "tuple") none (.seq #[]) #[]
noncomputable def ob_256 (P : Params) : Obj := Obj.mk (.type "code") none (.fields #[vS "name" 536, vS "Tree.name" 537, vS "/claim/cut.py" 538, .int 135 0, .int 2 0, .int 0 0, .int 0 0, .int 3 0, .ref 251, .bool true, .int 181 0, .ref 252, .none, .ref 253, .ref 254, .ref 255, .int 541 0, .int 135 0, vS "/claim/cut.py" 542]) #[]
noncomputable def ob_257 (P : Params) : Obj := Obj.mk (.type "function") none (.func (FuncData.mk (Str.ofString "name") (Str.ofString "Tree.name") aa_Tree_name.1 (.stmts bb_Tree_name.1) ss_Tree_name.1 3 [] .none .none .none (vS "markupmill.tree" 338) none (.ref 256) .none 0)) #[]
noncomputable def ob_258 (P : Params) : Obj := Obj.mk (.type "tuple") none (.seq #[]) #[]
noncomputable def ob_260 (P : Params) : Obj := Obj.mk (.type "tuple") none (.seq #[vS "self" 547, vS "node" 548]) #[]
noncomputable def ob_261 (P : Params) : Obj := Obj.mk (.type "tuple") none (.seq #[]) #[]
noncomputable def ob_263 (P : Params) : Obj := Obj.mk (.type "code") none (.fields #[vS "uri" 544, vS "Tree.uri" 545, vS "/claim/cut.py" 546, .int 138 0, .int 2 0, .int 0 0, .int 0 0, .int 3 0, .ref 258, .bool true, .int 181 0, .ref 259, .none, .ref 260, .ref 261, .ref 262, .int 549 0, .int 138 0, vS "/claim/cut.py" 550]) #[]
noncomputable def ob_264 (P : Params) : Obj := Obj.mk (.type "function") none (.func (FuncData.mk (Str.ofString "uri") (Str.ofString "Tree.uri") aa_Tree_uri.1 (.stmts bb_Tree_uri.1) ss_Tree_uri.1 3 [] .none .none .none (vS "markupmill.tree" 338) none (.ref 263) .none 0)) #[]
noncomputable def ob_265 (P : Params) : Obj := Obj.mk (.type "tuple") none (.seq #[]) #[]
noncomputable def ob_267 (P : Params) : Obj := Obj.mk (.type "tuple") none (.seq #[vS "self" 555, vS "node" 556]) #[]
noncomputable def ob_268 (P : Params) : Obj := Obj.mk (.type "tuple") none (.seq #[]) #[]
noncomputable def ob_270 (P : Params) : Obj := Obj.mk (.type "code") none (.fields #[vS "local" 552, vS "Tree.local" 553, vS "/claim/cut.py" 554, .int 141 0, .int 2 0, .int 0 0, .int 0 0, .int 3 0, .ref 265, .bool true, .int 181 0, .ref 266, .none, .ref 267, .ref 268, .ref 269, .int 557 0, .int 141 0, vS "/claim/cut.py" 558]) #[]
noncomputable def ob_271 (P : Params) : Obj := Obj.mk (.type "function") none (.func (FuncData.mk (Str.ofString "local") (Str.ofString "Tree.local") aa_Tree_local.1 (.stmts bb_Tree_local.1) ss_Tree_local.1 3 [] .none .none .none (vS "markupmill.tree" 338) none (.ref 270) .none 0)) #[]
noncomputable def ob_272 (P : Params) : Obj := Obj.mk (.type "tuple") none (.seq #[]) #[]
noncomputable def ob_274 (P : Params) : Obj := Obj.mk (.type "tuple") none (.seq #[vS "self" 563, vS "node" 564]) #[]
noncomputable def ob_275 (P : Params) : Obj := Obj.mk (.type "tuple") none (.seq #[]) #[]
noncomputable def ob_277 (P : Params) : Obj := Obj.mk (.type "code") none (.fields #[vS "value" 560, vS "Tree.value" 561, vS "/claim/cut.py" 562, .int 144 0, .int 2 0, .int 0 0, .int 0 0, .int 3 0, .ref 272, .bool true, .int 181 0, .ref 273, .none, .ref 274, .ref 275, .ref 276, .int 565 0, .int 144 0, vS "/claim/cut.py" 566]) #[]
noncomputable def ob_278 (P : Params) : Obj := Obj.mk (.type "function") none (.func (FuncData.mk (Str.ofString "value") (Str.ofString "Tree.value") aa_Tree_value.1 (.stmts bb_Tree_value.1) ss_Tree_value.1 3 [] .none .none .none (vS "markupmill.tree" 338) none (.ref 277) .none 0)) #[]
noncomputable def ob_279 (P : Params) : Obj := Obj.mk (.type "tuple") none (.seq #[]) #[]
noncomputable def ob_281 (P : Params) : Obj := Obj.mk (.type "tuple") none (.seq #[vS "self" 571, vS "node" 572]) #[]
noncomputable def ob_282 (P : Params) : Obj := Obj.mk (.type "tuple") none (.seq #[]) #[]
noncomputable def ob_284 (P : Params) : Obj := Obj.mk (.type "code") none (.fields #[vS "parent" 568, vS "Tree.parent" 569, vS "/claim/cut.py" 570, .int 147 0, .int 2 0, .int 0 0, .int 0 0, .int 3 0, .ref 279, .bool true, .int 181 0, .ref 280, .none, .ref 281, .ref 282, .ref 283, .int 573 0, .int 147 0, vS "/claim/cut.py" 574]) #[]
noncomputable def ob_285 (P : Params) : Obj := Obj.mk (.type "function") none (.func (FuncData.mk (Str.ofString "parent") (Str.ofString "Tree.parent") aa_Tree_parent.1 (.stmts bb_Tree_parent.1) ss_Tree_parent.1 3 [] .none .none .none (vS "markupmill.tree" 338) none (.ref 284) .none 0)) #[]
noncomputable def ob_286 (P : Params) : Obj := Obj.mk (.type "tuple") none (.seq #[]) #[]
noncomputable def ob_288 (P : Params) : Obj := Obj.mk (.type "tuple") none (.seq #[vS "self" 579, vS "node" 580]) #[]
noncomputable def ob_289 (P : Params) : Obj := Obj.mk (.type "tuple") none (.seq #[]) #[]
noncomputable def ob_291 (P : Params) : Obj := Obj.mk (.type "code") none (.fields #[vS "children" 576, vS "Tree.children" 577, vS "/claim/cut.py" 578, .int 150 0, .int 2 0, .int 0 0, .int 0 0, .int 3 0, .ref 286, .bool true, .int 181 0, .ref 287, .none, .ref 288, .ref 289, .ref 290, .int 581 0, .int 150 0, vS "/claim/cut.py" 582]) #[]
noncomputable def ob_292 (P : Params) : Obj := Obj.mk (.type "function") none (.func (FuncData.mk (Str.ofString "children") (Str.ofString "Tree.children") aa_Tree_children.1 (.stmts bb_Tree_children.1) ss_Tree_children.1 3 [] .none .none .none (vS "markupmill.tree" 338) none (.ref 291) .none 0)) #[]
noncomputable def ob_293 (P : Params) : Obj := Obj.mk (.type "tuple") none (.seq #[]) #[]
noncomputable def ob_295 (P : Params) : Obj := Obj.mk (.type "tuple") none (.seq #[vS "self" 587, vS "node" 588]) #[]
noncomputable def ob_296 (P : Params) : Obj := Obj.mk (.type "tuple") none (.seq #[]) #[]
noncomputable def ob_298 (P : Params) : Obj := Obj.mk (.type "code") none (.fields #[vS "attributes" 584, vS "Tree.attributes" 585, vS "/claim/cut.py" 586, .int 153 0, .int 2 0, .int 0 0, .int 0 0, .int 3 0, .ref 293, .bool true, .int 181 0, .ref 294, .none, .ref 295, .ref 296, .ref 297, .int 589 0, .int 153 0, vS "/claim/cut.py" 590]) #[]
noncomputable def ob_299 (P : Params) : Obj := Obj.mk (.type "function") none (.func (FuncData.mk (Str.ofString "attributes") (Str.ofString "Tree.attributes") aa_Tree_attributes.1 (.stmts bb_Tree_attributes.1) ss_Tree_attributes.1 3 [] .none .none .none (vS "markupmill.tree" 338) none (.ref 298) .none 0)) #[]
noncomputable def ob_300 (P : Params) : Obj := Obj.mk (.type "tuple") none (.seq #[]) #[]
noncomputable def ob_302 (P : Params) : Obj := Obj.mk (.type "tuple") none (.seq #[vS "self" 595, vS "node" 596]) #[]
noncomputable def ob_303 (P : Params) : Obj := Obj.mk (.type "tuple") none (.seq #[]) #[]
noncomputable def ob_305 (P : Params) : Obj := Obj.mk (.type "code") none (.fields #[vS "namespaces" 592, vS "Tree.namespaces" 593, vS "/claim/cut.py" 594, .int 156 0, .int 2 0, .int 0 0, .int 0 0, .int 3 0, .ref 300, .bool true, .int 181 0, .ref 301, .none, .ref 302, .ref 303, .ref 304, .int 597 0, .int 156 0, vS "/claim/cut.py" 598]) #[]
noncomputable def ob_306 (P : Params) : Obj := Obj.mk (.type "function") none (.func (FuncData.mk (Str.ofString "namespaces") (Str.ofString "Tree.namespaces") aa_Tree_namespaces.1 (.stmts bb_Tree_namespaces.1) ss_Tree_namespaces.1 3 [] .none .none .none (vS "markupmill.tree" 338) none (.ref 305) .none 0)) #[]
noncomputable def ob_307 (P : Params) : Obj := Obj.mk (.type "tuple") none (.seq #[]) #[]
noncomputable def ob_309 (P : Params) : Obj := Obj.mk (.type "tuple") none (.seq #[vS "self" 603, vS "node" 604]) #[]
noncomputable def ob_310 (P : Params) : Obj := Obj.mk (.type "tuple") none (.seq #[]) #[]
noncomputable def ob_312 (P : Params) : Obj := Obj.mk (.type "code") none (.fields #[vS "root_of" 600, vS "Tree.root_of" 601, vS "/claim/cut.py" 602, .int 159 0, .int 2 0, .int 0 0, .int 0 0, .int 3 0, .ref 307, .bool true, .int 181 0, .ref 308, .none, .ref 309, .ref 310, .ref 311, .int 605 0, .int 159 0, vS "/claim/cut.py" 606]) #[]
noncomputable def ob_313 (P : Params) : Obj := Obj.mk (.type "function") none (.func (FuncData.mk (Str.ofString "root_of") (Str.ofString "Tree.root_of") aa_Tree_root_of.1 (.stmts bb_Tree_root_of.1) ss_Tree_root_of.1 3 [] .none .none .none (vS "markupmill.tree" 338) none (.ref 312) .none 0)) #[]
noncomputable def ob_314 (P : Params) : Obj := Obj.mk (.type "tuple") none (.seq #[]) #[]
noncomputable def ob_316 (P : Params) : Obj := Obj.mk (.type "tuple") none (.seq #[vS "self" 611, vS "node" 612, vS "other" 613]) #[]
noncomputable def ob_317 (P : Params) : Obj := Obj.mk (.type "tuple") none (.seq #[]) #[]
noncomputable def ob_319 (P : Params) : Obj := Obj.mk (.type "code") none (.fields #[vS "is_above" 608, vS "Tree.is_above" 609, vS "/claim/cut.py" 610, .int 162 0, .int 3 0, .int 0 0, .int 0 0, .int 3 0, .ref 314, .bool true, .int 181 0, .ref 315, .none, .ref 316, .ref 317, .ref 318, .int 614 0, .int 162 0, vS "/claim/cut.py" 615]) #[]
noncomputable def ob_320 (P : Params) : Obj := Obj.mk (.type "function") none (.func (FuncData.mk (Str.ofString "is_above") (Str.ofString "Tree.is_above") aa_Tree_is_above.1 (.stmts bb_Tree_is_above.1) ss_Tree_is_above.1 3 [] .none .none .none (vS "markupmill.tree" 338) none (.ref 319) .none 0)) #[]
noncomputable def ob_321 (P : Params) : Obj := Obj.mk (.type "tuple") none (.seq #[]) #[]
noncomputable def ob_323 (P : Params) : Obj := Obj.mk (.type "tuple") none (.seq #[vS "self" 620, vS "element" 621, vS "uri" 622, vS "local" 623]) #[]
noncomputable def ob_324 (P : Params) : Obj := Obj.mk (.type "tuple") none (.seq #[]) #[]
noncomputable def ob_326 (P : Params) : Obj := Obj.mk (.type "code") none (.fields #[vS "attribute_value" 617, vS "Tree.attribute_value" 618, vS "/claim/cut.py" 619, .int 165 0, .int 4 0, .int 0 0, .int 0 0, .int 3 0, .ref 321, .bool true, .int 181 0, .ref 322, .none, .ref 323, .ref 324, .ref 325, .int 624 0, .int 165 0, vS "/claim/cut.py" 625]) #[]
noncomputable def ob_327 (P : Params) : Obj := Obj.mk (.type "function") none (.func (FuncData.mk (Str.ofString "attribute_value") (Str.ofString "Tree.attribute_value") aa_Tree_attribute_value.1 (.stmts bb_Tree_attribute_value.1) ss_Tree_attribute_value.1 3 [] .none .none .none (vS "markupmill.tree" 338) none (.ref 326) .none 0)) #[]
noncomputable def ob_328 (P : Params) : Obj := Obj.mk (.type "tuple") none (.seq #[vS "rows" 627]) #[]
noncomputable def ob_329 (P : Params) : Obj := Obj.mk (.type "dict") none (.dict #[kE P "__module__" 392 (vS "markupmill.tree" 338), kE P "__firstlineno__" 396 (.int 71 395), kE P "__init__" 403 (.ref 159), kE P "new_row" 416 (.ref 166), kE P "row" 424 (.ref 173), kE P "new_root" 431 (.ref 180), kE P "add_child" 445 (.ref 187), kE P "add_element" 456 (.ref 194), kE P "add_text" 465 (.ref 201), kE P "add_comment" 474 (.ref 208), kE P "add_instruction" 484 (.ref 215), kE P "element_row" 493 (.ref 222), kE P "set_attribute" 508 (.ref 229), kE P "add_namespace" 518 (.ref 236), kE P "set_value" 527 (.ref 243), kE P "kind" 535 (.ref 250), kE P "name" 543 (.ref 257), kE P "uri" 551 (.ref 264), kE P "local" 559 (.ref 271), kE P "value" 567 (.ref 278), kE P "parent" 575 (.ref 285), kE P "children" 583 (.ref 292), kE P "attributes" 591 (.ref 299), kE P "namespaces" 599 (.ref 306), kE P "root_of" 607 (.ref 313), kE P "is_above" 616 (.ref 320), kE P "attribute_value" 626 (.ref 327), kE P "__static_attributes__" 628 (.ref 328), kE P "__dict__" 630 (.ref 331), kE P "__weakref__" 632 (.ref 332), kE P "__doc__" 633 .none] 4) #[]
noncomputable def ob_330 (P : Params) : Obj := Obj.mk (.type "type") none (.cls (ClassData.mk (Str.ofString "Tree") [.type "object"] [.ref 330, .type "object"] 329 (Str.ofString "Tree") true [] [] false none false)) #[none, none, some (vS "Tree" 385), some (vS "Tree" 393), some (.builtin "object.__new__"), some (.bool true)]
noncomputable def ob_331 (P : Params) : Obj := Obj.mk (.type "getset_descriptor") none (.fields #[vS "__dict__" 629, .ref 330, .builtin "function.__dict__", .builtin "function.__dict__#set"]) #[]
noncomputable def ob_332 (P : Params) : Obj := Obj.mk (.type "getset_descriptor") none (.fields #[vS "__weakref__" 631, .ref 330, .builtin "ExceptionGroup.__weakref__", .none]) #[]
noncomputable def ob_335 (P : Params) : Obj := Obj.mk (.type "tuple") none (.seq #[]) #[]
noncomputable def ob_337 (P : Params) : Obj := Obj.mk (.type "tuple") none (.seq #[vS "script" 641, vS "k" 642, vS "cell" 643, vS "big" 644, vS "mixed" 645]) #[]
noncomputable def ob_338 (P : Params) : Obj := Obj.mk (.type "tuple") none (.seq #[]) #[]
noncomputable def ob_340 (P : Params) : Obj := Obj.mk (.type "code") none (.fields #[vS "_law_pool" 638, vS "_law_pool" 639, vS "/claim/cut.py" 640, .int 168 0, .int 2 0, .int 0 0, .int 0 0, .int 3 0, .ref 335, .bool true, .int 181 0, .ref 336, .none, .ref 337, .ref 338, .ref 339, .int 646 0, .int 168 0, vS "/claim/cut.py" 647]) #[]
noncomputable def ob_341 (P : Params) : Obj := Obj.mk (.type "function") none (.func (FuncData.mk (Str.ofString "_law_pool") (Str.ofString "_law_pool") aa_law_pool.1 (.stmts bb_law_pool.1) ss_law_pool.1 3 [] .none .none .none (vS "law_on0186_01" 636) none (.ref 340) .none 0)) #[]
noncomputable def ob_342 (P : Params) : Obj := Obj.mk (.type "tuple") none (.seq #[]) #[]
noncomputable def ob_344 (P : Params) : Obj := Obj.mk (.type "tuple") none (.seq #[vS "source" 652, vS "top" 653, vS "drawn" 654]) #[]
noncomputable def ob_345 (P : Params) : Obj := Obj.mk (.type "tuple") none (.seq #[]) #[]
noncomputable def ob_347 (P : Params) : Obj := Obj.mk (.type "code") none (.fields #[vS "_law_take" 649, vS "_law_take" 650, vS "/claim/cut.py" 651, .int 175 0, .int 2 0, .int 0 0, .int 0 0, .int 3 0, .ref 342, .bool true, .int 181 0, .ref 343, .none, .ref 344, .ref 345, .ref 346, .int 655 0, .int 175 0, vS "/claim/cut.py" 656]) #[]
noncomputable def ob_348 (P : Params) : Obj := Obj.mk (.type "function") none (.func (FuncData.mk (Str.ofString "_law_take") (Str.ofString "_law_take") aa_law_take.1 (.stmts bb_law_take.1) ss_law_take.1 3 [] .none .none .none (vS "law_on0186_01" 636) none (.ref 347) .none 0)) #[]
noncomputable def ob_349 (P : Params) : Obj := Obj.mk (.type "tuple") none (.seq #[]) #[]
noncomputable def ob_351 (P : Params) : Obj := Obj.mk (.type "tuple") none (.seq #[vS "source" 661, vS "things" 662]) #[]
noncomputable def ob_352 (P : Params) : Obj := Obj.mk (.type "tuple") none (.seq #[]) #[]
noncomputable def ob_354 (P : Params) : Obj := Obj.mk (.type "code") none (.fields #[vS "_law_one" 658, vS "_law_one" 659, vS "/claim/cut.py" 660, .int 182 0, .int 2 0, .int 0 0, .int 0 0, .int 3 0, .ref 349, .bool true, .int 181 0, .ref 350, .none, .ref 351, .ref 352, .ref 353, .int 663 0, .int 182 0, vS "/claim/cut.py" 664]) #[]
noncomputable def ob_355 (P : Params) : Obj := Obj.mk (.type "function") none (.func (FuncData.mk (Str.ofString "_law_one") (Str.ofString "_law_one") aa_law_one.1 (.stmts bb_law_one.1) ss_law_one.1 3 [] .none .none .none (vS "law_on0186_01" 636) none (.ref 354) .none 0)) #[]
noncomputable def ob_356 (P : Params) : Obj := Obj.mk (.type "tuple") none (.seq #[]) #[]
noncomputable def ob_358 (P : Params) : Obj := Obj.mk (.type "tuple") none (.seq #[vS "source" 669, vS "tree" 670, vS "node" 671, vS "found" 672, vS "turn" 673, vS "uri" 674, vS "local" 675, vS "name" 676, vS "word" 677]) #[]
noncomputable def ob_359 (P : Params) : Obj := Obj.mk (.type "tuple") none (.seq #[]) #[]
noncomputable def ob_361 (P : Params) : Obj := Obj.mk (.type "code") none (.fields #[vS "_law_attributes" 666, vS "_law_attributes" 667, vS "/claim/cut.py" 668, .int 184 0, .int 3 0, .int 0 0, .int 0 0, .int 3 0, .ref 356, .bool true, .int 181 0, .ref 357, .none, .ref 358, .ref 359, .ref 360, .int 678 0, .int 184 0, vS "/claim/cut.py" 679]) #[]
noncomputable def ob_362 (P : Params) : Obj := Obj.mk (.type "function") none (.func (FuncData.mk (Str.ofString "_law_attributes") (Str.ofString "_law_attributes") aa_law_attributes.1 (.stmts bb_law_attributes.1) ss_law_attributes.1 3 [] .none .none .none (vS "law_on0186_01" 636) none (.ref 361) .none 0)) #[]
noncomputable def ob_363 (P : Params) : Obj := Obj.mk (.type "tuple") none (.seq #[]) #[]
noncomputable def ob_366 (P : Params) : Obj := Obj.mk (.type "code") none (.fields #[vS "_law_document" 681, vS "_law_document" 682, vS "/claim/cut.py" 683, .int 194 0, .int 1 0, .int 0 0, .int 0 0, .int 3 0, .ref 363, .bool true, .int 181 0, .ref 364, .none, .none, .none, .ref 365, .int 684 0, .int 194 0, vS "/claim/cut.py" 685]) #[]
noncomputable def ob_367 (P : Params) : Obj := Obj.mk (.type "function") none (.func (FuncData.mk (Str.ofString "_law_document") (Str.ofString "_law_document") aa_law_document.1 (.stmts bb_law_document.1) ss_law_document.1 3 [] .none .none .none (vS "law_on0186_01" 636) none (.ref 366) .none 0)) #[]
noncomputable def ob_368 (P : Params) : Obj := Obj.mk (.type "tuple") none (.seq #[]) #[]
noncomputable def ob_371 (P : Params) : Obj := Obj.mk (.type "code") none (.fields #[vS "_law_inner" 687, vS "_law_inner" 688, vS "/claim/cut.py" 689, .int 217 0, .int 2 0, .int 0 0, .int 0 0, .int 3 0, .ref 368, .bool true, .int 181 0, .ref 369, .none, .none, .none, .ref 370, .int 690 0, .int 217 0, vS "/claim/cut.py" 691]) #[]
noncomputable def ob_372 (P : Params) : Obj := Obj.mk (.type "function") none (.func (FuncData.mk (Str.ofString "_law_inner") (Str.ofString "_law_inner") aa_law_inner.1 (.stmts bb_law_inner.1) ss_law_inner.1 3 [] .none .none .none (vS "law_on0186_01" 636) none (.ref 371) .none 0)) #[]
noncomputable def ob_373 (P : Params) : Obj := Obj.mk (.type "tuple") none (.seq #[]) #[]
noncomputable def ob_376 (P : Params) : Obj := Obj.mk (.type "code") none (.fields #[vS "_law_blanks" 693, vS "_law_blanks" 694, vS "/claim/cut.py" 695, .int 219 0, .int 2 0, .int 0 0, .int 0 0, .int 3 0, .ref 373, .bool true, .int 181 0, .ref 374, .none, .none, .none, .ref 375, .int 696 0, .int 219 0, vS "/claim/cut.py" 697]) #[]
noncomputable def ob_377 (P : Params) : Obj := Obj.mk (.type "function") none (.func (FuncData.mk (Str.ofString "_law_blanks") (Str.ofString "_law_blanks") aa_law_blanks.1 (.stmts bb_law_blanks.1) ss_law_blanks.1 3 [] .none .none .none (vS "law_on0186_01" 636) none (.ref 376) .none 0)) #[]
noncomputable def ob_378 (P : Params) : Obj := Obj.mk (.type "tuple") none (.seq #[]) #[]
noncomputable def ob_380 (P : Params) : Obj := Obj.mk (.type "tuple") none (.seq #[vS "row" 702]) #[]
noncomputable def ob_381 (P : Params) : Obj := Obj.mk (.type "tuple") none (.seq #[]) #[]
noncomputable def ob_383 (P : Params) : Obj := Obj.mk (.type "code") none (.fields #[vS "_law_kept" 699, vS "_law_kept" 700, vS "/claim/cut.py" 701, .int 226 0, .int 1 0, .int 0 0, .int 0 0, .int 3 0, .ref 378, .bool true, .int 181 0, .ref 379, .none, .ref 380, .ref 381, .ref 382, .int 703 0, .int 226 0, vS "/claim/cut.py" 704]) #[]
noncomputable def ob_384 (P : Params) : Obj := Obj.mk (.type "function") none (.func (FuncData.mk (Str.ofString "_law_kept") (Str.ofString "_law_kept") aa_law_kept.1 (.stmts bb_law_kept.1) ss_law_kept.1 3 [] .none .none .none (vS "law_on0186_01" 636) none (.ref 383) .none 0)) #[]
noncomputable def ob_385 (P : Params) : Obj := Obj.mk (.type "tuple") none (.seq #[]) #[]
noncomputable def ob_387 (P : Params) : Obj := Obj.mk (.type "tuple") none (.seq #[vS "call" 709]) #[]
noncomputable def ob_388 (P : Params) : Obj := Obj.mk (.type "tuple") none (.seq #[]) #[]
noncomputable def ob_390 (P : Params) : Obj := Obj.mk (.type "code") none (.fields #[vS "_law_fell" 706, vS "_law_fell" 707, vS "/claim/cut.py" 708, .int 232 0, .int 1 0, .int 0 0, .int 0 0, .int 3 0, .ref 385, .bool true, .int 181 0, .ref 386, .none, .ref 387, .ref 388, .ref 389, .int 710 0, .int 232 0, vS "/claim/cut.py" 711]) #[]
noncomputable def ob_391 (P : Params) : Obj := Obj.mk (.type "function") none (.func (FuncData.mk (Str.ofString "_law_fell") (Str.ofString "_law_fell") aa_law_fell.1 (.stmts bb_law_fell.1) ss_law_fell.1 3 [] .none .none .none (vS "law_on0186_01" 636) none (.ref 390) .none 0)) #[]
noncomputable def ob_392 (P : Params) : Obj := Obj.mk (.type "tuple") none (.seq #[]) #[]
noncomputable def ob_394 (P : Params) : Obj := Obj.mk (.type "tuple") none (.seq #[vS "tree" 716, vS "row" 717, vS "held" 718, vS "due" 719]) #[]
noncomputable def ob_395 (P : Params) : Obj := Obj.mk (.type "tuple") none (.seq #[vS "tree" 720, vS "local" 721, vS "node" 722]) #[]
noncomputable def ob_397 (P : Params) : Obj := Obj.mk (.type "code") none (.fields #[vS "_law_element_right" 713, vS "_law_element_right" 714, vS "/claim/cut.py" 715, .int 238 0, .int 2 0, .int 0 0, .int 0 0, .int 3 0, .ref 392, .bool true, .int 181 0, .ref 393, .none, .ref 394, .ref 395, .ref 396, .int 723 0, .int 238 0, vS "/claim/cut.py" 724]) #[]
noncomputable def ob_398 (P : Params) : Obj := Obj.mk (.type "function") none (.func (FuncData.mk (Str.ofString "_law_element_right") (Str.ofString "_law_element_right") aa_law_element_right.1 (.stmts bb_law_element_right.1) ss_law_element_right.1 3 [] .none .none .none (vS "law_on0186_01" 636) none (.ref 397) .none 0)) #[]
noncomputable def ob_399 (P : Params) : Obj := Obj.mk (.type "tuple") none (.seq #[]) #[]
noncomputable def ob_402 (P : Params) : Obj := Obj.mk (.type "code") none (.fields #[vS "_law_row_right" 726, vS "_law_row_right" 727, vS "/claim/cut.py" 728, .int 255 0, .int 3 0, .int 0 0, .int 0 0, .int 3 0, .ref 399, .bool true, .int 181 0, .ref 400, .none, .none, .none, .ref 401, .int 729 0, .int 255 0, vS "/claim/cut.py" 730]) #[]
noncomputable def ob_403 (P : Params) : Obj := Obj.mk (.type "function") none (.func (FuncData.mk (Str.ofString "_law_row_right") (Str.ofString "_law_row_right") aa_law_row_right.1 (.stmts bb_law_row_right.1) ss_law_row_right.1 3 [] .none .none .none (vS "law_on0186_01" 636) none (.ref 402) .none 0)) #[]
noncomputable def ob_404 (P : Params) : Obj := Obj.mk (.type "tuple") none (.seq #[]) #[]
noncomputable def ob_406 (P : Params) : Obj := Obj.mk (.type "tuple") none (.seq #[]) #[]
noncomputable def ob_407 (P : Params) : Obj := Obj.mk (.type "tuple") none (.seq #[vS "node" 735, vS "tree" 736]) #[]
noncomputable def ob_409 (P : Params) : Obj := Obj.mk (.type "code") none (.fields #[vS "_law_fixed_right" 732, vS "_law_fixed_right" 733, vS "/claim/cut.py" 734, .int 265 0, .int 0 0, .int 0 0, .int 0 0, .int 3 0, .ref 404, .bool true, .int 181 0, .ref 405, .none, .ref 406, .ref 407, .ref 408, .int 737 0, .int 265 0, vS "/claim/cut.py" 738]) #[]
noncomputable def ob_410 (P : Params) : Obj := Obj.mk (.type "function") none (.func (FuncData.mk (Str.ofString "_law_fixed_right") (Str.ofString "_law_fixed_right") aa_law_fixed_right.1 (.stmts bb_law_fixed_right.1) ss_law_fixed_right.1 3 [] .none .none .none (vS "law_on0186_01" 636) none (.ref 409) .none 0)) #[]
noncomputable def ob_411 (P : Params) : Obj := Obj.mk (.type "tuple") none (.seq #[]) #[]
noncomputable def ob_413 (P : Params) : Obj := Obj.mk (.type "tuple") none (.seq #[vS "script" 743, vS "source" 744, vS "tree" 745, vS "root" 746, vS "rows" 747, vS "row" 748]) #[]
noncomputable def ob_414 (P : Params) : Obj := Obj.mk (.type "tuple") none (.seq #[]) #[]
noncomputable def ob_416 (P : Params) : Obj := Obj.mk (.type "code") none (.fields #[vS "law" 740, vS "law" 741, vS "/claim/cut.py" 742, .int 270 0, .int 1 0, .int 0 0, .int 0 0, .int 3 0, .ref 411, .bool true, .int 181 0, .ref 412, .none, .ref 413, .ref 414, .ref 415, .int 749 0, .int 270 0, vS "/claim/cut.py" 750]) #[]
noncomputable def ob_417 (P : Params) : Obj := Obj.mk (.type "function") none (.func (FuncData.mk (Str.ofString "law") (Str.ofString "law") aa_law.1 (.stmts bb_law.1) ss_law.1 3 [] .none .none .none (vS "law_on0186_01" 636) none (.ref 416) .none 0)) #[]
noncomputable def frag (P : Params) : Frag := (nat_lit 2, ob_2 P) ::
  (nat_lit 3, ob_3 P) ::
  (nat_lit 15, ob_15 P) ::
  (nat_lit 17, ob_17 P) ::
  (nat_lit 18, ob_18 P) ::
  (nat_lit 20, ob_20 P) ::
  (nat_lit 21, ob_21 P) ::
  (nat_lit 22, ob_22 P) ::
  (nat_lit 29, ob_29 P) ::
  (nat_lit 31, ob_31 P) ::
  (nat_lit 32, ob_32 P) ::
  (nat_lit 34, ob_34 P) ::
  (nat_lit 35, ob_35 P) ::
  (nat_lit 36, ob_36 P) ::
  (nat_lit 37, ob_37 P) ::
  (nat_lit 38, ob_38 P) ::
  (nat_lit 39, ob_39 P) ::
  (nat_lit 42, ob_42 P) ::
  (nat_lit 49, ob_49 P) ::
  (nat_lit 50, ob_50 P) ::
  (nat_lit 51, ob_51 P) ::
  (nat_lit 54, ob_54 P) ::
  (nat_lit 61, ob_61 P) ::
  (nat_lit 62, ob_62 P) ::
  (nat_lit 63, ob_63 P) ::
  (nat_lit 66, ob_66 P) ::
  (nat_lit 67, ob_67 P) ::
  (nat_lit 69, ob_69 P) ::
  (nat_lit 70, ob_70 P) ::
  (nat_lit 72, ob_72 P) ::
  (nat_lit 73, ob_73 P) ::
  (nat_lit 74, ob_74 P) ::
  (nat_lit 75, ob_75 P) ::
  (nat_lit 77, ob_77 P) ::
  (nat_lit 78, ob_78 P) ::
  (nat_lit 80, ob_80 P) ::
  (nat_lit 81, ob_81 P) ::
  (nat_lit 82, ob_82 P) ::
  (nat_lit 84, ob_84 P) ::
  (nat_lit 85, ob_85 P) ::
  (nat_lit 87, ob_87 P) ::
  (nat_lit 88, ob_88 P) ::
  (nat_lit 89, ob_89 P) ::
  (nat_lit 91, ob_91 P) ::
  (nat_lit 92, ob_92 P) ::
  (nat_lit 94, ob_94 P) ::
  (nat_lit 95, ob_95 P) ::
  (nat_lit 96, ob_96 P) ::
  (nat_lit 98, ob_98 P) ::
  (nat_lit 99, ob_99 P) ::
  (nat_lit 101, ob_101 P) ::
  (nat_lit 102, ob_102 P) ::
  (nat_lit 103, ob_103 P) ::
  (nat_lit 105, ob_105 P) ::
  (nat_lit 106, ob_106 P) ::
  (nat_lit 108, ob_108 P) ::
  (nat_lit 109, ob_109 P) ::
  (nat_lit 110, ob_110 P) ::
  (nat_lit 112, ob_112 P) ::
  (nat_lit 113, ob_113 P) ::
  (nat_lit 115, ob_115 P) ::
  (nat_lit 116, ob_116 P) ::
  (nat_lit 117, ob_117 P) ::
  (nat_lit 119, ob_119 P) ::
  (nat_lit 120, ob_120 P) ::
  (nat_lit 122, ob_122 P) ::
  (nat_lit 123, ob_123 P) ::
  (nat_lit 124, ob_124 P) ::
  (nat_lit 132, ob_132 P) ::
  (nat_lit 134, ob_134 P) ::
  (nat_lit 135, ob_135 P) ::
  (nat_lit 137, ob_137 P) ::
  (nat_lit 138, ob_138 P) ::
  (nat_lit 139, ob_139 P) ::
  (nat_lit 140, ob_140 P) ::
  (nat_lit 141, ob_141 P) ::
  (nat_lit 142, ob_142 P) ::
  (nat_lit 143, ob_143 P) ::
  (nat_lit 153, ob_153 P) ::
  (nat_lit 155, ob_155 P) ::
  (nat_lit 156, ob_156 P) ::
  (nat_lit 158, ob_158 P) ::
  (nat_lit 159, ob_159 P) ::
  (nat_lit 160, ob_160 P) ::
  (nat_lit 162, ob_162 P) ::
  (nat_lit 163, ob_163 P) ::
  (nat_lit 165, ob_165 P) ::
  (nat_lit 166, ob_166 P) ::
  (nat_lit 167, ob_167 P) ::
  (nat_lit 169, ob_169 P) ::
  (nat_lit 170, ob_170 P) ::
  (nat_lit 172, ob_172 P) ::
  (nat_lit 173, ob_173 P) ::
  (nat_lit 174, ob_174 P) ::
  (nat_lit 176, ob_176 P) ::
  (nat_lit 177, ob_177 P) ::
  (nat_lit 179, ob_179 P) ::
  (nat_lit 180, ob_180 P) ::
  (nat_lit 181, ob_181 P) ::
  (nat_lit 183, ob_183 P) ::
  (nat_lit 184, ob_184 P) ::
  (nat_lit 186, ob_186 P) ::
  (nat_lit 187, ob_187 P) ::
  (nat_lit 188, ob_188 P) ::
  (nat_lit 190, ob_190 P) ::
  (nat_lit 191, ob_191 P) ::
  (nat_lit 193, ob_193 P) ::
  (nat_lit 194, ob_194 P) ::
  (nat_lit 195, ob_195 P) ::
  (nat_lit 197, ob_197 P) ::
  (nat_lit 198, ob_198 P) ::
  (nat_lit 200, ob_200 P) ::
  (nat_lit 201, ob_201 P) ::
  (nat_lit 202, ob_202 P) ::
  (nat_lit 204, ob_204 P) ::
  (nat_lit 205, ob_205 P) ::
  (nat_lit 207, ob_207 P) ::
  (nat_lit 208, ob_208 P) ::
  (nat_lit 209, ob_209 P) ::
  (nat_lit 211, ob_211 P) ::
  (nat_lit 212, ob_212 P) ::
  (nat_lit 214, ob_214 P) ::
  (nat_lit 215, ob_215 P) ::
  (nat_lit 216, ob_216 P) ::
  (nat_lit 218, ob_218 P) ::
  (nat_lit 219, ob_219 P) ::
  (nat_lit 221, ob_221 P) ::
  (nat_lit 222, ob_222 P) ::
  (nat_lit 223, ob_223 P) ::
  (nat_lit 225, ob_225 P) ::
  (nat_lit 226, ob_226 P) ::
  (nat_lit 228, ob_228 P) ::
  (nat_lit 229, ob_229 P) ::
  (nat_lit 230, ob_230 P) ::
  (nat_lit 232, ob_232 P) ::
  (nat_lit 233, ob_233 P) ::
  (nat_lit 235, ob_235 P) ::
  (nat_lit 236, ob_236 P) ::
  (nat_lit 237, ob_237 P) ::
  (nat_lit 239, ob_239 P) ::
  (nat_lit 240, ob_240 P) ::
  (nat_lit 242, ob_242 P) ::
  (nat_lit 243, ob_243 P) ::
  (nat_lit 244, ob_244 P) ::
  (nat_lit 246, ob_246 P) ::
  (nat_lit 247, ob_247 P) ::
  (nat_lit 249, ob_249 P) ::
  (nat_lit 250, ob_250 P) ::
  (nat_lit 251, ob_251 P) ::
  (nat_lit 253, ob_253 P) ::
  (nat_lit 254, ob_254 P) ::
  (nat_lit 256, ob_256 P) ::
  (nat_lit 257, ob_257 P) ::
  (nat_lit 258, ob_258 P) ::
  (nat_lit 260, ob_260 P) ::
  (nat_lit 261, ob_261 P) ::
  (nat_lit 263, ob_263 P) ::
  (nat_lit 264, ob_264 P) ::
  (nat_lit 265, ob_265 P) ::
  (nat_lit 267, ob_267 P) ::
  (nat_lit 268, ob_268 P) ::
  (nat_lit 270, ob_270 P) ::
  (nat_lit 271, ob_271 P) ::
  (nat_lit 272, ob_272 P) ::
  (nat_lit 274, ob_274 P) ::
  (nat_lit 275, ob_275 P) ::
  (nat_lit 277, ob_277 P) ::
  (nat_lit 278, ob_278 P) ::
  (nat_lit 279, ob_279 P) ::
  (nat_lit 281, ob_281 P) ::
  (nat_lit 282, ob_282 P) ::
  (nat_lit 284, ob_284 P) ::
  (nat_lit 285, ob_285 P) ::
  (nat_lit 286, ob_286 P) ::
  (nat_lit 288, ob_288 P) ::
  (nat_lit 289, ob_289 P) ::
  (nat_lit 291, ob_291 P) ::
  (nat_lit 292, ob_292 P) ::
  (nat_lit 293, ob_293 P) ::
  (nat_lit 295, ob_295 P) ::
  (nat_lit 296, ob_296 P) ::
  (nat_lit 298, ob_298 P) ::
  (nat_lit 299, ob_299 P) ::
  (nat_lit 300, ob_300 P) ::
  (nat_lit 302, ob_302 P) ::
  (nat_lit 303, ob_303 P) ::
  (nat_lit 305, ob_305 P) ::
  (nat_lit 306, ob_306 P) ::
  (nat_lit 307, ob_307 P) ::
  (nat_lit 309, ob_309 P) ::
  (nat_lit 310, ob_310 P) ::
  (nat_lit 312, ob_312 P) ::
  (nat_lit 313, ob_313 P) ::
  (nat_lit 314, ob_314 P) ::
  (nat_lit 316, ob_316 P) ::
  (nat_lit 317, ob_317 P) ::
  (nat_lit 319, ob_319 P) ::
  (nat_lit 320, ob_320 P) ::
  (nat_lit 321, ob_321 P) ::
  (nat_lit 323, ob_323 P) ::
  (nat_lit 324, ob_324 P) ::
  (nat_lit 326, ob_326 P) ::
  (nat_lit 327, ob_327 P) ::
  (nat_lit 328, ob_328 P) ::
  (nat_lit 329, ob_329 P) ::
  (nat_lit 330, ob_330 P) ::
  (nat_lit 331, ob_331 P) ::
  (nat_lit 332, ob_332 P) ::
  (nat_lit 335, ob_335 P) ::
  (nat_lit 337, ob_337 P) ::
  (nat_lit 338, ob_338 P) ::
  (nat_lit 340, ob_340 P) ::
  (nat_lit 341, ob_341 P) ::
  (nat_lit 342, ob_342 P) ::
  (nat_lit 344, ob_344 P) ::
  (nat_lit 345, ob_345 P) ::
  (nat_lit 347, ob_347 P) ::
  (nat_lit 348, ob_348 P) ::
  (nat_lit 349, ob_349 P) ::
  (nat_lit 351, ob_351 P) ::
  (nat_lit 352, ob_352 P) ::
  (nat_lit 354, ob_354 P) ::
  (nat_lit 355, ob_355 P) ::
  (nat_lit 356, ob_356 P) ::
  (nat_lit 358, ob_358 P) ::
  (nat_lit 359, ob_359 P) ::
  (nat_lit 361, ob_361 P) ::
  (nat_lit 362, ob_362 P) ::
  (nat_lit 363, ob_363 P) ::
  (nat_lit 366, ob_366 P) ::
  (nat_lit 367, ob_367 P) ::
  (nat_lit 368, ob_368 P) ::
  (nat_lit 371, ob_371 P) ::
  (nat_lit 372, ob_372 P) ::
  (nat_lit 373, ob_373 P) ::
  (nat_lit 376, ob_376 P) ::
  (nat_lit 377, ob_377 P) ::
  (nat_lit 378, ob_378 P) ::
  (nat_lit 380, ob_380 P) ::
  (nat_lit 381, ob_381 P) ::
  (nat_lit 383, ob_383 P) ::
  (nat_lit 384, ob_384 P) ::
  (nat_lit 385, ob_385 P) ::
  (nat_lit 387, ob_387 P) ::
  (nat_lit 388, ob_388 P) ::
  (nat_lit 390, ob_390 P) ::
  (nat_lit 391, ob_391 P) ::
  (nat_lit 392, ob_392 P) ::
  (nat_lit 394, ob_394 P) ::
  (nat_lit 395, ob_395 P) ::
  (nat_lit 397, ob_397 P) ::
  (nat_lit 398, ob_398 P) ::
  (nat_lit 399, ob_399 P) ::
  (nat_lit 402, ob_402 P) ::
  (nat_lit 403, ob_403 P) ::
  (nat_lit 404, ob_404 P) ::
  (nat_lit 406, ob_406 P) ::
  (nat_lit 407, ob_407 P) ::
  (nat_lit 409, ob_409 P) ::
  (nat_lit 410, ob_410 P) ::
  (nat_lit 411, ob_411 P) ::
  (nat_lit 413, ob_413 P) ::
  (nat_lit 414, ob_414 P) ::
  (nat_lit 416, ob_416 P) ::
  (nat_lit 417, ob_417 P) :: []
noncomputable def qv : Program := { P0 with main := { P0.main with body := [st 32] } }
noncomputable def names : List Str := (P0.main.scope.names.map (·.1)).filter (fun n => n != ("law" : Str))
noncomputable def addrs : List Addr := [2, 3, 15, 17, 18, 20, 21, 22, 29, 31, 32, 34, 35, 36, 37, 38, 39, 42, 49, 50, 51, 54, 61, 62, 63, 66, 67, 69, 70, 72, 73, 74, 75, 77, 78, 80, 81, 82, 84, 85, 87, 88, 89, 91, 92, 94, 95, 96, 98, 99, 101, 102, 103, 105, 106, 108, 109, 110, 112, 113, 115, 116, 117, 119, 120, 122, 123, 124, 132, 134, 135, 137, 138, 139, 140, 141, 142, 143, 153, 155, 156, 158, 159, 160, 162, 163, 165, 166, 167, 169, 170, 172, 173, 174, 176, 177, 179, 180, 181, 183, 184, 186, 187, 188, 190, 191, 193, 194, 195, 197, 198, 200, 201, 202, 204, 205, 207, 208, 209, 211, 212, 214, 215, 216, 218, 219, 221, 222, 223, 225, 226, 228, 229, 230, 232, 233, 235, 236, 237, 239, 240, 242, 243, 244, 246, 247, 249, 250, 251, 253, 254, 256, 257, 258, 260, 261, 263, 264, 265, 267, 268, 270, 271, 272, 274, 275, 277, 278, 279, 281, 282, 284, 285, 286, 288, 289, 291, 292, 293, 295, 296, 298, 299, 300, 302, 303, 305, 306, 307, 309, 310, 312, 313, 314, 316, 317, 319, 320, 321, 323, 324, 326, 327, 328, 329, 330, 331, 332, 335, 337, 338, 340, 341, 342, 344, 345, 347, 348, 349, 351, 352, 354, 355, 356, 358, 359, 361, 362, 363, 366, 367, 368, 371, 372, 373, 376, 377, 378, 380, 381, 383, 384, 385, 387, 388, 390, 391, 392, 394, 395, 397, 398, 399, 402, 403, 404, 406, 407, 409, 410, 411, 413, 414, 416, 417]
theorem addrs_eq (P : Params) : addrs = (frag P).map (·.1) := by kernel_rfl
noncomputable abbrev hook : Hook := kmHook frag addrs addrs_eq [405, 393]
noncomputable abbrev rowW : RowW := PySem.Challenge.rw_on0186_01.row.toRowW
noncomputable def mo_1 (P : Params) : Obj := Obj.mk (.type "code") none (.fields #[vS "<module>" 182, vS "<module>" 183, vS "/claim/cut.py" 184, .int 1 0, .int 0 0, .int 0 0, .int 0 0, .int 0 0, .ref 11, .bool false, .int 181 0, .ref 12, .none, .none, .none, .none, .int 185 0, .int 1 0, vS "/claim/cut.py" 186]) #[]
noncomputable def mo_2 (P : Params) : Obj := Obj.mk (.type "frame") none .plain #[some (.ref 13), some (.ref 3), some (.ref 3), none, some (vS "__main__" 164), none, some (.ref 0)]
noncomputable def mo_3 (P : Params) : Obj := Obj.mk (.type "dict") none (.dict #[kE P "__name__" 165 (vS "markupmill.tree" 338), kE P "__doc__" 166 .none, kE P "__package__" 167 .none, kE P "__loader__" 168 (.builtin "__main__.__loader__#opaque"), kE P "__spec__" 169 .none, kE P "__annotations__" 170 (.ref 6), kE P "__builtins__" 171 (.ref 4), kE P "__file__" 173 (vS "/claim/cut.py" 172), kE P "__cached__" 174 .none, kE P "_wall" 193 (.ref 21), kE P "MarkupError" 224 (.ref 38), kE P "TreeFault" 240 (.ref 51), kE P "SheetFault" 256 (.ref 63), kE P "XSLT" 260 (vS "http://www.w3.org/1999/XSL/Transform" 259), kE P "is_instruction" 269 (.ref 73), kE P "attribute_of" 281 (.ref 81), kE P "needed" 291 (.ref 88), kE P "is_yes" 301 (.ref 95), kE P "body_of" 309 (.ref 102), kE P "is_blank" 316 (.ref 109), kE P "keeps_spaces" 326 (.ref 116), kE P "blank_texts" 337 (.ref 123), kE P "PARENTS" 342 (.ref 124), kE P "NodeRow" 384 (.ref 141)] 24) #[]
noncomputable def mo_4 (P : Params) : Obj := Obj.mk .none none (.fields #[.int 1 0, .int 0 0, .ref 20, .int 5 0, .int 0 0, .ref 27, .int 10 0, .int 0 0, .ref 47, .int 12 0, .int 0 0, .ref 59, .int 16 0, .int 0 0, .ref 72, .int 20 0, .int 0 0, .ref 80, .int 25 0, .int 0 0, .ref 87, .int 30 0, .int 0 0, .ref 94, .int 35 0, .int 0 0, .ref 101, .int 37 0, .int 0 0, .ref 108, .int 39 0, .int 0 0, .ref 115, .int 47 0, .int 0 0, .ref 122, .int 59 0, .int 0 0, .ref 130]) #[]
noncomputable def mo_5 (P : Params) : Obj := Obj.mk .none none (.func (FuncData.mk (Str.ofString "_wall") (Str.ofString "_wall") aa_wall.1 (.stmts bb_wall.1) ss_wall.1 0 [] .none .none .none .none none .none .none 0)) #[]
noncomputable def mo_6 (P : Params) : Obj := Obj.mk (.type "builtin_function_or_method") none (.fields #[.builtin "type.__prepare__", .type "type"]) #[]
noncomputable def mo_7 (P : Params) : Obj := Obj.mk (.type "dict") none (.dict #[kE P "__module__" 203 (vS "markupmill.errors" 194), kE P "__qualname__" 205 (vS "MarkupError" 204), kE P "__firstlineno__" 207 (.int 5 206), kE P "__init__" 215 (.ref 35), kE P "__static_attributes__" 217 (.ref 36)] 5) #[]
noncomputable def mo_8 (P : Params) : Obj := Obj.mk .none none (.fields #[.int 7 0, .int 4 0, .ref 34]) #[]
noncomputable def mo_9 (P : Params) : Obj := Obj.mk (.type "code") none (.fields #[vS "MarkupError" 198, vS "MarkupError" 199, vS "/claim/cut.py" 200, .int 5 0, .int 0 0, .int 0 0, .int 0 0, .int 0 0, .ref 25, .bool false, .int 181 0, .ref 26, .none, .none, .none, .none, .int 201 0, .int 5 0, vS "/claim/cut.py" 202]) #[]
noncomputable def mo_10 (P : Params) : Obj := Obj.mk (.type "frame") none .plain #[some (.ref 27), some (.ref 3), some (.ref 24), none, some (vS "markupmill.errors" 194), none, some (.ref 0)]
noncomputable def mo_11 (P : Params) : Obj := Obj.mk .none none (.func (FuncData.mk (Str.ofString "__init__") (Str.ofString "MarkupError.__init__") aa_MarkupError_init.1 (.stmts bb_MarkupError_init.1) ss_MarkupError_init.1 0 [] .none .none .none .none none .none .none 0)) #[]
noncomputable def mo_12 (P : Params) : Obj := Obj.mk (.type "super") none (.fields #[.ref 38, .ref 38, .ref 38]) #[]
noncomputable def mo_13 (P : Params) : Obj := Obj.mk (.type "builtin_function_or_method") none (.fields #[.builtin "object.__init_subclass__", .ref 38]) #[]
noncomputable def mo_14 (P : Params) : Obj := Obj.mk (.type "dict") none (.dict #[kE P "__module__" 232 (vS "markupmill.errors" 194), kE P "__qualname__" 234 (vS "TreeFault" 233), kE P "__firstlineno__" 236 (.int 10 235), kE P "__static_attributes__" 237 (.ref 49)] 4) #[]
noncomputable def mo_15 (P : Params) : Obj := Obj.mk (.type "code") none (.fields #[vS "TreeFault" 227, vS "TreeFault" 228, vS "/claim/cut.py" 229, .int 10 0, .int 0 0, .int 0 0, .int 0 0, .int 0 0, .ref 45, .bool false, .int 181 0, .ref 46, .none, .none, .none, .none, .int 230 0, .int 10 0, vS "/claim/cut.py" 231]) #[]
noncomputable def mo_16 (P : Params) : Obj := Obj.mk (.type "frame") none .plain #[some (.ref 47), some (.ref 3), some (.ref 44), none, some (vS "markupmill.errors" 194), none, some (.ref 0)]
noncomputable def mo_17 (P : Params) : Obj := Obj.mk (.type "super") none (.fields #[.ref 51, .ref 51, .ref 51]) #[]
noncomputable def mo_18 (P : Params) : Obj := Obj.mk (.type "builtin_function_or_method") none (.fields #[.builtin "object.__init_subclass__", .ref 51]) #[]
noncomputable def mo_19 (P : Params) : Obj := Obj.mk (.type "dict") none (.dict #[kE P "__module__" 248 (vS "markupmill.errors" 194), kE P "__qualname__" 250 (vS "SheetFault" 249), kE P "__firstlineno__" 252 (.int 12 251), kE P "__static_attributes__" 253 (.ref 61)] 4) #[]
noncomputable def mo_20 (P : Params) : Obj := Obj.mk (.type "code") none (.fields #[vS "SheetFault" 243, vS "SheetFault" 244, vS "/claim/cut.py" 245, .int 12 0, .int 0 0, .int 0 0, .int 0 0, .int 0 0, .ref 57, .bool false, .int 181 0, .ref 58, .none, .none, .none, .none, .int 246 0, .int 12 0, vS "/claim/cut.py" 247]) #[]
noncomputable def mo_21 (P : Params) : Obj := Obj.mk (.type "frame") none .plain #[some (.ref 59), some (.ref 3), some (.ref 56), none, some (vS "markupmill.errors" 194), none, some (.ref 0)]
noncomputable def mo_22 (P : Params) : Obj := Obj.mk (.type "super") none (.fields #[.ref 63, .ref 63, .ref 63]) #[]
noncomputable def mo_23 (P : Params) : Obj := Obj.mk (.type "builtin_function_or_method") none (.fields #[.builtin "object.__init_subclass__", .ref 63]) #[]
noncomputable def mo_24 (P : Params) : Obj := Obj.mk .none none (.func (FuncData.mk (Str.ofString "is_instruction") (Str.ofString "is_instruction") aa_is_instruction.1 (.stmts bb_is_instruction.1) ss_is_instruction.1 0 [] .none .none .none .none none .none .none 0)) #[]
noncomputable def mo_25 (P : Params) : Obj := Obj.mk .none none (.func (FuncData.mk (Str.ofString "attribute_of") (Str.ofString "attribute_of") aa_attribute_of.1 (.stmts bb_attribute_of.1) ss_attribute_of.1 0 [] .none .none .none .none none .none .none 0)) #[]
noncomputable def mo_26 (P : Params) : Obj := Obj.mk .none none (.func (FuncData.mk (Str.ofString "needed") (Str.ofString "needed") aa_needed.1 (.stmts bb_needed.1) ss_needed.1 0 [] .none .none .none .none none .none .none 0)) #[]
noncomputable def mo_27 (P : Params) : Obj := Obj.mk .none none (.func (FuncData.mk (Str.ofString "is_yes") (Str.ofString "is_yes") aa_is_yes.1 (.stmts bb_is_yes.1) ss_is_yes.1 0 [] .none .none .none .none none .none .none 0)) #[]
noncomputable def mo_28 (P : Params) : Obj := Obj.mk .none none (.func (FuncData.mk (Str.ofString "body_of") (Str.ofString "body_of") aa_body_of.1 (.stmts bb_body_of.1) ss_body_of.1 0 [] .none .none .none .none none .none .none 0)) #[]
noncomputable def mo_29 (P : Params) : Obj := Obj.mk .none none (.func (FuncData.mk (Str.ofString "is_blank") (Str.ofString "is_blank") aa_is_blank.1 (.stmts bb_is_blank.1) ss_is_blank.1 0 [] .none .none .none .none none .none .none 0)) #[]
noncomputable def mo_30 (P : Params) : Obj := Obj.mk .none none (.func (FuncData.mk (Str.ofString "keeps_spaces") (Str.ofString "keeps_spaces") aa_keeps_spaces.1 (.stmts bb_keeps_spaces.1) ss_keeps_spaces.1 0 [] .none .none .none .none none .none .none 0)) #[]
noncomputable def mo_31 (P : Params) : Obj := Obj.mk .none none (.func (FuncData.mk (Str.ofString "blank_texts") (Str.ofString "blank_texts") aa_blank_texts.1 (.stmts bb_blank_texts.1) ss_blank_texts.1 0 [] .none .none .none .none none .none .none 0)) #[]
noncomputable def mo_32 (P : Params) : Obj := Obj.mk (.type "dict") none (.dict #[kE P "__module__" 350 (vS "markupmill.tree" 338), kE P "__qualname__" 352 (vS "NodeRow" 351), kE P "__firstlineno__" 354 (.int 59 353), kE P "__init__" 367 (.ref 138), kE P "__static_attributes__" 377 (.ref 139)] 5) #[]
noncomputable def mo_33 (P : Params) : Obj := Obj.mk .none none (.fields #[.int 61 0, .int 4 0, .ref 137]) #[]
noncomputable def mo_34 (P : Params) : Obj := Obj.mk (.type "code") none (.fields #[vS "NodeRow" 345, vS "NodeRow" 346, vS "/claim/cut.py" 347, .int 59 0, .int 0 0, .int 0 0, .int 0 0, .int 0 0, .ref 128, .bool false, .int 181 0, .ref 129, .none, .none, .none, .none, .int 348 0, .int 59 0, vS "/claim/cut.py" 349]) #[]
noncomputable def mo_35 (P : Params) : Obj := Obj.mk (.type "frame") none .plain #[some (.ref 130), some (.ref 3), some (.ref 127), none, some (vS "markupmill.tree" 338), none, some (.ref 0)]
noncomputable def mo_36 (P : Params) : Obj := Obj.mk .none none (.func (FuncData.mk (Str.ofString "__init__") (Str.ofString "NodeRow.__init__") aa_NodeRow_init.1 (.stmts bb_NodeRow_init.1) ss_NodeRow_init.1 0 [] .none .none .none .none none .none .none 0)) #[]
noncomputable def mo_37 (P : Params) : Obj := Obj.mk (.type "super") none (.fields #[.ref 141, .ref 141, .ref 141]) #[]
noncomputable def mo_38 (P : Params) : Obj := Obj.mk (.type "builtin_function_or_method") none (.fields #[.builtin "object.__init_subclass__", .ref 141]) #[]
noncomputable def mo_39 (P : Params) : Obj := Obj.mk .none none (.fields #[.int 1 0, .int 0 0, .ref 20, .int 5 0, .int 0 0, .ref 27, .int 10 0, .int 0 0, .ref 47, .int 12 0, .int 0 0, .ref 59, .int 16 0, .int 0 0, .ref 72, .int 20 0, .int 0 0, .ref 80, .int 25 0, .int 0 0, .ref 87, .int 30 0, .int 0 0, .ref 94, .int 35 0, .int 0 0, .ref 101, .int 37 0, .int 0 0, .ref 108, .int 39 0, .int 0 0, .ref 115, .int 47 0, .int 0 0, .ref 122, .int 59 0, .int 0 0, .ref 130, .int 71 0, .int 0 0, .ref 151, .int 168 0, .int 0 0, .ref 340, .int 175 0, .int 0 0, .ref 347, .int 182 0, .int 0 0, .ref 354, .int 184 0, .int 0 0, .ref 361, .int 194 0, .int 0 0, .ref 366, .int 217 0, .int 0 0, .ref 371, .int 219 0, .int 0 0, .ref 376, .int 226 0, .int 0 0, .ref 383, .int 232 0, .int 0 0, .ref 390, .int 238 0, .int 0 0, .ref 397, .int 255 0, .int 0 0, .ref 402, .int 265 0, .int 0 0, .ref 409, .int 270 0, .int 0 0, .ref 416]) #[]
noncomputable def mo_40 (P : Params) : Obj := Obj.mk (.type "dict") none (.dict #[kE P "__module__" 392 (vS "markupmill.tree" 338), kE P "__qualname__" 394 (vS "Tree" 393), kE P "__firstlineno__" 396 (.int 71 395), kE P "__init__" 403 (.ref 159), kE P "new_row" 416 (.ref 166), kE P "row" 424 (.ref 173), kE P "new_root" 431 (.ref 180), kE P "add_child" 445 (.ref 187), kE P "add_element" 456 (.ref 194), kE P "add_text" 465 (.ref 201), kE P "add_comment" 474 (.ref 208), kE P "add_instruction" 484 (.ref 215), kE P "element_row" 493 (.ref 222), kE P "set_attribute" 508 (.ref 229), kE P "add_namespace" 518 (.ref 236), kE P "set_value" 527 (.ref 243), kE P "kind" 535 (.ref 250), kE P "name" 543 (.ref 257), kE P "uri" 551 (.ref 264), kE P "local" 559 (.ref 271), kE P "value" 567 (.ref 278), kE P "parent" 575 (.ref 285), kE P "children" 583 (.ref 292), kE P "attributes" 591 (.ref 299), kE P "namespaces" 599 (.ref 306), kE P "root_of" 607 (.ref 313), kE P "is_above" 616 (.ref 320), kE P "attribute_value" 626 (.ref 327), kE P "__static_attributes__" 628 (.ref 328)] 29) #[]
noncomputable def mo_41 (P : Params) : Obj := Obj.mk .none none (.fields #[.int 73 0, .int 4 0, .ref 158, .int 76 0, .int 4 0, .ref 165, .int 80 0, .int 4 0, .ref 172, .int 85 0, .int 4 0, .ref 179, .int 88 0, .int 4 0, .ref 186, .int 96 0, .int 4 0, .ref 193, .int 99 0, .int 4 0, .ref 200, .int 102 0, .int 4 0, .ref 207, .int 105 0, .int 4 0, .ref 214, .int 108 0, .int 4 0, .ref 221, .int 114 0, .int 4 0, .ref 228, .int 126 0, .int 4 0, .ref 235, .int 129 0, .int 4 0, .ref 242, .int 132 0, .int 4 0, .ref 249, .int 135 0, .int 4 0, .ref 256, .int 138 0, .int 4 0, .ref 263, .int 141 0, .int 4 0, .ref 270, .int 144 0, .int 4 0, .ref 277, .int 147 0, .int 4 0, .ref 284, .int 150 0, .int 4 0, .ref 291, .int 153 0, .int 4 0, .ref 298, .int 156 0, .int 4 0, .ref 305, .int 159 0, .int 4 0, .ref 312, .int 162 0, .int 4 0, .ref 319, .int 165 0, .int 4 0, .ref 326]) #[]
noncomputable def mo_42 (P : Params) : Obj := Obj.mk (.type "code") none (.fields #[vS "Tree" 387, vS "Tree" 388, vS "/claim/cut.py" 389, .int 71 0, .int 0 0, .int 0 0, .int 0 0, .int 0 0, .ref 149, .bool false, .int 181 0, .ref 150, .none, .none, .none, .none, .int 390 0, .int 71 0, vS "/claim/cut.py" 391]) #[]
noncomputable def mo_43 (P : Params) : Obj := Obj.mk (.type "frame") none .plain #[some (.ref 151), some (.ref 3), some (.ref 148), none, some (vS "markupmill.tree" 338), none, some (.ref 0)]
noncomputable def mo_44 (P : Params) : Obj := Obj.mk .none none (.func (FuncData.mk (Str.ofString "__init__") (Str.ofString "Tree.__init__") aa_Tree_init.1 (.stmts bb_Tree_init.1) ss_Tree_init.1 0 [] .none .none .none .none none .none .none 0)) #[]
noncomputable def mo_45 (P : Params) : Obj := Obj.mk .none none (.func (FuncData.mk (Str.ofString "new_row") (Str.ofString "Tree.new_row") aa_Tree_new_row.1 (.stmts bb_Tree_new_row.1) ss_Tree_new_row.1 0 [] .none .none .none .none none .none .none 0)) #[]
noncomputable def mo_46 (P : Params) : Obj := Obj.mk .none none (.func (FuncData.mk (Str.ofString "row") (Str.ofString "Tree.row") aa_Tree_row.1 (.stmts bb_Tree_row.1) ss_Tree_row.1 0 [] .none .none .none .none none .none .none 0)) #[]
noncomputable def mo_47 (P : Params) : Obj := Obj.mk .none none (.func (FuncData.mk (Str.ofString "new_root") (Str.ofString "Tree.new_root") aa_Tree_new_root.1 (.stmts bb_Tree_new_root.1) ss_Tree_new_root.1 0 [] .none .none .none .none none .none .none 0)) #[]
noncomputable def mo_48 (P : Params) : Obj := Obj.mk .none none (.func (FuncData.mk (Str.ofString "add_child") (Str.ofString "Tree.add_child") aa_Tree_add_child.1 (.stmts bb_Tree_add_child.1) ss_Tree_add_child.1 0 [] .none .none .none .none none .none .none 0)) #[]
noncomputable def mo_49 (P : Params) : Obj := Obj.mk .none none (.func (FuncData.mk (Str.ofString "add_element") (Str.ofString "Tree.add_element") aa_Tree_add_element.1 (.stmts bb_Tree_add_element.1) ss_Tree_add_element.1 0 [] .none .none .none .none none .none .none 0)) #[]
noncomputable def mo_50 (P : Params) : Obj := Obj.mk .none none (.func (FuncData.mk (Str.ofString "add_text") (Str.ofString "Tree.add_text") aa_Tree_add_text.1 (.stmts bb_Tree_add_text.1) ss_Tree_add_text.1 0 [] .none .none .none .none none .none .none 0)) #[]
noncomputable def mo_51 (P : Params) : Obj := Obj.mk .none none (.func (FuncData.mk (Str.ofString "add_comment") (Str.ofString "Tree.add_comment") aa_Tree_add_comment.1 (.stmts bb_Tree_add_comment.1) ss_Tree_add_comment.1 0 [] .none .none .none .none none .none .none 0)) #[]
noncomputable def mo_52 (P : Params) : Obj := Obj.mk .none none (.func (FuncData.mk (Str.ofString "add_instruction") (Str.ofString "Tree.add_instruction") aa_Tree_add_instruction.1 (.stmts bb_Tree_add_instruction.1) ss_Tree_add_instruction.1 0 [] .none .none .none .none none .none .none 0)) #[]
noncomputable def mo_53 (P : Params) : Obj := Obj.mk .none none (.func (FuncData.mk (Str.ofString "element_row") (Str.ofString "Tree.element_row") aa_Tree_element_row.1 (.stmts bb_Tree_element_row.1) ss_Tree_element_row.1 0 [] .none .none .none .none none .none .none 0)) #[]
noncomputable def mo_54 (P : Params) : Obj := Obj.mk .none none (.func (FuncData.mk (Str.ofString "set_attribute") (Str.ofString "Tree.set_attribute") aa_Tree_set_attribute.1 (.stmts bb_Tree_set_attribute.1) ss_Tree_set_attribute.1 0 [] .none .none .none .none none .none .none 0)) #[]
noncomputable def mo_55 (P : Params) : Obj := Obj.mk .none none (.func (FuncData.mk (Str.ofString "add_namespace") (Str.ofString "Tree.add_namespace") aa_Tree_add_namespace.1 (.stmts bb_Tree_add_namespace.1) ss_Tree_add_namespace.1 0 [] .none .none .none .none none .none .none 0)) #[]
noncomputable def mo_56 (P : Params) : Obj := Obj.mk .none none (.func (FuncData.mk (Str.ofString "set_value") (Str.ofString "Tree.set_value") aa_Tree_set_value.1 (.stmts bb_Tree_set_value.1) ss_Tree_set_value.1 0 [] .none .none .none .none none .none .none 0)) #[]
noncomputable def mo_57 (P : Params) : Obj := Obj.mk .none none (.func (FuncData.mk (Str.ofString "kind") (Str.ofString "Tree.kind") aa_Tree_kind.1 (.stmts bb_Tree_kind.1) ss_Tree_kind.1 0 [] .none .none .none .none none .none .none 0)) #[]
noncomputable def mo_58 (P : Params) : Obj := Obj.mk .none none (.func (FuncData.mk (Str.ofString "name") (Str.ofString "Tree.name") aa_Tree_name.1 (.stmts bb_Tree_name.1) ss_Tree_name.1 0 [] .none .none .none .none none .none .none 0)) #[]
noncomputable def mo_59 (P : Params) : Obj := Obj.mk .none none (.func (FuncData.mk (Str.ofString "uri") (Str.ofString "Tree.uri") aa_Tree_uri.1 (.stmts bb_Tree_uri.1) ss_Tree_uri.1 0 [] .none .none .none .none none .none .none 0)) #[]
noncomputable def mo_60 (P : Params) : Obj := Obj.mk .none none (.func (FuncData.mk (Str.ofString "local") (Str.ofString "Tree.local") aa_Tree_local.1 (.stmts bb_Tree_local.1) ss_Tree_local.1 0 [] .none .none .none .none none .none .none 0)) #[]
noncomputable def mo_61 (P : Params) : Obj := Obj.mk .none none (.func (FuncData.mk (Str.ofString "value") (Str.ofString "Tree.value") aa_Tree_value.1 (.stmts bb_Tree_value.1) ss_Tree_value.1 0 [] .none .none .none .none none .none .none 0)) #[]
noncomputable def mo_62 (P : Params) : Obj := Obj.mk .none none (.func (FuncData.mk (Str.ofString "parent") (Str.ofString "Tree.parent") aa_Tree_parent.1 (.stmts bb_Tree_parent.1) ss_Tree_parent.1 0 [] .none .none .none .none none .none .none 0)) #[]
noncomputable def mo_63 (P : Params) : Obj := Obj.mk .none none (.func (FuncData.mk (Str.ofString "children") (Str.ofString "Tree.children") aa_Tree_children.1 (.stmts bb_Tree_children.1) ss_Tree_children.1 0 [] .none .none .none .none none .none .none 0)) #[]
noncomputable def mo_64 (P : Params) : Obj := Obj.mk .none none (.func (FuncData.mk (Str.ofString "attributes") (Str.ofString "Tree.attributes") aa_Tree_attributes.1 (.stmts bb_Tree_attributes.1) ss_Tree_attributes.1 0 [] .none .none .none .none none .none .none 0)) #[]
noncomputable def mo_65 (P : Params) : Obj := Obj.mk .none none (.func (FuncData.mk (Str.ofString "namespaces") (Str.ofString "Tree.namespaces") aa_Tree_namespaces.1 (.stmts bb_Tree_namespaces.1) ss_Tree_namespaces.1 0 [] .none .none .none .none none .none .none 0)) #[]
noncomputable def mo_66 (P : Params) : Obj := Obj.mk .none none (.func (FuncData.mk (Str.ofString "root_of") (Str.ofString "Tree.root_of") aa_Tree_root_of.1 (.stmts bb_Tree_root_of.1) ss_Tree_root_of.1 0 [] .none .none .none .none none .none .none 0)) #[]
noncomputable def mo_67 (P : Params) : Obj := Obj.mk .none none (.func (FuncData.mk (Str.ofString "is_above") (Str.ofString "Tree.is_above") aa_Tree_is_above.1 (.stmts bb_Tree_is_above.1) ss_Tree_is_above.1 0 [] .none .none .none .none none .none .none 0)) #[]
noncomputable def mo_68 (P : Params) : Obj := Obj.mk .none none (.func (FuncData.mk (Str.ofString "attribute_value") (Str.ofString "Tree.attribute_value") aa_Tree_attribute_value.1 (.stmts bb_Tree_attribute_value.1) ss_Tree_attribute_value.1 0 [] .none .none .none .none none .none .none 0)) #[]
noncomputable def mo_69 (P : Params) : Obj := Obj.mk (.type "super") none (.fields #[.ref 330, .ref 330, .ref 330]) #[]
noncomputable def mo_70 (P : Params) : Obj := Obj.mk (.type "builtin_function_or_method") none (.fields #[.builtin "object.__init_subclass__", .ref 330]) #[]
noncomputable def mo_71 (P : Params) : Obj := Obj.mk .none none (.func (FuncData.mk (Str.ofString "_law_pool") (Str.ofString "_law_pool") aa_law_pool.1 (.stmts bb_law_pool.1) ss_law_pool.1 0 [] .none .none .none .none none .none .none 0)) #[]
noncomputable def mo_72 (P : Params) : Obj := Obj.mk .none none (.func (FuncData.mk (Str.ofString "_law_take") (Str.ofString "_law_take") aa_law_take.1 (.stmts bb_law_take.1) ss_law_take.1 0 [] .none .none .none .none none .none .none 0)) #[]
noncomputable def mo_73 (P : Params) : Obj := Obj.mk .none none (.func (FuncData.mk (Str.ofString "_law_one") (Str.ofString "_law_one") aa_law_one.1 (.stmts bb_law_one.1) ss_law_one.1 0 [] .none .none .none .none none .none .none 0)) #[]
noncomputable def mo_74 (P : Params) : Obj := Obj.mk .none none (.func (FuncData.mk (Str.ofString "_law_attributes") (Str.ofString "_law_attributes") aa_law_attributes.1 (.stmts bb_law_attributes.1) ss_law_attributes.1 0 [] .none .none .none .none none .none .none 0)) #[]
noncomputable def mo_75 (P : Params) : Obj := Obj.mk .none none (.func (FuncData.mk (Str.ofString "_law_document") (Str.ofString "_law_document") aa_law_document.1 (.stmts bb_law_document.1) ss_law_document.1 0 [] .none .none .none .none none .none .none 0)) #[]
noncomputable def mo_76 (P : Params) : Obj := Obj.mk .none none (.func (FuncData.mk (Str.ofString "_law_inner") (Str.ofString "_law_inner") aa_law_inner.1 (.stmts bb_law_inner.1) ss_law_inner.1 0 [] .none .none .none .none none .none .none 0)) #[]
noncomputable def mo_77 (P : Params) : Obj := Obj.mk .none none (.func (FuncData.mk (Str.ofString "_law_blanks") (Str.ofString "_law_blanks") aa_law_blanks.1 (.stmts bb_law_blanks.1) ss_law_blanks.1 0 [] .none .none .none .none none .none .none 0)) #[]
noncomputable def mo_78 (P : Params) : Obj := Obj.mk .none none (.func (FuncData.mk (Str.ofString "_law_kept") (Str.ofString "_law_kept") aa_law_kept.1 (.stmts bb_law_kept.1) ss_law_kept.1 0 [] .none .none .none .none none .none .none 0)) #[]
noncomputable def mo_79 (P : Params) : Obj := Obj.mk .none none (.func (FuncData.mk (Str.ofString "_law_fell") (Str.ofString "_law_fell") aa_law_fell.1 (.stmts bb_law_fell.1) ss_law_fell.1 0 [] .none .none .none .none none .none .none 0)) #[]
noncomputable def mo_80 (P : Params) : Obj := Obj.mk .none none (.func (FuncData.mk (Str.ofString "_law_element_right") (Str.ofString "_law_element_right") aa_law_element_right.1 (.stmts bb_law_element_right.1) ss_law_element_right.1 0 [] .none .none .none .none none .none .none 0)) #[]
noncomputable def mo_81 (P : Params) : Obj := Obj.mk .none none (.func (FuncData.mk (Str.ofString "_law_row_right") (Str.ofString "_law_row_right") aa_law_row_right.1 (.stmts bb_law_row_right.1) ss_law_row_right.1 0 [] .none .none .none .none none .none .none 0)) #[]
noncomputable def mo_82 (P : Params) : Obj := Obj.mk .none none (.func (FuncData.mk (Str.ofString "_law_fixed_right") (Str.ofString "_law_fixed_right") aa_law_fixed_right.1 (.stmts bb_law_fixed_right.1) ss_law_fixed_right.1 0 [] .none .none .none .none none .none .none 0)) #[]
noncomputable def mo_83 (P : Params) : Obj := Obj.mk .none none (.func (FuncData.mk (Str.ofString "law") (Str.ofString "law") aa_law.1 (.stmts bb_law.1) ss_law.1 0 [] .none .none .none .none none .none .none 0)) #[]
noncomputable abbrev heap0 (P : Params) : Heap := boot_heap P
noncomputable def treeA (P : Params) : BT := (.node (boot_o_0 P) (.node (boot_o_1 P) (.node (boot_o_3 P) (.node (ob_15 P) .nil .nil) (.node (ob_15 P) .nil .nil)) (.node (boot_o_5 P) (.node (boot_o_9 P) .nil .nil) (.node (mo_1 P) .nil .nil))) (.node (boot_o_2 P) (.node (boot_o_4 P) (.node (boot_o_8 P) .nil .nil) (.node (boot_o_8 P) .nil .nil)) (.node (boot_o_6 P) (.node (boot_o_10 P) .nil .nil) (.node (mo_2 P) .nil .nil))))
noncomputable def treeM (P : Params) : BT := (.node (boot_o_0 P) (.node (boot_o_1 P) (.node (mo_3 P) (.node (ob_15 P) (.node (ob_15 P) (.node (ob_31 P) (.node (ob_63 P) (.node (mo_32 P) .nil .nil) .nil) (.node (ob_95 P) .nil .nil)) (.node (mo_15 P) (.node (mo_25 P) (.node (ob_143 P) .nil .nil) .nil) (.node (boot_o_8 P) .nil .nil))) (.node (mo_6 P) (.node (ob_39 P) (.node (mo_24 P) (.node (ob_15 P) .nil .nil) .nil) (.node (ob_15 P) .nil .nil)) (.node (mo_6 P) (.node (ob_87 P) .nil .nil) (.node (ob_119 P) .nil .nil)))) (.node (ob_15 P) (.node (mo_5 P) (.node (ob_35 P) (.node (ob_15 P) (.node (mo_35 P) .nil .nil) .nil) (.node (ob_15 P) .nil .nil)) (.node (ob_51 P) (.node (boot_o_8 P) .nil .nil) (.node (ob_115 P) .nil .nil))) (.node (mo_9 P) (.node (mo_6 P) (.node (ob_15 P) (.node (ob_139 P) .nil .nil) .nil) (.node (mo_29 P) .nil .nil)) (.node (mo_20 P) (.node (ob_91 P) .nil .nil) (.node (ob_123 P) .nil .nil))))) (.node (boot_o_5 P) (.node (boot_o_9 P) (.node (ob_17 P) (.node (mo_11 P) (.node (mo_23 P) (.node (mo_33 P) .nil .nil) .nil) (.node (boot_o_8 P) .nil .nil)) (.node (ob_15 P) (.node (ob_81 P) (.node (mo_38 P) .nil .nil) .nil) (.node (ob_15 P) .nil .nil))) (.node (ob_15 P) (.node (mo_13 P) (.node (ob_73 P) (.node (ob_137 P) .nil .nil) .nil) (.node (ob_105 P) .nil .nil)) (.node (ob_15 P) (.node (ob_15 P) .nil .nil) (.node (mo_31 P) .nil .nil)))) (.node (mo_1 P) (.node (ob_21 P) (.node (ob_37 P) (.node (ob_69 P) (.node (boot_o_8 P) .nil .nil) .nil) (.node (ob_101 P) .nil .nil)) (.node (mo_18 P) (.node (ob_15 P) .nil .nil) (.node (ob_15 P) .nil .nil))) (.node (ob_15 P) (.node (ob_15 P) (.node (ob_77 P) (.node (ob_141 P) .nil .nil) .nil) (.node (ob_109 P) .nil .nil)) (.node (ob_15 P) (.node (mo_27 P) .nil .nil) (.node (ob_15 P) .nil .nil)))))) (.node (ob_2 P) (.node (boot_o_4 P) (.node (boot_o_8 P) (.node (boot_o_8 P) (.node (ob_15 P) (.node (mo_22 P) (.node (ob_15 P) .nil .nil) .nil) (.node (ob_15 P) .nil .nil)) (.node (mo_16 P) (.node (ob_80 P) (.node (mo_37 P) .nil .nil) .nil) (.node (ob_112 P) .nil .nil))) (.node (mo_7 P) (.node (mo_12 P) (.node (ob_72 P) (.node (mo_36 P) .nil .nil) .nil) (.node (boot_o_8 P) .nil .nil)) (.node (mo_19 P) (.node (ob_88 P) .nil .nil) (.node (ob_15 P) .nil .nil)))) (.node (mo_4 P) (.node (ob_20 P) (.node (ob_36 P) (.node (boot_o_8 P) (.node (ob_15 P) .nil .nil) .nil) (.node (mo_28 P) .nil .nil)) (.node (mo_17 P) (.node (ob_84 P) .nil .nil) (.node (ob_116 P) .nil .nil))) (.node (mo_10 P) (.node (mo_14 P) (.node (boot_o_8 P) (.node (ob_140 P) .nil .nil) .nil) (.node (ob_108 P) .nil .nil)) (.node (mo_21 P) (.node (ob_15 P) .nil .nil) (.node (ob_124 P) .nil .nil))))) (.node (boot_o_6 P) (.node (boot_o_10 P) (.node (ob_15 P) (.node (ob_34 P) (.node (ob_66 P) (.node (mo_34 P) .nil .nil) .nil) (.node (ob_98 P) .nil .nil)) (.node (ob_50 P) (.node (ob_15 P) .nil .nil) (.node (mo_30 P) .nil .nil))) (.node (mo_8 P) (.node (ob_42 P) (.node (ob_74 P) (.node (ob_138 P) .nil .nil) .nil) (.node (ob_15 P) .nil .nil)) (.node (boot_o_8 P) (.node (boot_o_8 P) .nil .nil) (.node (ob_122 P) .nil .nil)))) (.node (mo_2 P) (.node (ob_22 P) (.node (ob_38 P) (.node (ob_15 P) (.node (ob_134 P) .nil .nil) .nil) (.node (ob_102 P) .nil .nil)) (.node (ob_42 P) (.node (mo_26 P) .nil .nil) (.node (boot_o_8 P) .nil .nil))) (.node (boot_o_8 P) (.node (boot_o_8 P) (.node (ob_15 P) (.node (ob_142 P) .nil .nil) .nil) (.node (ob_15 P) .nil .nil)) (.node (ob_62 P) (.node (ob_94 P) .nil .nil) (.node (mo_6 P) .nil .nil)))))))
noncomputable def listM (P : Params) : List Obj := [boot_o_0 P, boot_o_1 P, ob_2 P, mo_3 P, boot_o_4 P, boot_o_5 P, boot_o_6 P, ob_15 P, boot_o_8 P, boot_o_9 P, boot_o_10 P, ob_15 P, mo_4 P, mo_1 P, mo_2 P, ob_15 P, boot_o_8 P, ob_17 P, ob_15 P, mo_5 P, ob_20 P, ob_21 P, ob_22 P, mo_6 P, mo_7 P, ob_15 P, mo_8 P, mo_9 P, mo_10 P, ob_15 P, boot_o_8 P, ob_31 P, ob_15 P, mo_11 P, ob_34 P, ob_35 P, ob_36 P, ob_37 P, ob_38 P, ob_39 P, mo_12 P, mo_13 P, ob_42 P, mo_6 P, mo_14 P, ob_15 P, boot_o_8 P, mo_15 P, mo_16 P, ob_15 P, ob_50 P, ob_51 P, mo_17 P, mo_18 P, ob_42 P, mo_6 P, mo_19 P, ob_15 P, boot_o_8 P, mo_20 P, mo_21 P, ob_15 P, ob_62 P, ob_63 P, mo_22 P, mo_23 P, ob_66 P, ob_15 P, boot_o_8 P, ob_69 P, ob_15 P, mo_24 P, ob_72 P, ob_73 P, ob_74 P, ob_15 P, boot_o_8 P, ob_77 P, ob_15 P, mo_25 P, ob_80 P, ob_81 P, ob_15 P, boot_o_8 P, ob_84 P, ob_15 P, mo_26 P, ob_87 P, ob_88 P, ob_15 P, boot_o_8 P, ob_91 P, ob_15 P, mo_27 P, ob_94 P, ob_95 P, ob_15 P, boot_o_8 P, ob_98 P, ob_15 P, mo_28 P, ob_101 P, ob_102 P, ob_15 P, boot_o_8 P, ob_105 P, ob_15 P, mo_29 P, ob_108 P, ob_109 P, ob_15 P, boot_o_8 P, ob_112 P, ob_15 P, mo_30 P, ob_115 P, ob_116 P, ob_15 P, boot_o_8 P, ob_119 P, ob_15 P, mo_31 P, ob_122 P, ob_123 P, ob_124 P, ob_15 P, mo_6 P, mo_32 P, ob_15 P, mo_33 P, mo_34 P, mo_35 P, ob_15 P, boot_o_8 P, ob_134 P, ob_15 P, mo_36 P, ob_137 P, ob_138 P, ob_139 P, ob_140 P, ob_141 P, ob_142 P, ob_143 P, mo_37 P, mo_38 P]
noncomputable def listF (P : Params) : List Obj := [boot_o_0 P, boot_o_1 P, ob_2 P, ob_3 P, boot_o_4 P, boot_o_5 P, boot_o_6 P, ob_15 P, boot_o_8 P, boot_o_9 P, boot_o_10 P, ob_15 P, mo_39 P, mo_1 P, mo_2 P, ob_15 P, boot_o_8 P, ob_17 P, ob_15 P, mo_5 P, ob_20 P, ob_21 P, ob_22 P, mo_6 P, mo_7 P, ob_15 P, mo_8 P, mo_9 P, mo_10 P, ob_15 P, boot_o_8 P, ob_31 P, ob_15 P, mo_11 P, ob_34 P, ob_35 P, ob_36 P, ob_37 P, ob_38 P, ob_39 P, mo_12 P, mo_13 P, ob_42 P, mo_6 P, mo_14 P, ob_15 P, boot_o_8 P, mo_15 P, mo_16 P, ob_15 P, ob_50 P, ob_51 P, mo_17 P, mo_18 P, ob_42 P, mo_6 P, mo_19 P, ob_15 P, boot_o_8 P, mo_20 P, mo_21 P, ob_15 P, ob_62 P, ob_63 P, mo_22 P, mo_23 P, ob_66 P, ob_15 P, boot_o_8 P, ob_69 P, ob_15 P, mo_24 P, ob_72 P, ob_73 P, ob_74 P, ob_15 P, boot_o_8 P, ob_77 P, ob_15 P, mo_25 P, ob_80 P, ob_81 P, ob_15 P, boot_o_8 P, ob_84 P, ob_15 P, mo_26 P, ob_87 P, ob_88 P, ob_15 P, boot_o_8 P, ob_91 P, ob_15 P, mo_27 P, ob_94 P, ob_95 P, ob_15 P, boot_o_8 P, ob_98 P, ob_15 P, mo_28 P, ob_101 P, ob_102 P, ob_15 P, boot_o_8 P, ob_105 P, ob_15 P, mo_29 P, ob_108 P, ob_109 P, ob_15 P, boot_o_8 P, ob_112 P, ob_15 P, mo_30 P, ob_115 P, ob_116 P, ob_15 P, boot_o_8 P, ob_119 P, ob_15 P, mo_31 P, ob_122 P, ob_123 P, ob_124 P, ob_15 P, mo_6 P, mo_32 P, ob_15 P, mo_33 P, mo_34 P, mo_35 P, ob_15 P, boot_o_8 P, ob_134 P, ob_15 P, mo_36 P, ob_137 P, ob_138 P, ob_139 P, ob_140 P, ob_141 P, ob_142 P, ob_143 P, mo_37 P, mo_38 P, ob_15 P, mo_6 P, mo_40 P, ob_15 P, mo_41 P, mo_42 P, mo_43 P, ob_15 P, boot_o_8 P, ob_155 P, ob_15 P, mo_44 P, ob_158 P, ob_159 P, ob_15 P, boot_o_8 P, ob_162 P, ob_15 P, mo_45 P, ob_165 P, ob_166 P, ob_15 P, boot_o_8 P, ob_169 P, ob_15 P, mo_46 P, ob_172 P, ob_173 P, ob_15 P, boot_o_8 P, ob_176 P, ob_15 P, mo_47 P, ob_179 P, ob_180 P, ob_15 P, boot_o_8 P, ob_183 P, ob_15 P, mo_48 P, ob_186 P, ob_187 P, ob_15 P, boot_o_8 P, ob_190 P, ob_15 P, mo_49 P, ob_193 P, ob_194 P, ob_15 P, boot_o_8 P, ob_197 P, ob_15 P, mo_50 P, ob_200 P, ob_201 P, ob_15 P, boot_o_8 P, ob_204 P, ob_15 P, mo_51 P, ob_207 P, ob_208 P, ob_15 P, boot_o_8 P, ob_211 P, ob_15 P, mo_52 P, ob_214 P, ob_215 P, ob_15 P, boot_o_8 P, ob_218 P, ob_15 P, mo_53 P, ob_221 P, ob_222 P, ob_15 P, boot_o_8 P, ob_225 P, ob_15 P, mo_54 P, ob_228 P, ob_229 P, ob_15 P, boot_o_8 P, ob_232 P, ob_15 P, mo_55 P, ob_235 P, ob_236 P, ob_15 P, boot_o_8 P, ob_239 P, ob_15 P, mo_56 P, ob_242 P, ob_243 P, ob_15 P, boot_o_8 P, ob_246 P, ob_15 P, mo_57 P, ob_249 P, ob_250 P, ob_15 P, boot_o_8 P, ob_253 P, ob_15 P, mo_58 P, ob_256 P, ob_257 P, ob_15 P, boot_o_8 P, ob_260 P, ob_15 P, mo_59 P, ob_263 P, ob_264 P, ob_15 P, boot_o_8 P, ob_267 P, ob_15 P, mo_60 P, ob_270 P, ob_271 P, ob_15 P, boot_o_8 P, ob_274 P, ob_15 P, mo_61 P, ob_277 P, ob_278 P, ob_15 P, boot_o_8 P, ob_281 P, ob_15 P, mo_62 P, ob_284 P, ob_285 P, ob_15 P, boot_o_8 P, ob_288 P, ob_15 P, mo_63 P, ob_291 P, ob_292 P, ob_15 P, boot_o_8 P, ob_295 P, ob_15 P, mo_64 P, ob_298 P, ob_299 P, ob_15 P, boot_o_8 P, ob_302 P, ob_15 P, mo_65 P, ob_305 P, ob_306 P, ob_15 P, boot_o_8 P, ob_309 P, ob_15 P, mo_66 P, ob_312 P, ob_313 P, ob_15 P, boot_o_8 P, ob_316 P, ob_15 P, mo_67 P, ob_319 P, ob_320 P, ob_15 P, boot_o_8 P, ob_323 P, ob_15 P, mo_68 P, ob_326 P, ob_327 P, ob_328 P, ob_329 P, ob_330 P, ob_331 P, ob_332 P, mo_69 P, mo_70 P, ob_15 P, boot_o_8 P, ob_337 P, ob_15 P, mo_71 P, ob_340 P, ob_341 P, ob_15 P, boot_o_8 P, ob_344 P, ob_15 P, mo_72 P, ob_347 P, ob_348 P, ob_15 P, boot_o_8 P, ob_351 P, ob_15 P, mo_73 P, ob_354 P, ob_355 P, ob_15 P, boot_o_8 P, ob_358 P, ob_15 P, mo_74 P, ob_361 P, ob_362 P, ob_15 P, boot_o_8 P, mo_75 P, ob_366 P, ob_367 P, ob_15 P, boot_o_8 P, mo_76 P, ob_371 P, ob_372 P, ob_15 P, boot_o_8 P, mo_77 P, ob_376 P, ob_377 P, ob_15 P, boot_o_8 P, ob_380 P, ob_15 P, mo_78 P, ob_383 P, ob_384 P, ob_15 P, boot_o_8 P, ob_387 P, ob_15 P, mo_79 P, ob_390 P, ob_391 P, ob_15 P, boot_o_8 P, ob_394 P, ob_395 P, mo_80 P, ob_397 P, ob_398 P, ob_15 P, boot_o_8 P, mo_81 P, ob_402 P, ob_403 P, ob_15 P, boot_o_8 P, ob_15 P, ob_407 P, mo_82 P, ob_409 P, ob_410 P, ob_15 P, boot_o_8 P, ob_413 P, ob_15 P, mo_83 P, ob_416 P, ob_417 P]
noncomputable abbrev gs0 : Array GenState := Array.mk []
noncomputable abbrev stA (w : World) (os : OsState) : SharedT := ⟨treeA w.params, 15, {}, gs0, {}, 187, os⟩
noncomputable abbrev stM (w : World) (os : OsState) : SharedT := ⟨treeM w.params, 146, {}, gs0, {}, 385, os⟩
noncomputable abbrev ann0 : Option Value := some (.ref 6)
noncomputable abbrev pos0 : Pos := { line := 0, col := 0, endLine := 0, endCol := 0 }
noncomputable abbrev posM : Pos := { line := 59, col := 0, endLine := 70, endCol := 28 }
noncomputable abbrev body0 : List Stmt := behindTheImports P0
noncomputable abbrev env0 : Env := { scope := P0.main.scope, locals := mainNs, globals := mainNs, cells := [], code := .ref 13, frame := some 14 }
noncomputable abbrev code0 : Code := .body body0 env0
theorem at_open : ∀ w : World, (fencedOpening treeTable P0 w 6000).map (fun s => (s.heap, s.gens, s.drawn, s.toks)) = some (heap0 w.params, gs0, {}, 181) := fun w => by kernel_rfl
theorem at_size : ∀ w : World, ((heap0 w.params).isNs mainGlobals && gs0.size == 0, (heap0 w.params).objs.size, (heap0 w.params).nsMap mainGlobals "__annotations__") = (true, 11, ann0) := fun w => by kernel_rfl
theorem at_pre : ∀ (w : World) (os : OsState), topGo treeTable P0 w 11 ann0 12 ⟨heap0 w.params, gs0, {}, 181, os⟩ (topStub P0) = some ((stA w os).abs, ⟨denote treeTable code0, code0, pos0, [topFrame pos0]⟩) := fun w os => by kernel_rfl
theorem at_block : ∀ (w : World) (os : OsState), segRunT treeTable P0 w 11 ann0 1 1 (stA w os) (blockOf body0 env0 code0 pos0 [topFrame pos0]) = some (.next, stA w os, code0, pos0) := fun w os => by kernel_rfl
theorem at_tree (P : Params) : (treeM P).list 146 = listM P := by kernel_rfl
theorem at_list : ∀ (w : World) (os : OsState), (segRunT treeTable P0 w 11 ann0 1 1222 (stA w os) (piecesOf (body0.take 18) env0 code0 pos0 [topFrame pos0])).map (fun r => (r.1, r.2.1.tree.list 146, r.2.1.n, r.2.1.life, r.2.1.gens, r.2.1.drawn, r.2.1.toks, r.2.1.os, r.2.2)) = some (.next, listM w.params, 146, {}, gs0, {}, 385, os, code0, posM) := fun w os => by kernel_rfl
theorem at_mid (w : World) (os : OsState) : segRun treeTable P0 w 11 ann0 1 1222 (stA w os).abs (piecesOf (body0.take 18) env0 code0 pos0 [topFrame pos0]) = some (.next, (stM w os).abs, code0, posM) := by
  obtain ⟨⟨f, ⟨T, n, life, gens, drawn, toks, os'⟩, c, q⟩, e, e'⟩ := Option.map_eq_some_iff.mp (at_list w os)
  dsimp only at e'
  simp only [Prod.mk.injEq] at e'
  obtain ⟨rfl, hT, rfl, rfl, rfl, rfl, rfl, rfl, rfl, rfl⟩ := e'
  rw [segRun_of e]
  have h : (SharedT.mk T 146 {} gs0 {} 385 os').abs = (stM w os').abs := by
    show Shared.mk ⟨(T.list 146).toArray, {}⟩ _ _ _ _ = Shared.mk ⟨((treeM w.params).list 146).toArray, {}⟩ _ _ _ _
    rw [hT, at_tree]
  rw [h]
noncomputable abbrev posF : Pos := { line := 270, col := 0, endLine := 276, endCol := 29 }
noncomputable abbrev stF (w : World) (os : OsState) : Shared := ⟨⟨(listF w.params).toArray, {}⟩, gs0, {}, 752, os⟩
theorem at_rest : ∀ (w : World) (os : OsState), (segRunT treeTable P0 w 11 ann0 1 1422 (stM w os) (piecesOf (body0.drop 18) env0 code0 posM [topFrame pos0])).map (fun r => (r.1, r.2.1.tree.list r.2.1.n, r.2.1.life, r.2.1.gens, r.2.1.drawn, r.2.1.toks, r.2.1.os, r.2.2)) = some (.next, listF w.params, {}, gs0, {}, 752, os, code0, posF) := fun w os => by kernel_rfl
theorem at_fin (w : World) (os : OsState) : segRun treeTable P0 w 11 ann0 1 1422 (stM w os).abs (piecesOf (body0.drop 18) env0 code0 posM [topFrame pos0]) = some (.next, stF w os, code0, posF) := by
  obtain ⟨⟨f, ⟨T, n, life, gens, drawn, toks, os'⟩, c, q⟩, e, e'⟩ := Option.map_eq_some_iff.mp (at_rest w os)
  dsimp only at e'
  simp only [Prod.mk.injEq] at e'
  obtain ⟨rfl, hT, rfl, rfl, rfl, rfl, rfl, rfl, rfl⟩ := e'
  rw [segRun_of e]
  have h : (SharedT.mk T n {} gs0 {} 752 os').abs = stF w os' := by
    show Shared.mk ⟨(T.list n).toArray, {}⟩ _ _ _ _ = Shared.mk ⟨(listF w.params).toArray, {}⟩ _ _ _ _
    rw [hT]
  rw [h]
theorem at_stop : ∀ (w : World) (os : OsState), topRun treeTable P0 w 11 ann0 2 (stF w os) ⟨doneF .next, code0, posF, [topFrame pos0]⟩ = some (stF w os) := fun w os => by kernel_rfl
theorem at_looks : ∀ w : World, (fun os : OsState => ((staticsOk (importedModules P0.main.body) (heap0 w.params) ⟨(listF w.params).toArray, {}⟩ && namesBound P0 ⟨(listF w.params).toArray, {}⟩ && gensDone (stF w os) && laidKept (heap0 w.params) ⟨(listF w.params).toArray, {}⟩),
    openSeen qv names (importedModules P0.main.body) (fun s => xlAt qv [] s && recOk (RowW.records rowW) s) true (stF w os), Hook.obs hook (stF w os))) = fun _ => (true, openGood qv names, Hook.val hook w) := fun w => by kernel_rfl
theorem two_runs {p : Program} {w : World} {m : Nat} {ann : Option Value} {a b c d e : Nat} {s₀ s₁ s₂ s₃ s₄ r : Shared} {l₁ l₂ l : List Stmt} {env : Env} {k : Code} {q p₁ p₂ p₃ p₄ : Pos} (hl : l₁ ++ (l₂ ++ []) = l)
    (h₁ : topGo treeTable p w m ann a s₀ (topStub p) = some (s₁, ⟨denote treeTable (.body l env), k, p₁, [topFrame q]⟩)) (h₂ : segRun treeTable p w m ann 1 b s₁ (blockOf l env k p₁ [topFrame q]) = some (.next, s₂, k, p₂))
    (h₃ : segRun treeTable p w m ann 1 c s₂ (piecesOf l₁ env k p₂ [topFrame q]) = some (.next, s₃, k, p₃)) (h₄ : segRun treeTable p w m ann 1 d s₃ (piecesOf l₂ env k p₃ [topFrame q]) = some (.next, s₄, k, p₄))
    (h₅ : topRun treeTable p w m ann e s₄ ⟨doneF .next, k, p₄, [topFrame q]⟩ = some r) : topRun treeTable p w m ann (a + (b + (c + (d + e)))) s₀ (topStub p) = some r := by
  have x := piece_app h₃ (piece_app h₄ (piece_nil h₅))
  rw [hl] at x
  exact go_top h₁ (piece_block h₂ x)
theorem body_cut : body0.take 18 ++ (body0.drop 18 ++ []) = body0 := (congrArg _ (List.append_nil _)).trans (List.take_append_drop 18 _)
theorem at_run (w : World) (os : OsState) : topRun treeTable P0 w 11 ann0 (12 + (1 + (1222 + (1422 + 2)))) ⟨heap0 w.params, gs0, {}, 181, os⟩ (topStub P0) = some (stF w os) :=
  two_runs body_cut (at_pre w os) (segRun_of (at_block w os)) (at_mid w os) (at_fin w os) (at_stop w os)
theorem left : LeftO P0 qv names (fun s => xlAt qv [] s && recOk (RowW.records rowW) s) (Hook.obs hook) (Hook.val hook) 6000 :=
  LeftO.of_pieces (H₁ := fun P => ⟨(listF P).toArray, {}⟩) (gs₁ := gs0) (d₁ := {}) (k₁ := 752) at_open at_size at_run rfl at_looks
theorem said_1 : sreFenced PySem.Challenge.rw_on0186_01.row.prog.main = true := by kernel_rfl
theorem said_2 : namesResolve PySem.Challenge.rw_on0186_01.row.prog = true := by kernel_rfl
theorem said_3 : (PySem.Challenge.rw_on0186_01.row.prog.boundNames.all fun n => !worldNames.contains n) = true := by kernel_rfl
theorem said_4 : noRoadLSs { strict := !(importedModules PySem.Challenge.rw_on0186_01.row.prog.main.body).all cThrough.contains, foot := none, bare := (["vars", "dir", "locals"] : List Str).filter (readsOut PySem.Challenge.rw_on0186_01.row.prog PySem.Challenge.rw_on0186_01.row.prog.main.body) } PySem.Challenge.rw_on0186_01.row.prog.main.body = true := by kernel_rfl
theorem said_5 : (namesMeet PySem.Challenge.rw_on0186_01.row.prog PySem.Challenge.rw_on0186_01.row.prog.main.body fun _ n => attrL n) = true := by kernel_rfl
theorem said_6 : PySem.Challenge.rw_on0186_01.row.solid = true := by kernel_rfl
theorem said_ok : OpenLaw.wellSaid PySem.Challenge.rw_on0186_01 = true := by
  delta OpenLaw.wellSaid
  (repeat' (first | with_reducible refine look_both ?_ ?_ | delta OpenRow.wellSaid | delta OpenRow.partSaid | delta looksOpen))
  all_goals (first | with_reducible exact said_1 | with_reducible exact said_2 | with_reducible exact said_3 | with_reducible exact said_4 | with_reducible exact said_5 | with_reducible exact said_6 | kernel_rfl)
theorem fill : PySem.Challenge.rw_on0186_01 = PySem.Challenge.rw_on0186_01 ∧ frag = frag := by
  k_fill
  exact ⟨rfl, rfl⟩
structure Cx (w : World) (p : Program) (loose : List Str) (mean : ExcName → Option Value) (mg mb : Str → Option Value) (A₀ : Around) (base : Heap) (outer : List Env) (h₀ : Heap) (L : Addr) (h : Heap) (m : Str → Option Value) (cs : Scope) : Prop where
  B : Below A₀ base outer h₀
  F : Fr h₀ L h m
  X : (frag w.params).In h₀
  T : Top p loose mean mg mb h₀
  hk : cs.kind = .function
theorem item_c {prog w A E s} {value slice : PySem.Expr} {l : Addr} {vs : List Value} {k : Int} {u : Tok} {v : Value} {Q : Value → Shared → Prop}
    (hl : s.heap.IsList l vs.toArray) (h0 : 0 ≤ k) (hhi : k < 2 ^ 63) (hx : vs[k.toNat]? = some v) (h : Q v s)
    (hs : subscripted slice false (.ref l) (.int k u) = operate [.ref l, .int k u] (getItem (.ref l) (.int k u)) := by with_unfolding_all rfl) :
    wpAny (model prog w) A (subscriptTail value slice (.ref l) (.int k u)) Q E s :=
  tail_any hl.typeIs slot_list_getitem.lookup (wpAny_getItem_list hl h0 hhi (by simpa using hx) h) hs
theorem list_of_news {h₀ h : Heap} {L l : Addr} {its : List Value} {n : Nat} {news} (N : News h₀ L h news) (hm : (l, listOf its.toArray n) ∈ news) : h.IsList l its.toArray := ⟨_, N.get hm, rfl, n, rfl⟩
theorem item_x {prog w A E s} {value slice : PySem.Expr} {l : Addr} {vs : List Value} {k : Int} {u : Tok} {Q : Value → Shared → Prop}
    (hl : s.heap.IsList l vs.toArray) (h0 : 0 ≤ k) (hlt : k < (vs.length : Int)) (hf : vs.length < 1000000) (h : ∀ v, vs[k.toNat]? = some v → Q v s)
    (hs : subscripted slice false (.ref l) (.int k u) = operate [.ref l, .int k u] (getItem (.ref l) (.int k u)) := by with_unfolding_all rfl) :
    wpAny (model prog w) A (subscriptTail value slice (.ref l) (.int k u)) Q E s := by
  have hk : k.toNat < vs.length := by omega
  exact item_c hl h0 (by omega) (List.getElem?_eq_getElem hk) (h _ (List.getElem?_eq_getElem hk)) hs
theorem len_c {prog w A E s} {l : Addr} {vs : List Value} {Q : Value → Shared → Prop} (hl : s.heap.IsList l vs.toArray) (hf : vs.length < 1000000) (h : ∀ t tk, Q (.int vs.length t) { s with toks := tk }) :
    wpAny (model prog w) A (call (.builtin "len") [.ref l]) Q E s := call_len_list hl (by rw [List.size_toArray]; omega) (by rw [List.size_toArray]; exact h _ _)
noncomputable def vEq : Value → Value → Bool
  | .none, .none => true
  | .str a _, .str b _ => a == b
  | .int a _, .int b _ => a == b
  | _, _ => false
noncomputable def vPlain : Value → Bool
  | .none => true
  | .str _ _ => true
  | .int _ _ => true
  | _ => false
theorem eqAt_v {A : Around} {s : Shared} {y x : Value} (hy : vPlain y = true) (hx : vPlain x = true) : SeqAt.EqAt A s y x (vEq y x) := by
  cases y <;> cases hy <;> cases x <;> cases hx
  · exact SeqAt.EqAt.same _
  · exact SeqAt.EqAt.none_int _ _
  · exact SeqAt.EqAt.none_str _ _
  · exact SeqAt.EqAt.int_none _ _
  · exact SeqAt.EqAt.int_int _ _ _ _
  · exact SeqAt.EqAt.int_str _ _ _ _
  · exact SeqAt.EqAt.str_none _ _
  · exact SeqAt.EqAt.str_int _ _ _ _
  · exact SeqAt.EqAt.str_str _ _ _ _
section
variable {prog : Program} {w : World} {A : Around} {E : Value → Shared → Prop} {s : Shared} {D : Addr} {its : List Value} {x : Value} {r : Bool} {Q : Value → Shared → Prop}
theorem notin_tup_c (hl : s.heap.IsTuple D its.toArray) (hp : its.all vPlain = true) (hx : vPlain x = true) (hb : (!its.any fun y => vEq y x) = r) (h : Q (.bool r) s) : wpAny (model prog w) A (compareOp .NotIn x (.ref D)) Q E s :=
  SeqAt.notIn_tupleAt (fun y => vEq y x) hl (fun y hy => eqAt_v (List.all_eq_true.mp hp y (by simpa using hy)) hx) (by rw [← hb] at h; simpa using h)
theorem in_tup_c (hl : s.heap.IsTuple D its.toArray) (hp : its.all vPlain = true) (hx : vPlain x = true) (hb : (its.any fun y => vEq y x) = r) (h : Q (.bool r) s) : wpAny (model prog w) A (compareOp .In x (.ref D)) Q E s :=
  SeqAt.in_tupleAt (fun y => vEq y x) hl (fun y hy => eqAt_v (List.all_eq_true.mp hp y (by simpa using hy)) hx) (by rw [← hb] at h; simpa using h)
theorem notin_list_c (hl : s.heap.IsList D its.toArray) (hp : its.all vPlain = true) (hx : vPlain x = true) (hb : (!its.any fun y => vEq y x) = r) (h : Q (.bool r) s) : wpAny (model prog w) A (compareOp .NotIn x (.ref D)) Q E s :=
  SeqAt.notIn_listAt (fun y => vEq y x) hl (fun y hy => eqAt_v (List.all_eq_true.mp hp y (by simpa using hy)) hx) (by rw [← hb] at h; simpa using h)
theorem in_list_c (hl : s.heap.IsList D its.toArray) (hp : its.all vPlain = true) (hx : vPlain x = true) (hb : (its.any fun y => vEq y x) = r) (h : Q (.bool r) s) : wpAny (model prog w) A (compareOp .In x (.ref D)) Q E s :=
  SeqAt.in_listAt (fun y => vEq y x) hl (fun y hy => eqAt_v (List.all_eq_true.mp hp y (by simpa using hy)) hx) (by rw [← hb] at h; simpa using h)
end
theorem tup_of_news {h₀ h : Heap} {L l : Addr} {its : List Value} {n : Nat} {news} (N : News h₀ L h news) (hm : (l, ({ cls := .type "tuple", data := .seq its.toArray n } : Obj)) ∈ news) : h.IsTuple l its.toArray := ⟨_, N.get hm, rfl, n, rfl⟩
theorem bits_small {b : Int} (h0 : 0 ≤ b) (h1 : b < 2147483648) : Builtin.Int.intBits b ≤ 64 := intBits_le_64 (by omega) (by omega)
theorem ne_of_allLt {d : Addr} {l : List (Addr × Obj)} (h : AllLt d l) : ∀ p ∈ l, p.1 ≠ d := fun p hp => Nat.ne_of_lt (tb_ltOf h p hp)
theorem lt_ne {d e : Addr} {l : List (Addr × Obj)} (h : AllLt d l) (hd : d < e) : ∀ p ∈ l, p.1 ≠ e := fun p hp => Nat.ne_of_lt (Nat.lt_trans (tb_ltOf h p hp) hd)
theorem news_pull {h₀ h : Heap} {L a : Addr} {o : Obj} {news : List (Addr × Obj)} (N : News h₀ L h news) (hm : (a, o) ∈ news) :
    ∃ rest, News h₀ L h ((a, o) :: rest) ∧ (∀ q ∈ rest, q.1 ≠ a) ∧ (∀ q ∈ news, q.1 ≠ a → q ∈ rest) ∧ (∀ q ∈ rest, q ∈ news) := by
  refine ⟨news.filter (fun q => decide (q.1 ≠ a)), fun q hq => ?_, fun q hq => ?_, fun q hq hn => ?_, fun q hq => (List.mem_filter.mp hq).1⟩
  · rcases List.mem_cons.mp hq with rfl | hq
    · exact N _ hm
    · exact N _ (List.mem_filter.mp hq).1
  · simpa using (List.mem_filter.mp hq).2
  · exact List.mem_filter.mpr ⟨hq, by simpa using hn⟩
theorem news_sub {h₀ h : Heap} {L : Addr} {news news' : List (Addr × Obj)} (N : News h₀ L h news) (hs : ∀ q ∈ news', q ∈ news) : News h₀ L h news' := fun q hq => N q (hs q hq)
theorem news_same {h₀ h : Heap} {L a : Addr} {o o' : Obj} {news : List (Addr × Obj)} (N : News h₀ L h news) (h1 : (a, o) ∈ news) (h2 : (a, o') ∈ news) : o = o' := by
  have := (N _ h1).1; rw [(N _ h2).1] at this; exact (Option.some.inj this).symm
theorem news_ne {h₀ h : Heap} {L a b : Addr} {o o' : Obj} {news : List (Addr × Obj)} (N : News h₀ L h news) (h1 : (a, o) ∈ news) (h2 : (b, o') ∈ news) (hn : o ≠ o') : a ≠ b := fun e => hn (by subst e; exact news_same N h1 h2)
local macro_rules | `(tactic| k_all) => `(tactic| first | assumption | exact ne_of_allLt (by assumption) | exact lt_ne (by assumption) (by assumption))
local macro_rules | `(tactic| k_mem) => `(tactic| assumption)
theorem room_0 {d a N : Nat} (h : d + a < N) : d < N := Nat.lt_of_le_of_lt (Nat.le_add_right d a) h
theorem room_1 {d a N j : Nat} (h : d + a < N) (k : Nat.ble j a = true) : d + j < N := Nat.lt_of_le_of_lt (Nat.add_le_add_left (Nat.le_of_ble_eq_true k) d) h
theorem room_2 {d a N i j : Nat} (h : d + a < N) (k : Nat.ble (i + j) a = true) : d + i + j < N := by rw [Nat.add_assoc d i j]; exact room_1 h k
theorem room_3 {d a N i j l : Nat} (h : d + a < N) (k : Nat.ble (i + j + l) a = true) : d + i + j + l < N := by rw [Nat.add_assoc d i j]; exact room_2 h k
theorem room_4 {d a N i j l m : Nat} (h : d + a < N) (k : Nat.ble (i + j + l + m) a = true) : d + i + j + l + m < N := by rw [Nat.add_assoc d i j]; exact room_3 h k
theorem room_5 {d a N i j l m n : Nat} (h : d + a < N) (k : Nat.ble (i + j + l + m + n) a = true) : d + i + j + l + m + n < N := by rw [Nat.add_assoc d i j]; exact room_4 h k
local macro_rules | `(tactic| walk_at $s:str) => `(tactic| k_extra $s)
theorem say1 : True := by
  (k_with "ROOMS" => first | exact room_1 (by with_reducible assumption) rfl | exact room_2 (by with_reducible assumption) rfl | exact room_3 (by with_reducible assumption) rfl | exact room_4 (by with_reducible assumption) rfl | exact room_0 (by with_reducible assumption) | exact room_5 (by with_reducible assumption) rfl)
  (k_with "ROOM" => first | ((try dsimp only [depth_under_make, depth_under_kw, depth_in1, depth_deeper, depth_caller, ktrTop]); k_extra "ROOMS") | ((try simp only [depth_under_make, depth_under_kw, depth_in1, depth_deeper, depth_caller]); (try dsimp only [ktrTop]); omega))
  (k_with "UNITS" => first | ((try dsimp only [units_in1, units_deeper, Around.mark_units, units_caller, ktrTop]); k_extra "ROOMS") | ((try simp only [units_in1, units_deeper, Around.mark_units, units_caller]); (try dsimp only [ktrTop]); omega))
  trivial
local macro_rules | `(tactic| k_room) => `(tactic| k_extra "ROOM")
local macro_rules | `(tactic| ktr_room) => `(tactic| k_extra "ROOM")
local macro_rules | `(tactic| ktr_units) => `(tactic| k_extra "UNITS")
theorem say2 : True := by
  (k_with "binaryOp Mult int int" => (plain_pass; refine mul_int ?_ (IntMulOk.of_right (bits_small (by omega) (by omega)))))
  (k_with "subscriptTail Name Constant ref int" => (k_here; k_dflt (refine' item_c (by (refine' list_of_news (by k_asm) (by k_mem))) (by decide) (by decide) (by exact rfl) ?_; k_whole)))
  (k_with "call builtin:len" => (k_here; k_dflt (refine' len_c (by (refine' list_of_news (by k_asm) (by k_mem))) (by first | omega | (simp only [List.length_append, List.length_cons, List.length_nil]; omega)) ?_; k_whole); intro _ _))
  (k_with "subscriptTail" => (k_here; (with_reducible show wpAny _ _ (subscriptTail _ _ (Value.ref _) (Value.int _ _)) _ _ _); k_dflt (refine' item_c (by (refine' list_of_news (by k_asm) (by k_mem))) (by omega) (by omega) (by k_asm) ?_; k_whole)))
  (k_with "subscriptTail" => (k_here; plain_pass; (with_reducible show wpAny _ _ (subscriptTail _ _ (Value.ref _) (Value.int _ _)) _ _ _); k_dflt (refine' item_x (by (refine' list_of_news (by k_asm) (by k_mem))) (by omega) (by omega) (by omega) ?_; k_whole); intro _ _))
  trivial
local macro_rules | `(tactic| walk_at "I:push") => `(tactic| (intro N'; (try simp only [List.push_toArray] at N')))
theorem say3 : True := by
  (k_with "call builtin:list.append" => (k_here; (with_reducible show wpAny _ _ (call (Value.builtin _) [Value.ref _, _]) _ _ _); k_dflt (refine' append_K (by k_asm) (by k_asm) (by k_upd) ?_ (by first | (rw [List.size_toArray, sizeLine_eq]; omega) | size_fits); k_whole); intro _ _; walk_at "I:push"; (try k_sweep)))
  (k_with "callWith ref" => (k_here; k_dflt (refine' callWith_K (by k_asm) (by k_is) ?_; k_whole)))
  trivial
local macro_rules | `(tactic| walk_at "I:lt") => `(tactic| (intro l1; (try k_lt l1)))
theorem say4 : True := by
  (k_with "newList" => (k_here; k_dflt (refine' newList_K (by k_asm) (by k_asm) ?_ (by first | (rw [sizeLine_eq]; exact Nat.le_of_ble_eq_true rfl) | size_fits); k_whole); intro _ _ _ _; walk_at "I:lt"; (try k_sweep)))
  trivial
local macro_rules | `(tactic| k_handed) => `(tactic| assumption)
theorem say5 : True := by
  (k_with "call type:list" => (k_here; (with_reducible show wpAny _ _ (call (Value.type "list") [Value.ref _]) _ _ _); k_dflt (refine' list_copyK (by k_asm) (by k_asm) (by (refine' list_of_news (by k_asm) (by k_mem))) ?_ (by first | (rw [List.size_toArray, sizeLine_eq]; omega) | size_fits); k_whole); intro _ _ _ _ _ _))
  (k_with "VEQ" => first | kernel_rfl! | (simp only [List.any_cons, List.any_nil, vEq, Bool.or_false, Bool.false_or, Bool.true_or, Bool.or_true, Bool.not_false, Bool.not_true, *]; done))
  (k_with "compareOp NotIn" => (k_here; (with_reducible show wpAny _ _ (compareOp CmpOp.NotIn _ (Value.ref _)) _ _ _); k_dflt (first
  | (refine' notin_tup_c (r := false) (by (refine' tup_of_news (by k_asm) (by k_mem))) (by rfl) (by rfl) (by k_extra "VEQ") ?_; k_whole)
  | (refine' notin_tup_c (r := true) (by (refine' tup_of_news (by k_asm) (by k_mem))) (by rfl) (by rfl) (by k_extra "VEQ") ?_; k_whole)
  | (refine' notin_list_c (r := false) (by (refine' list_of_news (by k_asm) (by k_mem))) (by rfl) (by rfl) (by k_extra "VEQ") ?_; k_whole)
  | (refine' notin_list_c (r := true) (by (refine' list_of_news (by k_asm) (by k_mem))) (by rfl) (by rfl) (by k_extra "VEQ") ?_; k_whole))))
  (k_with "compareOp In" => (k_here; (with_reducible show wpAny _ _ (compareOp CmpOp.In _ (Value.ref _)) _ _ _); k_dflt (first
  | (refine' in_tup_c (r := false) (by (refine' tup_of_news (by k_asm) (by k_mem))) (by rfl) (by rfl) (by k_extra "VEQ") ?_; k_whole)
  | (refine' in_tup_c (r := true) (by (refine' tup_of_news (by k_asm) (by k_mem))) (by rfl) (by rfl) (by k_extra "VEQ") ?_; k_whole)
  | (refine' in_list_c (r := false) (by (refine' list_of_news (by k_asm) (by k_mem))) (by rfl) (by rfl) (by k_extra "VEQ") ?_; k_whole)
  | (refine' in_list_c (r := true) (by (refine' list_of_news (by k_asm) (by k_mem))) (by rfl) (by rfl) (by k_extra "VEQ") ?_; k_whole))))
  trivial
noncomputable abbrev treeE (P : Params) (t : Tok) (rl : Addr) : List DictEntry := [⟨PyData.keyHash P (Str.ofString "rows"), .str (Str.ofString "rows") t, .ref rl⟩]
inductive NodeEs (P : Params) (kind name uri loc val : Str) (par : Value) (ch al nl : Addr) (es : List DictEntry) : Prop
  | mk (t0 t1 t2 t3 t4 t5 t6 t7 t8 k0 k1 k2 k3 k4 : Tok) (e : es =
  [⟨PyData.keyHash P (Str.ofString "kind"), .str (Str.ofString "kind") t0, .str kind k0⟩,
   ⟨PyData.keyHash P (Str.ofString "name"), .str (Str.ofString "name") t1, .str name k1⟩,
   ⟨PyData.keyHash P (Str.ofString "uri"), .str (Str.ofString "uri") t2, .str uri k2⟩,
   ⟨PyData.keyHash P (Str.ofString "local"), .str (Str.ofString "local") t3, .str loc k3⟩,
   ⟨PyData.keyHash P (Str.ofString "value"), .str (Str.ofString "value") t4, .str val k4⟩,
   ⟨PyData.keyHash P (Str.ofString "parent"), .str (Str.ofString "parent") t5, par⟩,
   ⟨PyData.keyHash P (Str.ofString "children"), .str (Str.ofString "children") t6, .ref ch⟩,
   ⟨PyData.keyHash P (Str.ofString "attributes"), .str (Str.ofString "attributes") t7, .ref al⟩,
   ⟨PyData.keyHash P (Str.ofString "namespaces"), .str (Str.ofString "namespaces") t8, .ref nl⟩])
inductive TreeIn (P : Params) (news : List (Addr × Obj)) (tr : Addr) (its : List Value) : Prop
  | mk (dt rl : Addr) (tt : Tok) (n : Nat) (h1 : (tr, instObj 330 dt) ∈ news) (h2 : (dt, dictOf (treeE P tt rl) 1) ∈ news) (h3 : (rl, listOf its.toArray n) ∈ news) (h4 : its.length < 1000)
structure NodeV where
  kind : Str
  name : Str
  uri : Str
  loc : Str
  val : Str
  par : Value
  kids : List Value
  ats : List Value
inductive NodeIn (P : Params) (news : List (Addr × Obj)) (its : List Value) (i : Int) (v : NodeV) : Prop
  | mk (x dx ch al nl : Addr) (es : List DictEntry) (kn an : Nat) (h1 : 0 ≤ i) (h2 : i < its.length) (h3 : its[i.toNat]? = some (.ref x)) (h4 : (x, instObj 141 dx) ∈ news) (h5 : (dx, dictOf es 9) ∈ news) (h6 : NodeEs P v.kind v.name v.uri v.loc v.val v.par ch al nl es)
    (h7 : (ch, listOf v.kids.toArray kn) ∈ news) (h8 : (al, listOf v.ats.toArray an) ∈ news)
section
variable {prog : Program} {w : World} {p : Program} {loose : List Str} {mean : ExcName → Option Value} {mg mb : Str → Option Value}
  {dp un : Nat} {gd : Option (List Code)} {cn : Str} {cs : Scope} {a : Addr} {ccd : Value} {cl : List (Str × Addr)} {outer : List Env} {A₀ : Around} {base h₀ : Heap} {L : Addr} {m : Str → Option Value} {rest news : List (Addr × Obj)} {s : Shared} {Q E : Value → Shared → Prop}
theorem take_c {src : Addr} {x y t : Int} {tx ty tt : Tok} {n : Nat}
    (C : Cx w p loose mean mg mb A₀ base outer h₀ L s.heap m cs)
    (N : News h₀ L s.heap ((src, listOf #[.int x tx, .int y ty] n) :: rest)) (hr : ∀ p ∈ rest, p.1 ≠ src)
    (h1 : 0 ≤ x) (h2 : 0 ≤ y) (h2' : y < 2147483647) (h3 : 0 < t) (h4 : t ≤ 1000) (hd : dp + 5 < recursionLimit) (hu : un + 50 < cLine)
    (hret : ∀ k tk h' x' tx' y' ty' n' tk', Fr h₀ L h' m → News h₀ L h' ((src, listOf #[.int x' tx', .int y' ty'] n') :: rest) → 0 ≤ k → k < t → 0 ≤ x' → 0 ≤ y' → y' < 2147483647 → Q (.int k tk) { s with heap := h', toks := tk' }) :
    wpAny (model prog w) (ktrTop dp un gd cn cs L a ccd cl outer) (call (.ref 348) [.ref src, .int t tt]) Q E s := by
  obtain ⟨B, F, X, T, hk⟩ := C
  refine wpAny_call ?_
  k_dflt ktr_enter
  k_steps
  · refine hret _ _ _ _ _ _ _ _ _ (by k_asm) (by k_asm) ?_ ?_ ?_ ?_ ?_
    · exact Int.fmod_nonneg_of_pos _ h3
    · exact Int.fmod_lt_of_pos _ h3
    · rw [Int.fdiv_eq_ediv_of_nonneg _ (by omega)]; exact Int.ediv_nonneg h1 (by omega)
    · exact h2
    · exact h2'
  · refine hret _ _ _ _ _ _ _ _ _ (by k_asm) (by k_asm) ?_ ?_ ?_ ?_ ?_
    · exact Int.fmod_nonneg_of_pos _ h3
    · exact Int.fmod_lt_of_pos _ h3
    · exact h1
    · exact Int.fmod_nonneg_of_pos _ (by decide)
    · exact Int.fmod_lt_of_pos _ (by decide)
theorem say6 : True := by
  (k_with "call ref" => (k_here; (with_reducible show wpAny _ _ (call (Value.ref 348) [Value.ref _, Value.int _ _]) _ _ _); k_dflt (refine' take_c ⟨(by k_asm), (by k_asm), (by k_asm), (by k_asm), (by rfl)⟩ (by k_asm) (by k_all) (by assumption) (by assumption) (by assumption) (by omega) (by omega) (by ktr_room) (by ktr_units) ?_); intro _ _ _ _ _ _ _ _ _ _ _ _ _ _ _ _))
  trivial
theorem one_c {src th : Addr} {x y : Int} {tx ty : Tok} {n : Nat} {its : List Value} {tn : Nat}
    (C : Cx w p loose mean mg mb A₀ base outer h₀ L s.heap m cs)
    (N : News h₀ L s.heap ((src, listOf #[.int x tx, .int y ty] n) :: rest)) (hr : ∀ p ∈ rest, p.1 ≠ src) (ht : (th, listOf its.toArray tn) ∈ rest)
    (hl : 0 < its.length) (hl2 : its.length < 1000)
    (h1 : 0 ≤ x) (h2 : 0 ≤ y) (h2' : y < 2147483647) (hd : dp + 7 < recursionLimit) (hu : un + 70 < cLine)
    (hret : ∀ (k : Nat) (v : Value) h' x' tx' y' ty' n' tk', Fr h₀ L h' m → News h₀ L h' ((src, listOf #[.int x' tx', .int y' ty'] n') :: rest) → its[k]? = some v → 0 ≤ x' → 0 ≤ y' → y' < 2147483647 → Q v { s with heap := h', toks := tk' }) :
    wpAny (model prog w) (ktrTop dp un gd cn cs L a ccd cl outer) (call (.ref 355) [.ref src, .ref th]) Q E s := by
  obtain ⟨B, F, X, T, hk⟩ := C
  refine wpAny_call ?_
  k_dflt ktr_enter
  k_steps
  exact hret _ _ _ _ _ _ _ _ _ (by k_asm) (by k_asm) (by assumption) (by assumption) (by assumption) (by assumption)
end
section
variable {prog : Program} {w : World} {p : Program} {loose : List Str} {mean : ExcName → Option Value} {mg mb : Str → Option Value}
  {dp un : Nat} {gd : Option (List Code)} {cn : Str} {cs : Scope} {a : Addr} {ccd : Value} {cl : List (Str × Addr)} {outer : List Env} {A₀ : Around} {base h₀ : Heap} {L : Addr} {m : Str → Option Value} {rest news : List (Addr × Obj)} {s : Shared} {Q E : Value → Shared → Prop}
theorem len_app1 (l : List Value) (v : Value) : ((l ++ [v]).length : Int) - 1 = l.length := by simp
theorem new_row_c {tr dt rl : Addr} {tt : Tok} {its : List Value} {n : Nat} {kind name uri loc val : Str} {k0 k1 k2 k3 k4 : Tok} {par : Value}
    (C : Cx w p loose mean mg mb A₀ base outer h₀ L s.heap m cs)
    (N : News h₀ L s.heap ((rl, listOf its.toArray n) :: rest)) (hr : ∀ p ∈ rest, p.1 ≠ rl) (h1 : (tr, instObj 330 dt) ∈ rest) (h2 : (dt, dictOf (treeE w.params tt rl) 1) ∈ rest)
    (hl : its.length < 1000) (hd : dp + 7 < recursionLimit) (hu : un + 70 < cLine)
    (hret : ∀ (tk : Tok) (h' : Heap) (tk' : Nat) (x dx ch al nl : Addr) (es : List DictEntry) (n' : Nat), Fr h₀ L h' m → News h₀ L h' ((nl, listOf #[] 0) :: (al, listOf #[] 0) :: (ch, listOf #[] 0) :: (x, instObj 141 dx) :: (dx, dictOf es 9) :: (rl, listOf (its ++ [Value.ref x]).toArray n') :: rest) →
      NodeEs w.params kind name uri loc val par ch al nl es → (∀ q ∈ rest, q.1 < dx) → rl < dx → dx < x → x < ch → ch < al → al < nl → Q (.int its.length tk) { s with heap := h', toks := tk' }) :
    wpAny (model prog w) (ktrTop dp un gd cn cs L a ccd cl outer) (call (.ref 166) [.ref tr, .str kind k0, .str name k1, .str uri k2, .str loc k3, .str val k4, par]) Q E s := by
  obtain ⟨B, F, X, T, hk⟩ := C
  refine wpAny_call ?_
  k_dflt ktr_enter
  k_steps
  rw [len_app1]
  refine hret _ _ _ _ _ _ _ _ _ _ (by k_asm) (by k_asm) ⟨_, _, _, _, _, _, _, _, _, _, _, _, _, _, rfl⟩ ?_ ?_ ?_ ?_ ?_ ?_
  · exact tb_ltOf (by simp_all)
  all_goals simp_all
end
section
variable {prog : Program} {w : World} {p : Program} {loose : List Str} {mean : ExcName → Option Value} {mg mb : Str → Option Value}
  {dp un : Nat} {gd : Option (List Code)} {cn : Str} {cs : Scope} {a : Addr} {ccd : Value} {cl : List (Str × Addr)} {outer : List Env} {A₀ : Around} {base h₀ : Heap} {L : Addr} {m : Str → Option Value} {rest news : List (Addr × Obj)} {s : Shared} {Q E : Value → Shared → Prop}
theorem row_c {tr : Addr} {its : List Value} {i : Int} {ti : Tok} {v : Value}
    (C : Cx w p loose mean mg mb A₀ base outer h₀ L s.heap m cs) (N : News h₀ L s.heap news) (HT : TreeIn w.params news tr its) (hi0 : 0 ≤ i) (hi1 : i < its.length) (hv : its[i.toNat]? = some v)
    (hd : dp + 7 < recursionLimit) (hu : un + 70 < cLine)
    (hret : ∀ (h' : Heap) (tk' : Nat), Fr h₀ L h' m → News h₀ L h' news → Q v { s with heap := h', toks := tk' }) :
    wpAny (model prog w) (ktrTop dp un gd cn cs L a ccd cl outer) (call (.ref 173) [.ref tr, .int i ti]) Q E s := by
  obtain ⟨B, F, X, T, hk⟩ := C
  obtain ⟨dt, rl, tt, n, ht1, ht2, ht3, hl⟩ := HT
  refine wpAny_call ?_
  k_dflt ktr_enter
  k_steps
  exact hret _ _ (by k_asm) (by k_asm)
theorem say7 : True := by
  (k_with "call ref" => (k_here; (with_reducible show wpAny _ _ (call (Value.ref 173) [Value.ref _, Value.int _ _]) _ _ _); k_dflt (refine' row_c ⟨(by k_asm), (by k_asm), (by k_asm), (by k_asm), (by rfl)⟩ (by k_asm) (by k_asm) (by k_asm) (by k_asm) (by k_asm) (by ktr_room) (by ktr_units) ?_); intro _ _ _ _))
  trivial
theorem kind_c {tr : Addr} {its : List Value} {i : Int} {ti : Tok} {v : NodeV}
    (C : Cx w p loose mean mg mb A₀ base outer h₀ L s.heap m cs) (N : News h₀ L s.heap news) (HT : TreeIn w.params news tr its) (HN : NodeIn w.params news its i v)
    (hd : dp + 9 < recursionLimit) (hu : un + 90 < cLine)
    (hret : ∀ (t : Tok) (h' : Heap) (tk' : Nat), Fr h₀ L h' m → News h₀ L h' news → Q (.str v.kind t) { s with heap := h', toks := tk' }) :
    wpAny (model prog w) (ktrTop dp un gd cn cs L a ccd cl outer) (call (.ref 250) [.ref tr, .int i ti]) Q E s := by
  obtain ⟨B, F, X, T, hk⟩ := C
  have HT' := HT
  obtain ⟨dt, rl, tt, n, ht1, ht2, ht3, hl⟩ := HT'
  obtain ⟨x, dx, ch, al, nl, es, kn, an, hi0, hi1, hx, hn1, hn2, ⟨t0, t1, t2, t3, t4, t5, t6, t7, t8, k0, k1, k2, k3, k4, rfl⟩, hn3, hn4⟩ := HN
  refine wpAny_call ?_
  k_dflt ktr_enter
  k_steps
  exact hret _ _ _ (by k_asm) (by k_asm)
theorem name_c {tr : Addr} {its : List Value} {i : Int} {ti : Tok} {v : NodeV}
    (C : Cx w p loose mean mg mb A₀ base outer h₀ L s.heap m cs) (N : News h₀ L s.heap news) (HT : TreeIn w.params news tr its) (HN : NodeIn w.params news its i v)
    (hd : dp + 9 < recursionLimit) (hu : un + 90 < cLine)
    (hret : ∀ (t : Tok) (h' : Heap) (tk' : Nat), Fr h₀ L h' m → News h₀ L h' news → Q (.str v.name t) { s with heap := h', toks := tk' }) :
    wpAny (model prog w) (ktrTop dp un gd cn cs L a ccd cl outer) (call (.ref 257) [.ref tr, .int i ti]) Q E s := by
  obtain ⟨B, F, X, T, hk⟩ := C
  have HT' := HT
  obtain ⟨dt, rl, tt, n, ht1, ht2, ht3, hl⟩ := HT'
  obtain ⟨x, dx, ch, al, nl, es, kn, an, hi0, hi1, hx, hn1, hn2, ⟨t0, t1, t2, t3, t4, t5, t6, t7, t8, k0, k1, k2, k3, k4, rfl⟩, hn3, hn4⟩ := HN
  refine wpAny_call ?_
  k_dflt ktr_enter
  k_steps
  exact hret _ _ _ (by k_asm) (by k_asm)
theorem uri_c {tr : Addr} {its : List Value} {i : Int} {ti : Tok} {v : NodeV}
    (C : Cx w p loose mean mg mb A₀ base outer h₀ L s.heap m cs) (N : News h₀ L s.heap news) (HT : TreeIn w.params news tr its) (HN : NodeIn w.params news its i v)
    (hd : dp + 9 < recursionLimit) (hu : un + 90 < cLine)
    (hret : ∀ (t : Tok) (h' : Heap) (tk' : Nat), Fr h₀ L h' m → News h₀ L h' news → Q (.str v.uri t) { s with heap := h', toks := tk' }) :
    wpAny (model prog w) (ktrTop dp un gd cn cs L a ccd cl outer) (call (.ref 264) [.ref tr, .int i ti]) Q E s := by
  obtain ⟨B, F, X, T, hk⟩ := C
  have HT' := HT
  obtain ⟨dt, rl, tt, n, ht1, ht2, ht3, hl⟩ := HT'
  obtain ⟨x, dx, ch, al, nl, es, kn, an, hi0, hi1, hx, hn1, hn2, ⟨t0, t1, t2, t3, t4, t5, t6, t7, t8, k0, k1, k2, k3, k4, rfl⟩, hn3, hn4⟩ := HN
  refine wpAny_call ?_
  k_dflt ktr_enter
  k_steps
  exact hret _ _ _ (by k_asm) (by k_asm)
theorem local_c {tr : Addr} {its : List Value} {i : Int} {ti : Tok} {v : NodeV}
    (C : Cx w p loose mean mg mb A₀ base outer h₀ L s.heap m cs) (N : News h₀ L s.heap news) (HT : TreeIn w.params news tr its) (HN : NodeIn w.params news its i v)
    (hd : dp + 9 < recursionLimit) (hu : un + 90 < cLine)
    (hret : ∀ (t : Tok) (h' : Heap) (tk' : Nat), Fr h₀ L h' m → News h₀ L h' news → Q (.str v.loc t) { s with heap := h', toks := tk' }) :
    wpAny (model prog w) (ktrTop dp un gd cn cs L a ccd cl outer) (call (.ref 271) [.ref tr, .int i ti]) Q E s := by
  obtain ⟨B, F, X, T, hk⟩ := C
  have HT' := HT
  obtain ⟨dt, rl, tt, n, ht1, ht2, ht3, hl⟩ := HT'
  obtain ⟨x, dx, ch, al, nl, es, kn, an, hi0, hi1, hx, hn1, hn2, ⟨t0, t1, t2, t3, t4, t5, t6, t7, t8, k0, k1, k2, k3, k4, rfl⟩, hn3, hn4⟩ := HN
  refine wpAny_call ?_
  k_dflt ktr_enter
  k_steps
  exact hret _ _ _ (by k_asm) (by k_asm)
theorem value_c {tr : Addr} {its : List Value} {i : Int} {ti : Tok} {v : NodeV}
    (C : Cx w p loose mean mg mb A₀ base outer h₀ L s.heap m cs) (N : News h₀ L s.heap news) (HT : TreeIn w.params news tr its) (HN : NodeIn w.params news its i v)
    (hd : dp + 9 < recursionLimit) (hu : un + 90 < cLine)
    (hret : ∀ (t : Tok) (h' : Heap) (tk' : Nat), Fr h₀ L h' m → News h₀ L h' news → Q (.str v.val t) { s with heap := h', toks := tk' }) :
    wpAny (model prog w) (ktrTop dp un gd cn cs L a ccd cl outer) (call (.ref 278) [.ref tr, .int i ti]) Q E s := by
  obtain ⟨B, F, X, T, hk⟩ := C
  have HT' := HT
  obtain ⟨dt, rl, tt, n, ht1, ht2, ht3, hl⟩ := HT'
  obtain ⟨x, dx, ch, al, nl, es, kn, an, hi0, hi1, hx, hn1, hn2, ⟨t0, t1, t2, t3, t4, t5, t6, t7, t8, k0, k1, k2, k3, k4, rfl⟩, hn3, hn4⟩ := HN
  refine wpAny_call ?_
  k_dflt ktr_enter
  k_steps
  exact hret _ _ _ (by k_asm) (by k_asm)
end
section
variable {prog : Program} {w : World} {p : Program} {loose : List Str} {mean : ExcName → Option Value} {mg mb : Str → Option Value}
  {dp un : Nat} {gd : Option (List Code)} {cn : Str} {cs : Scope} {a : Addr} {ccd : Value} {cl : List (Str × Addr)} {outer : List Env} {A₀ : Around} {base h₀ : Heap} {L : Addr} {m : Str → Option Value} {rest news : List (Addr × Obj)} {s : Shared} {Q E : Value → Shared → Prop}
theorem parent_c {tr : Addr} {its : List Value} {i : Int} {ti : Tok} {v : NodeV}
    (C : Cx w p loose mean mg mb A₀ base outer h₀ L s.heap m cs) (N : News h₀ L s.heap news) (HT : TreeIn w.params news tr its) (HN : NodeIn w.params news its i v) (hp : handedIn v.par = true)
    (hd : dp + 9 < recursionLimit) (hu : un + 90 < cLine)
    (hret : ∀ (h' : Heap) (tk' : Nat), Fr h₀ L h' m → News h₀ L h' news → Q v.par { s with heap := h', toks := tk' }) :
    wpAny (model prog w) (ktrTop dp un gd cn cs L a ccd cl outer) (call (.ref 285) [.ref tr, .int i ti]) Q E s := by
  obtain ⟨B, F, X, T, hk⟩ := C
  have HT' := HT
  obtain ⟨dt, rl, tt, n, ht1, ht2, ht3, hl⟩ := HT'
  obtain ⟨x, dx, ch, al, nl, es, kn, an, hi0, hi1, hx, hn1, hn2, ⟨t0, t1, t2, t3, t4, t5, t6, t7, t8, k0, k1, k2, k3, k4, rfl⟩, hn3, hn4⟩ := HN
  refine wpAny_call ?_
  k_dflt ktr_enter
  k_steps
  exact hret _ _ (by k_asm) (by k_asm)
theorem children_c {tr : Addr} {its : List Value} {i : Int} {ti : Tok} {v : NodeV}
    (C : Cx w p loose mean mg mb A₀ base outer h₀ L s.heap m cs) (N : News h₀ L s.heap news) (HT : TreeIn w.params news tr its) (HN : NodeIn w.params news its i v) (hl2 : v.kids.length < 1000)
    (hd : dp + 9 < recursionLimit) (hu : un + 90 < cLine)
    (hret : ∀ (l : Addr) (c : Nat) (h' : Heap) (tk' : Nat), Fr h₀ L h' m → News h₀ L h' ((l, listOf v.kids.toArray c) :: news) → (∀ q ∈ news, q.1 < l) → Q (.ref l) { s with heap := h', toks := tk' }) :
    wpAny (model prog w) (ktrTop dp un gd cn cs L a ccd cl outer) (call (.ref 292) [.ref tr, .int i ti]) Q E s := by
  obtain ⟨B, F, X, T, hk⟩ := C
  have HT' := HT
  obtain ⟨dt, rl, tt, n, ht1, ht2, ht3, hl⟩ := HT'
  obtain ⟨x, dx, ch, al, nl, es, kn, an, hi0, hi1, hx, hn1, hn2, ⟨t0, t1, t2, t3, t4, t5, t6, t7, t8, k0, k1, k2, k3, k4, rfl⟩, hn3, hn4⟩ := HN
  refine wpAny_call ?_
  k_dflt ktr_enter
  k_steps
  exact hret _ _ _ _ (by k_asm) (by k_asm) (by assumption)
theorem attributes_c {tr : Addr} {its : List Value} {i : Int} {ti : Tok} {v : NodeV}
    (C : Cx w p loose mean mg mb A₀ base outer h₀ L s.heap m cs) (N : News h₀ L s.heap news) (HT : TreeIn w.params news tr its) (HN : NodeIn w.params news its i v) (hl2 : v.ats.length < 1000)
    (hd : dp + 9 < recursionLimit) (hu : un + 90 < cLine)
    (hret : ∀ (l : Addr) (c : Nat) (h' : Heap) (tk' : Nat), Fr h₀ L h' m → News h₀ L h' ((l, listOf v.ats.toArray c) :: news) → (∀ q ∈ news, q.1 < l) → Q (.ref l) { s with heap := h', toks := tk' }) :
    wpAny (model prog w) (ktrTop dp un gd cn cs L a ccd cl outer) (call (.ref 299) [.ref tr, .int i ti]) Q E s := by
  obtain ⟨B, F, X, T, hk⟩ := C
  have HT' := HT
  obtain ⟨dt, rl, tt, n, ht1, ht2, ht3, hl⟩ := HT'
  obtain ⟨x, dx, ch, al, nl, es, kn, an, hi0, hi1, hx, hn1, hn2, ⟨t0, t1, t2, t3, t4, t5, t6, t7, t8, k0, k1, k2, k3, k4, rfl⟩, hn3, hn4⟩ := HN
  refine wpAny_call ?_
  k_dflt ktr_enter
  k_steps
  exact hret _ _ _ _ (by k_asm) (by k_asm) (by assumption)
end
section
variable {prog : Program} {w : World} {A : Around} {E : Value → Shared → Prop} {s : Shared} {env : Env} {h₀ : Heap} {x : Str} {body : List Stmt} {Q : Flow → Shared → Prop}
noncomputable def SPost (h₀ : Heap) (L : Addr) (x : Str) (m₀ : Str → Option Value) (news : List (Addr × Obj)) (Pn : Prop) (s₁ : Shared) (Q : Flow → Shared → Prop) (f : Flow) (s₂ : Shared) : Prop :=
  match f with
  | .ret v => Q (.ret v) s₂
  | .brk => Q .next s₂
  | _ => ∃ h' tk m', s₂ = { s₁ with heap := h', toks := tk } ∧ Fr h₀ L h' m' ∧ News h₀ L h' news ∧ (∀ y, y ≠ x → m' y = m₀ y) ∧ Pn
theorem iter_search {l : Addr} {n : Nat} {vs : List Value} {m₀ : Str → Option Value} {news : List (Addr × Obj)} (P : Nat → Prop)
    (hh : A.handled = none) (F : Fr h₀ env.locals s.heap m₀) (N : News h₀ env.locals s.heap news) (hm : (l, listOf vs.toArray n) ∈ news) (h0 : P 0)
    (turn : ∀ (i : Nat) (v : Value) (h : Heap) (tk : Nat) (own : List (Addr × Obj)), vs[i]? = some v → P i → Fr h₀ env.locals h (fun y => if y = x then some v else m₀ y) → News h₀ env.locals h (own ++ news) →
      wpAny (model prog w) A (execs body env) (SPost h₀ env.locals x m₀ (own ++ news) (P (i + 1)) { s with heap := h, toks := tk } Q) E { s with heap := h, toks := tk })
    (done : ∀ (u : Str → Option Value) (h : Heap) (tk : Nat), P vs.length → Fr h₀ env.locals h (fun y => if y = x then u y else m₀ y) → News h₀ env.locals h news → Q .next { s with heap := h, toks := tk }) :
    wpAny (model prog w) A (pyIter (.ref l)) (fun it s₂ => LoopAtV prog w A h₀ env x body Q E it s₂) E s := by
  have hls : s.heap.IsList l vs.toArray := list_of_news N hm
  have hlt := Heap.lt_size (N.get hm)
  have hne : l ≠ s.heap.objs.size := Nat.ne_of_lt hlt
  refine wpAny_pyIter_list hls ?_
  have W := Walks.list (prog := prog) (w := w) hh s.heap.objs.size l hne vs.toArray
  have hlen : vs.toArray.size = vs.length := List.size_toArray ..
  rw [hlen] at W
  let J : Nat → (Str → Option Value) → List (Addr × Obj) → Prop := fun i m₁ news₁ => news₁ = news ∧ (∀ y, y ≠ x → m₁ y = m₀ y) ∧ P i
  refine ⟨_, _, _, vs.length, _, _, m₀, news, J, rfl, W, ?_, ?_, ?_, ⟨⟨_, Heap.get?_push_size _ rfl, rfl, rfl⟩, hls.at fun o e => Heap.get?_push_of_some _ e⟩, F.push _, (fun p hp => ⟨Heap.get?_push_of_some _ (N p hp).1, (N p hp).2⟩), ⟨rfl, fun _ _ => rfl, h0⟩, ?_, ?_⟩
  · intro hm'
    rcases List.mem_cons.mp hm' with e | hm'
    · exact absurd F.ns.lt (e ▸ Nat.lt_irrefl _)
    · exact (N _ hm).2.1 (List.mem_singleton.mp hm').symm
  · intro b hb
    rw [List.mem_singleton.mp hb]
    exact next_is_new F
  · intro q hq hI
    exact absurd (Heap.lt_size (N q hq).1) ((List.mem_singleton.mp hI) ▸ Nat.lt_irrefl _)
  · rintro i v m₁ news₁ s₁ own ⟨hh', tk', rfl⟩ hin hP ⟨rfl, hJ, hPi⟩ hoff _ _ _ _ F₁ N₁
    have hv : vs[i]? = some v := by simpa using hP
    have e : (fun y => if y = x then some v else m₁ y) = fun y => if y = x then some v else m₀ y := by
      funext y
      by_cases h1 : y = x
      · simp [h1]
      · simp only [if_neg h1]; exact hJ y h1
    rw [e] at F₁
    refine wpAny_mono (turn i v hh' tk' own hv hPi F₁ N₁) (fun f s₂ q => ?_) fun _ _ e => e
    have fin : (∃ h' tk m', s₂ = { s with heap := h', toks := tk } ∧ Fr h₀ env.locals h' m' ∧ News h₀ env.locals h' (own ++ news₁) ∧ (∀ y, y ≠ x → m' y = m₀ y) ∧ P (i + 1)) → LoopStepU h₀ env.locals [s.heap.objs.size] own (J (i + 1)) { s with heap := hh', toks := tk' } .next s₂ := by
      rintro ⟨h', tk, m', e, F', N', hm', hp'⟩
      exact ⟨rfl, h', tk, m', news₁, e, F', N', hoff, rfl, hm', hp'⟩
    cases f with
    | ret v => exact .ret q
    | brk => exact .brk q
    | next => exact .next (fin q)
    | cont => exact .cont (fin q)
  · rintro h' tk m' news' F' N' _ ⟨rfl, hJ, hPi⟩
    refine done m' h' tk hPi ?_ N'
    have e : (fun y => if y = x then m' y else m₀ y) = m' := by
      funext y
      by_cases h1 : y = x
      · simp [h1]
      · simp only [if_neg h1]; exact (hJ y h1).symm
    rw [e]; exact F'
end
theorem find_take_none {α : Type} {p : α → Bool} {l : List α} {j : Nat} {a : α} (h : (l.take j).find? p = none) (ha : l[j]? = some a) (hp : p a = false) : (l.take (j + 1)).find? p = none := by
  rw [List.take_add_one, ha, List.find?_append, h]
  simp [hp]
theorem find_take_some {α : Type} {p : α → Bool} {l : List α} {j : Nat} {a : α} (h : (l.take j).find? p = none) (ha : l[j]? = some a) (hp : p a = true) : l.find? p = some a := by
  have e : l = l.take j ++ l.drop j := (List.take_append_drop j l).symm
  rw [e, List.find?_append, h, List.drop_eq_getElem?_toList_append, ha]
  simp [hp]
theorem TreeIn.mono {P : Params} {news news' : List (Addr × Obj)} {tr : Addr} {its : List Value} (h : TreeIn P news tr its) (hs : ∀ q ∈ news, q ∈ news') : TreeIn P news' tr its :=
  let ⟨dt, rl, tt, n, a, b, c, d⟩ := h; ⟨dt, rl, tt, n, hs _ a, hs _ b, hs _ c, d⟩
theorem NodeIn.mono {P : Params} {news news' : List (Addr × Obj)} {its : List Value} {i : Int} {v : NodeV} (h : NodeIn P news its i v) (hs : ∀ q ∈ news, q ∈ news') : NodeIn P news' its i v :=
  let ⟨x, dx, ch, al, nl, es, kn, an, a, b, c, d, e, f, g, k⟩ := h; ⟨x, dx, ch, al, nl, es, kn, an, a, b, c, hs _ d, hs _ e, f, hs _ g, hs _ k⟩
inductive AttrsIn (P : Params) (news : List (Addr × Obj)) (its : List Value) : List Value → List NodeV → Prop
  | nil : AttrsIn P news its [] []
  | cons {i : Int} {t : Tok} {v : NodeV} {vs : List Value} {avs : List NodeV} : NodeIn P news its i v → AttrsIn P news its vs avs → AttrsIn P news its (.int i t :: vs) (v :: avs)
theorem AttrsIn.mono {P : Params} {news news' : List (Addr × Obj)} {its vs : List Value} {avs : List NodeV} (h : AttrsIn P news its vs avs) (hs : ∀ q ∈ news, q ∈ news') : AttrsIn P news' its vs avs := by
  induction h with
  | nil => exact .nil
  | cons a _ ih => exact .cons (a.mono hs) ih
theorem AttrsIn.at {P : Params} {news : List (Addr × Obj)} {its vs : List Value} {avs : List NodeV} (h : AttrsIn P news its vs avs) : ∀ {j : Nat} {v : Value}, vs[j]? = some v → ∃ i t av, v = .int i t ∧ avs[j]? = some av ∧ NodeIn P news its i av := by
  induction h with
  | nil => intro j v e; simp at e
  | cons a _ ih =>
    intro j v e
    cases j with
    | zero => simp at e; subst e; exact ⟨_, _, _, rfl, rfl, a⟩
    | succ j => exact ih (by simpa using e)
theorem AttrsIn.length {P : Params} {news : List (Addr × Obj)} {its vs : List Value} {avs : List NodeV} (h : AttrsIn P news its vs avs) : vs.length = avs.length := by
  induction h with
  | nil => rfl
  | cons _ _ ih => simp [ih]
theorem say8 : True := by
  (k_with "SUB" => (intro q hq; repeat' (first | exact hq | refine List.mem_cons_of_mem _ ?_ | refine List.mem_append_right _ ?_)))
  (k_with "LED" => first | k_asm | exact news_sub (by assumption) (by k_extra "SUB"))
  (k_with "TREE" => exact TreeIn.mono (by assumption) (by k_extra "SUB"))
  (k_with "NODE" => exact NodeIn.mono (by assumption) (by k_extra "SUB"))
  (k_with "ATTRS" => exact AttrsIn.mono (by assumption) (by k_extra "SUB"))
  (k_with "ENTER" => (refine' code_def (by k_asm) (by k_asm) (by k_asm) (by k_asm) (by k_asm) (by exact rfl) (by exact rfl) (by first | assumption | exact rfl) (by k_is) (by k_is) (by ktr_room) (by first | exact BindsTo.of_eq rfl | exact binds_K (by k_in) rfl (by k_is) rfl rfl rfl) (by exact locs rfl) ?_ (by exact rfl) (by exact rfl) (by exact rfl) (by decide); k_whole; intro _ _ _ _ _ _ _ _ _; (try dsimp only); (try k_fold)))
  (k_with "CX" => exact ⟨by k_asm, by k_asm, by k_asm, by k_asm, by first | rfl | assumption⟩)
  (k_with "call ref" => (k_here; (with_reducible show wpAny _ _ (call (Value.ref 250) [Value.ref _, Value.int _ _]) _ _ _); k_dflt (refine' kind_c (by k_extra "CX") (by k_asm) (by k_extra "TREE") (by k_extra "NODE") (by ktr_room) (by ktr_units) ?_); intro _ _ _ _ _))
  (k_with "call ref" => (k_here; (with_reducible show wpAny _ _ (call (Value.ref 257) [Value.ref _, Value.int _ _]) _ _ _); k_dflt (refine' name_c (by k_extra "CX") (by k_asm) (by k_extra "TREE") (by k_extra "NODE") (by ktr_room) (by ktr_units) ?_); intro _ _ _ _ _))
  (k_with "call ref" => (k_here; (with_reducible show wpAny _ _ (call (Value.ref 264) [Value.ref _, Value.int _ _]) _ _ _); k_dflt (refine' uri_c (by k_extra "CX") (by k_asm) (by k_extra "TREE") (by k_extra "NODE") (by ktr_room) (by ktr_units) ?_); intro _ _ _ _ _))
  (k_with "call ref" => (k_here; (with_reducible show wpAny _ _ (call (Value.ref 271) [Value.ref _, Value.int _ _]) _ _ _); k_dflt (refine' local_c (by k_extra "CX") (by k_asm) (by k_extra "TREE") (by k_extra "NODE") (by ktr_room) (by ktr_units) ?_); intro _ _ _ _ _))
  (k_with "call ref" => (k_here; (with_reducible show wpAny _ _ (call (Value.ref 278) [Value.ref _, Value.int _ _]) _ _ _); k_dflt (refine' value_c (by k_extra "CX") (by k_asm) (by k_extra "TREE") (by k_extra "NODE") (by ktr_room) (by ktr_units) ?_); intro _ _ _ _ _))
  (k_with "call ref" => (k_here; (with_reducible show wpAny _ _ (call (Value.ref 285) [Value.ref _, Value.int _ _]) _ _ _); k_dflt (refine' parent_c (by k_extra "CX") (by k_asm) (by k_extra "TREE") (by k_extra "NODE") (by first | assumption | rfl) (by ktr_room) (by ktr_units) ?_); intro _ _ _ _))
  (k_with "call ref" => (k_here; (with_reducible show wpAny _ _ (call (Value.ref 292) [Value.ref _, Value.int _ _]) _ _ _); k_dflt (refine' children_c (by k_extra "CX") (by k_asm) (by k_extra "TREE") (by k_extra "NODE") (by omega) (by ktr_room) (by ktr_units) ?_); intro _ _ _ _ _ _; walk_at "I:lt"))
  (k_with "call ref" => (k_here; (with_reducible show wpAny _ _ (call (Value.ref 299) [Value.ref _, Value.int _ _]) _ _ _); k_dflt (refine' attributes_c (by k_extra "CX") (by k_asm) (by k_extra "TREE") (by k_extra "NODE") (by omega) (by ktr_room) (by ktr_units) ?_); intro _ _ _ _ _ _; walk_at "I:lt"))
  trivial
section
variable {prog : Program} {w : World} {p : Program} {loose : List Str} {mean : ExcName → Option Value} {mg mb : Str → Option Value}
  {dp un : Nat} {gd : Option (List Code)} {cn : Str} {cs : Scope} {a : Addr} {ccd : Value} {cl : List (Str × Addr)} {outer : List Env} {A₀ : Around} {base h₀ : Heap} {L : Addr} {m : Str → Option Value} {rest news : List (Addr × Obj)} {s : Shared} {Q E : Value → Shared → Prop}
noncomputable def optS (t : Tok) (o : Option Str) : Value := match o with | some v => .str v t | none => .none
noncomputable def attrV (avs : List NodeV) (uri loc : Str) : Option Str := (avs.find? fun a => a.loc == loc && a.uri == uri).map (·.val)
theorem attribute_of_c {tr : Addr} {its : List Value} {i : Int} {ti : Tok} {v : NodeV} {avs : List NodeV} {loc uri : Str} {tl tu : Tok}
    (C : Cx w p loose mean mg mb A₀ base outer h₀ L s.heap m cs) (N : News h₀ L s.heap news) (HT : TreeIn w.params news tr its) (HN : NodeIn w.params news its i v) (HA : AttrsIn w.params news its v.ats avs) (hl2 : v.ats.length < 1000)
    (hd : dp + 11 < recursionLimit) (hu : un + 110 < cLine)
    (hret : ∀ (t : Tok) (h' : Heap) (tk' : Nat), Fr h₀ L h' m → News h₀ L h' news → Q (optS t (attrV avs uri loc)) { s with heap := h', toks := tk' }) :
    wpAny (model prog w) (ktrTop dp un gd cn cs L a ccd cl outer) (call (.ref 81) [.ref tr, .int i ti, .str loc tl, .str uri tu]) Q E s := by
  obtain ⟨B, F, X, T, hk⟩ := C
  obtain ⟨dt, rl, tt, n, ht1, ht2, ht3, hl⟩ := id HT
  refine wpAny_call ?_
  k_dflt (k_extra "ENTER")
  k_steps
  refine iter_search (fun i => (avs.take i).find? (fun a => a.loc == loc && a.uri == uri) = none) (by rfl) (by k_asm) (by k_asm) (by k_mem) rfl ?turn ?done
  case turn =>
    intro j v h'' tk'' own hv hP F' N'
    obtain ⟨i', t', av, rfl, hav, hnode⟩ := HA.at hv
    k_steps
    · dsimp only [SPost]
      k_steps
      have e : attrV avs uri loc = some av.val := by unfold attrV; rw [find_take_some hP hav (Bool.and_eq_true_iff.mpr ⟨by assumption, by assumption⟩)]; rfl
      rw [e] at hret
      exact hret _ _ _ (by k_asm) (by k_extra "LED")
    · refine ⟨_, _, _, rfl, by k_asm, by k_asm, fun y hy => if_neg hy, find_take_none hP hav ?_⟩
      simp_all
    · refine ⟨_, _, _, rfl, by k_asm, by k_asm, fun y hy => if_neg hy, find_take_none hP hav ?_⟩
      simp_all
  case done =>
    intro u h'' tk'' hP F' N'
    k_steps
    rw [List.take_of_length_le (by rw [HA.length]; omega)] at hP
    have e : attrV avs uri loc = none := by unfold attrV; rw [hP]; rfl
    rw [e] at hret
    exact hret 0 _ _ (by k_asm) (by k_extra "LED")
theorem attribute_of3_c {tr : Addr} {its : List Value} {i : Int} {ti : Tok} {v : NodeV} {avs : List NodeV} {loc : Str} {tl : Tok}
    (C : Cx w p loose mean mg mb A₀ base outer h₀ L s.heap m cs) (N : News h₀ L s.heap news) (HT : TreeIn w.params news tr its) (HN : NodeIn w.params news its i v) (HA : AttrsIn w.params news its v.ats avs) (hl2 : v.ats.length < 1000)
    (hd : dp + 11 < recursionLimit) (hu : un + 110 < cLine)
    (hret : ∀ (t : Tok) (h' : Heap) (tk' : Nat), Fr h₀ L h' m → News h₀ L h' news → Q (optS t (attrV avs (Str.ofString "") loc)) { s with heap := h', toks := tk' }) :
    wpAny (model prog w) (ktrTop dp un gd cn cs L a ccd cl outer) (call (.ref 81) [.ref tr, .int i ti, .str loc tl]) Q E s := by
  obtain ⟨B, F, X, T, hk⟩ := C
  obtain ⟨dt, rl, tt, n, ht1, ht2, ht3, hl⟩ := id HT
  refine wpAny_call ?_
  k_dflt (k_extra "ENTER")
  k_steps
  refine iter_search (fun i => (avs.take i).find? (fun a => a.loc == loc && a.uri == Str.ofString "") = none) (by rfl) (by k_asm) (by k_asm) (by k_mem) rfl ?turn ?done
  case turn =>
    intro j v h'' tk'' own hv hP F' N'
    obtain ⟨i', t', av, rfl, hav, hnode⟩ := HA.at hv
    k_steps
    · dsimp only [SPost]
      k_steps
      have e : attrV avs (Str.ofString "") loc = some av.val := by unfold attrV; rw [find_take_some hP hav (Bool.and_eq_true_iff.mpr ⟨by assumption, by assumption⟩)]; rfl
      rw [e] at hret
      exact hret _ _ _ (by k_asm) (by k_extra "LED")
    · refine ⟨_, _, _, rfl, by k_asm, by k_asm, fun y hy => if_neg hy, find_take_none hP hav ?_⟩
      simp_all
    · refine ⟨_, _, _, rfl, by k_asm, by k_asm, fun y hy => if_neg hy, find_take_none hP hav ?_⟩
      simp_all
  case done =>
    intro u h'' tk'' hP F' N'
    k_steps
    rw [List.take_of_length_le (by rw [HA.length]; omega)] at hP
    have e : attrV avs (Str.ofString "") loc = none := by unfold attrV; rw [hP]; rfl
    rw [e] at hret
    exact hret 0 _ _ (by k_asm) (by k_extra "LED")
theorem attribute_of_some_c {tr : Addr} {its : List Value} {i : Int} {ti : Tok} {v : NodeV} {avs : List NodeV} {loc uri : Str} {tl tu : Tok} {x : Str}
    (C : Cx w p loose mean mg mb A₀ base outer h₀ L s.heap m cs) (N : News h₀ L s.heap news) (HT : TreeIn w.params news tr its) (HN : NodeIn w.params news its i v) (HA : AttrsIn w.params news its v.ats avs) (hl2 : v.ats.length < 1000)
    (e : attrV avs uri loc = some x) (hd : dp + 11 < recursionLimit) (hu : un + 110 < cLine)
    (hret : ∀ (t : Tok) (h' : Heap) (tk' : Nat), Fr h₀ L h' m → News h₀ L h' news → Q (.str x t) { s with heap := h', toks := tk' }) :
    wpAny (model prog w) (ktrTop dp un gd cn cs L a ccd cl outer) (call (.ref 81) [.ref tr, .int i ti, .str loc tl, .str uri tu]) Q E s :=
  attribute_of_c C N HT HN HA hl2 hd hu fun t h' tk' F' N' => by rw [e]; exact hret t h' tk' F' N'
theorem attribute_of_none_c {tr : Addr} {its : List Value} {i : Int} {ti : Tok} {v : NodeV} {avs : List NodeV} {loc uri : Str} {tl tu : Tok} 
    (C : Cx w p loose mean mg mb A₀ base outer h₀ L s.heap m cs) (N : News h₀ L s.heap news) (HT : TreeIn w.params news tr its) (HN : NodeIn w.params news its i v) (HA : AttrsIn w.params news its v.ats avs) (hl2 : v.ats.length < 1000)
    (e : attrV avs uri loc = none) (hd : dp + 11 < recursionLimit) (hu : un + 110 < cLine)
    (hret : ∀ (t : Tok) (h' : Heap) (tk' : Nat), Fr h₀ L h' m → News h₀ L h' news → Q (.none) { s with heap := h', toks := tk' }) :
    wpAny (model prog w) (ktrTop dp un gd cn cs L a ccd cl outer) (call (.ref 81) [.ref tr, .int i ti, .str loc tl, .str uri tu]) Q E s :=
  attribute_of_c C N HT HN HA hl2 hd hu fun t h' tk' F' N' => by rw [e]; exact hret t h' tk' F' N'
theorem attribute_of3_some_c {tr : Addr} {its : List Value} {i : Int} {ti : Tok} {v : NodeV} {avs : List NodeV} {loc : Str} {tl : Tok} {x : Str}
    (C : Cx w p loose mean mg mb A₀ base outer h₀ L s.heap m cs) (N : News h₀ L s.heap news) (HT : TreeIn w.params news tr its) (HN : NodeIn w.params news its i v) (HA : AttrsIn w.params news its v.ats avs) (hl2 : v.ats.length < 1000)
    (e : attrV avs (Str.ofString "") loc = some x) (hd : dp + 11 < recursionLimit) (hu : un + 110 < cLine)
    (hret : ∀ (t : Tok) (h' : Heap) (tk' : Nat), Fr h₀ L h' m → News h₀ L h' news → Q (.str x t) { s with heap := h', toks := tk' }) :
    wpAny (model prog w) (ktrTop dp un gd cn cs L a ccd cl outer) (call (.ref 81) [.ref tr, .int i ti, .str loc tl]) Q E s :=
  attribute_of3_c C N HT HN HA hl2 hd hu fun t h' tk' F' N' => by rw [e]; exact hret t h' tk' F' N'
theorem attribute_of3_none_c {tr : Addr} {its : List Value} {i : Int} {ti : Tok} {v : NodeV} {avs : List NodeV} {loc : Str} {tl : Tok} 
    (C : Cx w p loose mean mg mb A₀ base outer h₀ L s.heap m cs) (N : News h₀ L s.heap news) (HT : TreeIn w.params news tr its) (HN : NodeIn w.params news its i v) (HA : AttrsIn w.params news its v.ats avs) (hl2 : v.ats.length < 1000)
    (e : attrV avs (Str.ofString "") loc = none) (hd : dp + 11 < recursionLimit) (hu : un + 110 < cLine)
    (hret : ∀ (t : Tok) (h' : Heap) (tk' : Nat), Fr h₀ L h' m → News h₀ L h' news → Q (.none) { s with heap := h', toks := tk' }) :
    wpAny (model prog w) (ktrTop dp un gd cn cs L a ccd cl outer) (call (.ref 81) [.ref tr, .int i ti, .str loc tl]) Q E s :=
  attribute_of3_c C N HT HN HA hl2 hd hu fun t h' tk' F' N' => by rw [e]; exact hret t h' tk' F' N'
end
theorem say9 : True := by
  (k_with "call ref" => (k_here; (with_reducible show wpAny _ _ (call (Value.ref 81) [Value.ref _, Value.int _ _, Value.str _ _, Value.str _ _]) _ _ _); k_dflt (refine' attribute_of_some_c (by k_extra "CX") (by k_asm) (by k_extra "TREE") (by k_extra "NODE") (by k_extra "ATTRS") (by omega) (by assumption) (by ktr_room) (by ktr_units) ?_); intro _ _ _ _ _))
  (k_with "call ref" => (k_here; (with_reducible show wpAny _ _ (call (Value.ref 81) [Value.ref _, Value.int _ _, Value.str _ _]) _ _ _); k_dflt (refine' attribute_of3_some_c (by k_extra "CX") (by k_asm) (by k_extra "TREE") (by k_extra "NODE") (by k_extra "ATTRS") (by omega) (by assumption) (by ktr_room) (by ktr_units) ?_); intro _ _ _ _ _))
  (k_with "call ref" => (k_here; (with_reducible show wpAny _ _ (call (Value.ref 81) [Value.ref _, Value.int _ _, Value.str _ _, Value.str _ _]) _ _ _); k_dflt (refine' attribute_of_none_c (by k_extra "CX") (by k_asm) (by k_extra "TREE") (by k_extra "NODE") (by k_extra "ATTRS") (by omega) (by assumption) (by ktr_room) (by ktr_units) ?_); intro _ _ _ _ _))
  (k_with "call ref" => (k_here; (with_reducible show wpAny _ _ (call (Value.ref 81) [Value.ref _, Value.int _ _, Value.str _ _]) _ _ _); k_dflt (refine' attribute_of3_none_c (by k_extra "CX") (by k_asm) (by k_extra "TREE") (by k_extra "NODE") (by k_extra "ATTRS") (by omega) (by assumption) (by ktr_room) (by ktr_units) ?_); intro _ _ _ _ _))
  trivial
section
variable {prog : Program} {w : World} {p : Program} {loose : List Str} {mean : ExcName → Option Value} {mg mb : Str → Option Value}
  {dp un : Nat} {gd : Option (List Code)} {cn : Str} {cs : Scope} {a : Addr} {ccd : Value} {cl : List (Str × Addr)} {outer : List Env} {A₀ : Around} {base h₀ : Heap} {L : Addr} {m : Str → Option Value} {rest news : List (Addr × Obj)} {s : Shared} {Q E : Value → Shared → Prop}
noncomputable abbrev xslt : Str := Str.ofString "http://www.w3.org/1999/XSL/Transform"
noncomputable def isInstr (v : NodeV) (lo : Option Str) : Bool := v.kind == Str.ofString "element" && v.uri == xslt && (match lo with | none => true | some l => v.loc == l)
theorem is_instruction_none_c {tr : Addr} {its : List Value} {i : Int} {ti : Tok} {v : NodeV}
    (C : Cx w p loose mean mg mb A₀ base outer h₀ L s.heap m cs) (N : News h₀ L s.heap news) (HT : TreeIn w.params news tr its) (HN : NodeIn w.params news its i v)
    (hd : dp + 11 < recursionLimit) (hu : un + 110 < cLine)
    (hret : ∀ (h' : Heap) (tk' : Nat), Fr h₀ L h' m → News h₀ L h' news → Q (.bool (isInstr v none)) { s with heap := h', toks := tk' }) :
    wpAny (model prog w) (ktrTop dp un gd cn cs L a ccd cl outer) (call (.ref 73) [.ref tr, .int i ti, .none]) Q E s := by
  obtain ⟨B, F, X, T, hk⟩ := C
  obtain ⟨dt, rl, tt, n, ht1, ht2, ht3, hl⟩ := id HT
  refine wpAny_call ?_
  k_dflt (k_extra "ENTER")
  k_steps
  all_goals (
    first
    | (have e : isInstr v none = false := by (simp only [isInstr]; simp_all))
    | (have e : isInstr v none = true := by (simp only [isInstr]; simp_all))
    rw [e] at hret
    exact hret _ _ (by k_asm) (by k_extra "LED"))
theorem is_instruction_some_c {tr : Addr} {its : List Value} {i : Int} {ti : Tok} {v : NodeV} {l : Str} {tl : Tok}
    (C : Cx w p loose mean mg mb A₀ base outer h₀ L s.heap m cs) (N : News h₀ L s.heap news) (HT : TreeIn w.params news tr its) (HN : NodeIn w.params news its i v)
    (hd : dp + 11 < recursionLimit) (hu : un + 110 < cLine)
    (hret : ∀ (h' : Heap) (tk' : Nat), Fr h₀ L h' m → News h₀ L h' news → Q (.bool (isInstr v (some l))) { s with heap := h', toks := tk' }) :
    wpAny (model prog w) (ktrTop dp un gd cn cs L a ccd cl outer) (call (.ref 73) [.ref tr, .int i ti, .str l tl]) Q E s := by
  obtain ⟨B, F, X, T, hk⟩ := C
  obtain ⟨dt, rl, tt, n, ht1, ht2, ht3, hl⟩ := id HT
  refine wpAny_call ?_
  k_dflt (k_extra "ENTER")
  k_steps
  all_goals (
    first
    | (have e : isInstr v (some l) = false := by (simp only [isInstr]; simp_all))
    | (have e : isInstr v (some l) = true := by (simp only [isInstr]; simp_all))
    | (have e : isInstr v (some l) = (v.loc == l) := by (simp only [isInstr]; simp_all))
    rw [e] at hret
    exact hret _ _ (by k_asm) (by k_extra "LED"))
end
section
variable {prog : Program} {w : World} {p : Program} {loose : List Str} {mean : ExcName → Option Value} {mg mb : Str → Option Value}
  {dp un : Nat} {gd : Option (List Code)} {cn : Str} {cs : Scope} {a : Addr} {ccd : Value} {cl : List (Str × Addr)} {outer : List Env} {A₀ : Around} {base h₀ : Heap} {L : Addr} {m : Str → Option Value} {rest news : List (Addr × Obj)} {s : Shared} {Q E : Value → Shared → Prop}
theorem body_of_c {tr : Addr} {its : List Value} {i : Int} {ti : Tok} {v : NodeV} 
    (C : Cx w p loose mean mg mb A₀ base outer h₀ L s.heap m cs) (N : News h₀ L s.heap news) (HT : TreeIn w.params news tr its) (HN : NodeIn w.params news its i v) (hl2 : v.kids.length < 1000)
    (hd : dp + 11 < recursionLimit) (hu : un + 110 < cLine)
    (hret : ∀ (l : Addr) (c : Nat) (h' : Heap) (tk' : Nat), Fr h₀ L h' m → News h₀ L h' ((l, listOf v.kids.toArray c) :: news) → (∀ q ∈ news, q.1 < l) → Q (.ref l) { s with heap := h', toks := tk' }) :
    wpAny (model prog w) (ktrTop dp un gd cn cs L a ccd cl outer) (call (.ref 102) [.ref tr, .int i ti]) Q E s := by
  obtain ⟨B, F, X, T, hk⟩ := C
  obtain ⟨dt, rl, tt, n, ht1, ht2, ht3, hl⟩ := id HT
  refine wpAny_call ?_
  k_dflt (k_extra "ENTER")
  k_steps
  exact hret _ _ _ _ (by k_asm) (by k_asm) (by assumption)
theorem needed_ok_c {tr : Addr} {its : List Value} {i : Int} {ti : Tok} {v : NodeV} {avs : List NodeV} {loc x : Str} {tl : Tok}
    (C : Cx w p loose mean mg mb A₀ base outer h₀ L s.heap m cs) (N : News h₀ L s.heap news) (HT : TreeIn w.params news tr its) (HN : NodeIn w.params news its i v) (HA : AttrsIn w.params news its v.ats avs) (hl2 : v.ats.length < 1000) (e : attrV avs (Str.ofString "") loc = some x)
    (hd : dp + 13 < recursionLimit) (hu : un + 130 < cLine)
    (hret : ∀ (t : Tok) (h' : Heap) (tk' : Nat), Fr h₀ L h' m → News h₀ L h' news → Q (.str x t) { s with heap := h', toks := tk' }) :
    wpAny (model prog w) (ktrTop dp un gd cn cs L a ccd cl outer) (call (.ref 88) [.ref tr, .int i ti, .str loc tl]) Q E s := by
  obtain ⟨B, F, X, T, hk⟩ := C
  obtain ⟨dt, rl, tt, n, ht1, ht2, ht3, hl⟩ := id HT
  refine wpAny_call ?_
  k_dflt (k_extra "ENTER")
  k_steps
  exact hret _ _ _ (by k_asm) (by k_extra "LED")
theorem is_yes_none_c {tr : Addr} {its : List Value} {i : Int} {ti : Tok} {v : NodeV} {avs : List NodeV} {loc : Str} {tl : Tok}
    (C : Cx w p loose mean mg mb A₀ base outer h₀ L s.heap m cs) (N : News h₀ L s.heap news) (HT : TreeIn w.params news tr its) (HN : NodeIn w.params news its i v) (HA : AttrsIn w.params news its v.ats avs) (hl2 : v.ats.length < 1000) (e : attrV avs (Str.ofString "") loc = none)
    (hd : dp + 13 < recursionLimit) (hu : un + 130 < cLine)
    (hret : ∀ (h' : Heap) (tk' : Nat), Fr h₀ L h' m → News h₀ L h' news → Q (.bool false) { s with heap := h', toks := tk' }) :
    wpAny (model prog w) (ktrTop dp un gd cn cs L a ccd cl outer) (call (.ref 95) [.ref tr, .int i ti, .str loc tl]) Q E s := by
  obtain ⟨B, F, X, T, hk⟩ := C
  obtain ⟨dt, rl, tt, n, ht1, ht2, ht3, hl⟩ := id HT
  refine wpAny_call ?_
  k_dflt (k_extra "ENTER")
  k_steps
  exact hret _ _ (by k_asm) (by k_extra "LED")
theorem is_yes_some_c {tr : Addr} {its : List Value} {i : Int} {ti : Tok} {v : NodeV} {avs : List NodeV} {loc x : Str} {tl : Tok}
    (C : Cx w p loose mean mg mb A₀ base outer h₀ L s.heap m cs) (N : News h₀ L s.heap news) (HT : TreeIn w.params news tr its) (HN : NodeIn w.params news its i v) (HA : AttrsIn w.params news its v.ats avs) (hl2 : v.ats.length < 1000) (e : attrV avs (Str.ofString "") loc = some x) (hx : x = Str.ofString "yes" ∨ x = Str.ofString "no")
    (hd : dp + 13 < recursionLimit) (hu : un + 130 < cLine)
    (hret : ∀ (h' : Heap) (tk' : Nat), Fr h₀ L h' m → News h₀ L h' news → Q (.bool (x == Str.ofString "yes")) { s with heap := h', toks := tk' }) :
    wpAny (model prog w) (ktrTop dp un gd cn cs L a ccd cl outer) (call (.ref 95) [.ref tr, .int i ti, .str loc tl]) Q E s := by
  obtain ⟨B, F, X, T, hk⟩ := C
  obtain ⟨dt, rl, tt, n, ht1, ht2, ht3, hl⟩ := id HT
  rcases hx with rfl | rfl
  all_goals (refine wpAny_call ?_)
  all_goals (k_dflt (k_extra "ENTER"))
  all_goals k_steps
  all_goals exact hret _ _ (by k_asm) (by k_extra "LED")
end
theorem say10 : True := by
  (k_with "GO" => repeat' ((fail_if_success (with_reducible show wpAny _ _ (exec (PySem.Stmt.While _ _ _ _) _) _ _ _)); (fail_if_success (with_reducible show wpAny _ _ (pyIter _) _ _ _)); (first | (k_unfold; (try dsimp only)) | (k_end; wrow_close) | walk1 | (dsimp only; walk1) | (leave1; walk_say "STEP leave1"; try dsimp only))))
  trivial
section
variable {prog : Program} {w : World} {p : Program} {loose : List Str} {mean : ExcName → Option Value} {mg mb : Str → Option Value}
  {dp un : Nat} {gd : Option (List Code)} {cn : Str} {cs : Scope} {a : Addr} {ccd : Value} {cl : List (Str × Addr)} {outer : List Env} {A₀ : Around} {base h₀ : Heap} {L : Addr} {m : Str → Option Value} {rest news : List (Addr × Obj)} {s : Shared} {Q E : Value → Shared → Prop}
inductive UpIn (P : Params) (news : List (Addr × Obj)) (its : List Value) : Value → List (List NodeV) → Prop
  | out : UpIn P news its .none []
  | stop {i : Int} {t : Tok} {v : NodeV} : NodeIn P news its i v → (v.kind == Str.ofString "element") = false → UpIn P news its (.int i t) []
  | step {i : Int} {t : Tok} {v : NodeV} {avs : List NodeV} {d : List (List NodeV)} : NodeIn P news its i v → (v.kind == Str.ofString "element") = true → AttrsIn P news its v.ats avs → v.ats.length < 1000 → UpIn P news its v.par d → UpIn P news its (.int i t) (avs :: d)
theorem UpIn.mono {P : Params} {news news' : List (Addr × Obj)} {its : List Value} {x : Value} {d : List (List NodeV)} (h : UpIn P news its x d) (hs : ∀ q ∈ news, q ∈ news') : UpIn P news' its x d := by
  induction h with
  | out => exact .out
  | stop a b => exact .stop (a.mono hs) b
  | step a b c d _ ih => exact .step (a.mono hs) b (c.mono hs) d ih
theorem UpIn.handed {P : Params} {news : List (Addr × Obj)} {its : List Value} {x : Value} {d : List (List NodeV)} (h : UpIn P news its x d) : handedIn x = true := by
  cases h <;> rfl
noncomputable def spaceName : NodeV → Bool := fun a => a.name == Str.ofString "xml:space"
noncomputable def keepsV : List (List NodeV) → Bool
  | [] => false
  | avs :: d => match avs.find? spaceName with
    | some a => a.val == Str.ofString "preserve"
    | none => keepsV d
theorem keeps_spaces_c {tr : Addr} {its : List Value} {i : Int} {ti : Tok} {d₀ : List (List NodeV)}
    (C : Cx w p loose mean mg mb A₀ base outer h₀ L s.heap m cs) (N : News h₀ L s.heap news) (HT : TreeIn w.params news tr its) (HU : UpIn w.params news its (.int i ti) d₀)
    (hd : dp + 13 < recursionLimit) (hu : un + 130 < cLine)
    (hret : ∀ (h' : Heap) (tk' : Nat), Fr h₀ L h' m → News h₀ L h' news → Q (.bool (keepsV d₀)) { s with heap := h', toks := tk' }) :
    wpAny (model prog w) (ktrTop dp un gd cn cs L a ccd cl outer) (call (.ref 116) [.ref tr, .int i ti]) Q E s := by
  obtain ⟨B, F, X, T, hk⟩ := C
  obtain ⟨dt, rl, tt, n, ht1, ht2, ht3, hl⟩ := id HT
  refine wpAny_call ?_
  k_dflt (k_extra "ENTER")
  k_extra "GO"
  refine kwd_while0 (Rel := fun l x d => UpIn w.params l its x d) (y := Str.ofString "here") (d₀ := d₀) [Str.ofString "node"] List.length (fun a b => keepsV b = keepsV a) (by k_asm) (by k_asm) (by rfl) HU rfl ?_
  intro v d u h tk hR hI F' N'
  cases hR with
  | out =>
    k_steps
    have e : keepsV d₀ = false := hI.symm
    rw [e] at hret
    exact hret _ _ (by k_asm) (by k_extra "LED")
  | stop hn he =>
    k_steps
    have e : keepsV d₀ = false := hI.symm
    rw [e] at hret
    exact hret _ _ (by k_asm) (by k_extra "LED")
  | step hn he ha hl3 hup =>
    rename_i i' t' v avs d
    k_extra "GO"
    refine iter_search (fun i => (avs.take i).find? spaceName = none) (by rfl) (by k_asm) (by k_asm) (by k_mem) rfl ?turn ?done
    case turn =>
      intro j y h'' tk'' own hv hP F' N'
      obtain ⟨i'', t'', av, rfl, hav, hnode⟩ := ha.at hv
      k_steps
      · dsimp only [SPost]
        k_steps
        have e : keepsV d₀ = (av.val == Str.ofString "preserve") := by rw [← hI, keepsV, find_take_some hP hav (by assumption)]
        rw [e] at hret
        exact hret _ _ (by k_asm) (by k_extra "LED")
      · exact ⟨_, _, _, rfl, by k_asm, by k_asm, fun y hy => if_neg hy, find_take_none hP hav (by assumption)⟩
    case done =>
      intro u h'' tk'' hP F' N'
      rw [List.take_of_length_le (by rw [ha.length]; omega)] at hP
      have hpar := hup.handed
      k_steps
      refine KwdEnd0.intro (by k_asm) (by k_asm) (by k_extra "SUB") (by rfl) hup ?_ ?_ ?_
      · rw [← hI, keepsV, hP]
      · simp
      · intro x h1 h2
        have h3 : x ≠ Str.ofString "node" := by rintro rfl; simp at h2
        simp [h1, h3]
end
theorem intsAre_snoc : ∀ {lv : List Value} {ns : List Int} {k : Int}, IntsAre lv (ns ++ [k]) → ∃ lv' t, lv = lv' ++ [.int k t] ∧ IntsAre lv' ns
  | _, [], _, .cons _ t .nil => ⟨[], t, rfl, .nil⟩
  | _, n :: ns, k, .cons _ t h => by
    obtain ⟨lv', u, rfl, h'⟩ := intsAre_snoc h
    exact ⟨.int n t :: lv', u, rfl, .cons n t h'⟩
theorem intsAre_app : ∀ {a b : List Value} {ns ms : List Int}, IntsAre a ns → IntsAre b ms → IntsAre (a ++ b) (ns ++ ms)
  | _, _, _, _, .nil, h => h
  | _, _, _, _, .cons n t h', h => .cons n t (intsAre_app h' h)
theorem extend_c {prog : Program} {w : World} {A : Around} {E : Value → Shared → Prop} {s : Shared} {h₀ : Heap} {L D b : Addr} {m : Str → Option Value} {news news' : List (Addr × Obj)} {ys its2 : List Value} {n n2 : Nat} {Q : Value → Shared → Prop}
    (F : Fr h₀ L s.heap m) (N : News h₀ L s.heap news) (hb : (b, listOf its2.toArray n2) ∈ news)
    (U : Upd D (listOf ys.toArray n) (listOf (ys ++ its2).toArray (if its2 = [] then n else n + 1)) news news')
    (hz : ys.length + its2.length ≤ 100000) (h : ∀ h', Fr h₀ L h' m → News h₀ L h' news' → Q .none { s with heap := h' }) :
    wpAny (model prog w) A (call (.builtin "list.extend") [.ref D, .ref b]) Q E s := by
  have hs : ys.toArray.size + its2.toArray.size ≤ sizeLine := by rw [List.size_toArray, List.size_toArray, sizeLine_eq]; omega
  have hs1 : ys.toArray.toList.length ≤ sizeLine := by rw [List.toList_toArray, sizeLine_eq]; omega
  by_cases e : its2 = []
  · subst e
    rw [if_pos rfl, List.append_nil] at U
    exact kxn_extend F N hb rfl U (extend_door hs) hs1 (Nat.le_succ_of_le hs) h
  · rw [if_neg e] at U
    exact kl_extend F N hb (l := ys ++ its2) (by simp) (by simpa using e) U (extend_door hs) hs1 (Nat.le_succ_of_le hs) h
theorem pop_c {prog : Program} {w : World} {A : Around} {E : Value → Shared → Prop} {s : Shared} {h₀ : Heap} {L D : Addr} {m : Str → Option Value} {news news' : List (Addr × Obj)} {ys : List Value} {y : Value} {n : Nat} {Q : Value → Shared → Prop}
    (F : Fr h₀ L s.heap m) (N : News h₀ L s.heap news) (U : Upd D (listOf (ys ++ [y]).toArray n) (listOf ys.toArray (n + 1)) news news')
    (hz : ys.length ≤ 100000) (h : ∀ h', Fr h₀ L h' m → News h₀ L h' news' → Q y { s with heap := h' }) :
    wpAny (model prog w) A (call (.builtin "list.pop") [.ref D]) Q E s :=
  kl_pop F N (by rw [List.toList_toArray]; exact kpa_last y ys) U (by rw [List.toList_toArray, sizeLine_eq, List.length_append]; simp only [List.length_cons, List.length_nil]; omega) h
theorem say11 : True := by
  (k_with "call builtin:list.extend" => (k_here; (with_reducible show wpAny _ _ (call (Value.builtin _) [Value.ref _, Value.ref _]) _ _ _); k_dflt (refine' extend_c (by k_asm) (by k_asm) (by k_mem) (by k_upd) (by k_extra "LENS") ?_; k_whole); intro _ _ _))
  (k_with "call builtin:list.pop" => (k_here; (with_reducible show wpAny _ _ (call (Value.builtin _) [Value.ref _]) _ _ _); k_dflt (refine' pop_c (by k_asm) (by k_asm) (by k_upd) (by k_extra "LENS") ?_; k_whole); intro _ _ _))
  (k_with "LENS" => first | omega | (simp only [List.length_append, List.length_reverse, List.length_cons, List.length_nil, List.length_map]; omega) | (rename IntsAre _ (List.reverse _) => hIr; have hlr := IntsAre.length hIr; simp only [List.length_reverse, List.length_map] at hlr; omega))
  (k_with "subscriptTail" => (k_here; (with_reducible show wpAny _ _ (subscriptTail _ (PySem.Expr.Slice none none (some _) _) (Value.ref _) (Value.ref _)) _ _ _); k_dflt (refine' krv_lit (by k_asm) (by k_asm) (by (refine' list_of_news (by k_asm) (by k_mem))) (by exact IsPart.int _ _) (by rw [List.toList_toArray]) ?_ (by with_unfolding_all rfl) (by intro _; rfl) (by (rw [List.size_toArray, sizeLine_eq]; omega)); k_whole); intro _ _ _ _; walk_at "I:lt"))
  (k_with "INTS" => first | assumption | exact IntsAre.nil | exact intsAre_app (by k_extra "INTS") (by k_extra "INTS") | exact IntsAre.cons _ _ (by k_extra "INTS") | exact IntsAre.reverse (by k_extra "INTS"))
  trivial
theorem ne_ints_c {prog : Program} {w : World} {A : Around} {E : Value → Shared → Prop} {s : Shared} {a b : Addr} {xs ys : List Value} {ns ms : List Int} {r : Bool} {Q : Value → Shared → Prop}
    (ha : s.heap.IsList a xs.toArray) (hb : s.heap.IsList b ys.toArray) (hi : IntsAre xs ns) (hj : IntsAre ys ms) (hr : (!decide (ns = ms)) = r) (hu : A.units + 64 < cLine) (h : Q (.bool r) s) :
    wpAny (model prog w) A (compareOp .NotEq (.ref a) (.ref b)) Q E s := ke_ne_ints ha hb hi hj hu (by rw [hr]; exact h)
theorem fr_name {h₀ h : Heap} {L : Addr} {m : Str → Option Value} (F : Fr h₀ L h m) : ∃ m₀, m₀ = m ∧ Fr h₀ L h m := ⟨m, rfl, F⟩
theorem fr_agree {h₀ h : Heap} {L : Addr} {x : Str} {m₁ m₀ : Str → Option Value} (F : Fr h₀ L h m₁) (hm : ∀ y, y ≠ x → m₁ y = m₀ y) : Fr h₀ L h (fun y => if y = x then m₁ y else m₀ y) := by
  have e : (fun y => if y = x then m₁ y else m₀ y) = m₁ := by
    funext y
    by_cases h1 : y = x
    · simp [h1]
    · simp only [if_neg h1]; exact (hm y h1).symm
  rw [e]; exact F
theorem news_tail {h₀ h : Heap} {L : Addr} {x : Addr × Obj} {l : List (Addr × Obj)} (N : News h₀ L h (x :: l)) : News h₀ L h l := fun q hq => N q (.tail _ hq)
theorem say12 : True := by
  (k_with "DROP" => first | k_asm | exact news_tail (by k_extra "DROP1"))
  (k_with "DROP1" => first | k_asm | exact news_tail (by k_extra "DROP2"))
  (k_with "DROP2" => first | k_asm | exact news_tail (by k_extra "DROP3"))
  (k_with "DROP3" => first | k_asm | exact news_tail (by k_extra "DROP4"))
  (k_with "DROP4" => first | k_asm | exact news_tail (by k_asm))
  (k_with "NEQ" => first | kernel_rfl! | (simp; done) | (simp [*]; done))
  (k_with "compareOp NotEq ref ref" => (k_here; (with_reducible show wpAny _ _ (compareOp CmpOp.NotEq (Value.ref _) (Value.ref _)) _ _ _); k_dflt (first
  | (refine' ne_ints_c (r := false) (by (refine' list_of_news (by k_asm) (by k_mem))) (by (refine' list_of_news (by k_asm) (by k_mem))) (by k_extra "INTS") (by k_extra "INTS") (by k_extra "NEQ") (by ktr_units) ?_; k_whole)
  | (refine' ne_ints_c (r := true) (by (refine' list_of_news (by k_asm) (by k_mem))) (by (refine' list_of_news (by k_asm) (by k_mem))) (by k_extra "INTS") (by k_extra "INTS") (by k_extra "NEQ") (by ktr_units) ?_; k_whole))))
  (k_with "compareOp In str ref" => walk_at "compareOp In")
  (k_with "compareOp NotIn str ref" => walk_at "compareOp NotIn")
  trivial
noncomputable def isBlankS (x : Str) : Bool := Txt.stripChars x (Str.ofString " \t\r\n") == Str.ofString ""
inductive TT where
  | mk (i : Int) (kind val : Str) (kids : List TT)
noncomputable def TT.num : TT → Int
  | .mk i _ _ _ => i
mutual
noncomputable def blanksT : TT → List Int
  | .mk i kind val kids => if kind == Str.ofString "text" then (if isBlankS val then [i] else []) else if kind == Str.ofString "root" || kind == Str.ofString "element" then blanksL kids else []
noncomputable def blanksL : List TT → List Int
  | [] => []
  | t :: ts => blanksT t ++ blanksL ts
end
mutual
noncomputable def sizeT : TT → Nat
  | .mk _ _ _ kids => sizeL kids + 1
noncomputable def sizeL : List TT → Nat
  | [] => 0
  | t :: ts => sizeT t + sizeL ts
end
theorem blanksL_app : ∀ a b : List TT, blanksL (a ++ b) = blanksL a ++ blanksL b
  | [], b => rfl
  | t :: a, b => by rw [List.cons_append, blanksL, blanksL, blanksL_app a b, List.append_assoc]
theorem sizeL_app : ∀ a b : List TT, sizeL (a ++ b) = sizeL a + sizeL b
  | [], b => by simp [sizeL]
  | t :: a, b => by rw [List.cons_append, sizeL, sizeL, sizeL_app a b]; omega
theorem sizeT_pos : ∀ t : TT, 1 ≤ sizeT t
  | .mk _ _ _ kids => by rw [sizeT]; omega
theorem len_le_size : ∀ st : List TT, st.length ≤ sizeL st
  | [] => Nat.le_refl _
  | t :: st => by rw [sizeL, List.length_cons]; have := sizeT_pos t; have := len_le_size st; omega
noncomputable def KindOk (k : Str) : Prop := k = Str.ofString "root" ∨ k = Str.ofString "element" ∨ k = Str.ofString "text" ∨ k = Str.ofString "comment" ∨ k = Str.ofString "instruction"
inductive InT (P : Params) (news : List (Addr × Obj)) (its : List Value) : TT → Prop
  | mk {i : Int} {kids : List TT} {v : NodeV} : NodeIn P news its i v → KindOk v.kind → v.val.length ≤ 1000 → IntsAre v.kids (kids.map TT.num) → kids.length < 1000 → (∀ k ∈ kids, InT P news its k) → InT P news its (.mk i v.kind v.val kids)
theorem InT.mono {P : Params} {news news' : List (Addr × Obj)} {its : List Value} {t : TT} (h : InT P news its t) (hs : ∀ q ∈ news, q ∈ news') : InT P news' its t := by
  induction h with
  | mk a b c d e _ ih => exact .mk (a.mono hs) b c d e ih
section
variable {prog : Program} {w : World} {p : Program} {loose : List Str} {mean : ExcName → Option Value} {mg mb : Str → Option Value}
  {dp un : Nat} {gd : Option (List Code)} {cn : Str} {cs : Scope} {a : Addr} {ccd : Value} {cl : List (Str × Addr)} {outer : List Env} {A₀ : Around} {base h₀ : Heap} {L : Addr} {m : Str → Option Value} {rest news : List (Addr × Obj)} {s : Shared} {Q E : Value → Shared → Prop}
theorem is_blank_c {x : Str} {tx : Tok}
    (C : Cx w p loose mean mg mb A₀ base outer h₀ L s.heap m cs) (N : News h₀ L s.heap news) (hx : x.length ≤ 1000)
    (hd : dp + 5 < recursionLimit) (hu : un + 50 < cLine)
    (hret : ∀ (h' : Heap) (tk' : Nat), Fr h₀ L h' m → News h₀ L h' news → Q (.bool (isBlankS x)) { s with heap := h', toks := tk' }) :
    wpAny (model prog w) (ktrTop dp un gd cn cs L a ccd cl outer) (call (.ref 109) [.str x tx]) Q E s := by
  obtain ⟨B, F, X, T, hk⟩ := C
  refine wpAny_call ?_
  k_dflt (k_extra "ENTER")
  k_steps
  exact hret _ _ (by k_asm) (by k_extra "LED")
theorem say13 : True := by
  (k_with "call ref" => (k_here; (with_reducible show wpAny _ _ (call (Value.ref 109) [Value.str _ _]) _ _ _); k_dflt (refine' is_blank_c (by k_extra "CX") (by k_asm) (by first | assumption | omega) (by ktr_room) (by ktr_units) ?_); intro _ _ _ _))
  trivial
inductive JBt (P : Params) (its : List Value) (t₀ : TT) (la fa : Addr) (news : List (Addr × Obj)) (m₀ : Str → Option Value) (n : Nat) (m₁ : Str → Option Value) (news₁ : List (Addr × Obj)) : Prop
  | mk (st : List TT) (fl : List Int) (lv fv : List Value) (c1 c2 : Nat) (e : news₁ = (la, listOf lv.toArray c1) :: (fa, listOf fv.toArray c2) :: news) (h1 : IntsAre lv (st.map TT.num).reverse) (h2 : IntsAre fv fl)
    (h3 : fl ++ blanksL st = blanksT t₀) (h4 : sizeL st + fl.length ≤ sizeT t₀) (h5 : n = sizeL st) (h6 : ∀ t ∈ st, InT P news its t) (h7 : ∀ y, y ≠ Str.ofString "node" → m₁ y = m₀ y)
theorem blank_texts_c {tr : Addr} {its : List Value} {ti : Tok} {t₀ : TT}
    (C : Cx w p loose mean mg mb A₀ base outer h₀ L s.heap m cs) (N : News h₀ L s.heap news) (HT : TreeIn w.params news tr its) (HU : InT w.params news its t₀) (hz : sizeT t₀ < 5000)
    (hd : dp + 13 < recursionLimit) (hu : un + 200 < cLine)
    (hret : ∀ (l : Addr) (vs : List Value) (c : Nat) (h' : Heap) (tk' : Nat), Fr h₀ L h' m → News h₀ L h' ((l, listOf vs.toArray c) :: news) → (∀ q ∈ news, q.1 < l) → IntsAre vs (blanksT t₀) → Q (.ref l) { s with heap := h', toks := tk' }) :
    wpAny (model prog w) (ktrTop dp un gd cn cs L a ccd cl outer) (call (.ref 123) [.ref tr, .int t₀.num ti]) Q E s := by
  obtain ⟨B, F, X, T, hk⟩ := C
  obtain ⟨dt, rl, tt, n, ht1, ht2, ht3, hl⟩ := id HT
  refine wpAny_call ?_
  k_dflt (k_extra "ENTER")
  k_extra "GO"
  rename_i fa h5 la1 la h4 la2 D h3 la3 h2 h1 h0 F9 N9
  obtain ⟨la2, la2'⟩ := la2
  have na : ∀ q ∈ news, q.1 ≠ fa := fun q hq => Nat.ne_of_lt (la1 q hq)
  obtain ⟨m₀, em, F9⟩ := fr_name F9
  refine While_inv2 (n₀ := sizeL [t₀]) (fun n m₁ news₁ => JBt w.params its t₀ la fa news m₀ n m₁ news₁) F9 (by k_extra "DROP") ⟨[t₀], [], _, _, _, _, rfl, .cons _ _ .nil, .nil, by simp [blanksL], by simp [sizeL], rfl, by simpa using HU, fun _ _ => by rw [em]⟩ ?_
  rintro n' m₁ news₁ h₁ tk₁ F1 N1 ⟨st, fl, lv, fv, c1, c2, rfl, hlv, hfv, hbl, hsz, rfl, hin, hm⟩
  have F2 := fr_agree F1 hm
  clear F1 N9 F9
  subst em
  (try k_unmd); (try k_fold)
  cases st with
  | nil =>
    have e0 : lv = [] := by cases hlv; rfl
    subst e0
    k_steps
    refine hret _ _ _ _ _ (by k_asm) (news_sub (by assumption) (by k_extra "SUB")) (by assumption) ?_
    rw [← hbl, blanksL, List.append_nil]
    exact hfv
  | cons t st' =>
    rw [List.map_cons, List.reverse_cons] at hlv
    obtain ⟨lv', tk2, rfl, hlv'⟩ := intsAre_snoc hlv
    cases hin t (.head _) with
    | @mk i kids v hn hko hvl hki hkl hkin =>
      have hkl2 : v.kids.length < 1000 := by have h1 := hki.length; rw [List.length_map] at h1; omega
      have hl1 : lv'.length < 5000 := by
        have h1 := hlv'.length
        have h2 := len_le_size st'
        rw [List.length_reverse, List.length_map] at h1
        rw [sizeL] at hsz
        omega
      have hl2 : fv.length < 5000 := by have h1 := hfv.length; omega
      have hsz2 : sizeL (TT.mk i v.kind v.val kids :: st') = sizeL kids + 1 + sizeL st' := by rw [sizeL, sizeT]
      rw [hsz2] at hsz
      by_cases hk1 : (v.kind == Str.ofString "text") = true
      · cases hb : isBlankS v.val
        · k_steps
          refine' ⟨_, _, _, _, _, rfl, ?hF, by k_extra "DROP", ?_, st', fl, _, _, _, _, rfl, by k_extra "INTS", by k_extra "INTS", ?_, by omega, rfl, fun t ht => hin t (.tail _ ht), ?hm⟩
          case hF => k_asm
          case hm => intro y hy; first | exact if_neg hy | simp [hy]
          · rw [hsz2]; omega
          · rw [← hbl, blanksL, blanksT, if_pos hk1, hb]; rfl
        · k_steps
          refine' ⟨_, _, _, _, _, rfl, ?hF, by k_extra "DROP", ?_, st', fl ++ [i], _, _, _, _, rfl, by k_extra "INTS", by k_extra "INTS", ?_, by (simp only [List.length_append, List.length_cons, List.length_nil]; omega), rfl, fun t ht => hin t (.tail _ ht), ?hm⟩
          case hF => k_asm
          case hm => intro y hy; first | exact if_neg hy | simp [hy]
          · rw [hsz2]; omega
          · rw [← hbl, blanksL, blanksT, if_pos hk1, hb, if_pos rfl, List.append_assoc]
      · simp only [Bool.not_eq_true] at hk1
        by_cases hk2 : (Str.ofString "root" == v.kind || Str.ofString "element" == v.kind) = true
        · k_steps
          refine' ⟨_, _, _, _, _, rfl, ?hF, by k_extra "DROP", ?_, kids ++ st', fl, _, _, _, _, rfl, ?_, by k_extra "INTS", ?_, ?_, rfl, ?_, ?hm⟩
          case hF => k_asm
          case hm => intro y hy; first | exact if_neg hy | simp [hy]
          · rw [hsz2, sizeL_app]; omega
          · rw [List.map_append, List.reverse_append]; exact intsAre_app (by k_extra "INTS") (by k_extra "INTS")
          · rw [← hbl, blanksL, blanksT, hk1, blanksL_app, if_neg (by decide), if_pos (by rw [← hk2]; simp only [BEq.comm])]
          · rw [sizeL_app]; omega
          · intro t ht
            rcases List.mem_append.mp ht with ht | ht
            · exact hkin t ht
            · exact hin t (.tail _ ht)
        · simp only [Bool.not_eq_true] at hk2
          k_steps
          refine' ⟨_, _, _, _, _, rfl, ?hF, by k_extra "DROP", ?_, st', fl, _, _, _, _, rfl, by k_extra "INTS", by k_extra "INTS", ?_, by omega, rfl, fun t ht => hin t (.tail _ ht), ?hm⟩
          case hF => k_asm
          case hm => intro y hy; first | exact if_neg hy | simp [hy]
          · rw [hsz2]; omega
          · rw [← hbl, blanksL, blanksT, hk1, if_neg (by decide), if_neg (by rw [Bool.not_eq_true, ← hk2]; simp only [BEq.comm])]; rfl
end
structure RowV where
  node : Int
  kind : Str
  above : Value
  uri : Str
  loc : Str
  held : Addr
  word : Option Str
  text : Str
noncomputable def WordIs : Option Str → Value → Prop
  | .none, v => v = .none
  | some x, v => ∃ t, v = .str x t
inductive RowIn (prog : Program) (w : World) (news : List (Addr × Obj)) (ra : Addr) (v : RowV) : Prop
  | mk (o : Obj) (kvs : List (Str × Value)) (t1 t2 t3 t4 t5 : Tok) (wv : Value) (h1 : (ra, o) ∈ news) (h2 : o.IsDictOf (PySem.strKind prog w) kvs) (h3 : (ra == sysModules) = false) (g1 : valueAt kvs (Str.ofString "node") = some (.int v.node t1)) (g2 : valueAt kvs (Str.ofString "kind") = some (.str v.kind t2))
    (g3 : valueAt kvs (Str.ofString "above") = some v.above) (g4 : valueAt kvs (Str.ofString "uri") = some (.str v.uri t3)) (g5 : valueAt kvs (Str.ofString "local") = some (.str v.loc t4)) (g6 : valueAt kvs (Str.ofString "held") = some (.ref v.held))
    (g7 : valueAt kvs (Str.ofString "word") = some wv) (g8 : WordIs v.word wv) (g9 : valueAt kvs (Str.ofString "text") = some (.str v.text t5))
theorem RowIn.mono {prog : Program} {w : World} {news news' : List (Addr × Obj)} {ra : Addr} {v : RowV} (h : RowIn prog w news ra v) (hs : ∀ q ∈ news, q ∈ news') : RowIn prog w news' ra v := by
  obtain ⟨o, kvs, t1, t2, t3, t4, t5, wv, h1, h2, h3, g1, g2, g3, g4, g5, g6, g7, g8, g9⟩ := h
  exact ⟨o, kvs, t1, t2, t3, t4, t5, wv, hs _ h1, h2, h3, g1, g2, g3, g4, g5, g6, g7, g8, g9⟩
theorem say14 : True := by
  (k_with "subscriptTail Name Constant ref str" => (k_here; (with_reducible show wpAny _ _ (subscriptTail _ _ (Value.ref _) (Value.str _ _)) _ _ _); k_dflt (refine' kda_item (knd := PySem.strKind _ _) (by k_asm) (by k_mem) (by assumption) (strKind_is _ _ _ _) (by assumption) ?_; k_whole)))
  trivial
section
variable {prog : Program} {w : World} {p : Program} {loose : List Str} {mean : ExcName → Option Value} {mg mb : Str → Option Value}
  {dp un : Nat} {gd : Option (List Code)} {cn : Str} {cs : Scope} {a : Addr} {ccd : Value} {cl : List (Str × Addr)} {outer : List Env} {A₀ : Around} {base h₀ : Heap} {L : Addr} {m : Str → Option Value} {rest news : List (Addr × Obj)} {s : Shared} {Q E : Value → Shared → Prop}
inductive RowUp (prog : Program) (w : World) (news : List (Addr × Obj)) : Value → List (Option Str) → Prop
  | out : RowUp prog w news .none []
  | stop {ra : Addr} {v : RowV} : RowIn prog w news ra v → (v.kind == Str.ofString "element") = false → RowUp prog w news (.ref ra) []
  | step {ra : Addr} {v : RowV} {d : List (Option Str)} : RowIn prog w news ra v → (v.kind == Str.ofString "element") = true → RowUp prog w news v.above d → RowUp prog w news (.ref ra) (v.word :: d)
theorem RowUp.mono {prog : Program} {w : World} {news news' : List (Addr × Obj)} {x : Value} {d : List (Option Str)} (h : RowUp prog w news x d) (hs : ∀ q ∈ news, q ∈ news') : RowUp prog w news' x d := by
  induction h with
  | out => exact .out
  | stop a b => exact .stop (a.mono hs) b
  | step a b _ ih => exact .step (a.mono hs) b ih
theorem RowUp.handed {prog : Program} {w : World} {news : List (Addr × Obj)} {x : Value} {d : List (Option Str)} (h : RowUp prog w news x d) : handedIn x = true := by
  cases h <;> rfl
noncomputable def keptW : List (Option Str) → Bool
  | [] => false
  | some x :: _ => x == Str.ofString "preserve"
  | none :: d => keptW d
theorem law_kept_c {x : Value} {d₀ : List (Option Str)}
    (C : Cx w p loose mean mg mb A₀ base outer h₀ L s.heap m cs) (N : News h₀ L s.heap news) (HU : RowUp prog w news x d₀)
    (hd : dp + 5 < recursionLimit) (hu : un + 50 < cLine)
    (hret : ∀ (h' : Heap) (tk' : Nat), Fr h₀ L h' m → News h₀ L h' news → Q (.bool (keptW d₀)) { s with heap := h', toks := tk' }) :
    wpAny (model prog w) (ktrTop dp un gd cn cs L a ccd cl outer) (call (.ref 384) [x]) Q E s := by
  obtain ⟨B, F, X, T, hk⟩ := C
  have hx := HU.handed
  refine wpAny_call ?_
  k_dflt (k_extra "ENTER")
  k_extra "GO"
  refine kwd_while0 (Rel := fun l x d => RowUp prog w l x d) (y := Str.ofString "row") (d₀ := d₀) [] List.length (fun a b => keptW b = keptW a) (by k_asm) (by k_asm) (by rfl) HU rfl ?_
  intro v d u h tk hR hI F' N'
  cases hR with
  | out =>
    k_steps
    have e : keptW d₀ = false := hI.symm
    rw [e] at hret
    exact hret _ _ (by k_asm) (by k_extra "LED")
  | stop hn he =>
    obtain ⟨o, kvs, t1, t2, t3, t4, t5, wv, h1, h2, h3, g1, g2, g3, g4, g5, g6, g7, g8, g9⟩ := hn
    k_steps
    have e : keptW d₀ = false := hI.symm
    rw [e] at hret
    exact hret _ _ (by k_asm) (by k_extra "LED")
  | step hn he hup =>
    rename_i ra v d
    obtain ⟨o, kvs, t1, t2, t3, t4, t5, wv, h1, h2, h3, g1, g2, g3, g4, g5, g6, g7, g8, g9⟩ := hn
    cases e1 : v.word with
    | some x =>
      rw [e1] at g8
      obtain ⟨tx, rfl⟩ := g8
      k_steps
      have e : keptW d₀ = (x == Str.ofString "preserve") := by rw [← hI, e1, keptW]
      rw [e] at hret
      exact hret _ _ (by k_asm) (by k_extra "LED")
    | none =>
      rw [e1] at g8
      cases g8
      have hpar := hup.handed
      k_steps
      refine KwdEnd0.intro (by k_asm) (by k_asm) (by k_extra "SUB") (by rfl) hup ?_ ?_ ?_
      · rw [← hI, e1, keptW]
      · simp
      · intro x h1 h2
        simp [h1]
end
inductive All2 {α : Type} (R : Value → α → Prop) : List Value → List α → Prop
  | nil : All2 R [] []
  | cons {v : Value} {a : α} {vs : List Value} {as : List α} : R v a → All2 R vs as → All2 R (v :: vs) (a :: as)
theorem All2.snoc {α : Type} {R : Value → α → Prop} {v : Value} {a : α} : ∀ {vs : List Value} {as : List α}, All2 R vs as → R v a → All2 R (vs ++ [v]) (as ++ [a])
  | _, _, .nil, h => .cons h .nil
  | _, _, .cons h t, h' => .cons h (t.snoc h')
theorem All2.length {α : Type} {R : Value → α → Prop} : ∀ {vs : List Value} {as : List α}, All2 R vs as → vs.length = as.length
  | _, _, .nil => rfl
  | _, _, .cons _ t => by simp [t.length]
theorem All2.at {α : Type} {R : Value → α → Prop} : ∀ {vs : List Value} {as : List α}, All2 R vs as → ∀ {i : Nat} {v : Value}, vs[i]? = some v → ∃ a, as[i]? = some a ∧ R v a
  | _, _, .nil, i, v, h => by simp at h
  | _, _, .cons h t, 0, v, hv => ⟨_, rfl, by simp at hv; exact hv ▸ h⟩
  | _, _, .cons h t, i + 1, v, hv => by simpa using t.at (by simpa using hv)
theorem All2.imp {α : Type} {R R' : Value → α → Prop} (hi : ∀ v a, R v a → R' v a) : ∀ {vs : List Value} {as : List α}, All2 R vs as → All2 R' vs as
  | _, _, .nil => .nil
  | _, _, .cons h t => .cons (hi _ _ h) (t.imp hi)
theorem sub_skip2 (a b : Addr × Obj) (l : List (Addr × Obj)) : ∀ q ∈ a :: l, q ∈ a :: b :: l := fun q hq => (List.mem_cons.mp hq).elim (fun e => e ▸ .head _) (fun h => .tail _ (.tail _ h))
theorem off1_mem {D : Addr} : ∀ (l : List (Addr × Obj)), LCg.Off1 D l → ∀ q ∈ l, q.1 ≠ D := by
  intro l
  induction l with
  | nil => intro _ q hq; cases hq
  | cons p r ih =>
    intro h q hq
    rcases List.mem_cons.mp hq with e | hq
    · rw [e]; exact h.1
    · exact ih h.2 q hq
section
variable {prog : Program} {w : World} {A : Around} {h₀ : Heap} {L : Addr} {m : Str → Option Value} {env : Env} {ct elt : PySem.Expr} {x : Str} {scope : Scope} {cl : List (Str × Addr)} {s : Shared} {S : List (Addr × Obj) → Prop} {P : Nat → Value → Prop} {Fin : List Value → List (Addr × Obj) → Prop} {news : List (Addr × Obj)}
theorem compT_rel {α : Type} {as : List α} {n : Nat} (keep : α → Bool) (Rel R : Value → α → Prop) (hn : as.length = n) (hP : ∀ i v, i < n → P i v → ∃ a, as[i]? = some a ∧ Rel v a)
    (turn : ∀ (a : α) (v : Value) I oI C oC D m₂ ys h tk (E' : Value → Shared → Prop), a ∈ as → Rel v a → LCg.NsObj oC m₂ → m₂ x = some v → Fr h₀ L h m → News h₀ L h ((I, oI) :: (C, oC) :: (D, LCg.lst ys) :: news) → LCg.Off3 I C D news → ((@Ne Nat I C) ∧ (@Ne Nat I D) ∧ (@Ne Nat C D)) →
      wpAny (model prog w) A (isTrue ct (compEnvC scope cl C env) (eval ct (compEnvC scope cl C env))) (fun b s' => if b = true then wpAny (model prog w) A (eval elt (compEnvC scope cl C env)) (LCg.CompEnd h₀ L m { s with heap := h, toks := tk } I oI C oC D (LCg.lst ys) S (fun y news' => news' = news ∧ keep a = true ∧ R y a)) E' s'
        else LCg.CompEnd h₀ L m { s with heap := h, toks := tk } I oI C oC D (LCg.lst ys) S (fun _ news' => news' = news ∧ keep a = false) Value.none s') E' { s with heap := h, toks := tk })
    (fin : ∀ ys, All2 R ys (as.filter keep) → Fin ys news) : LCt.CompRestT prog w A h₀ L m env ct elt x scope cl s S P Fin n 0 [] news := by
  have key : ∀ (j i : Nat) (ys : List Value), i + j = n → All2 R ys ((as.take i).filter keep) → LCt.CompRestT prog w A h₀ L m env ct elt x scope cl s S P Fin j i ys news := by
    intro j
    induction j with
    | zero =>
      intro i ys hi hy
      have e : i = as.length := by omega
      subst e
      rw [List.take_length] at hy
      exact LCt.CompRestT.zero (fin ys hy)
    | succ j ih =>
      intro i ys hi hy
      refine LCt.CompRestT.succ ?_
      intro v I oI C oC D m₂ h tk E' hv hC hx F N off ne
      obtain ⟨a, ha, hr⟩ := hP i v (by omega) hv
      have hs : as.take (i + 1) = as.take i ++ [a] := by
        rw [List.take_add_one, ha]; simp
      refine wpAny_mono (turn a v I oI C oC D m₂ ys h tk E' (List.mem_of_getElem? ha) hr hC hx F N off ne) (fun b s₂ hq => ?_) fun _ _ e => e
      cases b with
      | true =>
        simp only [if_true] at hq ⊢
        refine wpAny_mono hq (fun y s₃ hr => ?_) fun _ _ e => e
        obtain ⟨h', tk', nw, e, F', N', off', hS, hnw, hk, hy'⟩ := hr
        subst hnw
        refine ⟨h', tk', _, e, F', N', off', hS, ih (i + 1) _ (by omega) ?_⟩
        rw [hs, List.filter_append, List.filter_cons, if_pos hk, List.filter_nil]
        exact hy.snoc hy'
      | false =>
        simp only [Bool.false_eq_true, if_false] at hq ⊢
        obtain ⟨h', tk', nw, e, F', N', off', hS, hnw, hk⟩ := hq
        subst hnw
        refine ⟨h', tk', _, e, F', N', off', hS, ih (i + 1) _ (by omega) ?_⟩
        rw [hs, List.filter_append, List.filter_cons, if_neg (by rw [hk]; decide), List.filter_nil, List.append_nil]
        exact hy
  exact key n 0 [] (by omega) (by simp only [List.take_zero, List.filter_nil]; exact .nil)
theorem comp_rel {α : Type} {as : List α} {n : Nat} (Rel R : Value → α → Prop) (hn : as.length = n) (hP : ∀ i v, i < n → P i v → ∃ a, as[i]? = some a ∧ Rel v a)
    (turn : ∀ (a : α) (v : Value) I oI C oC D m₂ ys h tk (E' : Value → Shared → Prop), a ∈ as → Rel v a → LCg.NsObj oC m₂ → m₂ x = some v → Fr h₀ L h m → News h₀ L h ((I, oI) :: (C, oC) :: (D, LCg.lst ys) :: news) → LCg.Off3 I C D news → ((@Ne Nat I C) ∧ (@Ne Nat I D) ∧ (@Ne Nat C D)) →
      wpAny (model prog w) A (eval elt (compEnvC scope cl C env)) (LCg.CompEnd h₀ L m { s with heap := h, toks := tk } I oI C oC D (LCg.lst ys) S (fun y news' => news' = news ∧ R y a)) E' { s with heap := h, toks := tk })
    (fin : ∀ ys, All2 R ys as → Fin ys news) : LCg.CompRest prog w A h₀ L m env elt x scope cl s S P Fin n 0 [] news := by
  have key : ∀ (j i : Nat) (ys : List Value), i + j = n → All2 R ys (as.take i) → LCg.CompRest prog w A h₀ L m env elt x scope cl s S P Fin j i ys news := by
    intro j
    induction j with
    | zero =>
      intro i ys hi hy
      have e : i = as.length := by omega
      subst e
      rw [List.take_length] at hy
      exact LCg.CompRest.zero (fin ys hy)
    | succ j ih =>
      intro i ys hi hy
      refine LCg.CompRest.succ ?_
      intro v I oI C oC D m₂ h tk E' hv hC hx F N off ne
      obtain ⟨a, ha, hr⟩ := hP i v (by omega) hv
      have hs : as.take (i + 1) = as.take i ++ [a] := by
        rw [List.take_add_one, ha]; simp
      refine wpAny_mono (turn a v I oI C oC D m₂ ys h tk E' (List.mem_of_getElem? ha) hr hC hx F N off ne) (fun y s₃ hr => ?_) fun _ _ e => e
      obtain ⟨h', tk', nw, e, F', N', off', hS, hnw, hy'⟩ := hr
      subst hnw
      refine ⟨h', tk', _, e, F', N', off', hS, ih (i + 1) _ (by omega) ?_⟩
      rw [hs]
      exact hy.snoc hy'
  exact key n 0 [] (by omega) (by simp only [List.take_zero]; exact .nil)
end
local macro_rules | `(tactic| walk_at "I:ec") => `(tactic| (intro g' L' h' tk' cells' FG' F' N' Y' B' X' T' l1; (try k_lt l1); k_cells Y'; (try simp only [List.cons_append, List.nil_append] at N'); (try dsimp only); (try k_fold)))
theorem say15 : True := by
  (k_with "ENTERC" => (refine' code_defC (by k_asm) (by k_asm) (by k_asm) (by k_asm) (by k_asm) (by exact rfl) (by exact rfl) (by first | assumption | exact rfl) (by k_is) (by k_is) (by ktr_room) (by first | exact BindsTo.of_eq rfl | exact binds_K (by k_in) rfl (by k_is) rfl rfl rfl) (by exact rfl) (by decide +kernel) ?_ (by exact rfl) (by exact rfl) (by exact rfl); k_whole; walk_at "I:ec"))
  (k_with "eval ListComp" => (k_here; (with_reducible show wpAny _ _ (eval (PySem.Expr.ListComp _ [⟨_, _, [_], _⟩] _ _) _) _ _ _); k_dflt (refine LCt.ListComp_T (F₀ := by k_asm) (by with_unfolding_all rfl) (by decide) (by rfl) (by decide) (by rfl) ?_)))
  (k_with "eval ListComp" => (k_here; (with_reducible show wpAny _ _ (eval (PySem.Expr.ListComp _ [⟨_, _, [], _⟩] _ _) _) _ _ _); k_dflt (refine LCg.ListComp_U (F₀ := by k_asm) (by with_unfolding_all rfl) (by decide) (by rfl) (by decide) (by rfl) ?_)))
  (k_with "GO2" => repeat' ((fail_if_success (with_reducible show wpAny _ _ (exec (PySem.Stmt.While _ _ _ _) _) _ _ _)); (fail_if_success (with_reducible show wpAny _ _ (pyIter _) _ _ _)); (fail_if_success (with_reducible show LCt.CompSrcT _ _ _ _ _ _ _ _ _ _ _ _ _ _ _)); (fail_if_success (with_reducible show LCg.CompSrc _ _ _ _ _ _ _ _ _ _ _ _ _ _)); (first | (k_unfold; (try dsimp only)) | (k_end; wrow_close) | walk1 | (dsimp only; walk1) | (leave1; walk_say "STEP leave1"; try dsimp only))))
  trivial
section
variable {prog : Program} {w : World} {p : Program} {loose : List Str} {mean : ExcName → Option Value} {mg mb : Str → Option Value}
  {dp un : Nat} {gd : Option (List Code)} {cn : Str} {cs : Scope} {a : Addr} {ccd : Value} {cl : List (Str × Addr)} {outer : List Env} {A₀ : Around} {base h₀ : Heap} {L : Addr} {m : Str → Option Value} {rest news : List (Addr × Obj)} {s : Shared} {Q E : Value → Shared → Prop}
theorem RowIn.cls {news : List (Addr × Obj)} {ra : Addr} {v : RowV} (h : RowIn prog w news ra v) : ∃ o, (ra, o) ∈ news ∧ o.cls = .type "dict" := by
  obtain ⟨o, kvs, t1, t2, t3, t4, t5, wv, h1, h2, r⟩ := h
  obtain ⟨es, ep, hx, r2⟩ := h2
  exact ⟨o, h1, hx.1⟩
theorem is_row_c {A : Around} {a b : Addr} {v1 v2 : RowV} (N : News h₀ L s.heap news) (h1 : RowIn prog w news b v1) (h2 : RowIn prog w news a v2) (h : Q (.bool (decide (b = a))) s) : wpAny (model prog w) A (compareOp .Is (.ref b) (.ref a)) Q E s := by
  obtain ⟨o1, m1, c1⟩ := h1.cls
  obtain ⟨o2, m2, c2⟩ := h2.cls
  by_cases e : b = a
  · subst e
    simp only [decide_true] at h
    exact wpAny_is_ref_self h
  · simp only [e, decide_false] at h
    exact kto_is (N _ m1).1 (N _ m2).1 e (by rw [c1]; intro z; exact absurd (Value.type.inj z) (by decide)) h
theorem law_inner_c {rl ra : Addr} {nr : Nat} {rvs : List (Addr × RowV)}
    (C : Cx w p loose mean mg mb A₀ base outer h₀ L s.heap m cs) (N : News h₀ L s.heap news) (hrl : (rl, listOf (rvs.map fun q => Value.ref q.1).toArray nr) ∈ news) (hlen : rvs.length < 1000) (hr : ∀ q ∈ rvs, RowIn prog w news q.1 q.2)
    (hab : ∀ q ∈ rvs, q.2.above = .none ∨ ∃ b v, q.2.above = .ref b ∧ RowIn prog w news b v) {v₁ : RowV} (hra : RowIn prog w news ra v₁)
    (hd : dp + 5 < recursionLimit) (hu : un + 50 < cLine)
    (hret : ∀ (l : Addr) (c : Nat) (h' : Heap) (tk' : Nat), Fr h₀ L h' m → News h₀ L h' ((l, listOf ((rvs.filter fun q => decide (q.2.above = .ref ra)).map fun q => Value.ref q.1).toArray c) :: news) → (∀ q ∈ news, q.1 ≠ l) → Q (.ref l) { s with heap := h', toks := tk' }) :
    wpAny (model prog w) (ktrTop dp un gd cn cs L a ccd cl outer) (call (.ref 372) [.ref rl, .ref ra]) Q E s := by
  obtain ⟨B, F, X, T, hk⟩ := C
  refine wpAny_call ?_
  k_dflt (k_extra "ENTERC")
  k_extra "GO2"
  refine LCt.CompSrcT.ledger (by rfl) (by k_asm) (by k_asm) (by k_mem) (by rw [List.size_toArray, List.length_map, sizeLine_eq]; omega) ?_
  intro g'
  refine compT_rel (as := rvs) (fun q => decide (q.2.above = .ref ra)) (fun v q => v = .ref q.1) (fun v q => v = .ref q.1) (by rw [List.size_toArray, List.length_map]) (fun i v hi hv => ?hP) ?turn ?fin
  case hP =>
    rw [List.getElem?_toArray, List.getElem?_map] at hv
    cases e : rvs[i]? with
    | none => rw [e] at hv; cases hv
    | some q => rw [e] at hv; cases hv; exact ⟨q, rfl, rfl⟩
  case turn =>
    rintro q v I oI C oC D m₂ ys h tk E' hq rfl hC hx F' N' off hne
    have offm := off
    simp only [LCg.Off3] at off
    obtain ⟨o, kvs, t1, t2, t3, t4, t5, wv, h1, h2, h3, g1, g2, g3, g4, g5, g6, g7, g8, g9⟩ := hr q hq
    rcases hab q hq with ha | ⟨b, vb, ha, hb⟩
    · rw [ha] at g3
      k_steps
      refine LCg.CompEnd.intro (by k_asm) (by k_asm) _ (fun _ h => h) offm (.inr ⟨_, List.mem_cons_of_mem _ hrl, rfl, _, rfl⟩) ⟨rfl, ?_⟩
      rw [ha]; rfl
    · rw [ha] at g3
      k_steps
      refine is_row_c (by k_asm) (hb.mono (by k_extra "SUB")) (hra.mono (by k_extra "SUB")) ?_
      by_cases e : b = ra
      · simp only [e, decide_true]
        k_steps
        refine LCg.CompEnd.intro (by k_asm) (by k_asm) _ (fun _ h => h) offm (.inr ⟨_, List.mem_cons_of_mem _ hrl, rfl, _, rfl⟩) ⟨rfl, ?_, rfl⟩
        rw [ha, e]; exact decide_eq_true rfl
      · simp only [e, decide_false]
        k_steps
        refine LCg.CompEnd.intro (by k_asm) (by k_asm) _ (fun _ h => h) offm (.inr ⟨_, List.mem_cons_of_mem _ hrl, rfl, _, rfl⟩) ⟨rfl, ?_⟩
        rw [ha]; exact decide_eq_false fun z => e (Value.ref.inj z)
  case fin =>
    intro ys hys D h tk F' N' off
    have e : ys = (rvs.filter fun q => decide (q.2.above = .ref ra)).map fun q => Value.ref q.1 := by
      generalize (rvs.filter fun q => decide (q.2.above = .ref ra)) = l at hys
      clear N'
      induction hys with
      | nil => rfl
      | cons h _ ih => rw [h, ih]; rfl
    subst e
    k_steps
    exact hret _ _ _ _ (by k_asm) (news_sub (by assumption) (sub_skip2 _ _ _)) (fun q hq => off1_mem _ off q (.tail _ hq))
end
section
variable {prog : Program} {w : World} {A : Around} {E : Value → Shared → Prop} {s : Shared} {env : Env} {h₀ : Heap} {x : Str} {body : List Stmt} {Q : Flow → Shared → Prop}
inductive AEnd (h₀ : Heap) (L : Addr) (own : List (Addr × Obj)) (I : Addr) (J : (Str → Option Value) → List (Addr × Obj) → Prop) (s₁ s₂ : Shared) : Prop
  | mk (h' : Heap) (tk : Nat) (m' : Str → Option Value) (news' : List (Addr × Obj)) (e : s₂ = { s₁ with heap := h', toks := tk }) (F : Fr h₀ L h' m') (N : News h₀ L h' (own ++ news')) (o : ∀ q ∈ news', q.1 ≠ I) (j : J m' news')
noncomputable def APost (h₀ : Heap) (L : Addr) (own : List (Addr × Obj)) (I : Addr) (J : (Str → Option Value) → List (Addr × Obj) → Prop) (s₁ : Shared) (Q : Flow → Shared → Prop) (f : Flow) (s₂ : Shared) : Prop :=
  match f with
  | .ret v => Q (.ret v) s₂
  | .brk => Q .next s₂
  | _ => AEnd h₀ L own I J s₁ s₂
theorem iter_acc {l : Addr} {n : Nat} {vs : List Value} {m₀ : Str → Option Value} {news : List (Addr × Obj)} (J : Nat → (Str → Option Value) → List (Addr × Obj) → Prop)
    (hh : A.handled = none) (F : Fr h₀ env.locals s.heap m₀) (N : News h₀ env.locals s.heap news) (hm : (l, listOf vs.toArray n) ∈ news) (h0 : J 0 m₀ news)
    (turn : ∀ (i : Nat) (v : Value) (h : Heap) (tk : Nat) (m₁ : Str → Option Value) (news₁ : List (Addr × Obj)) (I : Addr) (oI ol : Obj), vs[i]? = some v → J i m₁ news₁ → Fr h₀ env.locals h (fun y => if y = x then some v else m₁ y) → News h₀ env.locals h ((I, oI) :: (l, ol) :: news₁) → (∀ q ∈ news₁, q.1 ≠ I) → I ≠ l →
      wpAny (model prog w) A (execs body env) (APost h₀ env.locals [(I, oI), (l, ol)] I (J (i + 1)) { s with heap := h, toks := tk } Q) E { s with heap := h, toks := tk })
    (done : ∀ (h : Heap) (tk : Nat) (m₁ : Str → Option Value) (news₁ : List (Addr × Obj)), J vs.length m₁ news₁ → Fr h₀ env.locals h m₁ → News h₀ env.locals h news₁ → Q .next { s with heap := h, toks := tk }) :
    wpAny (model prog w) A (pyIter (.ref l)) (fun it s₂ => LoopAtV prog w A h₀ env x body Q E it s₂) E s := by
  have hls : s.heap.IsList l vs.toArray := list_of_news N hm
  have hl0 := (N _ hm).2.2
  have hlt := Heap.lt_size (N.get hm)
  have hne : l ≠ s.heap.objs.size := Nat.ne_of_lt hlt
  refine wpAny_pyIter_list hls ?_
  have W := Walks.list (prog := prog) (w := w) hh s.heap.objs.size l hne vs.toArray
  have hlen : vs.toArray.size = vs.length := List.size_toArray ..
  rw [hlen] at W
  refine ⟨_, _, _, vs.length, _, _, m₀, news, J, rfl, W, ?_, ?_, ?_, ⟨⟨_, Heap.get?_push_size _ rfl, rfl, rfl⟩, hls.at fun o e => Heap.get?_push_of_some _ e⟩, F.push _, (fun p hp => ⟨Heap.get?_push_of_some _ (N p hp).1, (N p hp).2⟩), h0, ?_, ?_⟩
  · intro hm'
    rcases List.mem_cons.mp hm' with e | hm'
    · exact absurd F.ns.lt (e ▸ Nat.lt_irrefl _)
    · exact (N _ hm).2.1 (List.mem_singleton.mp hm').symm
  · intro b hb
    rw [List.mem_singleton.mp hb]
    exact next_is_new F
  · intro q hq hI
    exact absurd (Heap.lt_size (N q hq).1) ((List.mem_singleton.mp hI) ▸ Nat.lt_irrefl _)
  · rintro i v m₁ news₁ s₁ own ⟨hh', tk', rfl⟩ hin hP hJ hoff hown hget hall hst F₁ N₁
    have hv : vs[i]? = some v := by simpa using hP
    obtain ⟨⟨oI, hI1, hI2, hI3⟩, ⟨ol, hl1, hl2, hl3⟩⟩ := hst
    have mI := hall _ (.head _) (next_is_new F) _ hI1
    have ml := hall l (.tail _ (.head _)) hl0 _ hl1
    have hsub : ∀ q ∈ own, q = (s.heap.objs.size, oI) ∨ q = (l, ol) := fun q hq => by
      have g := hget q hq
      rcases List.mem_cons.mp (hown q hq) with e | e
      · rw [e, hI1] at g
        exact .inl (Prod.ext e (Option.some.inj g).symm)
      · have e := List.mem_singleton.mp e
        rw [e, hl1] at g
        exact .inr (Prod.ext e (Option.some.inj g).symm)
    have N₂ : News h₀ env.locals hh' ((s.heap.objs.size, oI) :: (l, ol) :: news₁) := fun q hq => by
      rcases List.mem_cons.mp hq with e | hq
      · rw [e]; exact N₁ _ (List.mem_append_left _ mI)
      · rcases List.mem_cons.mp hq with e | hq
        · rw [e]; exact N₁ _ (List.mem_append_left _ ml)
        · exact N₁ _ (List.mem_append_right _ hq)
    refine wpAny_mono (turn i v hh' tk' m₁ news₁ _ oI ol hv hJ F₁ N₂ (fun q hq z => hoff q hq (List.mem_singleton.mpr z)) (Ne.symm hne)) (fun f s₂ q => ?_) fun _ _ e => e
    have fin : AEnd h₀ env.locals [(s.heap.objs.size, oI), (l, ol)] s.heap.objs.size (J (i + 1)) { s with heap := hh', toks := tk' } s₂ → LoopStepU h₀ env.locals [s.heap.objs.size] own (J (i + 1)) { s with heap := hh', toks := tk' } .next s₂ := by
      rintro ⟨h', tk, m', news', e, F', N', ho', hj'⟩
      refine ⟨rfl, h', tk, m', news', e, F', fun q hq => ?_, fun q hq z => ho' q hq (List.mem_singleton.mp z), hj'⟩
      rcases List.mem_append.mp hq with hq | hq
      · rcases hsub q hq with e | e
        · rw [e]; exact N' _ (.head _)
        · rw [e]; exact N' _ (.tail _ (.head _))
      · exact N' _ (.tail _ (.tail _ hq))
    cases f with
    | ret v => exact .ret q
    | brk => exact .brk q
    | next => exact .next (fin q)
    | cont => exact .cont (fin q)
  · rintro h' tk m' news' F' N' _ hJ
    exact done h' tk m' news' hJ F' N'
theorem iter_acc_range {r : Addr} {a b : Int} {t₀ u₀ v₀ : Tok} {n : Nat} {m₀ : Str → Option Value} {news : List (Addr × Obj)} (J : Nat → (Str → Option Value) → List (Addr × Obj) → Prop)
    (hh : A.handled = none) (hr : IsRange s.heap r a b 1 t₀ u₀ v₀) (hsmall : Builtin.Range.small a b 1 = true) (hn : Builtin.Range.rangeSize a b 1 = (n : Int)) (F : Fr h₀ env.locals s.heap m₀) (N : News h₀ env.locals s.heap news) (h0 : J 0 m₀ news)
    (turn : ∀ (i : Nat) (t : Tok) (h : Heap) (tk : Nat) (m₁ : Str → Option Value) (news₁ : List (Addr × Obj)) (I : Addr) (oI : Obj), i < n → J i m₁ news₁ → Fr h₀ env.locals h (fun y => if y = x then some (.int (a + (i : Int)) t) else m₁ y) → News h₀ env.locals h ((I, oI) :: news₁) → (∀ q ∈ news₁, q.1 ≠ I) →
      wpAny (model prog w) A (execs body env) (APost h₀ env.locals [(I, oI)] I (J (i + 1)) { s with heap := h, toks := tk } Q) E { s with heap := h, toks := tk })
    (done : ∀ (h : Heap) (tk : Nat) (m₁ : Str → Option Value) (news₁ : List (Addr × Obj)), J n m₁ news₁ → Fr h₀ env.locals h m₁ → News h₀ env.locals h news₁ → Q .next { s with heap := h, toks := tk }) :
    wpAny (model prog w) A (pyIter (.ref r)) (fun it s₂ => LoopAtV prog w A h₀ env x body Q E it s₂) E s := by
  refine wpAny_pyIter_range hr hsmall ?_
  have W : Walks prog w A s.heap.objs.size [s.heap.objs.size] [s.heap.objs.size] n (fun i v => i < n ∧ ∃ t, v = .int (a + i * 1) t)
      (fun i h => IsRangeIter h s.heap.objs.size (a + (i : Nat) * 1) ((n : Int) - (i : Nat)) 1) := (Walks.range hh _ a 1 n).bound
  refine ⟨_, _, _, n, _, _, m₀, news, J, rfl, W, ?_, ?_, ?_, (by show IsRangeIter _ _ _ _ _; rw [hn]; simpa using Heap.get?_push_size _ rfl), F.push _, (fun p hp => ⟨Heap.get?_push_of_some _ (N p hp).1, (N p hp).2⟩), h0, ?_, ?_⟩
  · intro hm
    exact absurd F.ns.lt ((List.mem_singleton.mp hm) ▸ Nat.lt_irrefl _)
  · intro b hb
    rw [List.mem_singleton.mp hb]
    exact next_is_new F
  · intro q hq hI
    exact absurd (Heap.lt_size (N q hq).1) ((List.mem_singleton.mp hI) ▸ Nat.lt_irrefl _)
  · rintro i v m₁ news₁ s₁ own ⟨hh', tk', rfl⟩ hin ⟨_, t, rfl⟩ hJ hoff hown hget hall hst F₁ N₁
    have hI1 : ∃ oI, hh'.get? s.heap.objs.size = some oI := ⟨_, hst⟩
    obtain ⟨oI, hI1⟩ := hI1
    have mI := hall _ (.head _) (next_is_new F) _ hI1
    have hsub : ∀ q ∈ own, q = (s.heap.objs.size, oI) := fun q hq => by
      have g := hget q hq
      have e := List.mem_singleton.mp (hown q hq)
      rw [e, hI1] at g
      exact Prod.ext e (Option.some.inj g).symm
    have N₂ : News h₀ env.locals hh' ((s.heap.objs.size, oI) :: news₁) := fun q hq => by
      rcases List.mem_cons.mp hq with e | hq
      · rw [e]; exact N₁ _ (List.mem_append_left _ mI)
      · exact N₁ _ (List.mem_append_right _ hq)
    rw [Int.mul_one] at F₁
    refine wpAny_mono (turn i t hh' tk' m₁ news₁ _ oI hin hJ F₁ N₂ (fun q hq z => hoff q hq (List.mem_singleton.mpr z))) (fun f s₂ q => ?_) fun _ _ e => e
    have fin : AEnd h₀ env.locals [(s.heap.objs.size, oI)] s.heap.objs.size (J (i + 1)) { s with heap := hh', toks := tk' } s₂ → LoopStepU h₀ env.locals [s.heap.objs.size] own (J (i + 1)) { s with heap := hh', toks := tk' } .next s₂ := by
      rintro ⟨h', tk, m', news', e, F', N', ho', hj'⟩
      refine ⟨rfl, h', tk, m', news', e, F', fun q hq => ?_, fun q hq z => ho' q hq (List.mem_singleton.mp z), hj'⟩
      rcases List.mem_append.mp hq with hq | hq
      · rw [hsub q hq]; exact N' _ (.head _)
      · exact N' _ (.tail _ hq)
    cases f with
    | ret v => exact .ret q
    | brk => exact .brk q
    | next => exact .next (fin q)
    | cont => exact .cont (fin q)
  · rintro h' tk m' news' F' N' _ hJ
    exact done h' tk m' news' hJ F' N'
end
section
variable {prog : Program} {w : World} {A : Around} {E : Value → Shared → Prop} {s : Shared} {h₀ : Heap} {L : Addr} {m : Str → Option Value} {env : Env}
noncomputable def SrcS (prog : Program) (w : World) (A : Around) (h₀ : Heap) (L : Addr) (m : Str → Option Value) (env : Env) (ct elt : PySem.Expr) (x : Str) (scope : Scope) (cl : List (Str × Addr)) (Fin : Shared → List Value → List (Addr × Obj) → Prop) (xv : Value) (s₁ : Shared) : Prop :=
  ∃ tx t news, xv = .str tx t ∧ A.handled = none ∧ Fr h₀ L s₁.heap m ∧ News h₀ L s₁.heap news ∧ tx.cps.size ≤ sizeLine ∧
    ∀ s₂ : Shared, (∃ h, s₂ = { s₁ with heap := h }) → LCt.CompRestT prog w A h₀ L m env ct elt x scope cl s₂ (fun _ => True) (SignAt tx) (Fin s₂) tx.cps.size 0 [] news
theorem ListComp_S {ct elt iter : PySem.Expr} {x : Str} {px : Pos} {scope : Scope} {cl : List (Str × Addr)} {pos : Pos} {Q : Value → Shared → Prop} (F₀ : Fr h₀ L s.heap m)
    (hclos : closureFor scope env = pure cl) (hcell : ∀ y ∈ scope.names, y.2 ≠ .cell) (hkind : scope.kind = .function)
    (hnames : ∀ y ∈ scope.names, y.2 = .local → scope.names.lookup y.1 = some .local) (hx : scope.names.lookup x = some .local)
    (h : wpAny (model prog w) A (eval iter env) (SrcS prog w A h₀ L m env ct elt x scope cl (fun s₂ => LCg.FinE h₀ L m s₂ Q)) E s)
    (hs : ∀ x, foldedSetIterable iter env x = pure x := by intro _; rfl) :
    wpAny (model prog w) A (eval (.ListComp elt [⟨.Name x px, iter, [ct], 0⟩] scope pos) env) Q E s := by
  rw [eval_ListComp]
  refine wpAny_comprehension_free (use := none) rfl hs hclos hkind hnames (wpAny_mono h (fun xv s₁ h₁ => ?_) fun _ _ e => e)
  obtain ⟨tx, t, news, rfl, hh, F, N, hsz, R⟩ := h₁
  cases ha : tx.cps.all (· < 128)
  · refine wpAny_pyIter_wide ha ?_
    refine LCt.block_T (Walks.strWide hh s₁.heap.objs.size tx t) hsz (fun i h st => by obtain ⟨o, e, _⟩ := st; exact ⟨o, e⟩)
      (fun i h h' o nw st e e' _ _ _ => by obtain ⟨o', e2, r⟩ := st; rw [e] at e2; cases e2; exact ⟨o, e', r⟩) hcell hkind hx ⟨_, Heap.get?_push_size _ rfl, rfl, rfl⟩ (fun b hb => by
        rw [List.mem_singleton.mp hb]
        show s₁.heap.objs.size < (s₁.heap.push _).objs.size
        rw [Heap.size_push]; exact Nat.lt_succ_self _)
      (F.keeps fun _ _ e => Heap.get?_push_of_some _ e) (N.grown fun _ _ e => Heap.get?_push_of_some _ e) (Nat.ne_of_lt F.ns.lt) (next_is_new F) (fun p hp => Nat.ne_of_lt (Heap.lt_size (N p hp).1)) trivial (R _ ⟨_, rfl⟩) ?_
    intro D C h tk m' ys news' F' N' o1 hn hC₀ hD₀ hCL hDL hCD offC fin
    refine ⟨m', hn, fun h'' hs'' => fin D h'' tk (F'.change hs'' hCL hC₀) (fun p hp => ?_) o1⟩
    refine ⟨hs''.extBut _ _ ?_ (N' p hp).1, (N' p hp).2⟩
    rcases List.mem_cons.mp hp with rfl | hp
    · exact Ne.symm hCD
    · exact offC p hp
  · refine wpAny_pyIter_ascii ha ?_
    refine LCt.block_T (Walks.strAscii hh s₁.heap.objs.size tx t) hsz (fun i h st => by obtain ⟨o, e, _⟩ := st; exact ⟨o, e⟩)
      (fun i h h' o nw st e e' _ _ _ => by obtain ⟨o', e2, r⟩ := st; rw [e] at e2; cases e2; exact ⟨o, e', r⟩) hcell hkind hx ⟨_, Heap.get?_push_size _ rfl, rfl, rfl⟩ (fun b hb => by
        rw [List.mem_singleton.mp hb]
        show s₁.heap.objs.size < (s₁.heap.push _).objs.size
        rw [Heap.size_push]; exact Nat.lt_succ_self _)
      (F.keeps fun _ _ e => Heap.get?_push_of_some _ e) (N.grown fun _ _ e => Heap.get?_push_of_some _ e) (Nat.ne_of_lt F.ns.lt) (next_is_new F) (fun p hp => Nat.ne_of_lt (Heap.lt_size (N p hp).1)) trivial (R _ ⟨_, rfl⟩) ?_
    intro D C h tk m' ys news' F' N' o1 hn hC₀ hD₀ hCL hDL hCD offC fin
    refine ⟨m', hn, fun h'' hs'' => fin D h'' tk (F'.change hs'' hCL hC₀) (fun p hp => ?_) o1⟩
    refine ⟨hs''.extBut _ _ ?_ (N' p hp).1, (N' p hp).2⟩
    rcases List.mem_cons.mp hp with rfl | hp
    · exact Ne.symm hCD
    · exact offC p hp
end
noncomputable def signKeep (c : Nat) : Bool := !(c == 32 || c == 9 || c == 13 || c == 10)
noncomputable def isBlankR (x : Str) : Bool := (x.cps.toList.filter signKeep).isEmpty
noncomputable def SignOk (x : Str) : Prop := (∀ c ∈ x.cps.toList, c = 32 ∨ c = 9 ∨ c = 13 ∨ c = 10 ∨ c = 120 ∨ c = 160 ∨ c = 11) ∧ x.cps.size ≤ 1000
inductive RT where
  | mk (ra : Addr) (v : RowV) (kids : List RT)
noncomputable def RT.ra : RT → Addr
  | .mk a _ _ => a
noncomputable def RT.v : RT → RowV
  | .mk _ v _ => v
mutual
noncomputable def blanksR : RT → List Int
  | .mk _ v kids => if v.kind == Str.ofString "text" then (if isBlankR v.text then [v.node] else []) else if Str.ofString "root" == v.kind || Str.ofString "element" == v.kind then blanksRL kids else []
noncomputable def blanksRL : List RT → List Int
  | [] => []
  | t :: ts => blanksR t ++ blanksRL ts
end
theorem blanksRL_app : ∀ a b : List RT, blanksRL (a ++ b) = blanksRL a ++ blanksRL b
  | [], b => rfl
  | t :: a, b => by rw [List.cons_append, blanksRL, blanksRL, blanksRL_app a b, List.append_assoc]
mutual
noncomputable def htT : RT → Nat
  | .mk _ _ kids => htL kids + 1
noncomputable def htL : List RT → Nat
  | [] => 0
  | t :: ts => max (htT t) (htL ts)
end
theorem ht_mem {t : RT} : ∀ {ts : List RT}, t ∈ ts → htT t ≤ htL ts
  | _ :: _, .head _ => by rw [htL]; omega
  | _ :: _, .tail _ h => by rw [htL]; have := ht_mem h; omega
mutual
noncomputable def szT : RT → Nat
  | .mk _ _ kids => szL kids + 1
noncomputable def szL : List RT → Nat
  | [] => 0
  | t :: ts => szT t + szL ts
end
theorem szL_app : ∀ a b : List RT, szL (a ++ b) = szL a + szL b
  | [], b => by simp [szL]
  | t :: a, b => by rw [List.cons_append, szL, szL, szL_app a b]; omega
theorem sz_mem {t : RT} : ∀ {ts : List RT}, t ∈ ts → szT t ≤ szL ts
  | _ :: _, .head _ => by rw [szL]; omega
  | _ :: _, .tail _ h => by rw [szL]; have := sz_mem h; omega
mutual
theorem blanksR_len : ∀ t : RT, (blanksR t).length ≤ szT t
  | .mk _ v kids => by
    have := blanksRL_len kids
    rw [blanksR, szT]
    split
    · split <;> simp
    · split
      · omega
      · simp
theorem blanksRL_len : ∀ ts : List RT, (blanksRL ts).length ≤ szL ts
  | [] => by simp [blanksRL]
  | t :: ts => by
    have := blanksR_len t
    have := blanksRL_len ts
    rw [blanksRL, szL, List.length_append]; omega
end
inductive InR (prog : Program) (w : World) (news : List (Addr × Obj)) (rvs : List (Addr × RowV)) : RT → Prop
  | mk {ra : Addr} {v : RowV} {kids : List RT} : RowIn prog w news ra v → KindOk v.kind → SignOk v.text → (rvs.filter fun q => decide (q.2.above = .ref ra)) = kids.map (fun k => (k.ra, k.v)) → (∀ k ∈ kids, InR prog w news rvs k) → InR prog w news rvs (.mk ra v kids)
theorem InR.mono {prog : Program} {w : World} {news news' : List (Addr × Obj)} {rvs : List (Addr × RowV)} {t : RT} (h : InR prog w news rvs t) (hs : ∀ q ∈ news, q ∈ news') : InR prog w news' rvs t := by
  induction h with
  | mk a b c d _ ih => exact .mk (a.mono hs) b c d ih
structure RowsIn (prog : Program) (w : World) (news : List (Addr × Obj)) (rl : Addr) (rvs : List (Addr × RowV)) : Prop where
  hrl : ∃ nr : Nat, (rl, listOf (rvs.map fun q => Value.ref q.1).toArray nr) ∈ news
  hlen : rvs.length < 1000
  hr : ∀ q ∈ rvs, RowIn prog w news q.1 q.2
  hab : ∀ q ∈ rvs, q.2.above = .none ∨ ∃ b v, q.2.above = .ref b ∧ RowIn prog w news b v
theorem RowsIn.mono {prog : Program} {w : World} {news news' : List (Addr × Obj)} {rl : Addr} {rvs : List (Addr × RowV)} (h : RowsIn prog w news rl rvs) (hs : ∀ q ∈ news, q ∈ news') : RowsIn prog w news' rl rvs := by
  obtain ⟨⟨nr, a⟩, b, c, d⟩ := h
  refine ⟨⟨nr, hs _ a⟩, b, fun q hq => (c q hq).mono hs, fun q hq => ?_⟩
  rcases d q hq with e | ⟨b, v, e, f⟩
  · exact .inl e
  · exact .inr ⟨b, v, e, f.mono hs⟩
theorem eq_nil_c {prog : Program} {w : World} {A : Around} {E : Value → Shared → Prop} {s : Shared} {a b : Addr} {xs : List Value} {Q : Value → Shared → Prop}
    {r : Bool} (ha : s.heap.IsList a xs.toArray) (hb : s.heap.IsList b ([] : List Value).toArray) (hr : xs.isEmpty = r) (hu : A.units < cLine) (h : Q (.bool r) s) :
    wpAny (model prog w) A (compareOp .Eq (.ref a) (.ref b)) Q E s := by
  subst hr
  cases xs with
  | nil => exact SeqAt.eq_listAt (e := fun _ => true) ha hb rfl hu (fun i hi => by simp at hi) (by simpa using h)
  | cons x xs => exact SeqAt.eq_list_lengthsAt ha hb (by simp) hu h
section
variable {prog : Program} {w : World} {p : Program} {loose : List Str} {mean : ExcName → Option Value} {mg mb : Str → Option Value}
  {dp un : Nat} {gd : Option (List Code)} {cn : Str} {cs : Scope} {a : Addr} {ccd : Value} {cl : List (Str × Addr)} {outer : List Env} {A₀ : Around} {base h₀ : Heap} {L : Addr} {m : Str → Option Value} {rest news : List (Addr × Obj)} {s : Shared} {Q E : Value → Shared → Prop}
theorem law_inner_c2 {rl ra : Addr} {rvs : List (Addr × RowV)} {v₁ : RowV}
    (C : Cx w p loose mean mg mb A₀ base outer h₀ L s.heap m cs) (N : News h₀ L s.heap news) (HR : RowsIn prog w news rl rvs) (hra : RowIn prog w news ra v₁)
    (hd : dp + 5 < recursionLimit) (hu : un + 50 < cLine)
    (hret : ∀ (l : Addr) (c : Nat) (h' : Heap) (tk' : Nat), Fr h₀ L h' m → News h₀ L h' ((l, listOf ((rvs.filter fun q => decide (q.2.above = .ref ra)).map fun q => Value.ref q.1).toArray c) :: news) → (∀ q ∈ news, q.1 ≠ l) → Q (.ref l) { s with heap := h', toks := tk' }) :
    wpAny (model prog w) (ktrTop dp un gd cn cs L a ccd cl outer) (call (.ref 372) [.ref rl, .ref ra]) Q E s := by
  obtain ⟨⟨nr, hrl⟩, hlen, hr, hab⟩ := HR
  exact law_inner_c C N hrl hlen hr hab hra hd hu hret
end
local macro_rules | `(tactic| walk_at "I:all") => `(tactic| (intro l1; (try simp only [List.forall_mem_cons] at l1)))
section
variable {prog : Program} {w : World} {p : Program} {loose : List Str} {mean : ExcName → Option Value} {mg mb : Str → Option Value}
  {dp un : Nat} {gd : Option (List Code)} {cn : Str} {cs : Scope} {a : Addr} {ccd : Value} {cl : List (Str × Addr)} {outer : List Env} {A₀ : Around} {base h₀ : Heap} {L : Addr} {m : Str → Option Value} {rest news : List (Addr × Obj)} {s : Shared} {Q E : Value → Shared → Prop}
theorem say16 : True := by
  (k_with "call ref" => (k_here; (with_reducible show wpAny _ _ (call (Value.ref 372) [Value.ref _, Value.ref _]) _ _ _); k_dflt (refine' law_inner_c2 (by k_extra "CX") (by k_asm) (by exact RowsIn.mono (by assumption) (by k_extra "SUB")) (by exact RowIn.mono (by assumption) (by k_extra "SUB")) (by ktr_room) (by ktr_units) ?_); intro _ _ _ _ _ _; walk_at "I:all"))
  trivial
theorem notin_str_c {prog : Program} {w : World} {A : Around} {E : Value → Shared → Prop} {s : Shared} {x y : Str} {t u : Tok} {r : Bool} {Q : Value → Shared → Prop}
    (hr : (Builtin.Str.occurrences x y 0 x.length 1).isEmpty = r) (h : Q (.bool r) s) : wpAny (model prog w) A (compareOp .NotIn (.str y u) (.str x t)) Q E s := P.notIn_str (by rw [Bool.not_not, hr]; exact h)
theorem say17 : True := by
  (k_with "compareOp NotIn str str" => (k_here; (with_reducible show wpAny _ _ (compareOp CmpOp.NotIn (Value.str _ _) (Value.str _ _)) _ _ _); k_dflt (first | refine notin_str_c (r := false) (by kernel_rfl!) ?_ | refine notin_str_c (r := true) (by kernel_rfl!) ?_)))
  trivial
theorem fr_map {h₀ h : Heap} {L : Addr} {m₁ m₂ : Str → Option Value} (F : Fr h₀ L h m₁) (e : ∀ y, m₁ y = m₂ y) : Fr h₀ L h m₂ := (funext e : m₁ = m₂) ▸ F
theorem say18 : True := by
  (k_with "GO3" => repeat' ((fail_if_success (with_reducible show wpAny _ _ (call (Value.ref 377) _) _ _ _)); (first | (k_unfold; (try dsimp only)) | (k_end; wrow_close) | walk1 | (dsimp only; walk1) | (leave1; walk_say "STEP leave1"; try dsimp only))))
  trivial
theorem sub_cons {x : Addr × Obj} {l l' : List (Addr × Obj)} (h : x ∈ l') (hs : ∀ q ∈ l, q ∈ l') : ∀ q ∈ x :: l, q ∈ l' := fun q hq => (List.mem_cons.mp hq).elim (fun e => e ▸ h) (hs q)
theorem say19 : True := by
  (k_with "MEM1" => repeat' (first | (refine List.mem_cons.mpr (Or.inl (Prod.ext (by with_reducible rfl) ?_)); exact rfl) | refine List.mem_cons_of_mem _ ?_))
  (k_with "PICK" => first | (k_extra "SUB"; done) | (refine sub_cons (by k_extra "MEM1") ?_; k_extra "PICK"))
  (k_with "SUBH" => (intro q hq; refine (List.mem_cons.mp hq).elim (fun e => e ▸ .head _) (fun hq => ?_); repeat' (first | exact hq | refine List.mem_cons_of_mem _ ?_ | refine List.mem_append_right _ ?_)))
  (k_with "FRESH" => first | assumption | (refine tb_ltOf ?_; first | assumption | exact And.right (by assumption) | exact And.right (And.right (by assumption)) | exact And.right (And.right (And.right (by assumption))) | exact And.right (And.right (And.right (And.right (by assumption))))))
  trivial
theorem All2.isEmpty {α : Type} {R : Value → α → Prop} {vs : List Value} {as : List α} (h : All2 R vs as) : vs.isEmpty = as.isEmpty := by cases h <;> rfl
theorem say20 : True := by
  (k_with "compareOp Eq ref ref" => (k_here; (with_reducible show wpAny _ _ (compareOp CmpOp.Eq (Value.ref _) (Value.ref _)) _ _ _); k_dflt (refine' eq_nil_c (by (refine' list_of_news (by k_asm) (by k_mem))) (by (refine' list_of_news (by k_asm) (by k_mem))) (by assumption) (by ktr_units) ?_; k_whole)))
  (k_with "eval ListComp" => (k_here; (with_reducible show wpAny _ _ (eval (PySem.Expr.ListComp _ [⟨_, PySem.Expr.Subscript _ _ _, [_], _⟩] _ _) _) _ _ _); k_dflt (refine ListComp_S (F₀ := by k_asm) (by with_unfolding_all rfl) (by decide) (by rfl) (by decide) (by rfl) ?_)))
  trivial
inductive JBl (lk : Addr) (lo : Obj) (news : List (Addr × Obj)) (kids : List RT) (m₀ : Str → Option Value) (i : Nat) (m₁ : Str → Option Value) (news₁ : List (Addr × Obj)) : Prop
  | mk (f : Addr) (fv : List Value) (c : Nat) (e : news₁ = (f, listOf fv.toArray c) :: (lk, lo) :: news) (h1 : IntsAre fv (blanksRL (kids.take i))) (h2 : ∀ y, y ≠ Str.ofString "one" → m₁ y = if y = Str.ofString "found" then some (.ref f) else m₀ y) (h3 : ∀ q ∈ news, q.1 ≠ f) (h4 : lk ≠ f)
theorem law_blanks_c (rl : Addr) (rvs : List (Addr × RowV)) : ∀ (n : Nat) (t : RT), htT t ≤ n → szT t < 5000 → ∀ {dp un : Nat} {gd : Option (List Code)} {cn : Str} {cs : Scope} {a : Addr} {ccd : Value} {cl : List (Str × Addr)} {outer : List Env} {A₀ : Around} {base h₀ : Heap} {L : Addr} {m : Str → Option Value} {news : List (Addr × Obj)} {s : Shared} {Q E : Value → Shared → Prop}
    (C : Cx w p loose mean mg mb A₀ base outer h₀ L s.heap m cs) (N : News h₀ L s.heap news) (HR : RowsIn prog w news rl rvs) (HI : InR prog w news rvs t)
    (hd : dp + 8 * n + 10 < recursionLimit) (hu : un + 80 * n + 100 < cLine)
    (hret : ∀ (l : Addr) (vs : List Value) (c : Nat) (h' : Heap) (tk' : Nat), Fr h₀ L h' m → News h₀ L h' ((l, listOf vs.toArray c) :: news) → (∀ q ∈ news, q.1 ≠ l) → IntsAre vs (blanksR t) → Q (.ref l) { s with heap := h', toks := tk' }),
    wpAny (model prog w) (ktrTop dp un gd cn cs L a ccd cl outer) (call (.ref 377) [.ref rl, .ref t.ra]) Q E s := by
  intro n
  induction n with
  | zero => intro t ht; cases t; rw [htT] at ht; omega
  | succ n ih =>
    intro t ht hs1 dp un gd cn cs a ccd cl outer A₀ base h₀ L m news s Q E C N HR HI hd hu hret
    obtain ⟨B, F, X, T, hk⟩ := C
    cases HI with
    | @mk ra v kids hn hko hso hkids hin =>
      obtain ⟨o, kvs, t1, t2, t3, t4, t5, wv, h1, h2, h3, g1, g2, g3, g4, g5, g6, g7, g8, g9⟩ := id hn
      obtain ⟨⟨nr, hrl⟩, hlen, hr, hab⟩ := id HR
      by_cases hk1 : (v.kind == Str.ofString "text") = true
      · show wpAny (model prog w) (ktrTop dp un gd cn cs L a ccd cl outer) (call (.ref 377) [.ref rl, .ref ra]) Q E s
        refine wpAny_call ?_
        k_dflt (k_extra "ENTER")
        k_extra "GO2"
        refine ⟨v.text, t5, _, rfl, by rfl, by k_asm, by k_asm, (by rw [sizeLine_eq]; have := hso.2; omega), ?_⟩
        rintro s₂ ⟨gg, rfl⟩
        refine compT_rel (as := v.text.cps.toList) signKeep (fun v c => ∃ u, v = .str ⟨#[c]⟩ u) (fun v c => True) (by simp) (fun i v hi hv => ?hP) ?turn ?fin
        case hP =>
          obtain ⟨c, u, hc, rfl⟩ := hv
          exact ⟨c, by simpa using hc, u, rfl⟩
        case turn =>
          rintro c v I oI C oC D m₂ ys h tk E' hq ⟨u, rfl⟩ hC hx F' N' off hne
          rcases hso.1 c hq with rfl | rfl | rfl | rfl | rfl | rfl | rfl
          all_goals k_steps
          all_goals first
            | exact LCg.CompEnd.intro (by k_asm) (by k_asm) _ (fun _ h => h) off trivial ⟨rfl, rfl⟩
            | exact LCg.CompEnd.intro (by k_asm) (by k_asm) _ (fun _ h => h) off trivial ⟨rfl, rfl, trivial⟩
        case fin =>
          intro ys hys D h tk F' N' off
          have he : ys.isEmpty = isBlankR v.text := by
            rw [isBlankR]
            exact hys.isEmpty
          cases hb : isBlankR v.text <;> rw [hb] at he
          · k_steps
            refine hret _ _ _ _ _ (by k_asm) (news_sub (by assumption) (by k_extra "SUBH")) (fun q hq => Nat.ne_of_lt ((show ∀ q ∈ news, q.1 < _ by k_extra "FRESH") q hq)) ?_
            rw [blanksR, if_pos hk1, hb]; exact .nil
          · k_steps
            refine hret _ _ _ _ _ (by k_asm) (news_sub (by assumption) (by k_extra "SUBH")) (fun q hq => Nat.ne_of_lt ((show ∀ q ∈ news, q.1 < _ by k_extra "FRESH") q hq)) ?_
            rw [blanksR, if_pos hk1, hb]; exact .cons _ _ .nil
      · simp only [Bool.not_eq_true] at hk1
        show wpAny (model prog w) (ktrTop dp un gd cn cs L a ccd cl outer) (call (.ref 377) [.ref rl, .ref ra]) Q E s
        by_cases hk2 : (Str.ofString "root" == v.kind || Str.ofString "element" == v.kind) = true
        · refine wpAny_call ?_
          k_dflt (k_extra "ENTER")
          k_extra "GO2"
          rename Fr _ _ _ _ => F9
          rename_i fa h3 l1a h2 la h1 F1 N1 l1b lk ck h9 tk9 N9 l1c
          have hkl : kids.length < 1000 := by
            have e := congrArg List.length hkids
            rw [List.length_map] at e
            have := List.length_filter_le (fun q : Addr × RowV => decide (q.2.above = .ref ra)) rvs
            omega
          have hlk : ∀ q ∈ news, q.1 ≠ lk := fun q hq => l1c.2.2 q hq
          have N10 : News _ _ _ ((fa, listOf ([] : List Value).toArray 0) :: (lk, listOf ((rvs.filter fun q => decide (q.2.above = .ref ra)).map fun q => Value.ref q.1).toArray ck) :: news) := news_sub N9 (by k_extra "PICK")
          obtain ⟨m₀, em, F9⟩ := fr_name F9
          refine iter_acc (fun i m₁ news₁ => JBl lk _ news kids m₀ i m₁ news₁) (by rfl) F9 N10 (.tail _ (.head _)) ⟨fa, [], 0, rfl, .nil, ?h0, ?h01, ?h02⟩ ?turn ?done
          case h0 =>
            intro y hy
            by_cases e : y = Str.ofString "found"
            · simp only [e, if_true]
            · simp only [em, if_neg e]
          case h01 => exact fun q hq => Nat.ne_of_lt (l1a q hq)
          case h02 => exact fun e => l1c.2.1 e.symm
          case turn =>
            rintro i v h tk m₁ news₁ I oI ol hv ⟨f, fv, c, rfl, hfv, hm₁, hf1, hf2⟩ F' N' hI hIl
            rw [hkids, List.map_map, List.getElem?_map] at hv
            cases ekk : kids[i]? with
            | none => rw [ekk] at hv; cases hv
            | some kid =>
              rw [ekk] at hv
              cases hv
              have F2 := fr_map F' (m₂ := fun y => if y = Str.ofString "one" then some (.ref kid.ra) else if y = Str.ofString "found" then some (.ref f) else m₀ y) (fun y => by
                by_cases e : y = Str.ofString "one"
                · simp only [if_pos e]; rfl
                · simp only [if_neg e]; exact hm₁ y e)
              have hkm : kid ∈ kids := List.mem_of_getElem? ekk
              have hz1 := hfv.length
              have hz2 := blanksRL_len (kids.take i)
              have hz3 : szL (kids.take i) ≤ szL kids := by
                have e := szL_app (kids.take i) (kids.drop i)
                rw [List.take_append_drop] at e; omega
              have hz4 := sz_mem hkm
              have hz5 := ht_mem hkm
              have hz6 := blanksR_len kid
              rw [szT] at hs1
              rw [htT] at ht
              clear F9 F' hm₁
              subst em
              (try k_unmd); (try k_fold)
              k_extra "GO3"
              k_dflt (refine' ih kid ?h1 ?h2 ?C ?N ?HR ?HI ?hd ?hu ?_)
              case h1 => omega
              case h2 => omega
              case C => k_extra "CX"
              case N => k_asm
              case HR => exact HR.mono (by k_extra "SUB")
              case HI => exact (hin kid hkm).mono (by k_extra "SUB")
              case hd => ktr_room
              case hu => ktr_units
              intro l2 vs2 c2 h2 tk2 F3 N3 l2' hvs
              simp only [List.forall_mem_cons] at l2'
              have hz7 := hvs.length
              k_steps
              rename_i D9 ws9 h9' hI9 l9 h9'' F9 N9'
              have e9 : kids.take (i + 1) = kids.take i ++ [kid] := by rw [List.take_add_one, ekk]; rfl
              refine' ⟨_, _, _, _, rfl, ?hF, news_sub N9' ?hs, ?hI, D9, ws9, _, rfl, ?hiv, ?hm, ?hf1, ?hf2⟩
              case hF => k_asm
              case hs => k_extra "PICK"
              case hI =>
                refine List.forall_mem_cons.mpr ⟨Nat.ne_of_gt l9.2.1, fun q hq => hI q (.tail _ hq)⟩
              case hiv =>
                rw [e9, blanksRL_app, blanksRL, blanksRL, List.append_nil]
                exact hI9
              case hm => 
                intro y hy
                by_cases e : y = Str.ofString "found"
                · simp only [if_neg hy, if_pos e]
                · simp only [if_neg hy, if_neg e]
              case hf1 => exact fun q hq => Nat.ne_of_lt (tb_ltOf l9.2.2.2.2.2 q hq)
              case hf2 => exact Nat.ne_of_lt l9.2.2.1
          case done =>
            rintro h tk m₁ news₁ ⟨f, fv, c, rfl, hfv, hm₁, hf1, hf2⟩ F' N'
            rw [hkids, List.length_map, List.length_map, List.take_of_length_le (Nat.le_refl _)] at hfv
            have F2 := fr_map F' (m₂ := fun y => if y = Str.ofString "one" then m₁ y else if y = Str.ofString "found" then some (.ref f) else m₀ y) (fun y => by
              by_cases e : y = Str.ofString "one"
              · simp only [if_pos e]
              · simp only [if_neg e]; exact hm₁ y e)
            clear F9 F'
            subst em
            (try k_unmd); (try k_fold)
            k_steps
            refine hret _ _ _ _ _ (by k_asm) (news_sub (by assumption) (by k_extra "PICK")) hf1 ?_
            rw [blanksR, hk1, if_neg (by decide), if_pos hk2]
            exact hfv
        · simp only [Bool.not_eq_true] at hk2
          refine wpAny_call ?_
          k_dflt (k_extra "ENTER")
          k_extra "GO2"
          rename Fr _ _ _ _ => F9
          rename News _ _ _ _ => N9
          obtain ⟨m₀, em, F9⟩ := fr_name F9
          rename_i l9
          refine iter_acc (vs := []) (fun i m₁ news₁ => (∀ y, y ≠ Str.ofString "one" → m₁ y = m₀ y) ∧ news₁ = _) (by rfl) F9 N9 (.head _) ⟨fun _ _ => by rw [em], rfl⟩ (fun i v h tk m₁ news₁ I oI ol hv => by simp at hv) ?done
          rintro h tk m₁ news₁ ⟨hm₁, rfl⟩ F' N'
          have F2 := fr_map F' (m₂ := fun y => if y = Str.ofString "one" then m₁ y else m₀ y) (fun y => by
            by_cases e : y = Str.ofString "one"
            · simp only [if_pos e]
            · simp only [if_neg e]; exact hm₁ y e)
          clear F9 F'
          subst em
          (try k_unmd); (try k_fold)
          k_steps
          refine hret _ _ _ _ _ (by k_asm) (news_sub (by assumption) (by k_extra "PICK")) (fun q hq => Nat.ne_of_lt ((show ∀ q ∈ news, q.1 < _ by k_extra "FRESH") q hq)) ?_
          rw [blanksR, hk1, if_neg (by decide), hk2]
          exact .nil
end
theorem TupTab.mono {prog : Program} {w : World} {K : Type} [DecidableEq K] {knd : KeyKind prog w K} {enc : K → PyData} {d : Addr} {D : List (PyData × PyData)} {news news' : List (Addr × Obj)} (T : TupTab knd enc news d D) (hs : ∀ q ∈ news, q ∈ news') : TupTab knd enc news' d D :=
  let ⟨lo, o, es, ep, xs, hm, hc, hd, he, hn, hk, hf⟩ := T
  ⟨lo, o, es, ep, xs, hs _ hm, hc, hd, he, hn, fun x hx => let ⟨okx, hmk, t⟩ := hk x hx; ⟨okx, hs _ hmk, t⟩, hf⟩
section
variable {prog : Program} {w : World} {A : Around} {E : Value → Shared → Prop} {s : Shared} {h₀ : Heap} {L d a : Addr} {m : Str → Option Value} {news : List (Addr × Obj)} {D : List (PyData × PyData)} {k1 k2 x : Str} {t1 t2 : Tok} {n : Nat} {Q : Value → Shared → Prop}
theorem tupget_none (hu : A.units + 1 < cLine) (N : News h₀ L s.heap news) (T : TupTab (PySem.strKind prog w) PyData.str news d D) (hka : (a, ({ cls := .type "tuple", data := .seq [Value.str k1 t1, Value.str k2 t2].toArray } : Obj)) ∈ news)
    (hl : PySem.Spec.lookup (encTuple PyData.str [k1, k2]) D = none) (h : ∀ tk, Q .none { s with toks := tk }) : wpAny (model prog w) A (call (.builtin "dict.get") [.ref d, .ref a]) Q E s :=
  call_get1_tupTab_eq (dv := .none) PyProof.V.same_str hu N T hka (TupKeyObj.made (.cons (strKind_is _ _ _ _) (.cons (strKind_is _ _ _ _) .nil))) (by rw [hl]; rfl) fun v hv => by
    cases hv.none_inv
    exact h _
theorem tupget_some (hu : A.units + 1 < cLine) (N : News h₀ L s.heap news) (T : TupTab (PySem.strKind prog w) PyData.str news d D) (hka : (a, ({ cls := .type "tuple", data := .seq [Value.str k1 t1, Value.str k2 t2].toArray } : Obj)) ∈ news)
    (hl : PySem.Spec.lookup (encTuple PyData.str [k1, k2]) D = some (.str x)) (h : ∀ t tk, Q (.str x t) { s with toks := tk }) : wpAny (model prog w) A (call (.builtin "dict.get") [.ref d, .ref a]) Q E s :=
  call_get1_tupTab_eq (dv := .str x) PyProof.V.same_str hu N T hka (TupKeyObj.made (.cons (strKind_is _ _ _ _) (.cons (strKind_is _ _ _ _) .nil))) (by rw [hl]; rfl) fun v hv => by
    obtain ⟨t, rfl⟩ := hv.str_inv
    exact h _ _
end
section
variable {prog : Program} {w : World} {A : Around} {E : Value → Shared → Prop} {s : Shared} {env : Env} {h₀ : Heap} {x : Str} {body : List Stmt} {Q : Flow → Shared → Prop}
theorem iter_accT {target : PySem.Expr} (hgo : ∀ I v, letOwnedTupleGo target (.ref I) v = pure ()) {l : Addr} {n : Nat} {vs : List Value} {m₀ : Str → Option Value} {news : List (Addr × Obj)} (J : Nat → (Str → Option Value) → List (Addr × Obj) → Prop)
    (hh : A.handled = none) (F : Fr h₀ env.locals s.heap m₀) (N : News h₀ env.locals s.heap news) (hm : (l, listOf vs.toArray n) ∈ news) (h0 : J 0 m₀ news)
    (turn : ∀ (i : Nat) (v : Value) (h : Heap) (tk : Nat) (m₁ : Str → Option Value) (news₁ : List (Addr × Obj)) (I : Addr) (oI ol : Obj), vs[i]? = some v → J i m₁ news₁ → Fr h₀ env.locals h m₁ → News h₀ env.locals h ((I, oI) :: (l, ol) :: news₁) → (∀ q ∈ news₁, q.1 ≠ I) → I ≠ l →
      wpAny (model prog w) A (assign target env v) (fun _ s₃ => wpAny (model prog w) A (execs body env) (APost h₀ env.locals [(I, oI), (l, ol)] I (J (i + 1)) { s with heap := h, toks := tk } Q) E s₃) E { s with heap := h, toks := tk })
    (done : ∀ (h : Heap) (tk : Nat) (m₁ : Str → Option Value) (news₁ : List (Addr × Obj)), J vs.length m₁ news₁ → Fr h₀ env.locals h m₁ → News h₀ env.locals h news₁ → Q .next { s with heap := h, toks := tk }) :
    wpAny (model prog w) A (pyIter (.ref l)) (fun it s₂ => TurnsAt prog w A h₀ env target body Q E it s₂) E s := by
  have hls : s.heap.IsList l vs.toArray := list_of_news N hm
  have hl0 := (N _ hm).2.2
  have hlt := Heap.lt_size (N.get hm)
  have hne : l ≠ s.heap.objs.size := Nat.ne_of_lt hlt
  refine wpAny_pyIter_list hls ?_
  have W := Walks.list (prog := prog) (w := w) hh s.heap.objs.size l hne vs.toArray
  have hlen : vs.toArray.size = vs.length := List.size_toArray ..
  rw [hlen] at W
  refine ⟨_, _, _, vs.length, _, _, _, m₀, news, J, rfl, KTurns.ofWalks W (fun i v s Q E _ h => by rw [hgo]; exact wpAny_pure h), ?_, ?_, ?_, ⟨⟨_, Heap.get?_push_size _ rfl, rfl, rfl⟩, hls.at fun o e => Heap.get?_push_of_some _ e⟩, F.push _, (fun p hp => ⟨Heap.get?_push_of_some _ (N p hp).1, (N p hp).2⟩), h0, ?_, ?_⟩
  · intro hm'
    rcases List.mem_cons.mp hm' with e | hm'
    · exact absurd F.ns.lt (e ▸ Nat.lt_irrefl _)
    · exact (N _ hm).2.1 (List.mem_singleton.mp hm').symm
  · intro b hb
    rw [List.mem_singleton.mp hb]
    exact next_is_new F
  · intro q hq hI
    exact absurd (Heap.lt_size (N q hq).1) ((List.mem_singleton.mp hI) ▸ Nat.lt_irrefl _)
  · rintro i v m₁ news₁ hh' tk' own hin hP hJ hoff hown hget hall hst F₁ N₁
    have hv : vs[i]? = some v := by simpa using hP
    obtain ⟨⟨oI, hI1, hI2, hI3⟩, ⟨ol, hl1, hl2, hl3⟩⟩ := hst
    have mI := hall _ (.head _) (next_is_new F) _ hI1
    have ml := hall l (.tail _ (.head _)) hl0 _ hl1
    have hsub : ∀ q ∈ own, q = (s.heap.objs.size, oI) ∨ q = (l, ol) := fun q hq => by
      have g := hget q hq
      rcases List.mem_cons.mp (hown q hq) with e | e
      · rw [e, hI1] at g
        exact .inl (Prod.ext e (Option.some.inj g).symm)
      · have e := List.mem_singleton.mp e
        rw [e, hl1] at g
        exact .inr (Prod.ext e (Option.some.inj g).symm)
    have N₂ : News h₀ env.locals hh' ((s.heap.objs.size, oI) :: (l, ol) :: news₁) := fun q hq => by
      rcases List.mem_cons.mp hq with e | hq
      · rw [e]; exact N₁ _ (List.mem_append_left _ mI)
      · rcases List.mem_cons.mp hq with e | hq
        · rw [e]; exact N₁ _ (List.mem_append_left _ ml)
        · exact N₁ _ (List.mem_append_right _ hq)
    refine wpAny_mono (turn i v hh' tk' m₁ news₁ _ oI ol hv hJ F₁ N₂ (fun q hq z => hoff q hq (List.mem_singleton.mpr z)) (Ne.symm hne)) (fun _ s₃ q₃ => wpAny_mono q₃ (fun f s₂ q => ?_) fun _ _ e => e) fun _ _ e => e
    have fin : AEnd h₀ env.locals [(s.heap.objs.size, oI), (l, ol)] s.heap.objs.size (J (i + 1)) { s with heap := hh', toks := tk' } s₂ → LoopStepU h₀ env.locals [s.heap.objs.size] own (J (i + 1)) { s with heap := hh', toks := tk' } .next s₂ := by
      rintro ⟨h', tk, m', news', e, F', N', ho', hj'⟩
      refine ⟨rfl, h', tk, m', news', e, F', fun q hq => ?_, fun q hq z => ho' q hq (List.mem_singleton.mp z), hj'⟩
      rcases List.mem_append.mp hq with hq | hq
      · rcases hsub q hq with e | e
        · rw [e]; exact N' _ (.head _)
        · rw [e]; exact N' _ (.tail _ (.head _))
      · exact N' _ (.tail _ (.tail _ hq))
    cases f with
    | ret v => exact .ret q
    | brk => exact .brk q
    | next => exact .next (fin q)
    | cont => exact .cont (fin q)
  · rintro h' tk m' news' F' N' _ hJ
    exact done h' tk m' news' hJ F' N'
theorem For_turnsC {px : Pos} {iter : PySem.Expr} {pos : Pos} {m : Str → Option Value} (hx : env.kindOf x = some .cell) (F : Fr h₀ env.locals s.heap m)
    (h : wpAny (model prog w) A (eval iter env) (fun xv s₁ => wpAny (model prog w) A (pyIter xv) (fun it s₂ => TurnsAt prog w A h₀ env (.Name x px) body Q E it s₂) E s₁) E s)
    (hs : ∀ x, foldedSetIterable iter env x = pure x := by intro _; rfl)
    (hE : PassesOwn (model prog w) A env E := by passes_own) :
    wpAny (model prog w) A (exec (.For (.Name x px) iter body [] pos) env) Q E s := For_turns F h hs hE
end
theorem say21 : True := by
  (k_with "exec For Name" => (k_here; k_dflt (refine' For_turnsC (by rfl) (by k_asm) ?_ (by intro _; rfl) (by passes_own))))
  trivial
section
variable {prog : Program} {w : World} {p : Program} {loose : List Str} {mean : ExcName → Option Value} {mg mb : Str → Option Value}
  {dp un : Nat} {gd : Option (List Code)} {cn : Str} {cs : Scope} {a : Addr} {ccd : Value} {cl : List (Str × Addr)} {outer : List Env} {A₀ : Around} {base h₀ : Heap} {L : Addr} {m : Str → Option Value} {rest news : List (Addr × Obj)} {s : Shared} {Q E : Value → Shared → Prop}
theorem say22 : True := by
  (k_with "GETD" => first | exact TupTab.mono (by assumption) (by k_extra "SUB"))
  trivial
theorem getM_c {A : Around} {d : Addr} {D : List (PyData × PyData)} {pl : Sem Bool} {Q : Value × List Value → Shared → Prop} (N : News h₀ L s.heap news) (T : TupTab (PySem.strKind prog w) PyData.str news d D) (h : Q (.builtin "dict.get", [.ref d]) s) :
    wpAny (model prog w) A (getMethod (.ref d) "get" pl) Q E s := getMethod_tupTab_get N T h
theorem say23 : True := by
  (k_with "getMethod ref" => (k_here; (with_reducible show wpAny _ _ (getMethod (Value.ref _) ("get" : Str) _) _ _ _); k_dflt (refine' getM_c (by k_asm) (by k_extra "GETD") ?_; k_whole)))
  (k_with "call builtin:dict.get" => (k_here; (with_reducible show wpAny _ _ (call (Value.builtin "dict.get") [Value.ref _, Value.ref _]) _ _ _); k_dflt (first
  | (refine' tupget_none (by ktr_units) (by k_asm) (by k_extra "GETD") (by k_mem) (by assumption) ?_; k_whole; intro _)
  | (refine' tupget_some (by ktr_units) (by k_asm) (by k_extra "GETD") (by k_mem) (by assumption) ?_; k_whole; intro _ _))))
  trivial
theorem lt_ne2 {d e : Addr} {l : List (Addr × Obj)} (h : ∀ p ∈ l, p.1 < d) (hd : d ≤ e) : ∀ p ∈ l, p.1 ≠ e := fun p hp => Nat.ne_of_lt (Nat.lt_of_lt_of_le (h p hp) hd)
theorem storeC_c {M : Model} {A : Around} {env : Env} {x : Str} {v : Value} {g : Obj → List (Addr × Obj)} {c : Addr} {o : Obj} {v₀ : Option Value} {Q : Unit → Shared → Prop} (hk : env.scope.kind = .function) (hx : env.kindOf x = some .cell)
    (F : Fr h₀ L s.heap m) (N : News h₀ L s.heap news) (hc : env.cells.lookup x = some c) (U : UpdF c o news g) (hd : o.data = .cell v₀)
    (h : ∀ h' o', Fr h₀ L h' m → News h₀ L h' (g o') → o'.data = .cell (some v) → Q () { s with heap := h' }) : wpAny M A (storeName env x v) Q E s := by
  obtain ⟨own, rest, rfl, hg, h1, h2⟩ := U.split
  have hmem := N (c, o) (List.mem_append_right _ (.head _))
  refine wpAny_storeName_cell hk hx hc ⟨o, hmem.1, hd⟩ fun h' hv hs => ?_
  obtain ⟨o', ho', hd'⟩ := hv
  refine h h' o' ⟨F.ns.sameBut hs (Ne.symm hmem.2.1), fun b ob e => (hs.2 b (fun q => ?_)).trans (F.keep b ob e), F.above⟩ (hg o' ▸ N.setAt h1 h2 hs ho') hd'
  rw [q, hmem.2.2] at e; cases e
end
local macro_rules | `(tactic| walk_at "I:ds") => `(tactic| (intro N'; (try dsimp only at N')))
section
variable {prog : Program} {w : World} {p : Program} {loose : List Str} {mean : ExcName → Option Value} {mg mb : Str → Option Value}
  {dp un : Nat} {gd : Option (List Code)} {cn : Str} {cs : Scope} {a : Addr} {ccd : Value} {cl : List (Str × Addr)} {outer : List Env} {A₀ : Around} {base h₀ : Heap} {L : Addr} {m : Str → Option Value} {rest news : List (Addr × Obj)} {s : Shared} {Q E : Value → Shared → Prop}
theorem say24 : True := by
  (k_with "storeName" => (k_here; k_dflt (refine' storeC_c (by rfl) (by rfl) (by k_asm) (by k_asm) (by rfl) (by k_updF) (by assumption) ?_; k_whole); intro _ _ _; walk_at "I:ds"; intro _))
  trivial
end
theorem among_some {pos : Pos} {c d : Value} {a b : Int} : ∀ (l : List Value), TriplesOk l → codeAmong pos l = some d → codeAmong pos (l ++ [rawInt a, rawInt b, c]) = some d := by
  intro l h hn
  fun_induction TriplesOk l with
  | case1 => simp [codeAmong] at hn
  | case2 i t j u v rest ih =>
    simp only [List.cons_append, codeAmong] at hn ⊢
    split at hn
    · rename_i e; rw [if_pos e]; exact hn
    · rename_i e; rw [if_neg e]; exact ih h hn
  | case3 => exact h.elim
theorem among_none {pos : Pos} {c : Value} {a b : Int} : ∀ (l : List Value), TriplesOk l → codeAmong pos l = none → codeAmong pos (l ++ [rawInt a, rawInt b, c]) = none ∨ codeAmong pos (l ++ [rawInt a, rawInt b, c]) = some c := by
  intro l h hn
  fun_induction TriplesOk l with
  | case1 =>
    simp only [List.nil_append, rawInt, codeAmong]
    split
    · exact .inr rfl
    · exact .inl rfl
  | case2 i t j u v rest ih =>
    simp only [List.cons_append, codeAmong] at hn ⊢
    split at hn
    · cases hn
    · rename_i e; rw [if_neg e]; exact ih h hn
  | case3 => exact h.elim
noncomputable def CodeIn (qual : Str) (rest : List (Addr × Obj)) (c' : Addr) : Prop := ∃ oc vs t, (c', oc) ∈ rest ∧ oc.data = .fields vs ∧ vs[1]? = some (.str qual t)
noncomputable def TabOk (qual : Str) (ps : Array Value) (rest : List (Addr × Obj)) : Prop := TriplesOk ps.toList ∧ ∀ pos, codeAmong pos ps.toList = none ∨ ∃ c', codeAmong pos ps.toList = some (.ref c') ∧ CodeIn qual rest c'
theorem TabOk.mono {qual : Str} {ps : Array Value} {rest rest' : List (Addr × Obj)} (h : TabOk qual ps rest) (hs : ∀ q ∈ rest, q ∈ rest') : TabOk qual ps rest' := by
  refine ⟨h.1, fun pos => ?_⟩
  rcases h.2 pos with e | ⟨c', e, oc, vs, t, a, b, c⟩
  · exact .inl e
  · exact .inr ⟨c', e, oc, vs, t, hs _ a, b, c⟩
theorem TabOk.empty (qual : Str) (rest : List (Addr × Obj)) : TabOk qual #[] rest := ⟨trivial, fun _ => .inl rfl⟩
theorem TabOk.put {qual : Str} {ps : Array Value} {rest : List (Addr × Obj)} {a b : Int} {c' : Addr} {oc : Obj} (h : TabOk qual ps rest) (hc : CodeIn qual ((c', oc) :: rest) c') : TabOk qual (ps ++ #[rawInt a, rawInt b, .ref c']) ((c', oc) :: rest) := by
  have e : (ps ++ #[rawInt a, rawInt b, .ref c']).toList = ps.toList ++ [rawInt a, rawInt b, .ref c'] := by simp
  refine ⟨by rw [e]; exact TriplesOk_snoc _ _ _ _ h.1, fun pos => ?_⟩
  rw [e]
  rcases h.2 pos with g | ⟨d, g, k⟩
  · rcases among_none (c := .ref c') (a := a) (b := b) _ h.1 g with g | g
    · exact .inl g
    · exact .inr ⟨c', g, hc⟩
  · obtain ⟨oc', vs, t, k1, k2, k3⟩ := k
    exact .inr ⟨d, among_some _ h.1 g, oc', vs, t, .tail _ k1, k2, k3⟩
section
variable {M : Model} {A : Around} {E : Value → Shared → Prop} {s : Shared} {h₀ : Heap} {L a c P : Addr} {m mg mb : Str → Option Value} {cn : Str} {cs : Scope} {ccd : Value} {cl : List (Str × Addr)} {pre rest : List (Addr × Obj)}
  {p : Program} {loose : List Str} {mean : ExcName → Option Value} {name qual : Str} {params : Arguments} {body : PySem.Expr} {scope : Scope} {ps : Array Value} {pos : Pos} {firstLine : Nat} {clos : List (Str × Addr)}
theorem lam_c {Q : Value → Shared → Prop} (F : Fr h₀ L s.heap m) (N : News h₀ L s.heap (pre ++ (P, tabObj ps) :: rest)) (T : Top p loose mean mg mb h₀) (C : CodeHd h₀ c P) (hcd : ccd = .ref c) (ht : TabOk qual ps rest)
    (h1 : ∀ q ∈ pre, q.1 ≠ P) (h2 : ∀ q ∈ rest, q.1 ≠ P) (h3 : ∀ q ∈ pre, ∀ r ∈ rest, r.1 ≠ q.1)
    (hcl : closureFor scope (envX cn cs L a ccd cl) = pure clos)
    (h : ∀ f c' oc vs t ctv h' tk ps' rest', Fr h₀ L h' m →
      News h₀ L h' ((f, kla_obj name qual params body scope clos ((mg "__name__").getD .none) c' ctv) :: (pre ++ (P, tabObj ps') :: rest')) → (∀ q ∈ rest, q ∈ rest') → TabOk qual ps' rest' → (c', oc) ∈ rest' →
      oc.data = .fields vs → vs[1]? = some (.str qual t) → (∀ q ∈ pre, q.1 < f) → P < f → (∀ q ∈ rest', q.1 < f) → (∀ q ∈ rest', q.1 ≠ P) → (∀ q ∈ pre, ∀ r ∈ rest', r.1 ≠ q.1) → Q (.ref f) { s with heap := h', toks := tk }) :
    wpAny M A (makeFunction name qual params (.expr body) scope (envX cn cs L a ccd cl) [] [] [] pos firstLine) Q E s := by
  have hP : (P, tabObj ps) ∈ pre ++ (P, tabObj ps) :: rest := List.mem_append_right _ (.head _)
  rcases ht.2 pos with e | ⟨c', e, oc, vs, t, k1, k2, k3⟩
  · have U : UpdF P (tabObj ps) (pre ++ (P, tabObj ps) :: rest) (fun o' => pre ++ (P, o') :: rest) := by
      clear N h hP h3
      induction pre with
      | nil => exact .head h2
      | cons q r ih => exact .tail (h1 q (.head _)) (ih fun q hq => h1 q (.tail _ hq))
    refine kla_nest F N T C hcd U ht.1 e hcl fun f c' oc vs t ctv h' tk F' N' d1 d2 l1 l2 => ?_
    have hlP : P < c' := l1 _ hP
    refine h f c' oc vs t ctv h' tk (ps ++ #[rawInt pos.line, rawInt pos.col, .ref c']) ((c', oc) :: rest) F' (fun q hq => N' q ?_) (fun q hq => .tail _ hq) (ht.put ⟨oc, vs, t, .head _, d1, d2⟩) (.head _) d1 d2
      (fun q hq => Nat.lt_trans (l1 q (List.mem_append_left _ hq)) l2) (Nat.lt_trans hlP l2) (fun q hq => ?_) (fun q hq => ?_) (fun q hq r hr => ?_)
    · rcases List.mem_cons.mp hq with e | hq
      · rw [e]; exact .head _
      · refine .tail _ ?_
        rcases List.mem_append.mp hq with hq | hq
        · exact .tail _ (List.mem_append_left _ hq)
        · rcases List.mem_cons.mp hq with e | hq
          · rw [e]; exact .tail _ (List.mem_append_right _ (.head _))
          · rcases List.mem_cons.mp hq with e | hq
            · rw [e]; exact .head _
            · exact .tail _ (List.mem_append_right _ (.tail _ hq))
    · rcases List.mem_cons.mp hq with e | hq
      · rw [e]; exact l2
      · exact Nat.lt_trans (l1 q (List.mem_append_right _ (.tail _ hq))) l2
    · rcases List.mem_cons.mp hq with e | hq
      · rw [e]; exact Nat.ne_of_gt hlP
      · exact h2 q hq
    · rcases List.mem_cons.mp hr with e | hr
      · rw [e]; exact Nat.ne_of_gt (l1 q (List.mem_append_left _ hq))
      · exact h3 q hq r hr
  · refine kla_hit F N T C hcd hP ht.1 e hcl fun f ctv h' tk F' N' l1 => ?_
    exact h f c' oc vs t ctv h' tk ps rest F' N' (fun _ h => h) ht k1 k2 k3 (fun q hq => l1 q (List.mem_append_left _ hq)) (l1 _ hP) (fun q hq => l1 q (List.mem_append_right _ (.tail _ hq))) h2 h3
end
section
variable {prog : Program} {w : World} {p : Program} {loose : List Str} {mean : ExcName → Option Value} {mg mb : Str → Option Value}
  {dp un : Nat} {gd : Option (List Code)} {cn : Str} {cs : Scope} {a : Addr} {ccd : Value} {cl : List (Str × Addr)} {outer : List Env} {A₀ : Around} {base h₀ : Heap} {L : Addr} {m : Str → Option Value} {rest news : List (Addr × Obj)} {s : Shared} {Q E : Value → Shared → Prop}
theorem add_str_c {A : Around} {x y : Str} {t u : Tok} (hx : x.length ≤ 1000000) (hy : y.length ≤ 100000) (h : ∀ (z : Str) (t' : Tok) (tk : Nat), z.length ≤ x.length + 100000 → Q (.str z t') { s with toks := tk }) :
    wpAny (model prog w) A (binaryOp .Add (.str x t) (.str y u)) Q E s := by
  refine P.add_str ?_
  have e : (x ++ y).length = x.length + y.length := by show (x.cps ++ y.cps).size = _; rw [Array.size_append]; rfl
  split
  · exact h y u s.toks (by omega)
  · split
    · exact h x t s.toks (by omega)
    · exact ⟨by rw [e, sizeLine_eq]; omega, h _ _ _ (by omega)⟩
theorem say25 : True := by
  (k_with "binaryOp Add str str" => (k_here; (with_reducible show wpAny _ _ (binaryOp Operator.Add (Value.str _ _) (Value.str _ _)) _ _ _); k_dflt (refine' add_str_c (by first | omega | (exact Nat.le_of_ble_eq_true (by kernel_rfl!))) (by first | omega | (exact Nat.le_of_ble_eq_true (by kernel_rfl!))) ?_; k_whole); intro _ _ _ _))
  trivial
noncomputable def lamQ : Str := Str.ofString "_law_element_right" ++ ".<locals>." ++ "<lambda>"
end
structure MadeExcD (h h' : Heap) (e : Addr) (cls : Value) (args : List Value) : Prop where
  keeps : ∀ b o, h.get? b = some o → h'.get? b = some o
  new : h.get? e = none
  there : ∃ t oe vs, h'.get? e = some oe ∧ oe.cls = cls ∧ oe.data = .fields vs ∧ vs[1]? = some .none ∧ vs[0]? = some (.ref t) ∧ h.get? t = none ∧ h'.get? t = some { cls := .type "tuple", data := .seq args.toArray }
section
variable {M : Model} {A : Around} {E : Value → Shared → Prop} {s s' : Shared} {base g g₂ h : Heap} {outer : List Env} {L a e t : Addr} {m : Str → Option Value} {name : Str} {scope : Scope} {cd : Value} {Q : Unit → Shared → Prop} {news : List (Addr × Obj)}
theorem leaves_madeD {env : Env} {cls : Value} {args : List Value}
    (hfr : A.frames = some (env :: outer)) (hf : env.frame = some L) (hkb : base.StaysIn h) (hl : h.FunFrames base (env :: outer)) (hx : MadeExcD h s.heap e cls args)
    (hQ : ∀ h' t, Heap.FlyingW base outer e cls (.ref t) h' → h'.TupAt t args → base.get? t = none → s.heap.UpToSlots h' → Q () { s with heap := h' }) : wpAny M A (leaving env (.ref e)) Q E s := by
  obtain ⟨t, oe, vs, he, hc, hd, hv1, hv0, htn, ht⟩ := hx.there
  have fresh : ∀ b, h.get? b = none → base.get? b = none := fun b hb => by
    cases hq : base.get? b with
    | none => rfl
    | some o' => have := hkb b o' hq; rw [hb] at this; cases this
  refine wpAny_leaving_firstW (a0 := .ref t) hfr (hl.of_keeps fun b o hb _ => ⟨o, hx.keeps b o hb, rfl⟩) hf he (fun b o hb => hx.keeps b o (hkb b o hb)) (fresh e hx.new) hd hv1 hv0 fun h' hL => ?_
  obtain ⟨k1, ⟨_, _, k2⟩, k3, k4⟩ := hL
  rw [hc] at k3
  exact hQ h' t ⟨k1, fresh e hx.new, k2, k3⟩ (Heap.TupAt.of_slots ⟨_, _, ht, rfl, rfl⟩ k4) (fresh t htn) k4
theorem leave_raiseD {cls : Value} {vs : List Value} (K : Below A base outer g) (hx : MadeExcD h s'.heap e cls vs) (F : Fr g L h m) (N : News g L h news)
    (hQ : ∀ h' t, RaisedS base g outer e cls t vs news h' → RaisedK base outer e cls t vs news h' → g.UpToSlots h' → Q () { s' with heap := h' }) (hk : scope.kind = .function := by rfl) :
    wpAny M (A.deeper (envOf name scope L a cd)) (leaving (envOf name scope L a cd) (.ref e)) Q E s' := by
  have K' := K.push (name := name) (a := a) (cd := cd) F hk
  have hin : ∀ env ∈ (envOf name scope L a cd :: outer), ∀ b, env.frame = some b → b ∈ (envOf name scope L a cd :: outer).filterMap (·.frame) := fun env he b hb => List.mem_filterMap.mpr ⟨env, he, hb⟩
  have st : base.StaysIn (hideAll h ((envOf name scope L a cd :: outer).filterMap (·.frame))) := fun b o q => hideAll_get _ (K'.stays b o q) fun hm => by
    rw [(K'.frames.mem hm).1] at q; cases q
  have sg : ∀ b o, g.get? b = some o → b ∉ outer.filterMap (·.frame) → (hideAll h ((envOf name scope L a cd :: outer).filterMap (·.frame))).get? b = some o := fun b o q nm => hideAll_get _ (F.keep b o q) fun hm => by
    rcases kts_mem hm with z | z
    · rw [z, kts_self F] at q
      cases q
    · exact nm z
  have hl : ∀ q ∈ news, (hideAll h ((envOf name scope L a cd :: outer).filterMap (·.frame))).get? q.1 = some q.2 ∧ g.get? q.1 = none ∧ base.get? q.1 = none := fun q hq => by
    refine ⟨hideAll_get _ (N q hq).1 fun hm => ?_, (N q hq).2.2, fresh_of_stays K.stays (N q hq).2.2⟩
    obtain ⟨env, he, hf⟩ := List.mem_filterMap.mp hm
    rcases List.mem_cons.mp he with rfl | he
    · exact (N q hq).2.1 (Option.some.inj hf).symm
    · obtain ⟨o, ho, _⟩ := (K.frames.mem (List.mem_filterMap.mpr ⟨env, he, hf⟩)).2
      rw [(N q hq).2.2] at ho; cases ho
  exact leaves_madeD K'.stack rfl (fun b o q => of_hideAll _ q) (funFrames_hide K'.frames hin) hx fun h' t x1 x2 x3 x4 =>
    have R : RaisedS base g outer e cls t vs news h' := ⟨⟨_, st, sg, hl, x1, x3⟩, x2⟩
    hQ h' t R R.toK (((Heap.UpToSlots.of_keeps F.keep).trans (Heap.UpToSlots.of_keeps hx.keeps)).trans x4)
end
section
variable {M : Model} {A : Around} {E : Value → Shared → Prop} {env : Env}
variable {nm q : Str} {C N : Addr} {bs bm : List Value} {hdct : Bool} {sn : List Str} {sub : List Value} {ab : Bool} {col : Option Bool} {dd : Option Addr} {k0 k1 k2 k3 k5 : Option Value} {newId : String}
theorem raiseStmt_D {s : Shared} {x : Sem Value} {Q : Flow → Shared → Prop} (hbase : bm.contains (.type "BaseException") = true) (hh : A.handled = none)
    (h : wpAny M A x (fun v s₁ => ∃ e t od, v = .ref e ∧ s₁.heap.get? C = some (excClassObj nm q C N bs bm hdct sn sub ab col dd k0 k1 k2 k3 k5 newId) ∧
      s₁.heap.get? e = some { cls := .ref C, dict := od, data := .fields #[.ref t, .none, .none, .none, .bool false, .none] } ∧ E (.ref e) s₁) E s) :
    wpAny M A (raiseStmt env (some x) none) Q E s := by
  have hcB : (Value.ref C :: bm).contains (.type "BaseException") = true := by rw [List.contains_cons, hbase, Bool.or_true]
  unfold raiseStmt
  refine wpAny_bind (wpAny_mono h (fun v s₁ h₁ => ?_) fun _ _ x => x)
  obtain ⟨e, t, od, rfl, hC, he, hE⟩ := h₁
  obtain ⟨hp, g, d, tk, os⟩ := s₁
  repeat (first | with_reducible refine wpAny_loadPart_at he ?_ | with_reducible refine wpAny_loadPart_at hC ?_ | (with_reducible refine wpAny_isSubtype_exc hC ?_; rw [hcB]) | wp_step)
  exact wpAny_raiseNew_none hh hE
end
noncomputable def HasT (bmB bm : List Value) : Prop := ∀ {X : String} {b : Bool}, bmB.contains (.type X) = b → bm.contains (.type X) = b
section
variable {M : Model} {A : Around} {E : Value → Shared → Prop} {h : Heap} {g : Array GenState} {d : Drawn} {t : Nat} {os : OsState}
variable {nm q : Str} {C N : Addr} {bs bm bmB : List Value} {hdct : Bool} {sn : List Str} {sub : List Value} {ab : Bool} {col : Option Bool} {dd : Option Addr} {k0 k1 k2 k3 k5 : Option Value} {B newId initId : String}
theorem check_new_I (F : ExcBaseFacts B newId initId bmB) (T : HasT bmB bm) {rest : List Value} {Q : Unit → Shared → Prop} (hC : h.get? C = some (excClassObj nm q C N bs bm hdct sn sub ab col dd k0 k1 k2 k3 k5 newId))
    (hq : Q () ⟨h, g, d, t, os⟩) : wpAny M A (checkBuiltinCall newId ⟨.ref C :: rest, []⟩) Q E ⟨h, g, d, t, os⟩ := by
  have hcont : (Value.ref C :: bm).contains (.type B) = true := by rw [List.contains_cons, T F.hasB, Bool.or_true]
  have hstar := F.noStar
  simp only [checkBuiltinCall, F.newKind, F.newSplit, F.newRow]
  repeat (first | refine wpAny_loadPart_at hC ?_ | (refine wpAny_isSubtype_exc hC ?_; rw [hcont]) | refine wpAny_staticBase_exc hC ?_ | refine wpAny_madeBy_exc hC ?_ | simp only [bne_self_eq_false, Bool.false_eq_true, if_false] | wp_step)
  exact hq
end
section
variable {prog : Program} {w : World} {A : Around} {R : Result → Shared → Prop} {h : Heap} {g : Array GenState} {d : Drawn} {t : Nat} {os : OsState}
variable {nm q : Str} {C N : Addr} {bs bm bmB : List Value} {hdct : Bool} {sn : List Str} {sub : List Value} {ab : Bool} {col : Option Bool} {dd : Option Addr} {k0 k1 k2 k3 k5 : Option Value} {B newId initId : String}
theorem exc_new_I (F : ExcBaseFacts B newId initId bmB) (T : HasT bmB bm) {rest : List Value} (hC : h.get? C = some (excClassObj nm q C N bs bm hdct sn sub ab col dd k0 k1 k2 k3 k5 newId))
    (hq : R (.ok (.ret (.ref (h.objs.size + 1)))) ⟨(h.push { cls := .type "tuple", data := .seq rest.toArray }).push
      { cls := .ref C, data := .fields #[.ref h.objs.size, .none, .none, .none, .bool false, .none] }, g, d, t, os⟩) (hrest : rest.length ≤ sizeLine := by size_fits) :
    codeAny (model prog w) A (.builtin newId ⟨.ref C :: rest, []⟩) R ⟨h, g, d, t, os⟩ := by
  have hends := F.ends
  have hcB : (Value.ref C :: bm).contains (.type B) = true := by rw [List.contains_cons, T F.hasB, Bool.or_true]
  have hcA : (Value.ref C :: bm).contains (.type "AttributeError") = false := by rw [List.contains_cons, T F.noAttr]; rfl
  have hcN : (Value.ref C :: bm).contains (.type "NameError") = false := by rw [List.contains_cons, T F.noName]; rfl
  refine codeAny_builtinAt F.entry ?_
  unfold Builtin.«BaseException.__new__»
  refine PySem.wpAt_bind ?_
  show PySem.wpAt _ _ _ (stack >>= _) _ _ _
  refine PySem.wpAt_bind (PySem.wpAt_stack fun p below => PySem.wpAt_of_wpAny ?_)
  wp_walk
  refine PySem.wpAt_of_wpAny ?_
  rw [F.owner]
  repeat (first | with_reducible refine wpAny_madeHere_exc F.canon hC ?_ | with_reducible refine wpAny_loadPart_at hC ?_ | (with_reducible refine wpAny_isSubtype_exc hC ?_; first | rw [hcB] | rw [hcA] | rw [hcN]) | wp_step)
  show R _ _
  rw [Heap.size_push]
  exact hq
end
section
variable {prog : Program} {w : World} {A : Around} {E : Value → Shared → Prop} {h : Heap} {g : Array GenState} {d : Drawn} {t : Nat} {os : OsState}
variable {nm q : Str} {C N C1 : Addr} {bs bm bmB : List Value} {hdct : Bool} {sn : List Str} {sub : List Value} {ab : Bool} {col : Option Bool} {dd : Option Addr} {k0 k1 k2 k3 k5 : Option Value} {B newId initId : String}
structure InitBy (h : Heap) (C1 fI : Addr) : Prop where
  there : ∃ c0 dd cd sl mA, h.get? C1 = some { cls := c0, dict := dd, data := .cls cd, slots := sl } ∧ h.Ns cd.ns mA ∧ mA "__init__" = some (.ref fI)
theorem InitBy.keeps {h h' : Heap} {C1 fI : Addr} (I : InitBy h C1 fI) (hk : ∀ b o, h.get? b = some o → h'.get? b = some o) : InitBy h' C1 fI :=
  let ⟨c0, dd, cd, sl, mA, a, b, c⟩ := I.there; ⟨⟨c0, dd, cd, sl, mA, hk _ _ a, b.keeps hk, c⟩⟩
theorem type_call_I (F : ExcBaseFacts B newId initId bmB) (T : HasT bmB (.ref C1 :: bm)) {mN : Str → Option Value} {rest : List Value} {fI : Addr} {oI : Obj} {Q : Fin → Shared → Prop}
    (hC : h.get? C = some (excClassObj nm q C N bs (.ref C1 :: bm) hdct sn sub ab col dd k0 k1 k2 k3 k5 newId)) (hn : h.Ns N mN) (hni : mN "__init__" = none) (I : InitBy h C1 fI)
    (hfI : h.get? fI = some oI) (hfc : oI.cls = .type "function")
    (hq : ∀ h' e, Heap.MadeExcOf h h' e (.ref C) rest →
      wpAny (model prog w) A (call (.ref fI) (.ref e :: rest)) (fun r s' => r = .none ∧ Q (.done (.ret (.ref e))) s') E ⟨h', g, d, t, os⟩) (hrest : rest.length ≤ sizeLine := by size_fits) :
    wpAny (model prog w) A (Builtin.«type.__call__» ⟨.ref C :: rest, []⟩) Q E ⟨h, g, d, t, os⟩ := by
  repeat (first | with_reducible refine wpAny_loadPart_at hC ?_ | with_reducible refine wpAny_madeBy_exc hC ?_ | wp_step)
  refine codeAny_call_builtin_code (Code.quiet_builtin _ F.quiet) (check_new_I F T hC ?_)
  refine exc_new_I F T hC ?_ hrest
  show wpAny _ _ _ _ _ _
  have hC₁ := Heap.get?_push_of_some { cls := .ref C, data := .fields #[.ref h.objs.size, .none, .none, .none, .bool false, .none] }
    (Heap.get?_push_of_some { cls := .type "tuple", data := .seq rest.toArray } hC)
  have hfI₁ := Heap.get?_push_of_some { cls := .ref C, data := .fields #[.ref h.objs.size, .none, .none, .none, .bool false, .none] }
    (Heap.get?_push_of_some { cls := .type "tuple", data := .seq rest.toArray } hfI)
  have hn₁ : ((h.push { cls := .type "tuple", data := .seq rest.toArray }).push { cls := .ref C, data := .fields #[.ref h.objs.size, .none, .none, .none, .bool false, .none] }).Ns N mN :=
    let ⟨o, es, ep, e, r⟩ := hn; ⟨o, es, ep, Heap.get?_push_of_some _ (Heap.get?_push_of_some _ e), r⟩
  have I₁ := I.keeps (h' := (h.push { cls := .type "tuple", data := .seq rest.toArray }).push { cls := .ref C, data := .fields #[.ref h.objs.size, .none, .none, .none, .bool false, .none] }) fun b o e => Heap.get?_push_of_some _ (Heap.get?_push_of_some _ e)
  have hget : ((h.push { cls := .type "tuple", data := .seq rest.toArray }).push
      { cls := .ref C, data := .fields #[.ref h.objs.size, .none, .none, .none, .bool false, .none] }).get? (h.objs.size + 1) = some
      { cls := .ref C, data := .fields #[.ref h.objs.size, .none, .none, .none, .bool false, .none] } := by heap_get
  have hcC : (Value.ref C :: .ref C1 :: bm).contains (.ref C) = true := by simp
  unfold isInstance
  repeat (first | with_reducible refine wpAny_loadPart_at hget ?_ | (with_reducible refine wpAny_isSubtype_exc hC₁ ?_; rw [hcC]) | wp_step)
  show wpAny _ _ (typeLookup (.ref C) _) _ _ _
  rw [typeLookup_eq]
  refine wpAny_bind (wpAny_mroOf_exc hC₁ ?_)
  rw [lookupAlong_cons]
  refine wpAny_bind (wpAny_classOwn_exc hC₁ hn₁ ?_)
  rw [hni]
  show wpAny _ _ (lookupAlong (.ref C1 :: bm) _) _ _ _
  rw [lookupAlong_cons]
  obtain ⟨c0, dd1, cd1, sl1, mA, i1, i2, i3⟩ := I₁.there
  refine wpAny_bind (wpAny_classOwn_cls i1 i2 ?_)
  rw [i3]
  refine wpAny_pure ?_
  refine wpAny_holding (wpAny_bind ?_)
  unfold bindSpecial
  refine wpAny_bind (wpAny_typeOf (T := "function") ⟨_, hfI₁, hfc⟩ ?_)
  rw [if_pos (by decide)]
  refine wpAny_pure (wpAny_bind (wpAny_mono (hq _ (h.objs.size + 1) ⟨fun b o hb => Heap.get?_push_of_some _ (Heap.get?_push_of_some _ hb), Heap.get?_none_of_le (Nat.le_succ _), h.objs.size, hget, Heap.get?_none_of_le (Nat.le_refl _), ?_⟩) (fun r s' hr => ?_) fun _ _ x => x))
  · exact Heap.get?_push_of_some _ (Heap.get?_push_at rfl rfl)
  · obtain ⟨rfl, hQ⟩ := hr
    wp_walk
    exact hQ
theorem call_exc_I (F : ExcBaseFacts B newId initId bmB) (T : HasT bmB (.ref C1 :: bm)) {mN : Str → Option Value} {rest : List Value} {fI : Addr} {oI : Obj} {Q : Value → Shared → Prop}
    (hC : h.get? C = some (excClassObj nm q C N bs (.ref C1 :: bm) hdct sn sub ab col dd k0 k1 k2 k3 k5 newId)) (hn : h.Ns N mN) (hni : mN "__init__" = none) (I : InitBy h C1 fI)
    (hfI : h.get? fI = some oI) (hfc : oI.cls = .type "function")
    (hq : ∀ h' e, Heap.MadeExcOf h h' e (.ref C) rest →
      wpAny (model prog w) (A.under (.builtin "type.__call__" ⟨.ref C :: rest, []⟩)) (call (.ref fI) (.ref e :: rest)) (fun r s' => r = .none ∧ Q (.ref e) s') E ⟨h', g, d, t, os⟩) (hrest : rest.length ≤ sizeLine := by size_fits) :
    wpAny (model prog w) A (call (.ref C) rest) Q E ⟨h, g, d, t, os⟩ := by
  have f1 := tc_lookup
  have f2 := tc_bind (.ref C)
  have hT : (⟨h, g, d, t, os⟩ : Shared).TypeIs (.ref C) "type" := ⟨_, hC, rfl⟩
  refine wpAny_call (codeAny_of_tree ?_)
  show wpAny _ _ (callAny (.ref C) _) _ _ _
  repeat (any_goals (first | assumption | with_reducible refine wpAny_loadPart_at hC ?_ | wp_step))
  refine ⟨rfl, ?_⟩
  refine codeAny_call_builtin_at (Code.quiet_builtin _ (by decide +kernel)) entry_typeCall (wpAny_check_type_call_sub hC (type_call_I (hrest := hrest) F T hC hn hni I hfI hfc fun h' e hm => ?_))
  exact hq h' e hm
end
section
variable {M : Model} {prog : Program} {w : World} {A : Around} {E : Value → Shared → Prop} {h : Heap} {g : Array GenState} {d : Drawn} {t : Nat} {os : OsState}
variable {nm q : Str} {C N C1 : Addr} {bs bm bmB : List Value} {sn : List Str} {sub : List Value} {ab : Bool} {col : Option Bool} {dd : Option Addr} {k0 k1 k2 k3 k5 : Option Value} {B newId initId sa owner : String}
theorem check_init_I (F : ExcBaseFacts B newId initId bmB) (T : HasT bmB bm) {e : Addr} {oe : Obj} {rest : List Value} {Q : Unit → Shared → Prop}
    (hC : h.get? C = some (excClassObj nm q C N bs bm true sn sub ab col dd k0 k1 k2 k3 k5 newId)) (he : h.get? e = some oe) (hcls : oe.cls = .ref C) (hq : Q () ⟨h, g, d, t, os⟩) :
    wpAny M A (checkBuiltinCall initId ⟨.ref e :: rest, []⟩) Q E ⟨h, g, d, t, os⟩ := by
  have hcB : (Value.ref C :: bm).contains (.type B) = true := by rw [List.contains_cons, T F.hasB, Bool.or_true]
  have hshort := F.noStar
  simp only [checkBuiltinCall, F.initKind, F.initSplit, F.initRow]
  repeat (first | (with_reducible refine wpAny_loadPart_at he ?_; rw [hcls]) | with_reducible refine wpAny_loadPart_at hC ?_ | (with_reducible refine wpAny_isSubtype_exc hC ?_; rw [hcB]) | wp_step)
  refine wpAny_onRaise ?_
  rw [show ∀ (a b : String) (n : Nat), Bind.check ⟨.positional, "*", B, .self, [⟨"args", .varPos, false⟩]⟩ a b n (List.map (fun x => x.fst) ({ pos := Value.ref e :: rest } : Args).kw) = pure () from
    fun a b n => check_star_args _ _ _ _ _ _]
  exact wpAny_pure hq
theorem base_init_I {e t0 : Addr} {ob : Obj} {vs : Array Value} {rest : List Value} {Q : Fin → Shared → Prop} (he : h.get? e = some ob) (hd : ob.data = .fields vs) (h0 : vs[0]? = some (.ref t0)) (hz : rest.length ≤ sizeLine)
    (hq : Q (.done (.ret .none)) ⟨(h.push { cls := .type "tuple", data := .seq rest.toArray }).update e (Obj.mapFields (·.setIfInBounds 0 (.ref h.objs.size))), g, d, t, os⟩) :
    wpAny M A (Builtin.«BaseException.__init__» ⟨.ref e :: rest, []⟩) Q E ⟨h, g, d, t, os⟩ := by
  unfold Builtin.«BaseException.__init__»
  dsimp only
  rw [if_neg (by simp)]
  unfold newTuple Builtin.BaseException.bexcPut
  have hsz : 0 < vs.size := (Array.getElem?_eq_some_iff.mp h0).1
  have he₁ := Heap.get?_push_of_some (h := h) { cls := .type "tuple", data := .seq rest.toArray } he
  refine wpAny_bind (wpAny_newObj_type (wpAny_bind (wpAny_bind (wpAny_field he₁ hd h0 (wpAny_bind (wpAny_setField he₁ hd hsz ?_))))) (by show rest.toArray.size ≤ sizeLine; rw [List.size_toArray]; exact hz))
  exact wpAny_letGo (wpAny_pure hq)
theorem init_I (F : ExcBaseFacts B newId initId bmB) (T : HasT bmB bm) {e t0 : Addr} {ob : Obj} {vs : Array Value} {rest : List Value} {Q : Value → Shared → Prop}
    (hC : h.get? C = some (excClassObj nm q C N bs bm true sn sub ab col dd k0 k1 k2 k3 k5 newId)) (he : h.get? e = some ob) (hcls : ob.cls = .ref C) (hd : ob.data = .fields vs) (h0 : vs[0]? = some (.ref t0)) (hz : rest.length ≤ sizeLine)
    (hq : Q .none ⟨(h.push { cls := .type "tuple", data := .seq rest.toArray }).update e (Obj.mapFields (·.setIfInBounds 0 (.ref h.objs.size))), g, d, t, os⟩) :
    wpAny (model prog w) A (call (.builtin initId) (.ref e :: rest)) Q E ⟨h, g, d, t, os⟩ :=
  wpAny_call (codeAny_call_builtin F.init.plain F.initEntry (check_init_I F T hC he hcls (base_init_I he hd h0 hz hq)))
structure BaseNs (h : Heap) (C1 : Addr) (mA : Str → Option Value) : Prop where
  there : ∃ c0 dd cd sl, h.get? C1 = some { cls := c0, dict := dd, data := .cls cd, slots := sl } ∧ h.Ns cd.ns mA
theorem lookup_I {mN mA : Str → Option Value} {name : Str} {y : Option Value} {Q : Option Value → Shared → Prop} (hC : h.get? C = some (excClassObj nm q C N bs (.ref C1 :: bmB) true sn sub ab col dd k0 k1 k2 k3 k5 newId)) (hn : h.Ns N mN) (I : BaseNs h C1 mA)
    (hbm : mroOf (.type B) = pure bmB) (hB : typeLookup (.type B) name = pure y) (h1 : mN name = none) (h2 : mA name = none) (hq : Q y ⟨h, g, d, t, os⟩) : wpAny M A (typeLookup (.ref C) name) Q E ⟨h, g, d, t, os⟩ := by
  have hrest : lookupAlong bmB name = pure y := by rw [typeLookup_eq, hbm] at hB; exact hB
  obtain ⟨c0, dd1, cd1, sl1, i1, i2⟩ := I.there
  rw [typeLookup_eq]
  refine wpAny_bind (wpAny_mroOf_exc hC ?_)
  rw [lookupAlong_cons]
  refine wpAny_bind (wpAny_classOwn_exc hC hn ?_)
  rw [h1]
  show wpAny _ _ (lookupAlong (.ref C1 :: bmB) _) _ _ _
  rw [lookupAlong_cons]
  refine wpAny_bind (wpAny_classOwn_cls i1 i2 ?_)
  rw [h2]
  show wpAny _ _ (lookupAlong bmB _) _ _ _
  rw [hrest]
  exact wpAny_pure hq
open Builtin Builtin.ObjectAttr
theorem check_sa_I {o : Obj} {x : Addr} {nameV v : Value} {Q : Unit → Shared → Prop} (SF : StoreFacts B bmB sa owner)
    (hC : h.get? C = some (excClassObj nm q C N bs (.ref C1 :: bmB) true sn sub ab col dd k0 k1 k2 k3 k5 newId)) (hx : h.get? x = some o) (hc : o.cls = .ref C) (hq : Q () ⟨h, g, d, t, os⟩) :
    wpAny M A (checkBuiltinCall sa ⟨[.ref x, nameV, v], []⟩) Q E ⟨h, g, d, t, os⟩ := by
  have hcB : (Value.ref C :: .ref C1 :: bmB).contains (.type owner) = true := by rw [List.contains_cons, List.contains_cons, SF.hasOwner, Bool.or_true, Bool.or_true]
  have ha := SF.args (.ref x) nameV v
  simp only [checkBuiltinCall, SF.kind, SF.split]
  refine wpAny_bind ?_
  · unfold isInstance
    repeat (first | (with_reducible refine wpAny_loadPart_at hx ?_; rw [hc]) | (with_reducible refine wpAny_isSubtype_exc hC ?_; rw [hcB]) | wp_step)
    cases hsig : Manifest.signature? sa with
    | none => exact wpAny_pure hq
    | some sig =>
      simp only [argsOk, hsig] at ha
      have h2 : Bind.checkArgs sa sig ⟨[.ref x, nameV, v], []⟩ = pure () := ha
      show wpAny M A (Bind.checkArgs sa sig ⟨[.ref x, nameV, v], []⟩) Q E _
      rw [h2]; exact wpAny_pure hq
theorem store_entry_I {x : Addr} {o : Obj} {v : Value} {name : Str} {mN mA : Str → Option Value} {tk : Tok} {Q : Fin → Shared → Prop} (SF : StoreFacts B bmB sa owner)
    (hC : h.get? C = some (excClassObj nm q C N bs (.ref C1 :: bmB) true sn sub ab col dd k0 k1 k2 k3 k5 newId)) (hn : h.Ns N mN) (I : BaseNs h C1 mA) (hN : mN name = none) (hA : mA name = none) (hB : typeLookup (.type B) name = pure none)
    (hx : h.get? x = some o) (hc : o.cls = .ref C) (hnc : ∀ c, o.data ≠ .cls c) (hdn : o.dict = none)
    (hq : ∀ h' tk' dx, h'.get? x = some { cls := o.cls, dict := some dx, data := o.data, slots := o.slots } → (∀ b ob, b ≠ x → h.get? b = some ob → h'.get? b = some ob) → Q (.done (.ret .none)) ⟨h', g, d, tk', os⟩) :
    wpAny (model prog w) A (Builtin.«object.__setattr__» ⟨[.ref x, .str name tk, v], []⟩) Q E ⟨h, g, d, t, os⟩ := by
  have hpass := SF.passes (.ref x)
  unfold Builtin.«object.__setattr__»
  repeat (first | rw [refuse_eq] | (rw [refuseLoop_ref, refuseLoop_ref, hpass]) | (with_reducible refine wpAny_loadPart_at hx ?_; rw [hc]) | with_reducible refine wpAny_mroOf_exc hC ?_ | (with_reducible refine lookup_I hC hn I SF.mro hB hN hA ?_) | wp_step)
  rw [hdn, if_neg (by simp [typeHasDict])]
  split
  · rename_i hcd
    cases hcd
  split
  · rename_i c hcd
    exact absurd hcd (hnc c)
  have hx₁ : (h.push { cls := .type "dict", data := .dict #[] }).get? x = some o := Heap.get?_push_of_some _ hx
  have hxs : x ≠ h.objs.size := Nat.ne_of_lt (Heap.lt_size hx)
  refine wpAny_bind (wpAny_alloc' ?_)
  refine wpAny_bind (wpAny_update' hx₁ ?_)
  refine wpAny_pure ?_
  have hgd : ((h.push { cls := .type "dict", data := .dict #[] }).update x fun o => { cls := o.cls, dict := some h.objs.size, data := o.data, slots := o.slots }).get? h.objs.size
      = some { cls := .type "dict", data := .dict #[] } :=
    (Heap.get?_update_ne _ _ _ _ hxs.symm).trans (Heap.get?_push_at rfl rfl)
  have hnd : ((h.push { cls := .type "dict", data := .dict #[] }).update x fun o => { cls := o.cls, dict := some h.objs.size, data := o.data, slots := o.slots }).Ns h.objs.size (fun _ => none) :=
    ⟨_, #[], _, hgd, rfl, fun e he => absurd he (by simp), fun _ => rfl⟩
  show wpAny _ _ (storeInDict h.objs.size (.str name tk) name v) _ _ _
  unfold storeInDict newKeyGuard
  refine wpAny_bind (wpAny_pure (wpAny_bind (wpAny_nsSet1 (Heap.Ns1.of_empty hnd) fun h' hn' hs => ?_)))
  obtain ⟨oD, esD, epD, hoD, hdD, hcD⟩ := hn'.count (Within.cons name v Within.nil)
  refine wpAny_bind (wpAny_lookBehind hoD (by rw [hdD]; exact pastItsLine_dict (Nat.le_trans hcD (by rw [List.length_cons, List.length_nil, sizeLine_eq]; omega))) ?_)
  wp_walk
  refine hq h' _ h.objs.size ?_ (fun b ob hbx hb => ?_)
  · refine (hs.2 x hxs).trans (Heap.get?_update_self _ hx₁ ?_)
    have hfr := (Heap.get?_some_iff.mp hx).2
    obtain ⟨oc, od, odt, osl⟩ := o
    cases odt <;> first | rfl | exact hfr
  · exact (hs.2 b (Nat.ne_of_lt (Heap.lt_size hb))).trans ((Heap.get?_update_ne _ _ _ _ hbx).trans (Heap.get?_push_of_some _ hb))
theorem store_attr_I {x : Addr} {o : Obj} {v : Value} {name : Str} {mN mA : Str → Option Value} {Q : Unit → Shared → Prop} (SF : StoreFacts B bmB sa owner)
    (hC : h.get? C = some (excClassObj nm q C N bs (.ref C1 :: bmB) true sn sub ab col dd k0 k1 k2 k3 k5 newId)) (hn : h.Ns N mN) (I : BaseNs h C1 mA) (hN : mN name = none) (hA : mA name = none) (hB : typeLookup (.type B) name = pure none)
    (hNs : mN "__setattr__" = none) (hAs : mA "__setattr__" = none)
    (hx : h.get? x = some o) (hc : o.cls = .ref C) (hnc : ∀ c, o.data ≠ .cls c) (hdn : o.dict = none)
    (hq : ∀ h' tk' dx, h'.get? x = some { cls := o.cls, dict := some dx, data := o.data, slots := o.slots } → (∀ b ob, b ≠ x → h.get? b = some ob → h'.get? b = some ob) → Q () ⟨h', g, d, tk', os⟩) :
    wpAny (model prog w) A (setAttr (.ref x) name v) Q E ⟨h, g, d, t, os⟩ := by
  have f3 := SF.slot.bind (.ref x)
  unfold setAttr callSpecial? specialOf
  repeat (any_goals (first | assumption | (with_reducible refine wpAny_loadPart_at hx ?_; rw [hc]) | (with_reducible refine lookup_I hC hn I SF.mro SF.slot.lookup hNs hAs ?_) | wp_step))
  refine codeAny_call_builtin SF.slot.plain SF.entry (check_sa_I SF hC hx hc (store_entry_I SF hC hn I hN hA hB hx hc hnc hdn fun h' tk' dx a b => ?_))
  repeat (any_goals (first | assumption | wp_step))
  exact hq h' tk' dx a b
end
noncomputable abbrev excO (dx : Option Addr) (t1 : Addr) : Obj := { cls := .ref 63, dict := dx, data := .fields #[.ref t1, .none, .none, .none, .bool false, .none] }
noncomputable abbrev tupO (vs : List Value) : Obj := { cls := .type "tuple", data := .seq vs.toArray }
theorem fr_off {h₀ h h' : Heap} {L e : Addr} {m : Str → Option Value} (F : Fr h₀ L h m) (he : h₀.get? e = none) (hL : L ≠ e) (hk : ∀ b o, b ≠ e → h.get? b = some o → h'.get? b = some o) : Fr h₀ L h' m := by
  obtain ⟨oL, a1, a2, hL', a3⟩ := F.ns
  exact ⟨⟨oL, a1, a2, hk _ _ hL hL', a3⟩, fun b o q => hk b o (fun z => by rw [z, he] at q; cases q) (F.keep b o q), F.above⟩
theorem news_off {h₀ h h' : Heap} {L e : Addr} {news : List (Addr × Obj)} (N : News h₀ L h news) (hn : ∀ q ∈ news, q.1 ≠ e) (hk : ∀ b o, b ≠ e → h.get? b = some o → h'.get? b = some o) : News h₀ L h' news :=
  fun q hq => ⟨hk _ _ (hn q hq) (N q hq).1, (N q hq).2⟩
theorem news_cons {h₀ h : Heap} {L e : Addr} {o : Obj} {news : List (Addr × Obj)} (N : News h₀ L h news) (he : h.get? e = some o) (hL : e ≠ L) (h0 : h₀.get? e = none) : News h₀ L h ((e, o) :: news) := by
  intro q hq
  rcases List.mem_cons.mp hq with rfl | hq
  · exact ⟨he, hL, h0⟩
  · exact N q hq
section
variable {prog : Program} {w : World} {p : Program} {loose : List Str} {mean : ExcName → Option Value} {mg mb : Str → Option Value}
  {dp un : Nat} {gd : Option (List Code)} {cn : Str} {cs : Scope} {a : Addr} {ccd : Value} {cl : List (Str × Addr)} {outer : List Env} {A₀ : Around} {base h₀ : Heap} {L : Addr} {m : Str → Option Value} {rest news : List (Addr × Obj)} {s : Shared} {Q E : Value → Shared → Prop}
noncomputable def mapN : Heap → Addr → Str → Option Value := Heap.nsMap
theorem ns62 {h : Heap} (X : (frag w.params).In h) : h.Ns 62 (h.nsMap 62) := .of_isNs (isNs_of_in X (by kernel_rfl))
theorem ns37 {h : Heap} (X : (frag w.params).In h) : h.Ns 37 (h.nsMap 37) := .of_isNs (isNs_of_in X (by kernel_rfl))
theorem at63 {h : Heap} (X : (frag w.params).In h) : h.get? 63 = some (ob_63 w.params) := X _ _ (by k_is)
theorem at38 {h : Heap} (X : (frag w.params).In h) : h.get? 38 = some (ob_38 w.params) := X _ _ (by k_is)
theorem at35 {h : Heap} (X : (frag w.params).In h) : h.get? 35 = some (ob_35 w.params) := X _ _ (by k_is)
theorem n62 {h : Heap} {x : Str} (X : (frag w.params).In h) (e : nsIn (frag w.params) 62 x = some none) : h.nsMap 62 x = none := nsMap_none_of_in X (by kernel_rfl) e
theorem n37 {h : Heap} {x : Str} (X : (frag w.params).In h) (e : nsIn (frag w.params) 37 x = some none) : h.nsMap 37 x = none := nsMap_none_of_in X (by kernel_rfl) e
theorem ns_some {K : Frag} {h : Heap} {A : Addr} {mA : Str → Option Value} {n : Str} {v : Value} (X : K.In h) (G : h.Ns A mA) (e : nsIn K A n = some (some v)) : mA n = some v := by
  obtain ⟨o, es, ep, ho, hd, _, hf⟩ := G
  unfold nsIn at e
  split at e
  · rename_i c d es' n' sl q
    have := X _ _ q
    rw [ho] at this
    cases this
    cases hd
    split at e
    · rename_i he
      rw [← hf]
      unfold nsFind findBy
      rw [← Array.find?_toList, he]
      simpa using e
    · split at e <;> cases e
  · cases e
theorem hasT63 {bmB : List Value} : HasT bmB (.ref 38 :: bmB) := by
  intro X b e
  rw [List.contains_cons, e]
  rfl
theorem meta_Exception : typeOf (.type "Exception") = pure (.type "type") := by first | rfl | kernel_rfl
theorem say26 : True := by
  (k_with "getMethod type:Exception" => (k_here; refine' method_type (by k_asm) (by k_asm) (by exact meta_Exception) (by decide +kernel) (by k_dflt k_is) (by rfl) ?_; k_whole))
  trivial
theorem exc_init_K {A : Around} {e t0 : Addr} {v : Value} (F : Fr h₀ L s.heap m) (X : (frag w.params).In h₀) (N : News h₀ L s.heap ((e, excO none t0) :: news)) (hne : ∀ q ∈ news, q.1 ≠ e)
    (h : ∀ (h' : Heap) (t1 : Addr), Fr h₀ L h' m → News h₀ L h' ((e, excO none t1) :: (t1, tupO [v]) :: news) → (∀ q ∈ news, q.1 ≠ t1) → e ≠ t1 → Q .none { s with heap := h' }) :
    wpAny (model prog w) A (call (.builtin "Exception.__init__") [.ref e, v]) Q E s := by
  have Xs := X.keeps F.keep
  have he := (N _ (.head _)).1
  have F1 := F.push (tupO [v])
  have N1 := N.push F (tupO [v])
  refine init_I PySem.F.excBase_Exception hasT63 (at63 Xs) he rfl rfl rfl (by rw [sizeLine_eq]; exact Nat.le_of_ble_eq_true rfl) ?_
  have he1 : (s.heap.push (tupO [v])).get? e = some (excO none t0) := (N1 _ (.tail _ (.head _))).1
  have hup : ∀ b o, b ≠ e → (s.heap.push (tupO [v])).get? b = some o → ((s.heap.push (tupO [v])).update e (Obj.mapFields (·.setIfInBounds 0 (.ref s.heap.objs.size)))).get? b = some o := fun b o hb q => (Heap.get?_update_other _ _ (Ne.symm hb)).trans q
  have het : e ≠ s.heap.objs.size := Nat.ne_of_lt (Heap.lt_size he)
  have hLe : L ≠ e := fun z => (N _ (.head _)).2.1 z.symm
  have F2 := fr_off F1 (N _ (.head _)).2.2 hLe hup
  refine h _ s.heap.objs.size F2 (news_cons (news_off ?_ (e := e) ?_ hup) ?_ (Ne.symm hLe) (N _ (.head _)).2.2) (fun q hq => Nat.ne_of_lt (Heap.lt_size (N _ (.tail _ hq)).1)) het
  · intro q hq
    rcases List.mem_cons.mp hq with rfl | hq
    · exact N1 _ (.head _)
    · exact N1 _ (.tail _ (.tail _ hq))
  · intro q hq
    rcases List.mem_cons.mp hq with rfl | hq
    · exact Ne.symm het
    · exact hne q hq
  · exact Heap.get?_update_self _ he1 rfl
theorem noattr_msg : typeLookup (.type "Exception") (Str.ofString "message") = pure none := by rw [typeLookup_type, builtinLookup_eq_fast]; kernel_rfl
theorem store_msg_K {A : Around} {e t0 : Addr} {v : Value} {Q : Unit → Shared → Prop} (F : Fr h₀ L s.heap m) (X : (frag w.params).In h₀) (N : News h₀ L s.heap ((e, excO none t0) :: news)) (hne : ∀ q ∈ news, q.1 ≠ e)
    (h : ∀ (h' : Heap) (dx : Addr) (tk : Nat), Fr h₀ L h' m → News h₀ L h' ((e, excO (some dx) t0) :: news) → Q () { s with heap := h', toks := tk }) :
    wpAny (model prog w) A (setAttr (.ref e) (Str.ofString "message") v) Q E s := by
  have Xs := X.keeps F.keep
  have he := (N _ (.head _)).1
  have hLe : L ≠ e := fun z => (N _ (.head _)).2.1 z.symm
  refine store_attr_I PySem.F.store_Exception (at63 Xs) (ns62 Xs) ⟨_, _, _, _, at38 Xs, ns37 Xs⟩ (n62 Xs (by k_is)) (n37 Xs (by k_is)) noattr_msg (n62 Xs (by k_is)) (n37 Xs (by k_is)) he rfl (by intro c q; cases q) rfl fun h' tk' dx a b => ?_
  exact h h' dx tk' (fr_off F (N _ (.head _)).2.2 hLe b) (news_cons (news_off (fun q hq => N q (.tail _ hq)) hne b) a (Ne.symm hLe) (N _ (.head _)).2.2)
theorem exc_c {z : Str} {tz : Tok} (C : Cx w p loose mean mg mb A₀ base outer h₀ L s.heap m cs) (N : News h₀ L s.heap news) (hd : dp + 10 < recursionLimit) (hu : un + 100 < cLine)
    (hret : ∀ (h' : Heap) (e t1 : Addr) (dx : Option Addr) (tk' : Nat), Fr h₀ L h' m → News h₀ L h' ((e, excO dx t1) :: (t1, tupO [.str z tz]) :: news) → (∀ q ∈ news, q.1 ≠ e ∧ q.1 ≠ t1) → e ≠ t1 → Q (.ref e) { s with heap := h', toks := tk' }) :
    wpAny (model prog w) (ktrTop dp un gd cn cs L a ccd cl outer) (call (.ref 63) [.str z tz]) Q E s := by
  obtain ⟨B, F, X, T, hk⟩ := C
  have Xs := X.keeps F.keep
  obtain ⟨oL, a1, a2, hL, a3⟩ := id F.ns
  refine call_exc_I (h := s.heap) PySem.F.excBase_Exception hasT63 (at63 Xs) (ns62 Xs) (n62 Xs (by k_is)) (fI := 35) ⟨_, _, _, _, _, at38 Xs, ns37 Xs, ns_some Xs (ns37 Xs) (by k_is)⟩ (at35 Xs) rfl fun h' e hm => ?_
  obtain ⟨kp, en, t0, he, tn, ht⟩ := hm
  have hLe : L ≠ e := fun z => by rw [z, en] at hL; cases hL
  have hLt : L ≠ t0 := fun z => by rw [z, tn] at hL; cases hL
  have he0 : h₀.get? e = none := by
    cases q : h₀.get? e with
    | none => rfl
    | some o => have := F.keep _ _ q; rw [en] at this; cases this
  have ht0 : h₀.get? t0 = none := by
    cases q : h₀.get? t0 with
    | none => rfl
    | some o => have := F.keep _ _ q; rw [tn] at this; cases this
  have F' : Fr h₀ L h' m := fr_off F he0 hLe fun b o _ q => kp b o q
  have N1 : News h₀ L h' news := fun q hq => ⟨kp _ _ (N q hq).1, (N q hq).2⟩
  have N2 : News h₀ L h' ((e, excO none t0) :: (t0, tupO [.str z tz]) :: news) := news_cons (news_cons N1 ht (Ne.symm hLt) ht0) he (Ne.symm hLe) he0
  have hne : ∀ q ∈ news, q.1 ≠ e ∧ q.1 ≠ t0 := fun q hq => ⟨fun z => (by have := (N q hq).1; rw [z, en] at this; cases this), fun z => (by have := (N q hq).1; rw [z, tn] at this; cases this)⟩
  have het : e ≠ t0 := fun z => by rw [z, ht] at he; cases he
  refine wpAny_call ?_
  clear N1 F N
  k_dflt (k_extra "ENTER")
  k_steps
  refine exc_init_K (e := e) (t0 := t0) (news := (t0, tupO [.str z tz]) :: news) (by k_asm) (by k_asm) (by k_asm) ?_ ?_
  · intro q hq
    rcases List.mem_cons.mp hq with rfl | hq
    · exact Ne.symm het
    · exact (hne q hq).1
  intro h1 t1 F1 N1 hn1 he1
  k_steps
  refine store_msg_K (e := e) (t0 := t1) (by k_asm) (by k_asm) (by k_asm) ?_ ?_
  · intro q hq
    rcases List.mem_cons.mp hq with rfl | hq
    · exact Ne.symm he1
    rcases List.mem_cons.mp hq with rfl | hq
    · exact Ne.symm het
    · exact (hne q hq).1
  intro h2 dx tk2 F2 N2
  k_steps
  exact hret _ _ _ _ _ (by k_asm) (news_sub (by k_asm) (by k_extra "PICK")) (fun q hq => ⟨(hne q hq).1, hn1 q (.tail _ hq)⟩) he1
end
theorem mem_framesX {env : Env} {outer : List Env} {b L : Addr} (hf : env.frame = some L) (hm : b ∈ (env :: outer).filterMap (·.frame)) : b = L ∨ b ∈ outer.filterMap (·.frame) := by
  obtain ⟨e, he, hb⟩ := List.mem_filterMap.mp hm
  rcases List.mem_cons.mp he with rfl | he
  · rw [hf] at hb; exact .inl (Option.some.inj hb).symm
  · exact .inr (List.mem_filterMap.mpr ⟨e, he, hb⟩)
section
variable {prog : Program} {w : World} {A₀ A : Around} {s : Shared} {base h₀ : Heap} {outer : List Env} {L : Addr} {m : Str → Option Value} {env : Env} {news : List (Addr × Obj)} {K : Frag} {p : Program} {loose : List Str} {mean : ExcName → Option Value} {mg mb : Str → Option Value}
  {R : Result → Shared → Prop} {name qual : Str} {params : Arguments} {body : List Stmt} {scope : Scope} {dV kV doc pm cdv ct oc : Value} {an od : Option Addr} {osl : Array (Option Value)} {f : Addr} {args : Args} {binds : List (Str × Value)}
theorem below_turn {g : Heap} (B : Below A₀ base outer h₀) (T : KtsTurn (outer.filterMap (·.frame)) h₀ g) : Below A₀ base outer g :=
  ⟨B.stack, fun b o e => T.other b o (B.stays b o e) (fun hm => by rw [(B.frames.mem hm).1] at e; cases e), B.frames.of_keeps fun b o e _ => by
    obtain ⟨sl', hs'⟩ := T.up e
    exact ⟨_, hs', rfl⟩⟩
theorem groundSX (B : Below A₀ base outer h₀) (F : Fr h₀ L s.heap m) (N : News h₀ L s.heap news) (XB : K.In base) (TB : Top p loose mean mg mb base) (D : KtsDicts (outer.filterMap (·.frame)) h₀) (hA : A.frames = some (env :: outer)) (hf : env.frame = some L) (hke : env.scope.kind = .function) :
    Fr h₀ L (hideAll s.heap (news.map (·.1))) m ∧ Below A base (env :: outer) (hideAll s.heap (news.map (·.1))) ∧ h₀.StaysIn (hideAll s.heap (news.map (·.1))) ∧ KtsDicts ((env :: outer).filterMap (·.frame)) (hideAll s.heap (news.map (·.1))) ∧
      ∀ v s', LeaveS ((env :: outer).filterMap (·.frame)) A₀ base outer K p loose mean mg mb h₀ h₀ L m (hideAll s.heap (news.map (·.1))) R v s' → R (.ok (.ret v)) s' := by
  obtain ⟨FG, BG, st, lv⟩ := groundX (R := R) B F N hA hf hke
  obtain ⟨oL, es, ep, hLg, hLd, hLk, hLf⟩ := id FG.ns
  refine ⟨FG, BG, st, fun b hb => ?_, fun v s' hl => ?_⟩
  · rcases mem_framesX hf hb with rfl | hb
    · exact ⟨oL, es, ep, hLg, hLd⟩
    · obtain ⟨o, es', n', ho', hd'⟩ := D b hb
      exact ⟨o, es', n', st b o ho', hd'⟩
  have nL₀ : h₀.get? L = none := kts_self F
  rcases hl with hl | ⟨g', L', m', news', T', F', N', k⟩
  · exact lv v s' hl
  obtain ⟨sl, hs⟩ := T'.up hLg
  obtain ⟨T₁, S₁⟩ := kts_turn_at (h := s'.heap) (fs := outer.filterMap (·.frame)) (g := h₀)
    (fun b hb => by
      obtain ⟨_, o, ho', _⟩ := B.frames.mem hb
      exact ⟨o, ho'⟩)
    (fun b o e nmem => F'.keep b o (T'.other b o (st b o e) (fun q => by
      rcases mem_framesX hf q with z | z
      · rw [z, nL₀] at e
        cases e
      · exact nmem z)))
    (fun b o e hm => by
      obtain ⟨sl', hs'⟩ := T'.up (st b o e)
      exact ⟨sl', F'.keep _ _ hs'⟩)
  have B₃ := below_turn B T₁
  refine k _ T₁ ⟨⟨_, es, ep, F'.keep _ _ hs, hLd, hLk, hLf⟩, S₁, by rw [T₁.size]; exact F.above⟩ (fun p hp => ⟨(N' p hp).1, fun q => ?_, ?_⟩) B₃ (XB.keeps B₃.stays) (TB.keeps B₃.stays) (D.turn T₁)
  · have := (N' p hp).2.2; rw [q, hs] at this; cases this
  · refine T₁.none_ _ ?_
    cases q : h₀.get? p.1 with
    | none => rfl
    | some o =>
      obtain ⟨sl', hs'⟩ := T'.up (st _ _ q)
      have := (N' p hp).2.2
      rw [hs'] at this
      cases this
theorem code_SX (hA : A.frames = some (env :: outer)) (hf : env.frame = some L) (hke : env.scope.kind = .function) (F : Fr h₀ L s.heap m) (B : Below A₀ base outer h₀) (X₀ : K.In h₀) (N : News h₀ L s.heap news) (T : Top p loose mean mg mb h₀) (XB : K.In base) (TB : Top p loose mean mg mb base) (D : KtsDicts (outer.filterMap (·.frame)) h₀)
    (ho : K.lookup f = some ⟨oc, od, .func (fnOf name qual params body scope dV kV doc pm an cdv ct), osl⟩) (hcd : codeIn K cdv qual = true) (hroom : A.depth < recursionLimit)
    (hbind : BindsTo s (fnOf name qual params body scope dV kV doc pm an cdv ct) args binds) (hloc : ∀ y ∈ binds, scope.names.lookup y.1 = some .local)
    (h : ∀ g L' h₁, Fr h₀ L g m → Fr g L' h₁ (fun y => binds.reverse.lookup y) → News g L' h₁ news → Below A base (env :: outer) g → K.In g → Top p loose mean mg mb g → KtsDicts ((env :: outer).filterMap (·.frame)) g → (∀ p ∈ news, p.1 < L') →
      wpAny (model prog w) (A.deeper (envOf qual scope L' f cdv)) (execs body (envOf qual scope L' f cdv))
        (fun fl s' => LeaveS ((env :: outer).filterMap (·.frame)) A₀ base outer K p loose mean mg mb h₀ h₀ L m g R (match fl with | .ret v => v | _ => .none) s')
        (fun e s' => wpAny (model prog w) (A.deeper (envOf qual scope L' f cdv)) (leaving (envOf qual scope L' f cdv) e) (fun _ s'' => R (.error e) s'') (fun e' s'' => R (.error e') s'') s')
        { s with heap := h₁, toks := s.toks + binds.length })
    (hco : scope.isCoroutine = false) (hgen : scope.isGenerator = false) (hk : scope.kind = .function)
    (hcell : ∀ x ∈ scope.names, x.2 ≠ .cell) : codeAny (model prog w) A (.call (.ref f) args) R s := by
  have X := X₀.keeps F.keep
  obtain ⟨FG, BG, st, DG, lv⟩ := groundSX (R := R) B F N XB TB D hA hf hke
  refine codeAny_call_def (fd := fnOf name qual params body scope dV kV doc pm an cdv ct) (body := body) (binds := binds) hroom (X _ _ ho) rfl (T.nolimit.keeps F.keep) (codeRec_of X hcd) rfl hbind hcell hloc (fun h₁ hns hk₁ => ?_) hco hgen hk
  exact wpAny_mono (h _ s.heap.objs.size h₁ FG ⟨hns, fun b o e => hk₁ b o (of_hideAll _ e), Nat.le_of_eq (hideAll_size _ _)⟩
    (fun p hp => ⟨hk₁ _ _ (N p hp).1, Nat.ne_of_lt (Heap.lt_size (N p hp).1), hideAll_none _ (List.mem_map_of_mem hp)⟩) BG (X₀.keeps st) (T.keeps st) DG (fun p hp => Heap.lt_size (N p hp).1)) (fun fl s' hl => lv _ _ hl) fun _ _ y => y
theorem code_SXC (hA : A.frames = some (env :: outer)) (hf : env.frame = some L) (hke : env.scope.kind = .function) (F : Fr h₀ L s.heap m) (B : Below A₀ base outer h₀) (X₀ : K.In h₀) (N : News h₀ L s.heap news) (T : Top p loose mean mg mb h₀) (XB : K.In base) (TB : Top p loose mean mg mb base) (D : KtsDicts (outer.filterMap (·.frame)) h₀)
    (ho : K.lookup f = some ⟨oc, od, .func (fnOf name qual params body scope dV kV doc pm an cdv ct), osl⟩) (hcd : codeIn K cdv qual = true) (hroom : A.depth < recursionLimit)
    (hbind : BindsTo s (fnOf name qual params body scope dV kV doc pm an cdv ct) args binds) (hkind : (binds.all fun y => scope.names.lookup y.1 == some .local || scope.names.lookup y.1 == some .cell) = true)
    (hnd : ((cellsFrom 0 scope.names []).map (·.1)).Nodup)
    (h : ∀ g L' h₁ tk cells, Fr h₀ L g m → Fr g L' h₁ (bindL (envOfC qual scope L' f cdv).kindOf binds fun _ => none) → News g L' h₁ (cells ++ news) →
      CellsAre (bindC (envOfC qual scope L' f cdv).kindOf binds fun _ => none) (cellsFrom (L' + 1) scope.names []) cells → Below A base (env :: outer) g → K.In g → Top p loose mean mg mb g → KtsDicts ((env :: outer).filterMap (·.frame)) g → (∀ p ∈ news, p.1 < L') →
      wpAny (model prog w) (A.deeper (envOfC qual scope L' f cdv)) (execs body (envOfC qual scope L' f cdv))
        (fun fl s' => LeaveS ((env :: outer).filterMap (·.frame)) A₀ base outer K p loose mean mg mb h₀ h₀ L m g R (match fl with | .ret v => v | _ => .none) s')
        (fun e s' => wpAny (model prog w) (A.deeper (envOfC qual scope L' f cdv)) (leaving (envOfC qual scope L' f cdv) e) (fun _ s'' => R (.error e) s'') (fun e' s'' => R (.error e') s'') s')
        { s with heap := h₁, toks := tk })
    (hco : scope.isCoroutine = false) (hgen : scope.isGenerator = false) (hk : scope.kind = .function) : codeAny (model prog w) A (.call (.ref f) args) R s := by
  have X := X₀.keeps F.keep
  have hlim := T.nolimit
  obtain ⟨FG, BG, st, DG, lv⟩ := groundSX (R := R) B F N XB TB D hA hf hke
  refine codeAny_call_function hroom (X _ _ ho) rfl hco hgen rfl (codeRec_of X hcd) (hbind _ _ _ _ ?_)
  refine wpAny_newFunctionEnv_cells hk (kindsX hkind _) fun env' he s' x => ?_
  subst he
  refine ⟨(hlim.keeps F.keep).keeps x.toInCall.keep, codeAny_func ?_⟩
  obtain ⟨h₁, tk, rfl, _⟩ := x.done
  have hk₁ := x.toInCall.keep
  obtain ⟨cells, NC, Y⟩ := Cl.news (h₀ := s.heap) (Nat.le_refl _) fun n c hm => ⟨x.cell n c (lookup_of_mem_nodup (cellsFrom_names scope.names 0 (s.heap.objs.size + 1) [] [] rfl ▸ hnd) hm), x.above n c hm⟩
  refine wpAny_mono (h _ s.heap.objs.size h₁ tk cells FG ⟨x.toInCall.ns, fun b o e => hk₁ b o (of_hideAll _ e), Nat.le_of_eq (hideAll_size _ _)⟩ (fun p hp => ?_) Y BG (X₀.keeps st) (T.keeps st) DG (fun p hp => Heap.lt_size (N p hp).1)) (fun fl s' hl => lv _ _ hl) fun _ _ y => y
  rcases List.mem_append.mp hp with hp | hp
  · refine ⟨(NC p hp).1, (NC p hp).2.1, ?_⟩
    cases q : (hideAll s.heap (news.map (·.1))).get? p.1 with
    | none => rfl
    | some o => have := of_hideAll _ q; rw [(NC p hp).2.2] at this; cases this
  · exact ⟨hk₁ _ _ (N p hp).1, Nat.ne_of_lt (Heap.lt_size (N p hp).1), hideAll_none _ (List.mem_map_of_mem hp)⟩
end
theorem say27 : True := by
  (k_with "ENTERS" => (refine' code_SX (by exact rfl) (by exact rfl) (by first | assumption | exact rfl) (by k_asm) (by k_asm) (by k_asm) (by k_asm) (by k_asm) (by assumption) (by assumption) (by assumption) (by k_is) (by k_is) (by ktr_room) (by first | exact BindsTo.of_eq rfl | exact binds_K (by k_in) rfl (by k_is) rfl rfl rfl) (by exact locs rfl) ?_ (by exact rfl) (by exact rfl) (by exact rfl) (by decide); k_whole; intro _ _ _ _ _ _ _ _ _ _; walk_at "I:lt"; (try dsimp only); (try k_unmd); (try k_fold)))
  trivial
local macro_rules | `(tactic| walk_at "I:esc") => `(tactic| (intro g' L' h' tk' cells' FG' F' N' Y' B' X' T' D' l1; (try k_lt l1); k_cells Y'; (try simp only [List.cons_append, List.nil_append] at N'); (try dsimp only); (try k_unmd); (try k_fold)))
theorem say28 : True := by
  (k_with "ENTERSC" => (refine' code_SXC (by exact rfl) (by exact rfl) (by first | assumption | exact rfl) (by k_asm) (by k_asm) (by k_asm) (by k_asm) (by k_asm) (by assumption) (by assumption) (by assumption) (by k_is) (by k_is) (by ktr_room) (by first | exact BindsTo.of_eq rfl | exact binds_K (by k_in) rfl (by k_is) rfl rfl rfl) (by exact rfl) (by decide +kernel) ?_ (by exact rfl) (by exact rfl) (by exact rfl); k_whole; walk_at "I:esc"))
  trivial
section
variable {prog : Program} {w : World} {A : Around} {E : Value → Shared → Prop} {s : Shared} {env : Env} {h₀ : Heap} {x : Str} {body : List Stmt} {Q : Flow → Shared → Prop} {fs : List Addr}
inductive AEndS (h₀ : Heap) (fs : List Addr) (L : Addr) (own : List (Addr × Obj)) (I : Addr) (J : (Str → Option Value) → List (Addr × Obj) → Prop) (s₁ s₂ : Shared) : Prop
  | mk (g h' : Heap) (tk : Nat) (m' : Str → Option Value) (news' : List (Addr × Obj)) (e : s₂ = { s₁ with heap := h', toks := tk }) (T : KtsTurn fs h₀ g) (F : Fr g L h' m') (N : News g L h' (own ++ news')) (o : ∀ q ∈ news', q.1 ≠ I) (j : J m' news')
noncomputable def APostS (h₀ : Heap) (fs : List Addr) (L : Addr) (own : List (Addr × Obj)) (I : Addr) (J : (Str → Option Value) → List (Addr × Obj) → Prop) (s₁ : Shared) (Q : Flow → Shared → Prop) (f : Flow) (s₂ : Shared) : Prop :=
  match f with
  | .ret v => Q (.ret v) s₂
  | .brk => Q .next s₂
  | _ => AEndS h₀ fs L own I J s₁ s₂
noncomputable def ListLoopS (prog : Program) (w : World) (A : Around) (h₀ : Heap) (fs : List Addr) (env : Env) (target : PySem.Expr) (body : List Stmt) (Q : Flow → Shared → Prop) (E : Value → Shared → Prop) (xv : Value) (s₁ : Shared) : Prop :=
  ∃ (l : Addr) (n : Nat) (vs : List Value) (m₀ : Str → Option Value) (news : List (Addr × Obj)) (J : Nat → (Str → Option Value) → List (Addr × Obj) → Prop),
      xv = .ref l ∧ Fr h₀ env.locals s₁.heap m₀ ∧ News h₀ env.locals s₁.heap news ∧ (l, listOf vs.toArray n) ∈ news ∧ J 0 m₀ news ∧
      (∀ (i : Nat) (v : Value) (h : Heap) (tk : Nat) (m₁ : Str → Option Value) (news₁ : List (Addr × Obj)) (I : Addr) (oI ol : Obj) (g : Heap), vs[i]? = some v → J i m₁ news₁ → KtsTurn fs h₀ g → Fr g env.locals h m₁ → News g env.locals h ((I, oI) :: (l, ol) :: news₁) → (∀ q ∈ news₁, q.1 ≠ I) → I ≠ l →
        wpAny (model prog w) A (assign target env v) (fun _ s₃ => wpAny (model prog w) A (execs body env) (APostS h₀ fs env.locals [(I, oI), (l, ol)] I (J (i + 1)) { s₁ with heap := h, toks := tk } Q) E s₃) E { s₁ with heap := h, toks := tk }) ∧
      (∀ (h : Heap) (tk : Nat) (m₁ : Str → Option Value) (news₁ : List (Addr × Obj)) (g : Heap), J vs.length m₁ news₁ → KtsTurn fs h₀ g → Fr g env.locals h m₁ → News g env.locals h news₁ → Q .next { s₁ with heap := h, toks := tk })
theorem For_listS {target iter : PySem.Expr} {pos : Pos} (hgo : ∀ I v, letOwnedTupleGo target (.ref I) v = pure ()) (hh : A.handled = none)
    (hx : wpAny (model prog w) A (eval iter env) (fun xv s₁ => ListLoopS prog w A h₀ fs env target body Q E xv s₁) E s)
    (hs : ∀ x, foldedSetIterable iter env x = pure x := by intro _; rfl)
    (hE : PassesOwn (model prog w) A env E := by passes_own) :
    wpAny (model prog w) A (exec (.For target iter body [] pos) env) Q E s := by
  refine wpAny_For (wpAny_mono hx (fun xv s₁ h₁ => ?_) fun _ _ e => e) hs
  obtain ⟨l, n, vs, m₀, news, J, rfl, F, N, hm, h0, turn, done⟩ := h₁
  have hls : s₁.heap.IsList l vs.toArray := list_of_news N hm
  have hl0 := (N _ hm).2.2
  have hlt := Heap.lt_size (N.get hm)
  have hne : l ≠ s₁.heap.objs.size := Nat.ne_of_lt hlt
  refine wpAny_pyIter_list hls ?_
  have W := Walks.list (prog := prog) (w := w) hh s₁.heap.objs.size l hne vs.toArray
  have hlen : vs.toArray.size = vs.length := List.size_toArray ..
  rw [hlen] at W
  have hI0 : h₀.get? s₁.heap.objs.size = none := next_is_new F
  have hIL : env.locals ≠ s₁.heap.objs.size := fun e => absurd F.ns.lt (e ▸ Nat.lt_irrefl _)
  obtain ⟨ol, hol, _⟩ := id hls
  have lmem : (l, ol) ∈ news := by
    have := N.get hm
    rw [hol] at this; cases this; exact hm
  refine codeAny_forLoop_any
    (fun k s' => ∃ h' tk m' news' g i, s' = { s₁ with heap := h', toks := tk } ∧ KtsTurn fs h₀ g ∧ (h'.IsListIter s₁.heap.objs.size l i ∧ h'.IsList l vs.toArray) ∧ h'.get? l = some ol ∧ Fr g env.locals h' m' ∧ News g env.locals h' news' ∧ (∀ p ∈ news', p.1 ≠ s₁.heap.objs.size) ∧ J i m' news' ∧ i ≤ vs.length ∧ k = vs.length + 1 - i) ?_ (vs.length + 1)
    ⟨s₁.heap.push _, s₁.toks, m₀, news, h₀, 0, rfl, KtsTurn.refl, ⟨⟨_, Heap.get?_push_size _ rfl, rfl, rfl⟩, hls.at fun o e => Heap.get?_push_of_some _ e⟩, Heap.get?_push_of_some _ hol, F.push _, (fun p hp => ⟨Heap.get?_push_of_some _ (N p hp).1, (N p hp).2⟩), (fun q hq hI => absurd (Heap.lt_size (N q hq).1) (hI ▸ Nat.lt_irrefl _)), h0, Nat.zero_le _, rfl⟩
  rintro k s' ⟨h', tk, m', news', g, i, rfl, Tg, hst', hl', F', N', hnw', hJ, hi, rfl⟩
  have gI : g.get? s₁.heap.objs.size = none := Tg.none_ _ hI0
  have gl : g.get? l = none := Tg.none_ _ hl0
  have next : ∀ h₁ : Heap, (∀ b o, b ∉ [s₁.heap.objs.size] → h'.get? b = some o → h₁.get? b = some o) → Fr g env.locals h₁ m' ∧ News g env.locals h₁ news' := fun h₁ hk₁ =>
    ⟨⟨F'.ns.at' fun o e => hk₁ _ o (by simpa using hIL) e, fun b o e => hk₁ b o (by simpa using fun z => by rw [z, gI] at e; cases e) (F'.keep b o e), F'.above⟩, fun p hp => ⟨hk₁ _ _ (by simpa using hnw' p hp) (N' p hp).1, (N' p hp).2⟩⟩
  by_cases hlt : i < vs.length
  · refine W.item i _ _ _ hlt hst' fun v h₁ tk₁ hP hst₂ hk₁ => ?_
    dsimp only
    rw [hgo]
    refine wpAny_pure ?_
    obtain ⟨F₂, N₂⟩ := next h₁ hk₁
    have hv : vs[i]? = some v := by simpa using hP
    obtain ⟨⟨oI, hI1, hI2, hI3⟩, ⟨ol', hl1, hl2, hl3⟩⟩ := id hst₂
    have hl₂ : h₁.get? l = some ol := hk₁ _ _ (by simpa using hne) hl'
    have N₃ : News g env.locals h₁ ((s₁.heap.objs.size, oI) :: (l, ol) :: news') := news_cons (news_cons N₂ hl₂ (fun z => (N _ hm).2.1 z) gl) hI1 (Ne.symm hIL) gI
    refine wpAny_mono (turn i v h₁ tk₁ m' news' _ oI ol g hv hJ Tg F₂ N₃ hnw' (Ne.symm hne)) (fun _ s₃ q₃ => wpAny_passesOwn hE (wpAny_mono q₃ (fun f s₂ q => ?_) fun _ _ e => e)) hE
    have fin : AEndS h₀ fs env.locals [(s₁.heap.objs.size, oI), (l, ol)] s₁.heap.objs.size (J (i + 1)) { s₁ with heap := h₁, toks := tk₁ } s₂ →
        ∃ m, m < vs.length + 1 - i ∧ ∃ h' tk m' news' g i, s₂ = { s₁ with heap := h', toks := tk } ∧ KtsTurn fs h₀ g ∧ (h'.IsListIter s₁.heap.objs.size l i ∧ h'.IsList l vs.toArray) ∧ h'.get? l = some ol ∧ Fr g env.locals h' m' ∧ News g env.locals h' news' ∧ (∀ p ∈ news', p.1 ≠ s₁.heap.objs.size) ∧ J i m' news' ∧ i ≤ vs.length ∧ m = vs.length + 1 - i := by
      rintro ⟨g₂, h₂, tk₂, m₂, news₂, rfl, T₂, F₄, N₄, off, hJ₂⟩
      refine ⟨vs.length + 1 - (i + 1), by omega, h₂, tk₂, m₂, news₂, g₂, i + 1, rfl, T₂, ⟨⟨oI, (N₄ _ (.head _)).1, hI2, hI3⟩, ?_⟩, (N₄ _ (.tail _ (.head _))).1, F₄, fun q hq => N₄ q (.tail _ (.tail _ hq)), off, hJ₂, hlt, rfl⟩
      rw [hl₂] at hl1; cases hl1
      exact ⟨ol, (N₄ _ (.tail _ (.head _))).1, hl2, hl3⟩
    cases f with
    | ret v => exact q
    | brk => exact q
    | next => exact fin q
    | cont => exact fin q
  · have hin : i = vs.length := by omega
    subst hin
    refine W.done _ _ _ hst' fun h₁ tk₁ hk₁ => wpAny_execs_nil ?_
    obtain ⟨F₁, N₁⟩ := next h₁ hk₁
    exact done h₁ tk₁ m' news' g hJ Tg F₁ N₁
end
section
variable {M : Model} {A : Around} {E : Value → Shared → Prop} {env : Env} {s : Shared}
theorem exec_raise_D {x : PySem.Expr} {pos : Pos} {Q : Flow → Shared → Prop} {P : Params} (hh : A.handled = none)
    (h : wpAny M A (eval x env) (fun v s₁ => ∃ e t od, v = .ref e ∧ s₁.heap.get? 63 = some (ob_63 P) ∧
      s₁.heap.get? e = some (excO od t) ∧ E (.ref e) s₁) E s) :
    wpAny M A (exec (.Raise (some x) none pos) env) Q E s := by
  rw [arm_exec_Raise]
  refine wpAny_bind (wpAny_standAt (raiseStmt_D (C := 63) (nm := Str.ofString "SheetFault") (q := Str.ofString "SheetFault") (N := 62) (bs := [.ref 38]) (hdct := true) (sn := []) (sub := []) (ab := false) (col := none) (dd := none) (k0 := some (.ref 54)) (k1 := none) (k2 := some (vS "SheetFault" 241)) (k3 := some (vS "SheetFault" 249)) (k5 := some (.bool true)) (newId := "Exception.__new__") (bm := [.ref 38, .type "Exception", .type "BaseException", .type "object"]) rfl hh (wpAny_bind (wpAny_mono h (fun v s₁ h₁ => wpAny_bind (wpAny_standAt (wpAny_pure ?_))) fun _ _ x => x))))
  obtain ⟨e, t, od, rfl, a, b, c⟩ := h₁
  exact ⟨e, t, od, rfl, a, b, c⟩
variable {s' : Shared} {base g g₂ : Heap} {outer : List Env} {L a e t : Addr} {m : Str → Option Value} {name : Str} {scope : Scope} {cd : Value} {Q : Unit → Shared → Prop} {news : List (Addr × Obj)}
theorem leave_exc {vs : List Value} {od : Option Addr} {t1 : Addr} (K : Below A base outer g) (N : News g L s'.heap ((e, excO od t1) :: (t1, tupO vs) :: news)) (F : Fr g L s'.heap m) (hne : ∀ q ∈ news, q.1 ≠ e ∧ q.1 ≠ t1) (het : e ≠ t1)
    (hQ : ∀ h' t, RaisedS base g outer e (.ref 63) t vs news h' → RaisedK base outer e (.ref 63) t vs news h' → g.UpToSlots h' → Q () { s' with heap := h' }) (hk : scope.kind = .function := by rfl) :
    wpAny M (A.deeper (envOf name scope L a cd)) (leaving (envOf name scope L a cd) (.ref e)) Q E s' := by
  have he := N _ (.head _)
  have ht := N _ (.tail _ (.head _))
  have hL : L ∉ [e, t1] := by
    intro q
    rcases List.mem_cons.mp q with q | q
    · exact he.2.1 q.symm
    · exact ht.2.1 (List.mem_singleton.mp q).symm
  have hg : ∀ b o, g.get? b = some o → b ∉ [e, t1] := by
    intro b o q z
    rcases List.mem_cons.mp z with z | z
    · rw [z, he.2.2] at q; cases q
    · rw [List.mem_singleton.mp z, ht.2.2] at q; cases q
  have hin : (hideAll s'.heap [e, t1]).get? e = none := hideAll_none _ (.head _)
  have hit : (hideAll s'.heap [e, t1]).get? t1 = none := hideAll_none _ (.tail _ (.head _))
  obtain ⟨oL, a1, a2, hLL, a3⟩ := id F.ns
  refine leave_raiseD K (h := hideAll s'.heap [e, t1]) ⟨fun b o q => of_hideAll _ q, hin, t1, _, _, he.1, rfl, rfl, rfl, rfl, hit, ht.1⟩ ⟨⟨oL, a1, a2, hideAll_get _ hLL hL, a3⟩, fun b o q => hideAll_get _ (F.keep b o q) (hg b o q), F.above⟩ (fun q hq => ⟨hideAll_get _ (N q (.tail _ (.tail _ hq))).1 (fun z => ?_), (N q (.tail _ (.tail _ hq))).2⟩) hQ hk
  rcases List.mem_cons.mp z with z | z
  · exact (hne q hq).1 z
  · exact (hne q hq).2 (List.mem_singleton.mp z)
theorem leave_onX {env : Env} {cls : Value} {vs : List Value} {news : List (Addr × Obj)} (R : RaisedS base g₂ (env :: outer) e cls t vs news s'.heap) (F : Fr g L g₂ m) (K : Below A base outer g) (hsm : g₂.UpToSlots s'.heap) (hf : env.frame = some L) (hk : env.scope.kind = .function)
    (hQ : ∀ h', RaisedS base g outer e cls t vs news h' → RaisedK base outer e cls t vs news h' → g.UpToSlots h' → Q () { s' with heap := h' }) :
    wpAny M (A.deeper env) (leaving env (.ref e)) Q E s' := by
  obtain ⟨⟨B, hB, hBG, hl, hfl, hnew⟩, htup⟩ := R
  exact wpAny_leaves_onW (Around.frames_deeper K.stack) hf hfl fun h' x1 x2 =>
    have R : RaisedS base g outer e cls t vs news h' := ⟨⟨B, hB, fun b o q nm => hBG b o (F.keep b o q) (fun hm => by
      rcases mem_framesX hf hm with z | z
      · rw [z, kts_self F] at q
        cases q
      · exact nm z), fun q hq => ⟨(hl q hq).1, kts_none F.keep (hl q hq).2.1, (hl q hq).2.2⟩, x1, hnew⟩, htup.of_slots x2⟩
    hQ h' R R.toK ((Heap.UpToSlots.of_keeps F.keep).trans (hsm.trans x2))
end
section
variable {prog : Program} {w : World} {p : Program} {loose : List Str} {mean : ExcName → Option Value} {mg mb : Str → Option Value}
  {dp un : Nat} {gd : Option (List Code)} {cn : Str} {cs : Scope} {a : Addr} {ccd : Value} {cl : List (Str × Addr)} {outer : List Env} {A₀ : Around} {base h₀ : Heap} {L : Addr} {m : Str → Option Value} {rest news : List (Addr × Obj)} {s : Shared} {Q E : Value → Shared → Prop}
theorem exec_raise_M {A : Around} {env : Env} {x : PySem.Expr} {pos : Pos} {Q : Flow → Shared → Prop} (hh : A.handled = none)
    (h : wpAny (model prog w) A (eval x env) (fun v s₁ => ∃ e t od, v = .ref e ∧ s₁.heap.get? 63 = some (ob_63 w.params) ∧ s₁.heap.get? e = some (excO od t) ∧ E (.ref e) s₁) E s) :
    wpAny (model prog w) A (exec (.Raise (some x) none pos) env) Q E s := exec_raise_D hh h
theorem say29 : True := by
  (k_with "exec Raise some none" => (k_here; k_dflt (refine' exec_raise_M (by first | rfl | assumption) ?_); (try dsimp only)))
  (k_with "call ref" => (k_here; (with_reducible show wpAny _ _ (call (Value.ref 63) [Value.str _ _]) _ _ _); k_dflt (refine' exc_c (by k_extra "CX") (by k_asm)  (by ktr_room) (by ktr_units) ?_); intro _ _ _ _ _ _ _ _ _; (try dsimp only); k_dflt (refine' ⟨_, _, _, rfl, (by exact at63 (Frag.In.keeps (by assumption) (Fr.keep (by assumption)))), (by exact (News.get (by assumption) (.head _))), ?_⟩)))
  (k_with "call ref" => (k_here; (with_reducible show wpAny _ _ (call (Value.ref 391) [_]) _ _ _); k_dflt (refine wpAny_call ?_; k_extra "ENTERS")))
  trivial
end
local macro_rules | `(tactic| walk_at "I:leave") => `(tactic| (intro S' R' U'; (try dsimp only at S' R' U' ⊢)))
section
variable {prog : Program} {w : World} {p : Program} {loose : List Str} {mean : ExcName → Option Value} {mg mb : Str → Option Value}
  {dp un : Nat} {gd : Option (List Code)} {cn : Str} {cs : Scope} {a : Addr} {ccd : Value} {cl : List (Str × Addr)} {outer : List Env} {A₀ : Around} {base h₀ : Heap} {L : Addr} {m : Str → Option Value} {rest news : List (Addr × Obj)} {s : Shared} {Q E : Value → Shared → Prop}
theorem say30 : True := by
  (k_with "leaving ref" => (k_here; k_dflt (refine' leave_onX (by assumption) (by assumption) (by assumption) (by assumption) (by exact rfl) (by exact rfl) ?_; k_whole); intro _; walk_at "I:leave"))
  (k_with "leaving ref" => (k_here; k_dflt (refine' leave_exc (by assumption) (by k_asm) (by k_asm) (by assumption) (by assumption) ?_ (by exact rfl); k_whole); intro _ _; walk_at "I:leave"))
  trivial
theorem attribute_of_o {tr : Addr} {its : List Value} {i : Int} {ti : Tok} {v : NodeV} {avs : List NodeV} {loc uri : Str} {tl tu : Tok} {o : Option Str}
    (C : Cx w p loose mean mg mb A₀ base outer h₀ L s.heap m cs) (N : News h₀ L s.heap news) (HT : TreeIn w.params news tr its) (HN : NodeIn w.params news its i v) (HA : AttrsIn w.params news its v.ats avs) (hl2 : v.ats.length < 1000)
    (e : attrV avs uri loc = o) (hd : dp + 11 < recursionLimit) (hu : un + 110 < cLine)
    (hret : ∀ (t : Tok) (h' : Heap) (tk' : Nat), Fr h₀ L h' m → News h₀ L h' news → Q (optS t o) { s with heap := h', toks := tk' }) :
    wpAny (model prog w) (ktrTop dp un gd cn cs L a ccd cl outer) (call (.ref 81) [.ref tr, .int i ti, .str loc tl, .str uri tu]) Q E s :=
  attribute_of_c C N HT HN HA hl2 hd hu fun t h' tk' F' N' => by rw [e]; exact hret t h' tk' F' N'
theorem attribute_of3_o {tr : Addr} {its : List Value} {i : Int} {ti : Tok} {v : NodeV} {avs : List NodeV} {loc : Str} {tl : Tok} {o : Option Str}
    (C : Cx w p loose mean mg mb A₀ base outer h₀ L s.heap m cs) (N : News h₀ L s.heap news) (HT : TreeIn w.params news tr its) (HN : NodeIn w.params news its i v) (HA : AttrsIn w.params news its v.ats avs) (hl2 : v.ats.length < 1000)
    (e : attrV avs (Str.ofString "") loc = o) (hd : dp + 11 < recursionLimit) (hu : un + 110 < cLine)
    (hret : ∀ (t : Tok) (h' : Heap) (tk' : Nat), Fr h₀ L h' m → News h₀ L h' news → Q (optS t o) { s with heap := h', toks := tk' }) :
    wpAny (model prog w) (ktrTop dp un gd cn cs L a ccd cl outer) (call (.ref 81) [.ref tr, .int i ti, .str loc tl]) Q E s :=
  attribute_of3_c C N HT HN HA hl2 hd hu fun t h' tk' F' N' => by rw [e]; exact hret t h' tk' F' N'
theorem ne_opt {A : Around} {o : Option Str} {t u : Tok} (h : Q (.bool false) s) : wpAny (model prog w) A (compareOp .NotEq (optS t o) (optS u o)) Q E s := by
  cases o with
  | none =>
    show wpAny (model prog w) A (compareOp .NotEq .none .none) Q E s
    walk1
    exact h
  | some x =>
    show wpAny (model prog w) A (compareOp .NotEq (.str x t) (.str x u)) Q E s
    walk1
    have e : (x != x) = false := bne_self_eq_false x
    rw [e]
    exact h
theorem tupget_opt {A : Around} {d a : Addr} {D : List (PyData × PyData)} {k1 k2 : Str} {t1 t2 : Tok} {o : Option Str} (hu : A.units + 1 < cLine) (N : News h₀ L s.heap news) (T : TupTab (PySem.strKind prog w) PyData.str news d D) (hka : (a, ({ cls := .type "tuple", data := .seq [Value.str k1 t1, Value.str k2 t2].toArray } : Obj)) ∈ news)
    (hl : PySem.Spec.lookup (encTuple PyData.str [k1, k2]) D = o.map PyData.str) (h : ∀ t tk, Q (optS t o) { s with toks := tk }) : wpAny (model prog w) A (call (.builtin "dict.get") [.ref d, .ref a]) Q E s := by
  cases o with
  | none => exact tupget_none hu N T hka hl fun tk => h 0 tk
  | some x => exact tupget_some hu N T hka hl h
theorem say31 : True := by
  (k_with "KS" => repeat' (first | ((with_reducible show wpAny _ _ (exec _ _) _ _ _); k_fold) | (k_unfold; (try dsimp only)) | (k_end; wrow_close) | walk1 | (dsimp only; walk1) | (leave1; walk_say "STEP leave1"; try dsimp only)))
  (k_with "OPT3" => ((with_reducible show wpAny _ _ (call (Value.ref 81) [Value.ref _, Value.int _ _, Value.str _ _]) _ _ _); k_dflt (refine' attribute_of3_o (by k_extra "CX") (by k_asm) (by k_extra "TREE") (by k_extra "NODE") (by k_extra "ATTRS") (by omega) (by assumption) (by ktr_room) (by ktr_units) ?_); intro _ _ _ _ _))
  (k_with "OPT4" => ((with_reducible show wpAny _ _ (call (Value.ref 81) [Value.ref _, Value.int _ _, Value.str _ _, Value.str _ _]) _ _ _); k_dflt (refine' attribute_of_o (by k_extra "CX") (by k_asm) (by k_extra "TREE") (by k_extra "NODE") (by k_extra "ATTRS") (by omega) (by assumption) (by ktr_room) (by ktr_units) ?_); intro _ _ _ _ _))
  (k_with "OPTG" => ((with_reducible show wpAny _ _ (call (Value.builtin "dict.get") [Value.ref _, Value.ref _]) _ _ _); k_dflt (refine' tupget_opt (by ktr_units) (by k_asm) (by exact TupTab.mono (by assumption) (by k_extra "SUB")) (by k_mem) (by with_reducible assumption) ?_); intro _ _))
  (k_with "GOW" => repeat' ((fail_if_success (with_reducible show wpAny _ _ (compareOp CmpOp.Is _ _) _ _ _)); (first | k_extra "OPT3" | k_extra "OPT4" | k_extra "OPTG" | ((with_reducible show wpAny _ _ (compareOp CmpOp.NotEq (optS _ _) (optS _ _)) _ _ _); refine ne_opt ?_) | (k_unfold; (try dsimp only)) | (k_end; wrow_close) | walk1 | (dsimp only; walk1) | (leave1; walk_say "STEP leave1"; try dsimp only))))
  trivial
theorem apost_next {h₀ g : Heap} {fs : List Addr} {L I : Addr} {own : List (Addr × Obj)} {J : (Str → Option Value) → List (Addr × Obj) → Prop} {s₁ : Shared} {Q : Flow → Shared → Prop} {h' : Heap} {tk : Nat} {m' : Str → Option Value} (news' : List (Addr × Obj))
    (T : KtsTurn fs h₀ g) (F : Fr g L h' m') (N : News g L h' (own ++ news')) (off : ∀ q ∈ news', q.1 ≠ I) (hJ : J m' news') : APostS h₀ fs L own I J s₁ Q .next { s₁ with heap := h', toks := tk } :=
  ⟨g, h', tk, m', news', rfl, T, F, N, off, hJ⟩
theorem turn_cx {g : Heap} (B : Below A₀ base outer h₀) (XB : (frag w.params).In base) (TB : Top p loose mean mg mb base) (D : KtsDicts (outer.filterMap (·.frame)) h₀) (T : KtsTurn (outer.filterMap (·.frame)) h₀ g) :
    Below A₀ base outer g ∧ (frag w.params).In g ∧ Top p loose mean mg mb g ∧ KtsDicts (outer.filterMap (·.frame)) g := by
  have B' := below_turn B T
  exact ⟨B', XB.keeps B'.stays, TB.keeps B'.stays, D.turn T⟩
theorem For_listD {A : Around} {env : Env} {body : List Stmt} {fs : List Addr} {Q : Flow → Shared → Prop} {target iter : PySem.Expr} {pos : Pos} (D : KtsDicts fs h₀) (hgo : ∀ I v, letOwnedTupleGo target (.ref I) v = pure ()) (hh : A.handled = none)
    (hx : wpAny (model prog w) A (eval iter env) (fun xv s₁ => ListLoopS prog w A h₀ fs env target body Q E xv s₁) E s)
    (hs : ∀ x, foldedSetIterable iter env x = pure x)
    (hE : PassesOwn (model prog w) A env E) :
    wpAny (model prog w) A (exec (.For target iter body [] pos) env) Q E s := For_listS hgo hh hx hs hE
theorem say32 : True := by
  (k_with "exec For Name" => (k_here; k_dflt (refine' For_listD (by assumption) (by intro _ _; rfl) (by first | rfl | assumption) ?_ (by intro _; rfl) (by passes_own))))
  trivial
inductive JEl (L' lk : Addr) (oN2 oT lko : Obj) (pre rest : List (Addr × Obj)) (m₀ m₁ : Str → Option Value) (news₁ : List (Addr × Obj)) : Prop
  | mk (ol : Obj) (vo : Option Value) (ps1 : Array Value) (rest1 : List (Addr × Obj)) (e : news₁ = (L' + 1 + 1, ol) :: (L' + 1 + 1 + 1, oN2) :: (L' + 1, oT) :: (lk, lko) :: (pre ++ (393, tabObj ps1) :: rest1)) (h1 : ol.data = .cell vo) (h2 : ∀ q ∈ rest, q ∈ rest1) (h3 : TabOk lamQ ps1 rest1) (h4 : ∀ q ∈ rest1, q.1 ≠ 393) (h5 : ∀ q ∈ pre, ∀ r ∈ rest1, r.1 ≠ q.1)
    (h6 : ∀ r ∈ rest1, r.1 ≠ L' + 1 + 1 ∧ r.1 ≠ L' + 1 + 1 + 1 ∧ r.1 ≠ L' + 1 ∧ r.1 ≠ lk) (h7 : ∀ y, y ≠ Str.ofString "due" → m₁ y = m₀ y)
theorem law_element_right_S {tr ra : Addr} {its : List Value} {v : RowV} {nv : NodeV} {avs : List NodeV} {D : List (PyData × PyData)} {ps : Array Value} {pre : List (Addr × Obj)}
    (C : Cx w p loose mean mg mb A₀ base outer h₀ L s.heap m cs) (N : News h₀ L s.heap (pre ++ (393, tabObj ps) :: rest)) (HT : TreeIn w.params rest tr its) (HR : RowIn prog w rest ra v) (HN : NodeIn w.params rest its v.node nv) (HA : AttrsIn w.params rest its nv.ats avs) (hl2 : nv.ats.length < 1000)
    (HD : TupTab (PySem.strKind prog w) PyData.str rest v.held D) (hDE : ∀ u l, u = Str.ofString "" ∨ u = Str.ofString "u" → PySem.Spec.lookup (encTuple PyData.str [u, l]) D = (attrV avs u l).map PyData.str)
    (hnl : nv.name.length ≤ 1000) (hC : CodeHd base 397 393) (ht : TabOk lamQ ps rest) (h1 : ∀ q ∈ pre, q.1 ≠ 393) (h2 : ∀ q ∈ rest, q.1 ≠ 393) (h3 : ∀ q ∈ pre, ∀ r ∈ rest, r.1 ≠ q.1)
    (XB : (frag w.params).In base) (TB : Top p loose mean mg mb base) (D0 : KtsDicts (outer.filterMap (·.frame)) h₀)
    (hd : dp + 40 < recursionLimit) (hu : un + 400 < cLine)
    (hret : ∀ (h₀' h' : Heap) (tk' : Nat) (ps' : Array Value) (rest' : List (Addr × Obj)), Fr h₀' L h' m → News h₀' L h' (pre ++ (393, tabObj ps') :: rest') → KtsTurn (outer.filterMap (·.frame)) h₀ h₀' → Below A₀ base outer h₀' → (frag w.params).In h₀' → Top p loose mean mg mb h₀' → KtsDicts (outer.filterMap (·.frame)) h₀' → (∀ q ∈ rest, q ∈ rest') → TabOk lamQ ps' rest' → (∀ q ∈ rest', q.1 ≠ 393) → (∀ q ∈ pre, ∀ r ∈ rest', r.1 ≠ q.1) → Q (.bool true) { s with heap := h', toks := tk' }) :
    wpAny (model prog w) (ktrTop dp un gd cn cs L a ccd cl outer) (call (.ref 398) [.ref tr, .ref ra]) Q E s := by
  obtain ⟨B, F, X, T, hk⟩ := C
  obtain ⟨dt, rl, tt, n, ht1, ht2, ht3, hl⟩ := id HT
  obtain ⟨o, kvs, t1, t2, t3, t4, t5, wv, r1, r2, r3, g1, g2, g3, g4, g5, g6, g7, g8, g9⟩ := id HR
  have r1' : (ra, o) ∈ pre ++ (393, tabObj ps) :: rest := List.mem_append_right _ (.tail _ r1)
  generalize en : pre ++ (393, tabObj ps) :: rest = news at N r1'
  refine wpAny_call ?_
  k_dflt (k_extra "ENTERSC")
  rename (∀ p ∈ news, Prod.fst p < _) => hLn
  have hc1 := lt_ne2 hLn (Nat.le_add_right _ 1)
  have hc2 := lt_ne2 hLn (Nat.le_trans (Nat.le_add_right _ 1) (Nat.le_add_right _ 1))
  have hc3 := lt_ne2 hLn (Nat.le_trans (Nat.le_add_right _ 1) (Nat.le_trans (Nat.le_add_right _ 1) (Nat.le_add_right _ 1)))
  k_extra "GO2"
  rename_i g' L' hh5 tkk FG' B' X' T' DK oN oL oT dN dL dT D' hh4 l1b hh3 hh2 oN2 dN2 hh1 lk hh0 F9 N9 l1c
  have hPn : (393, tabObj ps) ∈ news := by rw [← en]; exact List.mem_append_right _ (.head _)
  have hPL : 393 < L' := hLn _ hPn
  have hAl := tb_ltOf l1c.2.2.2.2
  have hPk : 393 < lk := hAl _ hPn
  have hrn : ∀ q ∈ rest, q ∈ news := by intro q hq; rw [← en]; exact List.mem_append_right _ (.tail _ hq)
  have N10 : News g' L' hh0 ((L' + 1 + 1, oL) :: (L' + 1 + 1 + 1, oN2) :: (L' + 1, oT) :: (lk, listOf _ _) :: news) := news_sub N9 (by k_extra "PICK")
  rw [← en] at N10
  obtain ⟨m₀, em, F9⟩ := fr_name F9
  refine ⟨lk, _, _, _, _, (fun i m₁ news₁ => JEl L' lk oN2 oT _ pre rest m₀ m₁ news₁), rfl, F9, N10, (.tail _ (.tail _ (.tail _ (.head _)))), ⟨oL, _, ps, rest, rfl, dL, fun _ h => h, ht, h2, h3, fun r hr => ⟨hc2 r (hrn r hr), hc3 r (hrn r hr), hc1 r (hrn r hr), Nat.ne_of_lt (hAl r (hrn r hr))⟩, fun _ _ => by rw [em]⟩, ?turn, ?done⟩
  case turn =>
    rintro i v h tk m₁ news₁ I oI ol9 g₂ hv ⟨ol, vo, ps1, rest1, rfl, hol, hs1, ht1', hx1, hx2, hx3, hm₁⟩ hTg F' N' hI hIl
    obtain rfl := Option.some.inj ((N' _ (.tail _ (.head _))).1.symm.trans (N' (lk, listOf _ _) (.tail _ (.tail _ (.tail _ (.tail _ (.tail _ (.head _))))))).1)
    obtain ⟨Bg, Xg, Tg, Dg⟩ := turn_cx B' XB TB DK hTg
    have F2 := fr_map F' (m₂ := fun y => if y = Str.ofString "due" then m₁ y else m₀ y) (fun y => by
      by_cases e : y = Str.ofString "due"
      · simp only [if_pos e]
      · simp only [if_neg e]; exact hm₁ y e)
    have hlv : ∃ loc tl, v = .str loc tl ∧ loc.length ≤ 10 := by
      rcases i with _ | _ | _ | i
      all_goals simp at hv
      · exact ⟨_, _, hv.symm, Nat.le_of_ble_eq_true (by kernel_rfl!)⟩
      · exact ⟨_, _, hv.symm, Nat.le_of_ble_eq_true (by kernel_rfl!)⟩
      · exact ⟨_, _, hv.symm, Nat.le_of_ble_eq_true (by kernel_rfl!)⟩
    obtain ⟨loc, tl, rfl, hloc⟩ := hlv
    clear F9 F' N9 N10 B' X' T' DK
    subst em
    have hI2 := hI
    simp only [List.forall_mem_cons] at hI2
    have hI3 : @Ne Nat (L' + 1 + 1) I := hI2.1
    have hI4 : @Ne Nat (L' + 1 + 1 + 1) I := hI2.2.1
    have hI5 : @Ne Nat (L' + 1) I := hI2.2.2.1
    have hI6 : @Ne Nat lk I := hI2.2.2.2.1
    have hq1 : I ≠ 393 := fun e => (hI (393, tabObj ps1) (.tail _ (.tail _ (.tail _ (.tail _ (List.mem_append_right _ (.head _))))))) e.symm
    have hq2 : L' + 1 + 1 ≠ 393 := Nat.ne_of_gt (Nat.lt_trans hPL (Nat.lt_succ_of_lt (Nat.lt_succ_self _)))
    have hq3 : L' + 1 + 1 + 1 ≠ 393 := Nat.ne_of_gt (Nat.lt_trans hPL (Nat.lt_succ_of_lt (Nat.lt_succ_of_lt (Nat.lt_succ_self _))))
    have hq4 : L' + 1 ≠ 393 := Nat.ne_of_gt (Nat.lt_trans hPL (Nat.lt_succ_self _))
    have hq5 : lk ≠ 393 := Nat.ne_of_gt hPk
    have hq6 : ∀ r ∈ rest1, r.1 ≠ I := fun r hr => hI r (.tail _ (.tail _ (.tail _ (.tail _ (List.mem_append_right _ (.tail _ hr))))))
    have hcl : ∀ p ∈ pre ++ (393, tabObj ps1) :: rest1, p.1 ≠ L' + 1 + 1 := by
      intro p hp
      rcases List.mem_append.mp hp with hp | hp
      · exact hc2 p (by rw [← en]; exact List.mem_append_left _ hp)
      · rcases List.mem_cons.mp hp with e | hp
        · rw [e]; show (393 : Addr) ≠ L' + 1 + 1; exact hc2 _ hPn
        · exact (hx3 p hp).1
    have hT1 := HT.mono hs1
    have hR1 := HR.mono hs1
    have hN1 := HN.mono hs1
    have hA1 := HA.mono hs1
    have hD1 := TupTab.mono HD hs1
    have l1 := hDE (Str.ofString "") loc (.inl rfl)
    have l2 := hDE (Str.ofString "u") loc (.inr rfl)
    obtain ⟨o1, e1⟩ : ∃ o, attrV avs (Str.ofString "") loc = o := ⟨_, rfl⟩
    obtain ⟨o2, e2⟩ : ∃ o, attrV avs (Str.ofString "u") loc = o := ⟨_, rfl⟩
    rw [e1] at l1
    rw [e2] at l2
    (try k_unmd); k_fold
    k_extra "GOW"
    rcases o1 with _ | x1
    · simp only [optS] at *
      k_extra "KS"
      k_dflt (refine' kla_eval ?d0_1 ?_; (case d0_1 => exact rfl))
      k_dflt (refine' lam_c (pre := (I, oI) :: (L' + 1 + 1, _) :: (L' + 1 + 1 + 1, oN2) :: (L' + 1, oT) :: (lk, _) :: pre) (rest := rest1) ?F_1 ?N_1 ?T_1 ?C_1 ?cd_1 ht1' ?h1_1 ?h2_1 ?h3_1 ?cl_1 ?_)
      case F_1 => k_asm
      case N_1 => exact news_sub (by assumption) (by k_extra "PICK")
      case T_1 => k_asm
      case C_1 => exact CodeHd.keeps hC (Below.stays (by assumption))
      case cd_1 => exact rfl
      case cl_1 => exact rfl
      case h1_1 => simp only [List.forall_mem_cons]; exact ⟨hq1, hq2, hq3, hq4, hq5, h1⟩
      case h2_1 => exact hx1
      case h3_1 => simp only [List.forall_mem_cons]; exact ⟨hq6, fun r hr => (hx3 r hr).1, fun r hr => (hx3 r hr).2.1, fun r hr => (hx3 r hr).2.2.1, fun r hr => (hx3 r hr).2.2.2, hx2⟩
      intro f c' oc vs t ctv h' tk' ps2 rest2 F3 N3 hs2 htab2 hm2 hd1 hd2 k1 k2 k3 k4 k5
      have hm3 : (c', oc) ∈ pre ++ (393, tabObj ps2) :: rest2 := List.mem_append_right _ (.tail _ hm2)
      have hm4 : (tr, instObj 330 dt) ∈ pre ++ (393, tabObj ps2) :: rest2 := List.mem_append_right _ (.tail _ (hs2 _ (hs1 _ ht1)))
      have hm5 : (dt, dictOf (treeE w.params tt rl) 1) ∈ pre ++ (393, tabObj ps2) :: rest2 := List.mem_append_right _ (.tail _ (hs2 _ (hs1 _ ht2)))
      have hT2 := hT1.mono hs2
      have hN2 := hN1.mono hs2
      have hA2 := hA1.mono hs2
      have hD2 := TupTab.mono hD1 hs2
      simp only [List.forall_mem_cons] at k1
      k_extra "KS"
      k_steps
      refine apost_next ((L' + 1 + 1, _) :: (L' + 1 + 1 + 1, oN2) :: (L' + 1, oT) :: (lk, _) :: (pre ++ (393, tabObj ps2) :: rest2)) (hTg.trans (by assumption)) (by assumption) (news_sub (by assumption) (by k_extra "PICK")) ?_ ?_
      · simp only [List.forall_mem_cons, List.forall_mem_append] at hI ⊢
        simp only [List.forall_mem_cons] at k5
        exact ⟨hI.1, hI.2.1, hI.2.2.1, hI.2.2.2.1, hI.2.2.2.2.1, hq1.symm, k5.1⟩
      · simp only [List.forall_mem_cons] at k5
        refine ⟨_, _, ps2, rest2, rfl, by assumption, fun q hq => hs2 q (hs1 q hq), htab2, k4, k5.2.2.2.2.2, fun r hr => ⟨k5.2.1 r hr, k5.2.2.1 r hr, k5.2.2.2.1 r hr, k5.2.2.2.2.1 r hr⟩, ?_⟩
        intro y hy
        (try dsimp only)
        rw [if_neg hy, if_neg hy]
    · simp only [optS] at *
      by_cases hy1 : x1 = Str.ofString "yes"
      · subst hy1
        k_extra "KS"
        refine apost_next ((L' + 1 + 1, _) :: (L' + 1 + 1 + 1, oN2) :: (L' + 1, oT) :: (lk, _) :: (pre ++ (393, tabObj ps1) :: rest1)) hTg (by assumption) (news_sub (by assumption) (by k_extra "PICK")) ?_ ?_
        · simp only [List.forall_mem_cons, List.forall_mem_append] at hI ⊢
          exact hI
        · refine ⟨_, _, ps1, rest1, rfl, by assumption, hs1, ht1', hx1, hx2, hx3, ?_⟩
          intro y hy
          (try dsimp only)
          rw [if_neg hy, if_neg hy]
      by_cases hy2 : x1 = Str.ofString "no"
      · subst hy2
        k_extra "KS"
        refine apost_next ((L' + 1 + 1, _) :: (L' + 1 + 1 + 1, oN2) :: (L' + 1, oT) :: (lk, _) :: (pre ++ (393, tabObj ps1) :: rest1)) hTg (by assumption) (news_sub (by assumption) (by k_extra "PICK")) ?_ ?_
        · simp only [List.forall_mem_cons, List.forall_mem_append] at hI ⊢
          exact hI
        · refine ⟨_, _, ps1, rest1, rfl, by assumption, hs1, ht1', hx1, hx2, hx3, ?_⟩
          intro y hy
          (try dsimp only)
          rw [if_neg hy, if_neg hy]
      have hb1 : (x1 == Str.ofString "yes") = false := beq_eq_false_iff_ne.mpr hy1
      have hb2 : (x1 == Str.ofString "no") = false := beq_eq_false_iff_ne.mpr hy2
      have hb5 : (Str.ofString "yes" == x1) = false := beq_eq_false_iff_ne.mpr (Ne.symm hy1)
      have hb6 : (Str.ofString "no" == x1) = false := beq_eq_false_iff_ne.mpr (Ne.symm hy2)
      have hb0 : (x1 != x1) = false := bne_self_eq_false x1
      k_extra "KS"
      k_dflt (refine' kla_eval ?d0_2 ?_; (case d0_2 => exact rfl))
      k_dflt (refine' lam_c (pre := (I, oI) :: (L' + 1 + 1, _) :: (L' + 1 + 1 + 1, oN2) :: (L' + 1, oT) :: (lk, _) :: pre) (rest := rest1) ?F_2 ?N_2 ?T_2 ?C_2 ?cd_2 ht1' ?h1_2 ?h2_2 ?h3_2 ?cl_2 ?_)
      case F_2 => k_asm
      case N_2 => exact news_sub (by assumption) (by k_extra "PICK")
      case T_2 => k_asm
      case C_2 => exact CodeHd.keeps hC (Below.stays (by assumption))
      case cd_2 => exact rfl
      case cl_2 => exact rfl
      case h1_2 => simp only [List.forall_mem_cons]; exact ⟨hq1, hq2, hq3, hq4, hq5, h1⟩
      case h2_2 => exact hx1
      case h3_2 => simp only [List.forall_mem_cons]; exact ⟨hq6, fun r hr => (hx3 r hr).1, fun r hr => (hx3 r hr).2.1, fun r hr => (hx3 r hr).2.2.1, fun r hr => (hx3 r hr).2.2.2, hx2⟩
      intro f c' oc vs t ctv h' tk' ps2 rest2 F3 N3 hs2 htab2 hm2 hd1 hd2 k1 k2 k3 k4 k5
      have hm3 : (c', oc) ∈ pre ++ (393, tabObj ps2) :: rest2 := List.mem_append_right _ (.tail _ hm2)
      have hm4 : (tr, instObj 330 dt) ∈ pre ++ (393, tabObj ps2) :: rest2 := List.mem_append_right _ (.tail _ (hs2 _ (hs1 _ ht1)))
      have hm5 : (dt, dictOf (treeE w.params tt rl) 1) ∈ pre ++ (393, tabObj ps2) :: rest2 := List.mem_append_right _ (.tail _ (hs2 _ (hs1 _ ht2)))
      have hT2 := hT1.mono hs2
      have hN2 := hN1.mono hs2
      have hA2 := hA1.mono hs2
      have hD2 := TupTab.mono hD1 hs2
      simp only [List.forall_mem_cons] at k1
      k_extra "KS"
      k_steps
      refine apost_next ((L' + 1 + 1, _) :: (L' + 1 + 1 + 1, oN2) :: (L' + 1, oT) :: (lk, _) :: (pre ++ (393, tabObj ps2) :: rest2)) (hTg.trans (by assumption)) (by assumption) (news_sub (by assumption) (by k_extra "PICK")) ?_ ?_
      · simp only [List.forall_mem_cons, List.forall_mem_append] at hI ⊢
        simp only [List.forall_mem_cons] at k5
        exact ⟨hI.1, hI.2.1, hI.2.2.1, hI.2.2.2.1, hI.2.2.2.2.1, hq1.symm, k5.1⟩
      · simp only [List.forall_mem_cons] at k5
        refine ⟨_, _, ps2, rest2, rfl, by assumption, fun q hq => hs2 q (hs1 q hq), htab2, k4, k5.2.2.2.2.2, fun r hr => ⟨k5.2.1 r hr, k5.2.2.1 r hr, k5.2.2.2.1 r hr, k5.2.2.2.2.1 r hr⟩, ?_⟩
        intro y hy
        (try dsimp only)
        rw [if_neg hy, if_neg hy]
  case done =>
    rintro h tk m₁ news₁ g₂ ⟨ol, vo, ps1, rest1, rfl, hol, hs1, ht1', hx1, hx2, hx3, hm₁⟩ hTg F' N'
    obtain ⟨Bg, Xg, Tg, Dg⟩ := turn_cx B' XB TB DK hTg
    have F2 := fr_map F' (m₂ := fun y => if y = Str.ofString "due" then m₁ y else m₀ y) (fun y => by
      by_cases e : y = Str.ofString "due"
      · simp only [if_pos e]
      · simp only [if_neg e]; exact hm₁ y e)
    clear F9 F' B' X' T' DK N9 N10
    subst em
    k_steps
    exact hret _ _ _ _ _ (by k_asm) (news_sub (by k_asm) (by k_extra "PICK")) (by assumption) (by assumption) (by assumption) (by assumption) (by assumption) hs1 ht1' hx1 hx2
end
section
variable {prog : Program} {w : World} {p : Program} {loose : List Str} {mean : ExcName → Option Value} {mg mb : Str → Option Value}
  {dp un : Nat} {gd : Option (List Code)} {cn : Str} {cs : Scope} {a : Addr} {ccd : Value} {cl : List (Str × Addr)} {outer : List Env} {A₀ : Around} {base h₀ : Heap} {L : Addr} {m : Str → Option Value} {rest news : List (Addr × Obj)} {s : Shared} {Q E : Value → Shared → Prop}
theorem is_instr_none_r {tr : Addr} {its : List Value} {i : Int} {ti : Tok} {v : NodeV} {r : Bool}
    (C : Cx w p loose mean mg mb A₀ base outer h₀ L s.heap m cs) (N : News h₀ L s.heap news) (HT : TreeIn w.params news tr its) (HN : NodeIn w.params news its i v) (hr : isInstr v none = r)
    (hd : dp + 11 < recursionLimit) (hu : un + 110 < cLine)
    (hret : ∀ (h' : Heap) (tk' : Nat), Fr h₀ L h' m → News h₀ L h' news → Q (.bool r) { s with heap := h', toks := tk' }) :
    wpAny (model prog w) (ktrTop dp un gd cn cs L a ccd cl outer) (call (.ref 73) [.ref tr, .int i ti, .none]) Q E s := is_instruction_none_c C N HT HN hd hu (by rw [hr]; exact hret)
theorem is_instr_some_r {tr : Addr} {its : List Value} {i : Int} {ti : Tok} {v : NodeV} {l : Str} {tl : Tok} {r : Bool}
    (C : Cx w p loose mean mg mb A₀ base outer h₀ L s.heap m cs) (N : News h₀ L s.heap news) (HT : TreeIn w.params news tr its) (HN : NodeIn w.params news its i v) (hr : isInstr v (some l) = r)
    (hd : dp + 11 < recursionLimit) (hu : un + 110 < cLine)
    (hret : ∀ (h' : Heap) (tk' : Nat), Fr h₀ L h' m → News h₀ L h' news → Q (.bool r) { s with heap := h', toks := tk' }) :
    wpAny (model prog w) (ktrTop dp un gd cn cs L a ccd cl outer) (call (.ref 73) [.ref tr, .int i ti, .str l tl]) Q E s := is_instruction_some_c C N HT HN hd hu (by rw [hr]; exact hret)
end
theorem say33 : True := by
  (k_with "call ref" => (k_here; (with_reducible show wpAny _ _ (call (Value.ref 73) [Value.ref _, Value.int _ _, Value.none]) _ _ _); k_dflt (refine' is_instr_none_r (by k_extra "CX") (by k_asm) (by k_extra "TREE") (by k_extra "NODE") (by assumption) (by ktr_room) (by ktr_units) ?_); intro _ _ _ _))
  (k_with "call ref" => (k_here; (with_reducible show wpAny _ _ (call (Value.ref 73) [Value.ref _, Value.int _ _, Value.str _ _]) _ _ _); k_dflt (refine' is_instr_some_r (by k_extra "CX") (by k_asm) (by k_extra "TREE") (by k_extra "NODE") (by assumption) (by ktr_room) (by ktr_units) ?_); intro _ _ _ _))
  (k_with "call ref" => (k_here; (with_reducible show wpAny _ _ (call (Value.ref 102) [Value.ref _, Value.int _ _]) _ _ _); k_dflt (refine' body_of_c (by k_extra "CX") (by k_asm) (by k_extra "TREE") (by k_extra "NODE") (by omega) (by ktr_room) (by ktr_units) ?_); intro _ _ _ _ _ _; walk_at "I:all"))
  (k_with "call ref" => (k_here; (with_reducible show wpAny _ _ (call (Value.ref 116) [Value.ref _, Value.int _ _]) _ _ _); k_dflt (refine' keeps_spaces_c (by k_extra "CX") (by k_asm) (by k_extra "TREE") (by exact UpIn.mono (by assumption) (by k_extra "SUB")) (by ktr_room) (by ktr_units) ?_); intro _ _ _ _))
  (k_with "call ref" => (k_here; (with_reducible show wpAny _ _ (call (Value.ref 384) [Value.ref _]) _ _ _); k_dflt (refine' law_kept_c (by k_extra "CX") (by k_asm) (by exact RowUp.mono (by assumption) (by k_extra "SUB")) (by ktr_room) (by ktr_units) ?_); intro _ _ _ _))
  trivial
section
variable {prog : Program} {w : World} {p : Program} {loose : List Str} {mean : ExcName → Option Value} {mg mb : Str → Option Value}
  {dp un : Nat} {gd : Option (List Code)} {cn : Str} {cs : Scope} {a : Addr} {ccd : Value} {cl : List (Str × Addr)} {outer : List Env} {A₀ : Around} {base h₀ : Heap} {L : Addr} {m : Str → Option Value} {rest news : List (Addr × Obj)} {s : Shared} {Q E : Value → Shared → Prop}
theorem all2_ints {ys : List Value} {as : List (Addr × RowV)} (h : All2 (fun v q => ∃ t, v = .int q.2.node t) ys as) : IntsAre ys (as.map (·.2.node)) := by
  induction h with
  | nil => exact .nil
  | cons h _ ih => obtain ⟨t, rfl⟩ := h; exact .cons _ t ih
theorem say34 : True := by
  (k_with "GO4" => repeat' ((fail_if_success (with_reducible show wpAny _ _ (call (Value.ref 398) _) _ _ _)); (first | (k_unfold; (try dsimp only)) | (k_end; wrow_close) | walk1 | (dsimp only; walk1) | (leave1; walk_say "STEP leave1"; try dsimp only))))
  trivial
inductive ElGood (prog : Program) (w : World) (news : List (Addr × Obj)) (its : List Value) (rvs : List (Addr × RowV)) (ra : Addr) (v : RowV) (nv : NodeV) : Prop
  | mk (avs : List NodeV) (D : List (PyData × PyData)) (d₀ : List (List NodeV)) (d₁ : List (Option Str)) (a1 : AttrsIn w.params news its nv.ats avs) (a2 : nv.ats.length < 1000) (a3 : TupTab (PySem.strKind prog w) PyData.str news v.held D)
    (a4 : ∀ u l, u = Str.ofString "" ∨ u = Str.ofString "u" → PySem.Spec.lookup (encTuple PyData.str [u, l]) D = (attrV avs u l).map PyData.str) (a5 : nv.name.length ≤ 1000) (a6 : IntsAre nv.kids ((rvs.filter fun q => decide (q.2.above = .ref ra)).map (·.2.node))) (a7 : nv.kids.length < 1000)
    (a8 : ∀ t, UpIn w.params news its (.int v.node t) d₀) (a9 : RowUp prog w news (.ref ra) d₁) (b1 : keepsV d₀ = keptW d₁) (b2 : nv.uri = v.uri) (b3 : nv.loc = v.loc) (b4 : v.loc = Str.ofString "if" ∨ v.loc = Str.ofString "a")
theorem ElGood.mono {news news' : List (Addr × Obj)} {its : List Value} {rvs : List (Addr × RowV)} {ra : Addr} {v : RowV} {nv : NodeV} (h : ElGood prog w news its rvs ra v nv) (hs : ∀ q ∈ news, q ∈ news') : ElGood prog w news' its rvs ra v nv := by
  obtain ⟨avs, D, d0, d1, a1, a2, a3, a4, a5, a6, a7, a8, a9, b1, b2, b3, b4⟩ := h
  exact ⟨avs, D, d0, d1, a1.mono hs, a2, TupTab.mono a3 hs, a4, a5, a6, a7, fun t => (a8 t).mono hs, a9.mono hs, b1, b2, b3, b4⟩
inductive BoolP (g : Heap) (L : Addr) (m : Str → Option Value) (news : List (Addr × Obj)) (own : Bool) (s : Shared) (v : Value) (s₁ : Shared) : Prop
  | mk (h' : Heap) (tk' : Nat) (e1 : v = .bool own) (e2 : s₁ = { s with heap := h', toks := tk' }) (F : Fr g L h' m) (N : News g L h' news)
theorem own_cut {A : Around} {c : Sem Value} {g : Heap} {L : Addr} {m : Str → Option Value} (own : Bool) {Q : Value → Shared → Prop} (F : Fr g L s.heap m) (N : News g L s.heap news)
    (h : wpAny (model prog w) A c (BoolP g L m news own s) E s) (k : ∀ (h' : Heap) (tk' : Nat), Fr g L h' m → News g L h' news → Q (.bool own) { s with heap := h', toks := tk' }) : wpAny (model prog w) A c Q E s := by
  refine wpAny_mono h (fun v s₁ hw => ?_) fun _ _ e => e
  obtain ⟨h', tk', rfl, rfl, F, N⟩ := hw
  exact k h' tk' F N
theorem say35 : True := by
  (k_with "GOB" => repeat' ((fail_if_success (with_reducible show wpAny _ _ (eval (PySem.Expr.BoolOp _ _ _) _) _ _ _)); (first | (k_unfold; (try dsimp only)) | (k_end; wrow_close) | walk1 | (dsimp only; walk1) | (leave1; walk_say "STEP leave1"; try dsimp only))))
  trivial
theorem law_row_right_S {tr ra rl : Addr} {its : List Value} {rvs : List (Addr × RowV)} {v : RowV} {nv : NodeV} {ps : Array Value} {pre : List (Addr × Obj)}
    (C : Cx w p loose mean mg mb A₀ base outer h₀ L s.heap m cs) (N : News h₀ L s.heap (pre ++ (393, tabObj ps) :: rest)) (HT : TreeIn w.params rest tr its) (HR : RowIn prog w rest ra v) (HN : NodeIn w.params rest its v.node nv) (HL : RowsIn prog w rest rl rvs)
    (hkd : nv.kind = v.kind) (HE : v.kind = Str.ofString "element" → ElGood prog w rest its rvs ra v nv)
    (hC : CodeHd base 397 393) (ht : TabOk lamQ ps rest) (h1 : ∀ q ∈ pre, q.1 ≠ 393) (h2 : ∀ q ∈ rest, q.1 ≠ 393) (h3 : ∀ q ∈ pre, ∀ r ∈ rest, r.1 ≠ q.1)
    (XB : (frag w.params).In base) (TB : Top p loose mean mg mb base) (D0 : KtsDicts (outer.filterMap (·.frame)) h₀)
    (hd : dp + 60 < recursionLimit) (hu : un + 600 < cLine)
    (hret : ∀ (h₀' h' : Heap) (tk' : Nat) (ps' : Array Value) (rest' : List (Addr × Obj)), Fr h₀' L h' m → News h₀' L h' (pre ++ (393, tabObj ps') :: rest') → KtsTurn (outer.filterMap (·.frame)) h₀ h₀' → Below A₀ base outer h₀' → (frag w.params).In h₀' → Top p loose mean mg mb h₀' → KtsDicts (outer.filterMap (·.frame)) h₀' → (∀ q ∈ rest, q ∈ rest') → TabOk lamQ ps' rest' → (∀ q ∈ rest', q.1 ≠ 393) → (∀ q ∈ pre, ∀ r ∈ rest', r.1 ≠ q.1) → Q (.bool true) { s with heap := h', toks := tk' }) :
    wpAny (model prog w) (ktrTop dp un gd cn cs L a ccd cl outer) (call (.ref 403) [.ref tr, .ref rl, .ref ra]) Q E s := by
  obtain ⟨B, F, X, T, hk⟩ := C
  have hsub : ∀ q ∈ rest, q ∈ pre ++ (393, tabObj ps) :: rest := fun q hq => List.mem_append_right _ (.tail _ hq)
  have HTn := HT.mono hsub
  have HRn := HR.mono hsub
  have HNn := HN.mono hsub
  have HLn := HL.mono hsub
  generalize en : pre ++ (393, tabObj ps) :: rest = news at N hsub HTn HRn HNn HLn
  obtain ⟨o, kvs, t1, t2, t3, t4, t5, wv, r1, r2, r3, g1, g2, g3, g4, g5, g6, g7, g8, g9⟩ := id HRn
  have hfl : (rvs.filter fun q => decide (q.2.above = .ref ra)).length < 1000 := Nat.lt_of_le_of_lt (List.length_filter_le _ _) HL.hlen
  have how : (v.kind == Str.ofString "element" && v.uri == xslt) = true → v.loc = Str.ofString "if" ∨ v.loc = Str.ofString "a" := fun ho => by
    obtain ⟨avs, DD, d0, d1, a1, a2, a3, a4, a5, a6, a7, a8, a9, b1, b2, b3, b4⟩ := HE (beq_iff_eq.mp (Bool.and_eq_true_iff.mp ho).1)
    exact b4
  have hin : ∀ lo, isInstr nv lo = ((v.kind == Str.ofString "element" && v.uri == xslt) && (match lo with | none => true | some l => v.loc == l)) := fun lo => by
    unfold isInstr
    rw [hkd]
    cases hk1 : (v.kind == Str.ofString "element") with
    | false => rfl
    | true =>
      obtain ⟨avs, DD, d0, d1, a1, a2, a3, a4, a5, a6, a7, a8, a9, b1, b2, b3, b4⟩ := HE (beq_iff_eq.mp hk1)
      cases lo with
      | none => rw [b2]
      | some l => rw [b2, b3]
  have hi0 := hin none
  have hi1 := hin (some (Str.ofString "if"))
  have hi2 := hin (some (Str.ofString "a"))
  refine wpAny_call ?_
  k_dflt (k_extra "ENTERS")
  k_extra "GOB"
  refine own_cut (v.kind == Str.ofString "element" && v.uri == xslt) (by k_asm) (by k_asm) ?_ ?_
  · cases hb1 : (v.kind == Str.ofString "element")
    · k_steps
      exact ⟨_, _, by rw [hb1]; rfl, rfl, by k_asm, by k_asm⟩
    · k_steps
      exact ⟨_, _, by rw [Bool.true_and], rfl, by k_asm, by k_asm⟩
  intro hc tkc Fc Nc
  generalize (v.kind == Str.ofString "element" && v.uri == xslt) = own at how hi0 hi1 hi2
  k_extra "GO2"
  rename Fr _ _ _ _ => F9
  rename News _ _ _ _ => N9
  obtain ⟨m₀, em, F9⟩ := fr_name F9
  refine iter_acc (fun i m₁ news₁ => (∀ y, y ≠ Str.ofString "local" → m₁ y = m₀ y) ∧ news₁ = _) (by rfl) F9 N9 (.head _) ⟨fun _ _ => by rw [em], rfl⟩ ?_ ?_
  · rintro i x h tk m₁ news₁ I oI ol hv ⟨hm₁, rfl⟩ F' N' hI hIl
    have F2 := fr_map F' (m₂ := fun y => if y = Str.ofString "local" then some x else m₀ y) (fun y => by
      by_cases e : y = Str.ofString "local"
      · simp only [if_pos e]
      · simp only [if_neg e]; exact hm₁ y e)
    clear F9 F' N9
    subst em
    (try k_unmd); (try k_fold)
    cases own with
    | false =>
      rw [Bool.false_and] at hi0 hi1 hi2
      rcases i with _ | _ | _ | i
      all_goals simp at hv
      all_goals subst hv
      all_goals k_steps
      all_goals (refine ⟨_, _, _, _, rfl, by k_asm, news_sub (by assumption) (by k_extra "PICK"), hI, ?_, rfl⟩)
      all_goals (intro y hy; (try dsimp only); rw [if_neg hy])
    | true =>
      rw [Bool.true_and] at hi0 hi1 hi2
      rcases how rfl with b4 | b4
      all_goals rw [b4] at g5 hi1 hi2
      · have hi1 : isInstr nv (some (Str.ofString "if")) = true := hi1.trans (by decide)
        have hi2 : isInstr nv (some (Str.ofString "a")) = false := hi2.trans (by decide)
        rcases i with _ | _ | _ | i
        all_goals simp at hv
        all_goals subst hv
        all_goals k_steps
        all_goals (refine ⟨_, _, _, _, rfl, by k_asm, news_sub (by assumption) (by k_extra "PICK"), hI, ?_, rfl⟩)
        all_goals (intro y hy; (try dsimp only); rw [if_neg hy])
      · have hi1 : isInstr nv (some (Str.ofString "if")) = false := hi1.trans (by decide)
        have hi2 : isInstr nv (some (Str.ofString "a")) = true := hi2.trans (by decide)
        rcases i with _ | _ | _ | i
        all_goals simp at hv
        all_goals subst hv
        all_goals k_steps
        all_goals (refine ⟨_, _, _, _, rfl, by k_asm, news_sub (by assumption) (by k_extra "PICK"), hI, ?_, rfl⟩)
        all_goals (intro y hy; (try dsimp only); rw [if_neg hy])
  · rintro h tk m₁ news₁ ⟨hm₁, rfl⟩ F' N'
    have F2 := fr_map F' (m₂ := fun y => if y = Str.ofString "local" then m₁ y else m₀ y) (fun y => by
      by_cases e : y = Str.ofString "local"
      · simp only [if_pos e]
      · simp only [if_neg e]; exact hm₁ y e)
    clear F9 F' N9
    subst em
    by_cases hel : v.kind = Str.ofString "element"
    · obtain ⟨avs, DD, d0, d1, a1, a2, a3, a4, a5, a6, a7, a8, a9, b1, b2, b3, b4⟩ := HE hel
      have hb1 : (v.kind == Str.ofString "element") = true := beq_iff_eq.mpr hel
      have hb2 : (v.kind != Str.ofString "element") = false := by rw [bne, hb1]; rfl
      have hkp : (keepsV d0 == keptW d1) = true := by rw [b1]; exact beq_self_eq_true _
      have a8n := (a8 t1).mono hsub
      have a9n := a9.mono hsub
      clear a9
      k_extra "GO2"
      refine LCg.CompSrc.ledger (by rfl) (by k_asm) (by k_asm) (by k_mem) (by rw [List.size_toArray, List.length_map, sizeLine_eq]; omega) ?_
      intro g'
      refine comp_rel (as := rvs.filter fun q => decide (q.2.above = .ref ra)) (fun v q => v = .ref q.1 ∧ q ∈ rvs) (fun v q => ∃ t, v = .int q.2.node t) (by rw [List.size_toArray, List.length_map]) (fun i v hi hv => ?_) ?_ ?_
      · rw [List.getElem?_toArray, List.getElem?_map] at hv
        cases e : (rvs.filter fun q => decide (q.2.above = .ref ra))[i]? with
        | none => rw [e] at hv; cases hv
        | some q => rw [e] at hv; cases hv; exact ⟨q, rfl, rfl, (List.mem_filter.mp (List.mem_of_getElem? e)).1⟩
      · rintro q v I oI C oC D m₂ ys h tk E' hq ⟨rfl, hqr⟩ hC hx F' N' off hne
        have offm := off
        simp only [LCg.Off3] at off
        obtain ⟨o, kvs, t1, t2, t3, t4, t5, wv, h1, h2, h3, g1, g2, g3, g4, g5, g6, g7, g8, g9⟩ := HLn.hr q hqr
        k_steps
        refine LCg.CompEnd.intro (by k_asm) (by k_asm) _ (fun _ h => h) offm (.inr ⟨_, by k_mem, rfl, _, rfl⟩) ⟨rfl, ⟨_, rfl⟩⟩
      · intro ys hys D h tk F' N' off
        have hyi := all2_ints hys
        k_extra "GO4"
        subst en
        refine law_element_right_S (pre := pre) (rest := rest) (ps := ps) (by k_extra "CX") (news_sub (by assumption) (by k_extra "SUB")) HT HR HN a1 a2 a3 a4 a5 hC ht h1 h2 h3 (by assumption) (by assumption) (by assumption) (by ktr_room) (by ktr_units) ?_
        intro h0' h' tk' ps' rest' F3 N3 T3 B3 X3 T3' D3 hs3 ht3 hx3 hy3
        k_steps
        exact hret _ _ _ _ _ (by k_asm) (news_sub (by assumption) (by k_extra "SUB")) (by assumption) (by assumption) (by assumption) (by assumption) (by assumption) hs3 ht3 hx3 hy3
    · have hb1 : (v.kind == Str.ofString "element") = false := beq_eq_false_iff_ne.mpr hel
      have hb2 : (v.kind != Str.ofString "element") = true := bne_iff_ne.mpr hel
      k_steps
      subst en
      exact hret _ _ _ _ _ (by k_asm) (news_sub (by k_asm) (by k_extra "PICK")) KtsTurn.refl (by assumption) (by assumption) (by assumption) (by assumption) (fun q hq => hq) ht h2 h3
end
noncomputable def put (M : List (Addr × Obj)) (D : Addr) (o : Obj) : List (Addr × Obj) := (D, o) :: M.filter fun q => decide (q.1 ≠ D)
theorem put_mem {M : List (Addr × Obj)} {D a : Addr} {o x : Obj} (h : (a, x) ∈ M) (hn : a ≠ D) : (a, x) ∈ put M D o := .tail _ (List.mem_filter.mpr ⟨h, by simpa using hn⟩)
theorem put_head {M : List (Addr × Obj)} {D : Addr} {o : Obj} : (D, o) ∈ put M D o := .head _
theorem put_off {M : List (Addr × Obj)} {D : Addr} : ∀ q ∈ M.filter (fun q => decide (q.1 ≠ D)), q.1 ≠ D := fun q hq => by simpa using (List.mem_filter.mp hq).2
noncomputable def Sep (M R : List (Addr × Obj)) : Prop := ∀ q ∈ M, ∀ r ∈ R, r.1 ≠ q.1
theorem Sep.put {M R : List (Addr × Obj)} {D : Addr} {o o' : Obj} (h : Sep M R) (hD : (D, o) ∈ M) : Sep (put M D o') R := by
  intro q hq r hr
  rcases List.mem_cons.mp hq with e | hq
  · rw [e]; exact h _ hD r hr
  · exact h q (List.mem_filter.mp hq).1 r hr
theorem Sep.cons {M R : List (Addr × Obj)} {a : Addr} {o : Obj} (h : Sep M R) (ha : ∀ r ∈ R, r.1 ≠ a) : Sep ((a, o) :: M) R := by
  intro q hq r hr
  rcases List.mem_cons.mp hq with e | hq
  · rw [e]; exact ha r hr
  · exact h q hq r hr
theorem pull {h₀ h : Heap} {L D : Addr} {o : Obj} {M R : List (Addr × Obj)} (N : News h₀ L h (M ++ R)) (hD : (D, o) ∈ M) (hS : Sep M R) :
    News h₀ L h ((D, o) :: (M.filter (fun q => decide (q.1 ≠ D)) ++ R)) ∧ ∀ q ∈ M.filter (fun q => decide (q.1 ≠ D)) ++ R, q.1 ≠ D := by
  refine ⟨fun q hq => ?_, fun q hq => ?_⟩
  · rcases List.mem_cons.mp hq with e | hq
    · rw [e]; exact N _ (List.mem_append_left _ hD)
    · rcases List.mem_append.mp hq with hq | hq
      · exact N _ (List.mem_append_left _ (List.mem_filter.mp hq).1)
      · exact N _ (List.mem_append_right _ hq)
  · rcases List.mem_append.mp hq with hq | hq
    · exact put_off q hq
    · exact hS _ hD q hq
theorem pull2 {h₀ h : Heap} {L D1 D2 : Addr} {o1 o2 : Obj} {M R : List (Addr × Obj)} (N : News h₀ L h (M ++ R)) (hD1 : (D1, o1) ∈ M) (hD2 : (D2, o2) ∈ M) (hne : D1 ≠ D2) (hS : Sep M R) :
    ∃ rest, News h₀ L h ((D1, o1) :: (D2, o2) :: rest) ∧ (∀ q ∈ rest, q.1 ≠ D1) ∧ (∀ q ∈ rest, q.1 ≠ D2) ∧ (∀ q ∈ M, q.1 ≠ D1 → q.1 ≠ D2 → q ∈ rest) ∧ (∀ q ∈ R, q ∈ rest) ∧ (∀ q ∈ rest, q ∈ M ++ R) := by
  refine ⟨(M ++ R).filter (fun q => decide (q.1 ≠ D1 ∧ q.1 ≠ D2)), fun q hq => ?_, fun q hq => ?_, fun q hq => ?_, fun q hq n1 n2 => ?_, fun q hq => ?_, fun q hq => (List.mem_filter.mp hq).1⟩
  · rcases List.mem_cons.mp hq with e | hq
    · rw [e]; exact N _ (List.mem_append_left _ hD1)
    · rcases List.mem_cons.mp hq with e | hq
      · rw [e]; exact N _ (List.mem_append_left _ hD2)
      · exact N _ (List.mem_filter.mp hq).1
  · exact (of_decide_eq_true (List.mem_filter.mp hq).2).1
  · exact (of_decide_eq_true (List.mem_filter.mp hq).2).2
  · exact List.mem_filter.mpr ⟨List.mem_append_left _ hq, decide_eq_true ⟨n1, n2⟩⟩
  · exact List.mem_filter.mpr ⟨List.mem_append_right _ hq, decide_eq_true ⟨hS _ hD1 q hq, hS _ hD2 q hq⟩⟩
theorem snoc_get {l : List Value} {k : Nat} {u v : Value} (h : l[k]? = some v) : (l ++ [u])[k]? = some v := by
  rw [List.getElem?_append_left (List.getElem?_eq_some_iff.mp h).1]; exact h
theorem nat_in5 {a b c d e : Nat} (h1 : a < b) (h2 : b < c) (h3 : c < d) (h4 : d < e) : a ≤ b ∧ a ≤ c ∧ a ≤ d ∧ a ≤ e := by omega
theorem nat_ne_of {r a z : Nat} (h : r < a) (hz : a ≤ z) : z ≠ r := by omega
theorem fresh5 {rest : List (Addr × Obj)} {dx x ch al nl : Addr} (h : ∀ q ∈ rest, q.1 < dx) (h1 : dx < x) (h2 : x < ch) (h3 : ch < al) (h4 : al < nl) : ∀ q ∈ rest, nl ≠ q.1 ∧ al ≠ q.1 ∧ ch ≠ q.1 ∧ x ≠ q.1 ∧ dx ≠ q.1 := by
  intro q hq
  have h0 := h q hq
  obtain ⟨i1, i2, i3, i4⟩ := nat_in5 h1 h2 h3 h4
  exact ⟨nat_ne_of h0 i4, nat_ne_of h0 i3, nat_ne_of h0 i2, nat_ne_of h0 i1, nat_ne_of h0 (Nat.le_refl _)⟩
structure TN where
  x : Addr
  dx : Addr
  ch : Addr
  al : Addr
  nl : Addr
  es : List DictEntry
  kn : Nat
  an : Nat
  v : NodeV
structure NodeOk (P : Params) (M : List (Addr × Obj)) (t : TN) : Prop where
  hx : (t.x, instObj 141 t.dx) ∈ M
  hdx : (t.dx, dictOf t.es 9) ∈ M
  hes : NodeEs P t.v.kind t.v.name t.v.uri t.v.loc t.v.val t.v.par t.ch t.al t.nl t.es
  hch : (t.ch, listOf t.v.kids.toArray t.kn) ∈ M
  hal : (t.al, listOf t.v.ats.toArray t.an) ∈ M
structure NodeOrd (tr dt rl : Addr) (t : TN) : Prop where
  h1 : t.dx < t.x
  h2 : t.x < t.ch
  h3 : t.ch < t.al
  h4 : tr < t.dx
  h5 : dt < t.dx
  h6 : rl < t.dx
structure TreeSt (P : Params) (M : List (Addr × Obj)) (tr dt rl : Addr) (n : Nat) (ts : List TN) : Prop where
  htr : (tr, instObj 330 dt) ∈ M
  hdt : ∃ tt, (dt, dictOf (treeE P tt rl) 1) ∈ M
  hrl : (rl, listOf (ts.map fun t => Value.ref t.x).toArray n) ∈ M
  ne1 : tr ≠ rl
  ne2 : dt ≠ rl
  ok : ∀ t ∈ ts, NodeOk P M t
  ord : ∀ t ∈ ts, NodeOrd tr dt rl t
  pw : ts.Pairwise fun a b => a.al < b.dx
theorem pw_lt {ts : List TN} (h : ts.Pairwise fun a b => a.al < b.dx) {i j : Nat} {a b : TN} (hi : ts[i]? = some a) (hj : ts[j]? = some b) (hij : i < j) : a.al < b.dx := by
  obtain ⟨h1, e1⟩ := List.getElem?_eq_some_iff.mp hi
  obtain ⟨h2, e2⟩ := List.getElem?_eq_some_iff.mp hj
  have := (List.pairwise_iff_getElem.mp h) i j h1 h2 hij
  rwa [e1, e2] at this
theorem NodeOk.mono {P : Params} {M M' : List (Addr × Obj)} {t : TN} (h : NodeOk P M t) (hs : ∀ q ∈ M, q ∈ M') : NodeOk P M' t := ⟨hs _ h.hx, hs _ h.hdx, h.hes, hs _ h.hch, hs _ h.hal⟩
theorem TreeSt.mono {P : Params} {M M' : List (Addr × Obj)} {tr dt rl : Addr} {n : Nat} {ts : List TN} (h : TreeSt P M tr dt rl n ts) (hs : ∀ q ∈ M, q ∈ M') : TreeSt P M' tr dt rl n ts := by
  obtain ⟨tt, ht⟩ := h.hdt
  exact ⟨hs _ h.htr, ⟨tt, hs _ ht⟩, hs _ h.hrl, h.ne1, h.ne2, fun t ht => (h.ok t ht).mono hs, h.ord, h.pw⟩
theorem TreeSt.tree {P : Params} {M news : List (Addr × Obj)} {tr dt rl : Addr} {n : Nat} {ts : List TN} (h : TreeSt P M tr dt rl n ts) (hs : ∀ q ∈ M, q ∈ news) (hl : ts.length < 1000) : TreeIn P news tr (ts.map fun t => Value.ref t.x) := by
  obtain ⟨tt, ht⟩ := h.hdt
  exact ⟨dt, rl, tt, n, hs _ h.htr, hs _ ht, hs _ h.hrl, by rw [List.length_map]; exact hl⟩
theorem TreeSt.node {P : Params} {M news : List (Addr × Obj)} {tr dt rl : Addr} {n i : Nat} {ts : List TN} {t : TN} (h : TreeSt P M tr dt rl n ts) (hs : ∀ q ∈ M, q ∈ news) (hi : ts[i]? = some t) : NodeIn P news (ts.map fun t => Value.ref t.x) i t.v := by
  obtain ⟨a, b, c, d, e⟩ := h.ok t (List.mem_of_getElem? hi)
  have hlt : i < ts.length := (List.getElem?_eq_some_iff.mp hi).1
  refine ⟨t.x, t.dx, t.ch, t.al, t.nl, t.es, t.kn, t.an, Int.natCast_nonneg i, by rw [List.length_map]; omega, ?_, hs _ a, hs _ b, c, hs _ d, hs _ e⟩
  rw [Int.toNat_natCast, List.getElem?_map, hi]; rfl
theorem nat_off {dx x ch al D udx z ual : Nat} (q1 : dx < x) (q2 : x < ch) (q3 : ch < al) (q4 : ual < dx ∨ al < udx) (hD : D = dx ∨ D = ch ∨ D = al) (hz1 : udx ≤ z) (hz2 : z ≤ ual) : z ≠ D := by omega
theorem nat_in {a b c d : Nat} (h1 : a < b) (h2 : b < c) (h3 : c < d) : (a ≤ a ∧ a ≤ d) ∧ (a ≤ b ∧ b ≤ d) ∧ (a ≤ c ∧ c ≤ d) ∧ (a ≤ d ∧ d ≤ d) := by omega
theorem TreeSt.set {P : Params} {M : List (Addr × Obj)} {tr dt rl D : Addr} {n i : Nat} {ts : List TN} {t t' : TN} {o' : Obj} (h : TreeSt P M tr dt rl n ts) (hi : ts[i]? = some t) (hD : D = t.dx ∨ D = t.ch ∨ D = t.al)
    (hx : t'.x = t.x) (hdx : t'.dx = t.dx) (hch : t'.ch = t.ch) (hal : t'.al = t.al) (hok : NodeOk P (put M D o') t') : TreeSt P (put M D o') tr dt rl n (ts.set i t') := by
  have ho := h.ord t (List.mem_of_getElem? hi)
  obtain ⟨o1, o2, o3, o4, o5, o6⟩ := ho
  have hlt : i < ts.length := (List.getElem?_eq_some_iff.mp hi).1
  have hgi : ts[i] = t := (List.getElem?_eq_some_iff.mp hi).2
  have n1 : (tr : Nat) ≠ D := by rcases hD with e | e | e <;> rw [e] <;> exact Nat.ne_of_lt (by first | exact o4 | exact Nat.lt_trans o4 (Nat.lt_trans o1 o2) | exact Nat.lt_trans o4 (Nat.lt_trans o1 (Nat.lt_trans o2 o3)))
  have n2 : (dt : Nat) ≠ D := by rcases hD with e | e | e <;> rw [e] <;> exact Nat.ne_of_lt (by first | exact o5 | exact Nat.lt_trans o5 (Nat.lt_trans o1 o2) | exact Nat.lt_trans o5 (Nat.lt_trans o1 (Nat.lt_trans o2 o3)))
  have n3 : (rl : Nat) ≠ D := by rcases hD with e | e | e <;> rw [e] <;> exact Nat.ne_of_lt (by first | exact o6 | exact Nat.lt_trans o6 (Nat.lt_trans o1 o2) | exact Nat.lt_trans o6 (Nat.lt_trans o1 (Nat.lt_trans o2 o3)))
  have hmap : (ts.set i t').map (fun t => Value.ref t.x) = ts.map fun t => Value.ref t.x := by
    rw [List.map_set, hx]
    refine List.ext_getElem? fun j => ?_
    rw [List.getElem?_set]
    split
    · rename_i e
      subst e
      rw [List.length_map, if_pos hlt, List.getElem?_map, hi]; rfl
    · rfl
  obtain ⟨tt, htt⟩ := h.hdt
  have key : ∀ u ∈ ts.set i t', u = t' ∨ (u ∈ ts ∧ (u.al < t.dx ∨ t.al < u.dx)) := by
    intro u hu
    obtain ⟨j, hj, ej⟩ := List.getElem_of_mem hu
    rw [List.length_set] at hj
    by_cases e : i = j
    · subst e
      rw [List.getElem_set_self] at ej
      exact .inl ej.symm
    · rw [List.getElem_set_ne e] at ej
      have hju : ts[j]? = some u := List.getElem?_eq_some_iff.mpr ⟨hj, ej⟩
      refine .inr ⟨List.mem_of_getElem? hju, ?_⟩
      rcases Nat.lt_or_gt_of_ne e with e | e
      · exact .inr (pw_lt h.pw hi hju e)
      · exact .inl (pw_lt h.pw hju hi e)
  refine ⟨put_mem h.htr n1, ⟨tt, put_mem htt n2⟩, by rw [hmap]; exact put_mem h.hrl n3, h.ne1, h.ne2, fun u hu => ?_, fun u hu => ?_, ?_⟩
  · rcases key u hu with e | ⟨hm, hlt2⟩
    · rw [e]; exact hok
    · obtain ⟨a, b, c, d, e⟩ := h.ok u hm
      obtain ⟨p1, p2, p3, p4, p5, p6⟩ := h.ord u hm
      have hne := fun (z : Addr) (hz : u.dx ≤ z ∧ z ≤ u.al) => nat_off (z := z) o1 o2 o3 hlt2 hD hz.1 hz.2
      obtain ⟨w1, w2, w3, w4⟩ := nat_in p1 p2 p3
      exact ⟨put_mem a (hne _ w2), put_mem b (hne _ w1), c, put_mem d (hne _ w3), put_mem e (hne _ w4)⟩
  · rcases key u hu with e | ⟨hm, _⟩
    · rw [e]
      exact ⟨by rw [hdx, hx]; exact o1, by rw [hx, hch]; exact o2, by rw [hch, hal]; exact o3, by rw [hdx]; exact o4, by rw [hdx]; exact o5, by rw [hdx]; exact o6⟩
    · exact h.ord u hm
  · refine List.pairwise_iff_getElem.mpr fun a b ha hb hab => ?_
    rw [List.length_set] at ha hb
    have e1 : ((ts.set i t')[a]'(by rw [List.length_set]; exact ha)).al = (ts[a]).al := by
      rw [List.getElem_set]
      split
      · rename_i e; subst e; rw [hal, hgi]
      · rfl
    have e2 : ((ts.set i t')[b]'(by rw [List.length_set]; exact hb)).dx = (ts[b]).dx := by
      rw [List.getElem_set]
      split
      · rename_i e; subst e; rw [hdx, hgi]
      · rfl
    rw [e1, e2]
    exact (List.pairwise_iff_getElem.mp h.pw) a b ha hb hab
theorem TreeSt.push {P : Params} {M R : List (Addr × Obj)} {tr dt rl x dx ch al nl : Addr} {n n' : Nat} {ts : List TN} {kind name uri loc val : Str} {par : Value} {es : List DictEntry} (h : TreeSt P M tr dt rl n ts)
    (hes : NodeEs P kind name uri loc val par ch al nl es) (hlt : ∀ q ∈ M.filter (fun q => decide (q.1 ≠ rl)) ++ R, q.1 < dx) (hrl : rl < dx) (h1 : dx < x) (h2 : x < ch) (h3 : ch < al) (h4 : al < nl) (hS : Sep M R) :
    TreeSt P ((nl, listOf #[] 0) :: (al, listOf #[] 0) :: (ch, listOf #[] 0) :: (x, instObj 141 dx) :: (dx, dictOf es 9) :: put M rl (listOf ((ts.map fun t => Value.ref t.x) ++ [Value.ref x]).toArray n')) tr dt rl n' (ts ++ [⟨x, dx, ch, al, nl, es, 0, 0, ⟨kind, name, uri, loc, val, par, [], []⟩⟩]) ∧
    Sep ((nl, listOf #[] 0) :: (al, listOf #[] 0) :: (ch, listOf #[] 0) :: (x, instObj 141 dx) :: (dx, dictOf es 9) :: put M rl (listOf ((ts.map fun t => Value.ref t.x) ++ [Value.ref x]).toArray n')) R := by
  have ltM : ∀ a o, (a, o) ∈ M → a < dx := by
    intro a o hm
    by_cases e : a = rl
    · rw [e]; exact hrl
    · exact hlt (a, o) (List.mem_append_left _ (List.mem_filter.mpr ⟨hm, by simpa using e⟩))
  have s1 : ∀ {q : Addr × Obj} {l : List (Addr × Obj)} {a b c d e : Addr × Obj}, q ∈ l → q ∈ a :: b :: c :: d :: e :: l := fun h => .tail _ (.tail _ (.tail _ (.tail _ (.tail _ h))))
  obtain ⟨tt, htt⟩ := h.hdt
  have ltR : ∀ r ∈ R, r.1 < dx := fun r hr => hlt r (List.mem_append_right _ hr)
  obtain ⟨i1, i2, i3, i4⟩ := nat_in5 h1 h2 h3 h4
  refine ⟨⟨s1 (put_mem h.htr h.ne1), ⟨tt, s1 (put_mem htt h.ne2)⟩, ?_, h.ne1, h.ne2, fun u hu => ?_, fun u hu => ?_, ?_⟩, ?_⟩
  · rw [List.map_append]; exact s1 put_head
  · rcases List.mem_append.mp hu with hu | hu
    · obtain ⟨a, b, c, d, e⟩ := h.ok u hu
      obtain ⟨p1, p2, p3, p4, p5, p6⟩ := h.ord u hu
      obtain ⟨w1, w2, w3, w4⟩ := nat_in p1 p2 p3
      exact ⟨s1 (put_mem a (nat_ne_of p6 w2.1)), s1 (put_mem b (nat_ne_of p6 w1.1)), c, s1 (put_mem d (nat_ne_of p6 w3.1)), s1 (put_mem e (nat_ne_of p6 w4.1))⟩
    · rw [List.mem_singleton.mp hu]
      exact ⟨.tail _ (.tail _ (.tail _ (.head _))), .tail _ (.tail _ (.tail _ (.tail _ (.head _)))), hes, .tail _ (.tail _ (.head _)), .tail _ (.head _)⟩
  · rcases List.mem_append.mp hu with hu | hu
    · exact h.ord u hu
    · rw [List.mem_singleton.mp hu]
      exact ⟨h1, h2, h3, ltM _ _ h.htr, ltM _ _ htt, hrl⟩
  · refine List.pairwise_append.mpr ⟨h.pw, List.pairwise_singleton _ _, fun u hu v hv => ?_⟩
    rw [List.mem_singleton.mp hv]
    exact ltM _ _ (h.ok u hu).hal
  · have nx : ∀ z : Addr, dx ≤ z → ∀ r ∈ R, r.1 ≠ z := fun z hz r hr => Nat.ne_of_lt (Nat.lt_of_lt_of_le (ltR r hr) hz)
    exact (((((hS.put h.hrl).cons (nx _ (Nat.le_refl _))).cons (nx _ i1)).cons (nx _ i2)).cons (nx _ i3)).cons (nx _ i4)
local macro_rules | `(tactic| walk_at "I:fresh") => `(tactic| (intro lq1 lq2 lq3 lq4 lq5 lq6; (try (obtain ⟨z1, z2, z3, z4, z5⟩ := fresh5 lq1 lq3 lq4 lq5 lq6 _ (List.Mem.head _); (try dsimp only at z1 z2 z3 z4 z5)))))
section
variable {prog : Program} {w : World} {p : Program} {loose : List Str} {mean : ExcName → Option Value} {mg mb : Str → Option Value}
  {dp un : Nat} {gd : Option (List Code)} {cn : Str} {cs : Scope} {a : Addr} {ccd : Value} {cl : List (Str × Addr)} {outer : List Env} {A₀ : Around} {base h₀ : Heap} {L : Addr} {m : Str → Option Value} {rest news : List (Addr × Obj)} {s : Shared} {Q E : Value → Shared → Prop}
theorem say36 : True := by
  (k_with "call ref" => (k_here; (with_reducible show wpAny _ _ (call (Value.ref 166) [Value.ref _, Value.str _ _, Value.str _ _, Value.str _ _, Value.str _ _, Value.str _ _, _]) _ _ _); k_dflt (refine' new_row_c (by k_extra "CX") (by k_asm) (by assumption) (by k_mem) (by k_mem) (by first | omega | (simp only [List.length_nil]; omega)) (by ktr_room) (by ktr_units) ?_); intro _ _ _ _ _ _ _ _ _ _ _ _ _; walk_at "I:fresh"))
  (k_with "subscriptTail" => (k_here; (with_reducible show wpAny _ _ (subscriptTail _ _ (Value.ref _) (Value.int _ _)) _ _ _); k_dflt (refine' item_c (by (refine' list_of_news (by k_asm) (by k_mem))) (by omega) (by omega) (by exact snoc_get (by assumption)) ?_; k_whole)))
  trivial
theorem at124 {h : Heap} (X : (frag w.params).In h) : h.get? 124 = some (ob_124 w.params) := X _ _ (by k_is)
theorem parents_c {A : Around} {x : Str} {t : Tok} (F : Fr h₀ L s.heap m) (X : (frag w.params).In h₀) (hx : x = Str.ofString "root" ∨ x = Str.ofString "element") (h : Q (.bool false) s) :
    wpAny (model prog w) A (compareOp .NotIn (.str x t) (.ref 124)) Q E s := by
  have hl : s.heap.IsTuple 124 [vS "root" 340, vS "element" 341].toArray := ⟨_, at124 (X.keeps F.keep), rfl, _, rfl⟩
  rcases hx with rfl | rfl
  · exact notin_tup_c hl rfl rfl (by kernel_rfl!) h
  · exact notin_tup_c hl rfl rfl (by kernel_rfl!) h
theorem say37 : True := by
  (k_with "compareOp NotIn str ref" => (k_here; (with_reducible show wpAny _ _ (compareOp CmpOp.NotIn (Value.str _ _) (Value.ref 124)) _ _ _); k_dflt (refine' parents_c (by k_asm) (by assumption) (by first | exact .inl rfl | exact .inr rfl | assumption) ?_)))
  trivial
theorem add_child_c {tr dt rl : Addr} {n i : Nat} {ts : List TN} {t : TN} {M R : List (Addr × Obj)} {kind name uri loc val : Str} {ti k0 k1 k2 k3 k4 : Tok}
    (C : Cx w p loose mean mg mb A₀ base outer h₀ L s.heap m cs) (N : News h₀ L s.heap (M ++ R)) (hS : Sep M R) (TS : TreeSt w.params M tr dt rl n ts) (hi : ts[i]? = some t)
    (hk : t.v.kind = Str.ofString "root" ∨ t.v.kind = Str.ofString "element") (hl : ts.length < 900) (hl2 : t.v.kids.length < 900) (hd : dp + 13 < recursionLimit) (hu : un + 130 < cLine)
    (hret : ∀ (tk : Tok) (h' : Heap) (tk' : Nat) (M' : List (Addr × Obj)) (n' : Nat) (t' tn : TN), Fr h₀ L h' m → News h₀ L h' (M' ++ R) → Sep M' R → TreeSt w.params M' tr dt rl n' (ts.set i t' ++ [tn]) →
      t'.v = { t.v with kids := t.v.kids ++ [.int ts.length tk] } → tn.v = ⟨kind, name, uri, loc, val, .int i ti, [], []⟩ → Q (.int ts.length tk) { s with heap := h', toks := tk' }) :
    wpAny (model prog w) (ktrTop dp un gd cn cs L a ccd cl outer) (call (.ref 187) [.ref tr, .int i ti, .str kind k0, .str name k1, .str uri k2, .str loc k3, .str val k4]) Q E s := by
  obtain ⟨B, F, X, T, hkk⟩ := C
  have hlt : i < ts.length := (List.getElem?_eq_some_iff.mp hi).1
  obtain ⟨oh1, oh2, oh3, oh4, oh5, oh6⟩ := TS.ord t (List.mem_of_getElem? hi)
  obtain ⟨b1, b2, b3, b4, b5⟩ := TS.ok t (List.mem_of_getElem? hi)
  obtain ⟨tt, htt⟩ := TS.hdt
  have hne : rl ≠ t.ch := Nat.ne_of_lt (Nat.lt_trans oh6 (Nat.lt_trans oh1 oh2))
  obtain ⟨rest, N2, off1, off2, in1, in2, in3⟩ := pull2 N TS.hrl b4 hne hS
  have c1 : (tr, instObj 330 dt) ∈ rest := in1 _ TS.htr TS.ne1 (Nat.ne_of_lt (Nat.lt_trans oh4 (Nat.lt_trans oh1 oh2)))
  have c2 : (dt, dictOf (treeE w.params tt rl) 1) ∈ rest := in1 _ htt TS.ne2 (Nat.ne_of_lt (Nat.lt_trans oh5 (Nat.lt_trans oh1 oh2)))
  have c3 : (t.x, instObj 141 t.dx) ∈ rest := in1 _ b1 (Nat.ne_of_gt (Nat.lt_trans oh6 oh1)) (Nat.ne_of_lt oh2)
  have c4 : (t.dx, dictOf t.es 9) ∈ rest := in1 _ b2 (Nat.ne_of_gt oh6) (Nat.ne_of_lt (Nat.lt_trans oh1 oh2))
  have hget : (ts.map fun t => Value.ref t.x)[(i : Int).toNat]? = some (.ref t.x) := by rw [Int.toNat_natCast, List.getElem?_map, hi]; rfl
  have hlen : (ts.map fun t => Value.ref t.x).length = ts.length := List.length_map _
  have hT1 : TreeIn w.params ((rl, listOf (ts.map fun t => Value.ref t.x).toArray n) :: (t.ch, listOf t.v.kids.toArray t.kn) :: rest) tr (ts.map fun t => Value.ref t.x) := ⟨dt, rl, tt, n, .tail _ (.tail _ c1), .tail _ (.tail _ c2), .head _, by omega⟩
  have hi0 : (0 : Int) ≤ (i : Int) := Int.natCast_nonneg i
  have hi1 : (i : Int) < ((ts.map fun t => Value.ref t.x).length : Int) := by rw [hlen]; omega
  have hoff : ∀ q ∈ ((t.ch, listOf t.v.kids.toArray t.kn) :: rest : List (Addr × Obj)), q.1 ≠ rl := by
    intro q hq
    rcases List.mem_cons.mp hq with e | hq
    · rw [e]; exact hne.symm
    · exact off1 q hq
  generalize hes : t.es = es at c4
  have b3' := b3
  rw [hes] at b3'
  obtain ⟨t0, t1, t2, t3, t4, t5, t6, t7, t8, k0', k1', k2', k3', k4', rfl⟩ := b3'
  generalize hits : (ts.map fun t => Value.ref t.x) = its at *
  clear N
  refine wpAny_call ?_
  k_dflt (k_extra "ENTER")
  k_steps
  rename_i tkU tkV tkk hA tkA x2 dx2 ch2 al2 nl2 es2 n2 hes2 q1 q2 q3 q4 q5 q6 z1 z2 z3 z4 z5 hB tkB hC FC NC F9 N9 T9 X9
  subst hits
  rw [hlen] at N9 ⊢
  obtain ⟨P1, S1⟩ := TS.push (R := R) (n' := n2) hes2 (fun q hq => by
    rcases List.mem_append.mp hq with hq | hq
    · obtain ⟨hm, hn⟩ := List.mem_filter.mp hq
      by_cases e : q.1 = t.ch
      · rw [e]; exact q1 _ (.head _)
      · exact q1 _ (.tail _ (in1 q hm (by simpa using hn) e))
    · exact q1 _ (.tail _ (in2 q hq))) q2 q3 q4 q5 q6 hS
  have hi2 := (List.getElem?_append_left (l₂ := [(⟨x2, dx2, ch2, al2, nl2, es2, 0, 0, ⟨kind, name, uri, loc, val, .int i ti, [], []⟩⟩ : TN)]) hlt).trans hi
  obtain ⟨a1, a2, a3, a4, a5⟩ := P1.ok t (List.mem_of_getElem? hi2)
  have P2 := P1.set (D := t.ch) (o' := listOf (t.v.kids ++ [Value.int ts.length tkk]).toArray (t.kn + 1)) hi2 (.inr (.inl rfl)) (t' := { t with kn := t.kn + 1, v := { t.v with kids := t.v.kids ++ [Value.int ts.length tkk] } }) rfl rfl rfl rfl
    ⟨put_mem a1 (Nat.ne_of_lt oh2), put_mem a2 (Nat.ne_of_lt (Nat.lt_trans oh1 oh2)), a3, put_head, put_mem a5 (Nat.ne_of_gt oh3)⟩
  rw [List.set_append_left _ _ hlt] at P2
  refine hret _ _ _ _ _ _ _ F9 (fun q hq => ?_) (S1.put a4) P2 rfl rfl
  rcases List.mem_append.mp hq with hq | hq
  · rcases List.mem_cons.mp hq with e | hq
    · rw [e]; exact N9 _ (.tail _ (.tail _ (.tail _ (.tail _ (.tail _ (.tail _ (.head _)))))))
    · obtain ⟨hm, hn⟩ := List.mem_filter.mp hq
      have hn : q.1 ≠ t.ch := by simpa using hn
      rcases List.mem_cons.mp hm with e | hm
      · rw [e]; exact N9 _ (.head _)
      rcases List.mem_cons.mp hm with e | hm
      · rw [e]; exact N9 _ (.tail _ (.head _))
      rcases List.mem_cons.mp hm with e | hm
      · rw [e]; exact N9 _ (.tail _ (.tail _ (.head _)))
      rcases List.mem_cons.mp hm with e | hm
      · rw [e]; exact N9 _ (.tail _ (.tail _ (.tail _ (.head _))))
      rcases List.mem_cons.mp hm with e | hm
      · rw [e]; exact N9 _ (.tail _ (.tail _ (.tail _ (.tail _ (.head _)))))
      rcases List.mem_cons.mp hm with e | hm
      · rw [e]; exact N9 _ (.tail _ (.tail _ (.tail _ (.tail _ (.tail _ (.head _))))))
      obtain ⟨hm, hn2⟩ := List.mem_filter.mp hm
      exact N9 _ (.tail _ (.tail _ (.tail _ (.tail _ (.tail _ (.tail _ (.tail _ (in1 q hm (by simpa using hn2) hn))))))))
  · exact N9 _ (.tail _ (.tail _ (.tail _ (.tail _ (.tail _ (.tail _ (.tail _ (in2 q hq))))))))
end
theorem say38 : True := by
  (k_with "call ref" => (k_here; (with_reducible show wpAny _ _ (call (Value.ref 187) [Value.ref _, Value.int _ _, Value.str _ _, Value.str _ _, Value.str _ _, Value.str _ _, Value.str _ _]) _ _ _); k_dflt (refine' add_child_c (by k_extra "CX") (by k_asm) (by assumption) (by assumption) (by assumption) (by assumption) (by omega) (by omega) (by ktr_room) (by ktr_units) ?_); intro _ _ _ _ _ _ _ _ _ _ _ _ _))
  trivial
section
variable {prog : Program} {w : World} {p : Program} {loose : List Str} {mean : ExcName → Option Value} {mg mb : Str → Option Value}
  {dp un : Nat} {gd : Option (List Code)} {cn : Str} {cs : Scope} {a : Addr} {ccd : Value} {cl : List (Str × Addr)} {outer : List Env} {A₀ : Around} {base h₀ : Heap} {L : Addr} {m : Str → Option Value} {rest news : List (Addr × Obj)} {s : Shared} {Q E : Value → Shared → Prop}
theorem add_element_c {tr dt rl : Addr} {n i : Nat} {ts : List TN} {t : TN} {M R : List (Addr × Obj)} {name : Str} {uri : Str} {loc : Str} {kname : Tok} {kuri : Tok} {kloc : Tok} {ti : Tok}
    (C : Cx w p loose mean mg mb A₀ base outer h₀ L s.heap m cs) (N : News h₀ L s.heap (M ++ R)) (hS : Sep M R) (TS : TreeSt w.params M tr dt rl n ts) (hi : ts[i]? = some t)
    (hk : t.v.kind = Str.ofString "root" ∨ t.v.kind = Str.ofString "element") (hl : ts.length < 900) (hl2 : t.v.kids.length < 900) (hd : dp + 16 < recursionLimit) (hu : un + 160 < cLine)
    (hret : ∀ (tk : Tok) (h' : Heap) (tk' : Nat) (M' : List (Addr × Obj)) (n' : Nat) (t' tn : TN), Fr h₀ L h' m → News h₀ L h' (M' ++ R) → Sep M' R → TreeSt w.params M' tr dt rl n' (ts.set i t' ++ [tn]) →
      t'.v = { t.v with kids := t.v.kids ++ [.int ts.length tk] } → tn.v = ⟨Str.ofString "element", name, uri, loc, Str.ofString "", .int i ti, [], []⟩ → Q (.int ts.length tk) { s with heap := h', toks := tk' }) :
    wpAny (model prog w) (ktrTop dp un gd cn cs L a ccd cl outer) (call (.ref 194) [.ref tr, .int i ti, .str name kname, .str uri kuri, .str loc kloc]) Q E s := by
  obtain ⟨B, F, X, T, hkk⟩ := C
  obtain ⟨tt, htt⟩ := TS.hdt
  have c1 : (tr, instObj 330 dt) ∈ M ++ R := List.mem_append_left _ TS.htr
  have c2 : (dt, dictOf (treeE w.params tt rl) 1) ∈ M ++ R := List.mem_append_left _ htt
  refine wpAny_call ?_
  k_dflt (k_extra "ENTER")
  k_steps
  exact hret _ _ _ _ _ _ _ (by k_asm) (by assumption) (by assumption) (by assumption) (by assumption) (by assumption)
theorem add_text_c {tr dt rl : Addr} {n i : Nat} {ts : List TN} {t : TN} {M R : List (Addr × Obj)} {val : Str} {kval : Tok} {ti : Tok}
    (C : Cx w p loose mean mg mb A₀ base outer h₀ L s.heap m cs) (N : News h₀ L s.heap (M ++ R)) (hS : Sep M R) (TS : TreeSt w.params M tr dt rl n ts) (hi : ts[i]? = some t)
    (hk : t.v.kind = Str.ofString "root" ∨ t.v.kind = Str.ofString "element") (hl : ts.length < 900) (hl2 : t.v.kids.length < 900) (hd : dp + 16 < recursionLimit) (hu : un + 160 < cLine)
    (hret : ∀ (tk : Tok) (h' : Heap) (tk' : Nat) (M' : List (Addr × Obj)) (n' : Nat) (t' tn : TN), Fr h₀ L h' m → News h₀ L h' (M' ++ R) → Sep M' R → TreeSt w.params M' tr dt rl n' (ts.set i t' ++ [tn]) →
      t'.v = { t.v with kids := t.v.kids ++ [.int ts.length tk] } → tn.v = ⟨Str.ofString "text", Str.ofString "", Str.ofString "", Str.ofString "", val, .int i ti, [], []⟩ → Q (.int ts.length tk) { s with heap := h', toks := tk' }) :
    wpAny (model prog w) (ktrTop dp un gd cn cs L a ccd cl outer) (call (.ref 201) [.ref tr, .int i ti, .str val kval]) Q E s := by
  obtain ⟨B, F, X, T, hkk⟩ := C
  obtain ⟨tt, htt⟩ := TS.hdt
  have c1 : (tr, instObj 330 dt) ∈ M ++ R := List.mem_append_left _ TS.htr
  have c2 : (dt, dictOf (treeE w.params tt rl) 1) ∈ M ++ R := List.mem_append_left _ htt
  refine wpAny_call ?_
  k_dflt (k_extra "ENTER")
  k_steps
  exact hret _ _ _ _ _ _ _ (by k_asm) (by assumption) (by assumption) (by assumption) (by assumption) (by assumption)
theorem add_comment_c {tr dt rl : Addr} {n i : Nat} {ts : List TN} {t : TN} {M R : List (Addr × Obj)} {val : Str} {kval : Tok} {ti : Tok}
    (C : Cx w p loose mean mg mb A₀ base outer h₀ L s.heap m cs) (N : News h₀ L s.heap (M ++ R)) (hS : Sep M R) (TS : TreeSt w.params M tr dt rl n ts) (hi : ts[i]? = some t)
    (hk : t.v.kind = Str.ofString "root" ∨ t.v.kind = Str.ofString "element") (hl : ts.length < 900) (hl2 : t.v.kids.length < 900) (hd : dp + 16 < recursionLimit) (hu : un + 160 < cLine)
    (hret : ∀ (tk : Tok) (h' : Heap) (tk' : Nat) (M' : List (Addr × Obj)) (n' : Nat) (t' tn : TN), Fr h₀ L h' m → News h₀ L h' (M' ++ R) → Sep M' R → TreeSt w.params M' tr dt rl n' (ts.set i t' ++ [tn]) →
      t'.v = { t.v with kids := t.v.kids ++ [.int ts.length tk] } → tn.v = ⟨Str.ofString "comment", Str.ofString "", Str.ofString "", Str.ofString "", val, .int i ti, [], []⟩ → Q (.int ts.length tk) { s with heap := h', toks := tk' }) :
    wpAny (model prog w) (ktrTop dp un gd cn cs L a ccd cl outer) (call (.ref 208) [.ref tr, .int i ti, .str val kval]) Q E s := by
  obtain ⟨B, F, X, T, hkk⟩ := C
  obtain ⟨tt, htt⟩ := TS.hdt
  have c1 : (tr, instObj 330 dt) ∈ M ++ R := List.mem_append_left _ TS.htr
  have c2 : (dt, dictOf (treeE w.params tt rl) 1) ∈ M ++ R := List.mem_append_left _ htt
  refine wpAny_call ?_
  k_dflt (k_extra "ENTER")
  k_steps
  exact hret _ _ _ _ _ _ _ (by k_asm) (by assumption) (by assumption) (by assumption) (by assumption) (by assumption)
theorem add_instruction_c {tr dt rl : Addr} {n i : Nat} {ts : List TN} {t : TN} {M R : List (Addr × Obj)} {name : Str} {val : Str} {kname : Tok} {kval : Tok} {ti : Tok}
    (C : Cx w p loose mean mg mb A₀ base outer h₀ L s.heap m cs) (N : News h₀ L s.heap (M ++ R)) (hS : Sep M R) (TS : TreeSt w.params M tr dt rl n ts) (hi : ts[i]? = some t)
    (hk : t.v.kind = Str.ofString "root" ∨ t.v.kind = Str.ofString "element") (hl : ts.length < 900) (hl2 : t.v.kids.length < 900) (hd : dp + 16 < recursionLimit) (hu : un + 160 < cLine)
    (hret : ∀ (tk : Tok) (h' : Heap) (tk' : Nat) (M' : List (Addr × Obj)) (n' : Nat) (t' tn : TN), Fr h₀ L h' m → News h₀ L h' (M' ++ R) → Sep M' R → TreeSt w.params M' tr dt rl n' (ts.set i t' ++ [tn]) →
      t'.v = { t.v with kids := t.v.kids ++ [.int ts.length tk] } → tn.v = ⟨Str.ofString "instruction", name, Str.ofString "", name, val, .int i ti, [], []⟩ → Q (.int ts.length tk) { s with heap := h', toks := tk' }) :
    wpAny (model prog w) (ktrTop dp un gd cn cs L a ccd cl outer) (call (.ref 215) [.ref tr, .int i ti, .str name kname, .str val kval]) Q E s := by
  obtain ⟨B, F, X, T, hkk⟩ := C
  obtain ⟨tt, htt⟩ := TS.hdt
  have c1 : (tr, instObj 330 dt) ∈ M ++ R := List.mem_append_left _ TS.htr
  have c2 : (dt, dictOf (treeE w.params tt rl) 1) ∈ M ++ R := List.mem_append_left _ htt
  refine wpAny_call ?_
  k_dflt (k_extra "ENTER")
  k_steps
  exact hret _ _ _ _ _ _ _ (by k_asm) (by assumption) (by assumption) (by assumption) (by assumption) (by assumption)
theorem element_row_c {tr : Addr} {its : List Value} {i : Int} {ti : Tok} {v : NodeV} {x dx : Addr}
    (C : Cx w p loose mean mg mb A₀ base outer h₀ L s.heap m cs) (N : News h₀ L s.heap news) (HT : TreeIn w.params news tr its) (hi0 : 0 ≤ i) (hi1 : i < its.length) (hv : its[i.toNat]? = some (.ref x)) {es : List DictEntry} {ch al nl : Addr}
    (hx : (x, instObj 141 dx) ∈ news) (hdx : (dx, dictOf es 9) ∈ news) (hes : NodeEs w.params v.kind v.name v.uri v.loc v.val v.par ch al nl es) (hk : v.kind = Str.ofString "element")
    (hd : dp + 9 < recursionLimit) (hu : un + 90 < cLine)
    (hret : ∀ (h' : Heap) (tk' : Nat), Fr h₀ L h' m → News h₀ L h' news → Q (.ref x) { s with heap := h', toks := tk' }) :
    wpAny (model prog w) (ktrTop dp un gd cn cs L a ccd cl outer) (call (.ref 222) [.ref tr, .int i ti]) Q E s := by
  obtain ⟨B, F, X, T, hkk⟩ := C
  obtain ⟨dt, rl, tt, n, ht1, ht2, ht3, hl⟩ := id HT
  obtain ⟨t0, t1, t2, t3, t4, t5, t6, t7, t8, k0, k1, k2, k3, k4, rfl⟩ := hes
  rw [hk] at hdx
  refine wpAny_call ?_
  k_dflt (k_extra "ENTER")
  k_steps
  exact hret _ _ (by k_asm) (by k_asm)
theorem new_root_c {tr dt rl : Addr} {n : Nat} {M R : List (Addr × Obj)}
    (C : Cx w p loose mean mg mb A₀ base outer h₀ L s.heap m cs) (N : News h₀ L s.heap (M ++ R)) (hS : Sep M R) (TS : TreeSt w.params M tr dt rl n [])
    (hd : dp + 16 < recursionLimit) (hu : un + 160 < cLine)
    (hret : ∀ (tk : Tok) (h' : Heap) (tk' : Nat) (M' : List (Addr × Obj)) (n' : Nat) (tn : TN), Fr h₀ L h' m → News h₀ L h' (M' ++ R) → Sep M' R → TreeSt w.params M' tr dt rl n' [tn] →
      tn.v = ⟨Str.ofString "root", Str.ofString "", Str.ofString "", Str.ofString "", Str.ofString "", .none, [], []⟩ → Q (.int 0 tk) { s with heap := h', toks := tk' }) :
    wpAny (model prog w) (ktrTop dp un gd cn cs L a ccd cl outer) (call (.ref 180) [.ref tr]) Q E s := by
  obtain ⟨B, F, X, T, hkk⟩ := C
  obtain ⟨tt, htt⟩ := TS.hdt
  obtain ⟨N2, off⟩ := pull N TS.hrl hS
  have c1 : (tr, instObj 330 dt) ∈ M.filter (fun q => decide (q.1 ≠ rl)) ++ R := List.mem_append_left _ (List.mem_filter.mpr ⟨TS.htr, by simpa using TS.ne1⟩)
  have c2 : (dt, dictOf (treeE w.params tt rl) 1) ∈ M.filter (fun q => decide (q.1 ≠ rl)) ++ R := List.mem_append_left _ (List.mem_filter.mpr ⟨htt, by simpa using TS.ne2⟩)
  generalize er : M.filter (fun q => decide (q.1 ≠ rl)) ++ R = rest at N2 off c1 c2
  rw [List.map_nil] at N2
  clear N
  refine wpAny_call ?_
  k_dflt (k_extra "ENTER")
  k_steps
  rename_i tkk hA tkA x2 dx2 ch2 al2 nl2 es2 n2 FA NA hes2 q1 q2 q3 q4 q5 q6 F9 N9 T9 X9
  subst er
  obtain ⟨P1, S1⟩ := TS.push (R := R) (n' := n2) hes2 q1 q2 q3 q4 q5 q6 hS
  refine hret _ _ _ _ _ _ F9 (fun q hq => N9 q ?_) S1 P1 rfl
  simpa [put] using hq
end
theorem say39 : True := by
  (k_with "call ref" => (k_here; (with_reducible show wpAny _ _ (call (Value.ref 222) [Value.ref _, Value.int _ _]) _ _ _); k_dflt (refine' element_row_c (by k_extra "CX") (by k_asm) (by k_extra "TREE") (by assumption) (by assumption) (by assumption) (by k_mem) (by k_mem) (by assumption) (by assumption) (by ktr_room) (by ktr_units) ?_); intro _ _ _ _))
  trivial
section
variable {prog : Program} {w : World} {p : Program} {loose : List Str} {mean : ExcName → Option Value} {mg mb : Str → Option Value}
  {dp un : Nat} {gd : Option (List Code)} {cn : Str} {cs : Scope} {a : Addr} {ccd : Value} {cl : List (Str × Addr)} {outer : List Env} {A₀ : Around} {base h₀ : Heap} {L : Addr} {m : Str → Option Value} {rest news : List (Addr × Obj)} {s : Shared} {Q E : Value → Shared → Prop}
noncomputable def hitA (uri loc : Str) : Nat × TN → Bool := fun q => q.2.v.uri == uri && q.2.v.loc == loc
noncomputable def AtIx (ts : List TN) (vs : List Value) (avs : List (Nat × TN)) : Prop := All2 (fun v q => ∃ tok, v = .int q.1 tok ∧ ts[q.1]? = some q.2) vs avs
noncomputable def SetPost (ts ts' : List TN) (i : Nat) (ti : Tok) (t : TN) (avs : List (Nat × TN)) (name uri loc val : Str) : Prop :=
  (∃ j k tk tk', avs[j]? = some (k, tk) ∧ (avs.take j).find? (hitA uri loc) = none ∧ hitA uri loc (k, tk) = true ∧ ts' = ts.set k tk' ∧ tk'.v = { tk.v with name := name, val := val }) ∨
  (avs.find? (hitA uri loc) = none ∧ ∃ t' tn tok, ts' = ts.set i t' ++ [tn] ∧ t'.v = { t.v with ats := t.v.ats ++ [.int ts.length tok] } ∧ tn.v = ⟨Str.ofString "attribute", name, uri, loc, val, .int i ti, [], []⟩)
theorem dx_ne_al {tr dt rl : Addr} {P : Params} {M : List (Addr × Obj)} {n i k : Nat} {ts : List TN} {t u : TN} (TS : TreeSt P M tr dt rl n ts) (hi : ts[i]? = some t) (hk : ts[k]? = some u) : u.dx ≠ t.al ∧ u.x ≠ t.al := by
  obtain ⟨a1, a2, a3, a4, a5, a6⟩ := TS.ord t (List.mem_of_getElem? hi)
  obtain ⟨b1, b2, b3, b4, b5, b6⟩ := TS.ord u (List.mem_of_getElem? hk)
  rcases Nat.lt_trichotomy i k with h | h | h
  · have h1 := pw_lt TS.pw hi hk h
    exact ⟨Nat.ne_of_gt h1, Nat.ne_of_gt (Nat.lt_trans h1 b1)⟩
  · subst h
    rw [hi] at hk; cases hk
    exact ⟨Nat.ne_of_lt (Nat.lt_trans a1 (Nat.lt_trans a2 a3)), Nat.ne_of_lt (Nat.lt_trans a2 a3)⟩
  · have h1 := pw_lt TS.pw hk hi h
    have h2 : @LT.lt Nat _ t.dx t.al := Nat.lt_trans a1 (Nat.lt_trans a2 a3)
    have h3 : @LT.lt Nat _ u.x u.al := Nat.lt_trans b2 b3
    exact ⟨Nat.ne_of_lt (Nat.lt_trans (Nat.lt_trans b1 h3) (Nat.lt_trans h1 h2)), Nat.ne_of_lt (Nat.lt_trans h3 (Nat.lt_trans h1 h2))⟩
theorem set_attribute_c {tr dt rl : Addr} {n i : Nat} {ts : List TN} {t : TN} {avs : List (Nat × TN)} {M R : List (Addr × Obj)} {name uri loc val : Str} {ti k0 k1 k2 k3 : Tok}
    (C : Cx w p loose mean mg mb A₀ base outer h₀ L s.heap m cs) (N : News h₀ L s.heap (M ++ R)) (hS : Sep M R) (TS : TreeSt w.params M tr dt rl n ts) (hi : ts[i]? = some t) (HA : AtIx ts t.v.ats avs)
    (hk : t.v.kind = Str.ofString "element") (hl : ts.length < 900) (hl2 : t.v.ats.length < 900) (hd : dp + 16 < recursionLimit) (hu : un + 160 < cLine)
    (hret : ∀ (v : Value) (h' : Heap) (tk' : Nat) (M' : List (Addr × Obj)) (n' : Nat) (ts' : List TN), Fr h₀ L h' m → News h₀ L h' (M' ++ R) → Sep M' R → TreeSt w.params M' tr dt rl n' ts' → SetPost ts ts' i ti t avs name uri loc val → Q v { s with heap := h', toks := tk' }) :
    wpAny (model prog w) (ktrTop dp un gd cn cs L a ccd cl outer) (call (.ref 229) [.ref tr, .int i ti, .str name k0, .str uri k1, .str loc k2, .str val k3]) Q E s := by
  obtain ⟨B, F, X, T, hkk⟩ := C
  have hlt : i < ts.length := (List.getElem?_eq_some_iff.mp hi).1
  obtain ⟨oh1, oh2, oh3, oh4, oh5, oh6⟩ := TS.ord t (List.mem_of_getElem? hi)
  obtain ⟨b1, b2, b3, b4, b5⟩ := TS.ok t (List.mem_of_getElem? hi)
  obtain ⟨tt, htt⟩ := TS.hdt
  have oa : t.dx < t.al := Nat.lt_trans oh1 (Nat.lt_trans oh2 oh3)
  have hne : rl ≠ t.al := Nat.ne_of_lt (Nat.lt_trans oh6 oa)
  obtain ⟨rest, N2, off1, off2, in1, in2, in3⟩ := pull2 N TS.hrl b5 hne hS
  have c1 : (tr, instObj 330 dt) ∈ rest := in1 _ TS.htr TS.ne1 (Nat.ne_of_lt (Nat.lt_trans oh4 oa))
  have c2 : (dt, dictOf (treeE w.params tt rl) 1) ∈ rest := in1 _ htt TS.ne2 (Nat.ne_of_lt (Nat.lt_trans oh5 oa))
  have c3 : (t.x, instObj 141 t.dx) ∈ rest := in1 _ b1 (Nat.ne_of_gt (Nat.lt_trans oh6 oh1)) (dx_ne_al TS hi hi).2
  have c4 : (t.dx, dictOf t.es 9) ∈ rest := in1 _ b2 (Nat.ne_of_gt oh6) (dx_ne_al TS hi hi).1
  have hget : (ts.map fun t => Value.ref t.x)[(i : Int).toNat]? = some (.ref t.x) := by rw [Int.toNat_natCast, List.getElem?_map, hi]; rfl
  have hlen : (ts.map fun t => Value.ref t.x).length = ts.length := List.length_map _
  have hT1 : TreeIn w.params ((rl, listOf (ts.map fun t => Value.ref t.x).toArray n) :: (t.al, listOf t.v.ats.toArray t.an) :: rest) tr (ts.map fun t => Value.ref t.x) := ⟨dt, rl, tt, n, .tail _ (.tail _ c1), .tail _ (.tail _ c2), .head _, by omega⟩
  have hi0 : (0 : Int) ≤ (i : Int) := Int.natCast_nonneg i
  have hi1 : (i : Int) < ((ts.map fun t => Value.ref t.x).length : Int) := by rw [hlen]; omega
  have hoff : ∀ q ∈ ((t.al, listOf t.v.ats.toArray t.an) :: rest : List (Addr × Obj)), q.1 ≠ rl := by
    intro q hq
    rcases List.mem_cons.mp hq with e | hq
    · rw [e]; exact hne.symm
    · exact off1 q hq
  generalize hes : t.es = es at c4
  have b3' := b3
  rw [hes] at b3'
  have b3s := b3'
  obtain ⟨t0, t1, t2, t3, t4, t5, t6, t7, t8, k0', k1', k2', k3', k4', rfl⟩ := b3'
  have hun : ∀ q ∈ M, ∀ o, (q.1, o) ∈ M → q = (q.1, o) := fun q hq o ho => Prod.ext rfl (news_same N (List.mem_append_left _ hq) (List.mem_append_left _ ho))
  have hunr : ∀ q ∈ rest, ∀ o, (q.1, o) ∈ rest → q = (q.1, o) := fun q hq o ho => Prod.ext rfl (news_same N2 (.tail _ (.tail _ hq)) (.tail _ (.tail _ ho)))
  clear N
  refine wpAny_call ?_
  k_dflt (k_extra "ENTER")
  k_extra "GO2"
  rename Fr _ _ _ _ => F9
  rename News _ _ _ _ => N9
  obtain ⟨m₀, em, F9⟩ := fr_name F9
  have hal := All2.length HA
  refine iter_acc (fun j m₁ news₁ => news₁ = (rl, listOf (ts.map fun t => Value.ref t.x).toArray n) :: (t.al, listOf t.v.ats.toArray t.an) :: rest ∧ (avs.take j).find? (hitA uri loc) = none ∧ ∀ y, y ≠ Str.ofString "node" → y ≠ Str.ofString "known" → m₁ y = m₀ y) (by rfl) F9 N9 (.tail _ (.head _)) ⟨rfl, rfl, fun _ _ _ => by rw [em]⟩ ?_ ?_
  · rintro j v h tk m₁ news₁ I oI ol hv ⟨rfl, hP, hm₁⟩ F' N' hI hIl
    obtain rfl := Option.some.inj ((N' _ (.tail _ (.head _))).1.symm.trans (N' (t.al, listOf _ _) (.tail _ (.tail _ (.tail _ (.head _))))).1)
    obtain ⟨⟨k, ux⟩, hav, tok, rfl, hk2⟩ := All2.at HA hv
    dsimp only at hk2
    obtain ⟨d1, d2, d3, d4, d5⟩ := TS.ok ux (List.mem_of_getElem? hk2)
    obtain ⟨e1, e2, e3, e4, e5, e6⟩ := TS.ord ux (List.mem_of_getElem? hk2)
    obtain ⟨n1, n2⟩ := dx_ne_al TS hi hk2
    have hI2 := hI
    simp only [List.forall_mem_cons] at hI2
    have m1 : (ux.x, instObj 141 ux.dx) ∈ rest := in1 _ d1 (Nat.ne_of_gt (Nat.lt_trans e6 e1)) n2
    have m2 : (ux.dx, dictOf ux.es 9) ∈ rest := in1 _ d2 (Nat.ne_of_gt e6) n1
    have ne1 : I ≠ ux.dx := fun e => hI2.2.2 _ m2 e.symm
    have ne2 : rl ≠ ux.dx := Nat.ne_of_lt e6
    have ne3 : t.al ≠ ux.dx := n1.symm
    have ne4 : ux.x ≠ ux.dx := Nat.ne_of_gt e1
    have off3 : ∀ q ∈ rest.filter (fun q => decide (q.1 ≠ ux.dx)), q.1 ≠ ux.dx := put_off
    have f1 : (ux.x, instObj 141 ux.dx) ∈ rest.filter (fun q => decide (q.1 ≠ ux.dx)) := List.mem_filter.mpr ⟨m1, by simpa using ne4⟩
    have f2 : (tr, instObj 330 dt) ∈ rest.filter (fun q => decide (q.1 ≠ ux.dx)) := List.mem_filter.mpr ⟨c1, by simpa using Nat.ne_of_lt e4⟩
    have f3 : (dt, dictOf (treeE w.params tt rl) 1) ∈ rest.filter (fun q => decide (q.1 ≠ ux.dx)) := List.mem_filter.mpr ⟨c2, by simpa using Nat.ne_of_lt e5⟩
    have N3 : News _ _ h ((ux.dx, dictOf ux.es 9) :: (I, oI) :: (rl, listOf (ts.map fun t => Value.ref t.x).toArray n) :: (t.al, listOf t.v.ats.toArray t.an) :: rest.filter (fun q => decide (q.1 ≠ ux.dx))) := fun q hq => by
      rcases List.mem_cons.mp hq with e | hq
      · rw [e]; exact N' _ (.tail _ (.tail _ (.tail _ (.tail _ m2))))
      rcases List.mem_cons.mp hq with e | hq
      · rw [e]; exact N' _ (.head _)
      rcases List.mem_cons.mp hq with e | hq
      · rw [e]; exact N' _ (.tail _ (.tail _ (.head _)))
      rcases List.mem_cons.mp hq with e | hq
      · rw [e]; exact N' _ (.tail _ (.tail _ (.tail _ (.head _))))
      exact N' _ (.tail _ (.tail _ (.tail _ (.tail _ (List.mem_filter.mp hq).1))))
    have F2 := fr_map F' (m₂ := fun y => if y = Str.ofString "node" then some (.int k tok) else if y = Str.ofString "known" then m₁ y else m₀ y) (fun y => by
      by_cases e : y = Str.ofString "node"
      · simp only [if_pos e]
      · by_cases e2 : y = Str.ofString "known"
        · simp only [if_neg e, if_pos e2]
        · simp only [if_neg e, if_neg e2]; exact hm₁ y e e2)
    clear F' N' N9 F9
    subst em
    have fin : ∀ (h2 : Heap) (es' : List DictEntry), News h₀ L h2 ((ux.dx, dictOf es' 9) :: (I, oI) :: (rl, listOf (ts.map fun t => Value.ref t.x).toArray n) :: (t.al, listOf t.v.ats.toArray t.an) :: rest.filter (fun q => decide (q.1 ≠ ux.dx))) →
        NodeEs w.params ux.v.kind name ux.v.uri ux.v.loc val ux.v.par ux.ch ux.al ux.nl es' → News h₀ L h2 (put M ux.dx (dictOf es' 9) ++ R) ∧ TreeSt w.params (put M ux.dx (dictOf es' 9)) tr dt rl n (ts.set k { ux with es := es', v := { ux.v with name := name, val := val } }) := by
      intro h2 es' Nf hes'
      refine ⟨fun q hq => ?_, TS.set hk2 (.inl rfl) rfl rfl rfl rfl ⟨put_mem d1 ne4, put_head, hes', put_mem d4 (Nat.ne_of_gt (Nat.lt_trans e1 e2)), put_mem d5 (Nat.ne_of_gt (Nat.lt_trans e1 (Nat.lt_trans e2 e3)))⟩⟩
      have inr : ∀ q ∈ rest, q.1 ≠ ux.dx → q ∈ rest.filter (fun q => decide (q.1 ≠ ux.dx)) := fun q hq hn => List.mem_filter.mpr ⟨hq, by simpa using hn⟩
      rcases List.mem_append.mp hq with hq | hq
      · rcases List.mem_cons.mp hq with e | hq
        · rw [e]; exact Nf _ (.head _)
        obtain ⟨hm, hn⟩ := List.mem_filter.mp hq
        have hn : q.1 ≠ ux.dx := by simpa using hn
        by_cases a1 : q.1 = rl
        · rw [hun q hm _ (by rw [a1]; exact TS.hrl), a1]; exact Nf _ (.tail _ (.tail _ (.head _)))
        by_cases a2 : q.1 = t.al
        · rw [hun q hm _ (by rw [a2]; exact b5), a2]; exact Nf _ (.tail _ (.tail _ (.tail _ (.head _))))
        exact Nf _ (.tail _ (.tail _ (.tail _ (.tail _ (inr q (in1 q hm a1 a2) hn)))))
      · exact Nf _ (.tail _ (.tail _ (.tail _ (.tail _ (inr q (in2 q hq) (fun e => hS _ d2 q hq e))))))
    have hunr2 : ∀ q ∈ rest, q.1 = ux.dx → q = (ux.dx, dictOf ux.es 9) := fun q hq e => by rw [hunr q hq _ (by rw [e]; exact m2), e]
    generalize hes2 : ux.es = es2 at N3 d2 hunr2
    have d3' := d3
    rw [hes2] at d3'
    obtain ⟨u0, u1, u2, u3, u4, u5, u6, u7, u8, l0', l1', l2', l3', l4', rfl⟩ := d3'
    have g1 : (ts.map fun t => Value.ref t.x)[(k : Int).toNat]? = some (.ref ux.x) := by rw [Int.toNat_natCast, List.getElem?_map, hk2]; rfl
    have hk0 : (0 : Int) ≤ (k : Int) := Int.natCast_nonneg k
    have hk1 : (k : Int) < ((ts.map fun t => Value.ref t.x).length : Int) := by rw [hlen]; have := (List.getElem?_eq_some_iff.mp hk2).1; omega
    k_steps
    · dsimp only [APost]
      k_steps
      obtain ⟨Nf, Tf⟩ := fin _ _ (by k_asm) ⟨_, _, _, _, _, _, _, _, _, _, _, _, _, _, rfl⟩
      exact hret _ _ _ _ _ _ (by k_asm) Nf (hS.put (o := dictOf ux.es 9) (by rw [hes2]; exact d2)) Tf (.inl ⟨j, k, ux, _, hav, hP, by simp [hitA, *], rfl, rfl⟩)
    all_goals (
      rename News _ _ _ _ => N9
      refine ⟨_, _, _, (rl, listOf (ts.map fun t => Value.ref t.x).toArray n) :: (t.al, listOf t.v.ats.toArray t.an) :: rest, rfl, by k_asm, fun q hq => ?_, hI, rfl, find_take_none hP hav (by simp [hitA, *]), fun y y1 y2 => by simp only [if_neg y1, if_neg y2]⟩
      rcases List.mem_cons.mp hq with e | hq
      · rw [e]; exact N9 _ (.tail _ (.head _))
      rcases List.mem_cons.mp hq with e | hq
      · rw [e]; exact N9 _ (.tail _ (.tail _ (.tail _ (.head _))))
      rcases List.mem_cons.mp hq with e | hq
      · rw [e]; exact N9 _ (.tail _ (.tail _ (.head _)))
      rcases List.mem_cons.mp hq with e | hq
      · rw [e]; exact N9 _ (.tail _ (.tail _ (.tail _ (.head _))))
      by_cases e : q.1 = ux.dx
      · rw [hunr2 q hq e]; exact N9 _ (.head _)
      · exact N9 _ (.tail _ (.tail _ (.tail _ (.tail _ (List.mem_filter.mpr ⟨hq, by simpa using e⟩))))))
  · rintro h tk m₁ news₁ ⟨rfl, hP, hm₁⟩ F' N'
    have F2 := fr_map F' (m₂ := fun y => if y = Str.ofString "node" then m₁ y else if y = Str.ofString "known" then m₁ y else m₀ y) (fun y => by
      by_cases e : y = Str.ofString "node"
      · simp only [if_pos e]
      · by_cases e2 : y = Str.ofString "known"
        · simp only [if_neg e, if_pos e2]
        · simp only [if_neg e, if_neg e2]; exact hm₁ y e e2)
    clear F' N9 F9
    subst em
    generalize hits : (ts.map fun t => Value.ref t.x) = its at *
    k_steps
    rename_i tkk hA tkA x2 dx2 ch2 al2 nl2 es2 n2 hes2 q1 q2 q3 q4 q5 q6 z1 z2 z3 z4 z5 hB tkB hC FC NC F9 N9 T9 X9
    subst hits
    rw [hlen] at N9 ⊢
    obtain ⟨P1, S1⟩ := TS.push (R := R) (n' := n2) hes2 (fun q hq => by
      rcases List.mem_append.mp hq with hq | hq
      · obtain ⟨hm, hn⟩ := List.mem_filter.mp hq
        by_cases e : q.1 = t.al
        · rw [e]; exact q1 _ (.head _)
        · exact q1 _ (.tail _ (in1 q hm (by simpa using hn) e))
      · exact q1 _ (.tail _ (in2 q hq))) q2 q3 q4 q5 q6 hS
    have hi2 := (List.getElem?_append_left (l₂ := [(⟨x2, dx2, ch2, al2, nl2, es2, 0, 0, ⟨Str.ofString "attribute", name, uri, loc, val, .int i ti, [], []⟩⟩ : TN)]) hlt).trans hi
    obtain ⟨a1, a2, a3, a4, a5⟩ := P1.ok t (List.mem_of_getElem? hi2)
    have P2 := P1.set (D := t.al) (o' := listOf (t.v.ats ++ [Value.int ts.length tkk]).toArray (t.an + 1)) hi2 (.inr (.inr rfl)) (t' := { t with an := t.an + 1, v := { t.v with ats := t.v.ats ++ [Value.int ts.length tkk] } }) rfl rfl rfl rfl
      ⟨put_mem a1 (dx_ne_al TS hi hi).2, put_mem a2 (dx_ne_al TS hi hi).1, a3, put_mem a4 (Nat.ne_of_lt oh3), put_head⟩
    rw [List.set_append_left _ _ hlt] at P2
    rw [List.take_of_length_le (by rw [hal]; exact Nat.le_refl _)] at hP
    refine hret _ _ _ _ _ _ F9 (fun q hq => ?_) (S1.put a5) P2 (.inr ⟨hP, _, _, _, rfl, rfl, rfl⟩)
    rcases List.mem_append.mp hq with hq | hq
    · rcases List.mem_cons.mp hq with e | hq
      · rw [e]; exact N9 _ (.tail _ (.tail _ (.tail _ (.tail _ (.tail _ (.tail _ (.head _)))))))
      · obtain ⟨hm, hn⟩ := List.mem_filter.mp hq
        have hn : q.1 ≠ t.al := by simpa using hn
        rcases List.mem_cons.mp hm with e | hm
        · rw [e]; exact N9 _ (.head _)
        rcases List.mem_cons.mp hm with e | hm
        · rw [e]; exact N9 _ (.tail _ (.head _))
        rcases List.mem_cons.mp hm with e | hm
        · rw [e]; exact N9 _ (.tail _ (.tail _ (.head _)))
        rcases List.mem_cons.mp hm with e | hm
        · rw [e]; exact N9 _ (.tail _ (.tail _ (.tail _ (.head _))))
        rcases List.mem_cons.mp hm with e | hm
        · rw [e]; exact N9 _ (.tail _ (.tail _ (.tail _ (.tail _ (.head _)))))
        rcases List.mem_cons.mp hm with e | hm
        · rw [e]; exact N9 _ (.tail _ (.tail _ (.tail _ (.tail _ (.tail _ (.head _))))))
        obtain ⟨hm, hn2⟩ := List.mem_filter.mp hm
        exact N9 _ (.tail _ (.tail _ (.tail _ (.tail _ (.tail _ (.tail _ (.tail _ (in1 q hm (by simpa using hn2) hn))))))))
    · exact N9 _ (.tail _ (.tail _ (.tail _ (.tail _ (.tail _ (.tail _ (.tail _ (in2 q hq))))))))
end
theorem all2_of_get {α : Type} {R : Value → α → Prop} : ∀ {vs : List Value} {as : List α}, vs.length = as.length → (∀ (j : Nat) (v : Value) (a : α), vs[j]? = some v → as[j]? = some a → R v a) → All2 R vs as
  | [], [], _, _ => .nil
  | v :: vs, a :: as, hl, h => .cons (h 0 v a rfl rfl) (all2_of_get (by simpa using hl) fun j v a hv ha => h (j + 1) v a (by simpa using hv) (by simpa using ha))
  | [], _ :: _, hl, _ => by simp at hl
  | _ :: _, [], hl, _ => by simp at hl
noncomputable def exIx (n0 : Nat) (exs : List TN) : List (Nat × TN) := exs.mapIdx fun j u => (n0 + j, u)
theorem exIx_get {n0 : Nat} {exs : List TN} {j : Nat} : (exIx n0 exs)[j]? = (exs[j]?).map fun u => (n0 + j, u) := List.getElem?_mapIdx
structure AttrE (ts ts' : List TN) (i : Nat) (t t' : TN) (exs : List TN) (vals : List Value) : Prop where
  e : ts' = ts.set i t' ++ exs
  v : t'.v = { t.v with ats := vals }
  hl : vals.length = exs.length
  ix : ∀ (j : Nat) (v : Value), vals[j]? = some v → ∃ tok, v = Value.int ((ts.length + j : Nat) : Int) tok
theorem AttrE.get {ts ts' : List TN} {i : Nat} {t t' : TN} {exs : List TN} {vals : List Value} (h : AttrE ts ts' i t t' exs vals) (j : Nat) : ts'[ts.length + j]? = exs[j]? := by
  rw [h.e, List.getElem?_append_right (by rw [List.length_set]; omega), List.length_set, Nat.add_sub_cancel_left]
theorem AttrE.at_i {ts ts' : List TN} {i : Nat} {t t' : TN} {exs : List TN} {vals : List Value} (h : AttrE ts ts' i t t' exs vals) (hi : i < ts.length) : ts'[i]? = some t' := by
  rw [h.e, List.getElem?_append_left (by rw [List.length_set]; exact hi), List.getElem?_set_self hi]
theorem AttrE.len {ts ts' : List TN} {i : Nat} {t t' : TN} {exs : List TN} {vals : List Value} (h : AttrE ts ts' i t t' exs vals) : ts'.length = ts.length + exs.length := by
  rw [h.e, List.length_append, List.length_set]
theorem AttrE.atIx {ts ts' : List TN} {i : Nat} {t t' : TN} {exs : List TN} {vals : List Value} (h : AttrE ts ts' i t t' exs vals) : AtIx ts' t'.v.ats (exIx ts.length exs) := by
  rw [h.v]
  refine all2_of_get (by rw [exIx, List.length_mapIdx]; exact h.hl) fun j v q hv hq => ?_
  rw [exIx_get] at hq
  cases e : exs[j]? with
  | none => rw [e] at hq; cases hq
  | some u =>
    rw [e] at hq
    cases hq
    obtain ⟨tok, rfl⟩ := h.ix j v hv
    exact ⟨tok, rfl, by rw [h.get, e]⟩
noncomputable def hitT (uri loc : Str) : TN → Bool := fun u => u.v.uri == uri && u.v.loc == loc
noncomputable def StepE (exs exs' : List TN) (i : Nat) (ti : Tok) (name uri loc val : Str) : Prop :=
  (∃ j u u', exs[j]? = some u ∧ (exs.take j).find? (hitT uri loc) = none ∧ hitT uri loc u = true ∧ exs' = exs.set j u' ∧ u'.v = { u.v with name := name, val := val }) ∨
  (exs.find? (hitT uri loc) = none ∧ ∃ tn, exs' = exs ++ [tn] ∧ tn.v = ⟨Str.ofString "attribute", name, uri, loc, val, .int i ti, [], []⟩)
theorem exIx_find {n0 : Nat} {exs : List TN} {j : Nat} {uri loc : Str} (h : ((exIx n0 exs).take j).find? (hitA uri loc) = none) : (exs.take j).find? (hitT uri loc) = none := by
  rw [List.find?_eq_none] at h ⊢
  intro u hu
  obtain ⟨k, hk⟩ := List.mem_iff_getElem?.mp hu
  rw [List.getElem?_take] at hk
  split at hk
  · rename_i hkj
    refine h (n0 + k, u) (List.mem_iff_getElem?.mpr ⟨k, ?_⟩)
    rw [List.getElem?_take, if_pos hkj, exIx_get, hk]; rfl
  · cases hk
theorem AttrE.step {ts ts' ts'' : List TN} {i : Nat} {t t' : TN} {exs : List TN} {vals : List Value} {ti : Tok} {name uri loc val : Str} (h : AttrE ts ts' i t t' exs vals) (hi : i < ts.length) (hp : SetPost ts' ts'' i ti t' (exIx ts.length exs) name uri loc val) :
    ∃ t'' exs' vals', AttrE ts ts'' i t t'' exs' vals' ∧ StepE exs exs' i ti name uri loc val := by
  rcases hp with ⟨j, k, u, u', hj, hf, hh, e, hv⟩ | ⟨hf, t'', tn, tok, e, hv, hn⟩
  · rw [exIx_get] at hj
    cases ej : exs[j]? with
    | none => rw [ej] at hj; cases hj
    | some u0 =>
      rw [ej] at hj
      cases hj
      refine ⟨t', exs.set j u', vals, ⟨?_, h.v, by rw [List.length_set]; exact h.hl, h.ix⟩, .inl ⟨j, u, u', ej, exIx_find hf, hh, rfl, hv⟩⟩
      rw [e, h.e, List.set_append_right _ _ (by rw [List.length_set]; omega), List.length_set, Nat.add_sub_cancel_left]
  · refine ⟨t'', exs ++ [tn], vals ++ [.int ts'.length tok], ⟨?_, ?_, by rw [List.length_append, List.length_append, h.hl]; rfl, fun j v hv => ?_⟩, .inr ⟨?_, tn, rfl, hn⟩⟩
    · rw [e, h.e, List.set_append_left _ _ (by rw [List.length_set]; exact hi), List.set_set, List.append_assoc]
    · rw [hv, h.v]
    · by_cases hj : j < vals.length
      · rw [List.getElem?_append_left hj] at hv
        exact h.ix j v hv
      · rw [List.getElem?_append_right (Nat.le_of_not_lt hj)] at hv
        have hz : j - vals.length = 0 := by
          by_cases hz : j - vals.length = 0
          · exact hz
          · rw [List.getElem?_eq_none (by simp; omega)] at hv; cases hv
        rw [hz] at hv
        cases hv
        refine ⟨tok, ?_⟩
        rw [h.len, ← h.hl]
        have : j = vals.length := by omega
        rw [this]
    · have := exIx_find (j := exs.length) (n0 := ts.length) (exs := exs) (uri := uri) (loc := loc) (by rw [List.take_of_length_le (by rw [exIx, List.length_mapIdx]; exact Nat.le_refl _)]; exact hf)
      rwa [List.take_of_length_le (Nat.le_refl _)] at this
theorem attrV_map {exs : List TN} {u l : Str} : attrV (exs.map (·.v)) u l = (exs.find? (hitT u l)).map (·.v.val) := by
  unfold attrV
  rw [List.find?_map]
  have : ((fun a : NodeV => a.loc == l && a.uri == u) ∘ fun x : TN => x.v) = hitT u l := by
    funext x
    simp only [hitT, Function.comp]
    rw [Bool.and_comm]
  rw [this, Option.map_map]
  rfl
theorem set_split {α : Type} {l : List α} {j : Nat} {u u' : α} (h : l[j]? = some u) : l = l.take j ++ u :: l.drop (j + 1) ∧ l.set j u' = l.take j ++ u' :: l.drop (j + 1) := by
  obtain ⟨hj, e⟩ := List.getElem?_eq_some_iff.mp h
  refine ⟨?_, ?_⟩
  · rw [← e, List.getElem_cons_drop, List.take_append_drop]
  · rw [List.set_eq_take_append_cons_drop, if_pos hj]
theorem hit_other {u : TN} {uri loc uri' loc' : Str} (h : hitT uri loc u = true) (hne : ¬ (uri' = uri ∧ loc' = loc)) : hitT uri' loc' u = false := by
  unfold hitT at h ⊢
  rw [Bool.and_eq_true, beq_iff_eq, beq_iff_eq] at h
  rw [h.1, h.2]
  refine Bool.eq_false_iff.mpr fun z => ?_
  rw [Bool.and_eq_true, beq_iff_eq, beq_iff_eq] at z
  exact hne ⟨z.1.symm, z.2.symm⟩
theorem StepE.attrV {exs exs' : List TN} {i : Nat} {ti : Tok} {name uri loc val : Str} (h : StepE exs exs' i ti name uri loc val) (u l : Str) :
    attrV (exs'.map (·.v)) u l = if u = uri ∧ l = loc then some val else attrV (exs.map (·.v)) u l := by
  rw [attrV_map, attrV_map]
  rcases h with ⟨j, x, x', hj, hf, hh, rfl, hv⟩ | ⟨hf, tn, rfl, hv⟩
  · obtain ⟨s1, s2⟩ := set_split (u' := x') hj
    have hh' : hitT uri loc x' = true := by
      unfold hitT at hh ⊢; rw [hv]; exact hh
    rw [s2]
    by_cases e : u = uri ∧ l = loc
    · rw [if_pos e, e.1, e.2, List.find?_append, hf, Option.none_or, List.find?_cons_of_pos hh', Option.map_some, hv]
    · rw [if_neg e]
      conv => rhs; rw [s1]
      rw [List.find?_append, List.find?_append, List.find?_cons_of_neg (by rw [hit_other hh' e]; decide), List.find?_cons_of_neg (by rw [hit_other hh e]; decide)]
  · have hh' : hitT uri loc tn = true := by
      unfold hitT; rw [hv]; simp
    rw [List.find?_append]
    by_cases e : u = uri ∧ l = loc
    · rw [if_pos e, e.1, e.2, hf, Option.none_or, List.find?_cons_of_pos hh', Option.map_some, hv]
    · rw [if_neg e, List.find?_cons_of_neg (by rw [hit_other hh' e]; decide), List.find?_nil, Option.or_none]
theorem StepE.all {exs exs' : List TN} {i : Nat} {ti : Tok} {name uri loc val : Str} (h : StepE exs exs' i ti name uri loc val) {K : NodeV → Prop} (hK : ∀ u ∈ exs, K u.v) (h1 : ∀ u ∈ exs, u.v.uri = uri → u.v.loc = loc → K u.v → K { u.v with name := name, val := val })
    (h2 : K ⟨Str.ofString "attribute", name, uri, loc, val, .int i ti, [], []⟩) : ∀ u ∈ exs', K u.v := by
  rcases h with ⟨j, x, x', hj, hf, hh, rfl, hv⟩ | ⟨hf, tn, rfl, hv⟩
  · intro u hu
    rcases List.mem_or_eq_of_mem_set hu with hu | rfl
    · exact hK u hu
    · rw [hv]
      unfold hitT at hh
      rw [Bool.and_eq_true, beq_iff_eq, beq_iff_eq] at hh
      exact h1 x (List.mem_of_getElem? hj) hh.1 hh.2 (hK x (List.mem_of_getElem? hj))
  · intro u hu
    rcases List.mem_append.mp hu with hu | hu
    · exact hK u hu
    · rw [List.mem_singleton.mp hu, hv]; exact h2
theorem StepE.len {exs exs' : List TN} {i : Nat} {ti : Tok} {name uri loc val : Str} (h : StepE exs exs' i ti name uri loc val) : exs'.length ≤ exs.length + 1 := by
  rcases h with ⟨j, x, x', hj, hf, hh, rfl, hv⟩ | ⟨hf, tn, rfl, hv⟩
  · rw [List.length_set]; omega
  · rw [List.length_append]; simp
theorem putD_len (k v : PyData) (D : List (PyData × PyData)) : (PyProof.V.putD k v D).length ≤ D.length + 1 := by
  unfold PyProof.V.putD
  split
  · rw [List.length_map]; omega
  · rw [List.length_append]; simp
section
variable {prog : Program} {w : World} {K : Type} [DecidableEq K] {knd : KeyKind prog w K} {enc : K → PyData} {h₀ : Heap} {L d a : Addr} {m : Str → Option Value} {R1 news : List (Addr × Obj)}
  {D : List (PyData × PyData)} {ks : List K} {ok : Obj} {A : Around} {E : Value → Shared → Prop} {s : Shared}
theorem setTup_c {v : Value} {dv : PyData} {Q : Unit → Shared → Prop} (henc : ∀ a b, PySem.Spec.same (enc a) (enc b) = decide (a = b)) (hu : A.units + 1 < cLine) (hv : PyProof.V.Flat v dv)
    (F : Fr h₀ L s.heap m) (N : News h₀ L s.heap news) (hs1 : ∀ q ∈ R1, q ∈ news) (T : TupTab knd enc R1 d D) (hka : (a, ok) ∈ news) (tk : TupKeyObj knd ks ok) (hsz : D.length ≤ sizeLine)
    (h : ∀ h' o', Fr h₀ L h' m → (∀ news', (∀ q ∈ news', q = (d, o') ∨ (q ∈ news ∧ q.1 ≠ d)) → News h₀ L h' news') → TupTab knd enc ((a, ok) :: put R1 d o') d (PyProof.V.putD (encTuple enc ks) dv D) → a ≠ d → Q () { s with heap := h', toks := s.toks + (ks.length + 1) }) :
    wpAny (model prog w) A (setItem (.ref d) (.ref a) v) Q E s := by
  have hne : ∀ {b : Addr} {ob : Obj} {ks' : List K}, (b, ob) ∈ news → TupKeyObj knd ks' ob → b ≠ d := fun hb t => PyProof.Rows.TupTab.key_ne (TupTab.mono T hs1) N hb t
  obtain ⟨lo, o, es, ep, xs, hm, hc, hd, he, hn, hk, hf⟩ := T
  have hD : s.heap.DictOfH (tupleKind knd) d xs := ⟨o, es, ep, N.get (hs1 _ hm), hc, hd, he, fun x hx => let ⟨_, hmk, t⟩ := hk x hx; t.key (N.get (hs1 _ hmk)), hn⟩
  have hxs : xs.length ≤ sizeLine := by have e := hf.length; simp only [kvsOf, List.length_map] at e; omega
  refine wpAny_setItem_heap (hsz := hxs) (knd := tupleKind knd) (tupleKind_room_in1 hu) (tk.key (N.get hka)) hD fun h' hm' hs => ?_
  obtain ⟨o', es', ep', ho', hc', hd', he', _, hn'⟩ := hm'
  refine h h' o' (F.change hs (N _ (hs1 _ hm)).2.1 (N _ (hs1 _ hm)).2.2) (fun news' hq q hq' => ?_) ⟨lo, o', es', ep', storedH xs ks a v, .tail _ put_head, hc', hd', he', hn', fun x hx => ?_, by rw [kvsOf_storedH]; exact hf.stored (same_encTuple henc) ks hv⟩ (hne hka tk)
  · rcases hq q hq' with rfl | ⟨hq, hqd⟩
    · exact ⟨ho', (N _ (hs1 _ hm)).2.1, (N _ (hs1 _ hm)).2.2⟩
    · exact ⟨(hs.2 _ hqd).trans (N _ hq).1, (N _ hq).2.1, (N _ hq).2.2⟩
  · rcases mem_storedH hx with ⟨y, hy, e1, e2⟩ | ⟨e1, e2⟩
    · obtain ⟨oky, hmk, t⟩ := hk y hy
      exact ⟨oky, by rw [e2]; exact .tail _ (put_mem hmk (hne (hs1 _ hmk) t)), by rw [e1]; exact t⟩
    · exact ⟨ok, by rw [e2]; exact .head _, by rw [e1]; exact tk⟩
end
section
variable {prog : Program} {w : World} {p : Program} {loose : List Str} {mean : ExcName → Option Value} {mg mb : Str → Option Value}
  {dp un : Nat} {gd : Option (List Code)} {cn : Str} {cs : Scope} {a : Addr} {ccd : Value} {cl : List (Str × Addr)} {outer : List Env} {A₀ : Around} {base h₀ : Heap} {L : Addr} {m : Str → Option Value} {rest news : List (Addr × Obj)} {s : Shared} {Q E : Value → Shared → Prop}
noncomputable abbrev srcO (x : Int) (tx : Tok) (y : Int) (ty : Tok) (n : Nat) : Obj := listOf #[.int x tx, .int y ty] n
theorem updF_news {h₀ h : Heap} {L d : Addr} {o : Obj} {l : List (Addr × Obj)} {g : Obj → List (Addr × Obj)} (U : UpdF d o l g) : ∃ rest, (∀ q ∈ rest, q.1 ≠ d) ∧ (∀ q ∈ rest, q ∈ l) ∧ (∀ q ∈ l, q.1 ≠ d → q ∈ rest) ∧ (News h₀ L h l → News h₀ L h ((d, o) :: rest)) ∧ ∀ h' o', News h₀ L h' ((d, o') :: rest) → News h₀ L h' (g o') := by
  obtain ⟨pre, post, rfl, hg, o1, o2⟩ := U.split
  refine ⟨pre ++ post, fun q hq => ?_, fun q hq => ?_, fun q hq hn => ?_, fun N q hq => ?_, fun h' o' N q hq => ?_⟩
  · rcases List.mem_append.mp hq with hq | hq
    · exact o1 q hq
    · exact o2 q hq
  · rcases List.mem_append.mp hq with hq | hq
    · exact List.mem_append_left _ hq
    · exact List.mem_append_right _ (.tail _ hq)
  · rcases List.mem_append.mp hq with hq | hq
    · exact List.mem_append_left _ hq
    · rcases List.mem_cons.mp hq with e | hq
      · exact absurd (by rw [e]) hn
      · exact List.mem_append_right _ hq
  · rcases List.mem_cons.mp hq with e | hq
    · rw [e]; exact N _ (List.mem_append_right _ (.head _))
    · rcases List.mem_append.mp hq with hq | hq
      · exact N _ (List.mem_append_left _ hq)
      · exact N _ (List.mem_append_right _ (.tail _ hq))
  · rw [hg] at hq
    rcases List.mem_append.mp hq with hq | hq
    · exact N _ (.tail _ (List.mem_append_left _ hq))
    · rcases List.mem_cons.mp hq with e | hq
      · rw [e]; exact N _ (.head _)
      · exact N _ (.tail _ (List.mem_append_right _ hq))
theorem take_u {src : Addr} {x y t : Int} {tx ty tt : Tok} {n : Nat} {g : Obj → List (Addr × Obj)}
    (C : Cx w p loose mean mg mb A₀ base outer h₀ L s.heap m cs) (N : News h₀ L s.heap news) (U : UpdF src (srcO x tx y ty n) news g)
    (h1 : 0 ≤ x) (h2 : 0 ≤ y) (h2' : y < 2147483647) (h3 : 0 < t) (h4 : t ≤ 1000) (hd : dp + 5 < recursionLimit) (hu : un + 50 < cLine)
    (hret : ∀ k tk h' x' tx' y' ty' n' tk', Fr h₀ L h' m → News h₀ L h' (g (srcO x' tx' y' ty' n')) → 0 ≤ k → k < t → 0 ≤ x' → 0 ≤ y' → y' < 2147483647 → Q (.int k tk) { s with heap := h', toks := tk' }) :
    wpAny (model prog w) (ktrTop dp un gd cn cs L a ccd cl outer) (call (.ref 348) [.ref src, .int t tt]) Q E s := by
  obtain ⟨rest, o1, o2, o3, n1, n2⟩ := updF_news (h₀ := h₀) (L := L) (h := s.heap) U
  exact take_c C (n1 N) o1 h1 h2 h2' h3 h4 hd hu fun k tk h' x' tx' y' ty' n' tk' F' N' a b c d e => hret k tk h' x' tx' y' ty' n' tk' F' (n2 _ _ N') a b c d e
theorem one_u {src th : Addr} {x y : Int} {tx ty : Tok} {n : Nat} {its : List Value} {tn : Nat} {g : Obj → List (Addr × Obj)}
    (C : Cx w p loose mean mg mb A₀ base outer h₀ L s.heap m cs) (N : News h₀ L s.heap news) (U : UpdF src (srcO x tx y ty n) news g) (ht : (th, listOf its.toArray tn) ∈ news) (hts : th ≠ src)
    (hl : 0 < its.length) (hl2 : its.length < 1000) (h1 : 0 ≤ x) (h2 : 0 ≤ y) (h2' : y < 2147483647) (hd : dp + 7 < recursionLimit) (hu : un + 70 < cLine)
    (hret : ∀ (k : Nat) (v : Value) h' x' tx' y' ty' n' tk', Fr h₀ L h' m → News h₀ L h' (g (srcO x' tx' y' ty' n')) → its[k]? = some v → 0 ≤ x' → 0 ≤ y' → y' < 2147483647 → Q v { s with heap := h', toks := tk' }) :
    wpAny (model prog w) (ktrTop dp un gd cn cs L a ccd cl outer) (call (.ref 355) [.ref src, .ref th]) Q E s := by
  obtain ⟨rest, o1, o2, o3, n1, n2⟩ := updF_news (h₀ := h₀) (L := L) (h := s.heap) U
  exact one_c C (n1 N) o1 (o3 _ ht hts) hl hl2 h1 h2 h2' hd hu fun k v h' x' tx' y' ty' n' tk' F' N' a b c d => hret k v h' x' tx' y' ty' n' tk' F' (n2 _ _ N') a b c d
end
local macro_rules | `(tactic| k_ne) => `(tactic| assumption)
theorem tup_ne_src {h₀ h : Heap} {L T S : Addr} {its : Array Value} {n : Nat} {d : Option Addr} {sl : Array (Option Value)} {x y : Int} {tx ty : Tok} {k : Nat} {news : List (Addr × Obj)} (N : News h₀ L h news) (h1 : (T, ({ cls := .type "tuple", dict := d, data := .seq its n, slots := sl } : Obj)) ∈ news) (h2 : (S, srcO x tx y ty k) ∈ news) : T ≠ S :=
  news_ne N h1 h2 fun e => by
    injection e with e1
    injection e1 with e2
    exact absurd e2 (by decide)
theorem say40 : True := by
  (k_with "call ref" => (k_here; (with_reducible show wpAny _ _ (call (Value.ref 348) [Value.ref _, Value.int _ _]) _ _ _); k_dflt (refine' take_u (by k_extra "CX") (by k_asm) (by k_updF) (by assumption) (by assumption) (by assumption) (by first | decide | omega) (by first | decide | omega) (by ktr_room) (by ktr_units) ?_); intro _ _ _ _ _ _ _ _ _ _; walk_at "I:ds"; intro _ _ _ _ _))
  (k_with "call ref" => (k_here; (with_reducible show wpAny _ _ (call (Value.ref 355) [Value.ref _, Value.ref _]) _ _ _); k_dflt (refine' one_u (by k_extra "CX") (by k_asm) (by k_updF) (by k_mem) (by k_ne) (by simp) (by simp) (by assumption) (by assumption) (by assumption) (by ktr_room) (by ktr_units) ?_); intro _ _ _ _ _ _ _ _ _ _; walk_at "I:ds"; intro _ _ _ _))
  trivial
section
variable {prog : Program} {w : World} {p : Program} {loose : List Str} {mean : ExcName → Option Value} {mg mb : Str → Option Value}
  {dp un : Nat} {gd : Option (List Code)} {cn : Str} {cs : Scope} {a : Addr} {ccd : Value} {cl : List (Str × Addr)} {outer : List Env} {A₀ : Around} {base h₀ : Heap} {L : Addr} {m : Str → Option Value} {rest news : List (Addr × Obj)} {s : Shared} {Q E : Value → Shared → Prop}
theorem say41 : True := by
  (k_with "GO5" => repeat' ((fail_if_success (with_reducible show wpAny _ _ (call (Value.ref 355) _) _ _ _)); (fail_if_success (with_reducible show wpAny _ _ (call (Value.ref 229) _) _ _ _)); (fail_if_success (with_reducible show wpAny _ _ (setItem (Value.ref _) (Value.ref _) _) _ _ _)); (fail_if_success (with_reducible show wpAny _ _ (pyIter _) _ _ _)); (first | (k_unfold; (try dsimp only)) | (k_end; wrow_close) | walk1 | (dsimp only; walk1) | (leave1; walk_say "STEP leave1"; try dsimp only))))
  trivial
noncomputable abbrev tupK (its : Array Value) (n : Nat) : Obj := { cls := .type "tuple", data := .seq its n }
theorem four_ne {h₀ h : Heap} {L l T1 T2 T3 T4 I fd S : Addr} {ol oI fo : Obj} {i1 i2 i3 i4 : Array Value} {n1 n2 n3 n4 : Nat} {x y : Int} {tx ty : Tok} {k : Nat} {rest : List (Addr × Obj)}
    (N : News h₀ L h ((l, ol) :: (T4, tupK i4 n4) :: (T3, tupK i3 n3) :: (T2, tupK i2 n2) :: (T1, tupK i1 n1) :: (I, oI) :: (fd, fo) :: (S, srcO x tx y ty k) :: rest)) : T4 ≠ S ∧ T3 ≠ S ∧ T2 ≠ S ∧ T1 ≠ S :=
  have ms := .tail _ (.tail _ (.tail _ (.tail _ (.tail _ (.tail _ (.tail _ (.head _)))))))
  ⟨tup_ne_src N (.tail _ (.head _)) ms, tup_ne_src N (.tail _ (.tail _ (.head _))) ms, tup_ne_src N (.tail _ (.tail _ (.tail _ (.head _)))) ms, tup_ne_src N (.tail _ (.tail _ (.tail _ (.tail _ (.head _))))) ms⟩
noncomputable def Opt4 (u l nm : Str) : Prop := (u = Str.ofString "" ∧ l = Str.ofString "m" ∧ nm = Str.ofString "m") ∨ (u = Str.ofString "" ∧ l = Str.ofString "n" ∧ nm = Str.ofString "n") ∨ (u = Str.ofString "u" ∧ l = Str.ofString "m" ∧ nm = Str.ofString "p:m") ∨ (u = Str.ofString "" ∧ l = Str.ofString "space" ∧ nm = Str.ofString "space")
theorem pick4 {h₀ h : Heap} {L l T1 T2 T3 T4 S : Addr} {ol : Obj} {a1 a2 a3 a4 b1 b2 b3 b4 c1 c2 c3 c4 : Tok} {n1 n2 n3 n4 : Nat} {rest : List (Addr × Obj)}
    (N : News h₀ L h ((l, ol) :: (T4, tupK #[.str (Str.ofString "") a4, .str (Str.ofString "space") b4, .str (Str.ofString "space") c4] n4) :: (T3, tupK #[.str (Str.ofString "u") a3, .str (Str.ofString "m") b3, .str (Str.ofString "p:m") c3] n3) :: (T2, tupK #[.str (Str.ofString "") a2, .str (Str.ofString "n") b2, .str (Str.ofString "n") c2] n2) :: (T1, tupK #[.str (Str.ofString "") a1, .str (Str.ofString "m") b1, .str (Str.ofString "m") c1] n1) :: rest))
    (e4 : T4 ≠ S) (e3 : T3 ≠ S) (e2 : T2 ≠ S) (e1 : T1 ≠ S) {k : Nat} {v : Value} (hv : [Value.ref T1, .ref T2, .ref T3, .ref T4][k]? = some v) :
    ∃ (T : Addr) (u l nm : Str) (ta tb tc : Tok) (nn : Nat), v = .ref T ∧ T ≠ S ∧ News h₀ L h ((T, tupK #[.str u ta, .str l tb, .str nm tc] nn) :: rest) ∧ Opt4 u l nm := by
  have sub : ∀ {q x : Addr × Obj}, x ∈ ((l, ol) :: (T4, tupK #[.str (Str.ofString "") a4, .str (Str.ofString "space") b4, .str (Str.ofString "space") c4] n4) :: (T3, tupK #[.str (Str.ofString "u") a3, .str (Str.ofString "m") b3, .str (Str.ofString "p:m") c3] n3) :: (T2, tupK #[.str (Str.ofString "") a2, .str (Str.ofString "n") b2, .str (Str.ofString "n") c2] n2) :: (T1, tupK #[.str (Str.ofString "") a1, .str (Str.ofString "m") b1, .str (Str.ofString "m") c1] n1) :: rest) → News h₀ L h (x :: rest) := fun hx q hq => by
    rcases List.mem_cons.mp hq with e | hq
    · rw [e]; exact N _ hx
    · exact N _ (.tail _ (.tail _ (.tail _ (.tail _ (.tail _ hq)))))
  rcases k with _ | _ | _ | _ | k
  · cases hv; exact ⟨_, _, _, _, _, _, _, _, rfl, e1, sub (q := (l, ol)) (.tail _ (.tail _ (.tail _ (.tail _ (.head _))))), .inl ⟨rfl, rfl, rfl⟩⟩
  · cases hv; exact ⟨_, _, _, _, _, _, _, _, rfl, e2, sub (q := (l, ol)) (.tail _ (.tail _ (.tail _ (.head _)))), .inr (.inl ⟨rfl, rfl, rfl⟩)⟩
  · cases hv; exact ⟨_, _, _, _, _, _, _, _, rfl, e3, sub (q := (l, ol)) (.tail _ (.tail _ (.head _))), .inr (.inr (.inl ⟨rfl, rfl, rfl⟩))⟩
  · cases hv; exact ⟨_, _, _, _, _, _, _, _, rfl, e4, sub (q := (l, ol)) (.tail _ (.head _)), .inr (.inr (.inr ⟨rfl, rfl, rfl⟩))⟩
  · simp at hv
theorem key_off {h₀ h : Heap} {L K : Addr} {rest : List (Addr × Obj)} (N : News h₀ L h rest) (hK : K = h.objs.size) : ∀ q ∈ rest, q.1 ≠ K := fun q hq => by rw [hK]; exact Nat.ne_of_lt (Heap.lt_size (N q hq).1)
theorem attr_mid {prog : Program} {w : World} {K : Type} [DecidableEq K] {knd : KeyKind prog w K} {enc : K → PyData} {h₀ h : Heap} {L K0 l2 TT I fd src : Addr} {ko o2 oT oI fo fo9 so : Obj} {M' KR R : List (Addr × Obj)} {D9 : List (PyData × PyData)}
    (N15 : ∀ news', (∀ q ∈ news', q = (fd, fo9) ∨ (q ∈ (K0, ko) :: (l2, o2) :: (TT, oT) :: (I, oI) :: (fd, fo) :: (src, so) :: (M' ++ (KR ++ R)) ∧ q.1 ≠ fd)) → News h₀ L h news') (T15 : TupTab knd enc ((K0, ko) :: put ((fd, fo) :: KR) fd fo9) fd D9) (hne : K0 ≠ fd)
    (kO : ∀ q ∈ (l2, o2) :: (TT, oT) :: (I, oI) :: (fd, fo) :: (src, so) :: (M' ++ (KR ++ R)), q.1 ≠ K0) (hI : I ≠ fd) (hs : src ≠ fd) (ho : ∀ q ∈ M' ++ (KR ++ R), q.1 ≠ fd) :
    ∃ (K0 : Addr) (ko : Obj), News h₀ L h (M' ++ ((K0, ko) :: (I, oI) :: (fd, fo9) :: (src, so) :: (KR ++ R))) ∧ TupTab knd enc ((fd, fo9) :: (K0, ko) :: KR) fd D9 ∧ K0 ≠ fd ∧ (∀ q ∈ M' ++ (KR ++ R), q.1 ≠ K0) ∧ src ≠ K0 ∧ I ≠ K0 := by
  have s6 : ∀ {q a b c d e f : Addr × Obj} {l : List (Addr × Obj)}, q ∈ l → q ∈ a :: b :: c :: d :: e :: f :: l := fun h => .tail _ (.tail _ (.tail _ (.tail _ (.tail _ (.tail _ h)))))
  refine ⟨K0, ko, N15 _ fun q hq => ?_, TupTab.mono T15 fun q hq => ?_, hne, fun q hq => kO q (.tail _ (.tail _ (.tail _ (.tail _ (.tail _ hq))))), kO _ (.tail _ (.tail _ (.tail _ (.tail _ (.head _))))), kO _ (.tail _ (.tail _ (.head _)))⟩
  · rcases List.mem_append.mp hq with hq | hq
    · exact .inr ⟨s6 (List.mem_append_left _ hq), ho q (List.mem_append_left _ hq)⟩
    · rcases List.mem_cons.mp hq with e | hq
      · rw [e]; exact .inr ⟨.head _, hne⟩
      rcases List.mem_cons.mp hq with e | hq
      · rw [e]; exact .inr ⟨.tail _ (.tail _ (.tail _ (.head _))), hI⟩
      rcases List.mem_cons.mp hq with e | hq
      · exact .inl e
      rcases List.mem_cons.mp hq with e | hq
      · rw [e]; exact .inr ⟨.tail _ (.tail _ (.tail _ (.tail _ (.tail _ (.head _))))), hs⟩
      · exact .inr ⟨s6 (List.mem_append_right _ hq), ho q (List.mem_append_right _ hq)⟩
  · rcases List.mem_cons.mp hq with e | hq
    · rw [e]; exact .tail _ (.head _)
    rcases List.mem_cons.mp hq with e | hq
    · rw [e]; exact .head _
    obtain ⟨hm, hn⟩ := List.mem_filter.mp hq
    rcases List.mem_cons.mp hm with e | hm
    · exact absurd (by rw [e]) (show q.1 ≠ fd by simpa using hn)
    · exact .tail _ (.tail _ hm)
noncomputable def AttrK (v : NodeV) : Prop := v.kind = Str.ofString "attribute" ∧ (v.uri = Str.ofString "" ∨ v.uri = Str.ofString "u") ∧ spaceName v = false
structure AttrS (prog : Program) (w : World) (R : List (Addr × Obj)) (src fd tr dt rl : Addr) (ts : List TN) (i : Nat) (t : TN) (M' KR : List (Addr × Obj)) (n' : Nat) (fo' : Obj) (D : List (PyData × PyData)) (ts' : List TN) (t' : TN) (exs : List TN) (vals : List Value) (j : Nat) : Prop where
  sep : Sep M' (KR ++ R)
  srcOff : ∀ q ∈ M' ++ (KR ++ R), q.1 ≠ src
  fdOff : ∀ q ∈ M' ++ (KR ++ R), q.1 ≠ fd
  sepR : ∀ q ∈ KR, ∀ r ∈ R, q.1 ≠ r.1
  st : TreeSt w.params M' tr dt rl n' ts'
  tup : TupTab (PySem.strKind prog w) PyData.str ((fd, fo') :: KR) fd D
  ae : AttrE ts ts' i t t' exs vals
  len : exs.length ≤ j
  dlen : D.length ≤ j
  kd : ∀ u ∈ exs, AttrK u.v
  rel : ∀ u l, u = Str.ofString "" ∨ u = Str.ofString "u" → PySem.Spec.lookup (encTuple PyData.str [u, l]) D = (attrV (exs.map (·.v)) u l).map PyData.str
theorem sub_end0 {f s : Addr × Obj} {M K : List (Addr × Obj)} : ∀ q ∈ f :: s :: (M ++ K), q ∈ M ++ (f :: s :: K) := by
  intro q hq
  rcases List.mem_cons.mp hq with e | hq
  · rw [e]; exact List.mem_append_right _ (.head _)
  rcases List.mem_cons.mp hq with e | hq
  · rw [e]; exact List.mem_append_right _ (.tail _ (.head _))
  rcases List.mem_append.mp hq with hq | hq
  · exact List.mem_append_left _ hq
  · exact List.mem_append_right _ (.tail _ (.tail _ hq))
theorem sub_end {a f s : Addr × Obj} {M K : List (Addr × Obj)} : ∀ q ∈ a :: f :: s :: (M ++ K), q ∈ a :: (M ++ (f :: s :: K)) := by
  intro q hq
  rcases List.mem_cons.mp hq with e | hq
  · rw [e]; exact .head _
  · exact .tail _ (sub_end0 q hq)
theorem attrE_start {ts : List TN} {i : Nat} {t : TN} (hi : ts[i]? = some t) (ha : t.v.ats = []) : AttrE ts ts i t t [] [] := by
  obtain ⟨h1, h2⟩ := List.getElem?_eq_some_iff.mp hi
  refine ⟨?_, ?_, rfl, fun j v hv => by simp at hv⟩
  · rw [List.append_nil, ← h2, List.set_getElem_self]
  · rw [← ha]
theorem opt4_kind {u l nm : Str} (h : Opt4 u l nm) : (u = Str.ofString "" ∨ u = Str.ofString "u") ∧ (nm == Str.ofString "xml:space") = false := by
  rcases h with ⟨rfl, rfl, rfl⟩ | ⟨rfl, rfl, rfl⟩ | ⟨rfl, rfl, rfl⟩ | ⟨rfl, rfl, rfl⟩
  · exact ⟨.inl rfl, by decide⟩
  · exact ⟨.inl rfl, by decide⟩
  · exact ⟨.inr rfl, by decide⟩
  · exact ⟨.inl rfl, by decide⟩
theorem AttrS.turn {prog : Program} {w : World} {R : List (Addr × Obj)} {src fd tr dt rl K0 I : Addr} {ko oI so : Obj} {ts : List TN} {i : Nat} {t : TN} {M' M2 KR : List (Addr × Obj)} {n' n9 : Nat} {fo' fo9 : Obj} {D : List (PyData × PyData)} {ts' ts2 : List TN} {t' : TN} {exs : List TN} {vals : List Value} {j : Nat} {u l nm wd : Str} {ti : Tok}
    (A : AttrS prog w R src fd tr dt rl ts i t M' KR n' fo' D ts' t' exs vals j) (hlt : i < ts.length) (hopt : Opt4 u l nm) (S18 : Sep M2 ((K0, ko) :: (I, oI) :: (fd, fo9) :: (src, so) :: (KR ++ R))) (TS18 : TreeSt w.params M2 tr dt rl n9 ts2)
    (SP : SetPost ts' ts2 i ti t' (exIx ts.length exs) nm u l wd) (T16 : TupTab (PySem.strKind prog w) PyData.str ((fd, fo9) :: (K0, ko) :: KR) fd (PyProof.V.putD (encTuple PyData.str [u, l]) (.str wd) D))
    (k1 : K0 ≠ fd) (k2 : ∀ q ∈ M' ++ (KR ++ R), q.1 ≠ K0) (k3 : src ≠ K0) :
    ∃ t2 exs2 vals2, AttrS prog w R src fd tr dt rl ts i t M2 ((K0, ko) :: KR) n9 fo9 (PyProof.V.putD (encTuple PyData.str [u, l]) (.str wd) D) ts2 t2 exs2 vals2 (j + 1) := by
  obtain ⟨t2, exs2, vals2, AE2, SE⟩ := A.ae.step hlt SP
  obtain ⟨hu, hn⟩ := opt4_kind hopt
  refine ⟨t2, exs2, vals2, ⟨fun q hq r hr => ?_, fun q hq => ?_, fun q hq => ?_, fun q hq r hr => ?_, TS18, T16, AE2, ?_, ?_, ?_, fun u' l' hu' => ?_⟩⟩
  · refine S18 q hq r ?_
    rcases List.mem_cons.mp hr with e | hr
    · rw [e]; exact .head _
    · exact .tail _ (.tail _ (.tail _ (.tail _ hr)))
  · rcases List.mem_append.mp hq with hq | hq
    · exact (S18 q hq _ (.tail _ (.tail _ (.tail _ (.head _))))).symm
    · rcases List.mem_cons.mp hq with e | hq
      · rw [e]; exact k3.symm
      · exact A.srcOff q (List.mem_append_right _ hq)
  · rcases List.mem_append.mp hq with hq | hq
    · exact (S18 q hq _ (.tail _ (.tail _ (.head _)))).symm
    · rcases List.mem_cons.mp hq with e | hq
      · rw [e]; exact k1
      · exact A.fdOff q (List.mem_append_right _ hq)
  · rcases List.mem_cons.mp hq with e | hq
    · rw [e]; exact (k2 r (List.mem_append_right _ (List.mem_append_right _ hr))).symm
    · exact A.sepR q hq r hr
  · have := SE.len; have := A.len; omega
  · have := putD_len (encTuple PyData.str [u, l]) (.str wd) D; have := A.dlen; omega
  · exact SE.all A.kd (fun x hx e1 e2 hk => ⟨hk.1, hk.2.1, hn⟩) ⟨rfl, hu, hn⟩
  · rw [PyProof.Rows.lookup_putK (keyEnc_tuple PyProof.V.keyEnc_str), SE.attrV, A.rel u' l' hu']
    by_cases e : u' = u ∧ l' = l
    · rw [if_pos e, e.1, e.2, if_pos rfl, Option.map_some]
    · rw [if_neg e, if_neg (fun z => e (by injection z with z1 z2; injection z2 with z2 _; exact ⟨z1, z2⟩))]
noncomputable def xmlNs : Str := Str.ofString "http://www.w3.org/XML/1998/namespace"
structure AttrFin (prog : Program) (w : World) (R : List (Addr × Obj)) (src fd tr dt rl : Addr) (ts : List TN) (i : Nat) (t : TN) (M' KR : List (Addr × Obj)) (n' : Nat) (fo' : Obj) (D : List (PyData × PyData)) (ts' : List TN) (t' : TN) (exs : List TN) (vals : List Value) (word : Option Str) : Prop where
  sep : Sep M' (KR ++ R)
  srcOff : ∀ q ∈ M' ++ (KR ++ R), q.1 ≠ src
  fdOff : ∀ q ∈ M' ++ (KR ++ R), q.1 ≠ fd
  sepR : ∀ q ∈ KR, ∀ r ∈ R, q.1 ≠ r.1
  st : TreeSt w.params M' tr dt rl n' ts'
  tup : TupTab (PySem.strKind prog w) PyData.str ((fd, fo') :: KR) fd D
  ae : AttrE ts ts' i t t' exs vals
  len : exs.length ≤ 3
  kd : ∀ u ∈ exs, u.v.kind = Str.ofString "attribute"
  rel : ∀ u l, u = Str.ofString "" ∨ u = Str.ofString "u" → PySem.Spec.lookup (encTuple PyData.str [u, l]) D = (attrV (exs.map (·.v)) u l).map PyData.str
  wd : ((exs.map (·.v)).find? spaceName).map (·.val) = word
theorem find_map_none {exs : List TN} (h : ∀ u ∈ exs, spaceName u.v = false) : (exs.map (·.v)).find? spaceName = none := by
  rw [List.find?_eq_none]
  intro x hx
  obtain ⟨u, hu, rfl⟩ := List.mem_map.mp hx
  rw [h u hu]; decide
theorem AttrS.fin {prog : Program} {w : World} {R : List (Addr × Obj)} {src fd tr dt rl : Addr} {ts : List TN} {i : Nat} {t : TN} {M' KR : List (Addr × Obj)} {n' : Nat} {fo' : Obj} {D : List (PyData × PyData)} {ts' : List TN} {t' : TN} {exs : List TN} {vals : List Value} {j : Nat}
    (A : AttrS prog w R src fd tr dt rl ts i t M' KR n' fo' D ts' t' exs vals j) (hj : j ≤ 2) : AttrFin prog w R src fd tr dt rl ts i t M' KR n' fo' D ts' t' exs vals none :=
  ⟨A.sep, A.srcOff, A.fdOff, A.sepR, A.st, A.tup, A.ae, by have := A.len; omega, fun u hu => (A.kd u hu).1, A.rel, by rw [find_map_none fun u hu => (A.kd u hu).2.2]; rfl⟩
theorem AttrS.fin2 {prog : Program} {w : World} {R : List (Addr × Obj)} {src fd tr dt rl : Addr} {so : Obj} {ts : List TN} {i : Nat} {t : TN} {M' M2 KR : List (Addr × Obj)} {n' n9 : Nat} {fo' : Obj} {D : List (PyData × PyData)} {ts' ts2 : List TN} {t' : TN} {exs : List TN} {vals : List Value} {j : Nat} {wd : Str} {ti : Tok}
    (A : AttrS prog w R src fd tr dt rl ts i t M' KR n' fo' D ts' t' exs vals j) (hj : j ≤ 2) (hlt : i < ts.length) (S18 : Sep M2 ((fd, fo') :: (src, so) :: (KR ++ R))) (TS18 : TreeSt w.params M2 tr dt rl n9 ts2)
    (SP : SetPost ts' ts2 i ti t' (exIx ts.length exs) (Str.ofString "xml:space") xmlNs (Str.ofString "space") wd) : ∃ t2 exs2 vals2, AttrFin prog w R src fd tr dt rl ts i t M2 KR n9 fo' D ts2 t2 exs2 vals2 (some wd) := by
  obtain ⟨t2, exs2, vals2, AE2, SE⟩ := A.ae.step hlt SP
  refine ⟨t2, exs2, vals2, ⟨fun q hq r hr => S18 q hq r (.tail _ (.tail _ hr)), fun q hq => ?_, fun q hq => ?_, A.sepR, TS18, A.tup, AE2, ?_, ?_, fun u' l' hu' => ?_, ?_⟩⟩
  · rcases List.mem_append.mp hq with hq | hq
    · exact (S18 q hq _ (.tail _ (.head _))).symm
    · exact A.srcOff q (List.mem_append_right _ hq)
  · rcases List.mem_append.mp hq with hq | hq
    · exact (S18 q hq _ (.head _)).symm
    · exact A.fdOff q (List.mem_append_right _ hq)
  · have := SE.len; have := A.len; omega
  · exact SE.all (K := fun v => v.kind = Str.ofString "attribute") (fun u hu => (A.kd u hu).1) (fun x hx e1 e2 hk => hk) rfl
  · rw [SE.attrV, A.rel u' l' hu', if_neg]
    rintro ⟨e, _⟩
    rcases hu' with rfl | rfl
    · exact absurd e (by decide +kernel)
    · exact absurd e (by decide +kernel)
  · rcases SE with ⟨j, x, x', hj, hf, hh, _, hv⟩ | ⟨hf, tn, rfl, hv⟩
    · unfold hitT at hh
      rw [Bool.and_eq_true, beq_iff_eq, beq_iff_eq] at hh
      rcases (A.kd x (List.mem_of_getElem? hj)).2.1 with e | e
      · rw [e] at hh; exact absurd hh.1 (by decide +kernel)
      · rw [e] at hh; exact absurd hh.1 (by decide +kernel)
    · rw [List.map_append, List.find?_append, find_map_none fun u hu => (A.kd u hu).2.2, List.map_cons, List.map_nil, hv]
      rfl
theorem say42 : True := by
  (k_with "GO6" => repeat' ((fail_if_success (with_reducible show wpAny _ _ (subscriptTail _ _ (Value.ref _) (Value.ref _)) _ _ _)); (fail_if_success (with_reducible show wpAny _ _ (call (Value.ref 229) _) _ _ _)); (fail_if_success (with_reducible show wpAny _ _ (setItem (Value.ref _) (Value.ref _) _) _ _ _)); (fail_if_success (with_reducible show wpAny _ _ (pyIter _) _ _ _)); (first | (k_unfold; (try dsimp only)) | (k_end; wrow_close) | walk1 | (dsimp only; walk1) | (leave1; walk_say "STEP leave1"; try dsimp only))))
  trivial
inductive JAt (prog : Program) (w : World) (R : List (Addr × Obj)) (src fd tr dt rl : Addr) (ts : List TN) (i : Nat) (t : TN) (m₀ : Str → Option Value) (j : Nat) (m₁ : Str → Option Value) (news₁ : List (Addr × Obj)) : Prop
  | mk (M' KR : List (Addr × Obj)) (n' : Nat) (x' : Int) (tx' : Tok) (y' : Int) (ty' : Tok) (ns' : Nat) (fo' : Obj) (D : List (PyData × PyData)) (ts' : List TN) (t' : TN) (exs : List TN) (vals : List Value)
    (e : news₁ = (fd, fo') :: (src, srcO x' tx' y' ty' ns') :: (M' ++ (KR ++ R))) (h1 : 0 ≤ x') (h2 : 0 ≤ y') (h3 : y' < 2147483647) (h4 : AttrS prog w R src fd tr dt rl ts i t M' KR n' fo' D ts' t' exs vals j)
    (h5 : ∀ y, y ≠ Str.ofString "turn" → y ≠ Str.ofString "uri" → y ≠ Str.ofString "local" → y ≠ Str.ofString "name" → m₁ y = m₀ y)
theorem law_attributes_c {src tr dt rl : Addr} {x y : Int} {tx ty ti : Tok} {ns n i : Nat} {ts : List TN} {t : TN} {M R : List (Addr × Obj)}
    (C : Cx w p loose mean mg mb A₀ base outer h₀ L s.heap m cs) (N : News h₀ L s.heap ((src, srcO x tx y ty ns) :: (M ++ R))) (hsrc : ∀ q ∈ M ++ R, q.1 ≠ src) (hS : Sep M R) (TS : TreeSt w.params M tr dt rl n ts) (hi : ts[i]? = some t)
    (hk : t.v.kind = Str.ofString "element") (hats : t.v.ats = []) (hl : ts.length < 800) (h1 : 0 ≤ x) (h2 : 0 ≤ y) (h2' : y < 2147483647) (hd : dp + 30 < recursionLimit) (hu : un + 300 < cLine)
    (hret : ∀ (T fd : Addr) (tn : Nat) (wv : Value) (h' : Heap) (tk' : Nat) (x' : Int) (tx' : Tok) (y' : Int) (ty' : Tok) (ns' n' : Nat) (M' KR : List (Addr × Obj)) (fo' : Obj) (D : List (PyData × PyData)) (ts' : List TN) (t' : TN) (exs : List TN) (vals : List Value) (word : Option Str),
      Fr h₀ L h' m → News h₀ L h' ((T, tupK #[.ref fd, wv] tn) :: (fd, fo') :: (src, srcO x' tx' y' ty' ns') :: (M' ++ (KR ++ R))) → AttrFin prog w R src fd tr dt rl ts i t M' KR n' fo' D ts' t' exs vals word → WordIs word wv → 0 ≤ x' → 0 ≤ y' → y' < 2147483647 → src ≠ fd → (∀ q ∈ (fd, fo') :: (src, srcO x' tx' y' ty' ns') :: (M' ++ (KR ++ R)), q.1 ≠ T) → Q (.ref T) { s with heap := h', toks := tk' }) :
    wpAny (model prog w) (ktrTop dp un gd cn cs L a ccd cl outer) (call (.ref 362) [.ref src, .ref tr, .int i ti]) Q E s := by
  obtain ⟨B, F, X, T, hkk⟩ := C
  refine wpAny_call ?_
  k_dflt (k_extra "ENTER")
  k_extra "GO5"
  rename_i fd hq1 fo lo hdict fs hi2 fi l1a hq2 lFa Na k tkk hq3 x1 tx1 y1 ty1 n1 tk2a Fb Nb p0 p1 p2 p3 p4 hR tkR t1 u1 v1 aR FR NR kR
  have fdsrc : src ≠ fd := Nat.ne_of_lt l1a.1
  have fdall : ∀ q ∈ M ++ R, q.1 ≠ fd := fun q hq => Nat.ne_of_lt (tb_ltOf l1a.2 q hq)
  have hlt : i < ts.length := (List.getElem?_eq_some_iff.mp hi).1
  obtain ⟨m₀, em, FR⟩ := fr_name FR
  have A0 : AttrE ts ts i t t [] [] := attrE_start hi hats
  have hn : Builtin.Range.rangeSize 0 k 1 = (k.toNat : Int) := by rw [rangeSize_one]; split <;> omega
  refine iter_acc_range (n := k.toNat) (fun j m₁ news₁ => JAt prog w R src fd tr dt rl ts i t m₀ j m₁ news₁) (by rfl) aR ?_ hn FR NR ⟨M, [], n, x1, tx1, y1, ty1, n1, fo, [], ts, t, [], [], rfl, p2, p3, p4, ⟨hS, hsrc, fdall, (fun q hq => by cases hq), TS, TupTab.ofEmpty (.head _) lo hdict, A0, Nat.le_refl _, Nat.le_refl _, (fun u hu => by cases hu), fun u l _ => rfl⟩, fun _ _ _ _ _ => by rw [em]⟩ ?_ ?_
  · exact small_one (by omega) (by omega) (by omega) (by omega)
  · rintro j tj h tk m₁ news₁ I oI hj ⟨M', KR, n', x', tx', y', ty', ns', fo', D, ts', t', exs, vals, rfl, q1, q2, q3, AS, hm₁⟩ F' N' hI
    have F2 := fr_map F' (m₂ := fun y => if y = Str.ofString "turn" then some (.int (0 + (j : Int)) tj) else if y = Str.ofString "uri" then m₁ y else if y = Str.ofString "local" then m₁ y else if y = Str.ofString "name" then m₁ y else m₀ y) (fun y => by
      by_cases e1 : y = Str.ofString "turn"
      · simp only [if_pos e1]
      by_cases e2 : y = Str.ofString "uri"
      · simp only [if_neg e1, if_pos e2]
      by_cases e3 : y = Str.ofString "local"
      · simp only [if_neg e1, if_neg e2, if_pos e3]
      by_cases e4 : y = Str.ofString "name"
      · simp only [if_neg e1, if_neg e2, if_neg e3, if_pos e4]
      · simp only [if_neg e1, if_neg e2, if_neg e3, if_neg e4]; exact hm₁ y e1 e2 e3 e4)
    clear F' FR NR Na Nb Fb lFa N
    subst em
    (try k_unmd); (try k_fold)
    have hI2 := hI
    simp only [List.forall_mem_cons] at hI2
    have hI3 : @Ne Addr fd I := hI2.1
    have hI4 : @Ne Addr src I := hI2.2.1
    have hI3' := hI3.symm
    have hI4' := hI4.symm
    have fdsrc' := fdsrc.symm
    have so := AS.srcOff
    have fo1 := AS.fdOff
    k_extra "GO5"
    rename_i hA ka na hB kb nb hC kc nc hD kd nd l9 hE F9 N9 l1q
    obtain ⟨e4, e3, e2, e1⟩ := four_ne N9
    have e0 : l9 ≠ src := Nat.ne_of_gt l1q.2.2.2.2.2.2.1
    k_extra "GO6"
    rename_i k' v' h2 x2 tx2 y2 ty2 n2 tk2 FF NN hv' r2 r3 r4
    obtain ⟨TT, u, l, nm, ta, tb, tc, nn, rfl, eT, N11, hopt⟩ := pick4 NN e4 e3 e2 e1 hv'
    clear NN hv' N9 e0 e1 e2 e3 e4 l1q F9 q1 q2 q3
    k_extra "GO6"
    rename_i hA2 hB2 hC2 hD2 l2 hE2 F12 N12 l1b k2 vv hF2 x3 tx3 y3 ty3 n3 tk3 F13 N13 hv2 r5 r6 r7 hG2 F14 N14 hk5 nm5
    obtain ⟨wd, tw, rfl⟩ : ∃ wd tw, vv = .str wd tw := by
      rcases k2 with _ | _ | _ | _ | k2
      · cases hv2; exact ⟨_, _, rfl⟩
      · cases hv2; exact ⟨_, _, rfl⟩
      · cases hv2; exact ⟨_, _, rfl⟩
      · cases hv2; exact ⟨_, _, rfl⟩
      · simp at hv2
    have kO := key_off N13 rfl
    refine setTup_c (R1 := (fd, fo') :: KR) (knd := PySem.strKind prog w) (enc := PyData.str) (ks := [u, l]) (dv := .str wd) PyProof.V.same_str (by ktr_units) (PyProof.V.Flat.str _ _) F14 N14 ?_ AS.tup (.head _) (TupKeyObj.made (.cons (strKind_is _ _ _ _) (.cons (strKind_is _ _ _ _) .nil))) (by rw [sizeLine_eq]; have := AS.dlen; omega) ?_
    · intro q hq
      rcases List.mem_cons.mp hq with e | hq
      · rw [e]; exact .tail _ (.tail _ (.tail _ (.tail _ (.head _))))
      · exact .tail _ (.tail _ (.tail _ (.tail _ (.tail _ (.tail _ (List.mem_append_right _ (List.mem_append_left _ hq)))))))
    intro h9 fo9 F15 N15 T15 hne
    obtain ⟨K0, ko, N16, T16, k1, k2, k3, k4⟩ := attr_mid N15 T15 hne kO hI3' fdsrc fo1
    obtain ⟨tt, htt⟩ := AS.st.hdt
    have c1 : (tr, instObj 330 dt) ∈ M' ++ ((K0, ko) :: (I, oI) :: (fd, fo9) :: (src, srcO x3 tx3 y3 ty3 n3) :: (KR ++ R)) := List.mem_append_left _ AS.st.htr
    have c2 : (dt, dictOf (treeE w.params tt rl) 1) ∈ M' ++ ((K0, ko) :: (I, oI) :: (fd, fo9) :: (src, srcO x3 tx3 y3 ty3 n3) :: (KR ++ R)) := List.mem_append_left _ htt
    clear N12 F12 F13 F14 N13 N14 N15 T15 hv2 kO hne hk5 nm5 l1b
    k_extra "GO6"
    rename_i hH2 F17 N17 hk6 nm6
    refine item_tupTab (knd := PySem.strKind prog w) (enc := PyData.str) (ks := [u, l]) (dv := .str wd) PyProof.V.same_str (by ktr_units) N17 (TupTab.mono T16 (fun q hq => ?_)) (.head _) (TupKeyObj.made (.cons (strKind_is _ _ _ _) (.cons (strKind_is _ _ _ _) .nil))) (by rw [PyProof.Rows.lookup_putK (keyEnc_tuple PyProof.V.keyEnc_str), if_pos rfl]) (fun v hv => ?_)
    · rcases List.mem_cons.mp hq with e | hq
      · rw [e]; exact .tail _ (List.mem_append_right _ (.tail _ (.tail _ (.head _))))
      rcases List.mem_cons.mp hq with e | hq
      · rw [e]; exact .tail _ (List.mem_append_right _ (.head _))
      · exact .tail _ (List.mem_append_right _ (.tail _ (.tail _ (.tail _ (.tail _ (List.mem_append_left _ hq))))))
    obtain ⟨tw2, rfl⟩ := hv.str_inv
    k_extra "GO6"
    have hS16 : Sep M' ((K0, ko) :: (I, oI) :: (fd, fo9) :: (src, srcO x3 tx3 y3 ty3 n3) :: (KR ++ R)) := by
      intro q hq r hr
      rcases List.mem_cons.mp hr with e | hr
      · rw [e]; exact (k2 q (List.mem_append_left _ hq)).symm
      rcases List.mem_cons.mp hr with e | hr
      · rw [e]; exact (hI2.2.2 q (List.mem_append_left _ hq)).symm
      rcases List.mem_cons.mp hr with e | hr
      · rw [e]; exact (fo1 q (List.mem_append_left _ hq)).symm
      rcases List.mem_cons.mp hr with e | hr
      · rw [e]; exact (so q (List.mem_append_left _ hq)).symm
      · exact AS.sep q hq r hr
    have hexl := AS.len
    have hlen := AS.ae.len
    have hvl := AS.ae.hl
    have hki : j < 3 := by omega
    refine set_attribute_c (by k_extra "CX") (news_sub (by assumption) (fun q hq => .tail _ hq)) hS16 AS.st (AS.ae.at_i hlt) AS.ae.atIx (by rw [AS.ae.v]; exact hk) (by omega) (by rw [AS.ae.v]; dsimp only; omega) (by ktr_room) (by ktr_units) ?_
    intro v9 h10 tk9 M2 n9 ts2 F18 N18 S18 TS18 SP
    k_steps
    obtain ⟨t2, exs2, vals2, AS2⟩ := AS.turn hlt hopt S18 TS18 SP T16 k1 k2 k3
    refine ⟨_, _, _, (fd, fo9) :: (src, srcO x3 tx3 y3 ty3 n3) :: (M2 ++ (((K0, ko) :: KR) ++ R)), rfl, F18, fun q hq => N18 _ ?_, fun q hq => ?_, M2, (K0, ko) :: KR, n9, x3, tx3, y3, ty3, n3, fo9, _, ts2, t2, exs2, vals2, rfl, r5, r6, r7, AS2, fun y y1 y2 y3 y4 => by simp only [if_neg y1, if_neg y2, if_neg y3, if_neg y4]⟩
    · rcases List.mem_cons.mp hq with e | hq
      · rw [e]; exact List.mem_append_right _ (.tail _ (.head _))
      rcases List.mem_cons.mp hq with e | hq
      · rw [e]; exact List.mem_append_right _ (.tail _ (.tail _ (.head _)))
      rcases List.mem_cons.mp hq with e | hq
      · rw [e]; exact List.mem_append_right _ (.tail _ (.tail _ (.tail _ (.head _))))
      rcases List.mem_append.mp hq with hq | hq
      · exact List.mem_append_left _ hq
      rcases List.mem_cons.mp hq with e | hq
      · rw [e]; exact List.mem_append_right _ (.head _)
      · exact List.mem_append_right _ (.tail _ (.tail _ (.tail _ (.tail _ hq))))
    · rcases List.mem_cons.mp hq with e | hq
      · rw [e]; exact hI3
      rcases List.mem_cons.mp hq with e | hq
      · rw [e]; exact hI4
      rcases List.mem_append.mp hq with hq | hq
      · exact (S18 q hq _ (.tail _ (.head _))).symm
      rcases List.mem_cons.mp hq with e | hq
      · rw [e]; exact k4.symm
      · exact hI2.2.2 q (List.mem_append_right _ hq)
  · rintro h tk m₁ news₁ ⟨M', KR, n', x', tx', y', ty', ns', fo', D, ts', t', exs, vals, rfl, q1, q2, q3, AS, hm₁⟩ F' N'
    have F2 := fr_map F' (m₂ := fun y => if y = Str.ofString "turn" then m₁ y else if y = Str.ofString "uri" then m₁ y else if y = Str.ofString "local" then m₁ y else if y = Str.ofString "name" then m₁ y else m₀ y) (fun y => by
      by_cases e1 : y = Str.ofString "turn"
      · simp only [if_pos e1]
      by_cases e2 : y = Str.ofString "uri"
      · simp only [if_neg e1, if_pos e2]
      by_cases e3 : y = Str.ofString "local"
      · simp only [if_neg e1, if_neg e2, if_pos e3]
      by_cases e4 : y = Str.ofString "name"
      · simp only [if_neg e1, if_neg e2, if_neg e3, if_pos e4]
      · simp only [if_neg e1, if_neg e2, if_neg e3, if_neg e4]; exact hm₁ y e1 e2 e3 e4)
    clear F' FR NR Na Nb Fb lFa N
    subst em
    (try k_unmd); (try k_fold)
    have hj2 : k.toNat ≤ 2 := by omega
    have hI2 := AS.srcOff
    have fo1 := AS.fdOff
    have hexl := AS.len
    have hlen := AS.ae.len
    have hvl := AS.ae.hl
    k_extra "GO5"
    rename_i l9 hE9 F9 N9 l1q
    have e0 : l9 ≠ src := Nat.ne_of_gt l1q.2.1
    walk_at "call ref"
    rename_i k' v' h2 x2 tx2 y2 ty2 n2 tk2 FF NN hv' r2 r3 r4
    have hw : v' = .none ∨ ∃ wd tw, v' = .str wd tw := by
      rcases k' with _ | _ | _ | _ | k'
      · cases hv'; exact .inl rfl
      · cases hv'; exact .inl rfl
      · cases hv'; exact .inr ⟨_, _, rfl⟩
      · cases hv'; exact .inr ⟨_, _, rfl⟩
      · simp at hv'
    clear hv' F9 N9 e0 q1 q2 q3
    rcases hw with rfl | ⟨wd, tw, rfl⟩
    · k_extra "GO6"
      rename_i hX FX NX hY FY NY hk2 nm2 kF kN Tc kX
      exact hret _ _ _ _ _ _ _ _ _ _ _ _ _ _ _ _ _ _ _ _ _ kF (news_sub kN (by k_extra "PICK")) (AS.fin hj2) rfl r2 r3 r4 fdsrc (fun q hq => key_off NX rfl q (.tail _ hq))
    · obtain ⟨tt, htt⟩ := AS.st.hdt
      have c1 : (tr, instObj 330 dt) ∈ M' ++ (KR ++ R) := List.mem_append_left _ AS.st.htr
      have c2 : (dt, dictOf (treeE w.params tt rl) 1) ∈ M' ++ (KR ++ R) := List.mem_append_left _ htt
      k_extra "GO6"
      rename News _ _ _ _ => N9
      have hS9 : Sep M' ((fd, fo') :: (src, srcO x2 tx2 y2 ty2 n2) :: (KR ++ R)) := by
        intro q hq r hr
        rcases List.mem_cons.mp hr with e | hr
        · rw [e]; exact (AS.fdOff q (List.mem_append_left _ hq)).symm
        rcases List.mem_cons.mp hr with e | hr
        · rw [e]; exact (AS.srcOff q (List.mem_append_left _ hq)).symm
        · exact AS.sep q hq r hr
      refine set_attribute_c (M := M') (R := (fd, fo') :: (src, srcO x2 tx2 y2 ty2 n2) :: (KR ++ R)) (by k_extra "CX") (news_sub N9 (fun q hq => ?_)) hS9 AS.st (AS.ae.at_i hlt) AS.ae.atIx (by rw [AS.ae.v]; exact hk) (by omega) (by rw [AS.ae.v]; dsimp only; omega) (by ktr_room) (by ktr_units) ?_
      · rcases List.mem_append.mp hq with hq | hq
        · exact .tail _ (.tail _ (.tail _ (List.mem_append_left _ hq)))
        rcases List.mem_cons.mp hq with e | hq
        · rw [e]; exact .tail _ (.head _)
        rcases List.mem_cons.mp hq with e | hq
        · rw [e]; exact .tail _ (.tail _ (.head _))
        · exact .tail _ (.tail _ (.tail _ (List.mem_append_right _ hq)))
      intro v9 h10 tk9 M2 n9 ts2 F18 N18 S18 TS18 SP
      obtain ⟨t2, exs2, vals2, AF⟩ := AS.fin2 hj2 hlt S18 TS18 SP
      have kO := key_off (K := h10.objs.size) N18 rfl
      k_extra "GO6"
      rename_i hY FY NY hk2 nm2 kF kN Tc kX
      exact hret _ fd _ (.str wd tw) _ _ x2 tx2 y2 ty2 n2 n9 M2 KR fo' D ts2 t2 exs2 vals2 (some wd) kF (news_sub kN sub_end) AF ⟨_, rfl⟩ r2 r3 r4 fdsrc (fun q hq => kO q (sub_end0 q hq))
end
noncomputable def TextOk (x : Str) : Prop := x = Str.ofString "" ∨ x = Str.ofString " " ∨ x = Str.ofString "\t\r\n" ∨ x = Str.ofString " x" ∨ x = Str.ofString "\u00a0" ∨ x = Str.ofString "\u000b"
theorem TextOk.sign {x : Str} (h : TextOk x) : SignOk x := by
  rcases h with rfl | rfl | rfl | rfl | rfl | rfl
  all_goals exact ⟨by decide +kernel, by decide +kernel⟩
theorem TextOk.blank {x : Str} (h : TextOk x) : isBlankS x = isBlankR x := by
  rcases h with rfl | rfl | rfl | rfl | rfl | rfl
  all_goals decide +kernel
theorem nodup_at {α β : Type} {f : α → β} {l : List α} (h : (l.map f).Nodup) {i j : Nat} {a b : α} (hi : l[i]? = some a) (hj : l[j]? = some b) (e : f a = f b) : i = j := by
  obtain ⟨h1, e1⟩ := List.getElem?_eq_some_iff.mp hi
  obtain ⟨h2, e2⟩ := List.getElem?_eq_some_iff.mp hj
  have hp := List.pairwise_iff_getElem.mp h
  rcases Nat.lt_trichotomy i j with hlt | he | hlt
  · exact absurd (by rw [List.getElem_map, List.getElem_map, e1, e2]; exact e) (hp i j (by rw [List.length_map]; exact h1) (by rw [List.length_map]; exact h2) hlt)
  · exact he
  · exact absurd (by rw [List.getElem_map, List.getElem_map, e1, e2]; exact e.symm) (hp j i (by rw [List.length_map]; exact h2) (by rw [List.length_map]; exact h1) hlt)
noncomputable def AttrsT (ts : List TN) (vs : List Value) (avs : List NodeV) : Prop := All2 (fun v nv => ∃ (k : Nat) (tok : Tok) (t : TN), v = .int k tok ∧ ts[k]? = some t ∧ t.v = nv ∧ nv.kind = Str.ofString "attribute") vs avs
theorem AttrsT.mono {ts ts' : List TN} {vs : List Value} {avs : List NodeV} (h : AttrsT ts vs avs) (hs : ∀ (k : Nat) (t : TN), ts[k]? = some t → t.v.kind = Str.ofString "attribute" → ∃ t', ts'[k]? = some t' ∧ t'.v = t.v) : AttrsT ts' vs avs :=
  All2.imp (fun v nv ⟨k, tok, t, e, ht, hv, hk⟩ => let ⟨t', a, b⟩ := hs k t ht (by rw [hv]; exact hk); ⟨k, tok, t', e, a, b.trans hv, hk⟩) h
theorem AttrsT.into {P : Params} {M news : List (Addr × Obj)} {tr dt rl : Addr} {n : Nat} {ts : List TN} {vs : List Value} {avs : List NodeV} (TS : TreeSt P M tr dt rl n ts) (hs : ∀ q ∈ M, q ∈ news) (h : AttrsT ts vs avs) : AttrsIn P news (ts.map fun t => Value.ref t.x) vs avs := by
  unfold AttrsT at h
  induction h with
  | nil => exact .nil
  | cons a _ ih =>
    obtain ⟨k, tok, t, rfl, ht, rfl, hk⟩ := a
    exact .cons (TS.node hs ht) ih
structure ElS (prog : Program) (w : World) (K : List (Addr × Obj)) (ts : List TN) (v : RowV) (t : TN) : Prop where
  at_ : ∃ avs D, AttrsT ts t.v.ats avs ∧ TupTab (PySem.strKind prog w) PyData.str K v.held D ∧
    (∀ u l, u = Str.ofString "" ∨ u = Str.ofString "u" → PySem.Spec.lookup (encTuple PyData.str [u, l]) D = (attrV avs u l).map PyData.str) ∧ (avs.find? spaceName).map (·.val) = v.word
  len : t.v.ats.length < 1000
  uri : t.v.uri = v.uri
  loc : t.v.loc = v.loc
  lk : v.loc = Str.ofString "if" ∨ v.loc = Str.ofString "a"
  nm : t.v.name.length ≤ 1000
structure RowOk (prog : Program) (w : World) (K : List (Addr × Obj)) (ts : List TN) (rvs : List (Addr × RowV)) (j : Nat) (ra : Addr) (v : RowV) (i : Nat) (t : TN) : Prop where
  node : v.node = (i : Int)
  ti : ts[i]? = some t
  kind : t.v.kind = v.kind
  kok : KindOk v.kind
  kids : IntsAre t.v.kids ((rvs.filter fun q => decide (q.2.above = .ref ra)).map (·.2.node))
  above : (v.above = .none ∧ v.kind = Str.ofString "root") ∨ ∃ j' rb vb, j' < j ∧ rvs[j']? = some (rb, vb) ∧ v.above = .ref rb ∧ (∃ tok, t.v.par = .int vb.node tok)
  txt : TextOk v.text
  val : v.kind = Str.ofString "text" → t.v.val = v.text
  vlen : t.v.val.length ≤ 1000
  el : v.kind = Str.ofString "element" → ElS prog w K ts v t
structure DocOk (prog : Program) (w : World) (K : List (Addr × Obj)) (ts : List TN) (rvs : List (Addr × RowV)) : Prop where
  rows : ∀ q ∈ rvs, RowIn prog w K q.1 q.2
  nodup : (rvs.map (·.1)).Nodup
  nnodup : (rvs.map (·.2.node)).Nodup
  all : ∀ j ra v, rvs[j]? = some (ra, v) → ∃ i t, RowOk prog w K ts rvs j ra v i t
theorem DocOk.mono {prog : Program} {w : World} {K K' : List (Addr × Obj)} {ts : List TN} {rvs : List (Addr × RowV)} (h : DocOk prog w K ts rvs) (hs : ∀ q ∈ K, q ∈ K') : DocOk prog w K' ts rvs := by
  refine ⟨fun q hq => (h.rows q hq).mono hs, h.nodup, h.nnodup, fun j ra v hj => ?_⟩
  obtain ⟨i, t, R⟩ := h.all j ra v hj
  refine ⟨i, t, R.node, R.ti, R.kind, R.kok, R.kids, R.above, R.txt, R.val, R.vlen, fun he => ?_⟩
  obtain ⟨⟨avs, D, a1, a2, a3, a4⟩, b1, b2, b3, b4, b5⟩ := R.el he
  exact ⟨⟨avs, D, a1, TupTab.mono a2 hs, a3, a4⟩, b1, b2, b3, b4, b5⟩
theorem str_ne_attr {k : Str} (h : k = Str.ofString "root" ∨ k = Str.ofString "element") : k ≠ Str.ofString "attribute" := by
  rcases h with rfl | rfl <;> decide
theorem DocOk.push {prog : Program} {w : World} {K K' : List (Addr × Obj)} {ts ts' : List TN} {rvs : List (Addr × RowV)} {j0 i0 : Nat} {rb ra : Addr} {vb v : RowV} {t0 t0' tn : TN} {tok tok2 : Tok}
    (h : DocOk prog w K ts rvs) (hs : ∀ q ∈ K, q ∈ K') (hj : rvs[j0]? = some (rb, vb)) (hn0 : vb.node = (i0 : Int)) (hi0 : ts[i0]? = some t0) (hk0 : vb.kind = Str.ofString "root" ∨ vb.kind = Str.ofString "element")
    (h1 : ts'[i0]? = some t0') (h2 : t0'.v = { t0.v with kids := t0.v.kids ++ [.int ts.length tok] }) (h3 : ∀ k t, k ≠ i0 → ts[k]? = some t → ts'[k]? = some t)
    (h4 : ts'[ts.length]? = some tn) (hv1 : v.node = (ts.length : Int)) (hv2 : v.above = .ref rb) (hra : ∀ q ∈ K, q.1 ≠ ra) (hrow : RowIn prog w K' ra v)
    (hk : tn.v.kind = v.kind) (hkk : KindOk v.kind) (hkids : tn.v.kids = []) (hpar : tn.v.par = .int i0 tok2) (htx : TextOk v.text) (hval : v.kind = Str.ofString "text" → tn.v.val = v.text) (hvl : tn.v.val.length ≤ 1000)
    (hel : v.kind = Str.ofString "element" → ElS prog w K' ts' v tn) : DocOk prog w K' ts' (rvs ++ [(ra, v)]) := by
  have nra : ∀ q ∈ rvs, q.1 ≠ ra := by
    intro q hq
    obtain ⟨o, kvs, t1, t2, t3, t4, t5, wv, m, _, _, _, _, _, _, _, _, _, _, _⟩ := h.rows q hq
    exact hra _ m
  have nab : ∀ q ∈ rvs, q.2.above ≠ .ref ra := by
    intro q hq e
    obtain ⟨j, hj⟩ := List.mem_iff_getElem?.mp hq
    obtain ⟨i, t, R⟩ := h.all j q.1 q.2 hj
    rcases R.above with ⟨z, _⟩ | ⟨j', rb', vb', _, hj', z, _⟩
    · rw [z] at e; cases e
    · rw [z] at e
      injection e with e
      exact nra _ (List.mem_of_getElem? hj') e
  have nlt : ∀ q ∈ rvs, ∃ i : Nat, q.2.node = (i : Int) ∧ i < ts.length := by
    intro q hq
    obtain ⟨j, hj⟩ := List.mem_iff_getElem?.mp hq
    obtain ⟨i, t, R⟩ := h.all j q.1 q.2 hj
    exact ⟨i, R.node, (List.getElem?_eq_some_iff.mp R.ti).1⟩
  have hrb : rb ≠ ra := nra _ (List.mem_of_getElem? hj)
  have hk0t : t0.v.kind ≠ Str.ofString "attribute" := by
    obtain ⟨i, t, R⟩ := h.all j0 rb vb hj
    have : i = i0 := by have := R.node; rw [hn0] at this; omega
    subst this
    have := R.ti; rw [hi0] at this; cases this
    rw [R.kind]; exact str_ne_attr hk0
  have keepA : ∀ (k : Nat) (t : TN), ts[k]? = some t → t.v.kind = Str.ofString "attribute" → ∃ t', ts'[k]? = some t' ∧ t'.v = t.v := by
    intro k t hk ha
    by_cases e : k = i0
    · subst e; rw [hi0] at hk; cases hk; exact absurd ha hk0t
    · exact ⟨t, h3 k t e hk, rfl⟩
  have hbr : (Value.ref rb = Value.ref ra) = False := by simp [hrb]
  refine ⟨fun q hq => ?_, ?_, ?_, fun j ra2 v2 hj2 => ?_⟩
  · rcases List.mem_append.mp hq with hq | hq
    · exact (h.rows q hq).mono hs
    · rw [List.mem_singleton.mp hq]; exact hrow
  · rw [List.map_append]
    refine List.pairwise_append.mpr ⟨h.nodup, List.pairwise_singleton _ _, fun a ha b hb => ?_⟩
    obtain ⟨q, hq, rfl⟩ := List.mem_map.mp ha
    simp only [List.map_cons, List.map_nil, List.mem_singleton] at hb
    rw [hb]; exact nra q hq
  · rw [List.map_append]
    refine List.pairwise_append.mpr ⟨h.nnodup, List.pairwise_singleton _ _, fun a ha b hb => ?_⟩
    obtain ⟨q, hq, rfl⟩ := List.mem_map.mp ha
    simp only [List.map_cons, List.map_nil, List.mem_singleton] at hb
    obtain ⟨i, e, hlt⟩ := nlt q hq
    rw [hb, hv1, e]; omega
  · by_cases hlt : j < rvs.length
    · rw [List.getElem?_append_left hlt] at hj2
      obtain ⟨i, t, R⟩ := h.all j ra2 v2 hj2
      have habove : (v2.above = .none ∧ v2.kind = Str.ofString "root") ∨ ∃ j' rb vb, j' < j ∧ (rvs ++ [(ra, v)])[j']? = some (rb, vb) ∧ v2.above = .ref rb ∧ (∃ tok, t.v.par = .int vb.node tok) := by
        rcases R.above with e | ⟨j', rb', vb', a, b, c, d⟩
        · exact .inl e
        · exact .inr ⟨j', rb', vb', a, by rw [List.getElem?_append_left (List.getElem?_eq_some_iff.mp b).1]; exact b, c, d⟩
      by_cases e : i = i0
      · subst e
        have ejj : j = j0 := nodup_at (f := fun q : Addr × RowV => q.2.node) h.nnodup hj2 hj (by show v2.node = vb.node; rw [R.node, hn0])
        subst ejj
        rw [hj] at hj2; cases hj2
        have := R.ti; rw [hi0] at this; cases this
        refine ⟨i, t0', R.node, h1, by rw [h2]; exact R.kind, R.kok, ?_, by rw [h2]; exact habove, R.txt, by rw [h2]; exact R.val, by rw [h2]; exact R.vlen, fun he => ?_⟩
        · rw [h2, List.filter_append, List.map_append]
          refine R.kids.append ?_
          simp only [List.filter_cons, hv2, decide_true, if_true, List.filter_nil, List.map_cons, List.map_nil]
          rw [hv1]
          exact .cons _ _ .nil
        · obtain ⟨⟨avs, D, a1, a2, a3, a4⟩, b1, b2, b3, b4, b5⟩ := R.el he
          exact ⟨⟨avs, D, by rw [h2]; exact a1.mono keepA, TupTab.mono a2 hs, a3, a4⟩, by rw [h2]; exact b1, by rw [h2]; exact b2, by rw [h2]; exact b3, b4, by rw [h2]; exact b5⟩
      · have hrr : rb ≠ ra2 := by
          intro er
          have ejj : j = j0 := nodup_at (f := fun q : Addr × RowV => q.1) h.nodup hj2 hj er.symm
          subst ejj
          rw [hj] at hj2; cases hj2
          have := R.node; rw [hn0] at this
          exact e (by omega)
        refine ⟨i, t, R.node, h3 i t e R.ti, R.kind, R.kok, ?_, habove, R.txt, R.val, R.vlen, fun he => ?_⟩
        · rw [List.filter_append, List.map_append]
          have : (Value.ref rb = Value.ref ra2) = False := by simp [hrr]
          simp only [List.filter_cons, hv2, this, decide_false, List.filter_nil, List.map_nil, List.append_nil]
          simpa using R.kids
        · obtain ⟨⟨avs, D, a1, a2, a3, a4⟩, b1, b2, b3, b4, b5⟩ := R.el he
          exact ⟨⟨avs, D, a1.mono keepA, TupTab.mono a2 hs, a3, a4⟩, b1, b2, b3, b4, b5⟩
    · rw [List.getElem?_append_right (Nat.le_of_not_lt hlt)] at hj2
      have hz : j - rvs.length = 0 := by
        by_cases hz : j - rvs.length = 0
        · exact hz
        · rw [List.getElem?_eq_none (by simp; omega)] at hj2; cases hj2
      rw [hz] at hj2
      cases hj2
      refine ⟨ts.length, tn, hv1, h4, hk, hkk, ?_, .inr ⟨j0, rb, vb, ?_, ?_, hv2, tok2, ?_⟩, htx, hval, hvl, hel⟩
      · rw [hkids]
        have : (rvs ++ [(ra, v)]).filter (fun q => decide (q.2.above = .ref ra)) = [] := by
          rw [List.filter_eq_nil_iff]
          intro q hq
          rcases List.mem_append.mp hq with hq | hq
          · simpa using nab q hq
          · rw [List.mem_singleton.mp hq]; simp [hv2, hrb]
        rw [this]; exact .nil
      · have := (List.getElem?_eq_some_iff.mp hj).1; omega
      · rw [List.getElem?_append_left (List.getElem?_eq_some_iff.mp hj).1]; exact hj
      · rw [hn0]; exact hpar
theorem keeps_step {avs : List NodeV} {wd : Option Str} {d0 : List (List NodeV)} {d1 : List (Option Str)} (h : (avs.find? spaceName).map (·.val) = wd) (hd : keepsV d0 = keptW d1) : keepsV (avs :: d0) = keptW (wd :: d1) := by
  rw [keepsV]
  cases e : avs.find? spaceName with
  | none => rw [e] at h; subst h; rw [Option.map_none, keptW]; exact hd
  | some a => rw [e] at h; subst h; rw [Option.map_some, keptW]
theorem DocOk.up {prog : Program} {w : World} {M K news : List (Addr × Obj)} {tr dt rl : Addr} {n : Nat} {ts : List TN} {rvs : List (Addr × RowV)} (h : DocOk prog w K ts rvs) (TS : TreeSt w.params M tr dt rl n ts) (hM : ∀ q ∈ M, q ∈ news) (hK : ∀ q ∈ K, q ∈ news) :
    ∀ (b j : Nat), j < b → ∀ ra v, rvs[j]? = some (ra, v) → ∃ d0 d1, (∀ t, UpIn w.params news (ts.map fun t => Value.ref t.x) (.int v.node t) d0) ∧ RowUp prog w news (.ref ra) d1 ∧ keepsV d0 = keptW d1
  | 0, j, hb, _, _, _ => absurd hb (Nat.not_lt_zero _)
  | b + 1, j, hb, ra, v, hj => by
    obtain ⟨i, t, R⟩ := h.all j ra v hj
    have hN := TS.node hM R.ti
    have hR := (h.rows _ (List.mem_of_getElem? hj)).mono hK
    rw [← R.node] at hN
    by_cases he : v.kind = Str.ofString "element"
    · obtain ⟨⟨avs, D, a1, a2, a3, a4⟩, b1, b2, b3, b4, b5⟩ := R.el he
      rcases R.above with ⟨_, z⟩ | ⟨j', rb, vb, hlt, hj', hab, tok, hp⟩
      · rw [he] at z; exact absurd z (by decide)
      · obtain ⟨d0, d1, u1, u2, u3⟩ := DocOk.up h TS hM hK b j' (by omega) rb vb hj'
        refine ⟨avs :: d0, v.word :: d1, fun t' => ?_, .step hR (beq_iff_eq.mpr he) (by rw [hab]; exact u2), keeps_step a4 u3⟩
        exact .step hN (by rw [R.kind]; exact beq_iff_eq.mpr he) (a1.into TS hM) b1 (by rw [hp]; exact u1 tok)
    · have hne : (v.kind == Str.ofString "element") = false := beq_eq_false_iff_ne.mpr he
      exact ⟨[], [], fun t' => .stop hN (by rw [R.kind]; exact hne), .stop hR hne, rfl⟩
theorem DocOk.elGood {prog : Program} {w : World} {M K news : List (Addr × Obj)} {tr dt rl : Addr} {n : Nat} {ts : List TN} {rvs : List (Addr × RowV)} (h : DocOk prog w K ts rvs) (TS : TreeSt w.params M tr dt rl n ts) (hM : ∀ q ∈ M, q ∈ news) (hK : ∀ q ∈ K, q ∈ news) (hlr : rvs.length < 1000)
    {j i : Nat} {ra : Addr} {v : RowV} {t : TN} (hj : rvs[j]? = some (ra, v)) (R : RowOk prog w K ts rvs j ra v i t) (he : v.kind = Str.ofString "element") : ElGood prog w news (ts.map fun t => Value.ref t.x) rvs ra v t.v := by
  obtain ⟨⟨avs, D, a1, a2, a3, a4⟩, b1, b2, b3, b4, b5⟩ := R.el he
  obtain ⟨d0, d1, u1, u2, u3⟩ := DocOk.up h TS hM hK (j + 1) j (Nat.lt_succ_self _) ra v hj
  have hkl := R.kids.length
  rw [List.length_map] at hkl
  have := List.length_filter_le (fun q : Addr × RowV => decide (q.2.above = .ref ra)) rvs
  exact ⟨avs, D, d0, d1, a1.into TS hM, b1, TupTab.mono a2 hK, a3, b5, R.kids, by omega, u1, u2, u3, b2, b3, b4⟩
theorem DocOk.rowsIn {prog : Program} {w : World} {K news : List (Addr × Obj)} {rw_ : Addr} {nr : Nat} {ts : List TN} {rvs : List (Addr × RowV)} (h : DocOk prog w K ts rvs) (hK : ∀ q ∈ K, q ∈ news) (hl : rvs.length < 1000) (hr : (rw_, listOf (rvs.map fun q => Value.ref q.1).toArray nr) ∈ news) : RowsIn prog w news rw_ rvs := by
  refine ⟨⟨nr, hr⟩, hl, fun q hq => (h.rows q hq).mono hK, fun q hq => ?_⟩
  obtain ⟨j, hj⟩ := List.mem_iff_getElem?.mp hq
  obtain ⟨i, t, R⟩ := h.all j q.1 q.2 hj
  rcases R.above with ⟨z, _⟩ | ⟨j', rb, vb, _, hj', z, _⟩
  · exact .inl z
  · exact .inr ⟨rb, vb, z, (h.rows _ (List.mem_of_getElem? hj')).mono hK⟩
structure Pair (prog : Program) (w : World) (news : List (Addr × Obj)) (its : List Value) (rvs : List (Addr × RowV)) (ra : Addr) (v : RowV) (b : Nat) (t : TT) (r : RT) : Prop where
  it : InT w.params news its t
  ir : InR prog w news rvs r
  num : t.num = v.node
  ra : r.ra = ra
  v : r.v = v
  blank : blanksT t = blanksR r
  sz1 : sizeT t ≤ 2 ^ b
  sz2 : szT r ≤ 2 ^ b
  ht : htT r ≤ b + 1
structure Pairs (prog : Program) (w : World) (news : List (Addr × Obj)) (its : List Value) (rvs : List (Addr × RowV)) (qs : List (Addr × RowV)) (b : Nat) (tl : List TT) (rl : List RT) : Prop where
  it : ∀ t ∈ tl, InT w.params news its t
  ir : ∀ r ∈ rl, InR prog w news rvs r
  num : tl.map TT.num = qs.map (·.2.node)
  rv : qs = rl.map (fun k => (k.ra, k.v))
  blank : blanksL tl = blanksRL rl
  sz1 : sizeL tl + 1 ≤ 2 ^ b
  sz2 : szL rl + 1 ≤ 2 ^ b
  ht : htL rl ≤ b
theorem InT.num_eq {i : Int} {k v : Str} {kids : List TT} : (TT.mk i k v kids).num = i := rfl
theorem DocOk.trees {prog : Program} {w : World} {M K news : List (Addr × Obj)} {tr dt rl : Addr} {n : Nat} {ts : List TN} {rvs : List (Addr × RowV)} (h : DocOk prog w K ts rvs) (TS : TreeSt w.params M tr dt rl n ts) (hM : ∀ q ∈ M, q ∈ news) (hK : ∀ q ∈ K, q ∈ news) (hl : rvs.length < 1000) :
    ∀ (b m : Nat), m + b = rvs.length → (∀ p : Addr × RowV → Bool, ∃ tl rl, Pairs prog w news (ts.map fun t => Value.ref t.x) rvs ((rvs.drop m).filter p) b tl rl) ∧
      ∀ j ra v, m ≤ j → rvs[j]? = some (ra, v) → ∃ t r, Pair prog w news (ts.map fun t => Value.ref t.x) rvs ra v (rvs.length - 1 - j) t r
  | 0, m, hb => by
    refine ⟨fun p => ⟨[], [], ?_⟩, fun j ra v hj e => ?_⟩
    · rw [List.drop_eq_nil_of_le (by omega)]
      exact ⟨fun _ h => (by cases h), fun _ h => (by cases h), rfl, rfl, rfl, by simp [sizeL], by simp [szL], by simp [htL]⟩
    · rw [List.getElem?_eq_none (by omega)] at e; cases e
  | b + 1, m, hb => by
    obtain ⟨ih1, ih2⟩ := DocOk.trees h TS hM hK hl b (m + 1) (by omega)
    have hm : m < rvs.length := by omega
    have key : ∀ ra v, rvs[m]? = some (ra, v) → ∃ t r, Pair prog w news (ts.map fun t => Value.ref t.x) rvs ra v b t r := by
      intro ra v hj
      obtain ⟨i, t, R⟩ := h.all m ra v hj
      have hN := TS.node hM R.ti
      have hR := (h.rows _ (List.mem_of_getElem? hj)).mono hK
      rw [← R.node] at hN
      obtain ⟨tl, rl, p1, p2, p3, p4, p5, p6, p7, p8⟩ := ih1 (fun q => decide (q.2.above = .ref ra))
      have hfil : (rvs.filter fun q => decide (q.2.above = .ref ra)) = (rvs.drop (m + 1)).filter fun q => decide (q.2.above = .ref ra) := by
        conv => lhs; rw [← List.take_append_drop (m + 1) rvs]
        rw [List.filter_append]
        have : (rvs.take (m + 1)).filter (fun q => decide (q.2.above = .ref ra)) = [] := by
          rw [List.filter_eq_nil_iff]
          intro q hq z
          have z : q.2.above = .ref ra := by simpa using z
          obtain ⟨k, hk⟩ := List.mem_iff_getElem?.mp hq
          rw [List.getElem?_take] at hk
          split at hk
          · rename_i hkm
            obtain ⟨i2, t2, R2⟩ := h.all k q.1 q.2 hk
            rcases R2.above with ⟨e, _⟩ | ⟨j', rb, vb, hlt, hj', e, _⟩
            · rw [e] at z; cases z
            · rw [e] at z
              injection z with z
              have := nodup_at (f := fun q : Addr × RowV => q.1) h.nodup hj' hj z
              omega
          · cases hk
        rw [this, List.nil_append]
      have hkl : tl.length < 1000 := by
        have e := congrArg List.length p3
        rw [List.length_map, List.length_map, ← hfil] at e
        have := List.length_filter_le (fun q : Addr × RowV => decide (q.2.above = .ref ra)) rvs
        omega
      refine ⟨.mk v.node t.v.kind t.v.val tl, .mk ra v rl, .mk hN (by rw [R.kind]; exact R.kok) R.vlen (by rw [p3, ← hfil]; exact R.kids) hkl p1, .mk hR R.kok R.txt.sign (by rw [hfil]; exact p4) p2, rfl, rfl, rfl, ?_, by rw [sizeT]; exact p6, by rw [szT]; exact p7, by rw [htT]; omega⟩
      rw [blanksT, blanksR, R.kind]
      by_cases hk1 : (v.kind == Str.ofString "text") = true
      · rw [if_pos hk1, if_pos hk1, R.val (beq_iff_eq.mp hk1), R.txt.blank]
      · rw [if_neg hk1, if_neg hk1, Bool.beq_comm (a := v.kind) (b := Str.ofString "root"), Bool.beq_comm (a := v.kind) (b := Str.ofString "element"), p5]
    refine ⟨fun p => ?_, fun j ra v hj e => ?_⟩
    · obtain ⟨tl, rl, q1, q2, q3, q4, q5, q6, q7, q8⟩ := ih1 p
      rw [List.drop_eq_getElem_cons hm]
      have hpow : 2 ^ (b + 1) = 2 ^ b + 2 ^ b := by rw [Nat.pow_succ]; omega
      by_cases hp : p rvs[m] = true
      · rw [List.filter_cons_of_pos hp]
        obtain ⟨t, r, k⟩ := key rvs[m].1 rvs[m].2 (List.getElem?_eq_getElem hm)
        refine ⟨t :: tl, r :: rl, fun x hx => ?_, fun x hx => ?_, ?_, ?_, ?_, ?_, ?_, ?_⟩
        · rcases List.mem_cons.mp hx with rfl | hx
          · exact k.it
          · exact q1 x hx
        · rcases List.mem_cons.mp hx with rfl | hx
          · exact k.ir
          · exact q2 x hx
        · rw [List.map_cons, List.map_cons, q3, k.num]
        · rw [List.map_cons, ← q4, k.ra, k.v]
        · rw [blanksL, blanksRL, k.blank, q5]
        · have := k.sz1; rw [sizeL]; omega
        · have := k.sz2; rw [szL]; omega
        · have := k.ht; rw [htL]; omega
      · rw [List.filter_cons_of_neg hp]
        exact ⟨tl, rl, q1, q2, q3, q4, q5, by omega, by omega, by omega⟩
    · by_cases e2 : j = m
      · subst e2
        obtain ⟨t, r, k⟩ := key ra v e
        have : rvs.length - 1 - j = b := by omega
        exact ⟨t, r, by rw [this]; exact k⟩
      · exact ih2 j ra v (by omega) e
section
variable {prog : Program} {w : World} {p : Program} {loose : List Str} {mean : ExcName → Option Value} {mg mb : Str → Option Value}
  {dp un : Nat} {gd : Option (List Code)} {cn : Str} {cs : Scope} {a : Addr} {ccd : Value} {cl : List (Str × Addr)} {outer : List Env} {A₀ : Around} {base h₀ : Heap} {L : Addr} {m : Str → Option Value} {rest news : List (Addr × Obj)} {s : Shared} {Q E : Value → Shared → Prop}
theorem say43 : True := by
  (k_with "GO7" => repeat' ((fail_if_success (with_reducible show wpAny _ _ (call (Value.ref 180) _) _ _ _)); (fail_if_success (with_reducible show wpAny _ _ (call (Value.ref 194) _) _ _ _)); (fail_if_success (with_reducible show wpAny _ _ (call (Value.ref 355) _) _ _ _)); (fail_if_success (with_reducible show wpAny _ _ (call (Value.ref 362) _) _ _ _)); (fail_if_success (with_reducible show wpAny _ _ (setItem (Value.ref _) _ _) _ _ _)); (fail_if_success (with_reducible show wpAny _ _ (pyIter _) _ _ _)); (first | (k_unfold; (try dsimp only)) | (k_end; wrow_close) | walk1 | (dsimp only; walk1) | (leave1; walk_say "STEP leave1"; try dsimp only))))
  trivial
structure DocS (prog : Program) (w : World) (R : List (Addr × Obj)) (src rws tr dt rl : Addr) (M K : List (Addr × Obj)) (n : Nat) (ts : List TN) (rvs : List (Addr × RowV)) (j : Nat) : Prop where
  sep : Sep M (K ++ R)
  srcOff : ∀ q ∈ M ++ (K ++ R), q.1 ≠ src
  rowOff : ∀ q ∈ M ++ (K ++ R), q.1 ≠ rws
  sepR : ∀ q ∈ K, ∀ r ∈ R, q.1 ≠ r.1
  st : TreeSt w.params M tr dt rl n ts
  doc : DocOk prog w K ts rvs
  tl : ts.length ≤ 1 + 4 * j
  rlen : rvs.length = j + 1
  el : 0 < j → ∃ q ∈ rvs, q.2.kind = Str.ofString "element"
  r0 : j = 0 → ∀ q ∈ rvs, q.2.kind = Str.ofString "root"
theorem led5 {a b c d e : Addr × Obj} {M K : List (Addr × Obj)} : ∀ q ∈ M ++ (a :: b :: c :: d :: e :: K), q ∈ a :: b :: c :: d :: e :: (M ++ K) := by
  intro q hq
  rcases List.mem_append.mp hq with hq | hq
  · exact .tail _ (.tail _ (.tail _ (.tail _ (.tail _ (List.mem_append_left _ hq)))))
  rcases List.mem_cons.mp hq with h | hq
  · rw [h]; exact .head _
  rcases List.mem_cons.mp hq with h | hq
  · rw [h]; exact .tail _ (.head _)
  rcases List.mem_cons.mp hq with h | hq
  · rw [h]; exact .tail _ (.tail _ (.head _))
  rcases List.mem_cons.mp hq with h | hq
  · rw [h]; exact .tail _ (.tail _ (.tail _ (.head _)))
  rcases List.mem_cons.mp hq with h | hq
  · rw [h]; exact .tail _ (.tail _ (.tail _ (.tail _ (.head _))))
  · exact .tail _ (.tail _ (.tail _ (.tail _ (.tail _ (List.mem_append_right _ hq)))))
theorem led5' {a b c d e : Addr × Obj} {M K : List (Addr × Obj)} : ∀ q ∈ a :: b :: c :: d :: e :: (M ++ K), q ∈ M ++ (a :: b :: c :: d :: e :: K) := by
  intro q hq
  rcases List.mem_cons.mp hq with h | hq
  · rw [h]; exact List.mem_append_right _ (.head _)
  rcases List.mem_cons.mp hq with h | hq
  · rw [h]; exact List.mem_append_right _ (.tail _ (.head _))
  rcases List.mem_cons.mp hq with h | hq
  · rw [h]; exact List.mem_append_right _ (.tail _ (.tail _ (.head _)))
  rcases List.mem_cons.mp hq with h | hq
  · rw [h]; exact List.mem_append_right _ (.tail _ (.tail _ (.tail _ (.head _))))
  rcases List.mem_cons.mp hq with h | hq
  · rw [h]; exact List.mem_append_right _ (.tail _ (.tail _ (.tail _ (.tail _ (.head _)))))
  rcases List.mem_append.mp hq with hq | hq
  · exact List.mem_append_left _ hq
  · exact List.mem_append_right _ (.tail _ (.tail _ (.tail _ (.tail _ (.tail _ hq)))))
theorem led5e {a b c d e : Addr × Obj} {M K R : List (Addr × Obj)} : ∀ q ∈ [c] ++ (d :: e :: (M ++ (([b, a] ++ K) ++ R))), q ∈ a :: b :: c :: d :: e :: (M ++ (K ++ R)) := by
  intro q hq
  rcases List.mem_cons.mp hq with h | hq
  · rw [h]; exact .tail _ (.tail _ (.head _))
  rcases List.mem_cons.mp hq with h | hq
  · rw [h]; exact .tail _ (.tail _ (.tail _ (.head _)))
  rcases List.mem_cons.mp hq with h | hq
  · rw [h]; exact .tail _ (.tail _ (.tail _ (.tail _ (.head _))))
  rcases List.mem_append.mp hq with hq | hq
  · exact .tail _ (.tail _ (.tail _ (.tail _ (.tail _ (List.mem_append_left _ hq)))))
  rcases List.mem_cons.mp hq with h | hq
  · rw [h]; exact .tail _ (.head _)
  rcases List.mem_cons.mp hq with h | hq
  · rw [h]; exact .head _
  · exact .tail _ (.tail _ (.tail _ (.tail _ (.tail _ (List.mem_append_right _ hq)))))
theorem sep5 {M K : List (Addr × Obj)} {a b c d e : Addr} {oa ob oc od oe : Obj} (h : Sep M K) (ha : ∀ q ∈ M, q.1 ≠ a) (hb : ∀ q ∈ M, q.1 ≠ b) (hc : ∀ q ∈ M, q.1 ≠ c) (hd : ∀ q ∈ M, q.1 ≠ d) (he : ∀ q ∈ M, q.1 ≠ e) : Sep M ((a, oa) :: (b, ob) :: (c, oc) :: (d, od) :: (e, oe) :: K) := by
  intro q hq r hr
  rcases List.mem_cons.mp hr with z | hr
  · rw [z]; exact (ha q hq).symm
  rcases List.mem_cons.mp hr with z | hr
  · rw [z]; exact (hb q hq).symm
  rcases List.mem_cons.mp hr with z | hr
  · rw [z]; exact (hc q hq).symm
  rcases List.mem_cons.mp hr with z | hr
  · rw [z]; exact (hd q hq).symm
  rcases List.mem_cons.mp hr with z | hr
  · rw [z]; exact (he q hq).symm
  · exact h q hq r hr
theorem Sep.off5 {M K : List (Addr × Obj)} {a b c d e : Addr} {oa ob oc od oe : Obj} (h : Sep M ((a, oa) :: (b, ob) :: (c, oc) :: (d, od) :: (e, oe) :: K)) : (∀ q ∈ M, q.1 ≠ a) ∧ (∀ q ∈ M, q.1 ≠ b) ∧ (∀ q ∈ M, q.1 ≠ c) ∧ (∀ q ∈ M, q.1 ≠ d) ∧ (∀ q ∈ M, q.1 ≠ e) ∧ Sep M K :=
  ⟨fun q hq => (h q hq _ (.head _)).symm, fun q hq => (h q hq _ (.tail _ (.head _))).symm, fun q hq => (h q hq _ (.tail _ (.tail _ (.head _)))).symm, fun q hq => (h q hq _ (.tail _ (.tail _ (.tail _ (.head _))))).symm, fun q hq => (h q hq _ (.tail _ (.tail _ (.tail _ (.tail _ (.head _)))))).symm, fun q hq r hr => h q hq r (.tail _ (.tail _ (.tail _ (.tail _ (.tail _ hr)))))⟩
theorem off_app {M K : List (Addr × Obj)} {z : Addr} (h1 : ∀ q ∈ M, q.1 ≠ z) (h2 : ∀ q ∈ K, q.1 ≠ z) : ∀ q ∈ M ++ K, q.1 ≠ z := fun q hq => (List.mem_append.mp hq).elim (h1 q) (h2 q)
theorem DocS.next {prog : Program} {w : World} {R : List (Addr × Obj)} {src rws tr dt rl : Addr} {M M2 K E : List (Addr × Obj)} {n n2 : Nat} {ts ts' : List TN} {rvs rvs' : List (Addr × RowV)} {j : Nat} (D : DocS prog w R src rws tr dt rl M K n ts rvs j)
    (hM : Sep M2 (K ++ R)) (hE : ∀ q ∈ M2, ∀ r ∈ E, r.1 ≠ q.1) (h1 : ∀ q ∈ M2, q.1 ≠ src) (h2 : ∀ q ∈ M2, q.1 ≠ rws) (h3 : ∀ q ∈ E, q.1 ≠ src ∧ q.1 ≠ rws ∧ ∀ r ∈ R, q.1 ≠ r.1) (TS : TreeSt w.params M2 tr dt rl n2 ts') (DO : DocOk prog w (E ++ K) ts' rvs')
    (hl : ts'.length ≤ ts.length + 4) (hr : rvs'.length = rvs.length + 1) (hel : ∃ q ∈ rvs', q.2.kind = Str.ofString "element") : DocS prog w R src rws tr dt rl M2 (E ++ K) n2 ts' rvs' (j + 1) := by
  have so := D.srcOff
  have ro := D.rowOff
  refine ⟨fun q hq r hr => ?_, off_app h1 fun q hq => ?_, off_app h2 fun q hq => ?_, fun q hq r hr => ?_, TS, DO, by have := D.tl; omega, by rw [hr, D.rlen], fun _ => hel, fun e => by omega⟩
  · rcases List.mem_append.mp hr with hr | hr
    · rcases List.mem_append.mp hr with hr | hr
      · exact hE q hq r hr
      · exact hM q hq r (List.mem_append_left _ hr)
    · exact hM q hq r (List.mem_append_right _ hr)
  · rcases List.mem_append.mp hq with hq | hq
    · rcases List.mem_append.mp hq with hq | hq
      · exact (h3 q hq).1
      · exact so q (List.mem_append_right _ (List.mem_append_left _ hq))
    · exact so q (List.mem_append_right _ (List.mem_append_right _ hq))
  · rcases List.mem_append.mp hq with hq | hq
    · rcases List.mem_append.mp hq with hq | hq
      · exact (h3 q hq).2.1
      · exact ro q (List.mem_append_right _ (List.mem_append_left _ hq))
    · exact ro q (List.mem_append_right _ (List.mem_append_right _ hq))
  · rcases List.mem_append.mp hq with hq | hq
    · exact (h3 q hq).2.2 r hr
    · exact D.sepR q hq r hr
theorem attrsT_of {ts ts' : List TN} {i : Nat} {t t' : TN} {exs : List TN} {vals : List Value} (A : AttrE ts ts' i t t' exs vals) (kd : ∀ u ∈ exs, u.v.kind = Str.ofString "attribute") : AttrsT ts' vals (exs.map (·.v)) := by
  refine all2_of_get (by rw [List.length_map]; exact A.hl) fun j v nv hv hn => ?_
  rw [List.getElem?_map] at hn
  cases e : exs[j]? with
  | none => rw [e] at hn; cases hn
  | some u =>
    rw [e] at hn; cases hn
    obtain ⟨tok, rfl⟩ := A.ix j v hv
    exact ⟨ts.length + j, tok, u, rfl, by rw [A.get j, e], rfl, kd u (List.mem_of_getElem? e)⟩
theorem DocOk.elem {prog : Program} {w : World} {K K' : List (Addr × Obj)} {ts ts' : List TN} {rvs : List (Addr × RowV)} {j0 i0 : Nat} {rb ra fd : Addr} {vb : RowV} {t0 t0' tn t2 : TN} {uri loc : Str} {tok tok2 : Tok} {exs : List TN} {vals : List Value} {D : List (PyData × PyData)} {word : Option Str}
    (h : DocOk prog w K ts rvs) (hs : ∀ q ∈ K, q ∈ K') (hj : rvs[j0]? = some (rb, vb)) (hn0 : vb.node = (i0 : Int)) (hi0 : ts[i0]? = some t0) (hk0 : vb.kind = Str.ofString "root" ∨ vb.kind = Str.ofString "element")
    (h2 : t0'.v = { t0.v with kids := t0.v.kids ++ [.int ts.length tok] }) (hra : ∀ q ∈ K, q.1 ≠ ra) (hv : tn.v = ⟨Str.ofString "element", loc, uri, loc, Str.ofString "", .int i0 tok2, [], []⟩)
    (A : AttrE (ts.set i0 t0' ++ [tn]) ts' ts.length tn t2 exs vals) (kd : ∀ u ∈ exs, u.v.kind = Str.ofString "attribute") (hlen : exs.length ≤ 3) (T : TupTab (PySem.strKind prog w) PyData.str K' fd D)
    (rel : ∀ u l, u = Str.ofString "" ∨ u = Str.ofString "u" → PySem.Spec.lookup (encTuple PyData.str [u, l]) D = (attrV (exs.map (·.v)) u l).map PyData.str) (wd : ((exs.map (·.v)).find? spaceName).map (·.val) = word)
    (hrow : RowIn prog w K' ra ⟨ts.length, Str.ofString "element", .ref rb, uri, loc, fd, word, Str.ofString ""⟩) (lk : loc = Str.ofString "if" ∨ loc = Str.ofString "a") :
    DocOk prog w K' ts' (rvs ++ [(ra, ⟨ts.length, Str.ofString "element", .ref rb, uri, loc, fd, word, Str.ofString ""⟩)]) := by
  have hlt := (List.getElem?_eq_some_iff.mp hi0).1
  have hl : (ts.set i0 t0').length = ts.length := List.length_set
  have hl2 : (ts.set i0 t0' ++ [tn]).length = ts.length + 1 := by rw [List.length_append, hl]; rfl
  have old : ∀ k t, k < ts.length → (ts.set i0 t0')[k]? = some t → ts'[k]? = some t := fun k t hk e => by
    rw [A.e, List.getElem?_append_left (by rw [List.length_set, hl2]; omega), List.getElem?_set_ne (Nat.ne_of_gt hk), List.getElem?_append_left (by rw [hl]; exact hk)]; exact e
  have hlc : loc.length ≤ 1000 := by
    rcases lk with rfl | rfl
    · exact Nat.le_of_ble_eq_true (by kernel_rfl!)
    · exact Nat.le_of_ble_eq_true (by kernel_rfl!)
  refine h.push hs hj hn0 hi0 hk0 (t0' := t0') (tn := t2) (old _ _ hlt (List.getElem?_set_self hlt)) h2 (fun k t hne hk => old _ _ (List.getElem?_eq_some_iff.mp hk).1 (by rw [List.getElem?_set_ne (Ne.symm hne)]; exact hk)) (A.at_i (by omega)) rfl rfl hra hrow (by rw [A.v, hv]) (.inr (.inl rfl)) (by rw [A.v, hv]) (tok2 := tok2) (by rw [A.v, hv]) (.inl rfl) (fun e => absurd (show Str.ofString "element" = Str.ofString "text" from e) (by decide)) (by rw [A.v, hv]; exact Nat.zero_le _) (fun _ => ?_)
  refine ⟨⟨exs.map (·.v), D, by rw [A.v]; exact attrsT_of A kd, T, rel, wd⟩, by rw [A.v]; show vals.length < 1000; rw [A.hl]; omega, by rw [A.v, hv], by rw [A.v, hv], lk, by rw [A.v, hv]; exact hlc⟩
theorem led7 {T f s a b c d : Addr × Obj} {M KR K : List (Addr × Obj)} : ∀ q ∈ T :: f :: a :: b :: c :: d :: s :: (M ++ (KR ++ K)), q ∈ T :: f :: s :: (M ++ (KR ++ (a :: b :: c :: d :: K))) := by
  intro q hq
  have in4 : ∀ {q x y z : Addr × Obj}, q ∈ (a :: b :: c :: d :: K) → q ∈ x :: y :: z :: (M ++ (KR ++ (a :: b :: c :: d :: K))) := fun h => .tail _ (.tail _ (.tail _ (List.mem_append_right _ (List.mem_append_right _ h))))
  rcases List.mem_cons.mp hq with h | hq
  · rw [h]; exact .head _
  rcases List.mem_cons.mp hq with h | hq
  · rw [h]; exact .tail _ (.head _)
  rcases List.mem_cons.mp hq with h | hq
  · rw [h]; exact in4 (.head _)
  rcases List.mem_cons.mp hq with h | hq
  · rw [h]; exact in4 (.tail _ (.head _))
  rcases List.mem_cons.mp hq with h | hq
  · rw [h]; exact in4 (.tail _ (.tail _ (.head _)))
  rcases List.mem_cons.mp hq with h | hq
  · rw [h]; exact in4 (.tail _ (.tail _ (.tail _ (.head _))))
  rcases List.mem_cons.mp hq with h | hq
  · rw [h]; exact .tail _ (.tail _ (.head _))
  rcases List.mem_append.mp hq with hq | hq
  · exact .tail _ (.tail _ (.tail _ (List.mem_append_left _ hq)))
  rcases List.mem_append.mp hq with hq | hq
  · exact .tail _ (.tail _ (.tail _ (List.mem_append_right _ (List.mem_append_left _ hq))))
  · exact in4 (.tail _ (.tail _ (.tail _ (.tail _ hq))))
theorem led5s {a b c d e : Addr × Obj} {M K : List (Addr × Obj)} : ∀ q ∈ e :: (M ++ (a :: b :: c :: d :: K)), q ∈ a :: b :: c :: d :: e :: (M ++ K) := by
  intro q hq
  rcases List.mem_cons.mp hq with h | hq
  · rw [h]; exact .tail _ (.tail _ (.tail _ (.tail _ (.head _))))
  rcases List.mem_append.mp hq with hq | hq
  · exact .tail _ (.tail _ (.tail _ (.tail _ (.tail _ (List.mem_append_left _ hq)))))
  rcases List.mem_cons.mp hq with h | hq
  · rw [h]; exact .head _
  rcases List.mem_cons.mp hq with h | hq
  · rw [h]; exact .tail _ (.head _)
  rcases List.mem_cons.mp hq with h | hq
  · rw [h]; exact .tail _ (.tail _ (.head _))
  rcases List.mem_cons.mp hq with h | hq
  · rw [h]; exact .tail _ (.tail _ (.tail _ (.head _)))
  · exact .tail _ (.tail _ (.tail _ (.tail _ (.tail _ (List.mem_append_right _ hq)))))
theorem led6e {f s a b c d : Addr × Obj} {M KR K R : List (Addr × Obj)} : ∀ q ∈ [c] ++ (d :: s :: (M ++ (((b :: f :: KR) ++ K) ++ R))), q ∈ f :: a :: b :: c :: d :: s :: (M ++ (KR ++ (K ++ R))) := by
  intro q hq
  rcases List.mem_cons.mp hq with h | hq
  · rw [h]; exact .tail _ (.tail _ (.tail _ (.head _)))
  rcases List.mem_cons.mp hq with h | hq
  · rw [h]; exact .tail _ (.tail _ (.tail _ (.tail _ (.head _))))
  rcases List.mem_cons.mp hq with h | hq
  · rw [h]; exact .tail _ (.tail _ (.tail _ (.tail _ (.tail _ (.head _)))))
  rcases List.mem_append.mp hq with hq | hq
  · exact .tail _ (.tail _ (.tail _ (.tail _ (.tail _ (.tail _ (List.mem_append_left _ hq))))))
  rcases List.mem_cons.mp hq with h | hq
  · rw [h]; exact .tail _ (.tail _ (.head _))
  rcases List.mem_cons.mp hq with h | hq
  · rw [h]; exact .head _
  · refine .tail _ (.tail _ (.tail _ (.tail _ (.tail _ (.tail _ (List.mem_append_right _ ?_))))))
    have hq : q ∈ (KR ++ K) ++ R := hq
    rw [List.append_assoc] at hq; exact hq
theorem Sep.off4 {M K : List (Addr × Obj)} {a b c d : Addr} {oa ob oc od : Obj} (h : Sep M ((a, oa) :: (b, ob) :: (c, oc) :: (d, od) :: K)) : (∀ q ∈ M, q.1 ≠ a) ∧ (∀ q ∈ M, q.1 ≠ b) ∧ (∀ q ∈ M, q.1 ≠ c) ∧ (∀ q ∈ M, q.1 ≠ d) ∧ Sep M K :=
  ⟨fun q hq => (h q hq _ (.head _)).symm, fun q hq => (h q hq _ (.tail _ (.head _))).symm, fun q hq => (h q hq _ (.tail _ (.tail _ (.head _)))).symm, fun q hq => (h q hq _ (.tail _ (.tail _ (.tail _ (.head _))))).symm, fun q hq r hr => h q hq r (.tail _ (.tail _ (.tail _ (.tail _ hr))))⟩
theorem off_cons {K : List (Addr × Obj)} {a z : Addr} {o : Obj} (h : a ≠ z) (hK : ∀ q ∈ K, q.1 ≠ z) : ∀ q ∈ (a, o) :: K, q.1 ≠ z := fun q hq => (List.mem_cons.mp hq).elim (fun e => by rw [e]; exact h) (hK q)
theorem sep4 {M K : List (Addr × Obj)} {a b c d : Addr} {oa ob oc od : Obj} (h : Sep M K) (ha : ∀ q ∈ M, q.1 ≠ a) (hb : ∀ q ∈ M, q.1 ≠ b) (hc : ∀ q ∈ M, q.1 ≠ c) (hd : ∀ q ∈ M, q.1 ≠ d) : Sep M ((a, oa) :: (b, ob) :: (c, oc) :: (d, od) :: K) := by
  intro q hq r hr
  rcases List.mem_cons.mp hr with z | hr
  · rw [z]; exact (ha q hq).symm
  rcases List.mem_cons.mp hr with z | hr
  · rw [z]; exact (hb q hq).symm
  rcases List.mem_cons.mp hr with z | hr
  · rw [z]; exact (hc q hq).symm
  rcases List.mem_cons.mp hr with z | hr
  · rw [z]; exact (hd q hq).symm
  · exact h q hq r hr
theorem off4 {K : List (Addr × Obj)} {a b c d z : Addr} {oa ob oc od : Obj} (h1 : a ≠ z) (h2 : b ≠ z) (h3 : c ≠ z) (h4 : d ≠ z) (h5 : ∀ q ∈ K, q.1 ≠ z) : ∀ q ∈ (a, oa) :: (b, ob) :: (c, oc) :: (d, od) :: K, q.1 ≠ z := by
  intro q hq
  rcases List.mem_cons.mp hq with e | hq
  · rw [e]; exact h1
  rcases List.mem_cons.mp hq with e | hq
  · rw [e]; exact h2
  rcases List.mem_cons.mp hq with e | hq
  · rw [e]; exact h3
  rcases List.mem_cons.mp hq with e | hq
  · rw [e]; exact h4
  · exact h5 q hq
theorem TextOk.len {x : Str} (h : TextOk x) : x.length ≤ 1000 := by
  rcases h with rfl | rfl | rfl | rfl | rfl | rfl
  all_goals exact Nat.le_of_ble_eq_true (by kernel_rfl!)
theorem leaf_len {ts : List TN} {i : Nat} {t tn : TN} : (ts.set i t ++ [tn]).length ≤ ts.length + 4 := by
  rw [List.length_append, List.length_set]; exact Nat.add_le_add_left (Nat.le_of_ble_eq_true rfl) _
theorem leafE {M : List (Addr × Obj)} {a b : Addr} {oa ob : Obj} (h1 : ∀ q ∈ M, q.1 ≠ a) (h2 : ∀ q ∈ M, q.1 ≠ b) : ∀ q ∈ M, ∀ r ∈ [(a, oa), (b, ob)], r.1 ≠ q.1 := by
  intro q hq r hr
  rcases List.mem_cons.mp hr with e | hr
  · rw [e]; exact (h1 q hq).symm
  · rw [List.mem_singleton.mp hr]; exact (h2 q hq).symm
theorem leafO {R : List (Addr × Obj)} {a b src rws : Addr} {oa ob : Obj} (h1 : a ≠ src) (h2 : a ≠ rws) (h3 : b ≠ src) (h4 : b ≠ rws) (h5 : ∀ r ∈ R, a ≠ r.1) (h6 : ∀ r ∈ R, b ≠ r.1) : ∀ q ∈ [(a, oa), (b, ob)], q.1 ≠ src ∧ q.1 ≠ rws ∧ ∀ r ∈ R, q.1 ≠ r.1 := by
  intro q hq
  rcases List.mem_cons.mp hq with e | hq
  · rw [e]; exact ⟨h1, h2, h5⟩
  · rw [List.mem_singleton.mp hq]; exact ⟨h3, h4, h6⟩
theorem leafI {M K R : List (Addr × Obj)} {a b src rws I : Addr} {oa ob os orr : Obj} (h1 : rws ≠ I) (h2 : src ≠ I) (h3 : ∀ q ∈ M, q.1 ≠ I) (h4 : a ≠ I) (h5 : b ≠ I) (h6 : ∀ q ∈ K ++ R, q.1 ≠ I) : ∀ q ∈ (rws, orr) :: (src, os) :: (M ++ (([(a, oa), (b, ob)] ++ K) ++ R)), q.1 ≠ I := by
  intro q hq
  rcases List.mem_cons.mp hq with e | hq
  · rw [e]; exact h1
  rcases List.mem_cons.mp hq with e | hq
  · rw [e]; exact h2
  rcases List.mem_append.mp hq with hq | hq
  · exact h3 q hq
  rcases List.mem_cons.mp hq with e | hq
  · rw [e]; exact h4
  rcases List.mem_cons.mp hq with e | hq
  · rw [e]; exact h5
  · exact h6 q hq
theorem vEl {rvs : List (Addr × RowV)} {q : Addr × RowV} (h : ∃ q ∈ rvs, q.2.kind = Str.ofString "element") : ∃ q' ∈ rvs ++ [q], q'.2.kind = Str.ofString "element" := let ⟨q', a, b⟩ := h; ⟨q', List.mem_append_left _ a, b⟩
theorem DocOk.leaf {prog : Program} {w : World} {K K' : List (Addr × Obj)} {ts : List TN} {rvs : List (Addr × RowV)} {j0 i0 : Nat} {rb ra held : Addr} {vb : RowV} {t0 t0' tn : TN} {kind txt : Str} {tok tok2 : Tok} {nv : NodeV}
    (h : DocOk prog w K ts rvs) (hs : ∀ q ∈ K, q ∈ K') (hj : rvs[j0]? = some (rb, vb)) (hn0 : vb.node = (i0 : Int)) (hi0 : ts[i0]? = some t0) (hk0 : vb.kind = Str.ofString "root" ∨ vb.kind = Str.ofString "element")
    (h2 : t0'.v = { t0.v with kids := t0.v.kids ++ [.int ts.length tok] }) (hra : ∀ q ∈ K, q.1 ≠ ra) (hrow : RowIn prog w K' ra ⟨ts.length, kind, .ref rb, Str.ofString "", Str.ofString "", held, none, txt⟩)
    (hk : tn.v = nv) (hnk : nv.kind = kind) (hkk : kind = Str.ofString "text" ∨ kind = Str.ofString "comment" ∨ kind = Str.ofString "instruction") (hkids : nv.kids = []) (hpar : nv.par = .int i0 tok2) (htx : TextOk txt) (hval : kind = Str.ofString "text" → nv.val = txt) (hvl : nv.val.length ≤ 1000) :
    DocOk prog w K' (ts.set i0 t0' ++ [tn]) (rvs ++ [(ra, ⟨ts.length, kind, .ref rb, Str.ofString "", Str.ofString "", held, none, txt⟩)]) := by
  have hlt := (List.getElem?_eq_some_iff.mp hi0).1
  have hl : (ts.set i0 t0').length = ts.length := List.length_set
  refine h.push hs hj hn0 hi0 hk0 (t0' := t0') (tn := tn) (by rw [List.getElem?_append_left (by rw [hl]; exact hlt), List.getElem?_set_self hlt]) h2 (fun k t hne hk => ?_) (by rw [List.getElem?_append_right (by rw [hl]; exact Nat.le_refl _), hl, Nat.sub_self]; rfl) rfl rfl hra hrow (by rw [hk]; exact hnk) ?_ (by rw [hk]; exact hkids) (by rw [hk]; exact hpar) htx (fun e => by rw [hk]; exact hval e) (by rw [hk]; exact hvl) (fun e => ?_)
  · have := (List.getElem?_eq_some_iff.mp hk).1
    rw [List.getElem?_append_left (by rw [hl]; exact this), List.getElem?_set_ne (Ne.symm hne)]; exact hk
  · rcases hkk with e | e | e
    · exact .inr (.inr (.inl e))
    · exact .inr (.inr (.inr (.inl e)))
    · exact .inr (.inr (.inr (.inr e)))
  · have e : kind = Str.ofString "element" := e
    rcases hkk with z | z | z
    · rw [z] at e; exact absurd e (by decide)
    · rw [z] at e; exact absurd e (by decide)
    · rw [z] at e; exact absurd e (by decide)
noncomputable abbrev rootV (held : Addr) : RowV := ⟨0, Str.ofString "root", .none, Str.ofString "", Str.ofString "", held, none, Str.ofString ""⟩
theorem DocOk.start {prog : Program} {w : World} {K : List (Addr × Obj)} {ra held : Addr} {tn : TN} (hrow : RowIn prog w K ra (rootV held))
    (ht : tn.v = ⟨Str.ofString "root", Str.ofString "", Str.ofString "", Str.ofString "", Str.ofString "", .none, [], []⟩) :
    DocOk prog w K [tn] [(ra, (rootV held))] := by
  refine ⟨fun q hq => ?_, List.pairwise_singleton _ _, List.pairwise_singleton _ _, fun j ra2 v2 hj => ?_⟩
  · rw [List.mem_singleton.mp hq]; exact hrow
  · rcases j with _ | j
    · cases hj
      refine ⟨0, tn, rfl, rfl, by rw [ht], .inl rfl, by rw [ht]; exact .nil, .inl ⟨rfl, rfl⟩, .inl rfl, fun e => absurd (show Str.ofString "root" = Str.ofString "text" from e) (by decide), by rw [ht]; exact Nat.zero_le _, fun e => absurd (show Str.ofString "root" = Str.ofString "element" from e) (by decide)⟩
    · simp at hj
theorem say44 : True := by
  (k_with "GO8" => repeat' ((fail_if_success (with_reducible show wpAny _ _ (eval (PySem.Expr.IfExp _ _ _ _) _) _ _ _)); (fail_if_success (with_reducible show wpAny _ _ (call (Value.ref 194) _) _ _ _)); (fail_if_success (with_reducible show wpAny _ _ (call (Value.ref 362) _) _ _ _)); (fail_if_success (with_reducible show wpAny _ _ (setItem (Value.ref _) _ _) _ _ _)); (fail_if_success (with_reducible show wpAny _ _ (pyIter _) _ _ _)); (first | (k_unfold; (try dsimp only)) | (k_end; wrow_close) | walk1 | (dsimp only; walk1) | (leave1; walk_say "STEP leave1"; try dsimp only))))
  (k_with "GO9" => repeat' ((fail_if_success (with_reducible show wpAny _ _ (eval (PySem.Expr.Dict _ _ _) _) _ _ _)); (fail_if_success (with_reducible show wpAny _ _ (setItem (Value.ref _) _ _) _ _ _)); (fail_if_success (with_reducible show wpAny _ _ (pyIter _) _ _ _)); (first | (k_unfold; (try dsimp only)) | (k_end; wrow_close) | walk1 | (dsimp only; walk1) | (leave1; walk_say "STEP leave1"; try dsimp only))))
  (k_with "GOT" => repeat' ((fail_if_success (with_reducible show wpAny _ _ (call (Value.ref 194) _) _ _ _)); (fail_if_success (with_reducible show wpAny _ _ (call (Value.ref 201) _) _ _ _)); (fail_if_success (with_reducible show wpAny _ _ (call (Value.ref 208) _) _ _ _)); (fail_if_success (with_reducible show wpAny _ _ (call (Value.ref 215) _) _ _ _)); (fail_if_success (with_reducible show wpAny _ _ (call (Value.ref 362) _) _ _ _)); (fail_if_success (with_reducible show wpAny _ _ (setItem (Value.ref _) _ _) _ _ _)); (fail_if_success (with_reducible show wpAny _ _ (pyIter _) _ _ _)); (first | (k_unfold; (try dsimp only)) | (k_end; wrow_close) | walk1 | (dsimp only; walk1) | (leave1; walk_say "STEP leave1"; try dsimp only))))
  trivial
noncomputable def rk (ab u l h wd tx kd : Value) : List (Str × Value) := [(Str.ofString "above", ab), (Str.ofString "uri", u), (Str.ofString "local", l), (Str.ofString "held", h), (Str.ofString "word", wd), (Str.ofString "text", tx), (Str.ofString "kind", kd)]
noncomputable def rkn (ab u l h wd tx kd nd : Value) : List (Str × Value) := [(Str.ofString "above", ab), (Str.ofString "uri", u), (Str.ofString "local", l), (Str.ofString "held", h), (Str.ofString "word", wd), (Str.ofString "text", tx), (Str.ofString "kind", kd), (Str.ofString "node", nd)]
section
variable {ab u l h wd tx kd nd v : Value}
theorem rk_len : (rk ab u l h wd tx kd).length ≤ sizeLine := by rw [sizeLine_eq]; show 7 ≤ _; omega
theorem rkn_len : (rkn ab u l h wd tx kd nd).length ≤ sizeLine := by rw [sizeLine_eq]; show 8 ≤ _; omega
theorem rk_uri : stored (rk ab u l h wd tx kd) (Str.ofString "uri") v = rk ab v l h wd tx kd := by kernel_rfl!
theorem rk_loc : stored (rk ab u l h wd tx kd) (Str.ofString "local") v = rk ab u v h wd tx kd := by kernel_rfl!
theorem rk_kind : stored (rk ab u l h wd tx kd) (Str.ofString "kind") v = rk ab u l h wd tx v := by kernel_rfl!
theorem rk_text : stored (rk ab u l h wd tx kd) (Str.ofString "text") v = rk ab u l h wd v kd := by kernel_rfl!
theorem rk_node : stored (rk ab u l h wd tx kd) (Str.ofString "node") v = rkn ab u l h wd tx kd v := by kernel_rfl!
theorem rkn_held : stored (rkn ab u l h wd tx kd nd) (Str.ofString "held") v = rkn ab u l v wd tx kd nd := by kernel_rfl!
theorem rkn_word : stored (rkn ab u l h wd tx kd nd) (Str.ofString "word") v = rkn ab u l h v tx kd nd := by kernel_rfl!
theorem rkn_kind : stored (rkn ab u l h wd tx kd nd) (Str.ofString "kind") v = rkn ab u l h wd tx v nd := by kernel_rfl!
theorem rk_at_uri : valueAt (rk ab u l h wd tx kd) (Str.ofString "uri") = some u := by kernel_rfl!
theorem rk_at_loc : valueAt (rk ab u l h wd tx kd) (Str.ofString "local") = some l := by kernel_rfl!
theorem rk_at_text : valueAt (rk ab u l h wd tx kd) (Str.ofString "text") = some tx := by kernel_rfl!
theorem rkn_at_node : valueAt (rkn ab u l h wd tx kd nd) (Str.ofString "node") = some nd := by kernel_rfl!
end
theorem RowIn.ofRkn {prog : Program} {w : World} {news : List (Addr × Obj)} {ra held : Addr} {o : Obj} {ab wv : Value} {u l tx kd : Str} {node : Int} {t1 t2 t3 t4 t5 : Tok} {wd : Option Str} (hm : (ra, o) ∈ news) (ho : o.IsDictOf (PySem.strKind prog w) (rkn ab (.str u t3) (.str l t4) (.ref held) wv (.str tx t5) (.str kd t2) (.int node t1))) (lo : (ra == sysModules) = false) (hw : WordIs wd wv) :
    RowIn prog w news ra ⟨node, kd, ab, u, l, held, wd, tx⟩ := ⟨o, _, t1, t2, t3, t4, t5, wv, hm, ho, lo, by kernel_rfl!, by kernel_rfl!, by kernel_rfl!, by kernel_rfl!, by kernel_rfl!, by kernel_rfl!, by kernel_rfl!, hw, by kernel_rfl!⟩
end
local macro_rules | `(tactic| walk_at "I:rk") => `(tactic| (intro hd'; first | rw [rk_uri] at hd' | rw [rk_loc] at hd' | rw [rk_kind] at hd' | rw [rk_text] at hd' | rw [rk_node] at hd' | rw [rkn_held] at hd' | rw [rkn_word] at hd' | rw [rkn_kind] at hd'))
section
variable {prog : Program} {w : World} {p : Program} {loose : List Str} {mean : ExcName → Option Value} {mg mb : Str → Option Value}
  {dp un : Nat} {gd : Option (List Code)} {cn : Str} {cs : Scope} {a : Addr} {ccd : Value} {cl : List (Str × Addr)} {outer : List Env} {A₀ : Around} {base h₀ : Heap} {L : Addr} {m : Str → Option Value} {rest news : List (Addr × Obj)} {s : Shared} {Q E : Value → Shared → Prop}
theorem say45 : True := by
  (k_with "SETROW" => (k_dflt (refine' kda_set (knd := PySem.strKind _ _) (by k_asm) (by k_asm) (by k_updF) (by assumption) (strKind_is _ _ _ _) (by first | exact rk_len | exact rkn_len) ?_; k_whole); intro _ _ _; walk_at "I:ds"; walk_at "I:rk"))
  (k_with "subscriptTail Name Constant ref str" => (k_here; (with_reducible show wpAny _ _ (subscriptTail _ _ (Value.ref _) (Value.str _ _)) _ _ _); k_dflt (refine' kda_item (knd := PySem.strKind _ _) (by k_asm) (by k_mem) (by with_reducible assumption) (strKind_is _ _ _ _) (by first | with_reducible assumption | with_reducible exact rk_at_uri | with_reducible exact rk_at_loc | with_reducible exact rk_at_text | with_reducible exact rkn_at_node) ?_; k_whole)))
  (k_with "GOI" => repeat' ((fail_if_success (with_reducible show wpAny _ _ (exec (PySem.Stmt.If _ _ _ _) _) _ _ _)); (first | (k_unfold; (try dsimp only)) | (k_end; wrow_close) | walk1 | (dsimp only; walk1) | (leave1; walk_say "STEP leave1"; try dsimp only))))
  trivial
inductive WayP (g : Heap) (L : Addr) (m : Str → Option Value) (p1 p2 : Addr × Obj) (src : Addr) (rest : List (Addr × Obj)) (j : Nat) (s : Shared) (v : Value) (s₁ : Shared) : Prop
  | mk (way : Int) (tw : Tok) (h' : Heap) (tk' : Nat) (x' : Int) (tx' : Tok) (y' : Int) (ty' : Tok) (ns' : Nat) (e1 : v = .int way tw) (e2 : s₁ = { s with heap := h', toks := tk' }) (F : Fr g L h' m) (N : News g L h' (p1 :: p2 :: (src, srcO x' tx' y' ty' ns') :: rest)) (h1 : 0 ≤ x') (h2 : 0 ≤ y') (h3 : y' < 2147483647) (h4 : 0 ≤ way) (h5 : way < 7) (h6 : j = 0 → way = 0)
theorem way_cut {A : Around} {c : Sem Value} {g : Heap} {L : Addr} {m : Str → Option Value} {p1 p2 : Addr × Obj} {src : Addr} {o : Obj} {rest : List (Addr × Obj)} (j : Nat) {Q : Value → Shared → Prop} (F : Fr g L s.heap m) (N : News g L s.heap (p1 :: p2 :: (src, o) :: rest))
    (h : wpAny (model prog w) A c (WayP g L m p1 p2 src rest j s) E s)
    (k : ∀ (way : Int) (tw : Tok) (h' : Heap) (tk' : Nat) (x' : Int) (tx' : Tok) (y' : Int) (ty' : Tok) (ns' : Nat), Fr g L h' m → News g L h' (p1 :: p2 :: (src, srcO x' tx' y' ty' ns') :: rest) → 0 ≤ x' → 0 ≤ y' → y' < 2147483647 → 0 ≤ way → way < 7 → (j = 0 → way = 0) → Q (.int way tw) { s with heap := h', toks := tk' }) : wpAny (model prog w) A c Q E s := by
  refine wpAny_mono h (fun v s₁ hw => ?_) fun _ _ e => e
  obtain ⟨way, tw, h', tk', x', tx', y', ty', ns', rfl, rfl, a, b, c, d, e, f, g, i⟩ := hw
  exact k way tw h' tk' x' tx' y' ty' ns' a b c d e f g i
inductive SomeP (g : Heap) (L : Addr) (m : Str → Option Value) (news : List (Addr × Obj)) (src : Addr) (rvs : List (Addr × RowV)) (s : Shared) (v : Value) (s₁ : Shared) : Prop
  | mk (l : Addr) (els : List (Addr × RowV)) (nl : Nat) (h' : Heap) (tk' : Nat) (e1 : v = .ref l) (e2 : s₁ = { s with heap := h', toks := tk' }) (F : Fr g L h' m) (N : News g L h' ((l, listOf (els.map fun q => Value.ref q.1).toArray nl) :: news)) (h1 : l ≠ src) (h2 : 0 < els.length) (h3 : els.length < 100) (h4 : ∀ q ∈ els, q ∈ rvs ∧ (q.2.kind = Str.ofString "root" ∨ q.2.kind = Str.ofString "element"))
theorem news_dup {h₀ h : Heap} {L : Addr} {p1 p2 : Addr × Obj} {rest : List (Addr × Obj)} (N : News h₀ L h (p1 :: p2 :: rest)) : News h₀ L h (p2 :: p1 :: p2 :: rest) := fun q hq => by
  rcases List.mem_cons.mp hq with e | hq
  · rw [e]; exact N _ (.tail _ (.head _))
  · exact N _ hq
theorem els_pos {rvs : List (Addr × RowV)} (h : ∃ q ∈ rvs, q.2.kind = Str.ofString "element") : 0 < (rvs.filter fun q => q.2.kind == Str.ofString "element").length := by
  obtain ⟨q, hq, he⟩ := h
  exact List.length_pos_of_mem (List.mem_filter.mpr ⟨hq, beq_iff_eq.mpr he⟩)
theorem some_cut {A : Around} {c : Sem Value} {g : Heap} {L : Addr} {m : Str → Option Value} {news : List (Addr × Obj)} (src : Addr) (rvs : List (Addr × RowV)) {Q : Value → Shared → Prop} (F : Fr g L s.heap m) (N : News g L s.heap news)
    (h : wpAny (model prog w) A c (SomeP g L m news src rvs s) E s)
    (k : ∀ (l : Addr) (els : List (Addr × RowV)) (nl : Nat) (h' : Heap) (tk' : Nat), Fr g L h' m → News g L h' ((l, listOf (els.map fun q => Value.ref q.1).toArray nl) :: news) → l ≠ src → 0 < (els.map fun q => Value.ref q.1).length → (els.map fun q => Value.ref q.1).length < 100 → (∀ q ∈ els, q ∈ rvs ∧ (q.2.kind = Str.ofString "root" ∨ q.2.kind = Str.ofString "element")) → Q (.ref l) { s with heap := h', toks := tk' }) : wpAny (model prog w) A c Q E s := by
  refine wpAny_mono h (fun v s₁ hw => ?_) fun _ _ e => e
  obtain ⟨l, els, nl, h', tk', rfl, rfl, a, b, c, d, e, f⟩ := hw
  exact k l els nl h' tk' a b c (by rw [List.length_map]; exact d) (by rw [List.length_map]; exact e) f
inductive JDoc (prog : Program) (w : World) (R : List (Addr × Obj)) (src rws tr dt lst : Addr) (m₀ : Str → Option Value) (j : Nat) (m₁ : Str → Option Value) (news₁ : List (Addr × Obj)) : Prop
  | mk (M1 K : List (Addr × Obj)) (n1 : Nat) (x1 : Int) (tx1 : Tok) (y1 : Int) (ty1 : Tok) (ns1 nr : Nat) (ts : List TN) (rvs : List (Addr × RowV))
    (e : news₁ = (rws, listOf (rvs.map fun q => Value.ref q.1).toArray nr) :: (src, srcO x1 tx1 y1 ty1 ns1) :: (M1 ++ (K ++ R))) (h1 : 0 ≤ x1) (h2 : 0 ≤ y1) (h3 : y1 < 2147483647) (h4 : DocS prog w R src rws tr dt lst M1 K n1 ts rvs j)
    (h5 : ∀ y, y ≠ Str.ofString "turn" → y ≠ Str.ofString "way" → y ≠ Str.ofString "some" → y ≠ Str.ofString "above" → y ≠ Str.ofString "row" → m₁ y = m₀ y)
theorem law_document_c {src : Addr} {x y : Int} {tx ty : Tok} {ns : Nat} {R : List (Addr × Obj)}
    (C : Cx w p loose mean mg mb A₀ base outer h₀ L s.heap m cs) (N : News h₀ L s.heap ((src, srcO x tx y ty ns) :: R)) (hsrc : ∀ q ∈ R, q.1 ≠ src)
    (h1 : 0 ≤ x) (h2 : 0 ≤ y) (h2' : y < 2147483647) (hd : dp + 60 < recursionLimit) (hu : un + 600 < cLine)
    (hret : ∀ (T rws tr dt rl : Addr) (tn nr n : Nat) (tk0 : Tok) (h' : Heap) (tk' : Nat) (x' : Int) (tx' : Tok) (y' : Int) (ty' : Tok) (ns' : Nat) (M K : List (Addr × Obj)) (ts : List TN) (rvs : List (Addr × RowV)) (j : Nat), Fr h₀ L h' m →
      News h₀ L h' ((T, tupK #[.ref tr, .int 0 tk0, .ref rws] tn) :: (rws, listOf (rvs.map fun q => Value.ref q.1).toArray nr) :: (src, srcO x' tx' y' ty' ns') :: (M ++ (K ++ R))) → DocS prog w R src rws tr dt rl M K n ts rvs j → j ≤ 11 → Q (.ref T) { s with heap := h', toks := tk' }) :
    wpAny (model prog w) (ktrTop dp un gd cn cs L a ccd cl outer) (call (.ref 367) [.ref src]) Q E s := by
  obtain ⟨B, F, X, T, hkk⟩ := C
  refine wpAny_call ?_
  k_dflt (k_extra "ENTER")
  k_extra "GO7"
  rename News _ _ _ _ => N1
  rename_i g'0 L'0 hZ FG0 B0 X0 T0 qk0 ek0 tk00 tr dt hA l1a l2a g9 L9 hB B9 X9 T9 tka lst hC l1b hD FD ND tkb Tc1 kX1 hE FE
  have n1 : (tr : Nat) ≠ lst := Nat.ne_of_lt l1b.1
  have n2 : (dt : Nat) ≠ lst := Nat.ne_of_lt l1b.2.1
  obtain ⟨tq, N1⟩ : ∃ tq, News g'0 L'0 hE ((lst, listOf #[] 0) :: (tr, instObj 330 dt) :: (dt, dictOf (treeE w.params tq lst) 1) :: (src, srcO x tx y ty ns) :: R) := ⟨_, N1⟩
  have hS : Sep [(lst, listOf #[] 0), (tr, instObj 330 dt), (dt, dictOf (treeE w.params tq lst) 1)] ((src, srcO x tx y ty ns) :: R) := by
    have hd1 := tb_ltOf l1a.2
    have a1 : ∀ r ∈ ((src, srcO x tx y ty ns) :: R : List (Addr × Obj)), r.1 < dt := fun r hr => by
      rcases List.mem_cons.mp hr with e | hr
      · rw [e]; exact l1a.1
      · exact hd1 r hr
    intro q hq r hr
    have := a1 r hr
    rcases List.mem_cons.mp hq with e | hq
    · rw [e]; exact Nat.ne_of_lt (Nat.lt_trans this l1b.2.1)
    rcases List.mem_cons.mp hq with e | hq
    · rw [e]; exact Nat.ne_of_lt (Nat.lt_trans this l2a)
    · rw [List.mem_singleton.mp hq]; exact Nat.ne_of_lt this
  refine new_root_c (tr := tr) (dt := dt) (rl := lst) (n := 0) (M := [(lst, listOf #[] 0), (tr, instObj 330 dt), (dt, dictOf (treeE w.params tq lst) 1)]) (R := (src, srcO x tx y ty ns) :: R) (by k_extra "CX") N1 hS ⟨.tail _ (.head _), ⟨_, .tail _ (.tail _ (.head _))⟩, .head _, n1, n2, fun _ h => (by cases h), fun _ h => (by cases h), .nil⟩ (by ktr_room) (by ktr_units) ?_
  intro tk0 h0' tk0' M' n' tn F2 N2 S2 TS2 hv
  have N3 : News g'0 L'0 h0' ((src, srcO x tx y ty ns) :: (M' ++ R)) := news_sub N2 fun q hq => by
    rcases List.mem_cons.mp hq with e | hq
    · rw [e]; exact List.mem_append_right _ (.head _)
    rcases List.mem_append.mp hq with hq | hq
    · exact List.mem_append_left _ hq
    · exact List.mem_append_right _ (.tail _ hq)
  have hM' : ∀ q ∈ M', q.1 ≠ src := fun q hq => (S2 q hq _ (.head _)).symm
  have hMR : ∀ q ∈ M' ++ R, q.1 ≠ src := fun q hq => by
    rcases List.mem_append.mp hq with hq | hq
    · exact hM' q hq
    · exact hsrc q hq
  clear N1 FE hS N2
  k_extra "GO7"
  rename_i hF ra hG oh lo1 hdh0 l1c hd0 hH ohd lo2 hs1 fs1 hi1 fi1 l1d hI orow hrow rws hJ l1e hK FK NK k0 tk0' hL x1 tx1 y1 ty1 ns1 tk1 FL NL p0 p1 p2 p3 p4 hR tkR t1 u1 v1 aR FR NR kR
  have hsR := tb_ltOf l1c.2
  have rsrc : rws ≠ src := Nat.ne_of_gt l1e.2.2.1
  have hR0 : RowIn prog w [(hd0, ohd), (ra, orow)] ra (rootV hd0) :=
    ⟨orow, _, _, _, _, _, _, _, .tail _ (.head _), hrow, lo1, rfl, rfl, rfl, rfl, rfl, rfl, rfl, rfl, rfl⟩
  have D0 := DocOk.start hR0 hv
  have hMRr : ∀ q ∈ M' ++ R, q.1 < ra := hsR
  have DS : DocS prog w R src rws tr dt lst M' [(hd0, ohd), (ra, orow)] n' [tn] [(ra, rootV hd0)] 0 := by
    have raM : ∀ q ∈ M' ++ R, q.1 ≠ ra := fun q hq => Nat.ne_of_lt (hMRr q hq)
    have hdr : ra < hd0 := l1d.1
    have hdM : ∀ q ∈ M' ++ R, q.1 ≠ hd0 := fun q hq => Nat.ne_of_lt (Nat.lt_trans (hMRr q hq) hdr)
    have rwM : ∀ q ∈ M' ++ R, q.1 ≠ rws := fun q hq => Nat.ne_of_lt (Nat.lt_trans (hMRr q hq) l1e.2.1)
    have spl : ∀ q ∈ M' ++ ([(hd0, ohd), (ra, orow)] ++ R), q = (hd0, ohd) ∨ q = (ra, orow) ∨ q ∈ M' ++ R := fun q hq => by
      rcases List.mem_append.mp hq with hq | hq
      · exact .inr (.inr (List.mem_append_left _ hq))
      rcases List.mem_cons.mp hq with e | hq
      · exact .inl e
      rcases List.mem_cons.mp hq with e | hq
      · exact .inr (.inl e)
      · exact .inr (.inr (List.mem_append_right _ hq))
    refine ⟨fun q hq r hr => ?_, fun q hq => ?_, fun q hq => ?_, fun q hq r hr => ?_, TS2, D0, Nat.le_refl _, rfl, fun e => absurd e (Nat.lt_irrefl _), fun _ q hq => ?_⟩
    · rcases spl r (List.mem_append_right _ hr) with e | e | hr'
      · rw [e]; exact (hdM q (List.mem_append_left _ hq)).symm
      · rw [e]; exact (raM q (List.mem_append_left _ hq)).symm
      · rcases List.mem_cons.mp hr with e | hr
        · rw [e]; exact (hdM q (List.mem_append_left _ hq)).symm
        rcases List.mem_cons.mp hr with e | hr
        · rw [e]; exact (raM q (List.mem_append_left _ hq)).symm
        · exact S2 q hq r (.tail _ hr)
    · rcases spl q hq with e | e | hq
      · rw [e]; exact Nat.ne_of_gt l1d.2.1
      · rw [e]; exact Nat.ne_of_gt l1c.1
      · exact hMR q hq
    · rcases spl q hq with e | e | hq
      · rw [e]; exact Nat.ne_of_lt l1e.1
      · rw [e]; exact Nat.ne_of_lt l1e.2.1
      · exact rwM q hq
    · rcases List.mem_cons.mp hq with e | hq
      · rw [e]; exact (hdM r (List.mem_append_right _ hr)).symm
      · rw [List.mem_singleton.mp hq]; exact (raM r (List.mem_append_right _ hr)).symm
    · rw [List.mem_singleton.mp hq]
  obtain ⟨m₀, em, FR⟩ := fr_name FR
  have NR1 := news_sub (news' := (rws, listOf ([(ra, rootV hd0)].map fun q => Value.ref q.1).toArray 0) :: (src, srcO x1 tx1 y1 ty1 ns1) :: (M' ++ ([(hd0, ohd), (ra, orow)] ++ R))) NR fun q hq => by
    rcases List.mem_cons.mp hq with e | hq
    · rw [e]; exact .head _
    rcases List.mem_cons.mp hq with e | hq
    · rw [e]; exact .tail _ (.tail _ (.tail _ (.head _)))
    rcases List.mem_append.mp hq with hq | hq
    · exact .tail _ (.tail _ (.tail _ (.tail _ (List.mem_append_left _ hq))))
    rcases List.mem_cons.mp hq with e | hq
    · rw [e]; exact .tail _ (.head _)
    rcases List.mem_cons.mp hq with e | hq
    · rw [e]; exact .tail _ (.tail _ (.head _))
    · exact .tail _ (.tail _ (.tail _ (.tail _ (List.mem_append_right _ hq))))
  have hn : Builtin.Range.rangeSize 0 (4 + k0) 1 = ((4 + k0).toNat : Int) := by rw [rangeSize_one]; split <;> omega
  refine iter_acc_range (n := (4 + k0).toNat) (fun j m₁ news₁ => JDoc prog w R src rws tr dt lst m₀ j m₁ news₁) (by rfl) aR (small_one (by omega) (by omega) (by omega) (by omega)) hn FR NR1 ⟨M', [(hd0, ohd), (ra, orow)], n', x1, tx1, y1, ty1, ns1, 0, [tn], _, rfl, p2, p3, p4, DS, fun _ _ _ _ _ _ => by rw [em]⟩ ?_ ?_
  · rintro j tj h tk m₁ news₁ I oI hj ⟨M1, K, n1, x1, tx1, y1, ty1, ns1, nr, ts, rvs, rfl, q1, q2, q3, DS, hm₁⟩ F' N' hI
    have F2 := fr_map F' (m₂ := fun y => if y = Str.ofString "turn" then some (.int (0 + (j : Int)) tj) else if y = Str.ofString "way" then m₁ y else if y = Str.ofString "some" then m₁ y else if y = Str.ofString "above" then m₁ y else if y = Str.ofString "row" then m₁ y else m₀ y) (fun y => by
      by_cases e1 : y = Str.ofString "turn"
      · simp only [if_pos e1]
      by_cases e2 : y = Str.ofString "way"
      · simp only [if_neg e1, if_pos e2]
      by_cases e3 : y = Str.ofString "some"
      · simp only [if_neg e1, if_neg e2, if_pos e3]
      by_cases e4 : y = Str.ofString "above"
      · simp only [if_neg e1, if_neg e2, if_neg e3, if_pos e4]
      by_cases e5 : y = Str.ofString "row"
      · simp only [if_neg e1, if_neg e2, if_neg e3, if_neg e4, if_pos e5]
      · simp only [if_neg e1, if_neg e2, if_neg e3, if_neg e4, if_neg e5]; exact hm₁ y e1 e2 e3 e4 e5)
    clear F' FR NR FL NL FK NK NR1
    subst em
    (try k_unmd); (try k_fold)
    have hI2 := hI
    simp only [List.forall_mem_cons] at hI2
    have hI3 : @Ne Addr rws I := hI2.1
    have hI4 : @Ne Addr src I := hI2.2.1
    have hI3' := hI3.symm
    have hI4' := hI4.symm
    have rsrc' := rsrc.symm
    have so := DS.srcOff
    have ro := DS.rowOff
    k_extra "GO8"
    refine way_cut j (by k_asm) (by k_asm) ?_ ?_
    · rcases Nat.eq_zero_or_pos j with hj0 | hj0
      · have hj1 : (0 + (j : Int) == 0) = true := by rw [hj0]; rfl
        k_steps
        exact ⟨_, _, _, _, _, _, _, _, _, rfl, rfl, by k_asm, by k_asm, by assumption, by assumption, by assumption, Int.le_refl _, by decide, fun _ => rfl⟩
      · have hj1 : (0 + (j : Int) == 0) = false := beq_eq_false_iff_ne.mpr (by omega)
        k_steps
        exact ⟨_, _, _, _, _, _, _, _, _, rfl, rfl, by k_asm, by k_asm, by assumption, by assumption, by assumption, by assumption, by assumption, fun e => absurd e (Nat.ne_of_gt hj0)⟩
    intro way tw h3 tk3 x3 tx3 y3 ty3 ns3 F3 N3 r1 r2 r3 w1 w2 w3
    k_extra "GO8"
    refine some_cut src rvs (by k_asm) (by k_asm) ?_ ?_
    · have hrl := DS.rlen
      rcases Nat.eq_zero_or_pos j with hj0 | hj0
      · k_steps
        exact ⟨rws, rvs, nr, _, _, rfl, rfl, by k_asm, news_dup (by k_asm), rsrc, by omega, by omega, fun q hq => ⟨hq, .inl (DS.r0 hj0 q hq)⟩⟩
      · k_extra "GO2"
        refine LCt.CompSrcT.ledger (by rfl) (by k_asm) (by k_asm) (by k_mem) (by rw [List.size_toArray, List.length_map, sizeLine_eq]; omega) ?_
        intro g'
        refine compT_rel (as := rvs) (fun q => q.2.kind == Str.ofString "element") (fun v q => v = .ref q.1) (fun v q => v = .ref q.1) (by rw [List.size_toArray, List.length_map]) (fun i v hi hv => ?hP) ?turn ?fin
        case hP =>
          rw [List.getElem?_toArray, List.getElem?_map] at hv
          cases e : rvs[i]? with
          | none => rw [e] at hv; cases hv
          | some q => rw [e] at hv; cases hv; exact ⟨q, rfl, rfl⟩
        case turn =>
          rintro q v I' oI' C oC D m₂ ys h tk E' hq rfl hC hx F' N' off hne
          have offm := off
          simp only [LCg.Off3] at off
          obtain ⟨o, kvs, t1, t2, t3, t4, t5, wv, h1, h2, h3, g1, g2, g3, g4, g5, g6, g7, g8, g9⟩ := DS.doc.rows q hq
          have h1 : (q.1, o) ∈ M1 ++ (K ++ R) := List.mem_append_right _ (List.mem_append_left _ h1)
          cases he : (q.2.kind == Str.ofString "element")
          · k_steps
            refine LCg.CompEnd.intro (by k_asm) (by k_asm) _ (fun _ h => h) offm (.inr ⟨_, by k_mem, rfl, _, rfl⟩) ⟨rfl, rfl⟩
          · k_steps
            refine LCg.CompEnd.intro (by k_asm) (by k_asm) _ (fun _ h => h) offm (.inr ⟨_, by k_mem, rfl, _, rfl⟩) ⟨rfl, rfl, rfl⟩
        case fin =>
          intro ys hys D h tk F' N' off
          have e : ys = (rvs.filter fun q => q.2.kind == Str.ofString "element").map fun q => Value.ref q.1 := by
            generalize (rvs.filter fun q => q.2.kind == Str.ofString "element") = l at hys
            clear N'
            induction hys with
            | nil => rfl
            | cons h _ ih => rw [h, ih]; rfl
          subst e
          exact ⟨D, _, _, _, _, rfl, rfl, by k_asm, (by k_asm), (off1_mem _ off (src, srcO x3 tx3 y3 ty3 ns3) (by k_mem)).symm, els_pos (DS.el hj0), Nat.lt_of_le_of_lt (List.length_filter_le _ _) (by omega), fun q hq => ⟨(List.mem_filter.mp hq).1, .inr (beq_iff_eq.mp (List.mem_filter.mp hq).2)⟩⟩
    intro l els nl h4 tk4 F4 N4 e1 e2 e3 e4
    k_extra "GO9"
    rename_i l5 hh5 t5' tk5' k5 tk5 h5 x5 tx5 y5 ty5 ns5 tk25 s0 s1 s2 s3 s4 v5 hv5 h6 F6 N6
    obtain ⟨⟨rb, vb⟩, hrb, rfl⟩ : ∃ q, q ∈ els ∧ v5 = Value.ref q.1 := by
      rw [List.getElem?_map] at hv5
      cases e : els[k5.toNat]? with
      | none => rw [e] at hv5; cases hv5
      | some q => rw [e] at hv5; cases hv5; exact ⟨q, List.mem_of_getElem? e, rfl⟩
    obtain ⟨hrv, hkb⟩ := e4 _ hrb
    obtain ⟨j0, hj0⟩ := List.mem_iff_getElem?.mp hrv
    obtain ⟨i0, t0, RO⟩ := DS.doc.all j0 rb vb hj0
    have hRB := DS.doc.rows _ hrv
    have hn0 := RO.node
    have hkt : t0.v.kind = Str.ofString "root" ∨ t0.v.kind = Str.ofString "element" := by rw [RO.kind]; exact hkb
    have N7 := news_tail N6
    have hi0 := RO.ti
    have TS := DS.st
    have htl := DS.tl
    have hj2 : j < 11 := by omega
    have hkl : t0.v.kids.length < 900 := by
      have e := RO.kids.length
      rw [List.length_map] at e
      have := List.length_filter_le (fun q : Addr × RowV => decide (q.2.above = .ref rb)) rvs
      have := DS.rlen
      omega
    obtain ⟨tt, htt⟩ := DS.st.hdt
    have c1 : (tr, instObj 330 dt) ∈ M1 ++ (K ++ R) := List.mem_append_left _ DS.st.htr
    have c2 : (dt, dictOf (treeE w.params tt lst) 1) ∈ M1 ++ (K ++ R) := List.mem_append_left _ htt
    obtain ⟨o0, kvs0, z1, z2, z3, z4, z5, z6, y1', y2, y3', g1, g2, g3, g4, g5, g6, g7, g8, g9⟩ := id hRB
    have y1' : (rb, o0) ∈ M1 ++ (K ++ R) := List.mem_append_right _ (List.mem_append_left _ y1')
    rw [hn0] at g1
    clear N6 hv5 N3 F3 e1 e2 e3
    k_extra "GOI"
    rename_i rd hh7 o7 lo7 hd7 l7 hld hh8 ohd lo8 hs8 fs8 hi8 fi8 l8 hh10 rob hro hh9 F8 N8
    obtain ⟨ta, tb, tc, td, hro⟩ : ∃ ta tb tc td, rob.IsDictOf (PySem.strKind prog w) (rk (.ref rb) (.str (Str.ofString "") ta) (.str (Str.ofString "") tb) (.ref hld) .none (.str (Str.ofString "") tc) (.str (Str.ofString "text") td)) := ⟨_, _, _, _, hro⟩
    have rdOff : ∀ q ∈ M1 ++ (K ++ R), q.1 ≠ rd := fun q hq => Nat.ne_of_lt (tb_ltOf l7.2.2.2 q hq)
    have hlOff : ∀ q ∈ M1 ++ (K ++ R), q.1 ≠ hld := fun q hq => Nat.ne_of_lt (tb_ltOf l8.2.2.2.2 q hq)
    have d1 : hld ≠ rd := Nat.ne_of_gt l8.1
    have d2 : I ≠ rd := Nat.ne_of_lt l7.1
    have d3 : rws ≠ rd := Nat.ne_of_lt l7.2.1
    have d4 : src ≠ rd := Nat.ne_of_lt l7.2.2.1
    have d5 : rd ≠ hld := d1.symm
    have d6 : I ≠ hld := Nat.ne_of_lt l8.2.1
    have d7 : rws ≠ hld := Nat.ne_of_lt l8.2.2.1
    have d8 : src ≠ hld := Nat.ne_of_lt l8.2.2.2.1
    have d9 : hld ≠ src := d8.symm
    have da : rd ≠ src := d4.symm
    have db : rd ≠ rws := d3.symm
    have dc : hld ≠ rws := d7.symm
    clear hs8 fs8 hi8 fi8 hd7 l7 l8
    have hw4 : way < 3 ∨ (¬ way < 3 ∧ way < 5) ∨ (¬ way < 3 ∧ ¬ way < 5 ∧ way = 5) ∨ (¬ way < 3 ∧ ¬ way < 5 ∧ ¬ way = 5) := by omega
    rcases hw4 with w4 | ⟨w4, w5⟩ | ⟨w4, w5, w6⟩ | ⟨w4, w5, w6⟩
    · k_extra "GOT"
      rename_i l1 hA1 lq1 k1 v1 hA2 x1' tx1' y1' ty1' nn1 tkk1 hv1 pa pb pc l2 hA3 lq2 k2 v2 hA4 x6 tx6 y6 ty6 nn6 tkk6 hv2 p6 p7 p8 hA5 hk5 nm5 hA6 FA NA
      obtain ⟨uri, tu, rfl⟩ : ∃ u tu, v1 = .str u tu := by
        rcases k1 with _ | _ | _ | k1
        · cases hv1; exact ⟨_, _, rfl⟩
        · cases hv1; exact ⟨_, _, rfl⟩
        · cases hv1; exact ⟨_, _, rfl⟩
        · simp at hv1
      obtain ⟨loc, tlo, rfl, lk⟩ : ∃ l tl, v2 = .str l tl ∧ (l = Str.ofString "if" ∨ l = Str.ofString "a") := by
        rcases k2 with _ | _ | k2
        · cases hv2; exact ⟨_, _, rfl, .inl rfl⟩
        · cases hv2; exact ⟨_, _, rfl, .inr rfl⟩
        · simp at hv2
      have NB := news_tail (news_tail (news_tail NA))
      clear NA hv1 hv2 lq1 lq2
      k_extra "SETROW"
      k_extra "GOT"
      k_extra "SETROW"
      k_extra "GOT"
      k_extra "SETROW"
      k_extra "GOT"
      rename_i hs9 ox Fs9 N9 hds9
      refine add_element_c (by k_extra "CX") (news_sub N9 led5) (sep5 DS.sep (fun q hq => hlOff q (List.mem_append_left _ hq)) (fun q hq => rdOff q (List.mem_append_left _ hq)) (fun q hq => hI2.2.2 q (List.mem_append_left _ hq)) (fun q hq => ro q (List.mem_append_left _ hq)) (fun q hq => so q (List.mem_append_left _ hq))) TS hi0 hkt (by omega) hkl (by ktr_room) (by ktr_units) ?_
      intro tk9 h9 tk9' M2 n2 t' tn F9 N10 S9 TS9 hu1 hu2
      obtain ⟨f1, f2, f3, f4, f5, f6⟩ := S9.off5
      have N11 := news_sub N10 led5'
      have g2r := off_app f2 (fun q hq => rdOff q (List.mem_append_right _ hq))
      have hrl : (rvs.map fun q : Addr × RowV => Value.ref q.1).length < 100 := by rw [List.length_map, DS.rlen]; omega
      clear N9 N10
      k_extra "GOT"
      k_extra "SETROW"
      k_extra "GOT"
      rename_i hsA oA FsA NC hdsA
      have hlt0 := (List.getElem?_eq_some_iff.mp hi0).1
      have hTl : (ts.set i0 t').length = ts.length := List.length_set
      have hTl2 : (ts.set i0 t' ++ [tn]).length = ts.length + 1 := by rw [List.length_append, hTl]; rfl
      have hTn : (ts.set i0 t' ++ [tn])[ts.length]? = some tn := by rw [List.getElem?_append_right (by rw [hTl]; exact Nat.le_refl _), hTl, Nat.sub_self]; rfl
      have hS12 : Sep M2 ((hld, ohd) :: (rd, oA) :: (I, oI) :: (rws, listOf (rvs.map fun q => Value.ref q.1).toArray nr) :: (K ++ R)) := sep4 f6 f1 f2 f3 f4
      have hO12 : ∀ q ∈ M2 ++ ((hld, ohd) :: (rd, oA) :: (I, oI) :: (rws, listOf (rvs.map fun q => Value.ref q.1).toArray nr) :: (K ++ R)), q.1 ≠ src := off_app f5 (off4 d9 da hI4' rsrc (fun q hq => so q (List.mem_append_right _ hq)))
      refine law_attributes_c (M := M2) (i := ts.length) (by k_extra "CX") (news_sub NC led5s) hO12 hS12 TS9 hTn (by rw [hu2]) (by rw [hu2]) (by omega) p6 p7 p8 (by ktr_room) (by ktr_units) ?_
      clear NC
      intro TU fd tnn wv h12 tk12 x7 tx7 y7 ty7 ns7 n7 M3 KR fo' D ts3 t2 exs vals word F12 N12 AF hW r1' r2' r3' hsf hT
      have N13 := news_sub N12 led7
      have e1 : ∀ q ∈ ((hld, ohd) :: (rd, oA) :: (I, oI) :: (rws, listOf (rvs.map fun q => Value.ref q.1).toArray nr) :: (K ++ R) : List (Addr × Obj)), q.1 ≠ fd := fun q hq => AF.fdOff q (List.mem_append_right _ (List.mem_append_right _ hq))
      have e2 : fd ≠ rd := (e1 _ (.tail _ (.head _))).symm
      have e3 : fd ≠ rws := (e1 _ (.tail _ (.tail _ (.tail _ (.head _))))).symm
      have e5 : fd ≠ I := (e1 _ (.tail _ (.tail _ (.head _)))).symm
      have s12 : Sep M3 ((hld, ohd) :: (rd, oA) :: (I, oI) :: (rws, listOf (rvs.map fun q => Value.ref q.1).toArray nr) :: (K ++ R)) := fun q hq r hr => AF.sep q hq r (List.mem_append_right _ hr)
      obtain ⟨b1, b2, b3, b4, b5⟩ := s12.off4
      have k1 : ∀ q ∈ KR, q.1 ≠ rd := fun q hq => AF.sepR q hq _ (.tail _ (.head _))
      have k2 : ∀ q ∈ KR, q.1 ≠ rws := fun q hq => AF.sepR q hq _ (.tail _ (.tail _ (.tail _ (.head _))))
      have k3 : ∀ q ∈ KR, q.1 ≠ I := fun q hq => AF.sepR q hq _ (.tail _ (.tail _ (.head _)))
      have g3r := off_app b2 (off_app k1 (fun q hq => rdOff q (List.mem_append_right _ hq)))
      have g3w := off_app b4 (off_app k2 (fun q hq => ro q (List.mem_append_right _ hq)))
      clear N12 N11 S9 hS12 hO12
      k_extra "GOT"
      rename_i hB F14 N14
      have N15 := news_tail N14
      clear N14
      k_extra "SETROW"
      k_extra "GOT"
      k_extra "SETROW"
      k_steps
      rename_i o9 hro9 tk10 h10 F10 N10
      have hK : ∀ q ∈ K, q ∈ ((rd, o9) :: (fd, fo') :: KR) ++ K := fun q hq => List.mem_append_right _ hq
      have hrow := RowIn.ofRkn (news := ((rd, o9) :: (fd, fo') :: KR) ++ K) (.head _) hro9 lo7 hW
      have hlen := AF.len
      have DO := DS.doc.elem hK hj0 hn0 hi0 hkb hu1 (fun q hq => rdOff q (List.mem_append_right _ (List.mem_append_left _ hq))) hu2 AF.ae AF.kd AF.len (TupTab.mono AF.tup (fun q hq => .tail _ (List.mem_append_left _ hq))) AF.rel AF.wd hrow lk
      have DN := DS.next (E := (rd, o9) :: (fd, fo') :: KR) b5 (fun q hq r hr => (off_cons (b2 q hq).symm (off_cons (AF.fdOff q (List.mem_append_left _ hq)).symm (fun r hr => AF.sep q hq r (List.mem_append_left _ hr)))) r hr) (fun q hq => AF.srcOff q (List.mem_append_left _ hq)) b4
        (fun q hq => ⟨off_cons da (off_cons hsf.symm (fun q hq => AF.srcOff q (List.mem_append_right _ (List.mem_append_left _ hq)))) q hq, off_cons db (off_cons e3 k2) q hq, fun r hr => (off_cons (rdOff r (List.mem_append_right _ (List.mem_append_right _ hr))).symm (off_cons (e1 r (.tail _ (.tail _ (.tail _ (.tail _ (List.mem_append_right _ hr)))))).symm (fun q hq => AF.sepR q hq r (.tail _ (.tail _ (.tail _ (.tail _ (List.mem_append_right _ hr)))))))) q hq⟩) AF.st DO (by rw [AF.ae.len, hTl2]; omega) (by rw [List.length_append]; rfl) ⟨_, List.mem_append_right _ (.head _), rfl⟩
      refine ⟨_, _, _, _, rfl, F10, news_sub N10 led6e, ?_, M3, _, n7, x7, tx7, y7, ty7, ns7, _, _, _, by rw [List.map_append]; rfl, r1', r2', r3', DN, fun y y1 y2 y3 y4 y5 => by simp only [if_neg y1, if_neg y2, if_neg y3, if_neg y4, if_neg y5]⟩
      exact off_cons hI3 (off_cons hI4 (off_app b3 (off_app (off_app (off_cons d2.symm (off_cons e5 k3)) (fun q hq => hI2.2.2 q (List.mem_append_right _ (List.mem_append_left _ hq)))) (fun q hq => hI2.2.2 q (List.mem_append_right _ (List.mem_append_right _ hq))))))
    · k_extra "GOT"
      rename_i lq hh11 Fq Nq lq1 kq vq hq xq txq yq tyq nq tkq Fq2 Nq2 hvq p2q p3q p4q
      obtain ⟨xt, tt2, rfl, hxt⟩ : ∃ xt tt2, vq = .str xt tt2 ∧ TextOk xt := by
        rcases kq with _ | _ | _ | _ | _ | _ | kq
        · cases hvq; exact ⟨_, _, rfl, .inr (.inl rfl)⟩
        · cases hvq; exact ⟨_, _, rfl, .inl rfl⟩
        · cases hvq; exact ⟨_, _, rfl, .inr (.inr (.inl rfl))⟩
        · cases hvq; exact ⟨_, _, rfl, .inr (.inr (.inr (.inl rfl)))⟩
        · cases hvq; exact ⟨_, _, rfl, .inr (.inr (.inr (.inr (.inl rfl))))⟩
        · cases hvq; exact ⟨_, _, rfl, .inr (.inr (.inr (.inr (.inr rfl))))⟩
        · simp at hvq
      have Nq3 := news_tail Nq2
      clear Nq Nq2 Fq hvq lq1
      k_extra "SETROW"
      k_extra "GOT"
      rename_i hs9 ox Fs9 N9 hds9
      refine add_text_c (by k_extra "CX") (news_sub N9 led5) (sep5 DS.sep (fun q hq => hlOff q (List.mem_append_left _ hq)) (fun q hq => rdOff q (List.mem_append_left _ hq)) (fun q hq => hI2.2.2 q (List.mem_append_left _ hq)) (fun q hq => ro q (List.mem_append_left _ hq)) (fun q hq => so q (List.mem_append_left _ hq))) TS hi0 hkt (by omega) hkl (by ktr_room) (by ktr_units) ?_
      intro tk9 h9 tk9' M2 n2 t' tn F9 N10 S9 TS9 hv1 hv2
      obtain ⟨f1, f2, f3, f4, f5, f6⟩ := S9.off5
      have N11 := news_sub N10 led5'
      have g2r := off_app f2 (fun q hq => rdOff q (List.mem_append_right _ hq))
      have g4r := off_app f4 (fun q hq => ro q (List.mem_append_right _ hq))
      have hrl : (rvs.map fun q : Addr × RowV => Value.ref q.1).length < 100 := by rw [List.length_map, DS.rlen]; omega
      clear N9 N10 S9
      k_extra "GOT"
      k_extra "SETROW"
      k_steps
      rename_i o9 hro9 tk10 h10 F10 N10
      have hK : ∀ q ∈ K, q ∈ [(rd, o9), (hld, ohd)] ++ K := fun q hq => .tail _ (.tail _ hq)
      have hrow := RowIn.ofRkn (news := [(rd, o9), (hld, ohd)] ++ K) (.head _) hro9 lo7 (wd := none) rfl
      have DO := DS.doc.leaf hK hj0 hn0 hi0 hkb hv1 (fun q hq => rdOff q (List.mem_append_right _ (List.mem_append_left _ hq))) hrow hv2 rfl (.inl rfl) rfl rfl hxt (fun _ => rfl) hxt.len
      have hel := vEl (q := (rd, ⟨ts.length, Str.ofString "text", .ref rb, Str.ofString "", Str.ofString "", hld, none, xt⟩)) (DS.el (Nat.pos_of_ne_zero fun e => w4 (by rw [w3 e]; decide)))
      have DN := DS.next (E := [(rd, o9), (hld, ohd)]) f6 (leafE f2 f1) f5 f4 (leafO da db d9 dc (fun r hr => (rdOff r (List.mem_append_right _ (List.mem_append_right _ hr))).symm) (fun r hr => (hlOff r (List.mem_append_right _ (List.mem_append_right _ hr))).symm)) TS9 DO leaf_len (by rw [List.length_append]; rfl) hel
      refine ⟨_, _, _, _, rfl, F10, news_sub N10 led5e, ?_, M2, _, n2, xq, txq, yq, tyq, nq, _, _, _, by rw [List.map_append]; rfl, p2q, p3q, p4q, DN, fun y y1 y2 y3 y4 y5 => by simp only [if_neg y1, if_neg y2, if_neg y3, if_neg y4, if_neg y5]⟩
      exact leafI hI3 hI4 f3 d2.symm d6.symm (fun q hq => hI2.2.2 q (List.mem_append_right _ hq))
    · have w7 : (way == 5) = true := by rw [w6]; rfl
      k_extra "GOT"
      refine add_comment_c (by k_extra "CX") (news_sub N8 led5) (sep5 DS.sep (fun q hq => hlOff q (List.mem_append_left _ hq)) (fun q hq => rdOff q (List.mem_append_left _ hq)) (fun q hq => hI2.2.2 q (List.mem_append_left _ hq)) (fun q hq => ro q (List.mem_append_left _ hq)) (fun q hq => so q (List.mem_append_left _ hq))) TS hi0 hkt (by omega) hkl (by ktr_room) (by ktr_units) ?_
      intro tk9 h9 tk9' M2 n2 t' tn F9 N10 S9 TS9 hv1 hv2
      obtain ⟨f1, f2, f3, f4, f5, f6⟩ := S9.off5
      have N11 := news_sub N10 led5'
      have g2r := off_app f2 (fun q hq => rdOff q (List.mem_append_right _ hq))
      have g4r := off_app f4 (fun q hq => ro q (List.mem_append_right _ hq))
      have hrl : (rvs.map fun q : Addr × RowV => Value.ref q.1).length < 100 := by rw [List.length_map, DS.rlen]; omega
      clear N8 N10 S9
      k_extra "GOT"
      rename_i hT FT NT
      have NT2 := news_tail NT
      clear NT
      k_extra "SETROW"
      k_extra "GOT"
      k_extra "SETROW"
      k_steps
      rename_i o9 hro9 tk10 h10 F10 N10
      have hK : ∀ q ∈ K, q ∈ [(rd, o9), (hld, ohd)] ++ K := fun q hq => .tail _ (.tail _ hq)
      have hrow := RowIn.ofRkn (news := [(rd, o9), (hld, ohd)] ++ K) (.head _) hro9 lo7 (wd := none) rfl
      have DO := DS.doc.leaf hK hj0 hn0 hi0 hkb hv1 (fun q hq => rdOff q (List.mem_append_right _ (List.mem_append_left _ hq))) hrow hv2 rfl (.inr (.inl rfl)) rfl rfl (.inl rfl) (fun e => absurd e (by decide)) (Nat.le_of_ble_eq_true (by kernel_rfl!))
      have hel := vEl (q := (rd, ⟨ts.length, Str.ofString "comment", .ref rb, Str.ofString "", Str.ofString "", hld, none, Str.ofString ""⟩)) (DS.el (Nat.pos_of_ne_zero fun e => w4 (by rw [w3 e]; decide)))
      have DN := DS.next (E := [(rd, o9), (hld, ohd)]) f6 (leafE f2 f1) f5 f4 (leafO da db d9 dc (fun r hr => (rdOff r (List.mem_append_right _ (List.mem_append_right _ hr))).symm) (fun r hr => (hlOff r (List.mem_append_right _ (List.mem_append_right _ hr))).symm)) TS9 DO leaf_len (by rw [List.length_append]; rfl) hel
      refine ⟨_, _, _, _, rfl, F10, news_sub N10 led5e, ?_, M2, _, n2, x5, tx5, y5, ty5, ns5, _, _, _, by rw [List.map_append]; rfl, s2, s3, s4, DN, fun y y1 y2 y3 y4 y5 => by simp only [if_neg y1, if_neg y2, if_neg y3, if_neg y4, if_neg y5]⟩
      exact leafI hI3 hI4 f3 d2.symm d6.symm (fun q hq => hI2.2.2 q (List.mem_append_right _ hq))
    · have w7 : (way == 5) = false := beq_eq_false_iff_ne.mpr w6
      k_extra "GOT"
      refine add_instruction_c (by k_extra "CX") (news_sub N8 led5) (sep5 DS.sep (fun q hq => hlOff q (List.mem_append_left _ hq)) (fun q hq => rdOff q (List.mem_append_left _ hq)) (fun q hq => hI2.2.2 q (List.mem_append_left _ hq)) (fun q hq => ro q (List.mem_append_left _ hq)) (fun q hq => so q (List.mem_append_left _ hq))) TS hi0 hkt (by omega) hkl (by ktr_room) (by ktr_units) ?_
      intro tk9 h9 tk9' M2 n2 t' tn F9 N10 S9 TS9 hv1 hv2
      obtain ⟨f1, f2, f3, f4, f5, f6⟩ := S9.off5
      have N11 := news_sub N10 led5'
      have g2r := off_app f2 (fun q hq => rdOff q (List.mem_append_right _ hq))
      have g4r := off_app f4 (fun q hq => ro q (List.mem_append_right _ hq))
      have hrl : (rvs.map fun q : Addr × RowV => Value.ref q.1).length < 100 := by rw [List.length_map, DS.rlen]; omega
      clear N8 N10 S9
      k_extra "GOT"
      rename_i hT FT NT
      have NT2 := news_tail NT
      clear NT
      k_extra "SETROW"
      k_extra "GOT"
      k_extra "SETROW"
      k_steps
      rename_i o9 hro9 tk10 h10 F10 N10
      have hK : ∀ q ∈ K, q ∈ [(rd, o9), (hld, ohd)] ++ K := fun q hq => .tail _ (.tail _ hq)
      have hrow := RowIn.ofRkn (news := [(rd, o9), (hld, ohd)] ++ K) (.head _) hro9 lo7 (wd := none) rfl
      have DO := DS.doc.leaf hK hj0 hn0 hi0 hkb hv1 (fun q hq => rdOff q (List.mem_append_right _ (List.mem_append_left _ hq))) hrow hv2 rfl (.inr (.inr rfl)) rfl rfl (.inl rfl) (fun e => absurd e (by decide)) (Nat.le_of_ble_eq_true (by kernel_rfl!))
      have hel := vEl (q := (rd, ⟨ts.length, Str.ofString "instruction", .ref rb, Str.ofString "", Str.ofString "", hld, none, Str.ofString ""⟩)) (DS.el (Nat.pos_of_ne_zero fun e => w4 (by rw [w3 e]; decide)))
      have DN := DS.next (E := [(rd, o9), (hld, ohd)]) f6 (leafE f2 f1) f5 f4 (leafO da db d9 dc (fun r hr => (rdOff r (List.mem_append_right _ (List.mem_append_right _ hr))).symm) (fun r hr => (hlOff r (List.mem_append_right _ (List.mem_append_right _ hr))).symm)) TS9 DO leaf_len (by rw [List.length_append]; rfl) hel
      refine ⟨_, _, _, _, rfl, F10, news_sub N10 led5e, ?_, M2, _, n2, x5, tx5, y5, ty5, ns5, _, _, _, by rw [List.map_append]; rfl, s2, s3, s4, DN, fun y y1 y2 y3 y4 y5 => by simp only [if_neg y1, if_neg y2, if_neg y3, if_neg y4, if_neg y5]⟩
      exact leafI hI3 hI4 f3 d2.symm d6.symm (fun q hq => hI2.2.2 q (List.mem_append_right _ hq))
  · rintro h tk m₁ news₁ ⟨M1, K, n1, x1, tx1, y1, ty1, ns1, nr, ts, rvs, rfl, q1, q2, q3, DS, hm₁⟩ F' N'
    have F2 := fr_map F' (m₂ := fun y => if y = Str.ofString "turn" then m₁ y else if y = Str.ofString "way" then m₁ y else if y = Str.ofString "some" then m₁ y else if y = Str.ofString "above" then m₁ y else if y = Str.ofString "row" then m₁ y else m₀ y) (fun y => by
      by_cases e1 : y = Str.ofString "turn"
      · simp only [if_pos e1]
      by_cases e2 : y = Str.ofString "way"
      · simp only [if_neg e1, if_pos e2]
      by_cases e3 : y = Str.ofString "some"
      · simp only [if_neg e1, if_neg e2, if_pos e3]
      by_cases e4 : y = Str.ofString "above"
      · simp only [if_neg e1, if_neg e2, if_neg e3, if_pos e4]
      by_cases e5 : y = Str.ofString "row"
      · simp only [if_neg e1, if_neg e2, if_neg e3, if_neg e4, if_pos e5]
      · simp only [if_neg e1, if_neg e2, if_neg e3, if_neg e4, if_neg e5]; exact hm₁ y e1 e2 e3 e4 e5)
    clear F' FR NR FL NL FK NK NR1
    subst em
    (try k_unmd); (try k_fold)
    have hj11 : (4 + k0).toNat ≤ 11 := by omega
    k_steps
    rename_i hX FX NX kF kN Tc kX
    exact hret _ _ _ _ _ _ _ _ _ _ _ _ _ _ _ _ _ _ _ _ _ kF kN DS hj11
end
section
variable {prog : Program} {w : World} {p : Program} {loose : List Str} {mean : ExcName → Option Value} {mg mb : Str → Option Value}
  {dp un : Nat} {gd : Option (List Code)} {cn : Str} {cs : Scope} {a : Addr} {ccd : Value} {cl : List (Str × Addr)} {outer : List Env} {A₀ : Around} {base h₀ : Heap} {L : Addr} {m : Str → Option Value} {rest news : List (Addr × Obj)} {s : Shared} {Q E : Value → Shared → Prop}
theorem pool1 {c : Int} {P : Prop} [Decidable P] : 0 ≤ (if -1 - c > c then -1 - c else c) * (if P then 1 else 0) := by
  have h : 0 ≤ (if -1 - c > c then -1 - c else c) := by split <;> omega
  exact Int.mul_nonneg h (by split <;> decide)
inductive CellP (g : Heap) (L : Addr) (m : Str → Option Value) (x : Str) (news : List (Addr × Obj)) (s : Shared) (f : Flow) (s₁ : Shared) : Prop
  | mk (c : Int) (tc : Tok) (h' : Heap) (tk' : Nat) (e1 : f = .next) (e2 : s₁ = { s with heap := h', toks := tk' }) (F : Fr g L h' (fun y => if y = x then some (.int c tc) else m y)) (N : News g L h' news)
theorem fr_twice {g h : Heap} {L : Addr} {m : Str → Option Value} {x : Str} {v v0 : Value} (F : Fr g L h (fun y => if y = x then some v else if y = x then some v0 else m y)) : Fr g L h (fun y => if y = x then some v else m y) := fr_map F fun y => by
  by_cases e : y = x
  · simp only [if_pos e]
  · simp only [if_neg e]
theorem cell_cut {A : Around} {c : Sem Flow} {g : Heap} {L : Addr} {m : Str → Option Value} {x : Str} {v0 : Value} {Q : Flow → Shared → Prop} (F : Fr g L s.heap (fun y => if y = x then some v0 else m y)) (N : News g L s.heap news)
    (h : wpAny (model prog w) A c (CellP g L m x news s) E s) (k : ∀ (c : Int) (tc : Tok) (h' : Heap) (tk' : Nat), Fr g L h' (fun y => if y = x then some (.int c tc) else m y) → News g L h' news → Q .next { s with heap := h', toks := tk' }) : wpAny (model prog w) A c Q E s := by
  refine wpAny_mono h (fun f s₁ hw => ?_) fun _ _ e => e
  obtain ⟨c, tc, h', tk', rfl, rfl, F, N⟩ := hw
  exact k c tc h' tk' F N
theorem say46 : True := by
  (k_with "GOJ" => repeat' ((fail_if_success (with_reducible show wpAny _ _ (exec (PySem.Stmt.If _ _ _ _) _) _ _ _)); (first | (k_unfold; (try dsimp only)) | (k_end; wrow_close) | walk1 | (dsimp only; walk1) | (leave1; walk_say "STEP leave1"; try dsimp only))))
  trivial
theorem law_pool_c {sc : Addr} {vs : List Value} {ws : List Int} {tk0 : Tok}
    (C : Cx w p loose mean mg mb A₀ base outer h₀ L s.heap m cs) (N : News h₀ L s.heap news) (hl : h₀.IsList sc vs.toArray) (hI : IntsAre vs ws) (hlen : ws.length ≤ 63)
    (hd : dp + 5 < recursionLimit) (hu : un + 50 < cLine)
    (hret : ∀ (l : Addr) (x : Int) (tx : Tok) (y : Int) (ty : Tok) (c : Nat) (h' : Heap) (tk' : Nat), Fr h₀ L h' m → News h₀ L h' ((l, srcO x tx y ty c) :: news) → (∀ q ∈ news, q.1 ≠ l) → 0 ≤ x → 0 ≤ y → y < 2147483647 → Q (.ref l) { s with heap := h', toks := tk' }) :
    wpAny (model prog w) (ktrTop dp un gd cn cs L a ccd cl outer) (call (.ref 341) [.ref sc, .int 0 tk0]) Q E s := by
  obtain ⟨B, F, X, T, hkk⟩ := C
  refine wpAny_call ?_
  k_dflt (k_extra "ENTER")
  k_extra "GOJ"
  rename_i g1 L1 h1 FG1 B1 X1 T1 h2 F1 N1
  have hl1 : Heap.IsList h2 sc vs.toArray := (hl.at fun o e => FG1.keep _ o e).at fun o e => F1.keep _ o e
  have hll := hI.length
  refine cell_cut (x := Str.ofString "cell") F1 N1 ?_ ?_
  · k_steps
    all_goals exact ⟨_, _, _, _, rfl, rfl, by first | k_asm | exact fr_twice (by k_asm), by k_asm⟩
  intro c tc h3 tk3 F3 N3
  k_steps
  exact hret _ _ _ _ _ _ _ _ (by k_asm) (by k_asm) (fun q hq => Nat.ne_of_lt ((by assumption : ∀ p ∈ news, p.1 < _) q hq)) pool1 (Int.fmod_nonneg_of_pos _ (by decide)) (Int.fmod_lt_of_pos _ (by decide))
theorem sub2 {x y : Addr × Obj} {l : List (Addr × Obj)} (h : x ∈ l) (h2 : y ∈ l) : ∀ q ∈ [x, y], q ∈ l := fun q hq => by
  rcases List.mem_cons.mp hq with e | hq
  · rw [e]; exact h
  · rw [List.mem_singleton.mp hq]; exact h2
theorem led4 {a b c d : Addr × Obj} {M : List (Addr × Obj)} : ∀ q ∈ a :: b :: c :: d :: M, q ∈ M ++ [a, b, c, d] := by
  intro q hq
  rcases List.mem_cons.mp hq with e | hq
  · rw [e]; exact List.mem_append_right _ (.head _)
  rcases List.mem_cons.mp hq with e | hq
  · rw [e]; exact List.mem_append_right _ (.tail _ (.head _))
  rcases List.mem_cons.mp hq with e | hq
  · rw [e]; exact List.mem_append_right _ (.tail _ (.tail _ (.head _)))
  rcases List.mem_cons.mp hq with e | hq
  · rw [e]; exact List.mem_append_right _ (.tail _ (.tail _ (.tail _ (.head _))))
  · exact List.mem_append_left _ hq
theorem led4' {a b c d : Addr × Obj} {M : List (Addr × Obj)} : ∀ q ∈ M ++ [a, b, c, d], q ∈ a :: b :: c :: d :: M := by
  intro q hq
  rcases List.mem_append.mp hq with hq | hq
  · exact .tail _ (.tail _ (.tail _ (.tail _ hq)))
  rcases List.mem_cons.mp hq with e | hq
  · rw [e]; exact .head _
  rcases List.mem_cons.mp hq with e | hq
  · rw [e]; exact .tail _ (.head _)
  rcases List.mem_cons.mp hq with e | hq
  · rw [e]; exact .tail _ (.tail _ (.head _))
  · rw [List.mem_singleton.mp hq]; exact .tail _ (.tail _ (.tail _ (.head _)))
theorem say47 : True := by
  (k_with "GOF" => repeat' ((fail_if_success (with_reducible show wpAny _ _ (call (Value.ref 180) _) _ _ _)); (fail_if_success (with_reducible show wpAny _ _ (call (Value.ref 194) _) _ _ _)); (fail_if_success (with_reducible show wpAny _ _ (call (Value.ref 229) _) _ _ _)); (first | (k_unfold; (try dsimp only)) | (k_end; wrow_close) | walk1 | (dsimp only; walk1) | (leave1; walk_say "STEP leave1"; try dsimp only))))
  trivial
theorem law_fixed_right_S
    (C : Cx w p loose mean mg mb A₀ base outer h₀ L s.heap m cs) {ps : Array Value} (N : News h₀ L s.heap [(405, tabObj #[]), (393, tabObj ps)]) (hC : CodeHd base 409 405)
    (XB : (frag w.params).In base) (TB : Top p loose mean mg mb base) (D0 : KtsDicts (outer.filterMap (·.frame)) h₀)
    (hd : dp + 60 < recursionLimit) (hu : un + 600 < cLine)
    (hret : ∀ (h₀' h' : Heap) (tk' : Nat) (ps' : Array Value), Fr h₀' L h' m → News h₀' L h' [(405, tabObj ps'), (393, tabObj ps)] → KtsTurn (outer.filterMap (·.frame)) h₀ h₀' → Q (.bool true) { s with heap := h', toks := tk' }) :
    wpAny (model prog w) (ktrTop dp un gd cn cs L a ccd cl outer) (call (.ref 410) []) Q E s := by
  obtain ⟨B, F, X, T, hkk⟩ := C
  refine wpAny_call ?_
  k_dflt (k_extra "ENTERSC")
  k_extra "GO7"
  rename_i g1 L1 hA tkA FG1 B1 X1 T1 D1 l1 o1 o2 d1 d2 qk1 ek1 tr dt hB F2 N2 l2 l3 g2 L2 hC2 FG2 B2 X2 T2 tkB lst hD l4 hE F3 N3 tkC kF kN Tc kX hF oT F4 N4 dT
  have n1 : (tr : Nat) ≠ lst := Nat.ne_of_lt l4.1
  have n2 : (dt : Nat) ≠ lst := Nat.ne_of_lt l4.2.1
  obtain ⟨tq, N4⟩ : ∃ tq, News g1 L1 hF ((lst, listOf #[] 0) :: (tr, instObj 330 dt) :: (dt, dictOf (treeE w.params tq lst) 1) :: (L1 + 1 + 1, oT) :: (L1 + 1, o2) :: (405, tabObj #[]) :: (393, tabObj ps) :: []) := ⟨_, N4⟩
  have hR0 : ∀ r ∈ [(L1 + 1 + 1, oT), (L1 + 1, o2), (405, tabObj #[]), (393, tabObj ps)], r.1 < dt := by
    simp only [List.forall_mem_cons]
    exact ⟨l2.1, l2.2.1, l2.2.2.1, l2.2.2.2, fun _ h => (by cases h)⟩
  have hS : Sep [(lst, listOf #[] 0), (tr, instObj 330 dt), (dt, dictOf (treeE w.params tq lst) 1)] [(L1 + 1 + 1, oT), (L1 + 1, o2), (405, tabObj #[]), (393, tabObj ps)] := by
    intro q hq r hr
    have := hR0 r hr
    rcases List.mem_cons.mp hq with e | hq
    · rw [e]; exact Nat.ne_of_lt (Nat.lt_trans this l4.2.1)
    rcases List.mem_cons.mp hq with e | hq
    · rw [e]; exact Nat.ne_of_lt (Nat.lt_trans this l3)
    · rw [List.mem_singleton.mp hq]; exact Nat.ne_of_lt this
  refine new_root_c (tr := tr) (dt := dt) (rl := lst) (n := 0) (M := [(lst, listOf #[] 0), (tr, instObj 330 dt), (dt, dictOf (treeE w.params tq lst) 1)]) (R := [(L1 + 1 + 1, oT), (L1 + 1, o2), (405, tabObj #[]), (393, tabObj ps)]) (by k_extra "CX") N4 hS ⟨.tail _ (.head _), ⟨_, .tail _ (.tail _ (.head _))⟩, .head _, n1, n2, fun _ h => (by cases h), fun _ h => (by cases h), .nil⟩ (by ktr_room) (by ktr_units) ?_
  intro tk5 h5 tkk5 M5 n5 tn5 F5 N5 S5 TS5 hv5
  clear N4 F4 hS
  k_extra "GOF"
  refine add_element_c (i := 0) (M := M5) (R := [(L1 + 1 + 1, oT), (L1 + 1, o2), (405, tabObj #[]), (393, tabObj ps)]) (by k_extra "CX") N5 S5 TS5 rfl (by rw [hv5]; exact .inl rfl) (by show 1 < 900; omega) (by rw [hv5]; show 0 < 900; omega) (by ktr_room) (by ktr_units) ?_
  intro tk6 h6 tkk6 M6 n6 t6 tn6 F6 N6 S6 TS6 hu1 hu2
  have N7 := news_sub (news' := (L1 + 1 + 1, oT) :: (L1 + 1, o2) :: (405, tabObj #[]) :: (393, tabObj ps) :: M6) N6 led4
  have u1 : @Ne Nat (L1 + 1 + 1) (L1 + 1) := Nat.succ_ne_self _
  have u2 : @Ne Nat 405 (L1 + 1) := Nat.ne_of_lt (Nat.lt_succ_of_lt l1.1)
  have u3 : ∀ q ∈ M6, q.1 ≠ L1 + 1 := fun q hq => (S6 q hq _ (.tail _ (.head _))).symm
  have u4 : ∀ q ∈ M6, q.1 ≠ L1 + 1 + 1 := fun q hq => (S6 q hq _ (.head _)).symm
  have u5 : ∀ q ∈ M6, q.1 ≠ 405 := fun q hq => (S6 q hq _ (.tail _ (.tail _ (.head _)))).symm
  have u7 : ∀ q ∈ M6, q.1 ≠ 393 := fun q hq => (S6 q hq _ (.tail _ (.tail _ (.tail _ (.head _))))).symm
  have u8 : @Ne Nat 393 (L1 + 1) := Nat.ne_of_lt (Nat.lt_succ_of_lt l1.2)
  have u9 : @Ne Nat 393 405 := by decide
  obtain ⟨tt6, htt6⟩ := TS6.hdt
  have c1 : (tr, instObj 330 dt) ∈ M6 := TS6.htr
  have c2 : (dt, dictOf (treeE w.params tt6 lst) 1) ∈ M6 := htt6
  clear N5 N6
  k_extra "GOF"
  rename_i hG oN FN NN dN
  refine set_attribute_c (i := 1) (t := tn6) (avs := []) (M := M6) (R := [(L1 + 1 + 1, oT), (L1 + 1, oN), (405, tabObj #[]), (393, tabObj ps)]) (by k_extra "CX") (news_sub NN led4') (sep4 (K := []) (fun _ _ _ h => (by cases h)) u4 u3 u5 u7) TS6 rfl (by rw [hu2]; exact .nil) (by rw [hu2]) (by show 2 < 900; omega) (by rw [hu2]; show 0 < 900; omega) (by ktr_room) (by ktr_units) ?_
  intro v9 h10 tk9 M7 n7 ts7 F8 N8 S8 TS8 SP
  rcases SP with ⟨j, k, tk, tk', ha, _⟩ | ⟨_, t7, tn7, tok7, e7, hv7, hn7⟩
  · simp at ha
  have hi1 : ts7[1]? = some t7 := by rw [e7]; rfl
  have hi2 : ts7[2]? = some tn7 := by rw [e7]; rfl
  have hlen7 : ts7.length = 3 := by rw [e7]; rfl
  generalize hits : (ts7.map fun t => Value.ref t.x) = its
  have hT7 : TreeIn w.params M7 tr its := hits ▸ TS8.tree (fun q hq => hq) (by omega)
  have hN7 : NodeIn w.params M7 its 1 t7.v := hits ▸ TS8.node (fun q hq => hq) hi1
  have hats : t7.v.ats = [Value.int 2 tok7] := by rw [hv7, hu2]; rfl
  have hA7 : AttrsIn w.params M7 its t7.v.ats [tn7.v] := by rw [hats]; exact .cons (hits ▸ TS8.node (fun q hq => hq) hi2) .nil
  have hl7 : t7.v.ats.length < 1000 := by rw [hats]; show 1 < 1000; omega
  have e1 : attrV [tn7.v] (Str.ofString "") (Str.ofString "standalone") = some (Str.ofString "maybe") := by rw [hn7]; kernel_rfl!
  have e2 : attrV [tn7.v] (Str.ofString "") (Str.ofString "indent") = none := by rw [hn7]; kernel_rfl!
  have N9 := news_sub N8 led4
  have w4 : ∀ q ∈ M7, q.1 ≠ L1 + 1 + 1 := fun q hq => (S8 q hq _ (.head _)).symm
  have w3 : ∀ q ∈ M7, q.1 ≠ L1 + 1 := fun q hq => (S8 q hq _ (.tail _ (.head _))).symm
  have w5 : ∀ q ∈ M7, q.1 ≠ 405 := fun q hq => (S8 q hq _ (.tail _ (.tail _ (.head _)))).symm
  have u6 : @Ne Nat (L1 + 1 + 1) 405 := Nat.ne_of_gt (Nat.lt_succ_of_lt (Nat.lt_succ_of_lt l1.1))
  obtain ⟨tt7, htt7⟩ := TS8.hdt
  have htr7 := TS8.htr
  clear NN N7 N8 c1 c2
  k_steps
  rename_i kg kT kF2 kN2 kB kX0 kP kD kX2
  exact hret _ _ _ _ kF2 (news_sub kN2 (sub2 (by k_mem) (by k_mem))) kT
end
theorem say48 : True := by
  (k_with "GOL" => repeat' ((fail_if_success (with_reducible show wpAny _ _ (call (Value.ref 341) _) _ _ _)); (fail_if_success (with_reducible show wpAny _ _ (call (Value.ref 367) _) _ _ _)); (fail_if_success (with_reducible show wpAny _ _ (call (Value.ref 403) _) _ _ _)); (fail_if_success (with_reducible show wpAny _ _ (call (Value.ref 123) _) _ _ _)); (fail_if_success (with_reducible show wpAny _ _ (call (Value.ref 377) _) _ _ _)); (fail_if_success (with_reducible show wpAny _ _ (call (Value.ref 410) _) _ _ _)); (fail_if_success (with_reducible show wpAny _ _ (exec (PySem.Stmt.For _ _ _ _ _) _) _ _ _)); (fail_if_success (with_reducible show wpAny _ _ (pyIter _) _ _ _)); (first | (k_unfold; (try dsimp only)) | (k_end; wrow_close) | walk1 | (dsimp only; walk1) | (leave1; walk_say "STEP leave1"; try dsimp only))))
  trivial
theorem bsub {rws p : Addr × Obj} {M K : List (Addr × Obj)} : (∀ q ∈ M, q ∈ rws :: (M ++ (K ++ [p]))) ∧ (∀ q ∈ K, q ∈ rws :: (M ++ (K ++ [p]))) ∧ p ∈ rws :: (M ++ (K ++ [p])) ∧ (rws.1 ≠ 393 → (∀ q ∈ M, q.1 ≠ 393) → (∀ q ∈ K, q.1 ≠ 393) → p.1 ≠ 393 → ∀ q ∈ rws :: (M ++ (K ++ [p])), q.1 ≠ 393) ∧ rws ∈ rws :: (M ++ (K ++ [p])) := by
  refine ⟨fun q hq => .tail _ (List.mem_append_left _ hq), fun q hq => .tail _ (List.mem_append_right _ (List.mem_append_left _ hq)), .tail _ (List.mem_append_right _ (List.mem_append_right _ (.head _))), fun h1 h2 h3 h4 q hq => ?_, .head _⟩
  rcases List.mem_cons.mp hq with e | hq
  · rw [e]; exact h1
  rcases List.mem_append.mp hq with hq | hq
  · exact h2 q hq
  rcases List.mem_append.mp hq with hq | hq
  · exact h3 q hq
  · rw [List.mem_singleton.mp hq]; exact h4
theorem led393 {T r s p q : Addr × Obj} {M K : List (Addr × Obj)} : ∀ x ∈ q :: (r :: (M ++ (K ++ [p]))), x ∈ T :: r :: s :: (M ++ (K ++ [p, q])) := by
  intro x hx
  rcases List.mem_cons.mp hx with e | hx
  · rw [e]; exact .tail _ (.tail _ (.tail _ (List.mem_append_right _ (List.mem_append_right _ (.tail _ (.head _))))))
  rcases List.mem_cons.mp hx with e | hx
  · rw [e]; exact .tail _ (.head _)
  rcases List.mem_append.mp hx with hx | hx
  · exact .tail _ (.tail _ (.tail _ (List.mem_append_left _ hx)))
  rcases List.mem_append.mp hx with hx | hx
  · exact .tail _ (.tail _ (.tail _ (List.mem_append_right _ (List.mem_append_left _ hx))))
  · rw [List.mem_singleton.mp hx]; exact .tail _ (.tail _ (.tail _ (List.mem_append_right _ (List.mem_append_right _ (.head _)))))
theorem one_off {I P : Addr} {o : Obj} (h : I ≠ P) : ∀ q ∈ [(I, o)], q.1 ≠ P := fun q hq => by rw [List.mem_singleton.mp hq]; exact h
theorem one_sep {I : Addr} {o : Obj} {rest : List (Addr × Obj)} (h : ∀ r ∈ rest, r.1 ≠ I) : ∀ q ∈ [(I, o)], ∀ r ∈ rest, r.1 ≠ q.1 := fun q hq r hr => by rw [List.mem_singleton.mp hq]; exact h r hr
theorem led_end {a b i l t : Addr × Obj} {rest : List (Addr × Obj)} (hl : l ∈ rest) : ∀ q ∈ [i, l] ++ (t :: rest), q ∈ a :: b :: i :: t :: rest := by
  intro q hq
  rcases List.mem_cons.mp hq with e | hq
  · rw [e]; exact .tail _ (.tail _ (.head _))
  rcases List.mem_cons.mp hq with e | hq
  · rw [e]; exact .tail _ (.tail _ (.tail _ (.tail _ hl)))
  · exact .tail _ (.tail _ (.tail _ hq))
theorem pair_bounds {prog : Program} {w : World} {news : List (Addr × Obj)} {its : List Value} {rvs : List (Addr × RowV)} {ra : Addr} {v : RowV} {n i : Nat} {t : TT} {r : RT} (h : n ≤ 12) (P : Pair prog w news its rvs ra v (n - 1 - i) t r) : sizeT t < 5000 ∧ szT r < 5000 ∧ htT r ≤ 13 := by
  have hp : 2 ^ (n - 1 - i) ≤ 2 ^ 11 := Nat.pow_le_pow_right (by decide) (by omega)
  have h1 : 2 ^ 11 < 5000 := by decide
  exact ⟨Nat.lt_of_le_of_lt P.sz1 (Nat.lt_of_le_of_lt hp h1), Nat.lt_of_le_of_lt P.sz2 (Nat.lt_of_le_of_lt hp h1), Nat.le_trans P.ht (by omega)⟩
inductive JLaw (B0 : List (Addr × Obj)) (m₀ m₁ : Str → Option Value) (news₁ : List (Addr × Obj)) : Prop
  | mk (ps : Array Value) (rest1 : List (Addr × Obj)) (e : news₁ = (393, tabObj ps) :: rest1) (h1 : ∀ q ∈ B0, q ∈ rest1) (h2 : TabOk lamQ ps rest1) (h3 : ∀ q ∈ rest1, q.1 ≠ 393) (h4 : ∀ y, y ≠ Str.ofString "row" → m₁ y = m₀ y)
theorem test : PySem.Challenge.rw_on0186_01.Holds := by
  w_on
  refine holds_law said_ok fun said => ?_
  refine holds_open (q := qv) (loose := names) (Xt := fun s => xlAt qv [] s && recOk (RowW.records rowW) s) (XP := XL qv []) (Yf := Hook.obs hook) (Ya := Hook.val hook) (YP := Hook.says hook) (N := 6000) left (Hook.of hook) (Hook.keeps hook)
   (fun s e => xl_of s (Bool.and_eq_true_iff.mp e).1) XL.keeps (by rfl) (by rfl) (by rfl) (fun s e => recFacts_of (Bool.and_eq_true_iff.mp e).2) (by rfl) (by first | assumption | decide +kernel) (by decide +kernel) ⟨rfl,rfl,rfl,rfl,rfl, by decide +kernel⟩ ?hw ?hc
  case hw => w_witness2
  case hc =>
    intro w s₀ s₁ mg mb G Y fa o pm cd doc dV kV ho hd hcd hD hmg hg args vals as hpre hlay hrd hwl hlo
    have KX := km_in_of Y
    km_tabs Y
    have X := (Ground.X G).1
    have V := (Ground.X G).2
    refine Ground.open G ?_
    intro T B D TE TW
    try (refine guard_noD D (by decide +kernel) ?_; clear D)
    km_lay T hmg ho hd cd
    clear hmg
    wrow_args hpre hlay hrd hwl hlo
    all_goals (
      first | refine callC_kw (enter_call ?_) | refine enter_call ?_)
    all_goals w_top on
    all_goals kn_posts
    all_goals w_call any ho hd hcd hD T F
    all_goals clear hd
    all_goals kn_ghosts F T
    all_goals k_drop
    rename_i ws hs0 hla hL1 hr1 hl2 wa wb sc vs wc hL2 ra0 w1 r0 hI hr2 hc1 hc2 h₁ X0 T0 K0 F0 cd409 N0 l0
    generalize hG0 : ghostOf s₁.heap _ = G0 at *
    (try k_unmd); k_fold
    k_extra "GOL"
    have hlen : ws.length ≤ 63 := by omega
    refine law_pool_c (by k_extra "CX") N0 lifted hI hlen (by ktr_room) (by ktr_units) ?_
    intro src x tx y ty ns h2 tk2 F2 N2 hsrc p1 p2 p3
    k_extra "GOL"
    refine law_document_c (R := [(405, tabObj #[]), (393, tabObj #[])]) (by k_extra "CX") (by k_asm) hsrc p1 p2 p3 (by ktr_room) (by ktr_units) ?_
    intro T rws tr dt rl tn nr n tk0 h3 tk3 x' tx' y' ty' ns' M K ts rvs j F3 N3 DS hj
    k_extra "GOL"
    have D0 : KtsDicts ([] : List Addr) G0 := fun b hb => by cases hb
    walk_at "exec For Name"
    k_extra "GO2"
    rename_i hh1 hh2 hh3 h5 F5 N5
    obtain ⟨bM, bK, b405, b393, brw⟩ := bsub (rws := (rws, listOf (rvs.map fun q => Value.ref q.1).toArray nr)) (M := M) (K := K) (p := (405, tabObj #[]))
    have hB3 : ∀ q ∈ (rws, listOf (rvs.map fun q => Value.ref q.1).toArray nr) :: (M ++ (K ++ [(405, tabObj #[])])), q.1 ≠ 393 := b393 (DS.rowOff (393, tabObj #[]) (List.mem_append_right _ (List.mem_append_right _ (.tail _ (.head _))))).symm (fun q hq => (DS.sep q hq (393, tabObj #[]) (List.mem_append_right _ (.tail _ (.head _)))).symm) (fun q hq => DS.sepR q hq (393, tabObj #[]) (.tail _ (.head _))) (by decide)
    generalize eB : (rws, listOf (rvs.map fun q => Value.ref q.1).toArray nr) :: (M ++ (K ++ [(405, tabObj #[])])) = B0 at bM bK b405 brw hB3
    have N6 : News G0 s₁.heap.objs.size h5 ((393, tabObj #[]) :: B0) := news_sub N5 (by rw [← eB]; exact led393)
    have hrl : rvs.length ≤ 12 := by rw [DS.rlen]; omega
    have hTr : TreeIn w.params B0 tr (ts.map fun t => Value.ref t.x) := DS.st.tree bM (by have := DS.tl; omega)
    have hRw : RowsIn _ w B0 rws rvs := DS.doc.rowsIn bK (by omega) brw
    obtain ⟨_, hTrees⟩ := DS.doc.trees DS.st bM bK (by omega) rvs.length 0 (Nat.zero_add _)
    obtain ⟨m₀, em, F5⟩ := fr_name F5
    refine ⟨rws, nr, rvs.map fun q => Value.ref q.1, _, _, (fun i m₁ news₁ => JLaw B0 m₀ m₁ news₁), rfl, F5, N6, .tail _ brw, ⟨#[], B0, rfl, fun _ h => h, TabOk.empty _ _, hB3, fun _ _ => by rw [em]⟩, ?turn, ?done⟩
    case turn =>
      rintro i v9 h tk m₁ news₁ I oI ol g hv ⟨ps, rest1, rfl, hs1, ht1, hx1, hm₁⟩ hTg F' N' hI hIl
      rw [List.getElem?_map] at hv
      cases e : rvs[i]? with
      | none => rw [e] at hv; cases hv
      | some q =>
        rw [e] at hv
        cases hv
        obtain ⟨ra, v⟩ := q
        obtain ⟨i0, t0, RO⟩ := DS.doc.all i ra v e
        obtain ⟨tt, rt, P⟩ := hTrees i ra v (Nat.zero_le _) e
        obtain ⟨ra2, v2, kids2⟩ := rt
        obtain ⟨i2, kd2, vl2, kt2⟩ := tt
        have e1 : ra2 = ra := P.ra
        have e2 : v2 = v := P.v
        have e3 : i2 = v.node := P.num
        subst e1 e2 e3
        obtain ⟨hsz1, hsz2, hht⟩ := pair_bounds hrl P
        have hN0 := DS.st.node bM RO.ti
        rw [← RO.node] at hN0
        have hE0 := fun he => DS.doc.elGood DS.st bM bK (by omega) e RO he
        have hR0 := (DS.doc.rows _ (List.mem_of_getElem? e)).mono bK
        obtain ⟨Bg, Xg, Tg, Dg⟩ := turn_cx K0 X0 T0 D0 hTg
        have N2 : News g s₁.heap.objs.size h ((I, oI) :: (393, tabObj ps) :: rest1) := news_sub N' (fun q hq => by
          rcases List.mem_cons.mp hq with e | hq
          · rw [e]; exact .head _
          · exact .tail _ (.tail _ hq))
        have F2 := fr_map F' (m₂ := fun y => if y = Str.ofString "row" then m₁ y else m₀ y) (fun y => by
          by_cases e : y = Str.ofString "row"
          · simp only [if_pos e]
          · simp only [if_neg e]; exact hm₁ y e)
        obtain rfl := news_same N' (.tail _ (.head _)) (.tail _ (.tail _ (.tail _ (hs1 _ brw))))
        have hI1 : ∀ r ∈ rest1, r.1 ≠ I := fun r hr => hI r (.tail _ hr)
        have hI0 : @Ne Addr 393 I := hI (393, tabObj ps) (.head _)
        clear N' F' N5 F5 N6 hm₁
        subst em
        (try k_unmd); (try k_fold)
        k_extra "GOL"
        refine law_row_right_S (pre := [(I, oI)]) (rest := rest1) (ps := ps) (by k_extra "CX") (by k_asm) (hTr.mono hs1) (hR0.mono hs1) (hN0.mono hs1) (hRw.mono hs1) RO.kind (fun he => (hE0 he).mono hs1) codeHd ht1 (one_off hI0.symm) hx1 (one_sep hI1) X0 T0 Dg (by ktr_room) (by ktr_units) ?_
        intro h0' h' tk' ps' rest' F3 N3 T3 B3 X3 T3' D3 hs3 ht3 hx3 hy3
        have N3 : News h0' s₁.heap.objs.size h' ((I, oI) :: (393, tabObj ps') :: rest') := N3
        have hs : ∀ q ∈ B0, q ∈ rest' := fun q hq => hs3 q (hs1 q hq)
        obtain ⟨o, kvs, t1, t2, t3, t4, t5, wv, y1, y2, y3, g1, g2, g3, g4, g5, g6, g7, g8, g9⟩ := hR0.mono hs
        clear Bg Xg Tg Dg
        k_extra "GOL"
        have hs' : ∀ q ∈ B0, q ∈ (I, oI) :: (393, tabObj ps') :: rest' := fun q hq => .tail _ (.tail _ (hs q hq))
        refine blank_texts_c (t₀ := TT.mk v2.node kd2 vl2 kt2) (by k_extra "CX") N3 (hTr.mono hs') (P.it.mono hs') hsz1 (by ktr_room) (by ktr_units) ?_
        intro l1 vs1 c1 h6 tk6 F6 N7 lq hv1
        rw [P.blank] at hv1
        k_extra "GOL"
        have hs'' : ∀ q ∈ B0, q ∈ (l1, listOf vs1.toArray c1) :: (I, oI) :: (393, tabObj ps') :: rest' := fun q hq => .tail _ (hs' q hq)
        refine law_blanks_c rws rvs 13 (RT.mk ra2 v2 kids2) hht hsz2 (by k_extra "CX") N7 (hRw.mono hs'') (P.ir.mono hs'') (by ktr_room) (by ktr_units) ?_
        intro l2 vs2 c2 h7 tk7 F7 N8 lq2 hv2
        clear N3 N7
        k_steps
        refine apost_next ((393, tabObj ps') :: rest') (hTg.trans T3) (by assumption) (news_sub (by assumption) (led_end (hs _ brw))) ?_ ?_
        · intro q hq
          rcases List.mem_cons.mp hq with e | hq
          · rw [e]; exact hI0
          · exact hy3 (I, oI) (.head _) q hq
        · refine ⟨ps', rest', rfl, hs, ht3, hx3, ?_⟩
          intro y hy
          (try dsimp only)
          rw [if_neg hy, if_neg hy]
    case done =>
      rintro h tk m₁ news₁ g ⟨ps, rest1, rfl, hs1, ht1, hx1, hm₁⟩ hTg F' N'
      obtain ⟨Bg, Xg, Tg, Dg⟩ := turn_cx K0 X0 T0 D0 hTg
      have F2 := fr_map F' (m₂ := fun y => if y = Str.ofString "row" then m₁ y else m₀ y) (fun y => by
        by_cases e : y = Str.ofString "row"
        · simp only [if_pos e]
        · simp only [if_neg e]; exact hm₁ y e)
      clear F' N5 F5 N6 hm₁
      subst em
      (try k_unmd); (try k_fold)
      k_extra "GOL"
      refine law_fixed_right_S (ps := ps) (by k_extra "CX") (news_sub (by assumption) (sub2 (.tail _ (hs1 _ b405)) (.head _))) cd409 X0 T0 Dg (by ktr_room) (by ktr_units) ?_
      intro h0' h' tk' ps' F3 N3 T3
      have keep : ∀ b o, G0.get? b = some o → h'.get? b = some o := fun b o e => F3.keep b o (T3.other b o (hTg.other b o e (fun z => by cases z)) (fun z => by cases z))
      have F4 : Fr G0 s₁.heap.objs.size h' _ := ⟨F3.ns, keep, by rw [← hTg.size, ← T3.size]; exact F3.above⟩
      refine ⟨goodW_bool F4 hg (raisesW_false ?_) ?_, GrownAt.of N3 (.head _), GrownAt.of N3 (.tail _ (.head _)), trivial⟩
      · wrow_none_raised
      · wrow_post
end Mine
theorem PySem.Challenge.cw_on0186_01_holds : PySem.Challenge.rw_on0186_01.Holds := by
  exact Mine.test
