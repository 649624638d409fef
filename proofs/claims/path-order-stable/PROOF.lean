import PyProof.Rows.All
import Wide.All
import OpenK.AllK
import Wide.FinOn
import KE.KDictKeyed
import HandS.ForMost
import HandS.TupAny
import HandS.IsInst
import HandS.Style
import HandS.Walk
import HandS.Codes
import HandS.Base
import HandS.Call
import HandS.Ends
import HandS.More
import HandS.Words
import HandS.WordsExc
import HandS.Defaults
import HandS.HeadHook1
import HandS.HeadHook2
import KE.KStateDown
import Lean
import HandS.Head0
import HandS.Head1
import HandS.Head2
import HandS.HeadEnd
import PySem.Challenge.RW_joinedends_k35_whole_path_order_stable
set_option Elab.async false
set_option linter.all false
set_option maxRecDepth 100000
set_option maxHeartbeats 0
namespace K35
open PySem PySem.Spec PyProof.Rows L2
open He (ga ma)
/-! ### the text by places -/
def top (i : Nat) : Stmt := PySem.Challenge.pw_joinedends_k35_whole_path_order_stable.main.body.getD i (.Pass ⟨0, 0, 0, 0⟩)
abbrev s_is_variable : Stmt := top 9
abbrev s_symbols : Stmt := top 10
abbrev s_variables : Stmt := top 11
abbrev s_occurs : Stmt := top 12
abbrev s_check_names : Stmt := top 14
abbrev s_first_difference : Stmt := top 15
abbrev s_path_reason : Stmt := top 16
abbrev s_find_reason : Stmt := top 17
abbrev s_argument_reason : Stmt := top 18
abbrev s_later_reasons : Stmt := top 19
abbrev s_lexical_reason : Stmt := top 20
abbrev s_po_init : Stmt := inClass (top 21) 0
abbrev s_po_reason : Stmt := inClass (top 21) 1
abbrev s_po_greater : Stmt := inClass (top 21) 2
abbrev s_is_name : Stmt := top 26
abbrev s_sg_init : Stmt := inClass (top 27) 0
abbrev s_sg_declare : Stmt := inClass (top 27) 1
abbrev s_sg_require : Stmt := inClass (top 27) 3
abbrev s_sg_rank : Stmt := inClass (top 27) 5
abbrev s_l_mix : Stmt := top 29
abbrev s_l_number : Stmt := top 30
abbrev s_l_state : Stmt := top 31
abbrev s_l_draw : Stmt := top 32
abbrev s_l_word : Stmt := top 33
abbrev s_l_names : Stmt := top 34
abbrev s_l_operations : Stmt := top 35
abbrev s_l_leaf : Stmt := top 36
abbrev s_l_term : Stmt := top 37
abbrev s_l_subterm : Stmt := top 38
abbrev s_l_replace : Stmt := top 39
abbrev s_l_positions : Stmt := top 40
abbrev s_l_substitute : Stmt := top 41
abbrev s_l_turned : Stmt := top 42
abbrev s_l_signature : Stmt := top 43
abbrev s_l_app : Stmt := top 44
abbrev s_l_values : Stmt := top 45
abbrev s_l_spoilt : Stmt := top 46
abbrev s_l_near : Stmt := top 47
abbrev s_law : Stmt := top 48
abbrev FnP (K : PySem.W.Frag) (x qual : Str) (st : Stmt) (kws : List (Str × V)) (f : Addr) (fd : FuncData) : Prop := FunD K x qual (defArgs st) (defBody st) (defScope st) [] kws f fd
/-! ### what the walk asks of the top: each def where it stands, the classes, the built-in names -/
structure Env0K (K : PySem.W.Frag) (mg : Str → Option Value) where
  fd_is_variable : FuncData
  F_is_variable : FnP K "is_variable" "is_variable" s_is_variable [] (ga K "is_variable") fd_is_variable
  g_is_variable : mg "is_variable" = some (.ref (ga K "is_variable"))
  fd_symbols : FuncData
  F_symbols : FnP K "symbols" "symbols" s_symbols [] (ga K "symbols") fd_symbols
  g_symbols : mg "symbols" = some (.ref (ga K "symbols"))
  fd_variables : FuncData
  F_variables : FnP K "variables" "variables" s_variables [] (ga K "variables") fd_variables
  g_variables : mg "variables" = some (.ref (ga K "variables"))
  fd_occurs : FuncData
  F_occurs : FnP K "occurs" "occurs" s_occurs [] (ga K "occurs") fd_occurs
  g_occurs : mg "occurs" = some (.ref (ga K "occurs"))
  fd_check_names : FuncData
  F_check_names : FnP K "check_names" "check_names" s_check_names [] (ga K "check_names") fd_check_names
  g_check_names : mg "check_names" = some (.ref (ga K "check_names"))
  fd_first_difference : FuncData
  F_first_difference : FnP K "first_difference" "first_difference" s_first_difference [] (ga K "first_difference") fd_first_difference
  g_first_difference : mg "first_difference" = some (.ref (ga K "first_difference"))
  fd_path_reason : FuncData
  F_path_reason : FnP K "path_reason" "path_reason" s_path_reason [] (ga K "path_reason") fd_path_reason
  g_path_reason : mg "path_reason" = some (.ref (ga K "path_reason"))
  fd_find_reason : FuncData
  F_find_reason : FnP K "find_reason" "find_reason" s_find_reason [] (ga K "find_reason") fd_find_reason
  g_find_reason : mg "find_reason" = some (.ref (ga K "find_reason"))
  fd_argument_reason : FuncData
  F_argument_reason : FnP K "argument_reason" "argument_reason" s_argument_reason [] (ga K "argument_reason") fd_argument_reason
  g_argument_reason : mg "argument_reason" = some (.ref (ga K "argument_reason"))
  fd_later_reasons : FuncData
  F_later_reasons : FnP K "later_reasons" "later_reasons" s_later_reasons [] (ga K "later_reasons") fd_later_reasons
  g_later_reasons : mg "later_reasons" = some (.ref (ga K "later_reasons"))
  fd_lexical_reason : FuncData
  F_lexical_reason : FnP K "lexical_reason" "lexical_reason" s_lexical_reason [] (ga K "lexical_reason") fd_lexical_reason
  g_lexical_reason : mg "lexical_reason" = some (.ref (ga K "lexical_reason"))
  fd_po_init : FuncData
  F_po_init : FnP K "__init__" "PathOrder.__init__" s_po_init [] (ma K (ga K "PathOrder") "__init__") fd_po_init
  fd_po_reason : FuncData
  F_po_reason : FnP K "reason" "PathOrder.reason" s_po_reason [] (ma K (ga K "PathOrder") "reason") fd_po_reason
  fd_po_greater : FuncData
  F_po_greater : FnP K "greater" "PathOrder.greater" s_po_greater [] (ma K (ga K "PathOrder") "greater") fd_po_greater
  fd_is_name : FuncData
  F_is_name : FnP K "is_name" "is_name" s_is_name [] (ga K "is_name") fd_is_name
  g_is_name : mg "is_name" = some (.ref (ga K "is_name"))
  fd_sg_init : FuncData
  F_sg_init : FnP K "__init__" "Signature.__init__" s_sg_init [] (ma K (ga K "Signature") "__init__") fd_sg_init
  fd_sg_declare : FuncData
  F_sg_declare : FnP K "declare" "Signature.declare" s_sg_declare [("commutative", .bl false)] (ma K (ga K "Signature") "declare") fd_sg_declare
  fd_sg_require : FuncData
  F_sg_require : FnP K "require" "Signature.require" s_sg_require [] (ma K (ga K "Signature") "require") fd_sg_require
  fd_sg_rank : FuncData
  F_sg_rank : FnP K "rank" "Signature.rank" s_sg_rank [] (ma K (ga K "Signature") "rank") fd_sg_rank
  fd_l_mix : FuncData
  F_l_mix : FnP K "_law_mix" "_law_mix" s_l_mix [] (ga K "_law_mix") fd_l_mix
  g_l_mix : mg "_law_mix" = some (.ref (ga K "_law_mix"))
  fd_l_number : FuncData
  F_l_number : FnP K "_law_number" "_law_number" s_l_number [] (ga K "_law_number") fd_l_number
  g_l_number : mg "_law_number" = some (.ref (ga K "_law_number"))
  fd_l_state : FuncData
  F_l_state : FnP K "_law_state" "_law_state" s_l_state [] (ga K "_law_state") fd_l_state
  g_l_state : mg "_law_state" = some (.ref (ga K "_law_state"))
  fd_l_draw : FuncData
  F_l_draw : FnP K "_law_draw" "_law_draw" s_l_draw [] (ga K "_law_draw") fd_l_draw
  g_l_draw : mg "_law_draw" = some (.ref (ga K "_law_draw"))
  fd_l_word : FuncData
  F_l_word : FnP K "_law_word" "_law_word" s_l_word [] (ga K "_law_word") fd_l_word
  g_l_word : mg "_law_word" = some (.ref (ga K "_law_word"))
  fd_l_names : FuncData
  F_l_names : FnP K "_law_names" "_law_names" s_l_names [] (ga K "_law_names") fd_l_names
  g_l_names : mg "_law_names" = some (.ref (ga K "_law_names"))
  fd_l_operations : FuncData
  F_l_operations : FnP K "_law_operations" "_law_operations" s_l_operations [] (ga K "_law_operations") fd_l_operations
  g_l_operations : mg "_law_operations" = some (.ref (ga K "_law_operations"))
  fd_l_leaf : FuncData
  F_l_leaf : FnP K "_law_leaf" "_law_leaf" s_l_leaf [] (ga K "_law_leaf") fd_l_leaf
  g_l_leaf : mg "_law_leaf" = some (.ref (ga K "_law_leaf"))
  fd_l_term : FuncData
  F_l_term : FnP K "_law_term" "_law_term" s_l_term [] (ga K "_law_term") fd_l_term
  g_l_term : mg "_law_term" = some (.ref (ga K "_law_term"))
  fd_l_subterm : FuncData
  F_l_subterm : FnP K "_law_subterm" "_law_subterm" s_l_subterm [] (ga K "_law_subterm") fd_l_subterm
  g_l_subterm : mg "_law_subterm" = some (.ref (ga K "_law_subterm"))
  fd_l_replace : FuncData
  F_l_replace : FnP K "_law_replace" "_law_replace" s_l_replace [] (ga K "_law_replace") fd_l_replace
  g_l_replace : mg "_law_replace" = some (.ref (ga K "_law_replace"))
  fd_l_positions : FuncData
  F_l_positions : FnP K "_law_positions" "_law_positions" s_l_positions [] (ga K "_law_positions") fd_l_positions
  g_l_positions : mg "_law_positions" = some (.ref (ga K "_law_positions"))
  fd_l_substitute : FuncData
  F_l_substitute : FnP K "_law_substitute" "_law_substitute" s_l_substitute [] (ga K "_law_substitute") fd_l_substitute
  g_l_substitute : mg "_law_substitute" = some (.ref (ga K "_law_substitute"))
  fd_l_turned : FuncData
  F_l_turned : FnP K "_law_turned" "_law_turned" s_l_turned [] (ga K "_law_turned") fd_l_turned
  g_l_turned : mg "_law_turned" = some (.ref (ga K "_law_turned"))
  fd_l_signature : FuncData
  F_l_signature : FnP K "_law_signature" "_law_signature" s_l_signature [] (ga K "_law_signature") fd_l_signature
  g_l_signature : mg "_law_signature" = some (.ref (ga K "_law_signature"))
  fd_l_app : FuncData
  F_l_app : FnP K "_law_app" "_law_app" s_l_app [] (ga K "_law_app") fd_l_app
  g_l_app : mg "_law_app" = some (.ref (ga K "_law_app"))
  fd_l_values : FuncData
  F_l_values : FnP K "_law_values" "_law_values" s_l_values [] (ga K "_law_values") fd_l_values
  g_l_values : mg "_law_values" = some (.ref (ga K "_law_values"))
  fd_l_spoilt : FuncData
  F_l_spoilt : FnP K "_law_spoilt" "_law_spoilt" s_l_spoilt [] (ga K "_law_spoilt") fd_l_spoilt
  g_l_spoilt : mg "_law_spoilt" = some (.ref (ga K "_law_spoilt"))
  fd_l_near : FuncData
  F_l_near : FnP K "_law_near" "_law_near" s_l_near [] (ga K "_law_near") fd_l_near
  g_l_near : mg "_law_near" = some (.ref (ga K "_law_near"))
  fd_law : FuncData
  F_law : FnP K "law" "law" s_law [] (ga K "law") fd_law
  g_law : mg "law" = some (.ref (ga K "law"))
  g_PathOrder : mg "PathOrder" = some (.ref (ga K "PathOrder"))
  cl_PathOrder : Cls K (ga K "PathOrder")
  mk_PathOrder : Mk K (ga K "PathOrder") (ma K (ga K "PathOrder") "__init__")
  g_Signature : mg "Signature" = some (.ref (ga K "Signature"))
  cl_Signature : Cls K (ga K "Signature")
  mk_Signature : Mk K (ga K "Signature") (ma K (ga K "Signature") "__init__")
  na_sig : NoAttr K (ga K "PathOrder") "_signature"
  na_order : NoAttr K (ga K "Signature") "order"
  na_arities : NoAttr K (ga K "Signature") "arities"
  na_flags : NoAttr K (ga K "Signature") "flags"
  m_reason : Meth K (ga K "PathOrder") "reason" (ma K (ga K "PathOrder") "reason")
  m_greater : Meth K (ga K "PathOrder") "greater" (ma K (ga K "PathOrder") "greater")
  m_declare : Meth K (ga K "Signature") "declare" (ma K (ga K "Signature") "declare")
  m_require : Meth K (ga K "Signature") "require" (ma K (ga K "Signature") "require")
  m_rank : Meth K (ga K "Signature") "rank" (ma K (ga K "Signature") "rank")
  f_len : mg "len" = none
  f_isinstance : mg "isinstance" = none
  f_range : mg "range" = none
  f_int : mg "int" = none
  f_list : mg "list" = none
  f_tuple : mg "tuple" = none
  f_str : mg "str" = none
  t_mo : Tok
  mg_MAX_OPERATIONS : mg "MAX_OPERATIONS" = some (.int 12 t_mo)
  t_ma : Tok
  mg_MAX_ARITY : mg "MAX_ARITY" = some (.int 3 t_ma)
  t_le : Tok
  mg_LETTERS : mg "LETTERS" = some (.str "abcdefghijklmnopqrstuvwxyz" t_le)
theorem bt_len : bootBuiltins "len" = some (.builtin "len") := by decide +kernel
theorem bt_isinstance : bootBuiltins "isinstance" = some (.builtin "isinstance") := by decide +kernel
theorem bt_range : bootBuiltins "range" = some (.type "range") := by decide +kernel
theorem bt_int : bootBuiltins "int" = some (.type "int") := by decide +kernel
theorem bt_list : bootBuiltins "list" = some (.type "list") := by decide +kernel
theorem bt_tuple : bootBuiltins "tuple" = some (.type "tuple") := by decide +kernel
theorem bt_str : bootBuiltins "str" = some (.type "str") := by decide +kernel
section
variable {K : PySem.W.Frag} {mg : Str → Option Value}
theorem Env0K.b_is_variable (T : Env0K K mg) : Binds K T.fd_is_variable ["term"] [] := T.F_is_variable.bindsN fun _ _ _ _ _ _ us hl => match us, hl with | [_], _ => rfl
theorem Env0K.b_symbols (T : Env0K K mg) : Binds K T.fd_symbols ["term"] [] := T.F_symbols.bindsN fun _ _ _ _ _ _ us hl => match us, hl with | [_], _ => rfl
theorem Env0K.b_variables (T : Env0K K mg) : Binds K T.fd_variables ["term"] [] := T.F_variables.bindsN fun _ _ _ _ _ _ us hl => match us, hl with | [_], _ => rfl
theorem Env0K.b_occurs (T : Env0K K mg) : Binds K T.fd_occurs ["variable", "term"] [] := T.F_occurs.bindsN fun _ _ _ _ _ _ us hl => match us, hl with | [_, _], _ => rfl
theorem Env0K.b_check_names (T : Env0K K mg) : Binds K T.fd_check_names ["signature", "left", "right"] [] := T.F_check_names.bindsN fun _ _ _ _ _ _ us hl => match us, hl with | [_, _, _], _ => rfl
theorem Env0K.b_first_difference (T : Env0K K mg) : Binds K T.fd_first_difference ["left", "right"] [] := T.F_first_difference.bindsN fun _ _ _ _ _ _ us hl => match us, hl with | [_, _], _ => rfl
theorem Env0K.b_path_reason (T : Env0K K mg) : Binds K T.fd_path_reason ["signature", "left", "right", "at", "to", "known"] [] := T.F_path_reason.bindsN fun _ _ _ _ _ _ us hl => match us, hl with | [_, _, _, _, _, _], _ => rfl
theorem Env0K.b_find_reason (T : Env0K K mg) : Binds K T.fd_find_reason ["signature", "left", "right", "at", "to", "known"] [] := T.F_find_reason.bindsN fun _ _ _ _ _ _ us hl => match us, hl with | [_, _, _, _, _, _], _ => rfl
theorem Env0K.b_argument_reason (T : Env0K K mg) : Binds K T.fd_argument_reason ["signature", "left", "right", "at", "to", "known"] [] := T.F_argument_reason.bindsN fun _ _ _ _ _ _ us hl => match us, hl with | [_, _, _, _, _, _], _ => rfl
theorem Env0K.b_later_reasons (T : Env0K K mg) : Binds K T.fd_later_reasons ["signature", "left", "right", "start", "at", "to", "known"] [] := T.F_later_reasons.bindsN fun _ _ _ _ _ _ us hl => match us, hl with | [_, _, _, _, _, _, _], _ => rfl
theorem Env0K.b_lexical_reason (T : Env0K K mg) : Binds K T.fd_lexical_reason ["signature", "left", "right", "at", "to", "known"] [] := T.F_lexical_reason.bindsN fun _ _ _ _ _ _ us hl => match us, hl with | [_, _, _, _, _, _], _ => rfl
theorem Env0K.b_po_init (T : Env0K K mg) : Binds K T.fd_po_init ["self", "signature"] [] := T.F_po_init.bindsN fun _ _ _ _ _ _ us hl => match us, hl with | [_, _], _ => rfl
theorem Env0K.b_po_reason (T : Env0K K mg) : Binds K T.fd_po_reason ["self", "left", "right"] [] := T.F_po_reason.bindsN fun _ _ _ _ _ _ us hl => match us, hl with | [_, _, _], _ => rfl
theorem Env0K.b_po_greater (T : Env0K K mg) : Binds K T.fd_po_greater ["self", "left", "right"] [] := T.F_po_greater.bindsN fun _ _ _ _ _ _ us hl => match us, hl with | [_, _, _], _ => rfl
theorem Env0K.b_is_name (T : Env0K K mg) : Binds K T.fd_is_name ["word"] [] := T.F_is_name.bindsN fun _ _ _ _ _ _ us hl => match us, hl with | [_], _ => rfl
theorem Env0K.b_sg_init (T : Env0K K mg) : Binds K T.fd_sg_init ["self"] [] := T.F_sg_init.bindsN fun _ _ _ _ _ _ us hl => match us, hl with | [_], _ => rfl
theorem Env0K.b_sg_require (T : Env0K K mg) : Binds K T.fd_sg_require ["self", "name"] [] := T.F_sg_require.bindsN fun _ _ _ _ _ _ us hl => match us, hl with | [_, _], _ => rfl
theorem Env0K.b_sg_rank (T : Env0K K mg) : Binds K T.fd_sg_rank ["self", "name"] [] := T.F_sg_rank.bindsN fun _ _ _ _ _ _ us hl => match us, hl with | [_, _], _ => rfl
theorem Env0K.b_l_mix (T : Env0K K mg) : Binds K T.fd_l_mix ["_law_cell"] [] := T.F_l_mix.bindsN fun _ _ _ _ _ _ us hl => match us, hl with | [_], _ => rfl
theorem Env0K.b_l_number (T : Env0K K mg) : Binds K T.fd_l_number ["_law_cell"] [] := T.F_l_number.bindsN fun _ _ _ _ _ _ us hl => match us, hl with | [_], _ => rfl
theorem Env0K.b_l_state (T : Env0K K mg) : Binds K T.fd_l_state ["_law_script"] [] := T.F_l_state.bindsN fun _ _ _ _ _ _ us hl => match us, hl with | [_], _ => rfl
theorem Env0K.b_l_draw (T : Env0K K mg) : Binds K T.fd_l_draw ["_law_state_here", "_law_many"] [] := T.F_l_draw.bindsN fun _ _ _ _ _ _ us hl => match us, hl with | [_, _], _ => rfl
theorem Env0K.b_l_word (T : Env0K K mg) : Binds K T.fd_l_word ["_law_state_here", "_law_size"] [] := T.F_l_word.bindsN fun _ _ _ _ _ _ us hl => match us, hl with | [_, _], _ => rfl
theorem Env0K.b_l_names (T : Env0K K mg) : Binds K T.fd_l_names ["_law_state_here", "_law_count"] [] := T.F_l_names.bindsN fun _ _ _ _ _ _ us hl => match us, hl with | [_, _], _ => rfl
theorem Env0K.b_l_operations (T : Env0K K mg) : Binds K T.fd_l_operations ["_law_state_here"] [] := T.F_l_operations.bindsN fun _ _ _ _ _ _ us hl => match us, hl with | [_], _ => rfl
theorem Env0K.b_l_leaf (T : Env0K K mg) : Binds K T.fd_l_leaf ["_law_state_here", "_law_operations_here", "_law_count"] [] := T.F_l_leaf.bindsN fun _ _ _ _ _ _ us hl => match us, hl with | [_, _, _], _ => rfl
theorem Env0K.b_l_term (T : Env0K K mg) : Binds K T.fd_l_term ["_law_state_here", "_law_operations_here", "_law_count", "_law_height"] [] := T.F_l_term.bindsN fun _ _ _ _ _ _ us hl => match us, hl with | [_, _, _, _], _ => rfl
theorem Env0K.b_l_subterm (T : Env0K K mg) : Binds K T.fd_l_subterm ["_law_term_here", "_law_position"] [] := T.F_l_subterm.bindsN fun _ _ _ _ _ _ us hl => match us, hl with | [_, _], _ => rfl
theorem Env0K.b_l_replace (T : Env0K K mg) : Binds K T.fd_l_replace ["_law_term_here", "_law_position", "_law_new"] [] := T.F_l_replace.bindsN fun _ _ _ _ _ _ us hl => match us, hl with | [_, _, _], _ => rfl
theorem Env0K.b_l_positions (T : Env0K K mg) : Binds K T.fd_l_positions ["_law_term_here"] [] := T.F_l_positions.bindsN fun _ _ _ _ _ _ us hl => match us, hl with | [_], _ => rfl
theorem Env0K.b_l_substitute (T : Env0K K mg) : Binds K T.fd_l_substitute ["_law_term_here", "_law_substitution"] [] := T.F_l_substitute.bindsN fun _ _ _ _ _ _ us hl => match us, hl with | [_, _], _ => rfl
theorem Env0K.b_l_turned (T : Env0K K mg) : Binds K T.fd_l_turned ["_law_state_here", "_law_operations_here"] [] := T.F_l_turned.bindsN fun _ _ _ _ _ _ us hl => match us, hl with | [_, _], _ => rfl
theorem Env0K.b_l_signature (T : Env0K K mg) : Binds K T.fd_l_signature ["_law_operations_here"] [] := T.F_l_signature.bindsN fun _ _ _ _ _ _ us hl => match us, hl with | [_], _ => rfl
theorem Env0K.b_l_app (T : Env0K K mg) : Binds K T.fd_l_app ["_law_state_here", "_law_operations_here", "_law_count", "_law_height"] [] := T.F_l_app.bindsN fun _ _ _ _ _ _ us hl => match us, hl with | [_, _, _, _], _ => rfl
theorem Env0K.b_l_values (T : Env0K K mg) : Binds K T.fd_l_values ["_law_state_here", "_law_operations_here", "_law_count", "_law_inner"] [] := T.F_l_values.bindsN fun _ _ _ _ _ _ us hl => match us, hl with | [_, _, _, _], _ => rfl
theorem Env0K.b_l_spoilt (T : Env0K K mg) : Binds K T.fd_l_spoilt ["_law_state_here", "_law_operations_here", "_law_count", "_law_term_here"] [] := T.F_l_spoilt.bindsN fun _ _ _ _ _ _ us hl => match us, hl with | [_, _, _, _], _ => rfl
theorem Env0K.b_l_near (T : Env0K K mg) : Binds K T.fd_l_near ["_law_state_here", "_law_operations_here", "_law_count", "_law_left"] [] := T.F_l_near.bindsN fun _ _ _ _ _ _ us hl => match us, hl with | [_, _, _, _], _ => rfl
theorem Env0K.b_law (T : Env0K K mg) : Binds K T.fd_law ["_law_script"] [] := T.F_law.bindsN fun _ _ _ _ _ _ us hl => match us, hl with | [_], _ => rfl
end
end K35
set_option linter.all false
namespace K35
/-! ### terms, positions, the path order: plain Lean -/
/-- a term: a variable, an application (name, arguments); names are kept abstract -/
inductive Tm (N : Type) where
  | var (i : Int)
  | app (f : N) (as : List (Tm N))
variable {N : Type}

mutual
def Tm.size : Tm N → Nat
  | .var _ => 1
  | .app _ as => 1 + sizeL as
def sizeL : List (Tm N) → Nat
  | [] => 0
  | t :: ts => t.size + sizeL ts
end
theorem size_pos (t : Tm N) : 0 < t.size := by
  cases t with
  | var i => simp only [Tm.size]; omega
  | app f as => simp only [Tm.size]; omega
theorem size_mem {t : Tm N} : ∀ {ts : List (Tm N)}, t ∈ ts → t.size ≤ sizeL ts
  | [], h => nomatch h
  | s :: ss, h => by
    simp only [sizeL]
    rcases List.mem_cons.mp h with e | h
    · subst e; omega
    · have := size_mem h; omega

mutual
def Tm.depth : Tm N → Nat
  | .var _ => 1
  | .app _ as => 1 + depthL as
def depthL : List (Tm N) → Nat
  | [] => 0
  | t :: ts => max t.depth (depthL ts)
end
theorem depth_mem {t : Tm N} : ∀ {ts : List (Tm N)}, t ∈ ts → t.depth ≤ depthL ts
  | [], h => nomatch h
  | s :: ss, h => by
    simp only [depthL]
    rcases List.mem_cons.mp h with e | h
    · subst e; omega
    · have := depth_mem h; omega
theorem depthL_le {d : Nat} : ∀ {ts : List (Tm N)}, (∀ t ∈ ts, t.depth ≤ d) → depthL ts ≤ d
  | [], _ => Nat.zero_le _
  | s :: ss, h => by
    simp only [depthL]
    have h1 := h s (List.mem_cons_self ..)
    have h2 := depthL_le fun t ht => h t (List.mem_cons_of_mem _ ht)
    omega
theorem depth_pos (t : Tm N) : 0 < t.depth := by
  cases t with
  | var i => simp only [Tm.depth]; omega
  | app f as => simp only [Tm.depth]; omega

/-- the variable x occurs in the term -/
inductive Occ (x : Int) : Tm N → Prop
  | here : Occ x (.var x)
  | arg {f : N} {as : List (Tm N)} {a : Tm N} : a ∈ as → Occ x a → Occ x (.app f as)

/-- the path order for the ranks r -/
inductive Gt (r : N → Nat) : Tm N → Tm N → Prop
  | var {f : N} {as : List (Tm N)} {x : Int} : Occ x (.app f as) → Gt r (.app f as) (.var x)
  | eq {f : N} {as : List (Tm N)} {t : Tm N} : t ∈ as → Gt r (.app f as) t
  | arg {f : N} {as : List (Tm N)} {a t : Tm N} : a ∈ as → Gt r a t → Gt r (.app f as) t
  | name {f g : N} {as bs : List (Tm N)} : r g < r f → (∀ b ∈ bs, Gt r (.app f as) b) → Gt r (.app f as) (.app g bs)
  | lex {f : N} {pre as bs : List (Tm N)} {a b : Tm N} : Gt r a b → (∀ c ∈ bs, Gt r (.app f (pre ++ a :: as)) c) → Gt r (.app f (pre ++ a :: as)) (.app f (pre ++ b :: bs))

variable {r : N → Nat}
theorem Gt.isApp {s t : Tm N} (h : Gt r s t) : ∃ f as, s = .app f as := by
  cases h <;> exact ⟨_, _, rfl⟩

/-- what stands on the right side of name and lex: s is greater than each argument -/
theorem lex_all {f : N} {pre as bs : List (Tm N)} {a b : Tm N} (h : Gt r a b) (hc : ∀ c ∈ bs, Gt r (.app f (pre ++ a :: as)) c) : ∀ c ∈ pre ++ b :: bs, Gt r (.app f (pre ++ a :: as)) c := by
  intro c hc'
  rcases List.mem_append.mp hc' with q | q
  · exact .eq (List.mem_append_left _ q)
  · rcases List.mem_cons.mp q with e | q
    · subst e
      exact .arg (List.mem_append_right _ (List.mem_cons_self ..)) h
    · exact hc c q

/-- two splits of one list -/
theorem split2 {α : Type} : ∀ {p q xs ys : List α} {x y : α}, p ++ x :: xs = q ++ y :: ys →
    (p = q ∧ x = y ∧ xs = ys) ∨ (∃ m, q = p ++ x :: m ∧ xs = m ++ y :: ys) ∨ (∃ m, p = q ++ y :: m ∧ ys = m ++ x :: xs)
  | [], [], _, _, _, _, h => by
    injection h with h1 h2
    exact .inl ⟨rfl, h1, h2⟩
  | [], b :: q, xs, ys, x, y, h => by
    injection h with h1 h2
    subst h1
    exact .inr (.inl ⟨q, rfl, h2⟩)
  | a :: p, [], xs, ys, x, y, h => by
    injection h with h1 h2
    subst h1
    exact .inr (.inr ⟨p, rfl, h2.symm⟩)
  | a :: p, b :: q, xs, ys, x, y, h => by
    injection h with h1 h2
    subst h1
    rcases split2 h2 with ⟨e1, e2, e3⟩ | ⟨m, e1, e2⟩ | ⟨m, e1, e2⟩
    · exact .inl ⟨by rw [e1], e2, e3⟩
    · exact .inr (.inl ⟨m, by rw [e1]; rfl, e2⟩)
    · exact .inr (.inr ⟨m, by rw [e1]; rfl, e2⟩)

theorem Gt.trans_aux : ∀ (n : Nat) (s t u : Tm N), s.size + t.size + u.size ≤ n → Gt r s t → Gt r t u → Gt r s u := by
  intro n
  induction n with
  | zero => intro s t u hn _ _; have := size_pos s; omega
  | succ n ih =>
    intro s t u hn h1 h2
    -- the part common to name and lex
    have up : ∀ {f : N} {as : List (Tm N)} {g : N} {bs : List (Tm N)}, s = .app f as → t = .app g bs → (∀ b ∈ bs, Gt r s b) →
        (∀ (h : N) (cs : List (Tm N)), u = .app h cs → (r h < r g ∨ (h = g ∧ ∃ p x xs y ys, bs = p ++ x :: xs ∧ cs = p ++ y :: ys ∧ Gt r x y)) → (∀ c ∈ cs, Gt r s c) → Gt r s u) → Gt r s u := by
      intro f as g bs es et hall fin
      have htsz : ∀ b ∈ bs, b.size < t.size := fun b hb => by
        rw [et]; simp only [Tm.size]; have := size_mem hb; omega
      subst et
      generalize et : Tm.app g bs = t' at h2 htsz hn
      cases h2 with
      | @var g' bs' x ho =>
        injection et with e1 e2
        subst e1; subst e2
        cases ho with
        | arg hb ho =>
          rename_i b
          cases ho with
          | here => exact hall _ hb
          | arg hb' ho' =>
            have := htsz _ hb
            exact ih s _ _ (by omega) (hall _ hb) (.var (.arg hb' ho'))
      | @eq g' bs' _ hb =>
        injection et with e1 e2
        subst e1; subst e2
        exact hall _ hb
      | @arg g' bs' b _ hb hg =>
        injection et with e1 e2
        subst e1; subst e2
        have := htsz _ hb
        exact ih s _ _ (by omega) (hall _ hb) hg
      | @name g' k bs' cs hr hcs =>
        injection et with e1 e2
        subst e1; subst e2
        refine fin _ _ rfl (.inl hr) fun c hc => ?_
        have hsz : c.size < (Tm.app k cs).size := by simp only [Tm.size]; have := size_mem hc; omega
        refine ih s (.app g bs) c (by omega) ?_ (hcs c hc)
        exact h1
      | @lex g' p xs ys x y hxy hcs =>
        injection et with e1 e2
        subst e1; subst e2
        refine fin _ _ rfl (.inr ⟨rfl, p, x, xs, y, ys, rfl, rfl, hxy⟩) fun c hc => ?_
        have hsz : c.size < (Tm.app g (p ++ y :: ys)).size := by simp only [Tm.size]; have := size_mem hc; omega
        refine ih s (.app g (p ++ x :: xs)) c (by omega) ?_ (lex_all hxy hcs c hc)
        exact h1
    cases h1 with
    | var ho => obtain ⟨_, _, e⟩ := h2.isApp; cases e
    | @eq f as _ ht => exact .arg ht h2
    | @arg f as a _ ha hg =>
      refine .arg ha (ih a t u ?_ hg h2)
      simp only [Tm.size] at hn
      have := size_mem ha
      omega
    | @name f g as bs hr hbs =>
      refine up rfl rfl hbs fun h cs eu hcase hcs => ?_
      subst eu
      rcases hcase with q | ⟨q, _⟩
      · exact .name (by omega) hcs
      · subst q; exact .name hr hcs
    | @lex f pre as bs a b hab hbs =>
      refine up rfl rfl (lex_all hab hbs) fun h cs eu hcase hcs => ?_
      subst eu
      rcases hcase with q | ⟨q, p, x, xs, y, ys, e1, e2, hxy⟩
      · exact .name q hcs
      · subst q; subst e2
        rcases split2 e1 with ⟨q1, q2, q3⟩ | ⟨m, q1, q2⟩ | ⟨m, q1, q2⟩
        · subst q1; subst q2; subst q3
          refine .lex (ih a b y ?_ hab hxy) fun c hc => hcs c (List.mem_append_right _ (List.mem_cons_of_mem _ hc))
          have s1 := size_mem (show a ∈ pre ++ a :: as from List.mem_append_right _ (List.mem_cons_self ..))
          have s2 := size_mem (show b ∈ pre ++ b :: bs from List.mem_append_right _ (List.mem_cons_self ..))
          have s3 := size_mem (show y ∈ pre ++ y :: ys from List.mem_append_right _ (List.mem_cons_self ..))
          simp only [Tm.size] at hn
          omega
        · subst q1
          have e3 : (pre ++ b :: m) ++ y :: ys = pre ++ b :: (m ++ y :: ys) := by simp
          rw [e3] at hcs ⊢
          exact .lex hab fun c hc => hcs c (List.mem_append_right _ (List.mem_cons_of_mem _ hc))
        · subst q1
          have e3 : (p ++ x :: m) ++ a :: as = p ++ x :: (m ++ a :: as) := by simp
          rw [e3] at hcs ⊢
          exact .lex hxy fun c hc => hcs c (List.mem_append_right _ (List.mem_cons_of_mem _ hc))
theorem Gt.trans {s t u : Tm N} (h1 : Gt r s t) (h2 : Gt r t u) : Gt r s u := Gt.trans_aux _ s t u (Nat.le_refl _) h1 h2

theorem Gt.irrefl_aux : ∀ (n : Nat) (s t : Tm N), s = t → s.size ≤ n → ¬ Gt r s t := by
  intro n
  induction n with
  | zero => intro s t _ hn _; have := size_pos s; omega
  | succ n ih =>
    intro s t e hn h
    cases h with
    | var ho => cases e
    | @eq f as _ ht =>
      have := size_mem ht
      rw [← e] at this
      simp only [Tm.size] at this
      omega
    | @arg f as a _ ha hg =>
      subst e
      have hs : a.size ≤ n := by
        simp only [Tm.size] at hn
        have := size_mem ha
        omega
      exact ih a a rfl hs (hg.trans (.eq ha))
    | name hr _ =>
      injection e with e1 e2
      rw [e1] at hr
      omega
    | @lex f pre as bs a b hab hbs =>
      injection e with e1 e2
      rcases split2 e2 with ⟨q1, q2, q3⟩ | ⟨m, q1, q2⟩ | ⟨m, q1, q2⟩
      · refine ih a b q2 ?_ hab
        simp only [Tm.size] at hn
        have := size_mem (show a ∈ pre ++ a :: as from List.mem_append_right _ (List.mem_cons_self ..))
        omega
      · have := congrArg List.length q1; simp at this
      · have := congrArg List.length q1; simp at this
theorem Gt.irrefl (t : Tm N) : ¬ Gt r t t := Gt.irrefl_aux _ t t rfl (Nat.le_refl _)
theorem Gt.asymm {s t : Tm N} (h : Gt r s t) : ¬ Gt r t s := fun q => Gt.irrefl s (h.trans q)


/-! ### substitutions -/
mutual
def Tm.sub (s : Int → Tm N) : Tm N → Tm N
  | .var i => s i
  | .app f as => .app f (subL s as)
def subL (s : Int → Tm N) : List (Tm N) → List (Tm N)
  | [] => []
  | t :: ts => t.sub s :: subL s ts
end
theorem subL_map (s : Int → Tm N) : ∀ ts : List (Tm N), subL s ts = ts.map (Tm.sub s)
  | [] => rfl
  | t :: ts => by rw [subL, subL_map s ts]; rfl
theorem Occ.sub_sub {x : Int} {f : N} {as : List (Tm N)} (s : Int → Tm N) (h : Occ x (.app f as)) : Gt r ((Tm.app f as).sub s) (s x) := by
  generalize e : Tm.app f as = t at h
  induction h generalizing f as with
  | here => cases e
  | @arg g bs a ha ho ih =>
    simp only [Tm.sub, subL_map]
    have hm : a.sub s ∈ bs.map (Tm.sub s) := List.mem_map.mpr ⟨a, ha, rfl⟩
    cases a with
    | var y =>
      cases ho
      exact .eq (by simpa [Tm.sub] using hm)
    | app g' cs => exact .arg hm (ih rfl)
theorem Gt.sub {u v : Tm N} (s : Int → Tm N) (h : Gt r u v) : Gt r (u.sub s) (v.sub s) := by
  induction h with
  | var ho => exact ho.sub_sub s
  | eq ht =>
    simp only [Tm.sub, subL_map]
    exact .eq (List.mem_map.mpr ⟨_, ht, rfl⟩)
  | arg ha _ ih =>
    simp only [Tm.sub, subL_map]
    exact .arg (List.mem_map.mpr ⟨_, ha, rfl⟩) (by simpa only [Tm.sub, subL_map] using ih)
  | name hr _ ih =>
    simp only [Tm.sub, subL_map] at ih ⊢
    refine .name hr fun b hb => ?_
    obtain ⟨c, hc, e⟩ := List.mem_map.mp hb
    subst e
    exact ih c hc
  | lex _ _ ih1 ih2 =>
    simp only [Tm.sub, subL_map, List.map_append, List.map_cons] at ih1 ih2 ⊢
    refine .lex ih1 fun b hb => ?_
    obtain ⟨c, hc, e⟩ := List.mem_map.mp hb
    subst e
    exact ih2 c hc

/-! ### positions -/
/-- the subterm at a position (arguments counted from 1) -/
def Tm.at : Tm N → List Nat → Option (Tm N)
  | t, [] => some t
  | .var _, _ :: _ => none
  | .app _ _, 0 :: _ => none
  | .app _ as, (k + 1) :: p => match as[k]? with
    | some a => a.at p
    | none => none
/-- the term with the subterm at a position replaced -/
def Tm.rep : Tm N → List Nat → Tm N → Tm N
  | _, [], n => n
  | .var i, _ :: _, _ => .var i
  | .app f as, 0 :: _, _ => .app f as
  | .app f as, (k + 1) :: p, n => match as[k]? with
    | some a => .app f (as.take k ++ a.rep p n :: as.drop (k + 1))
    | none => .app f as
theorem Gt.rep {a b : Tm N} (h : Gt r a b) : ∀ (p : List Nat) (t u : Tm N), t.at p = some u → Gt r (t.rep p a) (t.rep p b)
  | [], t, u, _ => by simpa [Tm.rep] using h
  | k :: p, .var i, u, e => by simp [Tm.at] at e
  | 0 :: p, .app f as, u, e => by simp [Tm.at] at e
  | (k + 1) :: p, .app f as, u, e => by
    simp only [Tm.at] at e
    cases q : as[k]? with
    | none => rw [q] at e; cases e
    | some x =>
      rw [q] at e
      simp only at e
      simp only [Tm.rep, q]
      exact .lex (Gt.rep h p x u e) fun c hc => .eq (List.mem_append_right _ (List.mem_cons_of_mem _ hc))
/-- a term is greater than what stands at a proper position -/
theorem Gt.sub_at : ∀ (p : List Nat) (t u : Tm N), p ≠ [] → t.at p = some u → Gt r t u
  | [], _, _, h, _ => absurd rfl h
  | k :: p, .var i, u, _, e => by simp [Tm.at] at e
  | 0 :: p, .app f as, u, _, e => by simp [Tm.at] at e
  | (k + 1) :: p, .app f as, u, _, e => by
    simp only [Tm.at] at e
    cases q : as[k]? with
    | none => rw [q] at e; cases e
    | some x =>
      rw [q] at e
      simp only at e
      have hx : x ∈ as := List.mem_of_getElem? q
      by_cases hp : p = []
      · subst hp
        cases x <;> (simp only [Tm.at, Option.some.injEq] at e; subst e; exact .eq hx)
      · exact .arg hx (Gt.sub_at p x u hp e)

/-! ### the decision, read off -/
theorem Gt.var_iff {f : N} {as : List (Tm N)} {x : Int} : Gt r (.app f as) (.var x) ↔ Occ x (.app f as) := by
  constructor
  · intro h
    cases h with
    | var ho => exact ho
    | eq ht => exact .arg ht .here
    | arg ha hg =>
      rename_i a
      have key : ∀ (n : Nat) (a : Tm N), a.size ≤ n → Gt r a (.var x) → Occ x a := by
        intro n
        induction n with
        | zero => intro a hn _; have := size_pos a; omega
        | succ n ih =>
          intro a hn h
          cases h with
          | var ho => exact ho
          | eq ht => exact .arg ht .here
          | arg hb hg =>
            refine .arg hb (ih _ ?_ hg)
            simp only [Tm.size] at hn
            have := size_mem hb
            omega
      exact .arg ha (key _ a (Nat.le_refl _) hg)
  · exact .var

end K35
set_option Elab.async false
set_option linter.all false
set_option maxRecDepth 100000
namespace K35
open PySem PySem.Spec PyProof.Rows L2
open He (ga ma)
abbrev T := Tm Str
/-! ### heaps -/
/-- the tuples are kept -/
def KpT (H H' : Hp) : Prop := ∀ b xs, H b = some (.tup xs) → H' b = some (.tup xs)
theorem kt_same {H H' : Hp} (h : Same H H') : KpT H H' := fun b xs e => h b _ e
theorem KpT.trans {H H1 H2 : Hp} (a : KpT H H1) (b : KpT H1 H2) : KpT H H2 := fun c xs e => b c xs (a c xs e)
/-- all but what is at p is kept -/
def But (p : Addr) (H H' : Hp) : Prop := ∀ b o, b ≠ p → H b = some o → H' b = some o
theorem But.refl (p : Addr) (H : Hp) : But p H H := fun _ _ _ e => e
theorem But.trans {p : Addr} {H H1 H2 : Hp} (a : But p H H1) (b : But p H1 H2) : But p H H2 := fun c o n e => b c o n (a c o n e)
theorem But.of_same {p : Addr} {H H' : Hp} (h : Same H H') : But p H H' := fun b o _ e => h b o e
theorem same_upd {H : Hp} {p : Addr} {o : HO} (h : H p = none) : Same H (upd H p o) := fun b x e => by
  rw [upd_ne (ne_of_none e h)]
  exact e
theorem but_upd {H : Hp} {p : Addr} {o : HO} : But p H (upd H p o) := fun b x n e => by
  rw [upd_ne n]
  exact e
/-- an object new since H, changed: what stood in H stands -/
theorem same_new {H H1 : Hp} {p : Addr} {o : HO} (s : Same H H1) (hn : H p = none) : Same H (upd H1 p o) := fun b x e => by
  rw [upd_ne (ne_of_none e hn)]
  exact s b x e
theorem But.same_new {p : Addr} {H H1 : Hp} (s : But p H H1) {q : Addr} {o : HO} (hn : H q = none) : But p H (upd H1 q o) := fun b x n e => by
  rw [upd_ne (ne_of_none e hn)]
  exact s b x n e
theorem But.none {p : Addr} {H H1 : Hp} (s : But p H H1) {q : Addr} (hq : H1 q = none) (hp : q ≠ p) : H q = none := by
  cases e : H q with
  | none => rfl
  | some o => rw [s q o hp e] at hq; cases hq
/-- all but the things told by their own object (the dict of the known reasons) is kept -/
def Kx (H H' : Hp) : Prop := ∀ b o, H b = some o → (∀ φ, o ≠ .ext φ) → H' b = some o
theorem Kx.refl (H : Hp) : Kx H H := fun _ _ e _ => e
theorem Kx.trans {H H1 H2 : Hp} (a : Kx H H1) (b : Kx H1 H2) : Kx H H2 := fun c o e n => b c o (a c o e n) n
theorem Kx.of_same {H H' : Hp} (h : Same H H') : Kx H H' := fun b o e _ => h b o e
theorem Kx.kt {H H' : Hp} (h : Kx H H') : KpT H H' := fun b xs e => h b _ e fun φ z => by cases z
theorem Kx.none {H H1 : Hp} (s : Kx H H1) {q : Addr} (hq : H1 q = none) (hp : ∀ φ, H q ≠ some (.ext φ)) : H q = none := by
  cases e : H q with
  | none => rfl
  | some o => rw [s q o e fun φ z => hp φ (by rw [e, z])] at hq; cases hq

/-! ### terms on the heap -/
inductive TmAt (H : Hp) : T → V → Prop
  | var (i : Int) : TmAt H (.var i) (.int i)
  | app {f : Str} {as : List T} {a : Addr} {vs : List V} : H a = some (.tup (.str f :: vs)) → as.length = vs.length → (∀ (k : Nat) (t : T) (v : V), as[k]? = some t → vs[k]? = some v → TmAt H t v) → TmAt H (.app f as) (.ref a)
theorem TmAt.kt {H H' : Hp} (k : KpT H H') {t : T} {v : V} (h : TmAt H t v) : TmAt H' t v := by
  induction h with
  | var i => exact .var i
  | app e l _ ih => exact .app (k _ _ e) l ih
theorem TmAt.inv {H : Hp} {f : Str} {as : List T} {v : V} (h : TmAt H (.app f as) v) :
    ∃ a vs, v = .ref a ∧ H a = some (.tup (.str f :: vs)) ∧ as.length = vs.length ∧ ∀ (k : Nat) (t : T) (v : V), as[k]? = some t → vs[k]? = some v → TmAt H t v := by
  cases h with
  | app e l k => exact ⟨_, _, rfl, e, l, k⟩
theorem TmAt.get {H : Hp} {as : List T} {vs : List V} (l : as.length = vs.length) (hk : ∀ (k : Nat) (t : T) (v : V), as[k]? = some t → vs[k]? = some v → TmAt H t v) {k : Nat} {t : T} (e : as[k]? = some t) : ∃ v, vs[k]? = some v ∧ TmAt H t v := by
  have hlt : k < vs.length := by have := (List.getElem?_eq_some_iff.mp e).1; omega
  exact ⟨vs[k], List.getElem?_eq_getElem hlt, hk k t _ e (List.getElem?_eq_getElem hlt)⟩
/-- fits the operations; variables 0, 1, 2 -/
inductive Wf (ops : List (Str × Nat)) : T → Prop
  | var {i : Int} : 0 ≤ i → i < 3 → Wf ops (.var i)
  | app {f : Str} {as : List T} : (f, as.length) ∈ ops → (∀ a ∈ as, Wf ops a) → Wf ops (.app f as)
theorem Wf.args {ops : List (Str × Nat)} {f : Str} {as : List T} (h : Wf ops (.app f as)) : (f, as.length) ∈ ops ∧ ∀ a ∈ as, Wf ops a := by
  cases h with
  | app h1 h2 => exact ⟨h1, h2⟩
/-- an address that holds a position -/
def PosT (H : Hp) (a : Addr) (p : List Nat) : Prop := H a = some (.tup (p.map fun (n : Nat) => V.int (n : Int)))
theorem PosT.kt {H H' : Hp} (k : KpT H H') {a : Addr} {p : List Nat} (h : PosT H a p) : PosT H' a p := k _ _ h

/-! ### equality of terms as data -/
mutual
def dat : T → PyData
  | .var i => .int i
  | .app f as => .tuple (.str f :: dats as)
def dats : List T → List PyData
  | [] => []
  | t :: ts => dat t :: dats ts
end
mutual
theorem eqv_dat : ∀ t u : T, PyData.eqv (dat t) (dat u) = true ↔ t = u
  | .var i, .var j => by simp [dat, PyData.eqv]
  | .var i, .app g bs => by simp [dat, PyData.eqv]
  | .app f as, .var j => by simp [dat, PyData.eqv]
  | .app f as, .app g bs => by
    simp only [dat, PyData.eqv, PyData.eqvAll, Bool.and_eq_true, beq_iff_eq, eqv_dats as bs, Tm.app.injEq]
theorem eqv_dats : ∀ ts us : List T, PyData.eqvAll (dats ts) (dats us) = true ↔ ts = us
  | [], [] => by simp [dats, PyData.eqvAll]
  | [], u :: us => by simp [dats, PyData.eqvAll]
  | t :: ts, [] => by simp [dats, PyData.eqvAll]
  | t :: ts, u :: us => by
    simp only [dats, PyData.eqvAll, Bool.and_eq_true, eqv_dat t u, eqv_dats ts us, List.cons.injEq]
end
theorem dats_lay : ∀ ts : List T, (∀ t ∈ ts, (dat t).canLay0 = true) → PyData.canLayAll0 (dats ts) = true
  | [], _ => by simp [dats, PyData.canLayAll0]
  | t :: ts, h => by
    simp only [dats, PyData.canLayAll0, Bool.and_eq_true]
    exact ⟨h t (List.mem_cons_self ..), dats_lay ts fun u hu => h u (List.mem_cons_of_mem _ hu)⟩
theorem dat_lay {ops : List (Str × Nat)} (ho : ∀ x ∈ ops, PyData.strOk x.1 = true) {t : T} (h : Wf ops t) : (dat t).canLay0 = true := by
  induction h with
  | var _ _ => simp [dat, PyData.canLay0]
  | @app f as hm _ ih =>
    simp only [dat, PyData.canLay0, PyData.canLayAll0, Bool.and_eq_true]
    exact ⟨ho _ hm, dats_lay as ih⟩
mutual
theorem dat_depth : ∀ t : T, (dat t).depth ≤ t.depth
  | .var i => by simp [dat, PyData.depth, Tm.depth]
  | .app f as => by
    have := dats_depth as
    simp only [dat, PyData.depth, PyData.depthAll, Tm.depth]
    omega
theorem dats_depth : ∀ ts : List T, PyData.depthAll (dats ts) ≤ depthL ts
  | [] => by simp [dats, PyData.depthAll, depthL]
  | t :: ts => by
    have h1 := dat_depth t
    have h2 := dats_depth ts
    simp only [dats, PyData.depthAll, depthL]
    omega
end
theorem dat_shaped {ops : List (Str × Nat)} (ho : ∀ x ∈ ops, PyData.strOk x.1 = true) {t : T} (hw : Wf ops t) (h : t.depth ≤ 64) : SeqAt.shaped (dat t) = true := by
  have h1 := dat_depth t
  show ((dat t).canLay0 && decide ((dat t).depth ≤ 64)) = true
  rw [Bool.and_eq_true]
  exact ⟨dat_lay ho hw, decide_eq_true (by omega)⟩
theorem TmAt.dp {K : PySem.W.Frag} {H : Hp} {t : T} {v : V} (h : TmAt H t v) : Dp K H v (dat t) := by
  induction h with
  | var i => exact .int i
  | @app f as a vs e l _ ih =>
    refine .tup (.inl (.inl e)) (.cons (.str f) ?_)
    have all : ∀ (ts : List T) (ws : List V), ts.length = ws.length → (∀ (k : Nat) (t : T) (v : V), ts[k]? = some t → ws[k]? = some v → Dp K H v (dat t)) → DpAll K H ws (dats ts) := by
      intro ts
      induction ts with
      | nil =>
        intro ws hl _
        cases ws with
        | nil => exact .nil
        | cons _ _ => simp at hl
      | cons t ts ih =>
        intro ws hl hk
        cases ws with
        | nil => simp at hl
        | cons w ws => exact .cons (hk 0 t w rfl rfl) (ih ws (by simpa using hl) fun k t v e1 e2 => hk (k + 1) t v (by simpa using e1) (by simpa using e2))
    exact all as vs l ih
/-- two terms that stand at one value are one -/
theorem TmAt.inj {H : Hp} {t u : T} {v : V} (h : TmAt H t v) : TmAt H u v → t = u := by
  intro h'
  induction h generalizing u with
  | var i =>
    cases h'
    rfl
  | @app f as a vs e l _ ih =>
    cases h' with
    | @app g bs _ ws e' l' k' =>
      rw [e] at e'
      cases e'
      have : as = bs := by
        apply List.ext_getElem? 
        intro k
        cases q : as[k]? with
        | none =>
          have hk : as.length ≤ k := List.getElem?_eq_none_iff.mp q
          exact (List.getElem?_eq_none (by omega)).symm
        | some t =>
          have hlt : k < as.length := (List.getElem?_eq_some_iff.mp q).1
          have h1 : vs[k]? = some (vs[k]'(by omega)) := List.getElem?_eq_getElem _
          have h2 : bs[k]? = some (bs[k]'(by omega)) := List.getElem?_eq_getElem _
          rw [h2, ih k t _ q h1 (k' k _ _ h2 h1)]
      rw [this]

/-! ### the dict of the known reasons -/
/-- a key: two positions -/
def keyN (p q : List Nat) : NestedKey := .tup [.tup (p.map fun (n : Nat) => NestedKey.num n), .tup (q.map fun (n : Nat) => NestedKey.num n)]
theorem numsN_inj : ∀ {p q : List Nat}, (p.map fun (n : Nat) => NestedKey.num n) = (q.map fun (n : Nat) => NestedKey.num n) → p = q
  | [], [], _ => rfl
  | [], _ :: _, h => by cases h
  | _ :: _, [], h => by cases h
  | a :: p, b :: q, h => by
    simp only [List.map_cons, List.cons.injEq, NestedKey.num.injEq] at h
    rw [numsN_inj h.2, Int.ofNat_inj.mp h.1]
theorem keyN_inj {p q p' q' : List Nat} (h : keyN p q = keyN p' q') : p = p' ∧ q = q' := by
  unfold keyN at h
  injection h with h
  injection h with h1 h2
  injection h2 with h2 _
  injection h1 with h1
  injection h2 with h2
  exact ⟨numsN_inj h1, numsN_inj h2⟩
/-- the tuple at a is the key of p and q -/
def KeyT (H : Hp) (a : Addr) (p q : List Nat) : Prop := ∃ b c, H a = some (.tup [.ref b, .ref c]) ∧ PosT H b p ∧ PosT H c q
theorem KeyT.kt {H H' : Hp} (k : KpT H H') {a : Addr} {p q : List Nat} (h : KeyT H a p q) : KeyT H' a p q := by
  obtain ⟨b, c, h1, h2, h3⟩ := h
  exact ⟨b, c, k _ _ h1, h2.kt k, h3.kt k⟩
section
variable {P : Program} {w : World} {H H' : Hp} {h : Heap} {a d : Addr} {p q : List Nat}
/-- the dict's own object -/
def KnD (P : Program) (w : World) (d : Addr) (ys : List (NestedKey × Addr × Value)) : Heap → Prop := fun h => ∃ o es ep, h.get? d = some o ∧ o.ExactDict ∧ o.data = .dict es ep ∧ es.toList = ys.map (entryOfKey (nestedKind P w)) ∧ (ys.map (·.1)).Nodup
theorem num_all {h : Heap} : ∀ {p : List Nat} {us : List Value}, Vals (p.map fun (n : Nat) => V.int (n : Int)) us → NestedAll h (p.map fun (n : Nat) => NestedKey.num n) us
  | [], _, r => by cases r; exact .nil
  | n :: p, _, r => by
    cases r with
    | cons r1 r2 =>
      obtain ⟨t, e⟩ := r1
      subst e
      exact .cons (.int _ t) (num_all r2)
theorem num_depth : ∀ p : List Nat, NestedKey.depthAll (p.map fun (n : Nat) => NestedKey.num n) = 0
  | [] => rfl
  | n :: p => by
    show max (NestedKey.depth (.num n)) (NestedKey.depthAll (p.map fun (n : Nat) => NestedKey.num n)) = 0
    rw [num_depth p]
    rfl
theorem keyN_depth (p q : List Nat) : (keyN p q).depth = 2 := by
  unfold keyN
  simp only [NestedKey.depth, NestedKey.depthAll, num_depth]
  rfl
theorem KeyT.is (hok : HOk P w H h) (k : KeyT H a p q) : (nestedKind P w).is h (keyN p q) a := by
  obtain ⟨b, c, h1, h2, h3⟩ := k
  refine ⟨?_, by rw [keyN_depth]; decide⟩
  obtain ⟨_, its, r, o, e1, e2, n, e3⟩ := (show ObjOk P w H h a (.tup [.ref b, .ref c]) from hok a _ h1)
  obtain ⟨_, itb, rb, ob, b1, b2, nb, b3⟩ := (show ObjOk P w H h b (.tup _) from hok b _ h2)
  obtain ⟨_, itc, rc, oc, c1, c2, nc, c3⟩ := (show ObjOk P w H h c (.tup _) from hok c _ h3)
  cases r with
  | cons r1 r =>
    cases r with
    | cons r2 r =>
      cases r
      cases r1
      cases r2
      refine .tup e1 e2 e3 (.cons (.tup b1 b2 b3 (by simpa using num_all rb)) (.cons (.tup c1 c2 c3 (by simpa using num_all rc)) .nil))
end
/-- the dict at d holds, for pairs of positions of l0 and r0, whether there is a reason; the pairs S are there -/
def KnOk (P : Program) (w : World) (r : Str → Nat) (l0 r0 : T) (S : List (List Nat × List Nat)) (H : Hp) (d : Addr) : Prop := (d == sysModules) = false ∧ ∃ ys : List (NestedKey × Addr × Value), H d = some (.ext (KnD P w d ys)) ∧
  (∀ y ∈ ys, ∃ (p q : List Nat) (l u : T) (v : V), y.1 = keyN p q ∧ KeyT H y.2.1 p q ∧ l0.at p = some l ∧ r0.at q = some u ∧ RelV v y.2.2 ∧ (v ≠ .non ↔ Gt r l u)) ∧
  ∀ s ∈ S, (atKey ys (keyN s.1 s.2)).isSome = true
section
variable {P : Program} {w : World} {r : Str → Nat} {l0 r0 : T} {S : List (List Nat × List Nat)} {H H' : Hp} {d a : Addr} {p q : List Nat}
theorem KnOk.kt (k : KnOk P w r l0 r0 S H d) (kt : KpT H H') (e : H' d = H d) : KnOk P w r l0 r0 S H' d := by
  obtain ⟨hd, ys, h1, h2, h3⟩ := k
  refine ⟨hd, ys, e.trans h1, fun y hy => ?_, h3⟩
  obtain ⟨p, q, l, u, v, e1, e2, e3⟩ := h2 y hy
  exact ⟨p, q, l, u, v, e1, e2.kt kt, e3⟩
theorem KnOk.nil (k : KnOk P w r l0 r0 S H d) : KnOk P w r l0 r0 [] H d := by
  obtain ⟨hd, ys, h1, h2, h3⟩ := k
  exact ⟨hd, ys, h1, h2, fun s hs => nomatch hs⟩
theorem KnOk.ext (k : KnOk P w r l0 r0 S H d) : ∃ φ, H d = some (.ext φ) := by
  obtain ⟨_, ys, h1, _⟩ := k
  exact ⟨_, h1⟩
theorem kn_dict {h : Heap} (hok : HOk P w H h) {ys : List (NestedKey × Addr × Value)} (h1 : H d = some (.ext (KnD P w d ys)))
    (h3 : ∀ y ∈ ys, ∃ (p q : List Nat) (l u : T) (v : V), y.1 = keyN p q ∧ KeyT H y.2.1 p q ∧ l0.at p = some l ∧ r0.at q = some u ∧ RelV v y.2.2 ∧ (v ≠ .non ↔ Gt r l u)) : h.DictOfH (nestedKind P w) d ys := by
  obtain ⟨⟨o, es, ep, e1, e2, e3, e4, e5⟩, _⟩ := (show ObjOk P w H h d (.ext (KnD P w d ys)) from hok d _ h1)
  refine ⟨o, es, ep, e1, e2, e3, e4, fun y hy => ?_, e5⟩
  obtain ⟨p, q, l, u, v, f1, f2, _⟩ := h3 y hy
  rw [f1]
  exact f2.is hok
end

/-! ### nodup lists of positions -/
theorem nodup_len {α : Type} [DecidableEq α] : ∀ {xs ys : List α}, xs.Nodup → (∀ x ∈ xs, x ∈ ys) → xs.length ≤ ys.length
  | [], ys, _, _ => Nat.zero_le _
  | x :: xs, ys, nd, h => by
    obtain ⟨n1, n2⟩ := List.nodup_cons.mp nd
    have hx : x ∈ ys := h x (List.mem_cons_self ..)
    have h2 : ∀ y ∈ xs, y ∈ ys.erase x := fun y hy => by
      have hne : y ≠ x := fun e => n1 (e ▸ hy)
      exact (List.mem_erase_of_ne hne).mpr (h y (List.mem_cons_of_mem _ hy))
    have h3 := nodup_len n2 h2
    rw [List.length_erase_of_mem hx] at h3
    have : 0 < ys.length := List.length_pos_of_mem hx
    rw [List.length_cons]
    omega
mutual
/-- the positions of a term -/
def poss : T → List (List Nat)
  | .var _ => [[]]
  | .app _ as => [] :: possL 1 as
def possL : Nat → List T → List (List Nat)
  | _, [] => []
  | k, t :: ts => (poss t).map (k :: ·) ++ possL (k + 1) ts
end
mutual
theorem poss_len : ∀ t : T, (poss t).length = t.size
  | .var _ => rfl
  | .app _ as => by
    simp only [poss, Tm.size, List.length_cons, possL_len 1 as]
    omega
theorem possL_len : ∀ (k : Nat) (ts : List T), (possL k ts).length = sizeL ts
  | _, [] => rfl
  | k, t :: ts => by
    simp only [possL, sizeL, List.length_append, List.length_map, poss_len t, possL_len (k + 1) ts]
end
theorem possL_mem {p : List Nat} {t : T} : ∀ {ts : List T} {k j : Nat}, ts[j]? = some t → p ∈ poss t → (k + j) :: p ∈ possL k ts
  | [], k, j, h, _ => by simp at h
  | s :: ss, k, 0, h, hp => by
    cases h
    exact List.mem_append_left _ (List.mem_map.mpr ⟨p, hp, rfl⟩)
  | s :: ss, k, j + 1, h, hp => by
    refine List.mem_append_right _ ?_
    have := possL_mem (k := k + 1) (j := j) (ts := ss) (by simpa using h) hp
    rw [show k + (j + 1) = k + 1 + j by omega]
    exact this
theorem at_poss : ∀ (p : List Nat) (t u : T), t.at p = some u → p ∈ poss t
  | [], .var _, _, _ => List.mem_cons_self ..
  | [], .app _ _, _, _ => List.mem_cons_self ..
  | _ :: _, .var _, _, h => by simp [Tm.at] at h
  | 0 :: _, .app _ _, _, h => by simp [Tm.at] at h
  | (k + 1) :: p, .app f as, u, h => by
    simp only [Tm.at] at h
    cases e : as[k]? with
    | none => rw [e] at h; cases h
    | some a =>
      rw [e] at h
      refine List.mem_cons_of_mem _ ?_
      have := possL_mem (k := 1) (j := k) e (at_poss p a u h)
      rw [Nat.add_comm 1 k] at this
      exact this
/-- every pair of positions -/
def pairsPos (l0 r0 : T) : List NestedKey := (poss l0).flatMap fun p => (poss r0).map fun q => keyN p q
theorem flat_len {α β : Type} (g : α → List β) (n : Nat) : ∀ xs : List α, (∀ x, (g x).length = n) → (xs.flatMap g).length = xs.length * n
  | [], _ => by simp
  | x :: xs, h => by
    rw [List.flatMap_cons, List.length_append, flat_len g n xs h, h x, List.length_cons, Nat.add_mul]
    omega
theorem pairsPos_len (l0 r0 : T) : (pairsPos l0 r0).length = l0.size * r0.size := by
  unfold pairsPos
  rw [flat_len _ r0.size _ fun p => by rw [List.length_map, poss_len], poss_len]
theorem pairsPos_mem {l0 r0 l u : T} {p q : List Nat} (h1 : l0.at p = some l) (h2 : r0.at q = some u) : keyN p q ∈ pairsPos l0 r0 :=
  List.mem_flatMap.mpr ⟨p, at_poss p l0 l h1, List.mem_map.mpr ⟨q, at_poss q r0 u h2, rfl⟩⟩

end K35
set_option Elab.async false
set_option linter.all false
set_option maxRecDepth 100000
namespace K35
open PySem PySem.Spec PyProof.Rows L2
open He (ga ma)
/-! ### rules for the dict of the known reasons -/
section
variable {X : Cx} {pos pos' : Pos} {o i value : Expr} {td ty tv : TE}
theorem knd_stay {P : Program} {w : World} {d : Addr} {ys : List (NestedKey × Addr × Value)} {h1 h2 : Heap} (k : KnD P w d ys h1) (e : ∀ o, h1.get? d = some o → h2.get? d = some o) : KnD P w d ys h2 := by
  obtain ⟨o, es, ep, e1, e2⟩ := k
  exact ⟨o, es, ep, e _ e1, e2⟩
theorem knd_ok {P : Program} {w : World} {H : Hp} {h : Heap} {d : Addr} {ys : List (NestedKey × Addr × Value)} (k : KnD P w d ys h) : ObjOk P w H h d (.ext (KnD P w d ys)) := by
  obtain ⟨o, es, ep, e1, e2⟩ := id k
  exact ⟨k, ⟨o, e1⟩, fun h1 h2 => knd_stay⟩
def tDNewN (P : Program) (w : World) : TE := fun _ H Q => ∀ d, H d = none → (d == sysModules) = false → Q (.ref d) (upd H d (.ext (KnD P w d [])))
theorem pe_dnewN : PE X (.Dict [] [] pos) (tDNewN X.prog X.w) := ⟨fun pins s σ H Q I h => by
  have hb : (s.heap.objs.size == sysModules) = false := beq_eq_false_iff_ne.mpr (Ne.symm (Nat.ne_of_lt I.big))
  refine wpAny_Dict_empty ⟨.ref s.heap.objs.size, _, I.laid (a := s.heap.objs.size) (o := .ext (KnD X.prog X.w s.heap.objs.size [])) (t' := s.toks) (fun _ _ q => Heap.get?_push_of_some _ q) (Nat.le_refl _) ?_, rfl, h _ (I.hok.fresh (Nat.le_refl _)) hb⟩
  exact knd_ok ⟨_, #[], 0, Heap.get?_push_size _ rfl, ⟨rfl, rfl, rfl⟩, rfl, rfl, List.nodup_nil⟩⟩
/-- y not in d -/
def rNotInKn (P : Program) (w : World) : R2 := fun y x H Q => ∃ (r : Str → Nat) (l0 r0 : T) (d k : Addr) (p q : List Nat), x = .ref d ∧ y = .ref k ∧ KeyT H k p q ∧ KnOk P w r l0 r0 [] H d ∧ Q (.bl true) H ∧ (KnOk P w r l0 r0 [(p, q)] H d → Q (.bl false) H)
theorem op_notIn_known (hu : X.A.units + 64 < cLine) : OpR X (compareOp .NotIn) (rNotInKn X.prog X.w) := by
  intro pins s σ H y x v u Q I ry rx h
  obtain ⟨r, l0, r0, d, k, p, q, rfl, rfl, hk, ⟨hd, ys, h1, h2, h3⟩, q1, q2⟩ := h
  cases rx
  cases ry
  refine wpAny_notIn_heap (knd := nestedKind X.prog X.w) (k := keyN p q) (show X.A.units + 1 + 8 < cLine by omega) (hk.is I.hok) hd (kn_dict I.hok h1 h2) ?_
  cases e : (atKey ys (keyN p q)).isSome with
  | true => exact ⟨.bl false, H, I.tok _, rfl, q2 ⟨hd, ys, h1, h2, fun s hs => by rw [List.mem_singleton.mp hs]; exact e⟩⟩
  | false => exact ⟨.bl true, H, I.tok _, rfl, q1⟩
theorem atKey_some {ys : List (NestedKey × Addr × Value)} {k : NestedKey} (h : (atKey ys k).isSome = true) : ∃ y ∈ ys, y.1 = k ∧ atKey ys k = some y.2 := by
  unfold atKey at h ⊢
  cases e : ys.find? fun x => decide (x.1 = k) with
  | none => rw [e] at h; cases h
  | some y => exact ⟨y, List.mem_of_find?_eq_some e, of_decide_eq_true (List.find?_some (p := fun (x : NestedKey × Addr × Value) => decide (x.1 = k)) e), rfl⟩
/-- d[y] -/
def tKGet (P : Program) (w : World) (td ty : TE) : TE := fun σ H Q => td σ H fun x H1 => ty σ H1 fun y H2 => ∃ (r : Str → Nat) (l0 r0 l u : T) (d k : Addr) (p q : List Nat), x = .ref d ∧ y = .ref k ∧ KeyT H2 k p q ∧ KnOk P w r l0 r0 [(p, q)] H2 d ∧
  l0.at p = some l ∧ r0.at q = some u ∧ ∀ v, (v ≠ .non ↔ Gt r l u) → Q v H2
theorem pe_kget (hu : X.A.units + 64 < cLine) (ho : PE X o td) (hi : PE X i ty) (hs : NoSl i) : PE X (.Subscript o i pos) (tKGet X.prog X.w td ty) := by
  refine ⟨fun pins s σ H Q I h => ?_⟩
  refine subD_of PySem.F.slot_dict_getitem.lookup hs (thn (ho.run pins s σ H _ I h) fun u s1 ⟨x, H1, I1, rx, q1⟩ => thn (hi.run pins s1 σ H1 _ I1 q1) fun iv s2 ⟨y, H2, I2, ry, q2⟩ => ?_)
  obtain ⟨r, l0, r0, l, t, d, k, p, q, rfl, rfl, hk, ⟨hd, ys, h1, h2, h3⟩, a1, a2, q2⟩ := q2
  cases rx
  cases ry
  have dd := kn_dict I2.hok h1 h2
  refine ⟨dd.typeIs, ?_⟩
  obtain ⟨z, hz, ez, az⟩ := atKey_some (h3 (p, q) (List.mem_singleton.mpr rfl))
  refine wpAny_getItem_heap (knd := nestedKind X.prog X.w) (k := keyN p q) (show X.A.units + 1 + 8 < cLine by omega) (hk.is I2.hok) dd az ?_
  obtain ⟨p', q', l', u', v, e1, e2, e3, e4, e5, e6⟩ := h2 z hz
  obtain ⟨rfl, rfl⟩ := keyN_inj (e1.symm.trans ez)
  rw [a1] at e3
  rw [a2] at e4
  cases e3
  cases e4
  exact ⟨v, H2, I2.tok _, e5, q2 v e6⟩
theorem storedH_mem {ys : List (NestedKey × Addr × Value)} {k : NestedKey} {a : Addr} {v : Value} {y : NestedKey × Addr × Value} (h : y ∈ storedH ys k a v) : (y ∈ ys) ∨ (y.1 = k ∧ y.2.2 = v ∧ (y.2.1 = a ∨ ∃ z ∈ ys, z.1 = k ∧ z.2.1 = y.2.1)) := by
  unfold storedH at h
  split at h
  · obtain ⟨z, hz, e⟩ := List.mem_map.mp h
    unfold putAt at e
    by_cases q : z.1 = k
    · rw [if_pos q] at e
      subst e
      exact .inr ⟨q, rfl, .inr ⟨z, hz, q, rfl⟩⟩
    · rw [if_neg q] at e
      subst e
      exact .inl hz
  · rcases List.mem_append.mp h with q | q
    · exact .inl q
    · rw [List.mem_singleton.mp q]
      exact .inr ⟨rfl, rfl, .inl rfl⟩
theorem storedH_has (ys : List (NestedKey × Addr × Value)) (k : NestedKey) (a : Addr) (v : Value) : (atKey (storedH ys k a v) k).isSome = true := by
  have key : ∀ zs : List (NestedKey × Addr × Value), (∃ z ∈ zs, z.1 = k) → (atKey zs k).isSome = true := by
    intro zs ⟨z, hz, e⟩
    unfold atKey
    rw [Option.isSome_map, List.find?_isSome]
    exact ⟨z, hz, decide_eq_true e⟩
  apply key
  unfold storedH
  by_cases q : (atKey ys k).isSome = true
  · rw [if_pos q]
    obtain ⟨z, hz, e, _⟩ := atKey_some q
    exact ⟨_, List.mem_map.mpr ⟨z, hz, rfl⟩, by unfold putAt; rw [if_pos e]; exact e⟩
  · rw [if_neg q]
    exact ⟨_, List.mem_append_right _ (List.mem_singleton.mpr rfl), rfl⟩
/-- d[y] = v -/
def tKPut (P : Program) (w : World) (td ty tv : TE) : TS := fun D σ H => tv σ H fun v H1 => td σ H1 fun x H2 => ty σ H2 fun y H3 => ∃ (r : Str → Nat) (l0 r0 l u : T) (d k : Addr) (p q : List Nat), x = .ref d ∧ y = .ref k ∧ KeyT H3 k p q ∧ KnOk P w r l0 r0 [] H3 d ∧
  l0.at p = some l ∧ r0.at q = some u ∧ (v ≠ .non ↔ Gt r l u) ∧ l0.size * r0.size ≤ sizeLine ∧ ∀ H4, KnOk P w r l0 r0 [(p, q)] H4 d → (∀ b, b ≠ d → H4 b = H3 b) → D.nx σ H4
theorem ps_kput (hu : X.A.units + 64 < cLine) (ho : PE X o td) (hi : PE X i ty) (hv : PE X value tv) (hs : swapsWith value (some (.Subscript o i pos')) pos.line X.env = pure false) :
    PS X (.Assign [.Subscript o i pos'] value pos) (tKPut X.prog X.w td ty tv) := by
  refine ⟨fun pins s σ H D I h => ?_⟩
  refine wpAny_Assign_Subscript (thn (hv.run pins s σ H _ I h) fun rv s1 ⟨v, H1, I1, rr, q1⟩ => thn (ho.run pins s1 σ H1 _ I1 q1) fun u s2 ⟨x, H2, I2, rx, q2⟩ => thn (hi.run pins s2 σ H2 _ I2 q2) fun iv s3 ⟨y, H3, I3, ry, q3⟩ => ?_) hs
  obtain ⟨r, l0, r0, l, t, d, k, p, q, rfl, rfl, hk, ⟨hd, ys, h1, h2, h3⟩, a1, a2, a3, a4, q3⟩ := q3
  cases rx
  cases ry
  have dd := kn_dict I3.hok h1 h2
  have hsz : ys.length ≤ sizeLine := by
    have hn := dd.nodup
    have h6 : (ys.map (·.1)).length ≤ (pairsPos l0 r0).length := nodup_len hn fun z hz => by
      obtain ⟨y, hy, e⟩ := List.mem_map.mp hz
      obtain ⟨p', q', l', u', v', e1, _, e3, e4, _⟩ := h2 y hy
      rw [← e, e1]
      exact pairsPos_mem e3 e4
    rw [List.length_map, pairsPos_len] at h6
    omega
  refine wpAny_setItem_heap (knd := nestedKind X.prog X.w) (k := keyN p q) (hsz := hsz) (show X.A.units + 1 + 8 < cLine by omega) (hk.is I3.hok) dd fun h' dd' hs' => ?_
  obtain ⟨o2, es, ep, e1, e2, e3, e4, _, e5⟩ := dd'
  have kt : KpT H3 (upd H3 d (.ext (KnD X.prog X.w d (storedH ys (keyN p q) k rv)))) := fun b xs e => by
    rw [upd_ne (ne_of e h1 (by intro z; cases z))]
    exact e
  have I4 : Inv X pins σ (upd H3 d (.ext (KnD X.prog X.w d (storedH ys (keyN p q) k rv)))) { s3 with heap := h', toks := s3.toks + (nestedKind X.prog X.w).draws (keyN p q) } :=
    I3.write (x := d) (e := d) (by rw [h1]; exact True.intro) (.inl rfl) (fun b z hb e => (hs'.2 b hb).trans e) ⟨o2, e1⟩ (knd_ok ⟨o2, es, ep, e1, e2, e3, e4, e5⟩)
  refine ⟨σ, _, I4, q3 _ ⟨hd, _, upd_same, fun y hy => ?_, fun s hs => by rw [List.mem_singleton.mp hs]; exact storedH_has ..⟩ fun b hb => upd_ne hb⟩
  rcases storedH_mem hy with hy | ⟨f1, f2, f3⟩
  · obtain ⟨p', q', l', u', v', g1, g2, g3⟩ := h2 y hy
    exact ⟨p', q', l', u', v', g1, g2.kt kt, g3⟩
  · refine ⟨p, q, l, t, v, f1, ?_, a1, a2, by rw [f2]; exact rr, a3⟩
    rcases f3 with f3 | ⟨z, hz, f4, f5⟩
    · rw [f3]; exact hk.kt kt
    · obtain ⟨p', q', l', u', v', g1, g2, g3⟩ := h2 z hz
      obtain ⟨rfl, rfl⟩ := keyN_inj (g1.symm.trans f4)
      rw [← f5]
      exact g2.kt kt
end
end K35
set_option Elab.async false
set_option linter.all false
set_option maxRecDepth 100000
set_option maxHeartbeats 4000000
namespace K35
open PySem PySem.Spec PyProof.Rows L2
open He (ga ma)
section
variable {P : Program} {w : World} {K : PySem.W.Frag} {mg : Str → Option Value} {base : Heap}
/-! ### is_variable -/
inductive IsI (H : Hp) : V → Bool → Prop
  | int (i : Int) : IsI H (.int i) true
  | str (x : Str) : IsI H (.str x) false
  | tup {a : Addr} {xs : List V} : H a = some (.tup xs) → IsI H (.ref a) false
theorem IsI.ty {H : Hp} {v : V} {b : Bool} (h : IsI H v b) : ∃ t, TyX K H v t ∧ PySem.W.kitOne K t (.type "int") = some b := by
  cases h with
  | int i => exact ⟨_, .base (.int i), kit_ty (by decide +kernel)⟩
  | str x => exact ⟨_, .base (.str x), kit_ty (by decide +kernel)⟩
  | tup e => exact ⟨_, .base (.tup e), kit_ty (by decide +kernel)⟩
def Tm.isVar {N : Type} : Tm N → Bool
  | .var _ => true
  | .app _ _ => false
theorem TmAt.isI {H : Hp} {t : T} {v : V} (h : TmAt H t v) : IsI H v t.isVar := by
  cases h with
  | var i => exact .int i
  | app e _ _ => exact .tup e
def spIsVar : Sp := fun vs H Q _ => ∃ (v : V) (b : Bool), vs = [v] ∧ IsI H v b ∧ Q (.bl b) H
abbrev n_is_variable : List Str := ["term"]
theorem sc_is_variable : FnScope n_is_variable ["term"] (defScope s_is_variable) := ⟨rfl, rfl, rfl, by decide +kernel, rfl, by decide +kernel, by decide +kernel⟩
theorem ok_is_variable (T : Env0K K mg) : FnOk P w K mg base CX0 1 (ga K "is_variable") T.fd_is_variable ["term"] spIsVar := by
  refine T.F_is_variable.ok sc_is_variable (fun vs H Q E h => ?_) (fun cdv A outer s H vs Q E hr h => ?_)
  · obtain ⟨v, b, rfl, _⟩ := h
    rfl
  · obtain ⟨v, b, rfl, hb, q⟩ := h
    refine ⟨_, PSs.nox (pss_one (ps_ret (pe_callB call_isi (by rfl) T.f_isinstance bt_isinstance (pa_cons (pv 0) (pa_cons (pe_bltn (v := .ty "int") (by rfl) T.f_int bt_int rfl) pa_nil))))), ?_⟩
    obtain ⟨t, h1, h2⟩ := hb.ty (K := K)
    exact ⟨_, rfl, _, _, _, _, b, rfl, .ty "int", h1, h2, q⟩
/-! ### symbols -/
mutual
def syms : T → List V
  | .var i => [.int i]
  | .app f as => .str f :: symsL as
def symsL : List T → List V
  | [] => []
  | t :: ts => syms t ++ symsL ts
end
mutual
theorem syms_len : ∀ t : T, (syms t).length = t.size
  | .var _ => rfl
  | .app _ as => by
    simp only [syms, Tm.size, List.length_cons, symsL_len as]
    omega
theorem symsL_len : ∀ ts : List T, (symsL ts).length = sizeL ts
  | [] => rfl
  | t :: ts => by simp only [symsL, sizeL, List.length_append, syms_len t, symsL_len ts]
end
theorem symsL_app : ∀ (ts us : List T), symsL (ts ++ us) = symsL ts ++ symsL us
  | [], _ => rfl
  | t :: ts, us => by
    show syms t ++ symsL (ts ++ us) = (syms t ++ symsL ts) ++ symsL us
    rw [symsL_app ts us, List.append_assoc]
theorem symsL_take {as : List T} {i : Nat} {t : T} (h : as[i]? = some t) : symsL (as.take (i + 1)) = symsL (as.take i) ++ syms t := by
  rw [List.take_add_one, h, symsL_app]
  show symsL (as.take i) ++ (syms t ++ []) = _
  rw [List.append_nil]
theorem sizeL_take : ∀ (as : List T) (i : Nat), sizeL (as.take i) ≤ sizeL as
  | [], i => by simp
  | a :: as, 0 => by simp [sizeL]
  | a :: as, i + 1 => by
    have := sizeL_take as i
    simp only [List.take_succ_cons, sizeL]
    omega
theorem at0 {α : Type} (x : α) (xs : List α) : atI (x :: xs) 0 = some x := atI_nat (j := 0) rfl
/-- t[1:] -/
theorem cut1 (x : V) (xs : List V) : cutV (x :: xs) (some 1) none = xs := by
  unfold cutV
  rw [show HT.sIx (x :: xs).length 0 (some 1) = min 1 (x :: xs).length from HT.sIx_nat (x :: xs).length 0 1, HT.sIx_none]
  rw [show min 1 (x :: xs).length = 1 by
    rw [List.length_cons]
    omega]
  show (List.take ((x :: xs).length - 1) xs) = xs
  rw [List.length_cons, Nat.add_sub_cancel]
  exact List.take_length
theorem cut1_not (x : V) (xs : List V) : ¬ (HT.sIx (x :: xs).length 0 (some 1) = 0 ∧ HT.sIx (x :: xs).length (x :: xs).length none = (x :: xs).length) := by
  rintro ⟨h, _⟩
  rw [show HT.sIx (x :: xs).length 0 (some 1) = min 1 (x :: xs).length from HT.sIx_nat (x :: xs).length 0 1, List.length_cons] at h
  omega
def spSyms (n : Nat) : Sp := fun vs H Q _ => ∃ (v : V) (t : T), vs = [v] ∧ TmAt H t v ∧ t.depth ≤ n ∧ t.size ≤ 100000 ∧ ∀ l H', H l = none → H' l = some (.lst (syms t)) → Same H H' → Q (.ref l) H'
abbrev n_symbols : List Str := ["term", "found", "argument"]
theorem sc_symbols : FnScope n_symbols ["term"] (defScope s_symbols) := ⟨rfl, rfl, rfl, by decide +kernel, rfl, by decide +kernel, by decide +kernel⟩
theorem ok_symbols (T : Env0K K mg) : ∀ n : Nat, FnOk P w K mg base CX0 (n + 1) (ga K "symbols") T.fd_symbols ["term"] (spSyms n) := by
  intro n
  induction n with
  | zero =>
    refine T.F_symbols.ok sc_symbols (fun vs H Q E h => ?_) (fun cdv A outer s H vs Q E hr h => ?_)
    · obtain ⟨v, t, rfl, _⟩ := h
      rfl
    · obtain ⟨v, t, rfl, _, hd, _⟩ := h
      have := depth_pos t
      omega
  | succ n ih =>
    have G_is_variable := ok_is_variable (P := P) (w := w) (base := base) T
    refine T.F_symbols.ok sc_symbols (fun vs H Q E h => ?_) (fun cdv A outer s H vs Q E hr h => ?_)
    · obtain ⟨v, t, rfl, _⟩ := h
      rfl
    · obtain ⟨v, t, rfl, ht, hd, hs, q⟩ := h
      refine ⟨_, PSs.nox (pss_cons (ps_if (pt_val (pe_call G_is_variable (hr.mono (by omega)) (by rfl) T.g_is_variable T.F_is_variable.kp T.b_is_variable .nil pass0 (pa_cons (pv 0) pa_nil)))
        (pss_one (ps_ret (pe_lst (pa_cons (pv 0) pa_nil))))
        pss_nil)
      (pss_cons (ps_set (i := 1) sc_symbols.nd rfl (Or.inl rfl) (pe_lst (pa_cons (pe_ix ix_tup (pv 0) pe_int (fun _ _ => rfl)) pa_nil)))
      (pss_cons (ps_for PassesOwn.never rfl (pi_tup (pe_slice sl_tupA (pv 0) (po_some pe_int) po_none)) (pg_name (i := 2) sc_symbols.nd rfl (Or.inl rfl))
        (pss_one (ps_expr (pe_bm PySem.F.plainAttrs_list PySem.F.slot_list_extend PySem.F.type_list_extend mt_extend (pv 1) (pa_cons (pe_call ih (hr.mono (by omega)) (by rfl) T.g_symbols T.F_symbols.kp T.b_symbols .nil pass0 (pa_cons (pv 2) pa_nil)) pa_nil)))))
      (pss_one (ps_ret (pv 1)))))), ?_⟩
      refine ⟨_, rfl, v, _, rfl, ht.isI, _, rfl, ?_⟩
      cases t with
      | var i =>
        refine iteT ?_
        cases ht
        refine ⟨_, rfl, ?_⟩
        exact ⟨by show 1 ≤ sizeLine; decide, fun l hl => q l _ hl (by rw [upd_same]; rfl) (same_upd hl)⟩
      | app f as =>
        refine iteF ?_
        obtain ⟨a, ws, rfl, ha, hlen, hk⟩ := ht.inv
        -- found = [term[0]]
        refine ⟨_, rfl, a, _, 0, .str f, rfl, rfl, .of ha, at0 _ _, by show 1 ≤ sizeLine; decide, fun l hl => ?_⟩
        have s1 : Same H (upd H l (.lst [.str f])) := same_upd hl
        -- term[1:]
        refine ⟨_, rfl, 1, rfl, a, _, rfl, .of (s1 _ _ ha), fun z => absurd z (cut1_not _ _), fun _ p hp => ?_⟩
        rw [cut1]
        have npl : l ≠ p := fun e => by rw [← e, upd_same] at hp; cases hp
        have hp0 : H p = none := s1.free hp
        refine ⟨p, rfl, ⟨_, .of upd_same⟩, for_tup (K := K) (a := p) (xs := ws) (fun i σ H2 => ∃ y, σ = [some (.ref a), some (.ref l), y] ∧ Same H H2 ∧ H2 p = some (.tup ws) ∧ H2 l = some (.lst (.str f :: symsL (as.take i)))) ⟨none, rfl, same_new s1 hp0, upd_same, ?_⟩ ?_ ?_ ?_⟩
        · rw [upd_ne npl, upd_same]
          rfl
        · rintro i σ H2 _ ⟨y, _, _, hp2, _⟩
          exact .of hp2
        · rintro i x σ H2 hx ⟨y, rfl, s2, hp2, hl2⟩
          have hi : i < as.length := by have := (List.getElem?_eq_some_iff.mp hx).1; omega
          have hu : as[i]? = some as[i] := List.getElem?_eq_getElem hi
          have tx : TmAt H as[i] x := hk i _ _ hu hx
          have hm : as[i] ∈ as := List.getElem_mem hi
          have d1 := depth_mem hm
          have d2 := size_mem hm
          simp only [Tm.depth] at hd
          simp only [Tm.size] at hs
          refine ⟨_, rfl, Or.inl ⟨rfl, _, Or.inl (Or.inl hl2)⟩, _, rfl, x, as[i], rfl, tx.kt (kt_same s2), by omega, by omega, fun m H3 hm0 hm3 s3 => ?_⟩
          have ez : sizeL (as.take (i + 1)) ≤ sizeL as := sizeL_take as (i + 1)
          have et := symsL_take hu
          have e0 : (symsL (as.take i)).length + (syms as[i]).length = sizeL (as.take (i + 1)) := by rw [← symsL_len, et, List.length_append]
          refine ⟨l, m, _, _, rfl, rfl, s3 _ _ hl2, hm3, ?_, ?_⟩
          · rw [List.length_cons]
            have : sizeLine = 16777216 := sizeLine_eq
            omega
          · refine ⟨_, rfl, same_new (s2.trans s3) hl, ?_, ?_⟩
            · rw [upd_ne npl.symm]
              exact s3 _ _ hp2
            · rw [upd_same, et]
              rfl
        · rintro σ H2 ⟨y, rfl, s2, hp2, hl2⟩
          refine ⟨_, rfl, q l H2 hl ?_ s2⟩
          rw [hl2, ← hlen, List.take_length]
          rfl
end
end K35
set_option Elab.async false
set_option linter.all false
set_option maxRecDepth 100000
set_option maxHeartbeats 4000000
namespace K35
open PySem PySem.Spec PyProof.Rows L2
open He (ga ma)
section
variable {P : Program} {w : World} {K : PySem.W.Frag} {mg : Str → Option Value} {base : Heap}
theorem mem_symsL {v : V} : ∀ {ts : List T}, v ∈ symsL ts ↔ ∃ t ∈ ts, v ∈ syms t
  | [] => by simp [symsL]
  | t :: ts => by
    simp only [symsL, List.mem_append, mem_symsL (ts := ts), List.mem_cons]
    constructor
    · rintro (h | ⟨u, h1, h2⟩)
      · exact ⟨t, .inl rfl, h⟩
      · exact ⟨u, .inr h1, h2⟩
    · rintro ⟨u, h1 | h1, h2⟩
      · subst h1; exact .inl h2
      · exact .inr ⟨u, h1, h2⟩
theorem Occ.syms {x : Int} {t : T} (h : Occ x t) : V.int x ∈ syms t := by
  induction h with
  | here => simp [K35.syms]
  | arg ha _ ih => exact List.mem_cons_of_mem _ (mem_symsL.mpr ⟨_, ha, ih⟩)
theorem occ_of_syms {x : Int} : ∀ (n : Nat) (t : T), t.size ≤ n → V.int x ∈ syms t → Occ x t := by
  intro n
  induction n with
  | zero => intro t h; have := size_pos t; omega
  | succ n ih =>
    intro t hn h
    cases t with
    | var i =>
      have : V.int x = V.int i := by simpa [K35.syms] using h
      cases this
      exact .here
    | app f as =>
      rcases List.mem_cons.mp h with e | h
      · cases e
      · obtain ⟨u, h1, h2⟩ := mem_symsL.mp h
        refine .arg h1 (ih u ?_ h2)
        have := size_mem h1
        simp only [Tm.size] at hn
        omega
theorem mem_syms {x : Int} {t : T} : V.int x ∈ syms t ↔ Occ x t := ⟨occ_of_syms _ t (Nat.le_refl _), Occ.syms⟩
theorem syms_kind {v : V} : ∀ (n : Nat) (t : T), t.size ≤ n → v ∈ syms t → (∃ i, v = .int i) ∨ ∃ x, v = .str x := by
  intro n
  induction n with
  | zero => intro t h; have := size_pos t; omega
  | succ n ih =>
    intro t hn h
    cases t with
    | var i => exact .inl ⟨i, by simpa [K35.syms] using h⟩
    | app f as =>
      rcases List.mem_cons.mp h with e | h
      · exact .inr ⟨f, e⟩
      · obtain ⟨u, h1, h2⟩ := mem_symsL.mp h
        refine ih u ?_ h2
        have := size_mem h1
        simp only [Tm.size] at hn
        omega
theorem ints_flat (xs : List Int) : (xs.map V.int).all flatV = true := by
  rw [List.all_eq_true]
  intro v hv
  obtain ⟨z, _, e⟩ := List.mem_map.mp hv
  rw [← e]
  rfl
theorem inV_int (z : Int) : ∀ xs : List Int, inV (.int z) (xs.map V.int) = decide (z ∈ xs)
  | [] => by simp [inV]
  | x :: xs => by
    have ih := inV_int z xs
    unfold inV at ih ⊢
    rw [List.map_cons, List.any_cons, ih]
    show ((x == z) || decide (z ∈ xs)) = _
    by_cases e : x = z
    · subst e; simp
    · have e' : ¬ z = x := fun q => e q.symm
      simp [e, e']
def spVars (n : Nat) : Sp := fun vs H Q _ => ∃ (v : V) (t : T), vs = [v] ∧ TmAt H t v ∧ t.depth ≤ n ∧ t.size ≤ 100000 ∧ ∀ l H' (xs : List Int), H l = none → H' l = some (.lst (xs.map V.int)) → (∀ x, x ∈ xs ↔ Occ x t) → Same H H' → Q (.ref l) H'
abbrev n_variables : List Str := ["term", "found", "symbol"]
theorem sc_variables : FnScope n_variables ["term"] (defScope s_variables) := ⟨rfl, rfl, rfl, by decide +kernel, rfl, by decide +kernel, by decide +kernel⟩
theorem ok_variables (T : Env0K K mg) (n : Nat) : FnOk P w K mg base CX0 (n + 2) (ga K "variables") T.fd_variables ["term"] (spVars n) := by
  have G_is_variable := ok_is_variable (P := P) (w := w) (base := base) T
  have G_symbols := ok_symbols (P := P) (w := w) (base := base) T n
  refine T.F_variables.ok sc_variables (fun vs H Q E h => ?_) (fun cdv A outer s H vs Q E hr h => ?_)
  · obtain ⟨v, t, rfl, _⟩ := h
    rfl
  · obtain ⟨v, t, rfl, ht, hd, hs, q⟩ := h
    refine ⟨_, PSs.nox (pss_cons (ps_set (i := 1) sc_variables.nd rfl (Or.inl rfl) (pe_lst pa_nil))
      (pss_cons (ps_for PassesOwn.never rfl (pi_list (pe_call G_symbols (hr.mono (by omega)) (by rfl) T.g_symbols T.F_symbols.kp T.b_symbols .nil pass0 (pa_cons (pv 0) pa_nil))) (pg_name (i := 2) sc_variables.nd rfl (Or.inl rfl))
        (pss_one (ps_if (PW.pt (pw_and (pt_val (pe_call G_is_variable (hr.mono (by omega)) (by rfl) T.g_is_variable T.F_is_variable.kp T.b_is_variable .nil pass0 (pa_cons (pv 2) pa_nil))) (pw_and1 (pt_cmpR op_notIn_seq (pv 2) (pv 1) (by rfl)))))
          (pss_one (ps_expr (pe_bm PySem.F.plainAttrs_list PySem.F.slot_list_append PySem.F.type_list_append mt_append (pv 1) (pa_cons (pv 2) pa_nil))))
          pss_nil)))
      (pss_one (ps_ret (pv 1))))), ?_⟩
    refine ⟨Nat.zero_le _, fun f hf => ?_⟩
    have s1 : Same H (upd H f (.lst [])) := same_upd hf
    refine ⟨_, rfl, v, t, rfl, ht.kt (kt_same s1), hd, hs, fun l H1 hl1 hl s2 => ?_⟩
    have nfl : f ≠ l := fun e => by rw [← e, upd_same] at hl1; cases hl1
    have hl0 : H l = none := s1.free hl1
    refine ⟨l, rfl, ⟨_, .of hl⟩, for_list (K := K) (a := l) (xs := syms t) (fun i σ H2 => ∃ (xs : List Int) (y : Option V), σ = [some v, some (.ref f), y] ∧ Same H H2 ∧ H2 l = some (.lst (syms t)) ∧ H2 f = some (.lst (xs.map V.int)) ∧ (∀ x, x ∈ xs ↔ V.int x ∈ (syms t).take i) ∧ xs.length ≤ i)
      ⟨[], none, rfl, s1.trans s2, hl, s2 _ _ upd_same, fun x => by simp, Nat.le_refl _⟩ ?_ ?_ ?_⟩
    · rintro i σ H2 _ ⟨xs, y, _, _, hl2, _⟩
      exact .of hl2
    · rintro i x σ H2 hx ⟨xs, y, rfl, s3, hl2, hf2, hm, hle⟩
      have hi : i < (syms t).length := (List.getElem?_eq_some_iff.mp hx).1
      have et : (syms t).take (i + 1) = (syms t).take i ++ [x] := by rw [List.take_add_one, hx]; rfl
      rcases syms_kind _ t (Nat.le_refl _) (List.mem_of_getElem? hx) with ⟨z, e⟩ | ⟨z, e⟩
      · subst e
        refine ⟨_, rfl, _, true, rfl, .int z, _, rfl, iteT ?_⟩
        refine ⟨_, rfl, _, rfl, f, _, rfl, .inl (.of hf2), rfl, ints_flat xs, _, rfl, ?_⟩
        show if (!inV (.int z) (xs.map V.int)) = true then _ else _
        rw [inV_int]
        refine ite2 (fun hn => ?_) (fun hn => ?_)
        · have hsl := sizeLine_eq
          have hsz := syms_len t
          refine ⟨_, rfl, Or.inl ⟨rfl, _, Or.inl (Or.inl hf2)⟩, _, rfl, f, _, _, rfl, rfl, hf2, by rw [List.length_map]; omega, ?_⟩
          refine ⟨xs ++ [z], _, rfl, same_new s3 hf, by rw [upd_ne nfl.symm]; exact hl2, ?_, fun u => ?_, by rw [List.length_append]; simp only [List.length_singleton]; omega⟩
          · rw [upd_same, List.map_append]
            rfl
          · rw [et, List.mem_append, List.mem_append, hm u]
            simp
        · have hz : z ∈ xs := by simpa using hn
          refine ⟨xs, _, rfl, s3, hl2, hf2, fun u => ?_, by omega⟩
          rw [et, List.mem_append, ← hm u]
          constructor
          · exact .inl
          · rintro (h | h)
            · exact h
            · have : u = z := by simpa using h
              rw [this]; exact hz
      · subst e
        refine ⟨_, rfl, _, false, rfl, .str z, _, rfl, iteF (iteF ?_)⟩
        refine ⟨xs, _, rfl, s3, hl2, hf2, fun u => ?_, by omega⟩
        rw [et, List.mem_append, ← hm u]
        constructor
        · exact .inl
        · rintro (h | h)
          · exact h
          · simp at h
    · rintro σ H2 ⟨xs, y, rfl, s3, hl2, hf2, hm, hle⟩
      refine ⟨_, rfl, q f H2 xs hf hf2 (fun x => ?_) s3⟩
      rw [hm x, List.take_length, mem_syms]
/-! ### occurs -/
def spOccurs (n : Nat) : Sp := fun vs H Q _ => ∃ (v : V) (x : Int) (t : T), vs = [.int x, v] ∧ TmAt H t v ∧ t.depth ≤ n ∧ t.size ≤ 100000 ∧ ∀ (b : Bool) H', (b = true ↔ Occ x t) → Same H H' → Q (.bl b) H'
abbrev n_occurs : List Str := ["variable", "term"]
theorem sc_occurs : FnScope n_occurs ["variable", "term"] (defScope s_occurs) := ⟨rfl, rfl, rfl, by decide +kernel, rfl, by decide +kernel, by decide +kernel⟩
theorem ok_occurs (T : Env0K K mg) (n : Nat) : FnOk P w K mg base CX0 (n + 3) (ga K "occurs") T.fd_occurs ["variable", "term"] (spOccurs n) := by
  have G_variables := ok_variables (P := P) (w := w) (base := base) T n
  refine T.F_occurs.ok sc_occurs (fun vs H Q E h => ?_) (fun cdv A outer s H vs Q E hr h => ?_)
  · obtain ⟨v, x, t, rfl, _⟩ := h
    rfl
  · obtain ⟨v, x, t, rfl, ht, hd, hs, q⟩ := h
    refine ⟨_, PSs.nox (pss_one (ps_ret (pe_cmpR op_in_seq (pv 0) (pe_call G_variables (hr.mono (by omega)) (by rfl) T.g_variables T.F_variables.kp T.b_variables .nil pass0 (pa_cons (pv 1) pa_nil)) (by rfl)))), ?_⟩
    refine ⟨_, rfl, _, rfl, v, t, rfl, ht, hd, hs, fun l H1 xs hl0 hl hm s1 => ?_⟩
    refine ⟨l, _, rfl, .inl (.of hl), rfl, ints_flat xs, ?_⟩
    show Q (.bl (inV (.int x) (xs.map V.int))) H1
    rw [inV_int]
    exact q _ H1 (by rw [decide_eq_true_iff]; exact hm x) s1
/-! ### first_difference -/
abbrev n_first_difference : List Str := ["left", "right", "k"]
theorem sc_first_difference : FnScope n_first_difference ["left", "right"] (defScope s_first_difference) := ⟨rfl, rfl, rfl, by decide +kernel, rfl, by decide +kernel, by decide +kernel⟩
/-- the first place where the lists differ, counted from 1; 0: nowhere -/
def spDiff (ops : List (Str × Nat)) : Sp := fun vs H Q _ => ∃ (a b : Addr) (f g : Str) (as bs : List T), vs = [.ref a, .ref b] ∧ TmAt H (.app f as) (.ref a) ∧ TmAt H (.app g bs) (.ref b) ∧ as.length = bs.length ∧ as.length ≤ 100 ∧ (∀ x ∈ ops, PyData.strOk x.1 = true) ∧
  (∀ t ∈ as, Wf ops t ∧ t.depth ≤ 64) ∧ (∀ t ∈ bs, Wf ops t ∧ t.depth ≤ 64) ∧
  (as = bs → Q (.int 0) H) ∧ ∀ (k : Nat) (t u : T), as[k]? = some t → bs[k]? = some u → as.take k = bs.take k → t ≠ u → Q (.int ((k + 1 : Nat) : Int)) H
theorem atS {α : Type} {x : α} {xs : List α} {k : Nat} {v : α} (h : xs[k]? = some v) : atI (x :: xs) (1 + (k : Int)) = some v := by
  rw [show (1 : Int) + (k : Int) = ((k + 1 : Nat) : Int) by omega]
  exact atI_nat (by simpa using h)
theorem ok_first_difference (T : Env0K K mg) (ops : List (Str × Nat)) : FnOk P w K mg base CX0 1 (ga K "first_difference") T.fd_first_difference ["left", "right"] (spDiff ops) := by
  refine T.F_first_difference.ok sc_first_difference (fun vs H Q E h => ?_) (fun cdv A outer s H vs Q E hr h => ?_)
  · obtain ⟨a, b, f, g, as, bs, rfl, _⟩ := h
    rfl
  · obtain ⟨a, b, f, g, as, bs, rfl, ta, tb, hl, hl2, ho, wa, wb, q1, q2⟩ := h
    refine ⟨_, PSs.nox (pss_cons (ps_for PassesOwn.never rfl (pi_range2 (by rfl) T.f_range (pa_cons pe_int (pa_cons (pe_callB call_len_seq (by rfl) T.f_len bt_len (pa_cons (pv 0) pa_nil)) pa_nil))) (pg_name (i := 2) sc_first_difference.nd rfl (Or.inl rfl))
        (pss_one (ps_if (pt_cmpR (op_neD hr.units) (pe_ix ix_tup (pv 0) (pv 2) (fun _ _ => rfl)) (pe_ix ix_tup (pv 1) (pv 2) (fun _ _ => rfl)) (nomark _))
          (pss_one (ps_ret (pv 2)))
          pss_nil)))
      (pss_one (ps_ret pe_int))), ?_⟩
    obtain ⟨_, vs, e, ha, la, ka⟩ := ta.inv
    cases e
    obtain ⟨_, us, e, hb, lb, kb⟩ := tb.inv
    cases e
    refine ⟨_, rfl, a, _, rfl, .inr (.of ha), 1, _, rfl, ⟨by decide, by decide, by omega, ?_⟩, ?_⟩
    · simp only [List.length_cons]; omega
    have en : ((((V.str f :: vs).length : Nat) : Int) - 1).toNat = as.length := by simp only [List.length_cons]; omega
    rw [en]
    refine for_range (lo := 1) (n := as.length) (fun i σ H2 => ∃ y, σ = [some (.ref a), some (.ref b), y] ∧ H2 = H ∧ as.take i = bs.take i) ⟨none, rfl, rfl, rfl⟩ ?_ ?_
    · rintro i σ H2 hi ⟨y, rfl, rfl, et⟩
      have h1 : as[i]? = some as[i] := List.getElem?_eq_getElem hi
      have h2 : bs[i]? = some (bs[i]'(by omega)) := List.getElem?_eq_getElem (by omega)
      obtain ⟨va, ea, tva⟩ := TmAt.get la ka h1
      obtain ⟨vb, eb, tvb⟩ := TmAt.get lb kb h2
      have w1 := wa _ (List.getElem_mem hi)
      have w2 := wb _ (List.getElem_mem (show i < bs.length by omega))
      refine ⟨_, rfl, _, rfl, a, _, _, va, rfl, rfl, .of ha, atS ea, _, rfl, _, rfl, b, _, _, vb, rfl, rfl, .of hb, atS eb, _, _, tva.dp, tvb.dp, dat_shaped ho w1.1 w1.2, dat_shaped ho w2.1 w2.2, _, rfl, ?_⟩
      refine ite2 (fun hn => ?_) (fun hn => ?_)
      · have hne : as[i] ≠ bs[i]'(by omega) := fun z => by
          rw [(eqv_dat _ _).mpr z] at hn
          cases hn
        refine ⟨_, rfl, ?_⟩
        have := q2 i _ _ h1 h2 et hne
        rw [show ((i + 1 : Nat) : Int) = 1 + (i : Int) by omega] at this
        exact this
      · have he : as[i] = bs[i]'(by omega) := by
          apply (eqv_dat _ _).mp
          cases q : PyData.eqv (dat as[i]) (dat (bs[i]'(by omega))) with
          | true => rfl
          | false => rw [q] at hn; exact absurd rfl hn
        exact ⟨_, rfl, rfl, by rw [List.take_add_one, List.take_add_one, h1, h2, et, he]⟩
    · rintro σ H2 ⟨y, rfl, rfl, et⟩
      refine q1 ?_
      rw [List.take_length, hl, List.take_length] at et
      exact et
end
end K35
set_option Elab.async false
set_option linter.all false
set_option maxRecDepth 100000
set_option maxHeartbeats 4000000
namespace K35
open PySem PySem.Spec PyProof.Rows L2
open He (ga ma)
/-! ### a signature on the heap -/
theorem n_oa : ¬ (("order" : Str) = "arities") := by decide +kernel
theorem n_of : ¬ (("order" : Str) = "flags") := by decide +kernel
theorem n_af : ¬ (("arities" : Str) = "flags") := by decide +kernel
def sgF (lo da df : Addr) : List (Str × V) := putF "flags" (.ref df) (putF "arities" (.ref da) (putF "order" (.ref lo) []))
theorem sgF_order (lo da df : Addr) : (sgF lo da df).lookup ("order" : Str) = some (.ref lo) := by
  unfold sgF
  rw [lookup_putF, if_neg n_of, lookup_putF, if_neg n_oa, lookup_putF, if_pos rfl]
theorem sgF_arities (lo da df : Addr) : (sgF lo da df).lookup ("arities" : Str) = some (.ref da) := by
  unfold sgF
  rw [lookup_putF, if_neg n_af, lookup_putF, if_pos rfl]
theorem sgF_flags (lo da df : Addr) : (sgF lo da df).lookup ("flags" : Str) = some (.ref df) := by
  unfold sgF
  rw [lookup_putF, if_pos rfl]
theorem sgF_no (lo da df : Addr) {m : Str} (h1 : ¬ m = "order") (h2 : ¬ m = "arities") (h3 : ¬ m = "flags") : (sgF lo da df).lookup m = none := by
  unfold sgF
  rw [lookup_putF, if_neg h3, lookup_putF, if_neg h2, lookup_putF, if_neg h1]
  rfl
abbrev Ops := List (Str × Nat)
def nms (ops : Ops) : List Str := ops.map (·.1)
structure SigAt (K : PySem.W.Frag) (H : Hp) (g : Addr) (ops : Ops) : Prop where
  ex : ∃ (dx lo da df : Addr) (kvs : List (Key × V)), H g = some (.ins (ga K "Signature") dx (sgF lo da df)) ∧ H lo = some (.lst ((nms ops).map V.str)) ∧ H da = some (.dK kvs) ∧ ∀ f ∈ nms ops, (valV kvs (Sum.inr f : Key)).isSome = true
theorem SigAt.kx {K : PySem.W.Frag} {H H' : Hp} {g : Addr} {ops : Ops} (S : SigAt K H g ops) (k : Kx H H') : SigAt K H' g ops := by
  obtain ⟨dx, lo, da, df, kvs, h1, h2, h3, h4⟩ := S.ex
  exact ⟨dx, lo, da, df, kvs, k _ _ h1 (by intro φ z; cases z), k _ _ h2 (by intro φ z; cases z), k _ _ h3 (by intro φ z; cases z), h4⟩
/-- the rank of a name -/
def rk (ops : Ops) (f : Str) : Nat := (nms ops).findIdx fun x => decide (x = f)
theorem rk_at {ops : Ops} {f : Str} (h : f ∈ nms ops) : (nms ops)[rk ops f]? = some f ∧ ∀ m z, m < rk ops f → (nms ops)[m]? = some z → z ≠ f := by
  have hlt : rk ops f < (nms ops).length := List.findIdx_lt_length_of_exists ⟨f, h, decide_eq_true rfl⟩
  refine ⟨?_, fun m z hm hz e => ?_⟩
  · rw [List.getElem?_eq_getElem hlt]
    have := List.findIdx_getElem (w := hlt)
    exact congrArg some (of_decide_eq_true this)
  · have := List.not_of_lt_findIdx hm
    obtain ⟨h1, h2⟩ := List.getElem?_eq_some_iff.mp hz
    rw [h2] at this
    exact (of_decide_eq_false this) e
theorem rk_inj {ops : Ops} {f g : Str} (hf : f ∈ nms ops) (hg : g ∈ nms ops) (e : rk ops f = rk ops g) : f = g := by
  have h1 := (rk_at hf).1
  have h2 := (rk_at hg).1
  rw [e, h2] at h1
  exact (Option.some.inj h1).symm
section
variable {P : Program} {w : World} {K : PySem.W.Frag} {mg : Str → Option Value} {base : Heap}
def spRequire (K : PySem.W.Frag) (ops : Ops) : Sp := fun vs H Q _ => ∃ (g : Addr) (f : Str), vs = [.ref g, .str f] ∧ SigAt K H g ops ∧ f ∈ nms ops ∧ Q .non H
abbrev n_sg_require : List Str := ["self", "name"]
theorem sc_sg_require : FnScope n_sg_require ["self", "name"] (defScope s_sg_require) := ⟨rfl, rfl, rfl, by decide +kernel, rfl, by decide +kernel, by decide +kernel⟩
theorem ok_sg_require (T : Env0K K mg) (ops : Ops) : FnOk P w K mg base CX0 1 (ma K (ga K "Signature") "require") T.fd_sg_require ["self", "name"] (spRequire K ops) := by
  refine T.F_sg_require.ok sc_sg_require (fun vs H Q E h => ?_) (fun cdv A outer s H vs Q E hr h => ?_)
  · obtain ⟨g, f, rfl, _⟩ := h
    rfl
  · obtain ⟨g, f, rfl, S, hf, q⟩ := h
    have hu := hu_of hr
    refine ⟨_, PSs.nox (pss_one (ps_if (pt_cmp (pc_dnotin hu (pv 1) (pe_fld (pv 0) rfl)))
        (pss_one ps_never)
        pss_nil)), ?_⟩
    obtain ⟨dx, lo, da, df, kvs, h1, h2, h3, h4⟩ := S.ex
    refine ⟨_, rfl, _, rfl, g, _, dx, _, _, rfl, h1, T.cl_Signature, T.na_arities, sgF_arities _ _ _, da, _, rfl, DGet.k (k := Sum.inr f) h3, _, rfl, ?_⟩
    rw [h4 f hf]
    exact iteF q
def spRank (K : PySem.W.Frag) (ops : Ops) : Sp := fun vs H Q _ => ∃ (g : Addr) (f : Str), vs = [.ref g, .str f] ∧ SigAt K H g ops ∧ f ∈ nms ops ∧ Q (.int (rk ops f : Nat)) H
abbrev n_sg_rank : List Str := ["self", "name"]
theorem sc_sg_rank : FnScope n_sg_rank ["self", "name"] (defScope s_sg_rank) := ⟨rfl, rfl, rfl, by decide +kernel, rfl, by decide +kernel, by decide +kernel⟩
theorem strs_flat (xs : List Str) : (xs.map V.str).all flatV = true := by
  rw [List.all_eq_true]
  intro v hv
  obtain ⟨z, _, e⟩ := List.mem_map.mp hv
  rw [← e]
  rfl
theorem m_no {m : Str} (h1 : ¬ m = "order" := by decide +kernel) (h2 : ¬ m = "arities" := by decide +kernel) (h3 : ¬ m = "flags" := by decide +kernel) (lo da df : Addr) : (sgF lo da df).lookup m = none := sgF_no lo da df h1 h2 h3
theorem ok_sg_rank (T : Env0K K mg) (ops : Ops) : FnOk P w K mg base CX0 2 (ma K (ga K "Signature") "rank") T.fd_sg_rank ["self", "name"] (spRank K ops) := by
  have G_sg_require := ok_sg_require (P := P) (w := w) (base := base) T ops
  refine T.F_sg_rank.ok sc_sg_rank (fun vs H Q E h => ?_) (fun cdv A outer s H vs Q E hr h => ?_)
  · obtain ⟨g, f, rfl, _⟩ := h
    rfl
  · obtain ⟨g, f, rfl, S, hf, q⟩ := h
    refine ⟨_, PSs.nox (pss_cons (ps_expr (pe_meth (pv 0) T.cl_Signature T.m_require G_sg_require (hr.mono (by omega)) T.b_sg_require .nil pass0 (pa_cons (pv 1) pa_nil)))
      (pss_one (ps_ret (pe_bm PySem.F.plainAttrs_list PySem.F.slot_list_index PySem.F.type_list_index mt_index (pe_fld (pv 0) rfl) (pa_cons (pv 1) pa_nil))))), ?_⟩
    obtain ⟨dx, lo, da, df, kvs, h1, h2, h3, h4⟩ := S.ex
    refine ⟨_, rfl, g, dx, _, rfl, h1, sgF_no _ _ _ (by decide +kernel) (by decide +kernel) (by decide +kernel), _, rfl, g, f, rfl, S, hf, ?_⟩
    refine ⟨_, rfl, g, _, dx, _, _, rfl, h1, T.cl_Signature, T.na_order, sgF_order _ _ _, Or.inl ⟨rfl, _, Or.inl (Or.inl h2)⟩, _, rfl, ?_⟩
    obtain ⟨r1, r2⟩ := rk_at hf
    refine ⟨lo, _, .str f, rk ops f, .str f, rfl, rfl, .of h2, rfl, strs_flat _, ?_, ?_, ?_, q⟩
    · rw [List.getElem?_map, r1]
      rfl
    · show (f == f) = true
      simp
    · intro m z hm hz
      rw [List.getElem?_map] at hz
      cases e : (nms ops)[m]? with
      | none => rw [e] at hz; cases hz
      | some y =>
        rw [e] at hz
        cases hz
        show (y == f) = false
        exact beq_eq_false_iff_ne.mpr (r2 m y hm e)
/-! ### check_names -/
theorem syms_names {ops : Ops} {t : T} (h : Wf ops t) : ∀ x : Str, V.str x ∈ syms t → x ∈ nms ops := by
  induction h with
  | var _ _ => intro x hx; simp [syms] at hx
  | @app f as hm _ ih =>
    intro x hx
    rcases List.mem_cons.mp hx with e | hx
    · cases e
      exact List.mem_map.mpr ⟨_, hm, rfl⟩
    · obtain ⟨u, h1, h2⟩ := mem_symsL.mp hx
      exact ih u h1 x h2
def spCheck (K : PySem.W.Frag) (ops : Ops) (n : Nat) : Sp := fun vs H Q _ => ∃ (g : Addr) (vl vr : V) (l u : T), vs = [.ref g, vl, vr] ∧ SigAt K H g ops ∧ TmAt H l vl ∧ TmAt H u vr ∧ Wf ops l ∧ Wf ops u ∧ l.depth ≤ n ∧ u.depth ≤ n ∧ l.size ≤ 4000 ∧ u.size ≤ 4000 ∧ ∀ v H', Same H H' → Q v H'
abbrev n_check_names : List Str := ["signature", "left", "right", "symbol"]
theorem sc_check_names : FnScope n_check_names ["signature", "left", "right"] (defScope s_check_names) := ⟨rfl, rfl, rfl, by decide +kernel, rfl, by decide +kernel, by decide +kernel⟩
theorem ok_check_names (T : Env0K K mg) (ops : Ops) (n : Nat) : FnOk P w K mg base CX0 (n + 3) (ga K "check_names") T.fd_check_names ["signature", "left", "right"] (spCheck K ops n) := by
  have G_symbols := ok_symbols (P := P) (w := w) (base := base) T n
  have G_sg_rank := ok_sg_rank (P := P) (w := w) (base := base) T ops
  refine T.F_check_names.ok sc_check_names (fun vs H Q E h => ?_) (fun cdv A outer s H vs Q E hr h => ?_)
  · obtain ⟨g, vl, vr, l, u, rfl, _⟩ := h
    rfl
  · obtain ⟨g, vl, vr, l, u, rfl, S, tl, tu, wl, wu, dl, du, zl, zu, q⟩ := h
    refine ⟨_, PSs.nox (pss_one (ps_for PassesOwn.never rfl (pi_list (pe_op op_cat (pe_call G_symbols (hr.mono (by omega)) (by rfl) T.g_symbols T.F_symbols.kp T.b_symbols .nil pass0 (pa_cons (pv 1) pa_nil)) (pe_call G_symbols (hr.mono (by omega)) (by rfl) T.g_symbols T.F_symbols.kp T.b_symbols .nil pass0 (pa_cons (pv 2) pa_nil)))) (pg_name (i := 3) sc_check_names.nd rfl (Or.inl rfl))
        (pss_one (ps_if (pt_val (pe_callB call_isi (by rfl) T.f_isinstance bt_isinstance (pa_cons (pv 3) (pa_cons (pe_bltn (v := .ty "str") (by rfl) T.f_str bt_str rfl) pa_nil))))
          (pss_one (ps_expr (pe_meth (pv 0) T.cl_Signature T.m_rank G_sg_rank (hr.mono (by omega)) T.b_sg_rank .nil pass0 (pa_cons (pv 3) pa_nil))))
          pss_nil)))), ?_⟩
    refine ⟨_, rfl, vl, l, rfl, tl, dl, by omega, fun a H1 ha0 ha s1 => ?_⟩
    refine ⟨_, rfl, vr, u, rfl, tu.kt (kt_same s1), du, by omega, fun b H2 hb0 hb s2 => ?_⟩
    have hsl := sizeLine_eq
    have z1 := syms_len l
    have z2 := syms_len u
    refine ⟨a, b, _, _, rfl, rfl, s2 _ _ ha, hb, by omega, fun c hc => ?_⟩
    refine ⟨c, rfl, ⟨_, .of upd_same⟩, for_list (K := K) (a := c) (xs := syms l ++ syms u) (fun i σ H3 => ∃ y, σ = [some (.ref g), some vl, some vr, y] ∧ Same H H3 ∧ H3 c = some (.lst (syms l ++ syms u)))
      ⟨none, rfl, (s1.trans s2).trans (same_upd hc), upd_same⟩ ?_ ?_ ?_⟩
    · rintro i σ H3 _ ⟨y, _, _, h3⟩
      exact .of h3
    · rintro i x σ H3 hx ⟨y, rfl, s3, h3⟩
      have hm : x ∈ syms l ++ syms u := List.mem_of_getElem? hx
      have hk : (∃ i, x = .int i) ∨ ∃ z, x = .str z := by
        rcases List.mem_append.mp hm with h | h
        · exact syms_kind _ l (Nat.le_refl _) h
        · exact syms_kind _ u (Nat.le_refl _) h
      rcases hk with ⟨z, e⟩ | ⟨z, e⟩
      · subst e
        refine ⟨_, rfl, _, _, _, _, false, rfl, .ty "str", .base (.int z), kit_ty (by decide +kernel), _, rfl, iteF ?_⟩
        exact ⟨_, rfl, s3, h3⟩
      · subst e
        refine ⟨_, rfl, _, _, _, _, true, rfl, .ty "str", .base (.str z), kit_ty (by decide +kernel), _, rfl, iteT ?_⟩
        have hz : z ∈ nms ops := by
          rcases List.mem_append.mp hm with h | h
          · exact syms_names wl z h
          · exact syms_names wu z h
        have S3 := S.kx (Kx.of_same s3)
        obtain ⟨dx, lo, da, df, kvs, h1, _⟩ := S3.ex
        exact ⟨_, rfl, g, dx, _, rfl, h1, sgF_no _ _ _ (by decide +kernel) (by decide +kernel) (by decide +kernel), _, rfl, g, z, rfl, S3, hz, _, rfl, s3, h3⟩
    · rintro σ H3 ⟨y, rfl, s3, h3⟩
      exact q _ _ s3
end
end K35
set_option Elab.async false
set_option linter.all false
set_option maxRecDepth 100000
set_option maxHeartbeats 4000000
namespace K35
open PySem PySem.Spec PyProof.Rows L2
open He (ga ma)
/-! ### positions, put together -/
theorem at_app {N : Type} : ∀ (p q : List Nat) (t u : Tm N), t.at p = some u → t.at (p ++ q) = u.at q
  | [], q, t, u, h => by
    cases t <;> (simp only [Tm.at, Option.some.injEq] at h; subst h; rfl)
  | k :: p, q, .var i, u, h => by simp [Tm.at] at h
  | 0 :: p, q, .app f as, u, h => by simp [Tm.at] at h
  | (k + 1) :: p, q, .app f as, u, h => by
    simp only [Tm.at, List.cons_append] at h ⊢
    cases e : as[k]? with
    | none => rw [e] at h; cases h
    | some a =>
      rw [e] at h
      exact at_app p q a u h
theorem at_nil {N : Type} (t : Tm N) : t.at [] = some t := by cases t <;> rfl
theorem at_one {N : Type} {t : Tm N} {p : List Nat} {f : N} {as : List (Tm N)} {k : Nat} {a : Tm N} (h : t.at p = some (.app f as)) (e : as[k]? = some a) : t.at (p ++ [k + 1]) = some a := by
  rw [at_app p _ t _ h]
  simp only [Tm.at, e, at_nil]
theorem at_len {N : Type} : ∀ (p : List Nat) (t u : Tm N), t.at p = some u → p.length + u.depth ≤ t.depth
  | [], t, u, h => by
    rw [at_nil] at h
    cases h
    simp
  | k :: p, .var i, u, h => by simp [Tm.at] at h
  | 0 :: p, .app f as, u, h => by simp [Tm.at] at h
  | (k + 1) :: p, .app f as, u, h => by
    simp only [Tm.at] at h
    cases e : as[k]? with
    | none => rw [e] at h; cases h
    | some a =>
      rw [e] at h
      have h1 := at_len p a u h
      have h2 := depth_mem (List.mem_of_getElem? e)
      simp only [Tm.depth, List.length_cons]
      omega
/-! ### the decision -/
section
variable {r : Str → Nat} {f g : Str} {as bs : List T}
theorem gt_lt (h : r f < r g) (hna : ∀ a ∈ as, a ≠ .app g bs ∧ ¬ Gt r a (.app g bs)) : ¬ Gt r (.app f as) (.app g bs) := by
  intro q
  cases q with
  | eq hm => exact (hna _ hm).1 rfl
  | arg hm hg => exact (hna _ hm).2 hg
  | name hr _ => omega
  | lex _ _ => omega
theorem gt_name (h : r g < r f) (hna : ∀ a ∈ as, a ≠ .app g bs ∧ ¬ Gt r a (.app g bs)) : Gt r (.app f as) (.app g bs) ↔ ∀ b ∈ bs, Gt r (.app f as) b := by
  constructor
  · intro q
    generalize e : Tm.app g bs = u at q hna
    cases q with
    | var ho => cases e
    | eq hm => exact absurd rfl (hna _ hm).1
    | arg hm hg => exact absurd hg (hna _ hm).2
    | name hr hb =>
      injection e with e1 e2
      subst e1; subst e2
      exact hb
    | lex _ _ =>
      injection e with e1 e2
      rw [e1] at h
      omega
  · exact .name h
theorem gt_lex {k : Nat} {a b : T} (hna : ∀ x ∈ as, x ≠ .app f bs ∧ ¬ Gt r x (.app f bs)) (ha : as[k]? = some a) (hb : bs[k]? = some b) (ht : as.take k = bs.take k) (hne : a ≠ b) :
    Gt r (.app f as) (.app f bs) ↔ Gt r a b ∧ ∀ c ∈ bs.drop (k + 1), Gt r (.app f as) c := by
  have sa : as = as.take k ++ a :: as.drop (k + 1) := by
    obtain ⟨h1, h2⟩ := List.getElem?_eq_some_iff.mp ha
    rw [← h2, ← List.drop_eq_getElem_cons h1, List.take_append_drop]
  have sb : bs = bs.take k ++ b :: bs.drop (k + 1) := by
    obtain ⟨h1, h2⟩ := List.getElem?_eq_some_iff.mp hb
    rw [← h2, ← List.drop_eq_getElem_cons h1, List.take_append_drop]
  constructor
  · intro q
    generalize e : Tm.app f as = l at q
    generalize e' : Tm.app f bs = u at q hna
    cases q with
    | var ho => cases e'
    | eq hm =>
      injection e with e1 e2
      subst e2
      exact absurd rfl (hna _ hm).1
    | arg hm hg =>
      injection e with e1 e2
      subst e2
      exact absurd hg (hna _ hm).2
    | name hr hb =>
      injection e with e1 e2
      injection e' with e3 e4
      rw [← e1, ← e3] at hr
      omega
    | @lex _ pre xs ys x y hxy hall =>
      injection e with e1 e2
      injection e' with e3 e4
      rcases split2 (sa.symm.trans e2) with ⟨q1, q2, q3⟩ | ⟨m, q1, q2⟩ | ⟨m, q1, q2⟩
      · have q4 : bs.take k ++ b :: bs.drop (k + 1) = as.take k ++ y :: ys := by rw [← sb, e4, q1]
        rw [ht] at q4
        have q5 := List.append_cancel_left q4
        injection q5 with q6 q7
        subst q2; subst q6
        refine ⟨hxy, fun c hc => ?_⟩
        rw [q7] at hc
        exact hall c hc
      · -- pre is longer: a = b
        exfalso
        have q4 : bs.take k ++ b :: bs.drop (k + 1) = (as.take k ++ a :: m) ++ y :: ys := by rw [← sb, e4, q1]
        rw [ht, List.append_assoc] at q4
        have q5 := List.append_cancel_left q4
        injection q5 with q6 q7
        exact hne q6.symm
      · -- pre is shorter: x = y
        exfalso
        have q4 : bs.take k ++ b :: bs.drop (k + 1) = pre ++ y :: ys := by rw [← sb, e4]
        rw [← ht, q1, List.append_assoc] at q4
        have q5 := List.append_cancel_left q4
        injection q5 with q6 q7
        subst q6
        exact Gt.irrefl _ hxy
  · rintro ⟨h1, h2⟩
    generalize as.drop (k + 1) = as' at sa
    generalize bs.drop (k + 1) = bs' at sb h2
    rw [← ht] at sb
    generalize as.take k = pre at sa sb
    subst sa; subst sb
    exact .lex h1 h2
end
/-! ### what is handed down -/
structure Cst (ops : Ops) (l0 r0 : T) : Prop where
  ho : ∀ x ∈ ops, PyData.strOk x.1 = true
  ar : ∀ x ∈ ops, x.2 ≤ 3
  fn : ∀ x ∈ ops, ∀ y ∈ ops, x.1 = y.1 → x.2 = y.2
  z1 : l0.size ≤ 4000
  z2 : r0.size ≤ 4000
  d1 : l0.depth ≤ 16
  d2 : r0.depth ≤ 16
structure RIn (P : Program) (w : World) (K : PySem.W.Frag) (ops : Ops) (l0 r0 : T) (H : Hp) (g pa pt d : Addr) (vl vu : V) (l u : T) (p q : List Nat) : Prop where
  S : SigAt K H g ops
  tl : TmAt H l vl
  tu : TmAt H u vu
  wl : Wf ops l
  wu : Wf ops u
  pl : PosT H pa p
  pu : PosT H pt q
  al : l0.at p = some l
  au : r0.at q = some u
  kn : KnOk P w (rk ops) l0 r0 [] H d
section
variable {P : Program} {w : World} {K : PySem.W.Frag} {mg : Str → Option Value} {base : Heap} {ops : Ops} {l0 r0 : T} {H H' : Hp} {g pa pt d : Addr} {vl vu : V} {l u : T} {p q : List Nat}
theorem But.kx {S : List (List Nat × List Nat)} (b : But d H H') (k : KnOk P w (rk ops) l0 r0 S H d) : Kx H H' := fun c o e n => by
  obtain ⟨φ, h⟩ := k.ext
  refine b c o (fun z => ?_) e
  subst z
  rw [h] at e
  cases e
  exact n φ rfl
theorem RIn.mono (R : RIn P w K ops l0 r0 H g pa pt d vl vu l u p q) (b : But d H H') (k : KnOk P w (rk ops) l0 r0 [] H' d) : RIn P w K ops l0 r0 H' g pa pt d vl vu l u p q := by
  have kx := b.kx R.kn
  exact ⟨R.S.kx kx, R.tl.kt kx.kt, R.tu.kt kx.kt, R.wl, R.wu, R.pl.kt kx.kt, R.pu.kt kx.kt, R.al, R.au, k⟩
/-- a new object -/
theorem RIn.new (R : RIn P w K ops l0 r0 H g pa pt d vl vu l u p q) {x : Addr} {o : HO} (hx : H x = none) : RIn P w K ops l0 r0 (upd H x o) g pa pt d vl vu l u p q := by
  have s := same_upd (o := o) hx
  refine R.mono (But.of_same s) (R.kn.kt (kt_same s) ?_)
  obtain ⟨φ, h⟩ := R.kn.ext
  exact upd_ne (ne_of_none h hx)
theorem RIn.same (R : RIn P w K ops l0 r0 H g pa pt d vl vu l u p q) (s : Same H H') : RIn P w K ops l0 r0 H' g pa pt d vl vu l u p q := by
  refine R.mono (But.of_same s) (R.kn.kt (kt_same s) ?_)
  obtain ⟨φ, h⟩ := R.kn.ext
  rw [s _ _ h, h]
def Ends1 (P : Program) (w : World) (ops : Ops) (l0 r0 : T) (d : Addr) (H : Hp) (A : Prop) (Q : VK) : Prop := ∀ (v : V) (H' : Hp), (v ≠ .non ↔ A) → KnOk P w (rk ops) l0 r0 [] H' d → But d H H' → Q v H'
def spPath (P : Program) (w : World) (K : PySem.W.Frag) (ops : Ops) (l0 r0 : T) (n : Nat) : Sp := fun vs H Q _ => ∃ (g pa pt d : Addr) (vl vu : V) (l u : T) (p q : List Nat), vs = [.ref g, vl, vu, .ref pa, .ref pt, .ref d] ∧ RIn P w K ops l0 r0 H g pa pt d vl vu l u p q ∧ l.depth + u.depth ≤ n ∧
  Ends1 P w ops l0 r0 d H (Gt (rk ops) l u) Q
def spArg (P : Program) (w : World) (K : PySem.W.Frag) (ops : Ops) (l0 r0 : T) (n : Nat) : Sp := fun vs H Q _ => ∃ (g pa pt d : Addr) (vl vu : V) (f : Str) (as : List T) (u : T) (p q : List Nat), vs = [.ref g, vl, vu, .ref pa, .ref pt, .ref d] ∧ RIn P w K ops l0 r0 H g pa pt d vl vu (.app f as) u p q ∧ (Tm.app f as).depth + u.depth ≤ n ∧
  Ends1 P w ops l0 r0 d H (∃ a ∈ as, a = u ∨ Gt (rk ops) a u) Q
def spLater (P : Program) (w : World) (K : PySem.W.Frag) (ops : Ops) (l0 r0 : T) (n : Nat) : Sp := fun vs H Q _ => ∃ (g pa pt d : Addr) (vl vu : V) (l : T) (h : Str) (bs : List T) (j : Nat) (p q : List Nat), vs = [.ref g, vl, vu, .int ((j + 1 : Nat) : Int), .ref pa, .ref pt, .ref d] ∧ RIn P w K ops l0 r0 H g pa pt d vl vu l (.app h bs) p q ∧ l.depth + (Tm.app h bs).depth ≤ n ∧
  j ≤ bs.length ∧ Ends1 P w ops l0 r0 d H (∀ c ∈ bs.drop j, Gt (rk ops) l c) Q
def spLex (P : Program) (w : World) (K : PySem.W.Frag) (ops : Ops) (l0 r0 : T) (n : Nat) : Sp := fun vs H Q _ => ∃ (g pa pt d : Addr) (vl vu : V) (f : Str) (as bs : List T) (p q : List Nat), vs = [.ref g, vl, vu, .ref pa, .ref pt, .ref d] ∧ RIn P w K ops l0 r0 H g pa pt d vl vu (.app f as) (.app f bs) p q ∧ (Tm.app f as).depth + (Tm.app f bs).depth ≤ n ∧
  (∀ a ∈ as, a ≠ .app f bs ∧ ¬ Gt (rk ops) a (.app f bs)) ∧ Ends1 P w ops l0 r0 d H (Gt (rk ops) (.app f as) (.app f bs)) Q
/-- a position and one more step -/
theorem rd_catpos {σ : L2.St} {Q : VK} {i j : Nat} {a : Addr} {p : List Nat} {z : Int} {k : Nat} (h1 : σ[i]? = some (some (.ref a))) (h2 : σ[j]? = some (some (.int z))) (hz : z = (k : Int)) (hp : PosT H a p) (hl : p.length ≤ 1000)
    (q : ∀ b H', Same H H' → PosT H' b (p ++ [k]) → Q (.ref b) H') : tOp (rCatA K) (tVar i) (tTup (tCons (tVar j) tNil)) σ H Q := by
  subst hz
  refine ⟨_, h1, _, h2, by show 1 ≤ sizeLine; decide, fun t ht => ?_⟩
  have s1 : Same H (upd H t (.tup [.int (k : Int)])) := same_upd ht
  have hsl := sizeLine_eq
  refine ⟨a, t, _, _, rfl, rfl, .of (s1 _ _ hp), .of upd_same, by rw [List.length_map]; show p.length + 1 ≤ sizeLine; omega, fun e => ?_, fun _ e => (nomatch e), fun _ _ b hb => ?_⟩
  · have e' : p = [] := by simpa using e
    subst e'
    exact q t _ s1 (show upd H t _ t = _ from upd_same)
  · refine q b _ (s1.trans (same_upd hb)) ?_
    show upd _ b _ b = _
    rw [upd_same, List.map_append]
    rfl
/-! ### path_reason -/
abbrev n_path_reason : List Str := ["signature", "left", "right", "at", "to", "known"]
theorem sc_path_reason : FnScope n_path_reason ["signature", "left", "right", "at", "to", "known"] (defScope s_path_reason) := ⟨rfl, rfl, rfl, by decide +kernel, rfl, by decide +kernel, by decide +kernel⟩
theorem ok_path_reason (T : Env0K K mg) (c : Cst ops l0 r0) {m n : Nat} (G_find_reason : FnOk P w K mg base CX0 m (ga K "find_reason") T.fd_find_reason ["signature", "left", "right", "at", "to", "known"] (spPath P w K ops l0 r0 n)) :
    FnOk P w K mg base CX0 (m + 1) (ga K "path_reason") T.fd_path_reason ["signature", "left", "right", "at", "to", "known"] (spPath P w K ops l0 r0 n) := by
  refine T.F_path_reason.ok sc_path_reason (fun vs H Q E h => ?_) (fun cdv A outer s H vs Q E hr h => ?_)
  · obtain ⟨g, pa, pt, d, vl, vu, l, u, p, q, rfl, _⟩ := h
    rfl
  · obtain ⟨g, pa, pt, d, vl, vu, l, u, p, q, rfl, R, hn, qq⟩ := h
    refine ⟨_, PSs.nox (pss_cons (ps_if (pt_cmpR (op_notIn_known hr.units) (pe_tup (pa_cons (pv 3) (pa_cons (pv 4) pa_nil))) (pv 5) (by rfl))
        (pss_one (ps_kput hr.units (pv 5) (pe_tup (pa_cons (pv 3) (pa_cons (pv 4) pa_nil))) (pe_call G_find_reason (hr.mono (by omega)) (by rfl) T.g_find_reason T.F_find_reason.kp T.b_find_reason .nil pass0 (pa_cons (pv 0) (pa_cons (pv 1) (pa_cons (pv 2) (pa_cons (pv 3) (pa_cons (pv 4) (pa_cons (pv 5) pa_nil))))))) rfl))
        pss_nil)
      (pss_one (ps_ret (pe_kget hr.units (pv 5) (pe_tup (pa_cons (pv 3) (pa_cons (pv 4) pa_nil))) (fun _ _ => rfl))))), ?_⟩
    have z2 : (2 : Nat) ≤ sizeLine := by decide
    -- the end: return known[(at, to)]
    have fin : ∀ H1, But d H H1 → KnOk P w (rk ops) l0 r0 [(p, q)] H1 d → ∀ Q' : VK, (∀ v H', (v ≠ .non ↔ Gt (rk ops) l u) → KnOk P w (rk ops) l0 r0 [] H' d → But d H H' → Q' v H') →
        tKGet P w (tVar 5) (tTup (tCons (tVar 3) (tCons (tVar 4) tNil))) [some (.ref g), some vl, some vu, some (.ref pa), some (.ref pt), some (.ref d)] H1 Q' := by
      intro H1 b1 k1 Q' hq
      refine ⟨_, rfl, _, rfl, _, rfl, z2, fun t ht => ?_⟩
      have R1 := R.mono b1 k1.nil
      have s1 : Same H1 (upd H1 t (.tup [.ref pa, .ref pt])) := same_upd ht
      have k2 : KnOk P w (rk ops) l0 r0 [(p, q)] (upd H1 t (.tup [.ref pa, .ref pt])) d := k1.kt (kt_same s1) (by obtain ⟨φ, h⟩ := k1.ext; exact upd_ne (ne_of_none h ht))
      exact ⟨_, _, _, l, u, d, t, p, q, rfl, rfl, ⟨pa, pt, upd_same, R1.pl.kt (kt_same s1), R1.pu.kt (kt_same s1)⟩, k2, R.al, R.au, fun v hv => hq v _ hv k2.nil (b1.trans (But.of_same s1))⟩
    refine ⟨_, rfl, _, rfl, z2, fun t ht => ?_⟩
    have R1 := R.new (o := .tup [.ref pa, .ref pt]) ht
    have s1 : Same H (upd H t (.tup [.ref pa, .ref pt])) := same_upd ht
    refine ⟨_, rfl, _, _, _, d, t, p, q, rfl, rfl, ⟨pa, pt, upd_same, R1.pl, R1.pu⟩, R1.kn, ⟨_, rfl, iteT ?_⟩, fun k1 => ⟨_, rfl, iteF ?_⟩⟩
    · refine ⟨_, rfl, _, rfl, _, rfl, _, rfl, _, rfl, _, rfl, g, pa, pt, d, vl, vu, l, u, p, q, rfl, R1, hn, fun v H2 hv k2 b2 => ?_⟩
      refine ⟨_, rfl, _, rfl, _, rfl, z2, fun t2 ht2 => ?_⟩
      have R2 := R1.mono b2 k2
      have R3 := R2.new (o := .tup [.ref pa, .ref pt]) ht2
      have s3 : Same H2 (upd H2 t2 (.tup [.ref pa, .ref pt])) := same_upd ht2
      have hz : l0.size * r0.size ≤ sizeLine := by
        have := Nat.mul_le_mul c.z1 c.z2
        have hsl := sizeLine_eq
        omega
      refine ⟨_, _, _, l, u, d, t2, p, q, rfl, rfl, ⟨pa, pt, upd_same, R3.pl, R3.pu⟩, R3.kn, R.al, R.au, hv, hz, fun H4 k4 e4 => ?_⟩
      refine fin H4 ?_ k4 _ qq
      have b4 : But d (upd H2 t2 (.tup [.ref pa, .ref pt])) H4 := fun b o nb e => by rw [e4 b nb]; exact e
      exact ((But.of_same s1).trans b2).trans ((But.of_same s3).trans b4)
    · exact fin _ (But.of_same s1) k1 _ qq
end
end K35
set_option Elab.async false
set_option linter.all false
set_option maxRecDepth 100000
set_option maxHeartbeats 4000000
namespace K35
open PySem PySem.Spec PyProof.Rows L2
open He (ga ma)
section
variable {P : Program} {w : World} {K : PySem.W.Frag} {mg : Str → Option Value} {base : Heap} {ops : Ops} {l0 r0 : T} {H H' : Hp} {g pa pt d : Addr} {vl vu : V} {l u : T} {p q : List Nat}
theorem RIn.dl (c : Cst ops l0 r0) (R : RIn P w K ops l0 r0 H g pa pt d vl vu l u p q) : l.depth ≤ 16 ∧ p.length ≤ 16 := by
  have h1 := at_len _ _ _ R.al
  have h2 := c.d1
  omega
theorem RIn.du (c : Cst ops l0 r0) (R : RIn P w K ops l0 r0 H g pa pt d vl vu l u p q) : u.depth ≤ 16 ∧ q.length ≤ 16 := by
  have h1 := at_len _ _ _ R.au
  have h2 := c.d2
  omega
theorem len3 (c : Cst ops l0 r0) {f : Str} {as : List T} (w : Wf ops (.app f as)) : as.length ≤ 3 := c.ar _ w.args.1
/-- the k-th argument of the left term -/
theorem RIn.argL {f : Str} {as : List T} (R : RIn P w K ops l0 r0 H g pa pt d vl vu (.app f as) u p q) {k : Nat} {t : T} {v : V} {b : Addr} (e : as[k]? = some t) (tv : TmAt H t v) (hb : PosT H b (p ++ [k + 1])) :
    RIn P w K ops l0 r0 H g b pt d v vu t u (p ++ [k + 1]) q :=
  ⟨R.S, tv, R.tu, R.wl.args.2 _ (List.mem_of_getElem? e), R.wu, hb, R.pu, at_one R.al e, R.au, R.kn⟩
theorem RIn.argR {f : Str} {bs : List T} (R : RIn P w K ops l0 r0 H g pa pt d vl vu l (.app f bs) p q) {k : Nat} {t : T} {v : V} {b : Addr} (e : bs[k]? = some t) (tv : TmAt H t v) (hb : PosT H b (q ++ [k + 1])) :
    RIn P w K ops l0 r0 H g pa b d vl v l t p (q ++ [k + 1]) :=
  ⟨R.S, R.tl, tv, R.wl, R.wu.args.2 _ (List.mem_of_getElem? e), R.pl, hb, R.al, at_one R.au e, R.kn⟩
/-! ### argument_reason -/
abbrev n_argument_reason : List Str := ["signature", "left", "right", "at", "to", "known", "k", "inner"]
theorem sc_argument_reason : FnScope n_argument_reason ["signature", "left", "right", "at", "to", "known"] (defScope s_argument_reason) := ⟨rfl, rfl, rfl, by decide +kernel, rfl, by decide +kernel, by decide +kernel⟩
theorem ok_argument_reason (T : Env0K K mg) (c : Cst ops l0 r0) {m n : Nat} (G_path_reason : FnOk P w K mg base CX0 m (ga K "path_reason") T.fd_path_reason ["signature", "left", "right", "at", "to", "known"] (spPath P w K ops l0 r0 n)) :
    FnOk P w K mg base CX0 (m + 1) (ga K "argument_reason") T.fd_argument_reason ["signature", "left", "right", "at", "to", "known"] (spArg P w K ops l0 r0 (n + 1)) := by
  refine T.F_argument_reason.ok sc_argument_reason (fun vs H Q E h => ?_) (fun cdv A outer s H vs Q E hr h => ?_)
  · obtain ⟨g, pa, pt, d, vl, vu, f, as, u, p, q, rfl, _⟩ := h
    rfl
  · obtain ⟨g, pa, pt, d, vl, vu, f, as, u, p, q, rfl, R, hn, qq⟩ := h
    refine ⟨_, PSs.nox (pss_cons (ps_for PassesOwn.never rfl (pi_range2 (by rfl) T.f_range (pa_cons pe_int (pa_cons (pe_callB call_len_seq (by rfl) T.f_len bt_len (pa_cons (pv 1) pa_nil)) pa_nil))) (pg_name (i := 6) sc_argument_reason.nd rfl (Or.inl rfl))
        (pss_cons (ps_if (pt_cmpR (op_eqD hr.units) (pe_ix ix_tup (pv 1) (pv 6) (fun _ _ => rfl)) (pv 2) (nomark _))
          (pss_one (ps_ret (pe_tup (pa_cons pe_str (pa_cons (pv 6) (pa_cons pe_non pa_nil))))))
          pss_nil)
        (pss_cons (ps_set (i := 7) sc_argument_reason.nd rfl (Or.inl rfl) (pe_call G_path_reason (hr.mono (by omega)) (by rfl) T.g_path_reason T.F_path_reason.kp T.b_path_reason .nil pass0 (pa_cons (pv 0) (pa_cons (pe_ix ix_tup (pv 1) (pv 6) (fun _ _ => rfl)) (pa_cons (pv 2) (pa_cons (pe_op op_catA (pv 3) (pe_tup (pa_cons (pv 6) pa_nil))) (pa_cons (pv 4) (pa_cons (pv 5) pa_nil))))))))
        (pss_one (ps_if (pt_cmpR op_notN (pv 7) pe_non (nomark _))
          (pss_one (ps_ret (pe_tup (pa_cons pe_str (pa_cons (pv 6) (pa_cons (pv 7) pa_nil))))))
          pss_nil)))))
      (pss_one (ps_ret pe_non))), ?_⟩
    obtain ⟨a, ws, e, ha, hl, hk⟩ := R.tl.inv
    subst e
    have l3 := len3 c R.wl
    have dl := (R.dl c).1
    have pl := (R.dl c).2
    have du := (R.du c).1
    have z3 : (3 : Nat) ≤ sizeLine := by decide
    refine ⟨_, rfl, a, _, rfl, .inr (.of ha), 1, _, rfl, ⟨by decide, by decide, by omega, ?_⟩, ?_⟩
    · simp only [List.length_cons]; omega
    have en : ((((V.str f :: ws).length : Nat) : Int) - 1).toNat = as.length := by simp only [List.length_cons]; omega
    rw [en]
    refine for_range (lo := 1) (n := as.length) (fun i σ H2 => ∃ y z, σ = [some (.ref g), some (.ref a), some vu, some (.ref pa), some (.ref pt), some (.ref d), y, z] ∧ But d H H2 ∧ KnOk P w (rk ops) l0 r0 [] H2 d ∧ ∀ x ∈ as.take i, x ≠ u ∧ ¬ Gt (rk ops) x u)
      ⟨none, none, rfl, But.refl _ _, R.kn, fun x hx => by simp at hx⟩ ?_ ?_
    · rintro i σ H2 hi ⟨y, z, rfl, b2, k2, hno⟩
      have R2 := R.mono b2 k2
      have kx2 := b2.kx R.kn
      have ha2 : H2 a = some (.tup (.str f :: ws)) := kx2.kt _ _ ha
      have h1 : as[i]? = some as[i] := List.getElem?_eq_getElem hi
      obtain ⟨va, ea, tva⟩ := TmAt.get hl hk h1
      have tv2 := tva.kt kx2.kt
      have hm : as[i] ∈ as := List.getElem_mem hi
      have hd := depth_mem hm
      have hdl : (Tm.app f as).depth = 1 + depthL as := by simp only [Tm.depth]
      have wf1 := R.wl.args.2 _ hm
      refine ⟨_, rfl, _, rfl, a, _, _, va, rfl, rfl, .of ha2, atS ea, _, rfl, _, _, tv2.dp, R2.tu.dp, dat_shaped c.ho wf1 (by omega), dat_shaped c.ho R.wu (by omega), _, rfl, ?_⟩
      refine ite2 (fun he => ?_) (fun he => ?_)
      · have e := (eqv_dat _ _).mp he
        refine ⟨_, rfl, z3, fun x hx => qq _ _ ⟨fun _ => ⟨_, hm, .inl e⟩, fun _ z => nomatch z⟩ ?_ (b2.trans (But.of_same (same_upd hx)))⟩
        exact k2.kt (kt_same (same_upd hx)) (by obtain ⟨φ, h⟩ := k2.ext; exact upd_ne (ne_of_none h hx))
      · have hne : as[i] ≠ u := fun z => he ((eqv_dat _ _).mpr z)
        refine ⟨_, rfl, _, rfl, _, rfl, a, _, _, va, rfl, rfl, .of ha2, atS ea, _, rfl, rd_catpos rfl rfl (show (1 : Int) + (i : Int) = ((i + 1 : Nat) : Int) by omega) R2.pl (by omega) (fun b H3 s3 hb => ⟨_, rfl, _, rfl, ?_⟩)⟩
        have R3 := (R2.same s3).argL h1 (tv2.kt (kt_same s3)) hb
        refine ⟨g, b, pt, d, va, vu, as[i], u, _, q, rfl, R3, by omega, fun v H4 hv k4 b4 => ?_⟩
        have b4' : But d H H4 := (b2.trans (But.of_same s3)).trans b4
        refine ⟨_, rfl, rfl, _, rfl, ?_⟩
        by_cases hvn : v = .non
        · subst hvn
          refine iteF ?_
          have hng : ¬ Gt (rk ops) as[i] u := fun z => (hv.mpr z) rfl
          refine ⟨_, _, rfl, b4', k4, fun x hx => ?_⟩
          rw [List.take_add_one, h1] at hx
          rcases List.mem_append.mp hx with hx | hx
          · exact hno x hx
          · have e : x = as[i] := by simpa using hx
            subst e
            exact ⟨hne, hng⟩
        · rw [decide_eq_false hvn]
          refine iteT ?_
          refine ⟨_, rfl, _, rfl, z3, fun x hx => qq _ _ ⟨fun _ => ⟨_, hm, .inr (hv.mp hvn)⟩, fun _ z => nomatch z⟩ ?_ (b4'.trans (But.of_same (same_upd hx)))⟩
          exact k4.kt (kt_same (same_upd hx)) (by obtain ⟨φ, h⟩ := k4.ext; exact upd_ne (ne_of_none h hx))
    · rintro σ H2 ⟨y, z, rfl, b2, k2, hno⟩
      refine qq _ _ ⟨fun z => absurd rfl z, fun ⟨x, hx, h⟩ => ?_⟩ k2 b2
      rw [List.take_length] at hno
      rcases h with h | h
      · exact absurd h (hno x hx).1
      · exact absurd h (hno x hx).2
/-! ### later_reasons -/
abbrev n_later_reasons : List Str := ["signature", "left", "right", "start", "at", "to", "known", "reasons", "k", "inner"]
theorem sc_later_reasons : FnScope n_later_reasons ["signature", "left", "right", "start", "at", "to", "known"] (defScope s_later_reasons) := ⟨rfl, rfl, rfl, by decide +kernel, rfl, by decide +kernel, by decide +kernel⟩
theorem ok_later_reasons (T : Env0K K mg) (c : Cst ops l0 r0) {m n : Nat} (G_path_reason : FnOk P w K mg base CX0 m (ga K "path_reason") T.fd_path_reason ["signature", "left", "right", "at", "to", "known"] (spPath P w K ops l0 r0 n)) :
    FnOk P w K mg base CX0 (m + 1) (ga K "later_reasons") T.fd_later_reasons ["signature", "left", "right", "start", "at", "to", "known"] (spLater P w K ops l0 r0 (n + 1)) := by
  refine T.F_later_reasons.ok sc_later_reasons (fun vs H Q E h => ?_) (fun cdv A outer s H vs Q E hr h => ?_)
  · obtain ⟨g, pa, pt, d, vl, vu, l, f, bs, j, p, q, rfl, _⟩ := h
    rfl
  · obtain ⟨g, pa, pt, d, vl, vu, l, f, bs, j, p, q, rfl, R, hn, hj, qq⟩ := h
    refine ⟨_, PSs.nox (pss_cons (ps_set (i := 7) sc_later_reasons.nd rfl (Or.inl rfl) (pe_lst pa_nil))
      (pss_cons (ps_for PassesOwn.never rfl (pi_range2 (by rfl) T.f_range (pa_cons (pv 3) (pa_cons (pe_callB call_len_seq (by rfl) T.f_len bt_len (pa_cons (pv 2) pa_nil)) pa_nil))) (pg_name (i := 8) sc_later_reasons.nd rfl (Or.inl rfl))
        (pss_cons (ps_set (i := 9) sc_later_reasons.nd rfl (Or.inl rfl) (pe_call G_path_reason (hr.mono (by omega)) (by rfl) T.g_path_reason T.F_path_reason.kp T.b_path_reason .nil pass0 (pa_cons (pv 0) (pa_cons (pv 1) (pa_cons (pe_ix ix_tup (pv 2) (pv 8) (fun _ _ => rfl)) (pa_cons (pv 4) (pa_cons (pe_op op_catA (pv 5) (pe_tup (pa_cons (pv 8) pa_nil))) (pa_cons (pv 6) pa_nil))))))))
        (pss_cons (ps_if (pt_cmpR op_isN (pv 9) pe_non (nomark _))
          (pss_one (ps_ret pe_non))
          pss_nil)
        (pss_one (ps_expr (pe_bm PySem.F.plainAttrs_list PySem.F.slot_list_append PySem.F.type_list_append mt_append (pv 7) (pa_cons (pv 9) pa_nil)))))))
      (pss_one (ps_ret (pe_callTy call_tuple_of (by rfl) T.f_tuple bt_tuple (pa_cons (pv 7) pa_nil)))))), ?_⟩
    obtain ⟨a, ws, e, ha, hl, hk⟩ := R.tu.inv
    subst e
    have l3 := len3 c R.wu
    have du := (R.du c).1
    have ql := (R.du c).2
    refine ⟨Nat.zero_le _, fun x hx => ?_⟩
    have s1 : Same H (upd H x (.lst [])) := same_upd hx
    have R1 := R.new (o := .lst []) hx
    refine ⟨_, rfl, _, rfl, a, _, rfl, .inr (.of (s1 _ _ ha)), _, _, rfl, ⟨by omega, by omega, by omega, ?_⟩, ?_⟩
    · simp only [List.length_cons]; omega
    have en : ((((V.str f :: ws).length : Nat) : Int) - ((j + 1 : Nat) : Int)).toNat = (bs.drop j).length := by simp only [List.length_cons, List.length_drop]; omega
    rw [en]
    refine for_range (lo := ((j + 1 : Nat) : Int)) (n := (bs.drop j).length) (fun i σ H2 => ∃ y z acc, σ = [some (.ref g), some vl, some (.ref a), some (.int ((j + 1 : Nat) : Int)), some (.ref pa), some (.ref pt), some (.ref d), some (.ref x), y, z] ∧ But d H H2 ∧ KnOk P w (rk ops) l0 r0 [] H2 d ∧ H2 x = some (.lst acc) ∧ acc.length = i ∧ ∀ c ∈ (bs.drop j).take i, Gt (rk ops) l c)
      ⟨none, none, [], rfl, But.of_same s1, R1.kn, upd_same, rfl, fun x hx => by simp at hx⟩ ?_ ?_
    · rintro i σ H2 hi ⟨y, z, acc, rfl, b2, k2, hx2, hacc, hall⟩
      have hxd : x ≠ d := by
        obtain ⟨φ, h⟩ := k2.ext
        exact ne_of hx2 h (by intro z; cases z)
      have R2 := R.mono b2 k2
      have kx2 := b2.kx R.kn
      have ha2 : H2 a = some (.tup (.str f :: ws)) := kx2.kt _ _ ha
      have hij : j + i < bs.length := by rw [List.length_drop] at hi; omega
      have h1 : bs[j + i]? = some bs[j + i] := List.getElem?_eq_getElem hij
      have h1' : (bs.drop j)[i]? = some bs[j + i] := by rw [List.getElem?_drop]; exact h1
      obtain ⟨va, ea, tva⟩ := TmAt.get hl hk h1
      have tv2 := tva.kt kx2.kt
      have hm : bs[j + i] ∈ bs := List.getElem_mem hij
      have hd := depth_mem hm
      have hdl : (Tm.app f bs).depth = 1 + depthL bs := by simp only [Tm.depth]
      have ez : ((j + 1 : Nat) : Int) + (i : Int) = 1 + ((j + i : Nat) : Int) := by omega
      refine ⟨_, rfl, _, rfl, _, rfl, _, rfl, a, _, _, va, rfl, rfl, .of ha2, (by rw [ez]; exact atS ea), _, rfl, rd_catpos rfl rfl (show ((j + 1 : Nat) : Int) + (i : Int) = ((j + i + 1 : Nat) : Int) by omega) R2.pu (by omega) (fun b H3 s3 hb => ⟨_, rfl, ?_⟩)⟩
      have R3 := (R2.same s3).argR h1 (tv2.kt (kt_same s3)) hb
      refine ⟨g, pa, b, d, vl, va, l, bs[j + i], p, _, rfl, R3, by omega, fun v H4 hv k4 b4 => ?_⟩
      have b4' : But d H H4 := (b2.trans (But.of_same s3)).trans b4
      have hx4 : H4 x = some (.lst acc) := b4 _ _ hxd (s3 _ _ hx2)
      refine ⟨_, rfl, rfl, _, rfl, ?_⟩
      by_cases hvn : v = .non
      · subst hvn
        refine iteT ?_
        have hng : ¬ Gt (rk ops) l bs[j + i] := fun z => (hv.mpr z) rfl
        exact qq _ _ ⟨fun z => absurd rfl z, fun z => absurd (z _ (List.mem_of_getElem? h1')) hng⟩ k4 b4'
      · rw [decide_eq_false hvn]
        refine iteF ?_
        have hsl := sizeLine_eq
        rw [List.length_drop] at hi
        refine ⟨_, rfl, Or.inl ⟨rfl, _, Or.inl (Or.inl hx4)⟩, _, rfl, x, _, _, rfl, rfl, hx4, by omega, ?_⟩
        refine ⟨_, _, acc ++ [v], rfl, But.same_new b4' hx, ?_, upd_same, by rw [List.length_append]; simp only [List.length_singleton]; omega, fun x' hx' => ?_⟩
        · refine k4.kt (fun b xs e => ?_) (upd_ne hxd.symm)
          rw [upd_ne (ne_of e hx4 (by intro z; cases z))]
          exact e
        · rw [List.take_add_one, h1'] at hx'
          rcases List.mem_append.mp hx' with hx' | hx'
          · exact hall x' hx'
          · have e : x' = bs[j + i] := by simpa using hx'
            subst e
            exact hv.mp hvn
    · rintro σ H2 ⟨y, z, acc, rfl, b2, k2, hx2, hacc, hall⟩
      rw [List.take_length] at hall
      refine ⟨_, rfl, x, _, rfl, .inl ⟨.of hx2, fun t ht => ?_⟩⟩
      refine qq _ _ ⟨fun _ => hall, fun _ z => nomatch z⟩ ?_ (b2.trans (But.of_same (same_upd ht)))
      exact k2.kt (kt_same (same_upd ht)) (by obtain ⟨φ, h⟩ := k2.ext; exact upd_ne (ne_of_none h ht))
/-! ### lexical_reason -/
abbrev n_lexical_reason : List Str := ["signature", "left", "right", "at", "to", "known", "k", "inner", "reasons"]
theorem sc_lexical_reason : FnScope n_lexical_reason ["signature", "left", "right", "at", "to", "known"] (defScope s_lexical_reason) := ⟨rfl, rfl, rfl, by decide +kernel, rfl, by decide +kernel, by decide +kernel⟩
theorem ok_lexical_reason (T : Env0K K mg) (c : Cst ops l0 r0) {m n : Nat} (hm1 : 1 ≤ m) (G_path_reason : FnOk P w K mg base CX0 m (ga K "path_reason") T.fd_path_reason ["signature", "left", "right", "at", "to", "known"] (spPath P w K ops l0 r0 n))
    (G_later_reasons : FnOk P w K mg base CX0 (m + 1) (ga K "later_reasons") T.fd_later_reasons ["signature", "left", "right", "start", "at", "to", "known"] (spLater P w K ops l0 r0 (n + 1))) :
    FnOk P w K mg base CX0 (m + 2) (ga K "lexical_reason") T.fd_lexical_reason ["signature", "left", "right", "at", "to", "known"] (spLex P w K ops l0 r0 (n + 1)) := by
  have G_first_difference := ok_first_difference (P := P) (w := w) (base := base) T ops
  refine T.F_lexical_reason.ok sc_lexical_reason (fun vs H Q E h => ?_) (fun cdv A outer s H vs Q E hr h => ?_)
  · obtain ⟨g, pa, pt, d, vl, vu, f, as, bs, p, q, rfl, _⟩ := h
    rfl
  · obtain ⟨g, pa, pt, d, vl, vu, f, as, bs, p, q, rfl, R, hn, hna, qq⟩ := h
    refine ⟨_, PSs.nox (pss_cons (ps_set (i := 6) sc_lexical_reason.nd rfl (Or.inl rfl) (pe_call G_first_difference (hr.mono (by omega)) (by rfl) T.g_first_difference T.F_first_difference.kp T.b_first_difference .nil pass0 (pa_cons (pv 1) (pa_cons (pv 2) pa_nil))))
      (pss_cons (ps_if (pt_cmpR op_eq (pv 6) pe_int (nomark _))
        (pss_one (ps_ret pe_non))
        pss_nil)
      (pss_cons (ps_set (i := 7) sc_lexical_reason.nd rfl (Or.inl rfl) (pe_call G_path_reason (hr.mono (by omega)) (by rfl) T.g_path_reason T.F_path_reason.kp T.b_path_reason .nil pass0 (pa_cons (pv 0) (pa_cons (pe_ix ix_tup (pv 1) (pv 6) (fun _ _ => rfl)) (pa_cons (pe_ix ix_tup (pv 2) (pv 6) (fun _ _ => rfl)) (pa_cons (pe_op op_catA (pv 3) (pe_tup (pa_cons (pv 6) pa_nil))) (pa_cons (pe_op op_catA (pv 4) (pe_tup (pa_cons (pv 6) pa_nil))) (pa_cons (pv 5) pa_nil))))))))
      (pss_cons (ps_if (pt_cmpR op_isN (pv 7) pe_non (nomark _))
        (pss_one (ps_ret pe_non))
        pss_nil)
      (pss_cons (ps_set (i := 8) sc_lexical_reason.nd rfl (Or.inl rfl) (pe_call G_later_reasons (hr.mono (by omega)) (by rfl) T.g_later_reasons T.F_later_reasons.kp T.b_later_reasons .nil pass0 (pa_cons (pv 0) (pa_cons (pv 1) (pa_cons (pv 2) (pa_cons (pe_op op_add (pv 6) pe_int) (pa_cons (pv 3) (pa_cons (pv 4) (pa_cons (pv 5) pa_nil)))))))))
      (pss_cons (ps_if (pt_cmpR op_isN (pv 8) pe_non (nomark _))
        (pss_one (ps_ret pe_non))
        pss_nil)
      (pss_one (ps_ret (pe_tup (pa_cons pe_str (pa_cons (pv 6) (pa_cons (pv 7) (pa_cons (pv 8) pa_nil))))))))))))), ?_⟩
    obtain ⟨a, ws, e, ha, hl, hk⟩ := R.tl.inv
    subst e
    obtain ⟨b, us, e, hb, hl', hk'⟩ := R.tu.inv
    subst e
    have l3 := len3 c R.wl
    have dl := R.dl c
    have du := R.du c
    have hlen : as.length = bs.length := c.fn _ R.wl.args.1 _ R.wu.args.1 rfl
    have hdl : (Tm.app f as).depth = 1 + depthL as := by simp only [Tm.depth]
    have hdu : (Tm.app f bs).depth = 1 + depthL bs := by simp only [Tm.depth]
    refine ⟨_, rfl, _, rfl, a, b, f, f, as, bs, rfl, R.tl, R.tu, hlen, by omega, c.ho, fun t ht => ⟨R.wl.args.2 t ht, by have := depth_mem ht; omega⟩, fun t ht => ⟨R.wu.args.2 t ht, by have := depth_mem ht; omega⟩, fun e => ?_, fun k t t' e1 e2 et hne => ?_⟩
    · -- no difference
      refine ⟨_, rfl, rfl, _, rfl, ?_⟩
      refine iteT ?_
      refine qq _ _ ⟨fun z => absurd rfl z, fun z => ?_⟩ R.kn (But.refl _ _)
      rw [e] at z
      exact absurd z (Gt.irrefl _)
    · have hk0 : ¬ (V.int ((k + 1 : Nat) : Int) = V.int 0) := fun z => by injection z with z; omega
      refine ⟨_, rfl, rfl, _, rfl, ?_⟩
      rw [decide_eq_false hk0]
      refine iteF ?_
      obtain ⟨va, ea, tva⟩ := TmAt.get hl hk e1
      obtain ⟨vb, eb, tvb⟩ := TmAt.get hl' hk' e2
      have m1 : t ∈ as := List.mem_of_getElem? e1
      have m2 : t' ∈ bs := List.mem_of_getElem? e2
      have d1 := depth_mem m1
      have d2 := depth_mem m2
      have ez : ((k + 1 : Nat) : Int) = 1 + (k : Int) := by omega
      refine ⟨_, rfl, _, rfl, _, rfl, a, _, _, va, rfl, rfl, .of ha, (by rw [ez]; exact atS ea), _, rfl, _, rfl, b, _, _, vb, rfl, rfl, .of hb, (by rw [ez]; exact atS eb), rd_catpos rfl rfl rfl R.pl (by omega) (fun pa' H1 s1 hpa => rd_catpos rfl rfl rfl (R.same s1).pu (by omega) (fun pt' H2 s2 hpt => ⟨_, rfl, ?_⟩))⟩
      have s12 := s1.trans s2
      have R2 := ((R.same s12).argL e1 (tva.kt (kt_same s12)) (hpa.kt (kt_same s2))).argR e2 (tvb.kt (kt_same s12)) hpt
      refine ⟨g, pa', pt', d, va, vb, t, t', _, _, rfl, R2, by omega, fun v H3 hv k3 b3 => ?_⟩
      have b3' : But d H H3 := (But.of_same s12).trans b3
      have R3 := R.mono b3' k3
      have hgt := gt_lex (r := rk ops) hna e1 e2 et hne
      refine ⟨_, rfl, rfl, _, rfl, ?_⟩
      by_cases hvn : v = .non
      · subst hvn
        refine iteT ?_
        exact qq _ _ ⟨fun z => absurd rfl z, fun z => absurd rfl (hv.mpr (hgt.mp z).1)⟩ k3 b3'
      · rw [decide_eq_false hvn]
        refine iteF ?_
        refine ⟨_, rfl, _, rfl, _, rfl, _, rfl, _, _, rfl, rfl, _, rfl, _, rfl, _, rfl, g, pa, pt, d, .ref a, .ref b, .app f as, f, bs, k + 1, p, q, ?_, R3, hn, ?_, fun v2 H4 hv2 k4 b4 => ?_⟩
        · rw [show ((k + 1 + 1 : Nat) : Int) = ((k + 1 : Nat) : Int) + 1 by omega]
          rfl
        · have := (List.getElem?_eq_some_iff.mp e2).1
          omega
        have b4' : But d H H4 := b3'.trans b4
        refine ⟨_, rfl, rfl, _, rfl, ?_⟩
        by_cases hvn2 : v2 = .non
        · subst hvn2
          refine iteT ?_
          exact qq _ _ ⟨fun z => absurd rfl z, fun z => absurd rfl (hv2.mpr (hgt.mp z).2)⟩ k4 b4'
        · rw [decide_eq_false hvn2]
          refine iteF ?_
          refine ⟨_, rfl, _, rfl, _, rfl, by show 4 ≤ sizeLine; decide, fun x hx => ?_⟩
          refine qq _ _ ⟨fun _ => hgt.mpr ⟨hv.mp hvn, hv2.mp hvn2⟩, fun _ z => nomatch z⟩ ?_ (b4'.trans (But.of_same (same_upd hx)))
          exact k4.kt (kt_same (same_upd hx)) (by obtain ⟨φ, h⟩ := k4.ext; exact upd_ne (ne_of_none h hx))
end
end K35
set_option Elab.async false
set_option linter.all false
set_option maxRecDepth 100000
set_option maxHeartbeats 4000000
namespace K35
open PySem PySem.Spec PyProof.Rows L2
open He (ga ma)
section
variable {P : Program} {w : World} {K : PySem.W.Frag} {mg : Str → Option Value} {base : Heap} {ops : Ops} {l0 r0 : T}
abbrev n_find_reason : List Str := ["signature", "left", "right", "at", "to", "known", "found", "left_rank", "right_rank", "reasons"]
theorem sc_find_reason : FnScope n_find_reason ["signature", "left", "right", "at", "to", "known"] (defScope s_find_reason) := ⟨rfl, rfl, rfl, by decide +kernel, rfl, by decide +kernel, by decide +kernel⟩
theorem ok_find_reason (T : Env0K K mg) (c : Cst ops l0 r0) {m n : Nat} (hm : 17 ≤ m)
    (G_argument_reason : FnOk P w K mg base CX0 (m + 1) (ga K "argument_reason") T.fd_argument_reason ["signature", "left", "right", "at", "to", "known"] (spArg P w K ops l0 r0 (n + 1)))
    (G_later_reasons : FnOk P w K mg base CX0 (m + 1) (ga K "later_reasons") T.fd_later_reasons ["signature", "left", "right", "start", "at", "to", "known"] (spLater P w K ops l0 r0 (n + 1)))
    (G_lexical_reason : FnOk P w K mg base CX0 (m + 2) (ga K "lexical_reason") T.fd_lexical_reason ["signature", "left", "right", "at", "to", "known"] (spLex P w K ops l0 r0 (n + 1))) :
    FnOk P w K mg base CX0 (m + 3) (ga K "find_reason") T.fd_find_reason ["signature", "left", "right", "at", "to", "known"] (spPath P w K ops l0 r0 (n + 1)) := by
  have G_occurs := ok_occurs (P := P) (w := w) (base := base) T 16
  have G_sg_rank := ok_sg_rank (P := P) (w := w) (base := base) T ops
  refine T.F_find_reason.ok sc_find_reason (fun vs H Q E h => ?_) (fun cdv A outer s H vs Q E hr h => ?_)
  · obtain ⟨g, pa, pt, d, vl, vu, l, u, p, q, rfl, _⟩ := h
    rfl
  · obtain ⟨g, pa, pt, d, vl, vu, l, u, p, q, rfl, R, hn, qq⟩ := h
    refine ⟨_, PSs.nox (pss_cons (ps_if (pt_val (pe_callB call_isi (by rfl) T.f_isinstance bt_isinstance (pa_cons (pv 1) (pa_cons (pe_bltn (v := .ty "int") (by rfl) T.f_int bt_int rfl) pa_nil))))
        (pss_one (ps_ret pe_non))
        pss_nil)
      (pss_cons (ps_if (pt_val (pe_callB call_isi (by rfl) T.f_isinstance bt_isinstance (pa_cons (pv 2) (pa_cons (pe_bltn (v := .ty "int") (by rfl) T.f_int bt_int rfl) pa_nil))))
        (pss_cons (ps_if (pt_val (pe_call G_occurs (hr.mono (by omega)) (by rfl) T.g_occurs T.F_occurs.kp T.b_occurs .nil pass0 (pa_cons (pv 2) (pa_cons (pv 1) pa_nil))))
          (pss_one (ps_ret (pe_tup (pa_cons pe_str pa_nil))))
          pss_nil)
        (pss_one (ps_ret pe_non)))
        pss_nil)
      (pss_cons (ps_set (i := 6) sc_find_reason.nd rfl (Or.inl rfl) (pe_call G_argument_reason (hr.mono (by omega)) (by rfl) T.g_argument_reason T.F_argument_reason.kp T.b_argument_reason .nil pass0 (pa_cons (pv 0) (pa_cons (pv 1) (pa_cons (pv 2) (pa_cons (pv 3) (pa_cons (pv 4) (pa_cons (pv 5) pa_nil))))))))
      (pss_cons (ps_if (pt_cmpR op_notN (pv 6) pe_non (nomark _))
        (pss_one (ps_ret (pv 6)))
        pss_nil)
      (pss_cons (ps_set (i := 7) sc_find_reason.nd rfl (Or.inl rfl) (pe_meth (pv 0) T.cl_Signature T.m_rank G_sg_rank (hr.mono (by omega)) T.b_sg_rank .nil pass0 (pa_cons (pe_ix ix_tup (pv 1) pe_int (fun _ _ => rfl)) pa_nil)))
      (pss_cons (ps_set (i := 8) sc_find_reason.nd rfl (Or.inl rfl) (pe_meth (pv 0) T.cl_Signature T.m_rank G_sg_rank (hr.mono (by omega)) T.b_sg_rank .nil pass0 (pa_cons (pe_ix ix_tup (pv 2) pe_int (fun _ _ => rfl)) pa_nil)))
      (pss_cons (ps_if (pt_cmpR op_lt (pv 7) (pv 8) (nomark _))
        (pss_one (ps_ret pe_non))
        pss_nil)
      (pss_cons (ps_if (pt_cmpR op_eq (pv 7) (pv 8) (nomark _))
        (pss_one (ps_ret (pe_call G_lexical_reason (hr.mono (by omega)) (by rfl) T.g_lexical_reason T.F_lexical_reason.kp T.b_lexical_reason .nil pass0 (pa_cons (pv 0) (pa_cons (pv 1) (pa_cons (pv 2) (pa_cons (pv 3) (pa_cons (pv 4) (pa_cons (pv 5) pa_nil)))))))))
        pss_nil)
      (pss_cons (ps_set (i := 9) sc_find_reason.nd rfl (Or.inl rfl) (pe_call G_later_reasons (hr.mono (by omega)) (by rfl) T.g_later_reasons T.F_later_reasons.kp T.b_later_reasons .nil pass0 (pa_cons (pv 0) (pa_cons (pv 1) (pa_cons (pv 2) (pa_cons pe_int (pa_cons (pv 3) (pa_cons (pv 4) (pa_cons (pv 5) pa_nil)))))))))
      (pss_cons (ps_if (pt_cmpR op_isN (pv 9) pe_non (nomark _))
        (pss_one (ps_ret pe_non))
        pss_nil)
      (pss_one (ps_ret (pe_tup (pa_cons pe_str (pa_cons (pv 9) pa_nil))))))))))))))), ?_⟩
    obtain ⟨ty1, h1, h2⟩ := R.tl.isI.ty (K := K)
    refine ⟨_, rfl, _, _, _, _, _, rfl, .ty "int", h1, h2, _, rfl, ?_⟩
    cases l with
    | var i =>
      refine iteT ?_
      exact qq _ _ ⟨fun z => absurd rfl z, fun z => by obtain ⟨_, _, e⟩ := z.isApp; cases e⟩ R.kn (But.refl _ _)
    | app f as =>
      refine iteF ?_
      obtain ⟨ty2, h3, h4⟩ := R.tu.isI.ty (K := K)
      refine ⟨_, rfl, _, _, _, _, _, rfl, .ty "int", h3, h4, _, rfl, ?_⟩
      have dl := R.dl c
      cases u with
      | var x =>
        refine iteT ?_
        have hvu := R.tu
        cases hvu
        have zl : (Tm.app f as).size ≤ 100000 := by
          have h5 := at_poss p l0 _ R.al
          have h6 := c.z1
          have key : ∀ (p : List Nat) (t u : K35.T), t.at p = some u → u.size ≤ t.size := by
            intro p
            induction p with
            | nil => intro t u h; rw [at_nil] at h; cases h; exact Nat.le_refl _
            | cons k p ih =>
              intro t u h
              cases t with
              | var i => simp [Tm.at] at h
              | app f as =>
                cases k with
                | zero => simp [Tm.at] at h
                | succ k =>
                  simp only [Tm.at] at h
                  cases e : as[k]? with
                  | none => rw [e] at h; cases h
                  | some a =>
                    rw [e] at h
                    have h1 := ih a u h
                    have h2 := size_mem (List.mem_of_getElem? e)
                    simp only [Tm.size]
                    omega
          have := key p l0 _ R.al
          omega
        refine ⟨_, rfl, _, rfl, vl, x, _, rfl, R.tl, dl.1, zl, fun b H1 hb s1 => ⟨_, rfl, ?_⟩⟩
        have R1 := R.same s1
        cases b with
        | true =>
          refine iteT ?_
          refine ⟨by show 1 ≤ sizeLine; decide, fun t ht => ?_⟩
          refine qq _ _ ⟨fun _ => Gt.var_iff.mpr (hb.mp rfl), fun _ z => nomatch z⟩ (R1.new ht).kn ((But.of_same s1).trans (But.of_same (same_upd ht)))
        | false =>
          refine iteF ?_
          refine qq _ _ ⟨fun z => absurd rfl z, fun z => ?_⟩ R1.kn (But.of_same s1)
          have := hb.mpr (Gt.var_iff.mp z)
          cases this
      | app h bs =>
        refine iteF ?_
        refine ⟨_, rfl, _, rfl, _, rfl, _, rfl, _, rfl, _, rfl, g, pa, pt, d, vl, vu, f, as, .app h bs, p, q, rfl, R, hn, fun v H1 hv k1 b1 => ?_⟩
        have R1 := R.mono b1 k1
        refine ⟨_, rfl, rfl, _, rfl, ?_⟩
        by_cases hvn : v = .non
        · subst hvn
          refine iteF ?_
          have hna : ∀ a ∈ as, a ≠ Tm.app h bs ∧ ¬ Gt (rk ops) a (.app h bs) := fun a ha =>
            ⟨fun z => (hv.mpr ⟨a, ha, .inl z⟩) rfl, fun z => (hv.mpr ⟨a, ha, .inr z⟩) rfl⟩
          obtain ⟨a, ws, ea, ha, hl, hk⟩ := R1.tl.inv
          subst ea
          obtain ⟨b, us, eb, hb, hl', hk'⟩ := R1.tu.inv
          subst eb
          have hf : f ∈ nms ops := List.mem_map.mpr ⟨_, R.wl.args.1, rfl⟩
          have hg : h ∈ nms ops := List.mem_map.mpr ⟨_, R.wu.args.1, rfl⟩
          obtain ⟨dx, lo, da, df, kvs, hS, _⟩ := R1.S.ex
          have noM : (sgF lo da df).lookup ("rank" : Str) = none := sgF_no _ _ _ (by decide +kernel) (by decide +kernel) (by decide +kernel)
          refine ⟨_, rfl, g, dx, _, rfl, hS, noM, _, rfl, a, _, 0, .str f, rfl, rfl, .of ha, at0 _ _, g, f, rfl, R1.S, hf, ?_⟩
          refine ⟨_, rfl, g, dx, _, rfl, hS, noM, _, rfl, b, _, 0, .str h, rfl, rfl, .of hb, at0 _ _, g, h, rfl, R1.S, hg, ?_⟩
          refine ⟨_, rfl, _, rfl, _, _, rfl, rfl, _, rfl, ?_⟩
          refine ite2 (fun hlt => ?_) (fun hlt => ?_)
          · have hlt' : rk ops f < rk ops h := by have := of_decide_eq_true hlt; omega
            exact qq _ _ ⟨fun z => absurd rfl z, fun z => absurd z (gt_lt hlt' hna)⟩ k1 b1
          · have hge : rk ops h ≤ rk ops f := by
              have : ¬ ((rk ops f : Nat) : Int) < ((rk ops h : Nat) : Int) := fun z => hlt (decide_eq_true z)
              omega
            refine ⟨_, rfl, _, rfl, rfl, _, rfl, ?_⟩
            by_cases heq : rk ops f = rk ops h
            · have e : f = h := rk_inj hf hg heq
              subst e
              rw [decide_eq_true rfl]
              refine iteT ?_
              refine ⟨_, rfl, _, rfl, _, rfl, _, rfl, _, rfl, _, rfl, g, pa, pt, d, .ref a, .ref b, f, as, bs, p, q, rfl, R1, hn, hna, fun v2 H2 hv2 k2 b2 => ?_⟩
              exact qq _ _ hv2 k2 (b1.trans b2)
            · rw [decide_eq_false (fun z => heq (by injection z with z; omega))]
              refine iteF ?_
              have hgn := gt_name (r := rk ops) (f := f) (g := h) (by omega) hna
              refine ⟨_, rfl, _, rfl, _, rfl, _, rfl, _, rfl, _, rfl, g, pa, pt, d, .ref a, .ref b, .app f as, h, bs, 0, p, q, rfl, R1, hn, Nat.zero_le _, fun v2 H2 hv2 k2 b2 => ?_⟩
              refine ⟨_, rfl, rfl, _, rfl, ?_⟩
              by_cases hvn2 : v2 = .non
              · subst hvn2
                refine iteT ?_
                exact qq _ _ ⟨fun z => absurd rfl z, fun z => absurd rfl (hv2.mpr (hgn.mp z))⟩ k2 (b1.trans b2)
              · rw [decide_eq_false hvn2]
                refine iteF ?_
                refine ⟨_, rfl, by show 2 ≤ sizeLine; decide, fun x hx => ?_⟩
                refine qq _ _ ⟨fun _ => hgn.mpr (hv2.mp hvn2), fun _ z => nomatch z⟩ ?_ ((b1.trans b2).trans (But.of_same (same_upd hx)))
                exact k2.kt (kt_same (same_upd hx)) (by obtain ⟨φ, h⟩ := k2.ext; exact upd_ne (ne_of_none h hx))
        · rw [decide_eq_false hvn]
          refine iteT ?_
          refine ⟨_, rfl, qq _ _ ⟨fun _ => ?_, fun _ => hvn⟩ k1 b1⟩
          obtain ⟨a, ha, h5⟩ := hv.mp hvn
          rcases h5 with h5 | h5
          · subst h5; exact .eq ha
          · exact .arg ha h5
/-- the whole recursion -/
theorem ok_path (T : Env0K K mg) (c : Cst ops l0 r0) : ∀ n : Nat, FnOk P w K mg base CX0 (20 + 4 * n) (ga K "path_reason") T.fd_path_reason ["signature", "left", "right", "at", "to", "known"] (spPath P w K ops l0 r0 n) := by
  intro n
  induction n with
  | zero =>
    refine (ok_path_reason (m := 19) (n := 0) T c ?_).mono (by omega)
    refine T.F_find_reason.ok (k := 18) sc_find_reason (fun vs H Q E h => ?_) (fun cdv A outer s H vs Q E hr h => ?_)
    · obtain ⟨g, pa, pt, d, vl, vu, l, u, p, q, rfl, _⟩ := h
      rfl
    · obtain ⟨g, pa, pt, d, vl, vu, l, u, p, q, rfl, R, hn, qq⟩ := h
      have := depth_pos l
      omega
  | succ n ih =>
    have a1 := ok_argument_reason T c ih
    have a2 := ok_later_reasons T c ih
    have a3 := ok_lexical_reason T c (by omega) ih a2
    have a4 := ok_find_reason T c (by omega) a1 a2 a3
    exact (ok_path_reason T c a4).mono (by omega)
end
end K35
set_option Elab.async false
set_option linter.all false
set_option maxRecDepth 100000
set_option maxHeartbeats 4000000
namespace K35
open PySem PySem.Spec PyProof.Rows L2
open He (ga ma)
section
variable {P : Program} {w : World} {K : PySem.W.Frag} {mg : Str → Option Value} {base : Heap} {ops : Ops}
/-! ### the order object -/
def ordF (g : Addr) : List (Str × V) := putF "_signature" (.ref g) []
theorem ordF_sig (g : Addr) : (ordF g).lookup ("_signature" : Str) = some (.ref g) := by
  unfold ordF
  rw [lookup_putF, if_pos rfl]
theorem ordF_no (g : Addr) {m : Str} (h1 : ¬ m = "_signature") : (ordF g).lookup m = none := by
  unfold ordF
  rw [lookup_putF, if_neg h1]
  rfl
def OrdAt (K : PySem.W.Frag) (H : Hp) (o g : Addr) : Prop := ∃ dx, H o = some (.ins (ga K "PathOrder") dx (ordF g))
theorem OrdAt.kx {H H' : Hp} {o g : Addr} (h : OrdAt K H o g) (k : Kx H H') : OrdAt K H' o g := by
  obtain ⟨dx, h⟩ := h
  exact ⟨dx, k _ _ h (by intro φ z; cases z)⟩
def spPoInit (K : PySem.W.Frag) : Sp := fun vs H Q _ => ∃ (o dx g : Addr), vs = [.ref o, .ref g] ∧ H o = some (.ins (ga K "PathOrder") dx []) ∧ ∀ H', OrdAt K H' o g → But o H H' → Q .non H'
abbrev n_po_init : List Str := ["self", "signature"]
theorem sc_po_init : FnScope n_po_init ["self", "signature"] (defScope s_po_init) := ⟨rfl, rfl, rfl, by decide +kernel, rfl, by decide +kernel, by decide +kernel⟩
theorem ok_po_init (T : Env0K K mg) : FnOk P w K mg base CX0 1 (ma K (ga K "PathOrder") "__init__") T.fd_po_init ["self", "signature"] (spPoInit K) := by
  refine T.F_po_init.ok sc_po_init (fun vs H Q E h => ?_) (fun cdv A outer s H vs Q E hr h => ?_)
  · obtain ⟨o, dx, g, rfl, _⟩ := h
    rfl
  · obtain ⟨o, dx, g, rfl, ho, q⟩ := h
    refine ⟨_, PSs.nox (pss_one (ps_fld (pv 0) (pv 1) rfl)), ?_⟩
    refine ⟨_, rfl, _, rfl, o, _, dx, [], rfl, ho, T.cl_PathOrder, T.na_sig, (by show 0 < 1000; decide), ?_⟩
    exact q _ ⟨dx, upd_same⟩ but_upd
structure GIn (K : PySem.W.Frag) (ops : Ops) (H : Hp) (o g : Addr) (vl vu : V) (l u : T) : Prop where
  O : OrdAt K H o g
  S : SigAt K H g ops
  tl : TmAt H l vl
  tu : TmAt H u vu
  wl : Wf ops l
  wu : Wf ops u
  c : Cst ops l u
theorem GIn.same {H H' : Hp} {o g : Addr} {vl vu : V} {l u : T} (G : GIn K ops H o g vl vu l u) (s : Same H H') : GIn K ops H' o g vl vu l u :=
  ⟨G.O.kx (Kx.of_same s), G.S.kx (Kx.of_same s), G.tl.kt (kt_same s), G.tu.kt (kt_same s), G.wl, G.wu, G.c⟩
def spReason (K : PySem.W.Frag) (ops : Ops) : Sp := fun vs H Q _ => ∃ (o g : Addr) (vl vu : V) (l u : T), vs = [.ref o, vl, vu] ∧ GIn K ops H o g vl vu l u ∧ ∀ (v : V) H', (v ≠ .non ↔ Gt (rk ops) l u) → Same H H' → Q v H'
abbrev n_po_reason : List Str := ["self", "left", "right"]
theorem sc_po_reason : FnScope n_po_reason ["self", "left", "right"] (defScope s_po_reason) := ⟨rfl, rfl, rfl, by decide +kernel, rfl, by decide +kernel, by decide +kernel⟩
theorem ok_po_reason (T : Env0K K mg) (ops : Ops) : FnOk P w K mg base CX0 149 (ma K (ga K "PathOrder") "reason") T.fd_po_reason ["self", "left", "right"] (spReason K ops) := by
  have G_check_names := ok_check_names (P := P) (w := w) (base := base) T ops 16
  refine T.F_po_reason.ok sc_po_reason (fun vs H Q E h => ?_) (fun cdv A outer s H vs Q E hr h => ?_)
  · obtain ⟨o, g, vl, vu, l, u, rfl, _⟩ := h
    rfl
  · obtain ⟨o, g, vl, vu, l, u, rfl, G, q⟩ := h
    have G_path_reason := ok_path (P := P) (w := w) (base := base) T G.c 32
    refine ⟨_, PSs.nox (pss_cons (ps_expr (pe_call G_check_names (hr.mono (by omega)) (by rfl) T.g_check_names T.F_check_names.kp T.b_check_names .nil pass0 (pa_cons (pe_fld (pv 0) rfl) (pa_cons (pv 1) (pa_cons (pv 2) pa_nil)))))
      (pss_one (ps_ret (pe_call G_path_reason (hr.mono (by omega)) (by rfl) T.g_path_reason T.F_path_reason.kp T.b_path_reason .nil pass0 (pa_cons (pe_fld (pv 0) rfl) (pa_cons (pv 1) (pa_cons (pv 2) (pa_cons (pe_tup pa_nil) (pa_cons (pe_tup pa_nil) (pa_cons pe_dnewN pa_nil)))))))))), ?_⟩
    obtain ⟨dx, hO⟩ := G.O
    refine ⟨_, rfl, o, _, dx, _, _, rfl, hO, T.cl_PathOrder, T.na_sig, ordF_sig g, _, rfl, _, rfl, g, vl, vu, l, u, rfl, G.S, G.tl, G.tu, G.wl, G.wu, G.c.d1, G.c.d2, G.c.z1, G.c.z2, fun _ H1 s1 => ?_⟩
    have z0 : (0 : Nat) ≤ sizeLine := Nat.zero_le _
    refine ⟨_, rfl, o, _, dx, _, _, rfl, s1 _ _ hO, T.cl_PathOrder, T.na_sig, ordF_sig g, _, rfl, _, rfl, z0, fun t1 ht1 => ⟨z0, fun t2 ht2 d hd hdm => ?_⟩⟩
    have s2 : Same H1 (upd H1 t1 (.tup [])) := same_upd ht1
    have s3 : Same (upd H1 t1 (.tup [])) (upd (upd H1 t1 (.tup [])) t2 (.tup [])) := same_upd ht2
    have s4 : Same (upd (upd H1 t1 (.tup [])) t2 (.tup [])) (upd (upd (upd H1 t1 (.tup [])) t2 (.tup [])) d (.ext (KnD P w d []))) := same_upd hd
    have s5 := ((s1.trans s2).trans s3).trans s4
    have G5 := G.same s5
    have hd0 : H d = none := ((s1.trans s2).trans s3).free hd
    have d1 := G.c.d1
    have d2 := G.c.d2
    refine ⟨g, t1, t2, d, vl, vu, l, u, [], [], rfl, ⟨G5.S, G5.tl, G5.tu, G.wl, G.wu, s4 _ _ (s3 _ _ upd_same), s4 _ _ upd_same, at_nil l, at_nil u, ⟨hdm, [], upd_same, fun y hy => (nomatch hy), fun y hy => (nomatch hy)⟩⟩, by omega, fun v H6 hv k6 b6 => ?_⟩
    refine q v H6 hv fun b ob e => ?_
    exact b6 _ _ (ne_of_none e hd0) (s5 _ _ e)
def spGreater (K : PySem.W.Frag) (ops : Ops) : Sp := fun vs H Q _ => ∃ (o g : Addr) (vl vu : V) (l u : T), vs = [.ref o, vl, vu] ∧ GIn K ops H o g vl vu l u ∧ ∀ (b : Bool) H', (b = true ↔ Gt (rk ops) l u) → Same H H' → Q (.bl b) H'
abbrev n_po_greater : List Str := ["self", "left", "right"]
theorem sc_po_greater : FnScope n_po_greater ["self", "left", "right"] (defScope s_po_greater) := ⟨rfl, rfl, rfl, by decide +kernel, rfl, by decide +kernel, by decide +kernel⟩
theorem ok_po_greater (T : Env0K K mg) (ops : Ops) : FnOk P w K mg base CX0 150 (ma K (ga K "PathOrder") "greater") T.fd_po_greater ["self", "left", "right"] (spGreater K ops) := by
  have G_po_reason := ok_po_reason (P := P) (w := w) (base := base) T ops
  refine T.F_po_greater.ok sc_po_greater (fun vs H Q E h => ?_) (fun cdv A outer s H vs Q E hr h => ?_)
  · obtain ⟨o, g, vl, vu, l, u, rfl, _⟩ := h
    rfl
  · obtain ⟨o, g, vl, vu, l, u, rfl, G, q⟩ := h
    refine ⟨_, PSs.nox (pss_one (ps_ret (pe_cmpR op_notN (pe_meth (pv 0) T.cl_PathOrder T.m_reason G_po_reason (hr.mono (by omega)) T.b_po_reason .nil pass0 (pa_cons (pv 1) (pa_cons (pv 2) pa_nil))) pe_non (nomark _)))), ?_⟩
    obtain ⟨dx, hO⟩ := G.O
    refine ⟨_, rfl, o, dx, _, rfl, hO, ordF_no _ (by decide +kernel), _, rfl, _, rfl, o, g, vl, vu, l, u, rfl, G, fun v H1 hv s1 => ?_⟩
    refine ⟨rfl, q _ _ ?_ s1⟩
    rw [Bool.not_eq_true', decide_eq_false_iff_not]
    exact hv
end
end K35
set_option Elab.async false
set_option linter.all false
set_option maxRecDepth 100000
set_option maxHeartbeats 4000000
namespace K35
open PySem PySem.Spec PyProof.Rows L2
open He (ga ma)
/-! ### names -/
def letters : List Nat := ("abcdefghijklmnopqrstuvwxyz" : Str).cps.toList
theorem letters_eq : letters = [97, 98, 99, 100, 101, 102, 103, 104, 105, 106, 107, 108, 109, 110, 111, 112, 113, 114, 115, 116, 117, 118, 119, 120, 121, 122] := by decide +kernel
structure GoodN (f : Str) : Prop where
  ch : ∀ c ∈ f.cps.toList, c ∈ letters
  lo : 1 ≤ f.length
  hi : f.length ≤ 8
theorem GoodN.ok {f : Str} (h : GoodN f) : PyData.strOk f = true := by
  unfold PyData.strOk
  rw [Array.all_eq_true]
  intro i hi
  have h1 : f.cps[i] ∈ f.cps.toList := by simp
  have h2 := h.ch _ h1
  rw [letters_eq] at h2
  apply decide_eq_true
  simp only [List.mem_cons, List.not_mem_nil, or_false] at h2
  omega
section
variable {P : Program} {w : World} {K : PySem.W.Frag} {mg : Str → Option Value} {base : Heap} {ops : Ops}
def spIsName : Sp := fun vs H Q _ => ∃ f : Str, vs = [.str f] ∧ GoodN f ∧ Q (.bl true) H
abbrev n_is_name : List Str := ["word", "char"]
theorem sc_is_name : FnScope n_is_name ["word"] (defScope s_is_name) := ⟨rfl, rfl, rfl, by decide +kernel, rfl, by decide +kernel, by decide +kernel⟩
theorem ok_is_name (T : Env0K K mg) : FnOk P w K mg base CX0 1 (ga K "is_name") T.fd_is_name ["word"] spIsName := by
  refine T.F_is_name.ok sc_is_name (fun vs H Q E h => ?_) (fun cdv A outer s H vs Q E hr h => ?_)
  · obtain ⟨f, rfl, _⟩ := h
    rfl
  · obtain ⟨f, rfl, G, q⟩ := h
    refine ⟨_, PSs.nox (pss_cons (ps_for PassesOwn.never rfl (pi_str (pv 0)) (pg_name (i := 1) sc_is_name.nd rfl (Or.inl rfl))
        (pss_one (ps_if (pt_cmpR op_notIn_sign (pv 1) (pe_glob (v := .str "abcdefghijklmnopqrstuvwxyz") rfl T.mg_LETTERS ⟨_, rfl⟩) rfl)
          (pss_one (ps_ret pe_bl))
          pss_nil)))
      (pss_one (ps_ret (pe_chain op_le op_le pe_int (pe_callB call_len_str (by rfl) T.f_len bt_len (pa_cons (pv 0) pa_nil)) pe_int)))), ?_⟩
    refine ⟨_, rfl, f, rfl, for_it (walk_str (z := f)) (fun i σ H2 => ∃ y, σ = [some (.str f), y] ∧ H2 = H) ⟨none, rfl, rfl⟩ (fun _ _ _ _ _ => trivial) ?_ ?_⟩
    · rintro i x σ H2 H3 hi ⟨y, rfl, rfl⟩ ⟨rfl, c, hc, rfl⟩
      have hm : c ∈ letters := G.ch c (by obtain ⟨h1, h2⟩ := Array.getElem?_eq_some_iff.mp hc; rw [← h2]; simp)
      refine ⟨_, rfl, c, _, rfl, rfl, _, rfl, ?_⟩
      rw [decide_eq_true (show c ∈ ("abcdefghijklmnopqrstuvwxyz" : Str).cps.toList from hm)]
      exact iteF ⟨_, rfl, rfl⟩
    · rintro σ H2 ⟨y, rfl, rfl⟩
      have h1 := G.lo
      have h2 := G.hi
      have hsl := sizeLine_eq
      refine ⟨_, rfl, f, rfl, by omega, _, _, rfl, rfl, _, rfl, ?_⟩
      rw [decide_eq_true (show (1 : Int) ≤ (f.length : Int) by omega)]
      refine iteT ?_
      refine ⟨_, _, rfl, rfl, ?_⟩
      show Q (.bl (decide ((f.length : Int) ≤ 8))) H2
      rw [decide_eq_true (show (f.length : Int) ≤ 8 by omega)]
      exact q
/-! ### a signature as it grows -/
structure SgAt (K : PySem.W.Frag) (H : Hp) (g lo da df : Addr) (ops : Ops) : Prop where
  hg : ∃ dx, H g = some (.ins (ga K "Signature") dx (sgF lo da df))
  hlo : H lo = some (.lst ((nms ops).map V.str))
  hda : ∃ kvs, H da = some (.dK kvs) ∧ (∀ f, (valV kvs (Sum.inr f : Key)).isSome = true ↔ f ∈ nms ops) ∧ kvs.length ≤ ops.length
  hdf : ∃ kvs, H df = some (.dK kvs) ∧ kvs.length ≤ ops.length
  hne : da ≠ df
theorem SgAt.sig {H : Hp} {g lo da df : Addr} (S : SgAt K H g lo da df ops) : SigAt K H g ops := by
  obtain ⟨dx, hg⟩ := S.hg
  obtain ⟨kvs, h1, h2, _⟩ := S.hda
  exact ⟨dx, lo, da, df, kvs, hg, S.hlo, h1, fun f hf => (h2 f).mpr hf⟩
def spSgInit (K : PySem.W.Frag) : Sp := fun vs H Q _ => ∃ (g dx : Addr), vs = [.ref g] ∧ H g = some (.ins (ga K "Signature") dx []) ∧ ∀ (lo da df : Addr) H', H lo = none → H da = none → H df = none → SgAt K H' g lo da df [] → But g H H' → Q .non H'
abbrev n_sg_init : List Str := ["self"]
theorem sc_sg_init : FnScope n_sg_init ["self"] (defScope s_sg_init) := ⟨rfl, rfl, rfl, by decide +kernel, rfl, by decide +kernel, by decide +kernel⟩
theorem ok_sg_init (T : Env0K K mg) : FnOk P w K mg base CX0 1 (ma K (ga K "Signature") "__init__") T.fd_sg_init ["self"] (spSgInit K) := by
  refine T.F_sg_init.ok sc_sg_init (fun vs H Q E h => ?_) (fun cdv A outer s H vs Q E hr h => ?_)
  · obtain ⟨g, dx, rfl, _⟩ := h
    rfl
  · obtain ⟨g, dx, rfl, hg, q⟩ := h
    refine ⟨_, PSs.nox (pss_cons (ps_fld (pv 0) (pe_lst pa_nil) rfl)
      (pss_cons (ps_fld (pv 0) pe_dnewK rfl)
      (pss_one (ps_fld (pv 0) pe_dnewK rfl)))), ?_⟩
    refine ⟨Nat.zero_le _, fun lo hlo => ?_⟩
    have ngl : g ≠ lo := ne_of_none hg hlo
    refine ⟨_, rfl, g, _, dx, [], rfl, (by rw [upd_ne ngl]; exact hg), T.cl_Signature, T.na_order, (by show 0 < 1000; decide), ?_⟩
    intro da hda
    have nda : da ≠ g := fun e => by rw [e, upd_same] at hda; cases hda
    rw [upd_ne nda] at hda
    have ndl : da ≠ lo := fun e => by rw [e, upd_same] at hda; cases hda
    rw [upd_ne ndl] at hda
    refine ⟨_, rfl, g, _, dx, _, rfl, (by rw [upd_ne nda.symm]; exact upd_same), T.cl_Signature, T.na_arities, (by show 1 < 1000; decide), ?_⟩
    intro df hdf
    have ndf : df ≠ g := fun e => by rw [e, upd_same] at hdf; cases hdf
    rw [upd_ne ndf] at hdf
    have ndd : df ≠ da := fun e => by rw [e, upd_same] at hdf; cases hdf
    rw [upd_ne ndd, upd_ne ndf] at hdf
    have ndl' : df ≠ lo := fun e => by rw [e, upd_same] at hdf; cases hdf
    rw [upd_ne ndl'] at hdf
    refine ⟨_, rfl, g, _, dx, _, rfl, (by rw [upd_ne ndf.symm]; exact upd_same), T.cl_Signature, T.na_flags, (by
      have := length_putF "arities" (.ref da) (putF "order" (.ref lo) [])
      have := length_putF "order" (.ref lo) []
      simp only [List.length_nil] at this
      omega), ?_⟩
    refine q lo da df _ hlo hda hdf ⟨⟨dx, upd_same⟩, ?_, ⟨[], ?_, fun f => by simp [valV, nms], Nat.zero_le _⟩, ⟨[], ?_, Nat.zero_le _⟩, ndd.symm⟩ fun b o nb e => ?_
    · rw [upd_ne ngl.symm, upd_ne ndl'.symm, upd_ne ngl.symm, upd_ne ndl.symm, upd_ne ngl.symm, upd_same]
      rfl
    · rw [upd_ne nda, upd_ne ndd.symm, upd_ne nda, upd_same]
    · rw [upd_ne ndf, upd_same]
    · rw [upd_ne nb, upd_ne (ne_of_none e hdf), upd_ne nb, upd_ne (ne_of_none e hda), upd_ne nb, upd_ne (ne_of_none e hlo)]
      exact e
end
end K35
set_option Elab.async false
set_option linter.all false
set_option maxRecDepth 100000
set_option maxHeartbeats 4000000
namespace K35
open PySem PySem.Spec PyProof.Rows L2
open He (ga ma)
section
variable {P : Program} {w : World} {K : PySem.W.Frag} {mg : Str → Option Value} {base : Heap}
theorem valV_put {kvs : List (Key × V)} {k j : Key} {v : V} : (valV (putK kvs k v) j).isSome = true ↔ (j = k ∨ (valV kvs j).isSome = true) := by
  by_cases h : (kvs.any fun kv => decide (kv.1 = k)) = true
  · unfold putK
    rw [if_pos h, valV_map, Option.isSome_map]
    rw [valV_any] at h
    constructor
    · exact .inr
    · rintro (e | e)
      · subst e; exact h
      · exact e
  · have hn : valV kvs k = none := by
      rw [valV_any] at h
      cases e : valV kvs k with
      | none => rfl
      | some v => rw [e] at h; exact absurd rfl h
    rw [putK_new _ hn, valV_snoc _ _ _ _ hn]
    by_cases e : j = k
    · rw [if_pos e]; simp [e]
    · rw [if_neg e]; simp [e]
theorem nms_app (ops : Ops) (f : Str) (n : Nat) : nms (ops ++ [(f, n)]) = nms ops ++ [f] := by simp [nms]
def spDeclare (K : PySem.W.Frag) : Sp := fun vs H Q _ => ∃ (g lo da df : Addr) (ops : Ops) (f : Str) (n : Nat), vs = [.ref g, .str f, .int (n : Int), .bl false] ∧ SgAt K H g lo da df ops ∧ GoodN f ∧ n ≤ 3 ∧ f ∉ nms ops ∧ ops.length < 12 ∧
  ∀ v H', SgAt K H' g lo da df (ops ++ [(f, n)]) → (∀ b o, H b = some o → b ≠ lo → b ≠ da → b ≠ df → H' b = some o) → Q v H'
abbrev n_sg_declare : List Str := ["self", "name", "arity", "commutative"]
theorem sc_sg_declare : FnScope n_sg_declare ["self", "name", "arity", "commutative"] (defScope s_sg_declare) := ⟨rfl, rfl, rfl, by decide +kernel, rfl, by decide +kernel, by decide +kernel⟩
theorem ok_sg_declare (T : Env0K K mg) : FnOk P w K mg base CX0 2 (ma K (ga K "Signature") "declare") T.fd_sg_declare ["self", "name", "arity", "commutative"] (spDeclare K) := by
  have G_is_name := ok_is_name (P := P) (w := w) (base := base) T
  refine T.F_sg_declare.ok sc_sg_declare (fun vs H Q E h => ?_) (fun cdv A outer s H vs Q E hr h => ?_)
  · obtain ⟨g, lo, da, df, ops, f, n, rfl, _⟩ := h
    rfl
  · obtain ⟨g, lo, da, df, ops, f, n, rfl, S, Gf, hn, hf, hl, q⟩ := h
    have hu := hu_of hr
    refine ⟨_, PSs.nox (pss_cons (ps_if (pt_not (pt_val (pe_call G_is_name (hr.mono (by omega)) (by rfl) T.g_is_name T.F_is_name.kp T.b_is_name .nil pass0 (pa_cons (pv 1) pa_nil))))
        (pss_one ps_never)
        pss_nil)
      (pss_cons (ps_if (PW.pt (pw_or (pt_not (pt_chain op_le op_le pe_int (pv 2) (pe_glob (v := .int 3) rfl T.mg_MAX_ARITY ⟨_, rfl⟩))) (pw_or1 (PW.pt (pw_and (pt_val (pv 3)) (pw_and1 (pt_cmpR op_ne (pv 2) pe_int (nomark _))))))))
        (pss_one ps_never)
        pss_nil)
      (pss_cons (ps_if (pt_cmp (pc_din hu (pv 1) (pe_fld (pv 0) rfl)))
        (pss_one ps_never)
        pss_nil)
      (pss_cons (ps_if (pt_cmpR op_eq (pe_callB call_len_seq (by rfl) T.f_len bt_len (pa_cons (pe_fld (pv 0) rfl) pa_nil)) (pe_glob (v := .int 12) rfl T.mg_MAX_OPERATIONS ⟨_, rfl⟩) (nomark _))
        (pss_one ps_never)
        pss_nil)
      (pss_cons (ps_expr (pe_bm PySem.F.plainAttrs_list PySem.F.slot_list_append PySem.F.type_list_append mt_append (pe_fld (pv 0) rfl) (pa_cons (pv 1) pa_nil)))
      (pss_cons (ps_dput hu (pe_fld (pv 0) rfl) (pv 1) (pv 2) rfl)
      (pss_cons (ps_dput hu (pe_fld (pv 0) rfl) (pv 1) (pv 3) rfl)
      (pss_one (ps_ret (pe_op op_sub (pe_callB call_len_seq (by rfl) T.f_len bt_len (pa_cons (pe_fld (pv 0) rfl) pa_nil)) pe_int)))))))))), ?_⟩
    obtain ⟨dx, hg⟩ := S.hg
    obtain ⟨kvs, hda, hk, hkl⟩ := S.hda
    obtain ⟨kfs, hdf, hfl⟩ := S.hdf
    have hlo := S.hlo
    have n1 : g ≠ lo := ne_of hg hlo (by intro z; cases z)
    have n2 : g ≠ da := ne_of hg hda (by intro z; cases z)
    have n3 : g ≠ df := ne_of hg hdf (by intro z; cases z)
    have n4 : lo ≠ da := ne_of hlo hda (by intro z; cases z)
    have n5 : lo ≠ df := ne_of hlo hdf (by intro z; cases z)
    have n6 := S.hne
    have hsl := sizeLine_eq
    have hlen : ((nms ops).map V.str).length = ops.length := by simp [nms]
    -- is_name
    refine ⟨_, rfl, f, rfl, Gf, _, rfl, iteF ?_⟩
    -- the arity
    refine ⟨_, rfl, _, _, rfl, rfl, _, rfl, ?_⟩
    rw [decide_eq_true (show (0 : Int) ≤ (n : Int) by omega)]
    refine iteT ⟨_, _, rfl, rfl, ?_⟩
    refine ⟨_, rfl, ?_⟩
    rw [decide_eq_true (show (n : Int) ≤ 3 by omega)]
    refine iteF ⟨_, rfl, _, rfl, iteF (iteF ?_)⟩
    -- not there
    refine ⟨_, rfl, _, rfl, g, _, dx, _, _, rfl, hg, T.cl_Signature, T.na_arities, sgF_arities _ _ _, da, _, rfl, DGet.k (k := Sum.inr f) hda, _, rfl, ?_⟩
    have hno : (valV kvs (Sum.inr f : Key)).isSome = false := by
      cases e : (valV kvs (Sum.inr f : Key)).isSome with
      | false => rfl
      | true => exact absurd ((hk f).mp e) hf
    rw [hno]
    refine iteF ?_
    -- few
    refine ⟨_, rfl, g, _, dx, _, _, rfl, hg, T.cl_Signature, T.na_order, sgF_order _ _ _, lo, _, rfl, .inl (.of hlo), rfl, _, rfl, ?_⟩
    rw [decide_eq_false (show ¬ (V.int ((((nms ops).map V.str).length : Nat) : Int) = V.int 12) from fun z => by injection z with z; omega)]
    refine iteF ?_
    -- order.append
    refine ⟨_, rfl, g, _, dx, _, _, rfl, hg, T.cl_Signature, T.na_order, sgF_order _ _ _, Or.inl ⟨rfl, _, Or.inl (Or.inl hlo)⟩, _, rfl, lo, _, _, rfl, rfl, hlo, by omega, ?_⟩
    -- arities[name] = arity
    have hg1 : upd H lo (.lst ((nms ops).map V.str ++ [.str f])) g = some (.ins (ga K "Signature") dx (sgF lo da df)) := by rw [upd_ne n1]; exact hg
    have hda1 : upd H lo (.lst ((nms ops).map V.str ++ [.str f])) da = some (.dK kvs) := by rw [upd_ne n4.symm]; exact hda
    refine ⟨_, rfl, _, rfl, g, _, dx, _, _, rfl, hg1, T.cl_Signature, T.na_arities, sgF_arities _ _ _, _, rfl, da, _, rfl, DPut.k (k := Sum.inr f) hda1 (by omega), ?_⟩
    -- flags[name] = commutative
    have hg2 : upd (upd H lo (.lst ((nms ops).map V.str ++ [.str f]))) da (.dK (putK kvs (Sum.inr f) (.int (n : Int)))) g = some (.ins (ga K "Signature") dx (sgF lo da df)) := by rw [upd_ne n2]; exact hg1
    have hdf2 : upd (upd H lo (.lst ((nms ops).map V.str ++ [.str f]))) da (.dK (putK kvs (Sum.inr f) (.int (n : Int)))) df = some (.dK kfs) := by rw [upd_ne n6.symm, upd_ne n5.symm]; exact hdf
    refine ⟨_, rfl, _, rfl, g, _, dx, _, _, rfl, hg2, T.cl_Signature, T.na_flags, sgF_flags _ _ _, _, rfl, df, _, rfl, DPut.k (k := Sum.inr f) hdf2 (by omega), ?_⟩
    -- the answer
    have hg3 : upd (upd (upd H lo (.lst ((nms ops).map V.str ++ [.str f]))) da (.dK (putK kvs (Sum.inr f) (.int (n : Int))))) df (.dK (putK kfs (Sum.inr f) (.bl false))) g = some (.ins (ga K "Signature") dx (sgF lo da df)) := by rw [upd_ne n3]; exact hg2
    have hlo3 : upd (upd (upd H lo (.lst ((nms ops).map V.str ++ [.str f]))) da (.dK (putK kvs (Sum.inr f) (.int (n : Int))))) df (.dK (putK kfs (Sum.inr f) (.bl false))) lo = some (.lst ((nms (ops ++ [(f, n)])).map V.str)) := by
      rw [upd_ne n5, upd_ne n4, upd_same, nms_app, List.map_append]
      rfl
    refine ⟨_, rfl, g, _, dx, _, _, rfl, hg3, T.cl_Signature, T.na_order, sgF_order _ _ _, lo, _, rfl, .inl (.of hlo3), _, _, rfl, rfl, ?_⟩
    refine q _ _ ⟨⟨dx, hg3⟩, hlo3, ⟨_, by rw [upd_ne n6]; exact upd_same, fun x => ?_, ?_⟩, ⟨_, upd_same, ?_⟩, n6⟩ fun b o e h1 h2 h3 => ?_
    · rw [valV_put, hk x, nms_app, List.mem_append, List.mem_singleton]
      constructor
      · rintro (e | e)
        · exact .inr (by injection e)
        · exact .inl e
      · rintro (e | e)
        · exact .inr e
        · exact .inl (by rw [e])
    · have := length_putK kvs (Sum.inr f) (.int (n : Int))
      rw [List.length_append]
      simp only [List.length_singleton]
      omega
    · have := length_putK kfs (Sum.inr f) (.bl false)
      rw [List.length_append]
      simp only [List.length_singleton]
      omega
    · rw [upd_ne h3, upd_ne h2, upd_ne h1]
      exact e
theorem b_sg_declare (T : Env0K K mg) : ∃ ds, Vals [.bl false] ds ∧ Binds K T.fd_sg_declare ["self", "name", "arity", "commutative"] ds := by
  refine T.F_sg_declare.binds0 (ps := ["self", "name", "arity", "commutative"]) 3 (by simp) rfl fun D doc pm an cdv ct us ks h1 h2 => ?_
  match us, ks, h1, h2 with
  | [u1, u2, u3], [k1], _, _ => exact ⟨_, _, _, _, _, _, rfl, rfl, rfl⟩
end
end K35
set_option Elab.async false
set_option linter.all false
set_option maxRecDepth 100000
set_option maxHeartbeats 4000000
namespace K35
open PySem PySem.Spec PyProof.Rows L2
open He (ga ma)
/-- the list of the operations -/
def OpsAt (H : Hp) (a : Addr) (ops : Ops) : Prop := ∃ vs, H a = some (.lst vs) ∧ vs.length = ops.length ∧ ∀ (k : Nat) (f : Str) (n : Nat) (v : V), ops[k]? = some (f, n) → vs[k]? = some v → ∃ t, v = .ref t ∧ H t = some (.tup [.str f, .int (n : Int)])
theorem OpsAt.get {H : Hp} {a : Addr} {ops : Ops} (h : OpsAt H a ops) {k : Nat} {f : Str} {n : Nat} (e : ops[k]? = some (f, n)) : ∃ vs t, H a = some (.lst vs) ∧ vs[k]? = some (.ref t) ∧ H t = some (.tup [.str f, .int (n : Int)]) := by
  obtain ⟨vs, h1, h2, h3⟩ := h
  have hlt : k < vs.length := by have := (List.getElem?_eq_some_iff.mp e).1; omega
  obtain ⟨t, e1, e2⟩ := h3 k f n _ e (List.getElem?_eq_getElem hlt)
  exact ⟨vs, t, h1, by rw [List.getElem?_eq_getElem hlt, e1], e2⟩
theorem OpsAt.keep {H H' : Hp} {a : Addr} {ops : Ops} (h : OpsAt H a ops) (ha : H' a = H a) (k : KpT H H') : OpsAt H' a ops := by
  obtain ⟨vs, h1, h2, h3⟩ := h
  refine ⟨vs, ha.trans h1, h2, fun j f n v e1 e2 => ?_⟩
  obtain ⟨t, e3, e4⟩ := h3 j f n v e1 e2
  exact ⟨t, e3, k _ _ e4⟩
theorem OpsAt.same {H H' : Hp} {a : Addr} {ops : Ops} (h : OpsAt H a ops) (s : Same H H') : OpsAt H' a ops := by
  obtain ⟨vs, h1, _⟩ := id h
  exact h.keep ((s _ _ h1).trans h1.symm) (kt_same s)
section
variable {P : Program} {w : World} {K : PySem.W.Frag} {mg : Str → Option Value} {base : Heap}
def spSignature (K : PySem.W.Frag) : Sp := fun vs H Q _ => ∃ (a : Addr) (ops : Ops), vs = [.ref a] ∧ OpsAt H a ops ∧ (nms ops).Nodup ∧ (∀ f ∈ nms ops, GoodN f) ∧ (∀ x ∈ ops, x.2 ≤ 3) ∧ ops.length ≤ 12 ∧ ∀ g H', SigAt K H' g ops → Same H H' → Q (.ref g) H'
abbrev n_l_signature : List Str := ["_law_operations_here", "_law_signature_here", "_law_name", "_law_arity"]
theorem sc_l_signature : FnScope n_l_signature ["_law_operations_here"] (defScope s_l_signature) := ⟨rfl, rfl, rfl, by decide +kernel, rfl, by decide +kernel, by decide +kernel⟩
theorem ok_l_signature (T : Env0K K mg) : FnOk P w K mg base CX0 3 (ga K "_law_signature") T.fd_l_signature ["_law_operations_here"] (spSignature K) := by
  have G_sg_init := ok_sg_init (P := P) (w := w) (base := base) T
  have G_sg_declare := ok_sg_declare (P := P) (w := w) (base := base) T
  obtain ⟨ds, rds, b_declare⟩ := b_sg_declare T
  refine T.F_l_signature.ok sc_l_signature (fun vs H Q E h => ?_) (fun cdv A outer s H vs Q E hr h => ?_)
  · obtain ⟨a, ops, rfl, _⟩ := h
    rfl
  · obtain ⟨a, ops, rfl, hO, hnd, hgd, har, hlen, q⟩ := h
    refine ⟨_, PSs.nox (pss_cons (ps_set (i := 1) sc_l_signature.nd rfl (Or.inl rfl) (pe_make0 T.mk_Signature G_sg_init (hr.mono (by omega)) rfl T.g_Signature T.b_sg_init .nil pass0))
      (pss_cons (ps_for PassesOwn.never rfl (pi_list (pv 0)) (pg_tup rfl (pgs_cons (pg_name (i := 2) sc_l_signature.nd rfl (Or.inl rfl)) (pgs_cons (pg_name (i := 3) sc_l_signature.nd rfl (Or.inl rfl)) pgs_nil)))
        (pss_one (ps_expr (pe_meth (pv 1) T.cl_Signature T.m_declare G_sg_declare (hr.mono (by omega)) b_declare rds pass0 (pa_cons (pv 2) (pa_cons (pv 3) pa_nil))))))
      (pss_one (ps_ret (pv 1))))), ?_⟩
    intro g dx hg hdx nx
    have s0 : Same H (upd (upd H dx (.own g)) g (.ins (ga K "Signature") dx [])) := (same_upd hdx).trans (same_upd (by rw [upd_ne (Ne.symm nx)]; exact hg))
    refine ⟨g, dx, rfl, upd_same, fun lo da df H1 hlo hda hdf S1 b1 => ⟨rfl, ?_⟩⟩
    have s1 : Same H H1 := fun b o e => b1 b o (ne_of_none e hg) (s0 b o e)
    have hlo0 := s0.free hlo
    have hda0 := s0.free hda
    have hdf0 := s0.free hdf
    obtain ⟨vs, ha, hvl, hvk⟩ := id hO
    refine ⟨_, rfl, a, rfl, ⟨_, .of (s1 _ _ ha)⟩, for_list (K := K) (a := a) (xs := vs) (fun i σ H2 => ∃ y z, σ = [some (.ref a), some (.ref g), y, z] ∧ Same H H2 ∧ SgAt K H2 g lo da df (ops.take i)) ⟨none, none, rfl, s1, S1⟩ ?_ ?_ ?_⟩
    · rintro i σ H2 _ ⟨y, z, _, s2, _⟩
      exact .of (s2 _ _ ha)
    · rintro i x σ H2 hx ⟨y, z, rfl, s2, S2⟩
      have hi : i < ops.length := by have := (List.getElem?_eq_some_iff.mp hx).1; omega
      obtain ⟨f, n, ef⟩ : ∃ f n, ops[i]? = some (f, n) := ⟨ops[i].1, ops[i].2, List.getElem?_eq_getElem hi⟩
      obtain ⟨t, rfl, ht⟩ := hvk i f n x ef hx
      have hmem : (f, n) ∈ ops := List.mem_of_getElem? ef
      have et : ops.take (i + 1) = ops.take i ++ [(f, n)] := by rw [List.take_add_one, ef]; rfl
      refine ⟨t, _, rfl, .of (s2 _ _ ht), rfl, _, _, rfl, _, _, rfl, rfl, ?_⟩
      obtain ⟨dy, hg2⟩ := S2.hg
      refine ⟨_, rfl, g, dy, _, rfl, hg2, sgF_no _ _ _ (by decide +kernel) (by decide +kernel) (by decide +kernel), _, rfl, _, rfl, g, lo, da, df, ops.take i, f, n, rfl, S2, hgd f (List.mem_map.mpr ⟨_, hmem, rfl⟩), har _ hmem, fun hin => ?_, by rw [List.length_take]; omega, fun v H3 S3 k3 => ?_⟩
      · -- no name twice
        have e1 : nms ops = nms (ops.take i) ++ (f :: nms (ops.drop (i + 1))) := by
          have e2 : ops = ops.take i ++ (f, n) :: ops.drop (i + 1) := by
            obtain ⟨h1, h2⟩ := List.getElem?_eq_some_iff.mp ef
            rw [← h2, ← List.drop_eq_getElem_cons h1, List.take_append_drop]
          have e3 := congrArg nms e2
          simpa [nms] using e3
        rw [e1] at hnd
        have := (List.nodup_append.mp hnd).2.2 f hin f (List.mem_cons_self ..)
        exact this rfl
      · refine ⟨_, _, rfl, fun b o e => k3 b o (s2 b o e) (ne_of_none e hlo0) (ne_of_none e hda0) (ne_of_none e hdf0), ?_⟩
        rw [et]
        exact S3
    · rintro σ H2 ⟨y, z, rfl, s2, S2⟩
      rw [hvl, List.take_length] at S2
      exact ⟨_, rfl, q g H2 S2.sig s2⟩
end
end K35
set_option Elab.async false
set_option linter.all false
set_option maxRecDepth 100000
set_option maxHeartbeats 4000000
namespace K35
open PySem PySem.Spec PyProof.Rows L2
open He (ga ma)
section
variable {P : Program} {w : World} {K : PySem.W.Frag} {mg : Str → Option Value} {base : Heap}
/-! ### numbers -/
def spMix : Sp := fun vs H Q _ => ∃ n : Int, vs = [.int n] ∧ ∀ m : Int, 0 ≤ m → m < 2147483629 → Q (.int m) H
abbrev n_l_mix : List Str := ["_law_cell", "_law_number_here"]
theorem sc_l_mix : FnScope n_l_mix ["_law_cell"] (defScope s_l_mix) := ⟨rfl, rfl, rfl, by decide +kernel, rfl, by decide +kernel, by decide +kernel⟩
theorem ok_l_mix (T : Env0K K mg) : FnOk P w K mg base CX0 1 (ga K "_law_mix") T.fd_l_mix ["_law_cell"] spMix := by
  refine T.F_l_mix.ok sc_l_mix (fun vs H Q E h => ?_) (fun cdv A outer s H vs Q E hr h => ?_)
  · obtain ⟨n, rfl, _⟩ := h
    rfl
  · obtain ⟨n, rfl, q⟩ := h
    refine ⟨_, PSs.nox (pss_cons (ps_set (i := 1) sc_l_mix.nd rfl (Or.inl rfl) (pe_op op_mod (pe_callTy call_int1 (by rfl) T.f_int bt_int (pa_cons (pv 0) pa_nil)) pe_int))
      (pss_cons (ps_set (i := 1) sc_l_mix.nd rfl (Or.inl rfl) (pe_op op_mod (pe_callTy call_int1 (by rfl) T.f_int bt_int (pa_cons (pe_op op_add (pe_op op_mul (pv 1) pe_int) pe_int) pa_nil)) pe_int))
      (pss_one (ps_ret (pe_op op_mod (pe_callTy call_int1 (by rfl) T.f_int bt_int (pa_cons (pe_op op_add (pe_op op_mul (pv 1) pe_int) pe_int) pa_nil)) pe_int))))), ?_⟩
    have c1 : ∀ x : Int, CMul x 48271 := fun x => .inr ⟨by decide, by decide⟩
    have c2 : ∀ x : Int, CMul x 69621 := fun x => .inr ⟨by decide, by decide⟩
    refine ⟨_, rfl, .inl ⟨_, rfl, _, _, rfl, rfl, (by show (0 : Int) < 2147483647; decide), ?_⟩⟩
    refine ⟨_, rfl, _, _, rfl, rfl, c1 _, _, _, rfl, rfl, .inl ⟨_, rfl, _, _, rfl, rfl, (by show (0 : Int) < 2147483647; decide), ?_⟩⟩
    refine ⟨_, rfl, _, _, rfl, rfl, c2 _, _, _, rfl, rfl, .inl ⟨_, rfl, _, _, rfl, rfl, (by show (0 : Int) < 2147483629; decide), ?_⟩⟩
    exact q _ (Int.emod_nonneg _ (by decide)) (Int.emod_lt_of_pos _ (by decide))
def spNumber : Sp := fun vs H Q _ => ∃ n : Int, vs = [.int n] ∧ ∀ m : Int, 0 ≤ m → Q (.int m) H
abbrev n_l_number : List Str := ["_law_cell", "_law_first"]
theorem sc_l_number : FnScope n_l_number ["_law_cell"] (defScope s_l_number) := ⟨rfl, rfl, rfl, by decide +kernel, rfl, by decide +kernel, by decide +kernel⟩
theorem ok_l_number (T : Env0K K mg) : FnOk P w K mg base CX0 2 (ga K "_law_number") T.fd_l_number ["_law_cell"] spNumber := by
  have G_l_mix := ok_l_mix (P := P) (w := w) (base := base) T
  refine T.F_l_number.ok sc_l_number (fun vs H Q E h => ?_) (fun cdv A outer s H vs Q E hr h => ?_)
  · obtain ⟨n, rfl, _⟩ := h
    rfl
  · obtain ⟨n, rfl, q⟩ := h
    refine ⟨_, PSs.nox (pss_cons (ps_if (pt_cmpR op_ge (pv 0) (pe_op op_pow pe_int pe_int) (nomark _))
        (pss_one (ps_ret (pv 0)))
        pss_nil)
      (pss_cons (ps_set (i := 1) sc_l_number.nd rfl (Or.inl rfl) (pe_call G_l_mix (hr.mono (by omega)) (by rfl) T.g_l_mix T.F_l_mix.kp T.b_l_mix .nil pass0 (pa_cons (pv 0) pa_nil)))
      (pss_one (ps_ret (pe_op op_add (pe_op op_mul (pv 1) pe_int) (pe_call G_l_mix (hr.mono (by omega)) (by rfl) T.g_l_mix T.F_l_mix.kp T.b_l_mix .nil pass0 (pa_cons (pe_op op_add (pv 1) (pv 0)) pa_nil))))))), ?_⟩
    refine ⟨_, rfl, 10, 18, rfl, rfl, ⟨by decide, by decide, by decide⟩, _, _, rfl, rfl, _, rfl, ?_⟩
    refine ite2 (fun h1 => ?_) (fun h1 => ?_)
    · refine ⟨_, rfl, q n ?_⟩
      have h2 := of_decide_eq_true h1
      have h3 : (0 : Int) ≤ 10 ^ (18 : Int).toNat := by decide
      omega
    · refine ⟨_, rfl, n, rfl, fun m h2 h3 => ?_⟩
      refine ⟨_, rfl, _, _, rfl, rfl, .inr ⟨by decide, by decide⟩, _, rfl, _, rfl, _, _, rfl, rfl, m + n, rfl, fun m2 h4 h5 => ?_⟩
      exact ⟨_, _, rfl, rfl, q _ (by omega)⟩
/-! ### the state -/
structure StOk (H : Hp) (p l : Addr) : Prop where
  ex : ∃ (n i z : Int) (ns : List Int), H p = some (.lst [.int n, .ref l, .int i, .int z]) ∧ H l = some (.lst (ns.map V.int)) ∧ ns.length ≤ 63 ∧ 0 ≤ n ∧ 0 ≤ i
  ne : l ≠ p
theorem StOk.lst {H : Hp} {p l : Addr} (h : StOk H p l) : ∃ xs, H p = some (.lst xs) := by
  obtain ⟨n, i, z, ns, h, _⟩ := h.ex
  exact ⟨_, h⟩
theorem StOk.lstL {H : Hp} {p l : Addr} (h : StOk H p l) : ∃ xs, H l = some (.lst xs) := by
  obtain ⟨n, i, z, ns, _, h, _⟩ := h.ex
  exact ⟨_, h⟩
theorem StOk.keep {H H' : Hp} {p l : Addr} (h : StOk H p l) (s : Same H H') : StOk H' p l := by
  obtain ⟨n, i, z, ns, h1, h2, h3⟩ := h.ex
  exact ⟨⟨n, i, z, ns, s _ _ h1, s _ _ h2, h3⟩, h.ne⟩
/-- a thing that is neither the state nor the script's list is changed -/
theorem StOk.upd {H : Hp} {p l : Addr} (h : StOk H p l) {x : Addr} {o : HO} (h1 : x ≠ p) (h2 : x ≠ l) : StOk (L2.upd H x o) p l := by
  obtain ⟨n, i, z, ns, e1, e2, e3⟩ := h.ex
  exact ⟨⟨n, i, z, ns, by rw [upd_ne h1.symm]; exact e1, by rw [upd_ne h2.symm]; exact e2, e3⟩, h.ne⟩
/-- what is new is neither -/
theorem StOk.fresh {H : Hp} {p l : Addr} (h : StOk H p l) {x : Addr} (hx : H x = none) : x ≠ p ∧ x ≠ l := by
  obtain ⟨xs, h1⟩ := h.lst
  obtain ⟨ys, h2⟩ := h.lstL
  exact ⟨fun e => by (rw [e, h1] at hx; cases hx), fun e => by (rw [e, h2] at hx; cases hx)⟩
theorem But.kt {H H' : Hp} {p l : Addr} (b : But p H H') (h : StOk H p l) : KpT H H' := fun a xs e => by
  obtain ⟨ys, h⟩ := h.lst
  exact b _ _ (ne_of e h (by intro z; cases z)) e
def spState (K : PySem.W.Frag) : Sp := fun vs H Q _ => ∃ (a : Addr) (ns : List Int), vs = [.ref a] ∧ SqL K H a (ns.map V.int) ∧ ns.length ≤ 63 ∧ ∀ p l H', StOk H' p l → Same H H' → Q (.ref p) H'
abbrev n_l_state : List Str := ["_law_script"]
theorem sc_l_state : FnScope n_l_state ["_law_script"] (defScope s_l_state) := ⟨rfl, rfl, rfl, by decide +kernel, rfl, by decide +kernel, by decide +kernel⟩
theorem ok_l_state (T : Env0K K mg) : FnOk P w K mg base CX0 1 (ga K "_law_state") T.fd_l_state ["_law_script"] (spState K) := by
  refine T.F_l_state.ok sc_l_state (fun vs H Q E h => ?_) (fun cdv A outer s H vs Q E hr h => ?_)
  · obtain ⟨a, ns, rfl, _⟩ := h
    rfl
  · obtain ⟨a, ns, rfl, hS, hl, q⟩ := h
    refine ⟨_, PSs.nox (pss_one (ps_ret (pe_lst (pa_cons pe_int (pa_cons (pe_callTy call_list_of (by rfl) T.f_list bt_list (pa_cons (pv 0) pa_nil)) (pa_cons pe_int (pa_cons (pe_op op_add pe_int (pe_callB call_len_seq (by rfl) T.f_len bt_len (pa_cons (pv 0) pa_nil))) pa_nil))))))), ?_⟩
    refine ⟨_, rfl, a, _, rfl, .inl hS, fun l hl0 => ?_⟩
    have s1 : Same H (upd H l (.lst (ns.map V.int))) := same_upd hl0
    refine ⟨_, rfl, a, _, rfl, .inl (s1.seq hS), _, _, rfl, rfl, by show 4 ≤ sizeLine; decide, fun p hp => ?_⟩
    have nlp : l ≠ p := fun e => by rw [← e, upd_same] at hp; cases hp
    exact q p l _ ⟨⟨0, 0, _, ns, upd_same, by rw [upd_ne nlp]; exact upd_same, hl, by decide, by decide⟩, nlp⟩ (s1.trans (same_upd hp))
/-- a number below m is drawn -/
def spDraw : Sp := fun vs H Q _ => ∃ (p l : Addr) (m : Int), vs = [.ref p, .int m] ∧ StOk H p l ∧ 0 < m ∧ m < 1073741824 ∧ ∀ (x : Nat) H', (x : Int) < m → StOk H' p l → But p H H' → Q (.int (x : Int)) H'
abbrev n_l_draw : List Str := ["_law_state_here", "_law_many", "_law_value"]
theorem sc_l_draw : FnScope n_l_draw ["_law_state_here", "_law_many"] (defScope s_l_draw) := ⟨rfl, rfl, rfl, by decide +kernel, rfl, by decide +kernel, by decide +kernel⟩
theorem i4_0 (a b c d : V) : atI [a, b, c, d] 0 = some a := atI_nat (j := 0) rfl
theorem i4_1 (a b c d : V) : atI [a, b, c, d] 1 = some b := atI_nat (j := 1) rfl
theorem i4_2 (a b c d : V) : atI [a, b, c, d] 2 = some c := atI_nat (j := 2) rfl
theorem i4_3 (a b c d : V) : atI [a, b, c, d] 3 = some d := atI_nat (j := 3) rfl
theorem ok_l_draw (T : Env0K K mg) : FnOk P w K mg base CX0 3 (ga K "_law_draw") T.fd_l_draw ["_law_state_here", "_law_many"] spDraw := by
  have G_l_number := ok_l_number (P := P) (w := w) (base := base) T
  refine T.F_l_draw.ok sc_l_draw (fun vs H Q E h => ?_) (fun cdv A outer s H vs Q E hr h => ?_)
  · obtain ⟨p, l, m, rfl, _⟩ := h
    rfl
  · obtain ⟨p, l, m, rfl, hS, hm0, hm1, q⟩ := h
    refine ⟨_, PSs.nox (C8.pss_cut (ps_if (PW.pt (pw_and (pt_cmpR op_lt (pe_ix ix_list (pv 0) pe_int (fun _ _ => rfl)) (pv 1) (nomark _)) (pw_and1 (pt_cmpR op_lt (pe_ix ix_list (pv 0) pe_int (fun _ _ => rfl)) (pe_callB call_len_seq (by rfl) T.f_len bt_len (pa_cons (pe_ix ix_list (pv 0) pe_int (fun _ _ => rfl)) pa_nil)) (nomark _)))))
        (pss_cons (ps_asg (pe_call G_l_number (hr.mono (by omega)) (by rfl) T.g_l_number T.F_l_number.kp T.b_l_number .nil pass0 (pa_cons (pe_ix ix_list (pe_ix ix_list (pv 0) pe_int (fun _ _ => rfl)) (pe_ix ix_list (pv 0) pe_int (fun _ _ => rfl)) (fun _ _ => rfl)) pa_nil)) (pg_sub (pv 0) pe_int set_list))
        (pss_one (ps_asg (pe_op op_add (pe_ix ix_list (pv 0) pe_int (fun _ _ => rfl)) pe_int) (pg_sub (pv 0) pe_int set_list))))
        pss_nil)
      (pss_cons (ps_if (pt_cmpR op_eq (pe_ix ix_list (pv 0) pe_int (fun _ _ => rfl)) pe_int (nomark _))
        (pss_cons (ps_asg (pe_op op_mod (pe_callTy call_int1 (by rfl) T.f_int bt_int (pa_cons (pe_op op_add (pe_op op_mul (pe_ix ix_list (pv 0) pe_int (fun _ _ => rfl)) pe_int) pe_int) pa_nil)) pe_int) (pg_sub (pv 0) pe_int set_list))
        (pss_one (ps_ret (pe_op op_mod (pe_callTy call_int1 (by rfl) T.f_int bt_int (pa_cons (pe_op op_fdiv (pe_ix ix_list (pv 0) pe_int (fun _ _ => rfl)) pe_int) pa_nil)) (pv 1)))))
        pss_nil)
      (pss_cons (ps_set (i := 2) sc_l_draw.nd rfl (Or.inl rfl) (pe_op op_mod (pe_callTy call_int1 (by rfl) T.f_int bt_int (pa_cons (pe_ix ix_list (pv 0) pe_int (fun _ _ => rfl)) pa_nil)) (pv 1)))
      (pss_cons (ps_asg (pe_op op_fdiv (pe_ix ix_list (pv 0) pe_int (fun _ _ => rfl)) (pv 1)) (pg_sub (pv 0) pe_int set_list))
      (pss_one (ps_ret (pv 2))))))), ?_⟩
    refine ⟨fun σ H2 => σ = [some (.ref p), some (.int m), none] ∧ StOk H2 p l ∧ But p H H2, ?_, ?_⟩
    · obtain ⟨n, i, z, ns, hp, hl, hlen, hn, hi⟩ := hS.ex
      have nlp := hS.ne
      refine ⟨_, rfl, p, _, _, _, rfl, rfl, .of hp, i4_0 _ _ _ _, _, rfl, _, _, rfl, rfl, _, rfl, ?_⟩
      refine ite2 (fun h1 => ?_) (fun _ => iteF ⟨rfl, hS, But.refl _ _⟩)
      refine ⟨_, rfl, p, _, _, _, rfl, rfl, .of hp, i4_2 _ _ _ _, _, rfl, p, _, _, _, rfl, rfl, .of hp, i4_1 _ _ _ _, l, _, rfl, .inl (.of hl), _, _, rfl, rfl, _, rfl, ?_⟩
      refine ite2 (fun h2 => ?_) (fun _ => ⟨rfl, hS, But.refl _ _⟩)
      have h3 := of_decide_eq_true h2
      rw [List.length_map] at h3
      obtain ⟨j, rfl⟩ : ∃ j : Nat, i = (j : Int) := ⟨i.toNat, by omega⟩
      have hj : j < ns.length := by omega
      have ej : (ns.map V.int)[j]? = some (.int ns[j]) := by rw [List.getElem?_map, List.getElem?_eq_getElem hj]; rfl
      refine ⟨_, rfl, p, _, _, _, rfl, rfl, .of hp, i4_1 _ _ _ _, _, rfl, p, _, _, _, rfl, rfl, .of hp, i4_2 _ _ _ _, l, _, _, _, rfl, rfl, .of hl, atI_nat ej, _, rfl, fun x hx => ?_⟩
      refine ⟨_, rfl, p, _, 0, 0, rfl, rfl, hp, rfl, ?_⟩
      refine ⟨_, rfl, p, _, _, _, rfl, rfl, .of upd_same, i4_2 _ _ _ _, _, _, rfl, rfl, _, rfl, p, _, 2, 2, rfl, rfl, upd_same, rfl, ?_⟩
      rw [upd_upd]
      exact ⟨rfl, ⟨⟨x, _, z, ns, upd_same, by rw [upd_ne nlp]; exact hl, hlen, hx, by omega⟩, nlp⟩, but_upd⟩
    · rintro σ H2 ⟨rfl, hS2, b2⟩
      obtain ⟨n, i, z, ns, hp, hl, hlen, hn, hi⟩ := hS2.ex
      have nlp := hS2.ne
      have key : ∀ x : Int, 0 ≤ x % m ∧ x % m < m := fun x => ⟨Int.emod_nonneg _ (by omega), Int.emod_lt_of_pos _ hm0⟩
      have fin : ∀ (x : Int) H3, StOk H3 p l → But p H2 H3 → Q (.int (x % m)) H3 := fun x H3 s3 b3 => by
        have h1 := key x
        have := q (x % m).toNat H3 (by omega) s3 (b2.trans b3)
        rw [show (((x % m).toNat : Nat) : Int) = x % m by omega] at this
        exact this
      refine ⟨_, rfl, p, _, _, _, rfl, rfl, .of hp, i4_0 _ _ _ _, rfl, _, rfl, ?_⟩
      refine ite2 (fun h1 => ?_) (fun h1 => ?_)
      · refine ⟨_, rfl, p, _, _, _, rfl, rfl, .of hp, i4_3 _ _ _ _, _, _, rfl, rfl, .inr ⟨by decide, by decide⟩, _, _, rfl, rfl, .inl ⟨_, rfl, _, _, rfl, rfl, (by show (0 : Int) < 2147483647; decide), ?_⟩⟩
        refine ⟨_, rfl, p, _, 3, 3, rfl, rfl, hp, rfl, ?_⟩
        refine ⟨_, rfl, p, _, _, _, rfl, rfl, .of upd_same, i4_3 _ _ _ _, _, _, rfl, rfl, ⟨by decide, by decide⟩, .inl ⟨_, rfl, _, rfl, _, _, rfl, rfl, hm0, ?_⟩⟩
        exact fin _ _ ⟨⟨n, i, _, ns, upd_same, by rw [upd_ne nlp]; exact hl, hlen, hn, hi⟩, nlp⟩ but_upd
      · refine ⟨_, rfl, p, _, _, _, rfl, rfl, .of hp, i4_0 _ _ _ _, .inl ⟨_, rfl, _, rfl, _, _, rfl, rfl, hm0, ?_⟩⟩
        refine ⟨_, rfl, p, _, _, _, rfl, rfl, .of hp, i4_0 _ _ _ _, _, rfl, _, _, rfl, rfl, ⟨hm0, hm1⟩, ?_⟩
        refine ⟨_, rfl, p, _, 0, 0, rfl, rfl, hp, rfl, ?_⟩
        refine ⟨_, rfl, fin _ _ ⟨⟨_, i, z, ns, upd_same, by rw [upd_ne nlp]; exact hl, hlen, ?_, hi⟩, nlp⟩ but_upd⟩
        exact Int.ediv_nonneg hn (by omega)
end
end K35
set_option Elab.async false
set_option linter.all false
set_option maxRecDepth 100000
set_option maxHeartbeats 4000000
namespace K35
open PySem PySem.Spec PyProof.Rows L2
open He (ga ma)
theorem yesT {σ : L2.St} {H : Hp} {Q : Bool → Hp → Prop} (h : Q true H) : tYes σ H Q := h
abbrev sL : Str := "abcdefghijklmnopqrstuvwxyz"
def letterAt (i : Int) : Nat := letters.getD i.toNat 0
theorem letters_len : letters.length = 26 := by decide +kernel
theorem letters_nd : letters.Nodup := by decide +kernel
theorem letter_at {i : Int} (h0 : 0 ≤ i) (h1 : i < 26) : atI sL.cps.toList i = some (letterAt i) ∧ letterAt i ∈ letters := by
  have h2 : i.toNat < letters.length := by rw [letters_len]; omega
  have e : letters[i.toNat]? = some (letterAt i) := by
    unfold letterAt
    rw [List.getD_eq_getElem?_getD, List.getElem?_eq_getElem h2]
    rfl
  refine ⟨?_, List.mem_of_getElem? e⟩
  have := atI_nat e
  rw [show ((i.toNat : Nat) : Int) = i by omega] at this
  exact this
theorem letter_inj {i j : Int} (h0 : 0 ≤ i) (h1 : i < 26) (h2 : 0 ≤ j) (h3 : j < 26) (e : letterAt i = letterAt j) : i = j := by
  have hi : i.toNat < letters.length := by rw [letters_len]; omega
  have hj : j.toNat < letters.length := by rw [letters_len]; omega
  unfold letterAt at e
  rw [List.getD_eq_getElem?_getD, List.getD_eq_getElem?_getD, List.getElem?_eq_getElem hi, List.getElem?_eq_getElem hj] at e
  have := (List.getElem_inj letters_nd).mp (show letters[i.toNat] = letters[j.toNat] from e)
  omega
theorem sL_len : sL.length ≤ sizeLine := by
  have : sL.length = 26 := by decide +kernel
  have := sizeLine_eq
  omega
section
variable {P : Program} {w : World} {K : PySem.W.Frag} {mg : Str → Option Value} {base : Heap}
def spWord : Sp := fun vs H Q _ => ∃ (p l : Addr) (n : Nat), vs = [.ref p, .int (n : Int)] ∧ StOk H p l ∧ n ≤ 3 ∧ ∀ (z : Str) H', z.length = n → (∀ c ∈ z.cps.toList, c ∈ letters) → StOk H' p l → But p H H' → Q (.str z) H'
abbrev n_l_word : List Str := ["_law_state_here", "_law_size", "_law_letters", "_law_k"]
theorem sc_l_word : FnScope n_l_word ["_law_state_here", "_law_size"] (defScope s_l_word) := ⟨rfl, rfl, rfl, by decide +kernel, rfl, by decide +kernel, by decide +kernel⟩
/-- signs joined -/
theorem join_signs : ∀ ys : List Nat, Txt.join (Str.ofString "") (ys.map fun c => (⟨#[c]⟩ : Str)) = ⟨ys.toArray⟩ := by
  intro ys
  rw [TL.join_eq]
  have h := TL.tl_join (Str.ofString "") (ys.map fun c => (⟨#[c]⟩ : Str))
  have e0 : TL.tl (Str.ofString "") = [] := by decide +kernel
  have key : ∀ zs : List Nat, TL.joinL [] ((zs.map fun c => (⟨#[c]⟩ : Str)).map TL.tl) = zs := by
    intro zs
    induction zs with
    | nil => rfl
    | cons a r ih =>
      cases r with
      | nil => rfl
      | cons b r =>
        show TL.tl ⟨#[a]⟩ ++ ([] ++ TL.joinL [] (((b :: r).map fun c => (⟨#[c]⟩ : Str)).map TL.tl)) = a :: b :: r
        rw [ih]
        rfl
  rw [e0, key] at h
  have : (Str.join (Str.ofString "") (ys.map fun c => (⟨#[c]⟩ : Str))).cps = ys.toArray := by
    apply Array.ext'
    rw [List.toList_toArray]
    exact h
  generalize Str.join (Str.ofString "") (ys.map fun c => (⟨#[c]⟩ : Str)) = z at this
  cases z
  simp only at this
  rw [this]
theorem ok_l_word (T : Env0K K mg) : FnOk P w K mg base CX0 4 (ga K "_law_word") T.fd_l_word ["_law_state_here", "_law_size"] spWord := by
  have G_l_draw := ok_l_draw (P := P) (w := w) (base := base) T
  refine T.F_l_word.ok sc_l_word (fun vs H Q E h => ?_) (fun cdv A outer s H vs Q E hr h => ?_)
  · obtain ⟨p, l, n, rfl, _⟩ := h
    rfl
  · obtain ⟨p, l, n, rfl, hS, hn, q⟩ := h
    refine ⟨_, PSs.nox (pss_cons (ps_set (i := 2) sc_l_word.nd rfl (Or.inr rfl) pe_str)
      (pss_one (ps_ret (pe_join pe_str (pe_lc (own := [("_law_k", 3)]) (g := gName 3) (tt := tYes) rfl sc_l_word.nd (pi_range1 (by rfl) T.f_range (pa_cons (pv 1) pa_nil)) (blkOk_by (own := [("_law_k", 3)]) (N := n_l_word) (sc := defScope s_l_word) (by decide +kernel)) (fun _ _ _ _ _ => pg_name (i := 3) sc_l_word.nd rfl (Or.inl rfl)) (fun _ _ _ _ _ => pts_nil) (fun _ _ _ _ _ => (pe_ix ix_str (pv 2) (pe_call G_l_draw (hr.mono (by omega)) (by rfl) T.g_l_draw T.F_l_draw.kp T.b_l_draw .nil pass0 (pa_cons (pv 0) (pa_cons pe_int pa_nil))) (fun _ _ => rfl)))))))), ?_⟩
    refine ⟨⟨_, rfl⟩, _, rfl, (n : Int), rfl, by omega, by omega, fun D hD => ?_⟩
    obtain ⟨hDp, hDl⟩ := hS.fresh hD
    rw [Int.toNat_natCast]
    refine lc_range (lo := 0) (n := n) (fun i H2 => ∃ ys : List Nat, H2 D = some (.lst ((ys.map fun c => (⟨#[c]⟩ : Str)).map V.str)) ∧ ys.length = i ∧ (∀ y ∈ ys, y ∈ letters) ∧ StOk H2 p l ∧ But p H H2) ⟨[], upd_same, rfl, fun y hy => (nomatch hy), hS.keep (same_upd hD), But.of_same (same_upd hD)⟩ ?_ ?_
    · rintro i H2 hi ⟨ys, h1, h2, h3, h4, h5⟩
      refine ⟨rfl, yesT (iteT ?_)⟩
      refine ⟨_, rfl, _, rfl, p, l, 26, rfl, h4, by decide, by decide, fun x H3 hx s3 b3 => ?_⟩
      obtain ⟨l1, l2⟩ := letter_at (i := (x : Int)) (by omega) hx
      have hD3 := b3 _ _ hDp h1
      have hsl := sizeLine_eq
      refine ⟨_, _, letterAt x, rfl, rfl, sL_len, l1, _, hD3, by rw [List.length_map, List.length_map, h2]; omega, ys ++ [letterAt x], ?_, by rw [List.length_append, h2]; rfl, fun y hy => ?_, s3.upd hDp hDl, But.same_new (h5.trans b3) hD⟩
      · rw [upd_same, List.map_append, List.map_append]
        rfl
      · rcases List.mem_append.mp hy with hy | hy
        · exact h3 y hy
        · rw [List.mem_singleton.mp hy]; exact l2
    · rintro H2 ⟨ys, h1, h2, h3, h4, h5⟩
      have e0 : (Str.ofString "").length = 0 := by decide +kernel
      have es : (((ys.map fun c => (⟨#[c]⟩ : Str)).map (·.length)).sum) = ys.length := by
        clear h1 h2 h3
        induction ys with
        | nil => rfl
        | cons a r ih =>
          rw [List.map_cons, List.map_cons, List.sum_cons, ih, List.length_cons]
          show 1 + r.length = r.length + 1
          omega
      refine ⟨_, D, _, rfl, rfl, .inl (.of h1), by rw [es, e0, h2]; omega, ?_⟩
      rw [join_signs]
      exact q _ H2 (by show ys.toArray.size = n; rw [List.size_toArray]; exact h2) (fun c hc => h3 c (by simpa using hc)) h4 h5
end
end K35
set_option Elab.async false
set_option linter.all false
set_option maxRecDepth 100000
set_option maxHeartbeats 4000000
namespace K35
open PySem PySem.Spec PyProof.Rows L2
open He (ga ma)
section
variable {P : Program} {w : World} {K : PySem.W.Frag} {mg : Str → Option Value} {base : Heap}
/-- the k-th name -/
def nameOf (b e : Str) (x : Int) (k : Nat) : Str := (b ++ ⟨#[letterAt ((x + 3 * (k : Int)) % 26)]⟩) ++ e
theorem tl_name (b e : Str) (x : Int) (k : Nat) : (nameOf b e x k).cps.toList = (b.cps.toList ++ [letterAt ((x + 3 * (k : Int)) % 26)]) ++ e.cps.toList := by
  show ((b.cps ++ #[letterAt ((x + 3 * (k : Int)) % 26)]) ++ e.cps).toList = _
  simp
theorem str_len (z : Str) : z.length = z.cps.toList.length := by simp [Str.length]
theorem name_good {b e : Str} {x : Int} {k : Nat} (hb : b.length ≤ 3) (he : e.length ≤ 3) (cb : ∀ c ∈ b.cps.toList, c ∈ letters) (ce : ∀ c ∈ e.cps.toList, c ∈ letters) : GoodN (nameOf b e x k) := by
  have h0 : (0 : Int) ≤ (x + 3 * (k : Int)) % 26 := Int.emod_nonneg _ (by decide)
  have h1 : (x + 3 * (k : Int)) % 26 < 26 := Int.emod_lt_of_pos _ (by decide)
  have l2 := (letter_at h0 h1).2
  have hl : (nameOf b e x k).length = b.length + 1 + e.length := by
    rw [str_len, tl_name, List.length_append, List.length_append, ← str_len, ← str_len]
    rfl
  refine ⟨fun c hc => ?_, by omega, by omega⟩
  rw [tl_name] at hc
  rcases List.mem_append.mp hc with hc | hc
  · rcases List.mem_append.mp hc with hc | hc
    · exact cb c hc
    · rw [List.mem_singleton.mp hc]; exact l2
  · exact ce c hc
theorem name_inj {b e : Str} {x : Int} {j k : Nat} (hj : j < 5) (hk : k < 5) (h : nameOf b e x j = nameOf b e x k) : j = k := by
  have h1 := congrArg (fun z : Str => z.cps.toList) h
  simp only [tl_name] at h1
  have h2 := List.append_cancel_right h1
  have h3 := List.append_cancel_left h2
  injection h3 with h4 _
  have a0 : (0 : Int) ≤ (x + 3 * (j : Int)) % 26 := Int.emod_nonneg _ (by decide)
  have a1 : (x + 3 * (j : Int)) % 26 < 26 := Int.emod_lt_of_pos _ (by decide)
  have b0 : (0 : Int) ≤ (x + 3 * (k : Int)) % 26 := Int.emod_nonneg _ (by decide)
  have b1 : (x + 3 * (k : Int)) % 26 < 26 := Int.emod_lt_of_pos _ (by decide)
  have h5 := letter_inj a0 a1 b0 b1 h4
  omega
def namesOf (b e : Str) (x : Int) (n : Nat) : List Str := (List.range n).map (nameOf b e x)
theorem names_nd (b e : Str) (x : Int) : (namesOf b e x 5).Nodup := by
  refine List.pairwise_map.mpr (List.Pairwise.imp_of_mem (fun {a c} ha hc hne h => hne (name_inj (List.mem_range.mp ha) (List.mem_range.mp hc) h)) List.nodup_range)
def spNames : Sp := fun vs H Q _ => ∃ (p l : Addr), vs = [.ref p, .int 5] ∧ StOk H p l ∧ ∀ (a : Addr) (ns : List Str) H', H a = none → H' a = some (.lst (ns.map V.str)) → ns.length = 5 → ns.Nodup → (∀ f ∈ ns, GoodN f) → StOk H' p l → But p H H' → Q (.ref a) H'
abbrev n_l_names : List Str := ["_law_state_here", "_law_count", "_law_letters", "_law_before", "_law_behind", "_law_first", "_law_k"]
theorem sc_l_names : FnScope n_l_names ["_law_state_here", "_law_count"] (defScope s_l_names) := ⟨rfl, rfl, rfl, by decide +kernel, rfl, by decide +kernel, by decide +kernel⟩
theorem ok_l_names (T : Env0K K mg) : FnOk P w K mg base CX0 5 (ga K "_law_names") T.fd_l_names ["_law_state_here", "_law_count"] spNames := by
  have G_l_draw := ok_l_draw (P := P) (w := w) (base := base) T
  have G_l_word := ok_l_word (P := P) (w := w) (base := base) T
  refine T.F_l_names.ok sc_l_names (fun vs H Q E h => ?_) (fun cdv A outer s H vs Q E hr h => ?_)
  · obtain ⟨p, l, rfl, _⟩ := h
    rfl
  · obtain ⟨p, l, rfl, hS, q⟩ := h
    refine ⟨_, PSs.nox (pss_cons (ps_set (i := 2) sc_l_names.nd rfl (Or.inr rfl) pe_str)
      (pss_cons (ps_set (i := 3) sc_l_names.nd rfl (Or.inr rfl) (pe_call G_l_word (hr.mono (by omega)) (by rfl) T.g_l_word T.F_l_word.kp T.b_l_word .nil pass0 (pa_cons (pv 0) (pa_cons (pe_call G_l_draw (hr.mono (by omega)) (by rfl) T.g_l_draw T.F_l_draw.kp T.b_l_draw .nil pass0 (pa_cons (pv 0) (pa_cons pe_int pa_nil))) pa_nil))))
      (pss_cons (ps_set (i := 4) sc_l_names.nd rfl (Or.inr rfl) (pe_call G_l_word (hr.mono (by omega)) (by rfl) T.g_l_word T.F_l_word.kp T.b_l_word .nil pass0 (pa_cons (pv 0) (pa_cons (pe_call G_l_draw (hr.mono (by omega)) (by rfl) T.g_l_draw T.F_l_draw.kp T.b_l_draw .nil pass0 (pa_cons (pv 0) (pa_cons pe_int pa_nil))) pa_nil))))
      (pss_cons (ps_set (i := 5) sc_l_names.nd rfl (Or.inr rfl) (pe_call G_l_draw (hr.mono (by omega)) (by rfl) T.g_l_draw T.F_l_draw.kp T.b_l_draw .nil pass0 (pa_cons (pv 0) (pa_cons pe_int pa_nil))))
      (pss_one (ps_ret (pe_lc (own := [("_law_k", 6)]) (g := gName 6) (tt := tYes) rfl sc_l_names.nd (pi_range1 (by rfl) T.f_range (pa_cons (pv 1) pa_nil)) (blkOk_by (own := [("_law_k", 6)]) (N := n_l_names) (sc := defScope s_l_names) (by decide +kernel)) (fun _ _ _ _ _ => pg_name (i := 6) sc_l_names.nd rfl (Or.inl rfl)) (fun _ _ _ _ _ => pts_nil) (fun _ _ _ _ _ => (pe_op op_add_str (pe_op op_add_str (pv 3) (pe_ix ix_str (pv 2) (pe_op op_mod (pe_callTy call_int1 (by rfl) T.f_int bt_int (pa_cons (pe_op op_add (pv 5) (pe_op op_mul pe_int (pv 6))) pa_nil)) pe_int) (fun _ _ => rfl))) (pv 4)))))))))), ?_⟩
    have hsl := sizeLine_eq
    refine ⟨_, rfl, _, rfl, p, l, 4, rfl, hS, by decide, by decide, fun x1 H1 hx1 s1 b1 => ?_⟩
    refine ⟨p, l, x1, rfl, s1, by omega, fun b H2 hb cb s2 b2 => ?_⟩
    refine ⟨_, rfl, _, rfl, p, l, 4, rfl, s2, by decide, by decide, fun x3 H3 hx3 s3 b3 => ?_⟩
    refine ⟨p, l, x3, rfl, s3, by omega, fun e H4 he ce s4 b4 => ?_⟩
    refine ⟨_, rfl, p, l, 26, rfl, s4, by decide, by decide, fun x H5 hx s5 b5 => ?_⟩
    have b05 : But p H H5 := (((b1.trans b2).trans b3).trans b4).trans b5
    refine ⟨_, rfl, (5 : Int), rfl, by decide, by decide, fun D hD => ?_⟩
    obtain ⟨hDp, hDl⟩ := s5.fresh hD
    have hD0 : H D = none := But.none b05 hD hDp
    refine lc_range (lo := 0) (n := 5) (fun i H6 => H6 = L2.upd H5 D (.lst ((namesOf b e (x : Int) i).map V.str))) rfl ?_ ?_
    · rintro i H6 hi rfl
      refine ⟨rfl, yesT (iteT ?_)⟩
      have h0 : (0 : Int) ≤ ((x : Int) + 3 * (i : Int)) % 26 := Int.emod_nonneg _ (by decide)
      have h1 : ((x : Int) + 3 * (i : Int)) % 26 < 26 := Int.emod_lt_of_pos _ (by decide)
      have l1 := (letter_at h0 h1).1
      have hadd : b.length + 1 ≤ sizeLine := by omega
      have hlen2 : (b ++ (⟨#[letterAt (((x : Int) + 3 * (i : Int)) % 26)]⟩ : Str)).length = b.length + 1 := by
        rw [str_len, str_len]
        show ((b.cps ++ #[_]).toList).length = _
        simp
      refine ⟨_, rfl, _, rfl, _, rfl, _, rfl, _, _, rfl, rfl, .inl ⟨by decide, by decide⟩, _, _, rfl, rfl, .inl ⟨_, rfl, _, _, rfl, rfl, (by show (0 : Int) < 26; decide), ?_⟩⟩
      refine ⟨_, _, letterAt (((x : Int) + 3 * (i : Int)) % 26), rfl, rfl, sL_len, (by rw [Int.zero_add]; exact l1), _, _, rfl, rfl, hadd, _, rfl, _, _, rfl, rfl, (by rw [hlen2]; omega), _, upd_same, (by rw [List.length_map]; unfold namesOf; rw [List.length_map, List.length_range]; omega), ?_⟩
      rw [upd_upd]
      have : namesOf b e (x : Int) (i + 1) = namesOf b e (x : Int) i ++ [nameOf b e (x : Int) i] := by
        unfold namesOf
        rw [List.range_succ, List.map_append]
        rfl
      rw [this, List.map_append]
      rfl
    · rintro H6 rfl
      refine q D _ _ hD0 upd_same (by unfold namesOf; rw [List.length_map, List.length_range]) (names_nd _ _ _) (fun f hf => ?_) (s5.upd hDp hDl) (But.same_new b05 hD0)
      obtain ⟨k, _, ek⟩ := List.mem_map.mp hf
      rw [← ek]
      exact name_good (by omega) (by omega) cb ce
/-! ### operations -/
structure OpsOk (ops : Ops) : Prop where
  nd : (nms ops).Nodup
  gd : ∀ f ∈ nms ops, GoodN f
  ar : ops.map (·.2) = [0, 0, 1, 2] ∨ ops.map (·.2) = [0, 0, 1, 2, 3]
def ops5 (ns : List Str) : Ops := ns.zip [0, 0, 1, 2, 3]
def spOperations : Sp := fun vs H Q _ => ∃ (p l : Addr), vs = [.ref p] ∧ StOk H p l ∧ ∀ (a : Addr) (ops : Ops) H', H a = none → OpsAt H' a ops → OpsOk ops → StOk H' p l → But p H H' → Q (.ref a) H'
abbrev n_l_operations : List Str := ["_law_state_here", "_law_names_here", "_law_arities", "_law_k"]
theorem sc_l_operations : FnScope n_l_operations ["_law_state_here"] (defScope s_l_operations) := ⟨rfl, rfl, rfl, by decide +kernel, rfl, by decide +kernel, by decide +kernel⟩
theorem ops5_ok {ns : List Str} (hl : ns.length = 5) (hn : ns.Nodup) (hg : ∀ f ∈ ns, GoodN f) {c : Nat} (hc : c = 4 ∨ c = 5) : OpsOk ((ops5 ns).take c) := by
  match ns, hl with
  | [a, b, c', d, e], _ =>
    rcases hc with rfl | rfl
    · refine ⟨?_, fun f hf => hg f ?_, .inl rfl⟩
      · show [a, b, c', d].Nodup
        exact List.Nodup.sublist (List.Sublist.cons₂ _ (List.Sublist.cons₂ _ (List.Sublist.cons₂ _ (List.Sublist.cons₂ _ (List.nil_sublist _))))) hn
      · have : f ∈ [a, b, c', d] := hf
        simp only [List.mem_cons, List.not_mem_nil, or_false] at this ⊢
        rcases this with h | h | h | h
        · exact .inl h
        · exact .inr (.inl h)
        · exact .inr (.inr (.inl h))
        · exact .inr (.inr (.inr (.inl h)))
    · exact ⟨hn, hg, .inr rfl⟩
theorem ops5_at {ns : List Str} (hl : ns.length = 5) {k : Nat} (hk : k < 5) : ∃ f n, (ops5 ns)[k]? = some (f, n) ∧ ns[k]? = some f ∧ ([0, 0, 1, 2, 3] : List Nat)[k]? = some n := by
  have h1 : ns[k]? = some (ns[k]'(by omega)) := List.getElem?_eq_getElem _
  have h2 : ([0, 0, 1, 2, 3] : List Nat)[k]? = some (([0, 0, 1, 2, 3] : List Nat)[k]'hk) := List.getElem?_eq_getElem _
  refine ⟨_, _, ?_, h1, h2⟩
  unfold ops5
  rw [List.getElem?_zip_eq_some]
  exact ⟨h1, h2⟩
theorem ok_l_operations (T : Env0K K mg) : FnOk P w K mg base CX0 6 (ga K "_law_operations") T.fd_l_operations ["_law_state_here"] spOperations := by
  have G_l_draw := ok_l_draw (P := P) (w := w) (base := base) T
  have G_l_names := ok_l_names (P := P) (w := w) (base := base) T
  refine T.F_l_operations.ok sc_l_operations (fun vs H Q E h => ?_) (fun cdv A outer s H vs Q E hr h => ?_)
  · obtain ⟨p, l, rfl, _⟩ := h
    rfl
  · obtain ⟨p, l, rfl, hS, q⟩ := h
    refine ⟨_, PSs.nox (pss_cons (ps_set (i := 1) sc_l_operations.nd rfl (Or.inr rfl) (pe_call G_l_names (hr.mono (by omega)) (by rfl) T.g_l_names T.F_l_names.kp T.b_l_names .nil pass0 (pa_cons (pv 0) (pa_cons pe_int pa_nil))))
      (pss_cons (ps_set (i := 2) sc_l_operations.nd rfl (Or.inr rfl) (pe_lst (pa_cons pe_int (pa_cons pe_int (pa_cons pe_int (pa_cons pe_int (pa_cons pe_int pa_nil)))))))
      (pss_one (ps_ret (pe_lc (own := [("_law_k", 3)]) (g := gName 3) (tt := tYes) rfl sc_l_operations.nd (pi_range1 (by rfl) T.f_range (pa_cons (pe_op op_add pe_int (pe_call G_l_draw (hr.mono (by omega)) (by rfl) T.g_l_draw T.F_l_draw.kp T.b_l_draw .nil pass0 (pa_cons (pv 0) (pa_cons pe_int pa_nil)))) pa_nil)) (blkOk_by (own := [("_law_k", 3)]) (N := n_l_operations) (sc := defScope s_l_operations) (by decide +kernel)) (fun _ _ _ _ _ => pg_name (i := 3) sc_l_operations.nd rfl (Or.inl rfl)) (fun _ _ _ _ _ => pts_nil) (fun _ _ _ _ _ => (pe_tup (pa_cons (pe_ix (r := rIxL K) ix_list (pv 1) (pv 3) (fun _ _ => rfl)) (pa_cons (pe_ix (r := rIxL K) ix_list (pv 2) (pv 3) (fun _ _ => rfl)) pa_nil))))))))), ?_⟩
    have hsl := sizeLine_eq
    refine ⟨_, rfl, p, l, rfl, hS, fun a ns H1 ha0 ha hlen hnd hgd s1 b1 => ?_⟩
    refine ⟨by show 5 ≤ sizeLine; omega, fun r hr0 => ?_⟩
    obtain ⟨hrp, hrl⟩ := s1.fresh hr0
    have hra : a ≠ r := ne_of_none ha hr0
    have s2 := s1.upd (o := .lst [.int 0, .int 0, .int 1, .int 2, .int 3]) hrp hrl
    have b2 : But p H (L2.upd H1 r (.lst [.int 0, .int 0, .int 1, .int 2, .int 3])) := b1.trans (But.of_same (same_upd hr0))
    have ha2 : L2.upd H1 r (.lst [.int 0, .int 0, .int 1, .int 2, .int 3]) a = some (.lst (ns.map V.str)) := by rw [upd_ne hra]; exact ha
    have hap : a ≠ p := fun e => by obtain ⟨xs, h⟩ := hS.lst; rw [e, h] at ha0; cases ha0
    refine ⟨_, rfl, p, l, 2, rfl, s2, by decide, by decide, fun x H3 hx s3 b3 => ?_⟩
    have b03 := b2.trans b3
    have ha3 := b3 _ _ hap ha2
    have hr3 := b3 _ _ hrp (show _ = some (HO.lst [V.int 0, V.int 0, V.int 1, V.int 2, V.int 3]) from upd_same)
    refine ⟨_, _, rfl, rfl, _, rfl, by omega, by omega, fun D hD => ?_⟩
    obtain ⟨hDp, hDl⟩ := s3.fresh hD
    have hD0 : H D = none := But.none b03 hD hDp
    have ec : ((4 : Int) + (x : Int)).toNat = 4 + x := by omega
    rw [ec]
    have hc : 4 + x = 4 ∨ 4 + x = 5 := by omega
    refine lc_range (lo := 0) (n := 4 + x) (fun i H6 => Same H3 H6 ∧ ∃ vs, H6 D = some (.lst vs) ∧ vs.length = i ∧ ∀ (k : Nat) (f : Str) (n : Nat) (v : V), (ops5 ns)[k]? = some (f, n) → vs[k]? = some v → ∃ t, v = .ref t ∧ H6 t = some (.tup [.str f, .int (n : Int)]))
      ⟨same_upd hD, [], upd_same, rfl, fun k f n v _ e => by simp at e⟩ ?_ ?_
    · rintro i H6 hi ⟨s6, vs, hvs, hvl, hvk⟩
      refine ⟨rfl, yesT (iteT ?_)⟩
      obtain ⟨f, n, e1, e2, e3⟩ := ops5_at hlen (k := i) (by omega)
      have g1 : (ns.map V.str)[i]? = some (.str f) := by rw [List.getElem?_map, e2]; rfl
      have g2 : ([.int 0, .int 0, .int 1, .int 2, .int 3] : List V)[i]? = some (.int (n : Int)) := by
        have : ([.int 0, .int 0, .int 1, .int 2, .int 3] : List V) = ([0, 0, 1, 2, 3] : List Nat).map fun (n : Nat) => V.int (n : Int) := rfl
        rw [this, List.getElem?_map, e3]
        rfl
      refine ⟨_, rfl, _, rfl, a, _, _, _, rfl, rfl, .of (s6 _ _ ha3), (by rw [Int.zero_add]; exact atI_nat g1), _, rfl, _, rfl, r, _, _, _, rfl, rfl, .of (s6 _ _ hr3), (by rw [Int.zero_add]; exact atI_nat g2), by show 2 ≤ sizeLine; omega, fun t ht => ?_⟩
      have htD : D ≠ t := ne_of_none hvs ht
      have s7 : Same H6 (L2.upd H6 t (.tup [.str f, .int (n : Int)])) := same_upd ht
      refine ⟨vs, by rw [upd_ne htD]; exact hvs, by omega, same_new (s6.trans s7) hD, vs ++ [.ref t], upd_same, by rw [List.length_append, hvl]; rfl, fun k f' n' v k1 k2 => ?_⟩
      by_cases hki : k < i
      · rw [List.getElem?_append_left (by omega)] at k2
        obtain ⟨t', e4, e5⟩ := hvk k f' n' v k1 k2
        refine ⟨t', e4, ?_⟩
        rw [upd_ne (ne_of e5 hvs (by intro z; cases z)), upd_ne (ne_of_none e5 ht)]
        exact e5
      · have hki' : k = i := by
          have := (List.getElem?_eq_some_iff.mp k2).1
          rw [List.length_append] at this
          simp only [List.length_singleton] at this
          omega
        subst hki'
        rw [List.getElem?_append_right (by omega), hvl, Nat.sub_self] at k2
        have ev : V.ref t = v := Option.some.inj k2
        rw [e1] at k1
        cases k1
        exact ⟨t, ev.symm, by rw [upd_ne htD.symm]; exact upd_same⟩
    · rintro H6 ⟨s6, vs, hvs, hvl, hvk⟩
      have h5l : (ops5 ns).length = 5 := by unfold ops5; rw [List.length_zip, hlen]; rfl
      refine q D _ H6 hD0 ⟨vs, hvs, by rw [List.length_take, h5l, hvl]; omega, fun k f n v k1 k2 => ?_⟩ (ops5_ok hlen hnd hgd hc) (s3.keep s6) (b03.trans (But.of_same s6))
      have hk : k < 4 + x := by have := (List.getElem?_eq_some_iff.mp k2).1; omega
      rw [List.getElem?_take_of_lt hk] at k1
      exact hvk k f n v k1 k2
end
end K35
set_option Elab.async false
set_option linter.all false
set_option maxRecDepth 100000
set_option maxHeartbeats 4000000
namespace K35
open PySem PySem.Spec PyProof.Rows L2
open He (ga ma)
/-! ### operations: what is at a place -/
theorem OpsOk.len {ops : Ops} (h : OpsOk ops) : 4 ≤ ops.length ∧ ops.length ≤ 5 := by
  rcases h.ar with e | e <;> (have := congrArg List.length e; simp only [List.length_map, List.length_cons, List.length_nil] at this; omega)
theorem OpsOk.ar3 {ops : Ops} (h : OpsOk ops) : ∀ x ∈ ops, x.2 ≤ 3 := fun x hx => by
  have hm : x.2 ∈ ops.map (·.2) := List.mem_map.mpr ⟨x, hx, rfl⟩
  rcases h.ar with e | e <;> (rw [e] at hm; simp only [List.mem_cons, List.not_mem_nil, or_false] at hm; omega)
theorem OpsOk.const {ops : Ops} (h : OpsOk ops) {k : Nat} (hk : k < 2) : ∃ f, ops[k]? = some (f, 0) := by
  have hl := h.len
  have e1 : ops[k]? = some (ops[k]'(by omega)) := List.getElem?_eq_getElem _
  have e2 : (ops.map (·.2))[k]? = some (ops[k]'(by omega)).2 := by rw [List.getElem?_map, e1]; rfl
  have e3 : (ops[k]'(by omega)).2 = 0 := by
    have hk2 : k = 0 ∨ k = 1 := by omega
    rcases h.ar with e | e
    · rw [e] at e2
      rcases hk2 with rfl | rfl
      · exact (Option.some.inj e2).symm
      · exact (Option.some.inj e2).symm
    · rw [e] at e2
      rcases hk2 with rfl | rfl
      · exact (Option.some.inj e2).symm
      · exact (Option.some.inj e2).symm
  exact ⟨(ops[k]'(by omega)).1, by rw [e1, ← e3]⟩
structure OpsIn (H : Hp) (p lo : Addr) (ops : Ops) : Prop where
  at_ : OpsAt H lo ops
  ne : lo ≠ p
  ok : OpsOk ops
theorem OpsIn.but {H H' : Hp} {p l lo : Addr} {ops : Ops} (h : OpsIn H p lo ops) (s : StOk H p l) (b : But p H H') : OpsIn H' p lo ops := by
  obtain ⟨vs, h1, _⟩ := id h.at_
  exact ⟨h.at_.keep ((b _ _ h.ne h1).trans h1.symm) (b.kt s), h.ne, h.ok⟩
/-- a term is made -/
structure Md (ops : Ops) (p l : Addr) (d z : Nat) (H H' : Hp) (t : T) (v : V) : Prop where
  tm : TmAt H' t v
  wf : Wf ops t
  dp : t.depth ≤ d
  sz : t.size ≤ z
  st : StOk H' p l
  but : But p H H'
theorem sizeL_le {z : Nat} : ∀ {ts : List T}, (∀ t ∈ ts, t.size ≤ z) → sizeL ts ≤ ts.length * z
  | [], _ => by simp [sizeL]
  | t :: ts, h => by
    have h1 := h t (List.mem_cons_self ..)
    have h2 := sizeL_le fun u hu => h u (List.mem_cons_of_mem _ hu)
    simp only [sizeL, List.length_cons, Nat.add_mul, Nat.one_mul]
    omega
theorem TmAt.snoc {H H' : Hp} {f : Str} {as : List T} {a b : Addr} {vs : List V} {t : T} {v : V} (h : TmAt H (.app f as) (.ref a)) (ha : H a = some (.tup (.str f :: vs))) (k : KpT H H') (ht : TmAt H' t v) (hb : H' b = some (.tup ((.str f :: vs) ++ [v]))) : TmAt H' (.app f (as ++ [t])) (.ref b) := by
  obtain ⟨a', vs', e, h1, h2, h3⟩ := h.inv
  cases e
  rw [ha] at h1
  cases h1
  refine .app (vs := vs ++ [v]) hb (by simp [h2]) fun j u x e1 e2 => ?_
  by_cases hj : j < as.length
  · rw [List.getElem?_append_left hj] at e1
    rw [List.getElem?_append_left (by omega)] at e2
    exact (h3 j u x e1 e2).kt k
  · have hlt := (List.getElem?_eq_some_iff.mp e1).1
    rw [List.length_append] at hlt
    simp only [List.length_singleton] at hlt
    have : j = as.length := by omega
    subst this
    rw [List.getElem?_append_right (Nat.le_refl _), Nat.sub_self] at e1
    rw [List.getElem?_append_right (by omega), h2, Nat.sub_self] at e2
    cases e1
    cases e2
    exact ht
section
variable {P : Program} {w : World} {K : PySem.W.Frag} {mg : Str → Option Value} {base : Heap}
/-- a constant is made: ops[draw(2)][0] in a tuple of its own -/
def spLeaf : Sp := fun vs H Q _ => ∃ (p l lo : Addr) (ops : Ops), vs = [.ref p, .ref lo, .int 3] ∧ StOk H p l ∧ OpsIn H p lo ops ∧ ∀ t v H', Md ops p l 1 1 H H' t v → Q v H'
abbrev n_l_leaf : List Str := ["_law_state_here", "_law_operations_here", "_law_count"]
theorem sc_l_leaf : FnScope n_l_leaf ["_law_state_here", "_law_operations_here", "_law_count"] (defScope s_l_leaf) := ⟨rfl, rfl, rfl, by decide +kernel, rfl, by decide +kernel, by decide +kernel⟩
/-- the reading of (ops[draw(2)][0],) -/
theorem rd_const {σ : L2.St} {H : Hp} {Q : VK} {p l lo : Addr} {ops : Ops} (h0 : σ[0]? = some (some (.ref p))) (h1 : σ[1]? = some (some (.ref lo))) (hS : StOk H p l) (hO : OpsIn H p lo ops) (q : ∀ f b H', (f, 0) ∈ ops → Md ops p l 1 1 H H' (.app f []) (.ref b) → Q (.ref b) H') :
    tTup (tCons (tOp (rIxT K) (tOp (rIxL K) (tVar 1) (tCall spDraw [] E0 (tCons (tVar 0) (tCons (tC (.int 2)) tNil)))) (tC (.int 0))) tNil) σ H Q := by
  refine ⟨_, h1, _, h0, p, l, 2, rfl, hS, by decide, by decide, fun x H1 hx s1 b1 => ?_⟩
  have O1 := hO.but hS b1
  obtain ⟨f, ef⟩ := hO.ok.const (k := x) (by omega)
  obtain ⟨vs, t, a1, a2, a3⟩ := O1.at_.get ef
  refine ⟨lo, vs, (x : Int), .ref t, rfl, rfl, .of a1, atI_nat a2, t, _, 0, .str f, rfl, rfl, .of a3, at0 _ _, by show 1 ≤ sizeLine; decide, fun b hb => ?_⟩
  obtain ⟨n1, n2⟩ := s1.fresh hb
  refine q f b _ (List.mem_of_getElem? ef) ⟨.app (vs := []) upd_same rfl (fun k t v e _ => by simp at e), .app (List.mem_of_getElem? ef) (fun a ha => nomatch ha), by simp [Tm.depth, depthL], by simp [Tm.size, sizeL], s1.upd n1 n2, b1.trans (But.of_same (same_upd hb))⟩
theorem ok_l_leaf (T : Env0K K mg) : FnOk P w K mg base CX0 4 (ga K "_law_leaf") T.fd_l_leaf ["_law_state_here", "_law_operations_here", "_law_count"] spLeaf := by
  have G_l_draw := ok_l_draw (P := P) (w := w) (base := base) T
  refine T.F_l_leaf.ok sc_l_leaf (fun vs H Q E h => ?_) (fun cdv A outer s H vs Q E hr h => ?_)
  · obtain ⟨p, l, lo, ops, rfl, _⟩ := h
    rfl
  · obtain ⟨p, l, lo, ops, rfl, hS, hO, q⟩ := h
    refine ⟨_, PSs.nox (pss_cons (ps_if (PW.pt (pw_and (pt_cmpR op_gt (pv 2) pe_int (nomark _)) (pw_and1 (pt_cmpR op_eq (pe_call G_l_draw (hr.mono (by omega)) (by rfl) T.g_l_draw T.F_l_draw.kp T.b_l_draw .nil pass0 (pa_cons (pv 0) (pa_cons pe_int pa_nil))) pe_int (nomark _)))))
        (pss_one (ps_ret (pe_call G_l_draw (hr.mono (by omega)) (by rfl) T.g_l_draw T.F_l_draw.kp T.b_l_draw .nil pass0 (pa_cons (pv 0) (pa_cons (pv 2) pa_nil)))))
        pss_nil)
      (pss_one (ps_ret (pe_tup (pa_cons (pe_ix ix_tup (pe_ix ix_list (pv 1) (pe_call G_l_draw (hr.mono (by omega)) (by rfl) T.g_l_draw T.F_l_draw.kp T.b_l_draw .nil pass0 (pa_cons (pv 0) (pa_cons pe_int pa_nil))) (fun _ _ => rfl)) pe_int (fun _ _ => rfl)) pa_nil))))), ?_⟩
    refine ⟨_, rfl, _, _, rfl, rfl, _, rfl, iteT ?_⟩
    refine ⟨_, rfl, p, l, 2, rfl, hS, by decide, by decide, fun x H1 hx s1 b1 => ⟨rfl, _, rfl, ?_⟩⟩
    refine ite2 (fun _ => ?_) (fun _ => ?_)
    · refine ⟨_, rfl, _, rfl, p, l, 3, rfl, s1, by decide, by decide, fun y H2 hy s2 b2 => ?_⟩
      exact q (.var (y : Int)) _ _ ⟨.var _, .var (by omega) hy, by simp [Tm.depth], by simp [Tm.size], s2, b1.trans b2⟩
    · exact rd_const rfl rfl s1 (hO.but hS b1) fun f b H2 hf M => q _ _ _ ⟨M.tm, M.wf, M.dp, M.sz, M.st, b1.trans M.but⟩
/-! ### terms -/
def szB : Nat → Nat
  | 0 => 1
  | h + 1 => 1 + 3 * szB h
theorem szB_pos : ∀ h, 1 ≤ szB h
  | 0 => Nat.le_refl _
  | h + 1 => by unfold szB; omega
def spTerm (n : Nat) : Sp := fun vs H Q _ => ∃ (p l lo : Addr) (ops : Ops) (h : Nat), vs = [.ref p, .ref lo, .int 3, .int (h : Int)] ∧ h < n ∧ StOk H p l ∧ OpsIn H p lo ops ∧ ∀ t v H', Md ops p l (h + 1) (szB h) H H' t v → Q v H'
/-- the loop over the arguments -/
theorem rd_args {D : Ends} {H : Hp} {n h' : Nat} {p l lo a0 : Addr} {ops : Ops} {f : Str} {ar : Nat} {v3 : V} {y0 : Option V} {targs : TA} (hf : (f, ar) ∈ ops) (hS : StOk H p l) (hO : OpsIn H p lo ops) (h0 : H a0 = some (.tup [.str f])) (hn : h' < n)
    (ht : ∀ (a : Addr) (y : Option V) (H1 : Hp) (Q : List V → Hp → Prop), Q [.ref p, .ref lo, .int 3, .int (h' : Int)] H1 → targs [some (.ref p), some (.ref lo), some (.int 3), some v3, some (.str f), some (.int (ar : Int)), some (.ref a), y] H1 Q)
    (q : ∀ (as : List T) (a : Addr) (y : Option V) H', as.length = ar → Md ops p l (h' + 2) (1 + 3 * szB h') H H' (.app f as) (.ref a) → D.nx [some (.ref p), some (.ref lo), some (.int 3), some v3, some (.str f), some (.int (ar : Int)), some (.ref a), y] H') :
    tFor (iRng1 (tCons (tVar 5) tNil)) (gName 7) (tAsg (tOp (rCatA K) (tVar 6) (tTup (tCons (tCall (spTerm n) [] E0 targs) tNil))) (gName 6)) D [some (.ref p), some (.ref lo), some (.int 3), some v3, some (.str f), some (.int (ar : Int)), some (.ref a0), y0] H := by
  have har := hO.ok.ar3 _ hf
  simp only at har
  refine ⟨_, rfl, (ar : Int), rfl, by omega, by omega, ?_⟩
  rw [Int.toNat_natCast]
  refine for_range (lo := 0) (n := ar) (fun i σ H2 => ∃ (as : List K35.T) (a : Addr) (vs : List V) (y : Option V), σ = [some (.ref p), some (.ref lo), some (.int 3), some v3, some (.str f), some (.int (ar : Int)), some (.ref a), y] ∧ as.length = i ∧ H2 a = some (.tup (.str f :: vs)) ∧ TmAt H2 (.app f as) (.ref a) ∧
      (∀ t ∈ as, Wf ops t ∧ t.depth ≤ h' + 1 ∧ t.size ≤ szB h') ∧ StOk H2 p l ∧ But p H H2)
    ⟨[], a0, [], y0, rfl, rfl, h0, .app (vs := []) h0 rfl (fun k t v e _ => by simp at e), fun t ht => (nomatch ht), hS, But.refl _ _⟩ ?_ ?_
  · rintro i σ H2 hi ⟨as, a, vs, y, rfl, hlen, ha, tm, hall, s2, b2⟩
    refine ⟨_, rfl, ht _ _ _ _ ?_⟩
    refine ⟨p, l, lo, ops, h', rfl, hn, s2, hO.but hS b2, fun t v H3 M => ?_⟩
    have kt3 := M.but.kt s2
    refine ⟨by show 1 ≤ sizeLine; decide, fun c hc => ?_⟩
    have hvl : as.length = vs.length := by
      obtain ⟨a', vs', e, h1, h2, _⟩ := tm.inv
      cases e
      rw [ha] at h1
      cases h1
      exact h2
    have hsl := sizeLine_eq
    have s4 : Same H3 (L2.upd H3 c (.tup [v])) := same_upd hc
    refine ⟨a, c, _, _, rfl, rfl, .of (s4 _ _ (kt3 _ _ ha)), .of upd_same, ?_, (fun e => nomatch e), (fun _ e => nomatch e), fun _ _ b hb => ?_⟩
    · simp only [List.length_cons, List.length_nil]; omega
    have s5 : Same (L2.upd H3 c (.tup [v])) (L2.upd (L2.upd H3 c (.tup [v])) b (.tup ((.str f :: vs) ++ [v]))) := same_upd hb
    refine ⟨as ++ [t], b, vs ++ [v], _, rfl, by rw [List.length_append, hlen]; rfl, upd_same, ?_, ?_, M.st.keep (s4.trans s5), (b2.trans M.but).trans (But.of_same (s4.trans s5))⟩
    · exact tm.snoc ha (kt3.trans (kt_same (s4.trans s5))) (M.tm.kt (kt_same (s4.trans s5))) upd_same
    · intro u hu
      rcases List.mem_append.mp hu with hu | hu
      · exact hall u hu
      · rw [List.mem_singleton.mp hu]
        exact ⟨M.wf, M.dp, M.sz⟩
  · rintro σ H2 ⟨as, a, vs, y, rfl, hlen, ha, tm, hall, s2, b2⟩
    refine q as a y H2 hlen ⟨tm, .app (by rw [hlen]; exact hf) (fun t ht => (hall t ht).1), ?_, ?_, s2, b2⟩
    · have := depthL_le (d := h' + 1) fun t ht => (hall t ht).2.1
      simp only [Tm.depth]
      omega
    · have h1 := sizeL_le (z := szB h') fun t ht => (hall t ht).2.2
      have h2 : as.length * szB h' ≤ 3 * szB h' := Nat.mul_le_mul_right _ (by omega)
      simp only [Tm.size]
      omega
/-- an operation with arguments is drawn: ops[2 + draw(len(ops) - 2)], unpacked -/
theorem rd_pick {D : Ends} {H : Hp} {p l lo : Addr} {ops : Ops} {v3 : V} {y4 y5 y6 y7 : Option V} (hS : StOk H p l) (hO : OpsIn H p lo ops)
    (q : ∀ (f : Str) (ar : Nat) H', (f, ar) ∈ ops → StOk H' p l → But p H H' → D.nx [some (.ref p), some (.ref lo), some (.int 3), some v3, some (.str f), some (.int (ar : Int)), y6, y7] H') :
    tAsg (tOp (rIxL K) (tVar 1) (tOp (rI0 fun i j => .int (i + j)) (tC (.int 2)) (tCall spDraw [] E0 (tCons (tVar 0) (tCons (tOp (rI0 fun i j => .int (i - j)) (tCB (fun xs H Q => ∃ p ys, xs = [.ref p] ∧ (SqL K H p ys ∨ SqT K H p ys) ∧ Q (.int ys.length) H) (tCons (tVar 1) tNil)) (tC (.int 2))) tNil)))))
      (gTup K 2 (gCons (gName 4) (gCons (gName 5) gNil))) D [some (.ref p), some (.ref lo), some (.int 3), some v3, y4, y5, y6, y7] H := by
  obtain ⟨vs, h1, h2, _⟩ := id hO.at_
  have hl := hO.ok.len
  refine ⟨_, rfl, _, rfl, _, rfl, lo, vs, rfl, .inl (.of h1), _, _, rfl, rfl, ?_⟩
  refine ⟨p, l, (vs.length : Int) - 2, rfl, hS, by omega, by omega, fun x H1 hx s1 b1 => ?_⟩
  have O1 := hO.but hS b1
  have hx2 : 2 + x < ops.length := by omega
  obtain ⟨f, ar, ef⟩ : ∃ f ar, ops[2 + x]? = some (f, ar) := ⟨(ops[2 + x]).1, (ops[2 + x]).2, List.getElem?_eq_getElem hx2⟩
  obtain ⟨vs', t, a1, a2, a3⟩ := O1.at_.get ef
  refine ⟨_, _, rfl, rfl, lo, vs', _, .ref t, rfl, rfl, .of a1, ?_, t, _, rfl, .of a3, rfl, _, _, rfl, _, _, rfl, rfl, q f ar H1 (List.mem_of_getElem? ef) s1 b1⟩
  have := atI_nat a2
  rw [show ((2 + x : Nat) : Int) = 2 + (x : Int) by omega] at this
  exact this
abbrev n_l_term : List Str := ["_law_state_here", "_law_operations_here", "_law_count", "_law_height", "_law_name", "_law_arity", "_law_term_here", "_law_k"]
theorem sc_l_term : FnScope n_l_term ["_law_state_here", "_law_operations_here", "_law_count", "_law_height"] (defScope s_l_term) := ⟨rfl, rfl, rfl, by decide +kernel, rfl, by decide +kernel, by decide +kernel⟩
theorem ok_l_term (T : Env0K K mg) : ∀ n : Nat, FnOk P w K mg base CX0 (n + 5) (ga K "_law_term") T.fd_l_term ["_law_state_here", "_law_operations_here", "_law_count", "_law_height"] (spTerm n) := by
  intro n
  induction n with
  | zero =>
    refine T.F_l_term.ok sc_l_term (fun vs H Q E h => ?_) (fun cdv A outer s H vs Q E hr h => ?_)
    · obtain ⟨p, l, lo, ops, h, rfl, _⟩ := h
      rfl
    · obtain ⟨p, l, lo, ops, h, rfl, hh, _⟩ := h
      omega
  | succ n G_l_term =>
    have G_l_draw := ok_l_draw (P := P) (w := w) (base := base) T
    have G_l_leaf := ok_l_leaf (P := P) (w := w) (base := base) T
    refine T.F_l_term.ok sc_l_term (fun vs H Q E h => ?_) (fun cdv A outer s H vs Q E hr h => ?_)
    · obtain ⟨p, l, lo, ops, h, rfl, _⟩ := h
      rfl
    · obtain ⟨p, l, lo, ops, h, rfl, hh, hS, hO, q⟩ := h
      refine ⟨_, PSs.nox (pss_cons (ps_if (PW.pt (pw_or (pt_cmpR op_eq (pv 3) pe_int (nomark _)) (pw_or1 (pt_cmpR op_eq (pe_call G_l_draw (hr.mono (by omega)) (by rfl) T.g_l_draw T.F_l_draw.kp T.b_l_draw .nil pass0 (pa_cons (pv 0) (pa_cons pe_int pa_nil))) pe_int (nomark _)))))
        (pss_one (ps_ret (pe_call G_l_leaf (hr.mono (by omega)) (by rfl) T.g_l_leaf T.F_l_leaf.kp T.b_l_leaf .nil pass0 (pa_cons (pv 0) (pa_cons (pv 1) (pa_cons (pv 2) pa_nil))))))
        pss_nil)
      (pss_cons (ps_asg (pe_ix ix_list (pv 1) (pe_op op_add pe_int (pe_call G_l_draw (hr.mono (by omega)) (by rfl) T.g_l_draw T.F_l_draw.kp T.b_l_draw .nil pass0 (pa_cons (pv 0) (pa_cons (pe_op op_sub (pe_callB call_len_seq (by rfl) T.f_len bt_len (pa_cons (pv 1) pa_nil)) pe_int) pa_nil)))) (fun _ _ => rfl)) (pg_tup rfl (pgs_cons (pg_name (i := 4) sc_l_term.nd rfl (Or.inl rfl)) (pgs_cons (pg_name (i := 5) sc_l_term.nd rfl (Or.inl rfl)) pgs_nil))))
      (pss_cons (ps_set (i := 6) sc_l_term.nd rfl (Or.inl rfl) (pe_tup (pa_cons (pv 4) pa_nil)))
      (pss_cons (ps_for PassesOwn.never rfl (pi_range1 (by rfl) T.f_range (pa_cons (pv 5) pa_nil)) (pg_name (i := 7) sc_l_term.nd rfl (Or.inl rfl))
        (pss_one (ps_set (i := 6) sc_l_term.nd rfl (Or.inl rfl) (pe_op op_catA (pv 6) (pe_tup (pa_cons (pe_call G_l_term (hr.mono (by omega)) (by rfl) T.g_l_term T.F_l_term.kp T.b_l_term .nil pass0 (pa_cons (pv 0) (pa_cons (pv 1) (pa_cons (pv 2) (pa_cons (pe_op op_sub (pv 3) pe_int) pa_nil))))) pa_nil))))))
      (pss_one (ps_ret (pv 6))))))), ?_⟩
      have lf : ∀ H1, StOk H1 p l → But p H H1 → spLeaf [.ref p, .ref lo, .int 3] H1 Q E0 := fun H1 s1 b1 => ⟨p, l, lo, ops, rfl, s1, hO.but hS b1, fun t v H2 M =>
        q t v H2 ⟨M.tm, M.wf, by have := M.dp; omega, by have := M.sz; have := szB_pos h; omega, M.st, b1.trans M.but⟩⟩
      refine ⟨_, rfl, rfl, _, rfl, ?_⟩
      by_cases h0 : h = 0
      · subst h0
        rw [decide_eq_true (show V.int ((0 : Nat) : Int) = V.int 0 from rfl)]
        refine iteT (iteT ?_)
        exact ⟨_, rfl, _, rfl, _, rfl, lf H hS (But.refl _ _)⟩
      · rw [decide_eq_false (show ¬ V.int (h : Int) = V.int 0 from fun z => by injection z with z; omega)]
        refine iteF ?_
        refine ⟨_, rfl, p, l, 4, rfl, hS, by decide, by decide, fun x H1 hx s1 b1 => ⟨rfl, _, rfl, ?_⟩⟩
        refine ite2 (fun _ => ?_) (fun _ => ?_)
        · exact ⟨_, rfl, _, rfl, _, rfl, lf H1 s1 b1⟩
        · refine rd_pick s1 (hO.but hS b1) fun f ar H2 hf s2 b2 => ?_
          refine ⟨_, rfl, by show 1 ≤ sizeLine; decide, fun a ha => ?_⟩
          obtain ⟨h', rfl⟩ : ∃ h', h = h' + 1 := ⟨h - 1, by omega⟩
          have s3 : Same H2 (L2.upd H2 a (.tup [.str f])) := same_upd ha
          have b3 : But p H (L2.upd H2 a (.tup [.str f])) := (b1.trans b2).trans (But.of_same s3)
          refine rd_args (h' := h') hf (s2.keep s3) (hO.but hS b3) upd_same (by omega) (fun a y H1 Q hq => ⟨_, rfl, _, rfl, _, rfl, _, rfl, _, _, rfl, rfl, ?_⟩) fun as b y H4 hlen M => ?_
          · show Q [.ref p, .ref lo, .int 3, .int (((h' + 1 : Nat) : Int) - 1)] H1
            rw [show ((h' + 1 : Nat) : Int) - 1 = (h' : Int) by omega]
            exact hq
          · exact ⟨_, rfl, q _ _ _ ⟨M.tm, M.wf, M.dp, M.sz, M.st, b3.trans M.but⟩⟩
/-! ### an application -/
def spApp : Sp := fun vs H Q _ => ∃ (p l lo : Addr) (ops : Ops), vs = [.ref p, .ref lo, .int 3, .int 1] ∧ StOk H p l ∧ OpsIn H p lo ops ∧ ∀ f as v H', Md ops p l 3 13 H H' (.app f as) v → Q v H'
abbrev n_l_app : List Str := ["_law_state_here", "_law_operations_here", "_law_count", "_law_height", "_law_name", "_law_arity", "_law_term_here", "_law_k"]
theorem sc_l_app : FnScope n_l_app ["_law_state_here", "_law_operations_here", "_law_count", "_law_height"] (defScope s_l_app) := ⟨rfl, rfl, rfl, by decide +kernel, rfl, by decide +kernel, by decide +kernel⟩
theorem ok_l_app (T : Env0K K mg) : FnOk P w K mg base CX0 8 (ga K "_law_app") T.fd_l_app ["_law_state_here", "_law_operations_here", "_law_count", "_law_height"] spApp := by
  have G_l_draw := ok_l_draw (P := P) (w := w) (base := base) T
  have G_l_term := ok_l_term (P := P) (w := w) (base := base) T 2
  refine T.F_l_app.ok sc_l_app (fun vs H Q E h => ?_) (fun cdv A outer s H vs Q E hr h => ?_)
  · obtain ⟨p, l, lo, ops, rfl, _⟩ := h
    rfl
  · obtain ⟨p, l, lo, ops, rfl, hS, hO, q⟩ := h
    refine ⟨_, PSs.nox (pss_cons (ps_if (pt_cmpR op_eq (pe_call G_l_draw (hr.mono (by omega)) (by rfl) T.g_l_draw T.F_l_draw.kp T.b_l_draw .nil pass0 (pa_cons (pv 0) (pa_cons pe_int pa_nil))) pe_int (nomark _))
        (pss_one (ps_ret (pe_tup (pa_cons (pe_ix ix_tup (pe_ix ix_list (pv 1) (pe_call G_l_draw (hr.mono (by omega)) (by rfl) T.g_l_draw T.F_l_draw.kp T.b_l_draw .nil pass0 (pa_cons (pv 0) (pa_cons pe_int pa_nil))) (fun _ _ => rfl)) pe_int (fun _ _ => rfl)) pa_nil))))
        pss_nil)
      (pss_cons (ps_asg (pe_ix ix_list (pv 1) (pe_op op_add pe_int (pe_call G_l_draw (hr.mono (by omega)) (by rfl) T.g_l_draw T.F_l_draw.kp T.b_l_draw .nil pass0 (pa_cons (pv 0) (pa_cons (pe_op op_sub (pe_callB call_len_seq (by rfl) T.f_len bt_len (pa_cons (pv 1) pa_nil)) pe_int) pa_nil)))) (fun _ _ => rfl)) (pg_tup rfl (pgs_cons (pg_name (i := 4) sc_l_app.nd rfl (Or.inl rfl)) (pgs_cons (pg_name (i := 5) sc_l_app.nd rfl (Or.inl rfl)) pgs_nil))))
      (pss_cons (ps_set (i := 6) sc_l_app.nd rfl (Or.inl rfl) (pe_tup (pa_cons (pv 4) pa_nil)))
      (pss_cons (ps_for PassesOwn.never rfl (pi_range1 (by rfl) T.f_range (pa_cons (pv 5) pa_nil)) (pg_name (i := 7) sc_l_app.nd rfl (Or.inl rfl))
        (pss_one (ps_set (i := 6) sc_l_app.nd rfl (Or.inl rfl) (pe_op op_catA (pv 6) (pe_tup (pa_cons (pe_call G_l_term (hr.mono (by omega)) (by rfl) T.g_l_term T.F_l_term.kp T.b_l_term .nil pass0 (pa_cons (pv 0) (pa_cons (pv 1) (pa_cons (pv 2) (pa_cons (pv 3) pa_nil))))) pa_nil))))))
      (pss_one (ps_ret (pv 6))))))), ?_⟩
    refine ⟨_, rfl, p, l, 6, rfl, hS, by decide, by decide, fun x H1 hx s1 b1 => ⟨rfl, _, rfl, ?_⟩⟩
    refine ite2 (fun _ => ?_) (fun _ => ?_)
    · exact rd_const rfl rfl s1 (hO.but hS b1) fun f b H2 hf M => q f [] _ _ ⟨M.tm, M.wf, by have := M.dp; omega, by have := M.sz; omega, M.st, b1.trans M.but⟩
    · refine rd_pick s1 (hO.but hS b1) fun f ar H2 hf s2 b2 => ?_
      refine ⟨_, rfl, by show 1 ≤ sizeLine; decide, fun a ha => ?_⟩
      have s3 : Same H2 (L2.upd H2 a (.tup [.str f])) := same_upd ha
      have b3 : But p H (L2.upd H2 a (.tup [.str f])) := (b1.trans b2).trans (But.of_same s3)
      refine rd_args (h' := 1) hf (s2.keep s3) (hO.but hS b3) upd_same (by omega) (fun a y H1 Q hq => ⟨_, rfl, _, rfl, _, rfl, _, rfl, hq⟩) fun as b y H4 hlen M => ?_
      exact ⟨_, rfl, q _ _ _ _ ⟨M.tm, M.wf, M.dp, M.sz, M.st, b3.trans M.but⟩⟩
end
end K35
set_option Elab.async false
set_option linter.all false
set_option maxRecDepth 100000
set_option maxHeartbeats 4000000
namespace K35
open PySem PySem.Spec PyProof.Rows L2
open He (ga ma)
/-! ### the substitution -/
structure ValsAt (ops : Ops) (s : Int → T) (H : Hp) (d : Addr) : Prop where
  ex : ∃ kvs : List (Key × V), H d = some (.dK kvs) ∧ ∀ i : Int, 0 ≤ i → i < 3 → ∃ v, valV kvs (Sum.inl i : Key) = some v ∧ TmAt H (s i) v
  wf : ∀ i : Int, 0 ≤ i → i < 3 → Wf ops (s i) ∧ (s i).depth ≤ 3 ∧ (s i).size ≤ 13
theorem valV_same {kvs : List (Key × V)} {k : Key} {v : V} : valV (putK kvs k v) k = some v := by
  by_cases h : (kvs.any fun kv => decide (kv.1 = k)) = true
  · unfold putK
    rw [if_pos h, valV_map]
    rw [valV_any] at h
    cases e : valV kvs k with
    | none => rw [e] at h; cases h
    | some x => simp
  · have hn : valV kvs k = none := by
      rw [valV_any] at h
      cases e : valV kvs k with
      | none => rfl
      | some v => rw [e] at h; exact absurd rfl h
    rw [putK_new _ hn, valV_snoc _ _ _ _ hn, if_pos rfl]
theorem valV_other {kvs : List (Key × V)} {k j : Key} {v : V} (hj : j ≠ k) : valV (putK kvs k v) j = valV kvs j := by
  by_cases h : (kvs.any fun kv => decide (kv.1 = k)) = true
  · unfold putK
    rw [if_pos h, valV_map]
    cases e : valV kvs j with
    | none => rfl
    | some x => simp [hj]
  · have hn : valV kvs k = none := by
      rw [valV_any] at h
      cases e : valV kvs k with
      | none => rfl
      | some v => rw [e] at h; exact absurd rfl h
    rw [putK_new _ hn, valV_snoc _ _ _ _ hn, if_neg hj]
section
variable {P : Program} {w : World} {K : PySem.W.Frag} {mg : Str → Option Value} {base : Heap}
def spValues : Sp := fun vs H Q _ => ∃ (p l lo : Addr) (ops : Ops), vs = [.ref p, .ref lo, .int 3, .int 3] ∧ StOk H p l ∧ OpsIn H p lo ops ∧ ∀ (s : Int → K35.T) (d : Addr) H', H d = none → ValsAt ops s H' d → StOk H' p l → But p H H' → Q (.ref d) H'
abbrev n_l_values : List Str := ["_law_state_here", "_law_operations_here", "_law_count", "_law_inner", "_law_values_here", "_law_variable"]
theorem sc_l_values : FnScope n_l_values ["_law_state_here", "_law_operations_here", "_law_count", "_law_inner"] (defScope s_l_values) := ⟨rfl, rfl, rfl, by decide +kernel, rfl, by decide +kernel, by decide +kernel⟩
theorem ok_l_values (T : Env0K K mg) : FnOk P w K mg base CX0 9 (ga K "_law_values") T.fd_l_values ["_law_state_here", "_law_operations_here", "_law_count", "_law_inner"] spValues := by
  have G_l_term := ok_l_term (P := P) (w := w) (base := base) T 3
  refine T.F_l_values.ok sc_l_values (fun vs H Q E h => ?_) (fun cdv A outer s H vs Q E hr h => ?_)
  · obtain ⟨p, l, lo, ops, rfl, _⟩ := h
    rfl
  · obtain ⟨p, l, lo, ops, rfl, hS, hO, q⟩ := h
    have hu := hu_of hr
    refine ⟨_, PSs.nox (pss_cons (ps_set (i := 4) sc_l_values.nd rfl (Or.inl rfl) pe_dnewK)
      (pss_cons (ps_for PassesOwn.never rfl (pi_range1 (by rfl) T.f_range (pa_cons (pv 2) pa_nil)) (pg_name (i := 5) sc_l_values.nd rfl (Or.inl rfl))
        (pss_one (ps_dput hu (pv 4) (pv 5) (pe_call G_l_term (hr.mono (by omega)) (by rfl) T.g_l_term T.F_l_term.kp T.b_l_term .nil pass0 (pa_cons (pv 0) (pa_cons (pv 1) (pa_cons (pv 3) (pa_cons pe_int pa_nil))))) rfl)))
      (pss_one (ps_ret (pv 4))))), ?_⟩
    intro d hd
    obtain ⟨hdp, hdl⟩ := hS.fresh hd
    have hsl := sizeLine_eq
    refine ⟨_, rfl, (3 : Int), rfl, by decide, by decide, ?_⟩
    refine for_range (lo := 0) (n := 3) (fun i σ H2 => ∃ (s : Int → K35.T) (kvs : List (Key × V)) (y : Option V), σ = [some (.ref p), some (.ref lo), some (.int 3), some (.int 3), some (.ref d), y] ∧ H2 d = some (.dK kvs) ∧ kvs.length ≤ i ∧
        (∀ j : Int, 0 ≤ j → j < (i : Int) → (∃ v, valV kvs (Sum.inl j : Key) = some v ∧ TmAt H2 (s j) v) ∧ Wf ops (s j) ∧ (s j).depth ≤ 3 ∧ (s j).size ≤ 13) ∧ StOk H2 p l ∧ But p H H2)
      ⟨fun j => .var j, [], none, rfl, upd_same, Nat.le_refl _, fun j h1 h2 => by omega, hS.upd hdp hdl, But.of_same (same_upd hd)⟩ ?_ ?_
    · rintro i σ H2 hi ⟨s, kvs, y, rfl, h2, hkl, hk, s2, b2⟩
      refine ⟨_, rfl, _, rfl, _, rfl, p, l, lo, ops, 2, rfl, by omega, s2, hO.but hS b2, fun t v H3 M => ?_⟩
      have h3 := M.but _ _ hdp h2
      refine ⟨_, rfl, _, rfl, d, _, rfl, DPut.k (k := Sum.inl (0 + (i : Int))) h3 (by omega), ?_⟩
      have kt : KpT H3 (L2.upd H3 d (.dK (putK kvs (Sum.inl (0 + (i : Int)) : Key) v))) := fun b xs e => by
        rw [upd_ne (ne_of e h3 (by intro z; cases z))]
        exact e
      have kt2 := M.but.kt s2
      refine ⟨fun j => if j = (i : Int) then t else s j, _, _, rfl, upd_same, by have := length_putK kvs (Sum.inl (0 + (i : Int)) : Key) v; omega, fun j h4 h5 => ?_, M.st.upd hdp hdl, But.same_new (b2.trans M.but) hd⟩
      by_cases hj : j = (i : Int)
      · subst hj
        simp only [if_pos rfl]
        refine ⟨⟨v, ?_, M.tm.kt kt⟩, M.wf, M.dp, M.sz⟩
        rw [Int.zero_add]
        exact valV_same
      · simp only [if_neg hj]
        obtain ⟨⟨v', e1, e2⟩, e3⟩ := hk j h4 (by omega)
        refine ⟨⟨v', ?_, (e2.kt kt2).kt kt⟩, e3⟩
        rw [valV_other (by intro z; injection z with z; omega)]
        exact e1
    · rintro σ H2 ⟨s, kvs, y, rfl, h2, hkl, hk, s2, b2⟩
      refine ⟨_, rfl, q s d H2 hd ⟨⟨kvs, h2, fun j h3 h4 => (hk j h3 (by omega)).1⟩, fun j h3 h4 => (hk j h3 (by omega)).2⟩ s2 b2⟩
/-! ### positions -/
def PosM (H : Hp) (t : K35.T) (vs : List V) : Prop := ∀ (j : Nat) (v : V), vs[j]? = some v → ∃ a p u, v = .ref a ∧ PosT H a p ∧ t.at p = some u ∧ (0 < j → p ≠ [])
theorem PosM.kt {H H' : Hp} (k : KpT H H') {t : K35.T} {vs : List V} (h : PosM H t vs) : PosM H' t vs := fun j v e => by
  obtain ⟨a, p, u, e1, e2, e3⟩ := h j v e
  exact ⟨a, p, u, e1, e2.kt k, e3⟩
theorem PosM.snoc {H : Hp} {t : K35.T} {vs : List V} (h : PosM H t vs) {a : Addr} {p : List Nat} {u : K35.T} (ha : PosT H a p) (hp : t.at p = some u) (hne : p ≠ []) : PosM H t (vs ++ [.ref a]) := fun j v e => by
  by_cases hj : j < vs.length
  · rw [List.getElem?_append_left hj] at e
    exact h j v e
  · have hlt := (List.getElem?_eq_some_iff.mp e).1
    rw [List.length_append] at hlt
    simp only [List.length_singleton] at hlt
    have : j = vs.length := by omega
    subst this
    rw [List.getElem?_append_right (Nat.le_refl _), Nat.sub_self] at e
    cases e
    exact ⟨a, p, u, rfl, ha, hp, fun _ => hne⟩
def PosL (H : Hp) (l : Addr) (t : K35.T) : Prop := ∃ vs, H l = some (.lst vs) ∧ vs.length = t.size ∧ PosM H t vs
theorem len_sizeL : ∀ ts : List K35.T, ts.length ≤ sizeL ts
  | [] => Nat.le_refl _
  | t :: ts => by
    have h1 := size_pos t
    have h2 := len_sizeL ts
    simp only [sizeL, List.length_cons]
    omega
theorem sizeL_snoc {as : List K35.T} {i : Nat} {t : K35.T} (h : as[i]? = some t) : sizeL (as.take (i + 1)) = sizeL (as.take i) + t.size := by
  have := congrArg List.length (symsL_take h)
  rw [List.length_append, symsL_len, symsL_len, syms_len] at this
  exact this
mutual
theorem depth_size : ∀ t : K35.T, t.depth ≤ t.size
  | .var _ => by simp [Tm.depth, Tm.size]
  | .app _ as => by
    have := depthL_size as
    simp only [Tm.depth, Tm.size]
    omega
theorem depthL_size : ∀ ts : List K35.T, depthL ts ≤ sizeL ts
  | [] => Nat.le_refl _
  | t :: ts => by
    have h1 := depth_size t
    have h2 := depthL_size ts
    simp only [depthL, sizeL]
    omega
end
def spPositions (n : Nat) : Sp := fun vs H Q _ => ∃ (v : V) (t : K35.T), vs = [v] ∧ TmAt H t v ∧ t.depth ≤ n ∧ t.size ≤ 1000 ∧ ∀ l H', H l = none → PosL H' l t → Same H H' → Q (.ref l) H'
abbrev n_l_positions : List Str := ["_law_term_here", "_law_found", "_law_k", "_law_inner"]
theorem sc_l_positions : FnScope n_l_positions ["_law_term_here"] (defScope s_l_positions) := ⟨rfl, rfl, rfl, by decide +kernel, rfl, by decide +kernel, by decide +kernel⟩
theorem ok_l_positions (T : Env0K K mg) : ∀ n : Nat, FnOk P w K mg base CX0 (n + 1) (ga K "_law_positions") T.fd_l_positions ["_law_term_here"] (spPositions n) := by
  intro n
  induction n with
  | zero =>
    refine T.F_l_positions.ok sc_l_positions (fun vs H Q E h => ?_) (fun cdv A outer s H vs Q E hr h => ?_)
    · obtain ⟨v, t, rfl, _⟩ := h
      rfl
    · obtain ⟨v, t, rfl, _, hd, _⟩ := h
      have := depth_pos t
      omega
  | succ n G_l_positions =>
    refine T.F_l_positions.ok sc_l_positions (fun vs H Q E h => ?_) (fun cdv A outer s H vs Q E hr h => ?_)
    · obtain ⟨v, t, rfl, _⟩ := h
      rfl
    · obtain ⟨v, t, rfl, ht, hd, hsz, q⟩ := h
      refine ⟨_, PSs.nox (pss_cons (ps_set (i := 1) sc_l_positions.nd rfl (Or.inl rfl) (pe_lst (pa_cons (pe_tup pa_nil) pa_nil)))
      (pss_cons (ps_if (pt_val (pe_callB call_isi (by rfl) T.f_isinstance bt_isinstance (pa_cons (pv 0) (pa_cons (pe_bltn (v := .ty "int") (by rfl) T.f_int bt_int rfl) pa_nil))))
        (pss_one (ps_ret (pv 1)))
        pss_nil)
      (pss_cons (ps_for PassesOwn.never rfl (pi_range2 (by rfl) T.f_range (pa_cons pe_int (pa_cons (pe_callB call_len_seq (by rfl) T.f_len bt_len (pa_cons (pv 0) pa_nil)) pa_nil))) (pg_name (i := 2) sc_l_positions.nd rfl (Or.inl rfl))
        (pss_one (ps_for PassesOwn.never rfl (pi_list (pe_call G_l_positions (hr.mono (by omega)) (by rfl) T.g_l_positions T.F_l_positions.kp T.b_l_positions .nil pass0 (pa_cons (pe_ix ix_tup (pv 0) (pv 2) (fun _ _ => rfl)) pa_nil))) (pg_name (i := 3) sc_l_positions.nd rfl (Or.inl rfl))
          (pss_one (ps_expr (pe_bm PySem.F.plainAttrs_list PySem.F.slot_list_append PySem.F.type_list_append mt_append (pv 1) (pa_cons (pe_op op_catA (pe_tup (pa_cons (pv 2) pa_nil)) (pv 3)) pa_nil)))))))
      (pss_one (ps_ret (pv 1)))))), ?_⟩
      have hsl := sizeLine_eq
      refine ⟨Nat.zero_le _, fun e0 he0 => ⟨by show 1 ≤ sizeLine; omega, fun l hl => ?_⟩⟩
      have s1 : Same H (L2.upd H e0 (.tup [])) := same_upd he0
      have s2 : Same (L2.upd H e0 (.tup [])) (L2.upd (L2.upd H e0 (.tup [])) l (.lst [.ref e0])) := same_upd hl
      have s12 := s1.trans s2
      have hl0 : H l = none := s1.free hl
      have hp0 : PosM (L2.upd (L2.upd H e0 (.tup [])) l (.lst [.ref e0])) t [.ref e0] := by
        intro j v e
        cases j with
        | zero =>
          cases e
          exact ⟨e0, [], t, rfl, s2 _ _ upd_same, at_nil t, fun h => absurd h (Nat.lt_irrefl _)⟩
        | succ j => simp at e
      obtain ⟨ty, h1, h2⟩ := (ht.kt (kt_same s12)).isI.ty (K := K)
      refine ⟨_, rfl, _, _, _, _, _, rfl, .ty "int", h1, h2, _, rfl, ?_⟩
      cases t with
      | var i =>
        refine iteT ?_
        exact ⟨_, rfl, q l _ hl0 ⟨_, upd_same, by simp [Tm.size], hp0⟩ s12⟩
      | app f as =>
        refine iteF ?_
        obtain ⟨a, ws, rfl, ha, hlen, hk⟩ := ht.inv
        have hla := len_sizeL as
        simp only [Tm.size] at hsz
        simp only [Tm.depth] at hd
        refine ⟨_, rfl, a, _, rfl, .inr (.of (s12 _ _ ha)), 1, _, rfl, ⟨by decide, by decide, by omega, ?_⟩, ?_⟩
        · simp only [List.length_cons]; omega
        have en : ((((V.str f :: ws).length : Nat) : Int) - 1).toNat = as.length := by simp only [List.length_cons]; omega
        rw [en]
        refine for_range (lo := 1) (n := as.length) (fun i σ H2 => ∃ vs y z, σ = [some (.ref a), some (.ref l), y, z] ∧ Same H H2 ∧ H2 l = some (.lst vs) ∧ vs.length = 1 + sizeL (as.take i) ∧ PosM H2 (.app f as) vs)
          ⟨_, none, none, rfl, s12, upd_same, rfl, hp0⟩ ?_ ?_
        · rintro i σ H2 hi ⟨vs, y, z, rfl, s3, hl3, hvl, hpm⟩
          have e1 : as[i]? = some as[i] := List.getElem?_eq_getElem hi
          obtain ⟨va, ea, tva⟩ := TmAt.get hlen hk e1
          have hm : as[i] ∈ as := List.getElem_mem hi
          have d1 := depth_mem hm
          have d2 := size_mem hm
          have d3 := sizeL_take as (i + 1)
          have d4 := sizeL_snoc e1
          refine ⟨_, rfl, _, rfl, a, _, _, va, rfl, rfl, .of (s3 _ _ ha), atS ea, va, as[i], rfl, tva.kt (kt_same s3), by omega, by omega, fun m H3 hm0 hm3 s4 => ?_⟩
          obtain ⟨us, hus, hul, hum⟩ := hm3
          have nml : m ≠ l := fun e => by rw [e, hl3] at hm0; cases hm0
          refine ⟨m, rfl, ⟨_, .of hus⟩, for_list (K := K) (a := m) (xs := us) (fun j σ H4 => ∃ vs z, σ = [some (.ref a), some (.ref l), some (.int (1 + (i : Int))), z] ∧ Same H H4 ∧ KpT H3 H4 ∧ H4 m = some (.lst us) ∧ H4 l = some (.lst vs) ∧ vs.length = 1 + sizeL (as.take i) + j ∧ PosM H4 (.app f as) vs)
            ⟨vs, z, rfl, s3.trans s4, fun _ _ e => e, hus, s4 _ _ hl3, hvl, hpm.kt (kt_same s4)⟩ ?_ ?_ ?_⟩
          · rintro j σ H4 _ ⟨_, _, _, _, _, h4, _⟩
            exact .of h4
          · rintro j x σ H4 hx ⟨vs', z', rfl, s5, kt5, hm5, hl5, hvl5, hpm5⟩
            obtain ⟨b, p, u, rfl, hb, hbp, _⟩ := hum j x hx
            have hjlt := (List.getElem?_eq_some_iff.mp hx).1
            have hb5 := hb.kt kt5
            have hpl := at_len _ _ _ hbp
            have hds := depth_size as[i]
            -- (k,) + inner
            refine ⟨_, rfl, Or.inl ⟨rfl, _, Or.inl (Or.inl hl5)⟩, _, rfl, by show 1 ≤ sizeLine; omega, fun c hc => ?_⟩
            have s6 : Same H4 (L2.upd H4 c (.tup [.int (1 + (i : Int))])) := same_upd hc
            have ek : (1 : Int) + (i : Int) = ((i + 1 : Nat) : Int) := by omega
            have hat : (Tm.app f as).at ((i + 1) :: p) = some u := by simp only [Tm.at, e1]; exact hbp
            -- behind the append
            have fin : ∀ (c' : Addr) H5, Same H4 H5 → PosT H5 c' ((i + 1) :: p) → ∃ l' xs' y', V.ref l = .ref l' ∧ [V.ref c'] = [y'] ∧ H5 l' = some (.lst xs') ∧ xs'.length < sizeLine ∧
                (∃ vs z, [some (.ref a), some (.ref l), some (.int (1 + (i : Int))), some (.ref b)] = ([some (.ref a), some (.ref l), some (.int (1 + (i : Int))), z] : L2.St) ∧ Same H (L2.upd H5 l' (.lst (xs' ++ [y']))) ∧ KpT H3 (L2.upd H5 l' (.lst (xs' ++ [y']))) ∧ (L2.upd H5 l' (.lst (xs' ++ [y']))) m = some (.lst us) ∧
                  (L2.upd H5 l' (.lst (xs' ++ [y']))) l = some (.lst vs) ∧ vs.length = 1 + sizeL (as.take i) + (j + 1) ∧ PosM (L2.upd H5 l' (.lst (xs' ++ [y']))) (.app f as) vs) := by
              intro c' H5 s7 hc'
              have hl7 := s7 _ _ hl5
              have kt7 : KpT H5 (L2.upd H5 l (.lst (vs' ++ [.ref c']))) := fun b xs e => by
                rw [upd_ne (ne_of e hl7 (by intro z; cases z))]
                exact e
              refine ⟨l, vs', .ref c', rfl, rfl, hl7, by omega, _, _, rfl, same_new (s5.trans s7) hl0, (kt5.trans (kt_same s7)).trans kt7, by rw [upd_ne nml]; exact s7 _ _ hm5, upd_same, by rw [List.length_append]; simp only [List.length_singleton]; omega, ?_⟩
              exact ((hpm5.kt (kt_same s7)).kt kt7).snoc (hc'.kt kt7) hat (by simp)
            refine ⟨_, rfl, c, b, _, _, rfl, rfl, .of upd_same, .of (s6 _ _ hb5), by rw [List.length_map]; show 1 + p.length ≤ sizeLine; omega, (fun e => nomatch e), fun _ e => ?_, fun _ _ b' hb' => ?_⟩
            · have e' : p = [] := by simpa using e
              subst e'
              refine fin c _ s6 ?_
              show L2.upd H4 c _ c = _
              rw [upd_same, ek]
              rfl
            · refine fin b' _ (s6.trans (same_upd hb')) ?_
              show L2.upd _ b' _ b' = _
              rw [upd_same, ek]
              rfl
          · rintro σ H4 ⟨vs', z', rfl, s5, kt5, hm5, hl5, hvl5, hpm5⟩
            exact ⟨vs', _, _, rfl, s5, hl5, by omega, hpm5⟩
        · rintro σ H2 ⟨vs, y, z, rfl, s3, hl3, hvl, hpm⟩
          refine ⟨_, rfl, q l H2 hl0 ⟨vs, hl3, ?_, hpm⟩ s3⟩
          rw [List.take_length] at hvl
          simp only [Tm.size]
          exact hvl
/-! ### the subterm at a position -/
def spSub : Sp := fun vs H Q _ => ∃ (v : V) (a : Addr) (t u : K35.T) (p : List Nat), vs = [v, .ref a] ∧ TmAt H t v ∧ PosT H a p ∧ t.at p = some u ∧ ∀ v', TmAt H u v' → Q v' H
abbrev n_l_subterm : List Str := ["_law_term_here", "_law_position", "_law_k"]
theorem sc_l_subterm : FnScope n_l_subterm ["_law_term_here", "_law_position"] (defScope s_l_subterm) := ⟨rfl, rfl, rfl, by decide +kernel, rfl, by decide +kernel, by decide +kernel⟩
theorem at_cons {t u : K35.T} {k : Nat} {p : List Nat} (h : t.at (k :: p) = some u) : ∃ f as j a, t = .app f as ∧ k = j + 1 ∧ as[j]? = some a ∧ a.at p = some u := by
  cases t with
  | var i => simp [Tm.at] at h
  | app f as =>
    cases k with
    | zero => simp [Tm.at] at h
    | succ j =>
      simp only [Tm.at] at h
      cases e : as[j]? with
      | none => rw [e] at h; cases h
      | some a => rw [e] at h; exact ⟨f, as, j, a, rfl, rfl, e, h⟩
theorem ok_l_subterm (T : Env0K K mg) : FnOk P w K mg base CX0 1 (ga K "_law_subterm") T.fd_l_subterm ["_law_term_here", "_law_position"] spSub := by
  refine T.F_l_subterm.ok sc_l_subterm (fun vs H Q E h => ?_) (fun cdv A outer s H vs Q E hr h => ?_)
  · obtain ⟨v, a, t, u, p, rfl, _⟩ := h
    rfl
  · obtain ⟨v, a, t, u, p, rfl, ht, ha, hp, q⟩ := h
    refine ⟨_, PSs.nox (pss_cons (ps_for PassesOwn.never rfl (pi_tup (pv 1)) (pg_name (i := 2) sc_l_subterm.nd rfl (Or.inl rfl))
        (pss_one (ps_set (i := 0) sc_l_subterm.nd rfl (Or.inl rfl) (pe_ix ix_tup (pv 0) (pv 2) (fun _ _ => rfl)))))
      (pss_one (ps_ret (pv 0)))), ?_⟩
    refine ⟨_, rfl, a, rfl, ⟨_, .of ha⟩, for_tup (K := K) (a := a) (xs := p.map fun (n : Nat) => V.int (n : Int)) (fun i σ H2 => H2 = H ∧ ∃ vi ui y, σ = [some vi, some (.ref a), y] ∧ TmAt H ui vi ∧ ui.at (p.drop i) = some u) ⟨rfl, v, t, none, rfl, ht, hp⟩ ?_ ?_ ?_⟩
    · rintro i σ H2 _ ⟨rfl, _⟩
      exact .of ha
    · rintro i x σ H2 hx ⟨rfl, vi, ui, y, rfl, hti, hui⟩
      have hi : i < p.length := by have := (List.getElem?_eq_some_iff.mp hx).1; simpa using this
      have ex : x = .int (p[i] : Int) := by
        rw [List.getElem?_map, List.getElem?_eq_getElem hi] at hx
        exact (Option.some.inj hx).symm
      subst ex
      rw [List.drop_eq_getElem_cons hi] at hui
      obtain ⟨f, as, j, b, rfl, ej, eb, hb⟩ := at_cons hui
      obtain ⟨c, ws, rfl, hc, hl, hk⟩ := hti.inv
      obtain ⟨vb, e1, e2⟩ := TmAt.get hl hk eb
      rw [ej]
      refine ⟨_, rfl, _, rfl, c, _, _, vb, rfl, rfl, .of hc, (by rw [show ((j + 1 : Nat) : Int) = 1 + (j : Int) by omega]; exact atS e1), rfl, vb, b, _, rfl, e2, hb⟩
    · rintro σ H2 ⟨rfl, vi, ui, y, rfl, hti, hui⟩
      rw [List.length_map, List.drop_length, at_nil] at hui
      cases hui
      exact ⟨_, rfl, q vi hti⟩
end
end K35
set_option Elab.async false
set_option linter.all false
set_option maxRecDepth 100000
set_option maxHeartbeats 4000000
namespace K35
open PySem PySem.Spec PyProof.Rows L2
open He (ga ma)
/-! ### slices -/
theorem cutTo {xs : List V} {k : Nat} (h : k ≤ xs.length) : cutV xs none (some (k : Int)) = xs.take k := by
  unfold cutV
  rw [HT.sIx_none, HT.sIx_nat, List.drop_zero, Nat.sub_zero, Nat.min_eq_left h]
theorem cutFrom {xs : List V} {k : Nat} (h : k ≤ xs.length) : cutV xs (some (k : Int)) none = xs.drop k := by
  unfold cutV
  rw [HT.sIx_none, HT.sIx_nat, Nat.min_eq_left h]
  rw [List.take_of_length_le]
  rw [List.length_drop]
  exact Nat.le_refl _
theorem to_not {xs : List V} {k : Nat} (h : k < xs.length) : ¬ (HT.sIx xs.length 0 none = 0 ∧ HT.sIx xs.length xs.length (some (k : Int)) = xs.length) := by
  rintro ⟨_, e⟩
  rw [HT.sIx_nat] at e
  omega
theorem from_not {xs : List V} {k : Nat} (h0 : 0 < k) (h : 0 < xs.length) : ¬ (HT.sIx xs.length 0 (some (k : Int)) = 0 ∧ HT.sIx xs.length xs.length none = xs.length) := by
  rintro ⟨e, _⟩
  rw [HT.sIx_nat] at e
  omega
/-- t[:k] + (v,) + t[k + 1:] as a term -/
theorem TmAt.put {H H' : Hp} {f : Str} {as : List T} {ws : List V} {b : Addr} {k : Nat} {n : T} {v : V} (hl : as.length = ws.length) (hk : ∀ (j : Nat) (t : T) (x : V), as[j]? = some t → ws[j]? = some x → TmAt H t x) (kt : KpT H H') (hn : TmAt H' n v) (hlt : k < as.length)
    (hb : H' b = some (.tup (.str f :: (ws.take k ++ v :: ws.drop (k + 1))))) : TmAt H' (.app f (as.take k ++ n :: as.drop (k + 1))) (.ref b) := by
  refine .app hb (by simp only [List.length_append, List.length_take, List.length_cons, List.length_drop]; omega) fun j t x e1 e2 => ?_
  have l1 : (as.take k).length = k := by rw [List.length_take]; omega
  have l2 : (ws.take k).length = k := by rw [List.length_take]; omega
  by_cases h1 : j < k
  · rw [List.getElem?_append_left (by omega), List.getElem?_take_of_lt h1] at e1
    rw [List.getElem?_append_left (by omega), List.getElem?_take_of_lt h1] at e2
    exact (hk j t x e1 e2).kt kt
  · rw [List.getElem?_append_right (by omega), l1] at e1
    rw [List.getElem?_append_right (by omega), l2] at e2
    by_cases h2 : j = k
    · subst h2
      rw [Nat.sub_self] at e1 e2
      cases e1
      cases e2
      exact hn
    · obtain ⟨i, hi⟩ : ∃ i, j - k = i + 1 := ⟨j - k - 1, by omega⟩
      rw [hi, List.getElem?_cons_succ, List.getElem?_drop] at e1 e2
      exact (hk _ t x e1 e2).kt kt
section
variable {P : Program} {w : World} {K : PySem.W.Frag} {mg : Str → Option Value} {base : Heap}
/-! ### replace -/
def spRep (n : Nat) : Sp := fun vs H Q _ => ∃ (v vn : V) (a : Addr) (ops : Ops) (t u nw : K35.T) (p : List Nat), vs = [v, .ref a, vn] ∧ TmAt H t v ∧ Wf ops t ∧ (∀ x ∈ ops, x.2 ≤ 3) ∧ PosT H a p ∧ p.length ≤ 1000 ∧ p.length < n ∧ t.at p = some u ∧ TmAt H nw vn ∧ ∀ v' H', TmAt H' (t.rep p nw) v' → Same H H' → Q v' H'
abbrev n_l_replace : List Str := ["_law_term_here", "_law_position", "_law_new", "_law_k"]
theorem sc_l_replace : FnScope n_l_replace ["_law_term_here", "_law_position", "_law_new"] (defScope s_l_replace) := ⟨rfl, rfl, rfl, by decide +kernel, rfl, by decide +kernel, by decide +kernel⟩
theorem ok_l_replace (T : Env0K K mg) : ∀ n : Nat, FnOk P w K mg base CX0 (n + 1) (ga K "_law_replace") T.fd_l_replace ["_law_term_here", "_law_position", "_law_new"] (spRep n) := by
  intro n
  induction n with
  | zero =>
    refine T.F_l_replace.ok sc_l_replace (fun vs H Q E h => ?_) (fun cdv A outer s H vs Q E hr h => ?_)
    · obtain ⟨v, vn, a, ops, t, u, nw, p, rfl, _⟩ := h
      rfl
    · obtain ⟨v, vn, a, ops, t, u, nw, p, rfl, _, _, _, _, _, hl, _⟩ := h
      omega
  | succ n G_l_replace =>
    refine T.F_l_replace.ok sc_l_replace (fun vs H Q E h => ?_) (fun cdv A outer s H vs Q E hr h => ?_)
    · obtain ⟨v, vn, a, ops, t, u, nw, p, rfl, _⟩ := h
      rfl
    · obtain ⟨v, vn, a, ops, t, u, nw, p, rfl, ht, hw, har, ha, hpl, hpn, hat, hn, q⟩ := h
      refine ⟨_, PSs.nox (pss_cons (ps_if (pt_cmpR op_eq (pe_callB call_len_seq (by rfl) T.f_len bt_len (pa_cons (pv 1) pa_nil)) pe_int (nomark _))
        (pss_one (ps_ret (pv 2)))
        pss_nil)
      (pss_cons (ps_set (i := 3) sc_l_replace.nd rfl (Or.inl rfl) (pe_ix ix_tup (pv 1) pe_int (fun _ _ => rfl)))
      (pss_one (ps_ret (pe_op op_catA (pe_op op_catA (pe_slice sl_tupA (pv 0) po_none (po_some (pv 3))) (pe_tup (pa_cons (pe_call G_l_replace (hr.mono (by omega)) (by rfl) T.g_l_replace T.F_l_replace.kp T.b_l_replace .nil pass0 (pa_cons (pe_ix ix_tup (pv 0) (pv 3) (fun _ _ => rfl)) (pa_cons (pe_slice sl_tupA (pv 1) (po_some pe_int) po_none) (pa_cons (pv 2) pa_nil)))) pa_nil))) (pe_slice sl_tupA (pv 0) (po_some (pe_op op_add (pv 3) pe_int)) po_none)))))), ?_⟩
      have hsl := sizeLine_eq
      refine ⟨_, rfl, a, _, rfl, .inr (.of ha), rfl, _, rfl, ?_⟩
      cases p with
      | nil =>
        refine iteT ⟨_, rfl, q vn H ?_ (Same.refl _)⟩
        cases t <;> exact hn
      | cons k p =>
        rw [decide_eq_false (show ¬ V.int ((((k :: p).map fun (n : Nat) => V.int (n : Int)).length : Nat) : Int) = V.int 0 from fun z => by injection z with z; simp only [List.length_map, List.length_cons] at z; omega)]
        refine iteF ?_
        obtain ⟨f, as, j, b, rfl, rfl, eb, hb⟩ := at_cons hat
        obtain ⟨c, ws, rfl, hc, hl, hk⟩ := ht.inv
        have hjl : j < as.length := (List.getElem?_eq_some_iff.mp eb).1
        have h3 : as.length ≤ 3 := har _ hw.args.1
        obtain ⟨vb, e1, e2⟩ := TmAt.get hl hk eb
        have hxl : (V.str f :: ws).length = as.length + 1 := by rw [List.length_cons, hl]
        refine ⟨_, rfl, a, _, 0, .int ((j + 1 : Nat) : Int), rfl, rfl, .of ha, at0 _ _, ?_⟩
        -- t[:k]
        refine ⟨_, rfl, _, rfl, _, rfl, c, _, rfl, .of hc, fun z => absurd z (to_not (by omega)), fun _ b1 hb1 => ?_⟩
        rw [cutTo (by omega)]
        have s1 : Same H (L2.upd H b1 (.tup ((V.str f :: ws).take (j + 1)))) := same_upd hb1
        -- the inner call: t[k], position[1:], new
        refine ⟨_, rfl, _, rfl, c, _, _, vb, rfl, rfl, .of (s1 _ _ hc), (by rw [show ((j + 1 : Nat) : Int) = 1 + (j : Int) by omega]; exact atS e1), _, rfl, 1, rfl, a, _, rfl, .of (s1 _ _ ha), fun z => absurd z (cut1_not _ _), fun _ b2 hb2 => ?_⟩
        have s2 : Same (L2.upd H b1 (.tup ((V.str f :: ws).take (j + 1)))) (L2.upd (L2.upd H b1 (.tup ((V.str f :: ws).take (j + 1)))) b2 (.tup (cutV (((j + 1) :: p).map fun (n : Nat) => V.int (n : Int)) (some 1) none))) := same_upd hb2
        have s12 := s1.trans s2
        have hpos : PosT (L2.upd (L2.upd H b1 (.tup ((V.str f :: ws).take (j + 1)))) b2 (.tup (cutV (((j + 1) :: p).map fun (n : Nat) => V.int (n : Int)) (some 1) none))) b2 p := by
          show L2.upd _ b2 _ b2 = _
          rw [upd_same]
          exact congrArg (fun z => some (HO.tup z)) (cut1 _ _)
        simp only [List.length_cons] at hpl hpn
        refine ⟨_, rfl, vb, vn, b2, ops, b, u, nw, p, rfl, e2.kt (kt_same s12), hw.args.2 _ (List.mem_of_getElem? eb), har, hpos, by omega, by omega, hb, hn.kt (kt_same s12), fun v' H3 tm3 s3 => ?_⟩
        have s123 := s12.trans s3
        refine ⟨by show 1 ≤ sizeLine; omega, fun b4 hb4 => ?_⟩
        have s4 : Same H3 (L2.upd H3 b4 (.tup [v'])) := same_upd hb4
        refine ⟨b1, b4, _, _, rfl, rfl, .of (s4 _ _ (s3 _ _ (s2 _ _ upd_same))), .of upd_same, ?_, (fun e => nomatch e), (fun _ e => nomatch e), fun _ _ b5 hb5 => ?_⟩
        · rw [List.length_take]; show min _ _ + 1 ≤ sizeLine; omega
        have s5 : Same (L2.upd H3 b4 (.tup [v'])) (L2.upd (L2.upd H3 b4 (.tup [v'])) b5 (.tup ((V.str f :: ws).take (j + 1) ++ [v']))) := same_upd hb5
        have s15 := (s123.trans s4).trans s5
        -- t[k + 1:]
        have ek : ((j + 1 : Nat) : Int) + 1 = ((j + 1 + 1 : Nat) : Int) := by omega
        refine ⟨_, rfl, _, rfl, _, _, rfl, rfl, _, rfl, c, _, rfl, .of (s15 _ _ hc), fun z => absurd z (by rw [ek]; exact from_not (by omega) (by omega)), fun _ b6 hb6 => ?_⟩
        rw [ek, cutFrom (xs := V.str f :: ws) (k := j + 1 + 1) (by omega)]
        have s6 : Same (L2.upd (L2.upd H3 b4 (.tup [v'])) b5 (.tup ((V.str f :: ws).take (j + 1) ++ [v']))) (L2.upd (L2.upd (L2.upd H3 b4 (.tup [v'])) b5 (.tup ((V.str f :: ws).take (j + 1) ++ [v']))) b6 (.tup ((V.str f :: ws).drop (j + 1 + 1)))) := same_upd hb6
        have s16 := s15.trans s6
        have tm6 := tm3.kt (kt_same ((s4.trans s5).trans s6))
        have erep : (Tm.app f as).rep ((j + 1) :: p) nw = .app f (as.take j ++ b.rep p nw :: as.drop (j + 1)) := by simp only [Tm.rep, eb]
        have hx5 : (V.str f :: ws).take (j + 1) ++ [v'] = .str f :: (ws.take j ++ [v']) := by rw [List.take_succ_cons, List.cons_append]
        refine ⟨b5, b6, _, _, rfl, rfl, .of (s6 _ _ upd_same), .of upd_same, ?_, (fun e => by rw [hx5] at e; cases e), fun _ e => ?_, fun _ _ b7 hb7 => ?_⟩
        · rw [List.length_append, List.length_take, List.length_drop]
          simp only [List.length_singleton]
          omega
        · -- nothing behind it
          refine q (.ref b5) _ ?_ s16
          rw [erep]
          refine TmAt.put hl hk (kt_same s16) tm6 hjl ?_
          have e' : ws.drop (j + 1) = [] := e
          rw [s6 _ _ (show _ = some (HO.tup ((V.str f :: ws).take (j + 1) ++ [v'])) from upd_same), hx5, e']
        · refine q (.ref b7) _ ?_ (s16.trans (same_upd hb7))
          rw [erep]
          refine TmAt.put hl hk (kt_same (s16.trans (same_upd hb7))) (tm6.kt (kt_same (same_upd hb7))) hjl ?_
          rw [upd_same, hx5]
          show some (HO.tup (.str f :: (ws.take j ++ [v']) ++ ws.drop (j + 1))) = _
          simp
end
end K35
set_option Elab.async false
set_option linter.all false
set_option maxRecDepth 100000
set_option maxHeartbeats 4000000
namespace K35
open PySem PySem.Spec PyProof.Rows L2
open He (ga ma)
section
variable {P : Program} {w : World} {K : PySem.W.Frag} {mg : Str → Option Value} {base : Heap}
theorem ValsAt.same {ops : Ops} {s : Int → K35.T} {H H' : Hp} {d : Addr} (h : ValsAt ops s H d) (k : Same H H') : ValsAt ops s H' d := by
  obtain ⟨kvs, h1, h2⟩ := h.ex
  refine ⟨⟨kvs, k _ _ h1, fun i a b => ?_⟩, h.wf⟩
  obtain ⟨v, e1, e2⟩ := h2 i a b
  exact ⟨v, e1, e2.kt (kt_same k)⟩
theorem ValsAt.but {ops : Ops} {s : Int → K35.T} {H H' : Hp} {d p l : Addr} (h : ValsAt ops s H d) (hS : StOk H p l) (b : But p H H') : ValsAt ops s H' d := by
  obtain ⟨kvs, h1, h2⟩ := h.ex
  obtain ⟨xs, hp⟩ := hS.lst
  refine ⟨⟨kvs, b _ _ (ne_of h1 hp (by intro z; cases z)) h1, fun i a c => ?_⟩, h.wf⟩
  obtain ⟨v, e1, e2⟩ := h2 i a c
  exact ⟨v, e1, e2.kt (b.kt hS)⟩
def spSubst (n : Nat) : Sp := fun vs H Q _ => ∃ (v : V) (d : Addr) (ops : Ops) (s : Int → K35.T) (t : K35.T), vs = [v, .ref d] ∧ TmAt H t v ∧ Wf ops t ∧ (∀ x ∈ ops, x.2 ≤ 3) ∧ ValsAt ops s H d ∧ t.depth ≤ n ∧ ∀ v' H', TmAt H' (t.sub s) v' → Same H H' → Q v' H'
abbrev n_l_substitute : List Str := ["_law_term_here", "_law_substitution", "_law_result", "_law_argument"]
theorem sc_l_substitute : FnScope n_l_substitute ["_law_term_here", "_law_substitution"] (defScope s_l_substitute) := ⟨rfl, rfl, rfl, by decide +kernel, rfl, by decide +kernel, by decide +kernel⟩
theorem subL_take (s : Int → K35.T) {as : List K35.T} {i : Nat} {t : K35.T} (h : as[i]? = some t) : subL s (as.take (i + 1)) = subL s (as.take i) ++ [t.sub s] := by
  rw [subL_map, subL_map, List.take_add_one, h, List.map_append]
  rfl
theorem ok_l_substitute (T : Env0K K mg) : ∀ n : Nat, FnOk P w K mg base CX0 (n + 1) (ga K "_law_substitute") T.fd_l_substitute ["_law_term_here", "_law_substitution"] (spSubst n) := by
  intro n
  induction n with
  | zero =>
    refine T.F_l_substitute.ok sc_l_substitute (fun vs H Q E h => ?_) (fun cdv A outer s H vs Q E hr h => ?_)
    · obtain ⟨v, d, ops, s, t, rfl, _⟩ := h
      rfl
    · obtain ⟨v, d, ops, s, t, rfl, _, _, _, _, hd, _⟩ := h
      have := depth_pos t
      omega
  | succ n G_l_substitute =>
    refine T.F_l_substitute.ok sc_l_substitute (fun vs H Q E h => ?_) (fun cdv A outer s H vs Q E hr h => ?_)
    · obtain ⟨v, d, ops, s, t, rfl, _⟩ := h
      rfl
    · obtain ⟨v, d, ops, sb, t, rfl, ht, hw, har, hV, hd, q⟩ := h
      have hu := hu_of hr
      refine ⟨_, PSs.nox (pss_cons (ps_if (pt_val (pe_callB call_isi (by rfl) T.f_isinstance bt_isinstance (pa_cons (pv 0) (pa_cons (pe_bltn (v := .ty "int") (by rfl) T.f_int bt_int rfl) pa_nil))))
        (pss_one (ps_ret (pe_dget2 hu (pv 1) (pv 0) (pv 0) ⟨rfl, rfl, rfl, rfl⟩)))
        pss_nil)
      (pss_cons (ps_set (i := 2) sc_l_substitute.nd rfl (Or.inl rfl) (pe_tup (pa_cons (pe_ix ix_tup (pv 0) pe_int (fun _ _ => rfl)) pa_nil)))
      (pss_cons (ps_for PassesOwn.never rfl (pi_tup (pe_slice sl_tupA (pv 0) (po_some pe_int) po_none)) (pg_name (i := 3) sc_l_substitute.nd rfl (Or.inl rfl))
        (pss_one (ps_set (i := 2) sc_l_substitute.nd rfl (Or.inl rfl) (pe_op op_catA (pv 2) (pe_tup (pa_cons (pe_call G_l_substitute (hr.mono (by omega)) (by rfl) T.g_l_substitute T.F_l_substitute.kp T.b_l_substitute .nil pass0 (pa_cons (pv 3) (pa_cons (pv 1) pa_nil))) pa_nil))))))
      (pss_one (ps_ret (pv 2)))))), ?_⟩
      have hsl := sizeLine_eq
      obtain ⟨ty, h1, h2⟩ := ht.isI.ty (K := K)
      refine ⟨_, rfl, _, _, _, _, _, rfl, .ty "int", h1, h2, _, rfl, ?_⟩
      cases t with
      | var i =>
        refine iteT ?_
        cases ht
        cases hw with
        | var w1 w2 =>
          obtain ⟨kvs, k1, k2⟩ := hV.ex
          obtain ⟨v', e1, e2⟩ := k2 i w1 w2
          refine ⟨_, rfl, d, rfl, .inl ⟨kvs, .inl k1⟩, _, rfl, _, rfl, _, DGet.k (k := Sum.inl i) k1, ?_⟩
          rw [e1]
          exact q v' H e2 (Same.refl _)
      | app f as =>
        refine iteF ?_
        obtain ⟨a, ws, rfl, ha, hl, hk⟩ := ht.inv
        have h3 : as.length ≤ 3 := har _ hw.args.1
        simp only [Tm.depth] at hd
        refine ⟨_, rfl, a, _, 0, .str f, rfl, rfl, .of ha, at0 _ _, by show 1 ≤ sizeLine; omega, fun r hr0 => ?_⟩
        have s1 : Same H (L2.upd H r (.tup [.str f])) := same_upd hr0
        refine ⟨_, rfl, 1, rfl, a, _, rfl, .of (s1 _ _ ha), fun z => absurd z (cut1_not _ _), fun _ c hc => ?_⟩
        rw [cut1]
        have s2 : Same (L2.upd H r (.tup [.str f])) (L2.upd (L2.upd H r (.tup [.str f])) c (.tup ws)) := same_upd hc
        refine ⟨c, rfl, ⟨_, .of upd_same⟩, for_tup (K := K) (a := c) (xs := ws) (fun i σ H2 => ∃ (b : Addr) (us : List V) (y : Option V), σ = [some (.ref a), some (.ref d), some (.ref b), y] ∧ Same H H2 ∧ H2 c = some (.tup ws) ∧ H2 b = some (.tup (.str f :: us)) ∧ TmAt H2 (.app f (subL sb (as.take i))) (.ref b))
          ⟨r, [], none, rfl, s1.trans s2, upd_same, s2 _ _ upd_same, .app (vs := []) (s2 _ _ upd_same) rfl (fun k t v e _ => by simp [subL] at e)⟩ ?_ ?_ ?_⟩
        · rintro i σ H2 _ ⟨b, us, y, _, _, h, _⟩
          exact .of h
        · rintro i x σ H2 hx ⟨b, us, y, rfl, s3, hc3, hb3, tm3⟩
          have hi : i < as.length := by have := (List.getElem?_eq_some_iff.mp hx).1; omega
          have e1 : as[i]? = some as[i] := List.getElem?_eq_getElem hi
          have tx := (hk i _ x e1 hx).kt (kt_same s3)
          have hm : as[i] ∈ as := List.getElem_mem hi
          have d1 := depth_mem hm
          refine ⟨_, rfl, _, rfl, _, rfl, x, d, ops, sb, as[i], rfl, tx, hw.args.2 _ hm, har, hV.same s3, by omega, fun v' H4 tm4 s4 => ?_⟩
          refine ⟨by show 1 ≤ sizeLine; omega, fun m hm0 => ?_⟩
          have s5 : Same H4 (L2.upd H4 m (.tup [v'])) := same_upd hm0
          have hul : us.length = i := by
            obtain ⟨a', vs', e, h1, h2, _⟩ := tm3.inv
            cases e
            rw [hb3] at h1
            cases h1
            rw [← h2, subL_map, List.length_map, List.length_take]
            omega
          refine ⟨b, m, _, _, rfl, rfl, .of (s5 _ _ (s4 _ _ hb3)), .of upd_same, ?_, (fun e => nomatch e), (fun _ e => nomatch e), fun _ _ b' hb' => ?_⟩
          · simp only [List.length_cons, List.length_nil]; omega
          have s6 : Same (L2.upd H4 m (.tup [v'])) (L2.upd (L2.upd H4 m (.tup [v'])) b' (.tup ((.str f :: us) ++ [v']))) := same_upd hb'
          have s46 := (s4.trans s5).trans s6
          refine ⟨b', us ++ [v'], _, rfl, s3.trans s46, s46 _ _ hc3, upd_same, ?_⟩
          rw [subL_take sb e1]
          exact tm3.snoc hb3 (kt_same s46) (tm4.kt (kt_same (s5.trans s6))) upd_same
        · rintro σ H2 ⟨b, us, y, rfl, s3, hc3, hb3, tm3⟩
          refine ⟨_, rfl, q _ H2 ?_ s3⟩
          rw [← hl, List.take_length] at tm3
          exact tm3
/-! ### what substitution and replacement make of depths, sizes, fitness -/
theorem Wf.sub {ops : Ops} {s : Int → K35.T} (h : ∀ i : Int, 0 ≤ i → i < 3 → Wf ops (s i) ∧ (s i).depth ≤ 3 ∧ (s i).size ≤ 13) {t : K35.T} (w : Wf ops t) : Wf ops (t.sub s) ∧ (t.sub s).depth ≤ t.depth + 2 ∧ (t.sub s).size ≤ 13 * t.size := by
  induction w with
  | var h1 h2 =>
    obtain ⟨a, b, c⟩ := h _ h1 h2
    exact ⟨a, by simp only [Tm.sub, Tm.depth]; omega, by simp only [Tm.sub, Tm.size]; omega⟩
  | @app f as hm _ ih =>
    refine ⟨?_, ?_, ?_⟩
    · simp only [Tm.sub, subL_map]
      refine .app (by rw [List.length_map]; exact hm) fun a ha => ?_
      obtain ⟨b, hb, e⟩ := List.mem_map.mp ha
      rw [← e]
      exact (ih b hb).1
    · simp only [Tm.sub, subL_map, Tm.depth]
      have : depthL (as.map (Tm.sub s)) ≤ depthL as + 2 := depthL_le fun t ht => by
        obtain ⟨b, hb, e⟩ := List.mem_map.mp ht
        have h1 := (ih b hb).2.1
        have h2 := depth_mem hb
        rw [← e]
        omega
      omega
    · simp only [Tm.sub, subL_map, Tm.size]
      have key : ∀ bs : List K35.T, (∀ b ∈ bs, (b.sub s).size ≤ 13 * b.size) → sizeL (bs.map (Tm.sub s)) ≤ 13 * sizeL bs := by
        intro bs
        induction bs with
        | nil => intro _; simp [sizeL]
        | cons b bs ih2 =>
          intro hb
          have h1 := hb b (List.mem_cons_self ..)
          have h2 := ih2 fun c hc => hb c (List.mem_cons_of_mem _ hc)
          simp only [List.map_cons, sizeL]
          omega
      have := key as fun b hb => (ih b hb).2.2
      omega
theorem depthL_app : ∀ (xs ys : List K35.T), depthL (xs ++ ys) = max (depthL xs) (depthL ys)
  | [], ys => by simp [depthL]
  | x :: xs, ys => by
    simp only [List.cons_append, depthL, depthL_app xs ys]
    omega
theorem sizeL_app : ∀ (xs ys : List K35.T), sizeL (xs ++ ys) = sizeL xs + sizeL ys
  | [], ys => by simp [sizeL]
  | x :: xs, ys => by
    simp only [List.cons_append, sizeL, sizeL_app xs ys]
    omega
theorem Wf.rep {ops : Ops} {n : K35.T} (wn : Wf ops n) : ∀ (p : List Nat) (t u : K35.T), Wf ops t → t.at p = some u → Wf ops (t.rep p n) ∧ (t.rep p n).depth ≤ t.depth + n.depth ∧ (t.rep p n).size ≤ t.size + n.size
  | [], t, u, w, _ => by
    have e : t.rep [] n = n := by cases t <;> rfl
    rw [e]
    exact ⟨wn, by omega, by omega⟩
  | k :: p, t, u, w, h => by
    obtain ⟨f, as, j, b, rfl, rfl, eb, hb⟩ := at_cons h
    have hm : b ∈ as := List.mem_of_getElem? eb
    obtain ⟨i1, i2, i3⟩ := Wf.rep wn p b u (w.args.2 b hm) hb
    have e : (Tm.app f as).rep ((j + 1) :: p) n = .app f (as.take j ++ b.rep p n :: as.drop (j + 1)) := by simp only [Tm.rep, eb]
    have hj : j < as.length := (List.getElem?_eq_some_iff.mp eb).1
    have es : as = as.take j ++ b :: as.drop (j + 1) := by
      obtain ⟨h1, h2⟩ := List.getElem?_eq_some_iff.mp eb
      rw [← h2, ← List.drop_eq_getElem_cons h1, List.take_append_drop]
    have hl : (as.take j ++ b.rep p n :: as.drop (j + 1)).length = as.length := by
      rw [List.length_append, List.length_cons, List.length_take, List.length_drop]
      omega
    rw [e]
    refine ⟨.app (by rw [hl]; exact w.args.1) fun a ha => ?_, ?_, ?_⟩
    · rcases List.mem_append.mp ha with ha | ha
      · exact w.args.2 a (List.mem_of_mem_take ha)
      · rcases List.mem_cons.mp ha with ha | ha
        · rw [ha]; exact i1
        · exact w.args.2 a (List.mem_of_mem_drop ha)
    · have h1 : depthL as = max (depthL (as.take j)) (max b.depth (depthL (as.drop (j + 1)))) := by
        conv => lhs; rw [es, depthL_app]
        rfl
      simp only [Tm.depth, depthL_app, depthL]
      omega
    · have h1 : sizeL as = sizeL (as.take j) + (b.size + sizeL (as.drop (j + 1))) := by
        conv => lhs; rw [es, sizeL_app]
        rfl
      simp only [Tm.size, sizeL_app, sizeL]
      omega
theorem Wf.at {ops : Ops} : ∀ (p : List Nat) (t u : K35.T), Wf ops t → t.at p = some u → Wf ops u ∧ u.depth ≤ t.depth ∧ u.size ≤ t.size
  | [], t, u, w, h => by
    rw [at_nil] at h
    cases h
    exact ⟨w, Nat.le_refl _, Nat.le_refl _⟩
  | k :: p, t, u, w, h => by
    obtain ⟨f, as, j, b, rfl, rfl, eb, hb⟩ := at_cons h
    have hm : b ∈ as := List.mem_of_getElem? eb
    obtain ⟨i1, i2, i3⟩ := Wf.at p b u (w.args.2 b hm) hb
    have h1 := depth_mem hm
    have h2 := size_mem hm
    exact ⟨i1, by simp only [Tm.depth]; omega, by simp only [Tm.size]; omega⟩
end
end K35
set_option Elab.async false
set_option linter.all false
set_option maxRecDepth 100000
set_option maxHeartbeats 4000000
namespace K35
open PySem PySem.Spec PyProof.Rows L2
open He (ga ma)
section
variable {P : Program} {w : World} {K : PySem.W.Frag} {mg : Str → Option Value} {base : Heap}
abbrev rLn (K : PySem.W.Frag) : List V → Hp → VK → Prop := fun xs H Q => ∃ p ys, xs = [.ref p] ∧ (SqL K H p ys ∨ SqT K H p ys) ∧ Q (.int ys.length) H
theorem PosL.ne {H : Hp} {p l pl : Addr} {t : K35.T} (h : PosL H pl t) (hS : StOk H p l) : pl ≠ p := fun e => by
  obtain ⟨vs, h1, h2, h3⟩ := h
  obtain ⟨n, i, z, ns, h4, _⟩ := hS.ex
  rw [e, h4] at h1
  cases h1
  obtain ⟨a, q, u, e1, _⟩ := h3 0 _ rfl
  cases e1
theorem PosL.but {H H' : Hp} {p l pl : Addr} {t : K35.T} (h : PosL H pl t) (hS : StOk H p l) (b : But p H H') : PosL H' pl t := by
  have hne := h.ne hS
  obtain ⟨vs, h1, h2, h3⟩ := h
  exact ⟨vs, b _ _ hne h1, h2, h3.kt (b.kt hS)⟩
theorem PosL.same {H H' : Hp} {pl : Addr} {t : K35.T} (h : PosL H pl t) (s : Same H H') : PosL H' pl t := by
  obtain ⟨vs, h1, h2, h3⟩ := h
  exact ⟨vs, s _ _ h1, h2, h3.kt (kt_same s)⟩
/-- places[draw(len(places))] -/
theorem rd_place {σ : L2.St} {H : Hp} {Q : VK} {p l pl : Addr} {t : K35.T} {i s : Nat} (hi : σ[i]? = some (some (.ref pl))) (hs : σ[s]? = some (some (.ref p))) (hS : StOk H p l) (hP : PosL H pl t) (hz : t.size ≤ 1000)
    (q : ∀ (a : Addr) (pos : List Nat) (u : K35.T) H', PosT H' a pos → t.at pos = some u → StOk H' p l → But p H H' → Q (.ref a) H') :
    tOp (rIxL K) (tVar i) (tCall spDraw [] E0 (tCons (tVar s) (tCons (tCB (rLn K) (tCons (tVar i) tNil)) tNil))) σ H Q := by
  obtain ⟨vs, h1, h2, h3⟩ := id hP
  have hp := size_pos t
  refine ⟨_, hi, _, hs, _, hi, pl, vs, rfl, .inl (.of h1), p, l, _, rfl, hS, by omega, by omega, fun x H1 hx s1 b1 => ?_⟩
  obtain ⟨vs', g1, g2, g3⟩ := hP.but hS b1
  have hxl : x < vs'.length := by omega
  obtain ⟨a, pos, u, e1, e2, e3, _⟩ := g3 x _ (List.getElem?_eq_getElem hxl)
  refine ⟨pl, vs', _, .ref a, rfl, rfl, .of g1, atI_nat (by rw [List.getElem?_eq_getElem hxl, e1]), q a pos u H1 e2 e3 s1 b1⟩
/-! ### turned -/
def spTurned : Sp := fun vs H Q _ => ∃ (p l lo : Addr) (ops : Ops), vs = [.ref p, .ref lo] ∧ StOk H p l ∧ OpsIn H p lo ops ∧ ∀ (a : Addr) (k : Nat) H', k < ops.length → OpsAt H' a (ops.drop k ++ ops.take k) → StOk H' p l → But p H H' → Q (.ref a) H'
abbrev n_l_turned : List Str := ["_law_state_here", "_law_operations_here", "_law_k"]
theorem sc_l_turned : FnScope n_l_turned ["_law_state_here", "_law_operations_here"] (defScope s_l_turned) := ⟨rfl, rfl, rfl, by decide +kernel, rfl, by decide +kernel, by decide +kernel⟩
theorem ok_l_turned (T : Env0K K mg) : FnOk P w K mg base CX0 4 (ga K "_law_turned") T.fd_l_turned ["_law_state_here", "_law_operations_here"] spTurned := by
  have G_l_draw := ok_l_draw (P := P) (w := w) (base := base) T
  refine T.F_l_turned.ok sc_l_turned (fun vs H Q E h => ?_) (fun cdv A outer s H vs Q E hr h => ?_)
  · obtain ⟨p, l, lo, ops, rfl, _⟩ := h
    rfl
  · obtain ⟨p, l, lo, ops, rfl, hS, hO, q⟩ := h
    refine ⟨_, PSs.nox (pss_cons (ps_set (i := 2) sc_l_turned.nd rfl (Or.inl rfl) (pe_call G_l_draw (hr.mono (by omega)) (by rfl) T.g_l_draw T.F_l_draw.kp T.b_l_draw .nil pass0 (pa_cons (pv 0) (pa_cons (pe_callB call_len_seq (by rfl) T.f_len bt_len (pa_cons (pv 1) pa_nil)) pa_nil))))
      (pss_one (ps_ret (pe_op op_cat (pe_slice sl_list (pv 1) (po_some (pv 2)) po_none) (pe_slice sl_list (pv 1) po_none (po_some (pv 2))))))), ?_⟩
    have hsl := sizeLine_eq
    have hl := hO.ok.len
    obtain ⟨vs, h1, h2, _⟩ := id hO.at_
    refine ⟨_, rfl, _, rfl, lo, vs, rfl, .inl (.of h1), p, l, _, rfl, hS, by omega, by omega, fun k H1 hk s1 b1 => ?_⟩
    have O1 := hO.but hS b1
    obtain ⟨us, a1, a2, a3⟩ := O1.at_
    refine ⟨_, rfl, _, rfl, _, rfl, lo, us, rfl, .of a1, fun x hx => ?_⟩
    rw [cutFrom (by omega)]
    have n1 : lo ≠ x := ne_of_none a1 hx
    have c1 : Same H1 (L2.upd H1 x (.lst (us.drop k))) := same_upd hx
    refine ⟨_, rfl, _, rfl, _, rfl, lo, us, rfl, .of (c1 _ _ a1), fun y hy => ?_⟩
    rw [cutTo (by omega)]
    have c2 : Same (L2.upd H1 x (.lst (us.drop k))) (L2.upd (L2.upd H1 x (.lst (us.drop k))) y (.lst (us.take k))) := same_upd hy
    refine ⟨x, y, _, _, rfl, rfl, c2 _ _ upd_same, upd_same, by rw [List.length_drop, List.length_take]; omega, fun z hz => ?_⟩
    have c3 := (c1.trans c2).trans (same_upd (o := .lst (us.drop k ++ us.take k)) hz)
    refine q z k _ (by omega) ⟨_, upd_same, by simp only [List.length_append, List.length_drop, List.length_take]; omega, fun j f n v e1 e2 => ?_⟩ (s1.keep c3) (b1.trans (But.of_same c3))
    have key : ∃ i : Nat, ops[i]? = some (f, n) ∧ us[i]? = some v := by
      by_cases hj : j < ops.length - k
      · rw [List.getElem?_append_left (by rw [List.length_drop]; omega), List.getElem?_drop] at e1
        rw [List.getElem?_append_left (by rw [List.length_drop]; omega), List.getElem?_drop] at e2
        exact ⟨_, e1, e2⟩
      · rw [List.getElem?_append_right (by rw [List.length_drop]; omega), List.length_drop] at e1
        rw [List.getElem?_append_right (by rw [List.length_drop]; omega), List.length_drop] at e2
        have hlt : j - (ops.length - k) < k := by
          have := (List.getElem?_eq_some_iff.mp e1).1
          rw [List.length_take] at this
          omega
        rw [List.getElem?_take_of_lt hlt] at e1
        rw [show us.length - k = ops.length - k by omega, List.getElem?_take_of_lt hlt] at e2
        exact ⟨_, e1, e2⟩
    obtain ⟨i, e3, e4⟩ := key
    obtain ⟨t, e5, e6⟩ := a3 i f n v e3 e4
    exact ⟨t, e5, c3 _ _ e6⟩
/-! ### spoilt -/
def spSpoilt : Sp := fun vs H Q _ => ∃ (p l lo : Addr) (ops : Ops) (t : K35.T) (v : V), vs = [.ref p, .ref lo, .int 3, v] ∧ StOk H p l ∧ OpsIn H p lo ops ∧ TmAt H t v ∧ Wf ops t ∧ t.depth ≤ 3 ∧ t.size ≤ 13 ∧ ∀ t' v' H', Md ops p l 6 26 H H' t' v' → Q v' H'
abbrev n_l_spoilt : List Str := ["_law_state_here", "_law_operations_here", "_law_count", "_law_term_here", "_law_places", "_law_position"]
theorem sc_l_spoilt : FnScope n_l_spoilt ["_law_state_here", "_law_operations_here", "_law_count", "_law_term_here"] (defScope s_l_spoilt) := ⟨rfl, rfl, rfl, by decide +kernel, rfl, by decide +kernel, by decide +kernel⟩
theorem ok_l_spoilt (T : Env0K K mg) : FnOk P w K mg base CX0 12 (ga K "_law_spoilt") T.fd_l_spoilt ["_law_state_here", "_law_operations_here", "_law_count", "_law_term_here"] spSpoilt := by
  have G_l_draw := ok_l_draw (P := P) (w := w) (base := base) T
  have G_l_positions := ok_l_positions (P := P) (w := w) (base := base) T 10
  have G_l_replace := ok_l_replace (P := P) (w := w) (base := base) T 10
  have G_l_term := ok_l_term (P := P) (w := w) (base := base) T 3
  refine T.F_l_spoilt.ok sc_l_spoilt (fun vs H Q E h => ?_) (fun cdv A outer s H vs Q E hr h => ?_)
  · obtain ⟨p, l, lo, ops, t, v, rfl, _⟩ := h
    rfl
  · obtain ⟨p, l, lo, ops, t, v, rfl, hS, hO, ht, hw, hd, hz, q⟩ := h
    refine ⟨_, PSs.nox (pss_cons (ps_set (i := 4) sc_l_spoilt.nd rfl (Or.inl rfl) (pe_call G_l_positions (hr.mono (by omega)) (by rfl) T.g_l_positions T.F_l_positions.kp T.b_l_positions .nil pass0 (pa_cons (pv 3) pa_nil)))
      (pss_cons (ps_set (i := 5) sc_l_spoilt.nd rfl (Or.inl rfl) (pe_ix ix_list (pv 4) (pe_call G_l_draw (hr.mono (by omega)) (by rfl) T.g_l_draw T.F_l_draw.kp T.b_l_draw .nil pass0 (pa_cons (pv 0) (pa_cons (pe_callB call_len_seq (by rfl) T.f_len bt_len (pa_cons (pv 4) pa_nil)) pa_nil))) (fun _ _ => rfl)))
      (pss_one (ps_ret (pe_call G_l_replace (hr.mono (by omega)) (by rfl) T.g_l_replace T.F_l_replace.kp T.b_l_replace .nil pass0 (pa_cons (pv 3) (pa_cons (pv 5) (pa_cons (pe_call G_l_term (hr.mono (by omega)) (by rfl) T.g_l_term T.F_l_term.kp T.b_l_term .nil pass0 (pa_cons (pv 0) (pa_cons (pv 1) (pa_cons (pv 2) (pa_cons pe_int pa_nil))))) pa_nil)))))))), ?_⟩
    refine ⟨_, rfl, v, t, rfl, ht, by omega, by omega, fun pl H1 _ hP s1 => ?_⟩
    have S1 := hS.keep s1
    refine rd_place rfl rfl S1 hP (by omega) fun a pos u H2 ha hat S2 b2 => ?_
    have b02 : But p H H2 := (But.of_same s1).trans b2
    refine ⟨_, rfl, _, rfl, _, rfl, _, rfl, _, rfl, p, l, lo, ops, 1, rfl, by omega, S2, hO.but hS b02, fun nw vn H3 M => ?_⟩
    have b03 := b02.trans M.but
    have kt3 := M.but.kt S2
    have hpl := at_len _ _ _ hat
    obtain ⟨r1, r2, r3⟩ := Wf.rep M.wf pos t u hw hat
    have md := M.dp
    have mz := M.sz
    have ez : szB 1 = 4 := rfl
    refine ⟨v, vn, a, ops, t, u, nw, pos, rfl, ht.kt (b03.kt hS), hw, hO.ok.ar3, ha.kt kt3, by omega, by omega, hat, M.tm, fun v' H4 tm4 s4 => ?_⟩
    exact q _ _ _ ⟨tm4, r1, by omega, by omega, M.st.keep s4, b03.trans (But.of_same s4)⟩
end
end K35
set_option Elab.async false
set_option linter.all false
set_option maxRecDepth 100000
set_option maxHeartbeats 4000000
namespace K35
open PySem PySem.Spec PyProof.Rows L2
open He (ga ma)
section
variable {P : Program} {w : World} {K : PySem.W.Frag} {mg : Str → Option Value} {base : Heap}
def spNear : Sp := fun vs H Q _ => ∃ (p l lo : Addr) (ops : Ops) (t : K35.T) (v : V), vs = [.ref p, .ref lo, .int 3, v] ∧ StOk H p l ∧ OpsIn H p lo ops ∧ TmAt H t v ∧ Wf ops t ∧ t.depth ≤ 3 ∧ t.size ≤ 13 ∧ ∀ t' v' H', Md ops p l 6 26 H H' t' v' → Q v' H'
abbrev n_l_near : List Str := ["_law_state_here", "_law_operations_here", "_law_count", "_law_left", "_law_kind", "_law_places", "_law_position", "_law_found"]
theorem sc_l_near : FnScope n_l_near ["_law_state_here", "_law_operations_here", "_law_count", "_law_left"] (defScope s_l_near) := ⟨rfl, rfl, rfl, by decide +kernel, rfl, by decide +kernel, by decide +kernel⟩
theorem at1 {α : Type} (x y : α) (xs : List α) : atI (x :: y :: xs) 1 = some y := atI_nat (j := 1) rfl
theorem at2 {α : Type} (x y z : α) (xs : List α) : atI (x :: y :: z :: xs) 2 = some z := atI_nat (j := 2) rfl
theorem ok_l_near (T : Env0K K mg) : FnOk P w K mg base CX0 13 (ga K "_law_near") T.fd_l_near ["_law_state_here", "_law_operations_here", "_law_count", "_law_left"] spNear := by
  have G_l_draw := ok_l_draw (P := P) (w := w) (base := base) T
  have G_l_positions := ok_l_positions (P := P) (w := w) (base := base) T 10
  have G_l_replace := ok_l_replace (P := P) (w := w) (base := base) T 10
  have G_l_subterm := ok_l_subterm (P := P) (w := w) (base := base) T
  have G_l_spoilt := ok_l_spoilt (P := P) (w := w) (base := base) T
  have G_l_term := ok_l_term (P := P) (w := w) (base := base) T 3
  refine T.F_l_near.ok sc_l_near (fun vs H Q E h => ?_) (fun cdv A outer s H vs Q E hr h => ?_)
  · obtain ⟨p, l, lo, ops, t, v, rfl, _⟩ := h
    rfl
  · obtain ⟨p, l, lo, ops, t, v, rfl, hS, hO, ht, hw, hd, hz, q⟩ := h
    refine ⟨_, PSs.nox (pss_cons (ps_set (i := 4) sc_l_near.nd rfl (Or.inl rfl) (pe_call G_l_draw (hr.mono (by omega)) (by rfl) T.g_l_draw T.F_l_draw.kp T.b_l_draw .nil pass0 (pa_cons (pv 0) (pa_cons pe_int pa_nil))))
      (pss_cons (ps_set (i := 5) sc_l_near.nd rfl (Or.inl rfl) (pe_call G_l_positions (hr.mono (by omega)) (by rfl) T.g_l_positions T.F_l_positions.kp T.b_l_positions .nil pass0 (pa_cons (pv 3) pa_nil)))
      (pss_cons (ps_set (i := 6) sc_l_near.nd rfl (Or.inl rfl) (pe_ix ix_list (pv 5) (pe_call G_l_draw (hr.mono (by omega)) (by rfl) T.g_l_draw T.F_l_draw.kp T.b_l_draw .nil pass0 (pa_cons (pv 0) (pa_cons (pe_callB call_len_seq (by rfl) T.f_len bt_len (pa_cons (pv 5) pa_nil)) pa_nil))) (fun _ _ => rfl)))
      (pss_cons (ps_set (i := 7) sc_l_near.nd rfl (Or.inl rfl) (pe_call G_l_subterm (hr.mono (by omega)) (by rfl) T.g_l_subterm T.F_l_subterm.kp T.b_l_subterm .nil pass0 (pa_cons (pv 3) (pa_cons (pv 6) pa_nil))))
      (pss_cons (ps_if (pt_cmpR op_eq (pv 4) pe_int (nomark _))
        (pss_one (ps_ret (pv 7)))
        pss_nil)
      (pss_cons (ps_if (pt_cmpR op_eq (pv 4) pe_int (nomark _))
        (pss_one (ps_ret (pe_call G_l_spoilt (hr.mono (by omega)) (by rfl) T.g_l_spoilt T.F_l_spoilt.kp T.b_l_spoilt .nil pass0 (pa_cons (pv 0) (pa_cons (pv 1) (pa_cons (pv 2) (pa_cons (pv 3) pa_nil)))))))
        pss_nil)
      (pss_cons (ps_if (PW.pt (pw_and (pt_cmpR op_eq (pv 4) pe_int (nomark _)) (pw_and (pt_not (pt_val (pe_callB call_isi (by rfl) T.f_isinstance bt_isinstance (pa_cons (pv 7) (pa_cons (pe_bltn (v := .ty "int") (by rfl) T.f_int bt_int rfl) pa_nil))))) (pw_and1 (pt_cmpR op_gt (pe_callB call_len_seq (by rfl) T.f_len bt_len (pa_cons (pv 7) pa_nil)) pe_int (nomark _))))))
        (pss_one (ps_ret (pe_call G_l_replace (hr.mono (by omega)) (by rfl) T.g_l_replace T.F_l_replace.kp T.b_l_replace .nil pass0 (pa_cons (pv 3) (pa_cons (pv 6) (pa_cons (pe_op op_catA (pe_tup (pa_cons (pe_ix ix_tup (pv 7) pe_int (fun _ _ => rfl)) (pa_cons (pe_ix ix_tup (pv 7) pe_int (fun _ _ => rfl)) (pa_cons (pe_ix ix_tup (pv 7) pe_int (fun _ _ => rfl)) pa_nil)))) (pe_slice sl_tupA (pv 7) (po_some pe_int) po_none)) pa_nil))))))
        pss_nil)
      (pss_one (ps_ret (pe_call G_l_term (hr.mono (by omega)) (by rfl) T.g_l_term T.F_l_term.kp T.b_l_term .nil pass0 (pa_cons (pv 0) (pa_cons (pv 1) (pa_cons (pv 2) (pa_cons pe_int pa_nil)))))))))))))), ?_⟩
    have hsl := sizeLine_eq
    refine ⟨_, rfl, p, l, 4, rfl, hS, by decide, by decide, fun kd H1 hkd S1 b1 => ?_⟩
    refine ⟨_, rfl, v, t, rfl, ht.kt (b1.kt hS), by omega, by omega, fun pl H2 _ hP s2 => ?_⟩
    have S2 := S1.keep s2
    refine rd_place rfl rfl S2 hP (by omega) fun a pos u H3 ha hat S3 b3 => ?_
    have b03 : But p H H3 := (b1.trans (But.of_same s2)).trans b3
    have kt3 := b03.kt hS
    have ht3 := ht.kt kt3
    refine ⟨_, rfl, _, rfl, v, a, t, u, pos, rfl, ht3, ha, hat, fun vf hf => ?_⟩
    have hpl := at_len _ _ _ hat
    obtain ⟨wu, du, zu⟩ := Wf.at pos t u hw hat
    -- the last way: a new term
    have last : ∃ (p' l' lo' : Addr) (ops' : Ops) (h : Nat), [V.ref p, V.ref lo, V.int 3, V.int 2] = [.ref p', .ref lo', .int 3, .int (h : Int)] ∧ h < 3 ∧ StOk H3 p' l' ∧ OpsIn H3 p' lo' ops' ∧ ∀ t v H', Md ops' p' l' (h + 1) (szB h) H3 H' t v → Q v H' :=
      ⟨p, l, lo, ops, 2, rfl, by omega, S3, hO.but hS b03, fun t' v' H4 M => q _ _ _ ⟨M.tm, M.wf, by have := M.dp; omega, by have := M.sz; have : szB 2 = 13 := rfl; omega, M.st, b03.trans M.but⟩⟩
    refine ⟨_, rfl, rfl, _, rfl, ?_⟩
    refine ite2 (fun _ => ?_) (fun _ => ?_)
    · exact ⟨_, rfl, q u vf H3 ⟨hf, wu, by omega, by omega, S3, b03⟩⟩
    refine ⟨_, rfl, rfl, _, rfl, ?_⟩
    refine ite2 (fun _ => ?_) (fun _ => ?_)
    · refine ⟨_, rfl, _, rfl, _, rfl, _, rfl, p, l, lo, ops, t, v, rfl, S3, hO.but hS b03, ht3, hw, hd, hz, fun t' v' H4 M => q _ _ _ ⟨M.tm, M.wf, M.dp, M.sz, M.st, b03.trans M.but⟩⟩
    refine ⟨_, rfl, rfl, _, rfl, ?_⟩
    refine ite2 (fun _ => ?_) (fun _ => iteF ⟨_, rfl, _, rfl, _, rfl, last⟩)
    obtain ⟨ty, h1, h2⟩ := hf.isI.ty (K := K)
    refine ⟨_, rfl, _, _, _, _, _, rfl, .ty "int", h1, h2, _, rfl, ?_⟩
    cases u with
    | var i => exact iteF (iteF ⟨_, rfl, _, rfl, _, rfl, last⟩)
    | app f as =>
      refine iteT ?_
      obtain ⟨c, ws, rfl, hc, hl, hk⟩ := hf.inv
      refine ⟨_, rfl, c, _, rfl, .inr (.of hc), _, _, rfl, rfl, _, rfl, ?_⟩
      refine ite2 (fun hlen => ?_) (fun _ => ⟨_, rfl, _, rfl, _, rfl, last⟩)
      have hlen' := of_decide_eq_true hlen
      have h3 : as.length ≤ 3 := hO.ok.ar3 _ wu.args.1
      match as, ws, hl, hk, hc, hlen', wu, hat, h3, du, zu with
      | [], _, hl, _, _, hlen', _, _, _, _, _ => simp only [List.length_cons, List.length_nil] at hl hlen'; omega
      | [_], _, hl, _, _, hlen', _, _, _, _, _ => simp only [List.length_cons, List.length_nil] at hl hlen'; omega
      | x :: y :: r, [], hl, _, _, _, _, _, _, _, _ => simp at hl
      | x :: y :: r, [_], hl, _, _, _, _, _, _, _, _ => simp at hl
      | x :: y :: r, wx :: wy :: wr, hl, hk, hc, _, wu, hat, h3, du, zu =>
        simp only [List.length_cons] at hl h3
        refine ⟨_, rfl, _, rfl, _, rfl, c, _, 0, .str f, rfl, rfl, .of hc, at0 _ _, _, rfl, c, _, 2, wy, rfl, rfl, .of hc, at2 _ _ _ _, _, rfl, c, _, 1, wx, rfl, rfl, .of hc, at1 _ _ _, by show 3 ≤ sizeLine; omega, fun b1 hb1 => ?_⟩
        have s4 : Same H3 (L2.upd H3 b1 (.tup [.str f, wy, wx])) := same_upd hb1
        refine ⟨_, rfl, 3, rfl, c, _, rfl, .of (s4 _ _ hc), fun z => absurd z (from_not (k := 3) (by omega) (by simp)), fun _ b2 hb2 => ?_⟩
        have ecut : cutV (V.str f :: wx :: wy :: wr) (some 3) none = wr := by
          have := cutFrom (xs := V.str f :: wx :: wy :: wr) (k := 3) (by simp only [List.length_cons]; omega)
          exact this
        rw [ecut]
        have s5 : Same (L2.upd H3 b1 (.tup [.str f, wy, wx])) (L2.upd (L2.upd H3 b1 (.tup [.str f, wy, wx])) b2 (.tup wr)) := same_upd hb2
        have s45 := s4.trans s5
        -- the new term
        have tmN : ∀ (b : Addr) H', Same H3 H' → H' b = some (.tup (.str f :: (wy :: wx :: wr))) → TmAt H' (.app f (y :: x :: r)) (.ref b) := fun b H' s' hb => by
          refine .app hb (by simp only [List.length_cons]; omega) fun j u' x' e1 e2 => ?_
          match j, e1, e2 with
          | 0, e1, e2 => cases e1; cases e2; exact (hk 1 _ _ rfl rfl).kt (kt_same s')
          | 1, e1, e2 => cases e1; cases e2; exact (hk 0 _ _ rfl rfl).kt (kt_same s')
          | j + 2, e1, e2 => exact (hk (j + 2) _ _ (by simpa using e1) (by simpa using e2)).kt (kt_same s')
        have wN : Wf ops (.app f (y :: x :: r)) := .app wu.args.1 fun a ha => wu.args.2 a (by
          simp only [List.mem_cons] at ha ⊢
          rcases ha with h | h | h
          · exact .inr (.inl h)
          · exact .inl h
          · exact .inr (.inr h))
        have dN : (Tm.app f (y :: x :: r)).depth = (Tm.app f (x :: y :: r)).depth := by simp only [Tm.depth, depthL]; omega
        have zN : (Tm.app f (y :: x :: r)).size = (Tm.app f (x :: y :: r)).size := by simp only [Tm.size, sizeL]; omega
        obtain ⟨r1, r2, r3⟩ := Wf.rep wN pos t _ hw hat
        -- the call of replace
        have fin : ∀ (b : Addr) H', Same H3 H' → H' b = some (.tup (.str f :: (wy :: wx :: wr))) → spRep 10 [v, .ref a, .ref b] H' Q E0 := fun b H' s' hb =>
          ⟨v, .ref b, a, ops, t, _, _, pos, rfl, ht3.kt (kt_same s'), hw, hO.ok.ar3, ha.kt (kt_same s'), by omega, by omega, hat, tmN b H' s' hb, fun v' H4 tm4 s6 =>
            q _ _ _ ⟨tm4, r1, by omega, by omega, (S3.keep s').keep s6, (b03.trans (But.of_same s')).trans (But.of_same s6)⟩⟩
        refine ⟨b1, b2, _, _, rfl, rfl, .of (s5 _ _ upd_same), .of upd_same, by simp only [List.length_cons, List.length_nil]; omega, (fun e => nomatch e), fun _ e => ?_, fun _ _ b3 hb3 => ?_⟩
        · subst e
          exact fin b1 _ s45 (s5 _ _ upd_same)
        · exact fin b3 _ (s45.trans (same_upd hb3)) upd_same
end
end K35
set_option Elab.async false
set_option linter.all false
set_option maxRecDepth 100000
set_option maxHeartbeats 8000000
namespace K35
open PySem PySem.Spec PyProof.Rows L2
open He (ga ma)
/-! ### the operations, turned -/
theorem Wf.mono {o1 o2 : Ops} (h : ∀ x ∈ o1, x ∈ o2) {t : T} (w : Wf o1 t) : Wf o2 t := by
  induction w with
  | var h1 h2 => exact .var h1 h2
  | app hm _ ih => exact .app (h _ hm) ih
theorem ValsAt.mono {o1 o2 : Ops} (h : ∀ x ∈ o1, x ∈ o2) {s : Int → T} {H : Hp} {d : Addr} (v : ValsAt o1 s H d) : ValsAt o2 s H d :=
  ⟨v.ex, fun i a b => by obtain ⟨w, r⟩ := v.wf i a b; exact ⟨w.mono h, r⟩⟩
structure OpsC (ops : Ops) : Prop where
  ho : ∀ x ∈ ops, PyData.strOk x.1 = true
  ar : ∀ x ∈ ops, x.2 ≤ 3
  fn : ∀ x ∈ ops, ∀ y ∈ ops, x.1 = y.1 → x.2 = y.2
theorem fn_of_nd : ∀ {ops : Ops}, (nms ops).Nodup → ∀ x ∈ ops, ∀ y ∈ ops, x.1 = y.1 → x.2 = y.2
  | [], _, x, hx, _, _, _ => nomatch hx
  | z :: ops, nd, x, hx, y, hy, e => by
    have nd' : (z.1 :: nms ops).Nodup := nd
    obtain ⟨n1, n2⟩ := List.nodup_cons.mp nd'
    have mem : ∀ u ∈ ops, u.1 ∈ nms ops := fun u hu => List.mem_map.mpr ⟨u, hu, rfl⟩
    rcases List.mem_cons.mp hx with h1 | h1
    · rcases List.mem_cons.mp hy with h2 | h2
      · rw [h1, h2]
      · subst h1
        exact absurd (e ▸ mem y h2) n1
    · rcases List.mem_cons.mp hy with h2 | h2
      · subst h2
        exact absurd (e ▸ mem x h1) n1
      · exact fn_of_nd n2 x h1 y h2 e
theorem turned_ok {ops : Ops} (h : OpsOk ops) (k : Nat) : (nms (ops.drop k ++ ops.take k)).Nodup ∧ (∀ f ∈ nms (ops.drop k ++ ops.take k), GoodN f) ∧ OpsC (ops.drop k ++ ops.take k) ∧ (∀ x ∈ ops, x ∈ ops.drop k ++ ops.take k) ∧ (ops.drop k ++ ops.take k).length = ops.length := by
  have sub : ∀ x ∈ ops.drop k ++ ops.take k, x ∈ ops := fun x hx => by
    rcases List.mem_append.mp hx with hx | hx
    · exact List.mem_of_mem_drop hx
    · exact List.mem_of_mem_take hx
  have nd : (nms (ops.drop k ++ ops.take k)).Nodup := by
    have h1 : nms ops = nms (ops.take k) ++ nms (ops.drop k) := by
      conv => lhs; rw [← List.take_append_drop k ops]
      simp [nms]
    have h2 : nms (ops.drop k ++ ops.take k) = nms (ops.drop k) ++ nms (ops.take k) := by simp [nms]
    have h3 := h.nd
    rw [h1, List.nodup_append] at h3
    rw [h2, List.nodup_append]
    exact ⟨h3.2.1, h3.1, fun a ha b hb e => h3.2.2 b hb a ha e.symm⟩
  refine ⟨nd, fun f hf => ?_, ⟨fun x hx => (h.gd x.1 (List.mem_map.mpr ⟨x, sub x hx, rfl⟩)).ok, fun x hx => h.ar3 x (sub x hx), fn_of_nd nd⟩, fun x hx => ?_, ?_⟩
  · obtain ⟨x, hx, e⟩ := List.mem_map.mp hf
    exact h.gd f (List.mem_map.mpr ⟨x, sub x hx, e⟩)
  · rw [← List.take_append_drop k ops] at hx
    rcases List.mem_append.mp hx with hx | hx
    · exact List.mem_append_right _ hx
    · exact List.mem_append_left _ hx
  · rw [List.length_append, List.length_drop, List.length_take]
    omega
/-! ### what stands when the drawing is done -/
structure Wd (K : PySem.W.Frag) (ops : Ops) (H : Hp) (o g ap d : Addr) (vl vr vo : V) (l r u x : T) (s : Int → T) (pos : List Nat) : Prop where
  O : OrdAt K H o g
  S : SigAt K H g ops
  c : OpsC ops
  tl : TmAt H l vl
  tr : TmAt H r vr
  tu : TmAt H u vo
  wl : Wf ops l
  wr : Wf ops r
  wu : Wf ops u
  dl : l.depth ≤ 3 ∧ l.size ≤ 13
  dr : r.depth ≤ 6 ∧ r.size ≤ 26
  du : u.depth ≤ 3 ∧ u.size ≤ 13
  vals : ValsAt ops s H d
  pos_ : PosT H ap pos
  at_ : u.at pos = some x
theorem Wd.same {K : PySem.W.Frag} {ops : Ops} {H H' : Hp} {o g ap d : Addr} {vl vr vo : V} {l r u x : T} {s : Int → T} {pos : List Nat} (W : Wd K ops H o g ap d vl vr vo l r u x s pos) (e : Same H H') : Wd K ops H' o g ap d vl vr vo l r u x s pos :=
  ⟨W.O.kx (Kx.of_same e), W.S.kx (Kx.of_same e), W.c, W.tl.kt (kt_same e), W.tr.kt (kt_same e), W.tu.kt (kt_same e), W.wl, W.wr, W.wu, W.dl, W.dr, W.du, W.vals.same e, W.pos_.kt (kt_same e), W.at_⟩
theorem Wd.gin {K : PySem.W.Frag} {ops : Ops} {H : Hp} {o g ap d : Addr} {vl vr vo : V} {l r u x : T} {s : Int → T} {pos : List Nat} (W : Wd K ops H o g ap d vl vr vo l r u x s pos) {a b : T} {va vb : V} (ta : TmAt H a va) (tb : TmAt H b vb) (wa : Wf ops a) (wb : Wf ops b)
    (da : a.depth ≤ 16 ∧ a.size ≤ 4000) (db : b.depth ≤ 16 ∧ b.size ≤ 4000) : GIn K ops H o g va vb a b :=
  ⟨W.O, W.S, ta, tb, wa, wb, ⟨W.c.ho, W.c.ar, W.c.fn, da.2, db.2, da.1, db.1⟩⟩
section
variable {P : Program} {w : World} {K : PySem.W.Frag} {mg : Str → Option Value} {base : Heap}
theorem SigAt.but {ops : Ops} {H H' : Hp} {g p l : Addr} (S : SigAt K H g ops) (hne : 0 < ops.length) (hS : StOk H p l) (b : But p H H') : SigAt K H' g ops := by
  obtain ⟨dx, lo, da, df, kvs, h1, h2, h3, h4⟩ := S.ex
  obtain ⟨n, i, z, ns, hp, _⟩ := hS.ex
  have n1 : lo ≠ p := fun e => by
    rw [e, hp] at h2
    cases ops with
    | nil => simp at hne
    | cons x xs =>
      have h5 : [V.int n, .ref l, .int i, .int z] = (nms (x :: xs)).map V.str := by injection h2 with h2; injection h2
      simp [nms] at h5
  exact ⟨dx, lo, da, df, kvs, b _ _ (ne_of h1 hp (by intro z; cases z)) h1, b _ _ n1 h2, b _ _ (ne_of h3 hp (by intro z; cases z)) h3, h4⟩
/-- greater, whatever the operations are -/
def spGtE (K : PySem.W.Frag) : Sp := fun vs H Q E => ∃ ops : Ops, spGreater K ops vs H Q E
theorem ok_gtE (T : Env0K K mg) : FnOk P w K mg base CX0 150 (ma K (ga K "PathOrder") "greater") T.fd_po_greater ["self", "left", "right"] (spGtE K) :=
  ⟨fun vs H Q E ⟨ops, h⟩ => (ok_po_greater (P := P) (w := w) (base := base) T ops).len vs H Q E h,
   fun A outer s H args us vs Q E h1 h2 h3 h4 ⟨ops, h⟩ => (ok_po_greater (P := P) (w := w) (base := base) T ops).run A outer s H args us vs Q E h1 h2 h3 h4 h⟩
theorem rd_gt {ops : Ops} {H : Hp} {Q : VK} {o g : Addr} {va vb : V} {a b : K35.T} (G : GIn K ops H o g va vb a b) (q : ∀ (c : Bool) H', (c = true ↔ Gt (rk ops) a b) → Same H H' → Q (.bl c) H') :
    spGtE K [.ref o, va, vb] H Q E0 := ⟨ops, o, g, va, vb, a, b, rfl, G, q⟩
def spLaw (K : PySem.W.Frag) : Sp := fun vs H Q _ => ∃ (a : Addr) (ns : List Int), vs = [.ref a] ∧ SqL K H a (ns.map V.int) ∧ ns.length ≤ 63 ∧ ∀ H', Q (.bl true) H'
abbrev n_law : List Str := ["_law_script", "_law_state_here", "_law_operations_here", "_law_order", "_law_left", "_law_right", "_law_values_here", "_law_outside", "_law_places", "_law_position", "_law_place", "_law_one", "_law_other", "_law_first", "_law_second", "_law_inner", "_law_lesser", "_law_wide"]
theorem sc_law : FnScope n_law ["_law_script"] (defScope s_law) := ⟨rfl, rfl, rfl, by decide +kernel, rfl, by decide +kernel, by decide +kernel⟩
theorem ok_law (T : Env0K K mg) : FnOk P w K mg base CX0 152 (ga K "law") T.fd_law ["_law_script"] (spLaw K) := by
  have G_l_state := ok_l_state (P := P) (w := w) (base := base) T
  have G_l_operations := ok_l_operations (P := P) (w := w) (base := base) T
  have G_l_turned := ok_l_turned (P := P) (w := w) (base := base) T
  have G_l_signature := ok_l_signature (P := P) (w := w) (base := base) T
  have G_po_init := ok_po_init (P := P) (w := w) (base := base) T
  have G_l_app := ok_l_app (P := P) (w := w) (base := base) T
  have G_l_near := ok_l_near (P := P) (w := w) (base := base) T
  have G_l_values := ok_l_values (P := P) (w := w) (base := base) T
  have G_l_term := ok_l_term (P := P) (w := w) (base := base) T 3
  have G_l_positions := ok_l_positions (P := P) (w := w) (base := base) T 10
  have G_l_draw := ok_l_draw (P := P) (w := w) (base := base) T
  have G_l_subterm := ok_l_subterm (P := P) (w := w) (base := base) T
  have G_l_substitute := ok_l_substitute (P := P) (w := w) (base := base) T 10
  have G_l_replace := ok_l_replace (P := P) (w := w) (base := base) T 10
  have G_po_greater := ok_gtE (P := P) (w := w) (base := base) T
  refine T.F_law.ok sc_law (fun vs H Q E h => ?_) (fun cdv A outer s H vs Q E hr h => ?_)
  · obtain ⟨a, ns, rfl, _⟩ := h
    rfl
  · obtain ⟨a, ns, rfl, hS, hlen, q⟩ := h
    refine ⟨_, PSs.nox (pss_cons (ps_set (i := 1) sc_law.nd rfl (Or.inl rfl) (pe_call G_l_state (hr.mono (by omega)) (by rfl) T.g_l_state T.F_l_state.kp T.b_l_state .nil pass0 (pa_cons (pv 0) pa_nil)))
      (pss_cons (ps_set (i := 2) sc_law.nd rfl (Or.inl rfl) (pe_call G_l_operations (hr.mono (by omega)) (by rfl) T.g_l_operations T.F_l_operations.kp T.b_l_operations .nil pass0 (pa_cons (pv 1) pa_nil)))
      (pss_cons (ps_set (i := 3) sc_law.nd rfl (Or.inl rfl) (pe_make T.mk_PathOrder G_po_init (hr.mono (by omega)) rfl T.g_PathOrder T.b_po_init .nil pass0 (pa_cons (pe_call G_l_signature (hr.mono (by omega)) (by rfl) T.g_l_signature T.F_l_signature.kp T.b_l_signature .nil pass0 (pa_cons (pe_call G_l_turned (hr.mono (by omega)) (by rfl) T.g_l_turned T.F_l_turned.kp T.b_l_turned .nil pass0 (pa_cons (pv 1) (pa_cons (pv 2) pa_nil))) pa_nil)) pa_nil)))
      (pss_cons (ps_set (i := 4) sc_law.nd rfl (Or.inl rfl) (pe_call G_l_app (hr.mono (by omega)) (by rfl) T.g_l_app T.F_l_app.kp T.b_l_app .nil pass0 (pa_cons (pv 1) (pa_cons (pv 2) (pa_cons pe_int (pa_cons pe_int pa_nil))))))
      (pss_cons (ps_set (i := 5) sc_law.nd rfl (Or.inl rfl) (pe_call G_l_near (hr.mono (by omega)) (by rfl) T.g_l_near T.F_l_near.kp T.b_l_near .nil pass0 (pa_cons (pv 1) (pa_cons (pv 2) (pa_cons pe_int (pa_cons (pv 4) pa_nil))))))
      (pss_cons (ps_set (i := 6) sc_law.nd rfl (Or.inl rfl) (pe_call G_l_values (hr.mono (by omega)) (by rfl) T.g_l_values T.F_l_values.kp T.b_l_values .nil pass0 (pa_cons (pv 1) (pa_cons (pv 2) (pa_cons pe_int (pa_cons pe_int pa_nil))))))
      (pss_cons (ps_set (i := 7) sc_law.nd rfl (Or.inl rfl) (pe_call G_l_term (hr.mono (by omega)) (by rfl) T.g_l_term T.F_l_term.kp T.b_l_term .nil pass0 (pa_cons (pv 1) (pa_cons (pv 2) (pa_cons pe_int (pa_cons pe_int pa_nil))))))
      (pss_cons (ps_set (i := 8) sc_law.nd rfl (Or.inl rfl) (pe_call G_l_positions (hr.mono (by omega)) (by rfl) T.g_l_positions T.F_l_positions.kp T.b_l_positions .nil pass0 (pa_cons (pv 7) pa_nil)))
      (C8.pss_cut (ps_set (i := 9) sc_law.nd rfl (Or.inl rfl) (pe_ix ix_list (pv 8) (pe_call G_l_draw (hr.mono (by omega)) (by rfl) T.g_l_draw T.F_l_draw.kp T.b_l_draw .nil pass0 (pa_cons (pv 1) (pa_cons (pe_callB call_len_seq (by rfl) T.f_len bt_len (pa_cons (pv 8) pa_nil)) pa_nil))) (fun _ _ => rfl)))
      (pss_cons (ps_if (PW.pt (pw_or (pt_cmpR op_notBl (pe_meth (pv 3) T.cl_PathOrder T.m_greater G_po_greater (hr.mono (by omega)) T.b_po_greater .nil pass0 (pa_cons (pv 4) (pa_cons (pv 4) pa_nil))) pe_bl (nomark _)) (pw_or1 (pt_cmpR op_notBl (pe_meth (pv 3) T.cl_PathOrder T.m_greater G_po_greater (hr.mono (by omega)) T.b_po_greater .nil pass0 (pa_cons (pv 5) (pa_cons (pv 5) pa_nil))) pe_bl (nomark _)))))
        (pss_one (ps_ret pe_bl))
        pss_nil)
      (pss_cons (ps_for PassesOwn.never rfl (pi_list (pe_slice sl_list (pe_call G_l_positions (hr.mono (by omega)) (by rfl) T.g_l_positions T.F_l_positions.kp T.b_l_positions .nil pass0 (pa_cons (pv 4) pa_nil)) (po_some pe_int) po_none)) (pg_name (i := 10) sc_law.nd rfl (Or.inl rfl))
        (pss_one (ps_if (pt_cmpR op_notBl (pe_meth (pv 3) T.cl_PathOrder T.m_greater G_po_greater (hr.mono (by omega)) T.b_po_greater .nil pass0 (pa_cons (pv 4) (pa_cons (pe_call G_l_subterm (hr.mono (by omega)) (by rfl) T.g_l_subterm T.F_l_subterm.kp T.b_l_subterm .nil pass0 (pa_cons (pv 4) (pa_cons (pv 10) pa_nil))) pa_nil))) pe_bl (nomark _))
          (pss_one (ps_ret pe_bl))
          pss_nil)))
      (pss_cons (ps_for PassesOwn.never rfl (pi_list (pe_lst (pa_cons (pe_tup (pa_cons (pv 4) (pa_cons (pv 5) pa_nil))) (pa_cons (pe_tup (pa_cons (pv 5) (pa_cons (pv 4) pa_nil))) pa_nil)))) (pg_tup rfl (pgs_cons (pg_name (i := 11) sc_law.nd rfl (Or.inl rfl)) (pgs_cons (pg_name (i := 12) sc_law.nd rfl (Or.inl rfl)) pgs_nil)))
        (pss_one (ps_if (pt_cmpR op_isBl (pe_meth (pv 3) T.cl_PathOrder T.m_greater G_po_greater (hr.mono (by omega)) T.b_po_greater .nil pass0 (pa_cons (pv 11) (pa_cons (pv 12) pa_nil))) pe_bl (nomark _))
          (pss_cons (ps_set (i := 13) sc_law.nd rfl (Or.inl rfl) (pe_call G_l_substitute (hr.mono (by omega)) (by rfl) T.g_l_substitute T.F_l_substitute.kp T.b_l_substitute .nil pass0 (pa_cons (pv 11) (pa_cons (pv 6) pa_nil))))
          (pss_cons (ps_set (i := 14) sc_law.nd rfl (Or.inl rfl) (pe_call G_l_substitute (hr.mono (by omega)) (by rfl) T.g_l_substitute T.F_l_substitute.kp T.b_l_substitute .nil pass0 (pa_cons (pv 12) (pa_cons (pv 6) pa_nil))))
          (pss_cons (ps_if (PW.pt (pw_or (pt_cmpR op_notBl (pe_meth (pv 3) T.cl_PathOrder T.m_greater G_po_greater (hr.mono (by omega)) T.b_po_greater .nil pass0 (pa_cons (pv 12) (pa_cons (pv 11) pa_nil))) pe_bl (nomark _)) (pw_or1 (pt_cmpR op_notBl (pe_meth (pv 3) T.cl_PathOrder T.m_greater G_po_greater (hr.mono (by omega)) T.b_po_greater .nil pass0 (pa_cons (pv 13) (pa_cons (pv 14) pa_nil))) pe_bl (nomark _)))))
            (pss_one (ps_ret pe_bl))
            pss_nil)
          (pss_one (ps_for PassesOwn.never rfl (pi_list (pe_lst (pa_cons (pe_tup (pa_cons (pv 11) (pa_cons (pv 12) pa_nil))) (pa_cons (pe_tup (pa_cons (pv 13) (pa_cons (pv 14) pa_nil))) pa_nil)))) (pg_tup rfl (pgs_cons (pg_name (i := 15) sc_law.nd rfl (Or.inl rfl)) (pgs_cons (pg_name (i := 16) sc_law.nd rfl (Or.inl rfl)) pgs_nil)))
            (pss_cons (ps_set (i := 17) sc_law.nd rfl (Or.inl rfl) (pe_call G_l_replace (hr.mono (by omega)) (by rfl) T.g_l_replace T.F_l_replace.kp T.b_l_replace .nil pass0 (pa_cons (pv 7) (pa_cons (pv 9) (pa_cons (pv 15) pa_nil)))))
            (pss_one (ps_if (pt_cmpR op_notBl (pe_meth (pv 3) T.cl_PathOrder T.m_greater G_po_greater (hr.mono (by omega)) T.b_po_greater .nil pass0 (pa_cons (pv 17) (pa_cons (pe_call G_l_replace (hr.mono (by omega)) (by rfl) T.g_l_replace T.F_l_replace.kp T.b_l_replace .nil pass0 (pa_cons (pv 7) (pa_cons (pv 9) (pa_cons (pv 16) pa_nil)))) pa_nil))) pe_bl (nomark _))
              (pss_one (ps_ret pe_bl))
              pss_nil))))))))
          pss_nil)))
      (pss_one (ps_ret pe_bl)))))))))))))), ?_⟩
    -- the state, the operations
    refine ⟨_, rfl, a, ns, rfl, hS, hlen, fun p lst H1 S1 e1 => ?_⟩
    refine ⟨_, rfl, p, lst, rfl, S1, fun lo ops0 H2 hlo hO2 hOk S2 b2 => ?_⟩
    have nlo : lo ≠ p := fun e => by obtain ⟨xs, h⟩ := S1.lst; rw [e, h] at hlo; cases hlo
    have O2 : OpsIn H2 p lo ops0 := ⟨hO2, nlo, hOk⟩
    -- turned, the signature, the order
    refine ⟨_, rfl, _, rfl, p, lst, lo, ops0, rfl, S2, O2, fun ta k H3 hk hO3 S3 b3 => ?_⟩
    obtain ⟨t1, t2, t3, t4, t5⟩ := turned_ok hOk k
    have O3 := O2.but S2 b3
    generalize ops0.drop k ++ ops0.take k = ops at hO3 t1 t2 t3 t4 t5
    have hl5 := hOk.len
    refine ⟨ta, ops, rfl, hO3, t1, t2, t3.ar, by omega, fun g H4 Sg4 e4 => ?_⟩
    intro o dx ho hdx nox
    have s45 : Same H4 (upd (upd H4 dx (.own o)) o (.ins (ga K "PathOrder") dx [])) := (same_upd hdx).trans (same_upd (by rw [upd_ne (Ne.symm nox)]; exact ho))
    refine ⟨o, dx, g, rfl, upd_same, fun H5 hO5 b5 => ⟨rfl, ?_⟩⟩
    have e5 : Same H4 H5 := fun b ob e => b5 b ob (ne_of_none e ho) (s45 b ob e)
    have S5 := (S3.keep e4).keep e5
    have b35 : But p H3 H5 := But.of_same (e4.trans e5)
    have O5 := O3.but S3 b35
    have Sg5 := Sg4.kx (Kx.of_same e5)
    -- the terms
    refine ⟨_, rfl, _, rfl, p, lst, lo, ops0, rfl, S5, O5, fun f as vl H6 M6 => ?_⟩
    have O6 := O5.but S5 M6.but
    refine ⟨_, rfl, _, rfl, _, rfl, p, lst, lo, ops0, .app f as, vl, rfl, M6.st, O6, M6.tm, M6.wf, M6.dp, M6.sz, fun r vr H7 M7 => ?_⟩
    have O7 := O6.but M6.st M7.but
    refine ⟨_, rfl, _, rfl, p, lst, lo, ops0, rfl, M7.st, O7, fun sb d H8 _ V8 S8 b8 => ?_⟩
    have O8 := O7.but M7.st b8
    refine ⟨_, rfl, _, rfl, p, lst, lo, ops0, 2, rfl, by omega, S8, O8, fun u vo H9 M9 => ?_⟩
    have du := M9.dp
    have zu := M9.sz
    have ez : szB 2 = 13 := rfl
    refine ⟨_, rfl, vo, u, rfl, M9.tm, by omega, by omega, fun pl H10 _ hP10 e10 => ?_⟩
    have S10 := M9.st.keep e10
    -- behind the drawing
    refine ⟨fun σ H11 => ∃ (ap : Addr) (pos : List Nat) (x : K35.T), σ = [some (.ref a), some (.ref p), some (.ref lo), some (.ref o), some vl, some vr, some (.ref d), some vo, some (.ref pl), some (.ref ap), none, none, none, none, none, none, none, none] ∧ Wd K ops H11 o g ap d vl vr vo (.app f as) r u x sb pos, ?_, ?_⟩
    · refine rd_place rfl rfl S10 hP10 (by omega) fun ap pos x H11 hap hat S11 b11 => ⟨ap, pos, x, rfl, ?_⟩
      have c6 := M6.but
      have c7 := c6.trans M7.but
      have b511 : But p H5 H11 := (((c7.trans b8).trans M9.but).trans (But.of_same e10)).trans b11
      have b611 : But p H6 H11 := (((M7.but.trans b8).trans M9.but).trans (But.of_same e10)).trans b11
      have b711 : But p H7 H11 := ((b8.trans M9.but).trans (But.of_same e10)).trans b11
      have b811 : But p H8 H11 := (M9.but.trans (But.of_same e10)).trans b11
      have b911 : But p H9 H11 := (But.of_same e10).trans b11
      obtain ⟨xs, hp5⟩ := S5.lst
      -- what is not the state stands
      have hOrd : OrdAt K H11 o g := by
        obtain ⟨dy, h⟩ := hO5
        exact ⟨dy, b511 _ _ (ne_of h hp5 (by intro z; cases z)) h⟩
      refine ⟨hOrd, Sg5.but (by omega) S5 b511, t3, M6.tm.kt (b611.kt M6.st), M7.tm.kt (b711.kt M7.st), M9.tm.kt (b911.kt M9.st), M6.wf.mono t4, M7.wf.mono t4, M9.wf.mono t4, ⟨M6.dp, M6.sz⟩, ⟨M7.dp, M7.sz⟩, ⟨by omega, by omega⟩, (V8.but S8 b811).mono t4, hap, hat⟩
    · rintro σ W0 ⟨ap, pos, x, rfl, W⟩
      have hsl := sizeLine_eq
      -- the order's method is found
      have gO : ∀ {H' : Hp}, Same W0 H' → ∃ dx, H' o = some (.ins (ga K "PathOrder") dx (ordF g)) := fun {H'} e => (W.same e).O
      have noG : (ordF g).lookup ("greater" : Str) = none := ordF_no _ (by decide +kernel)
      have hpl : pos.length ≤ 3 := by have := at_len _ _ _ W.at_; have := W.du.1; omega
      have dl16 : (Tm.app f as).depth ≤ 16 ∧ (Tm.app f as).size ≤ 4000 := by have := W.dl; omega
      have dr16 : r.depth ≤ 16 ∧ r.size ≤ 4000 := by have := W.dr; omega
      -- no term is greater than itself
      obtain ⟨dx0, hO0⟩ := gO (Same.refl W0)
      refine ⟨_, rfl, o, dx0, _, rfl, hO0, noG, _, rfl, _, rfl, rd_gt (W.gin W.tl W.tl W.wl W.wl dl16 dl16) fun c1 W1 h1 e1 => ?_⟩
      have hc1 : c1 = false := by
        cases c1 with
        | false => rfl
        | true => exact absurd (h1.mp rfl) (Gt.irrefl _)
      subst hc1
      have W1' := W.same e1
      obtain ⟨dx1, hO1⟩ := gO e1
      refine ⟨_, _, rfl, rfl, _, rfl, iteF ?_⟩
      refine ⟨_, rfl, o, dx1, _, rfl, hO1, noG, _, rfl, _, rfl, rd_gt (W1'.gin W1'.tr W1'.tr W.wr W.wr dr16 dr16) fun c2 W2 h2 e2 => ?_⟩
      have hc2 : c2 = false := by
        cases c2 with
        | false => rfl
        | true => exact absurd (h2.mp rfl) (Gt.irrefl _)
      subst hc2
      have e02 := e1.trans e2
      have W2' := W.same e02
      refine ⟨_, _, rfl, rfl, _, rfl, iteF ?_⟩
      -- a term is greater than its proper subterms
      refine ⟨_, rfl, vl, _, rfl, W2'.tl, by have := W.dl; omega, by have := W.dl; omega, fun ql W3 _ hP3 e3 => ?_⟩
      have e03 := e02.trans e3
      obtain ⟨vs, g1, g2, g3⟩ := hP3
      have hsz := size_pos (Tm.app f as)
      refine ⟨1, rfl, ql, vs, rfl, .of g1, fun qt hqt => ?_⟩
      rw [show ((1 : Int)) = ((1 : Nat) : Int) from rfl, cutFrom (by omega)]
      have e4 : Same W3 (upd W3 qt (.lst (vs.drop 1))) := same_upd hqt
      have e04 := e03.trans e4
      refine ⟨qt, rfl, ⟨_, .of upd_same⟩, for_list (K := K) (a := qt) (xs := vs.drop 1) (fun i σ H5 => Same W0 H5 ∧ H5 qt = some (.lst (vs.drop 1)) ∧ PosM H5 (.app f as) vs ∧ ∃ y, σ = [some (.ref a), some (.ref p), some (.ref lo), some (.ref o), some vl, some vr, some (.ref d), some vo, some (.ref pl), some (.ref ap), y, none, none, none, none, none, none, none])
        ⟨e04, upd_same, g3.kt (kt_same e4), none, rfl⟩ ?_ ?_ ?_⟩
      · rintro i σ H5 _ ⟨_, h, _⟩
        exact .of h
      · rintro i v σ H5 hv ⟨e5, hq5, hm5, y, rfl⟩
        rw [List.getElem?_drop] at hv
        obtain ⟨b, bp, bu, rfl, hb1, hb2, hb3⟩ := hm5 (1 + i) v hv
        have hne : bp ≠ [] := hb3 (by omega)
        have W5 := W.same e5
        obtain ⟨dx5, hO5'⟩ := gO e5
        refine ⟨_, rfl, o, dx5, _, rfl, hO5', noG, _, rfl, _, rfl, _, rfl, vl, b, _, bu, bp, rfl, W5.tl, hb1, hb2, fun v' tv' => ?_⟩
        obtain ⟨wu', du', zu'⟩ := Wf.at bp _ bu W.wl hb2
        have dm := W.dl
        refine rd_gt (W5.gin W5.tl tv' W.wl wu' dl16 (by omega)) fun c5 H6 h5 e6 => ?_
        have hc5 : c5 = true := h5.mpr (Gt.sub_at bp _ bu hne hb2)
        subst hc5
        refine ⟨_, _, rfl, rfl, _, rfl, iteF ?_⟩
        exact ⟨e5.trans e6, e6 _ _ hq5, hm5.kt (kt_same e6), _, rfl⟩
      · rintro σ H5 ⟨e5, _, _, y, rfl⟩
        have W5 := W.same e5
        have z2 : (2 : Nat) ≤ sizeLine := by omega
        -- both ways round
        refine ⟨_, rfl, _, rfl, z2, fun q1 hq1 => ⟨_, rfl, _, rfl, z2, fun q2 hq2 => ⟨z2, fun q3 hq3 => ?_⟩⟩⟩
        have f1 : Same H5 (upd H5 q1 (.tup [vl, vr])) := same_upd hq1
        have f2 : Same (upd H5 q1 (.tup [vl, vr])) (upd (upd H5 q1 (.tup [vl, vr])) q2 (.tup [vr, vl])) := same_upd hq2
        have f3 : Same (upd (upd H5 q1 (.tup [vl, vr])) q2 (.tup [vr, vl])) (upd (upd (upd H5 q1 (.tup [vl, vr])) q2 (.tup [vr, vl])) q3 (.lst [.ref q1, .ref q2])) := same_upd hq3
        have g1' : (upd (upd (upd H5 q1 (.tup [vl, vr])) q2 (.tup [vr, vl])) q3 (.lst [.ref q1, .ref q2])) q1 = some (.tup [vl, vr]) := f3 _ _ (f2 _ _ upd_same)
        have g2' : (upd (upd (upd H5 q1 (.tup [vl, vr])) q2 (.tup [vr, vl])) q3 (.lst [.ref q1, .ref q2])) q2 = some (.tup [vr, vl]) := f3 _ _ upd_same
        have e8 := ((e5.trans f1).trans f2).trans f3
        refine ⟨q3, rfl, ⟨_, .of upd_same⟩, ?_⟩
        generalize hH8 : upd (upd (upd H5 q1 (.tup [vl, vr])) q2 (.tup [vr, vl])) q3 (.lst [.ref q1, .ref q2]) = H8 at e8 g1' g2'
        have g3' : H8 q3 = some (.lst [.ref q1, .ref q2]) := by rw [← hH8]; exact upd_same
        refine for_list (K := K) (a := q3) (xs := [.ref q1, .ref q2]) (fun i σ H9 => Same H8 H9 ∧ ∃ y10 y11 y12 y13 y14 y15 y16 y17, σ = [some (.ref a), some (.ref p), some (.ref lo), some (.ref o), some vl, some vr, some (.ref d), some vo, some (.ref pl), some (.ref ap), y10, y11, y12, y13, y14, y15, y16, y17])
          ⟨Same.refl _, y, none, none, none, none, none, none, none, rfl⟩ ?_ ?_ ?_
        · rintro i σ H9 _ ⟨e9, _⟩
          exact .of (e9 _ _ g3')
        · rintro i v σ H9 hv ⟨e9, y10, y11, y12, y13, y14, y15, y16, y17, rfl⟩
          have e09 := e8.trans e9
          have W9 := W.same e09
          -- one, other
          obtain ⟨qa, va, vb, ta, tb, rfl, hqa, tma, tmb, wa, wb, da, db⟩ : ∃ (qa : Addr) (va vb : V) (ta tb : K35.T), v = .ref qa ∧ H9 qa = some (.tup [va, vb]) ∧ TmAt H9 ta va ∧ TmAt H9 tb vb ∧ Wf ops ta ∧ Wf ops tb ∧ (ta.depth ≤ 6 ∧ ta.size ≤ 26) ∧ (tb.depth ≤ 6 ∧ tb.size ≤ 26) := by
            have dm := W.dl
            have dn := W.dr
            have hi2 : i = 0 ∨ i = 1 := by
              have := (List.getElem?_eq_some_iff.mp hv).1
              simp only [List.length_cons, List.length_nil] at this
              omega
            rcases hi2 with rfl | rfl
            · cases hv
              exact ⟨q1, vl, vr, _, _, rfl, e9 _ _ g1', W9.tl, W9.tr, W.wl, W.wr, by omega, by omega⟩
            · cases hv
              exact ⟨q2, vr, vl, _, _, rfl, e9 _ _ g2', W9.tr, W9.tl, W.wr, W.wl, by omega, by omega⟩
          have da16 : ta.depth ≤ 16 ∧ ta.size ≤ 4000 := by omega
          have db16 : tb.depth ≤ 16 ∧ tb.size ≤ 4000 := by omega
          refine ⟨qa, _, rfl, .of hqa, rfl, _, _, rfl, _, _, rfl, rfl, ?_⟩
          obtain ⟨dx9, hO9⟩ := gO e09
          refine ⟨_, rfl, o, dx9, _, rfl, hO9, noG, _, rfl, _, rfl, rd_gt (W9.gin tma tmb wa wb da16 db16) fun c9 H10 h9 e10 => ?_⟩
          refine ⟨_, _, rfl, rfl, _, rfl, ?_⟩
          cases c9 with
          | false =>
            rw [decide_eq_false (show ¬ (false = true) by simp)]
            refine iteF ?_
            exact ⟨e9.trans e10, _, _, _, _, _, _, _, _, rfl⟩
          | true =>
            rw [decide_eq_true (show true = true from rfl)]
            refine iteT ?_
            have hgt := h9.mp rfl
            have e010 := e09.trans e10
            have W10 := W.same e010
            -- the substitution
            refine ⟨_, rfl, _, rfl, va, d, ops, sb, ta, rfl, tma.kt (kt_same e10), wa, W.c.ar, W10.vals, by omega, fun v1 H11 tm1 e11 => ?_⟩
            have W11 := W10.same e11
            refine ⟨_, rfl, _, rfl, vb, d, ops, sb, tb, rfl, (tmb.kt (kt_same e10)).kt (kt_same e11), wb, W.c.ar, W11.vals, by omega, fun v2 H12 tm2 e12 => ?_⟩
            have W12 := W11.same e12
            have e1012 := (e10.trans e11).trans e12
            have tm1' := tm1.kt (kt_same e12)
            obtain ⟨ws1, ds1, zs1⟩ := Wf.sub W.vals.wf wa
            obtain ⟨ws2, ds2, zs2⟩ := Wf.sub W.vals.wf wb
            obtain ⟨dx12, hO12⟩ := gO (e09.trans e1012)
            refine ⟨_, rfl, o, dx12, _, rfl, hO12, noG, _, rfl, _, rfl, rd_gt (W12.gin (tmb.kt (kt_same e1012)) (tma.kt (kt_same e1012)) wb wa db16 da16) fun c12 H13 h12 e13 => ?_⟩
            have hc12 : c12 = false := by
              cases c12 with
              | false => rfl
              | true => exact absurd (h12.mp rfl) hgt.asymm
            subst hc12
            have W13 := W12.same e13
            obtain ⟨dx13, hO13⟩ := gO ((e09.trans e1012).trans e13)
            refine ⟨_, _, rfl, rfl, _, rfl, iteF ?_⟩
            refine ⟨_, rfl, o, dx13, _, rfl, hO13, noG, _, rfl, _, rfl, rd_gt (W13.gin (tm1'.kt (kt_same e13)) (tm2.kt (kt_same e13)) ws1 ws2 (by omega) (by omega)) fun c13 H14 h13 e14 => ?_⟩
            have hc13 : c13 = true := h13.mpr (hgt.sub sb)
            subst hc13
            refine ⟨_, _, rfl, rfl, _, rfl, iteF ?_⟩
            have e1314 := e13.trans e14
            have e014 := (e09.trans e1012).trans e1314
            have W14 := W.same e014
            -- inside the larger term
            refine ⟨_, rfl, _, rfl, z2, fun p1 hp1 => ⟨_, rfl, _, rfl, z2, fun p2 hp2 => ⟨z2, fun p3 hp3 => ?_⟩⟩⟩
            have k1 : Same H14 (upd H14 p1 (.tup [va, vb])) := same_upd hp1
            have k2 : Same (upd H14 p1 (.tup [va, vb])) (upd (upd H14 p1 (.tup [va, vb])) p2 (.tup [v1, v2])) := same_upd hp2
            have k3 : Same (upd (upd H14 p1 (.tup [va, vb])) p2 (.tup [v1, v2])) (upd (upd (upd H14 p1 (.tup [va, vb])) p2 (.tup [v1, v2])) p3 (.lst [.ref p1, .ref p2])) := same_upd hp3
            have m1 : (upd (upd (upd H14 p1 (.tup [va, vb])) p2 (.tup [v1, v2])) p3 (.lst [.ref p1, .ref p2])) p1 = some (.tup [va, vb]) := k3 _ _ (k2 _ _ upd_same)
            have m2 : (upd (upd (upd H14 p1 (.tup [va, vb])) p2 (.tup [v1, v2])) p3 (.lst [.ref p1, .ref p2])) p2 = some (.tup [v1, v2]) := k3 _ _ upd_same
            have k13 := (k1.trans k2).trans k3
            refine ⟨p3, rfl, ⟨_, .of upd_same⟩, ?_⟩
            generalize hH15 : upd (upd (upd H14 p1 (.tup [va, vb])) p2 (.tup [v1, v2])) p3 (.lst [.ref p1, .ref p2]) = H15 at k13 m1 m2
            have m3 : H15 p3 = some (.lst [.ref p1, .ref p2]) := by rw [← hH15]; exact upd_same
            have e915 : Same H9 H15 := (e1012.trans e1314).trans k13
            refine for_list (K := K) (a := p3) (xs := [.ref p1, .ref p2]) (fun i σ H16 => Same H15 H16 ∧ ∃ z15 z16 z17, σ = [some (.ref a), some (.ref p), some (.ref lo), some (.ref o), some vl, some vr, some (.ref d), some vo, some (.ref pl), some (.ref ap), y10, some va, some vb, some v1, some v2, z15, z16, z17])
              ⟨Same.refl _, _, _, _, rfl⟩ ?_ ?_ ?_
            · rintro j σ H16 _ ⟨e16, _⟩
              exact .of (e16 _ _ m3)
            · rintro j v σ H16 hv ⟨e16, z15, z16, z17, rfl⟩
              have e916 := e915.trans e16
              have W16 := W.same (e09.trans e916)
              have e1216 : Same H12 H16 := (e1314.trans k13).trans e16
              obtain ⟨qc, vc, ve, tc, te, rfl, hqc, tmc, tme, wc, we, dc, de, hce⟩ : ∃ (qc : Addr) (vc ve : V) (tc te : K35.T), v = .ref qc ∧ H16 qc = some (.tup [vc, ve]) ∧ TmAt H16 tc vc ∧ TmAt H16 te ve ∧ Wf ops tc ∧ Wf ops te ∧ (tc.depth ≤ 8 ∧ tc.size ≤ 338) ∧ (te.depth ≤ 8 ∧ te.size ≤ 338) ∧ Gt (rk ops) tc te := by
                have hi2 : j = 0 ∨ j = 1 := by
                  have := (List.getElem?_eq_some_iff.mp hv).1
                  simp only [List.length_cons, List.length_nil] at this
                  omega
                rcases hi2 with rfl | rfl
                · cases hv
                  exact ⟨p1, va, vb, ta, tb, rfl, e16 _ _ m1, tma.kt (kt_same e916), tmb.kt (kt_same e916), wa, wb, by omega, by omega, hgt⟩
                · cases hv
                  exact ⟨p2, v1, v2, _, _, rfl, e16 _ _ m2, tm1'.kt (kt_same e1216), tm2.kt (kt_same e1216), ws1, ws2, by omega, by omega, hgt.sub sb⟩
              have dm := W.du
              obtain ⟨rc1, rc2, rc3⟩ := Wf.rep wc pos u x W.wu W.at_
              obtain ⟨re1, re2, re3⟩ := Wf.rep we pos u x W.wu W.at_
              refine ⟨qc, _, rfl, .of hqc, rfl, _, _, rfl, _, _, rfl, rfl, ?_⟩
              refine ⟨_, rfl, _, rfl, _, rfl, vo, vc, ap, ops, u, x, tc, pos, rfl, W16.tu, W.wu, W.c.ar, W16.pos_, by omega, by omega, W.at_, tmc, fun vw H17 tmw e17 => ?_⟩
              have W17 := W16.same e17
              obtain ⟨dx17, hO17⟩ := gO ((e09.trans e916).trans e17)
              refine ⟨_, rfl, o, dx17, _, rfl, hO17, noG, _, rfl, _, rfl, _, rfl, _, rfl, vo, ve, ap, ops, u, x, te, pos, rfl, W17.tu, W.wu, W.c.ar, W17.pos_, by omega, by omega, W.at_, tme.kt (kt_same e17), fun vx H18 tmx e18 => ?_⟩
              have W18 := W17.same e18
              refine rd_gt (W18.gin (tmw.kt (kt_same e18)) tmx rc1 re1 (by omega) (by omega)) fun c18 H19 h18 e19 => ?_
              have hc18 : c18 = true := h18.mpr (Gt.rep hce pos u x W.at_)
              subst hc18
              refine ⟨_, _, rfl, rfl, _, rfl, iteF ?_⟩
              exact ⟨((e16.trans e17).trans e18).trans e19, _, _, _, rfl⟩
            · rintro σ H16 ⟨e16, z15, z16, z17, rfl⟩
              exact ⟨(e9.trans e915).trans e16, _, _, _, _, _, _, _, _, rfl⟩
        · rintro σ H9 _
          exact q H9
end
end K35
set_option Elab.async false
set_option linter.all false
set_option maxRecDepth 100000
set_option maxHeartbeats 0
namespace K35
open PySem PySem.Spec PyProof.Rows L2
/-! ### the head: facts by names -/
def d_is_variable : He.DefD := ⟨("is_variable", none), "is_variable", "is_variable", defArgs s_is_variable, defBody s_is_variable, defScope s_is_variable, [], []⟩
def d_symbols : He.DefD := ⟨("symbols", none), "symbols", "symbols", defArgs s_symbols, defBody s_symbols, defScope s_symbols, [], []⟩
def d_variables : He.DefD := ⟨("variables", none), "variables", "variables", defArgs s_variables, defBody s_variables, defScope s_variables, [], []⟩
def d_occurs : He.DefD := ⟨("occurs", none), "occurs", "occurs", defArgs s_occurs, defBody s_occurs, defScope s_occurs, [], []⟩
def d_check_names : He.DefD := ⟨("check_names", none), "check_names", "check_names", defArgs s_check_names, defBody s_check_names, defScope s_check_names, [], []⟩
def d_first_difference : He.DefD := ⟨("first_difference", none), "first_difference", "first_difference", defArgs s_first_difference, defBody s_first_difference, defScope s_first_difference, [], []⟩
def d_path_reason : He.DefD := ⟨("path_reason", none), "path_reason", "path_reason", defArgs s_path_reason, defBody s_path_reason, defScope s_path_reason, [], []⟩
def d_find_reason : He.DefD := ⟨("find_reason", none), "find_reason", "find_reason", defArgs s_find_reason, defBody s_find_reason, defScope s_find_reason, [], []⟩
def d_argument_reason : He.DefD := ⟨("argument_reason", none), "argument_reason", "argument_reason", defArgs s_argument_reason, defBody s_argument_reason, defScope s_argument_reason, [], []⟩
def d_later_reasons : He.DefD := ⟨("later_reasons", none), "later_reasons", "later_reasons", defArgs s_later_reasons, defBody s_later_reasons, defScope s_later_reasons, [], []⟩
def d_lexical_reason : He.DefD := ⟨("lexical_reason", none), "lexical_reason", "lexical_reason", defArgs s_lexical_reason, defBody s_lexical_reason, defScope s_lexical_reason, [], []⟩
def d_po_init : He.DefD := ⟨("PathOrder", some "__init__"), "__init__", "PathOrder.__init__", defArgs s_po_init, defBody s_po_init, defScope s_po_init, [], []⟩
def d_po_reason : He.DefD := ⟨("PathOrder", some "reason"), "reason", "PathOrder.reason", defArgs s_po_reason, defBody s_po_reason, defScope s_po_reason, [], []⟩
def d_po_greater : He.DefD := ⟨("PathOrder", some "greater"), "greater", "PathOrder.greater", defArgs s_po_greater, defBody s_po_greater, defScope s_po_greater, [], []⟩
def d_is_name : He.DefD := ⟨("is_name", none), "is_name", "is_name", defArgs s_is_name, defBody s_is_name, defScope s_is_name, [], []⟩
def d_sg_init : He.DefD := ⟨("Signature", some "__init__"), "__init__", "Signature.__init__", defArgs s_sg_init, defBody s_sg_init, defScope s_sg_init, [], []⟩
def d_sg_declare : He.DefD := ⟨("Signature", some "declare"), "declare", "Signature.declare", defArgs s_sg_declare, defBody s_sg_declare, defScope s_sg_declare, [], [("commutative", .bl false)]⟩
def d_sg_require : He.DefD := ⟨("Signature", some "require"), "require", "Signature.require", defArgs s_sg_require, defBody s_sg_require, defScope s_sg_require, [], []⟩
def d_sg_rank : He.DefD := ⟨("Signature", some "rank"), "rank", "Signature.rank", defArgs s_sg_rank, defBody s_sg_rank, defScope s_sg_rank, [], []⟩
def d_l_mix : He.DefD := ⟨("_law_mix", none), "_law_mix", "_law_mix", defArgs s_l_mix, defBody s_l_mix, defScope s_l_mix, [], []⟩
def d_l_number : He.DefD := ⟨("_law_number", none), "_law_number", "_law_number", defArgs s_l_number, defBody s_l_number, defScope s_l_number, [], []⟩
def d_l_state : He.DefD := ⟨("_law_state", none), "_law_state", "_law_state", defArgs s_l_state, defBody s_l_state, defScope s_l_state, [], []⟩
def d_l_draw : He.DefD := ⟨("_law_draw", none), "_law_draw", "_law_draw", defArgs s_l_draw, defBody s_l_draw, defScope s_l_draw, [], []⟩
def d_l_word : He.DefD := ⟨("_law_word", none), "_law_word", "_law_word", defArgs s_l_word, defBody s_l_word, defScope s_l_word, [], []⟩
def d_l_names : He.DefD := ⟨("_law_names", none), "_law_names", "_law_names", defArgs s_l_names, defBody s_l_names, defScope s_l_names, [], []⟩
def d_l_operations : He.DefD := ⟨("_law_operations", none), "_law_operations", "_law_operations", defArgs s_l_operations, defBody s_l_operations, defScope s_l_operations, [], []⟩
def d_l_leaf : He.DefD := ⟨("_law_leaf", none), "_law_leaf", "_law_leaf", defArgs s_l_leaf, defBody s_l_leaf, defScope s_l_leaf, [], []⟩
def d_l_term : He.DefD := ⟨("_law_term", none), "_law_term", "_law_term", defArgs s_l_term, defBody s_l_term, defScope s_l_term, [], []⟩
def d_l_subterm : He.DefD := ⟨("_law_subterm", none), "_law_subterm", "_law_subterm", defArgs s_l_subterm, defBody s_l_subterm, defScope s_l_subterm, [], []⟩
def d_l_replace : He.DefD := ⟨("_law_replace", none), "_law_replace", "_law_replace", defArgs s_l_replace, defBody s_l_replace, defScope s_l_replace, [], []⟩
def d_l_positions : He.DefD := ⟨("_law_positions", none), "_law_positions", "_law_positions", defArgs s_l_positions, defBody s_l_positions, defScope s_l_positions, [], []⟩
def d_l_substitute : He.DefD := ⟨("_law_substitute", none), "_law_substitute", "_law_substitute", defArgs s_l_substitute, defBody s_l_substitute, defScope s_l_substitute, [], []⟩
def d_l_turned : He.DefD := ⟨("_law_turned", none), "_law_turned", "_law_turned", defArgs s_l_turned, defBody s_l_turned, defScope s_l_turned, [], []⟩
def d_l_signature : He.DefD := ⟨("_law_signature", none), "_law_signature", "_law_signature", defArgs s_l_signature, defBody s_l_signature, defScope s_l_signature, [], []⟩
def d_l_app : He.DefD := ⟨("_law_app", none), "_law_app", "_law_app", defArgs s_l_app, defBody s_l_app, defScope s_l_app, [], []⟩
def d_l_values : He.DefD := ⟨("_law_values", none), "_law_values", "_law_values", defArgs s_l_values, defBody s_l_values, defScope s_l_values, [], []⟩
def d_l_spoilt : He.DefD := ⟨("_law_spoilt", none), "_law_spoilt", "_law_spoilt", defArgs s_l_spoilt, defBody s_l_spoilt, defScope s_l_spoilt, [], []⟩
def d_l_near : He.DefD := ⟨("_law_near", none), "_law_near", "_law_near", defArgs s_l_near, defBody s_l_near, defScope s_l_near, [], []⟩
def d_law : He.DefD := ⟨("law", none), "law", "law", defArgs s_law, defBody s_law, defScope s_law, [], []⟩
def fn : List He.DefD := [d_is_variable, d_symbols, d_variables, d_occurs, d_check_names, d_first_difference, d_path_reason, d_find_reason, d_argument_reason, d_later_reasons, d_lexical_reason, d_po_init, d_po_reason, d_po_greater, d_is_name, d_sg_init, d_sg_declare, d_sg_require, d_sg_rank, d_l_mix, d_l_number, d_l_state, d_l_draw, d_l_word, d_l_names, d_l_operations, d_l_leaf, d_l_term, d_l_subterm, d_l_replace, d_l_positions, d_l_substitute, d_l_turned, d_l_signature, d_l_app, d_l_values, d_l_spoilt, d_l_near, d_law]
def fa1 : List He.Fa := [.glo "is_variable", .glo "symbols", .glo "variables", .glo "occurs", .glo "check_names", .glo "first_difference", .glo "path_reason", .glo "find_reason", .glo "argument_reason", .glo "later_reasons", .glo "lexical_reason", .glo "is_name", .glo "_law_mix", .glo "_law_number", .glo "_law_state", .glo "_law_draw", .glo "_law_word", .glo "_law_names", .glo "_law_operations", .glo "_law_leaf", .glo "_law_term", .glo "_law_subterm", .glo "_law_replace", .glo "_law_positions", .glo "_law_substitute", .glo "_law_turned", .glo "_law_signature", .glo "_law_app", .glo "_law_values", .glo "_law_spoilt"]
def fa2 : List He.Fa := [.glo "_law_near", .glo "law", .glo "PathOrder", .glo "Signature", .free "len", .free "isinstance", .free "range", .free "int", .free "list", .free "tuple", .free "str", .int "MAX_OPERATIONS" 12, .int "MAX_ARITY" 3, .str "LETTERS" "abcdefghijklmnopqrstuvwxyz", .cls "PathOrder", .cls "Signature", .noat "PathOrder" "_signature", .noat "Signature" "order", .noat "Signature" "arities", .noat "Signature" "flags", .meth "PathOrder" "reason", .meth "PathOrder" "greater", .meth "Signature" "declare", .meth "Signature" "require", .meth "Signature" "rank", .mkr "PathOrder", .mkr "Signature"]
def fa : List He.Fa := fa1 ++ fa2
def names1 : List PySem.Str := ["_wall", "HallError", "UnknownName", "InvalidName", "InvalidArity", "Duplicate", "TooLarge", "is_variable", "symbols", "variables", "occurs", "check_names", "first_difference", "path_reason", "find_reason", "argument_reason", "later_reasons", "lexical_reason", "PathOrder", "LETTERS", "MAX_OPERATIONS", "MAX_ARITY"]
def names2 : List PySem.Str := ["is_name", "Signature", "_law_mix", "_law_number", "_law_state", "_law_draw", "_law_word", "_law_names", "_law_operations", "_law_leaf", "_law_term", "_law_subterm", "_law_replace", "_law_positions", "_law_substitute", "_law_turned", "_law_signature", "_law_app", "_law_values", "_law_spoilt", "_law_near"]
def names : List PySem.Str := names1 ++ names2
abbrev R : PySem.W.OpenRow := PySem.W.OpenLaw.row PySem.Challenge.rw_joinedends_k35_whole_path_order_stable
abbrev hk : PySem.W.Hook := He.hookD 5 fa fn
def ob (s : PySem.W.SharedT) : He.AlD := He.obsDG 5 fa fn (HandSHeadRun.getT s)
theorem ob_eq (s : PySem.W.SharedT) : ob s = hk.obs s.abs := He.obsDG_eq (HandSHeadRun.getT_eq s)
theorem run (w : World) : HandSHeadRun.RunEq R (PySem.W.view R.prog [48]) hk ob 4000 names w := by
  intro os
  kernel_rfl
end K35
set_option Elab.async false
set_option linter.all false
set_option maxRecDepth 100000
set_option maxHeartbeats 0
namespace K35
open PySem PySem.Spec PyProof.Rows L2
open He (ga ma)
theorem env_of {K : PySem.W.Frag} {h : Heap} {mg : Str → Option Value} (X : K.In h) (G : h.Ns mainGlobals mg) (c : He.SaysD fa fn K) : Nonempty (Env0K K mg) := by
  obtain ⟨fd_is_variable, F_is_variable⟩ := c.def_ 0 (d := d_is_variable) rfl
  obtain ⟨fd_symbols, F_symbols⟩ := c.def_ 1 (d := d_symbols) rfl
  obtain ⟨fd_variables, F_variables⟩ := c.def_ 2 (d := d_variables) rfl
  obtain ⟨fd_occurs, F_occurs⟩ := c.def_ 3 (d := d_occurs) rfl
  obtain ⟨fd_check_names, F_check_names⟩ := c.def_ 4 (d := d_check_names) rfl
  obtain ⟨fd_first_difference, F_first_difference⟩ := c.def_ 5 (d := d_first_difference) rfl
  obtain ⟨fd_path_reason, F_path_reason⟩ := c.def_ 6 (d := d_path_reason) rfl
  obtain ⟨fd_find_reason, F_find_reason⟩ := c.def_ 7 (d := d_find_reason) rfl
  obtain ⟨fd_argument_reason, F_argument_reason⟩ := c.def_ 8 (d := d_argument_reason) rfl
  obtain ⟨fd_later_reasons, F_later_reasons⟩ := c.def_ 9 (d := d_later_reasons) rfl
  obtain ⟨fd_lexical_reason, F_lexical_reason⟩ := c.def_ 10 (d := d_lexical_reason) rfl
  obtain ⟨fd_po_init, F_po_init⟩ := c.def_ 11 (d := d_po_init) rfl
  obtain ⟨fd_po_reason, F_po_reason⟩ := c.def_ 12 (d := d_po_reason) rfl
  obtain ⟨fd_po_greater, F_po_greater⟩ := c.def_ 13 (d := d_po_greater) rfl
  obtain ⟨fd_is_name, F_is_name⟩ := c.def_ 14 (d := d_is_name) rfl
  obtain ⟨fd_sg_init, F_sg_init⟩ := c.def_ 15 (d := d_sg_init) rfl
  obtain ⟨fd_sg_declare, F_sg_declare⟩ := c.def_ 16 (d := d_sg_declare) rfl
  obtain ⟨fd_sg_require, F_sg_require⟩ := c.def_ 17 (d := d_sg_require) rfl
  obtain ⟨fd_sg_rank, F_sg_rank⟩ := c.def_ 18 (d := d_sg_rank) rfl
  obtain ⟨fd_l_mix, F_l_mix⟩ := c.def_ 19 (d := d_l_mix) rfl
  obtain ⟨fd_l_number, F_l_number⟩ := c.def_ 20 (d := d_l_number) rfl
  obtain ⟨fd_l_state, F_l_state⟩ := c.def_ 21 (d := d_l_state) rfl
  obtain ⟨fd_l_draw, F_l_draw⟩ := c.def_ 22 (d := d_l_draw) rfl
  obtain ⟨fd_l_word, F_l_word⟩ := c.def_ 23 (d := d_l_word) rfl
  obtain ⟨fd_l_names, F_l_names⟩ := c.def_ 24 (d := d_l_names) rfl
  obtain ⟨fd_l_operations, F_l_operations⟩ := c.def_ 25 (d := d_l_operations) rfl
  obtain ⟨fd_l_leaf, F_l_leaf⟩ := c.def_ 26 (d := d_l_leaf) rfl
  obtain ⟨fd_l_term, F_l_term⟩ := c.def_ 27 (d := d_l_term) rfl
  obtain ⟨fd_l_subterm, F_l_subterm⟩ := c.def_ 28 (d := d_l_subterm) rfl
  obtain ⟨fd_l_replace, F_l_replace⟩ := c.def_ 29 (d := d_l_replace) rfl
  obtain ⟨fd_l_positions, F_l_positions⟩ := c.def_ 30 (d := d_l_positions) rfl
  obtain ⟨fd_l_substitute, F_l_substitute⟩ := c.def_ 31 (d := d_l_substitute) rfl
  obtain ⟨fd_l_turned, F_l_turned⟩ := c.def_ 32 (d := d_l_turned) rfl
  obtain ⟨fd_l_signature, F_l_signature⟩ := c.def_ 33 (d := d_l_signature) rfl
  obtain ⟨fd_l_app, F_l_app⟩ := c.def_ 34 (d := d_l_app) rfl
  obtain ⟨fd_l_values, F_l_values⟩ := c.def_ 35 (d := d_l_values) rfl
  obtain ⟨fd_l_spoilt, F_l_spoilt⟩ := c.def_ 36 (d := d_l_spoilt) rfl
  obtain ⟨fd_l_near, F_l_near⟩ := c.def_ 37 (d := d_l_near) rfl
  obtain ⟨fd_law, F_law⟩ := c.def_ 38 (d := d_law) rfl
  obtain ⟨t_mo, mo⟩ := He.int_ok X G (c.fact 41 (f := .int "MAX_OPERATIONS" 12) rfl)
  obtain ⟨t_ma, mt⟩ := He.int_ok X G (c.fact 42 (f := .int "MAX_ARITY" 3) rfl)
  obtain ⟨t_le, ml⟩ := He.str_ok X G (c.fact 43 (f := .str "LETTERS" "abcdefghijklmnopqrstuvwxyz") rfl)
  exact ⟨{
    fd_is_variable := fd_is_variable,
    F_is_variable := F_is_variable,
    g_is_variable := He.glo_ok X G (c.fact 0 (f := .glo "is_variable") rfl),
    fd_symbols := fd_symbols,
    F_symbols := F_symbols,
    g_symbols := He.glo_ok X G (c.fact 1 (f := .glo "symbols") rfl),
    fd_variables := fd_variables,
    F_variables := F_variables,
    g_variables := He.glo_ok X G (c.fact 2 (f := .glo "variables") rfl),
    fd_occurs := fd_occurs,
    F_occurs := F_occurs,
    g_occurs := He.glo_ok X G (c.fact 3 (f := .glo "occurs") rfl),
    fd_check_names := fd_check_names,
    F_check_names := F_check_names,
    g_check_names := He.glo_ok X G (c.fact 4 (f := .glo "check_names") rfl),
    fd_first_difference := fd_first_difference,
    F_first_difference := F_first_difference,
    g_first_difference := He.glo_ok X G (c.fact 5 (f := .glo "first_difference") rfl),
    fd_path_reason := fd_path_reason,
    F_path_reason := F_path_reason,
    g_path_reason := He.glo_ok X G (c.fact 6 (f := .glo "path_reason") rfl),
    fd_find_reason := fd_find_reason,
    F_find_reason := F_find_reason,
    g_find_reason := He.glo_ok X G (c.fact 7 (f := .glo "find_reason") rfl),
    fd_argument_reason := fd_argument_reason,
    F_argument_reason := F_argument_reason,
    g_argument_reason := He.glo_ok X G (c.fact 8 (f := .glo "argument_reason") rfl),
    fd_later_reasons := fd_later_reasons,
    F_later_reasons := F_later_reasons,
    g_later_reasons := He.glo_ok X G (c.fact 9 (f := .glo "later_reasons") rfl),
    fd_lexical_reason := fd_lexical_reason,
    F_lexical_reason := F_lexical_reason,
    g_lexical_reason := He.glo_ok X G (c.fact 10 (f := .glo "lexical_reason") rfl),
    fd_po_init := fd_po_init,
    F_po_init := F_po_init,
    fd_po_reason := fd_po_reason,
    F_po_reason := F_po_reason,
    fd_po_greater := fd_po_greater,
    F_po_greater := F_po_greater,
    fd_is_name := fd_is_name,
    F_is_name := F_is_name,
    g_is_name := He.glo_ok X G (c.fact 11 (f := .glo "is_name") rfl),
    fd_sg_init := fd_sg_init,
    F_sg_init := F_sg_init,
    fd_sg_declare := fd_sg_declare,
    F_sg_declare := F_sg_declare,
    fd_sg_require := fd_sg_require,
    F_sg_require := F_sg_require,
    fd_sg_rank := fd_sg_rank,
    F_sg_rank := F_sg_rank,
    fd_l_mix := fd_l_mix,
    F_l_mix := F_l_mix,
    g_l_mix := He.glo_ok X G (c.fact 12 (f := .glo "_law_mix") rfl),
    fd_l_number := fd_l_number,
    F_l_number := F_l_number,
    g_l_number := He.glo_ok X G (c.fact 13 (f := .glo "_law_number") rfl),
    fd_l_state := fd_l_state,
    F_l_state := F_l_state,
    g_l_state := He.glo_ok X G (c.fact 14 (f := .glo "_law_state") rfl),
    fd_l_draw := fd_l_draw,
    F_l_draw := F_l_draw,
    g_l_draw := He.glo_ok X G (c.fact 15 (f := .glo "_law_draw") rfl),
    fd_l_word := fd_l_word,
    F_l_word := F_l_word,
    g_l_word := He.glo_ok X G (c.fact 16 (f := .glo "_law_word") rfl),
    fd_l_names := fd_l_names,
    F_l_names := F_l_names,
    g_l_names := He.glo_ok X G (c.fact 17 (f := .glo "_law_names") rfl),
    fd_l_operations := fd_l_operations,
    F_l_operations := F_l_operations,
    g_l_operations := He.glo_ok X G (c.fact 18 (f := .glo "_law_operations") rfl),
    fd_l_leaf := fd_l_leaf,
    F_l_leaf := F_l_leaf,
    g_l_leaf := He.glo_ok X G (c.fact 19 (f := .glo "_law_leaf") rfl),
    fd_l_term := fd_l_term,
    F_l_term := F_l_term,
    g_l_term := He.glo_ok X G (c.fact 20 (f := .glo "_law_term") rfl),
    fd_l_subterm := fd_l_subterm,
    F_l_subterm := F_l_subterm,
    g_l_subterm := He.glo_ok X G (c.fact 21 (f := .glo "_law_subterm") rfl),
    fd_l_replace := fd_l_replace,
    F_l_replace := F_l_replace,
    g_l_replace := He.glo_ok X G (c.fact 22 (f := .glo "_law_replace") rfl),
    fd_l_positions := fd_l_positions,
    F_l_positions := F_l_positions,
    g_l_positions := He.glo_ok X G (c.fact 23 (f := .glo "_law_positions") rfl),
    fd_l_substitute := fd_l_substitute,
    F_l_substitute := F_l_substitute,
    g_l_substitute := He.glo_ok X G (c.fact 24 (f := .glo "_law_substitute") rfl),
    fd_l_turned := fd_l_turned,
    F_l_turned := F_l_turned,
    g_l_turned := He.glo_ok X G (c.fact 25 (f := .glo "_law_turned") rfl),
    fd_l_signature := fd_l_signature,
    F_l_signature := F_l_signature,
    g_l_signature := He.glo_ok X G (c.fact 26 (f := .glo "_law_signature") rfl),
    fd_l_app := fd_l_app,
    F_l_app := F_l_app,
    g_l_app := He.glo_ok X G (c.fact 27 (f := .glo "_law_app") rfl),
    fd_l_values := fd_l_values,
    F_l_values := F_l_values,
    g_l_values := He.glo_ok X G (c.fact 28 (f := .glo "_law_values") rfl),
    fd_l_spoilt := fd_l_spoilt,
    F_l_spoilt := F_l_spoilt,
    g_l_spoilt := He.glo_ok X G (c.fact 29 (f := .glo "_law_spoilt") rfl),
    fd_l_near := fd_l_near,
    F_l_near := F_l_near,
    g_l_near := He.glo_ok X G (c.fact 30 (f := .glo "_law_near") rfl),
    fd_law := fd_law,
    F_law := F_law,
    g_law := He.glo_ok X G (c.fact 31 (f := .glo "law") rfl),
    g_PathOrder := He.glo_ok X G (c.fact 32 (f := .glo "PathOrder") rfl),
    cl_PathOrder := He.cls_ok (c.fact 44 (f := .cls "PathOrder") rfl),
    mk_PathOrder := He.mkr_ok (c.fact 55 (f := .mkr "PathOrder") rfl),
    g_Signature := He.glo_ok X G (c.fact 33 (f := .glo "Signature") rfl),
    cl_Signature := He.cls_ok (c.fact 45 (f := .cls "Signature") rfl),
    mk_Signature := He.mkr_ok (c.fact 56 (f := .mkr "Signature") rfl),
    na_sig := He.noat_ok (c.fact 46 (f := .noat "PathOrder" "_signature") rfl),
    na_order := He.noat_ok (c.fact 47 (f := .noat "Signature" "order") rfl),
    na_arities := He.noat_ok (c.fact 48 (f := .noat "Signature" "arities") rfl),
    na_flags := He.noat_ok (c.fact 49 (f := .noat "Signature" "flags") rfl),
    m_reason := He.meth_ok (c.fact 50 (f := .meth "PathOrder" "reason") rfl),
    m_greater := He.meth_ok (c.fact 51 (f := .meth "PathOrder" "greater") rfl),
    m_declare := He.meth_ok (c.fact 52 (f := .meth "Signature" "declare") rfl),
    m_require := He.meth_ok (c.fact 53 (f := .meth "Signature" "require") rfl),
    m_rank := He.meth_ok (c.fact 54 (f := .meth "Signature" "rank") rfl),
    f_len := He.free_ok X G (c.fact 34 (f := .free "len") rfl),
    f_isinstance := He.free_ok X G (c.fact 35 (f := .free "isinstance") rfl),
    f_range := He.free_ok X G (c.fact 36 (f := .free "range") rfl),
    f_int := He.free_ok X G (c.fact 37 (f := .free "int") rfl),
    f_list := He.free_ok X G (c.fact 38 (f := .free "list") rfl),
    f_tuple := He.free_ok X G (c.fact 39 (f := .free "tuple") rfl),
    f_str := He.free_ok X G (c.fact 40 (f := .free "str") rfl),
    t_mo := t_mo,
    mg_MAX_OPERATIONS := mo,
    t_ma := t_ma,
    mg_MAX_ARITY := mt,
    t_le := t_le,
    mg_LETTERS := ml
  }⟩
theorem b_law_all {K : PySem.W.Frag} {mg : Str → Option Value} (T : Env0K K mg) (s : Shared) (v : Value) : BindsTo s T.fd_law ⟨[v], []⟩ [("_law_script", v)] :=
  FunD.bindsA (ps := ["_law_script"]) T.F_law (fun _ _ _ _ _ _ us hl => match us, hl with | [_], _ => rfl) s [v] rfl
end K35
open PySem PySem.W PySem.Calls PyProof.Rows
set_option maxRecDepth 100000 in
set_option maxHeartbeats 0 in
theorem PySem.Challenge.cw_joinedends_k35_whole_path_order_stable_holds : PySem.Challenge.rw_joinedends_k35_whole_path_order_stable.Holds := by
  w_on; o_law
  refine HandSHeadRun.head_any (r := OpenLaw.row PySem.Challenge.rw_joinedends_k35_whole_path_order_stable) (q := view (OpenLaw.row PySem.Challenge.rw_joinedends_k35_whole_path_order_stable).prog [48]) (H := K35.hk) (ob := K35.ob) (M := 4000) (loose := K35.names) (d := HandSHeadRun.topDef (OpenLaw.row PySem.Challenge.rw_joinedends_k35_whole_path_order_stable).prog 48) (kwd := []) K35.ob_eq
    (by kernel_rfl) (fun s => by kernel_rfl) K35.run (by kernel_rfl) (by kernel_rfl) (by kernel_rfl) (by rfl) (by first | assumption | decide +kernel) (by decide +kernel) ⟨rfl, rfl, rfl, rfl, rfl, by decide +kernel⟩ ?hw ?hc
  case hw => w_witness2
  case hc =>
    refine L2.walk_ofE (l := PySem.Challenge.rw_joinedends_k35_whole_path_order_stable) (n := 63) (k := 152) (x := "_law_script") (CX := L2.CX0) rfl (by decide) (by kernel_rfl) ⟨rfl, by decide, by decide⟩ ?F (fun _ _ _ _ z => z)
    intro w mg fa h Y G hmg0
    obtain ⟨K, KX, c⟩ := Y
    obtain ⟨T⟩ := K35.env_of KX G c
    have hmg : mg ("law" : PySem.Str) = some (.ref fa) := by
      have e : (HandSHeadRun.topDef (OpenLaw.row PySem.Challenge.rw_joinedends_k35_whole_path_order_stable).prog 48).name = ("law" : PySem.Str) := by kernel_rfl
      rw [← e]
      exact hmg0
    have efa := hmg.symm.trans T.g_law
    cases efa
    exact ⟨K, T.fd_law, K35.spLaw K, KX, fun s u => K35.b_law_all T s u, fun H a ns hl _ hS => ⟨a, ns, rfl, hS, hl, fun _ => rfl⟩, fun base _ _ => K35.ok_law T⟩
