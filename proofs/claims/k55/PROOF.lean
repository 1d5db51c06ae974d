import PyProof.Rows.All
import Wide.All
import OpenK.AllK
import Wide.FinOn
import HandS.ForMost
import HandS.Walk
import HandS.IsInst
import HandS.Conv
import HandS.Style
import HandS.TupAny
import HandS.TupMul
import HandS.TupSets
import HandS.DictComp
import HandS.Deep
import HandS.Codes
import HandS.Zip
import KE.GoesZip
import KE.GoesEnum
import KE.GoesMore
import KE.DataMinMax
import HandS.Strs
import PyProof.NeKinds
import KE.KRevSl
import KE.KDictSum
import HandS.Text
import HandS.WordsDict
import HandS.TupLen
import HandS.SortInts
import PySem.Challenge.RW_templates_k55_whole_conflicts
set_option Elab.async false
set_option linter.all false
set_option maxRecDepth 100000
set_option maxHeartbeats 4000000
/-! The text by places, the table of its defs. -/
namespace G
open PySem PySem.Spec PyProof.Rows L2
def topS (i : Nat) : Stmt := PySem.Challenge.pw_templates_k55_whole_conflicts.main.body.getD i (.Pass ⟨0, 0, 0, 0⟩)

abbrev s_is_int : Stmt := topS 8
abbrev N_is_int : List Str := ["value"]
theorem sc_is_int : FnScope N_is_int ["value"] (defScope s_is_int) := ⟨rfl, rfl, rfl, by decide +kernel, rfl, by decide +kernel, by decide +kernel⟩

abbrev s_is_in : Stmt := topS 9
abbrev N_is_in : List Str := ["value", "least", "most"]
theorem sc_is_in : FnScope N_is_in ["value", "least", "most"] (defScope s_is_in) := ⟨rfl, rfl, rfl, by decide +kernel, rfl, by decide +kernel, by decide +kernel⟩

abbrev s_is_row : Stmt := topS 10
abbrev N_is_row : List Str := ["size", "arity", "value", "told"]
theorem sc_is_row : FnScope N_is_row ["size", "arity", "value"] (defScope s_is_row) := ⟨rfl, rfl, rfl, by decide +kernel, rfl, by decide +kernel, by decide +kernel⟩

abbrev s_is_relation : Stmt := topS 11
abbrev N_is_relation : List Str := ["size", "value", "at", "row"]
theorem sc_is_relation : FnScope N_is_relation ["size", "value"] (defScope s_is_relation) := ⟨rfl, rfl, rfl, by decide +kernel, rfl, by decide +kernel, by decide +kernel⟩

abbrev s_P_init : Stmt := inClass (topS 13) 0
abbrev N_P_init : List Str := ["self", "size", "many", "told", "scope", "rows", "variable"]
theorem sc_P_init : FnScope N_P_init ["self", "size", "many", "told"] (defScope s_P_init) := ⟨rfl, rfl, rfl, by decide +kernel, rfl, by decide +kernel, by decide +kernel⟩

abbrev s_P_lay : Stmt := inClass (topS 13) 1
abbrev N_P_lay : List Str := ["self", "scope", "rows", "names", "fit", "places", "variable", "at", "name", "row", "place", "told"]
theorem sc_P_lay : FnScope N_P_lay ["self", "scope", "rows"] (defScope s_P_lay) := ⟨rfl, rfl, rfl, by decide +kernel, rfl, by decide +kernel, by decide +kernel⟩

abbrev s_P_shrink : Stmt := inClass (topS 13) 2
abbrev N_P_shrink : List Str := ["self", "domains", "index", "names", "rows", "seen", "row", "lost", "name", "mask", "value"]
theorem sc_P_shrink : FnScope N_P_shrink ["self", "domains", "index"] (defScope s_P_shrink) := ⟨rfl, rfl, rfl, by decide +kernel, rfl, by decide +kernel, by decide +kernel⟩

abbrev s_P_settle : Stmt := inClass (topS 13) 3
abbrev N_P_settle : List Str := ["self", "domains", "waiting", "queued", "index", "lost", "name", "other"]
theorem sc_P_settle : FnScope N_P_settle ["self", "domains", "waiting"] (defScope s_P_settle) := ⟨rfl, rfl, rfl, by decide +kernel, rfl, by decide +kernel, by decide +kernel⟩

abbrev s_P_settle_base : Stmt := inClass (topS 13) 4
abbrev N_P_settle_base : List Str := ["self"]
theorem sc_P_settle_base : FnScope N_P_settle_base ["self"] (defScope s_P_settle_base) := ⟨rfl, rfl, rfl, by decide +kernel, rfl, by decide +kernel, by decide +kernel⟩

abbrev s_P_start : Stmt := inClass (topS 13) 5
abbrev N_P_start : List Str := ["self", "fixed", "domains", "waiting", "variable", "value", "index"]
theorem sc_P_start : FnScope N_P_start ["self", "fixed"] (defScope s_P_start) := ⟨rfl, rfl, rfl, by decide +kernel, rfl, by decide +kernel, by decide +kernel⟩

abbrev s_P_values_in : Stmt := inClass (topS 13) 6
abbrev N_P_values_in : List Str := ["self", "mask", "value"]
theorem sc_P_values_in : FnScope N_P_values_in ["self", "mask"] (defScope s_P_values_in) := ⟨rfl, rfl, rfl, by decide +kernel, rfl, by decide +kernel, by decide +kernel⟩

abbrev s_P_branches : Stmt := inClass (topS 13) 7
abbrev N_P_branches : List Str := ["self", "domains", "variable", "found", "value", "more"]
theorem sc_P_branches : FnScope N_P_branches ["self", "domains", "variable"] (defScope s_P_branches) := ⟨rfl, rfl, rfl, by decide +kernel, rfl, by decide +kernel, by decide +kernel⟩

abbrev s_P_any_from : Stmt := inClass (topS 13) 9
abbrev N_P_any_from : List Str := ["self", "fixed", "first", "waiting", "domains", "open_at", "sizes", "at", "mask"]
theorem sc_P_any_from : FnScope N_P_any_from ["self", "fixed"] (defScope s_P_any_from) := ⟨rfl, rfl, rfl, by decide +kernel, rfl, by decide +kernel, by decide +kernel⟩

abbrev s_problem_of : Stmt := topS 14
abbrev N_problem_of : List Str := ["template", "instance", "told", "which", "scope"]
theorem sc_problem_of : FnScope N_problem_of ["template", "instance"] (defScope s_problem_of) := ⟨rfl, rfl, rfl, by decide +kernel, rfl, by decide +kernel, by decide +kernel⟩

abbrev s_need_template : Stmt := topS 19
abbrev N_need_template : List Str := ["value", "index", "relation"]
theorem sc_need_template : FnScope N_need_template ["value"] (defScope s_need_template) := ⟨rfl, rfl, rfl, by decide +kernel, rfl, by decide +kernel, by decide +kernel⟩

abbrev s_is_constraint : Stmt := topS 20
abbrev N_is_constraint : List Str := ["template", "variables", "value"]
theorem sc_is_constraint : FnScope N_is_constraint ["template", "variables", "value"] (defScope s_is_constraint) := ⟨rfl, rfl, rfl, by decide +kernel, rfl, by decide +kernel, by decide +kernel⟩

abbrev s_need_instance : Stmt := topS 21
abbrev N_need_instance : List Str := ["template", "value", "index", "constraint"]
theorem sc_need_instance : FnScope N_need_instance ["template", "value"] (defScope s_need_instance) := ⟨rfl, rfl, rfl, by decide +kernel, rfl, by decide +kernel, by decide +kernel⟩

abbrev s_need_problem : Stmt := topS 22
abbrev N_need_problem : List Str := ["template", "instance"]
theorem sc_need_problem : FnScope N_need_problem ["template", "instance"] (defScope s_need_problem) := ⟨rfl, rfl, rfl, by decide +kernel, rfl, by decide +kernel, by decide +kernel⟩

abbrev s_is_solvable : Stmt := topS 24
abbrev N_is_solvable : List Str := ["template", "instance", "indexes", "at"]
theorem sc_is_solvable : FnScope N_is_solvable ["template", "instance", "indexes"] (defScope s_is_solvable) := ⟨rfl, rfl, rfl, by decide +kernel, rfl, by decide +kernel, by decide +kernel⟩

abbrev s_conflict : Stmt := topS 25
abbrev N_conflict : List Str := ["template", "instance", "kept", "at", "rest", "other"]
theorem sc_conflict : FnScope N_conflict ["template", "instance"] (defScope s_conflict) := ⟨rfl, rfl, rfl, by decide +kernel, rfl, by decide +kernel, by decide +kernel⟩

abbrev s_shows_conflict : Stmt := topS 26
abbrev N_shows_conflict : List Str := ["template", "instance", "value", "at", "other"]
theorem sc_shows_conflict : FnScope N_shows_conflict ["template", "instance", "value"] (defScope s_shows_conflict) := ⟨rfl, rfl, rfl, by decide +kernel, rfl, by decide +kernel, by decide +kernel⟩

abbrev s_l_taken : Stmt := topS 28
abbrev N_l_taken : List Str := ["_law_row", "_law_many", "_law_found", "_law_cell"]
theorem sc_l_taken : FnScope N_l_taken ["_law_row", "_law_many"] (defScope s_l_taken) := ⟨rfl, rfl, rfl, by decide +kernel, rfl, by decide +kernel, by decide +kernel⟩

abbrev s_l_pick : Stmt := topS 29
abbrev N_l_pick : List Str := ["_law_row", "_law_things"]
theorem sc_l_pick : FnScope N_l_pick ["_law_row", "_law_things"] (defScope s_l_pick) := ⟨rfl, rfl, rfl, by decide +kernel, rfl, by decide +kernel, by decide +kernel⟩

abbrev s_l_alike : Stmt := topS 30
abbrev N_l_alike : List Str := ["_law_found", "_law_due", "_law_k"]
theorem sc_l_alike : FnScope N_l_alike ["_law_found", "_law_due"] (defScope s_l_alike) := ⟨rfl, rfl, rfl, by decide +kernel, rfl, by decide +kernel, by decide +kernel⟩

abbrev s_l_whole : Stmt := topS 31
abbrev N_l_whole : List Str := ["_law_value_here", "_law_least", "_law_most"]
theorem sc_l_whole : FnScope N_l_whole ["_law_value_here", "_law_least", "_law_most"] (defScope s_l_whole) := ⟨rfl, rfl, rfl, by decide +kernel, rfl, by decide +kernel, by decide +kernel⟩

abbrev s_l_rows : Stmt := topS 32
abbrev N_l_rows : List Str := ["_law_size", "_law_arity", "_law_found", "_law_turn", "_law_more", "_law_told", "_law_value_here"]
theorem sc_l_rows : FnScope N_l_rows ["_law_size", "_law_arity"] (defScope s_l_rows) := ⟨rfl, rfl, rfl, by decide +kernel, rfl, by decide +kernel, by decide +kernel⟩

abbrev s_l_tuples : Stmt := topS 33
abbrev N_l_tuples : List Str := ["_law_things", "_law_many", "_law_found", "_law_turn", "_law_more", "_law_told", "_law_thing"]
theorem sc_l_tuples : FnScope N_l_tuples ["_law_things", "_law_many"] (defScope s_l_tuples) := ⟨rfl, rfl, rfl, by decide +kernel, rfl, by decide +kernel, by decide +kernel⟩

abbrev s_l_value : Stmt := topS 34
abbrev N_l_value : List Str := ["_law_size", "_law_operation", "_law_arguments", "_law_at", "_law_argument"]
theorem sc_l_value : FnScope N_l_value ["_law_size", "_law_operation", "_law_arguments"] (defScope s_l_value) := ⟨rfl, rfl, rfl, by decide +kernel, rfl, by decide +kernel, by decide +kernel⟩

abbrev s_l_carried : Stmt := topS 35
abbrev N_l_carried : List Str := ["_law_size", "_law_operation", "_law_rows_here", "_law_at", "_law_told"]
theorem sc_l_carried : FnScope N_l_carried ["_law_size", "_law_operation", "_law_rows_here"] (defScope s_l_carried) := ⟨rfl, rfl, rfl, by decide +kernel, rfl, by decide +kernel, by decide +kernel⟩

abbrev s_l_closed : Stmt := topS 36
abbrev N_l_closed : List Str := ["_law_size", "_law_operation", "_law_arity", "_law_rows_here", "_law_known", "_law_fresh", "_law_told", "_law_turn", "_law_later", "_law_some", "_law_made"]
theorem sc_l_closed : FnScope N_l_closed ["_law_size", "_law_operation", "_law_arity", "_law_rows_here"] (defScope s_l_closed) := ⟨rfl, rfl, rfl, by decide +kernel, rfl, by decide +kernel, by decide +kernel⟩

abbrev s_l_kept : Stmt := topS 37
abbrev N_l_kept : List Str := ["_law_row", "_law_size", "_law_operation", "_law_arity", "_law_rows_here", "_law_found"]
theorem sc_l_kept : FnScope N_l_kept ["_law_row", "_law_size", "_law_operation", "_law_arity"] (defScope s_l_kept) := ⟨rfl, rfl, rfl, by decide +kernel, rfl, by decide +kernel, by decide +kernel⟩

abbrev s_l_named : Stmt := topS 38
abbrev N_l_named : List Str := ["_law_size", "_law_found", "_law_three", "_law_told"]
theorem sc_l_named : FnScope N_l_named ["_law_size"] (defScope s_l_named) := ⟨rfl, rfl, rfl, by decide +kernel, rfl, by decide +kernel, by decide +kernel⟩

abbrev s_l_some_rows : Stmt := topS 39
abbrev N_l_some_rows : List Str := ["_law_row", "_law_size", "_law_arity", "_law_most", "_law_every", "_law_found", "_law_turn", "_law_told"]
theorem sc_l_some_rows : FnScope N_l_some_rows ["_law_row", "_law_size", "_law_arity", "_law_most"] (defScope s_l_some_rows) := ⟨rfl, rfl, rfl, by decide +kernel, rfl, by decide +kernel, by decide +kernel⟩

abbrev s_l_relation : Stmt := topS 40
abbrev N_l_relation : List Str := ["_law_row", "_law_size", "_law_arity", "_law_most", "_law_rows_here"]
theorem sc_l_relation : FnScope N_l_relation ["_law_row", "_law_size", "_law_arity", "_law_most"] (defScope s_l_relation) := ⟨rfl, rfl, rfl, by decide +kernel, rfl, by decide +kernel, by decide +kernel⟩

abbrev s_l_template : Stmt := topS 41
abbrev N_l_template : List Str := ["_law_row", "_law_size", "_law_many", "_law_arity", "_law_most", "_law_found", "_law_closed_here", "_law_turn", "_law_places"]
theorem sc_l_template : FnScope N_l_template ["_law_row", "_law_size", "_law_many", "_law_arity", "_law_most"] (defScope s_l_template) := ⟨rfl, rfl, rfl, by decide +kernel, rfl, by decide +kernel, by decide +kernel⟩

abbrev s_l_instance : Stmt := topS 42
abbrev N_l_instance : List Str := ["_law_row", "_law_template_here", "_law_variables", "_law_most", "_law_found", "_law_turn", "_law_which", "_law_arity", "_law_place"]
theorem sc_l_instance : FnScope N_l_instance ["_law_row", "_law_template_here", "_law_variables", "_law_most"] (defScope s_l_instance) := ⟨rfl, rfl, rfl, by decide +kernel, rfl, by decide +kernel, by decide +kernel⟩

abbrev s_l_meets : Stmt := topS 43
abbrev N_l_meets : List Str := ["_law_template_here", "_law_constraints", "_law_values", "_law_told", "_law_name"]
theorem sc_l_meets : FnScope N_l_meets ["_law_template_here", "_law_constraints", "_law_values"] (defScope s_l_meets) := ⟨rfl, rfl, rfl, by decide +kernel, rfl, by decide +kernel, by decide +kernel⟩

abbrev s_l_solutions : Stmt := topS 44
abbrev N_l_solutions : List Str := ["_law_template_here", "_law_instance_here", "_law_found", "_law_name", "_law_due", "_law_more", "_law_told", "_law_value_here"]
theorem sc_l_solutions : FnScope N_l_solutions ["_law_template_here", "_law_instance_here"] (defScope s_l_solutions) := ⟨rfl, rfl, rfl, by decide +kernel, rfl, by decide +kernel, by decide +kernel⟩

abbrev s_l_once : Stmt := topS 45
abbrev N_l_once : List Str := ["_law_values", "_law_found", "_law_value_here"]
theorem sc_l_once : FnScope N_l_once ["_law_values"] (defScope s_l_once) := ⟨rfl, rfl, rfl, by decide +kernel, rfl, by decide +kernel, by decide +kernel⟩

abbrev s_l_is_conflict : Stmt := topS 46
abbrev N_l_is_conflict : List Str := ["_law_template_here", "_law_instance_here", "_law_value_here", "_law_some", "_law_at"]
theorem sc_l_is_conflict : FnScope N_l_is_conflict ["_law_template_here", "_law_instance_here", "_law_value_here"] (defScope s_l_is_conflict) := ⟨rfl, rfl, rfl, by decide +kernel, rfl, by decide +kernel, by decide +kernel⟩

abbrev s_law : Stmt := topS 47
abbrev N_law : List Str := ["_law_script", "_law_row", "_law_size", "_law_template_here", "_law_variables", "_law_told", "_law_instance_here", "_law_many", "_law_found", "_law_turn", "_law_some", "_law_value_here", "_law_at"]
theorem sc_law : FnScope N_law ["_law_script"] (defScope s_law) := ⟨rfl, rfl, rfl, by decide +kernel, rfl, by decide +kernel, by decide +kernel⟩

/-- a def of the module as it stands behind the top -/
structure Def (K : PySem.W.Frag) (mg : Str → Option Value) (x : Str) (st : Stmt) (ps : List Str) where
  f : Addr
  fd : FuncData
  F : Fun K x x st f fd
  b : Binds K fd ps []
  g : mg x = some (.ref f)
structure Def0 (K : PySem.W.Frag) (x qual : Str) (st : Stmt) (ps : List Str) where
  f : Addr
  fd : FuncData
  F : Fun K x qual st f fd
  b : Binds K fd ps []
/-- a method of the class at C -/
structure MDef (K : PySem.W.Frag) (C : Addr) (x qual : Str) (st : Stmt) (ps : List Str) where
  f : Addr
  fd : FuncData
  F : Fun K x qual st f fd
  b : Binds K fd ps []
  m : Meth K C x f
/-- all that the top has left -/
structure TX (K : PySem.W.Frag) (mg : Str → Option Value) where
  C : Addr
  cl : Cls K C
  g_Problem : mg "Problem" = some (.ref C)
  is_int : Def K mg "is_int" s_is_int ["value"]
  is_in : Def K mg "is_in" s_is_in ["value", "least", "most"]
  is_row : Def K mg "is_row" s_is_row ["size", "arity", "value"]
  is_relation : Def K mg "is_relation" s_is_relation ["size", "value"]
  P_init : Def0 K "__init__" "Problem.__init__" s_P_init ["self", "size", "many", "told"]
  mkP : Mk K C P_init.f
  P_lay : MDef K C "lay" "Problem.lay" s_P_lay ["self", "scope", "rows"]
  P_shrink : MDef K C "shrink" "Problem.shrink" s_P_shrink ["self", "domains", "index"]
  P_settle : MDef K C "settle" "Problem.settle" s_P_settle ["self", "domains", "waiting"]
  P_settle_base : MDef K C "settle_base" "Problem.settle_base" s_P_settle_base ["self"]
  P_start : MDef K C "start" "Problem.start" s_P_start ["self", "fixed"]
  P_values_in : MDef K C "values_in" "Problem.values_in" s_P_values_in ["self", "mask"]
  P_branches : MDef K C "branches" "Problem.branches" s_P_branches ["self", "domains", "variable"]
  P_any_from : MDef K C "any_from" "Problem.any_from" s_P_any_from ["self", "fixed"]
  problem_of : Def K mg "problem_of" s_problem_of ["template", "instance"]
  need_template : Def K mg "need_template" s_need_template ["value"]
  is_constraint : Def K mg "is_constraint" s_is_constraint ["template", "variables", "value"]
  need_instance : Def K mg "need_instance" s_need_instance ["template", "value"]
  need_problem : Def K mg "need_problem" s_need_problem ["template", "instance"]
  is_solvable : Def K mg "is_solvable" s_is_solvable ["template", "instance", "indexes"]
  conflict : Def K mg "conflict" s_conflict ["template", "instance"]
  shows_conflict : Def K mg "shows_conflict" s_shows_conflict ["template", "instance", "value"]
  l_taken : Def K mg "_law_taken" s_l_taken ["_law_row", "_law_many"]
  l_pick : Def K mg "_law_pick" s_l_pick ["_law_row", "_law_things"]
  l_alike : Def K mg "_law_alike" s_l_alike ["_law_found", "_law_due"]
  l_whole : Def K mg "_law_whole" s_l_whole ["_law_value_here", "_law_least", "_law_most"]
  l_rows : Def K mg "_law_rows" s_l_rows ["_law_size", "_law_arity"]
  l_tuples : Def K mg "_law_tuples" s_l_tuples ["_law_things", "_law_many"]
  l_value : Def K mg "_law_value" s_l_value ["_law_size", "_law_operation", "_law_arguments"]
  l_carried : Def K mg "_law_carried" s_l_carried ["_law_size", "_law_operation", "_law_rows_here"]
  l_closed : Def K mg "_law_closed" s_l_closed ["_law_size", "_law_operation", "_law_arity", "_law_rows_here"]
  l_kept : Def K mg "_law_kept" s_l_kept ["_law_row", "_law_size", "_law_operation", "_law_arity"]
  l_named : Def K mg "_law_named" s_l_named ["_law_size"]
  l_some_rows : Def K mg "_law_some_rows" s_l_some_rows ["_law_row", "_law_size", "_law_arity", "_law_most"]
  l_relation : Def K mg "_law_relation" s_l_relation ["_law_row", "_law_size", "_law_arity", "_law_most"]
  l_template : Def K mg "_law_template" s_l_template ["_law_row", "_law_size", "_law_many", "_law_arity", "_law_most"]
  l_instance : Def K mg "_law_instance" s_l_instance ["_law_row", "_law_template_here", "_law_variables", "_law_most"]
  l_meets : Def K mg "_law_meets" s_l_meets ["_law_template_here", "_law_constraints", "_law_values"]
  l_solutions : Def K mg "_law_solutions" s_l_solutions ["_law_template_here", "_law_instance_here"]
  l_once : Def K mg "_law_once" s_l_once ["_law_values"]
  l_is_conflict : Def K mg "_law_is_conflict" s_l_is_conflict ["_law_template_here", "_law_instance_here", "_law_value_here"]
  law : Def K mg "law" s_law ["_law_script"]
  a_size : NoAttr K C "size"
  a_domains : NoAttr K C "domains"
  a_told : NoAttr K C "told"
  a_uses : NoAttr K C "uses"
  a_base : NoAttr K C "base"
  a_is_empty : NoAttr K C "is_empty"
  n_isinstance : mg "isinstance" = none
  n_int : mg "int" = none
  n_bool : mg "bool" = none
  n_tuple : mg "tuple" = none
  n_list : mg "list" = none
  n_str : mg "str" = none
  n_len : mg "len" = none
  n_all : mg "all" = none
  n_range : mg "range" = none
  n_enumerate : mg "enumerate" = none
  n_zip : mg "zip" = none
  n_min : mg "min" = none
  n_max : mg "max" = none
  n_sorted : mg "sorted" = none
  t_MOST_SIZE : Tok
  c_MOST_SIZE : mg "MOST_SIZE" = some (.int 4 t_MOST_SIZE)
  t_MOST_ARITY : Tok
  c_MOST_ARITY : mg "MOST_ARITY" = some (.int 4 t_MOST_ARITY)
  t_MOST_RELATIONS : Tok
  c_MOST_RELATIONS : mg "MOST_RELATIONS" = some (.int 6 t_MOST_RELATIONS)
  t_MOST_VARIABLES : Tok
  c_MOST_VARIABLES : mg "MOST_VARIABLES" = some (.int 16 t_MOST_VARIABLES)
  t_MOST_CONSTRAINTS : Tok
  c_MOST_CONSTRAINTS : mg "MOST_CONSTRAINTS" = some (.int 200 t_MOST_CONSTRAINTS)
theorem bb_isinstance : bootBuiltins "isinstance" = some (.builtin "isinstance") := by decide +kernel
theorem bb_len : bootBuiltins "len" = some (.builtin "len") := by decide +kernel
theorem bb_all : bootBuiltins "all" = some (.builtin "all") := by decide +kernel
theorem bb_min : bootBuiltins "min" = some (.builtin "min") := by decide +kernel
theorem bb_max : bootBuiltins "max" = some (.builtin "max") := by decide +kernel
theorem bb_sorted : bootBuiltins "sorted" = some (.builtin "sorted") := by decide +kernel
theorem bb_int : bootBuiltins "int" = some (.type "int") := by decide +kernel
theorem bb_bool : bootBuiltins "bool" = some (.type "bool") := by decide +kernel
theorem bb_tuple : bootBuiltins "tuple" = some (.type "tuple") := by decide +kernel
theorem bb_list : bootBuiltins "list" = some (.type "list") := by decide +kernel
theorem bb_str : bootBuiltins "str" = some (.type "str") := by decide +kernel
theorem bb_range : bootBuiltins "range" = some (.type "range") := by decide +kernel
theorem bb_enumerate : bootBuiltins "enumerate" = some (.type "enumerate") := by decide +kernel
theorem bb_zip : bootBuiltins "zip" = some (.type "zip") := by decide +kernel
end G
/-! Rules of our own: walks of a list or a tuple (k tells which), enumerate, zip in any mix. -/
namespace G
open PySem PySem.Spec PyProof.Rows L2
/-- at a a list (k) or a tuple (not k) of xs is to be read -/
def Sq (k : Bool) (H : Hp) (a : Addr) (xs : List V) : Prop := match k with
  | true => H a = some (.lst xs)
  | false => Rd H a (.tup xs)
/-- .. in the layer's own words -/
def SqK (K : PySem.W.Frag) (k : Bool) (H : Hp) (a : Addr) (xs : List V) : Prop := match k with
  | true => SqL K H a xs
  | false => SqT K H a xs
theorem Sq.k {K : PySem.W.Frag} {k : Bool} {H : Hp} {a : Addr} {xs : List V} (h : Sq k H a xs) : SqK K k H a xs := by
  cases k with
  | true => exact SqL.of h
  | false => exact .inl h
def ISq (k : Bool) (h : Heap) (a : Addr) (its : Array Value) : Prop := match k with
  | true => h.IsList a its
  | false => h.IsTuple a its
def IIt (k : Bool) (h : Heap) (it a : Addr) (i : Nat) : Prop := match k with
  | true => h.IsListIter it a i
  | false => h.IsTupleIter it a i
def itObj (k : Bool) (a : Addr) : Obj := match k with
  | true => { cls := .type "list_iterator", data := .fields #[.ref a, .int 0 0] }
  | false => { cls := .type "tuple_iterator", data := .fields #[.ref a, .int 0 0] }
section
variable {X : Cx} {pins : List (Addr × Obj)} {σ : L2.St} {H : Hp} {s : Shared} {a : Addr} {xs ys : List V} {k : Bool}
theorem sqk_inv (I : Inv X pins σ H s) (h : SqK X.K k H a xs) : ∃ its : List Value, Vals xs its ∧ ISq k s.heap a its.toArray ∧ xs.length ≤ sizeLine ∧ a < s.heap.objs.size := by
  cases k with
  | true =>
    obtain ⟨its, rv, p, z⟩ := I.list h
    exact ⟨its, rv, p.isList, z, p.lt⟩
  | false =>
    obtain ⟨its, rv, p, z⟩ := I.tuple h
    obtain ⟨o1, ho1, _⟩ := id p
    exact ⟨its, rv, show s.heap.IsTuple a its.toArray from p, z, Heap.lt_size ho1⟩
theorem sq_inv (I : Inv X pins σ H s) (h : Sq k H a xs) : ∃ its : List Value, Vals xs its ∧ ISq k s.heap a its.toArray ∧ xs.length ≤ sizeLine ∧ a < s.heap.objs.size := sqk_inv I h.k
theorem sq_inj (I : Inv X pins σ H s) (h : SqK X.K k H a xs) (h' : SqK X.K k H a ys) : xs = ys := by
  cases k with
  | true => exact I.list_inj h h'
  | false => exact I.tuple_inj h h'
end
theorem iit_at {k : Bool} {h h' : Heap} {it a : Addr} {i : Nat} (x : IIt k h it a i) (e : ∀ o, h.get? it = some o → h'.get? it = some o) : IIt k h' it a i := by
  cases k with
  | true => exact (show h.IsListIter it a i from x).at e
  | false => exact (show h.IsTupleIter it a i from x).at e
theorem isq_at {k : Bool} {h h' : Heap} {a : Addr} {its : Array Value} (x : ISq k h a its) (e : ∀ o, h.get? a = some o → h'.get? a = some o) : ISq k h' a its := by
  cases k with
  | true => exact (show h.IsList a its from x).at e
  | false => exact (show h.IsTuple a its from x).at e
theorem iit_obj {k : Bool} {h : Heap} {it a : Addr} {i : Nat} (x : IIt k h it a i) : ∃ o, h.get? it = some o ∧ ∀ v, o.data ≠ .cell v := by
  cases k with
  | true =>
    obtain ⟨o, ho, _, hd⟩ := (show h.IsListIter it a i from x)
    exact ⟨o, ho, fun v q => by rw [hd] at q; cases q⟩
  | false =>
    obtain ⟨o, ho, _, hd⟩ := (show h.IsTupleIter it a i from x)
    exact ⟨o, ho, fun v q => by rw [hd] at q; cases q⟩
theorem iit_new {k : Bool} {h : Heap} {it a : Addr} (e : h.get? it = some (itObj k a)) : IIt k h it a 0 := by
  cases k with
  | true => exact ⟨_, e, rfl, rfl⟩
  | false => exact ⟨_, e, rfl, rfl⟩
theorem draws_sq {prog : Program} {w : World} {A : Around} (hh : A.handled = none) (k : Bool) (it a : Addr) (hne : a ≠ it) (items : Array Value) :
    Draws prog w A it [it, a] items.size (fun i v => items[i]? = some v) (fun i h => IIt k h it a i ∧ ISq k h a items) := by
  cases k with
  | true => exact Draws.list hh it a hne items
  | false => exact Draws.tuple hh it a hne items
theorem begins_sq (k : Bool) (a : Addr) (items : Array Value) : Begins (.ref a) (itObj k a) fun h => ISq k h a items := by
  cases k with
  | true => exact begins_list a items
  | false => exact begins_tuple a items

/-! ### for x in xs, xs a list or a tuple -/
def Itq (K : PySem.W.Frag) (k : Bool) (a : Addr) : It := match k with
  | true => Itl K a
  | false => Itt K a
def iSq (tl : TE) : TI := fun σ H R => tl σ H fun x H1 => ∃ k a xs, x = .ref a ∧ Sq k H1 a xs ∧ ∀ J : It, Walk J xs.length (fun H => Sq k H a xs) (YAt xs) → R J H1
theorem walk_k {K : PySem.W.Frag} {k : Bool} {a : Addr} {xs : List V} : Walk (Itq K k a) xs.length (fun H => Sq k H a xs) (YAt xs) := by
  cases k with
  | true => exact walk_list.mono (fun H h => SqL.of h) fun _ _ _ _ _ _ y => y
  | false => exact walk_tup.mono (fun H h => .inl h) fun _ _ _ _ _ _ y => y
theorem pi_sq {X : Cx} {tg l : Expr} {tl : TE} (hl : PE X l tl) : PI X tg l (iSq tl) := by
  refine ⟨fun pins s σ H R I h => ?_⟩
  refine thn (hl.run pins s σ H _ I h) fun v s1 ⟨x, H1, I1, r1, q1⟩ => ?_
  obtain ⟨k, a, xs, e, hq, q⟩ := q1
  have q := q _ (walk_k (K := X.K))
  subst e
  cases r1
  cases k with
  | true =>
    obtain ⟨its, rv, p, hz⟩ := I1.list (SqL.of hq)
    refine wpAny_pyIter_list p.isList ?_
    refine ⟨s1.heap.objs.size, [s1.heap.objs.size], _, _, H1, rfl, I1.kept (t' := s1.toks) fun b o e => Heap.get?_push_of_some _ e, turn_list a _, ⟨_, Heap.get?_push_size _ rfl, rfl, rfl⟩, fun b hb => ?_, q⟩
    have e : b = s1.heap.objs.size := by simpa using hb
    subst e
    exact I1.fpOk (Nat.le_refl _) (I1.hok.fresh (Nat.le_refl _))
  | false =>
    obtain ⟨its, rv, p, hz⟩ := I1.tuple (.inl hq)
    refine wpAny_pyIter_tuple (show s1.heap.IsTuple a its.toArray from p) ?_
    refine ⟨s1.heap.objs.size, [s1.heap.objs.size], _, _, H1, rfl, I1.kept (t' := s1.toks) fun b o e => Heap.get?_push_of_some _ e, turn_tuple a _, ⟨_, Heap.get?_push_size _ rfl, rfl, rfl⟩, fun b hb => ?_, q⟩
    have e : b = s1.heap.objs.size := by simpa using hb
    subst e
    exact I1.fpOk (Nat.le_refl _) (I1.hok.fresh (Nat.le_refl _))
/-! ### enumerate(xs) -/
def ItqE (K : PySem.W.Frag) (k : Bool) (a : Addr) : It :=
  ⟨fun i H => ∃ (xs : List V) (x : V), SqK K k H a xs ∧ xs[i]? = some x, fun i H v H' => ∃ T x, v = .ref T ∧ H T = none ∧ H' = upd H T (.tup [.int (i : Nat), x]) ∧ ∀ xs, SqK K k H a xs → xs[i]? = some x, fun i H => ∃ xs : List V, SqK K k H a xs ∧ xs.length ≤ i⟩
theorem turn_enumK {P : Program} {w : World} {K : PySem.W.Frag} {elts : List Expr} {kk : Nat} {tpos : Pos} (k : Bool) (a e it : Addr) (hei : e ≠ it) (hea : e ≠ a) (hai : a ≠ it) :
    Turn P w K (.Tuple elts kk tpos) (ItqE K k a) [e, it] e (fun i h => (∃ old, IsEnum h e it ((i : Nat) : Int) old) ∧ IIt k h it a i) where
  mem := by simp
  obj := fun i h st b hb => by
    obtain ⟨⟨old, he⟩, hi⟩ := st
    have e' : b = e ∨ b = it := by simpa using hb
    rcases e' with z | z
    · rw [z]; exact ⟨_, he, fun v q => nomatch q⟩
    · rw [z]; exact iit_obj hi
  keep := fun i h h' st q => let ⟨⟨old, he⟩, hi⟩ := st; ⟨⟨old, q e (by simp) _ he⟩, iit_at hi fun o z => q it (by simp) o z⟩
  item := by
    intro X hP hw hK hc i pins s σ H E I hf st hg
    subst hP hw hK
    obtain ⟨⟨old, he⟩, hit⟩ := st
    obtain ⟨xs, x, hq, hx⟩ := hg
    obtain ⟨its, rv, p, hz, hal⟩ := sqk_inv I hq
    obtain ⟨u, hu, ru⟩ := rv.get hx
    have hel : e < s.heap.objs.size := Heap.lt_size he
    have hil : it < s.heap.objs.size := by obtain ⟨_, q, _⟩ := iit_obj hit; exact Heap.lt_size q
    have hlt : i < its.toArray.size := by
      have := (List.getElem?_eq_some_iff.mp hu).1
      simpa using this
    refine wpAny_pyNext_enum_itemC (draws_sq (prog := X.prog) (w := X.w) (A := X.A.in1) (I.ok.hd hc) k it a hai its.toArray) he ⟨hit, p⟩ hlt hei (by simp [hei, hea]) fun y h' tk hy ho hit' hT hsz hk => ?_
    have ey : y = u := by
      have : its[i]? = some y := by simpa using hy
      rw [hu] at this
      exact (Option.some.inj this).symm
    subst ey
    refine ⟨_, rfl, wpAny_letOwnedTupleGo_enum (s := { s with heap := h', toks := tk + 1 }) ho fun h'' he' sb => ?_⟩
    have hT2 : h''.get? s.heap.objs.size = some { cls := .type "tuple", data := .seq #[.int i tk, y] } := (sb.2 _ (Nat.ne_of_gt hel)).trans hT
    have new : ObjOk X.prog X.w (upd H s.heap.objs.size (.tup [.int (i : Nat), x])) h'' s.heap.objs.size (.tup [.int (i : Nat), x]) :=
      ⟨by show 2 ≤ sizeLine; decide, [.int i tk, y], .cons ⟨_, rfl⟩ (.cons ru .nil), ⟨_, hT2, rfl, _, rfl⟩⟩
    have I1 : Inv X pins σ (upd H s.heap.objs.size (.tup [.int (i : Nat), x])) { s with heap := h'', toks := tk + 1 } :=
      I.turnedNew (ch := [e, it]) (fun b ob hb q => (sb.2 b (fun z => hb (by simp [z]))).trans (hk b ob (fun z => hb (by simp [z])) (fun z => hb (by simp [z])) q)) hf (Nat.le_refl _) new
    refine ⟨.ref s.heap.objs.size, _, I1, rfl, ⟨_, x, rfl, I.hok.fresh (Nat.le_refl _), rfl, fun ys hy => by rw [sq_inj I hy hq]; exact hx⟩, ⟨⟨y, ?_⟩, iit_at hit'.1 fun o q => (sb.2 it (Ne.symm hei)).trans q⟩, fun b hb => ?_⟩
    · have e1 : ((i + 1 : Nat) : Int) = (i : Int) + 1 := by omega
      rw [e1]; exact he'
    · have hb' : b < s.heap.objs.size := by
        have e' : b = e ∨ b = it := by simpa using hb
        rcases e' with z | z
        · rw [z]; exact hel
        · rw [z]; exact hil
      rw [upd_ne (Nat.ne_of_lt hb')]
      exact (hf b hb).1
  done := by
    intro X hP hw hK hc i pins s σ H E I hf st hg
    subst hP hw hK
    obtain ⟨⟨old, he⟩, hit⟩ := st
    obtain ⟨xs, hq, hx⟩ := hg
    obtain ⟨its, rv, p, hz, hal⟩ := sqk_inv I hq
    obtain ⟨f0, f1, f2, f3, f4, f5⟩ := hf it (by simp)
    have hl := rv.length
    have fin : ∀ h', Heap.ExtBut it s.heap h' → (Option.none : Option Value) = Option.none ∧ Inv X pins σ H { s with heap := h' } := fun h' eb => ⟨rfl, I.turned (t' := s.toks) (fun b o hb q => eb b o hb q) f0 f1 f3 f4 f5⟩
    have D : Draws X.prog X.w X.A.in1 it [it, a] i (fun _ _ => True) (fun j h => j = i ∧ IIt k h it a i ∧ ISq k h a its.toArray) :=
      { live := fun _ _ st => let ⟨o, ho, _⟩ := iit_obj st.2.1; ⟨o, ho⟩
        frame := fun _ _ _ st hk => ⟨st.1, iit_at st.2.1 fun o e => hk it (by simp) o e, isq_at st.2.2 fun o e => hk a (by simp) o e⟩
        item := fun j s Q E hj st hQ => absurd hj (by rw [st.1]; exact Nat.lt_irrefl _)
        done := fun s Q E st hE => by
          cases k with
          | true => exact wpAny_nextOf_list_end (I.ok.hd hc) st.2.1 st.2.2 (by simp; omega) hE
          | false => exact wpAny_nextOf_tuple_end (I.ok.hd hc) st.2.1 st.2.2 (by simp; omega) hE }
    exact wpAny_pyNext_enum_endD D he ⟨rfl, hit, p⟩ fin
  self := fun A i s Q E st h => let ⟨⟨_, he⟩, _⟩ := st; wpAny_pyIter_enum he h
theorem meets_enum1 {v : Value} {o : Obj} {H : Heap → Prop} (B : Begins v o H) :
    Meets (Builtin.«enumerate.__new__» ⟨[.type "enumerate", v], []⟩) (fun _ R s => H s.heap ∧
      R (.ok (.ret (.ref (s.heap.push o).objs.size))) { s with heap := (s.heap.push o).push { cls := .type "enumerate", data := .fields #[.none, .bool false, .ref s.heap.objs.size, rawInt 0, .none, .none] } }) :=
  .of_wp fun prog w A R s h => by
    obtain ⟨hp, g, d, tk, os⟩ := s; obtain ⟨h1, h⟩ := h
    have hsub := sub_enumerate
    have q1 : ∀ {A' : Around} {E : Value → Shared → Prop} {Q : Value → Shared → Prop}, Q (.ref hp.objs.size) ⟨hp.push o, g, d, tk, os⟩ → wpAny (model prog w) A' (pyIter v) Q E ⟨hp, g, d, tk, os⟩ :=
      fun q => B.iter prog w _ _ ⟨hp, g, d, tk, os⟩ _ h1 q
    wp_walk using q1
    refine wpAny_stack_any fun st => wpAny_pure ?_
    split
    · rename_i c _ _ _ _ _
      cases (c == Value.type "enumerate")
      · wp_walk using q1
        exact ⟨_, rfl, h⟩
      · wp_walk using q1
        exact ⟨_, rfl, h⟩
    · wp_walk using q1
      exact ⟨_, rfl, h⟩
theorem enum_begins1 {prog : Program} {w : World} {A : Around} {E : Value → Shared → Prop} {s : Shared} {v : Value} {o : Obj} {H : Heap → Prop} {Q : Value → Shared → Prop} (B : Begins v o H) (h1 : H s.heap)
    (h : ∀ h', IsEnum h' (s.heap.objs.size + 1) s.heap.objs.size 0 .none → h'.get? s.heap.objs.size = some o → h'.objs.size = s.heap.objs.size + 2 →
      (∀ b o, s.heap.get? b = some o → h'.get? b = some o) → Q (.ref (s.heap.objs.size + 1)) { s with heap := h' }) :
    wpAny (model prog w) A (call (.type "enumerate") [v]) Q E s := by
  refine callType_new F.called_enumerate (by decide) (F.typeCall_enumerate_1 _) (F.newCall_enumerate_1 _) (fun obj => F.args_object_init_2 obj _) F.entry_enumerate_new
    (meets_enum1 B) ⟨h1, ?_⟩
  have hz : (s.heap.push o).objs.size = s.heap.objs.size + 1 := Heap.size_push ..
  show _ ∧ _
  rw [hz]
  have he : IsEnum ((s.heap.push o).push { cls := .type "enumerate", data := .fields #[.none, .bool false, .ref s.heap.objs.size, rawInt 0, .none, .none] }) (s.heap.objs.size + 1) s.heap.objs.size 0 .none := by
    have := Heap.get?_push_size (s.heap.push o) (o := { cls := .type "enumerate", data := .fields #[.none, .bool false, .ref s.heap.objs.size, rawInt 0, .none, .none] }) rfl
    rw [hz] at this; exact this
  refine ⟨⟨_, he, rfl⟩, h _ he (Heap.get?_push_of_some _ (Heap.get?_push_size _ B.free)) (by rw [Heap.size_push, hz]) fun b o x => Heap.get?_push_of_some _ (Heap.get?_push_of_some _ x)⟩
/-- the i-th of xs in a new pair (i, x) -/
def YEn (xs : List V) : Nat → Hp → V → Hp → Prop := YPair (fun i => some (.int (i : Nat))) (fun i => xs[i]?)
theorem walk_enumS {K : PySem.W.Frag} {k : Bool} {a : Addr} {xs : List V} : Walk (ItqE K k a) xs.length (fun H => Sq k H a xs) (YEn xs) := by
  refine ⟨fun i _ hi q => ⟨xs, xs[i], q.k, by simp [hi]⟩, fun _ q => ⟨xs, q.k, Nat.le_refl _⟩, fun i H v H' _ q y => ?_⟩
  obtain ⟨T, x, h1, h2, h3, h4⟩ := y
  exact ⟨T, .int (i : Nat), x, h1, h2, h3, rfl, h4 xs q.k⟩
def iEnumS (ta : TA) : TI := fun σ H R => ta σ H fun vs H1 => ∃ k a xs, vs = [.ref a] ∧ Sq k H1 a xs ∧ ∀ J : It, Walk J xs.length (fun H => Sq k H a xs) (YEn xs) → R J H1
theorem pi_enumS {X : Cx} {e : Expr} {ta : TA} {p pos tpos : Pos} {elts : List Expr} {kk : Nat} (hg : Gl X "enumerate") (hm : X.mg "enumerate" = none) (ha : PA X [e] ta) (hs : starEach [e] X.env = [(false, eval e X.env)] := by rfl) :
    PI X (.Tuple elts kk tpos) (.Call (.Name "enumerate" p) [e] [] pos) (iEnumS ta) := by
  refine ⟨fun pins s σ H R I h => ?_⟩
  refine Call_ (ld_blt I hg hm boot_enumerate (PyProof.Rows.callWith_type1 (thn (ha.run pos pins s σ H _ I h) fun us s1 ⟨vs, H1, I1, r1, q1⟩ => ?_) hs rfl))
  obtain ⟨k, a, xs, ex, hq, q⟩ := q1
  have q := q _ (walk_enumS (K := X.K))
  subst ex
  cases r1 with
  | cons r rr =>
    cases rr
    cases r
    obtain ⟨its, rv, p', hz, hal⟩ := sq_inv I1 hq
    have go : ∀ h', IsEnum h' (s1.heap.objs.size + 1) s1.heap.objs.size 0 .none → IIt k h' s1.heap.objs.size a 0 → (∀ b o, s1.heap.get? b = some o → h'.get? b = some o) →
        wpAny (model X.prog X.w) X.A (pyIter (.ref (s1.heap.objs.size + 1))) (PIE X pins σ (.Tuple elts kk tpos) R) X.xe { s1 with heap := h' } := fun h' he hit hk => by
      refine wpAny_pyIter_enum he ?_
      have I2 : Inv X pins σ H1 { s1 with heap := h' } := I1.kept (t' := s1.toks) hk
      refine ⟨s1.heap.objs.size + 1, [s1.heap.objs.size + 1, s1.heap.objs.size], _, _, H1, rfl, I2, turn_enumK k a (s1.heap.objs.size + 1) s1.heap.objs.size (Nat.succ_ne_self _) (by have : a < s1.heap.objs.size := hal; exact Nat.ne_of_gt (Nat.lt_succ_of_lt this)) (Nat.ne_of_lt hal), ⟨⟨.none, he⟩, hit⟩, fun b hb => ?_, q⟩
      have e' : b = s1.heap.objs.size + 1 ∨ b = s1.heap.objs.size := by simpa using hb
      have hle : s1.heap.objs.size ≤ b := by
        rcases e' with z | z
        · rw [z]; exact Nat.le_add_right _ _
        · rw [z]; exact Nat.le_refl _
      exact I1.fpOk hle (I1.hok.fresh hle)
    exact enum_begins1 (begins_sq k a its.toArray) p' fun h' he hit hsz hk => go h' he (iit_new hit) hk
/-! ### zip(xs, ys) -/
def ItqZ (K : PySem.W.Frag) (k1 k2 : Bool) (a b : Addr) : It :=
  ⟨fun i H => ∃ (xs ys : List V) (x y : V), SqK K k1 H a xs ∧ SqK K k2 H b ys ∧ xs[i]? = some x ∧ ys[i]? = some y,
    fun i H v H' => ∃ T x y, v = .ref T ∧ H T = none ∧ H' = upd H T (.tup [x, y]) ∧ (∀ xs, SqK K k1 H a xs → xs[i]? = some x) ∧ ∀ ys, SqK K k2 H b ys → ys[i]? = some y,
    fun i H => ∃ xs ys : List V, SqK K k1 H a xs ∧ SqK K k2 H b ys ∧ (i = xs.length ∧ i ≤ ys.length ∨ i = ys.length ∧ i ≤ xs.length)⟩
theorem turn_zipK {P : Program} {w : World} {K : PySem.W.Frag} {elts : List Expr} {kk : Nat} {tpos : Pos} (k1 k2 : Bool) {a b z TI TO i1 i2 : Addr} (D : ZipSep2 z TI TO i1 i2 [i1, a] [i2, b]) (ha : a ≠ i1) (hb : b ≠ i2) :
    Turn P w K (.Tuple elts kk tpos) (ItqZ K k1 k2 a b) [z, TI, TO, i1, i2] z (fun i h => IsZip h z TI TO .none ∧ IsTupOf2 h TI (.ref i1) (.ref i2) ∧ (∃ x y, IsTupOf2 h TO x y) ∧ IIt k1 h i1 a i ∧ IIt k2 h i2 b i) where
  mem := by simp
  obj := fun i h st c hc => by
    obtain ⟨hz, hTI, ⟨x, y, hTO⟩, h1, h2⟩ := st
    have e' : c = z ∨ c = TI ∨ c = TO ∨ c = i1 ∨ c = i2 := by simpa using hc
    rcases e' with q | q | q | q | q
    · rw [q]; exact ⟨_, hz, fun v q => nomatch q⟩
    · rw [q]; exact ⟨_, hTI, fun v q => nomatch q⟩
    · rw [q]; exact ⟨_, hTO, fun v q => nomatch q⟩
    · rw [q]; exact iit_obj h1
    · rw [q]; exact iit_obj h2
  keep := fun i h h' st k => by
    obtain ⟨hz, hTI, ⟨x, y, hTO⟩, h1, h2⟩ := st
    exact ⟨k z (by simp) _ hz, k TI (by simp) _ hTI, ⟨x, y, k TO (by simp) _ hTO⟩, iit_at h1 fun o q => k i1 (by simp) o q, iit_at h2 fun o q => k i2 (by simp) o q⟩
  item := by
    intro X hP hw hK hc i pins s σ H E I hf st hg
    subst hP hw hK
    obtain ⟨hz, hTI, ⟨x0, y0, hTO⟩, h1, h2⟩ := st
    obtain ⟨xs, ys, x, y, hqx, hqy, hx, hy⟩ := hg
    obtain ⟨its, rv, p, _, _⟩ := sqk_inv I hqx
    obtain ⟨its2, rv2, p2, _, _⟩ := sqk_inv I hqy
    obtain ⟨u, hu, ru⟩ := rv.get hx
    obtain ⟨u2, hu2, ru2⟩ := rv2.get hy
    have hzl : z < s.heap.objs.size := Heap.lt_size hz
    have l1 : i < its.toArray.size := by
      have := (List.getElem?_eq_some_iff.mp hu).1
      simpa using this
    have l2 : i < its2.toArray.size := by
      have := (List.getElem?_eq_some_iff.mp hu2).1
      simpa using this
    refine wpAny_pyNext_zipD2_item D (draws_sq (prog := X.prog) (w := X.w) (A := X.A.in1) (I.ok.hd hc) k1 i1 a ha its.toArray) (draws_sq (prog := X.prog) (w := X.w) (A := X.A.in1) (I.ok.hd hc) k2 i2 b hb its2.toArray) hz hTI hTO ⟨h1, p⟩ ⟨h2, p2⟩ l1 l2
      fun y1 y2 h' tk e1 e2 z' TO' h1' h2' hT hsz hk => ?_
    have ey1 : y1 = u := by
      have : its[i]? = some y1 := by simpa using e1
      rw [hu] at this
      exact (Option.some.inj this).symm
    have ey2 : y2 = u2 := by
      have : its2[i]? = some y2 := by simpa using e2
      rw [hu2] at this
      exact (Option.some.inj this).symm
    subst ey1 ey2
    refine ⟨_, rfl, wpAny_letOwnedTupleGo_zip (s := { s with heap := h', toks := tk }) z' fun h'' z'' sb => ?_⟩
    have hT2 : h''.get? s.heap.objs.size = some { cls := .type "tuple", data := .seq #[y1, y2] } := (sb.2 _ (Nat.ne_of_gt hzl)).trans hT
    have new : ObjOk X.prog X.w (upd H s.heap.objs.size (.tup [x, y])) h'' s.heap.objs.size (.tup [x, y]) :=
      ⟨by show 2 ≤ sizeLine; decide, [y1, y2], .cons ru (.cons ru2 .nil), ⟨_, hT2, rfl, _, rfl⟩⟩
    have I1 : Inv X pins σ (upd H s.heap.objs.size (.tup [x, y])) { s with heap := h'', toks := tk } :=
      I.turnedNew (t' := tk) (ch := [z, TI, TO, i1, i2]) (fun c o hb q => (sb.2 c (fun q' => hb (by simp [q']))).trans (hk c o (fun q' => hb (by simp [q'])) (fun q' => hb (by simp [q'])) (fun q' => hb (by simp [q'])) (fun q' => hb (by simp [q'])) q)) hf (Nat.le_refl _) new
    refine ⟨.ref s.heap.objs.size, _, I1, rfl, ⟨_, x, y, rfl, I.hok.fresh (Nat.le_refl _), rfl, fun l hl => by rw [sq_inj I hl hqx]; exact hx, fun l hl => by rw [sq_inj I hl hqy]; exact hy⟩, ⟨z'', ?_, ⟨y1, y2, ?_⟩, ?_, ?_⟩, fun c hcm => ?_⟩
    · exact (sb.2 _ D.TIz).trans (hk _ _ D.TIz D.TITO D.TIi1 D.TIi2 hTI)
    · exact (sb.2 _ D.TOz).trans TO'
    · exact iit_at h1'.1 fun o q => (sb.2 _ (Ne.symm D.zi1)).trans q
    · exact iit_at h2'.1 fun o q => (sb.2 _ (Ne.symm D.zi2)).trans q
    · have hlt : c < s.heap.objs.size := by
        have e' : c = z ∨ c = TI ∨ c = TO ∨ c = i1 ∨ c = i2 := by simpa using hcm
        rcases e' with q | q | q | q | q
        · rw [q]; exact hzl
        · rw [q]; exact Heap.lt_size hTI
        · rw [q]; exact Heap.lt_size hTO
        · rw [q]; obtain ⟨_, e1, _⟩ := iit_obj h1; exact Heap.lt_size e1
        · rw [q]; obtain ⟨_, e2, _⟩ := iit_obj h2; exact Heap.lt_size e2
      rw [upd_ne (Nat.ne_of_lt hlt)]
      exact (hf c hcm).1
  done := by
    intro X hP hw hK hc i pins s σ H E I hf st hg
    subst hP hw hK
    obtain ⟨hz, hTI, ⟨x0, y0, hTO⟩, h1, h2⟩ := st
    obtain ⟨xs, ys, hqx, hqy, hend⟩ := hg
    obtain ⟨its, rv, p, _, _⟩ := sqk_inv I hqx
    obtain ⟨its2, rv2, p2, _, _⟩ := sqk_inv I hqy
    have l1 := rv.length
    have l2 := rv2.length
    refine wpAny_pyNext_zipD2_end D (draws_sq (prog := X.prog) (w := X.w) (A := X.A.in1) (I.ok.hd hc) k1 i1 a ha its.toArray) (draws_sq (prog := X.prog) (w := X.w) (A := X.A.in1) (I.ok.hd hc) k2 i2 b hb its2.toArray) hz hTI hTO ⟨h1, p⟩ ⟨h2, p2⟩
      (by simp; omega) (by simp; omega) (by simp; omega) fun h' tk hk => ⟨rfl, I.turnedL (t' := tk) (ch := [z, TI, TO, i1, i2]) (fun c o hb q =>
      hk c o (fun q' => hb (by simp [q'])) (fun q' => hb (by simp [q'])) (fun q' => hb (by simp [q'])) (fun q' => hb (by simp [q'])) q) hf⟩
  self := fun A i s Q E st h => wpAny_pyIter_zip st.1 h
theorem walk_zipS {K : PySem.W.Frag} {k1 k2 : Bool} {a b : Addr} {xs ys : List V} (hl : xs.length = ys.length) : Walk (ItqZ K k1 k2 a b) xs.length (fun H => Sq k1 H a xs ∧ Sq k2 H b ys) (YPair (fun i => xs[i]?) (fun i => ys[i]?)) := by
  refine ⟨fun i _ hi q => ?_, fun _ q => ⟨xs, ys, q.1.k, q.2.k, .inl ⟨rfl, by omega⟩⟩, fun i H v H' _ q y => ?_⟩
  · have h2 : i < ys.length := by omega
    exact ⟨xs, ys, xs[i], ys[i], q.1.k, q.2.k, by simp [hi], by simp [h2]⟩
  · obtain ⟨T, x, z, h1, h2, h3, h4, h5⟩ := y
    exact ⟨T, x, z, h1, h2, h3, h4 xs q.1.k, h5 ys q.2.k⟩
def iZipS (ta : TA) : TI := fun σ H R => ta σ H fun vs H1 => ∃ k1 k2 a b xs ys, vs = [.ref a, .ref b] ∧ xs.length = ys.length ∧ Sq k1 H1 a xs ∧ Sq k2 H1 b ys ∧ ∀ J : It, Walk J xs.length (fun H => Sq k1 H a xs ∧ Sq k2 H b ys) (YPair (fun i => xs[i]?) (fun i => ys[i]?)) → R J H1
theorem pi_zipS {X : Cx} {e e2 : Expr} {ta : TA} {p pos tpos : Pos} {elts : List Expr} {kk : Nat} (hg : Gl X "zip") (hm : X.mg "zip" = none) (ha : PA X [e, e2] ta)
    (hs : starEach [e, e2] X.env = (false, eval e X.env) :: starEach [e2] X.env := by rfl) (hpl : (backTo pos (starEach [e2] X.env)).any (·.1) = false := by rfl) :
    PI X (.Tuple elts kk tpos) (.Call (.Name "zip" p) [e, e2] [] pos) (iZipS ta) := by
  refine ⟨fun pins s σ H R I h => ?_⟩
  refine Call_ (ld_blt I hg hm PyProof.Rows.boot_zip (PyProof.Rows.callWith_type1 (thn (ha.run pos pins s σ H _ I h) fun us s1 ⟨vs, H1, I1, r1, q1⟩ => ?_) hs hpl))
  obtain ⟨k1, k2, a, b, xs, ys, ex, hll, hqx, hqy, q⟩ := q1
  have q := q _ (walk_zipS (K := X.K) hll)
  subst ex
  cases r1 with
  | cons r rr =>
    cases rr with
    | cons r' rr =>
      cases rr
      cases r
      cases r'
      obtain ⟨its, rv, p1, _, la⟩ := sq_inv I1 hqx
      obtain ⟨its2, rv2, p2, _, lb⟩ := sq_inv I1 hqy
      refine zip_begins2 (begins_sq k1 a its.toArray) (begins_sq k2 b its2.toArray) p1 p2 fun h' hz hTI hTO g1 g2 hsz hk => wpAny_pyIter_zip hz ?_
      have I2 : Inv X pins σ H1 { s1 with heap := h' } := I1.kept (t' := s1.toks) hk
      refine ⟨s1.heap.objs.size + 4, [s1.heap.objs.size + 4, s1.heap.objs.size + 2, s1.heap.objs.size + 3, s1.heap.objs.size, s1.heap.objs.size + 1], _, _, H1, rfl, I2,
        turn_zipK k1 k2 (zip_sep2 (N := s1.heap.objs.size) (fp1 := [a]) (fp2 := [b]) (fun c hc => by rw [List.mem_singleton.mp hc]; exact la) (fun c hc => by rw [List.mem_singleton.mp hc]; exact lb)) (Nat.ne_of_lt la) (Nat.ne_of_lt (Nat.lt_succ_of_lt lb)),
        ⟨hz, hTI, ⟨_, _, hTO⟩, iit_new g1, iit_new g2⟩, fun c hcm => ?_, q⟩
      have e' : c = s1.heap.objs.size + 4 ∨ c = s1.heap.objs.size + 2 ∨ c = s1.heap.objs.size + 3 ∨ c = s1.heap.objs.size ∨ c = s1.heap.objs.size + 1 := by simpa using hcm
      have hle : s1.heap.objs.size ≤ c := by
        rcases e' with z | z | z | z | z
        · rw [z]; exact Nat.le_add_right _ _
        · rw [z]; exact Nat.le_add_right _ _
        · rw [z]; exact Nat.le_add_right _ _
        · rw [z]; exact Nat.le_refl _
        · rw [z]; exact Nat.le_add_right _ _
      exact I1.fpOk hle (I1.hok.fresh hle)
end G
/-! More rules of our own: built-in calls and comparisons over lists or tuples. -/
namespace G
open PySem PySem.Spec PyProof.Rows L2

/-! ### isinstance of a built-in class, by the value's kind -/
inductive Kd (H : Hp) : V → String → Prop where
  | non : Kd H .non "NoneType"
  | bl (b : Bool) : Kd H (.bl b) "bool"
  | int (i : Int) : Kd H (.int i) "int"
  | str (x : Str) : Kd H (.str x) "str"
  | lst {a : Addr} {xs : List V} (h : H a = some (.lst xs)) : Kd H (.ref a) "list"
  | tup {a : Addr} {xs : List V} (h : Rd H a (.tup xs)) : Kd H (.ref a) "tuple"
  | dct {a : Addr} {xs : List (Key × V)} (h : H a = some (.dK xs)) : Kd H (.ref a) "dict"
theorem Kd.ty {K : PySem.W.Frag} {H : Hp} {x : V} {t : String} (k : Kd H x t) : TyX K H x (.type t) := by
  cases k with
  | non => exact .base .non
  | bl b => exact .base (.bl b)
  | int i => exact .base (.int i)
  | str i => exact .base (.str i)
  | lst h => exact .base (.lst h)
  | tup h =>
    rcases h with h | ⟨o, h⟩
    · exact .base (.tup h)
    · exact .fTuple h
  | dct h => exact .base (.dK h)
def rIsB (xs : List V) (H : Hp) (Q : VK) : Prop := ∃ (x : V) (t T : String) (b : Bool), xs = [x, .ty T] ∧ Kd H x t ∧ kitB t T = some b ∧ Q (.bl b) H
section
variable {X : Cx}
theorem call_isB : CallR X (.builtin "isinstance") rIsB := by
  intro pins s σ H xs us Q I r h
  obtain ⟨x, t, T, b, rfl, k, e, q⟩ := h
  exact call_isi pins s σ H _ us Q I r ⟨x, .ty T, .type t, .type T, b, rfl, .ty T, k.ty, kit_ty e, q⟩

/-! ### a list or a tuple: its length, its item -/
theorem sq_or {K : PySem.W.Frag} {k : Bool} {H : Hp} {a : Addr} {xs : List V} (h : Sq k H a xs) : SqL K H a xs ∨ SqT K H a xs := by
  cases k with
  | true => exact .inl (SqL.of h)
  | false => exact .inr (.inl h)
theorem sq_l {H : Hp} {a : Addr} {xs : List V} (h : H a = some (.lst xs)) : Sq true H a xs := h
theorem sq_t {H : Hp} {a : Addr} {xs : List V} (h : H a = some (.tup xs)) : Sq false H a xs := .inl h
theorem sq_r {H : Hp} {a : Addr} {xs : List V} (h : Rd H a (.tup xs)) : Sq false H a xs := h
def rLenS (xs : List V) (H : Hp) (Q : VK) : Prop := ∃ k a ys, xs = [.ref a] ∧ Sq k H a ys ∧ Q (.int ys.length) H
theorem call_lenS : CallR X (.builtin "len") rLenS := by
  intro pins s σ H xs us Q I r h
  obtain ⟨k, a, ys, e, hq, q⟩ := h
  exact call_len_seq pins s σ H xs us Q I r ⟨a, ys, e, sq_or hq, q⟩
def rIxA : R2 := fun x y H Q => ∃ k p xs i v, x = .ref p ∧ y = .int i ∧ Sq k H p xs ∧ atI xs i = some v ∧ Q v H
theorem ix_any : IxR X rIxA := by
  intro value slice pins s σ H x y v u Q I rx ry h hs
  obtain ⟨k, p, xs, i, w, ex, ey, hq, ha, q⟩ := h
  cases k with
  | true => exact ix_list value slice pins s σ H x y v u Q I rx ry ⟨p, xs, i, w, ex, ey, SqL.of hq, ha, q⟩ hs
  | false => exact ix_tup value slice pins s σ H x y v u Q I rx ry ⟨p, xs, i, w, ex, ey, .inl hq, ha, q⟩ hs
def rListS (xs : List V) (H : Hp) (Q : VK) : Prop := ∃ k a ys, xs = [.ref a] ∧ Sq k H a ys ∧ ∀ l, H l = none → Q (.ref l) (upd H l (.lst ys))
theorem call_listS : CallR X (.type "list") rListS := by
  intro pins s σ H xs us Q I r h
  obtain ⟨k, a, ys, e, hq, q⟩ := h
  exact call_list_of pins s σ H xs us Q I r ⟨a, ys, e, sq_or hq, q⟩
/-- tuple(a list) -/
def rTupL (xs : List V) (H : Hp) (Q : VK) : Prop := ∃ a ys, xs = [.ref a] ∧ H a = some (.lst ys) ∧ ∀ l, H l = none → Q (.ref l) (upd H l (.tup ys))
theorem call_tupL : CallR X (.type "tuple") rTupL := by
  intro pins s σ H xs us Q I r h
  obtain ⟨a, ys, e, hq, q⟩ := h
  exact call_tuple_of pins s σ H xs us Q I r ⟨a, ys, e, .inl ⟨SqL.of hq, q⟩⟩

/-! ### == [] , != [] , == () -/
def rEqE (neg : Bool) : R2 := fun x y H Q => ∃ k a b xs, x = .ref a ∧ y = .ref b ∧ Sq k H a xs ∧ Sq k H b [] ∧ Q (.bl (if neg then !xs.isEmpty else xs.isEmpty)) H
theorem op_eqE (hu : X.A.units < cLine) : OpR X (compareOp .Eq) (rEqE false) := by
  intro pins s σ H x y v u Q I rx ry h
  obtain ⟨k, a, b, xs, rfl, rfl, hx, hy, q⟩ := h
  cases rx
  cases ry
  obtain ⟨its, rv, p, _, _⟩ := sq_inv I hx
  obtain ⟨its2, rv2, p2, _, _⟩ := sq_inv I hy
  cases rv2
  have hl := rv.length
  have fin : ∀ e : Bool, e = xs.isEmpty → EP X pins σ Q (.bool e) s := fun e he => fin_bl I q he.symm
  cases k with
  | true =>
    cases xs with
    | nil =>
      cases rv
      exact SeqAt.RcAt.lists (e := fun _ => true) p p2 rfl hu (fun j h1 => absurd h1 (Nat.not_lt_zero _)) _ _ _ _ (fin _ rfl)
    | cons z zs => exact SeqAt.RcAt.lists_lengths p p2 (by cases rv; simp) hu _ _ _ _ (fin _ rfl)
  | false =>
    refine SeqAt.RcAt.tuples (e := fun _ => true) p p2 hu (fun j h1 h2 => absurd h2 (Nat.not_lt_zero _)) _ _ _ _ (fin _ ?_)
    cases rv <;> simp
theorem op_neE (hu : X.A.units < cLine) : OpR X (compareOp .NotEq) (rEqE true) := by
  intro pins s σ H x y v u Q I rx ry h
  obtain ⟨k, a, b, xs, rfl, rfl, hx, hy, q⟩ := h
  cases rx
  cases ry
  obtain ⟨its, rv, p, _, _⟩ := sq_inv I hx
  obtain ⟨its2, rv2, p2, _, _⟩ := sq_inv I hy
  cases rv2
  have hl := rv.length
  have fin : ∀ e : Bool, e = !xs.isEmpty → EP X pins σ Q (.bool e) s := fun e he => fin_bl I q he.symm
  cases k with
  | true =>
    cases xs with
    | nil =>
      cases rv
      exact SeqAt.RcNeAt.lists (e := fun _ => true) p p2 rfl hu (fun j h1 => absurd h1 (Nat.not_lt_zero _)) _ _ _ _ (fin _ rfl)
    | cons z zs => exact SeqAt.RcNeAt.lists_lengths p p2 (by cases rv; simp) hu _ _ _ _ (fin _ rfl)
  | false =>
    refine SeqAt.RcNeAt.tuples (e := fun _ => true) p p2 hu (fun j h1 h2 => absurd h2 (Nat.not_lt_zero _)) _ _ _ _ (fin _ ?_)
    cases rv <;> simp

/-! ### all() of a list of ints -/
theorem truth_ints {prog : Program} {w : World} {A : Around} {ns : List Int} {its : List Value} (e : IntsAre its ns) :
    TruthOf prog w A (fun i v => its.toArray[i]? = some v) (fun i => ns.getD i 0 != 0) := fun i v s Q E hv hq => by
  have hv' : its[i]? = some v := by simpa using hv
  obtain ⟨n, t, h1, h2⟩ : ∃ (n : Int) (t : Tok), ns[i]? = some n ∧ v = .int n t := by
    have : ∀ {its : List Value} {ns : List Int}, IntsAre its ns → ∀ (i : Nat) v, its[i]? = some v → ∃ (n : Int) (t : Tok), ns[i]? = some n ∧ v = .int n t := by
      intro its ns h
      induction h with
      | nil => intro i v h; simp at h
      | cons n t _ ih =>
        intro i v h
        cases i with
        | zero => exact ⟨n, t, rfl, (Option.some.inj h).symm⟩
        | succ i =>
          obtain ⟨m, u, a, b⟩ := ih i v (by simpa using h)
          exact ⟨m, u, by simpa using a, b⟩
    exact this e i v hv'
  subst h2
  have hg : ns.getD i 0 = n := by rw [List.getD_eq_getElem?_getD, h1] <;> rfl
  have hq' : Q (ns.getD i 0 != 0) s := hq
  rw [hg] at hq'
  exact PySem.P.truthy_int hq'
theorem all_rangeI : ∀ ns : List Int, (List.range ns.length).all (fun i => ns.getD i 0 != 0) = ns.all (· != 0)
  | [] => rfl
  | b :: bs => by
    rw [List.length_cons, List.range_succ_eq_map, List.all_cons, List.all_map, List.all_cons, ← all_rangeI bs]
    all_goals rfl
def rAllI (xs : List V) (H : Hp) (Q : VK) : Prop := ∃ (a : Addr) (ns : List Int), xs = [V.ref a] ∧ H a = some (.lst (ns.map V.int)) ∧ Q (.bl (ns.all (· != 0))) H
theorem cr_allI (hc : X.calm = true) : CallR X (.builtin "all") rAllI := by
  intro pins s σ H vs us Q I r h
  obtain ⟨a, ns, rfl, hs, q⟩ := h
  obtain ⟨its, rv, hl, _⟩ := I.list (SqL.of hs)
  rw [Vals.ref1 r]
  have hb := rv.ints
  refine call_all_walk (iter_any hl.isList fun s₂ e2 st hne => ?_)
  subst e2
  refine ⟨_, _, _, _, _, _, _, rfl, Walks.list (A := X.A.in1) (I.ok.hd hc) _ a hne its.toArray, st, truth_ints hb, fun h' tk hk => ?_⟩
  refine ⟨.bl _, H, I.kept fun b o eo => hk b o (fun hmem => ?_) (Heap.get?_push_of_some _ eo), ?_, q⟩
  · rcases List.mem_cons.mp hmem with e1 | hmem
    · exact absurd (e1 ▸ Heap.lt_size eo) (Nat.lt_irrefl _)
    · cases hmem
  · show Value.bool _ = Value.bool _
    rw [← all_rangeI, List.size_toArray, hb.length]
def rAllB (xs : List V) (H : Hp) (Q : VK) : Prop := ∃ (a : Addr) (bs : List Bool), xs = [V.ref a] ∧ H a = some (.lst (bs.map V.bl)) ∧ Q (.bl (bs.all id)) H
theorem cr_allB (hc : X.calm = true) : CallR X (.builtin "all") rAllB := by
  intro pins s σ H vs us Q I r h
  obtain ⟨a, bs, e, hs, q⟩ := h
  exact cr_all hc pins s σ H vs us Q I r ⟨a, bs, e, SqL.of hs, q⟩

/-! ### t.index(x), t a tuple of ints, the first place -/
theorem mt_tupIxI : MtR X "tuple.index" (fun x xs H Q => ∃ p, ∃ ys : List Int, ∃ z j, x = .ref p ∧ xs = [.int z] ∧ Rd H p (.tup (ys.map V.int)) ∧ ys[j]? = some z ∧ (∀ m, m < j → ys[m]? ≠ some z) ∧ Q (.int (j : Nat)) H) := by
  intro pins s σ H x xs v us Q I rx rs h
  obtain ⟨p, ys, z, j, rfl, rfl, hq, hy, hno, q⟩ := h
  cases rx
  obtain ⟨u, rfl, t, rfl⟩ := vals1 rs
  obtain ⟨its, r, pl, hz⟩ := I.tuple (.inl hq)
  obtain ⟨⟨cls, dd, dt, sl⟩, ho, hc, n, hd⟩ := pl
  simp only at hc hd
  subst hc
  subst hd
  have hl : its.toArray.size = ys.length := by rw [List.size_toArray, ← r.length, List.length_map]
  have hj : j < its.toArray.size := by rw [hl]; exact (List.getElem?_eq_some_iff.mp hy).1
  have flat : (ys.map V.int).all flatV = true := by
    rw [List.all_map]
    exact List.all_eq_true.mpr fun _ _ => rfl
  have at' : ∀ (m : Nat) (hm : m < its.toArray.size), ∃ y t', ys[m]? = some y ∧ its.toArray[m] = Value.int y t' := fun m hm => by
    have hm' : m < ys.length := by rw [← hl]; exact hm
    obtain ⟨w, hw, t', hw'⟩ := r.get (i := m) (x := .int ys[m]) (by simp [hm'])
    refine ⟨ys[m], t', List.getElem?_eq_getElem hm', ?_⟩
    have e := (List.getElem?_eq_some_iff.mp hw).2
    rw [← hw', ← e]
    simp
  refine call_meets PySem.F.slot_tuple_index ⟨_, ho, rfl⟩ PySem.F.entry_tuple_index (PySem.F.args_tuple_index_2 _ _) (_root_.TI.tuple_indexAt p its.toArray n dd sl (.int z t) (eqU (.int z)) j hj ?_ ?_)
    ⟨ho, fun w hw => mem_eqAt (x := .int z) ⟨t, rfl⟩ rfl r flat w (by simpa using hw), ⟨.int (j : Nat), H, I.tok _, ⟨_, rfl⟩, q⟩⟩
  · obtain ⟨y, t', h1, h2⟩ := at' j hj
    rw [hy] at h1
    cases h1
    rw [h2, eqU_of (y := V.int z) ⟨t', rfl⟩ rfl]
    simp [eqV]
  · intro m hm hmj
    obtain ⟨y, t', h1, h2⟩ := at' m hm
    rw [h2, eqU_of (y := V.int y) ⟨t', rfl⟩ rfl]
    have : y ≠ z := fun e => hno m hmj (by rw [h1, e])
    simp [eqV, this]

/-- o.index(e), o a tuple that is known by its object -/
def rIdx (x : V) (xs : List V) (H : Hp) (Q : VK) : Prop := ∃ p, ∃ ys : List Int, ∃ z j, x = .ref p ∧ xs = [.int z] ∧ Rd H p (.tup (ys.map V.int)) ∧ ys[j]? = some z ∧ (∀ m, m < j → ys[m]? ≠ some z) ∧ Q (.int (j : Nat)) H
def tIdx (to te : TE) : TE := fun σ H Q => to σ H fun x H1 => (∃ p o xs, x = .ref p ∧ H1 p = some (.frz o (.tup xs)) ∧ o.dict = none) ∧ te σ H1 fun y H2 => rIdx x [y] H2 Q
theorem pe_index {o e : Expr} {to te : TE} {apos cpos : Pos} (ho : PE X o to) (ha : PE X e te)
    (hbase : attributeBase o "index" X.env (eval o X.env) = eval o X.env := by rfl)
    (hfew : ((backTo cpos (starEach [e] X.env)).all (fun x => !x.1) && (backToKw cpos (keywordEach [] X.env)).all (fun x => x.1.isSome)
      && decide (([e] : List Expr).length + ([] : List Keyword).length + (if ([] : List Keyword).isEmpty then 0 else 1) < 30)) = true := by rfl)
    (hline : (apos.endLine == cpos.line) = true := by rfl) (hs : starEach [e] X.env = (false, eval e X.env) :: starEach [] X.env := by rfl) (hplain : (backTo cpos (starEach [] X.env)).any (·.1) = false := by rfl) :
    PE X (.Call (.Attribute o "index" apos) [e] [] cpos) (tIdx to te) := by
  refine ⟨fun pins s σ H Q I h => ?_⟩
  refine wpAny_Call_method_late hbase hfew hline rfl (thn (ho.run pins s σ H _ I h) fun v s1 ⟨x, H1, I1, r1, ⟨p, ob, xs, ex, hp, hd⟩, q1⟩ => ?_)
  subst ex
  cases r1
  obtain ⟨g1, g2⟩ := (show ObjOk X.prog X.w H1 s1.heap p (.frz ob (.tup xs)) from I1.hok p _ hp)
  obtain ⟨its, rv, ht, hz⟩ := I1.tuple (.inl (.inr ⟨ob, hp⟩))
  refine ⟨"tuple", "tuple.index", PySem.F.plainAttrs_tuple, PySem.F.slot_tuple_index, PySem.F.type_tuple_index, ht.typeIs, fun a e => by cases e; exact ⟨ob, g1, hd⟩, ?_⟩
  have hA := (pa_cons ha pa_nil hs).run cpos pins s1 σ H1 (fun vs H2 => rIdx (.ref p) vs H2 Q) I1 q1
  rw [hs] at hA ⊢
  refine Calls.callWith_builtin (by show (false || (backTo cpos (starEach [] X.env)).any (·.1)) = false; rw [hplain] <;> rfl) (Calls.evalArgs_plain ?_)
  refine thn hA fun us s2 ⟨vs, H2, I2, r2, q2⟩ => ?_
  exact mt_tupIxI pins s2 σ H2 (.ref p) vs (.ref p) us Q I2 rfl r2 q2

/-! ### min, max, sorted of a tuple of ints -/
theorem readsAll_ints {h : Heap} : ∀ {us : List Value} {ns : List Int}, IntsAre us ns → ReadsAll h us (ns.map PyData.int) []
  | _, _, .nil => .nil
  | _, _, .cons n t r => ReadsAll.cons (as := []) (bs := []) (.int n t) (readsAll_ints r)
theorem alikeAll_ints (ns : List Int) : PySem.W.AlikeAll (ns.map PyData.int) := by
  refine ⟨fun x hx y hy => ?_, fun x hx => ?_⟩
  · obtain ⟨a, _, rfl⟩ := List.mem_map.mp hx
    obtain ⟨b, _, rfl⟩ := List.mem_map.mp hy
    rfl
  · obtain ⟨a, _, rfl⟩ := List.mem_map.mp hx
    exact fun z => nomatch z
theorem depthAll_ints : ∀ ns : List Int, PyData.depthAll (ns.map PyData.int) = 0
  | [] => rfl
  | n :: ns => by
    have ih := depthAll_ints ns
    rw [List.map_cons]
    show max (PyData.depth (.int n)) (PyData.depthAll (ns.map PyData.int)) = 0
    rw [ih]
    rfl
theorem foldl_min_mem (n : Int) : ∀ ns : List Int, ns.foldl min n ∈ n :: ns := by
  intro ns
  induction ns generalizing n with
  | nil => exact List.mem_cons_self
  | cons k r ih =>
    rw [List.foldl_cons]
    rcases List.mem_cons.mp (ih (min n k)) with e | e
    · rw [e]
      rcases Int.le_total n k with h | h
      · rw [Int.min_eq_left h]; exact List.mem_cons_self
      · rw [Int.min_eq_right h]; exact List.mem_cons_of_mem _ List.mem_cons_self
    · exact List.mem_cons_of_mem _ (List.mem_cons_of_mem _ e)
theorem foldl_max_mem (n : Int) : ∀ ns : List Int, ns.foldl max n ∈ n :: ns := by
  intro ns
  induction ns generalizing n with
  | nil => exact List.mem_cons_self
  | cons k r ih =>
    rw [List.foldl_cons]
    rcases List.mem_cons.mp (ih (max n k)) with e | e
    · rw [e]
      rcases Int.le_total n k with h | h
      · rw [Int.max_eq_right h]; exact List.mem_cons_of_mem _ List.mem_cons_self
      · rw [Int.max_eq_left h]; exact List.mem_cons_self
    · exact List.mem_cons_of_mem _ (List.mem_cons_of_mem _ e)
theorem foldl_max_le (n : Int) : ∀ ns : List Int, (∀ y ∈ n :: ns, y ≤ ns.foldl max n) := by
  intro ns
  induction ns generalizing n with
  | nil => intro y hy; rw [List.mem_singleton.mp hy]; exact Int.le_refl _
  | cons k r ih =>
    intro y hy
    rw [List.foldl_cons]
    have h1 := ih (max n k) (max n k) List.mem_cons_self
    rcases List.mem_cons.mp hy with e | hy
    · rw [e]; exact Int.le_trans (Int.le_max_left n k) h1
    · rcases List.mem_cons.mp hy with e | hy
      · rw [e]; exact Int.le_trans (Int.le_max_right n k) h1
      · exact ih (max n k) y (List.mem_cons_of_mem _ hy)
/-- min(t), max(t): one of the items; the greatest is not below any -/
def rMinT (xs : List V) (H : Hp) (Q : VK) : Prop := ∃ (a : Addr) (ns : List Int), xs = [V.ref a] ∧ Rd H a (.tup (ns.map V.int)) ∧ ns ≠ [] ∧ ∀ m, m ∈ ns → Q (.int m) H
def rMaxT (xs : List V) (H : Hp) (Q : VK) : Prop := ∃ (a : Addr) (ns : List Int), xs = [V.ref a] ∧ Rd H a (.tup (ns.map V.int)) ∧ ns ≠ [] ∧ ∀ m, m ∈ ns → (∀ y ∈ ns, y ≤ m) → Q (.int m) H
theorem cr_minT (hc : X.calm = true) (hu : X.A.units + 64 < cLine) : CallR X (.builtin "min") rMinT := by
  intro pins s σ H vs us Q I r h
  obtain ⟨a, ns, rfl, hs, hne, q⟩ := h
  obtain ⟨its, rv, hl, _⟩ := I.tuple (.inl hs)
  rw [Vals.ref1 r]
  cases ns with
  | nil => exact absurd rfl hne
  | cons n ns =>
    refine PySem.W.min_tuple_data (I.ok.hd hc) (show s.heap.IsTuple a its.toArray from hl) (readsAll_ints rv.ints) (alikeAll_ints (n :: ns)) (by
      have := depthAll_ints (n :: ns)
      rw [List.map_cons] at this
      show X.A.units + 1 + PyData.depthAll (PyData.int n :: ns.map PyData.int) < cLine
      rw [this]
      omega) fun i v h' tk bs hv hr hk => ?_
    rw [PySem.W.minD_ints] at hr
    cases hr with
    | int k t => exact ⟨.int _, H, I.kept hk, ⟨t, rfl⟩, q _ (foldl_min_mem n ns)⟩
theorem cr_maxT (hc : X.calm = true) (hu : X.A.units + 64 < cLine) : CallR X (.builtin "max") rMaxT := by
  intro pins s σ H vs us Q I r h
  obtain ⟨a, ns, rfl, hs, hne, q⟩ := h
  obtain ⟨its, rv, hl, _⟩ := I.tuple (.inl hs)
  rw [Vals.ref1 r]
  cases ns with
  | nil => exact absurd rfl hne
  | cons n ns =>
    refine PySem.W.max_tuple_data (I.ok.hd hc) (show s.heap.IsTuple a its.toArray from hl) (readsAll_ints rv.ints) (alikeAll_ints (n :: ns)) (by
      have := depthAll_ints (n :: ns)
      rw [List.map_cons] at this
      show X.A.units + 1 + PyData.depthAll (PyData.int n :: ns.map PyData.int) < cLine
      rw [this]
      omega) fun i v h' tk bs hv hr hk => ?_
    rw [PySem.W.maxD_ints] at hr
    cases hr with
    | int k t => exact ⟨.int _, H, I.kept hk, ⟨t, rfl⟩, q _ (foldl_max_mem n ns) (foldl_max_le n ns)⟩

/-! ### min of a list of pairs of ints: one of them -/
def rMinP (xs : List V) (H : Hp) (Q : VK) : Prop := ∃ (a : Addr) (ys : List V), xs = [V.ref a] ∧ H a = some (.lst ys) ∧ ys ≠ [] ∧ (∀ y ∈ ys, ∃ t i j, y = .ref t ∧ H t = some (.tup [.int i, .int j])) ∧ ∀ y ∈ ys, Q y H
theorem reads_pairs {pins : List (Addr × Obj)} {σ : L2.St} {H : Hp} {s : Shared} (I : Inv X pins σ H s) : ∀ {ys : List V} {us : List Value}, Vals ys us → (∀ y ∈ ys, ∃ t i j, y = .ref t ∧ H t = some (.tup [.int i, .int j])) →
    ∃ ps : List (Int × Int), ReadsAll s.heap us (ps.map fun p => PyData.tuple [.int p.1, .int p.2]) [] ∧ ps.length = ys.length
  | _, _, .nil, _ => ⟨[], .nil, rfl⟩
  | y :: ys, u :: us, .cons r t, h => by
    obtain ⟨ps, h1, h2⟩ := reads_pairs I t fun z hz => h z (List.mem_cons_of_mem _ hz)
    obtain ⟨c, i, j, rfl, hc⟩ := h y List.mem_cons_self
    cases r
    obtain ⟨its, rv, ⟨o, ho, hcl, n, hd⟩, _⟩ := I.tuple (SqT.of hc)
    obtain ⟨t1, t2, e⟩ := Vals.int2 rv
    subst e
    refine ⟨(i, j) :: ps, ReadsAll.cons (as := []) (bs := []) (.tuple ho hcl hd ?_) h1, by simp [h2]⟩
    exact ReadsAll.cons (as := []) (bs := []) (.int i t1) (ReadsAll.cons (as := []) (bs := []) (.int j t2) .nil)
theorem depthAll_pairs : ∀ ps : List (Int × Int), PyData.depthAll (ps.map fun p => PyData.tuple [.int p.1, .int p.2]) ≤ 2
  | [] => Nat.zero_le _
  | p :: ps => by
    have ih := depthAll_pairs ps
    rw [List.map_cons]
    show max (PyData.depth (.tuple [.int p.1, .int p.2])) (PyData.depthAll (ps.map fun p => PyData.tuple [.int p.1, .int p.2])) ≤ 2
    exact Nat.max_le.mpr ⟨by simp [PyData.depth, PyData.depthAll], ih⟩
theorem alikeAll_pairs (ps : List (Int × Int)) : PySem.W.AlikeAll (ps.map fun p => PyData.tuple [.int p.1, .int p.2]) := by
  refine ⟨fun x hx y hy => ?_, fun x hx => ?_⟩
  · obtain ⟨a, _, rfl⟩ := List.mem_map.mp hx
    obtain ⟨b, _, rfl⟩ := List.mem_map.mp hy
    rfl
  · obtain ⟨a, _, rfl⟩ := List.mem_map.mp hx
    exact fun z => nomatch z
theorem cr_minP (hc : X.calm = true) (hu : X.A.units + 64 < cLine) : CallR X (.builtin "min") rMinP := by
  intro pins s σ H vs us Q I r h
  obtain ⟨a, ys, rfl, hs, hne, hp, q⟩ := h
  obtain ⟨its, rv, hl, _⟩ := I.list (SqL.of hs)
  rw [Vals.ref1 r]
  obtain ⟨ps, hr, hlen⟩ := reads_pairs I rv hp
  cases ps with
  | nil =>
    cases ys with
    | nil => exact absurd rfl hne
    | cons y ys => simp at hlen
  | cons p ps =>
    have hd : X.A.units + 1 + PyData.depthAll ((p :: ps).map fun p => PyData.tuple [.int p.1, .int p.2]) < cLine := by
      have := depthAll_pairs (p :: ps)
      omega
    refine PySem.W.min_list_data (I.ok.hd hc) hl.isList hr (alikeAll_pairs (p :: ps)) hd fun i v h' tk bs hv _ hk => ?_
    have hv' : its[i]? = some v := by simpa using hv
    have hi : i < ys.length := by
      have := (List.getElem?_eq_some_iff.mp hv').1
      rw [rv.length]
      exact this
    obtain ⟨w, hw, rw'⟩ := rv.get (i := i) (x := ys[i]) (List.getElem?_eq_getElem hi)
    have e : w = v := Option.some.inj (hw.symm.trans hv')
    subst e
    exact ⟨ys[i], H, I.kept hk, rw', q _ (List.getElem_mem hi)⟩

/-! ### the layer's own rules, without the written part -/
/-- x not in xs: an int among ints -/
def rNotInI : R2 := fun x y H Q => ∃ (k : Bool) (a : Addr) (n : Int) (ns : List Int), x = .int n ∧ y = .ref a ∧ Sq k H a (ns.map V.int) ∧ Q (.bl (!decide (n ∈ ns))) H
def rInI : R2 := fun x y H Q => ∃ (k : Bool) (a : Addr) (n : Int) (ns : List Int), x = .int n ∧ y = .ref a ∧ Sq k H a (ns.map V.int) ∧ Q (.bl (decide (n ∈ ns))) H
theorem inV_ints (n : Int) : ∀ ns : List Int, inV (.int n) (ns.map V.int) = decide (n ∈ ns)
  | [] => rfl
  | m :: ns => by
    have ih := inV_ints n ns
    unfold inV at ih ⊢
    rw [List.map_cons, List.any_cons, ih]
    by_cases h : m = n
    · simp [eqV, h]
    · have : ¬ n = m := fun e => h e.symm
      simp [eqV, h, this]
theorem flat_ints (ns : List Int) : (ns.map V.int).all flatV = true := by
  rw [List.all_map]
  exact List.all_eq_true.mpr fun _ _ => rfl
theorem op_notInI : OpR X (compareOp .NotIn) rNotInI := by
  intro pins s σ H x y v u Q I rx ry h
  obtain ⟨k, a, n, ns, rfl, rfl, hs, q⟩ := h
  refine op_notIn_seq pins s σ H _ _ v u Q I rx ry ⟨a, _, rfl, sq_or hs, rfl, flat_ints ns, ?_⟩
  rw [inV_ints]
  exact q
theorem op_inI : OpR X (compareOp .In) rInI := by
  intro pins s σ H x y v u Q I rx ry h
  obtain ⟨k, a, n, ns, rfl, rfl, hs, q⟩ := h
  refine op_in_seq pins s σ H _ _ v u Q I rx ry ⟨a, _, rfl, sq_or hs, rfl, flat_ints ns, ?_⟩
  rw [inV_ints]
  exact q
/-- t[:j], t[i:] of a tuple, not the whole -/
def rSlT' : V → Option Int → Option Int → Hp → VK → Prop := fun x lo hi H Q => ∃ a xs, x = .ref a ∧ Rd H a (.tup xs) ∧ ¬ (HT.sIx xs.length 0 lo = 0 ∧ HT.sIx xs.length xs.length hi = xs.length) ∧ ∀ p, H p = none → Q (.ref p) (upd H p (.tup (cutV xs lo hi)))
theorem sl_tupS : SlR X rSlT' := by
  intro pins s σ H x v vl vu lo hi sl Q I rx hs pl pu h
  obtain ⟨a, xs, e, hx, hw, q⟩ := h
  exact sl_tup pins s σ H x v vl vu lo hi sl Q I rx hs pl pu ⟨a, xs, e, .inl hx, hw, q⟩
def rSlA' : V → Option Int → Option Int → Hp → VK → Prop := fun x lo hi H Q => ∃ a xs, x = .ref a ∧ H a = some (.tup xs) ∧
  ∀ p H', Same H H' → H' p = some (.tup (cutV xs lo hi)) → Q (.ref p) H'
theorem cutV_whole {xs : List V} {lo hi : Option Int} (h : HT.sIx xs.length 0 lo = 0 ∧ HT.sIx xs.length xs.length hi = xs.length) : cutV xs lo hi = xs := by
  unfold cutV
  rw [h.1, h.2]
  simp
theorem sl_tupW : SlR X rSlA' := by
  intro pins s σ H x v vl vu lo hi sl Q I rx hs pl pu h
  obtain ⟨a, xs, e, hx, q⟩ := h
  exact sl_tupA pins s σ H x v vl vu lo hi sl Q I rx hs pl pu ⟨a, xs, e, SqT.of hx, fun hw => q a H (Same.refl H) (by rw [cutV_whole hw]; exact hx), fun _ p np => q p _ (fun b o e => by rw [upd_ne (ne_of_none e np)]; exact e) upd_same⟩
def rSlL' : V → Option Int → Option Int → Hp → VK → Prop := fun x lo hi H Q => ∃ a xs, x = .ref a ∧ H a = some (.lst xs) ∧ ∀ p, H p = none → Q (.ref p) (upd H p (.lst (cutV xs lo hi)))
theorem sl_listS : SlR X rSlL' := by
  intro pins s σ H x v vl vu lo hi sl Q I rx hs pl pu h
  obtain ⟨a, xs, e, hx, q⟩ := h
  exact sl_list pins s σ H x v vl vu lo hi sl Q I rx hs pl pu ⟨a, xs, e, SqL.of hx, q⟩
/-- t + u -/
def rCat' : R2 := fun x y H Q => ∃ a b xs ys, x = .ref a ∧ y = .ref b ∧ H a = some (.tup xs) ∧ H b = some (.tup ys) ∧ xs.length + ys.length ≤ sizeLine ∧
  ∀ p H', Same H H' → H' p = some (.tup (xs ++ ys)) → Q (.ref p) H'
theorem op_catS : OpR X (binaryOp .Add) rCat' := by
  intro pins s σ H x y v u Q I rx ry h
  obtain ⟨a, b, xs, ys, e1, e2, ha, hb, hz, q⟩ := h
  refine op_catA pins s σ H x y v u Q I rx ry ⟨a, b, xs, ys, e1, e2, SqT.of ha, SqT.of hb, hz, fun e => q b H (Same.refl H) (by rw [e]; exact hb), fun _ e => q a H (Same.refl H) (by rw [e, List.append_nil]; exact ha), fun _ _ p np => q p _ (fun b o e => by rw [upd_ne (ne_of_none e np)]; exact e) upd_same⟩
/-- a, b = a tuple -/
def gTupS (n : Nat) (t : TGs) : TG := fun v σ H Q => ∃ a xs, v = .ref a ∧ H a = some (.tup xs) ∧ xs.length = n ∧ t xs σ H Q
theorem pg_tupS {es : List Expr} {kk : Nat} {t : TGs} {n : Nat} {pos : Pos} (hc : X.calm = true) (h : PGs X es t)
    (hn : (assignEach es X.env).length = n := by rfl) (hst : (assignEach es X.env).findIdx? (·.1) = none := by rfl) : PG X (.Tuple es kk pos) (gTupS n t) := by
  refine ⟨fun pins s σ H v u Q I r hw => ?_⟩
  obtain ⟨a, xs, e1, hq, hl, hw⟩ := hw
  exact (pg_tup hc h hn hst).run pins s σ H v u Q I r ⟨a, xs, e1, SqT.of hq, hl, hw⟩
/-- an int as a test -/
def tTruI (ta : TE) : TT := fun σ H Q => ta σ H fun x H1 => ∃ i, x = .int i ∧ Q (i != 0) H1
theorem pt_int {a : Expr} {ta : TE} (ha : PE X a ta) (he : ∀ whole, isTrue a X.env whole = (do let v ← whole; standAt a.pos; holding [v] (truthy v))) : PT X a (tTruI ta) := by
  refine ⟨fun pins s σ H Q I h => ?_⟩
  refine isTrue_plain (thn (ha.run pins s σ H _ I h) fun v s1 ⟨x, H1, I1, r1, q1⟩ => ?_) (he _)
  obtain ⟨i, rfl, q⟩ := q1
  obtain ⟨t, rfl⟩ := r1
  exact PySem.P.truthy_int ⟨H1, I1, q⟩
end
end G
/-! More rules: t[::-1], in over rows, lists of ints compared, sorted of a tuple, of a dict of rows. -/
namespace G
open PySem PySem.Spec PyProof.Rows L2
section
variable {prog : Program} {w : World} {A : Around} {E : Value → Shared → Prop} {s : Shared}
/-! ### t[::-1] -/
theorem places_rev (n : Nat) : Builtin.Slice.slicePlaces ((n : Int) - 1) (-1) (-1) = n := by
  unfold Builtin.Slice.slicePlaces
  have h1 : ¬ ((-1 : Int) > 0) := by omega
  simp only [h1, if_false]
  split
  · rw [show (-(-1 : Int)) = 1 by omega, Int.ediv_one]
    omega
  · omega
theorem sliceApplied_rev {sl : Addr} {vl vu vs : Value} {n : Nat} {Q : Int × Int × Nat → Shared → Prop} (hs : s.heap.IsSliceOf sl vl vu vs) (pl : IsPart vl none) (pu : IsPart vu none) (ps : IsPart vs (some (-1)))
    (h : Q ((n : Int) - 1, -1, n) s) : wpAny (model prog w) A (Builtin.Slice.sliceApplied (.ref sl) (pure (n : Int))) Q E s := by
  obtain ⟨os, hos, hcs, hds⟩ := id hs
  unfold Builtin.Slice.sliceApplied Builtin.Slice.sliceFields
  refine wpAny_bind (wpAny_bind (wpAny_field hos hds (x := vl) rfl (wpAny_bind (wpAny_field hos hds (x := vu) rfl (wpAny_bind (wpAny_field hos hds (x := vs) rfl (wpAny_pure ?_)))))))
  refine wpAny_bind (HT.slicePart_ ps ?_)
  show wpAny _ _ (if ((-1 : Int) == 0) = true then _ else _) _ _ s
  rw [if_neg (by decide)]
  refine wpAny_bind (HT.slicePart_ pl (wpAny_bind (HT.slicePart_ pu (wpAny_bind (wpAny_pure ?_)))))
  show wpAny _ _ (pure ((n : Int) - 1, (-1 : Int), Builtin.Slice.slicePlaces ((n : Int) - 1) (-1) (-1))) _ _ s
  rw [places_rev]
  exact wpAny_pure h
theorem pick_rev (xs : List Value) : ((List.range xs.length).filterMap fun (m : Nat) => xs.toArray[((xs.length : Int) - 1 + (m : Int) * (-1)).toNat]?).toArray = xs.reverse.toArray := by
  congr 1
  have e : ∀ m ∈ List.range xs.length, xs.toArray[((xs.length : Int) - 1 + (m : Int) * (-1)).toNat]? = (fun m => xs.reverse[m]?) m := fun m hm => by
    have hm' : m < xs.length := List.mem_range.mp hm
    show _ = xs.reverse[m]?
    rw [List.getElem?_reverse hm', List.getElem?_toArray]
    congr 1
    omega
  have e2 : (List.range xs.length).filterMap (fun (m : Nat) => xs.toArray[((xs.length : Int) - 1 + (m : Int) * (-1)).toNat]?) = (List.range xs.length).filterMap (fun m => xs.reverse[m]?) := by
    have : ∀ l : List Nat, (∀ m ∈ l, m ∈ List.range xs.length) → l.filterMap (fun (m : Nat) => xs.toArray[((xs.length : Int) - 1 + (m : Int) * (-1)).toNat]?) = l.filterMap (fun m => xs.reverse[m]?) := by
      intro l
      induction l with
      | nil => intro _; rfl
      | cons a r ih =>
        intro h
        rw [List.filterMap_cons, List.filterMap_cons, e a (h a List.mem_cons_self), ih fun m hm => h m (List.mem_cons_of_mem _ hm)]
    exact this _ fun _ h => h
  rw [e2]
  have : ∀ ys : List Value, (List.range ys.length).filterMap (fun m => ys[m]?) = ys := by
    intro ys
    induction ys with
    | nil => rfl
    | cons y ys ih =>
      rw [List.length_cons, List.range_succ_eq_map, List.filterMap_cons]
      show y :: List.filterMap (fun m => (y :: ys)[m]?) (List.map Nat.succ (List.range ys.length)) = y :: ys
      rw [List.filterMap_map]
      congr 1
  have e3 := this xs.reverse
  rw [List.length_reverse] at e3
  exact e3
theorem getItem_tuple_rev {t sl : Addr} {its : List Value} {vl vu vs : Value} {Q : Value → Shared → Prop} (ht : IsTup s.heap t its.toArray) (hs : s.heap.IsSliceOf sl vl vu vs) (pl : IsPart vl none) (pu : IsPart vu none) (ps : IsPart vs (some (-1)))
    (h : Q (.ref s.heap.objs.size) { s with heap := s.heap.push { cls := .type "tuple", data := .seq its.reverse.toArray } })
    (hsz : its.length ≤ sizeLine) : wpAny (model prog w) A (getItem (.ref t) (.ref sl)) Q E s := by
  have htake : sizeOk (.seq its.reverse.toArray) := by
    show its.reverse.toArray.size ≤ sizeLine
    rw [List.size_toArray, List.length_reverse]
    exact hsz
  obtain ⟨os, hos, hcs, hds⟩ := id hs
  have hTs : s.TypeIs (.ref sl) "slice" := ⟨os, hos, hcs⟩
  unfold getItem
  try with_reducible refine wpAny_holding ?_
  first | refine wpAny_bind (wpAny_pure ?_) | skip
  refine wpAny_bind (wpAny_sequenceKey ht.typeIs (by decide) ?_)
  refine wpAny_bind (wpAny_callSpecial?_slot (name := Str.ofString "__getitem__") ht.typeIs PyProof.Rows.slot_tuple_getitem
    (wpAny_call_entry PyProof.Rows.slot_tuple_getitem ht.typeIs entry_tuple_getitem ?_ (args_tuple_getitem _ _)))
  show wpAny _ _ (Builtin.Tuple.tupleItemsOf (.ref t) >>= _) _ _ s
  refine wpAny_bind (tupleItemsOf_ ht ?_)
  refine wpAny_bind (wpAny_typeOf hTs ?_)
  rw [if_pos (by decide)]
  have hn : ((its.toArray.size : Nat) : Int) = (its.length : Int) := by rw [List.size_toArray]
  rw [hn]
  refine wpAny_bind (sliceApplied_rev hs pl pu ps ?_)
  have hno : ¬ ((((its.length : Int) - 1) == 0 && (-1 : Int) == 1 && its.length == its.toArray.size) = true) := by
    intro q
    rw [Bool.and_eq_true, Bool.and_eq_true] at q
    exact absurd q.1.2 (by decide)
  show wpAny _ _ (if (((its.length : Int) - 1) == 0 && (-1 : Int) == 1 && its.length == its.toArray.size) = true then _ else _) _ _ s
  rw [if_neg hno, pick_rev]
  first
    | exact wpAny_bind (m := Builtin.Tuple.tupleExact _) (wpAny_newObj_type (wpAny_pure ⟨_, rfl, wpAny_pure h⟩) htake)
    | exact wpAny_bind (m := Builtin.Tuple.tupleExact _) (wpAny_newObj_type (wpAny_bind (wpAny_pure (wpAny_pure ⟨_, rfl, wpAny_pure h⟩))) htake)
    | exact wpAny_bind (wpAny_bind (m := Builtin.Tuple.tupleExact _) (wpAny_newObj_type (wpAny_pure (wpAny_pure ⟨_, rfl, wpAny_pure h⟩)) htake))
    | exact wpAny_bind (wpAny_bind (m := Builtin.Tuple.tupleExact _) (wpAny_newObj_type (wpAny_pure ⟨_, rfl, wpAny_pure h⟩) htake))
end
section
variable {X : Cx}
def tRevT (te : TE) : TE := fun σ H Q => te σ H fun x H1 => ∃ a xs, x = .ref a ∧ H1 a = some (.tup xs) ∧ ∀ p, H1 p = none → Q (.ref p) (upd H1 p (.tup xs.reverse))
theorem pe_revT {e : Expr} {te : TE} {k : Nat} {p1 p2 p3 pos : Pos} (he : PE X e te) : PE X (.Subscript e (.Slice none none (some (.UnaryOp .USub (.Constant (.int 1) k p1) p2)) p3) pos) (tRevT te) := by
  refine ⟨fun pins s σ H Q I h => ?_⟩
  refine Subscript_ (thn (he.run pins s σ H _ I h) fun v s1 ⟨x, H1, I1, r1, q1⟩ => ?_)
  obtain ⟨a, xs, ex, hx, q⟩ := q1
  subst ex
  cases r1
  have hst : PO X (some (.UnaryOp .USub (.Constant (.int 1) k p1) p2)) (tPart (tUn (rU fun i => .int (-i)) (tC (.int 1)))) := po_some (pe_un un_neg pe_int)
  refine wpAny_Slice (thn (po_none.run pins s1 σ H1 (fun o H2 => o = none ∧ H2 = H1) I1 ⟨rfl, rfl⟩) fun vl s2 ⟨l, H2, I2, pl, el, e2⟩ => ?_)
  subst el e2
  refine thn (po_none.run pins s2 σ H2 (fun o H3 => o = none ∧ H3 = H2) I2 ⟨rfl, rfl⟩) fun vu s3 ⟨u, H3, I3, pu, eu, e3⟩ => ?_
  subst eu e3
  refine thn (hst.run pins s3 σ H3 (fun o H4 => o = some (-1) ∧ H4 = H3) I3 ⟨1, rfl, -1, rfl, rfl, rfl⟩) fun vs s4 ⟨o, H4, I4, ps, eo, e4⟩ => ?_
  subst eo e4
  have I5 : Inv X pins σ H4 { s4 with heap := s4.heap.push { cls := .type "slice", data := .fields #[vl, vu, vs] } } := I4.kept (t' := s4.toks) fun b ob q => Heap.get?_push_of_some _ q
  obtain ⟨its, r, ht, hz⟩ := I5.tuple (SqT.of hx)
  have hlen := r.length
  show wpAny (model X.prog X.w) X.A (subscriptTail e (.Slice none none (some (.UnaryOp .USub (.Constant (.int 1) k p1) p2)) p3) (.ref a) (.ref s4.heap.objs.size)) (EP X pins σ Q) X.xe { s4 with heap := s4.heap.push { cls := .type "slice", data := .fields #[vl, vu, vs] } }
  refine tail_any (ops := [.ref a, .ref s4.heap.objs.size]) ht.typeIs (PyProof.Rows.slot_tuple_getitem.lookup) ?_ (by with_unfolding_all rfl)
  refine getItem_tuple_rev ht (Heap.IsSliceOf.new _ vl vu vs) pl pu ps ?_ (by rw [← hlen]; exact hz)
  refine ⟨.ref _, _, I5.laid (t' := s4.toks) (o := .tup xs.reverse) (fun b ob q => Heap.get?_push_of_some _ q) (Nat.le_refl _) ?_, rfl, q _ (I5.hok.fresh (Nat.le_refl _))⟩
  exact ⟨by rw [List.length_reverse]; exact hz, its.reverse, r.reverse, IsTup.new _ _⟩
end
end G
/-! Data in the heap: numbers, rows, lists of rows; what is kept. More rules over rows. -/
namespace G
open PySem PySem.Spec PyProof.Rows L2

/-! ### data -/
def nv (n : Nat) : V := .int (n : Nat)
theorem nv_inj {a b : Nat} (h : nv a = nv b) : a = b := by
  unfold nv at h
  injection h with h
  omega
theorem nvs_inj : ∀ {a b : List Nat}, a.map nv = b.map nv → a = b
  | [], [], _ => rfl
  | [], _ :: _, h => by simp at h
  | _ :: _, [], h => by simp at h
  | x :: xs, y :: ys, h => by
    rw [List.map_cons, List.map_cons, List.cons.injEq] at h
    rw [nv_inj h.1, nvs_inj h.2]
/-- a row as ints -/
def zs (r : List Nat) : List Int := r.map fun n : Nat => (n : Int)
theorem zs_nv (r : List Nat) : (zs r).map V.int = r.map nv := by
  unfold zs
  rw [List.map_map] <;> rfl
theorem zs_len (r : List Nat) : (zs r).length = r.length := by unfold zs; rw [List.length_map]
theorem zs_get {r : List Nat} {i : Nat} {x : Nat} (h : r[i]? = some x) : (zs r)[i]? = some (x : Int) := by
  unfold zs
  rw [List.getElem?_map, h] <;> rfl
theorem nv_get {r : List Nat} {i : Nat} {x : Nat} (h : r[i]? = some x) : (r.map nv)[i]? = some (nv x) := by
  rw [List.getElem?_map, h] <;> rfl
/-- v is a tuple of these numbers -/
def IT (H : Hp) (v : V) (r : List Nat) : Prop := ∃ a, v = .ref a ∧ H a = some (.tup (r.map nv))
/-- .. however it is known -/
def IR (H : Hp) (v : V) (r : List Nat) : Prop := ∃ a, v = .ref a ∧ Rd H a (.tup (r.map nv))
theorem IT.r {H : Hp} {v : V} {r : List Nat} (h : IT H v r) : IR H v r := let ⟨a, e, q⟩ := h; ⟨a, e, .inl q⟩
abbrev Rws (H : Hp) : List V → List (List Nat) → Prop := Paired (IT H)
/-- an object of the heap that is a tuple -/
def TupO (o : HO) : Prop := (∃ xs, o = .tup xs) ∨ ∃ ob xs, o = .frz ob (.tup xs)
/-- the tuples stay -/
def Tx (H H' : Hp) : Prop := ∀ b o, TupO o → H b = some o → H' b = some o
theorem Tx.refl (H : Hp) : Tx H H := fun _ _ _ h => h
theorem Tx.trans {H H1 H2 : Hp} (a : Tx H H1) (b : Tx H1 H2) : Tx H H2 := fun c o t h => b c o t (a c o t h)
theorem Tx.t {H H' : Hp} (x : Tx H H') {b : Addr} {xs : List V} (h : H b = some (.tup xs)) : H' b = some (.tup xs) := x b _ (.inl ⟨_, rfl⟩) h
theorem Tx.f {H H' : Hp} (x : Tx H H') {b : Addr} {ob : Obj} {xs : List V} (h : H b = some (.frz ob (.tup xs))) : H' b = some (.frz ob (.tup xs)) := x b _ (.inr ⟨_, _, rfl⟩) h
theorem Tx.r {H H' : Hp} (x : Tx H H') {b : Addr} {xs : List V} (h : Rd H b (.tup xs)) : Rd H' b (.tup xs) := by
  rcases h with h | ⟨o, h⟩
  · exact .inl (x.t h)
  · exact .inr ⟨o, x.f h⟩
theorem same_tx {H H' : Hp} (s : Same H H') : Tx H H' := fun b o _ h => s b _ h
theorem rd_same {H H' : Hp} {b : Addr} {xs : List V} (s : Same H H') (h : Rd H b (.tup xs)) : Rd H' b (.tup xs) := (same_tx s).r h
theorem same_new {H : Hp} {p : Addr} {o : HO} (h : H p = none) : Same H (upd H p o) := fun b x e => by
  rw [upd_ne (ne_of_none e h)]
  exact e
/-- an object that is no tuple was written -/
theorem tx_upd {H : Hp} {p : Addr} {o u : HO} (h : H p = some u) (n : ¬ TupO u) : Tx H (upd H p o) := fun b x t e => by
  by_cases q : b = p
  · subst q
    rw [h] at e
    exact absurd ((Option.some.inj e) ▸ t) n
  · rw [upd_ne q]
    exact e
theorem tx_lst {H : Hp} {p : Addr} {o : HO} {ys : List V} (h : H p = some (.lst ys)) : Tx H (upd H p o) := tx_upd h fun | .inl ⟨_, z⟩ => nomatch z | .inr ⟨_, _, z⟩ => nomatch z
theorem tx_dT {H : Hp} {p : Addr} {o : HO} {ys : List (List Key × V)} (h : H p = some (.dT ys)) : Tx H (upd H p o) := tx_upd h fun | .inl ⟨_, z⟩ => nomatch z | .inr ⟨_, _, z⟩ => nomatch z
theorem tx_dK {H : Hp} {p : Addr} {o : HO} {ys : List (Key × V)} (h : H p = some (.dK ys)) : Tx H (upd H p o) := tx_upd h fun | .inl ⟨_, z⟩ => nomatch z | .inr ⟨_, _, z⟩ => nomatch z
theorem tx_ins {H : Hp} {p C dx : Addr} {o : HO} {fs : List (Str × V)} (h : H p = some (.ins C dx fs)) : Tx H (upd H p o) := tx_upd h fun | .inl ⟨_, z⟩ => nomatch z | .inr ⟨_, _, z⟩ => nomatch z
theorem tx_new {H : Hp} {p : Addr} {o : HO} (h : H p = none) : Tx H (upd H p o) := same_tx (same_new h)
/-- all but what stands at l stays -/
def Kp (l : Addr) (H H' : Hp) : Prop := ∀ b o, b ≠ l → H b = some o → H' b = some o
theorem Kp.refl (l : Addr) (H : Hp) : Kp l H H := fun _ _ _ h => h
theorem Kp.trans {l : Addr} {H H1 H2 : Hp} (a : Kp l H H1) (b : Kp l H1 H2) : Kp l H H2 := fun c o n h => b c o n (a c o n h)
theorem same_kp {l : Addr} {H H' : Hp} (s : Same H H') : Kp l H H' := fun b o _ h => s b o h
theorem kp_upd {l : Addr} {H : Hp} {o : HO} : Kp l H (upd H l o) := fun b x n h => by
  rw [upd_ne n]
  exact h
theorem kp_new {l p : Addr} {H : Hp} {o : HO} (h : H p = none) : Kp l H (upd H p o) := same_kp (same_new h)
/-- a list is written, what a later heap keeps of an earlier one that had no such list -/
theorem same_upd {H0 H : Hp} {l : Addr} {o : HO} (s : Same H0 H) (n : H0 l = none) : Same H0 (upd H l o) := fun b x h => by
  rw [upd_ne (ne_of_none h n)]
  exact s b x h
theorem same_kpT {H0 H H' : Hp} {l : Addr} (s : Same H0 H) (k : Kp l H H') (n : H0 l = none) : Same H0 H' := fun b x h => k b x (ne_of_none h n) (s b x h)
theorem IT.tx {H H' : Hp} {v : V} {r : List Nat} (h : IT H v r) (t : Tx H H') : IT H' v r := let ⟨a, e, q⟩ := h; ⟨a, e, t.t q⟩
theorem IR.tx {H H' : Hp} {v : V} {r : List Nat} (h : IR H v r) (t : Tx H H') : IR H' v r := let ⟨a, e, q⟩ := h; ⟨a, e, t.r q⟩
theorem paired_imp {α β : Type} {R S : α → β → Prop} (h : ∀ a b, R a b → S a b) : ∀ {xs : List α} {ys : List β}, Paired R xs ys → Paired S xs ys
  | _, _, .nil => .nil
  | _, _, .cons r t => .cons (h _ _ r) (paired_imp h t)
theorem Rws.tx {H H' : Hp} {xs : List V} {rs : List (List Nat)} (h : Rws H xs rs) (t : Tx H H') : Rws H' xs rs := paired_imp (fun _ _ q => q.tx t) h
theorem paired_len {α β : Type} {R : α → β → Prop} : ∀ {xs : List α} {ys : List β}, Paired R xs ys → xs.length = ys.length
  | _, _, .nil => rfl
  | _, _, .cons _ t => by rw [List.length_cons, List.length_cons, paired_len t]
theorem paired_get {α β : Type} {R : α → β → Prop} : ∀ {xs : List α} {ys : List β} {i : Nat} {x : α}, Paired R xs ys → xs[i]? = some x → ∃ y, ys[i]? = some y ∧ R x y
  | _, _, i, _, .nil, h => by simp at h
  | _, _, 0, _, .cons r _, h => ⟨_, rfl, by rw [← Option.some.inj h]; exact r⟩
  | _, _, i + 1, _, .cons _ t, h => paired_get (i := i) t (by simpa using h)
theorem paired_getR {α β : Type} {R : α → β → Prop} : ∀ {xs : List α} {ys : List β} {i : Nat} {y : β}, Paired R xs ys → ys[i]? = some y → ∃ x, xs[i]? = some x ∧ R x y
  | _, _, i, _, .nil, h => by simp at h
  | _, _, 0, _, .cons r _, h => ⟨_, rfl, by rw [← Option.some.inj h]; exact r⟩
  | _, _, i + 1, _, .cons _ t, h => paired_getR (i := i) t (by simpa using h)
theorem paired_snoc {α β : Type} {R : α → β → Prop} {x : α} {y : β} (h : R x y) : ∀ {xs : List α} {ys : List β}, Paired R xs ys → Paired R (xs ++ [x]) (ys ++ [y])
  | _, _, .nil => .cons h .nil
  | _, _, .cons r t => .cons r (paired_snoc h t)
theorem paired_app {α β : Type} {R : α → β → Prop} : ∀ {xs xs' : List α} {ys ys' : List β}, Paired R xs ys → Paired R xs' ys' → Paired R (xs ++ xs') (ys ++ ys')
  | _, _, _, _, .nil, h => h
  | _, _, _, _, .cons r t, h => .cons r (paired_app t h)
theorem paired_perm {α β : Type} {R : α → β → Prop} {xs ys : List α} (h : xs.Perm ys) : ∀ {bs : List β}, Paired R ys bs → ∃ cs, Paired R xs cs ∧ cs.Perm bs := by
  induction h with
  | nil => intro bs h; exact ⟨bs, h, .refl _⟩
  | cons x _ ih =>
    intro bs h
    cases h with
    | cons r t =>
      obtain ⟨cs, h1, h2⟩ := ih t
      exact ⟨_ :: cs, .cons r h1, h2.cons _⟩
  | swap x y l =>
    intro bs h
    cases h with
    | cons r t =>
      cases t with
      | cons r' t' => exact ⟨_, .cons r' (.cons r t'), .swap _ _ _⟩
  | trans _ _ ih1 ih2 =>
    intro bs h
    obtain ⟨cs, h1, h2⟩ := ih2 h
    obtain ⟨ds, h3, h4⟩ := ih1 h1
    exact ⟨ds, h3, h4.trans h2⟩

/-! ### the order of rows -/
/-- all entries below b -/
def Lt (b : Nat) (r : List Nat) : Prop := ∀ x ∈ r, x < b
theorem Lt.bd {r : List Nat} {b : Nat} (h : Lt b r) (hb : b ≤ 64) : TS.Bd 64 (zs r) := fun m hm => by
  obtain ⟨x, hx, rfl⟩ := List.mem_map.mp hm
  have := h x hx
  exact ⟨by omega, by omega⟩
theorem code_bd {b : Int} (hb : 0 < b) : ∀ {ns : List Int}, TS.Bd b ns → 0 ≤ TS.code b ns ∧ TS.code b ns < b ^ ns.length
  | [], _ => by
    show (0 : Int) ≤ 0 ∧ (0 : Int) < b ^ 0
    rw [Int.pow_zero]
    omega
  | d :: r, h => by
    obtain ⟨h1, h2⟩ := code_bd hb h.tail
    obtain ⟨h3, h4⟩ := h.head
    have hp : 0 ≤ b ^ r.length := Int.le_trans h1 (Int.le_of_lt h2)
    show 0 ≤ d * b ^ r.length + TS.code b r ∧ d * b ^ r.length + TS.code b r < b ^ (r.length + 1)
    rw [Int.pow_succ]
    have e1 : 0 ≤ d * b ^ r.length := Int.mul_nonneg h3 hp
    have e2 : (d + 1) * b ^ r.length ≤ b * b ^ r.length := Int.mul_le_mul_of_nonneg_right (by omega) hp
    rw [Int.add_mul, Int.one_mul] at e2
    rw [Int.mul_comm (b ^ r.length) b]
    omega
/-- codes ascend strictly: the rows do -/
theorem lex_of_code : ∀ {ns ms : List Int}, TS.Bd 64 ns → TS.Bd 64 ms → ns.length = ms.length → TS.code 64 ns ≤ TS.code 64 ms → ns ≠ ms → HT.lexLt ns ms = true
  | [], [], _, _, _, _, ne => absurd rfl ne
  | [], _ :: _, _, _, h, _, _ => by simp at h
  | _ :: _, [], _, _, h, _, _ => by simp at h
  | x :: xs, y :: ys, hx, hy, hl, hc, ne => by
    have hl' : xs.length = ys.length := by simpa using hl
    rw [HT.lexLt_cons]
    by_cases e : x = y
    · subst e
      rw [if_pos rfl]
      refine lex_of_code hx.tail hy.tail hl' ?_ fun z => ne (by rw [z])
      have hc' : x * 64 ^ xs.length + TS.code 64 xs ≤ x * 64 ^ ys.length + TS.code 64 ys := hc
      rw [hl'] at hc'
      omega
    · rw [if_neg e]
      have hc' : x * 64 ^ xs.length + TS.code 64 xs ≤ y * 64 ^ ys.length + TS.code 64 ys := hc
      rw [hl'] at hc'
      have b1 := code_bd (by omega : (0 : Int) < 64) hx.tail
      have b2 := code_bd (by omega : (0 : Int) < 64) hy.tail
      rw [hl'] at b1
      have hlt : x < y := by
        refine Int.lt_of_not_ge fun hge => ?_
        have h1 : y + 1 ≤ x := by omega
        have h2 : (y + 1) * 64 ^ ys.length ≤ x * 64 ^ ys.length := Int.mul_le_mul_of_nonneg_right h1 (by omega)
        rw [Int.add_mul, Int.one_mul] at h2
        omega
      exact decide_eq_true hlt
/-- the list of rows ascends -/
def Asc (rs : List (List Nat)) : Prop := rs.Pairwise fun a b => HT.lexLt (zs a) (zs b) = true
theorem zs_inj {a b : List Nat} (h : zs a = zs b) : a = b := by
  have : (zs a).map V.int = (zs b).map V.int := by rw [h]
  rw [zs_nv, zs_nv] at this
  exact nvs_inj this
theorem asc_of {d b : Nat} {rs : List (List Nat)} (hb : b ≤ 64) (hd : ∀ r ∈ rs, r.length = d ∧ Lt b r) (nd : rs.Nodup) (h : rs.Pairwise fun a b => TS.code 64 (zs a) ≤ TS.code 64 (zs b)) : Asc rs := by
  unfold Asc
  refine List.Pairwise.imp_of_mem (R := fun a b => TS.code 64 (zs a) ≤ TS.code 64 (zs b) ∧ a ≠ b) (fun {x y} hx hy h => ?_) (h.and nd)
  exact lex_of_code ((hd x hx).2.bd hb) ((hd y hy).2.bd hb) (by rw [zs_len, zs_len, (hd x hx).1, (hd y hy).1]) h.1 fun z => h.2 (zs_inj z)

/-! ### sorted(rows) -/
section
variable {X : Cx}
theorem IT.tupI {K : PySem.W.Frag} {H : Hp} {v : V} {r : List Nat} (h : IT H v r) : TupI K H v (zs r) := by
  obtain ⟨a, e, q⟩ := h
  refine ⟨a, e, SqT.of ?_⟩
  rw [zs_nv]
  exact q
/-- sorted(xs), xs a list of fewer than 64 different rows of d numbers -/
def rSortR (d : Nat) (vs : List V) (H : Hp) (Q : VK) : Prop := ∃ (a : Addr) (xs : List V) (rs : List (List Nat)), vs = [.ref a] ∧ H a = some (.lst xs) ∧ Rws H xs rs ∧ rs.length < 64 ∧ rs.Nodup ∧ (∀ r ∈ rs, r.length = d ∧ Lt 64 r) ∧
  ∀ (ys : List V) (rs' : List (List Nat)) (p : Addr), rs'.Perm rs → Asc rs' → Rws H ys rs' → H p = none → Q (.ref p) (upd H p (.lst ys))
theorem cr_sortR {d : Nat} (hd : 1 ≤ d) : CallR X (.builtin "sorted") (rSortR d) := by
  intro pins s σ H vs us Q I r h
  obtain ⟨a, xs, rs, e, hs, hr, h64, nd, hx, q⟩ := h
  have mem : ∀ {zs' : List V} {ts : List (List Nat)}, Rws H zs' ts → ∀ x ∈ zs', ∃ r ∈ ts, IT H x r := fun {zs' ts} hp x hm => by
    obtain ⟨i, hi⟩ := List.mem_iff_getElem?.mp hm
    obtain ⟨y, hy, hxy⟩ := paired_get hp hi
    exact ⟨y, List.mem_of_getElem? hy, hxy⟩
  refine cr_sortT (d := d) (B := 64) hd pins s σ H vs us Q I r ⟨a, xs, e, SqL.of hs, by rw [paired_len hr]; exact h64, fun x m => ?_, fun ys p pm pw np => ?_⟩
  · obtain ⟨r, hm, hi⟩ := mem hr x m
    exact ⟨zs r, hi.tupI, by rw [zs_len]; exact (hx r hm).1, (hx r hm).2.bd (Nat.le_refl _)⟩
  · obtain ⟨rs', h1, h2⟩ := paired_perm pm hr
    refine q ys rs' p h2 (asc_of (d := d) (b := 64) (Nat.le_refl _) (fun r hr' => hx r (h2.mem_iff.mp hr')) (h2.nodup_iff.mpr nd) ?_) h1 np
    -- the order of the values is the rows' order
    have : ∀ {zs' : List V} {ts : List (List Nat)}, Rws H zs' ts → zs'.Pairwise (fun x y => ∀ n m, TupI X.K H x n → TupI X.K H y m → TS.code 64 n ≤ TS.code 64 m) → ts.Pairwise fun a b => TS.code 64 (zs a) ≤ TS.code 64 (zs b) := by
      intro zs' ts hp
      induction hp with
      | nil => intro _; exact .nil
      | @cons x y l l' hr' ht ih =>
        intro hpw
        obtain ⟨h3, h4⟩ := List.pairwise_cons.mp hpw
        refine List.pairwise_cons.mpr ⟨fun z hz => ?_, ih h4⟩
        obtain ⟨i, hi⟩ := List.mem_iff_getElem?.mp hz
        obtain ⟨w, hw, hwz⟩ := paired_getR ht hi
        exact h3 w (List.mem_of_getElem? hw) _ _ hr'.tupI hwz.tupI
    exact this h1 pw
end
end G
/-! Rules over rows: in, sorted of a dict of rows, of a tuple; lists of ints compared. -/
namespace G
open PySem PySem.Spec PyProof.Rows L2

/-! ### rows as data -/
def rowD (r : List Nat) : PyData := .tuple ((zs r).map .int)
theorem reads_row {h : Heap} {u : Value} {a : Addr} {its : List Value} {r : List Nat} (e : u = .ref a) (ht : IsTup h a its.toArray) (rv : IntsAre its (zs r)) : Reads h u (rowD r) [] := by
  subst e
  obtain ⟨o, ho, hc, n, hd⟩ := ht
  exact Reads.tuple ho hc hd (readsAll_ints rv)
theorem eqvAll_ints : ∀ (a b : List Int), PyData.eqvAll (a.map .int) (b.map .int) = decide (a = b)
  | [], [] => rfl
  | [], _ :: _ => rfl
  | _ :: _, [] => rfl
  | x :: xs, y :: ys => by
    rw [List.map_cons, List.map_cons]
    show (PyData.eqv (.int x) (.int y) && PyData.eqvAll (xs.map .int) (ys.map .int)) = _
    rw [eqvAll_ints xs ys]
    show ((x == y) && decide (xs = ys)) = _
    rw [Bool.beq_eq_decide_eq]
    by_cases h1 : x = y <;> by_cases h2 : xs = ys <;> simp [h1, h2]
theorem eqv_rows (a b : List Nat) : PyData.eqv (rowD a) (rowD b) = decide (a = b) := by
  show PyData.eqvAll ((zs a).map .int) ((zs b).map .int) = _
  rw [eqvAll_ints]
  by_cases h : a = b
  · subst h; simp
  · have : zs a ≠ zs b := fun z => h (zs_inj z)
    simp [h, this]
theorem canLayAll_ints : ∀ ns : List Int, PyData.canLayAll0 (ns.map .int) = true
  | [] => rfl
  | n :: ns => by
    have ih := canLayAll_ints ns
    rw [List.map_cons]
    simp [PyData.canLayAll0, PyData.canLay0, ih]
theorem canLay_row (r : List Nat) : (rowD r).canLay0 = true := by
  have := canLayAll_ints (zs r)
  simpa [rowD, PyData.canLay0] using this
theorem depth_row (r : List Nat) : (rowD r).depth = 1 := by
  have := depthAll_ints (zs r)
  simp [rowD, PyData.depth, this]
theorem canLayAll_rows : ∀ rs : List (List Nat), PyData.canLayAll0 (rs.map rowD) = true
  | [] => rfl
  | r :: rs => by
    have ih := canLayAll_rows rs
    rw [List.map_cons]
    simp [PyData.canLayAll0, canLay_row, ih]
section
variable {X : Cx} {pins : List (Addr × Obj)} {σ : L2.St} {H : Hp} {s : Shared}
theorem it_reads (I : Inv X pins σ H s) {v : V} {u : Value} {r : List Nat} (h : IT H v r) (rv : RelV v u) : Reads s.heap u (rowD r) [] := by
  obtain ⟨a, rfl, q⟩ := h
  cases rv
  obtain ⟨its, rv, ht, _⟩ := I.tuple (.inl (.inl q))
  rw [← zs_nv] at rv
  exact reads_row rfl ht rv.ints
theorem rws_reads (I : Inv X pins σ H s) : ∀ {xs : List V} {us : List Value} {rs : List (List Nat)}, Rws H xs rs → Vals xs us → ReadsAll s.heap us (rs.map rowD) []
  | _, _, _, .nil, .nil => .nil
  | _, _, _, .cons h t, .cons r rt => ReadsAll.cons (as := []) (bs := []) (it_reads I h r) (rws_reads I t rt)
end
section
variable {X : Cx}
/-- x in xs, x not in xs: a row among rows -/
def rInR (neg : Bool) : R2 := fun x y H Q => ∃ k a xs r rs, y = .ref a ∧ IT H x r ∧ Sq k H a xs ∧ Rws H xs rs ∧ Q (.bl (if neg then !decide (r ∈ rs) else decide (r ∈ rs))) H
theorem any_rows (r : List Nat) : ∀ rs : List (List Nat), ((rs.map rowD).any fun z => PyData.eqv z (rowD r)) = decide (r ∈ rs)
  | [] => rfl
  | a :: rs => by
    rw [List.map_cons, List.any_cons, any_rows r rs, eqv_rows]
    by_cases h1 : a = r
    · simp [h1]
    · have : ¬ r = a := fun e => h1 e.symm
      simp [h1, this]
theorem op_notInR (hu : X.A.units + 64 < cLine) : OpR X (compareOp .NotIn) (rInR true) := by
  intro pins s σ H x y v u Q I rx ry h
  obtain ⟨k, a, xs, r, rs, rfl, hx, hs, hr, q⟩ := h
  cases ry
  have r2 := it_reads I hx rx
  have hq : EP X pins σ Q (.bool (!((rs.map rowD).any fun z => PyData.eqv z (rowD r)))) s := by
    rw [any_rows]
    exact ⟨.bl _, H, I, rfl, q⟩
  have hd : X.A.units + 1 + min (PyData.depthAll (rs.map rowD)) (rowD r).depth < cLine := by
    rw [depth_row]
    omega
  cases k with
  | true =>
    obtain ⟨its, rv, ⟨o, n, ho, hc, _, hdd⟩, _⟩ := I.list (SqL.of hs)
    exact SeqAt.notIn_list_reads (.list ho hc hdd (rws_reads I hr rv)) r2 (canLayAll_rows rs) (canLay_row r) hd hq
  | false =>
    obtain ⟨its, rv, ⟨o, ho, hc, n, hdd⟩, _⟩ := I.tuple (.inl hs)
    exact SeqAt.notIn_tuple_reads (.tuple ho hc hdd (rws_reads I hr rv)) r2 (canLayAll_rows rs) (canLay_row r) hd hq

/-! ### two lists of ints compared -/
theorem shaped_ints {ns : List Int} : SeqAt.shaped (.list (ns.map .int)) = true := by
  have h1 := canLayAll_ints ns
  have h2 := depthAll_ints ns
  simp [SeqAt.shaped, PyData.canLay0, PyData.depth, h1, h2]
theorem dpAll_ints {K : PySem.W.Frag} {H : Hp} : ∀ ns : List Int, DpAll K H (ns.map V.int) (ns.map .int)
  | [] => .nil
  | n :: ns => .cons (.int n) (dpAll_ints ns)
def rNeIL : R2 := fun x y H Q => ∃ (a b : Addr) (ns ms : List Int), x = .ref a ∧ y = .ref b ∧ H a = some (.lst (ns.map V.int)) ∧ H b = some (.lst (ms.map V.int)) ∧ Q (.bl (!decide (ns = ms))) H
theorem op_neIL (hu : X.A.units + 64 < cLine) : OpR X (compareOp .NotEq) rNeIL := by
  intro pins s σ H x y v u Q I rx ry h
  obtain ⟨a, b, ns, ms, rfl, rfl, hx, hy, q⟩ := h
  refine op_neD hu pins s σ H _ _ v u Q I rx ry ⟨_, _, .lst (SqL.of hx) (dpAll_ints ns), .lst (SqL.of hy) (dpAll_ints ms), shaped_ints, shaped_ints, ?_⟩
  have : PyData.eqv (.list (ns.map .int)) (.list (ms.map .int)) = decide (ns = ms) := eqvAll_ints ns ms
  rw [this]
  exact q

/-! ### sorted(d), d a dict of fewer than 64 rows -/
def rKey (r : List Nat) : List Key := r.map fun n : Nat => Sum.inl (n : Int)
theorem rKey_nv (r : List Nat) : (rKey r).map kV = r.map nv := by
  unfold rKey
  rw [List.map_map] <;> rfl
theorem rKey_inj {a b : List Nat} (h : rKey a = rKey b) : a = b := by
  have : (rKey a).map kV = (rKey b).map kV := by rw [h]
  rw [rKey_nv, rKey_nv] at this
  exact nvs_inj this
def rSortDR (d : Nat) (vs : List V) (H : Hp) (Q : VK) : Prop := ∃ (a : Addr) (kvs : List (List Key × V)) (rs : List (List Nat)), vs = [.ref a] ∧ H a = some (.dT kvs) ∧ kvs.map (·.1) = rs.map rKey ∧ rs.length < 64 ∧ rs.Nodup ∧ (∀ r ∈ rs, r.length = d ∧ Lt 64 r) ∧
  ∀ (ys : List V) (rs' : List (List Nat)) (p : Addr), rs'.Perm rs → Asc rs' → Rws H ys rs' → H p = none → Q (.ref p) (upd H p (.lst ys))
theorem keys_rws {H : Hp} : ∀ {kvs : List (List Key × V)} {bs : List Addr} {rs : List (List Nat)}, IsKeys H kvs bs → kvs.map (·.1) = rs.map rKey → Rws H (bs.map V.ref) rs
  | [], [], [], .nil, _ => .nil
  | [], [], _ :: _, .nil, e => by simp at e
  | p :: kvs, b :: bs, [], _, e => by simp at e
  | p :: kvs, b :: bs, r :: rs, .cons h t, e => by
    rw [List.map_cons, List.map_cons, List.cons.injEq] at e
    refine .cons ⟨b, rfl, ?_⟩ (keys_rws t e.2)
    rw [h, e.1, rKey_nv]
theorem cr_sortDR {d : Nat} (hd : 1 ≤ d) (hc : X.calm = true) : CallR X (.builtin "sorted") (rSortDR d) := by
  intro pins s σ H vs us Q I r h
  obtain ⟨a, kvs, rs, rfl, hD, hk, h64, nd, hx, q⟩ := h
  obtain ⟨u, rfl, rx⟩ := r.one
  cases rx
  obtain ⟨z, hs, ks, pr, o, es, ep, ho, hex, hdt, he, hn⟩ := (show ObjOk X.prog X.w H s.heap a (.dT kvs) from I.hok a _ hD)
  have l1 : es.size = ks.length := size_of_entries he
  have l2 : kvs.length = ks.length := Paired.length pr
  have l3 : kvs.length = rs.length := by
    have e := congrArg List.length hk
    rw [List.length_map, List.length_map] at e
    exact e
  refine Calls.call_function_entry PyProof.Rows.kind_sorted PyProof.Rows.plain_sorted PyProof.Rows.entry_sorted (PyProof.Rows.args_sorted1 _) ?_
  unfold Builtin.«sorted»
  refine wpAny_bind (m := checkCount "sorted" 1 1 _) (wpAny_pure ?_)
  refine wpAny_bind (PySem.W.kdu_collect (A := X.A.in1) (kdl_raw hs hex hdt) (I.ok.hd hc) ho (by rw [sizeLine_eq]; omega) fun h' tk acc kp it => ?_)
  have ea : acc.toList = ks.map fun x => Value.ref x.2.1 := by
    have hl : acc.toList.length = ks.length := by rw [Array.length_toList, it.1]; exact l1
    apply List.ext_getElem?
    intro j
    rw [List.getElem?_map]
    cases hj : acc.toList[j]? with
    | none =>
      have h1 := List.getElem?_eq_none_iff.mp hj
      rw [List.getElem?_eq_none (by omega)]
      all_goals rfl
    | some v =>
      obtain ⟨en, hen, hv⟩ := it.2 j v (by rw [← Array.getElem?_toList]; exact hj)
      have qe := entry_at he j
      rw [hen] at qe
      cases hb : ks[j]? with
      | none =>
        rw [hb] at qe
        exact nomatch (show some en = none from qe)
      | some b =>
        rw [hb] at qe
        have e2 : en = entryOfKey (tupleKind (mixKind X.prog X.w)) b := Option.some.inj qe
        rw [hv, e2]
        all_goals rfl
  have eb : acc.toList = (ks.map fun x => x.2.1).map Value.ref := by rw [ea, List.map_map]; all_goals rfl
  generalize hbs : (ks.map fun x => x.2.1) = bs at eb
  have hkeys : IsKeys H kvs bs := by rw [← hbs]; exact isKeys_of pr
  have hrw : Rws H (bs.map V.ref) rs := keys_rws hkeys hk
  have I1 : Inv X pins σ H { s with heap := h', toks := tk } := I.kept kp
  have hbl : bs.length = rs.length := by rw [← hbs, List.length_map]; omega
  rw [eb]
  refine wpAny_bind (wpAny_newList ?_ (by rw [List.length_map, hbl, sizeLine_eq]; omega))
  have hoL : (h'.push (seqObj "list" (bs.map Value.ref).toArray 0)).get? h'.objs.size = some (seqObj "list" (bs.map Value.ref).toArray 0) := Heap.get?_push_size _ rfl
  have keepP : ∀ b o, h'.get? b = some o → (h'.push (seqObj "list" (bs.map Value.ref).toArray 0)).get? b = some o := fun b o e => Heap.get?_push_of_some _ e
  have I2 : Inv X pins σ H { s with heap := h'.push (seqObj "list" (bs.map Value.ref).toArray 0), toks := tk } := I1.kept (t' := tk) keepP
  have tk' : ∀ (j : Nat) (b : Addr) (r : List Nat), bs[j]? = some b → rs[j]? = some r → TS.TupInts (h'.push (seqObj "list" (bs.map Value.ref).toArray 0)) (.ref b) (zs r) := fun j b r e1 e2 => by
    obtain ⟨y, hy, hyr⟩ := paired_get hrw (i := j) (x := V.ref b) (by rw [List.getElem?_map, e1] <;> rfl)
    rw [e2] at hy
    cases hy
    obtain ⟨t, et, ht⟩ := hyr.tupI (K := X.K)
    cases et
    exact tupI_raw I2 ht
  have pr' : ∀ {vs : List Value}, vs.Perm (bs.map Value.ref) → ∃ (bs' : List Addr) (rs' : List (List Nat)), vs = bs'.map Value.ref ∧ rs'.Perm rs ∧ Rws H (bs'.map V.ref) rs' := fun {vs} pm => by
    have p1 : Paired (fun (v : Value) (r : List Nat) => ∃ b, v = .ref b ∧ IT H (.ref b) r) (bs.map Value.ref) rs := by
      have : ∀ {bs : List Addr} {rs : List (List Nat)}, Rws H (bs.map V.ref) rs → Paired (fun (v : Value) (r : List Nat) => ∃ b, v = .ref b ∧ IT H (.ref b) r) (bs.map Value.ref) rs := by
        intro bs
        induction bs with
        | nil => intro rs h; cases h; exact .nil
        | cons b bs ih =>
          intro rs h
          cases h with
          | cons h1 h2 => exact .cons ⟨b, rfl, h1⟩ (ih h2)
      exact this hrw
    obtain ⟨rs', p2, p3⟩ := paired_perm pm p1
    have : ∀ {vs : List Value} {ts : List (List Nat)}, Paired (fun (v : Value) (r : List Nat) => ∃ b, v = .ref b ∧ IT H (.ref b) r) vs ts → ∃ bs' : List Addr, vs = bs'.map Value.ref ∧ Rws H (bs'.map V.ref) ts := by
      intro vs ts h
      induction h with
      | nil => exact ⟨[], rfl, .nil⟩
      | cons h1 _ ih =>
        obtain ⟨b, e, hb⟩ := h1
        obtain ⟨bs', e', hbs'⟩ := ih
        exact ⟨b :: bs', by rw [e, e', List.map_cons], .cons hb hbs'⟩
    obtain ⟨bs', e, hb⟩ := this p2
    exact ⟨bs', rs', e, p3, hb⟩
  have x : TS.TupsOk (h'.push (seqObj "list" (bs.map Value.ref).toArray 0)) d 64 (bs.map Value.ref) := fun v hv => by
    obtain ⟨b, hb, rfl⟩ := List.mem_map.mp hv
    obtain ⟨j, hj⟩ := List.mem_iff_getElem?.mp hb
    have hjl : j < rs.length := by
      have := (List.getElem?_eq_some_iff.mp hj).1
      omega
    have hm := hx _ (List.getElem_mem hjl)
    exact ⟨zs rs[j], tk' j b _ hj (List.getElem?_eq_getElem hjl), by rw [zs_len]; exact hm.1, hm.2.bd (Nat.le_refl _)⟩
  refine wpAny_bind (wpAny_holding (TS.call_sort_tups (s := { s with heap := h'.push (seqObj "list" (bs.map Value.ref).toArray 0), toks := tk }) hoL (by rw [List.length_map]; omega) hd x fun out a1 a2 => ?_))
  obtain ⟨c, hcc⟩ := sortedHeap_at (vs := bs.map Value.ref) (out := out) hoL
  obtain ⟨bs', rs', e1, e2, e3⟩ := pr' a1
  have tupO : ∀ (j : Nat) (b : Addr) (r : List Nat), bs'[j]? = some b → rs'[j]? = some r → TS.intsOf (h'.push (seqObj "list" (bs.map Value.ref).toArray 0)) (.ref b) = zs r := fun j b r f1 f2 => by
    obtain ⟨y, hy, hyr⟩ := paired_get e3 (i := j) (x := V.ref b) (by rw [List.getElem?_map, f1] <;> rfl)
    rw [f2] at hy
    cases hy
    obtain ⟨t, et, ht⟩ := hyr.tupI (K := X.K)
    cases et
    exact (tupI_raw I2 ht).ints
  have pw : rs'.Pairwise fun a b => TS.code 64 (zs a) ≤ TS.code 64 (zs b) := by
    rw [e1] at a2
    have hl : bs'.length = rs'.length := by have := paired_len e3; rwa [List.length_map] at this
    refine List.pairwise_iff_getElem.mpr fun i j hi hj hij => ?_
    have q := List.pairwise_iff_getElem.mp (List.pairwise_map.mp a2) i j (by omega) (by omega) hij
    rw [tupO i _ _ (List.getElem?_eq_getElem (by omega)) (List.getElem?_eq_getElem hi), tupO j _ _ (List.getElem?_eq_getElem (by omega)) (List.getElem?_eq_getElem hj)] at q
    exact q
  have hlen : (bs'.map V.ref).length ≤ sizeLine := by
    have h1 := paired_len e3
    rw [h1, e2.length_eq, sizeLine_eq]
    omega
  refine wpAny_pure ⟨_, rfl, .ref h'.objs.size, upd H h'.objs.size (.lst (bs'.map V.ref)), I1.laid (t' := tk) (fun b u e => ?_) (Nat.le_refl _) ⟨hlen, out.toList, c, by rw [e1]; exact vals_refs bs', by rw [Array.toArray_toList]; exact hcc⟩, rfl,
    q _ rs' _ e2 (asc_of (d := d) (b := 64) (Nat.le_refl _) (fun r hr => hx r (e2.mem_iff.mp hr)) (e2.nodup_iff.mpr nd) pw) e3 (I1.hok.fresh (Nat.le_refl _))⟩
  have hlt := Heap.lt_size e
  show (sortedHeap (h'.push (seqObj "list" (bs.map Value.ref).toArray 0)) h'.objs.size (bs.map Value.ref) out).get? b = some u
  rw [sortedHeap_old (Nat.ne_of_lt hlt) (by rw [size_push']; exact Nat.lt_succ_of_lt hlt)]
  exact Heap.get?_push_of_some _ e
end
end G
/-! sorted of a tuple; comprehensions and loops read step by step; the slots' reading. -/
namespace G
open PySem PySem.Spec PyProof.Rows L2
section
variable {prog : Program} {w : World} {A : Around} {E : Value → Shared → Prop} {s : Shared}
theorem collect_tup {l : Addr} {vs : List Value} {Q : List Value → Shared → Prop} (hl : IsTup s.heap l vs.toArray)
    (h : Q vs { s with heap := (s.heap.push (seqObj "list" #[] 0)).update s.heap.objs.size (Obj.mapSeq (· ++ vs.toArray)) }) (hsz : vs.length ≤ sizeLine := by size_fits) :
    wpAny (model prog w) A (collect (.ref l)) Q E s := by
  obtain ⟨o, ho, hc, n, hd⟩ := id hl
  unfold collect
  refine wpAny_bind (wpAny_runValue (codeAny_builtin entry_proto_collect' ?_))
  show wpAny _ _ (do again (.builtin "list.__iadd__" ⟨[← newList [], .ref l], []⟩)) _ _ s
  refine wpAny_bind (wpAny_newList (wpAny_pure ⟨Code.quiet_builtin _ (by decide +kernel), codeAny_builtin entry_list_iadd' ?_⟩))
  show wpAny _ _ (Builtin.List.listExtendWith (.ref s.heap.objs.size) (.ref l) (.ref s.heap.objs.size)) _ _ { s with heap := s.heap.push (seqObj "list" #[] 0) }
  unfold Builtin.List.listExtendWith
  have ho' : (s.heap.push (seqObj "list" #[] 0)).get? l = some o := Heap.get?_push_of_some _ ho
  refine wpAny_bind (wpAny_typeOf (T := "tuple") ⟨o, ho', hc⟩ ?_)
  have ht : (Value.type "tuple" == Value.type "tuple") = true := by rfl
  rw [if_pos (by rw [ht]; simp)]
  refine wpAny_bind (listItems_at ho' hd ?_)
  refine wpAny_bind (listItems_at (xs := #[]) (n := 0) (Heap.get?_push_size _ rfl) rfl ?_)
  rw [if_neg (by simp)]
  refine wpAny_bind (listUpdate_at (xs := #[]) (n := 0) (Heap.get?_push_size _ rfl) rfl ?_ (Nat.zero_le _) (by show (#[] ++ vs.toArray).size ≤ sizeLine + 1; simp only [Array.size_append, List.size_toArray, List.length_nil]; omega))
  refine wpAny_pure ?_
  show wpAny (model prog w) A (do
      let o ← load s.heap.objs.size
      match o.data with
      | .seq xs _ => pure xs.toList
      | _ => unsupported "internal:collect") Q E { s with heap := (s.heap.push (seqObj "list" #[] 0)).update s.heap.objs.size (Obj.mapSeq (· ++ vs.toArray)) }
  refine wpAny_bind (wpAny_load (get?_update_seq (Heap.get?_push_size _ rfl) _) ?_)
  show wpAny _ _ (pure ((#[] : Array Value) ++ vs.toArray).toList) Q E _
  rw [show ((#[] : Array Value) ++ vs.toArray).toList = vs by simp]
  exact wpAny_pure h
theorem sorted_tupI {l : Addr} {vs : List Value} {ns : List Int} {Q : Value → Shared → Prop} (hl : IsTup s.heap l vs.toArray) (hI : IntsAre vs ns) (h64 : vs.length < 64)
    (h : ∀ (out : Array Value) (ns' : List Int), IntsAre out.toList ns' → ns'.Perm ns → ns'.Pairwise (· ≤ ·) → Q (.ref (s.heap.objs.size + 1)) { s with heap := sortedAll s.heap vs out }) :
    wpAny (model prog w) A (call (.builtin "sorted") [.ref l]) Q E s := by
  refine Calls.call_function_entry kind_sorted plain_sorted entry_sorted (args_sorted1 _) ?_
  unfold Builtin.«sorted»
  refine wpAny_bind (m := checkCount "sorted" 1 1 _) (wpAny_pure ?_)
  refine wpAny_bind (collect_tup hl ?_)
  refine wpAny_bind (wpAny_newList ?_)
  have hsz : ((s.heap.push (seqObj "list" #[] 0)).update s.heap.objs.size (Obj.mapSeq (· ++ vs.toArray))).objs.size = s.heap.objs.size + 1 := by
    rw [Heap.size_update, size_push']
  have hoL : (((s.heap.push (seqObj "list" #[] 0)).update s.heap.objs.size (Obj.mapSeq (· ++ vs.toArray))).push (seqObj "list" vs.toArray 0)).get? (s.heap.objs.size + 1) = some (seqObj "list" vs.toArray 0) := by
    rw [← hsz]; exact Heap.get?_push_size _ rfl
  show wpAny _ _ _ _ _ { s with heap := ((s.heap.push (seqObj "list" #[] 0)).update s.heap.objs.size (Obj.mapSeq (· ++ vs.toArray))).push (seqObj "list" vs.toArray 0) }
  rw [hsz]
  refine wpAny_bind (wpAny_holding (wpAny_call_entry slot_list_sort ⟨_, hoL, rfl⟩ entry_list_sort (list_sort_tree hoL hI h64 fun out ns' a1 a2 a3 => ⟨_, rfl, ?_⟩) (args_list_sort _)))
  exact wpAny_pure ⟨_, rfl, h out ns' a1 a2 a3⟩
end
section
variable {X : Cx}
/-- sorted(t), t a tuple of ints -/
def rSortT (vs : List V) (H : Hp) (Q : VK) : Prop := ∃ (a : Addr) (ns : List Int), vs = [V.ref a] ∧ Rd H a (.tup (ns.map V.int)) ∧ ns.length < 64 ∧
  ∀ (ns' : List Int) (p : Addr), ns'.Perm ns → ns'.Pairwise (· ≤ ·) → H p = none → Q (.ref p) (upd H p (.lst (ns'.map V.int)))
theorem cr_sortTI : CallR X (.builtin "sorted") rSortT := by
  intro pins s σ H vs us Q I r h
  obtain ⟨a, ns, rfl, hs, h64, q⟩ := h
  obtain ⟨its, rv, hl, _⟩ := I.tuple (.inl hs)
  rw [Vals.ref1 r]
  have hi := rv.ints
  refine sorted_tupI hl hi (by rw [hi.length]; exact h64) fun out ns' h1 h2 h3 => ?_
  obtain ⟨ep, he'⟩ := PyProof.Rows.sortedAll_at s.heap its out
  have hlen : (ns'.map V.int).length ≤ sizeLine := by rw [List.length_map, h2.length_eq]; exact small64 h64
  exact ⟨.ref _, upd H (s.heap.objs.size + 1) (.lst (ns'.map V.int)), I.laid (t' := s.toks) (fun _ _ => PyProof.Rows.sortedAll_old) (Nat.le_succ _) ⟨hlen, out.toList, ep, vals_of_ints h1, he'⟩, rfl, q ns' _ h2 h3 (I.hok.fresh (Nat.le_succ _))⟩
end

end G
/-! Comprehensions read by a word over what is made so far; name = {k: v for ..}. -/
namespace G
open PySem PySem.Spec PyProof.Rows L2

/-! ### name = {k: v for ..} -/
section
variable {X : Cx}
theorem sw_trueD {kx vx : Expr} {gs : List Comprehension} {scope : Scope} {pos py : Pos} {y : Str} {l : Nat} {env : Env} (hk : env.scope.kind = .function) (hy : env.scope.names.lookup y = some .local) (hl : (py.line == pos.line) = true)
    (ha : (scope.names.any fun (n, k) => n == y && (k == .local || k == .cell)) = false) : swapsWith (.DictComp kx vx gs scope pos) (some (.Name y py)) l env = pure true := by
  have ky : env.kindOf y = some .local := hy
  have hb : env.blockKind = .function := by unfold Env.blockKind; rw [hk]; rfl
  unfold swapsWith
  simp only [hb, ky, ha, Expr.pos, hl]
  rfl
theorem ps_setDc {i : Nat} {y : Str} {py : Pos} {kx vx tg iter : Expr} {ifs : List Expr} {scope : Scope} {own : List (Str × Nat)} {pos spos : Pos} {wi : TI} {g : TG} {tt : TT} {tk tv : TE} (hc : X.calm = true) (hN : X.N.Nodup) (hy : X.N[i]? = some y) (hyl : X.env.scope.names.lookup y = some .local)
    (hsw : swapsWith (.DictComp kx vx [⟨tg, iter, ifs, 0⟩] scope pos) (some (.Name y py)) spos.line X.env = pure true) (hi : PI X tg iter wi) (ok : BlkOk X.N X.env.scope scope own)
    (hg : ∀ (s : Shared) (H : Hp) (C : Addr) (cl : List (Str × Addr)) (fp : List Addr), PG (X.blk s H scope (compEnvC scope cl C X.env) fp) tg g) (ht : ∀ (s : Shared) (H : Hp) (C : Addr) (cl : List (Str × Addr)) (fp : List Addr), PTs (X.blk s H scope (compEnvC scope cl C X.env) fp) ifs tt)
    (hk : ∀ (s : Shared) (H : Hp) (C : Addr) (cl : List (Str × Addr)) (fp : List Addr), PE (X.blk s H scope (compEnvC scope cl C X.env) fp) kx tk)
    (he : ∀ (s : Shared) (H : Hp) (C : Addr) (cl : List (Str × Addr)) (fp : List Addr), PE (X.blk s H scope (compEnvC scope cl C X.env) fp) vx tv) (hs : ∀ x, foldedSetIterable iter X.env x = pure x := by intro _; rfl) :
    PS X (.Assign [.Name y py] (.DictComp kx vx [⟨tg, iter, ifs, 0⟩] scope pos) spos) (tAsg (tDc wi g tt tk tv (own.map (·.2))) (gName i)) := by
  refine ⟨fun pins s σ H D I h => ?_⟩
  rw [exec_Assign_Name_used _ _ _ _ hsw]
  refine wpAny_bind (wpAny_standAt (wpAny_bind ?_))
  show wpAny _ X.A (do let _ ← comprehension (.DictComp kx vx [⟨tg, iter, ifs, 0⟩] scope pos) scope X.env (firstIterPos [⟨tg, iter, ifs, 0⟩] pos) newDict false (eval iter X.env) (some (assign (.Name y py) X.env))) _ _ s
  have h : tDc wi g tt tk tv (own.map (·.2)) σ H (fun x H1 => gName i x σ H1 D.nx) := h
  refine wpAny_bind (thn (dc_core (Qf := fun _ s' => SP X pins D .next s') hc hN I hi ok hg ht hk he hs h fun L C s' m H' I' q hn f => ?_) fun _ s' hq => wpAny_pure (wpAny_pure hq))
  show wpAny _ _ (assign (.Name y py) X.env (.ref L)) _ _ _
  refine wpAny_assign_Name (store_ok2 (v := V.ref L) I' hN hy (.inl hyl) rfl (fun s2 I2 ⟨a, sb, ha⟩ => ?_) (.inr hyl))
  obtain ⟨f0, f1, f2, f3, f4, f5⟩ := f
  have haC : C ≠ a := by
    rcases ha with z | z
    · rw [z]; exact f1
    · exact fun e => f4 y a z e.symm
  refine ⟨m, hn.sameBut sb haC, fun h3 sb3 => ?_⟩
  exact ⟨_, H', I2.turned (t' := s2.toks) (fun b o hb e => (sb3.2 b hb).trans e) f0 f1 f3 f4 f5, q⟩
end

/-! ### what the turns leave as it was -/
theorem yat_same {xs : List V} {i : Nat} {H H' : Hp} {x : V} (y : YAt xs i H x H') : Same H H' ∧ xs[i]? = some x := ⟨by rw [y.1]; exact Same.refl H, y.2⟩
theorem ypair_same {f g : Nat → Option V} {i : Nat} {H H' : Hp} {v : V} (y : YPair f g i H v H') : Same H H' ∧ ∃ T a b, v = .ref T ∧ H' T = some (.tup [a, b]) ∧ f i = some a ∧ g i = some b := by
  obtain ⟨T, a, b, h1, h2, h3, h4, h5⟩ := y
  subst h3
  exact ⟨same_new h2, T, a, b, h1, upd_same, h4, h5⟩
/-- all that stood stays, but what stands at the addresses of E -/
def KE (E : Addr → Prop) (H H' : Hp) : Prop := ∀ b o, ¬ E b → H b = some o → H' b = some o
/-- a comprehension: R tells the items made so far; they hang on tuples alone; E may be written by the element -/
theorem lc_KE {J : It} {n : Nat} {Gd : Hp → Prop} {Y : Nat → Hp → V → Hp → Prop} (w : Walk J n Gd Y) {g : TG} {tt : TT} {te : TE} {vs : List Nat} {σ : L2.St} {H1 : Hp} {D : Addr} {Qd : Hp → Prop}
    (E : Addr → Prop) (S : Hp → Prop) (R : Nat → List V → Hp → Prop) (hD : H1 D = none) (hE : ¬ E D)
    (hY : ∀ i H x H', Y i H x H' → Same H H')
    (hRt : ∀ i acc H H', Tx H H' → R i acc H → R i acc H') (hRl : ∀ i acc H, R i acc H → acc.length < sizeLine) (hSs : ∀ H H', (∀ b, b ≠ D → H' b = H b) → S H → S H')
    (hG : ∀ H, KE E H1 H → S H → Gd H) (h0 : R 0 [] H1) (hS0 : S H1)
    (hs : ∀ i x H H' acc (Q' : VK) (N : Hp → Prop), i < n → KE E H1 H → S H → H D = some (.lst acc) → R i acc H → Y i H x H' →
      (∀ y H4, KE E H' H4 → Tx H' H4 → S H4 → R (i + 1) (acc ++ [y]) H4 → Q' y H4) → (∀ H3, KE E H' H3 → Tx H' H3 → S H3 → R (i + 1) acc H3 → N H3) →
      g x (wipe σ vs) H' fun σ2 H2 => wipe σ2 vs = wipe σ vs ∧ tt σ2 H2 fun b H3 => if b = true then te σ2 H3 Q' else N H3)
    (hd : ∀ H acc, KE E H1 H → S H → H D = some (.lst acc) → R n acc H → Qd H) :
    ∃ W : Nat → Nat → Hp → Prop, (∃ m, W 0 m (upd H1 D (.lst []))) ∧ ∀ i m H, W i m H →
      (J.stop i H ∧ Qd H) ∨ (J.go i H ∧ ∃ Nx : Hp → Prop, (∀ H', Nx H' → ∃ m', m' < m ∧ W (i + 1) m' H') ∧ ∀ x H', J.yld i H x H' → g x (wipe σ vs) H' fun σ2 H2 => wipe σ2 vs = wipe σ vs ∧ tt σ2 H2 fun b H3 =>
        if b = true then te σ2 H3 fun y H4 => ∃ acc, H4 D = some (.lst acc) ∧ acc.length < sizeLine ∧ Nx (upd H4 D (.lst (acc ++ [y]))) else Nx H3) := by
  refine lc_it w (fun i H => KE E H1 H ∧ S H ∧ ∃ acc, H D = some (.lst acc) ∧ R i acc H) ⟨fun b o _ h => ?_, ?_, [], upd_same, ?_⟩ (fun i H _ p => hG H p.1 p.2.1) (fun i x H H' hi p hY' => ?_) fun H p => ?_
  · rw [upd_ne (ne_of_none h hD)]; exact h
  · exact hSs _ _ (fun b hb => upd_ne hb) hS0
  · exact hRt _ _ _ _ (tx_new hD) h0
  · obtain ⟨k1, hS, acc, hDa, hR⟩ := p
    have hDa' : H' D = some (.lst acc) := hY _ _ _ _ hY' D _ hDa
    have k1' : KE E H1 H' := fun b o e h => hY _ _ _ _ hY' b o (k1 b o e h)
    refine hs i x H H' acc _ _ hi k1 hS hDa hR hY' (fun y H4 k t hS4 hR4 => ?_) (fun H3 k t hS3 hR3 => ?_)
    · have h4 : H4 D = some (.lst acc) := k D _ hE hDa'
      refine ⟨acc, h4, ?_, fun b o e h => ?_, ?_, acc ++ [y], upd_same, ?_⟩
      · exact hRl _ _ _ hR
      · rw [upd_ne (ne_of_none h hD)]
        exact k b o e (k1' b o e h)
      · exact hSs _ _ (fun b hb => upd_ne hb) hS4
      · exact hRt _ _ _ _ (tx_lst h4) hR4
    · exact ⟨fun b o e h => k b o e (k1' b o e h), hS3, acc, k D _ hE hDa', hR3⟩
  · obtain ⟨k1, hS, acc, hDa, hR⟩ := p
    exact hd H acc k1 hS hDa hR
theorem same_ke {E : Addr → Prop} {H H' : Hp} (s : Same H H') : KE E H H' := fun b o _ h => s b o h
/-- .. where the element writes nothing -/
theorem lc_R {J : It} {n : Nat} {Gd : Hp → Prop} {Y : Nat → Hp → V → Hp → Prop} (w : Walk J n Gd Y) {g : TG} {tt : TT} {te : TE} {vs : List Nat} {σ : L2.St} {H1 : Hp} {D : Addr} {Qd : Hp → Prop}
    (R : Nat → List V → Hp → Prop) (hD : H1 D = none) (hY : ∀ i H x H', Y i H x H' → Same H H')
    (hRt : ∀ i acc H H', Tx H H' → R i acc H → R i acc H') (hRl : ∀ i acc H, R i acc H → acc.length < sizeLine)
    (hG : ∀ H, Same H1 H → Gd H) (h0 : R 0 [] H1)
    (hs : ∀ i x H H' acc (Q' : VK) (N : Hp → Prop), i < n → Same H1 H → H D = some (.lst acc) → R i acc H → Y i H x H' →
      (∀ y H4, Same H' H4 → R (i + 1) (acc ++ [y]) H4 → Q' y H4) → (∀ H3, Same H' H3 → R (i + 1) acc H3 → N H3) →
      g x (wipe σ vs) H' fun σ2 H2 => wipe σ2 vs = wipe σ vs ∧ tt σ2 H2 fun b H3 => if b = true then te σ2 H3 Q' else N H3)
    (hd : ∀ H acc, Same H1 H → H D = some (.lst acc) → R n acc H → Qd H) :
    ∃ W : Nat → Nat → Hp → Prop, (∃ m, W 0 m (upd H1 D (.lst []))) ∧ ∀ i m H, W i m H →
      (J.stop i H ∧ Qd H) ∨ (J.go i H ∧ ∃ Nx : Hp → Prop, (∀ H', Nx H' → ∃ m', m' < m ∧ W (i + 1) m' H') ∧ ∀ x H', J.yld i H x H' → g x (wipe σ vs) H' fun σ2 H2 => wipe σ2 vs = wipe σ vs ∧ tt σ2 H2 fun b H3 =>
        if b = true then te σ2 H3 fun y H4 => ∃ acc, H4 D = some (.lst acc) ∧ acc.length < sizeLine ∧ Nx (upd H4 D (.lst (acc ++ [y]))) else Nx H3) :=
  lc_KE w (fun _ => False) (fun _ => True) R hD id hY hRt hRl (fun _ _ _ _ => trivial) (fun H k _ => hG H fun b o h => k b o id h) h0 trivial
    (fun i x H H' acc Q' N hi k _ hDa hR hY' kq kn => hs i x H H' acc Q' N hi (fun b o h => k b o id h) hDa hR hY' (fun y H4 s r => kq y H4 (same_ke s) (same_tx s) trivial r) fun H3 s r => kn H3 (same_ke s) (same_tx s) trivial r)
    fun H acc k _ hDa hR => hd H acc (fun b o h => k b o id h) hDa hR
/-- .. and the items are told beforehand: F i after i turns -/
theorem lc_F {J : It} {n : Nat} {Gd : Hp → Prop} {Y : Nat → Hp → V → Hp → Prop} (w : Walk J n Gd Y) {g : TG} {tt : TT} {te : TE} {vs : List Nat} {σ : L2.St} {H1 : Hp} {D : Addr} {Qd : Hp → Prop}
    (F : Nat → List V) (F0 : F 0 = []) (hFl : ∀ i, i ≤ n → (F i).length < sizeLine) (hD : H1 D = none) (hY : ∀ i H x H', Y i H x H' → Same H H')
    (hG : ∀ H, Same H1 H → Gd H)
    (hs : ∀ i x H H' (Q' : VK) (N : Hp → Prop), i < n → Same H1 H → Y i H x H' →
      (∀ y H4, Same H' H4 → F (i + 1) = F i ++ [y] → Q' y H4) → (∀ H3, Same H' H3 → F (i + 1) = F i → N H3) →
      g x (wipe σ vs) H' fun σ2 H2 => wipe σ2 vs = wipe σ vs ∧ tt σ2 H2 fun b H3 => if b = true then te σ2 H3 Q' else N H3)
    (hd : ∀ H, Same H1 H → H D = some (.lst (F n)) → Qd H) :
    ∃ W : Nat → Nat → Hp → Prop, (∃ m, W 0 m (upd H1 D (.lst []))) ∧ ∀ i m H, W i m H →
      (J.stop i H ∧ Qd H) ∨ (J.go i H ∧ ∃ Nx : Hp → Prop, (∀ H', Nx H' → ∃ m', m' < m ∧ W (i + 1) m' H') ∧ ∀ x H', J.yld i H x H' → g x (wipe σ vs) H' fun σ2 H2 => wipe σ2 vs = wipe σ vs ∧ tt σ2 H2 fun b H3 =>
        if b = true then te σ2 H3 fun y H4 => ∃ acc, H4 D = some (.lst acc) ∧ acc.length < sizeLine ∧ Nx (upd H4 D (.lst (acc ++ [y]))) else Nx H3) :=
  lc_R w (fun i acc _ => i ≤ n ∧ acc = F i) hD hY (fun _ _ _ _ _ h => h) (fun i acc _ h => by rw [h.2]; exact hFl i h.1) hG ⟨Nat.zero_le _, F0.symm⟩
    (fun i x H H' acc Q' N hi k hDa hR hY' kq kn => hs i x H H' Q' N hi k hY' (fun y H4 s e => kq y H4 s ⟨hi, by rw [hR.2, e]⟩) fun H3 s e => kn H3 s ⟨hi, by rw [hR.2, e]⟩)
    fun H acc k hDa hR => hd H k (by rw [hDa, hR.2])
theorem small_lt {n m : Nat} (h : n ≤ m) (hm : m ≤ 1000000 := by decide) : n < sizeLine := by rw [sizeLine_eq]; omega
theorem take_snoc {α : Type} {xs : List α} {i : Nat} {x : α} (h : xs[i]? = some x) : xs.take (i + 1) = xs.take i ++ [x] := by
  rw [List.take_add_one, h] <;> rfl
theorem take_lt {α : Type} {xs : List α} {m : Nat} (h : xs.length ≤ m) (hm : m ≤ 1000000) (i : Nat) : (xs.take i).length < sizeLine :=
  Nat.lt_of_le_of_lt (by rw [List.length_take]; exact Nat.min_le_right _ _) (small_lt h hm)
/-- no test in the comprehension -/
theorem yes_ {σ : L2.St} {H : Hp} {Q : Bool → Hp → Prop} (h : Q true H) : tYes σ H Q := h
theorem lcY {te : TE} {N : Hp → Prop} {Q' : VK} {σ : L2.St} {H : Hp} (h : te σ H Q') : tYes σ H (fun b H3 => if b = true then te σ H3 Q' else N H3) := by
  show (if true = true then te σ H Q' else N H)
  rw [if_pos rfl]
  exact h
theorem nv_at {r : List Nat} {i : Nat} {x : V} (h : (r.map nv)[i]? = some x) : ∃ n, r[i]? = some n ∧ x = nv n := by
  rw [List.getElem?_map] at h
  cases e : r[i]? with
  | none => rw [e] at h; cases h
  | some n => rw [e] at h; exact ⟨n, rfl, (Option.some.inj h).symm⟩
/-- every item True -/
theorem lc_true {J : It} {n : Nat} {Gd : Hp → Prop} {Y : Nat → Hp → V → Hp → Prop} (w : Walk J n Gd Y) {g : TG} {tt : TT} {te : TE} {vs : List Nat} {σ : L2.St} {H1 : Hp} {D : Addr} {Qd : Hp → Prop}
    (hn : n ≤ 100000) (hD : H1 D = none) (hY : ∀ i H x H', Y i H x H' → Same H H') (hG : ∀ H, Same H1 H → Gd H)
    (hs : ∀ i x H H' (Q' : VK) (N : Hp → Prop), i < n → Same H1 H → Y i H x H' → (∀ H4, Same H' H4 → Q' (.bl true) H4) →
      g x (wipe σ vs) H' fun σ2 H2 => wipe σ2 vs = wipe σ vs ∧ tt σ2 H2 fun b H3 => if b = true then te σ2 H3 Q' else N H3)
    (hd : ∀ H, Same H1 H → H D = some (.lst ((List.replicate n true).map V.bl)) → Qd H) :
    ∃ W : Nat → Nat → Hp → Prop, (∃ m, W 0 m (upd H1 D (.lst []))) ∧ ∀ i m H, W i m H →
      (J.stop i H ∧ Qd H) ∨ (J.go i H ∧ ∃ Nx : Hp → Prop, (∀ H', Nx H' → ∃ m', m' < m ∧ W (i + 1) m' H') ∧ ∀ x H', J.yld i H x H' → g x (wipe σ vs) H' fun σ2 H2 => wipe σ2 vs = wipe σ vs ∧ tt σ2 H2 fun b H3 =>
        if b = true then te σ2 H3 fun y H4 => ∃ acc, H4 D = some (.lst acc) ∧ acc.length < sizeLine ∧ Nx (upd H4 D (.lst (acc ++ [y]))) else Nx H3) :=
  lc_F w (fun i => List.replicate i (V.bl true)) rfl (fun i hi => by rw [List.length_replicate]; exact small_lt (Nat.le_trans hi hn)) hD hY hG
    (fun i x H H' Q' N hi k y kq _ => hs i x H H' Q' N hi k y fun H4 s => kq _ H4 s (by rw [List.replicate_succ']))
    fun H k hDn => hd H k (by rw [List.map_replicate]; exact hDn)
theorem yat_s {xs : List V} (i : Nat) (H : Hp) (x : V) (H' : Hp) (y : YAt xs i H x H') : Same H H' := (yat_same y).1
theorem yen_s {xs : List V} (i : Nat) (H : Hp) (x : V) (H' : Hp) (y : YEn xs i H x H') : Same H H' := (ypair_same y).1
theorem yfn_s {f : Nat → V} (i : Nat) (H : Hp) (x : V) (H' : Hp) (y : YFn f i H x H') : Same H H' := by rw [y.1]; exact Same.refl H
theorem ypr_s {f g : Nat → Option V} (i : Nat) (H : Hp) (x : V) (H' : Hp) (y : YPair f g i H x H') : Same H H' := (ypair_same y).1
theorem all_rep (n : Nat) : (List.replicate n true).all id = true := by simp

/-! ### rows compared -/
def rLtR : R2 := fun x y H Q => ∃ r q, IT H x r ∧ IT H y q ∧ Q (.bl (HT.lexLt (zs r) (zs q))) H
theorem op_ltR {X : Cx} (hu : X.A.units < cLine) : OpR X (compareOp .Lt) rLtR := by
  intro pins s σ H x y v u Q I rx ry h
  obtain ⟨r, q, ⟨a, ea, ha⟩, ⟨b, eb, hb⟩, h⟩ := h
  exact op_ltT hu pins s σ H x y v u Q I rx ry ⟨a, b, zs r, zs q, ea, eb, SqT.of (by rw [zs_nv]; exact ha), SqT.of (by rw [zs_nv]; exact hb), h⟩
end G
namespace G
open PySem PySem.Spec PyProof.Rows L2
local macro_rules | `(tactic| walk_at "rd") => `(tactic| repeat (first | (refine ⟨_, rfl, ?_⟩) | (refine ⟨_, _, rfl, rfl, ?_⟩) | (refine iteT ?_) | (refine iteF ?_) | (refine ⟨_, "tuple", _, true, rfl, .tup (.inl (by assumption)), kb_tt, ?_⟩) | (refine ⟨_, "tuple", _, true, rfl, .tup (by assumption), kb_tt, ?_⟩) | (refine ⟨false, _, _, rfl, sq_t (by assumption), ?_⟩) | (refine ⟨false, _, _, rfl, sq_r (by assumption), ?_⟩) | (refine ⟨true, _, _, rfl, sq_l (by assumption), ?_⟩) | (refine ⟨false, _, _, _, _, rfl, rfl, sq_t (by assumption), at0, ?_⟩) | (refine ⟨false, _, _, _, _, rfl, rfl, sq_t (by assumption), at1, ?_⟩) | (refine ⟨false, _, _, _, _, rfl, rfl, sq_t (by assumption), (by assumption), ?_⟩) | (refine ⟨false, _, _, _, _, rfl, rfl, sq_r (by assumption), (by assumption), ?_⟩) | (refine ⟨true, _, _, _, _, rfl, rfl, sq_l (by assumption), (by assumption), ?_⟩) | (refine ⟨rfl, ?_⟩)))
section
variable {P : Program} {w : World} {K : PySem.W.Frag} {mg : Str → Option Value} {base : Heap}
def isIV : V → Bool
  | .int _ => true
  | _ => false
def sp_is_int : Sp := fun vs H Q _ => ∃ v t, vs = [v] ∧ Kd H v t ∧ Q (.bl (isIV v)) H
theorem ok_is_int (T : TX K mg) : FnOk P w K mg base CX0 1 T.is_int.f T.is_int.fd ["value"] sp_is_int := by
  refine T.is_int.F.ok sc_is_int (fun vs H Q E h => ?_) (fun cdv A outer s H vs Q E hr h => ?_)
  · obtain ⟨v, t, rfl, _⟩ := h
    rfl
  · obtain ⟨v, t, rfl, k, q⟩ := h
    refine ⟨_, (pss_one (ps_ret (pe_and (pe_callB call_isB (by rfl) T.n_isinstance bb_isinstance (pa_cons (pv 0) (pa_cons (pe_bltn (v := .ty "int") (by rfl) T.n_int bb_int rfl) pa_nil))) (pe_one (pe_not (pe_callB call_isB (by rfl) T.n_isinstance bb_isinstance (pa_cons (pv 0) (pa_cons (pe_bltn (v := .ty "bool") (by rfl) T.n_bool bb_bool rfl) pa_nil)))))))), ?_⟩
    cases k with
    | non => exact ⟨_, rfl, .non, _, _, false, rfl, .non, by decide +kernel, _, rfl, iteF q⟩
    | bl b => exact ⟨_, rfl, .bl b, _, _, true, rfl, .bl b, by decide +kernel, _, rfl, iteT ⟨_, rfl, .bl b, _, _, true, rfl, .bl b, by decide +kernel, _, rfl, q⟩⟩
    | int i => exact ⟨_, rfl, .int i, _, _, true, rfl, .int i, by decide +kernel, _, rfl, iteT ⟨_, rfl, .int i, _, _, false, rfl, .int i, by decide +kernel, _, rfl, q⟩⟩
    | str b => exact ⟨_, rfl, .str b, _, _, false, rfl, .str b, by decide +kernel, _, rfl, iteF q⟩
    | lst h => exact ⟨_, rfl, _, _, _, false, rfl, .lst h, by decide +kernel, _, rfl, iteF q⟩
    | tup h => exact ⟨_, rfl, _, _, _, false, rfl, .tup h, by decide +kernel, _, rfl, iteF q⟩
    | dct h => exact ⟨_, rfl, _, _, _, false, rfl, .dct h, by decide +kernel, _, rfl, iteF q⟩
def inIV (v : V) (lo hi : Int) : Bool := match v with
  | .int n => decide (lo ≤ n) && decide (n ≤ hi)
  | _ => false
def sp_is_in : Sp := fun vs H Q _ => ∃ v t lo hi, vs = [v, .int lo, .int hi] ∧ Kd H v t ∧ Q (.bl (inIV v lo hi)) H
theorem ok_is_in (T : TX K mg) : FnOk P w K mg base CX0 2 T.is_in.f T.is_in.fd ["value", "least", "most"] sp_is_in := by
  refine T.is_in.F.ok sc_is_in (fun vs H Q E h => ?_) (fun cdv A outer s H vs Q E hr h => ?_)
  · obtain ⟨v, t, lo, hi, rfl, _⟩ := h
    rfl
  · obtain ⟨v, t, lo, hi, rfl, k, q⟩ := h
    refine ⟨_, (pss_one (ps_ret (pe_and (pe_call (ok_is_int T) (hr.mono (by decide)) (by rfl) T.is_int.g T.is_int.F.kp T.is_int.b .nil pass0 (pa_cons (pv 0) pa_nil)) (pe_one (pe_chain op_le op_le (pv 1) (pv 0) (pv 2)))))), ?_⟩
    refine ⟨_, rfl, v, t, rfl, k, _, rfl, ?_⟩
    cases k with
    | int i =>
      refine iteT ⟨_, rfl, _, rfl, _, _, rfl, rfl, _, rfl, ?_⟩
      have q' : Q (.bl (decide (lo ≤ i) && decide (i ≤ hi))) H := q
      by_cases h1 : lo ≤ i
      · rw [decide_eq_true h1] at q' ⊢
        exact iteT ⟨_, rfl, _, _, rfl, rfl, q'⟩
      · rw [decide_eq_false h1] at q' ⊢
        exact iteF q'
    | non => exact iteF q
    | bl b => exact iteF q
    | str b => exact iteF q
    | lst h => exact iteF q
    | tup h => exact iteF q
    | dct h => exact iteF q
theorem inIV_nv {n hi : Nat} (h : n < hi) : inIV (nv n) 0 ((hi : Int) - 1) = true := by
  show (decide ((0 : Int) ≤ (n : Int)) && decide ((n : Int) ≤ (hi : Int) - 1)) = true
  rw [decide_eq_true (by omega), decide_eq_true (by omega)] <;> rfl
/-- is_row: asked of a row alone -/
def sp_is_row : Sp := fun vs H Q _ => ∃ (sz ar : Nat) (v : V) (r : List Nat), vs = [nv sz, nv ar, v] ∧ IR H v r ∧ r.length = ar ∧ Lt sz r ∧ r.length ≤ 1000 ∧ ∀ H', Same H H' → Q (.bl true) H'
theorem ok_is_row (T : TX K mg) : FnOk P w K mg base CX0 3 T.is_row.f T.is_row.fd ["size", "arity", "value"] sp_is_row := by
  refine T.is_row.F.ok sc_is_row (fun vs H Q E h => ?_) (fun cdv A outer s H vs Q E hr h => ?_)
  · obtain ⟨_, _, _, _, rfl, _⟩ := h
    rfl
  · obtain ⟨sz, ar, v, r, rfl, ⟨a, rfl, ha⟩, hl, hlt, hle, q⟩ := h
    refine ⟨_, (pss_one (ps_ret (pe_and (pe_callB call_isB (by rfl) T.n_isinstance bb_isinstance (pa_cons (pv 2) (pa_cons (pe_bltn (v := .ty "tuple") (by rfl) T.n_tuple bb_tuple rfl) pa_nil))) (pe_and (pe_cmpR op_eq (pe_callB call_lenS (by rfl) T.n_len bb_len (pa_cons (pv 2) pa_nil)) (pv 1) (nomark _)) (pe_one (pe_callB (cr_allB rfl) (by rfl) T.n_all bb_all (pa_cons (pe_lc (own := [("told", 3)]) rfl sc_is_row.nd (pi_sq (pv 2)) (blkOk_by (N := N_is_row) (sc := defScope s_is_row) (by decide +kernel)) (fun _ _ _ _ _ => (pg_name (i := 3) sc_is_row.nd rfl (Or.inl rfl))) (fun _ _ _ _ _ => pts_nil) (fun _ _ _ _ _ => (pe_call (ok_is_in T) (hr.mono (by decide)) (by rfl) T.is_in.g T.is_in.F.kp T.is_in.b .nil pass0 (pa_cons (pv 3) (pa_cons pe_int (pa_cons (pe_op op_sub (pv 0) pe_int) pa_nil)))))) pa_nil))))))), ?_⟩
    refine ⟨_, rfl, _, "tuple", "tuple", true, rfl, .tup ha, by decide +kernel, _, rfl, iteT ?_⟩
    refine ⟨_, rfl, false, a, _, rfl, sq_r ha, _, rfl, rfl, _, rfl, ?_⟩
    have el : (V.int ((r.map nv).length : Nat)) = nv ar := by rw [List.length_map, hl]; rfl
    rw [decide_eq_true el]
    refine iteT ⟨_, rfl, false, a, _, rfl, sq_r ha, fun J wJ D nD => lc_true wJ (by rw [List.length_map]; omega) nD yat_s (fun H' sm => sq_r (rd_same sm ha)) ?_ ?_⟩
    · intro i x H1 H2 Q' N hi sm y kq
      obtain ⟨s1, hx⟩ := yat_same y
      obtain ⟨n, hn, rfl⟩ := nv_at hx
      refine ⟨rfl, lcY ⟨_, rfl, _, rfl, _, _, rfl, rfl, _, "int", 0, (sz : Int) - 1, rfl, .int _, ?_⟩⟩
      rw [inIV_nv (hlt n (List.mem_of_getElem? hn))]
      exact kq _ (Same.refl _)
    · intro H1 sm hD
      refine ⟨D, _, rfl, hD, ?_⟩
      rw [all_rep]
      exact q H1 sm
end
end G
namespace G
open PySem PySem.Spec PyProof.Rows L2
theorem kb_tt : kitB "tuple" "tuple" = some true := by decide +kernel
theorem at0 {a : V} {l : List V} : atI (a :: l) 0 = some a := by
  have := atI_nat (xs := a :: l) (j := 0) (v := a) rfl
  exact this
theorem at1 {a b : V} {l : List V} : atI (a :: b :: l) 1 = some b := by
  have := atI_nat (xs := a :: b :: l) (j := 1) (v := b) rfl
  exact this
local macro_rules | `(tactic| walk_at "rd") => `(tactic| repeat (first | (refine ⟨_, rfl, ?_⟩) | (refine ⟨_, _, rfl, rfl, ?_⟩) | (refine iteT ?_) | (refine iteF ?_) | (refine ⟨_, "tuple", _, true, rfl, .tup (.inl (by assumption)), kb_tt, ?_⟩) | (refine ⟨_, "tuple", _, true, rfl, .tup (by assumption), kb_tt, ?_⟩) | (refine ⟨false, _, _, rfl, sq_t (by assumption), ?_⟩) | (refine ⟨false, _, _, rfl, sq_r (by assumption), ?_⟩) | (refine ⟨true, _, _, rfl, sq_l (by assumption), ?_⟩) | (refine ⟨false, _, _, _, _, rfl, rfl, sq_t (by assumption), at0, ?_⟩) | (refine ⟨false, _, _, _, _, rfl, rfl, sq_t (by assumption), at1, ?_⟩) | (refine ⟨false, _, _, _, _, rfl, rfl, sq_t (by assumption), (by assumption), ?_⟩) | (refine ⟨false, _, _, _, _, rfl, rfl, sq_r (by assumption), (by assumption), ?_⟩) | (refine ⟨true, _, _, _, _, rfl, rfl, sq_l (by assumption), (by assumption), ?_⟩) | (refine ⟨rfl, ?_⟩)))
section
variable {P : Program} {w : World} {K : PySem.W.Frag} {mg : Str → Option Value} {base : Heap}
/-- a relation: its arity, its rows -/
abbrev Rel := Nat × List (List Nat)
def IsRel (H : Hp) (v : V) (R : Rel) : Prop := ∃ a t ts, v = .ref a ∧ H a = some (.tup [nv R.1, .ref t]) ∧ H t = some (.tup ts) ∧ Rws H ts R.2
theorem IsRel.tx {H H' : Hp} {v : V} {R : Rel} (h : IsRel H v R) (t : Tx H H') : IsRel H' v R := let ⟨a, b, c, e, h1, h2, h3⟩ := h; ⟨a, b, c, e, t.t h1, t.t h2, h3.tx t⟩
structure RelOk (sz : Nat) (R : Rel) : Prop where
  lo : 1 ≤ R.1
  hi : R.1 ≤ 4
  few : R.2.length ≤ 1000
  asc : Asc R.2
  rows : ∀ r ∈ R.2, r.length = R.1 ∧ Lt sz r
theorem inIV_le {n lo hi : Nat} (h1 : lo ≤ n) (h2 : n ≤ hi) : inIV (nv n) lo hi = true := by
  show (decide ((lo : Int) ≤ (n : Int)) && decide ((n : Int) ≤ (hi : Int))) = true
  rw [decide_eq_true (by omega), decide_eq_true (by omega)] <;> rfl
def sp_is_relation : Sp := fun vs H Q _ => ∃ (sz : Nat) (v : V) (R : Rel), vs = [nv sz, v] ∧ IsRel H v R ∧ RelOk sz R ∧ ∀ H', Same H H' → Q (.bl true) H'
theorem ok_is_relation (T : TX K mg) : FnOk P w K mg base CX0 4 T.is_relation.f T.is_relation.fd ["size", "value"] sp_is_relation := by
  refine T.is_relation.F.ok sc_is_relation (fun vs H Q E h => ?_) (fun cdv A outer s H vs Q E hr h => ?_)
  · obtain ⟨_, _, _, rfl, _⟩ := h
    rfl
  · obtain ⟨sz, v, R, rfl, ⟨a, t, ts, rfl, ha, ht, hrw⟩, ok, q⟩ := h
    refine ⟨_, (pss_cons (ps_if (PW.pt (pw_or (pt_not (pt_val (pe_callB call_isB (by rfl) T.n_isinstance bb_isinstance (pa_cons (pv 1) (pa_cons (pe_bltn (v := .ty "tuple") (by rfl) T.n_tuple bb_tuple rfl) pa_nil))))) (pw_or (pt_cmpR op_ne (pe_callB call_lenS (by rfl) T.n_len bb_len (pa_cons (pv 1) pa_nil)) pe_int (nomark _)) (pw_or1 (pt_not (pt_val (pe_call (ok_is_in T) (hr.mono (by decide)) (by rfl) T.is_in.g T.is_in.F.kp T.is_in.b .nil pass0 (pa_cons (pe_ix ix_any (pv 1) pe_int (fun _ _ => rfl)) (pa_cons pe_int (pa_cons (pe_glob (v := .int 4) (by rfl) T.c_MOST_ARITY ⟨_, rfl⟩) pa_nil))))))))))
      (pss_one (ps_ret pe_bl))
      pss_nil)
      (pss_cons (ps_if (PW.pt (pw_or (pt_not (pt_val (pe_callB call_isB (by rfl) T.n_isinstance bb_isinstance (pa_cons (pe_ix ix_any (pv 1) pe_int (fun _ _ => rfl)) (pa_cons (pe_bltn (v := .ty "tuple") (by rfl) T.n_tuple bb_tuple rfl) pa_nil))))) (pw_or1 (pt_not (pt_val (pe_callB (cr_allB rfl) (by rfl) T.n_all bb_all (pa_cons (pe_lc (own := [("row", 3)]) rfl sc_is_relation.nd (pi_sq (pe_ix ix_any (pv 1) pe_int (fun _ _ => rfl))) (blkOk_by (N := N_is_relation) (sc := defScope s_is_relation) (by decide +kernel)) (fun _ _ _ _ _ => (pg_name (i := 3) sc_is_relation.nd rfl (Or.inl rfl))) (fun _ _ _ _ _ => pts_nil) (fun _ _ _ _ _ => (pe_call (ok_is_row T) (hr.mono (by decide)) (by rfl) T.is_row.g T.is_row.F.kp T.is_row.b .nil pass0 (pa_cons (pv 0) (pa_cons (pe_ix ix_any (pv 1) pe_int (fun _ _ => rfl)) (pa_cons (pv 3) pa_nil)))))) pa_nil)))))))
      (pss_one (ps_ret pe_bl))
      pss_nil)
      (pss_one (ps_ret (pe_callB (cr_allB rfl) (by rfl) T.n_all bb_all (pa_cons (pe_lc (own := [("at", 2)]) rfl sc_is_relation.nd (pi_range2 (by rfl) T.n_range (pa_cons pe_int (pa_cons (pe_callB call_lenS (by rfl) T.n_len bb_len (pa_cons (pe_ix ix_any (pv 1) pe_int (fun _ _ => rfl)) pa_nil)) pa_nil))) (blkOk_by (N := N_is_relation) (sc := defScope s_is_relation) (by decide +kernel)) (fun _ _ _ _ _ => (pg_name (i := 2) sc_is_relation.nd rfl (Or.inl rfl))) (fun _ _ _ _ _ => pts_nil) (fun _ _ _ _ _ => (pe_cmpR (op_ltR (by exact hr.units0)) (pe_ix ix_any (pe_ix ix_any (pv 1) pe_int (fun _ _ => rfl)) (pe_op op_sub (pv 2) pe_int) (fun _ _ => rfl)) (pe_ix ix_any (pe_ix ix_any (pv 1) pe_int (fun _ _ => rfl)) (pv 2) (fun _ _ => rfl)) (nomark _)))) pa_nil)))))), ?_⟩
    have h14 : inIV (nv R.1) 1 4 = true := inIV_le ok.lo ok.hi
    have hlen : ts.length ≤ 1000 := by rw [paired_len hrw]; exact ok.few
    walk_at "rd"
    refine ⟨_, "int", 1, 4, rfl, .int _, true, by rw [h14], ?_⟩
    walk_at "rd"
    refine fun J wJ D nD => lc_true wJ (by omega) nD yat_s (fun H' sm => sq_t (sm _ _ ht)) ?_ ?_
    · intro i x H1 H2 Q' N hi sm y kq
      obtain ⟨s1, hx⟩ := yat_same y
      obtain ⟨r, hr, hxr⟩ := paired_get hrw hx
      obtain ⟨hl, hlt⟩ := ok.rows r (List.mem_of_getElem? hr)
      have sm2 := sm.trans s1
      have ha2 := sm2 _ _ ha
      refine ⟨rfl, lcY ?_⟩
      walk_at "rd"
      exact ⟨sz, R.1, x, r, rfl, (hxr.tx (same_tx sm2)).r, hl, hlt, by have := ok.hi; omega, fun H4 s4 => kq H4 s4⟩
    · intro H1 sm hD
      refine ⟨D, _, rfl, hD, true, by rw [all_rep], ?_⟩
      have ha1 := sm _ _ ha
      have ht1 := sm _ _ ht
      walk_at "rd"
      refine ⟨1, (ts.length : Nat), rfl, ⟨by decide, by decide, by omega, by omega⟩, fun D2 nD2 => lc_true walk_range (by omega) nD2 yfn_s (fun _ _ => trivial) ?_ ?_⟩
      · intro i x H2 H3 Q' N hi s2 y kq
        obtain ⟨rfl, rfl⟩ := y
        have sm3 := sm.trans s2
        have ha3 := sm3 _ _ ha
        have ht3 := sm3 _ _ ht
        have hi1 : i + 1 < ts.length := by omega
        have g1 : ts[i]? = some ts[i] := List.getElem?_eq_getElem (by omega)
        have g2 : ts[i + 1]? = some ts[i + 1] := List.getElem?_eq_getElem hi1
        obtain ⟨r1, hr1, h1⟩ := paired_get hrw g1
        obtain ⟨r2, hr2, h2⟩ := paired_get hrw g2
        have e1 : atI ts (1 + (i : Nat) - 1) = some ts[i] := by
          have := atI_nat g1
          rwa [show ((i : Nat) : Int) = 1 + (i : Nat) - 1 by omega] at this
        have e2 : atI ts (1 + (i : Nat)) = some ts[i + 1] := by
          have := atI_nat g2
          rwa [show ((i + 1 : Nat) : Int) = 1 + (i : Nat) by omega] at this
        refine ⟨rfl, lcY ?_⟩
        walk_at "rd"
        refine ⟨r1, r2, h1.tx (same_tx sm3), h2.tx (same_tx sm3), ?_⟩
        obtain ⟨b1, c1⟩ := List.getElem?_eq_some_iff.mp hr1
        obtain ⟨b2, c2⟩ := List.getElem?_eq_some_iff.mp hr2
        have := List.pairwise_iff_getElem.mp ok.asc i (i + 1) b1 b2 (Nat.lt_succ_self _)
        rw [c1, c2] at this
        rw [this]
        exact kq _ (Same.refl _)
      · intro H2 s2 hD2
        refine ⟨D2, _, rfl, hD2, ?_⟩
        rw [all_rep]
        exact q H2 (sm.trans s2)
end
end G
namespace G
open PySem PySem.Spec PyProof.Rows L2
local macro_rules | `(tactic| walk_at "rd") => `(tactic| repeat (first | (refine ⟨_, rfl, ?_⟩) | (refine ⟨_, _, rfl, rfl, ?_⟩) | (refine iteT ?_) | (refine iteF ?_) | (refine ⟨_, "tuple", _, true, rfl, .tup (.inl (by assumption)), kb_tt, ?_⟩) | (refine ⟨_, "tuple", _, true, rfl, .tup (by assumption), kb_tt, ?_⟩) | (refine ⟨false, _, _, rfl, sq_t (by assumption), ?_⟩) | (refine ⟨false, _, _, rfl, sq_r (by assumption), ?_⟩) | (refine ⟨true, _, _, rfl, sq_l (by assumption), ?_⟩) | (refine ⟨false, _, _, _, _, rfl, rfl, sq_t (by assumption), at0, ?_⟩) | (refine ⟨false, _, _, _, _, rfl, rfl, sq_t (by assumption), at1, ?_⟩) | (refine ⟨false, _, _, _, _, rfl, rfl, sq_t (by assumption), (by assumption), ?_⟩) | (refine ⟨false, _, _, _, _, rfl, rfl, sq_r (by assumption), (by assumption), ?_⟩) | (refine ⟨true, _, _, _, _, rfl, rfl, sq_l (by assumption), (by assumption), ?_⟩) | (refine ⟨rfl, ?_⟩)))
section
variable {P : Program} {w : World} {K : PySem.W.Frag} {mg : Str → Option Value} {base : Heap}
def IsTpl (H : Hp) (v : V) (sz : Nat) (rels : List Rel) : Prop := ∃ a t ts, v = .ref a ∧ H a = some (.tup [nv sz, .ref t]) ∧ H t = some (.tup ts) ∧ Paired (IsRel H) ts rels
theorem IsTpl.tx {H H' : Hp} {v : V} {sz : Nat} {rels : List Rel} (h : IsTpl H v sz rels) (t : Tx H H') : IsTpl H' v sz rels := let ⟨a, b, c, e, h1, h2, h3⟩ := h; ⟨a, b, c, e, t.t h1, t.t h2, paired_imp (fun _ _ q => q.tx t) h3⟩
structure TplOk (sz : Nat) (rels : List Rel) : Prop where
  lo : 1 ≤ sz
  hi : sz ≤ 4
  few : rels.length ≤ 6
  rel : ∀ R ∈ rels, RelOk sz R
def sp_need_template : Sp := fun vs H Q _ => ∃ (v : V) (sz : Nat) (rels : List Rel), vs = [v] ∧ IsTpl H v sz rels ∧ TplOk sz rels ∧ ∀ H', Same H H' → Q .non H'
theorem ok_need_template (T : TX K mg) : FnOk P w K mg base CX0 5 T.need_template.f T.need_template.fd ["value"] sp_need_template := by
  refine T.need_template.F.ok sc_need_template (fun vs H Q E h => ?_) (fun cdv A outer s H vs Q E hr h => ?_)
  · obtain ⟨_, _, _, rfl, _⟩ := h
    rfl
  · obtain ⟨v, sz, rels, rfl, ⟨a, t, ts, rfl, ha, ht, hrw⟩, ok, q⟩ := h
    refine ⟨_, (pss_cons (ps_if (PW.pt (pw_or (pt_not (pt_val (pe_callB call_isB (by rfl) T.n_isinstance bb_isinstance (pa_cons (pv 0) (pa_cons (pe_bltn (v := .ty "tuple") (by rfl) T.n_tuple bb_tuple rfl) pa_nil))))) (pw_or (pt_cmpR op_ne (pe_callB call_lenS (by rfl) T.n_len bb_len (pa_cons (pv 0) pa_nil)) pe_int (nomark _)) (pw_or1 (pt_not (pt_val (pe_call (ok_is_in T) (hr.mono (by decide)) (by rfl) T.is_in.g T.is_in.F.kp T.is_in.b .nil pass0 (pa_cons (pe_ix ix_any (pv 0) pe_int (fun _ _ => rfl)) (pa_cons pe_int (pa_cons (pe_glob (v := .int 4) (by rfl) T.c_MOST_SIZE ⟨_, rfl⟩) pa_nil))))))))))
      (pss_one ps_never)
      pss_nil)
      (pss_cons (ps_if (PW.pt (pw_or (pt_not (pt_val (pe_callB call_isB (by rfl) T.n_isinstance bb_isinstance (pa_cons (pe_ix ix_any (pv 0) pe_int (fun _ _ => rfl)) (pa_cons (pe_bltn (v := .ty "tuple") (by rfl) T.n_tuple bb_tuple rfl) pa_nil))))) (pw_or1 (pt_cmpR op_gt (pe_callB call_lenS (by rfl) T.n_len bb_len (pa_cons (pe_ix ix_any (pv 0) pe_int (fun _ _ => rfl)) pa_nil)) (pe_glob (v := .int 6) (by rfl) T.c_MOST_RELATIONS ⟨_, rfl⟩) (nomark _)))))
      (pss_one ps_never)
      pss_nil)
      (pss_one (ps_for PassesOwn.never rfl (pi_enumS (by rfl) T.n_enumerate (pa_cons (pe_ix ix_any (pv 0) pe_int (fun _ _ => rfl)) pa_nil)) (pg_tupS rfl (pgs_cons (pg_name (i := 1) sc_need_template.nd rfl (Or.inl rfl)) (pgs_cons (pg_name (i := 2) sc_need_template.nd rfl (Or.inl rfl)) pgs_nil)))
      (pss_one (ps_if (pt_not (pt_val (pe_call (ok_is_relation T) (hr.mono (by decide)) (by rfl) T.is_relation.g T.is_relation.F.kp T.is_relation.b .nil pass0 (pa_cons (pe_ix ix_any (pv 0) pe_int (fun _ _ => rfl)) (pa_cons (pv 2) pa_nil)))))
      (pss_one ps_never)
      pss_nil)))))), ?_⟩
    have h14 : inIV (nv sz) 1 4 = true := inIV_le ok.lo ok.hi
    have hlen : ts.length ≤ 6 := by rw [paired_len hrw]; exact ok.few
    walk_at "rd"
    refine ⟨_, "int", 1, 4, rfl, .int _, true, by rw [h14], ?_⟩
    walk_at "rd"
    rw [decide_eq_false (by omega)]
    walk_at "rd"
    refine fun J wJ => for_it wJ (fun i σ H' => ∃ y1 y2, σ = [some (.ref a), y1, y2] ∧ Same H H') ⟨none, none, rfl, Same.refl H⟩ (fun i σ H' _ p => ?_) (fun i x σ H1 H2 hi p y => ?_) fun σ H1 p => ?_
    · obtain ⟨_, _, _, sm⟩ := p
      exact sq_t (sm _ _ ht)
    · obtain ⟨y1, y2, rfl, sm⟩ := p
      obtain ⟨s1, b, c, d, rfl, hb, hc, hd⟩ := ypair_same y
      have sm2 := sm.trans s1
      have ha2 := sm2 _ _ ha
      obtain ⟨R, hR, hdR⟩ := paired_get hrw hd
      refine ⟨b, _, rfl, hb, rfl, _, _, rfl, _, _, rfl, rfl, ?_⟩
      walk_at "rd"
      refine ⟨sz, d, R, rfl, hdR.tx (same_tx sm2), ok.rel R (List.mem_of_getElem? hR), fun H4 s4 => ?_⟩
      walk_at "rd"
      exact ⟨_, _, rfl, sm2.trans s4⟩
    · obtain ⟨_, _, _, sm⟩ := p
      exact q _ sm
end
end G
namespace G
open PySem PySem.Spec PyProof.Rows L2
local macro_rules | `(tactic| walk_at "rd") => `(tactic| repeat (first | (refine ⟨_, rfl, ?_⟩) | (refine ⟨_, _, rfl, rfl, ?_⟩) | (refine iteT ?_) | (refine iteF ?_) | (refine ⟨_, "tuple", _, true, rfl, .tup (.inl (by assumption)), kb_tt, ?_⟩) | (refine ⟨_, "tuple", _, true, rfl, .tup (by assumption), kb_tt, ?_⟩) | (refine ⟨false, _, _, rfl, sq_t (by assumption), ?_⟩) | (refine ⟨false, _, _, rfl, sq_r (by assumption), ?_⟩) | (refine ⟨true, _, _, rfl, sq_l (by assumption), ?_⟩) | (refine ⟨false, _, _, _, _, rfl, rfl, sq_t (by assumption), at0, ?_⟩) | (refine ⟨false, _, _, _, _, rfl, rfl, sq_t (by assumption), at1, ?_⟩) | (refine ⟨false, _, _, _, _, rfl, rfl, sq_t (by assumption), (by assumption), ?_⟩) | (refine ⟨false, _, _, _, _, rfl, rfl, sq_r (by assumption), (by assumption), ?_⟩) | (refine ⟨true, _, _, _, _, rfl, rfl, sq_l (by assumption), (by assumption), ?_⟩) | (refine ⟨rfl, ?_⟩)))
section
variable {P : Program} {w : World} {K : PySem.W.Frag} {mg : Str → Option Value} {base : Heap}
/-- a constraint: a relation's index, its scope -/
abbrev Con := Nat × List Nat
/-- a tuple of numbers that is known by its object -/
def IS (H : Hp) (v : V) (r : List Nat) : Prop := ∃ a o, v = .ref a ∧ o.dict = none ∧ H a = some (.frz o (.tup (r.map nv)))
theorem IS.r {H : Hp} {v : V} {r : List Nat} (h : IS H v r) : IR H v r := let ⟨a, o, e, _, q⟩ := h; ⟨a, e, .inr ⟨o, q⟩⟩
theorem IS.tx {H H' : Hp} {v : V} {r : List Nat} (h : IS H v r) (t : Tx H H') : IS H' v r := let ⟨a, o, e, d, q⟩ := h; ⟨a, o, e, d, t.f q⟩
def IsCon (H : Hp) (v : V) (c : Con) : Prop := ∃ a s, v = .ref a ∧ H a = some (.tup [nv c.1, s]) ∧ IS H s c.2
theorem IsCon.tx {H H' : Hp} {v : V} {c : Con} (h : IsCon H v c) (t : Tx H H') : IsCon H' v c := let ⟨a, b, e, h1, h2⟩ := h; ⟨a, b, e, t.t h1, h2.tx t⟩
def ConOk (n : Nat) (rels : List Rel) (c : Con) : Prop := ∃ R, rels[c.1]? = some R ∧ c.2.length = R.1 ∧ Lt n c.2
def IsIns (H : Hp) (v : V) (n : Nat) (cs : List Con) : Prop := ∃ a t ts, v = .ref a ∧ H a = some (.tup [nv n, .ref t]) ∧ H t = some (.tup ts) ∧ Paired (IsCon H) ts cs
theorem IsIns.tx {H H' : Hp} {v : V} {n : Nat} {cs : List Con} (h : IsIns H v n cs) (t : Tx H H') : IsIns H' v n cs := let ⟨a, b, c, e, h1, h2, h3⟩ := h; ⟨a, b, c, e, t.t h1, t.t h2, paired_imp (fun _ _ q => q.tx t) h3⟩
structure InsOk (n : Nat) (rels : List Rel) (cs : List Con) : Prop where
  hi : n ≤ 16
  few : cs.length ≤ 200
  con : ∀ c ∈ cs, ConOk n rels c
theorem at_nv {xs : List V} {j : Nat} {v : V} (h : xs[j]? = some v) : atI xs ((j : Nat) : Int) = some v := atI_nat h
def sp_is_constraint : Sp := fun vs H Q _ => ∃ (tv : V) (sz : Nat) (rels : List Rel) (n : Nat) (v : V) (c : Con), vs = [tv, nv n, v] ∧ IsTpl H tv sz rels ∧ TplOk sz rels ∧ IsCon H v c ∧ ConOk n rels c ∧ ∀ H', Same H H' → Q (.bl true) H'
theorem ok_is_constraint (T : TX K mg) : FnOk P w K mg base CX0 4 T.is_constraint.f T.is_constraint.fd ["template", "variables", "value"] sp_is_constraint := by
  refine T.is_constraint.F.ok sc_is_constraint (fun vs H Q E h => ?_) (fun cdv A outer s H vs Q E hr h => ?_)
  · obtain ⟨_, _, _, _, _, _, rfl, _⟩ := h
    rfl
  · obtain ⟨tv, sz, rels, n, v, c, rfl, ⟨a, t, ts, rfl, ha, ht, hrw⟩, ok, ⟨b, sc, rfl, hb, hsc⟩, ⟨R, hR, hlen, hlt⟩, q⟩ := h
    refine ⟨_, (pss_cons (ps_if (PW.pt (pw_or (pt_not (pt_val (pe_callB call_isB (by rfl) T.n_isinstance bb_isinstance (pa_cons (pv 2) (pa_cons (pe_bltn (v := .ty "tuple") (by rfl) T.n_tuple bb_tuple rfl) pa_nil))))) (pw_or (pt_cmpR op_ne (pe_callB call_lenS (by rfl) T.n_len bb_len (pa_cons (pv 2) pa_nil)) pe_int (nomark _)) (pw_or1 (pt_not (pt_val (pe_call (ok_is_in T) (hr.mono (by decide)) (by rfl) T.is_in.g T.is_in.F.kp T.is_in.b .nil pass0 (pa_cons (pe_ix ix_any (pv 2) pe_int (fun _ _ => rfl)) (pa_cons pe_int (pa_cons (pe_op op_sub (pe_callB call_lenS (by rfl) T.n_len bb_len (pa_cons (pe_ix ix_any (pv 0) pe_int (fun _ _ => rfl)) pa_nil)) pe_int) pa_nil))))))))))
      (pss_one (ps_ret pe_bl))
      pss_nil)
      (pss_one (ps_ret (pe_call (ok_is_row T) (hr.mono (by decide)) (by rfl) T.is_row.g T.is_row.F.kp T.is_row.b .nil pass0 (pa_cons (pv 1) (pa_cons (pe_ix ix_any (pe_ix ix_any (pe_ix ix_any (pv 0) pe_int (fun _ _ => rfl)) (pe_ix ix_any (pv 2) pe_int (fun _ _ => rfl)) (fun _ _ => rfl)) pe_int (fun _ _ => rfl)) (pa_cons (pe_ix ix_any (pv 2) pe_int (fun _ _ => rfl)) pa_nil))))))), ?_⟩
    obtain ⟨rv, hrv, ⟨ra, rt, rts, e, hra, hrt, _⟩⟩ := paired_getR hrw hR
    subst e
    have hl : c.1 < ts.length := (List.getElem?_eq_some_iff.mp hrv).1
    have hin : inIV (nv c.1) 0 ((ts.length : Nat) - 1) = true := inIV_nv hl
    have hat : atI ts ((c.1 : Nat) : Int) = some (V.ref ra) := at_nv hrv
    walk_at "rd"
    refine ⟨_, "int", 0, _, rfl, .int _, true, by rw [hin], ?_⟩
    walk_at "rd"
    exact ⟨n, R.1, _, c.2, rfl, hsc.r, hlen, hlt, by have := (ok.rel R (List.mem_of_getElem? hR)).hi; omega, q⟩
def sp_need_instance : Sp := fun vs H Q _ => ∃ (tv : V) (sz : Nat) (rels : List Rel) (n : Nat) (v : V) (cs : List Con), vs = [tv, v] ∧ IsTpl H tv sz rels ∧ TplOk sz rels ∧ IsIns H v n cs ∧ InsOk n rels cs ∧ ∀ H', Same H H' → Q .non H'
theorem ok_need_instance (T : TX K mg) : FnOk P w K mg base CX0 5 T.need_instance.f T.need_instance.fd ["template", "value"] sp_need_instance := by
  refine T.need_instance.F.ok sc_need_instance (fun vs H Q E h => ?_) (fun cdv A outer s H vs Q E hr h => ?_)
  · obtain ⟨_, _, _, _, _, _, rfl, _⟩ := h
    rfl
  · obtain ⟨tv, sz, rels, n, v, cs, rfl, htp, tok, ⟨a, t, ts, rfl, ha, ht, hcs⟩, ok, q⟩ := h
    refine ⟨_, (pss_cons (ps_if (PW.pt (pw_or (pt_not (pt_val (pe_callB call_isB (by rfl) T.n_isinstance bb_isinstance (pa_cons (pv 1) (pa_cons (pe_bltn (v := .ty "tuple") (by rfl) T.n_tuple bb_tuple rfl) pa_nil))))) (pw_or (pt_cmpR op_ne (pe_callB call_lenS (by rfl) T.n_len bb_len (pa_cons (pv 1) pa_nil)) pe_int (nomark _)) (pw_or1 (pt_not (pt_val (pe_call (ok_is_in T) (hr.mono (by decide)) (by rfl) T.is_in.g T.is_in.F.kp T.is_in.b .nil pass0 (pa_cons (pe_ix ix_any (pv 1) pe_int (fun _ _ => rfl)) (pa_cons pe_int (pa_cons (pe_glob (v := .int 16) (by rfl) T.c_MOST_VARIABLES ⟨_, rfl⟩) pa_nil))))))))))
      (pss_one ps_never)
      pss_nil)
      (pss_cons (ps_if (PW.pt (pw_or (pt_not (pt_val (pe_callB call_isB (by rfl) T.n_isinstance bb_isinstance (pa_cons (pe_ix ix_any (pv 1) pe_int (fun _ _ => rfl)) (pa_cons (pe_bltn (v := .ty "tuple") (by rfl) T.n_tuple bb_tuple rfl) pa_nil))))) (pw_or1 (pt_cmpR op_gt (pe_callB call_lenS (by rfl) T.n_len bb_len (pa_cons (pe_ix ix_any (pv 1) pe_int (fun _ _ => rfl)) pa_nil)) (pe_glob (v := .int 200) (by rfl) T.c_MOST_CONSTRAINTS ⟨_, rfl⟩) (nomark _)))))
      (pss_one ps_never)
      pss_nil)
      (pss_one (ps_for PassesOwn.never rfl (pi_enumS (by rfl) T.n_enumerate (pa_cons (pe_ix ix_any (pv 1) pe_int (fun _ _ => rfl)) pa_nil)) (pg_tupS rfl (pgs_cons (pg_name (i := 2) sc_need_instance.nd rfl (Or.inl rfl)) (pgs_cons (pg_name (i := 3) sc_need_instance.nd rfl (Or.inl rfl)) pgs_nil)))
      (pss_one (ps_if (pt_not (pt_val (pe_call (ok_is_constraint T) (hr.mono (by decide)) (by rfl) T.is_constraint.g T.is_constraint.F.kp T.is_constraint.b .nil pass0 (pa_cons (pv 0) (pa_cons (pe_ix ix_any (pv 1) pe_int (fun _ _ => rfl)) (pa_cons (pv 3) pa_nil))))))
      (pss_one ps_never)
      pss_nil)))))), ?_⟩
    have h14 : inIV (nv n) 0 16 = true := inIV_le (Nat.zero_le _) ok.hi
    have hlen : ts.length ≤ 200 := by rw [paired_len hcs]; exact ok.few
    walk_at "rd"
    refine ⟨_, "int", 0, 16, rfl, .int _, true, by rw [h14], ?_⟩
    walk_at "rd"
    rw [decide_eq_false (by omega)]
    walk_at "rd"
    refine fun J wJ => for_it wJ (fun i σ H' => ∃ y1 y2, σ = [some tv, some (.ref a), y1, y2] ∧ Same H H') ⟨none, none, rfl, Same.refl H⟩ (fun i σ H' _ p => ?_) (fun i x σ H1 H2 hi p y => ?_) fun σ H1 p => ?_
    · obtain ⟨_, _, _, sm⟩ := p
      exact sq_t (sm _ _ ht)
    · obtain ⟨y1, y2, rfl, sm⟩ := p
      obtain ⟨s1, b, c, d, rfl, hb, hc, hd⟩ := ypair_same y
      have sm2 := sm.trans s1
      have ha2 := sm2 _ _ ha
      obtain ⟨c0, hR, hdR⟩ := paired_get hcs hd
      refine ⟨b, _, rfl, hb, rfl, _, _, rfl, _, _, rfl, rfl, ?_⟩
      walk_at "rd"
      refine ⟨tv, sz, rels, n, d, c0, rfl, htp.tx (same_tx sm2), tok, hdR.tx (same_tx sm2), ok.con c0 (List.mem_of_getElem? hR), fun H4 s4 => ?_⟩
      walk_at "rd"
      exact ⟨_, _, rfl, sm2.trans s4⟩
    · obtain ⟨_, _, _, sm⟩ := p
      exact q _ sm
def sp_need_problem : Sp := fun vs H Q _ => ∃ (tv : V) (sz : Nat) (rels : List Rel) (n : Nat) (v : V) (cs : List Con), vs = [tv, v] ∧ IsTpl H tv sz rels ∧ TplOk sz rels ∧ IsIns H v n cs ∧ InsOk n rels cs ∧ ∀ H', Same H H' → Q .non H'
theorem ok_need_problem (T : TX K mg) : FnOk P w K mg base CX0 6 T.need_problem.f T.need_problem.fd ["template", "instance"] sp_need_problem := by
  refine T.need_problem.F.ok sc_need_problem (fun vs H Q E h => ?_) (fun cdv A outer s H vs Q E hr h => ?_)
  · obtain ⟨_, _, _, _, _, _, rfl, _⟩ := h
    rfl
  · obtain ⟨tv, sz, rels, n, v, cs, rfl, htp, tok, hin, ok, q⟩ := h
    refine ⟨_, (pss_cons (ps_expr (pe_call (ok_need_template T) (hr.mono (by decide)) (by rfl) T.need_template.g T.need_template.F.kp T.need_template.b .nil pass0 (pa_cons (pv 0) pa_nil)))
      (pss_one (ps_expr (pe_call (ok_need_instance T) (hr.mono (by decide)) (by rfl) T.need_instance.g T.need_instance.F.kp T.need_instance.b .nil pass0 (pa_cons (pv 0) (pa_cons (pv 1) pa_nil)))))), ?_⟩
    refine ⟨_, rfl, tv, sz, rels, rfl, htp, tok, fun H1 s1 => ?_⟩
    exact ⟨_, rfl, _, rfl, tv, sz, rels, n, v, cs, rfl, htp.tx (same_tx s1), tok, hin.tx (same_tx s1), ok, fun H2 s2 => q H2 (s1.trans s2)⟩
end
end G
/-! Plain facts: masks, nets of constraints. -/
namespace G
open PySem PySem.Spec PyProof.Rows L2
/-! ### masks -/
theorem bit_lt {m sz v : Nat} (h : m < 2 ^ sz) (hb : m.testBit v = true) : v < sz := by
  refine Nat.lt_of_not_le fun hle => ?_
  have : m < 2 ^ v := Nat.lt_of_lt_of_le h (Nat.pow_le_pow_right (by decide) hle)
  rw [Nat.testBit_lt_two_pow this] at hb
  cases hb
theorem sub_le {a b : Nat} (h : ∀ v, a.testBit v = true → b.testBit v = true) : a ≤ b := by
  have e : a &&& b = a := by
    apply Nat.eq_of_testBit_eq
    intro i
    rw [Nat.testBit_and]
    cases ha : a.testBit i with
    | false => rfl
    | true => rw [h i ha] <;> rfl
  rw [← e]
  exact Nat.and_le_right
theorem bit_of_ne {m : Nat} (h : m ≠ 0) : ∃ v, m.testBit v = true := by
  refine Classical.byContradiction fun hn => h ?_
  apply Nat.eq_of_testBit_eq
  intro i
  rw [Nat.zero_testBit]
  cases hb : m.testBit i with
  | false => rfl
  | true => exact absurd ⟨i, hb⟩ hn
theorem ne_of_bit {m v : Nat} (h : m.testBit v = true) : 0 < m := by
  refine Nat.pos_of_ne_zero fun e => ?_
  rw [e, Nat.zero_testBit] at h
  cases h
theorem one_bit {m : Nat} (h0 : 0 < m) (h1 : m < 16) (h : m &&& (m - 1) = 0) : ∃ v, ∀ w, m.testBit w = true → w = v := by
  have key : ∀ m < 16, 0 < m → m &&& (m - 1) = 0 → ∃ v < 4, ∀ w < 4, m.testBit w = true → w = v := by decide
  obtain ⟨v, _, hv⟩ := key m h1 h0 h
  exact ⟨v, fun w hw => hv w (bit_lt (sz := 4) h1 hw) hw⟩
theorem two_bits {m : Nat} (h1 : m < 16) (h : m &&& (m - 1) ≠ 0) : ∀ v, m.testBit v = true → 2 ^ v < m := by
  have key : ∀ m < 16, m &&& (m - 1) ≠ 0 → ∀ v < 4, m.testBit v = true → 2 ^ v < m := by decide
  exact fun v hv => key m h1 h v (bit_lt (sz := 4) h1 hv) hv
/-- the bit as the program reads it -/
theorem bitZ (m v : Nat) : Builtin.bitAnd (((m : Nat) : Int) / 2 ^ ((v : Nat) : Int).toNat) 1 = if m.testBit v then 1 else 0 := by
  have e : (((m : Nat) : Int) / 2 ^ ((v : Nat) : Int).toNat) = ((m / 2 ^ v : Nat) : Int) := by
    rw [Int.toNat_natCast, Int.natCast_ediv, Int.natCast_pow] <;> rfl
  rw [e, bitAnd_pp (Int.natCast_nonneg _) (by decide), Int.toNat_natCast]
  show (((m / 2 ^ v) &&& 1 : Nat) : Int) = _
  rw [Nat.and_one_is_mod, Nat.testBit_eq_decide_div_mod_eq]
  by_cases h : m / 2 ^ v % 2 = 1
  · rw [h]; simp
  · have : m / 2 ^ v % 2 = 0 := by omega
    rw [this]; simp
theorem orZ (m v : Nat) : Builtin.bitOr ((m : Nat) : Int) (1 * 2 ^ ((v : Nat) : Int).toNat) = ((m ||| 2 ^ v : Nat) : Int) := by
  have e : (1 * 2 ^ ((v : Nat) : Int).toNat : Int) = ((2 ^ v : Nat) : Int) := by
    rw [Int.one_mul, Int.toNat_natCast, Int.natCast_pow] <;> rfl
  rw [e, _root_.Bits.bitOr_pp (Int.natCast_nonneg _) (Int.natCast_nonneg _), Int.toNat_natCast, Int.toNat_natCast]
theorem shlZ (v : Nat) : (1 * 2 ^ ((v : Nat) : Int).toNat : Int) = ((2 ^ v : Nat) : Int) := by
  rw [Int.one_mul, Int.toNat_natCast, Int.natCast_pow] <;> rfl
theorem andZ {m : Nat} (h : 0 < m) : Builtin.bitAnd ((m : Nat) : Int) ((m : Nat) - 1) = ((m &&& (m - 1) : Nat) : Int) := by
  have e : (((m : Nat) : Int) - 1) = ((m - 1 : Nat) : Int) := by omega
  rw [e, bitAnd_pp (by omega) (by omega), Int.toNat_natCast, Int.toNat_natCast]
/-! ### domains, constraints -/
abbrev Cn := List Nat × List (List Nat)
abbrev Net := List Cn
def gd (D : List Nat) (i : Nat) : Nat := D.getD i 0
theorem gd_some {D : List Nat} {i x : Nat} (h : D[i]? = some x) : gd D i = x := by
  unfold gd
  rw [List.getD_eq_getElem?_getD, h] <;> rfl
theorem gd_get {D : List Nat} {i : Nat} (h : i < D.length) : D[i]? = some (gd D i) := by
  rw [gd_some (List.getElem?_eq_getElem h)]
  exact List.getElem?_eq_getElem h
theorem gd_mem {D : List Nat} {i : Nat} (h : i < D.length) : gd D i ∈ D := List.mem_of_getElem? (gd_get h)
theorem gd_set {D : List Nat} {i j x : Nat} (hi : i < D.length) : gd (D.set i x) j = if j = i then x else gd D j := by
  unfold gd
  rw [List.getD_eq_getElem?_getD, List.getD_eq_getElem?_getD, List.getElem?_set]
  by_cases h : i = j
  · subst h; simp [hi]
  · have : ¬ j = i := fun e => h e.symm
    simp [h, this]
theorem sum_set {D : List Nat} {i x : Nat} (hi : i < D.length) : (D.set i x).sum + gd D i = D.sum + x := by
  induction D generalizing i with
  | nil => simp at hi
  | cons d r ih =>
    cases i with
    | zero => simp [gd]; omega
    | succ i =>
      have := ih (i := i) (by simpa using hi)
      simp only [List.set_cons_succ, List.sum_cons]
      have e : gd (d :: r) (i + 1) = gd r i := rfl
      rw [e]
      omega
def InD (D : List Nat) (a : Nat → Nat) : Prop := ∀ i, i < D.length → (gd D i).testBit (a i) = true
def SatC (c : Cn) (a : Nat → Nat) : Prop := c.1.map a ∈ c.2
def Cmp (D : List Nat) (names row : List Nat) : Prop := ∀ (j : Nat) (nm v : Nat), names[j]? = some nm → row[j]? = some v → (gd D nm).testBit v = true
def Wk (D : List Nat) (c : Cn) : Prop := ∃ row ∈ c.2, Cmp D c.1 row
structure DOk (sz n : Nat) (D : List Nat) : Prop where
  len : D.length = n
  pos : ∀ x ∈ D, 0 < x ∧ x < 2 ^ sz
structure CnOk (sz n : Nat) (c : Cn) : Prop where
  nd : c.1.Nodup
  ne : c.1 ≠ []
  lt : Lt n c.1
  rows : ∀ r ∈ c.2, r.length = c.1.length ∧ Lt sz r
  few : c.2.length ≤ 1000
def NetOk (sz n : Nat) (net : Net) : Prop := ∀ c ∈ net, CnOk sz n c
def Sub (D' D : List Nat) : Prop := ∀ i v, (gd D' i).testBit v = true → (gd D i).testBit v = true
theorem DOk.at {sz n i : Nat} {D : List Nat} (h : DOk sz n D) (hi : i < n) : D[i]? = some (gd D i) ∧ 0 < gd D i ∧ gd D i < 2 ^ sz := by
  have hi' : i < D.length := by rw [h.len]; exact hi
  exact ⟨gd_get hi', h.pos _ (gd_mem hi')⟩
theorem dok_of {sz n : Nat} {D : List Nat} (hl : D.length = n) (h : ∀ i, i < n → 0 < gd D i ∧ gd D i < 2 ^ sz) : DOk sz n D := by
  refine ⟨hl, fun x hx => ?_⟩
  obtain ⟨i, hi⟩ := List.mem_iff_getElem?.mp hx
  have := h i (by rw [← hl]; exact (List.getElem?_eq_some_iff.mp hi).1)
  rwa [gd_some hi] at this
/-- what one pass over the constraint c gives -/
structure ShrOk (sz n : Nat) (D D' : List Nat) (c : Cn) (lost : List Nat) : Prop where
  ok : DOk sz n D'
  sub : Sub D' D
  keep : ∀ a, InD D a → SatC c a → InD D' a
  wk : Wk D' c
  ch : ∀ i, i ∉ lost → gd D' i = gd D i
  lt : Lt n lost
  sum : D'.sum + lost.length ≤ D.sum
/-- the masks of what the first rows allow -/
structure Seen (sz : Nat) (D : List Nat) (names : List Nat) (rows : List (List Nat)) (seen : List Nat) : Prop where
  len : seen.length = names.length
  lt : ∀ x ∈ seen, x < 2 ^ sz
  bit : ∀ j v, j < names.length → ((gd seen j).testBit v = true ↔ ∃ row ∈ rows, Cmp D names row ∧ row[j]? = some v)
theorem Seen.nil (sz : Nat) (D names : List Nat) : Seen sz D names [] (List.replicate names.length 0) := by
  refine ⟨by simp, fun x hx => ?_, fun j v hj => ?_⟩
  · rw [(List.mem_replicate.mp hx).2]
    exact Nat.two_pow_pos sz
  · have : gd (List.replicate names.length 0) j = 0 := gd_some (by rw [List.getElem?_replicate, if_pos hj])
    rw [this, Nat.zero_testBit]
    simp
theorem Seen.skip {sz : Nat} {D names : List Nat} {rows : List (List Nat)} {row seen : List Nat} (h : Seen sz D names rows seen) (hn : ¬ Cmp D names row) : Seen sz D names (rows ++ [row]) seen := by
  refine ⟨h.len, h.lt, fun j v hj => ?_⟩
  rw [h.bit j v hj]
  constructor
  · rintro ⟨r, hr, q⟩
    exact ⟨r, List.mem_append_left _ hr, q⟩
  · rintro ⟨r, hr, q⟩
    rcases List.mem_append.mp hr with e | e
    · exact ⟨r, e, q⟩
    · rw [List.mem_singleton.mp e] at q
      exact absurd q.1 hn
theorem Seen.add {sz : Nat} {D names : List Nat} {rows : List (List Nat)} {row seen : List Nat} (h : Seen sz D names rows seen) (hy : Cmp D names row) (hl : row.length = names.length) (hlt : Lt sz row) :
    Seen sz D names (rows ++ [row]) ((seen.zip row).map fun p => p.1 ||| 2 ^ p.2) := by
  have hlen : ((seen.zip row).map fun p => p.1 ||| 2 ^ p.2).length = names.length := by
    rw [List.length_map, List.length_zip, h.len, hl, Nat.min_self]
  have hat : ∀ j, j < names.length → gd ((seen.zip row).map fun p => p.1 ||| 2 ^ p.2) j = gd seen j ||| 2 ^ gd row j := fun j hj => by
    refine gd_some ?_
    rw [List.getElem?_map, List.getElem?_zip_eq_some.mpr (show seen[j]? = some (gd seen j, gd row j).1 ∧ row[j]? = some (gd seen j, gd row j).2 from ⟨gd_get (by rw [h.len]; exact hj), gd_get (by rw [hl]; exact hj)⟩)] <;> rfl
  refine ⟨hlen, fun x hx => ?_, fun j v hj => ?_⟩
  · obtain ⟨⟨p, q⟩, hp, rfl⟩ := List.mem_map.mp hx
    have h1 := h.lt p (List.of_mem_zip hp).1
    have h2 := hlt q (List.of_mem_zip hp).2
    exact Nat.or_lt_two_pow h1 (Nat.pow_lt_pow_right (by decide) h2)
  · rw [hat j hj, Nat.testBit_or, Bool.or_eq_true, h.bit j v hj, Nat.testBit_two_pow, decide_eq_true_iff]
    have hr : row[j]? = some (gd row j) := gd_get (by rw [hl]; exact hj)
    constructor
    · rintro (⟨r, hr', q⟩ | e)
      · exact ⟨r, List.mem_append_left _ hr', q⟩
      · exact ⟨row, List.mem_append_right _ (List.mem_singleton.mpr rfl), hy, by rw [hr, e]⟩
    · rintro ⟨r, hr', q1, q2⟩
      rcases List.mem_append.mp hr' with e | e
      · exact .inl ⟨r, e, q1, q2⟩
      · rw [List.mem_singleton.mp e, hr] at q2
        exact .inr (Option.some.inj q2)
/-- the second loop of a pass, after i names -/
structure Shr (sz n : Nat) (D : List Nat) (names seen : List Nat) (i : Nat) (D' lost : List Nat) : Prop where
  len : D'.length = n
  put : ∀ j nm, j < i → names[j]? = some nm → gd D' nm = gd seen j ∧ gd seen j ≠ 0
  old : ∀ m, m ∉ names.take i → gd D' m = gd D m
  ch : ∀ m, m ∉ lost → gd D' m = gd D m
  lt : Lt n lost
  sum : D'.sum + lost.length ≤ D.sum
  few : lost.length ≤ i
theorem Shr.zero {sz n : Nat} {D names seen : List Nat} (h : DOk sz n D) : Shr sz n D names seen 0 D [] :=
  ⟨h.len, fun _ _ h => absurd h (Nat.not_lt_zero _), fun _ _ => rfl, fun _ _ => rfl, fun _ h => absurd h List.not_mem_nil, Nat.le_refl _, Nat.le_refl _⟩
section
variable {sz n : Nat} {D D' seen lost : List Nat} {c : Cn}
theorem not_mem_take {names : List Nat} {i nm : Nat} (nd : names.Nodup) (h : names[i]? = some nm) : nm ∉ names.take i := fun hm => by
  obtain ⟨j, hj⟩ := List.mem_iff_getElem?.mp hm
  have hl := (List.getElem?_eq_some_iff.mp hj).1
  rw [List.length_take] at hl
  have hji : j < i := by omega
  rw [List.getElem?_take_of_lt hji] at hj
  have := (List.getElem?_inj (by omega) nd).mp (hj.trans h.symm)
  omega
theorem Seen.sub (hs : Seen sz D c.1 c.2 seen) {j nm : Nat} (hj : c.1[j]? = some nm) {v : Nat} (hv : (gd seen j).testBit v = true) : (gd D nm).testBit v = true := by
  obtain ⟨row, _, h1, h2⟩ := (hs.bit j v (List.getElem?_eq_some_iff.mp hj).1).mp hv
  exact h1 j nm v hj h2
theorem Shr.same {i : Nat} (h : Shr sz n D c.1 seen i D' lost) (ok : CnOk sz n c) (dok : DOk sz n D) {nm : Nat} (hn : c.1[i]? = some nm) (e : gd seen i = gd D' nm) : Shr sz n D c.1 seen (i + 1) D' lost := by
  have hnm : nm < n := ok.lt nm (List.mem_of_getElem? hn)
  have h1 : gd D' nm = gd D nm := h.old nm (not_mem_take ok.nd hn)
  refine ⟨h.len, fun j m hj hm => ?_, fun m hm => ?_, h.ch, h.lt, h.sum, Nat.le_succ_of_le h.few⟩
  · by_cases hji : j = i
    · subst hji
      have e2 : m = nm := Option.some.inj (hm.symm.trans hn)
      rw [e2, e]
      refine ⟨rfl, ?_⟩
      rw [h1]
      have := (dok.at hnm).2.1
      omega
    · exact h.put j m (by omega) hm
  · refine h.old m fun hm' => hm ?_
    rw [take_snoc hn]
    exact List.mem_append_left _ hm'
theorem Shr.put1 {i : Nat} (h : Shr sz n D c.1 seen i D' lost) (hs : Seen sz D c.1 c.2 seen) (ok : CnOk sz n c) (dok : DOk sz n D) {nm : Nat} (hn : c.1[i]? = some nm) (ne : gd seen i ≠ gd D' nm) (n0 : gd seen i ≠ 0) :
    Shr sz n D c.1 seen (i + 1) (D'.set nm (gd seen i)) (lost ++ [nm]) := by
  have hnm : nm < n := ok.lt nm (List.mem_of_getElem? hn)
  have hnl : nm < D'.length := by rw [h.len]; exact hnm
  have h1 : gd D' nm = gd D nm := h.old nm (not_mem_take ok.nd hn)
  have hle : gd seen i ≤ gd D' nm := by
    rw [h1]
    exact sub_le fun v hv => hs.sub hn hv
  refine ⟨by rw [List.length_set]; exact h.len, fun j m hj hm => ?_, fun m hm => ?_, fun m hm => ?_, fun x hx => ?_, ?_, ?_⟩
  · rw [gd_set hnl]
    by_cases hji : j = i
    · subst hji
      have e2 : m = nm := Option.some.inj (hm.symm.trans hn)
      rw [if_pos e2]
      exact ⟨rfl, n0⟩
    · have : m ≠ nm := fun e => by
        have := (List.getElem?_inj (List.getElem?_eq_some_iff.mp hm).1 ok.nd).mp (hm.trans (e ▸ hn.symm))
        omega
      rw [if_neg this]
      exact h.put j m (by omega) hm
  · rw [take_snoc hn] at hm
    have hm1 : m ≠ nm := fun e => hm (List.mem_append_right _ (List.mem_singleton.mpr e))
    rw [gd_set hnl, if_neg hm1]
    exact h.old m fun q => hm (List.mem_append_left _ q)
  · have hm1 : m ≠ nm := fun e => hm (List.mem_append_right _ (List.mem_singleton.mpr e))
    rw [gd_set hnl, if_neg hm1]
    exact h.ch m fun q => hm (List.mem_append_left _ q)
  · rcases List.mem_append.mp hx with e | e
    · exact h.lt x e
    · rw [List.mem_singleton.mp e]; exact hnm
  · have e := sum_set (D := D') (x := gd seen i) hnl
    have := h.sum
    rw [List.length_append, List.length_singleton]
    omega
  · rw [List.length_append, List.length_singleton]
    have := h.few
    omega
theorem Shr.done (h : Shr sz n D c.1 seen c.1.length D' lost) (hs : Seen sz D c.1 c.2 seen) (ok : CnOk sz n c) (dok : DOk sz n D) : ShrOk sz n D D' c lost := by
  have cases' : ∀ m, (∃ j, c.1[j]? = some m ∧ gd D' m = gd seen j ∧ gd seen j ≠ 0) ∨ (m ∉ c.1 ∧ gd D' m = gd D m) := fun m => by
    by_cases hm : m ∈ c.1
    · obtain ⟨j, hj⟩ := List.mem_iff_getElem?.mp hm
      obtain ⟨h1, h2⟩ := h.put j m (List.getElem?_eq_some_iff.mp hj).1 hj
      exact .inl ⟨j, hj, h1, h2⟩
    · exact .inr ⟨hm, h.old m (by rw [List.take_length]; exact hm)⟩
  have sub : Sub D' D := fun m v hv => by
    rcases cases' m with ⟨j, hj, e, _⟩ | ⟨_, e⟩
    · rw [e] at hv
      exact hs.sub hj hv
    · rw [e] at hv
      exact hv
  refine ⟨dok_of h.len fun m hm => ?_, sub, fun a ha hc m hm => ?_, ?_, h.ch, h.lt, h.sum⟩
  · obtain ⟨_, p1, p2⟩ := dok.at hm
    rcases cases' m with ⟨j, hj, e, ne⟩ | ⟨_, e⟩
    · rw [e]
      refine ⟨by omega, ?_⟩
      exact hs.lt _ (gd_mem (by rw [hs.len]; exact (List.getElem?_eq_some_iff.mp hj).1))
    · rw [e]; exact ⟨p1, p2⟩
  · have hm' : m < D.length := by rw [dok.len, ← h.len]; exact hm
    rcases cases' m with ⟨j, hj, e, _⟩ | ⟨_, e⟩
    · rw [e]
      refine (hs.bit j _ (List.getElem?_eq_some_iff.mp hj).1).mpr ⟨_, hc, fun j' nm v h1 h2 => ?_, ?_⟩
      · rw [List.getElem?_map, h1] at h2
        rw [← Option.some.inj h2]
        exact ha nm (by rw [dok.len]; exact ok.lt nm (List.mem_of_getElem? h1))
      · rw [List.getElem?_map, hj] <;> rfl
    · rw [e]
      exact ha m hm'
  · have hne : 0 < c.1.length := List.length_pos_iff.mpr ok.ne
    obtain ⟨h1, h2⟩ := h.put 0 _ hne (List.getElem?_eq_getElem hne)
    obtain ⟨v, hv⟩ := bit_of_ne h2
    obtain ⟨row, hr, hc, _⟩ := (hs.bit 0 v hne).mp hv
    refine ⟨row, hr, fun j nm w hj hw => ?_⟩
    have hl := (List.getElem?_eq_some_iff.mp hj).1
    obtain ⟨h3, _⟩ := h.put j nm hl hj
    rw [h3]
    exact (hs.bit j w hl).mpr ⟨row, hr, hc, hw⟩
/-- a mask is empty: nothing fits -/
theorem Seen.none (hs : Seen sz D c.1 c.2 seen) (ok : CnOk sz n c) (dok : DOk sz n D) {j : Nat} (hj : j < c.1.length) (h0 : gd seen j = 0) : ∀ a, InD D a → ¬ SatC c a := fun a ha hc => by
  have hb : (gd seen j).testBit (a (c.1[j])) = true := (hs.bit j _ hj).mpr ⟨_, hc, fun j' nm v h1 h2 => by
    rw [List.getElem?_map, h1] at h2
    rw [← Option.some.inj h2]
    exact ha nm (by rw [dok.len]; exact ok.lt nm (List.mem_of_getElem? h1)), by rw [List.getElem?_map, List.getElem?_eq_getElem hj] <;> rfl⟩
  rw [h0, Nat.zero_testBit] at hb
  cases hb
end
end G
namespace G
open PySem PySem.Spec PyProof.Rows L2
local macro_rules | `(tactic| walk_at "rd") => `(tactic| repeat (first | (refine ⟨_, rfl, ?_⟩) | (refine ⟨_, _, rfl, rfl, ?_⟩) | (refine iteT ?_) | (refine iteF ?_) | (refine ⟨_, "tuple", _, true, rfl, .tup (.inl (by assumption)), kb_tt, ?_⟩) | (refine ⟨_, "tuple", _, true, rfl, .tup (by assumption), kb_tt, ?_⟩) | (refine ⟨false, _, _, rfl, sq_t (by assumption), ?_⟩) | (refine ⟨false, _, _, rfl, sq_r (by assumption), ?_⟩) | (refine ⟨true, _, _, rfl, sq_l (by assumption), ?_⟩) | (refine ⟨false, _, _, _, _, rfl, rfl, sq_t (by assumption), at0, ?_⟩) | (refine ⟨false, _, _, _, _, rfl, rfl, sq_t (by assumption), at1, ?_⟩) | (refine ⟨false, _, _, _, _, rfl, rfl, sq_t (by assumption), (by assumption), ?_⟩) | (refine ⟨false, _, _, _, _, rfl, rfl, sq_r (by assumption), (by assumption), ?_⟩) | (refine ⟨true, _, _, _, _, rfl, rfl, sq_l (by assumption), (by assumption), ?_⟩) | (refine ⟨rfl, ?_⟩)))
/-! ### the fields of a Problem -/
def pfs (sz : Nat) (dm tl us : Addr) (base em : V) : List (Str × V) := [("size", nv sz), ("domains", .ref dm), ("told", .ref tl), ("uses", .ref us), ("base", base), ("is_empty", em)]
section
variable {sz : Nat} {dm tl us : Addr} {base em v : V}
theorem lk_size : List.lookup ("size" : Str) (pfs sz dm tl us base em) = some (nv sz) := by kernel_rfl
theorem lk_domains : List.lookup ("domains" : Str) (pfs sz dm tl us base em) = some (.ref dm) := by kernel_rfl
theorem lk_told : List.lookup ("told" : Str) (pfs sz dm tl us base em) = some (.ref tl) := by kernel_rfl
theorem lk_uses : List.lookup ("uses" : Str) (pfs sz dm tl us base em) = some (.ref us) := by kernel_rfl
theorem lk_base : List.lookup ("base" : Str) (pfs sz dm tl us base em) = some base := by kernel_rfl
theorem lk_is_empty : List.lookup ("is_empty" : Str) (pfs sz dm tl us base em) = some em := by kernel_rfl
theorem lk_m_lay : List.lookup ("lay" : Str) (pfs sz dm tl us base em) = none := by kernel_rfl
theorem lk_m_shrink : List.lookup ("shrink" : Str) (pfs sz dm tl us base em) = none := by kernel_rfl
theorem lk_m_settle : List.lookup ("settle" : Str) (pfs sz dm tl us base em) = none := by kernel_rfl
theorem lk_m_settle_base : List.lookup ("settle_base" : Str) (pfs sz dm tl us base em) = none := by kernel_rfl
theorem lk_m_start : List.lookup ("start" : Str) (pfs sz dm tl us base em) = none := by kernel_rfl
theorem lk_m_values_in : List.lookup ("values_in" : Str) (pfs sz dm tl us base em) = none := by kernel_rfl
theorem lk_m_branches : List.lookup ("branches" : Str) (pfs sz dm tl us base em) = none := by kernel_rfl
theorem lk_m_any_from : List.lookup ("any_from" : Str) (pfs sz dm tl us base em) = none := by kernel_rfl
theorem put_base : putF "base" v (pfs sz dm tl us base em) = pfs sz dm tl us v em := by kernel_rfl
theorem put_is_empty : putF "is_empty" v (pfs sz dm tl us base em) = pfs sz dm tl us base v := by kernel_rfl
theorem pfs_len : (pfs sz dm tl us base em).length < 1000 := by show 6 < 1000; decide
end
def usesOf (net : Net) (v : Nat) : List Nat := (List.range net.length).filter fun i => decide (v ∈ (net.getD i ([], [])).1)
def IsTold (A : Hp) (v : V) (c : Cn) : Prop := ∃ a nm ft k xs, v = .ref a ∧ A a = some (.tup [nm, .ref ft]) ∧ IT A nm c.1 ∧ Sq k A ft xs ∧ Rws A xs c.2
theorem Sq.same {H H' : Hp} {k : Bool} {a : Addr} {xs : List V} (h : Sq k H a xs) (s : Same H H') : Sq k H' a xs := by
  cases k with
  | true => exact s _ _ h
  | false => exact rd_same s h
theorem IsTold.same {H H' : Hp} {v : V} {c : Cn} (h : IsTold H v c) (s : Same H H') : IsTold H' v c := by
  obtain ⟨a, nm, ft, k, xs, e, h1, h2, h3, h4⟩ := h
  exact ⟨a, nm, ft, k, xs, e, s _ _ h1, h2.tx (same_tx s), h3.same s, h4.tx (same_tx s)⟩
/-- what never changes once it is built -/
structure PbS (A : Hp) (sz n : Nat) (net : Net) (dm tl us : Addr) : Prop where
  dmn : A dm = some (.lst ((List.replicate n (2 ^ sz - 1)).map nv))
  tol : ∃ ts, A tl = some (.lst ts) ∧ Paired (IsTold A) ts net
  use : ∃ uv, A us = some (.lst uv) ∧ uv.length = n ∧ ∀ v, v < n → ∃ u, uv[v]? = some (.ref u) ∧ A u = some (.lst ((usesOf net v).map nv))
theorem PbS.same {A A' : Hp} {sz n : Nat} {net : Net} {dm tl us : Addr} (h : PbS A sz n net dm tl us) (s : Same A A') : PbS A' sz n net dm tl us := by
  obtain ⟨h1, ⟨ts, h2, h3⟩, ⟨uv, h4, h5, h6⟩⟩ := h
  exact ⟨s _ _ h1, ⟨ts, s _ _ h2, paired_imp (fun _ _ q => q.same s) h3⟩, ⟨uv, s _ _ h4, h5, fun v hv => let ⟨u, a, b⟩ := h6 v hv; ⟨u, a, s _ _ b⟩⟩⟩
theorem nodup_lt {l : List Nat} (nd : l.Nodup) : ∀ {n : Nat}, (∀ x ∈ l, x < n) → l.length ≤ n := by
  intro n
  induction n generalizing l with
  | zero =>
    intro h
    cases l with
    | nil => exact Nat.le_refl _
    | cons a r => exact absurd (h a List.mem_cons_self) (Nat.not_lt_zero _)
  | succ n ih =>
    intro h
    have h1 := ih (nd.erase n) fun x hx => by
      have h2 := h x (List.mem_of_mem_erase hx)
      have h3 : x ≠ n := fun e => by
        rw [e] at hx
        exact (List.Nodup.not_mem_erase nd) hx
      omega
    rw [List.length_erase] at h1
    split at h1 <;> omega
theorem kp_updN {l p : Addr} {H H' : Hp} {o : HO} (k : Kp l H H') (h : H p = none) : Kp l H (upd H' p o) := fun b x nb e => by
  rw [upd_ne (ne_of_none e h)]
  exact k b x nb e
theorem sz_le {n : Nat} (h : n ≤ 1000000) : n ≤ sizeLine := by rw [sizeLine_eq]; omega
theorem ite_of {b : Bool} {p A B : Prop} (e : b = true ↔ p) (h1 : p → A) (h2 : ¬ p → B) : if b = true then A else B := by
  cases b with
  | true => exact iteT (h1 (e.mp rfl))
  | false => exact iteF (h2 fun q => Bool.false_ne_true (e.mpr q))
theorem rep0 (n : Nat) : (List.replicate ((n : Nat) : Int).toNat [V.int 0]).flatten = (List.replicate n 0).map nv := by
  rw [Int.toNat_natCast, List.map_replicate]
  induction n with
  | zero => rfl
  | succ n ih => rw [List.replicate_succ, List.flatten_cons, ih, List.replicate_succ] <;> rfl
/-- the bits that a row asks for -/
def bitsOf (D names row : List Nat) : List Int := (names.zip row).map fun q => if (gd D q.1).testBit q.2 then 1 else 0
theorem bitsOf_all {D names row : List Nat} (hl : row.length = names.length) : (bitsOf D names row).all (· != 0) = true ↔ Cmp D names row := by
  unfold bitsOf
  rw [List.all_map, List.all_eq_true]
  constructor
  · intro h j nm v h1 h2
    have := h (nm, v) (List.mem_of_getElem? (i := j) (List.getElem?_zip_eq_some.mpr ⟨h1, h2⟩))
    simp only [Function.comp] at this
    cases hb : (gd D nm).testBit v with
    | true => rfl
    | false => rw [hb] at this; exact absurd this (by decide)
  · rintro h ⟨nm, v⟩ hm
    obtain ⟨j, hj⟩ := List.mem_iff_getElem?.mp hm
    obtain ⟨h1, h2⟩ := List.getElem?_zip_eq_some.mp hj
    simp only [Function.comp]
    rw [h j nm v h1 h2] <;> rfl
theorem bitsOf_at {D names row : List Nat} {j nm v : Nat} (h1 : names[j]? = some nm) (h2 : row[j]? = some v) : (bitsOf D names row)[j]? = some (if (gd D nm).testBit v then 1 else 0) := by
  unfold bitsOf
  rw [List.getElem?_map, List.getElem?_zip_eq_some.mpr (show names[j]? = some (nm, v).1 ∧ row[j]? = some (nm, v).2 from ⟨h1, h2⟩)] <;> rfl
theorem ork_at {seen row : List Nat} {j m v : Nat} (h1 : seen[j]? = some m) (h2 : row[j]? = some v) : ((seen.zip row).map fun p => p.1 ||| 2 ^ p.2)[j]? = some (m ||| 2 ^ v) := by
  rw [List.getElem?_map, List.getElem?_zip_eq_some.mpr (show seen[j]? = some (m, v).1 ∧ row[j]? = some (m, v).2 from ⟨h1, h2⟩)] <;> rfl
theorem ixN_nat {n j : Nat} (h : j < n) : ixN n ((j : Nat) : Int) = some j := by
  unfold ixN
  rw [if_pos (by omega)] <;> first | rfl | simp [h]
theorem map_set {D : List Nat} {i x : Nat} : (D.map nv).set i (nv x) = (D.set i x).map nv := by rw [List.map_set]
section
variable {P : Program} {w : World} {K : PySem.W.Frag} {mg : Str → Option Value} {base : Heap}
def sp_P_shrink (C : Addr) : Sp := fun vs H Q _ => ∃ (p d : Addr) (i0 : Nat) (A : Hp) (dx : Addr) (sz n : Nat) (net : Net) (dm tl us : Addr) (bs em : V) (D : List Nat) (c : Cn),
  vs = [.ref p, .ref d, nv i0] ∧ Same A H ∧ A d = none ∧ A p = some (.ins C dx (pfs sz dm tl us bs em)) ∧ PbS A sz n net dm tl us ∧ sz ≤ 4 ∧ n ≤ 16 ∧ net[i0]? = some c ∧ CnOk sz n c ∧ DOk sz n D ∧ H d = some (.lst (D.map nv)) ∧
  (∀ H', Kp d H H' → (∀ a, InD D a → ¬ SatC c a) → Q .non H') ∧
  ∀ H' l D' lost, Kp d H H' → H' d = some (.lst (D'.map nv)) → H l = none → H' l = some (.lst (lost.map nv)) → ShrOk sz n D D' c lost → lost.length ≤ 16 → Q (.ref l) H'
theorem ok_P_shrink (T : TX K mg) : FnOk P w K mg base CX0 1 T.P_shrink.f T.P_shrink.fd ["self", "domains", "index"] (sp_P_shrink T.C) := by
  refine T.P_shrink.F.ok sc_P_shrink (fun vs H Q E h => ?_) (fun cdv A0 outer s H vs Q E hr h => ?_)
  · obtain ⟨_, _, _, _, _, _, _, _, _, _, _, _, _, _, _, rfl, _⟩ := h
    rfl
  · obtain ⟨p, d, i0, A, dx, sz, n, net, dm, tl, us, bs, em, D, c, rfl, sA, hAd, hp, pb, hsz, hn, hc, cok, dok, hd, qn, qs⟩ := h
    refine ⟨_, (pss_cons (ps_asg (pe_ix ix_any (pe_fld (pv 0) rfl) (pv 2) (fun _ _ => rfl)) (pg_tupS (n := 2) rfl (pgs_cons (pg_name (i := 3) sc_P_shrink.nd rfl (Or.inl rfl)) (pgs_cons (pg_name (i := 4) sc_P_shrink.nd rfl (Or.inl rfl)) pgs_nil))))
      (pss_cons (ps_set (i := 5) sc_P_shrink.nd rfl (.inl rfl) (pe_op op_rep (pe_lst (pa_cons pe_int pa_nil)) (pe_callB call_lenS (by rfl) T.n_len bb_len (pa_cons (pv 3) pa_nil))))
      (pss_cons (ps_for PassesOwn.never rfl (pi_sq (pv 4)) (pg_name (i := 6) sc_P_shrink.nd rfl (Or.inl rfl))
      (pss_one (ps_if (pt_val (pe_callB (cr_allI rfl) (by rfl) T.n_all bb_all (pa_cons (pe_lc (own := [("name", 8), ("value", 10)]) rfl sc_P_shrink.nd (pi_zipS (by rfl) T.n_zip (pa_cons (pv 3) (pa_cons (pv 6) pa_nil))) (blkOk_by (N := N_P_shrink) (sc := defScope s_P_shrink) (by decide +kernel)) (fun _ _ _ _ _ => (pg_tupS (n := 2) rfl (pgs_cons (pg_name (i := 8) sc_P_shrink.nd rfl (Or.inl rfl)) (pgs_cons (pg_name (i := 10) sc_P_shrink.nd rfl (Or.inl rfl)) pgs_nil)))) (fun _ _ _ _ _ => pts_nil) (fun _ _ _ _ _ => (pe_op op_and (pe_op op_shr (pe_ix ix_any (pv 1) (pv 8) (fun _ _ => rfl)) (pv 10)) pe_int))) pa_nil)))
      (pss_one (ps_setLc (i := 5) (own := [("mask", 9), ("value", 10)]) rfl sc_P_shrink.nd rfl rfl (sw_true rfl rfl rfl (by decide +kernel)) (pi_zipS (by rfl) T.n_zip (pa_cons (pv 5) (pa_cons (pv 6) pa_nil))) (blkOk_by (N := N_P_shrink) (sc := defScope s_P_shrink) (by decide +kernel)) (fun _ _ _ _ _ => (pg_tupS (n := 2) rfl (pgs_cons (pg_name (i := 9) sc_P_shrink.nd rfl (Or.inl rfl)) (pgs_cons (pg_name (i := 10) sc_P_shrink.nd rfl (Or.inl rfl)) pgs_nil)))) (fun _ _ _ _ _ => pts_nil) (fun _ _ _ _ _ => (pe_op op_or (pv 9) (pe_op op_shl pe_int (pv 10))))))
      pss_nil)))
      (pss_cons (ps_set (i := 7) sc_P_shrink.nd rfl (.inl rfl) (pe_lst pa_nil))
      (pss_cons (ps_for PassesOwn.never rfl (pi_zipS (by rfl) T.n_zip (pa_cons (pv 3) (pa_cons (pv 5) pa_nil))) (pg_tupS (n := 2) rfl (pgs_cons (pg_name (i := 8) sc_P_shrink.nd rfl (Or.inl rfl)) (pgs_cons (pg_name (i := 9) sc_P_shrink.nd rfl (Or.inl rfl)) pgs_nil)))
      (pss_one (ps_if (pt_cmpR op_ne (pv 9) (pe_ix ix_any (pv 1) (pv 8) (fun _ _ => rfl)) (nomark _))
      (pss_cons (ps_if (pt_cmpR op_eq (pv 9) pe_int (nomark _))
      (pss_one (ps_ret pe_non))
      pss_nil)
      (pss_cons (ps_asg (pv 9) (pg_sub (pv 1) (pv 8) set_list))
      (pss_one (ps_expr (pe_bm PySem.F.plainAttrs_list PySem.F.slot_list_append PySem.F.type_list_append mt_append (pv 7) (pa_cons (pv 8) pa_nil))))))
      pss_nil)))
      (pss_one (ps_ret (pv 7)))))))), ?_⟩
    obtain ⟨ts, htl, hts⟩ := pb.tol
    obtain ⟨tv, htv, ta, nm, ft, k, xs, rfl, hta, hnm, hft, hxs⟩ := paired_getR hts hc
    have hp1 := sA _ _ hp
    have htl1 := sA _ _ htl
    have hta1 := sA _ _ hta
    have hat : atI ts ((i0 : Nat) : Int) = some (V.ref ta) := at_nv htv
    obtain ⟨na, rfl, hna⟩ := hnm
    have hna1 := sA _ _ hna
    have hft1 := hft.same sA
    walk_at "rd"
    refine ⟨p, T.C, dx, _, _, rfl, hp1, T.cl, T.a_told, lk_told, ?_⟩
    walk_at "rd"
    refine ⟨ta, _, rfl, hta1, rfl, _, _, rfl, _, _, rfl, rfl, ?_⟩
    walk_at "rd"
    have hcl : c.1.length ≤ 16 := nodup_lt cok.nd (fun x hx => Nat.lt_of_lt_of_le (cok.lt x hx) hn)
    have hrl := cok.few
    have ned : d ≠ p := fun e => by
      rw [e, hp1] at hd
      cases hd
    have hnd : ∀ {b : Addr} {o : HO}, A b = some o → b ≠ d := fun e q => by
      rw [q, hAd] at e
      cases e
    refine ⟨sz_le (by decide), fun l1 nl1 => ?_⟩
    have g1 := same_new (o := .lst [V.int 0]) nl1
    have hna2 := g1 _ _ hna1
    walk_at "rd"
    refine ⟨l1, _, _, rfl, rfl, upd_same, by rw [List.length_map]; omega, by rw [List.length_map]; omega, sz_le (by rw [List.length_map]; show 1 * _ ≤ _; omega), fun sl nsl => ?_⟩
    have g2 := g1.trans (same_new (o := .lst (List.replicate ((((c.1.map nv).length : Nat) : Int)).toNat [V.int 0]).flatten) nsl)
    have hft2 := hft1.same g2
    refine ⟨_, rfl, k, ft, xs, rfl, hft2, fun J wJ => for_it wJ (fun i σ H' => ∃ sl seen y6, σ = [some (.ref p), some (.ref d), some (nv i0), some (.ref na), some (.ref ft), some (.ref sl), y6, none, none, none, none] ∧ Same H H' ∧ H sl = none ∧ H' sl = some (.lst (seen.map nv)) ∧ Seen sz D c.1 (c.2.take i) seen) ?_ (fun i σ H' _ q => ?_) (fun i x σ H1 H2 hi q y => ?_) fun σ H1 q => ?_⟩
    · refine ⟨sl, List.replicate c.1.length 0, none, rfl, g2, ?_, ?_, by rw [List.take_zero]; exact Seen.nil sz D c.1⟩
      · cases e : H sl with
        | none => rfl
        | some o =>
          have := g1 _ _ e
          rw [nsl] at this
          cases this
      · rw [upd_same, List.length_map, rep0]
    · obtain ⟨_, _, _, _, sm, _⟩ := q
      exact hft1.same sm
    · obtain ⟨sl, seen, y6, rfl, sm, nsl, hsl, hseen⟩ := q
      obtain ⟨s1, hx⟩ := yat_same y
      have sm2 := sm.trans s1
      obtain ⟨row, hrow, ra, rfl, hra⟩ := paired_get hxs hx
      obtain ⟨hrlen, hrlt⟩ := cok.rows row (List.mem_of_getElem? hrow)
      have hra2 := sm2 _ _ (sA _ _ hra)
      have hna2 := sm2 _ _ hna1
      have hd2 := sm2 _ _ hd
      have hsl2 := s1 _ _ hsl
      have hbl : (bitsOf D c.1 row).length = c.1.length := by unfold bitsOf; rw [List.length_map, List.length_zip, hrlen, Nat.min_self]
      walk_at "rd"
      refine ⟨false, false, na, ra, _, _, rfl, by rw [List.length_map, List.length_map, hrlen], sq_t hna2, sq_t hra2, fun J2 w2 D0 nD0 => lc_F w2 (fun i => ((bitsOf D c.1 row).map V.int).take i) (List.take_zero) (fun i _ => take_lt (by rw [List.length_map, hbl]; exact hcl) (by decide) i) nD0 ypr_s (fun H' sm => ⟨sq_t (sm _ _ hna2), sq_t (sm _ _ hra2)⟩) ?_ ?_⟩
      · intro j x H3 H4 Q' N hj s3 y kq _
        obtain ⟨s4, b, v1, v2, rfl, hb, h1, h2⟩ := ypair_same y
        obtain ⟨nm, h1', rfl⟩ := nv_at h1
        obtain ⟨v, h2', rfl⟩ := nv_at h2
        clear h1 h2
        have h1 := h1'
        have h2 := h2'
        have hd4 := s4 _ _ (s3 _ _ hd2)
        obtain ⟨hD, _, hDlt⟩ := dok.at (cok.lt nm (List.mem_of_getElem? h1))
        have hDa := at_nv (nv_get hD)
        refine ⟨b, _, rfl, hb, rfl, _, _, rfl, _, _, rfl, rfl, ?_⟩
        refine ⟨rfl, lcY ?_⟩
        walk_at "rd"
        refine ⟨Int.natCast_nonneg _, ?_⟩
        walk_at "rd"
        dsimp only
        rw [bitZ]
        refine kq _ _ (Same.refl _) ?_
        refine take_snoc ?_
        rw [List.getElem?_map, bitsOf_at h1 h2] <;> rfl
      · intro H3 s3 hD0
        refine ⟨D0, bitsOf D c.1 row, rfl, ?_, ?_⟩
        · rw [hD0, List.length_map, ← hbl, ← List.length_map (f := V.int), List.take_length]
        walk_at "rd"
        refine ite_of (bitsOf_all hrlen) (fun hC => ?_) fun hC => ?_
        · have sm3 := sm2.trans s3
          have hra3 := s3 _ _ hra2
          have hsl3 := s3 _ _ hsl2
          have hol : ((seen.zip row).map fun p => p.1 ||| 2 ^ p.2).length = c.1.length := by rw [List.length_map, List.length_zip, hrlen, hseen.len, Nat.min_self]
          refine ⟨_, rfl, _, rfl, true, false, sl, ra, _, _, rfl, by rw [List.length_map, List.length_map, hrlen, hseen.len], sq_l hsl3, sq_t hra3, fun J2 w2 D1 nD1 => lc_F w2 (fun i => (((seen.zip row).map fun p => p.1 ||| 2 ^ p.2).map nv).take i) (List.take_zero) (fun i _ => take_lt (by rw [List.length_map, hol]; exact hcl) (by decide) i) nD1 ypr_s (fun H' sm => ⟨sq_l (sm _ _ hsl3), sq_t (sm _ _ hra3)⟩) ?_ ?_⟩
          · intro j x H4 H5 Q' N hj s4 y kq _
            obtain ⟨s5, b, v1, v2, rfl, hb, h1, h2⟩ := ypair_same y
            obtain ⟨m, h1', rfl⟩ := nv_at h1
            obtain ⟨v, h2', rfl⟩ := nv_at h2
            clear h1 h2
            have h1 := h1'
            have h2 := h2'
            have hv : v < sz := hrlt v (List.mem_of_getElem? h2)
            refine ⟨b, _, rfl, hb, rfl, _, _, rfl, _, _, rfl, rfl, ?_⟩
            refine ⟨rfl, lcY ?_⟩
            walk_at "rd"
            refine ⟨⟨Int.natCast_nonneg _, by omega, by decide⟩, ?_⟩
            walk_at "rd"
            dsimp only
            rw [orZ]
            refine kq _ _ (Same.refl _) ?_
            refine take_snoc ?_
            rw [List.getElem?_map, ork_at h1 h2] <;> rfl
          · intro H4 s4 hD1
            refine ⟨D1, (seen.zip row).map fun p => p.1 ||| 2 ^ p.2, _, rfl, sm3.trans s4, ?_, ?_, ?_⟩
            · cases e : H D1 with
              | none => rfl
              | some o =>
                have := sm3 _ _ e
                rw [nD1] at this
                cases this
            · rw [hD1, List.length_map, hseen.len, ← hol, ← List.length_map (f := nv), List.take_length]
            · rw [take_snoc hrow]
              exact hseen.add hC hrlen hrlt
        · refine ⟨sl, seen, _, rfl, sm2.trans s3, nsl, s3 _ _ hsl2, ?_⟩
          rw [take_snoc hrow]
          exact hseen.skip hC
    · obtain ⟨sl, seen, y6, rfl, sm, nsl, hsl, hseen⟩ := q
      have hxl : xs.length = c.2.length := paired_len hxs
      rw [hxl, List.take_length] at hseen
      walk_at "rd"
      refine ⟨sz_le (by decide), fun ll nll => ?_⟩
      have sm1 := sm.trans (same_new (o := .lst []) nll)
      have hd1 := sm _ _ hd
      have e1 : ll ≠ d := fun e => by rw [e, hd1] at nll; cases nll
      have e2 : sl ≠ d := fun e => by rw [e, hd] at nsl; cases nsl
      have e3 : ll ≠ sl := fun e => by rw [e, hsl] at nll; cases nll
      have nll0 : H ll = none := by
        cases e : H ll with
        | none => rfl
        | some o =>
          have := sm _ _ e
          rw [nll] at this
          cases this
      have hsl1 := same_new (o := .lst []) nll _ _ hsl
      have hna1' := sm1 _ _ hna1
      walk_at "rd"
      refine ⟨false, true, na, sl, _, _, rfl, by rw [List.length_map, List.length_map, hseen.len], sq_t hna1', sq_l hsl1, fun J2 w2 => for_it w2 (fun i σ H' => ∃ D' lost y6 y8 y9, σ = [some (.ref p), some (.ref d), some (nv i0), some (.ref na), some (.ref ft), some (.ref sl), y6, some (.ref ll), y8, y9, none] ∧ Kp d H H' ∧ H' d = some (.lst (D'.map nv)) ∧ H' sl = some (.lst (seen.map nv)) ∧ H' ll = some (.lst (lost.map nv)) ∧ Shr sz n D c.1 seen i D' lost) ?_ (fun i σ H' _ q => ?_) (fun i x σ H1 H2 hi q y => ?_) fun σ H1 q => ?_⟩
      · exact ⟨D, [], _, _, _, rfl, same_kp sm1, sm1 _ _ hd, hsl1, upd_same, Shr.zero dok⟩
      · obtain ⟨_, _, _, _, _, _, kp, _, hsl', _, _⟩ := q
        exact ⟨sq_t (kp _ _ (hnd hna) hna1), sq_l hsl'⟩
      · obtain ⟨D', lost, y6, y8, y9, rfl, kp, hd', hsl', hll, shr⟩ := q
        obtain ⟨s2, b, v1, v2, rfl, hb, h1, h2⟩ := ypair_same y
        obtain ⟨nm, h1', rfl⟩ := nv_at h1
        obtain ⟨m, h2', rfl⟩ := nv_at h2
        have kp2 := kp.trans (same_kp s2)
        have hd2 := s2 _ _ hd'
        have hsl2 := s2 _ _ hsl'
        have hll2 := s2 _ _ hll
        have hnm := cok.lt nm (List.mem_of_getElem? h1')
        have hnl : nm < D'.length := by rw [shr.len]; exact hnm
        have hDa := at_nv (nv_get (gd_get hnl))
        have em : m = gd seen i := (gd_some h2').symm
        refine ⟨b, _, rfl, hb, rfl, _, _, rfl, _, _, rfl, rfl, ?_⟩
        walk_at "rd"
        refine ite_of (p := m ≠ gd D' nm) (by simp [nv]; omega) (fun hne => ?_) fun hne => ?_
        · walk_at "rd"
          refine ite_of (p := m = 0) (by simp [nv]) (fun h0 => ?_) fun h0 => ?_
          · walk_at "rd"
            exact qn _ kp2 (hseen.none cok dok (List.getElem?_eq_some_iff.mp h1').1 (by rw [← em, h0]))
          · walk_at "rd"
            refine ⟨d, _, _, nm, rfl, rfl, hd2, ixN_nat (by rw [List.length_map]; exact hnl), ?_⟩
            rw [map_set]
            have hll3 : upd H2 d (.lst ((D'.set nm m).map nv)) ll = some (.lst (lost.map nv)) := by rw [upd_ne e1]; exact hll2
            have hlf := shr.few
            have hi' : i < c.1.length := (List.getElem?_eq_some_iff.mp h1').1
            walk_at "rd"
            refine ⟨.inl ⟨rfl, _, SqL.of hll3⟩, ?_⟩
            walk_at "rd"
            refine ⟨ll, _, _, rfl, rfl, hll3, small_lt (m := 1000) (by rw [List.length_map]; omega), ?_⟩
            refine ⟨D'.set nm m, lost ++ [nm], _, _, _, rfl, kp_updN (kp2.trans kp_upd) nll0, ?_, ?_, ?_, ?_⟩
            · rw [upd_ne e1.symm, upd_same]
            · rw [upd_ne e3.symm, upd_ne e2]; exact hsl2
            · rw [upd_same, List.map_append] <;> rfl
            · rw [em] at hne h0 ⊢
              exact shr.put1 hseen cok dok h1' hne h0
        · refine ⟨D', lost, _, _, _, rfl, kp2, hd2, hsl2, hll2, ?_⟩
          exact shr.same cok dok h1' (by rw [← em]; exact Classical.not_not.mp hne)
      · obtain ⟨D', lost, y6, y8, y9, rfl, kp, hd', hsl', hll, shr⟩ := q
        rw [List.length_map] at shr
        walk_at "rd"
        exact qs _ _ _ _ kp hd' nll0 hll (shr.done hseen cok dok) (Nat.le_trans shr.few hcl)
end
end G
/-! Plain facts: the queue of constraints. -/
namespace G
open PySem PySem.Spec PyProof.Rows L2
theorem getD_some {α : Type} {l : List α} {k : Nat} {c d : α} (h : l[k]? = some c) : l.getD k d = c := by
  rw [List.getD_eq_getElem?_getD, h] <;> rfl
theorem mem_uses {net : Net} {v k : Nat} : k ∈ usesOf net v ↔ ∃ c, net[k]? = some c ∧ v ∈ c.1 := by
  unfold usesOf
  rw [List.mem_filter, List.mem_range, decide_eq_true_iff]
  constructor
  · rintro ⟨h1, h2⟩
    rw [getD_some (List.getElem?_eq_getElem h1)] at h2
    exact ⟨_, List.getElem?_eq_getElem h1, h2⟩
  · rintro ⟨c, h1, h2⟩
    rw [getD_some h1]
    exact ⟨(List.getElem?_eq_some_iff.mp h1).1, h2⟩
theorem uses_lt {net : Net} {v k : Nat} (h : k ∈ usesOf net v) : k < net.length := by
  obtain ⟨c, h1, _⟩ := mem_uses.mp h
  exact (List.getElem?_eq_some_iff.mp h1).1
theorem uses_nodup (net : Net) (v : Nat) : (usesOf net v).Nodup := List.nodup_range.filter _
theorem uses_len {net : Net} {v : Nat} : (usesOf net v).length ≤ net.length := nodup_lt (uses_nodup net v) fun _ h => uses_lt h
theorem Wk.keep {sz n : Nat} {D D' : List Nat} {c c' : Cn} {lost : List Nat} (h : Wk D c) (s : ShrOk sz n D D' c' lost) (hn : ∀ nm ∈ c.1, nm ∉ lost) : Wk D' c := by
  obtain ⟨row, hr, hc⟩ := h
  refine ⟨row, hr, fun j nm v h1 h2 => ?_⟩
  rw [s.ch nm (hn nm (List.mem_of_getElem? h1))]
  exact hc j nm v h1 h2
def kk (k : Nat) : Key := Sum.inl (k : Int)
theorem kk_inj {a b : Nat} (h : kk a = kk b) : a = b := by
  unfold kk at h
  injection h with h
  omega
theorem kk_mem {k : Nat} {W : List Nat} : kk k ∈ W.map kk ↔ k ∈ W := by
  constructor
  · intro h
    obtain ⟨a, ha, e⟩ := List.mem_map.mp h
    rw [← kk_inj e]
    exact ha
  · exact fun h => List.mem_map.mpr ⟨k, h, rfl⟩
/-- the dict's keys are those of W -/
def QOk (kvs : List (Key × V)) (W : List Nat) : Prop := (kvs.map (·.1)).Perm (W.map kk)
theorem QOk.mem {kvs : List (Key × V)} {W : List Nat} (h : QOk kvs W) {k : Nat} : kk k ∈ kvs.map (·.1) ↔ k ∈ W := by
  rw [h.mem_iff, kk_mem]
theorem QOk.none {kvs : List (Key × V)} {W : List Nat} (h : QOk kvs W) {k : Nat} (hk : k ∉ W) : valV kvs (kk k) = none := by
  cases e : valV kvs (kk k) with
  | none => rfl
  | some v => exact absurd (h.mem.mp (valV_in e)) hk
theorem QOk.some {kvs : List (Key × V)} {W : List Nat} (h : QOk kvs W) {k : Nat} (hk : k ∈ W) : ∃ v, valV kvs (kk k) = some v := by
  cases e : valV kvs (kk k) with
  | none => exact absurd (h.mem.mpr hk) (valV_not e)
  | some v => exact ⟨v, rfl⟩
theorem QOk.isSome {kvs : List (Key × V)} {W : List Nat} (h : QOk kvs W) {k : Nat} : (!(valV kvs (kk k)).isSome) = true ↔ k ∉ W := by
  by_cases hk : k ∈ W
  · obtain ⟨v, e⟩ := h.some hk
    rw [e]
    exact ⟨fun q => Bool.noConfusion q, fun q => absurd hk q⟩
  · rw [h.none hk]
    exact ⟨fun _ => hk, fun _ => rfl⟩
theorem QOk.len {kvs : List (Key × V)} {W : List Nat} (h : QOk kvs W) : kvs.length = W.length := by
  have := h.length_eq
  rwa [List.length_map, List.length_map] at this
theorem putK_fresh {kvs : List (Key × V)} {k : Key} {v : V} (h : valV kvs k = none) : putK kvs k v = kvs ++ [(k, v)] := by
  unfold putK
  rw [valV_any, h]
  exact if_neg Bool.false_ne_true
theorem QOk.put {kvs : List (Key × V)} {W : List Nat} (h : QOk kvs W) {k : Nat} (hk : k ∉ W) (v : V) : QOk (putK kvs (kk k) v) (W ++ [k]) := by
  unfold QOk
  rw [putK_fresh (h.none hk), List.map_append, List.map_append]
  exact h.append (.refl _)
theorem drop_keys {kvs : List (Key × V)} {k : Key} : (dropK kvs k).map (·.1) = (kvs.map (·.1)).filter fun x => decide (x ≠ k) := by
  unfold dropK
  rw [List.filter_map] <;> rfl
theorem QOk.drop {kvs : List (Key × V)} {W : List Nat} {k : Nat} (h : QOk kvs (W ++ [k])) (nd : (W ++ [k]).Nodup) : QOk (dropK kvs (kk k)) W := by
  have hk : k ∉ W := fun q => (List.nodup_append.mp nd).2.2 k q k (List.mem_singleton.mpr rfl) rfl
  unfold QOk
  rw [drop_keys]
  refine (h.filter _).trans ?_
  rw [List.map_append, List.filter_append, List.map_singleton]
  have e1 : [kk k].filter (fun x => decide (x ≠ kk k)) = [] := by simp
  have e2 : (W.map kk).filter (fun x => decide (x ≠ kk k)) = W.map kk := by
    rw [List.filter_eq_self]
    intro x hx
    obtain ⟨a, ha, rfl⟩ := List.mem_map.mp hx
    exact decide_eq_true fun e => hk (by rw [← kk_inj e]; exact ha)
  rw [e1, e2, List.append_nil]
/-- the domains after a settlement -/
structure SetOk (sz n : Nat) (net : Net) (D D' : List Nat) : Prop where
  ok : DOk sz n D'
  sub : Sub D' D
  keep : ∀ a, InD D a → (∀ c ∈ net, SatC c a) → InD D' a
  sum : D'.sum ≤ D.sum
theorem SetOk.refl {sz n : Nat} {net : Net} {D : List Nat} (h : DOk sz n D) : SetOk sz n net D D := ⟨h, fun _ _ h => h, fun _ h _ => h, Nat.le_refl _⟩
theorem SetOk.step {sz n : Nat} {net : Net} {D D1 D2 : List Nat} {c : Cn} {lost : List Nat} (h : SetOk sz n net D D1) (hc : c ∈ net) (s : ShrOk sz n D1 D2 c lost) : SetOk sz n net D D2 :=
  ⟨s.ok, fun i v q => h.sub i v (s.sub i v q), fun a ha hs => s.keep a (h.keep a ha hs) (hs c hc), by have := s.sum; have := h.sum; omega⟩
theorem nodup_snoc {W : List Nat} {k : Nat} (nd : W.Nodup) (h : k ∉ W) : (W ++ [k]).Nodup := by
  rw [List.nodup_append]
  refine ⟨nd, by simp, fun a ha b hb e => ?_⟩
  rw [List.mem_singleton.mp hb] at e
  exact h (e ▸ ha)
end G
namespace G
open PySem PySem.Spec PyProof.Rows L2
local macro_rules | `(tactic| walk_at "rd") => `(tactic| repeat (first | (refine ⟨_, rfl, ?_⟩) | (refine ⟨_, _, rfl, rfl, ?_⟩) | (refine iteT ?_) | (refine iteF ?_) | (refine ⟨_, "tuple", _, true, rfl, .tup (.inl (by assumption)), kb_tt, ?_⟩) | (refine ⟨_, "tuple", _, true, rfl, .tup (by assumption), kb_tt, ?_⟩) | (refine ⟨false, _, _, rfl, sq_t (by assumption), ?_⟩) | (refine ⟨false, _, _, rfl, sq_r (by assumption), ?_⟩) | (refine ⟨true, _, _, rfl, sq_l (by assumption), ?_⟩) | (refine ⟨false, _, _, _, _, rfl, rfl, sq_t (by assumption), at0, ?_⟩) | (refine ⟨false, _, _, _, _, rfl, rfl, sq_t (by assumption), at1, ?_⟩) | (refine ⟨false, _, _, _, _, rfl, rfl, sq_t (by assumption), (by assumption), ?_⟩) | (refine ⟨false, _, _, _, _, rfl, rfl, sq_r (by assumption), (by assumption), ?_⟩) | (refine ⟨true, _, _, _, _, rfl, rfl, sq_l (by assumption), (by assumption), ?_⟩) | (refine ⟨rfl, ?_⟩)))
theorem dc_R {J : It} {n : Nat} {G : Hp → Prop} {Y : Nat → Hp → V → Hp → Prop} (w : Walk J n G Y) {g : TG} {tt : TT} {tk tv : TE} {vs : List Nat} {σ : L2.St} {H1 : Hp} {D : Addr} {Qd : Hp → Prop} (Pv : Nat → Hp → Prop) (h0 : Pv 0 (upd H1 D (.dK []))) (hG : ∀ i H, i ≤ n → Pv i H → G H)
    (hs : ∀ i x H H', i < n → Pv i H → Y i H x H' → g x (wipe σ vs) H' fun σ2 H2 => wipe σ2 vs = wipe σ vs ∧ tt σ2 H2 fun b H3 =>
      if b = true then tk σ2 H3 fun y H4 => tv σ2 H4 fun z H5 => ∃ kvs k, y = kV k ∧ H5 D = some (.dK kvs) ∧ kvs.length < sizeLine ∧ Pv (i + 1) (upd H5 D (.dK (putK kvs k z))) else Pv (i + 1) H3) (hd : ∀ H, Pv n H → Qd H) :
    ∃ W : Nat → Nat → Hp → Prop, (∃ m, W 0 m (upd H1 D (.dK []))) ∧ ∀ i m H, W i m H →
      (J.stop i H ∧ Qd H) ∨ (J.go i H ∧ ∃ Nx : Hp → Prop, (∀ H', Nx H' → ∃ m', m' < m ∧ W (i + 1) m' H') ∧ ∀ x H', J.yld i H x H' → g x (wipe σ vs) H' fun σ2 H2 => wipe σ2 vs = wipe σ vs ∧ tt σ2 H2 fun b H3 =>
        if b = true then tk σ2 H3 fun y H4 => tv σ2 H4 fun z H5 => ∃ kvs k, y = kV k ∧ H5 D = some (.dK kvs) ∧ kvs.length < sizeLine ∧ Nx (upd H5 D (.dK (putK kvs k z))) else Nx H3) := by
  refine ⟨fun i m H => m + i = n ∧ Pv i H, ⟨n, rfl, h0⟩, fun i m H p => ?_⟩
  obtain ⟨e, p⟩ := p
  have q := hG i H (by omega) p
  cases m with
  | zero =>
    have e' : i = n := by omega
    subst e'
    exact .inl ⟨w.stops H q, hd H p⟩
  | succ m =>
    have hlt : i < n := by omega
    exact .inr ⟨w.goes i H hlt q, Pv (i + 1), fun H' p' => ⟨m, Nat.lt_succ_self m, by omega, p'⟩, fun x H' y => hs i x H H' hlt p (w.yields i H x H' hlt q y)⟩
/-- all but what stands at d and w stays -/
def K2 (d w : Addr) (H H' : Hp) : Prop := ∀ b o, b ≠ d → b ≠ w → H b = some o → H' b = some o
theorem K2.refl (d w : Addr) (H : Hp) : K2 d w H H := fun _ _ _ _ h => h
theorem K2.trans {d w : Addr} {H H1 H2 : Hp} (a : K2 d w H H1) (b : K2 d w H1 H2) : K2 d w H H2 := fun c o n m h => b c o n m (a c o n m h)
theorem same_k2 {d w : Addr} {H H' : Hp} (s : Same H H') : K2 d w H H' := fun b o _ _ h => s b o h
theorem kp_k2 {d w : Addr} {H H' : Hp} (s : Kp d H H') : K2 d w H H' := fun b o n _ h => s b o n h
theorem kpw_k2 {d w : Addr} {H H' : Hp} (s : Kp w H H') : K2 d w H H' := fun b o _ n h => s b o n h
theorem K2.updN {d w q : Addr} {H H' : Hp} {o : HO} (k : K2 d w H H') (h : H q = none) : K2 d w H (upd H' q o) := fun b x n m e => by
  rw [upd_ne (ne_of_none e h)]
  exact k b x n m e
theorem K2.same {A : Hp} {d w : Addr} {H H' : Hp} (k : K2 d w H H') (s : Same A H) (h1 : A d = none) (h2 : A w = none) : Same A H' := fun b o e => k b o (ne_of_none e h1) (ne_of_none e h2) (s b o e)
theorem Kp.none {l b : Addr} {H H' : Hp} (k : Kp l H H') (n : b ≠ l) (h : H' b = none) : H b = none := by
  cases e : H b with
  | none => rfl
  | some o =>
    rw [k b o n e] at h
    cases h
theorem K2.none {d w b : Addr} {H H' : Hp} (k : K2 d w H H') (n1 : b ≠ d) (n2 : b ≠ w) (h : H' b = none) : H b = none := by
  cases e : H b with
  | none => rfl
  | some o =>
    rw [k b o n1 n2 e] at h
    cases h
theorem none_same {b : Addr} {H H' : Hp} (k : Same H H') (h : H' b = none) : H b = none := by
  cases e : H b with
  | none => rfl
  | some o =>
    rw [k b o e] at h
    cases h
theorem ne_some {b c : Addr} {H : Hp} {o : HO} (h : H b = none) (e : H c = some o) : b ≠ c := fun q => by
  rw [q, e] at h
  cases h
section
variable {P : Program} {w : World} {K : PySem.W.Frag} {mg : Str → Option Value} {base : Heap}
structure Prb (C : Addr) (A : Hp) (p : Addr) (sz n : Nat) (net : Net) (dx dm tl us : Addr) (bs em : V) : Prop where
  at_ : A p = some (.ins C dx (pfs sz dm tl us bs em))
  s : PbS A sz n net dm tl us
  hsz : sz ≤ 4
  hn : n ≤ 16
  few : net.length ≤ 200
  ok : NetOk sz n net
def sp_P_settle (C : Addr) : Sp := fun vs H Q _ => ∃ (p d wt : Addr) (A : Hp) (dx : Addr) (sz n : Nat) (net : Net) (dm tl us : Addr) (bs em : V) (D W : List Nat),
  vs = [.ref p, .ref d, .ref wt] ∧ Same A H ∧ A d = none ∧ A wt = none ∧ d ≠ wt ∧ Prb C A p sz n net dx dm tl us bs em ∧ DOk sz n D ∧ H d = some (.lst (D.map nv)) ∧ H wt = some (.lst (W.map nv)) ∧
  W.Nodup ∧ (∀ x ∈ W, x < net.length) ∧ (∀ (k : Nat) (c : Cn), net[k]? = some c → k ∈ W ∨ Wk D c) ∧
  (∀ H', K2 d wt H H' → (∀ a, InD D a → ¬ ∀ c ∈ net, SatC c a) → Q (.bl false) H') ∧
  ∀ H' D', K2 d wt H H' → H' d = some (.lst (D'.map nv)) → SetOk sz n net D D' → (∀ c ∈ net, Wk D' c) → Q (.bl true) H'
theorem ok_P_settle (T : TX K mg) : FnOk P w K mg base CX0 2 T.P_settle.f T.P_settle.fd ["self", "domains", "waiting"] (sp_P_settle T.C) := by
  refine T.P_settle.F.ok sc_P_settle (fun vs H Q E h => ?_) (fun cdv A0 outer s H vs Q E hr h => ?_)
  · obtain ⟨_, _, _, _, _, _, _, _, _, _, _, _, _, _, _, rfl, _⟩ := h
    rfl
  · obtain ⟨p, d, wt, A, dx, sz, n, net, dm, tl, us, bs, em, D, W, rfl, sA, hAd, hAw, hdw, pr, dok, hd, hwt, nd, hlt, hst, qf, qt⟩ := h
    refine ⟨_, (pss_cons (ps_setDc (i := 3) (own := [("index", 4)]) rfl sc_P_settle.nd rfl rfl (sw_trueD rfl rfl rfl (by decide +kernel)) (pi_sq (pv 2)) (blkOk_by (N := N_P_settle) (sc := defScope s_P_settle) (by decide +kernel)) (fun _ _ _ _ _ => (pg_name (i := 4) sc_P_settle.nd rfl (Or.inl rfl))) (fun _ _ _ _ _ => pts_nil) (fun _ _ _ _ _ => (pv 4)) (fun _ _ _ _ _ => pe_bl))
      (pss_cons (ps_while PassesOwn.never (pt_cmpR (op_neE (by exact hr.units0)) (pv 2) (pe_lst pa_nil) (nomark _))
      (pss_cons (ps_set (i := 4) sc_P_settle.nd rfl (.inl rfl) (pe_bm0 PySem.F.plainAttrs_list PySem.F.slot_list_pop PySem.F.type_list_pop mt_pop (pv 2)))
      (pss_cons (ps_expr (pe_dpop2 (pv 3) (pv 4) pe_non ⟨rfl, rfl, rfl, rfl⟩))
      (pss_cons (ps_set (i := 5) sc_P_settle.nd rfl (.inl rfl) (pe_meth (pv 0) T.cl T.P_shrink.m (ok_P_shrink T) (hr.mono (by decide)) T.P_shrink.b .nil pass0 (pa_cons (pv 1) (pa_cons (pv 4) pa_nil))))
      (pss_cons (ps_if (pt_cmpR op_isN (pv 5) pe_non (nomark _))
      (pss_one (ps_ret pe_bl))
      pss_nil)
      (pss_one (ps_for PassesOwn.never rfl (pi_sq (pv 5)) (pg_name (i := 6) sc_P_settle.nd rfl (Or.inl rfl))
      (pss_one (ps_for PassesOwn.never rfl (pi_sq (pe_ix ix_any (pe_fld (pv 0) rfl) (pv 6) (fun _ _ => rfl))) (pg_name (i := 7) sc_P_settle.nd rfl (Or.inl rfl))
      (pss_one (ps_if (pt_cmp (pc_dnotin (by exact hu_of hr) (pv 7) (pv 3)))
      (pss_cons (ps_dput (by exact hu_of hr) (pv 3) (pv 7) pe_bl rfl)
      (pss_one (ps_expr (pe_bm PySem.F.plainAttrs_list PySem.F.slot_list_append PySem.F.type_list_append mt_append (pv 2) (pa_cons (pv 7) pa_nil)))))
      pss_nil)))))))))))
      (pss_one (ps_ret pe_bl)))), ?_⟩
    have hp1 := sA _ _ pr.at_
    have hWl : W.length ≤ 200 := Nat.le_trans (nodup_lt nd hlt) pr.few
    obtain ⟨uv, hus, huv, huse⟩ := pr.s.use
    refine ⟨_, rfl, true, wt, _, rfl, hwt, fun J wJ D0 nD0 => dc_R wJ (fun i H' => K2 d wt H H' ∧ H' d = some (.lst (D.map nv)) ∧ H' wt = some (.lst (W.map nv)) ∧ ∃ kvs, H' D0 = some (.dK kvs) ∧ QOk kvs (W.take i)) ?_ (fun i H' _ q => q.2.2.1) (fun i x H1 H2 hi q y => ?_) fun H1 q => ?_⟩
    · have g := same_new (o := .dK []) nD0
      exact ⟨same_k2 g, g _ _ hd, g _ _ hwt, [], upd_same, by rw [List.take_zero]; exact .refl _⟩
    · obtain ⟨k2, hd1, hw1, kvs, hD0, hq⟩ := q
      obtain ⟨s1, hx⟩ := yat_same y
      obtain ⟨k, hk, rfl⟩ := nv_at hx
      have hkn : k ∉ W.take i := not_mem_take nd hk
      refine ⟨rfl, yes_ ?_⟩
      rw [if_pos rfl]
      walk_at "rd"
      have l1 := hq.len
      rw [List.length_take] at l1
      refine ⟨kvs, kk k, rfl, s1 _ _ hD0, small_lt (m := 1000) (by omega), K2.updN (k2.trans (same_k2 s1)) nD0, ?_, ?_, _, upd_same, ?_⟩
      · rw [upd_ne (ne_some nD0 hd).symm]; exact s1 _ _ hd1
      · rw [upd_ne (ne_some nD0 hwt).symm]; exact s1 _ _ hw1
      · rw [take_snoc hk]
        exact hq.put hkn _
    · obtain ⟨k2, hd1, hw1, kvs, hD0, hq⟩ := q
      rw [List.length_map, List.take_length] at hq
      walk_at "rd"
      obtain ⟨W0, hW0⟩ : ∃ W0 : Nat → L2.St → Hp → Prop, W0 = fun m σ H' => ∃ D' W' kvs y4 y5 y6 y7, m = D'.sum * 201 + W'.length ∧ σ = [some (.ref p), some (.ref d), some (.ref wt), some (.ref D0), y4, y5, y6, y7] ∧ K2 d wt H H' ∧ H' d = some (.lst (D'.map nv)) ∧ H' wt = some (.lst (W'.map nv)) ∧ H' D0 = some (.dK kvs) ∧ QOk kvs W' ∧ W'.Nodup ∧ (∀ x ∈ W', x < net.length) ∧ SetOk sz n net D D' ∧ ∀ (k : Nat) (c : Cn), net[k]? = some c → k ∈ W' ∨ Wk D' c := ⟨_, rfl⟩
      refine ⟨W0, ⟨D.sum * 201 + W.length, by rw [hW0]; exact ⟨D, W, kvs, _, _, _, _, rfl, rfl, k2, hd1, hw1, hD0, hq, nd, hlt, SetOk.refl dok, hst⟩⟩, fun m σ H1 q => ?_⟩
      clear k2 hd1 hw1 hD0 hq
      rw [hW0] at q
      obtain ⟨D', W', kvs, y4, y5, y6, y7, emm, rfl, k2, hd1, hw1, hD0, hq, nd', hlt', sok, hst'⟩ := q
      have sA1 : Same A H1 := k2.same sA hAd hAw
      have e1 : D0 ≠ d := ne_some nD0 hd
      have e2 : D0 ≠ wt := ne_some nD0 hwt
      walk_at "rd"
      refine ⟨sz_le (by decide), fun l nl => ?_⟩
      walk_at "rd"
      have g1 := same_new (o := .lst []) nl
      refine ⟨true, wt, l, _, rfl, rfl, sq_l (g1 _ _ hw1), sq_l upd_same, ?_⟩
      walk_at "rd"
      refine ite_of (p := W' ≠ []) (by cases W' <;> simp) (fun hne => ?_) fun hne => ?_
      · obtain ⟨W1, k, rfl⟩ : ∃ W1 k, W' = W1 ++ [k] := ⟨W'.dropLast, W'.getLast hne, (List.dropLast_concat_getLast hne).symm⟩
        have hW1 : ((W1 ++ [k]).map nv).dropLast = W1.map nv := by rw [List.map_append, List.map_singleton, List.dropLast_concat]
        have hk : k < net.length := hlt' k (List.mem_append_right _ (List.mem_singleton.mpr rfl))
        have hkW : k ∉ W1 := fun q => (List.nodup_append.mp nd').2.2 k q k (List.mem_singleton.mpr rfl) rfl
        obtain ⟨c, hc⟩ : ∃ c, net[k]? = some c := ⟨_, List.getElem?_eq_getElem hk⟩
        have hcm := List.mem_of_getElem? hc
        have hw2 := g1 _ _ hw1
        generalize hH2 : upd H1 l (.lst []) = H2 at g1 hw2
        have g1' := g1
        clear hH2
        refine ⟨fun σ' H' => ∃ m', m' < m ∧ W0 m' σ' H', fun _ _ h => h, ?_⟩
        walk_at "rd"
        refine ⟨.inl ⟨rfl, _, SqL.of hw2⟩, ?_⟩
        refine ⟨wt, _, nv k, rfl, rfl, hw2, by rw [List.map_append, List.length_append, List.map_singleton]; simp, ?_⟩
        rw [hW1]
        have sA2 : Same A (upd H2 wt (.lst (W1.map nv))) := same_upd (sA1.trans g1) hAw
        have k22 : K2 d wt H (upd H2 wt (.lst (W1.map nv))) := (k2.trans (same_k2 g1)).trans (kpw_k2 kp_upd)
        have hd2 : upd H2 wt (.lst (W1.map nv)) d = some (.lst (D'.map nv)) := by rw [upd_ne hdw]; exact g1 _ _ hd1
        have hD2 : upd H2 wt (.lst (W1.map nv)) D0 = some (.dK kvs) := by rw [upd_ne e2]; exact g1 _ _ hD0
        have hw3 : upd H2 wt (.lst (W1.map nv)) wt = some (.lst (W1.map nv)) := upd_same
        generalize upd H2 wt (.lst (W1.map nv)) = H3 at sA2 k22 hd2 hD2 hw3
        clear g1 g1' hw2 hw1 hd1 hD0 sA1 k2
        walk_at "rd"
        refine ⟨.inl ⟨_, .inl hD2⟩, ?_⟩
        walk_at "rd"
        refine ⟨kvs, kk k, hD2, rfl, fun v hv => ?_, fun hv => ?_⟩
        · have hq2 := hq.drop nd'
          have sA3 : Same A (upd H3 D0 (.dK (dropK kvs (kk k)))) := same_upd sA2 (none_same sA nD0)
          have k23 : K2 d wt H (upd H3 D0 (.dK (dropK kvs (kk k)))) := k22.updN nD0
          have hd3 : upd H3 D0 (.dK (dropK kvs (kk k))) d = some (.lst (D'.map nv)) := by rw [upd_ne e1.symm]; exact hd2
          have hw4 : upd H3 D0 (.dK (dropK kvs (kk k))) wt = some (.lst (W1.map nv)) := by rw [upd_ne e2.symm]; exact hw3
          have hD3 : upd H3 D0 (.dK (dropK kvs (kk k))) D0 = some (.dK (dropK kvs (kk k))) := upd_same
          generalize upd H3 D0 (.dK (dropK kvs (kk k))) = H4 at sA3 k23 hd3 hw4 hD3
          generalize dropK kvs (kk k) = kv2 at hq2 hD3
          clear hD2 hw3 hd2 k22 sA2 hq hv
          have nd1 : W1.Nodup := (List.nodup_append.mp nd').1
          have hlt1 : ∀ x ∈ W1, x < net.length := fun x hx => hlt' x (List.mem_append_left _ hx)
          walk_at "rd"
          refine ⟨p, dx, _, rfl, sA3 _ _ pr.at_, lk_m_shrink, ?_⟩
          walk_at "rd"
          refine ⟨p, d, k, A, dx, sz, n, net, dm, tl, us, bs, em, D', c, rfl, sA3, hAd, pr.at_, pr.s, pr.hsz, pr.hn, hc, pr.ok c hcm, sok.ok, hd3, fun H5 kp hno => ?_, fun H5 l D2 lost kp hd5 nl hl shr hll => ?_⟩
          · walk_at "rd"
            exact qf _ (k23.trans (kp_k2 kp)) fun a ha hs => hno a (sok.keep a ha hs) (hs c hcm)
          · walk_at "rd"
            have l1 : l ≠ d := ne_some nl hd3
            have l2 : l ≠ wt := ne_some nl hw4
            have l3 : l ≠ D0 := ne_some nl hD3
            have hl0 : H l = none := k23.none l1 l2 nl
            have hk5 : k < net.length := hk
            refine fun J wJ => for_it wJ (fun i σ H' => ∃ W2 kv3 y6 y7, σ = [some (.ref p), some (.ref d), some (.ref wt), some (.ref D0), some (nv k), some (.ref l), y6, y7] ∧ K2 d wt H H' ∧ H' d = some (.lst (D2.map nv)) ∧ H' l = some (.lst (lost.map nv)) ∧ H' wt = some (.lst (W2.map nv)) ∧ H' D0 = some (.dK kv3) ∧ QOk kv3 W2 ∧ W2.Nodup ∧ (∀ x ∈ W2, x < net.length) ∧ (∀ x ∈ W1, x ∈ W2) ∧ (∀ nm ∈ lost.take i, ∀ x ∈ usesOf net nm, x ∈ W2) ∧ (i = 0 → W2 = W1)) ?_ (fun i σ H' _ q => ?_) (fun i x σ H6 H7 hi q y => ?_) fun σ H6 q => ?_
            · exact ⟨W1, kv2, _, _, rfl, k23.trans (kp_k2 kp), hd5, hl, kp _ _ hdw.symm hw4, kp _ _ e1 hD3, hq2, nd1, hlt1, fun _ h => h, fun _ h => absurd h (by rw [List.take_zero]; exact List.not_mem_nil), fun _ => rfl⟩
            · obtain ⟨_, _, _, _, _, _, _, hl', _⟩ := q
              exact sq_l hl'
            · obtain ⟨W2, kv3, y6, y7, rfl, k2', hd', hl', hw', hD', hq', nd', hlt', hsub, huse', _⟩ := q
              obtain ⟨s1, hx⟩ := yat_same y
              obtain ⟨nm, hnm, rfl⟩ := nv_at hx
              have k2'' := k2'.trans (same_k2 s1)
              have sA6 : Same A H7 := k2''.same sA hAd hAw
              obtain ⟨u, hu1, hu2⟩ := huse nm (shr.lt nm (List.mem_of_getElem? hnm))
              have hu3 := sA6 _ _ hu2
              have hus6 := sA6 _ _ hus
              have hat := at_nv hu1
              walk_at "rd"
              refine ⟨p, T.C, dx, _, _, rfl, sA6 _ _ pr.at_, T.cl, T.a_uses, lk_uses, ?_⟩
              walk_at "rd"
              refine fun J2 w2 => for_it w2 (fun i2 σ H' => ∃ W2 kv3 y7, σ = [some (.ref p), some (.ref d), some (.ref wt), some (.ref D0), some (nv k), some (.ref l), some (nv nm), y7] ∧ K2 d wt H H' ∧ H' d = some (.lst (D2.map nv)) ∧ H' l = some (.lst (lost.map nv)) ∧ H' wt = some (.lst (W2.map nv)) ∧ H' D0 = some (.dK kv3) ∧ QOk kv3 W2 ∧ W2.Nodup ∧ (∀ x ∈ W2, x < net.length) ∧ (∀ x ∈ W1, x ∈ W2) ∧ (∀ nm ∈ lost.take i, ∀ x ∈ usesOf net nm, x ∈ W2) ∧ ∀ x ∈ (usesOf net nm).take i2, x ∈ W2) ?_ (fun i σ H' _ q => ?_) (fun i2 x σ H8 H9 hi q y => ?_) fun σ H8 q => ?_
              · exact ⟨W2, kv3, _, rfl, k2'', s1 _ _ hd', s1 _ _ hl', s1 _ _ hw', s1 _ _ hD', hq', nd', hlt', hsub, huse', fun _ h => absurd h (by rw [List.take_zero]; exact List.not_mem_nil)⟩
              · obtain ⟨_, _, _, _, k2, _⟩ := q
                exact sq_l (k2.same sA hAd hAw _ _ hu2)
              · clear hq' nd' hlt' hsub huse' k2' hd' hl' hw' hD'
                obtain ⟨W2, kv3, y7, rfl, k2', hd', hl', hw', hD', hq', nd', hlt', hsub, huse', hin⟩ := q
                obtain ⟨s2, hx2⟩ := yat_same y
                obtain ⟨o, ho, rfl⟩ := nv_at hx2
                have hDs := s2 _ _ hD'
                have hws := s2 _ _ hw'
                have hol : o < net.length := uses_lt (List.mem_of_getElem? ho)
                walk_at "rd"
                refine ⟨D0, valV kv3 (kk o), rfl, .inl ⟨kv3, kk o, .inl hDs, rfl, rfl⟩, ?_⟩
                walk_at "rd"
                refine ite_of hq'.isSome (fun hno => ?_) fun hyes => ?_
                · have hl2 : W2.length ≤ 200 := Nat.le_trans (nodup_lt nd' hlt') pr.few
                  walk_at "rd"
                  refine ⟨D0, _, rfl, .inl ⟨kv3, kk o, hDs, rfl, small_lt (m := 1000) (by rw [hq'.len]; omega), rfl⟩, ?_⟩
                  have hws2 : upd H9 D0 (.dK (putK kv3 (kk o) (.bl true))) wt = some (.lst (W2.map nv)) := by rw [upd_ne e2.symm]; exact hws
                  walk_at "rd"
                  refine ⟨.inl ⟨rfl, _, SqL.of hws2⟩, ?_⟩
                  walk_at "rd"
                  refine ⟨wt, _, _, rfl, rfl, hws2, small_lt (m := 1000) (by rw [List.length_map]; omega), ?_⟩
                  refine ⟨W2 ++ [o], putK kv3 (kk o) (.bl true), _, rfl, ((k2'.trans (same_k2 s2)).updN nD0).trans (kpw_k2 kp_upd), ?_, ?_, ?_, ?_, hq'.put hno _, nodup_snoc nd' hno, fun x hx => ?_, fun x hx => List.mem_append_left _ (hsub x hx), fun a ha x hx => List.mem_append_left _ (huse' a ha x hx), fun x hx => ?_⟩
                  · rw [upd_ne hdw, upd_ne e1.symm]; exact s2 _ _ hd'
                  · rw [upd_ne l2, upd_ne l3]; exact s2 _ _ hl'
                  · rw [upd_same, List.map_append] <;> rfl
                  · rw [upd_ne e2, upd_same]
                  · rcases List.mem_append.mp hx with e | e
                    · exact hlt' x e
                    · rw [List.mem_singleton.mp e]; exact hol
                  · rw [take_snoc ho] at hx
                    rcases List.mem_append.mp hx with e | e
                    · exact List.mem_append_left _ (hin x e)
                    · exact List.mem_append_right _ e
                · have hyes := Classical.not_not.mp hyes
                  refine ⟨W2, kv3, _, rfl, k2'.trans (same_k2 s2), s2 _ _ hd', s2 _ _ hl', hws, hDs, hq', nd', hlt', hsub, huse', fun x hx => ?_⟩
                  rw [take_snoc ho] at hx
                  rcases List.mem_append.mp hx with e | e
                  · exact hin x e
                  · rw [List.mem_singleton.mp e]; exact hyes
              · clear hq' nd' hlt' hsub huse' k2' hd' hl' hw' hD'
                obtain ⟨W2, kv3, y7, rfl, k2', hd', hl', hw', hD', hq', nd', hlt', hsub, huse', hin⟩ := q
                rw [List.length_map, List.take_length] at hin
                refine ⟨W2, kv3, _, _, rfl, k2', hd', hl', hw', hD', hq', nd', hlt', hsub, fun a ha x hx => ?_, fun e => absurd e (Nat.succ_ne_zero _)⟩
                rw [take_snoc hnm] at ha
                rcases List.mem_append.mp ha with e | e
                · exact huse' a e x hx
                · rw [List.mem_singleton.mp e] at hx
                  exact hin x hx
            · obtain ⟨W2, kv3, y6, y7, rfl, k2', hd', hl', hw', hD', hq', nd', hlt', hsub, huse', h0⟩ := q
              rw [List.length_map, List.take_length] at huse'
              rw [hW0]
              have hl2 : W2.length ≤ 200 := Nat.le_trans (nodup_lt nd' hlt') pr.few
              refine ⟨D2.sum * 201 + W2.length, ?_, D2, W2, kv3, _, _, _, _, rfl, rfl, k2', hd', hw', hD', hq', nd', hlt', sok.step hcm shr, fun j c' hj => ?_⟩
              · have hs := shr.sum
                rw [emm, List.length_append, List.length_singleton]
                cases lost with
                | nil =>
                  rw [h0 rfl]
                  have : D2.sum ≤ D'.sum := by simpa using hs
                  omega
                | cons a r =>
                  rw [List.length_cons] at hs
                  omega
              · by_cases hjk : j = k
                · rw [hjk, hc] at hj
                  rw [← Option.some.inj hj]
                  exact .inr shr.wk
                · by_cases hu : ∃ nm ∈ c'.1, nm ∈ lost
                  · obtain ⟨nm, h1, h2⟩ := hu
                    exact .inl (huse' nm h2 j (mem_uses.mpr ⟨c', hj, h1⟩))
                  · rcases hst' j c' hj with q | q
                    · rcases List.mem_append.mp q with e | e
                      · exact .inl (hsub j e)
                      · exact absurd (List.mem_singleton.mp e) hjk
                    · exact .inr (q.keep shr fun nm h1 h2 => hu ⟨nm, h1, h2⟩)
        · obtain ⟨v, hv'⟩ := hq.some (k := k) (List.mem_append_right _ (List.mem_singleton.mpr rfl))
          rw [hv] at hv'
          cases hv'
      · have : W' = [] := Classical.not_not.mp hne
        subst this
        walk_at "rd"
        refine qt _ D' (k2.trans (same_k2 g1)) (g1 _ _ hd1) sok fun c hc => ?_
        obtain ⟨j, hj⟩ := List.mem_iff_getElem?.mp hc
        rcases hst' j c hj with q | q
        · cases q
        · exact q
end
end G
namespace G
open PySem PySem.Spec PyProof.Rows L2
local macro_rules | `(tactic| walk_at "rd") => `(tactic| repeat (first | (refine ⟨_, rfl, ?_⟩) | (refine ⟨_, _, rfl, rfl, ?_⟩) | (refine iteT ?_) | (refine iteF ?_) | (refine ⟨_, "tuple", _, true, rfl, .tup (.inl (by assumption)), kb_tt, ?_⟩) | (refine ⟨_, "tuple", _, true, rfl, .tup (by assumption), kb_tt, ?_⟩) | (refine ⟨false, _, _, rfl, sq_t (by assumption), ?_⟩) | (refine ⟨false, _, _, rfl, sq_r (by assumption), ?_⟩) | (refine ⟨true, _, _, rfl, sq_l (by assumption), ?_⟩) | (refine ⟨false, _, _, _, _, rfl, rfl, sq_t (by assumption), at0, ?_⟩) | (refine ⟨false, _, _, _, _, rfl, rfl, sq_t (by assumption), at1, ?_⟩) | (refine ⟨false, _, _, _, _, rfl, rfl, sq_t (by assumption), (by assumption), ?_⟩) | (refine ⟨false, _, _, _, _, rfl, rfl, sq_r (by assumption), (by assumption), ?_⟩) | (refine ⟨true, _, _, _, _, rfl, rfl, sq_l (by assumption), (by assumption), ?_⟩) | (refine ⟨rfl, ?_⟩)))
/-! ### what is in a mask -/
def vin (sz m : Nat) : List Nat := (List.range sz).filter fun v => m.testBit v
theorem mem_vin {sz m v : Nat} : v ∈ vin sz m ↔ v < sz ∧ m.testBit v = true := by
  unfold vin
  rw [List.mem_filter, List.mem_range]
theorem vin_nodup (sz m : Nat) : (vin sz m).Nodup := List.nodup_range.filter _
theorem vin_len {sz m : Nat} : (vin sz m).length ≤ sz := nodup_lt (vin_nodup sz m) fun _ h => (mem_vin.mp h).1
theorem range_snoc (i : Nat) : List.range (i + 1) = List.range i ++ [i] := List.range_succ
theorem filt_snoc {p : Nat → Bool} {i : Nat} : (List.range (i + 1)).filter p = if p i then (List.range i).filter p ++ [i] else (List.range i).filter p := by
  rw [range_snoc, List.filter_append]
  cases h : p i with
  | true => simp [h]
  | false => simp [h]
theorem filt_len {p : Nat → Bool} {i : Nat} : ((List.range i).filter p).length ≤ i := by
  have := List.length_filter_le p (List.range i)
  rwa [List.length_range] at this
theorem rg_nv (L : Nat) : rgV 0 ((L : Nat) : Int) = (List.range L).map nv := by
  unfold rgV
  have e : (((L : Nat) : Int) - 0).toNat = L := by omega
  rw [e]
  apply List.map_congr_left
  intro i _
  show V.int (0 + (i : Nat)) = V.int (i : Nat)
  rw [Int.zero_add]
section
variable {P : Program} {w : World} {K : PySem.W.Frag} {mg : Str → Option Value} {base : Heap}
def sp_P_values_in (C : Addr) : Sp := fun vs H Q _ => ∃ (p : Addr) (m : Nat) (dx : Addr) (sz : Nat) (dm tl us : Addr) (bs em : V),
  vs = [.ref p, nv m] ∧ H p = some (.ins C dx (pfs sz dm tl us bs em)) ∧ sz ≤ 4 ∧ ∀ H' l, Same H H' → H l = none → H' l = some (.lst ((vin sz m).map nv)) → Q (.ref l) H'
theorem ok_P_values_in (T : TX K mg) : FnOk P w K mg base CX0 1 T.P_values_in.f T.P_values_in.fd ["self", "mask"] (sp_P_values_in T.C) := by
  refine T.P_values_in.F.ok sc_P_values_in (fun vs H Q E h => ?_) (fun cdv A0 outer s H vs Q E hr h => ?_)
  · obtain ⟨_, _, _, _, _, _, _, _, _, rfl, _⟩ := h
    rfl
  · obtain ⟨p, m, dx, sz, dm, tl, us, bs, em, rfl, hp, hsz, q⟩ := h
    refine ⟨_, (pss_one (ps_ret (pe_lc (own := [("value", 2)]) rfl sc_P_values_in.nd (pi_range1 (by rfl) T.n_range (pa_cons (pe_fld (pv 0) rfl) pa_nil)) (blkOk_by (N := N_P_values_in) (sc := defScope s_P_values_in) (by decide +kernel)) (fun _ _ _ _ _ => (pg_name (i := 2) sc_P_values_in.nd rfl (Or.inl rfl))) (fun _ _ _ _ _ => (pts_one (pt_int (pe_op op_and (pe_op op_shr (pv 1) (pv 2)) pe_int) (by intro _; rfl)))) (fun _ _ _ _ _ => (pv 2))))), ?_⟩
    walk_at "rd"
    refine ⟨p, T.C, dx, _, _, rfl, hp, T.cl, T.a_size, lk_size, ?_⟩
    refine ⟨((sz : Nat) : Int), rfl, by omega, by omega, fun D nD => lc_F (walk_range (lo := 0) (n := sz)) (fun i => ((List.range i).filter fun v => m.testBit v).map nv) rfl (fun i hi => ?_) nD yfn_s (fun _ _ => trivial) ?_ ?_⟩
    · rw [List.length_map]
      exact Nat.lt_of_le_of_lt filt_len (small_lt (m := 1000) (by omega))
    · intro i x H1 H2 Q' N hi s1 y kq kn
      obtain ⟨rfl, rfl⟩ := y
      refine ⟨rfl, ?_⟩
      walk_at "rd"
      refine ⟨by omega, ?_⟩
      walk_at "rd"
      rw [show (0 + (i : Nat) : Int) = ((i : Nat) : Int) by omega]
      dsimp only
      rw [bitZ]
      have hb : ((if m.testBit i = true then (1 : Int) else 0) != 0) = true ↔ m.testBit i = true := by
        cases m.testBit i <;> simp
      refine ite_of hb (fun h1 => ?_) fun h1 => ?_
      · walk_at "rd"
        refine kq _ _ (Same.refl _) ?_
        rw [filt_snoc, if_pos h1, List.map_append, Int.zero_add]
        rfl
      · refine kn _ (Same.refl _) ?_
        rw [filt_snoc, if_neg h1]
    · intro H1 s1 hD
      refine q _ _ s1 nD ?_
      rw [hD] <;> rfl
/-- there is a solution -/
def SolvN (sz n : Nat) (net : Net) : Prop := ∃ a : Nat → Nat, (∀ i, i < n → a i < sz) ∧ ∀ c ∈ net, SatC c a
def fullD (sz n : Nat) : List Nat := List.replicate n (2 ^ sz - 1)
theorem full_gd {sz n i : Nat} (h : i < n) : gd (fullD sz n) i = 2 ^ sz - 1 := gd_some (by unfold fullD; rw [List.getElem?_replicate, if_pos h])
theorem full_ok {sz n : Nat} (h : 1 ≤ sz) : DOk sz n (fullD sz n) := by
  refine ⟨by unfold fullD; rw [List.length_replicate], fun x hx => ?_⟩
  rw [(List.mem_replicate.mp hx).2]
  have h1 : 2 ^ 1 ≤ 2 ^ sz := Nat.pow_le_pow_right (by decide) h
  omega
theorem full_in {sz n : Nat} {a : Nat → Nat} : InD (fullD sz n) a ↔ ∀ i, i < n → a i < sz := by
  unfold InD
  have hl : (fullD sz n).length = n := by unfold fullD; rw [List.length_replicate]
  rw [hl]
  constructor
  · intro h i hi
    have := h i hi
    rw [full_gd hi, Nat.testBit_two_pow_sub_one] at this
    exact of_decide_eq_true this
  · intro h i hi
    rw [full_gd hi, Nat.testBit_two_pow_sub_one]
    exact decide_eq_true (h i hi)
def NoSol (D : List Nat) (net : Net) : Prop := ∀ a, InD D a → ¬ ∀ c ∈ net, SatC c a
theorem noSol_full {sz n : Nat} {net : Net} (h : NoSol (fullD sz n) net) : ¬ SolvN sz n net := fun ⟨a, h1, h2⟩ => h a (full_in.mpr h1) h2
/-- what a Problem is, apart from the instance's own fields -/
structure PrS (A : Hp) (sz n : Nat) (net : Net) (dm tl us : Addr) : Prop where
  s : PbS A sz n net dm tl us
  lo : 1 ≤ sz
  hsz : sz ≤ 4
  hn : n ≤ 16
  few : net.length ≤ 200
  ok : NetOk sz n net
abbrev insP (C dx : Addr) (sz : Nat) (dm tl us : Addr) (bs em : V) : HO := .ins C dx (pfs sz dm tl us bs em)
theorem PrS.pr {C p dx : Addr} {A : Hp} {sz n : Nat} {net : Net} {dm tl us : Addr} {bs em : V} (h : PrS A sz n net dm tl us) (hp : A p = none) : Prb C (upd A p (insP C dx sz dm tl us bs em)) p sz n net dx dm tl us bs em :=
  ⟨upd_same, h.s.same (same_new hp), h.hsz, h.hn, h.few, h.ok⟩
theorem same_put {A H : Hp} {p : Addr} {o : HO} (s : Same A H) (h : A p = none) (e : H p = some o) : Same (upd A p o) H := fun b x hb => by
  by_cases q : b = p
  · subst q
    rw [upd_same] at hb
    rw [e, hb]
  · rw [upd_ne q] at hb
    exact s b x hb
def sp_P_settle_base (C : Addr) : Sp := fun vs H Q _ => ∃ (p : Addr) (A : Hp) (dx : Addr) (sz n : Nat) (net : Net) (dm tl us : Addr) (em : V),
  vs = [.ref p] ∧ Same A H ∧ A p = none ∧ PrS A sz n net dm tl us ∧ H p = some (insP C dx sz dm tl us .non em) ∧
  (∀ H' d, Same A H' → H' p = some (insP C dx sz dm tl us (.ref d) (.bl true)) → NoSol (fullD sz n) net → Q .non H') ∧
  ∀ H' d D', Same A H' → A d = none → H' p = some (insP C dx sz dm tl us (.ref d) (.bl false)) → H' d = some (.lst (D'.map nv)) → SetOk sz n net (fullD sz n) D' → (∀ c ∈ net, Wk D' c) → Q .non H'
theorem ok_P_settle_base (T : TX K mg) : FnOk P w K mg base CX0 3 T.P_settle_base.f T.P_settle_base.fd ["self"] (sp_P_settle_base T.C) := by
  refine T.P_settle_base.F.ok sc_P_settle_base (fun vs H Q E h => ?_) (fun cdv A0 outer s H vs Q E hr h => ?_)
  · obtain ⟨_, _, _, _, _, _, _, _, _, _, rfl, _⟩ := h
    rfl
  · obtain ⟨p, A, dx, sz, n, net, dm, tl, us, em, rfl, sA, hAp, pr, hp, qf, qt⟩ := h
    refine ⟨_, (pss_one (ps_if (pt_cmpR op_isN (pe_fld (pv 0) rfl) pe_non (nomark _))
      (pss_cons (ps_fld (pv 0) (pe_callTy call_listS (by rfl) T.n_list bb_list (pa_cons (pe_fld (pv 0) rfl) pa_nil)) rfl)
      (pss_one (ps_fld (pv 0) (pe_not (pe_meth (pv 0) T.cl T.P_settle.m (ok_P_settle T) (hr.mono (by decide)) T.P_settle.b .nil pass0 (pa_cons (pe_fld (pv 0) rfl) (pa_cons (pe_listRg rfl (by rfl) T.n_list (prg_1 (by rfl) T.n_range (pe_callB call_lenS (by rfl) T.n_len bb_len (pa_cons (pe_fld (pv 0) rfl) pa_nil)))) pa_nil)))) rfl)))
      pss_nil)), ?_⟩
    have hp0 : H p = some (.ins T.C dx (pfs sz dm tl us .non em)) := hp
    have hdm := sA _ _ pr.s.dmn
    obtain ⟨ts, htl, hts⟩ := pr.s.tol
    walk_at "rd"
    refine ⟨p, T.C, dx, _, _, rfl, hp0, T.cl, T.a_base, lk_base, ?_⟩
    walk_at "rd"
    refine ⟨p, T.C, dx, _, _, rfl, hp0, T.cl, T.a_domains, lk_domains, ?_⟩
    walk_at "rd"
    intro d nd
    have g1 := same_new (o := .lst ((List.replicate n (2 ^ sz - 1)).map nv)) nd
    have hpd : p ≠ d := (ne_some nd hp0).symm
    have hp1 := g1 _ _ hp0
    have hd1 : upd H d (.lst ((List.replicate n (2 ^ sz - 1)).map nv)) d = some (.lst ((fullD sz n).map nv)) := upd_same
    have sA1 := sA.trans g1
    generalize upd H d (.lst ((List.replicate n (2 ^ sz - 1)).map nv)) = H1 at hp1 hd1 sA1
    walk_at "rd"
    refine ⟨p, T.C, dx, _, rfl, hp1, T.cl, T.a_base, pfs_len, ?_⟩
    rw [put_base]
    have hAd : A d = none := none_same sA nd
    have hp2 : upd H1 p (HO.ins T.C dx (pfs sz dm tl us (.ref d) em)) p = some (HO.ins T.C dx (pfs sz dm tl us (.ref d) em)) := upd_same
    have hd2 : upd H1 p (HO.ins T.C dx (pfs sz dm tl us (.ref d) em)) d = some (.lst ((fullD sz n).map nv)) := by rw [upd_ne hpd.symm]; exact hd1
    have sA2 : Same A (upd H1 p (HO.ins T.C dx (pfs sz dm tl us (.ref d) em))) := same_upd sA1 hAp
    generalize upd H1 p (HO.ins T.C dx (pfs sz dm tl us (.ref d) em)) = H2 at hp2 hd2 sA2 ⊢
    clear hd1 sA1 hp1 g1
    have htl2 := sA2 _ _ htl
    have hL : ts.length = net.length := paired_len hts
    have hLn := pr.few
    walk_at "rd"
    refine ⟨p, dx, _, rfl, hp2, lk_m_settle, ?_⟩
    walk_at "rd"
    refine ⟨p, T.C, dx, _, _, rfl, hp2, T.cl, T.a_base, lk_base, ?_⟩
    walk_at "rd"
    refine ⟨p, T.C, dx, _, _, rfl, hp2, T.cl, T.a_told, lk_told, ?_⟩
    walk_at "rd"
    refine ⟨RgOk.of_le (by omega) (by omega) (by omega) (by omega), fun wt nwt => ?_⟩
    rw [rg_nv, hL]
    have g3 := same_new (o := .lst ((List.range net.length).map nv)) nwt
    have hpw : p ≠ wt := (ne_some nwt hp2).symm
    have hdw : d ≠ wt := (ne_some nwt hd2).symm
    have hA' : upd A p (insP T.C dx sz dm tl us (.ref d) em) d = none := by rw [upd_ne hpd.symm]; exact hAd
    have hAw' : upd A p (insP T.C dx sz dm tl us (.ref d) em) wt = none := by rw [upd_ne hpw.symm]; exact none_same sA2 nwt
    refine ⟨p, d, wt, upd A p (insP T.C dx sz dm tl us (.ref d) em), dx, sz, n, net, dm, tl, us, _, _, fullD sz n, List.range net.length, rfl, (same_put sA2 hAp hp2).trans g3, hA', hAw', hdw, pr.pr hAp, full_ok pr.lo, g3 _ _ hd2, upd_same, List.nodup_range, fun x hx => List.mem_range.mp hx, fun k c hk => .inl (List.mem_range.mpr (List.getElem?_eq_some_iff.mp hk).1), fun H3 k3 hno => ?_, fun H3 D' k3 hd3 sok hwk => ?_⟩
    · have hp3 := k3 _ _ hpd hpw (g3 _ _ hp2)
      have sA3 := k3.same (sA2.trans g3) hAd (none_same sA2 nwt)
      walk_at "rd"
      refine ⟨p, T.C, dx, _, rfl, hp3, T.cl, T.a_is_empty, pfs_len, ?_⟩
      rw [put_is_empty]
      exact qf _ d (same_upd sA3 hAp) upd_same hno
    · have hp3 := k3 _ _ hpd hpw (g3 _ _ hp2)
      have sA3 := k3.same (sA2.trans g3) hAd (none_same sA2 nwt)
      walk_at "rd"
      refine ⟨p, T.C, dx, _, rfl, hp3, T.cl, T.a_is_empty, pfs_len, ?_⟩
      rw [put_is_empty]
      exact qt _ d D' (same_upd sA3 hAp) hAd upd_same (by rw [upd_ne hpd.symm]; exact hd3) sok hwk
end
end G
namespace G
open PySem PySem.Spec PyProof.Rows L2
local macro_rules | `(tactic| walk_at "rd") => `(tactic| repeat (first | (refine ⟨_, rfl, ?_⟩) | (refine ⟨_, _, rfl, rfl, ?_⟩) | (refine iteT ?_) | (refine iteF ?_) | (refine ⟨_, "tuple", _, true, rfl, .tup (.inl (by assumption)), kb_tt, ?_⟩) | (refine ⟨_, "tuple", _, true, rfl, .tup (by assumption), kb_tt, ?_⟩) | (refine ⟨false, _, _, rfl, sq_t (by assumption), ?_⟩) | (refine ⟨false, _, _, rfl, sq_r (by assumption), ?_⟩) | (refine ⟨true, _, _, rfl, sq_l (by assumption), ?_⟩) | (refine ⟨false, _, _, _, _, rfl, rfl, sq_t (by assumption), at0, ?_⟩) | (refine ⟨false, _, _, _, _, rfl, rfl, sq_t (by assumption), at1, ?_⟩) | (refine ⟨false, _, _, _, _, rfl, rfl, sq_t (by assumption), (by assumption), ?_⟩) | (refine ⟨false, _, _, _, _, rfl, rfl, sq_r (by assumption), (by assumption), ?_⟩) | (refine ⟨true, _, _, _, _, rfl, rfl, sq_l (by assumption), (by assumption), ?_⟩) | (refine ⟨rfl, ?_⟩)))
theorem nosol_sub {D D' : List Nat} {net : Net} (h : NoSol D' net) (k : ∀ a, InD D a → (∀ c ∈ net, SatC c a) → InD D' a) : NoSol D net := fun a ha hs => h a (k a ha hs) hs
section
variable {P : Program} {w : World} {K : PySem.W.Frag} {mg : Str → Option Value} {base : Heap}
def sp_P_start (C : Addr) : Sp := fun vs H Q _ => ∃ (p f : Addr) (A : Hp) (dx : Addr) (sz n : Nat) (net : Net) (dm tl us : Addr) (em : V),
  vs = [.ref p, .ref f] ∧ Same A H ∧ A p = none ∧ A f = some (.lst []) ∧ PrS A sz n net dm tl us ∧ H p = some (insP C dx sz dm tl us .non em) ∧
  (∀ H' bs em', Same A H' → H' p = some (insP C dx sz dm tl us bs em') → NoSol (fullD sz n) net → Q .non H') ∧
  ∀ H' d bs D', Same A H' → A d = none → H' p = some (insP C dx sz dm tl us bs (.bl false)) → H' d = some (.lst (D'.map nv)) → SetOk sz n net (fullD sz n) D' → (∀ c ∈ net, Wk D' c) → Q (.ref d) H'
theorem ok_P_start (T : TX K mg) : FnOk P w K mg base CX0 4 T.P_start.f T.P_start.fd ["self", "fixed"] (sp_P_start T.C) := by
  refine T.P_start.F.ok sc_P_start (fun vs H Q E h => ?_) (fun cdv A0 outer s H vs Q E hr h => ?_)
  · obtain ⟨_, _, _, _, _, _, _, _, _, _, _, rfl, _⟩ := h
    rfl
  · obtain ⟨p, f, A, dx, sz, n, net, dm, tl, us, em, rfl, sA, hAp, hAf, pr, hp, qf, qt⟩ := h
    refine ⟨_, (pss_cons (ps_expr (pe_meth0 (pv 0) T.cl T.P_settle_base.m (ok_P_settle_base T) (hr.mono (by decide)) T.P_settle_base.b .nil pass0 ))
      (pss_cons (ps_if (pt_val (pe_fld (pv 0) rfl))
      (pss_one (ps_ret pe_non))
      pss_nil)
      (pss_cons (ps_par (i := 2) (j := 3) (by rfl) sc_P_start.nd rfl rfl (by decide) rfl rfl (pa_cons (pe_callTy call_listS (by rfl) T.n_list bb_list (pa_cons (pe_fld (pv 0) rfl) pa_nil)) (pa_cons pe_dnewK pa_nil)) (by rfl))
      (pss_cons (ps_for PassesOwn.never rfl (pi_sq (pv 1)) (pg_tupS (n := 2) rfl (pgs_cons (pg_name (i := 4) sc_P_start.nd rfl (Or.inl rfl)) (pgs_cons (pg_name (i := 5) sc_P_start.nd rfl (Or.inl rfl)) pgs_nil)))
      (pss_cons (ps_asg (pe_op op_and (pe_ix ix_any (pv 2) (pv 4) (fun _ _ => rfl)) (pe_op op_shl pe_int (pv 5))) (pg_sub (pv 2) (pv 4) set_list))
      (pss_one (ps_for PassesOwn.never rfl (pi_sq (pe_ix ix_any (pe_fld (pv 0) rfl) (pv 4) (fun _ _ => rfl))) (pg_name (i := 6) sc_P_start.nd rfl (Or.inl rfl))
      (pss_one (ps_dput (by exact hu_of hr) (pv 3) (pv 6) pe_bl rfl))))))
      (pss_one (ps_ret (pe_ifExp (PW.pt (pw_or (pt_cmpR op_inI pe_int (pv 2) (by rfl)) (pw_or1 (pt_not (pt_val (pe_meth (pv 0) T.cl T.P_settle.m (ok_P_settle T) (hr.mono (by decide)) T.P_settle.b .nil pass0 (pa_cons (pv 2) (pa_cons (pe_callTy (call_list_dK rfl) (by rfl) T.n_list bb_list (pa_cons (pv 3) pa_nil)) pa_nil)))))))) pe_non (pv 2)))))))), ?_⟩
    walk_at "rd"
    refine ⟨p, dx, _, rfl, hp, lk_m_settle_base, ?_⟩
    refine ⟨p, A, dx, sz, n, net, dm, tl, us, em, rfl, sA, hAp, pr, hp, fun H1 d sA1 hp1 hno => ?_, fun H1 d D1 sA1 hAd hp1 hd1 sok hwk => ?_⟩
    · walk_at "rd"
      refine ⟨p, T.C, dx, _, _, rfl, hp1, T.cl, T.a_is_empty, lk_is_empty, ?_⟩
      walk_at "rd"
      exact qf _ _ _ sA1 hp1 hno
    · walk_at "rd"
      refine ⟨p, T.C, dx, _, _, rfl, hp1, T.cl, T.a_is_empty, lk_is_empty, ?_⟩
      walk_at "rd"
      refine ⟨p, T.C, dx, _, _, rfl, hp1, T.cl, T.a_base, lk_base, ?_⟩
      walk_at "rd"
      intro d2 nd2
      have g1 := same_new (o := .lst (D1.map nv)) nd2
      have hp2 := g1 _ _ hp1
      have hd2 : upd H1 d2 (.lst (D1.map nv)) d2 = some (.lst (D1.map nv)) := upd_same
      have sA2 := sA1.trans g1
      generalize upd H1 d2 (.lst (D1.map nv)) = H2 at hp2 hd2 sA2
      intro w1 nw1
      have g2 := same_new (o := .dK []) nw1
      have hp3 := g2 _ _ hp2
      have hd3 := g2 _ _ hd2
      have sA3 := sA2.trans g2
      have hw3 : upd H2 w1 (.dK []) w1 = some (.dK []) := upd_same
      generalize upd H2 w1 (.dK []) = H3 at hp3 hd3 sA3 hw3
      have hf3 := sA3 _ _ hAf
      have hAd2 : A d2 = none := none_same sA1 nd2
      refine ⟨_, _, rfl, ?_⟩
      refine ⟨_, rfl, true, f, _, rfl, hf3, fun J wJ => for_it wJ (fun i σ H' => σ = [some (.ref p), some (.ref f), some (.ref d2), some (.ref w1), none, none, none] ∧ H' = H3) ⟨rfl, rfl⟩ (fun i σ H' _ q => ?_) (fun i x σ H6 H7 hi q y => ?_) fun σ H6 q => ?_⟩
      · rw [q.2]; exact hf3
      · exact absurd hi (Nat.not_lt_zero _)
      · obtain ⟨rfl, rfl⟩ := q
        have h0 : (0 : Int) ∈ zs D1 ↔ False := by
          refine ⟨fun hz => ?_, fun h => h.elim⟩
          obtain ⟨x, hx, e⟩ := List.mem_map.mp hz
          have := (sok.ok.pos x hx).1
          omega
        have hw1d2 : w1 ≠ d2 := ne_some nw1 hd2
        walk_at "rd"
        refine ⟨true, d2, 0, zs D1, rfl, rfl, by rw [zs_nv]; exact hd3, ?_⟩
        walk_at "rd"
        refine ite_of (p := False) (by rw [decide_eq_true_iff]; exact h0) (fun q => q.elim) fun _ => ?_
        walk_at "rd"
        refine ⟨p, dx, _, rfl, hp3, lk_m_settle, ?_⟩
        walk_at "rd"
        refine ⟨w1, [], rfl, hw3, fun w2 nw2 => ?_⟩
        have g3 := same_new (o := .lst []) nw2
        have hpd2 : p ≠ d2 := (ne_some nd2 hp1).symm
        have hpw2 : p ≠ w2 := (ne_some nw2 hp3).symm
        have hd2w2 : d2 ≠ w2 := (ne_some nw2 hd3).symm
        have hAw2 : A w2 = none := none_same sA3 nw2
        refine ⟨p, d2, w2, upd A p (insP T.C dx sz dm tl us (.ref d) (.bl false)), dx, sz, n, net, dm, tl, us, _, _, D1, [], rfl, (same_put sA3 hAp hp3).trans g3, by rw [upd_ne hpd2.symm]; exact hAd2, by rw [upd_ne hpw2.symm]; exact hAw2, hd2w2, pr.pr hAp, sok.ok, g3 _ _ hd3, upd_same, .nil, fun x hx => absurd hx List.not_mem_nil, fun k c hk => .inr (hwk c (List.mem_of_getElem? hk)), fun H4 k4 hno => ?_, fun H4 D2 k4 hd4 sok2 hwk2 => ?_⟩
        · walk_at "rd"
          exact qf _ _ _ (k4.same (sA3.trans g3) hAd2 hAw2) (k4 _ _ hpd2 hpw2 (g3 _ _ hp3)) (nosol_sub hno sok.keep)
        · walk_at "rd"
          exact qt _ d2 _ D2 (k4.same (sA3.trans g3) hAd2 hAw2) hAd2 (k4 _ _ hpd2 hpw2 (g3 _ _ hp3)) hd4 ⟨sok2.ok, fun i v q => sok.sub i v (sok2.sub i v q), fun a ha hs => sok2.keep a (sok.keep a ha hs) hs, Nat.le_trans sok2.sum sok.sum⟩ hwk2
end
end G
namespace G
open PySem PySem.Spec PyProof.Rows L2
local macro_rules | `(tactic| walk_at "rd") => `(tactic| repeat (first | (refine ⟨_, rfl, ?_⟩) | (refine ⟨_, _, rfl, rfl, ?_⟩) | (refine iteT ?_) | (refine iteF ?_) | (refine ⟨_, "tuple", _, true, rfl, .tup (.inl (by assumption)), kb_tt, ?_⟩) | (refine ⟨_, "tuple", _, true, rfl, .tup (by assumption), kb_tt, ?_⟩) | (refine ⟨false, _, _, rfl, sq_t (by assumption), ?_⟩) | (refine ⟨false, _, _, rfl, sq_r (by assumption), ?_⟩) | (refine ⟨true, _, _, rfl, sq_l (by assumption), ?_⟩) | (refine ⟨false, _, _, _, _, rfl, rfl, sq_t (by assumption), at0, ?_⟩) | (refine ⟨false, _, _, _, _, rfl, rfl, sq_t (by assumption), at1, ?_⟩) | (refine ⟨false, _, _, _, _, rfl, rfl, sq_t (by assumption), (by assumption), ?_⟩) | (refine ⟨false, _, _, _, _, rfl, rfl, sq_r (by assumption), (by assumption), ?_⟩) | (refine ⟨true, _, _, _, _, rfl, rfl, sq_l (by assumption), (by assumption), ?_⟩) | (refine ⟨rfl, ?_⟩)))
theorem paired_rev {α β : Type} {R : α → β → Prop} : ∀ {xs : List α} {ys : List β}, Paired R xs ys → Paired R xs.reverse ys.reverse
  | _, _, .nil => .nil
  | _, _, .cons r t => by
    rw [List.reverse_cons, List.reverse_cons]
    exact paired_snoc r (paired_rev t)
theorem testBit_pow {w x : Nat} : (2 ^ w).testBit x = true ↔ w = x := by
  rw [Nat.testBit_two_pow, decide_eq_true_iff]
/-- what a branch of D is: settled, smaller -/
structure Br (sz n : Nat) (net : Net) (D D2 : List Nat) : Prop where
  ok : DOk sz n D2
  sub : Sub D2 D
  wk : ∀ c ∈ net, Wk D2 c
  less : D2.sum < D.sum
/-- at v the value w alone -/
theorem one_ok {sz n v w : Nat} {D : List Nat} (h : DOk sz n D) (hv : v < n) (hw : w < sz) : DOk sz n (D.set v (2 ^ w)) := by
  have hvl : v < D.length := by rw [h.len]; exact hv
  refine dok_of (by rw [List.length_set]; exact h.len) fun i hi => ?_
  rw [gd_set hvl]
  by_cases e : i = v
  · rw [if_pos e]
    exact ⟨Nat.two_pow_pos w, Nat.pow_lt_pow_right (by decide) hw⟩
  · rw [if_neg e]
    exact (h.at hi).2
theorem one_sub {v w : Nat} {D : List Nat} (hv : v < D.length) (hb : (gd D v).testBit w = true) : Sub (D.set v (2 ^ w)) D := by
  intro i x hx
  rw [gd_set hv] at hx
  by_cases e : i = v
  · rw [if_pos e, testBit_pow] at hx
    rw [e, ← hx]
    exact hb
  · rw [if_neg e] at hx
    exact hx
theorem one_in {v w : Nat} {D : List Nat} {a : Nat → Nat} (hv : v < D.length) (h : InD D a) (e : a v = w) : InD (D.set v (2 ^ w)) a := by
  intro i hi
  rw [gd_set hv]
  by_cases q : i = v
  · rw [if_pos q, q, testBit_pow]
    exact e.symm
  · rw [if_neg q]
    exact h i (by rwa [List.length_set] at hi)
theorem one_wk {v w : Nat} {D : List Nat} {c : Cn} (hv : v < D.length) (h : Wk D c) (hn : v ∉ c.1) : Wk (D.set v (2 ^ w)) c := by
  obtain ⟨row, hr, hc⟩ := h
  refine ⟨row, hr, fun j nm x h1 h2 => ?_⟩
  rw [gd_set hv, if_neg fun e => hn (by rw [← e]; exact List.mem_of_getElem? h1)]
  exact hc j nm x h1 h2
section
variable {P : Program} {w : World} {K : PySem.W.Frag} {mg : Str → Option Value} {base : Heap}
def sp_P_branches (C : Addr) : Sp := fun vs H Q _ => ∃ (p d : Addr) (v : Nat) (A : Hp) (dx : Addr) (sz n : Nat) (net : Net) (dm tl us : Addr) (bs em : V) (D : List Nat),
  vs = [.ref p, .ref d, nv v] ∧ Same A H ∧ Prb C A p sz n net dx dm tl us bs em ∧ v < n ∧ DOk sz n D ∧ (∀ c ∈ net, Wk D c) ∧ H d = some (.lst (D.map nv)) ∧ (gd D v &&& (gd D v - 1)) ≠ 0 ∧
  ∀ H' l ls Ds, Same H H' → H' l = some (.lst ls) → Paired (fun x D2 => ∃ a, x = .ref a ∧ H a = none ∧ H' a = some (.lst (D2.map nv))) ls Ds → (∀ D2 ∈ Ds, Br sz n net D D2) → Ds.length ≤ 4 →
    (∀ a, InD D a → (∀ c ∈ net, SatC c a) → ∃ D2 ∈ Ds, InD D2 a) → Q (.ref l) H'
theorem ok_P_branches (T : TX K mg) : FnOk P w K mg base CX0 3 T.P_branches.f T.P_branches.fd ["self", "domains", "variable"] (sp_P_branches T.C) := by
  refine T.P_branches.F.ok sc_P_branches (fun vs H Q E h => ?_) (fun cdv A0 outer s H vs Q E hr h => ?_)
  · obtain ⟨_, _, _, _, _, _, _, _, _, _, _, _, _, _, rfl, _⟩ := h
    rfl
  · obtain ⟨p, d, v, A, dx, sz, n, net, dm, tl, us, bs, em, D, rfl, sA, pr, hv, dok, hwk, hd, h2, q⟩ := h
    refine ⟨_, (pss_cons (ps_set (i := 3) sc_P_branches.nd rfl (.inl rfl) (pe_lst pa_nil))
      (pss_cons (ps_for PassesOwn.never rfl (pi_sq (pe_meth (pv 0) T.cl T.P_values_in.m (ok_P_values_in T) (hr.mono (by decide)) T.P_values_in.b .nil pass0 (pa_cons (pe_ix ix_any (pv 1) (pv 2) (fun _ _ => rfl)) pa_nil))) (pg_name (i := 4) sc_P_branches.nd rfl (Or.inl rfl))
      (pss_cons (ps_set (i := 5) sc_P_branches.nd rfl (.inl rfl) (pe_callTy call_listS (by rfl) T.n_list bb_list (pa_cons (pv 1) pa_nil)))
      (pss_cons (ps_asg (pe_op op_shl pe_int (pv 4)) (pg_sub (pv 5) (pv 2) set_list))
      (pss_one (ps_if (pt_val (pe_meth (pv 0) T.cl T.P_settle.m (ok_P_settle T) (hr.mono (by decide)) T.P_settle.b .nil pass0 (pa_cons (pv 5) (pa_cons (pe_callTy call_listS (by rfl) T.n_list bb_list (pa_cons (pe_ix ix_any (pe_fld (pv 0) rfl) (pv 2) (fun _ _ => rfl)) pa_nil)) pa_nil))))
      (pss_one (ps_expr (pe_bm PySem.F.plainAttrs_list PySem.F.slot_list_append PySem.F.type_list_append mt_append (pv 3) (pa_cons (pv 5) pa_nil))))
      pss_nil)))))
      (pss_one (ps_ret (pe_revL (pv 3)))))), ?_⟩
    have hp := sA _ _ pr.at_
    have hsz4 := pr.hsz
    have hvl : v < D.length := by rw [dok.len]; exact hv
    obtain ⟨hDv, hD0, hDlt⟩ := dok.at hv
    have hD16 : gd D v < 16 := Nat.lt_of_lt_of_le hDlt (Nat.pow_le_pow_right (by decide) pr.hsz)
    have hat := at_nv (nv_get hDv)
    obtain ⟨uv, hus, huv, huse⟩ := pr.s.use
    obtain ⟨u, hu1, hu2⟩ := huse v hv
    have hatu := at_nv hu1
    refine ⟨sz_le (by decide), fun fl nfl => ?_⟩
    have g1 := same_new (o := .lst []) nfl
    have hp1 := g1 _ _ hp
    have hd1 := g1 _ _ hd
    have hf1 : upd H fl (.lst []) fl = some (.lst []) := upd_same
    generalize upd H fl (.lst []) = H1 at g1 hp1 hd1 hf1
    walk_at "rd"
    refine ⟨p, dx, _, rfl, hp1, lk_m_values_in, ?_⟩
    walk_at "rd"
    refine ⟨p, gd D v, dx, sz, dm, tl, us, _, _, rfl, hp1, pr.hsz, fun H2 vl s2 nvl hvl2 => ?_⟩
    have fl0 : fl ≠ vl := (ne_some nvl hf1).symm
    refine ⟨true, vl, _, rfl, hvl2, fun J wJ => for_it wJ (fun i σ H' => ∃ ls Ds y4 y5, σ = [some (.ref p), some (.ref d), some (nv v), some (.ref fl), y4, y5] ∧ Same H H' ∧ H' vl = some (.lst ((vin sz (gd D v)).map nv)) ∧ H' fl = some (.lst ls) ∧
      Paired (fun x D2 => ∃ a, x = .ref a ∧ H a = none ∧ a ≠ fl ∧ H' a = some (.lst (D2.map nv))) ls Ds ∧ (∀ D2 ∈ Ds, Br sz n net D D2) ∧ Ds.length ≤ i ∧ (∀ a, InD D a → (∀ c ∈ net, SatC c a) → a v ∈ (vin sz (gd D v)).take i → ∃ D2 ∈ Ds, InD D2 a)) ?_ (fun i σ H' _ q => ?_) (fun i x σ H3 H4 hi q y => ?_) fun σ H3 q => ?_⟩
    · exact ⟨[], [], _, _, rfl, g1.trans s2, hvl2, s2 _ _ hf1, .nil, fun _ h => absurd h List.not_mem_nil, Nat.le_refl _, fun a _ _ h => absurd h (by rw [List.take_zero]; exact List.not_mem_nil)⟩
    · obtain ⟨_, _, _, _, _, _, h, _⟩ := q
      exact h
    · obtain ⟨ls, Ds, y4, y5, rfl, sm, hvv, hfl, hpair, hbr, hlen, hcov⟩ := q
      obtain ⟨s3, hx⟩ := yat_same y
      obtain ⟨ww, hww, rfl⟩ := nv_at hx
      obtain ⟨hwsz, hwb⟩ := mem_vin.mp (List.mem_of_getElem? hww)
      have sm4 := sm.trans s3
      have hd4 := sm4 _ _ hd
      have hp4 := sm4 _ _ hp
      have hfl4 := s3 _ _ hfl
      have hvv4 := s3 _ _ hvv
      have hpair4 := paired_imp (S := fun x (D2 : List Nat) => ∃ a, x = .ref a ∧ H a = none ∧ a ≠ fl ∧ H4 a = some (.lst (D2.map nv))) (fun _ _ q => let ⟨a, e, h1, h2, h3⟩ := q; ⟨a, e, h1, h2, s3 _ _ h3⟩) hpair
      have hsum := sum_set (D := D) (x := 2 ^ ww) hvl
      have h2w := two_bits hD16 h2 ww hwb
      walk_at "rd"
      intro mo nmo
      have g5 := same_new (o := .lst (D.map nv)) nmo
      walk_at "rd"
      refine ⟨⟨by omega, by omega, by decide⟩, ?_⟩
      dsimp only
      rw [shlZ]
      walk_at "rd"
      refine ⟨mo, _, _, v, rfl, rfl, upd_same, ixN_nat (by rw [List.length_map]; exact hvl), ?_⟩
      rw [show (V.int ((2 ^ ww : Nat) : Int)) = nv (2 ^ ww) from rfl, map_set]
      have hmo : upd (upd H4 mo (.lst (D.map nv))) mo (.lst ((D.set v (2 ^ ww)).map nv)) mo = some (.lst ((D.set v (2 ^ ww)).map nv)) := upd_same
      have s5 : Same H4 (upd (upd H4 mo (.lst (D.map nv))) mo (.lst ((D.set v (2 ^ ww)).map nv))) := same_upd g5 nmo
      generalize upd (upd H4 mo (.lst (D.map nv))) mo (.lst ((D.set v (2 ^ ww)).map nv)) = H5 at hmo s5
      clear g5
      have sm5 := sm4.trans s5
      have hp5 := sm5 _ _ hp
      have hus5 := sm5 _ _ (sA _ _ hus)
      have hu5 := sm5 _ _ (sA _ _ hu2)
      walk_at "rd"
      refine ⟨p, dx, _, rfl, hp5, lk_m_settle, ?_⟩
      walk_at "rd"
      refine ⟨p, T.C, dx, _, _, rfl, hp5, T.cl, T.a_uses, lk_uses, ?_⟩
      walk_at "rd"
      intro wt nwt
      have g6 := same_new (o := .lst ((usesOf net v).map nv)) nwt
      have nmoH : H mo = none := none_same sm4 nmo
      have nwtH : H wt = none := none_same sm5 nwt
      have hmw : mo ≠ wt := (ne_some nwt hmo).symm
      have hmf : mo ≠ fl := ne_some nmo hfl4
      have hmv : mo ≠ vl := ne_some nmo hvv4
      have hwf : wt ≠ fl := ne_some nwt (s5 _ _ hfl4)
      have hwv : wt ≠ vl := ne_some nwt (s5 _ _ hvv4)
      have hset := one_ok dok hv hwsz
      refine ⟨p, mo, wt, A, dx, sz, n, net, dm, tl, us, _, _, D.set v (2 ^ ww), usesOf net v, rfl, (sA.trans sm5).trans g6, none_same sA nmoH, none_same sA nwtH, hmw, pr, hset, g6 _ _ hmo, upd_same, uses_nodup net v, fun x hx => uses_lt hx, fun k c hk => ?_, fun H7 k7 hno => ?_, fun H7 D2 k7 hd7 sok hwk7 => ?_⟩
      · by_cases hm : v ∈ c.1
        · exact .inl (mem_uses.mpr ⟨c, hk, hm⟩)
        · exact .inr (one_wk hvl (hwk c (List.mem_of_getElem? hk)) hm)
      · have k8 : K2 mo wt H4 H7 := (same_k2 (s5.trans g6)).trans k7
        walk_at "rd"
        refine ⟨ls, Ds, _, _, rfl, k8.same sm4 nmoH nwtH, k8 _ _ hmv.symm hwv.symm hvv4, k8 _ _ hmf.symm hwf.symm hfl4, ?_, hbr, Nat.le_succ_of_le hlen, fun a ha hs hav => ?_⟩
        · refine paired_imp (fun x D2 q => ?_) hpair4
          obtain ⟨b, e, n1, n2, h1⟩ := q
          exact ⟨b, e, n1, n2, k8 _ _ (ne_some nmo h1).symm (ne_some nwt (s5 _ _ h1)).symm h1⟩
        · rw [take_snoc hww] at hav
          rcases List.mem_append.mp hav with e | e
          · exact hcov a ha hs e
          · exact absurd hs (hno a (one_in hvl ha (List.mem_singleton.mp e)))
      · have k8 : K2 mo wt H4 H7 := (same_k2 (s5.trans g6)).trans k7
        have hfl7 := k8 _ _ hmf.symm hwf.symm hfl4
        have hll : ls.length ≤ 4 := by
          have h1 := paired_len hpair4
          have h2 := hi
          rw [List.length_map] at h2
          have h3 := vin_len (sz := sz) (m := gd D v)
          omega
        walk_at "rd"
        refine ⟨.inl ⟨rfl, _, SqL.of hfl7⟩, ?_⟩
        walk_at "rd"
        refine ⟨fl, _, _, rfl, rfl, hfl7, small_lt (m := 1000) (by omega), ?_⟩
        have hfn : H fl = none := nfl
        refine ⟨ls ++ [.ref mo], Ds ++ [D2], _, _, rfl, same_upd (k8.same sm4 nmoH nwtH) hfn, by rw [upd_ne fl0.symm]; exact k8 _ _ hmv.symm hwv.symm hvv4, upd_same, paired_snoc ⟨mo, rfl, nmoH, hmf, by rw [upd_ne hmf]; exact hd7⟩ (paired_imp (fun x D2 q => ?_) hpair4), fun D3 h3 => ?_, ?_, fun a ha hs hav => ?_⟩
        · obtain ⟨b, e, n1, n2, h1⟩ := q
          exact ⟨b, e, n1, n2, by rw [upd_ne n2]; exact k8 _ _ (ne_some nmo h1).symm (ne_some nwt (s5 _ _ h1)).symm h1⟩
        · rcases List.mem_append.mp h3 with e | e
          · exact hbr D3 e
          · rw [List.mem_singleton.mp e]
            refine ⟨sok.ok, fun i x hx => one_sub hvl hwb i x (sok.sub i x hx), hwk7, ?_⟩
            have := sok.sum
            omega
        · rw [List.length_append, List.length_singleton]
          omega
        · rw [take_snoc hww] at hav
          rcases List.mem_append.mp hav with e | e
          · obtain ⟨D3, h3, h4⟩ := hcov a ha hs e
            exact ⟨D3, List.mem_append_left _ h3, h4⟩
          · exact ⟨D2, List.mem_append_right _ (List.mem_singleton.mpr rfl), sok.keep a (one_in hvl ha (List.mem_singleton.mp e)) hs⟩
    · obtain ⟨ls, Ds, y4, y5, rfl, sm, hvv, hfl, hpair, hbr, hlen, hcov⟩ := q
      rw [List.length_map] at hlen hcov
      have h3 := vin_len (sz := sz) (m := gd D v)
      walk_at "rd"
      refine ⟨fl, _, rfl, SqL.of hfl, fun l nl => ?_⟩
      have g9 := same_new (o := .lst ls.reverse) nl
      refine q _ l ls.reverse Ds.reverse (sm.trans g9) upd_same (paired_rev (paired_imp (fun x D2 q => ?_) hpair)) (fun D2 h => hbr D2 (List.mem_reverse.mp h)) (by rw [List.length_reverse]; omega) fun a ha hs => ?_
      · obtain ⟨b, e, n1, n2, h1⟩ := q
        exact ⟨b, e, n1, g9 _ _ h1⟩
      · obtain ⟨D3, h3, h4⟩ := hcov a ha hs (by
          rw [List.take_length]
          refine mem_vin.mpr ⟨?_, ha v hvl⟩
          exact bit_lt hDlt (ha v hvl))
        exact ⟨D3, List.mem_reverse.mpr h3, h4⟩
end
end G
namespace G
open PySem PySem.Spec PyProof.Rows L2
local macro_rules | `(tactic| walk_at "rd") => `(tactic| repeat (first | (refine ⟨_, rfl, ?_⟩) | (refine ⟨_, _, rfl, rfl, ?_⟩) | (refine iteT ?_) | (refine iteF ?_) | (refine ⟨_, "tuple", _, true, rfl, .tup (.inl (by assumption)), kb_tt, ?_⟩) | (refine ⟨_, "tuple", _, true, rfl, .tup (by assumption), kb_tt, ?_⟩) | (refine ⟨false, _, _, rfl, sq_t (by assumption), ?_⟩) | (refine ⟨false, _, _, rfl, sq_r (by assumption), ?_⟩) | (refine ⟨true, _, _, rfl, sq_l (by assumption), ?_⟩) | (refine ⟨false, _, _, _, _, rfl, rfl, sq_t (by assumption), at0, ?_⟩) | (refine ⟨false, _, _, _, _, rfl, rfl, sq_t (by assumption), at1, ?_⟩) | (refine ⟨false, _, _, _, _, rfl, rfl, sq_t (by assumption), (by assumption), ?_⟩) | (refine ⟨false, _, _, _, _, rfl, rfl, sq_r (by assumption), (by assumption), ?_⟩) | (refine ⟨true, _, _, _, _, rfl, rfl, sq_l (by assumption), (by assumption), ?_⟩) | (refine ⟨rfl, ?_⟩)))
/-! ### the search -/
def pick1 (sz : Nat) (D : List Nat) (i : Nat) : Nat := ((vin sz (gd D i))[0]?).getD 0
def wide (D : List Nat) (i : Nat) : Prop := (gd D i &&& (gd D i - 1)) ≠ 0
instance (D : List Nat) (i : Nat) : Decidable (wide D i) := inferInstanceAs (Decidable (_ ≠ _))
def opn (D : List Nat) (i : Nat) : List Nat := (List.range i).filter fun j => decide (wide D j)
theorem mem_opn {D : List Nat} {i j : Nat} : j ∈ opn D i ↔ j < i ∧ wide D j := by
  unfold opn
  rw [List.mem_filter, List.mem_range, decide_eq_true_iff]
theorem vin_ne {sz m : Nat} (h0 : 0 < m) (h1 : m < 2 ^ sz) : ∃ v, (vin sz m)[0]? = some v ∧ m.testBit v = true := by
  obtain ⟨v, hv⟩ := bit_of_ne (Nat.pos_iff_ne_zero.mp h0)
  have hm : v ∈ vin sz m := mem_vin.mpr ⟨bit_lt h1 hv, hv⟩
  have hl : 0 < (vin sz m).length := List.length_pos_of_mem hm
  exact ⟨_, List.getElem?_eq_getElem hl, (mem_vin.mp (List.getElem_mem hl)).2⟩
theorem solo {sz n : Nat} {net : Net} {D : List Nat} (dok : DOk sz n D) (hsz : sz ≤ 4) (hn : NetOk sz n net) (hw : ∀ i, i < n → ¬ wide D i) (hk : ∀ c ∈ net, Wk D c) : SolvN sz n net := by
  have key : ∀ i, i < n → (gd D i).testBit (pick1 sz D i) = true ∧ ∀ v, (gd D i).testBit v = true → v = pick1 sz D i := fun i hi => by
    obtain ⟨_, h0, h1⟩ := dok.at hi
    obtain ⟨v, hv, hb⟩ := vin_ne h0 h1
    have e : pick1 sz D i = v := by unfold pick1; rw [hv] <;> rfl
    rw [e]
    refine ⟨hb, fun u hu => ?_⟩
    obtain ⟨x, hx⟩ := one_bit h0 (Nat.lt_of_lt_of_le h1 (Nat.pow_le_pow_right (by decide) hsz)) (Classical.not_not.mp (hw i hi))
    rw [hx u hu, hx v hb]
  refine ⟨pick1 sz D, fun i hi => ?_, fun c hc => ?_⟩
  · exact bit_lt (dok.at hi).2.2 (key i hi).1
  · obtain ⟨row, hr, hcm⟩ := hk c hc
    have cok := hn c hc
    have hl := (cok.rows row hr).1
    have : c.1.map (pick1 sz D) = row := by
      apply List.ext_getElem?
      intro j
      rw [List.getElem?_map]
      by_cases hj : j < c.1.length
      · rw [List.getElem?_eq_getElem hj, List.getElem?_eq_getElem (by omega : j < row.length)]
        have := (key _ (cok.lt _ (List.getElem_mem hj))).2 _ (hcm j _ _ (List.getElem?_eq_getElem hj) (List.getElem?_eq_getElem (by omega : j < row.length)))
        rw [this] <;> rfl
      · rw [List.getElem?_eq_none (by omega), List.getElem?_eq_none (by omega)] <;> rfl
    show c.1.map (pick1 sz D) ∈ c.2
    rw [this]
    exact hr
theorem paired_unsnoc {α β : Type} {R : α → β → Prop} {y : β} : ∀ {ys : List β} {xs : List α}, Paired R xs (ys ++ [y]) → ∃ xs' x, xs = xs' ++ [x] ∧ Paired R xs' ys ∧ R x y
  | [], _, .cons r .nil => ⟨[], _, rfl, .nil, r⟩
  | z :: ys, _, .cons r t => by
    obtain ⟨xs', x, e, h1, h2⟩ := paired_unsnoc t
    exact ⟨_ :: xs', x, by rw [e] <;> rfl, .cons r h1, h2⟩
def powS (Ds : List (List Nat)) : Nat := (Ds.map fun D => 5 ^ D.sum).sum
theorem powS_app (Ds Es : List (List Nat)) : powS (Ds ++ Es) = powS Ds + powS Es := by
  unfold powS
  rw [List.map_append, List.sum_append]
theorem powS_le {S : Nat} : ∀ {Ds : List (List Nat)}, (∀ D ∈ Ds, D.sum ≤ S) → powS Ds ≤ Ds.length * 5 ^ S
  | [], _ => Nat.zero_le _
  | D :: Ds, h => by
    have ih := powS_le (S := S) (Ds := Ds) fun E hE => h E (List.mem_cons_of_mem _ hE)
    have h1 : 5 ^ D.sum ≤ 5 ^ S := Nat.pow_le_pow_right (by decide) (h D List.mem_cons_self)
    have e : powS (D :: Ds) = 5 ^ D.sum + powS Ds := by unfold powS; rw [List.map_cons, List.sum_cons]
    rw [e, List.length_cons, Nat.add_mul, Nat.one_mul]
    omega
theorem powS_br {D : List Nat} {Ds Es : List (List Nat)} (h : ∀ E ∈ Es, E.sum < D.sum) (hl : Es.length ≤ 4) : powS (Ds ++ Es) < powS (Ds ++ [D]) := by
  rw [powS_app, powS_app]
  have e : powS [D] = 5 ^ D.sum := by unfold powS; simp
  rw [e]
  refine Nat.add_lt_add_left ?_ _
  cases hs : D.sum with
  | zero =>
    cases Es with
    | nil => exact Nat.two_pow_pos 0 |> fun _ => by show (0 : Nat) < 5 ^ 0; decide
    | cons E r =>
      have := h E List.mem_cons_self
      omega
  | succ S =>
    have h1 := powS_le (S := S) (Ds := Es) fun E hE => by have := h E hE; omega
    have h2 : Es.length * 5 ^ S ≤ 4 * 5 ^ S := Nat.mul_le_mul_right _ hl
    have h3 : 0 < 5 ^ S := Nat.pow_pos (by decide)
    rw [Nat.pow_succ]
    omega
theorem sum_le {D : List Nat} (h : ∀ x ∈ D, x ≤ 15) : D.sum ≤ 15 * D.length := by
  induction D with
  | nil => exact Nat.le_refl _
  | cons a r ih =>
    have h1 := h a List.mem_cons_self
    have h2 := ih fun x hx => h x (List.mem_cons_of_mem _ hx)
    rw [List.sum_cons, List.length_cons]
    omega
theorem DOk.sum {sz n : Nat} {D : List Nat} (h : DOk sz n D) (hsz : sz ≤ 4) (hn : n ≤ 16) : D.sum ≤ 240 := by
  have h1 := sum_le (D := D) fun x hx => by
    have h2 := (h.pos x hx).2
    have h3 : 2 ^ sz ≤ 2 ^ 4 := Nat.pow_le_pow_right (by decide) hsz
    omega
  rw [h.len] at h1
  omega
def HasSol (D : List Nat) (net : Net) : Prop := ∃ a, InD D a ∧ ∀ c ∈ net, SatC c a
theorem InD.sub {D D' : List Nat} {a : Nat → Nat} (h : InD D' a) (s : Sub D' D) (e : D'.length = D.length) : InD D a := fun i hi => s i _ (h i (by rw [e]; exact hi))
/-- what the stack of domains is to be -/
structure Stk (sz n : Nat) (net : Net) (Ds : List (List Nat)) : Prop where
  ok : ∀ D ∈ Ds, DOk sz n D
  wk : ∀ D ∈ Ds, ∀ c ∈ net, Wk D c
  sol : (∃ D ∈ Ds, HasSol D net) ↔ SolvN sz n net
  len : ∀ (k : Nat) (D : List Nat), Ds[k]? = some D → k + 4 * D.sum ≤ 1000
theorem Stk.few {sz n : Nat} {net : Net} {Ds : List (List Nat)} (h : Stk sz n net Ds) : Ds.length ≤ 1001 := by
  refine Nat.le_of_not_lt fun hl => ?_
  have := h.len 1001 _ (List.getElem?_eq_getElem (by omega))
  omega
theorem Stk.step {sz n : Nat} {net : Net} {D : List Nat} {Ds Es : List (List Nat)} (h : Stk sz n net (Ds ++ [D])) (hb : ∀ E ∈ Es, Br sz n net D E) (hl : Es.length ≤ 4) (hc : ∀ a, InD D a → (∀ c ∈ net, SatC c a) → ∃ E ∈ Es, InD E a) : Stk sz n net (Ds ++ Es) := by
  have hDm : D ∈ Ds ++ [D] := List.mem_append_right _ (List.mem_singleton.mpr rfl)
  refine ⟨fun E hE => ?_, fun E hE => ?_, ?_, fun k E hk => ?_⟩
  · rcases List.mem_append.mp hE with e | e
    · exact h.ok E (List.mem_append_left _ e)
    · exact (hb E e).ok
  · rcases List.mem_append.mp hE with e | e
    · exact h.wk E (List.mem_append_left _ e)
    · exact (hb E e).wk
  · rw [← h.sol]
    constructor
    · rintro ⟨E, hE, a, ha, hs⟩
      rcases List.mem_append.mp hE with e | e
      · exact ⟨E, List.mem_append_left _ e, a, ha, hs⟩
      · exact ⟨D, hDm, a, ha.sub (hb E e).sub (by rw [(hb E e).ok.len, (h.ok D hDm).len]), hs⟩
    · rintro ⟨E, hE, a, ha, hs⟩
      rcases List.mem_append.mp hE with e | e
      · exact ⟨E, List.mem_append_left _ e, a, ha, hs⟩
      · rw [List.mem_singleton.mp e] at ha
        obtain ⟨F, hF, hF2⟩ := hc a ha hs
        exact ⟨F, List.mem_append_right _ hF, a, hF2, hs⟩
  · by_cases hkl : k < Ds.length
    · rw [List.getElem?_append_left hkl] at hk
      exact h.len k E (by rw [List.getElem?_append_left hkl]; exact hk)
    · rw [List.getElem?_append_right (by omega)] at hk
      have h1 := (hb E (List.mem_of_getElem? hk)).less
      have h2 := (List.getElem?_eq_some_iff.mp hk).1
      have h3 := h.len Ds.length D (by rw [List.getElem?_append_right (Nat.le_refl _), Nat.sub_self] <;> rfl)
      omega
section
variable {P : Program} {w : World} {K : PySem.W.Frag} {mg : Str → Option Value} {base : Heap}
def Stack (C p dx : Addr) (sz n : Nat) (net : Net) (dm tl us : Addr) (A : Hp) (wt : Addr) (H : Hp) (Ds : List (List Nat)) : Prop :=
  Same A H ∧ A wt = none ∧ (∃ bs em, H p = some (insP C dx sz dm tl us bs em)) ∧ Stk sz n net Ds ∧ ∃ ls, H wt = some (.lst ls) ∧ Paired (fun x D => ∃ a, x = .ref a ∧ a ≠ wt ∧ H a = some (.lst (D.map nv))) ls Ds
theorem Stack.same {C p dx : Addr} {sz n : Nat} {net : Net} {dm tl us : Addr} {A : Hp} {wt : Addr} {H H' : Hp} {Ds : List (List Nat)} (h : Stack C p dx sz n net dm tl us A wt H Ds) (s : Same H H') : Stack C p dx sz n net dm tl us A wt H' Ds := by
  obtain ⟨h1, h2, ⟨bs, em, h3⟩, h4, ls, h5, h6⟩ := h
  exact ⟨h1.trans s, h2, ⟨bs, em, s _ _ h3⟩, h4, ls, s _ _ h5, paired_imp (fun _ _ q => let ⟨a, e, n, k⟩ := q; ⟨a, e, n, s _ _ k⟩) h6⟩
def sp_P_any_from (C : Addr) : Sp := fun vs H Q _ => ∃ (p f : Addr) (A : Hp) (dx : Addr) (sz n : Nat) (net : Net) (dm tl us : Addr) (em : V),
  vs = [.ref p, .ref f] ∧ Same A H ∧ A p = none ∧ A f = some (.lst []) ∧ PrS A sz n net dm tl us ∧ H p = some (insP C dx sz dm tl us .non em) ∧
  ∀ x H', Same A H' → (x ≠ .non ↔ SolvN sz n net) → Q x H'
theorem ok_P_any_from (T : TX K mg) : FnOk P w K mg base CX0 5 T.P_any_from.f T.P_any_from.fd ["self", "fixed"] (sp_P_any_from T.C) := by
  refine T.P_any_from.F.ok sc_P_any_from (fun vs H Q E h => ?_) (fun cdv A0 outer s H vs Q E hr h => ?_)
  · obtain ⟨_, _, _, _, _, _, _, _, _, _, _, rfl, _⟩ := h
    rfl
  · obtain ⟨p, f, A, dx, sz, n, net, dm, tl, us, em, rfl, sA, hAp, hAf, pr, hp, q⟩ := h
    refine ⟨_, (C8.pss_cut (ps_set (i := 2) sc_P_any_from.nd rfl (.inl rfl) (pe_meth (pv 0) T.cl T.P_start.m (ok_P_start T) (hr.mono (by decide)) T.P_start.b .nil pass0 (pa_cons (pv 1) pa_nil)))
      (C8.pss_cut (ps_set (i := 3) sc_P_any_from.nd rfl (.inl rfl) (pe_ifExp (pt_cmpR op_isN (pv 2) pe_non (nomark _)) (pe_lst pa_nil) (pe_lst (pa_cons (pv 2) pa_nil))))
      (pss_cons (ps_while PassesOwn.never (pt_cmpR (op_neE (by exact hr.units0)) (pv 3) (pe_lst pa_nil) (nomark _))
      (pss_cons (ps_set (i := 4) sc_P_any_from.nd rfl (.inr rfl) (pe_bm0 PySem.F.plainAttrs_list PySem.F.slot_list_pop PySem.F.type_list_pop mt_pop (pv 3)))
      (pss_cons (ps_setLc (i := 5) (own := [("at", 7), ("mask", 8)]) rfl sc_P_any_from.nd rfl rfl (sw_true rfl rfl rfl (by decide +kernel)) (pi_enumS (by rfl) T.n_enumerate (pa_cons (pv 4) pa_nil)) (blkOk_by (N := N_P_any_from) (sc := defScope s_P_any_from) (by decide +kernel)) (fun _ _ _ _ _ => (pg_tupS (n := 2) rfl (pgs_cons (pg_name (i := 7) sc_P_any_from.nd rfl (Or.inl rfl)) (pgs_cons (pg_name (i := 8) sc_P_any_from.nd rfl (Or.inl rfl)) pgs_nil)))) (fun _ _ _ _ _ => (pts_one (pt_int (pe_op op_and (pv 8) (pe_op op_sub (pv 8) pe_int)) (by intro _; rfl)))) (fun _ _ _ _ _ => (pv 7)))
      (pss_cons (ps_if (pt_cmpR (op_eqE (by exact hr.units0)) (pv 5) (pe_lst pa_nil) (nomark _))
      (pss_one (ps_ret (pe_callTy call_tupL (by rfl) T.n_tuple bb_tuple (pa_cons (pe_lc (own := [("mask", 8)]) rfl sc_P_any_from.nd (pi_sq (pv 4)) (blkOk_by (N := N_P_any_from) (sc := defScope s_P_any_from) (by decide +kernel)) (fun _ _ _ _ _ => (pg_name (i := 8) sc_P_any_from.nd rfl (Or.inl rfl))) (fun _ _ _ _ _ => pts_nil) (fun _ _ _ _ _ => (pe_ix ix_any (pe_meth (pv 0) T.cl T.P_values_in.m (ok_P_values_in T) (hr.mono (by decide)) T.P_values_in.b .nil pass0 (pa_cons (pv 8) pa_nil)) pe_int (fun _ _ => rfl)))) pa_nil))))
      pss_nil)
      (pss_cons (ps_setLc (i := 6) (own := [("at", 7)]) rfl sc_P_any_from.nd rfl rfl (sw_true rfl rfl rfl (by decide +kernel)) (pi_sq (pv 5)) (blkOk_by (N := N_P_any_from) (sc := defScope s_P_any_from) (by decide +kernel)) (fun _ _ _ _ _ => (pg_name (i := 7) sc_P_any_from.nd rfl (Or.inl rfl))) (fun _ _ _ _ _ => pts_nil) (fun _ _ _ _ _ => (pe_tup (pa_cons (pe_callB call_lenS (by rfl) T.n_len bb_len (pa_cons (pe_meth (pv 0) T.cl T.P_values_in.m (ok_P_values_in T) (hr.mono (by decide)) T.P_values_in.b .nil pass0 (pa_cons (pe_ix ix_any (pv 4) (pv 7) (fun _ _ => rfl)) pa_nil)) pa_nil)) (pa_cons (pv 7) pa_nil)))))
      (pss_one (ps_expr (pe_bm PySem.F.plainAttrs_list PySem.F.slot_list_extend PySem.F.type_list_extend mt_extend (pv 3) (pa_cons (pe_meth (pv 0) T.cl T.P_branches.m (ok_P_branches T) (hr.mono (by decide)) T.P_branches.b .nil pass0 (pa_cons (pv 4) (pa_cons (pe_ix ix_any (pe_callB (cr_minP rfl (by exact hr.units)) (by rfl) T.n_min bb_min (pa_cons (pv 6) pa_nil)) pe_int (fun _ _ => rfl)) pa_nil))) pa_nil)))))))))
      (pss_one (ps_ret pe_non))))), ?_⟩
    have s240 : ∀ D : List Nat, DOk sz n D → D.sum ≤ 240 := fun D h => h.sum pr.hsz pr.hn
    obtain ⟨Mid, hMid⟩ : ∃ Mid : L2.St → Hp → Prop, Mid = fun σ H' => ∃ fst wt Ds, σ = [some (.ref p), some (.ref f), some fst, some (.ref wt), none, none, none, none, none] ∧ Stack T.C p dx sz n net dm tl us A wt H' Ds := ⟨_, rfl⟩
    refine ⟨fun σ H' => (∃ bs em', σ = [some (.ref p), some (.ref f), some .non, none, none, none, none, none, none] ∧ Same A H' ∧ H' p = some (insP T.C dx sz dm tl us bs em') ∧ NoSol (fullD sz n) net) ∨
      ∃ d bs D', σ = [some (.ref p), some (.ref f), some (.ref d), none, none, none, none, none, none] ∧ Same A H' ∧ A d = none ∧ H' p = some (insP T.C dx sz dm tl us bs (.bl false)) ∧ H' d = some (.lst (D'.map nv)) ∧ SetOk sz n net (fullD sz n) D' ∧ ∀ c ∈ net, Wk D' c, ?_, fun σ H1 q1 => ⟨Mid, ?_, ?_⟩⟩
    · walk_at "rd"
      refine ⟨p, dx, _, rfl, hp, lk_m_start, ?_⟩
      walk_at "rd"
      exact ⟨p, f, A, dx, sz, n, net, dm, tl, us, em, rfl, sA, hAp, hAf, pr, hp, fun H1 bs em' sA1 hp1 hno => .inl ⟨bs, em', rfl, sA1, hp1, hno⟩, fun H1 d bs D1 sA1 hAd hp1 hd1 sok hwk => .inr ⟨d, bs, D1, rfl, sA1, hAd, hp1, hd1, sok, hwk⟩⟩
    · rcases q1 with ⟨bs, em', rfl, sA1, hp1, hno⟩ | ⟨d, bs, D1, rfl, sA1, hAd, hp1, hd1, sok, hwk⟩
      · walk_at "rd"
        refine ⟨sz_le (by decide), fun wt nwt => ?_⟩
        have g := same_new (o := .lst []) nwt
        show Mid _ _
        rw [hMid]
        refine ⟨_, wt, [], rfl, sA1.trans g, none_same sA1 nwt, ⟨_, _, g _ _ hp1⟩, ⟨fun _ h => absurd h List.not_mem_nil, fun _ h => absurd h List.not_mem_nil, ⟨fun ⟨_, h, _⟩ => absurd h List.not_mem_nil, fun h => absurd h (noSol_full hno)⟩, fun _ _ h => by cases h⟩, [], upd_same, .nil⟩
      · walk_at "rd"
        refine ⟨sz_le (by show 1 ≤ 1000000; decide), fun wt nwt => ?_⟩
        have g := same_new (o := .lst [.ref d]) nwt
        show Mid _ _
        rw [hMid]
        refine ⟨_, wt, [D1], rfl, sA1.trans g, none_same sA1 nwt, ⟨_, _, g _ _ hp1⟩, ⟨fun D h => ?_, fun D h => ?_, ⟨fun ⟨D, h, a, ha, hs⟩ => ?_, fun ⟨a, ha, hs⟩ => ⟨D1, List.mem_singleton.mpr rfl, a, sok.keep a (full_in.mpr ha) hs, hs⟩⟩, fun k D h => ?_⟩, [.ref d], upd_same, .cons ⟨d, rfl, (ne_some nwt hd1).symm, g _ _ hd1⟩ .nil⟩
        · rw [List.mem_singleton.mp h]; exact sok.ok
        · rw [List.mem_singleton.mp h]; exact hwk
        · rw [List.mem_singleton.mp h] at ha
          have h1 := ha.sub sok.sub (by rw [sok.ok.len, (full_ok pr.lo).len])
          exact ⟨a, full_in.mp h1, hs⟩
        · have h1 := (List.getElem?_eq_some_iff.mp h).1
          have h2 := s240 D (by rw [List.mem_singleton.mp (List.mem_of_getElem? h)]; exact sok.ok)
          rw [List.length_singleton] at h1
          omega
    · clear q1 H1 σ
      intro σ H1 q1
      rw [hMid] at q1
      obtain ⟨fst, wt, Ds, rfl, hS⟩ := q1
      clear hMid Mid
      obtain ⟨W0, hW0⟩ : ∃ W0 : Nat → L2.St → Hp → Prop, W0 = fun m σ H' => ∃ Ds y4 y5 y6, m = powS Ds ∧ σ = [some (.ref p), some (.ref f), some fst, some (.ref wt), y4, y5, y6, none, none] ∧ Stack T.C p dx sz n net dm tl us A wt H' Ds := ⟨_, rfl⟩
      refine ⟨W0, ⟨powS Ds, by rw [hW0]; exact ⟨Ds, _, _, _, rfl, rfl, hS⟩⟩, fun m σ H2 q2 => ?_⟩
      clear hS Ds
      rw [hW0] at q2
      obtain ⟨Ds, y4, y5, y6, rfl, rfl, hS⟩ := q2
      walk_at "rd"
      refine ⟨sz_le (by decide), fun l nl => ?_⟩
      have hS := hS.same (same_new (o := .lst []) nl)
      have hl : upd H2 l (.lst []) l = some (.lst []) := upd_same
      generalize upd H2 l (.lst []) = H3 at hS hl
      obtain ⟨sA3, hAw, ⟨bs, em3, hp3⟩, stk, ls, hw3, hpair⟩ := hS
      have hll := paired_len hpair
      have hfew := stk.few
      refine ⟨true, wt, l, ls, rfl, rfl, sq_l hw3, sq_l hl, ?_⟩
      walk_at "rd"
      refine ite_of (p := Ds ≠ []) (by cases hpair <;> simp) (fun hne => ?_) fun hne => ?_
      · refine ⟨fun σ' H' => ∃ m', m' < powS Ds ∧ W0 m' σ' H', fun _ _ h => h, ?_⟩
        obtain ⟨Es, D, rfl⟩ : ∃ Es D, Ds = Es ++ [D] := ⟨Ds.dropLast, Ds.getLast hne, (List.dropLast_concat_getLast hne).symm⟩
        clear hne
        obtain ⟨ls', x, rfl, hpair', a, rfl, naw, ha⟩ := paired_unsnoc hpair
        have dok := stk.ok D (List.mem_append_right _ (List.mem_singleton.mpr rfl))
        have hwk := stk.wk D (List.mem_append_right _ (List.mem_singleton.mpr rfl))
        have hDl : D.length = n := dok.len
        have hn16 := pr.hn
        have hsz4 := pr.hsz
        have hpw : p ≠ wt := fun e => by rw [e, hw3] at hp3; cases hp3
        walk_at "rd"
        refine ⟨.inl ⟨rfl, _, SqL.of hw3⟩, ?_⟩
        refine ⟨wt, _, .ref a, rfl, rfl, hw3, by simp, ?_⟩
        rw [List.dropLast_concat]
        have sA4 : Same A (upd H3 wt (.lst ls')) := same_upd sA3 hAw
        have hp4 : upd H3 wt (.lst ls') p = some (insP T.C dx sz dm tl us bs em3) := by rw [upd_ne hpw]; exact hp3
        have ha4 : upd H3 wt (.lst ls') a = some (.lst (D.map nv)) := by rw [upd_ne naw]; exact ha
        have hw4 : upd H3 wt (.lst ls') wt = some (.lst ls') := upd_same
        have hpair4 := paired_imp (S := fun x (D : List Nat) => ∃ a, x = .ref a ∧ a ≠ wt ∧ (upd H3 wt (.lst ls')) a = some (.lst (D.map nv))) (fun _ _ q => let ⟨a, e, n, k⟩ := q; ⟨a, e, n, by rw [upd_ne n]; exact k⟩) hpair'
        generalize upd H3 wt (.lst ls') = H4 at sA4 hp4 ha4 hw4 hpair4
        clear hpair' hpair ha hp3 hw3 sA3 hl nl
        walk_at "rd"
        refine fun J wJ D0 nD0 => lc_F wJ (fun i => (opn D i).map nv) rfl (fun i hi => ?_) nD0 yen_s (fun H' sm => sq_l (sm _ _ ha4)) ?_ ?_
        · rw [List.length_map] at hi ⊢
          exact Nat.lt_of_le_of_lt filt_len (small_lt (m := 1000) (by omega))
        · intro i x H5 H6 Q' N hi s5 y kq kn
          obtain ⟨s6, b, v1, v2, rfl, hb, h1, h2⟩ := ypair_same y
          obtain ⟨m, h2', rfl⟩ := nv_at h2
          have em := gd_some h2'
          have hi' : i < n := by
            rw [List.length_map, hDl] at hi
            exact hi
          obtain ⟨_, hm0, _⟩ := dok.at hi'
          rw [em] at hm0
          cases h1
          refine ⟨b, _, rfl, hb, rfl, _, _, rfl, _, _, rfl, rfl, ?_⟩
          refine ⟨rfl, ?_⟩
          walk_at "rd"
          dsimp only
          rw [andZ hm0]
          have hb : (((m &&& (m - 1) : Nat) : Int) != 0) = true ↔ wide D i := by
            unfold wide
            rw [em]
            simp
          refine ite_of hb (fun h1 => ?_) fun h1 => ?_
          · walk_at "rd"
            refine kq _ _ (Same.refl _) ?_
            unfold opn
            rw [filt_snoc, if_pos (decide_eq_true h1), List.map_append]
            rfl
          · refine kn _ (Same.refl _) ?_
            unfold opn
            rw [filt_snoc, if_neg (by rw [decide_eq_false h1]; exact Bool.false_ne_true)]
        · intro H5 s5 hD0
          rw [List.length_map, hDl] at hD0
          have sA5 := sA4.trans s5
          have hp5 := s5 _ _ hp4
          have ha5 := s5 _ _ ha4
          have hw5 := s5 _ _ hw4
          have hD0w : D0 ≠ wt := ne_some nD0 hw4
          have hpair5 := paired_imp (S := fun x (D : List Nat) => ∃ a, x = .ref a ∧ a ≠ wt ∧ H5 a = some (.lst (D.map nv))) (fun _ _ q => let ⟨a, e, n, k⟩ := q; ⟨a, e, n, s5 _ _ k⟩) hpair4
          clear hpair4 ha4 hp4 sA4
          walk_at "rd"
          refine ⟨sz_le (by decide), fun l nl => ?_⟩
          have s6 := same_new (o := .lst []) nl
          have hl6 : upd H5 l (.lst []) l = some (.lst []) := upd_same
          generalize upd H5 l (.lst []) = H6 at s6 hl6
          have ha6 := s6 _ _ ha5
          have hp6 := s6 _ _ hp5
          have hD6 := s6 _ _ hD0
          refine ⟨true, D0, l, _, rfl, rfl, sq_l hD6, sq_l hl6, ?_⟩
          walk_at "rd"
          refine ite_of (p := opn D n = []) (by cases opn D n <;> simp) (fun hop => ?_) fun hop => ?_
          · have hwd : ∀ i, i < n → ¬ wide D i := fun i hi hw => by
              have := mem_opn.mpr ⟨hi, hw⟩
              rw [hop] at this
              cases this
            have hsol := solo dok hsz4 pr.ok hwd hwk
            walk_at "rd"
            refine fun J2 w2 D1 nD1 => lc_R w2 (fun i acc _ => acc.length = i ∧ i ≤ n) nD1 yat_s (fun _ _ _ _ _ h => h) (fun i acc _ h => by rw [h.1]; exact small_lt (m := 1000) (by omega)) (fun H' sm => sq_l (sm _ _ ha6)) ⟨rfl, Nat.zero_le _⟩ ?_ ?_
            · intro i x H7 H8 acc Q' N hi s7 _ hacc y kq _
              obtain ⟨s8, hx⟩ := yat_same y
              obtain ⟨m, hm, rfl⟩ := nv_at hx
              have hp8 := s8 _ _ (s7 _ _ hp6)
              have hi' : i < n := by
                rw [List.length_map, hDl] at hi
                exact hi
              obtain ⟨_, hm0, hm1⟩ := dok.at hi'
              rw [gd_some hm] at hm0 hm1
              obtain ⟨v, hv, _⟩ := vin_ne hm0 hm1
              have hat := nv_get hv
              refine ⟨rfl, lcY ?_⟩
              walk_at "rd"
              refine ⟨p, dx, _, rfl, hp8, lk_m_values_in, ?_⟩
              walk_at "rd"
              refine ⟨p, m, dx, sz, dm, tl, us, _, _, rfl, hp8, hsz4, fun H9 vl s9 nvl hvl => ?_⟩
              have hat0 : atI ((vin sz m).map nv) 0 = some (nv v) := at_nv (j := 0) hat
              walk_at "rd"
              exact kq _ _ s9 ⟨by rw [List.length_append, hacc.1]; rfl, hi'⟩
            · intro H7 acc s7 hD1 hacc
              refine ⟨D1, acc, rfl, hD1, fun t nt => ?_⟩
              walk_at "rd"
              exact q _ _ ((sA5.trans s6).trans (s7.trans (same_new nt))) ⟨fun _ => hsol, fun _ => fun e => nomatch e⟩
          · walk_at "rd"
            refine fun J2 w2 D1 nD1 => lc_R w2 (fun i acc H => acc.length = i ∧ i ≤ n ∧ ∀ y ∈ acc, ∃ t k j, y = .ref t ∧ H t = some (.tup [.int k, nv j]) ∧ j ∈ opn D n) nD1 yat_s (fun i acc H H' t h => ⟨h.1, h.2.1, fun y hy => let ⟨a, b, c, e, h1, h2⟩ := h.2.2 y hy; ⟨a, b, c, e, t.t h1, h2⟩⟩) (fun i acc _ h => by rw [h.1]; exact small_lt (m := 1000) (by omega)) (fun H' sm => sq_l (sm _ _ hD6)) ⟨rfl, Nat.zero_le _, fun _ h => absurd h List.not_mem_nil⟩ ?_ ?_
            · intro i x H7 H8 acc Q' N hi s7 _ hacc y kq _
              obtain ⟨s8, hx⟩ := yat_same y
              obtain ⟨j, hj, rfl⟩ := nv_at hx
              have hjm := List.mem_of_getElem? hj
              have hjn := (mem_opn.mp hjm).1
              have sm8 := s7.trans s8
              have hp8 := sm8 _ _ hp6
              have ha8 := sm8 _ _ ha6
              obtain ⟨hDj, hm0, hm1⟩ := dok.at hjn
              have hat := at_nv (nv_get hDj)
              refine ⟨rfl, lcY ?_⟩
              walk_at "rd"
              refine ⟨p, dx, _, rfl, hp8, lk_m_values_in, ?_⟩
              walk_at "rd"
              refine ⟨p, gd D j, dx, sz, dm, tl, us, _, _, rfl, hp8, hsz4, fun H9 vl s9 nvl hvl => ?_⟩
              walk_at "rd"
              refine ⟨sz_le (by show 2 ≤ 1000000; decide), fun t nt => ?_⟩
              have s10 := same_new (o := .tup [.int (((vin sz (gd D j)).map nv).length : Nat), nv j]) nt
              refine kq _ _ (s9.trans s10) ⟨by rw [List.length_append, hacc.1] <;> rfl, ?_, fun y hy => ?_⟩
              · have h1 := hi
                rw [List.length_map] at h1
                have h2 : (opn D n).length ≤ n := filt_len
                omega
              · rcases List.mem_append.mp hy with e | e
                · obtain ⟨a, b, c, e, h1, h2⟩ := hacc.2.2 y e
                  exact ⟨a, b, c, e, (same_tx (s8.trans (s9.trans s10))).t h1, h2⟩
                · rw [List.mem_singleton.mp e]
                  exact ⟨t, _, j, rfl, upd_same, hjm⟩
            · intro H7 acc s7 hD1 hacc
              rw [List.length_map] at hacc
              have hne : acc ≠ [] := fun e => hop (List.eq_nil_of_length_eq_zero (by rw [← hacc.1, e] <;> rfl))
              have hp7 := s7 _ _ hp6
              have ha7 := s7 _ _ ha6
              have hw7 := s7 _ _ (s6 _ _ hw5)
              have sA7 := (sA5.trans s6).trans s7
              have hpair7 := paired_imp (S := fun x (D : List Nat) => ∃ a, x = .ref a ∧ a ≠ wt ∧ H7 a = some (.lst (D.map nv))) (fun _ _ q => let ⟨a, e, n, k⟩ := q; ⟨a, e, n, s7 _ _ (s6 _ _ k)⟩) hpair5
              walk_at "rd"
              refine ⟨.inl ⟨rfl, _, SqL.of hw7⟩, ?_⟩
              walk_at "rd"
              refine ⟨p, dx, _, rfl, hp7, lk_m_branches, ?_⟩
              walk_at "rd"
              refine ⟨D1, acc, rfl, hD1, hne, fun y hy => let ⟨t, k, j, e, h1, _⟩ := hacc.2.2 y hy; ⟨t, k, j, e, h1⟩, fun y hy => ?_⟩
              obtain ⟨t, k, j, rfl, ht, hj⟩ := hacc.2.2 y hy
              obtain ⟨hjn, hjw⟩ := mem_opn.mp hj
              walk_at "rd"
              have hpr : Prb T.C (upd A p (insP T.C dx sz dm tl us bs em3)) p sz n net dx dm tl us bs em3 := pr.pr hAp
              refine ⟨p, a, j, upd A p (insP T.C dx sz dm tl us bs em3), dx, sz, n, net, dm, tl, us, bs, em3, D, rfl, same_put sA7 hAp hp7, hpr, hjn, dok, hwk, ha7, hjw, fun H8 bl lb Bs s8 hbl hpb hbr hb4 hcov => ?_⟩
              have hlb := paired_len hpb
              have hw8 := s8 _ _ hw7
              have hlen : ls'.length ≤ 1001 := by
                rw [List.length_append] at hll
                simp at hll hfew
                omega
              refine ⟨wt, bl, ls', lb, rfl, rfl, hw8, hbl, sz_le (by omega), ?_⟩
              show ∃ m', m' < powS (Es ++ [D]) ∧ W0 m' _ _
              rw [hW0]
              refine ⟨powS (Es ++ Bs), powS_br (fun E hE => (hbr E hE).less) hb4, Es ++ Bs, _, _, _, rfl, rfl, same_upd (sA7.trans s8) hAw, hAw, ⟨bs, em3, by rw [upd_ne hpw]; exact s8 _ _ hp7⟩, stk.step hbr hb4 hcov, ls' ++ lb, upd_same, paired_app (paired_imp (fun x E q => ?_) hpair7) (paired_imp (fun x E q => ?_) hpb)⟩
              · obtain ⟨b, e, n1, k⟩ := q
                exact ⟨b, e, n1, by rw [upd_ne n1]; exact s8 _ _ k⟩
              · obtain ⟨b, e, n1, k⟩ := q
                have n2 : b ≠ wt := ne_some n1 hw7
                exact ⟨b, e, n2, by rw [upd_ne n2]; exact k⟩
      · have : Ds = [] := Classical.not_not.mp hne
        subst this
        walk_at "rd"
        refine q _ _ sA3 ⟨fun h => absurd rfl h, fun h => ?_⟩
        obtain ⟨D, hD, _⟩ := stk.sol.mpr h
        cases hD
end
end G
/-! Plain facts: a scope's different names; rows that agree with a scope. -/
namespace G
open PySem PySem.Spec PyProof.Rows L2
def ddF (acc : List Nat) (x : Nat) : List Nat := if x ∈ acc then acc else acc ++ [x]
def dd (l : List Nat) : List Nat := l.foldl ddF []
theorem mem_ddF {acc : List Nat} {x y : Nat} : y ∈ ddF acc x ↔ y ∈ acc ∨ y = x := by
  unfold ddF
  split
  · constructor
    · exact .inl
    · rintro (h | h)
      · exact h
      · rw [h]; assumption
  · rw [List.mem_append, List.mem_singleton]
theorem mem_fold {y : Nat} : ∀ {l acc : List Nat}, y ∈ l.foldl ddF acc ↔ y ∈ acc ∨ y ∈ l
  | [], acc => by simp
  | x :: l, acc => by
    rw [List.foldl_cons, mem_fold, mem_ddF, List.mem_cons]
    constructor
    · rintro ((h | h) | h)
      · exact .inl h
      · exact .inr (.inl h)
      · exact .inr (.inr h)
    · rintro (h | h | h)
      · exact .inl (.inl h)
      · exact .inl (.inr h)
      · exact .inr h
theorem mem_dd {y : Nat} {l : List Nat} : y ∈ dd l ↔ y ∈ l := by
  unfold dd
  rw [mem_fold]
  simp
theorem dd_snoc {l : List Nat} {x : Nat} : dd (l ++ [x]) = if x ∈ l then dd l else dd l ++ [x] := by
  have e : dd (l ++ [x]) = ddF (dd l) x := by unfold dd; rw [List.foldl_append] <;> rfl
  rw [e]
  unfold ddF
  by_cases h : x ∈ l
  · rw [if_pos h, if_pos (mem_dd.mpr h)]
  · rw [if_neg h, if_neg fun q => h (mem_dd.mp q)]
theorem fold_nodup : ∀ {l acc : List Nat}, acc.Nodup → (l.foldl ddF acc).Nodup
  | [], _, h => h
  | x :: l, acc, h => by
    rw [List.foldl_cons]
    refine fold_nodup ?_
    unfold ddF
    split
    · exact h
    · exact nodup_snoc h (by assumption)
theorem dd_nodup (l : List Nat) : (dd l).Nodup := fold_nodup .nil
theorem ddF_len {acc : List Nat} {x : Nat} : (ddF acc x).length ≤ acc.length + 1 := by
  unfold ddF
  split
  · omega
  · rw [List.length_append, List.length_singleton]; exact Nat.le_refl _
theorem fold_len : ∀ {l acc : List Nat}, (l.foldl ddF acc).length ≤ acc.length + l.length
  | [], _ => Nat.le_refl _
  | x :: l, acc => by
    have h := fold_len (l := l) (acc := ddF acc x)
    have h2 := ddF_len (acc := acc) (x := x)
    rw [List.foldl_cons, List.length_cons]
    omega
theorem fold_eq : ∀ {l acc : List Nat}, (l.foldl ddF acc).length = acc.length + l.length → l.foldl ddF acc = acc ++ l
  | [], acc, _ => by simp
  | x :: l, acc, h => by
    rw [List.foldl_cons] at h ⊢
    rw [List.length_cons] at h
    have h1 := fold_len (l := l) (acc := ddF acc x)
    have h2 := ddF_len (acc := acc) (x := x)
    have h3 : (ddF acc x).length = acc.length + 1 := by omega
    have e : ddF acc x = acc ++ [x] := by
      unfold ddF at h3 ⊢
      by_cases q : x ∈ acc
      · rw [if_pos q] at h3
        omega
      · rw [if_neg q]
    rw [fold_eq (by omega), e, List.append_assoc] <;> rfl
theorem dd_len {l : List Nat} : (dd l).length ≤ l.length := by
  have := fold_len (l := l) (acc := [])
  simpa [dd] using this
theorem dd_eq {l : List Nat} (h : ¬ (dd l).length < l.length) : dd l = l := by
  have h1 := dd_len (l := l)
  have := fold_eq (l := l) (acc := []) (by
    show (dd l).length = 0 + l.length
    omega)
  simpa [dd] using this
def fi : List Nat → Nat → Nat
  | [], _ => 0
  | y :: r, x => if y = x then 0 else fi r x + 1
theorem fi_at {x : Nat} : ∀ {l : List Nat}, x ∈ l → l[fi l x]? = some x
  | y :: r, h => by
    unfold fi
    by_cases e : y = x
    · rw [if_pos e, e] <;> rfl
    · rw [if_neg e]
      have hr : x ∈ r := by
        rcases List.mem_cons.mp h with q | q
        · exact absurd q.symm e
        · exact q
      exact fi_at hr
theorem fi_first {x : Nat} : ∀ {l : List Nat} {m : Nat}, m < fi l x → l[m]? ≠ some x
  | [], m, h => absurd h (Nat.not_lt_zero _)
  | y :: r, m, h => by
    unfold fi at h
    by_cases e : y = x
    · rw [if_pos e] at h
      exact absurd h (Nat.not_lt_zero _)
    · rw [if_neg e] at h
      cases m with
      | zero => exact fun q => e (Option.some.inj q)
      | succ m => exact fi_first (l := r) (by omega)
theorem fi_lt {x : Nat} {l : List Nat} (h : x ∈ l) : fi l x < l.length := (List.getElem?_eq_some_iff.mp (fi_at h)).1
/-- the row r agrees with the scope -/
def agr (sc r : List Nat) (j : Nat) : Bool := decide (nv (gd r j) = nv (gd r (fi sc (gd sc j))))
def cons (sc r : List Nat) : Bool := ((List.range sc.length).map (agr sc r)).all id
theorem cons_iff {sc r : List Nat} : cons sc r = true ↔ ∀ j, j < sc.length → gd r j = gd r (fi sc (gd sc j)) := by
  unfold cons
  rw [List.all_map, List.all_eq_true]
  constructor
  · intro h j hj
    have := h j (List.mem_range.mpr hj)
    exact nv_inj (of_decide_eq_true this)
  · intro h j hj
    have := h j (List.mem_range.mp hj)
    show decide _ = true
    rw [this]
    exact decide_eq_true rfl
def pj (ps r : List Nat) : List Nat := ps.map (gd r)
def layN (sc : List Nat) : List Nat := dd sc
def layP (sc : List Nat) : List Nat := (dd sc).map (fi sc)
def layF (sc : List Nat) (rows : List (List Nat)) : List (List Nat) := (rows.filter (cons sc)).map (pj (layP sc))
/-- c says what the scope and the rows say -/
structure LayOk (sz n : Nat) (c : Cn) (sc : List Nat) (rows : List (List Nat)) : Prop where
  ok : CnOk sz n c
  iff : ∀ a, SatC c a ↔ sc.map a ∈ rows
/-- scope and rows as they come -/
structure TIn (sz n : Nat) (sc : List Nat) (rows : List (List Nat)) : Prop where
  ne : sc ≠ []
  lt : Lt n sc
  rws : ∀ r ∈ rows, r.length = sc.length ∧ Lt sz r
  few : rows.length ≤ 1000
  small : sc.length ≤ 16
theorem lay_same {sz n : Nat} {sc : List Nat} {rows : List (List Nat)} (h : TIn sz n sc rows) (e : ¬ (dd sc).length < sc.length) : LayOk sz n (dd sc, rows) sc rows := by
  have e2 := dd_eq e
  have nd := dd_nodup sc
  rw [e2] at nd ⊢
  exact ⟨⟨nd, h.ne, h.lt, h.rws, h.few⟩, fun a => Iff.rfl⟩
theorem lay_diff {sz n : Nat} {sc : List Nat} {rows : List (List Nat)} (h : TIn sz n sc rows) : LayOk sz n (dd sc, layF sc rows) sc rows := by
  refine ⟨⟨dd_nodup sc, fun e => ?_, fun x hx => h.lt x (mem_dd.mp hx), fun r hr => ?_, ?_⟩, fun a => ?_⟩
  · obtain ⟨x, hx⟩ := List.exists_mem_of_ne_nil sc h.ne
    have := mem_dd.mpr hx
    rw [show dd sc = [] from e] at this
    cases this
  · obtain ⟨q, hq, rfl⟩ := List.mem_map.mp hr
    obtain ⟨h1, h2⟩ := h.rws q (List.mem_filter.mp hq).1
    refine ⟨by unfold pj layP; rw [List.length_map, List.length_map], fun x hx => ?_⟩
    obtain ⟨j, hj, rfl⟩ := List.mem_map.mp hx
    obtain ⟨y, hy, rfl⟩ := List.mem_map.mp hj
    exact h2 _ (gd_mem (by rw [h1]; exact fi_lt (mem_dd.mp hy)))
  · show (layF sc rows).length ≤ 1000
    unfold layF
    rw [List.length_map]
    exact Nat.le_trans (List.length_filter_le _ _) h.few
  · constructor
    · intro hs
      obtain ⟨q, hq, e⟩ := List.mem_map.mp (show (dd sc).map a ∈ layF sc rows from hs)
      obtain ⟨hq1, hq2⟩ := List.mem_filter.mp hq
      obtain ⟨h1, h2⟩ := h.rws q hq1
      have key : ∀ x ∈ sc, gd q (fi sc x) = a x := fun x hx => by
        unfold pj layP at e
        rw [List.map_map] at e
        exact List.map_inj_left.mp e x (mem_dd.mpr hx)
      have : sc.map a = q := by
        apply List.ext_getElem?
        intro j
        rw [List.getElem?_map]
        by_cases hj : j < sc.length
        · rw [gd_get hj, gd_get (by omega : j < q.length), cons_iff.mp hq2 j hj, key _ (gd_mem hj)] <;> rfl
        · rw [List.getElem?_eq_none (by omega), List.getElem?_eq_none (by omega)] <;> rfl
      rw [this]
      exact hq1
    · intro hs
      show (dd sc).map a ∈ layF sc rows
      have at' : ∀ j, j < sc.length → gd (sc.map a) j = a (gd sc j) := fun j hj => gd_some (by rw [List.getElem?_map, gd_get hj] <;> rfl)
      have fx : ∀ x ∈ sc, gd (sc.map a) (fi sc x) = a x := fun x hx => by rw [at' _ (fi_lt hx), gd_some (fi_at hx)]
      refine List.mem_map.mpr ⟨sc.map a, List.mem_filter.mpr ⟨hs, cons_iff.mpr fun j hj => ?_⟩, ?_⟩
      · rw [at' j hj, fx _ (gd_mem hj)]
      · unfold pj layP
        rw [List.map_map]
        apply List.map_congr_left
        intro x hx
        exact fx x (mem_dd.mp hx)
theorem uses_snoc {net : Net} {c : Cn} {v : Nat} : usesOf (net ++ [c]) v = if v ∈ c.1 then usesOf net v ++ [net.length] else usesOf net v := by
  unfold usesOf
  rw [List.length_append, List.length_singleton, filt_snoc]
  have e1 : ((net ++ [c]).getD net.length ([], [])).1 = c.1 := by
    rw [getD_some (c := c) (by rw [List.getElem?_append_right (Nat.le_refl _), Nat.sub_self] <;> rfl)]
  have e2 : (List.range net.length).filter (fun i => decide (v ∈ ((net ++ [c]).getD i ([], [])).1)) = (List.range net.length).filter (fun i => decide (v ∈ (net.getD i ([], [])).1)) := by
    apply List.filter_congr
    intro i hi
    have hi := List.mem_range.mp hi
    rw [List.getD_eq_getElem?_getD, List.getD_eq_getElem?_getD, List.getElem?_append_left hi]
  rw [e1, e2]
  by_cases h : v ∈ c.1
  · rw [if_pos h, decide_eq_true h, if_pos rfl]
  · rw [if_neg h, decide_eq_false h, if_neg Bool.false_ne_true]
end G
namespace G
open PySem PySem.Spec PyProof.Rows L2
local macro_rules | `(tactic| walk_at "rd") => `(tactic| repeat (first | (refine ⟨_, rfl, ?_⟩) | (refine ⟨_, _, rfl, rfl, ?_⟩) | (refine iteT ?_) | (refine iteF ?_) | (refine ⟨_, "tuple", _, true, rfl, .tup (.inl (by assumption)), kb_tt, ?_⟩) | (refine ⟨_, "tuple", _, true, rfl, .tup (by assumption), kb_tt, ?_⟩) | (refine ⟨false, _, _, rfl, sq_t (by assumption), ?_⟩) | (refine ⟨false, _, _, rfl, sq_r (by assumption), ?_⟩) | (refine ⟨true, _, _, rfl, sq_l (by assumption), ?_⟩) | (refine ⟨false, _, _, _, _, rfl, rfl, sq_t (by assumption), at0, ?_⟩) | (refine ⟨false, _, _, _, _, rfl, rfl, sq_t (by assumption), at1, ?_⟩) | (refine ⟨false, _, _, _, _, rfl, rfl, sq_t (by assumption), (by assumption), ?_⟩) | (refine ⟨false, _, _, _, _, rfl, rfl, sq_r (by assumption), (by assumption), ?_⟩) | (refine ⟨true, _, _, _, _, rfl, rfl, sq_l (by assumption), (by assumption), ?_⟩) | (refine ⟨rfl, ?_⟩)))
theorem cut_take {r : List Nat} {i : Nat} (h : i ≤ r.length) : cutV (r.map nv) none (some ((i : Nat) : Int)) = (zs (r.take i)).map V.int := by
  unfold cutV
  rw [HT.sIx_none, HT.sIx_nat, zs_nv, List.drop_zero, List.length_map, List.map_take, Nat.min_eq_left h] <;> rfl
/-- the heap without what may be written -/
noncomputable def rest (M : Addr → Prop) (H : Hp) : Hp := fun b => open Classical in if M b then none else H b
theorem rest_no {M : Addr → Prop} {H : Hp} {b : Addr} (h : M b) : rest M H b = none := by unfold rest; exact if_pos h
theorem rest_yes {M : Addr → Prop} {H : Hp} {b : Addr} (h : ¬ M b) : rest M H b = H b := by unfold rest; exact if_neg h
theorem rest_same {M : Addr → Prop} {H : Hp} : Same (rest M H) H := fun b o e => by
  by_cases h : M b
  · rw [rest_no h] at e; cases e
  · rwa [rest_yes h] at e
theorem same_rest {M : Addr → Prop} {A H : Hp} (s : Same A H) (h : ∀ b, M b → A b = none) : Same A (rest M H) := fun b o e => by
  have : ¬ M b := fun q => by rw [h b q] at e; cases e
  rw [rest_yes this]
  exact s b o e
/-- a Problem while it is built -/
structure LayS (A H : Hp) (p C dx : Addr) (sz n : Nat) (net : Net) (dm tl us : Addr) (uf : Nat → Addr) : Prop where
  same : Same A H
  np : A p = none
  nt : A tl = none
  nu : ∀ v, v < n → A (uf v) = none
  ptl : p ≠ tl
  inj : ∀ v u, v < n → u < n → uf v = uf u → v = u
  utl : ∀ v, v < n → uf v ≠ tl
  up : ∀ v, v < n → uf v ≠ p
  ins : ∃ bs em, H p = some (insP C dx sz dm tl us bs em)
  dmn : A dm = some (.lst ((fullD sz n).map nv))
  usl : A us = some (.lst ((List.range n).map fun v => .ref (uf v)))
  use : ∀ v, v < n → H (uf v) = some (.lst ((usesOf net v).map nv))
  tll : ∃ ts, H tl = some (.lst ts) ∧ Paired (IsTold A) ts net
theorem zs_back {r : List Nat} {i x : Nat} (h : (zs r)[i]? = some (x : Int)) : r[i]? = some x := by
  unfold zs at h
  rw [List.getElem?_map] at h
  cases e : r[i]? with
  | none => rw [e] at h; cases h
  | some y =>
    rw [e] at h
    have : (y : Int) = x := Option.some.inj h
    rw [show y = x by omega]
def MutL (p tl : Addr) (n : Nat) (uf : Nat → Addr) (b : Addr) : Prop := b = p ∨ b = tl ∨ ∃ v, v < n ∧ b = uf v
theorem LayS.mut {A H : Hp} {p C dx : Addr} {sz n : Nat} {net : Net} {dm tl us : Addr} {uf : Nat → Addr} (h : LayS A H p C dx sz n net dm tl us uf) {b : Addr} (m : MutL p tl n uf b) : A b = none ∧ ∃ o, H b = some o ∧ ¬ TupO o := by
  rcases m with rfl | rfl | ⟨v, hv, rfl⟩
  · obtain ⟨bs, em, e⟩ := h.ins
    exact ⟨h.np, _, e, fun | .inl ⟨_, z⟩ => nomatch z | .inr ⟨_, _, z⟩ => nomatch z⟩
  · obtain ⟨ts, e, _⟩ := h.tll
    exact ⟨h.nt, _, e, fun | .inl ⟨_, z⟩ => nomatch z | .inr ⟨_, _, z⟩ => nomatch z⟩
  · exact ⟨h.nu v hv, _, h.use v hv, fun | .inl ⟨_, z⟩ => nomatch z | .inr ⟨_, _, z⟩ => nomatch z⟩
theorem rest_tx {M : Addr → Prop} {H : Hp} (h : ∀ b, M b → ∃ o, H b = some o ∧ ¬ TupO o) : Tx H (rest M H) := fun b o t e => by
  have : ¬ M b := fun m => by
    obtain ⟨o', e', n⟩ := h b m
    rw [e] at e'
    exact n (Option.some.inj e' ▸ t)
  rw [rest_yes this]
  exact e
theorem sq_rest {M : Addr → Prop} {H : Hp} {k : Bool} {a : Addr} {xs : List V} (h : Sq k H a xs) (n : ¬ M a) : Sq k (rest M H) a xs := by
  have e : rest M H a = H a := rest_yes n
  cases k with
  | true => exact (show rest M H a = _ from e.trans h)
  | false =>
    rcases h with h | ⟨o, h⟩
    · exact .inl (e.trans h)
    · exact .inr ⟨o, e.trans h⟩
theorem paired_filt {α : Type} {R : α → List Nat → Prop} {p : List Nat → Bool} {rs : List (List Nat)} {acc : List α} {i : Nat} {x : α} {r : List Nat} (h : Paired R acc ((rs.take i).filter p)) (hr : rs[i]? = some r) (hx : R x r) (hp : p r = true) : Paired R (acc ++ [x]) ((rs.take (i + 1)).filter p) := by
  rw [take_snoc hr, List.filter_append]
  have : [r].filter p = [r] := by simp [hp]
  rw [this]
  exact paired_snoc hx h
theorem filt_no {p : List Nat → Bool} {rs : List (List Nat)} {i : Nat} {r : List Nat} (hr : rs[i]? = some r) (hp : p r = false) : (rs.take (i + 1)).filter p = (rs.take i).filter p := by
  rw [take_snoc hr, List.filter_append]
  have : [r].filter p = [] := by simp [hp]
  rw [this, List.append_nil]
section
variable {P : Program} {w : World} {K : PySem.W.Frag} {mg : Str → Option Value} {base : Heap}
def sp_P_lay (C : Addr) : Sp := fun vs H Q _ => ∃ (p : Addr) (sv rv : V) (A : Hp) (dx : Addr) (sz n : Nat) (net : Net) (dm tl us : Addr) (uf : Nat → Addr) (sc : List Nat) (rows : List (List Nat)),
  vs = [.ref p, sv, rv] ∧ LayS A H p C dx sz n net dm tl us uf ∧ IS A sv sc ∧ (∃ k ra xs, rv = .ref ra ∧ Sq k A ra xs ∧ Rws A xs rows) ∧ TIn sz n sc rows ∧ net.length < 200 ∧ n ≤ 16 ∧
  ∀ H' A' c, Same A A' → LayS A' H' p C dx sz n (net ++ [c]) dm tl us uf → LayOk sz n c sc rows → (∃ em, H' p = some (insP C dx sz dm tl us .non em)) → Q .non H'
theorem ok_P_lay (T : TX K mg) : FnOk P w K mg base CX0 1 T.P_lay.f T.P_lay.fd ["self", "scope", "rows"] (sp_P_lay T.C) := by
  refine T.P_lay.F.ok sc_P_lay (fun vs H Q E h => ?_) (fun cdv A0 outer s H vs Q E hr h => ?_)
  · obtain ⟨_, _, _, _, _, _, _, _, _, _, _, _, _, _, rfl, _⟩ := h
    rfl
  · obtain ⟨p, sv, rv, A, dx, sz, n, net, dm, tl, us, uf, sc, rows, rfl, ls, ⟨sa, so, rfl, hso, hsa⟩, ⟨kr, ra, rxs, rfl, hra, hrows⟩, tin, hnet, hn, q⟩ := h
    refine ⟨_, (pss_cons (ps_set (i := 3) sc_P_lay.nd rfl (.inl rfl) (pe_callTy call_tupL (by rfl) T.n_tuple bb_tuple (pa_cons (pe_lc (own := [("at", 7), ("name", 8)]) rfl sc_P_lay.nd (pi_enumS (by rfl) T.n_enumerate (pa_cons (pv 1) pa_nil)) (blkOk_by (N := N_P_lay) (sc := defScope s_P_lay) (by decide +kernel)) (fun _ _ _ _ _ => (pg_tupS (n := 2) rfl (pgs_cons (pg_name (i := 7) sc_P_lay.nd rfl (Or.inl rfl)) (pgs_cons (pg_name (i := 8) sc_P_lay.nd rfl (Or.inl rfl)) pgs_nil)))) (fun _ _ _ _ _ => (pts_one (pt_cmpR op_notInI (pv 8) (pe_slice sl_tupS (pv 1) po_none (po_some (pv 7))) (by rfl)))) (fun _ _ _ _ _ => (pv 8))) pa_nil)))
      (pss_cons (ps_set (i := 4) sc_P_lay.nd rfl (.inl rfl) (pv 2))
      (C8.pss_cut (ps_if (pt_cmpR op_lt (pe_callB call_lenS (by rfl) T.n_len bb_len (pa_cons (pv 3) pa_nil)) (pe_callB call_lenS (by rfl) T.n_len bb_len (pa_cons (pv 1) pa_nil)) (nomark _))
      (pss_cons (ps_set (i := 5) sc_P_lay.nd rfl (.inr rfl) (pe_lc (own := [("name", 8)]) rfl sc_P_lay.nd (pi_sq (pv 3)) (blkOk_by (N := N_P_lay) (sc := defScope s_P_lay) (by decide +kernel)) (fun _ _ _ _ _ => (pg_name (i := 8) sc_P_lay.nd rfl (Or.inl rfl))) (fun _ _ _ _ _ => pts_nil) (fun _ _ _ _ _ => (pe_index (pv 1) (pv 8)))))
      (pss_cons (ps_setLc (i := 4) (own := [("row", 9)]) rfl sc_P_lay.nd rfl rfl (sw_true rfl rfl rfl (by decide +kernel)) (pi_sq (pv 2)) (blkOk_by (N := N_P_lay) (sc := defScope s_P_lay) (by decide +kernel)) (fun _ _ _ _ _ => (pg_name (i := 9) sc_P_lay.nd rfl (Or.inr rfl))) (fun _ _ _ _ _ => (pts_one (pt_val (pe_callB (cr_allB rfl) (by rfl) T.n_all bb_all (pa_cons (pe_lc (own := [("at", 7), ("told", 11)]) rfl sc_P_lay.nd (pi_enumS (by rfl) T.n_enumerate (pa_cons (pv 1) pa_nil)) (blkOk_by (by kernel_rfl)) (fun _ _ _ _ _ => (pg_tupS (n := 2) rfl (pgs_cons (pg_name (i := 7) sc_P_lay.nd rfl (Or.inl rfl)) (pgs_cons (pg_name (i := 11) sc_P_lay.nd rfl (Or.inl rfl)) pgs_nil)))) (fun _ _ _ _ _ => pts_nil) (fun _ _ _ _ _ => (pe_cmpR op_eq (pe_ix ix_any (pv 9) (pv 7) (fun _ _ => rfl)) (pe_ix ix_any (pv 9) (pe_index (pv 1) (pv 11)) (fun _ _ => rfl)) (nomark _)))) pa_nil))))) (fun _ _ _ _ _ => (pv 9)))
      (pss_one (ps_setLc (i := 4) (own := [("row", 9)]) rfl sc_P_lay.nd rfl rfl (sw_true rfl rfl rfl (by decide +kernel)) (pi_sq (pv 4)) (blkOk_by (N := N_P_lay) (sc := defScope s_P_lay) (by decide +kernel)) (fun _ _ _ _ _ => (pg_name (i := 9) sc_P_lay.nd rfl (Or.inr rfl))) (fun _ _ _ _ _ => pts_nil) (fun _ _ _ _ _ => (pe_callTy call_tupL (by rfl) T.n_tuple bb_tuple (pa_cons (pe_lc (own := [("place", 10)]) rfl sc_P_lay.nd (pi_sq (pv 5)) (blkOk_by (by kernel_rfl)) (fun _ _ _ _ _ => (pg_name (i := 10) sc_P_lay.nd rfl (Or.inl rfl))) (fun _ _ _ _ _ => pts_nil) (fun _ _ _ _ _ => (pe_ix ix_any (pv 9) (pv 10) (fun _ _ => rfl)))) pa_nil)))))))
      pss_nil)
      (pss_cons (ps_for PassesOwn.never rfl (pi_sq (pv 3)) (pg_name (i := 6) sc_P_lay.nd rfl (Or.inl rfl))
      (pss_one (ps_expr (pe_bm PySem.F.plainAttrs_list PySem.F.slot_list_append PySem.F.type_list_append mt_append (pe_ix ix_any (pe_fld (pv 0) rfl) (pv 6) (fun _ _ => rfl)) (pa_cons (pe_callB call_lenS (by rfl) T.n_len bb_len (pa_cons (pe_fld (pv 0) rfl) pa_nil)) pa_nil)))))
      (pss_cons (ps_expr (pe_bm PySem.F.plainAttrs_list PySem.F.slot_list_append PySem.F.type_list_append mt_append (pe_fld (pv 0) rfl) (pa_cons (pe_tup (pa_cons (pv 3) (pa_cons (pv 4) pa_nil))) pa_nil)))
      (pss_one (ps_fld (pv 0) pe_non rfl))))))), ?_⟩
    have hsm := tin.small
    have hsa1 := ls.same _ _ hsa
    have hra1 := hra.same ls.same
    have hrows1 := hrows.tx (same_tx ls.same)
    walk_at "rd"
    refine ⟨false, sa, _, rfl, .inr ⟨so, hsa1⟩, fun J wJ D0 nD0 => lc_F wJ (fun i => (dd (sc.take i)).map nv) (by rw [List.take_zero] <;> rfl) (fun i _ => ?_) nD0 yen_s (fun H' sm => .inr ⟨so, sm _ _ hsa1⟩) ?_ ?_⟩
    · rw [List.length_map]
      refine Nat.lt_of_le_of_lt dd_len (small_lt (m := 1000) ?_)
      rw [List.length_take]
      omega
    · intro i x H1 H2 Q' N hi s1 y kq kn
      obtain ⟨s2, b, v1, v2, rfl, hb, h1, h2⟩ := ypair_same y
      obtain ⟨nm, h2', rfl⟩ := nv_at h2
      cases h1
      rw [List.length_map] at hi
      have hsa2 := s2 _ _ (s1 _ _ hsa1)
      refine ⟨b, _, rfl, hb, rfl, _, _, rfl, _, _, rfl, rfl, ?_⟩
      refine ⟨rfl, ?_⟩
      walk_at "rd"
      refine ⟨sa, _, rfl, .inr ⟨so, hsa2⟩, ?_, fun t nt => ?_⟩
      · rintro ⟨_, h2⟩
        rw [HT.sIx_nat, List.length_map] at h2
        omega
      have ht : upd H2 t (.tup (cutV (sc.map nv) none (some ((i : Nat) : Int)))) t = some (.tup ((zs (sc.take i)).map V.int)) := by
        rw [upd_same, cut_take (Nat.le_of_lt hi)]
      refine ⟨false, t, (nm : Int), zs (sc.take i), rfl, rfl, sq_t ht, ?_⟩
      have s3 : Same H2 (upd H2 t (.tup (cutV (sc.map nv) none (some ((i : Nat) : Int))))) := same_new nt
      walk_at "rd"
      have hmem : (!decide ((nm : Int) ∈ zs (sc.take i))) = true ↔ nm ∉ sc.take i := by
        rw [Bool.not_eq_true', decide_eq_false_iff_not]
        refine not_congr ⟨fun hz => ?_, fun hz => List.mem_map.mpr ⟨nm, hz, rfl⟩⟩
        obtain ⟨z, hz, e⟩ := List.mem_map.mp hz
        have : z = nm := by omega
        rw [← this]
        exact hz
      refine ite_of hmem (fun h1 => ?_) fun h1 => ?_
      · walk_at "rd"
        refine kq _ _ s3 ?_
        rw [take_snoc h2', dd_snoc, if_neg h1, List.map_append]
        rfl
      · refine kn _ s3 ?_
        rw [take_snoc h2', dd_snoc, if_pos (Classical.not_not.mp h1)]
    · intro H1 s1 hD0
      rw [List.length_map, List.take_length] at hD0
      refine ⟨D0, _, rfl, hD0, fun na nna => ?_⟩
      have s2 := s1.trans (same_new (o := .tup ((dd sc).map nv)) nna)
      have hna : upd H1 na (.tup ((dd sc).map nv)) na = some (.tup ((dd sc).map nv)) := upd_same
      generalize upd H1 na (.tup ((dd sc).map nv)) = H2 at s2 hna
      have nnaH : H na = none := none_same s1 nna
      clear hD0 nna s1
      have hsa2 := s2 _ _ hsa1
      walk_at "rd"
      obtain ⟨Mid, hMid⟩ : ∃ Mid : L2.St → Hp → Prop, Mid = fun σ H' => ∃ fa k xs frows y5, σ = [some (.ref p), some (.ref sa), some (.ref ra), some (.ref na), some (.ref fa), y5, none, none, none, none, none, none] ∧ Same H H' ∧ H' na = some (.tup ((dd sc).map nv)) ∧ ¬ MutL p tl n uf fa ∧ Sq k H' fa xs ∧ Rws H' xs frows ∧ LayOk sz n (dd sc, frows) sc rows := ⟨_, rfl⟩
      refine ⟨Mid, ?_, fun σ H3 q3 => ?_⟩
      · have hraM : ¬ MutL p tl n uf ra := fun m => by
          have := (ls.mut m).1
          cases kr with
          | true => rw [show A ra = _ from hra] at this; cases this
          | false =>
            rcases hra with h | ⟨o, h⟩
            · rw [h] at this; cases this
            · rw [h] at this; cases this
        walk_at "rd"
        refine ⟨false, sa, _, rfl, .inr ⟨so, hsa2⟩, ?_⟩
        walk_at "rd"
        rw [List.length_map, List.length_map]
        refine ite_of (p := (dd sc).length < sc.length) (by rw [decide_eq_true_iff]; omega) (fun hlt => ?_) fun hlt => ?_
        · refine ⟨_, rfl, false, na, _, rfl, sq_t hna, fun J2 w2 D1 nD1 => lc_F w2 (fun i => ((layP sc).map nv).take i) List.take_zero (fun i _ => take_lt (by rw [List.length_map]; unfold layP; rw [List.length_map]; exact Nat.le_trans dd_len hsm) (by decide) i) nD1 yat_s (fun H' sm => sq_t (sm _ _ hna)) ?_ ?_⟩
          · intro i x H3 H4 Q' N hi s3 y kq _
            obtain ⟨s4, hx⟩ := yat_same y
            obtain ⟨nm, hnm, rfl⟩ := nv_at hx
            have hsa4 := s4 _ _ (s3 _ _ hsa2)
            have hms : nm ∈ sc := mem_dd.mp (List.mem_of_getElem? hnm)
            refine ⟨rfl, lcY ?_⟩
            walk_at "rd"
            refine ⟨⟨sa, so, _, rfl, hsa4, hso⟩, ?_⟩
            walk_at "rd"
            refine ⟨sa, zs sc, (nm : Int), fi sc nm, rfl, rfl, .inr ⟨so, by rw [zs_nv]; exact hsa4⟩, zs_get (fi_at hms), fun m hm hz => fi_first hm (zs_back hz), ?_⟩
            refine kq _ _ (Same.refl _) ?_
            refine take_snoc ?_
            unfold layP
            rw [List.getElem?_map, List.getElem?_map, hnm] <;> rfl
          · intro H3 s3 hD1
            have hD1 : H3 D1 = some (.lst ((layP sc).map nv)) := by
              rw [hD1, List.take_of_length_le]
              unfold layP
              simp
            have hsa3 := s3 _ _ hsa2
            have hna3 := s3 _ _ hna
            have hra3 := (hra1.same s2).same s3
            have hrows3 := (hrows1.tx (same_tx s2)).tx (same_tx s3)
            have s23 := s2.trans s3
            have hlen := paired_len hrows3
            have hfew := tin.few
            refine ⟨_, rfl, kr, ra, _, rfl, hra3, fun J3 w3 D2 nD2 => lc_R w3 (fun i acc H => Rws H acc ((rows.take i).filter (cons sc))) nD2 yat_s (fun i acc H H' t h => h.tx t) (fun i acc H h => ?_) (fun H' sm => hra3.same sm) (by rw [List.take_zero]; exact .nil) ?_ ?_⟩
            · rw [paired_len h]
              exact Nat.lt_of_le_of_lt (List.length_filter_le _ _) (take_lt hfew (by decide) i)
            · intro i x H4 H5 acc Q' N hi s4 hDacc hacc y kq kn
              obtain ⟨s5, hx⟩ := yat_same y
              have sm5 := s4.trans s5
              obtain ⟨r, hr', a, rfl, ha⟩ := paired_get (hrows3.tx (same_tx sm5)) hx
              obtain ⟨hrl, hrlt⟩ := tin.rws r (List.mem_of_getElem? hr')
              have hsa5 := sm5 _ _ hsa3
              refine ⟨rfl, ?_⟩
              walk_at "rd"
              refine ⟨false, sa, _, rfl, .inr ⟨so, hsa5⟩, fun J6 w6 D3 nD3 => lc_F w6 (fun j => (List.range j).map fun j => V.bl (agr sc r j)) rfl (fun j hj => by rw [List.length_map, List.length_range]; rw [List.length_map] at hj; exact small_lt (m := 1000) (by omega)) nD3 yen_s (fun H' sm => .inr ⟨so, sm _ _ hsa5⟩) ?_ ?_⟩
              · intro j x H6 H7 Q2 N2 hj s6 y kq2 _
                obtain ⟨s7, b, v1, v2, rfl, hb, h1, h2⟩ := ypair_same y
                obtain ⟨nm, h2', rfl⟩ := nv_at h2
                cases h1
                rw [List.length_map] at hj
                have sm7 := s6.trans s7
                have hsa7 := sm7 _ _ hsa5
                have ha7 := sm7 _ _ ha
                have hms : nm ∈ sc := List.mem_of_getElem? h2'
                have hfl := fi_lt hms
                have ha1 := at_nv (nv_get (gd_get (D := r) (i := j) (by omega)))
                have ha2 := at_nv (nv_get (gd_get (D := r) (i := fi sc nm) (by omega)))
                refine ⟨b, _, rfl, hb, rfl, _, _, rfl, _, _, rfl, rfl, ?_⟩
                refine ⟨rfl, lcY ?_⟩
                walk_at "rd"
                refine ⟨⟨sa, so, _, rfl, hsa7, hso⟩, ?_⟩
                walk_at "rd"
                refine ⟨sa, zs sc, (nm : Int), fi sc nm, rfl, rfl, .inr ⟨so, by rw [zs_nv]; exact hsa7⟩, zs_get (fi_at hms), fun m hm hz => fi_first hm (zs_back hz), ?_⟩
                walk_at "rd"
                refine kq2 _ _ (Same.refl _) ?_
                show (List.range (j + 1)).map _ = _
                rw [range_snoc, List.map_append, List.map_singleton]
                unfold agr
                rw [gd_some h2']
              · intro H6 s6 hD3
                refine ⟨D3, (List.range sc.length).map (agr sc r), rfl, by rw [hD3, List.length_map, List.map_map] <;> rfl, ?_⟩
                walk_at "rd"
                refine ite_of (p := cons sc r = true) Iff.rfl (fun hc => ?_) fun hc => ?_
                · walk_at "rd"
                  refine kq _ _ s6 ?_
                  exact paired_filt (hacc.tx (same_tx (s5.trans s6))) hr' ⟨a, rfl, s6 _ _ ha⟩ hc
                · refine kn _ s6 ?_
                  rw [filt_no hr' (by simpa using hc)]
                  exact hacc.tx (same_tx (s5.trans s6))
            · intro H4 acc s4 hD2 hacc
              rw [hlen, List.take_length] at hacc
              have hD14 := s4 _ _ hD1
              have hal := paired_len hacc
              have hal2 : acc.length ≤ 1000 := by
                rw [hal]
                exact Nat.le_trans (List.length_filter_le _ _) hfew
              walk_at "rd"
              refine fun J4 w4 D4 nD4 => lc_R w4 (fun i acc' H => Rws H acc' (((rows.filter (cons sc)).take i).map (pj (layP sc)))) nD4 yat_s (fun i acc H H' t h => h.tx t) (fun i acc H h => ?_) (fun H' sm => sq_l (sm _ _ hD2)) (by rw [List.take_zero]; exact .nil) ?_ ?_
              · rw [paired_len h, List.length_map]
                exact take_lt (by rw [← hal]; exact hal2) (by decide) i
              · intro i x H5 H6 acc' Q' N hi s5 _ hacc' y kq _
                obtain ⟨s6, hx⟩ := yat_same y
                have sm6 := s5.trans s6
                obtain ⟨r, hr', a, rfl, ha⟩ := paired_get (hacc.tx (same_tx sm6)) hx
                obtain ⟨hrl, hrlt⟩ := tin.rws r (List.mem_filter.mp (List.mem_of_getElem? hr')).1
                have hD16 := sm6 _ _ hD14
                have hpl : (pj (layP sc) r).length ≤ 16 := by
                  unfold pj layP
                  rw [List.length_map, List.length_map]
                  exact Nat.le_trans dd_len hsm
                refine ⟨rfl, lcY ?_⟩
                walk_at "rd"
                refine fun J7 w7 D5 nD5 => lc_F w7 (fun j => ((pj (layP sc) r).map nv).take j) List.take_zero (fun j _ => take_lt (by rw [List.length_map]; exact hpl) (by decide) j) nD5 yat_s (fun H' sm => sq_l (sm _ _ hD16)) ?_ ?_
                · intro j x H7 H8 Q2 N2 hj s7 y kq2 _
                  obtain ⟨s8, hx⟩ := yat_same y
                  obtain ⟨pl, hpl', rfl⟩ := nv_at hx
                  have ha8 := (s7.trans s8) _ _ ha
                  have hplt : pl < r.length := by
                    obtain ⟨z, hz, ez⟩ := List.mem_map.mp (List.mem_of_getElem? hpl')
                    rw [hrl, ← ez]
                    exact fi_lt (mem_dd.mp hz)
                  have hat := at_nv (nv_get (gd_get hplt))
                  refine ⟨rfl, lcY ?_⟩
                  walk_at "rd"
                  refine kq2 _ _ (Same.refl _) ?_
                  refine take_snoc ?_
                  unfold pj
                  rw [List.getElem?_map, List.getElem?_map, hpl'] <;> rfl
                · intro H7 s7 hD5
                  refine ⟨D5, _, rfl, hD5, fun t nt => ?_⟩
                  have e : ((pj (layP sc) r).map nv).take ((layP sc).map nv).length = (pj (layP sc) r).map nv := by
                    rw [List.take_of_length_le]
                    unfold pj
                    simp
                  rw [e]
                  refine kq _ _ (s7.trans (same_new nt)) ?_
                  show Paired _ _ (((rows.filter (cons sc)).take (i + 1)).map _)
                  rw [take_snoc hr', List.map_append, List.map_singleton]
                  exact paired_snoc ⟨t, rfl, upd_same⟩ (hacc'.tx (same_tx ((s6.trans s7).trans (same_new nt))))
              · intro H5 acc' s5 hD4 hacc'
                rw [hal, List.take_length] at hacc'
                have s245 := (s23.trans s4).trans s5
                show Mid _ _
                rw [hMid]
                refine ⟨D4, true, acc', layF sc rows, _, rfl, s245, s5 _ _ (s4 _ _ hna3), fun m => ?_, hD4, hacc', lay_diff tin⟩
                obtain ⟨_, o, ho, _⟩ := ls.mut m
                rw [(s23.trans s4) _ _ ho] at nD4
                cases nD4
        · show Mid _ _
          rw [hMid]
          exact ⟨ra, kr, rxs, rows, _, rfl, s2, hna, hraM, hra1.same s2, hrows1.tx (same_tx s2), lay_same tin hlt⟩
      · rw [hMid] at q3
        clear hMid Mid
        obtain ⟨fa, k, xs, frows, y5, rfl, s3, hna3, hfaM, hfa, hfr, lok⟩ := q3
        obtain ⟨bs, em, hp⟩ := ls.ins
        obtain ⟨ts, htl, hts⟩ := ls.tll
        have hLt : ts.length = net.length := paired_len hts
        have sA3 := ls.same.trans s3
        -- the heap without what may be written
        obtain ⟨A1, hA1⟩ : ∃ A1, A1 = rest (MutL p tl n uf) H3 := ⟨_, rfl⟩
        have mm : ∀ b, MutL p tl n uf b → ∃ o, H3 b = some o ∧ ¬ TupO o := fun b m => let ⟨o, h1, h2⟩ := (ls.mut m).2; ⟨o, s3 _ _ h1, h2⟩
        have tx1 : Tx H3 A1 := by rw [hA1]; exact rest_tx mm
        have s1 : Same A1 H3 := by rw [hA1]; exact rest_same
        have sA1 : Same A A1 := by rw [hA1]; exact same_rest sA3 fun b m => (ls.mut m).1
        have no1 : ∀ b, MutL p tl n uf b → A1 b = none := fun b m => by rw [hA1]; exact rest_no m
        have hfa1 : Sq k A1 fa xs := by rw [hA1]; exact sq_rest hfa hfaM
        have hfr1 : Rws A1 xs frows := hfr.tx tx1
        have hna1 : A1 na = some (.tup ((dd sc).map nv)) := tx1.t hna3
        clear hA1
        have np1 := no1 p (.inl rfl)
        have nt1 := no1 tl (.inr (.inl rfl))
        have nu1 : ∀ v, v < n → A1 (uf v) = none := fun v hv => no1 _ (.inr (.inr ⟨v, hv, rfl⟩))
        have hus1 := sA1 _ _ ls.usl
        have cok : CnOk sz n (dd sc, frows) := lok.ok
        refine ⟨_, rfl, false, na, _, rfl, sq_t hna3, fun J wJ => for_it wJ (fun i σ H' => ∃ y6, σ = [some (.ref p), some (.ref sa), some (.ref ra), some (.ref na), some (.ref fa), y5, y6, none, none, none, none, none] ∧ Same A1 H' ∧ H' p = some (insP T.C dx sz dm tl us bs em) ∧ H' tl = some (.lst ts) ∧ ∀ v, v < n → H' (uf v) = some (.lst ((usesOf net v ++ if v ∈ (dd sc).take i then [net.length] else []).map nv))) ?_ (fun i σ H' _ q => ?_) (fun i x σ H4 H5 hi q4 y => ?_) fun σ H4 q4 => ?_⟩
        · refine ⟨_, rfl, s1, s3 _ _ hp, s3 _ _ htl, fun v hv => ?_⟩
          rw [List.take_zero, if_neg List.not_mem_nil, List.append_nil]
          exact s3 _ _ (ls.use v hv)
        · obtain ⟨_, _, sm, _⟩ := q
          exact sq_t (sm _ _ hna1)
        · obtain ⟨y6, rfl, sm, hp4, htl4, huse⟩ := q4
          obtain ⟨s5, hx⟩ := yat_same y
          obtain ⟨v, hv, rfl⟩ := nv_at hx
          have hvn : v < n := tin.lt v (mem_dd.mp (List.mem_of_getElem? hv))
          have hp5 := s5 _ _ hp4
          have htl5 := s5 _ _ htl4
          have hus5 := s5 _ _ (sm _ _ hus1)
          have huv := s5 _ _ (huse v hvn)
          have hat : atI ((List.range n).map fun v => V.ref (uf v)) ((v : Nat) : Int) = some (.ref (uf v)) := at_nv (by rw [List.getElem?_map, List.getElem?_range hvn] <;> rfl)
          walk_at "rd"
          refine ⟨p, T.C, dx, _, _, rfl, hp5, T.cl, T.a_uses, lk_uses, ?_⟩
          walk_at "rd"
          refine ⟨.inl ⟨rfl, _, SqL.of huv⟩, ?_⟩
          walk_at "rd"
          refine ⟨p, T.C, dx, _, _, rfl, hp5, T.cl, T.a_told, lk_told, ?_⟩
          walk_at "rd"
          have hul := uses_len (net := net) (v := v)
          refine ⟨uf v, _, _, rfl, rfl, huv, small_lt (m := 1000) (by
            rw [List.length_map, List.length_append]
            have : (if v ∈ (dd sc).take i then [net.length] else []).length ≤ 1 := by split <;> simp
            omega), ?_⟩
          refine ⟨_, rfl, same_upd (sm.trans s5) (nu1 v hvn), by rw [upd_ne (ls.up v hvn).symm]; exact hp5, by rw [upd_ne (ls.utl v hvn).symm]; exact htl5, fun u hu => ?_⟩
          by_cases e : u = v
          · subst e
            rw [upd_same, take_snoc hv, if_neg (not_mem_take (dd_nodup sc) hv), List.append_nil, if_pos (List.mem_append_right _ (List.mem_singleton.mpr rfl)), hLt, List.map_append]
            rfl
          · rw [upd_ne fun q => e (ls.inj u v hu hvn q), take_snoc hv, s5 _ _ (huse u hu)]
            have : (u ∈ (dd sc).take i ++ [v]) ↔ u ∈ (dd sc).take i := by
              rw [List.mem_append, List.mem_singleton]
              exact ⟨fun h => h.resolve_right e, .inl⟩
            simp only [this]
        · obtain ⟨y6, rfl, sm, hp4, htl4, huse⟩ := q4
          rw [List.length_map, List.take_length] at huse
          walk_at "rd"
          refine ⟨p, T.C, dx, _, _, rfl, hp4, T.cl, T.a_told, lk_told, ?_⟩
          refine ⟨.inl ⟨rfl, _, SqL.of htl4⟩, ?_⟩
          walk_at "rd"
          refine ⟨sz_le (by show 2 ≤ 1000000; decide), fun t nt => ?_⟩
          have s5 := same_new (o := .tup [.ref na, .ref fa]) nt
          have ntA := none_same sm nt
          have ht5 : upd H4 t (.tup [.ref na, .ref fa]) t = some (.tup [.ref na, .ref fa]) := upd_same
          have sA5 : Same (upd A1 t (.tup [.ref na, .ref fa])) (upd H4 t (.tup [.ref na, .ref fa])) := same_put (sm.trans s5) ntA ht5
          generalize upd H4 t (.tup [.ref na, .ref fa]) = H5 at s5 ht5 sA5
          have htl5 := s5 _ _ htl4
          have hp5 := s5 _ _ hp4
          have htp : p ≠ t := (ne_some nt hp4).symm
          have htt : tl ≠ t := (ne_some nt htl4).symm
          have htu : ∀ v, v < n → uf v ≠ t := fun v hv => (ne_some nt (huse v hv)).symm
          walk_at "rd"
          refine ⟨tl, ts, _, rfl, rfl, htl5, small_lt (m := 1000) (by omega), ?_⟩
          have hp6 : upd H5 tl (.lst (ts ++ [.ref t])) p = some (insP T.C dx sz dm tl us bs em) := by rw [upd_ne ls.ptl]; exact hp5
          walk_at "rd"
          refine ⟨p, T.C, dx, _, rfl, hp6, T.cl, T.a_base, pfs_len, ?_⟩
          rw [put_base]
          have nt2 : upd A1 t (.tup [.ref na, .ref fa]) tl = none := by rw [upd_ne htt]; exact nt1
          have np2 : upd A1 t (.tup [.ref na, .ref fa]) p = none := by rw [upd_ne htp]; exact np1
          have sA2 : Same A (upd A1 t (.tup [.ref na, .ref fa])) := sA1.trans (same_new ntA)
          have told : IsTold (upd A1 t (.tup [.ref na, .ref fa])) (.ref t) (dd sc, frows) :=
            ⟨t, .ref na, fa, k, xs, rfl, upd_same, ⟨na, rfl, same_new ntA _ _ hna1⟩, hfa1.same (same_new ntA), hfr1.tx (tx_new ntA)⟩
          refine q _ (upd A1 t (.tup [.ref na, .ref fa])) (dd sc, frows) sA2 ⟨same_upd (same_upd sA5 nt2) np2, np2, nt2, fun v hv => by rw [upd_ne (htu v hv)]; exact nu1 v hv, ls.ptl, ls.inj, ls.utl, ls.up, ⟨_, _, upd_same⟩, sA2 _ _ ls.dmn, sA2 _ _ ls.usl, fun v hv => ?_, ts ++ [.ref t], by rw [upd_ne ls.ptl.symm, upd_same], paired_snoc told (paired_imp (fun _ _ q => q.same sA2) hts)⟩ lok ⟨_, upd_same⟩
          rw [upd_ne (ls.up v hv), upd_ne (ls.utl v hv), s5 _ _ (huse v hv), uses_snoc]
          by_cases hm : v ∈ dd sc
          · rw [if_pos hm, if_pos (show v ∈ (dd sc, frows).1 from hm)]
          · rw [if_neg hm, if_neg (show v ∉ (dd sc, frows).1 from hm), List.append_nil]
end
end G
namespace G
open PySem PySem.Spec PyProof.Rows L2
local macro_rules | `(tactic| walk_at "rd") => `(tactic| repeat (first | (refine ⟨_, rfl, ?_⟩) | (refine ⟨_, _, rfl, rfl, ?_⟩) | (refine iteT ?_) | (refine iteF ?_) | (refine ⟨_, "tuple", _, true, rfl, .tup (.inl (by assumption)), kb_tt, ?_⟩) | (refine ⟨_, "tuple", _, true, rfl, .tup (by assumption), kb_tt, ?_⟩) | (refine ⟨false, _, _, rfl, sq_t (by assumption), ?_⟩) | (refine ⟨false, _, _, rfl, sq_r (by assumption), ?_⟩) | (refine ⟨true, _, _, rfl, sq_l (by assumption), ?_⟩) | (refine ⟨false, _, _, _, _, rfl, rfl, sq_t (by assumption), at0, ?_⟩) | (refine ⟨false, _, _, _, _, rfl, rfl, sq_t (by assumption), at1, ?_⟩) | (refine ⟨false, _, _, _, _, rfl, rfl, sq_t (by assumption), (by assumption), ?_⟩) | (refine ⟨false, _, _, _, _, rfl, rfl, sq_r (by assumption), (by assumption), ?_⟩) | (refine ⟨true, _, _, _, _, rfl, rfl, sq_l (by assumption), (by assumption), ?_⟩) | (refine ⟨rfl, ?_⟩)))
abbrev fs1 (a : V) : List (Str × V) := [("size", a)]
abbrev fs2 (a b : V) : List (Str × V) := [("size", a), ("domains", b)]
abbrev fs3 (a b c : V) : List (Str × V) := [("size", a), ("domains", b), ("told", c)]
abbrev fs4 (a b c d : V) : List (Str × V) := [("size", a), ("domains", b), ("told", c), ("uses", d)]
abbrev fs5 (a b c d e : V) : List (Str × V) := [("size", a), ("domains", b), ("told", c), ("uses", d), ("base", e)]
theorem put1 {a : V} : putF "size" a [] = fs1 a := rfl
theorem put2 {a b : V} : putF "domains" b (fs1 a) = fs2 a b := by kernel_rfl
theorem put3 {a b c : V} : putF "told" c (fs2 a b) = fs3 a b c := by kernel_rfl
theorem put4 {a b c d : V} : putF "uses" d (fs3 a b c) = fs4 a b c d := by kernel_rfl
theorem put5 {a b c d e : V} : putF "base" e (fs4 a b c d) = fs5 a b c d e := by kernel_rfl
theorem put6 {sz : Nat} {dm tl us : Addr} {e f : V} : putF "is_empty" f (fs5 (nv sz) (.ref dm) (.ref tl) (.ref us) e) = pfs sz dm tl us e f := by kernel_rfl
theorem rep_full {x : Int} (n y : Nat) (h : x = (y : Nat)) : (List.replicate ((n : Nat) : Int).toNat [V.int x]).flatten = (List.replicate n y).map nv := by
  rw [Int.toNat_natCast, List.map_replicate, h]
  induction n with
  | zero => rfl
  | succ n ih => rw [List.replicate_succ, List.flatten_cons, ih, List.replicate_succ] <;> rfl
abbrev TC := List Nat × List (List Nat)
/-- a pair of a scope and its rows -/
def IsPair (A : Hp) (v : V) (c : TC) : Prop := ∃ a sv ra k xs, v = .ref a ∧ A a = some (.tup [sv, .ref ra]) ∧ IS A sv c.1 ∧ Sq k A ra xs ∧ Rws A xs c.2
theorem IsPair.same {H H' : Hp} {v : V} {c : TC} (h : IsPair H v c) (s : Same H H') : IsPair H' v c := by
  obtain ⟨a, sv, ra, k, xs, e, h1, h2, h3, h4⟩ := h
  exact ⟨a, sv, ra, k, xs, e, s _ _ h1, h2.tx (same_tx s), h3.same s, h4.tx (same_tx s)⟩
section
variable {P : Program} {w : World} {K : PySem.W.Frag} {mg : Str → Option Value} {base : Heap}
def sp_P_init (C : Addr) : Sp := fun vs H Q _ => ∃ (p t0 : Addr) (A : Hp) (dx : Addr) (sz n : Nat) (tv : List V) (tcs : List TC),
  vs = [.ref p, nv sz, nv n, .ref t0] ∧ Same A H ∧ A p = none ∧ H p = some (.ins C dx []) ∧ A t0 = some (.lst tv) ∧ Paired (IsPair A) tv tcs ∧ (∀ c ∈ tcs, TIn sz n c.1 c.2) ∧ tcs.length ≤ 200 ∧ 1 ≤ sz ∧ sz ≤ 4 ∧ n ≤ 16 ∧
  ∀ H' A' dm tl us net em, Same A A' → A' p = none → Same A' H' → PrS A' sz n net dm tl us → H' p = some (insP C dx sz dm tl us .non em) → (∀ a, (∀ c ∈ net, SatC c a) ↔ ∀ t ∈ tcs, t.1.map a ∈ t.2) → Q .non H'
theorem ok_P_init (T : TX K mg) : FnOk P w K mg base CX0 2 T.P_init.f T.P_init.fd ["self", "size", "many", "told"] (sp_P_init T.C) := by
  refine T.P_init.F.ok sc_P_init (fun vs H Q E h => ?_) (fun cdv A0 outer s H vs Q E hr h => ?_)
  · obtain ⟨_, _, _, _, _, _, _, _, rfl, _⟩ := h
    rfl
  · obtain ⟨p, t0, A, dx, sz, n, tv, tcs, rfl, sA, np, hp, ht0, htv, hin, hfew, hlo, hhi, hn, q⟩ := h
    refine ⟨_, (pss_cons (ps_fld (pv 0) (pv 1) rfl)
      (pss_cons (ps_fld (pv 0) (pe_op op_rep (pe_lst (pa_cons (pe_op op_sub (pe_op op_shl pe_int (pv 1)) pe_int) pa_nil)) (pv 2)) rfl)
      (pss_cons (ps_fld (pv 0) (pe_lst pa_nil) rfl)
      (pss_cons (ps_fld (pv 0) (pe_lc (own := [("variable", 6)]) rfl sc_P_init.nd (pi_range1 (by rfl) T.n_range (pa_cons (pv 2) pa_nil)) (blkOk_by (N := N_P_init) (sc := defScope s_P_init) (by decide +kernel)) (fun _ _ _ _ _ => (pg_name (i := 6) sc_P_init.nd rfl (Or.inl rfl))) (fun _ _ _ _ _ => pts_nil) (fun _ _ _ _ _ => (pe_lst pa_nil))) rfl)
      (pss_cons (ps_fld (pv 0) pe_non rfl)
      (pss_cons (ps_fld (pv 0) pe_bl rfl)
      (pss_one (ps_for PassesOwn.never rfl (pi_sq (pv 3)) (pg_tupS (n := 2) rfl (pgs_cons (pg_name (i := 4) sc_P_init.nd rfl (Or.inl rfl)) (pgs_cons (pg_name (i := 5) sc_P_init.nd rfl (Or.inl rfl)) pgs_nil)))
      (pss_one (ps_expr (pe_meth (pv 0) T.cl T.P_lay.m (ok_P_lay T) (hr.mono (by decide)) T.P_lay.b .nil pass0 (pa_cons (pv 4) (pa_cons (pv 5) pa_nil))))))))))))), ?_⟩
    walk_at "rd"
    refine ⟨p, T.C, dx, _, rfl, hp, T.cl, T.a_size, by show 0 < 1000; decide, ?_⟩
    rw [put1]
    have hp1 : upd H p (.ins T.C dx (fs1 (nv sz))) p = some (.ins T.C dx (fs1 (nv sz))) := upd_same
    have s1 : Same A (upd H p (.ins T.C dx (fs1 (nv sz)))) := same_upd sA np
    generalize upd H p (.ins T.C dx (fs1 (nv sz))) = H1 at hp1 s1
    walk_at "rd"
    refine ⟨⟨by omega, by omega, by decide⟩, ?_⟩
    walk_at "rd"
    refine ⟨sz_le (by show 1 ≤ 1000000; decide), fun l1 nl1 => ?_⟩
    have s2 := same_new (o := .lst [.int (1 * 2 ^ ((sz : Nat) : Int).toNat - 1)]) nl1
    walk_at "rd"
    refine ⟨l1, (n : Nat), _, rfl, rfl, upd_same, by omega, by omega, sz_le (by show 1 * _ ≤ _; omega), fun dm ndm => ?_⟩
    have efull : (List.replicate ((n : Nat) : Int).toNat [V.int (1 * 2 ^ ((sz : Nat) : Int).toNat - 1)]).flatten = (fullD sz n).map nv := by
      refine rep_full n (2 ^ sz - 1) ?_
      rw [shlZ]
      have := Nat.two_pow_pos sz
      omega
    rw [efull]
    have s3 := s2.trans (same_new (o := .lst ((fullD sz n).map nv)) ndm)
    have hdm3 : upd (upd H1 l1 (.lst [.int (1 * 2 ^ ((sz : Nat) : Int).toNat - 1)])) dm (.lst ((fullD sz n).map nv)) dm = some (.lst ((fullD sz n).map nv)) := upd_same
    have hp3 := s3 _ _ hp1
    have s13 := s1.trans s3
    generalize upd (upd H1 l1 (.lst [.int (1 * 2 ^ ((sz : Nat) : Int).toNat - 1)])) dm (.lst ((fullD sz n).map nv)) = H3 at hdm3 hp3 s13
    clear s3 s2 nl1 ndm hp1 s1
    have dmp : dm ≠ p := fun e => by rw [e, hp3] at hdm3; cases hdm3
    walk_at "rd"
    refine ⟨p, T.C, dx, _, rfl, hp3, T.cl, T.a_domains, by show 1 < 1000; decide, ?_⟩
    rw [put2]
    have hp4 : upd H3 p (.ins T.C dx (fs2 (nv sz) (.ref dm))) p = some (.ins T.C dx (fs2 (nv sz) (.ref dm))) := upd_same
    have s4 : Same A (upd H3 p (.ins T.C dx (fs2 (nv sz) (.ref dm)))) := same_upd s13 np
    have hdm4 : upd H3 p (.ins T.C dx (fs2 (nv sz) (.ref dm))) dm = some (.lst ((fullD sz n).map nv)) := by rw [upd_ne dmp]; exact hdm3
    generalize upd H3 p (.ins T.C dx (fs2 (nv sz) (.ref dm))) = H4 at hp4 s4 hdm4
    refine ⟨sz_le (by decide), fun tl ntl => ?_⟩
    have g5 := same_new (o := .lst []) ntl
    have htl5 : upd H4 tl (.lst []) tl = some (.lst []) := upd_same
    have hp5 := g5 _ _ hp4
    have hdm5 := g5 _ _ hdm4
    have s5 := s4.trans g5
    have ntlA := none_same s4 ntl
    have tlp : tl ≠ p := ne_some ntl hp4
    have tldm : tl ≠ dm := ne_some ntl hdm4
    generalize upd H4 tl (.lst []) = H5 at htl5 hp5 hdm5 s5
    walk_at "rd"
    refine ⟨p, T.C, dx, _, rfl, hp5, T.cl, T.a_told, by show 2 < 1000; decide, ?_⟩
    rw [put3]
    have hp6 : upd H5 p (.ins T.C dx (fs3 (nv sz) (.ref dm) (.ref tl))) p = some (.ins T.C dx (fs3 (nv sz) (.ref dm) (.ref tl))) := upd_same
    have s6 : Same A (upd H5 p (.ins T.C dx (fs3 (nv sz) (.ref dm) (.ref tl)))) := same_upd s5 np
    have hdm6 : upd H5 p (.ins T.C dx (fs3 (nv sz) (.ref dm) (.ref tl))) dm = some (.lst ((fullD sz n).map nv)) := by rw [upd_ne dmp]; exact hdm5
    have htl6 : upd H5 p (.ins T.C dx (fs3 (nv sz) (.ref dm) (.ref tl))) tl = some (.lst []) := by rw [upd_ne tlp]; exact htl5
    generalize upd H5 p (.ins T.C dx (fs3 (nv sz) (.ref dm) (.ref tl))) = H6 at hp6 s6 hdm6 htl6
    walk_at "rd"
    refine ⟨by omega, by omega, fun us nus => lc_it (walk_range (lo := 0) (n := n)) (fun i H' => Same H6 H' ∧ ∃ uf : Nat → Addr, H' us = some (.lst ((List.range i).map fun v => .ref (uf v))) ∧ (∀ v, v < i → uf v ≠ us ∧ H6 (uf v) = none ∧ H' (uf v) = some (.lst [])) ∧ ∀ v u, v < i → u < i → uf v = uf u → v = u) ⟨same_new nus, fun _ => 0, upd_same, fun v hv => absurd hv (Nat.not_lt_zero _), fun v u hv => absurd hv (Nat.not_lt_zero _)⟩ (fun _ _ _ _ => trivial) (fun i x H7 H8 hi q y => ?_) fun H7 q7 => ?_⟩
    · obtain ⟨rfl, rfl⟩ := y
      obtain ⟨sm, uf, hus, huf, hinj⟩ := q
      refine ⟨rfl, lcY ?_⟩
      refine ⟨sz_le (by decide), fun u nu => ?_⟩
      have hus' := same_new (o := .lst []) nu _ _ hus
      have uus : u ≠ us := ne_some nu hus
      obtain ⟨uf', f1, f2⟩ : ∃ uf' : Nat → Addr, uf' i = u ∧ ∀ v, v ≠ i → uf' v = uf v := ⟨fun v => if v = i then u else uf v, if_pos rfl, fun v h => if_neg h⟩
      refine ⟨_, hus', small_lt (m := 1000) (by rw [List.length_map, List.length_range]; omega), same_upd (sm.trans (same_new nu)) nus, uf', ?_, fun v hv => ?_, fun v v' hv hv' e => ?_⟩
      · rw [upd_same, range_snoc, List.map_append, List.map_singleton, f1]
        have e : (List.range i).map (fun v => V.ref (uf' v)) = (List.range i).map fun v => V.ref (uf v) := by
          apply List.map_congr_left
          intro v hv
          rw [f2 v (by have := List.mem_range.mp hv; omega)]
        rw [e]
      · by_cases e : v = i
        · rw [e, f1]
          exact ⟨uus, none_same sm nu, by rw [upd_ne uus, upd_same]⟩
        · rw [f2 v e]
          obtain ⟨h1, h2, h3⟩ := huf v (by omega)
          refine ⟨h1, h2, ?_⟩
          rw [upd_ne h1]
          exact same_new nu _ _ h3
      · by_cases e1 : v = i
        · by_cases e2 : v' = i
          · rw [e1, e2]
          · rw [e1, f1, f2 v' e2] at e
            obtain ⟨_, _, h3⟩ := huf v' (by omega)
            exact absurd e (ne_some nu h3)
        · by_cases e2 : v' = i
          · rw [e2, f1, f2 v e1] at e
            obtain ⟨_, _, h3⟩ := huf v (by omega)
            exact absurd e.symm (ne_some nu h3)
          · rw [f2 v e1, f2 v' e2] at e
            exact hinj v v' (by omega) (by omega) e
    · obtain ⟨sm7, uf, hus7, huf, hinj⟩ := q7
      have hp7 := sm7 _ _ hp6
      have s7 := s6.trans sm7
      have usp : us ≠ p := ne_some nus hp6
      have ufp : ∀ v, v < n → uf v ≠ p := fun v hv => ne_some (huf v hv).2.1 hp6
      have uft : ∀ v, v < n → uf v ≠ tl := fun v hv => ne_some (huf v hv).2.1 htl6
      have ufd : ∀ v, v < n → uf v ≠ dm := fun v hv => ne_some (huf v hv).2.1 hdm6
      have ustl : us ≠ tl := ne_some nus htl6
      have hdm7 := sm7 _ _ hdm6
      have htl7 := sm7 _ _ htl6
      walk_at "rd"
      refine ⟨p, T.C, dx, _, rfl, hp7, T.cl, T.a_uses, by show 3 < 1000; decide, ?_⟩
      rw [put4]
      walk_at "rd"
      refine ⟨p, T.C, dx, _, rfl, upd_same, T.cl, T.a_base, by show 4 < 1000; decide, ?_⟩
      rw [put5]
      walk_at "rd"
      refine ⟨p, T.C, dx, _, rfl, upd_same, T.cl, T.a_is_empty, by show 5 < 1000; decide, ?_⟩
      rw [put6]
      obtain ⟨H8, hH8⟩ : ∃ H8, H8 = upd (upd (upd H7 p (.ins T.C dx (fs4 (nv sz) (.ref dm) (.ref tl) (.ref us)))) p (.ins T.C dx (fs5 (nv sz) (.ref dm) (.ref tl) (.ref us) .non))) p (insP T.C dx sz dm tl us .non (.bl false)) := ⟨_, rfl⟩
      have hp8 : H8 p = some (insP T.C dx sz dm tl us .non (.bl false)) := by rw [hH8, upd_same]
      have o8 : ∀ b, b ≠ p → H8 b = H7 b := fun b hb => by rw [hH8, upd_ne hb, upd_ne hb, upd_ne hb]
      have s8 : Same A H8 := by rw [hH8]; exact same_upd (same_upd (same_upd s7 np) np) np
      rw [← hH8]
      clear hH8
      have l0 : LayS (rest (MutL p tl n uf) H8) H8 p T.C dx sz n [] dm tl us uf := by
        refine ⟨rest_same, rest_no (.inl rfl), rest_no (.inr (.inl rfl)), fun v hv => rest_no (.inr (.inr ⟨v, hv, rfl⟩)), tlp.symm, hinj, uft, ufp, ⟨_, _, hp8⟩, ?_, ?_, fun v hv => ?_, [], ?_, .nil⟩
        · rw [rest_yes, o8 _ dmp, hdm7]
          rintro (e | e | ⟨v, hv, e⟩)
          · exact dmp e
          · exact tldm e.symm
          · exact ufd v hv e.symm
        · rw [rest_yes, o8 _ usp, hus7]
          rintro (e | e | ⟨v, hv, e⟩)
          · exact usp e
          · exact ustl e
          · exact (huf v hv).1 e.symm
        · rw [o8 _ (ufp v hv), (huf v hv).2.2] <;> rfl
        · rw [o8 _ tlp, htl7]
      have sA8 : Same A (rest (MutL p tl n uf) H8) := same_rest s8 (by
        rintro b (e | e | ⟨v, hv, e⟩)
        · rw [e]; exact np
        · rw [e]; exact ntlA
        · rw [e]; exact none_same s6 (huf v hv).2.1)
      generalize rest (MutL p tl n uf) H8 = A8 at l0 sA8
      have ht08 := s8 _ _ ht0
      refine ⟨_, rfl, true, t0, tv, rfl, ht08, fun J wJ => for_it wJ (fun i σ H' => ∃ A' net y4 y5 em, σ = [some (.ref p), some (nv sz), some (nv n), some (.ref t0), y4, y5, none] ∧ Same A8 A' ∧ LayS A' H' p T.C dx sz n net dm tl us uf ∧ net.length = i ∧ NetOk sz n net ∧ (∀ a, (∀ c ∈ net, SatC c a) ↔ ∀ t ∈ tcs.take i, t.1.map a ∈ t.2) ∧ H' p = some (insP T.C dx sz dm tl us .non em)) ?_ (fun i σ H' _ q => ?_) (fun i x σ H9 H10 hi q9 y => ?_) fun σ H9 q9 => ?_⟩
      · refine ⟨A8, [], none, none, _, rfl, Same.refl _, l0, rfl, fun c h => absurd h List.not_mem_nil, fun a => ⟨fun _ t h => absurd h (by rw [List.take_zero]; exact List.not_mem_nil), fun _ c h => absurd h List.not_mem_nil⟩, hp8⟩
      · obtain ⟨A', _, _, _, _, _, s, l, _⟩ := q
        exact l.same _ _ (s _ _ (sA8 _ _ ht0))
      · obtain ⟨A', net, y4, y5, em, rfl, s9, l9, hnl, nok, hiff, hp9⟩ := q9
        obtain ⟨s10, hx⟩ := yat_same y
        obtain ⟨c, hc, hcp⟩ := paired_get htv hx
        obtain ⟨b, sv, ra, k, xs, rfl, hb, hsv, hra, hrows⟩ := hcp.same (sA8.trans s9)
        have hb10 := s10 _ _ (l9.same _ _ hb)
        have l10 : LayS A' H10 p T.C dx sz n net dm tl us uf := by
          obtain ⟨bs, em, h⟩ := l9.ins
          obtain ⟨ts, h1, h2⟩ := l9.tll
          exact ⟨l9.same.trans s10, l9.np, l9.nt, l9.nu, l9.ptl, l9.inj, l9.utl, l9.up, ⟨bs, em, s10 _ _ h⟩, l9.dmn, l9.usl, fun v hv => s10 _ _ (l9.use v hv), ts, s10 _ _ h1, h2⟩
        have hil : i < tcs.length := (List.getElem?_eq_some_iff.mp hc).1
        refine ⟨b, _, rfl, hb10, rfl, _, _, rfl, _, _, rfl, rfl, ?_⟩
        walk_at "rd"
        refine ⟨p, dx, _, rfl, s10 _ _ hp9, lk_m_lay, ?_⟩
        walk_at "rd"
        refine ⟨p, sv, .ref ra, A', dx, sz, n, net, dm, tl, us, uf, c.1, c.2, rfl, l10, hsv, ⟨k, ra, xs, rfl, hra, hrows⟩, hin c (List.mem_of_getElem? hc), by omega, hn, fun H11 A'' c' sA'' l11 lok hem => ?_⟩
        obtain ⟨em', hem⟩ := hem
        refine ⟨A'', net ++ [c'], _, _, em', rfl, s9.trans sA'', l11, by rw [List.length_append, hnl] <;> rfl, fun d hd => ?_, fun a => ?_, hem⟩
        · rcases List.mem_append.mp hd with e | e
          · exact nok d e
          · rw [List.mem_singleton.mp e]; exact lok.ok
        · rw [take_snoc hc]
          constructor
          · intro h t ht
            rcases List.mem_append.mp ht with e | e
            · exact (hiff a).mp (fun d hd => h d (List.mem_append_left _ hd)) t e
            · rw [List.mem_singleton.mp e]
              exact (lok.iff a).mp (h c' (List.mem_append_right _ (List.mem_singleton.mpr rfl)))
          · intro h d hd
            rcases List.mem_append.mp hd with e | e
            · exact (hiff a).mpr (fun t ht => h t (List.mem_append_left _ ht)) d e
            · rw [List.mem_singleton.mp e]
              exact (lok.iff a).mpr (h c (List.mem_append_right _ (List.mem_singleton.mpr rfl)))
      · obtain ⟨A', net, y4, y5, em, rfl, s9, l9, hnl, nok, hiff, hp9⟩ := q9
        have htl : tv.length = tcs.length := paired_len htv
        rw [htl] at hnl hiff
        rw [List.take_length] at hiff
        obtain ⟨ts, htl9, hts9⟩ := l9.tll
        have sR : Same A' (rest (fun b => b = p) H9) := same_rest l9.same fun b e => by rw [e]; exact l9.np
        have ne : ∀ {b : Addr}, b ≠ p → rest (fun b => b = p) H9 b = H9 b := fun h => rest_yes h
        refine q _ (rest (fun b => b = p) H9) dm tl us net em ((sA8.trans s9).trans sR) (rest_no rfl) rest_same ⟨⟨?_, ⟨ts, ?_, paired_imp (fun _ _ q => q.same sR) hts9⟩, ⟨_, sR _ _ l9.usl, by rw [List.length_map, List.length_range], fun v hv => ⟨uf v, ?_, ?_⟩⟩⟩, hlo, hhi, hn, by omega, nok⟩ hp9 hiff
        · exact sR _ _ l9.dmn
        · rw [ne tlp]; exact htl9
        · rw [List.getElem?_map, List.getElem?_range hv] <;> rfl
        · rw [ne (ufp v hv)]; exact l9.use v hv
end
end G
namespace G
open PySem PySem.Spec PyProof.Rows L2
local macro_rules | `(tactic| walk_at "rd") => `(tactic| repeat (first | (refine ⟨_, rfl, ?_⟩) | (refine ⟨_, _, rfl, rfl, ?_⟩) | (refine iteT ?_) | (refine iteF ?_) | (refine ⟨_, "tuple", _, true, rfl, .tup (.inl (by assumption)), kb_tt, ?_⟩) | (refine ⟨_, "tuple", _, true, rfl, .tup (by assumption), kb_tt, ?_⟩) | (refine ⟨false, _, _, rfl, sq_t (by assumption), ?_⟩) | (refine ⟨false, _, _, rfl, sq_r (by assumption), ?_⟩) | (refine ⟨true, _, _, rfl, sq_l (by assumption), ?_⟩) | (refine ⟨false, _, _, _, _, rfl, rfl, sq_t (by assumption), at0, ?_⟩) | (refine ⟨false, _, _, _, _, rfl, rfl, sq_t (by assumption), at1, ?_⟩) | (refine ⟨false, _, _, _, _, rfl, rfl, sq_t (by assumption), (by assumption), ?_⟩) | (refine ⟨false, _, _, _, _, rfl, rfl, sq_r (by assumption), (by assumption), ?_⟩) | (refine ⟨true, _, _, _, _, rfl, rfl, sq_l (by assumption), (by assumption), ?_⟩) | (refine ⟨rfl, ?_⟩)))
/-- the constraint c holds of a -/
def SatI (rels : List Rel) (c : Con) (a : Nat → Nat) : Prop := ∃ R, rels[c.1]? = some R ∧ c.2.map a ∈ R.2
def SolvI (sz n : Nat) (rels : List Rel) (cs : List Con) : Prop := ∃ a : Nat → Nat, (∀ i, i < n → a i < sz) ∧ ∀ c ∈ cs, SatI rels c a
def tcOf (rels : List Rel) (c : Con) : TC := (c.2, (rels.getD c.1 (0, [])).2)
theorem tcOf_at {rels : List Rel} {c : Con} {R : Rel} (h : rels[c.1]? = some R) : tcOf rels c = (c.2, R.2) := by
  unfold tcOf
  rw [getD_some h]
theorem satI_iff {rels : List Rel} {c : Con} {R : Rel} (h : rels[c.1]? = some R) {a : Nat → Nat} : SatI rels c a ↔ c.2.map a ∈ (tcOf rels c).2 := by
  rw [tcOf_at h]
  constructor
  · rintro ⟨R', h', q⟩
    rw [h] at h'
    rw [Option.some.inj h']
    exact q
  · exact fun q => ⟨R, h, q⟩
section
variable {P : Program} {w : World} {K : PySem.W.Frag} {mg : Str → Option Value} {base : Heap}
theorem PrS.same {A A' : Hp} {sz n : Nat} {net : Net} {dm tl us : Addr} (h : PrS A sz n net dm tl us) (s : Same A A') : PrS A' sz n net dm tl us := ⟨h.s.same s, h.lo, h.hsz, h.hn, h.few, h.ok⟩
def sp_problem_of (C : Addr) : Sp := fun vs H Q _ => ∃ (tv : V) (ia cl : Addr) (sz n : Nat) (rels : List Rel) (k : Bool) (cvs : List V) (cs : List Con),
  vs = [tv, .ref ia] ∧ IsTpl H tv sz rels ∧ TplOk sz rels ∧ H ia = some (.tup [nv n, .ref cl]) ∧ Sq k H cl cvs ∧ Paired (IsCon H) cvs cs ∧ (∀ c ∈ cs, ConOk n rels c) ∧ cs.length ≤ 200 ∧ n ≤ 16 ∧
  ∀ H' A p dx dm tl us net em, Same H A → Same A H' → A p = none → PrS A sz n net dm tl us → H' p = some (insP C dx sz dm tl us .non em) → (∀ a, (∀ c ∈ net, SatC c a) ↔ ∀ c ∈ cs, SatI rels c a) → Q (.ref p) H'
theorem ok_problem_of (T : TX K mg) : FnOk P w K mg base CX0 4 T.problem_of.f T.problem_of.fd ["template", "instance"] (sp_problem_of T.C) := by
  refine T.problem_of.F.ok sc_problem_of (fun vs H Q E h => ?_) (fun cdv A0 outer s H vs Q E hr h => ?_)
  · obtain ⟨_, _, _, _, _, _, _, _, _, rfl, _⟩ := h
    rfl
  · obtain ⟨tv, ia, cl, sz, n, rels, k, cvs, cs, rfl, ⟨ta, tt, ts, rfl, hta, htt, hts⟩, tok, hia, hcl, hcs, hcon, hfew, hn, q⟩ := h
    refine ⟨_, (pss_cons (ps_setLc (i := 2) (own := [("which", 3), ("scope", 4)]) rfl sc_problem_of.nd rfl rfl (sw_true rfl rfl rfl (by decide +kernel)) (pi_sq (pe_ix ix_any (pv 1) pe_int (fun _ _ => rfl))) (blkOk_by (N := N_problem_of) (sc := defScope s_problem_of) (by decide +kernel)) (fun _ _ _ _ _ => (pg_tupS (n := 2) rfl (pgs_cons (pg_name (i := 3) sc_problem_of.nd rfl (Or.inl rfl)) (pgs_cons (pg_name (i := 4) sc_problem_of.nd rfl (Or.inl rfl)) pgs_nil)))) (fun _ _ _ _ _ => pts_nil) (fun _ _ _ _ _ => (pe_tup (pa_cons (pv 4) (pa_cons (pe_ix ix_any (pe_ix ix_any (pe_ix ix_any (pv 0) pe_int (fun _ _ => rfl)) (pv 3) (fun _ _ => rfl)) pe_int (fun _ _ => rfl)) pa_nil)))))
      (pss_one (ps_ret (pe_make T.mkP (ok_P_init T) (hr.mono (by decide)) (by rfl) T.g_Problem T.P_init.b .nil pass0 (pa_cons (pe_ix ix_any (pv 0) pe_int (fun _ _ => rfl)) (pa_cons (pe_ix ix_any (pv 1) pe_int (fun _ _ => rfl)) (pa_cons (pv 2) pa_nil))))))), ?_⟩
    have hclen := paired_len hcs
    walk_at "rd"
    refine ⟨k, cl, _, rfl, hcl, fun J wJ D0 nD0 => lc_R wJ (fun i acc H' => i ≤ cs.length ∧ Paired (fun v (c : Con) => ∃ R a sv ra xs, rels[c.1]? = some R ∧ v = .ref a ∧ H' a = some (.tup [sv, .ref ra]) ∧ IS H' sv c.2 ∧ H' ra = some (.tup xs) ∧ Rws H' xs R.2) acc (cs.take i)) nD0 yat_s (fun i acc H H' t h => ⟨h.1, paired_imp (fun v c q => ?_) h.2⟩) (fun i acc H' h => ?_) (fun H' sm => hcl.same sm) ⟨Nat.zero_le _, by rw [List.take_zero]; exact .nil⟩ ?_ ?_⟩
    · obtain ⟨R, a, sv, ra, xs, h0, e, h1, h2, h3, h4⟩ := q
      exact ⟨R, a, sv, ra, xs, h0, e, t.t h1, h2.tx t, t.t h3, h4.tx t⟩
    · rw [paired_len h.2]
      exact take_lt hfew (by decide) i
    · intro i x H1 H2 acc Q' N hi s1 _ hacc y kq _
      obtain ⟨s2, hx⟩ := yat_same y
      have sm := s1.trans s2
      obtain ⟨c, hc, a, sv, rfl, ha, hsv⟩ := paired_get (paired_imp (fun _ _ q => q.tx (same_tx sm)) hcs) hx
      obtain ⟨R, hR, hlen, hlt⟩ := hcon c (List.mem_of_getElem? hc)
      obtain ⟨rv, hrv, ra, rt, rts, rfl, hra, hrt, hrw⟩ := paired_getR (paired_imp (fun _ _ q => q.tx (same_tx sm)) hts) hR
      have hta2 := sm _ _ hta
      have htt2 := sm _ _ htt
      have hat := at_nv hrv
      have hi' : i < cs.length := by rw [← hclen]; exact hi
      refine ⟨a, _, rfl, ha, rfl, _, _, rfl, _, _, rfl, rfl, ?_⟩
      refine ⟨rfl, lcY ?_⟩
      walk_at "rd"
      refine ⟨sz_le (by show 2 ≤ 1000000; decide), fun t nt => ?_⟩
      have s3 := same_new (o := .tup [sv, .ref rt]) nt
      refine kq _ _ s3 ⟨hi', ?_⟩
      rw [take_snoc hc]
      refine paired_snoc ⟨R, t, sv, rt, rts, hR, rfl, upd_same, hsv.tx (same_tx s3), s3 _ _ hrt, hrw.tx (same_tx s3)⟩ (paired_imp (fun v c q => ?_) hacc.2)
      obtain ⟨R, a, sv, ra, xs, h0, e, h1, h2, h3, h4⟩ := q
      have t2 := same_tx (s2.trans s3)
      exact ⟨R, a, sv, ra, xs, h0, e, t2.t h1, h2.tx t2, t2.t h3, h4.tx t2⟩
    · intro H1 acc s1 hD0 hacc
      rw [hclen, List.take_length] at hacc
      have hacc := hacc.2
      have hta1 := s1 _ _ hta
      have hia1 := s1 _ _ hia
      walk_at "rd"
      intro x dx nx ndx hne
      have sx : Same H1 (upd (upd H1 dx (.own x)) x (.ins T.C dx [])) := same_upd (same_new ndx) nx
      have hp : Paired (IsPair H1) acc (cs.map (tcOf rels)) := by
        have : ∀ {vs : List V} {cs : List Con}, Paired (fun v (c : Con) => ∃ R a sv ra xs, rels[c.1]? = some R ∧ v = .ref a ∧ H1 a = some (.tup [sv, .ref ra]) ∧ IS H1 sv c.2 ∧ H1 ra = some (.tup xs) ∧ Rws H1 xs R.2) vs cs → Paired (IsPair H1) vs (cs.map (tcOf rels)) := by
          intro vs cs h
          induction h with
          | nil => exact .nil
          | cons h1 _ ih =>
            obtain ⟨R, a, sv, ra, xs, h0, e, h1, h2, h3, h4⟩ := h1
            rw [List.map_cons, tcOf_at h0]
            exact .cons ⟨a, sv, ra, false, xs, e, h1, h2, sq_t h3, h4⟩ ih
        exact this hacc
      refine ⟨x, D0, H1, dx, sz, n, acc, cs.map (tcOf rels), rfl, sx, nx, upd_same, hD0, hp, fun c hc => ?_, by rw [List.length_map]; exact hfew, tok.lo, tok.hi, hn, fun H' A' dm tl us net em sA' np sH' prs hins hiff => ⟨rfl, ?_⟩⟩
      · obtain ⟨d, hd, rfl⟩ := List.mem_map.mp hc
        obtain ⟨R, hR, hlen, hlt⟩ := hcon d hd
        have rok := tok.rel R (List.mem_of_getElem? hR)
        rw [tcOf_at hR]
        refine ⟨fun e => ?_, hlt, fun r hr => ⟨by rw [hlen]; exact (rok.rows r hr).1, (rok.rows r hr).2⟩, rok.few, by rw [hlen]; have := rok.hi; omega⟩
        have := rok.lo
        have e : d.2 = [] := e
        rw [e] at hlen
        simp at hlen
        omega
      · refine q _ A' x dx dm tl us net em (s1.trans sA') sH' np prs hins fun a => (hiff a).trans ⟨fun h c hc => ?_, fun h t ht => ?_⟩
        · obtain ⟨R, hR, _⟩ := hcon c hc
          exact (satI_iff hR).mpr (h _ (List.mem_map.mpr ⟨c, hc, rfl⟩))
        · obtain ⟨c, hc, rfl⟩ := List.mem_map.mp ht
          obtain ⟨R, hR, _⟩ := hcon c hc
          exact (satI_iff hR).mp (h c hc)
/-- the constraints at the indexes -/
def subc (cs : List Con) (idx : List Nat) : List Con := idx.map fun i => cs.getD i (0, [])
def sp_is_solvable : Sp := fun vs H Q _ => ∃ (tv iv : V) (sz n : Nat) (rels : List Rel) (cs : List Con) (k : Bool) (xa : Addr) (idx : List Nat),
  vs = [tv, iv, .ref xa] ∧ IsTpl H tv sz rels ∧ TplOk sz rels ∧ IsIns H iv n cs ∧ InsOk n rels cs ∧ Sq k H xa (idx.map nv) ∧ (∀ i ∈ idx, i < cs.length) ∧ idx.length ≤ 200 ∧
  ∀ H' b, Same H H' → (b = true ↔ SolvI sz n rels (subc cs idx)) → Q (.bl b) H'
theorem ok_is_solvable (T : TX K mg) : FnOk P w K mg base CX0 6 T.is_solvable.f T.is_solvable.fd ["template", "instance", "indexes"] sp_is_solvable := by
  refine T.is_solvable.F.ok sc_is_solvable (fun vs H Q E h => ?_) (fun cdv A0 outer s H vs Q E hr h => ?_)
  · obtain ⟨_, _, _, _, _, _, _, _, _, rfl, _⟩ := h
    rfl
  · obtain ⟨tv, iv, sz, n, rels, cs, k, xa, idx, rfl, htp, tok, ⟨ia, cl, cvs, rfl, hia, hcl, hcs⟩, iok, hxa, hidx, hfew, q⟩ := h
    refine ⟨_, (pss_one (ps_ret (pe_cmpR op_notN (pe_meth (pe_call (ok_problem_of T) (hr.mono (by decide)) (by rfl) T.problem_of.g T.problem_of.F.kp T.problem_of.b .nil pass0 (pa_cons (pv 0) (pa_cons (pe_tup (pa_cons (pe_ix ix_any (pv 1) pe_int (fun _ _ => rfl)) (pa_cons (pe_lc (own := [("at", 3)]) rfl sc_is_solvable.nd (pi_sq (pv 2)) (blkOk_by (N := N_is_solvable) (sc := defScope s_is_solvable) (by decide +kernel)) (fun _ _ _ _ _ => (pg_name (i := 3) sc_is_solvable.nd rfl (Or.inl rfl))) (fun _ _ _ _ _ => pts_nil) (fun _ _ _ _ _ => (pe_ix ix_any (pe_ix ix_any (pv 1) pe_int (fun _ _ => rfl)) (pv 3) (fun _ _ => rfl)))) pa_nil))) pa_nil))) T.cl T.P_any_from.m (ok_P_any_from T) (hr.mono (by decide)) T.P_any_from.b .nil pass0 (pa_cons (pe_lst pa_nil) pa_nil)) pe_non (nomark _)))), ?_⟩
    have hclen := paired_len hcs
    have hil : (subc cs idx).length = idx.length := by unfold subc; rw [List.length_map]
    walk_at "rd"
    refine ⟨k, xa, _, rfl, hxa, fun J wJ D0 nD0 => lc_R wJ (fun i acc H' => Paired (IsCon H') acc ((subc cs idx).take i)) nD0 yat_s (fun i acc H H' t h => paired_imp (fun v c q => q.tx t) h) (fun i acc H' h => ?_) (fun H' sm => hxa.same sm) (by rw [List.take_zero]; exact .nil) ?_ ?_⟩
    · rw [paired_len h]
      exact take_lt (by rw [hil]; exact hfew) (by decide) i
    · intro i x H1 H2 acc Q' N hi s1 _ hacc y kq _
      obtain ⟨s2, hx⟩ := yat_same y
      have sm := s1.trans s2
      obtain ⟨j, hj, rfl⟩ := nv_at hx
      have hjl := hidx j (List.mem_of_getElem? hj)
      obtain ⟨cv, hcv, hcon⟩ := paired_getR (paired_imp (fun _ _ q => q.tx (same_tx sm)) hcs) (List.getElem?_eq_getElem hjl)
      have hia2 := sm _ _ hia
      have hcl2 := sm _ _ hcl
      have hat := at_nv hcv
      refine ⟨rfl, lcY ?_⟩
      walk_at "rd"
      refine kq _ _ (Same.refl _) ?_
      have : (subc cs idx)[i]? = some cs[j] := by
        unfold subc
        rw [List.getElem?_map, hj]
        show some (cs.getD j (0, [])) = _
        rw [getD_some (List.getElem?_eq_getElem hjl)]
      rw [take_snoc this]
      exact paired_snoc hcon (paired_imp (fun v c q => q.tx (same_tx s2)) hacc)
    · intro H1 acc s1 hD0 hacc
      rw [List.length_map, ← hil, List.take_length] at hacc
      refine ⟨sz_le (by show 2 ≤ 1000000; decide), fun t nt => ?_⟩
      have s2 := same_new (o := .tup [nv n, .ref D0]) nt
      have ht : upd H1 t (.tup [nv n, .ref D0]) t = some (.tup [nv n, .ref D0]) := upd_same
      have s12 := s1.trans s2
      generalize upd H1 t (.tup [nv n, .ref D0]) = H2 at s2 ht s12
      refine ⟨tv, t, D0, sz, n, rels, true, acc, subc cs idx, rfl, htp.tx (same_tx s12), tok, ht, s2 _ _ hD0, paired_imp (fun v c q => q.tx (same_tx s2)) hacc, fun c hc => ?_, by rw [hil]; exact hfew, iok.hi, fun H3 A p dx dm tl us net em sA sH np prs hp hiff => ?_⟩
      · obtain ⟨j, hj, rfl⟩ := List.mem_map.mp hc
        have hjl := hidx j hj
        rw [getD_some (List.getElem?_eq_getElem hjl)]
        exact iok.con _ (List.getElem_mem hjl)
      · refine ⟨p, dx, _, rfl, hp, lk_m_any_from, ?_⟩
        refine ⟨sz_le (by decide), fun f nf => ?_⟩
        have s4 := same_new (o := .lst []) nf
        have nfA : A f = none := none_same sH nf
        have pf : p ≠ f := (ne_some nf hp).symm
        refine ⟨p, f, upd A f (.lst []), dx, sz, n, net, dm, tl, us, em, rfl, same_put (sH.trans s4) nfA upd_same, by rw [upd_ne pf]; exact np, upd_same, prs.same (same_new nfA), s4 _ _ hp, fun x H4 sH4 hx => ?_⟩
        walk_at "rd"
        refine q _ _ ((s12.trans sA).trans ((same_new nfA).trans sH4)) ?_
        have e1 : (!decide (x = V.non)) = true ↔ x ≠ .non := by
          rw [Bool.not_eq_true', decide_eq_false_iff_not]
        refine e1.trans (hx.trans ?_)
        unfold SolvN SolvI
        constructor
        · rintro ⟨a, h1, h2⟩
          exact ⟨a, h1, (hiff a).mp h2⟩
        · rintro ⟨a, h1, h2⟩
          exact ⟨a, h1, (hiff a).mpr h2⟩
end
end G
namespace G
open PySem PySem.Spec PyProof.Rows L2
local macro_rules | `(tactic| walk_at "rd") => `(tactic| repeat (first | (refine ⟨_, rfl, ?_⟩) | (refine ⟨_, _, rfl, rfl, ?_⟩) | (refine iteT ?_) | (refine iteF ?_) | (refine ⟨_, "tuple", _, true, rfl, .tup (.inl (by assumption)), kb_tt, ?_⟩) | (refine ⟨_, "tuple", _, true, rfl, .tup (by assumption), kb_tt, ?_⟩) | (refine ⟨false, _, _, rfl, sq_t (by assumption), ?_⟩) | (refine ⟨false, _, _, rfl, sq_r (by assumption), ?_⟩) | (refine ⟨true, _, _, rfl, sq_l (by assumption), ?_⟩) | (refine ⟨false, _, _, _, _, rfl, rfl, sq_t (by assumption), at0, ?_⟩) | (refine ⟨false, _, _, _, _, rfl, rfl, sq_t (by assumption), at1, ?_⟩) | (refine ⟨false, _, _, _, _, rfl, rfl, sq_t (by assumption), (by assumption), ?_⟩) | (refine ⟨false, _, _, _, _, rfl, rfl, sq_r (by assumption), (by assumption), ?_⟩) | (refine ⟨true, _, _, _, _, rfl, rfl, sq_l (by assumption), (by assumption), ?_⟩) | (refine ⟨rfl, ?_⟩)))
theorem walk_nv {n : Nat} : Walk (Itr 0 n) n (fun _ => True) (YFn nv) := walk_range.mono (fun _ h => h) fun i H x H' _ _ y => ⟨y.1, by
  rw [y.2]
  show V.int (0 + (i : Nat)) = V.int (i : Nat)
  rw [Int.zero_add]⟩
def AscN (l : List Nat) : Prop := l.Pairwise (· < ·)
theorem AscN.nodup {l : List Nat} (h : AscN l) : l.Nodup := h.imp fun h => Nat.ne_of_lt h
theorem subc_mono {sz n : Nat} {rels : List Rel} {cs : List Con} {A B : List Nat} (h : SolvI sz n rels (subc cs A)) (s : ∀ x ∈ B, x ∈ A) : SolvI sz n rels (subc cs B) := by
  obtain ⟨a, h1, h2⟩ := h
  refine ⟨a, h1, fun c hc => ?_⟩
  obtain ⟨i, hi, rfl⟩ := List.mem_map.mp hc
  exact h2 _ (List.mem_map.mpr ⟨i, s i hi, rfl⟩)
def wo (l : List Nat) (x : Nat) : List Nat := l.filter fun y => decide (y ≠ x)
theorem mem_wo {l : List Nat} {x y : Nat} : y ∈ wo l x ↔ y ∈ l ∧ y ≠ x := by
  unfold wo
  rw [List.mem_filter, decide_eq_true_iff]
structure IsConf (sz n : Nat) (rels : List Rel) (cs : List Con) (idx : List Nat) : Prop where
  asc : AscN idx
  lt : ∀ i ∈ idx, i < cs.length
  no : ¬ SolvI sz n rels (subc cs idx)
  min : ∀ i ∈ idx, SolvI sz n rels (subc cs (wo idx i))
theorem wo_len {l : List Nat} {x : Nat} : (wo l x).length ≤ l.length := List.length_filter_le _ _
theorem wo_snoc {l : List Nat} {i x y : Nat} (h : l[i]? = some y) : wo (l.take (i + 1)) x = if y ≠ x then wo (l.take i) x ++ [y] else wo (l.take i) x := by
  rw [take_snoc h]
  unfold wo
  rw [List.filter_append]
  by_cases e : y = x
  · subst e; simp
  · simp [e]
theorem subc_range {cs : List Con} : subc cs (List.range cs.length) = cs := by
  unfold subc
  apply List.ext_getElem?
  intro j
  rw [List.getElem?_map]
  by_cases h : j < cs.length
  · rw [List.getElem?_range h]
    show some (cs.getD j (0, [])) = _
    rw [getD_some (List.getElem?_eq_getElem h), List.getElem?_eq_getElem h]
  · rw [List.getElem?_eq_none (by rw [List.length_range]; omega), List.getElem?_eq_none (by omega)] <;> rfl
section
variable {P : Program} {w : World} {K : PySem.W.Frag} {mg : Str → Option Value} {base : Heap}
theorem IsIns.same {H H' : Hp} {v : V} {n : Nat} {cs : List Con} (h : IsIns H v n cs) (s : Same H H') : IsIns H' v n cs := h.tx (same_tx s)
def sp_conflict : Sp := fun vs H Q _ => ∃ (tv iv : V) (sz n : Nat) (rels : List Rel) (cs : List Con),
  vs = [tv, iv] ∧ IsTpl H tv sz rels ∧ TplOk sz rels ∧ IsIns H iv n cs ∧ InsOk n rels cs ∧
  (∀ H', Same H H' → SolvI sz n rels cs → Q .non H') ∧ ∀ H' t idx, Same H H' → H' t = some (.tup (idx.map nv)) → IsConf sz n rels cs idx → Q (.ref t) H'
theorem ok_conflict (T : TX K mg) : FnOk P w K mg base CX0 7 T.conflict.f T.conflict.fd ["template", "instance"] sp_conflict := by
  refine T.conflict.F.ok sc_conflict (fun vs H Q E h => ?_) (fun cdv A0 outer s H vs Q E hr h => ?_)
  · obtain ⟨_, _, _, _, _, _, rfl, _⟩ := h
    rfl
  · obtain ⟨tv, iv, sz, n, rels, cs, rfl, htp, tok, hin, iok, q1, q2⟩ := h
    refine ⟨_, (pss_cons (ps_expr (pe_call (ok_need_problem T) (hr.mono (by decide)) (by rfl) T.need_problem.g T.need_problem.F.kp T.need_problem.b .nil pass0 (pa_cons (pv 0) (pa_cons (pv 1) pa_nil))))
      (pss_cons (ps_set (i := 2) sc_conflict.nd rfl (.inl rfl) (pe_listRg rfl (by rfl) T.n_list (prg_1 (by rfl) T.n_range (pe_callB call_lenS (by rfl) T.n_len bb_len (pa_cons (pe_ix ix_any (pv 1) pe_int (fun _ _ => rfl)) pa_nil)))))
      (pss_cons (ps_if (pt_val (pe_call (ok_is_solvable T) (hr.mono (by decide)) (by rfl) T.is_solvable.g T.is_solvable.F.kp T.is_solvable.b .nil pass0 (pa_cons (pv 0) (pa_cons (pv 1) (pa_cons (pv 2) pa_nil)))))
      (pss_one (ps_ret pe_non))
      pss_nil)
      (pss_cons (ps_for PassesOwn.never rfl (pi_range1 (by rfl) T.n_range (pa_cons (pe_callB call_lenS (by rfl) T.n_len bb_len (pa_cons (pe_ix ix_any (pv 1) pe_int (fun _ _ => rfl)) pa_nil)) pa_nil)) (pg_name (i := 3) sc_conflict.nd rfl (Or.inr rfl))
      (pss_cons (ps_setLc (i := 4) (own := [("other", 5)]) rfl sc_conflict.nd rfl rfl (sw_true rfl rfl rfl (by decide +kernel)) (pi_sq (pv 2)) (blkOk_by (N := N_conflict) (sc := defScope s_conflict) (by decide +kernel)) (fun _ _ _ _ _ => (pg_name (i := 5) sc_conflict.nd rfl (Or.inl rfl))) (fun _ _ _ _ _ => (pts_one (pt_cmpR op_ne (pv 5) (pv 3) (nomark _)))) (fun _ _ _ _ _ => (pv 5)))
      (pss_one (ps_if (pt_not (pt_val (pe_call (ok_is_solvable T) (hr.mono (by decide)) (by rfl) T.is_solvable.g T.is_solvable.F.kp T.is_solvable.b .nil pass0 (pa_cons (pv 0) (pa_cons (pv 1) (pa_cons (pv 4) pa_nil))))))
      (pss_one (ps_set (i := 2) sc_conflict.nd rfl (.inl rfl) (pv 4)))
      pss_nil))))
      (pss_one (ps_ret (pe_callTy call_tupL (by rfl) T.n_tuple bb_tuple (pa_cons (pv 2) pa_nil)))))))), ?_⟩
    walk_at "rd"
    refine ⟨tv, sz, rels, n, iv, cs, rfl, htp, tok, hin, iok, fun H1 s1 => ?_⟩
    obtain ⟨ia, cl, cvs, rfl, hia, hcl, hcs⟩ := hin
    have hclen := paired_len hcs
    have hfew := iok.few
    have hia1 := s1 _ _ hia
    have hcl1 := s1 _ _ hcl
    walk_at "rd"
    refine ⟨RgOk.of_le (by omega) (by omega) (by omega) (by omega), fun kl nkl => ?_⟩
    rw [rg_nv, hclen]
    have s2 := s1.trans (same_new (o := .lst ((List.range cs.length).map nv)) nkl)
    have hkl : upd H1 kl (.lst ((List.range cs.length).map nv)) kl = some (.lst ((List.range cs.length).map nv)) := upd_same
    generalize upd H1 kl (.lst ((List.range cs.length).map nv)) = H2 at s2 hkl
    have hin : IsIns H (.ref ia) n cs := ⟨ia, cl, cvs, rfl, hia, hcl, hcs⟩
    walk_at "rd"
    refine ⟨tv, .ref ia, sz, n, rels, cs, true, kl, List.range cs.length, rfl, htp.tx (same_tx s2), tok, hin.same s2, iok, hkl, fun i hi => List.mem_range.mp hi, by rw [List.length_range]; exact hfew, fun H3 b s3 hb => ?_⟩
    rw [subc_range] at hb
    walk_at "rd"
    refine ite_of hb (fun hsol => ?_) fun hsol => ?_
    · walk_at "rd"
      exact q1 _ (s2.trans s3) hsol
    · have s23 := s2.trans s3
      have hia3 := s23 _ _ hia
      have hcl3 := s23 _ _ hcl
      walk_at "rd"
      rw [hclen]
      refine ⟨by omega, by omega, for_it (walk_nv (n := cs.length)) (fun i σ H' => ∃ kp Kp y3 y4, σ = [some tv, some (.ref ia), some (.ref kp), y3, y4, none] ∧ Same H H' ∧ H' kp = some (.lst (Kp.map nv)) ∧ AscN Kp ∧ (∀ x ∈ Kp, x < cs.length) ∧ ¬ SolvI sz n rels (subc cs Kp) ∧ ∀ x ∈ Kp, x < i → SolvI sz n rels (subc cs (wo Kp x))) ?_ (fun _ _ _ _ _ => trivial) (fun i x σ H4 H5 hi q y => ?_) fun σ H4 q => ?_⟩
      · refine ⟨kl, List.range cs.length, _, _, rfl, s23, s3 _ _ hkl, List.pairwise_lt_range, fun x hx => List.mem_range.mp hx, ?_, fun x _ h => absurd h (Nat.not_lt_zero _)⟩
        rw [subc_range]
        exact hsol
      · obtain ⟨rfl, rfl⟩ := y
        obtain ⟨kp, Kp, y3, y4, rfl, s4, hkp, hasc, hlt, hno, hmin⟩ := q
        have hkl := nodup_lt hasc.nodup hlt
        walk_at "rd"
        refine fun J wJ D0 nD0 => lc_F wJ (fun j => (wo (Kp.take j) i).map nv) (by rw [List.take_zero] <;> rfl) (fun j _ => ?_) nD0 yat_s (fun H' sm => sq_l (sm _ _ hkp)) ?_ ?_
        · rw [List.length_map]
          exact Nat.lt_of_le_of_lt wo_len (take_lt (Nat.le_trans hkl hfew) (by decide) j)
        · intro j x H6 H7 Q' N hj s6 y kq kn
          obtain ⟨s7, hx⟩ := yat_same y
          obtain ⟨o, ho, rfl⟩ := nv_at hx
          refine ⟨rfl, ?_⟩
          walk_at "rd"
          refine ite_of (p := o ≠ i) (by simp [nv]; omega) (fun h1 => ?_) fun h1 => ?_
          · walk_at "rd"
            refine kq _ _ (Same.refl _) ?_
            rw [wo_snoc ho, if_pos h1, List.map_append] <;> rfl
          · refine kn _ (Same.refl _) ?_
            rw [wo_snoc ho, if_neg h1]
        · intro H6 s6 hD0
          rw [List.length_map, List.take_length] at hD0
          have s46 := s4.trans s6
          have hwl : ∀ x ∈ wo Kp i, x < cs.length := fun x hx => hlt x (mem_wo.mp hx).1
          walk_at "rd"
          refine ⟨tv, .ref ia, sz, n, rels, cs, true, D0, wo Kp i, rfl, htp.tx (same_tx s46), tok, hin.same s46, iok, hD0, hwl, Nat.le_trans wo_len (Nat.le_trans hkl hfew), fun H7 b s7 hb => ?_⟩
          have s47 := s46.trans s7
          walk_at "rd"
          refine ite_of (p := ¬ SolvI sz n rels (subc cs (wo Kp i))) (by rw [Bool.not_eq_true', ← Bool.not_eq_true, hb]) (fun h1 => ?_) fun h1 => ?_
          · walk_at "rd"
            refine ⟨D0, wo Kp i, _, _, rfl, s47, s7 _ _ hD0, hasc.filter _, hwl, h1, fun x hx hxi => ?_⟩
            obtain ⟨hx1, hx2⟩ := mem_wo.mp hx
            have := hmin x hx1 (by omega)
            refine subc_mono this fun z hz => ?_
            obtain ⟨hz1, hz2⟩ := mem_wo.mp hz
            exact mem_wo.mpr ⟨(mem_wo.mp hz1).1, hz2⟩
          · refine ⟨kp, Kp, _, _, rfl, s47, s7 _ _ (s6 _ _ hkp), hasc, hlt, hno, fun x hx hxi => ?_⟩
            by_cases e : x = i
            · rw [e]
              exact Classical.not_not.mp h1
            · exact hmin x hx (by omega)
      · obtain ⟨kp, Kp, y3, y4, rfl, s4, hkp, hasc, hlt, hno, hmin⟩ := q
        walk_at "rd"
        refine ⟨kp, _, rfl, hkp, fun t nt => ?_⟩
        walk_at "rd"
        exact q2 _ t Kp (s4.trans (same_new nt)) upd_same ⟨hasc, hlt, hno, fun x hx => hmin x hx (hlt x hx)⟩
end
end G
namespace G
open PySem PySem.Spec PyProof.Rows L2
local macro_rules | `(tactic| walk_at "rd") => `(tactic| repeat (first | (refine ⟨_, rfl, ?_⟩) | (refine ⟨_, _, rfl, rfl, ?_⟩) | (refine iteT ?_) | (refine iteF ?_) | (refine ⟨_, "tuple", _, true, rfl, .tup (.inl (by assumption)), kb_tt, ?_⟩) | (refine ⟨_, "tuple", _, true, rfl, .tup (by assumption), kb_tt, ?_⟩) | (refine ⟨false, _, _, rfl, sq_t (by assumption), ?_⟩) | (refine ⟨false, _, _, rfl, sq_r (by assumption), ?_⟩) | (refine ⟨true, _, _, rfl, sq_l (by assumption), ?_⟩) | (refine ⟨false, _, _, _, _, rfl, rfl, sq_t (by assumption), at0, ?_⟩) | (refine ⟨false, _, _, _, _, rfl, rfl, sq_t (by assumption), at1, ?_⟩) | (refine ⟨false, _, _, _, _, rfl, rfl, sq_t (by assumption), (by assumption), ?_⟩) | (refine ⟨false, _, _, _, _, rfl, rfl, sq_r (by assumption), (by assumption), ?_⟩) | (refine ⟨true, _, _, _, _, rfl, rfl, sq_l (by assumption), (by assumption), ?_⟩) | (refine ⟨rfl, ?_⟩)))
theorem Kd.same {H H' : Hp} {x : V} {t : String} (k : Kd H x t) (s : Same H H') : Kd H' x t := by
  cases k with
  | non => exact .non
  | bl b => exact .bl b
  | int i => exact .int i
  | str i => exact .str i
  | lst h => exact .lst (s _ _ h)
  | tup h => exact .tup (rd_same s h)
  | dct h => exact .dct (s _ _ h)
theorem inIV_is {x : V} {m : Nat} (h : inIV x 0 ((m : Nat) - 1) = true) : ∃ i, x = nv i ∧ i < m := by
  cases x with
  | int z =>
    have h : (decide ((0 : Int) ≤ z) && decide (z ≤ (m : Nat) - 1)) = true := h
    rw [Bool.and_eq_true, decide_eq_true_iff, decide_eq_true_iff] at h
    refine ⟨z.toNat, ?_, by omega⟩
    unfold nv
    congr 1
    omega
  | _ => exact Bool.noConfusion (show false = true from h)
theorem all_in {m : Nat} : ∀ {xs : List V}, (∀ x ∈ xs, inIV x 0 ((m : Nat) - 1) = true) → ∃ idx : List Nat, xs = idx.map nv ∧ ∀ i ∈ idx, i < m
  | [], _ => ⟨[], rfl, fun _ h => absurd h List.not_mem_nil⟩
  | x :: xs, h => by
    obtain ⟨i, e, hi⟩ := inIV_is (h x List.mem_cons_self)
    obtain ⟨idx, e2, h2⟩ := all_in (xs := xs) fun y hy => h y (List.mem_cons_of_mem _ hy)
    refine ⟨i :: idx, by rw [e, e2] <;> rfl, fun j hj => ?_⟩
    rcases List.mem_cons.mp hj with q | q
    · rw [q]; exact hi
    · exact h2 j q
/-- neighbours ascend -/
def upB (idx : List Nat) (j : Nat) : Bool := decide (gd idx j < gd idx (j + 1))
theorem up_iff {idx : List Nat} : ((List.range (idx.length - 1)).map (upB idx)).all id = true ↔ AscN idx := by
  rw [List.all_map, List.all_eq_true]
  constructor
  · intro h
    have step : ∀ j, j + 1 < idx.length → gd idx j < gd idx (j + 1) := fun j hj => of_decide_eq_true (h j (List.mem_range.mpr (by omega)))
    refine List.pairwise_iff_getElem.mpr fun i j hi hj hij => ?_
    have key : ∀ d, i + d + 1 < idx.length → gd idx i < gd idx (i + d + 1) := by
      intro d
      induction d with
      | zero => exact fun h => step i h
      | succ d ih => exact fun h => Nat.lt_trans (ih (by omega)) (step (i + d + 1) h)
    have := key (j - i - 1) (by omega)
    rw [show i + (j - i - 1) + 1 = j by omega, gd_some (List.getElem?_eq_getElem hi), gd_some (List.getElem?_eq_getElem hj)] at this
    exact this
  · intro h j hj
    have hj := List.mem_range.mp hj
    refine decide_eq_true ?_
    have := List.pairwise_iff_getElem.mp h j (j + 1) (by omega) (by omega) (Nat.lt_succ_self j)
    rw [gd_some (List.getElem?_eq_getElem (by omega : j < idx.length)), gd_some (List.getElem?_eq_getElem (by omega : j + 1 < idx.length))]
    exact this
/-- the value says a conflict -/
def SaysC (sz n : Nat) (rels : List Rel) (cs : List Con) (xs : List V) : Prop := ∃ idx : List Nat, xs = idx.map nv ∧ IsConf sz n rels cs idx
noncomputable def solB (sz n : Nat) (rels : List Rel) (cs : List Con) (idx : List Nat) (x : Nat) : Bool := @decide (SolvI sz n rels (subc cs (wo idx x))) (Classical.propDecidable _)
theorem solB_iff {sz n : Nat} {rels : List Rel} {cs : List Con} {idx : List Nat} {x : Nat} : solB sz n rels cs idx x = true ↔ SolvI sz n rels (subc cs (wo idx x)) := by
  unfold solB
  exact @decide_eq_true_iff _ (Classical.propDecidable _)
theorem bool_ext {a b : Bool} {p : Prop} (h1 : a = true ↔ p) (h2 : b = true ↔ p) : a = b := by
  rw [Bool.eq_iff_iff, h1, h2]
section
variable {P : Program} {w : World} {K : PySem.W.Frag} {mg : Str → Option Value} {base : Heap}
def sp_shows_conflict : Sp := fun vs H Q _ => ∃ (tv iv v : V) (sz n : Nat) (rels : List Rel) (cs : List Con),
  vs = [tv, iv, v] ∧ IsTpl H tv sz rels ∧ TplOk sz rels ∧ IsIns H iv n cs ∧ InsOk n rels cs ∧
  ((∃ t, Kd H v t ∧ kitB t "tuple" = some false ∧ ∀ H', Same H H' → Q (.bl false) H') ∨
    ∃ a xs, v = .ref a ∧ Rd H a (.tup xs) ∧ (∀ x ∈ xs, ∃ t, Kd H x t) ∧ xs.length ≤ 1000 ∧ ∀ H' b, Same H H' → (b = true ↔ SaysC sz n rels cs xs) → Q (.bl b) H')
theorem ok_shows_conflict (T : TX K mg) : FnOk P w K mg base CX0 7 T.shows_conflict.f T.shows_conflict.fd ["template", "instance", "value"] sp_shows_conflict := by
  refine T.shows_conflict.F.ok sc_shows_conflict (fun vs H Q E h => ?_) (fun cdv A0 outer s H vs Q E hr h => ?_)
  · obtain ⟨_, _, _, _, _, _, _, rfl, _⟩ := h
    rfl
  · obtain ⟨tv, iv, v, sz, n, rels, cs, rfl, htp, tok, hin, iok, q⟩ := h
    refine ⟨_, (pss_cons (ps_expr (pe_call (ok_need_problem T) (hr.mono (by decide)) (by rfl) T.need_problem.g T.need_problem.F.kp T.need_problem.b .nil pass0 (pa_cons (pv 0) (pa_cons (pv 1) pa_nil))))
      (pss_cons (ps_if (PW.pt (pw_or (pt_not (pt_val (pe_callB call_isB (by rfl) T.n_isinstance bb_isinstance (pa_cons (pv 2) (pa_cons (pe_bltn (v := .ty "tuple") (by rfl) T.n_tuple bb_tuple rfl) pa_nil))))) (pw_or1 (pt_not (pt_val (pe_callB (cr_allB rfl) (by rfl) T.n_all bb_all (pa_cons (pe_lc (own := [("at", 3)]) rfl sc_shows_conflict.nd (pi_sq (pv 2)) (blkOk_by (N := N_shows_conflict) (sc := defScope s_shows_conflict) (by decide +kernel)) (fun _ _ _ _ _ => (pg_name (i := 3) sc_shows_conflict.nd rfl (Or.inl rfl))) (fun _ _ _ _ _ => pts_nil) (fun _ _ _ _ _ => (pe_call (ok_is_in T) (hr.mono (by decide)) (by rfl) T.is_in.g T.is_in.F.kp T.is_in.b .nil pass0 (pa_cons (pv 3) (pa_cons pe_int (pa_cons (pe_op op_sub (pe_callB call_lenS (by rfl) T.n_len bb_len (pa_cons (pe_ix ix_any (pv 1) pe_int (fun _ _ => rfl)) pa_nil)) pe_int) pa_nil)))))) pa_nil)))))))
      (pss_one (ps_ret pe_bl))
      pss_nil)
      (pss_cons (ps_if (PW.pt (pw_or (pt_not (pt_val (pe_callB (cr_allB rfl) (by rfl) T.n_all bb_all (pa_cons (pe_lc (own := [("at", 3)]) rfl sc_shows_conflict.nd (pi_range2 (by rfl) T.n_range (pa_cons pe_int (pa_cons (pe_callB call_lenS (by rfl) T.n_len bb_len (pa_cons (pv 2) pa_nil)) pa_nil))) (blkOk_by (N := N_shows_conflict) (sc := defScope s_shows_conflict) (by decide +kernel)) (fun _ _ _ _ _ => (pg_name (i := 3) sc_shows_conflict.nd rfl (Or.inl rfl))) (fun _ _ _ _ _ => pts_nil) (fun _ _ _ _ _ => (pe_cmpR op_lt (pe_ix ix_any (pv 2) (pe_op op_sub (pv 3) pe_int) (fun _ _ => rfl)) (pe_ix ix_any (pv 2) (pv 3) (fun _ _ => rfl)) (nomark _)))) pa_nil)))) (pw_or1 (pt_val (pe_call (ok_is_solvable T) (hr.mono (by decide)) (by rfl) T.is_solvable.g T.is_solvable.F.kp T.is_solvable.b .nil pass0 (pa_cons (pv 0) (pa_cons (pv 1) (pa_cons (pv 2) pa_nil))))))))
      (pss_one (ps_ret pe_bl))
      pss_nil)
      (pss_one (ps_ret (pe_callB (cr_allB rfl) (by rfl) T.n_all bb_all (pa_cons (pe_lc (own := [("at", 3)]) rfl sc_shows_conflict.nd (pi_sq (pv 2)) (blkOk_by (N := N_shows_conflict) (sc := defScope s_shows_conflict) (by decide +kernel)) (fun _ _ _ _ _ => (pg_name (i := 3) sc_shows_conflict.nd rfl (Or.inr rfl))) (fun _ _ _ _ _ => pts_nil) (fun _ _ _ _ _ => (pe_call (ok_is_solvable T) (hr.mono (by decide)) (by rfl) T.is_solvable.g T.is_solvable.F.kp T.is_solvable.b .nil pass0 (pa_cons (pv 0) (pa_cons (pv 1) (pa_cons (pe_lc (own := [("other", 4)]) rfl sc_shows_conflict.nd (pi_sq (pv 2)) (blkOk_by (by kernel_rfl)) (fun _ _ _ _ _ => (pg_name (i := 4) sc_shows_conflict.nd rfl (Or.inl rfl))) (fun _ _ _ _ _ => (pts_one (pt_cmpR op_ne (pv 4) (pv 3) (nomark _)))) (fun _ _ _ _ _ => (pv 4))) pa_nil)))))) pa_nil))))))), ?_⟩
    walk_at "rd"
    refine ⟨tv, sz, rels, n, iv, cs, rfl, htp, tok, hin, iok, fun H1 s1 => ?_⟩
    obtain ⟨ia, cl, cvs, rfl, hia, hcl, hcs⟩ := hin
    have hclen := paired_len hcs
    have hfew := iok.few
    have hia1 := s1 _ _ hia
    have hcl1 := s1 _ _ hcl
    have hin : IsIns H (.ref ia) n cs := ⟨ia, cl, cvs, rfl, hia, hcl, hcs⟩
    rcases q with ⟨t, hk, hkt, q⟩ | ⟨a, xs, rfl, ha, hks, hxl, q⟩
    · refine ⟨_, rfl, _, t, "tuple", false, rfl, hk.same s1, hkt, ?_⟩
      walk_at "rd"
      exact q _ s1
    · have ha1 := rd_same s1 ha
      walk_at "rd"
      refine fun J wJ D0 nD0 => lc_F wJ (fun j => (xs.map fun x => V.bl (inIV x 0 ((cs.length : Nat) - 1))).take j) List.take_zero (fun j _ => take_lt (by rw [List.length_map]; exact hxl) (by decide) j) nD0 yat_s (fun H' sm => sq_r (rd_same sm ha1)) ?_ ?_
      · intro j x H2 H3 Q' N hj s2 y kq _
        obtain ⟨s3, hx⟩ := yat_same y
        obtain ⟨t, hk⟩ := hks x (List.mem_of_getElem? hx)
        have s23 := s2.trans s3
        have hia3 := s23 _ _ hia1
        have hcl3 := s23 _ _ hcl1
        refine ⟨rfl, lcY ?_⟩
        walk_at "rd"
        refine ⟨x, t, 0, _, rfl, hk.same (s1.trans s23), ?_⟩
        rw [hclen]
        refine kq _ _ (Same.refl _) ?_
        refine take_snoc ?_
        rw [List.getElem?_map, hx] <;> rfl
      · intro H2 s2 hD0
        refine ⟨D0, xs.map fun x => inIV x 0 ((cs.length : Nat) - 1), rfl, by rw [hD0, List.take_of_length_le (by rw [List.length_map]; exact Nat.le_refl _), List.map_map] <;> rfl, ?_⟩
        walk_at "rd"
        have s12 := s1.trans s2
        refine ite_of (p := ¬ ∀ x ∈ xs, inIV x 0 ((cs.length : Nat) - 1) = true) (by rw [Bool.not_eq_true', ← Bool.not_eq_true, List.all_map, List.all_eq_true] <;> rfl) (fun hno => ?_) fun hall => ?_
        · walk_at "rd"
          refine q _ _ s12 ⟨fun h => (Bool.noConfusion h), fun ⟨idx, e, hc⟩ => absurd (fun x hx => ?_) hno⟩
          rw [e] at hx
          obtain ⟨i, hi, rfl⟩ := List.mem_map.mp hx
          exact inIV_nv (hc.lt i hi)
        · obtain ⟨idx, e, hlt⟩ := all_in (Classical.not_not.mp hall)
          subst e
          rw [List.length_map] at hxl
          have ha2 := rd_same s2 ha1
          walk_at "rd"
          refine ⟨1, _, rfl, ⟨by decide, by decide, by omega, by rw [List.length_map]; omega⟩, fun D1 nD1 => ?_⟩
          have el : (((idx.map nv).length : Nat) - 1 : Int).toNat = idx.length - 1 := by rw [List.length_map]; omega
          rw [el]
          refine lc_F walk_range (fun j => (List.range j).map fun j => V.bl (upB idx j)) rfl (fun j hj => small_lt (m := 1000) (by rw [List.length_map, List.length_range]; omega)) nD1 yfn_s (fun _ _ => trivial) ?_ ?_
          · intro j x H3 H4 Q' N hj s3 y kq _
            obtain ⟨rfl, rfl⟩ := y
            have ha3 := rd_same s3 ha2
            have g1 := nv_get (gd_get (D := idx) (i := j) (by omega))
            have g2 := nv_get (gd_get (D := idx) (i := j + 1) (by omega))
            have e1 : atI (idx.map nv) (1 + (j : Nat) - 1) = some (nv (gd idx j)) := by
              have := at_nv g1
              rwa [show ((j : Nat) : Int) = 1 + (j : Nat) - 1 by omega] at this
            have e2 : atI (idx.map nv) (1 + (j : Nat)) = some (nv (gd idx (j + 1))) := by
              have := at_nv g2
              rwa [show ((j + 1 : Nat) : Int) = 1 + (j : Nat) by omega] at this
            refine ⟨rfl, lcY ?_⟩
            walk_at "rd"
            refine kq _ _ (Same.refl _) ?_
            rw [range_snoc, List.map_append, List.map_singleton]
            congr 2
            congr 1
            unfold upB
            rw [Bool.eq_iff_iff, decide_eq_true_iff, decide_eq_true_iff]
            omega
          · intro H3 s3 hD1
            refine ⟨D1, (List.range (idx.length - 1)).map (upB idx), rfl, by rw [hD1, List.map_map] <;> rfl, ?_⟩
            have s13 := s12.trans s3
            have ha3 := rd_same s3 ha2
            walk_at "rd"
            refine ite_of (p := ¬ AscN idx) (by rw [Bool.not_eq_true', ← Bool.not_eq_true, up_iff]) (fun hno => ?_) fun hasc => ?_
            · walk_at "rd"
              refine q _ _ s13 ⟨fun h => (Bool.noConfusion h), fun ⟨idx', e, hc⟩ => ?_⟩
              rw [nvs_inj e] at hno
              exact absurd hc.asc hno
            · have hasc := Classical.not_not.mp hasc
              have hil : idx.length ≤ 200 := Nat.le_trans (nodup_lt hasc.nodup hlt) hfew
              walk_at "rd"
              refine ⟨tv, .ref ia, sz, n, rels, cs, false, a, idx, rfl, htp.tx (same_tx s13), tok, hin.same s13, iok, sq_r ha3, hlt, hil, fun H4 b s4 hb => ?_⟩
              have s14 := s13.trans s4
              walk_at "rd"
              refine ite_of hb (fun hsol => ?_) fun hsol => ?_
              · walk_at "rd"
                refine q _ _ s14 ⟨fun h => (Bool.noConfusion h), fun ⟨idx', e, hc⟩ => ?_⟩
                rw [nvs_inj e] at hsol
                exact absurd hsol hc.no
              · have ha4 := rd_same s4 ha3
                walk_at "rd"
                refine fun J2 w2 D2 nD2 => lc_F w2 (fun j => (idx.map fun x => V.bl (solB sz n rels cs idx x)).take j) List.take_zero (fun j _ => take_lt (by rw [List.length_map]; exact hil) (by decide) j) nD2 yat_s (fun H' sm => sq_r (rd_same sm ha4)) ?_ ?_
                · intro j x H5 H6 Q' N hj s5 y kq _
                  obtain ⟨s6, hx⟩ := yat_same y
                  obtain ⟨i, hi, rfl⟩ := nv_at hx
                  have s46 := s5.trans s6
                  have ha6 := rd_same s46 ha4
                  refine ⟨rfl, lcY ?_⟩
                  walk_at "rd"
                  refine fun J3 w3 D3 nD3 => lc_F w3 (fun j => (wo (idx.take j) i).map nv) (by rw [List.take_zero] <;> rfl) (fun j _ => ?_) nD3 yat_s (fun H' sm => sq_r (rd_same sm ha6)) ?_ ?_
                  · rw [List.length_map]
                    exact Nat.lt_of_le_of_lt wo_len (take_lt hil (by decide) j)
                  · intro l x H7 H8 Q2 N2 hl s7 y kq2 kn2
                    obtain ⟨s8, hx2⟩ := yat_same y
                    obtain ⟨o, ho, rfl⟩ := nv_at hx2
                    refine ⟨rfl, ?_⟩
                    walk_at "rd"
                    refine ite_of (p := o ≠ i) (by simp [nv]; omega) (fun h1 => ?_) fun h1 => ?_
                    · walk_at "rd"
                      refine kq2 _ _ (Same.refl _) ?_
                      rw [wo_snoc ho, if_pos h1, List.map_append] <;> rfl
                    · refine kn2 _ (Same.refl _) ?_
                      rw [wo_snoc ho, if_neg h1]
                  · intro H7 s7 hD3
                    rw [List.length_map, List.take_length] at hD3
                    have s17 := s14.trans (s46.trans s7)
                    refine ⟨tv, .ref ia, sz, n, rels, cs, true, D3, wo idx i, rfl, htp.tx (same_tx s17), tok, hin.same s17, iok, hD3, fun x hx => hlt x (mem_wo.mp hx).1, Nat.le_trans wo_len hil, fun H8 b s8 hb => ?_⟩
                    rw [bool_ext hb (solB_iff (idx := idx) (x := i))]
                    refine kq _ _ (s7.trans s8) ?_
                    refine take_snoc ?_
                    rw [List.getElem?_map, hi] <;> rfl
                · intro H5 s5 hD2
                  refine ⟨D2, idx.map (solB sz n rels cs idx), rfl, by rw [hD2, List.take_of_length_le (by rw [List.length_map, List.length_map]; exact Nat.le_refl _), List.map_map] <;> rfl, ?_⟩
                  refine q _ _ (s14.trans s5) ?_
                  rw [List.all_map, List.all_eq_true]
                  constructor
                  · intro h
                    exact ⟨idx, rfl, hasc, hlt, hsol, fun i hi => solB_iff.mp (h i hi)⟩
                  · rintro ⟨idx', e, hc⟩ i hi
                    rw [← nvs_inj e] at hc
                    exact solB_iff.mpr (hc.min i hi)
end
end G
namespace G
open PySem PySem.Spec PyProof.Rows L2
local macro_rules | `(tactic| walk_at "rd") => `(tactic| repeat (first | (refine ⟨_, rfl, ?_⟩) | (refine ⟨_, _, rfl, rfl, ?_⟩) | (refine iteT ?_) | (refine iteF ?_) | (refine ⟨_, "tuple", _, true, rfl, .tup (.inl (by assumption)), kb_tt, ?_⟩) | (refine ⟨_, "tuple", _, true, rfl, .tup (by assumption), kb_tt, ?_⟩) | (refine ⟨false, _, _, rfl, sq_t (by assumption), ?_⟩) | (refine ⟨false, _, _, rfl, sq_r (by assumption), ?_⟩) | (refine ⟨true, _, _, rfl, sq_l (by assumption), ?_⟩) | (refine ⟨false, _, _, _, _, rfl, rfl, sq_t (by assumption), at0, ?_⟩) | (refine ⟨false, _, _, _, _, rfl, rfl, sq_t (by assumption), at1, ?_⟩) | (refine ⟨false, _, _, _, _, rfl, rfl, sq_t (by assumption), (by assumption), ?_⟩) | (refine ⟨false, _, _, _, _, rfl, rfl, sq_r (by assumption), (by assumption), ?_⟩) | (refine ⟨true, _, _, _, _, rfl, rfl, sq_l (by assumption), (by assumption), ?_⟩) | (refine ⟨rfl, ?_⟩)))
/-- the law's row: the script, what is read of it, a number, a rest -/
def RowI (K : PySem.W.Frag) (A H : Hp) (r : Addr) : Prop := Same A H ∧ A r = none ∧ ∃ (sa : Addr) (ns : List Int) (k st rest : Int), SqL K A sa (ns.map V.int) ∧ ns.length ≤ 1000 ∧ H r = some (.lst [.ref sa, .int k, .int st, .int rest]) ∧ 0 ≤ k ∧ 0 ≤ st ∧ st < 2147483647 ∧ 0 ≤ rest
theorem RowI.same {K : PySem.W.Frag} {A H H' : Hp} {r : Addr} (h : RowI K A H r) (s : Same H H') : RowI K A H' r := by
  obtain ⟨s0, n, sa, ns, k, st, rs, h1, h2, h3, h4⟩ := h
  exact ⟨s0.trans s, n, sa, ns, k, st, rs, h1, h2, s _ _ h3, h4⟩
theorem RowI.updN {K : PySem.W.Frag} {A H : Hp} {r l : Addr} {o : HO} (h : RowI K A H r) (hl : A l = none) (n : l ≠ r) : RowI K A (upd H l o) r := by
  obtain ⟨s0, n0, sa, ns, k, st, rs, h1, h2, h3, h4⟩ := h
  exact ⟨same_upd s0 hl, n0, sa, ns, k, st, rs, h1, h2, by rw [upd_ne n.symm]; exact h3, h4⟩
theorem RowI.at {K : PySem.W.Frag} {A H : Hp} {r : Addr} (h : RowI K A H r) : ∃ xs, H r = some (.lst xs) := by
  obtain ⟨_, _, _, _, _, _, _, _, _, h3, _⟩ := h
  exact ⟨_, h3⟩
theorem RowI.fresh {K : PySem.W.Frag} {A H : Hp} {r l : Addr} (h : RowI K A H r) (n : H l = none) : A l = none ∧ l ≠ r := by
  obtain ⟨xs, e⟩ := h.at
  exact ⟨none_same h.1 n, ne_some n e⟩
theorem RowI.kp {K : PySem.W.Frag} {A H H' : Hp} {r l : Addr} (h : RowI K A H r) (k : Kp l H H') (hl : A l = none) (n : l ≠ r) : RowI K A H' r := by
  obtain ⟨s0, n0, sa, ns, q, st, rs, h1, h2, h3, h4⟩ := h
  exact ⟨same_kpT s0 k hl, n0, sa, ns, q, st, rs, h1, h2, k _ _ n.symm h3, h4⟩
theorem mod_nat (x m : Int) (h : 0 < m) : ∃ v : Nat, x % m = (v : Int) ∧ (v : Int) < m := by
  refine ⟨(x % m).toNat, ?_, ?_⟩
  · have := Int.emod_nonneg x (by omega : m ≠ 0)
    omega
  · have := Int.emod_lt_of_pos x h
    have := Int.emod_nonneg x (by omega : m ≠ 0)
    omega
section
variable {P : Program} {w : World} {K : PySem.W.Frag} {mg : Str → Option Value} {base : Heap}
def sp_l_taken (K : PySem.W.Frag) : Sp := fun vs H Q _ => ∃ (r : Addr) (m : Int) (A : Hp), vs = [.ref r, .int m] ∧ RowI K A H r ∧ 0 < m ∧ m < 1000000 ∧ ∀ H' (v : Nat), Kp r H H' → RowI K A H' r → (v : Int) < m → Q (nv v) H'
theorem ok_l_taken (T : TX K mg) : FnOk P w K mg base CX0 1 T.l_taken.f T.l_taken.fd ["_law_row", "_law_many"] (sp_l_taken K) := by
  refine T.l_taken.F.ok sc_l_taken (fun vs H Q E h => ?_) (fun cdv A0 outer s H vs Q E hr h => ?_)
  · obtain ⟨_, _, _, rfl, _⟩ := h
    rfl
  · obtain ⟨r, m, A, rfl, ⟨sA, nA, sa, ns, k, st, rs, hS, hns, hr1, hk, hst, hst2, hrs⟩, hm, hm2, q⟩ := h
    refine ⟨_, (pss_cons (ps_if (pt_cmpR op_gt (pe_ix ix_any (pv 0) pe_int (fun _ _ => rfl)) pe_int (nomark _))
      (pss_cons (ps_set (i := 2) sc_l_taken.nd rfl (.inl rfl) (pe_op op_mod (pe_callTy call_int1 (by rfl) T.n_int bb_int (pa_cons (pe_ix ix_any (pv 0) pe_int (fun _ _ => rfl)) pa_nil)) (pv 1)))
      (pss_cons (ps_asg (pe_op op_fdivN (pe_ix ix_any (pv 0) pe_int (fun _ _ => rfl)) (pv 1)) (pg_sub (pv 0) pe_int set_list))
      (pss_one (ps_ret (pv 2)))))
      pss_nil)
      (pss_cons (ps_asg (pe_op op_add (pe_ix ix_any (pv 0) pe_int (fun _ _ => rfl)) pe_int) (pg_sub (pv 0) pe_int set_list))
      (pss_cons (ps_if (pt_cmpR op_gt (pe_ix ix_any (pv 0) pe_int (fun _ _ => rfl)) (pe_callB call_len_seq (by rfl) T.n_len bb_len (pa_cons (pe_ix ix_any (pv 0) pe_int (fun _ _ => rfl)) pa_nil)) (nomark _))
      (pss_cons (ps_asg (pe_op op_mod (pe_callTy call_int1 (by rfl) T.n_int bb_int (pa_cons (pe_op op_add (pe_op op_mul (pe_ix ix_any (pv 0) pe_int (fun _ _ => rfl)) pe_int) pe_int) pa_nil)) pe_int) (pg_sub (pv 0) pe_int set_list))
      (pss_one (ps_ret (pe_op op_mod (pe_callTy call_int1 (by rfl) T.n_int bb_int (pa_cons (pe_op op_fdivN (pe_ix ix_any (pv 0) pe_int (fun _ _ => rfl)) pe_int) pa_nil)) (pv 1)))))
      pss_nil)
      (pss_cons (ps_set (i := 3) sc_l_taken.nd rfl (.inl rfl) (pe_ix ix_list (pe_ix ix_any (pv 0) pe_int (fun _ _ => rfl)) (pe_op op_sub (pe_ix ix_any (pv 0) pe_int (fun _ _ => rfl)) pe_int) (fun _ _ => rfl)))
      (pss_cons (ps_asg (pe_op op_mod (pe_callTy call_int1 (by rfl) T.n_int bb_int (pa_cons (pe_op op_add (pe_op op_add (pe_op op_mul (pe_ix ix_any (pv 0) pe_int (fun _ _ => rfl)) pe_int) (pv 3)) pe_int) pa_nil)) pe_int) (pg_sub (pv 0) pe_int set_list))
      (pss_cons (ps_if (pt_cmpR op_ge (pv 3) (pe_op op_pow pe_int pe_int) (nomark _))
      (pss_one (ps_asg (pe_op op_fdivN (pv 3) (pv 1)) (pg_sub (pv 0) pe_int set_list)))
      pss_nil)
      (pss_one (ps_ret (pe_op op_mod (pe_callTy call_int1 (by rfl) T.n_int bb_int (pa_cons (pv 3) pa_nil)) (pv 1)))))))))), ?_⟩
    have b1 : atI [V.ref sa, .int k, .int st, .int rs] 1 = some (.int k) := rfl
    have b2 : atI [V.ref sa, .int k, .int st, .int rs] 2 = some (.int st) := rfl
    have b3 : atI [V.ref sa, .int k, .int st, .int rs] 3 = some (.int rs) := rfl
    have hS1 := sA.seq hS
    walk_at "rd"
    refine ite_of (p := 0 < rs) (by simp) (fun h0 => ?_) fun h0 => ?_
    · walk_at "rd"
      refine .inl ⟨rs, rfl, ?_⟩
      walk_at "rd"
      refine ⟨hm, ?_⟩
      walk_at "rd"
      refine ⟨⟨by omega, by omega⟩, ?_⟩
      walk_at "rd"
      refine ⟨r, _, 3, 3, rfl, rfl, hr1, rfl, ?_⟩
      walk_at "rd"
      obtain ⟨v, e, hv⟩ := mod_nat rs m hm
      show Q (V.int (rs % m)) _
      rw [e]
      refine q _ v kp_upd ⟨same_upd sA nA, nA, sa, ns, k, st, _, hS, hns, upd_same, hk, hst, hst2, ?_⟩ hv
      exact Int.fdiv_nonneg hrs (by omega)
    · walk_at "rd"
      refine ⟨r, _, 1, 1, rfl, rfl, hr1, rfl, ?_⟩
      have hr2 : upd H r (.lst [.ref sa, .int (k + 1), .int st, .int rs]) r = some (.lst [.ref sa, .int (k + 1), .int st, .int rs]) := upd_same
      have sA2 : Same A (upd H r (.lst [.ref sa, .int (k + 1), .int st, .int rs])) := same_upd sA nA
      have kp2 : Kp r H (upd H r (.lst [.ref sa, .int (k + 1), .int st, .int rs])) := kp_upd
      show tSeq _ _ _ _ (upd H r (.lst [.ref sa, .int (k + 1), .int st, .int rs]))
      generalize upd H r (.lst [.ref sa, .int (k + 1), .int st, .int rs]) = H2 at hr2 sA2 kp2
      have c0 : atI [V.ref sa, .int (k + 1), .int st, .int rs] 0 = some (.ref sa) := rfl
      have c1 : atI [V.ref sa, .int (k + 1), .int st, .int rs] 1 = some (.int (k + 1)) := rfl
      have c2 : atI [V.ref sa, .int (k + 1), .int st, .int rs] 2 = some (.int st) := rfl
      have hS2 := sA2.seq hS
      walk_at "rd"
      refine ⟨sa, _, rfl, .inl hS2, ?_⟩
      rw [List.length_map]
      walk_at "rd"
      refine ite_of (p := (ns.length : Int) < k + 1) (by simp) (fun h1 => ?_) fun h1 => ?_
      · walk_at "rd"
        refine ⟨.inl ⟨by omega, by omega⟩, ?_⟩
        walk_at "rd"
        refine .inl ⟨_, rfl, ?_⟩
        walk_at "rd"
        refine ⟨by show (0 : Int) < 2147483647; decide, ?_⟩
        walk_at "rd"
        refine ⟨r, _, 2, 2, rfl, rfl, hr2, rfl, ?_⟩
        obtain ⟨u, eu, hu⟩ := mod_nat (st * 48271 + 11) 2147483647 (by decide)
        have hr3 : upd H2 r (.lst [.ref sa, .int (k + 1), .int ((st * 48271 + 11) % 2147483647), .int rs]) r = some (.lst [.ref sa, .int (k + 1), .int ((st * 48271 + 11) % 2147483647), .int rs]) := upd_same
        have d2 : atI [V.ref sa, .int (k + 1), .int ((st * 48271 + 11) % 2147483647), .int rs] 2 = some (.int ((st * 48271 + 11) % 2147483647)) := rfl
        walk_at "rd"
        refine ⟨⟨by decide, by decide⟩, ?_⟩
        refine .inl ⟨_, rfl, ?_⟩
        walk_at "rd"
        refine ⟨hm, ?_⟩
        obtain ⟨v, e, hv⟩ := mod_nat (((st * 48271 + 11) % 2147483647).fdiv 7) m hm
        show Q (V.int ((((st * 48271 + 11) % 2147483647).fdiv 7) % m)) _
        rw [e]
        exact q _ v (kp2.trans kp_upd) ⟨same_upd sA2 nA, nA, sa, ns, k + 1, _, rs, hS, hns, upd_same, by omega, by rw [eu]; omega, by rw [eu]; exact hu, hrs⟩ hv
      · obtain ⟨kn, rfl⟩ : ∃ kn : Nat, k = kn := ⟨k.toNat, by omega⟩
        have hkn : kn < ns.length := by omega
        have hcell : (ns.map V.int)[kn]? = some (.int ns[kn]) := by rw [List.getElem?_map, List.getElem?_eq_getElem hkn] <;> rfl
        have hat := atI_nat hcell
        generalize ns[kn] = c at hcell hat
        have hat2 : atI (ns.map V.int) ((kn : Int) + 1 - 1) = some (.int c) := by rw [show (kn : Int) + 1 - 1 = kn by omega]; exact hat
        walk_at "rd"
        refine ⟨sa, _, _, _, rfl, rfl, hS2, hat2, ?_⟩
        walk_at "rd"
        refine ⟨.inl ⟨by omega, by omega⟩, ?_⟩
        walk_at "rd"
        refine .inl ⟨_, rfl, ?_⟩
        walk_at "rd"
        refine ⟨by show (0 : Int) < 2147483647; decide, ?_⟩
        walk_at "rd"
        refine ⟨r, _, 2, 2, rfl, rfl, hr2, rfl, ?_⟩
        obtain ⟨u, eu, hu⟩ := mod_nat (st * 48271 + c + 11) 2147483647 (by decide)
        show tSeq _ _ _ _ (upd H2 r (.lst [.ref sa, .int ((kn : Int) + 1), .int ((st * 48271 + c + 11) % 2147483647), .int rs]))
        have hr3 : upd H2 r (.lst [.ref sa, .int ((kn : Int) + 1), .int ((st * 48271 + c + 11) % 2147483647), .int rs]) r = some (.lst [.ref sa, .int ((kn : Int) + 1), .int ((st * 48271 + c + 11) % 2147483647), .int rs]) := upd_same
        have sA3 : Same A (upd H2 r (.lst [.ref sa, .int ((kn : Int) + 1), .int ((st * 48271 + c + 11) % 2147483647), .int rs])) := same_upd sA2 nA
        have kp3 := kp2.trans (kp_upd (l := r) (H := H2) (o := .lst [.ref sa, .int ((kn : Int) + 1), .int ((st * 48271 + c + 11) % 2147483647), .int rs]))
        generalize upd H2 r (.lst [.ref sa, .int ((kn : Int) + 1), .int ((st * 48271 + c + 11) % 2147483647), .int rs]) = H3 at hr3 sA3 kp3
        rw [eu] at hr3
        obtain ⟨v, e, hv⟩ := mod_nat c m hm
        walk_at "rd"
        refine ⟨⟨by decide, by decide, by decide⟩, ?_⟩
        walk_at "rd"
        refine ite_of (p := (10 : Int) ^ 18 ≤ c) (by rw [decide_eq_true_iff] <;> rfl) (fun h2 => ?_) fun h2 => ?_
        · walk_at "rd"
          refine ⟨⟨by omega, by omega⟩, ?_⟩
          walk_at "rd"
          refine ⟨r, _, 3, 3, rfl, rfl, hr3, rfl, ?_⟩
          walk_at "rd"
          refine .inl ⟨_, rfl, ?_⟩
          walk_at "rd"
          refine ⟨hm, ?_⟩
          show Q (V.int (c % m)) _
          rw [e]
          refine q _ v (kp3.trans kp_upd) ⟨same_upd sA3 nA, nA, sa, ns, _, _, _, hS, hns, upd_same, by omega, by omega, hu, ?_⟩ hv
          exact Int.fdiv_nonneg (by omega) (by omega)
        · walk_at "rd"
          refine .inl ⟨_, rfl, ?_⟩
          walk_at "rd"
          refine ⟨hm, ?_⟩
          show Q (V.int (c % m)) _
          rw [e]
          exact q _ v kp3 ⟨sA3, nA, sa, ns, _, _, _, hS, hns, hr3, by omega, by omega, hu, hrs⟩ hv
end
end G
namespace G
open PySem PySem.Spec PyProof.Rows L2
local macro_rules | `(tactic| walk_at "rd") => `(tactic| repeat (first | (refine ⟨_, rfl, ?_⟩) | (refine ⟨_, _, rfl, rfl, ?_⟩) | (refine iteT ?_) | (refine iteF ?_) | (refine ⟨_, "tuple", _, true, rfl, .tup (.inl (by assumption)), kb_tt, ?_⟩) | (refine ⟨_, "tuple", _, true, rfl, .tup (by assumption), kb_tt, ?_⟩) | (refine ⟨false, _, _, rfl, sq_t (by assumption), ?_⟩) | (refine ⟨false, _, _, rfl, sq_r (by assumption), ?_⟩) | (refine ⟨true, _, _, rfl, sq_l (by assumption), ?_⟩) | (refine ⟨false, _, _, _, _, rfl, rfl, sq_t (by assumption), at0, ?_⟩) | (refine ⟨false, _, _, _, _, rfl, rfl, sq_t (by assumption), at1, ?_⟩) | (refine ⟨false, _, _, _, _, rfl, rfl, sq_t (by assumption), (by assumption), ?_⟩) | (refine ⟨false, _, _, _, _, rfl, rfl, sq_r (by assumption), (by assumption), ?_⟩) | (refine ⟨true, _, _, _, _, rfl, rfl, sq_l (by assumption), (by assumption), ?_⟩) | (refine ⟨rfl, ?_⟩)))
def TT (H : Hp) (v : V) (t : List V) : Prop := ∃ a, v = .ref a ∧ H a = some (.tup t)
theorem TT.tx {H H' : Hp} {v : V} {t : List V} (h : TT H v t) (x : Tx H H') : TT H' v t := let ⟨a, e, q⟩ := h; ⟨a, e, x.t q⟩
def ext (ts t : List V) : List (List V) := ts.map fun x => t ++ [x]
def tupsV (ts : List V) : Nat → List (List V)
  | 0 => [[]]
  | k + 1 => (tupsV ts k).flatMap (ext ts)
theorem flat_len {α β : Type} (f : α → List β) (m : Nat) (hf : ∀ a, (f a).length = m) : ∀ l : List α, (l.flatMap f).length = l.length * m
  | [] => by simp
  | a :: l => by rw [List.flatMap_cons, List.length_append, flat_len f m hf l, hf, List.length_cons, Nat.add_mul, Nat.one_mul, Nat.add_comm]
theorem ext_len (ts t : List V) : (ext ts t).length = ts.length := by unfold ext; rw [List.length_map]
theorem tupsV_len (ts : List V) : ∀ k, (tupsV ts k).length = ts.length ^ k
  | 0 => rfl
  | k + 1 => by
    show ((tupsV ts k).flatMap (ext ts)).length = _
    rw [flat_len _ _ (ext_len ts), tupsV_len ts k, Nat.pow_succ]
theorem tupsV_few {ts : List V} {k : Nat} (h1 : ts.length ≤ 10) (h2 : k ≤ 4) : (tupsV ts k).length ≤ 10000 := by
  rw [tupsV_len]
  exact Nat.le_trans (Nat.pow_le_pow_left h1 k) (Nat.pow_le_pow_right (by decide : 0 < 10) h2)
theorem flat_few {ts : List V} {l : List (List V)} {i : Nat} (h1 : ts.length ≤ 10) (h2 : l.length ≤ 10000) : ((l.take i).flatMap (ext ts)).length ≤ 100000 := by
  rw [flat_len _ _ (ext_len ts), List.length_take]
  have : min i l.length ≤ 10000 := Nat.le_trans (Nat.min_le_right _ _) h2
  exact Nat.le_trans (Nat.mul_le_mul this h1) (by decide)
theorem flat_snoc {ts : List V} {l : List (List V)} {i : Nat} {t : List V} (h : l[i]? = some t) : (l.take (i + 1)).flatMap (ext ts) = (l.take i).flatMap (ext ts) ++ ext ts t := by
  rw [take_snoc h, List.flatMap_append, List.flatMap_cons, List.flatMap_nil, List.append_nil]
theorem tupsV_mem_len {ts : List V} : ∀ {k : Nat} {t : List V}, t ∈ tupsV ts k → t.length = k
  | 0, t, h => by rw [List.mem_singleton.mp h] <;> rfl
  | k + 1, t, h => by
    obtain ⟨u, hu, ht⟩ := List.mem_flatMap.mp h
    obtain ⟨x, _, rfl⟩ := List.mem_map.mp ht
    rw [List.length_append, tupsV_mem_len hu] <;> rfl
section
variable {P : Program} {w : World} {K : PySem.W.Frag} {mg : Str → Option Value} {base : Heap}
def sp_l_pick (K : PySem.W.Frag) : Sp := fun vs H Q _ => ∃ (r t : Addr) (A : Hp) (k : Bool) (xs : List V), vs = [.ref r, .ref t] ∧ RowI K A H r ∧ Sq k H t xs ∧ t ≠ r ∧ xs ≠ [] ∧ xs.length < 1000000 ∧ ∀ H' (i : Nat) (x : V), Kp r H H' → RowI K A H' r → xs[i]? = some x → Q x H'
theorem Sq.kp {H H' : Hp} {k : Bool} {a l : Addr} {xs : List V} (h : Sq k H a xs) (s : Kp l H H') (n : a ≠ l) : Sq k H' a xs := by
  cases k with
  | true => exact s _ _ n h
  | false =>
    rcases h with h | ⟨o, h⟩
    · exact .inl (s _ _ n h)
    · exact .inr ⟨o, s _ _ n h⟩
theorem ok_l_pick (T : TX K mg) : FnOk P w K mg base CX0 2 T.l_pick.f T.l_pick.fd ["_law_row", "_law_things"] (sp_l_pick K) := by
  refine T.l_pick.F.ok sc_l_pick (fun vs H Q E h => ?_) (fun cdv A0 outer s H vs Q E hr h => ?_)
  · obtain ⟨_, _, _, _, _, rfl, _⟩ := h
    rfl
  · obtain ⟨r, t, A, k, xs, rfl, hrow, ht, ntr, hne, hlen, q⟩ := h
    refine ⟨_, (pss_one (ps_ret (pe_ix ix_any (pv 1) (pe_call (ok_l_taken T) (hr.mono (by decide)) (by rfl) T.l_taken.g T.l_taken.F.kp T.l_taken.b .nil pass0 (pa_cons (pv 0) (pa_cons (pe_callB call_lenS (by rfl) T.n_len bb_len (pa_cons (pv 1) pa_nil)) pa_nil))) (fun _ _ => rfl)))), ?_⟩
    have hl := List.length_pos_iff.mpr hne
    walk_at "rd"
    refine ⟨k, t, xs, rfl, ht, ?_⟩
    refine ⟨r, _, A, rfl, hrow, by omega, by omega, fun H' v kp hrow' hv => ?_⟩
    have hv' : v < xs.length := by omega
    refine ⟨k, t, xs, _, _, rfl, rfl, ht.kp kp ntr, at_nv (List.getElem?_eq_getElem hv'), ?_⟩
    exact q _ v _ kp hrow' (List.getElem?_eq_getElem hv')
def sp_l_tuples : Sp := fun vs H Q _ => ∃ (t : Addr) (n : Nat) (k : Bool) (ts : List V), vs = [.ref t, nv n] ∧ Sq k H t ts ∧ ts.length ≤ 10 ∧ n ≤ 4 ∧
  ∀ H' l xs, Same H H' → H l = none → H' l = some (.lst xs) → Paired (TT H') xs (tupsV ts n) → Q (.ref l) H'
theorem ok_l_tuples (T : TX K mg) : FnOk P w K mg base CX0 1 T.l_tuples.f T.l_tuples.fd ["_law_things", "_law_many"] sp_l_tuples := by
  refine T.l_tuples.F.ok sc_l_tuples (fun vs H Q E h => ?_) (fun cdv A0 outer s H vs Q E hr h => ?_)
  · obtain ⟨_, _, _, _, rfl, _⟩ := h
    rfl
  · obtain ⟨t, n, k, ts, rfl, ht, hts, hn, q⟩ := h
    refine ⟨_, (pss_cons (ps_set (i := 2) sc_l_tuples.nd rfl (.inl rfl) (pe_lst (pa_cons (pe_tup pa_nil) pa_nil)))
      (pss_cons (ps_for PassesOwn.never rfl (pi_range1 (by rfl) T.n_range (pa_cons (pv 1) pa_nil)) (pg_name (i := 3) sc_l_tuples.nd rfl (Or.inl rfl))
      (pss_cons (ps_set (i := 4) sc_l_tuples.nd rfl (.inl rfl) (pe_lst pa_nil))
      (pss_cons (ps_for PassesOwn.never rfl (pi_sq (pv 2)) (pg_name (i := 5) sc_l_tuples.nd rfl (Or.inr rfl))
      (pss_one (ps_set (i := 4) sc_l_tuples.nd rfl (.inl rfl) (pe_op op_cat (pv 4) (pe_lc (own := [("_law_thing", 6)]) rfl sc_l_tuples.nd (pi_sq (pv 0)) (blkOk_by (N := N_l_tuples) (sc := defScope s_l_tuples) (by decide +kernel)) (fun _ _ _ _ _ => (pg_name (i := 6) sc_l_tuples.nd rfl (Or.inl rfl))) (fun _ _ _ _ _ => pts_nil) (fun _ _ _ _ _ => (pe_op op_catS (pv 5) (pe_tup (pa_cons (pv 6) pa_nil)))))))))
      (pss_one (ps_set (i := 2) sc_l_tuples.nd rfl (.inl rfl) (pv 4))))))
      (pss_one (ps_ret (pv 2))))), ?_⟩
    refine ⟨Nat.zero_le _, fun e0 ne0 => ?_⟩
    have g1 := same_new (o := .tup []) ne0
    refine ⟨sz_le (by show 1 ≤ 1000000; decide), fun l0 nl0 => ?_⟩
    have g2 := g1.trans (same_new (o := .lst [.ref e0]) nl0)
    have hl0 : upd (upd H e0 (.tup [])) l0 (.lst [.ref e0]) l0 = some (.lst [.ref e0]) := upd_same
    have he0 : upd (upd H e0 (.tup [])) l0 (.lst [.ref e0]) e0 = some (.tup []) := same_new nl0 _ _ upd_same
    generalize upd (upd H e0 (.tup [])) l0 (.lst [.ref e0]) = H1 at g2 hl0 he0
    have nl0H := none_same g1 nl0
    walk_at "rd"
    refine ⟨by omega, by omega, for_it (walk_nv (n := n)) (fun i σ H' => ∃ l xs y3 y4 y5, σ = [some (.ref t), some (nv n), some (.ref l), y3, y4, y5, none] ∧ Same H H' ∧ H l = none ∧ H' l = some (.lst xs) ∧ Paired (TT H') xs (tupsV ts i)) ?_ (fun _ _ _ _ _ => trivial) (fun i x σ H2 H3 hi q2 y => ?_) fun σ H2 q2 => ?_⟩
    · exact ⟨l0, _, _, _, _, rfl, g2, nl0H, hl0, .cons ⟨e0, rfl, he0⟩ .nil⟩
    · obtain ⟨rfl, rfl⟩ := y
      obtain ⟨l, xs, y3, y4, y5, rfl, s2, nl, hl, hp⟩ := q2
      refine ⟨Nat.zero_le _, fun m nm => ?_⟩
      have g3 := same_new (o := .lst []) nm
      have hm : upd H3 m (.lst []) m = some (.lst []) := upd_same
      generalize upd H3 m (.lst []) = H4 at g3 hm
      have hl4 := g3 _ _ hl
      have s4 := s2.trans g3
      have nmH := none_same s2 nm
      have hp4 := paired_imp (S := TT H4) (fun _ _ q => q.tx (same_tx g3)) hp
      have hxl := paired_len hp4
      have hfew := tupsV_few hts (Nat.le_trans (Nat.le_of_lt hi) hn)
      walk_at "rd"
      refine fun J wJ => for_it wJ (fun j σ H' => ∃ m ms y5, σ = [some (.ref t), some (nv n), some (.ref l), some (nv i), some (.ref m), y5, none] ∧ Same H4 H' ∧ H m = none ∧ H' m = some (.lst ms) ∧ Paired (TT H') ms (((tupsV ts i).take j).flatMap (ext ts))) ?_ (fun j σ H' _ q => ?_) (fun j x σ H5 H6 hj q5 y => ?_) fun σ H5 q5 => ?_
      · exact ⟨m, [], _, rfl, Same.refl _, nmH, hm, by rw [List.take_zero]; exact .nil⟩
      · obtain ⟨_, _, _, _, sm, _⟩ := q
        exact sq_l (sm _ _ hl4)
      · obtain ⟨m', ms, y5, rfl, s5, nm', hm', hpm⟩ := q5
        obtain ⟨s6, hx⟩ := yat_same y
        have s46 := s5.trans s6
        obtain ⟨tt, htt, a, rfl, ha⟩ := paired_get (paired_imp (S := TT H6) (fun _ _ q => q.tx (same_tx s46)) hp4) hx
        have hm6 := s6 _ _ hm'
        have ht6 := ht.same (s4.trans s46)
        have hmsl : ms.length ≤ 100000 := by
          rw [paired_len hpm]
          exact flat_few hts hfew
        walk_at "rd"
        refine ⟨k, t, ts, rfl, ht6, fun J2 w2 D0 nD0 => lc_R w2 (fun i acc H' => i ≤ ts.length ∧ Paired (TT H') acc ((ts.take i).map fun x => tt ++ [x])) nD0 yat_s (fun i acc H H' x h => ⟨h.1, paired_imp (fun _ _ q => q.tx x) h.2⟩) (fun i acc H' h => ?_) (fun H' sm => ht6.same sm) ⟨Nat.zero_le _, by rw [List.take_zero]; exact .nil⟩ ?_ ?_⟩
        · rw [paired_len h.2, List.length_map]
          exact take_lt hts (by decide) i
        · intro i2 x H7 H8 acc Q' N hi2 s7 _ hacc y kq _
          obtain ⟨s8, hx2⟩ := yat_same y
          have ha8 := s8 _ _ (s7 _ _ ha)
          refine ⟨rfl, lcY ?_⟩
          walk_at "rd"
          refine ⟨sz_le (by show 1 ≤ 1000000; decide), fun u nu => ?_⟩
          have s9 := same_new (o := .tup [x]) nu
          have httl : tt.length ≤ 1000 := by
            have := tupsV_mem_len (List.mem_of_getElem? htt)
            omega
          refine ⟨a, u, tt, [x], rfl, rfl, s9 _ _ ha8, upd_same, sz_le (by rw [List.length_singleton]; omega), fun p H9 s10 hp9 => ?_⟩
          refine kq _ _ (s9.trans s10) ⟨hi2, ?_⟩
          rw [take_snoc hx2, List.map_append, List.map_singleton]
          exact paired_snoc ⟨p, rfl, hp9⟩ (paired_imp (fun _ _ q => q.tx (same_tx (s8.trans (s9.trans s10)))) hacc.2)
        · intro H7 acc s7 hD0 hacc
          rw [List.take_length] at hacc
          have hal : acc.length = ts.length := by rw [paired_len hacc.2, List.length_map]
          refine ⟨m', D0, ms, acc, rfl, rfl, s7 _ _ hm6, hD0, sz_le (by omega), fun p np => ?_⟩
          have s8 := s7.trans (same_new (o := .lst (ms ++ acc)) np)
          refine ⟨p, ms ++ acc, _, rfl, s46.trans s8, none_same ((s4.trans s46).trans s7) np, upd_same, ?_⟩
          rw [flat_snoc htt]
          exact paired_app (paired_imp (fun _ _ q => q.tx (same_tx (s6.trans s8))) hpm) (paired_imp (fun _ _ q => q.tx (same_tx (same_new np))) hacc.2)
      · obtain ⟨m', ms, y5, rfl, s5, nm', hm', hpm⟩ := q5
        rw [hxl, List.take_length] at hpm
        walk_at "rd"
        exact ⟨m', ms, _, _, _, rfl, s4.trans s5, nm', hm', hpm⟩
    · obtain ⟨l, xs, y3, y4, y5, rfl, s2, nl, hl, hp⟩ := q2
      walk_at "rd"
      exact q _ l xs s2 nl hl hp
end
end G
namespace G
open PySem PySem.Spec PyProof.Rows L2
local macro_rules | `(tactic| walk_at "rd") => `(tactic| repeat (first | (refine ⟨_, rfl, ?_⟩) | (refine ⟨_, _, rfl, rfl, ?_⟩) | (refine iteT ?_) | (refine iteF ?_) | (refine ⟨_, "tuple", _, true, rfl, .tup (.inl (by assumption)), kb_tt, ?_⟩) | (refine ⟨_, "tuple", _, true, rfl, .tup (by assumption), kb_tt, ?_⟩) | (refine ⟨false, _, _, rfl, sq_t (by assumption), ?_⟩) | (refine ⟨false, _, _, rfl, sq_r (by assumption), ?_⟩) | (refine ⟨true, _, _, rfl, sq_l (by assumption), ?_⟩) | (refine ⟨false, _, _, _, _, rfl, rfl, sq_t (by assumption), at0, ?_⟩) | (refine ⟨false, _, _, _, _, rfl, rfl, sq_t (by assumption), at1, ?_⟩) | (refine ⟨false, _, _, _, _, rfl, rfl, sq_t (by assumption), (by assumption), ?_⟩) | (refine ⟨false, _, _, _, _, rfl, rfl, sq_r (by assumption), (by assumption), ?_⟩) | (refine ⟨true, _, _, _, _, rfl, rfl, sq_l (by assumption), (by assumption), ?_⟩) | (refine ⟨rfl, ?_⟩)))
def extN (sz : Nat) (t : List Nat) : List (List Nat) := (List.range sz).map fun x => t ++ [x]
def rowsN (sz : Nat) : Nat → List (List Nat)
  | 0 => [[]]
  | k + 1 => (rowsN sz k).flatMap (extN sz)
theorem extN_len (sz : Nat) (t : List Nat) : (extN sz t).length = sz := by unfold extN; rw [List.length_map, List.length_range]
theorem rowsN_len (sz : Nat) : ∀ k, (rowsN sz k).length = sz ^ k
  | 0 => rfl
  | k + 1 => by
    show ((rowsN sz k).flatMap (extN sz)).length = _
    rw [flat_len _ _ (extN_len sz), rowsN_len sz k, Nat.pow_succ]
theorem rowsN_few {sz k : Nat} (h1 : sz ≤ 4) (h2 : k ≤ 4) : (rowsN sz k).length ≤ 256 := by
  rw [rowsN_len]
  exact Nat.le_trans (Nat.pow_le_pow_left h1 k) (Nat.pow_le_pow_right (by decide : 0 < 4) h2)
theorem flatN_few {sz : Nat} {l : List (List Nat)} {i : Nat} (h1 : sz ≤ 4) (h2 : l.length ≤ 256) : ((l.take i).flatMap (extN sz)).length ≤ 1024 := by
  rw [flat_len _ _ (extN_len sz), List.length_take]
  have : min i l.length ≤ 256 := Nat.le_trans (Nat.min_le_right _ _) h2
  exact Nat.le_trans (Nat.mul_le_mul this h1) (by decide)
theorem flatN_snoc {sz : Nat} {l : List (List Nat)} {i : Nat} {t : List Nat} (h : l[i]? = some t) : (l.take (i + 1)).flatMap (extN sz) = (l.take i).flatMap (extN sz) ++ extN sz t := by
  rw [take_snoc h, List.flatMap_append, List.flatMap_cons, List.flatMap_nil, List.append_nil]
theorem rowsN_mem {sz : Nat} : ∀ {k : Nat} {t : List Nat}, t ∈ rowsN sz k → t.length = k ∧ Lt sz t
  | 0, t, h => by
    rw [List.mem_singleton.mp h]
    exact ⟨rfl, fun x hx => absurd hx List.not_mem_nil⟩
  | k + 1, t, h => by
    obtain ⟨u, hu, ht⟩ := List.mem_flatMap.mp h
    obtain ⟨x, hx, rfl⟩ := List.mem_map.mp ht
    obtain ⟨h1, h2⟩ := rowsN_mem hu
    refine ⟨by rw [List.length_append, h1] <;> rfl, fun y hy => ?_⟩
    rcases List.mem_append.mp hy with e | e
    · exact h2 y e
    · rw [List.mem_singleton.mp e]; exact List.mem_range.mp hx
section
variable {P : Program} {w : World} {K : PySem.W.Frag} {mg : Str → Option Value} {base : Heap}
def sp_l_rows : Sp := fun vs H Q _ => ∃ (sz n : Nat), vs = [nv sz, nv n] ∧ sz ≤ 4 ∧ n ≤ 4 ∧
  ∀ H' l xs, Same H H' → H l = none → H' l = some (.lst xs) → Rws H' xs (rowsN sz n) → Q (.ref l) H'
theorem ok_l_rows (T : TX K mg) : FnOk P w K mg base CX0 1 T.l_rows.f T.l_rows.fd ["_law_size", "_law_arity"] sp_l_rows := by
  refine T.l_rows.F.ok sc_l_rows (fun vs H Q E h => ?_) (fun cdv A0 outer s H vs Q E hr h => ?_)
  · obtain ⟨_, _, rfl, _⟩ := h
    rfl
  · obtain ⟨sz, n, rfl, hsz, hn, q⟩ := h
    refine ⟨_, (pss_cons (ps_set (i := 2) sc_l_rows.nd rfl (.inl rfl) (pe_lst (pa_cons (pe_tup pa_nil) pa_nil)))
      (pss_cons (ps_for PassesOwn.never rfl (pi_range1 (by rfl) T.n_range (pa_cons (pv 1) pa_nil)) (pg_name (i := 3) sc_l_rows.nd rfl (Or.inl rfl))
      (pss_cons (ps_set (i := 4) sc_l_rows.nd rfl (.inl rfl) (pe_lst pa_nil))
      (pss_cons (ps_for PassesOwn.never rfl (pi_sq (pv 2)) (pg_name (i := 5) sc_l_rows.nd rfl (Or.inr rfl))
      (pss_one (ps_set (i := 4) sc_l_rows.nd rfl (.inl rfl) (pe_op op_cat (pv 4) (pe_lc (own := [("_law_value_here", 6)]) rfl sc_l_rows.nd (pi_range1 (by rfl) T.n_range (pa_cons (pv 0) pa_nil)) (blkOk_by (N := N_l_rows) (sc := defScope s_l_rows) (by decide +kernel)) (fun _ _ _ _ _ => (pg_name (i := 6) sc_l_rows.nd rfl (Or.inl rfl))) (fun _ _ _ _ _ => pts_nil) (fun _ _ _ _ _ => (pe_op op_catS (pv 5) (pe_tup (pa_cons (pv 6) pa_nil)))))))))
      (pss_one (ps_set (i := 2) sc_l_rows.nd rfl (.inl rfl) (pv 4))))))
      (pss_one (ps_ret (pv 2))))), ?_⟩
    refine ⟨Nat.zero_le _, fun e0 ne0 => ?_⟩
    have g1 := same_new (o := .tup []) ne0
    refine ⟨sz_le (by show 1 ≤ 1000000; decide), fun l0 nl0 => ?_⟩
    have g2 := g1.trans (same_new (o := .lst [.ref e0]) nl0)
    have hl0 : upd (upd H e0 (.tup [])) l0 (.lst [.ref e0]) l0 = some (.lst [.ref e0]) := upd_same
    have he0 : upd (upd H e0 (.tup [])) l0 (.lst [.ref e0]) e0 = some (.tup []) := same_new nl0 _ _ upd_same
    generalize upd (upd H e0 (.tup [])) l0 (.lst [.ref e0]) = H1 at g2 hl0 he0
    have nl0H := none_same g1 nl0
    walk_at "rd"
    refine ⟨by omega, by omega, for_it (walk_nv (n := n)) (fun i σ H' => ∃ l xs y3 y4 y5, σ = [some (nv sz), some (nv n), some (.ref l), y3, y4, y5, none] ∧ Same H H' ∧ H l = none ∧ H' l = some (.lst xs) ∧ Rws H' xs (rowsN sz i)) ?_ (fun _ _ _ _ _ => trivial) (fun i x σ H2 H3 hi q2 y => ?_) fun σ H2 q2 => ?_⟩
    · exact ⟨l0, _, _, _, _, rfl, g2, nl0H, hl0, .cons ⟨e0, rfl, he0⟩ .nil⟩
    · obtain ⟨rfl, rfl⟩ := y
      obtain ⟨l, xs, y3, y4, y5, rfl, s2, nl, hl, hp⟩ := q2
      refine ⟨Nat.zero_le _, fun m nm => ?_⟩
      have g3 := same_new (o := .lst []) nm
      have hm : upd H3 m (.lst []) m = some (.lst []) := upd_same
      generalize upd H3 m (.lst []) = H4 at g3 hm
      have hl4 := g3 _ _ hl
      have s4 := s2.trans g3
      have nmH := none_same s2 nm
      have hp4 := hp.tx (same_tx g3)
      have hxl := paired_len hp4
      have hfew := rowsN_few hsz (Nat.le_trans (Nat.le_of_lt hi) hn)
      walk_at "rd"
      refine fun J wJ => for_it wJ (fun j σ H' => ∃ m ms y5, σ = [some (nv sz), some (nv n), some (.ref l), some (nv i), some (.ref m), y5, none] ∧ Same H4 H' ∧ H m = none ∧ H' m = some (.lst ms) ∧ Rws H' ms (((rowsN sz i).take j).flatMap (extN sz))) ?_ (fun j σ H' _ q => ?_) (fun j x σ H5 H6 hj q5 y => ?_) fun σ H5 q5 => ?_
      · exact ⟨m, [], _, rfl, Same.refl _, nmH, hm, by rw [List.take_zero]; exact .nil⟩
      · obtain ⟨_, _, _, _, sm, _⟩ := q
        exact sq_l (sm _ _ hl4)
      · obtain ⟨m', ms, y5, rfl, s5, nm', hm', hpm⟩ := q5
        obtain ⟨s6, hx⟩ := yat_same y
        have s46 := s5.trans s6
        obtain ⟨tt, htt, a, rfl, ha⟩ := paired_get (hp4.tx (same_tx s46)) hx
        have hm6 := s6 _ _ hm'
        have hmsl : ms.length ≤ 1024 := by
          rw [paired_len hpm]
          exact flatN_few hsz hfew
        walk_at "rd"
        refine ⟨by omega, by omega, fun D0 nD0 => lc_R (walk_nv (n := sz)) (fun i acc H' => i ≤ sz ∧ Rws H' acc ((List.range i).map fun x => tt ++ [x])) nD0 yfn_s (fun i acc H H' x h => ⟨h.1, h.2.tx x⟩) (fun i acc H' h => ?_) (fun H' sm => trivial) ⟨Nat.zero_le _, .nil⟩ ?_ ?_⟩
        · rw [paired_len h.2, List.length_map, List.length_range]
          exact small_lt (m := 1000) (by omega)
        · intro i2 x H7 H8 acc Q' N hi2 s7 _ hacc y kq _
          obtain ⟨rfl, rfl⟩ := y
          have ha8 := s7 _ _ ha
          refine ⟨rfl, lcY ?_⟩
          walk_at "rd"
          refine ⟨sz_le (by show 1 ≤ 1000000; decide), fun u nu => ?_⟩
          have s9 := same_new (o := .tup [nv i2]) nu
          have httl : tt.length ≤ 1000 := by
            have := (rowsN_mem (List.mem_of_getElem? htt)).1
            omega
          refine ⟨a, u, tt.map nv, [nv i2], rfl, rfl, s9 _ _ ha8, upd_same, sz_le (by rw [List.length_singleton, List.length_map]; omega), fun p H9 s10 hp9 => ?_⟩
          refine kq _ _ (s9.trans s10) ⟨hi2, ?_⟩
          rw [range_snoc, List.map_append, List.map_singleton]
          exact paired_snoc ⟨p, rfl, by rw [hp9, List.map_append] <;> rfl⟩ (hacc.2.tx (same_tx (s9.trans s10)))
        · intro H7 acc s7 hD0 hacc
          have hal : acc.length = sz := by rw [paired_len hacc.2, List.length_map, List.length_range]
          refine ⟨m', D0, ms, acc, rfl, rfl, s7 _ _ hm6, hD0, sz_le (by omega), fun p np => ?_⟩
          have s8 := s7.trans (same_new (o := .lst (ms ++ acc)) np)
          refine ⟨p, ms ++ acc, _, rfl, s46.trans s8, none_same ((s4.trans s46).trans s7) np, upd_same, ?_⟩
          rw [flatN_snoc htt]
          exact paired_app (hpm.tx (same_tx (s6.trans s8))) (hacc.2.tx (same_tx (same_new np)))
      · obtain ⟨m', ms, y5, rfl, s5, nm', hm', hpm⟩ := q5
        rw [hxl, List.take_length] at hpm
        walk_at "rd"
        exact ⟨m', ms, _, _, _, rfl, s4.trans s5, nm', hm', hpm⟩
    · obtain ⟨l, xs, y3, y4, y5, rfl, s2, nl, hl, hp⟩ := q2
      walk_at "rd"
      exact q _ l xs s2 nl hl hp
/-! ### operations -/
/-- an operation: its arity, its table -/
abbrev Opn := Nat × List Nat
def IsOp (H : Hp) (v : V) (o : Opn) : Prop := ∃ a t, v = .ref a ∧ H a = some (.tup [nv o.1, .ref t]) ∧ H t = some (.tup (o.2.map nv))
theorem IsOp.tx {H H' : Hp} {v : V} {o : Opn} (h : IsOp H v o) (t : Tx H H') : IsOp H' v o := let ⟨a, b, e, h1, h2⟩ := h; ⟨a, b, e, t.t h1, t.t h2⟩
def foldB (sz : Nat) (args : List Nat) : Nat := args.foldl (fun a x => a * sz + x) 0
theorem foldB_lt {sz : Nat} : ∀ {args : List Nat}, Lt sz args → foldB sz args < sz ^ args.length := by
  intro args
  have key : ∀ (args : List Nat) (a : Nat), Lt sz args → args.foldl (fun a x => a * sz + x) a < (a + 1) * sz ^ args.length := by
    intro args
    induction args with
    | nil => intro a _; simp
    | cons x r ih =>
      intro a h
      have h1 := ih (a * sz + x) fun y hy => h y (List.mem_cons_of_mem _ hy)
      have hx := h x List.mem_cons_self
      rw [List.foldl_cons, List.length_cons, Nat.pow_succ]
      refine Nat.lt_of_lt_of_le h1 ?_
      have h2 : a * sz + x + 1 ≤ (a + 1) * sz := by rw [Nat.add_mul, Nat.one_mul]; omega
      calc (a * sz + x + 1) * sz ^ r.length ≤ (a + 1) * sz * sz ^ r.length := Nat.mul_le_mul_right _ h2
        _ = (a + 1) * (sz ^ r.length * sz) := by rw [Nat.mul_assoc, Nat.mul_comm sz]
  intro h
  have := key args 0 h
  rwa [Nat.zero_add, Nat.one_mul] at this
def sp_l_value : Sp := fun vs H Q _ => ∃ (sz : Nat) (ov : V) (o : Opn) (ar : Addr) (args : List Nat), vs = [nv sz, ov, .ref ar] ∧ sz ≤ 4 ∧ IsOp H ov o ∧ H ar = some (.lst (args.map nv)) ∧ args.length ≤ 4 ∧ Lt sz args ∧ o.2.length = sz ^ args.length ∧
  ∀ H' y, Same H H' → o.2[foldB sz args]? = some y → Q (nv y) H'
theorem ok_l_value (T : TX K mg) : FnOk P w K mg base CX0 1 T.l_value.f T.l_value.fd ["_law_size", "_law_operation", "_law_arguments"] sp_l_value := by
  refine T.l_value.F.ok sc_l_value (fun vs H Q E h => ?_) (fun cdv A0 outer s H vs Q E hr h => ?_)
  · obtain ⟨_, _, _, _, _, rfl, _⟩ := h
    rfl
  · obtain ⟨sz, ov, o, ar, args, rfl, hsz, ⟨oa, ot, rfl, hoa, hot⟩, har, hal, hlt, hol, q⟩ := h
    refine ⟨_, (pss_cons (ps_set (i := 3) sc_l_value.nd rfl (.inl rfl) pe_int)
      (pss_cons (ps_for PassesOwn.never rfl (pi_sq (pv 2)) (pg_name (i := 4) sc_l_value.nd rfl (Or.inl rfl))
      (pss_one (ps_set (i := 3) sc_l_value.nd rfl (.inl rfl) (pe_op op_add (pe_op op_mul (pv 3) (pv 0)) (pv 4)))))
      (pss_one (ps_ret (pe_ix ix_any (pe_ix ix_any (pv 1) pe_int (fun _ _ => rfl)) (pv 3) (fun _ _ => rfl)))))), ?_⟩
    have small : ∀ i, foldB sz (args.take i) ≤ 256 := fun i => by
      have h1 := foldB_lt (sz := sz) (args := args.take i) fun x hx => hlt x (List.mem_of_mem_take hx)
      have h2 : (args.take i).length ≤ 4 := by rw [List.length_take]; omega
      have h3 : sz ^ (args.take i).length ≤ 4 ^ 4 := Nat.le_trans (Nat.pow_le_pow_left hsz _) (Nat.pow_le_pow_right (by decide) h2)
      omega
    walk_at "rd"
    refine fun J wJ => for_it wJ (fun i σ H' => ∃ y4, σ = [some (nv sz), some (.ref oa), some (.ref ar), some (nv (foldB sz (args.take i))), y4] ∧ Same H H') ⟨_, rfl, Same.refl _⟩ (fun i σ H' _ q => ?_) (fun i x σ H1 H2 hi q1 y => ?_) fun σ H1 q1 => ?_
    · obtain ⟨_, _, sm⟩ := q
      exact sq_l (sm _ _ har)
    · obtain ⟨y4, rfl, sm⟩ := q1
      obtain ⟨s2, hx⟩ := yat_same y
      obtain ⟨a, ha, rfl⟩ := nv_at hx
      have := small i
      walk_at "rd"
      refine ⟨.inl ⟨by omega, by omega⟩, ?_⟩
      walk_at "rd"
      refine ⟨some (nv a), ?_, sm.trans s2⟩
      show [some (nv sz), some (.ref oa), some (.ref ar), some (V.int (((foldB sz (args.take i) : Nat) : Int) * ((sz : Nat) : Int) + ((a : Nat) : Int))), some (nv a)] = _
      have e : (((foldB sz (args.take i) : Nat) : Int) * ((sz : Nat) : Int) + ((a : Nat) : Int)) = ((foldB sz (args.take (i + 1)) : Nat) : Int) := by
        rw [take_snoc ha]
        unfold foldB
        rw [List.foldl_append]
        show _ = (((List.foldl (fun a x => a * sz + x) 0 (args.take i)) * sz + a : Nat) : Int)
        rw [Int.natCast_add, Int.natCast_mul]
      rw [e]
      rfl
    · obtain ⟨y4, rfl, sm⟩ := q1
      rw [List.length_map, List.take_length]
      have hoa1 := sm _ _ hoa
      have hot1 := sm _ _ hot
      have hlen : foldB sz args < o.2.length := by rw [hol]; exact foldB_lt hlt
      have hat := at_nv (nv_get (List.getElem?_eq_getElem hlen))
      walk_at "rd"
      exact q _ _ sm (List.getElem?_eq_getElem hlen)
end
end G
namespace G
open PySem PySem.Spec PyProof.Rows L2
local macro_rules | `(tactic| walk_at "rd") => `(tactic| repeat (first | (refine ⟨_, rfl, ?_⟩) | (refine ⟨_, _, rfl, rfl, ?_⟩) | (refine iteT ?_) | (refine iteF ?_) | (refine ⟨_, "tuple", _, true, rfl, .tup (.inl (by assumption)), kb_tt, ?_⟩) | (refine ⟨_, "tuple", _, true, rfl, .tup (by assumption), kb_tt, ?_⟩) | (refine ⟨false, _, _, rfl, sq_t (by assumption), ?_⟩) | (refine ⟨false, _, _, rfl, sq_r (by assumption), ?_⟩) | (refine ⟨true, _, _, rfl, sq_l (by assumption), ?_⟩) | (refine ⟨false, _, _, _, _, rfl, rfl, sq_t (by assumption), at0, ?_⟩) | (refine ⟨false, _, _, _, _, rfl, rfl, sq_t (by assumption), at1, ?_⟩) | (refine ⟨false, _, _, _, _, rfl, rfl, sq_t (by assumption), (by assumption), ?_⟩) | (refine ⟨false, _, _, _, _, rfl, rfl, sq_r (by assumption), (by assumption), ?_⟩) | (refine ⟨true, _, _, _, _, rfl, rfl, sq_l (by assumption), (by assumption), ?_⟩) | (refine ⟨rfl, ?_⟩)))
/-- what the operation makes of the rows rr, place by place -/
def Car (sz d : Nat) (o : Opn) (rr : List (List Nat)) (row : List Nat) : Prop := row.length = d ∧ ∀ j, j < d → o.2[foldB sz (rr.map fun r => gd r j)]? = some (gd row j)
section
variable {P : Program} {w : World} {K : PySem.W.Frag} {mg : Str → Option Value} {base : Heap}
def sp_l_carried : Sp := fun vs H Q _ => ∃ (sz d : Nat) (ov : V) (o : Opn) (ra : Addr) (rvs : List V) (rr : List (List Nat)), vs = [nv sz, ov, .ref ra] ∧ sz ≤ 4 ∧ IsOp H ov o ∧ H ra = some (.tup rvs) ∧ Rws H rvs rr ∧ rr ≠ [] ∧ rr.length ≤ 4 ∧ d ≤ 4 ∧ (∀ r ∈ rr, r.length = d ∧ Lt sz r) ∧ o.2.length = sz ^ rr.length ∧
  ∀ H' t row, Same H H' → H' t = some (.tup (row.map nv)) → Car sz d o rr row → Q (.ref t) H'
theorem ok_l_carried (T : TX K mg) : FnOk P w K mg base CX0 2 T.l_carried.f T.l_carried.fd ["_law_size", "_law_operation", "_law_rows_here"] sp_l_carried := by
  refine T.l_carried.F.ok sc_l_carried (fun vs H Q E h => ?_) (fun cdv A0 outer s H vs Q E hr h => ?_)
  · obtain ⟨_, _, _, _, _, _, _, rfl, _⟩ := h
    rfl
  · obtain ⟨sz, d, ov, o, ra, rvs, rr, rfl, hsz, hop, hra, hrr, hne, hrl, hd, hrows, hol, q⟩ := h
    refine ⟨_, (pss_one (ps_ret (pe_callTy call_tupL (by rfl) T.n_tuple bb_tuple (pa_cons (pe_lc (own := [("_law_at", 3)]) rfl sc_l_carried.nd (pi_range1 (by rfl) T.n_range (pa_cons (pe_callB call_lenS (by rfl) T.n_len bb_len (pa_cons (pe_ix ix_any (pv 2) pe_int (fun _ _ => rfl)) pa_nil)) pa_nil)) (blkOk_by (N := N_l_carried) (sc := defScope s_l_carried) (by decide +kernel)) (fun _ _ _ _ _ => (pg_name (i := 3) sc_l_carried.nd rfl (Or.inr rfl))) (fun _ _ _ _ _ => pts_nil) (fun _ _ _ _ _ => (pe_call (ok_l_value T) (hr.mono (by decide)) (by rfl) T.l_value.g T.l_value.F.kp T.l_value.b .nil pass0 (pa_cons (pv 0) (pa_cons (pv 1) (pa_cons (pe_lc (own := [("_law_told", 4)]) rfl sc_l_carried.nd (pi_sq (pv 2)) (blkOk_by (by kernel_rfl)) (fun _ _ _ _ _ => (pg_name (i := 4) sc_l_carried.nd rfl (Or.inl rfl))) (fun _ _ _ _ _ => pts_nil) (fun _ _ _ _ _ => (pe_ix ix_any (pv 4) (pv 3) (fun _ _ => rfl)))) pa_nil)))))) pa_nil)))), ?_⟩
    have hl := paired_len hrr
    have hpos := List.length_pos_iff.mpr hne
    obtain ⟨v0, hv0, a0, rfl, ha0⟩ := paired_getR hrr (List.getElem?_eq_getElem hpos)
    have hat0 : atI rvs 0 = some (V.ref a0) := at_nv (j := 0) hv0
    have hd0 := (hrows _ (List.getElem_mem hpos)).1
    walk_at "rd"
    rw [List.length_map, hd0]
    refine ⟨by omega, by omega, fun D0 nD0 => lc_R (walk_nv (n := d)) (fun i acc _ => i ≤ d ∧ ∃ row : List Nat, row.length = i ∧ acc = row.map nv ∧ ∀ j, j < i → o.2[foldB sz (rr.map fun r => gd r j)]? = some (gd row j)) nD0 yfn_s (fun _ _ _ _ _ h => h) (fun i acc _ h => ?_) (fun _ _ => trivial) ⟨Nat.zero_le _, [], rfl, rfl, fun j h => absurd h (Nat.not_lt_zero _)⟩ ?_ ?_⟩
    · obtain ⟨h1, row, h2, h3, _⟩ := h
      rw [h3, List.length_map, h2]
      exact small_lt (m := 1000) (by omega)
    · intro i x H1 H2 acc Q' N hi s1 _ hacc y kq _
      obtain ⟨rfl, rfl⟩ := y
      have hra1 := s1 _ _ hra
      have hrr1 := hrr.tx (same_tx s1)
      refine ⟨rfl, lcY ?_⟩
      walk_at "rd"
      have hargs : (rr.map fun r => gd r i).length = rr.length := by rw [List.length_map]
      refine fun J wJ D1 nD1 => lc_F wJ (fun j => ((rr.map fun r => gd r i).map nv).take j) List.take_zero (fun j _ => take_lt (by rw [List.length_map, hargs]; exact hrl) (by decide) j) nD1 yat_s (fun H' sm => sq_t (sm _ _ hra1)) ?_ ?_
      · intro j x H3 H4 Q2 N2 hj s3 y kq2 _
        obtain ⟨s4, hx⟩ := yat_same y
        obtain ⟨r, hr', a, rfl, ha⟩ := paired_get (hrr1.tx (same_tx (s3.trans s4))) hx
        have hrd := (hrows r (List.mem_of_getElem? hr')).1
        have hat := at_nv (nv_get (gd_get (D := r) (i := i) (by omega)))
        refine ⟨rfl, lcY ?_⟩
        walk_at "rd"
        refine kq2 _ _ (Same.refl _) ?_
        refine take_snoc ?_
        rw [List.getElem?_map, List.getElem?_map, hr'] <;> rfl
      · intro H3 s3 hD1
        have e : ((rr.map fun r => gd r i).map nv).take rvs.length = (rr.map fun r => gd r i).map nv := by
          rw [List.take_of_length_le]
          rw [List.length_map, hargs, hl]
          exact Nat.le_refl _
        rw [e] at hD1
        refine ⟨sz, ov, o, D1, rr.map fun r => gd r i, rfl, hsz, hop.tx (same_tx (s1.trans s3)), hD1, by rw [hargs]; exact hrl, fun x hx => ?_, by rw [hargs]; exact hol, fun H4 y s4 hy => ?_⟩
        · obtain ⟨r, hr', rfl⟩ := List.mem_map.mp hx
          obtain ⟨h1, h2⟩ := hrows r hr'
          exact h2 _ (gd_mem (by omega))
        · obtain ⟨h1, row, h2, h3, h4⟩ := hacc
          refine kq _ _ (s3.trans s4) ⟨hi, row ++ [y], by rw [List.length_append, h2] <;> rfl, by rw [h3, List.map_append] <;> rfl, fun j hj => ?_⟩
          by_cases e : j = i
          · subst e
            rw [hy]
            congr 1
            exact (gd_some (by rw [List.getElem?_append_right (by omega), h2, Nat.sub_self] <;> rfl)).symm
          · rw [h4 j (by omega)]
            congr 1
            unfold gd
            rw [List.getD_eq_getElem?_getD, List.getD_eq_getElem?_getD, List.getElem?_append_left (by omega)]
    · intro H1 acc s1 hD0 hacc
      obtain ⟨_, row, h2, h3, h4⟩ := hacc
      refine ⟨D0, acc, rfl, hD0, fun t nt => ?_⟩
      walk_at "rd"
      refine q _ t row (s1.trans (same_new nt)) ?_ ⟨h2, h4⟩
      rw [upd_same, h3]
/-- the rows that a dict knows -/
structure KOk (sz d : Nat) (kvs : List (List Key × V)) (ks : List (List Nat)) : Prop where
  keys : kvs.map (·.1) = ks.map rKey
  nd : ks.Nodup
  ok : ∀ r ∈ ks, r.length = d ∧ Lt sz r
theorem KOk.len {sz d : Nat} {kvs : List (List Key × V)} {ks : List (List Nat)} (h : KOk sz d kvs ks) : kvs.length = ks.length := by
  have := congrArg List.length h.keys
  rwa [List.length_map, List.length_map] at this
theorem KOk.mem {sz d : Nat} {kvs : List (List Key × V)} {ks : List (List Nat)} (h : KOk sz d kvs ks) {r : List Nat} : rKey r ∈ kvs.map (·.1) ↔ r ∈ ks := by
  rw [h.keys, List.mem_map]
  constructor
  · rintro ⟨a, ha, e⟩
    rw [← rKey_inj e]
    exact ha
  · exact fun hr => ⟨r, hr, rfl⟩
theorem KOk.isSome {sz d : Nat} {kvs : List (List Key × V)} {ks : List (List Nat)} (h : KOk sz d kvs ks) {r : List Nat} : (!(valV kvs (rKey r)).isSome) = true ↔ r ∉ ks := by
  cases e : valV kvs (rKey r) with
  | none => exact ⟨fun _ hr => valV_not e (h.mem.mpr hr), fun _ => rfl⟩
  | some v => exact ⟨fun q => Bool.noConfusion q, fun q => absurd (h.mem.mp (valV_in e)) q⟩
theorem nodup_snocL {W : List (List Nat)} {k : List Nat} (nd : W.Nodup) (h : k ∉ W) : (W ++ [k]).Nodup := by
  rw [List.nodup_append]
  refine ⟨nd, by simp, fun a ha b hb e => ?_⟩
  rw [List.mem_singleton.mp hb] at e
  exact h (e ▸ ha)
theorem KOk.put {sz d : Nat} {kvs : List (List Key × V)} {ks : List (List Nat)} (h : KOk sz d kvs ks) {r : List Nat} {v : V} (hr : r ∉ ks) (ok : r.length = d ∧ Lt sz r) : KOk sz d (putK kvs (rKey r) v) (ks ++ [r]) := by
  have hn : valV kvs (rKey r) = none := by
    cases e : valV kvs (rKey r) with
    | none => rfl
    | some u => exact absurd (h.mem.mp (valV_in e)) hr
  have e : putK kvs (rKey r) v = kvs ++ [(rKey r, v)] := by
    unfold putK
    rw [valV_any, hn]
    exact if_neg Bool.false_ne_true
  rw [e]
  refine ⟨by rw [List.map_append, List.map_append, h.keys] <;> rfl, nodup_snocL h.nd hr, fun s hs => ?_⟩
  rcases List.mem_append.mp hs with q | q
  · exact h.ok s q
  · rw [List.mem_singleton.mp q]; exact ok
theorem nodup_sub_len : ∀ {l Z : List (List Nat)}, l.Nodup → (∀ x ∈ l, x ∈ Z) → l.length ≤ Z.length
  | [], _, _, _ => Nat.zero_le _
  | a :: l, Z, nd, h => by
    obtain ⟨h1, h2⟩ := List.nodup_cons.mp nd
    have ha := h a List.mem_cons_self
    have := nodup_sub_len (l := l) (Z := Z.erase a) h2 fun x hx => by
      have hxa : x ≠ a := fun e => h1 (e ▸ hx)
      exact (List.mem_erase_of_ne hxa).mpr (h x (List.mem_cons_of_mem _ hx))
    rw [List.length_erase_of_mem ha] at this
    have hp := List.length_pos_of_mem ha
    rw [List.length_cons]
    omega
/-- Z is closed under the operation -/
def ClZ (sz d : Nat) (o : Opn) (Z : List (List Nat)) : Prop := ∀ rr row, rr.length = o.1 → (∀ r ∈ rr, r ∈ Z) → Car sz d o rr row → row ∈ Z
structure OpOk (sz : Nat) (o : Opn) : Prop where
  lo : 1 ≤ o.1
  hi : o.1 ≤ 3
  len : o.2.length = sz ^ o.1
  lt : ∀ y ∈ o.2, y < sz
  one : (∀ x, x < sz → o.2[foldB sz (List.replicate o.1 x)]? = some x) ∨ ∀ y ∈ o.2, y = 0
theorem Car.lt {sz d : Nat} {o : Opn} {rr : List (List Nat)} {row : List Nat} (h : Car sz d o rr row) (ok : OpOk sz o) : row.length = d ∧ Lt sz row := by
  refine ⟨h.1, fun x hx => ?_⟩
  obtain ⟨j, hj⟩ := List.mem_iff_getElem?.mp hx
  have hjd : j < d := by rw [← h.1]; exact (List.getElem?_eq_some_iff.mp hj).1
  have := h.2 j hjd
  rw [gd_some hj] at this
  exact ok.lt x (List.mem_of_getElem? this)
/-- members of a tuple of things are things -/
theorem tup_rows {H : Hp} {ys : List V} {rs : List (List Nat)} (h : Rws H ys rs) : ∀ {t : List V}, (∀ x ∈ t, x ∈ ys) → ∃ rr, Rws H t rr ∧ ∀ r ∈ rr, r ∈ rs
  | [], _ => ⟨[], .nil, fun _ h => absurd h List.not_mem_nil⟩
  | x :: t, hx => by
    obtain ⟨rr, h1, h2⟩ := tup_rows h (t := t) fun y hy => hx y (List.mem_cons_of_mem _ hy)
    obtain ⟨i, hi⟩ := List.mem_iff_getElem?.mp (hx x List.mem_cons_self)
    obtain ⟨r, hr, hxr⟩ := paired_get h hi
    refine ⟨r :: rr, .cons hxr h1, fun s hs => ?_⟩
    rcases List.mem_cons.mp hs with e | e
    · rw [e]; exact List.mem_of_getElem? hr
    · exact h2 s e
theorem tupsV_sub {ts : List V} : ∀ {k : Nat} {t : List V}, t ∈ tupsV ts k → ∀ x ∈ t, x ∈ ts
  | 0, t, h => by
    rw [List.mem_singleton.mp h]
    exact fun x hx => absurd hx List.not_mem_nil
  | k + 1, t, h => by
    obtain ⟨u, hu, ht⟩ := List.mem_flatMap.mp h
    obtain ⟨y, hy, rfl⟩ := List.mem_map.mp ht
    intro x hx
    rcases List.mem_append.mp hx with e | e
    · exact tupsV_sub hu x e
    · rw [List.mem_singleton.mp e]; exact hy
end
end G
namespace G
open PySem PySem.Spec PyProof.Rows L2
local macro_rules | `(tactic| walk_at "rd") => `(tactic| repeat (first | (refine ⟨_, rfl, ?_⟩) | (refine ⟨_, _, rfl, rfl, ?_⟩) | (refine iteT ?_) | (refine iteF ?_) | (refine ⟨_, "tuple", _, true, rfl, .tup (.inl (by assumption)), kb_tt, ?_⟩) | (refine ⟨_, "tuple", _, true, rfl, .tup (by assumption), kb_tt, ?_⟩) | (refine ⟨false, _, _, rfl, sq_t (by assumption), ?_⟩) | (refine ⟨false, _, _, rfl, sq_r (by assumption), ?_⟩) | (refine ⟨true, _, _, rfl, sq_l (by assumption), ?_⟩) | (refine ⟨false, _, _, _, _, rfl, rfl, sq_t (by assumption), at0, ?_⟩) | (refine ⟨false, _, _, _, _, rfl, rfl, sq_t (by assumption), at1, ?_⟩) | (refine ⟨false, _, _, _, _, rfl, rfl, sq_t (by assumption), (by assumption), ?_⟩) | (refine ⟨false, _, _, _, _, rfl, rfl, sq_r (by assumption), (by assumption), ?_⟩) | (refine ⟨true, _, _, _, _, rfl, rfl, sq_l (by assumption), (by assumption), ?_⟩) | (refine ⟨rfl, ?_⟩)))
section
variable {P : Program} {w : World} {K : PySem.W.Frag} {mg : Str → Option Value} {base : Heap}
def sp_l_closed : Sp := fun vs H Q _ => ∃ (sz ar : Nat) (ov : V) (o : Opn) (ra : Addr) (rvs : List V) (rows : List (List Nat)), vs = [nv sz, ov, nv ar, .ref ra] ∧ sz ≤ 4 ∧ IsOp H ov o ∧ OpOk sz o ∧ 1 ≤ ar ∧ ar ≤ 4 ∧ H ra = some (.tup rvs) ∧ Rws H rvs rows ∧ rows.Nodup ∧ rows.length ≤ 8 ∧ (∀ r ∈ rows, r.length = ar ∧ Lt sz r) ∧
  ((∃ Z : List (List Nat), Z.length ≤ 8 ∧ ClZ sz ar o Z ∧ ∀ r ∈ rows, r ∈ Z) ∨ ∀ H', Same H H' → Q .non H') ∧
  ∀ H' v R, Same H H' → IsRel H' v R → R.1 = ar → RelOk sz R → Q v H'
theorem ok_l_closed (T : TX K mg) : FnOk P w K mg base CX0 3 T.l_closed.f T.l_closed.fd ["_law_size", "_law_operation", "_law_arity", "_law_rows_here"] sp_l_closed := by
  refine T.l_closed.F.ok sc_l_closed (fun vs H Q E h => ?_) (fun cdv A0 outer s H vs Q E hr h => ?_)
  · obtain ⟨_, _, _, _, _, _, _, rfl, _⟩ := h
    rfl
  · obtain ⟨sz, ar, ov, o, ra, rvs, rows, rfl, hsz, hop, oko, har, har4, hra, hrr, hnd, hrl, hrows, hz, q⟩ := h
    refine ⟨_, (pss_cons (ps_par (i := 4) (j := 5) (by rfl) sc_l_closed.nd rfl rfl (by decide) rfl rfl (pa_cons pe_dnewT (pa_cons (pe_callTy call_listS (by rfl) T.n_list bb_list (pa_cons (pv 3) pa_nil)) pa_nil)) (by rfl))
      (pss_cons (ps_for PassesOwn.never rfl (pi_sq (pv 3)) (pg_name (i := 6) sc_l_closed.nd rfl (Or.inl rfl))
      (pss_one (ps_dput (by exact hu_of hr) (pv 4) (pv 6) pe_bl rfl)))
      (C8.pss_cut (ps_for PassesOwn.never rfl (pi_range1 (by rfl) T.n_range (pa_cons pe_int pa_nil)) (pg_name (i := 7) sc_l_closed.nd rfl (Or.inl rfl))
      (pss_cons (ps_if (pt_cmpR (op_eqE (by exact hr.units0)) (pv 5) (pe_lst pa_nil) (nomark _))
      (pss_one ps_break)
      pss_nil)
      (pss_cons (ps_set (i := 8) sc_l_closed.nd rfl (.inl rfl) (pe_lst pa_nil))
      (pss_cons (ps_for PassesOwn.never rfl (pi_sq (pe_call (ok_l_tuples T) (hr.mono (by decide)) (by rfl) T.l_tuples.g T.l_tuples.F.kp T.l_tuples.b .nil pass0 (pa_cons (pe_callB (cr_sortDR (d := ar) har rfl) (by rfl) T.n_sorted bb_sorted (pa_cons (pv 4) pa_nil)) (pa_cons (pe_ix ix_any (pv 1) pe_int (fun _ _ => rfl)) pa_nil)))) (pg_name (i := 9) sc_l_closed.nd rfl (Or.inl rfl))
      (pss_cons (ps_set (i := 10) sc_l_closed.nd rfl (.inl rfl) (pe_call (ok_l_carried T) (hr.mono (by decide)) (by rfl) T.l_carried.g T.l_carried.F.kp T.l_carried.b .nil pass0 (pa_cons (pv 0) (pa_cons (pv 1) (pa_cons (pv 9) pa_nil)))))
      (pss_one (ps_if (PW.pt (pw_and (pt_cmp (pc_dnotin (by exact hu_of hr) (pv 10) (pv 4))) (pw_and1 (pt_cmpR (op_notInR (by exact hr.units)) (pv 10) (pv 8) (by rfl)))))
      (pss_one (ps_expr (pe_bm PySem.F.plainAttrs_list PySem.F.slot_list_append PySem.F.type_list_append mt_append (pv 8) (pa_cons (pv 10) pa_nil))))
      pss_nil))))
      (pss_cons (ps_for PassesOwn.never rfl (pi_sq (pv 8)) (pg_name (i := 6) sc_l_closed.nd rfl (Or.inl rfl))
      (pss_one (ps_dput (by exact hu_of hr) (pv 4) (pv 6) pe_bl rfl)))
      (pss_cons (ps_if (pt_cmpR op_gt (pe_callB call_len_dT (by rfl) T.n_len bb_len (pa_cons (pv 4) pa_nil)) pe_int (nomark _))
      (pss_one (ps_ret pe_non))
      pss_nil)
      (pss_one (ps_set (i := 5) sc_l_closed.nd rfl (.inl rfl) (pv 8)))))))))
      (pss_one (ps_ret (pe_tup (pa_cons (pv 2) (pa_cons (pe_callTy call_tupL (by rfl) T.n_tuple bb_tuple (pa_cons (pe_callB (cr_sortDR (d := ar) har rfl) (by rfl) T.n_sorted bb_sorted (pa_cons (pv 4) pa_nil)) pa_nil)) pa_nil)))))))), ?_⟩
    have hl := paired_len hrr
    intro dk ndk
    have g1 := same_new (o := .dT []) ndk
    have hdk1 : upd H dk (.dT []) dk = some (.dT []) := upd_same
    generalize upd H dk (.dT []) = H1 at g1 hdk1
    have hra1 := g1 _ _ hra
    walk_at "rd"
    intro fl nfl
    have g2 := g1.trans (same_new (o := .lst rvs) nfl)
    have hdk2 := same_new (o := .lst rvs) nfl _ _ hdk1
    have hfl2 : upd H1 fl (.lst rvs) fl = some (.lst rvs) := upd_same
    have nflH := none_same g1 nfl
    have hfd : fl ≠ dk := ne_some nfl hdk1
    generalize upd H1 fl (.lst rvs) = H2 at g2 hdk2 hfl2
    refine ⟨_, _, rfl, ?_⟩
    have hra2 := g2 _ _ hra
    walk_at "rd"
    refine fun J wJ => for_it wJ (fun i σ H' => ∃ kvs y6, σ = [some (nv sz), some ov, some (nv ar), some (.ref ra), some (.ref dk), some (.ref fl), y6, none, none, none, none] ∧ Same H H' ∧ H' dk = some (.dT kvs) ∧ H' fl = some (.lst rvs) ∧ KOk sz ar kvs (rows.take i)) ?_ (fun i σ H' _ q => ?_) (fun i x σ H3 H4 hi q3 y => ?_) fun σ H3 q3 => ?_
    · exact ⟨[], _, rfl, g2, hdk2, hfl2, by rw [List.take_zero]; exact ⟨rfl, .nil, fun r h => absurd h List.not_mem_nil⟩⟩
    · obtain ⟨_, _, _, sm, _⟩ := q
      exact sq_t (sm _ _ hra)
    · obtain ⟨kvs, y6, rfl, sm, hdk, hfl, kok⟩ := q3
      obtain ⟨s4, hx⟩ := yat_same y
      have sm4 := sm.trans s4
      obtain ⟨r, hr', a, rfl, ha⟩ := paired_get (hrr.tx (same_tx sm4)) hx
      have hdk4 := s4 _ _ hdk
      have hni : r ∉ rows.take i := fun hm => by
        obtain ⟨j, hj⟩ := List.mem_iff_getElem?.mp hm
        have hjl := (List.getElem?_eq_some_iff.mp hj).1
        rw [List.length_take] at hjl
        have hji : j < i := by omega
        rw [List.getElem?_take_of_lt hji] at hj
        have := (List.getElem?_inj (by omega) hnd).mp (hj.trans hr'.symm)
        omega
      walk_at "rd"
      refine ⟨dk, _, rfl, .inr ⟨kvs, rKey r, a, hdk4, rfl, by rw [rKey_nv]; exact ha, small_lt (m := 1000) (by rw [kok.len, List.length_take]; omega), rfl⟩, ?_⟩
      refine ⟨_, _, rfl, same_upd sm4 ndk, upd_same, by rw [upd_ne hfd]; exact s4 _ _ hfl, ?_⟩
      rw [take_snoc hr']
      exact kok.put hni (hrows r (List.mem_of_getElem? hr'))
    · obtain ⟨kvs0, y6, rfl, sm, hdk, hfl, kok⟩ := q3
      rw [hl, List.take_length] at kok
      obtain ⟨Mid, hMid⟩ : ∃ Mid : L2.St → Hp → Prop, Mid = fun σ H' => ∃ kvs ks y5 y6 y7 y8 y9 y10, σ = [some (nv sz), some ov, some (nv ar), some (.ref ra), some (.ref dk), y5, y6, y7, y8, y9, y10] ∧ Same H H' ∧ H' dk = some (.dT kvs) ∧ KOk sz ar kvs ks ∧ ks.length ≤ 8 := ⟨_, rfl⟩
      refine ⟨Mid, ?_, fun σ H5 q5 => ?_⟩
      · walk_at "rd"
        refine ⟨by decide, by decide, for_it (walk_nv (n := 10)) (fun i σ H' => ∃ kvs ks fl fv y6 y7 y8 y9 y10, σ = [some (nv sz), some ov, some (nv ar), some (.ref ra), some (.ref dk), some (.ref fl), y6, y7, y8, y9, y10] ∧ Same H H' ∧ H' dk = some (.dT kvs) ∧ H' fl = some (.lst fv) ∧ KOk sz ar kvs ks ∧ ks.length ≤ 8 ∧ ∀ Z, ClZ sz ar o Z → (∀ r ∈ rows, r ∈ Z) → ∀ r ∈ ks, r ∈ Z) ?_ (fun _ _ _ _ _ => trivial) (fun i x σ H4 H5 hi q4 y => ?_) fun σ H4 q4 => ?_⟩
        · exact ⟨kvs0, rows, fl, rvs, _, _, _, _, _, rfl, sm, hdk, hfl, kok, hrl, fun Z _ h => h⟩
        · clear hdk hfl kok sm
          obtain ⟨rfl, rfl⟩ := y
          obtain ⟨kvs, ks, fl, fv, y6, y7, y8, y9, y10, rfl, sm, hdk, hfl, kok, hkl, hZ⟩ := q4
          walk_at "rd"
          refine ⟨sz_le (by decide), fun e ne => ?_⟩
          have g6 := same_new (o := .lst []) ne
          have he6 : upd H5 e (.lst []) e = some (.lst []) := upd_same
          have sm6 := sm.trans g6
          have hdk6 := g6 _ _ hdk
          have hfl6 := g6 _ _ hfl
          generalize upd H5 e (.lst []) = H6 at g6 he6 sm6 hdk6 hfl6
          refine ⟨true, fl, e, fv, rfl, rfl, sq_l hfl6, sq_l he6, ?_⟩
          walk_at "rd"
          refine ite_of (p := fv = []) (by cases fv <;> simp) (fun hfe => ?_) fun hfe => ?_
          · show Mid _ _
            rw [hMid]
            exact ⟨kvs, ks, _, _, _, _, _, _, rfl, sm6, hdk6, kok, hkl⟩
          · walk_at "rd"
            refine ⟨sz_le (by decide), fun lt nlt => ?_⟩
            have g7 := same_new (o := .lst []) nlt
            have hlt7 : upd H6 lt (.lst []) lt = some (.lst []) := upd_same
            have sm7 := sm6.trans g7
            have hdk7 := g7 _ _ hdk6
            have nltH := none_same sm6 nlt
            have hld : lt ≠ dk := ne_some nlt hdk6
            generalize upd H6 lt (.lst []) = H7 at g7 hlt7 sm7 hdk7
            walk_at "rd"
            refine ⟨dk, kvs, ks, rfl, hdk7, kok.keys, by omega, kok.nd, fun r hr => ⟨(kok.ok r hr).1, fun x hx => by have := (kok.ok r hr).2 x hx; omega⟩, fun ys rs' sl hpm _ hys nsl => ?_⟩
            have g8 := same_new (o := .lst ys) nsl
            have hsl8 : upd H7 sl (.lst ys) sl = some (.lst ys) := upd_same
            have hys8 := hys.tx (same_tx g8)
            have sm8 := sm7.trans g8
            have hdk8 := g8 _ _ hdk7
            have hlt8 := g8 _ _ hlt7
            generalize upd H7 sl (.lst ys) = H8 at g8 hsl8 hys8 sm8 hdk8 hlt8
            obtain ⟨oa, ot, rfl, hoa, hot⟩ := id hop
            have hoa8 := sm8 _ _ hoa
            have hyl := paired_len hys8
            have hpl := hpm.length_eq
            have ho3 := oko.hi
            have ho1 := oko.lo
            walk_at "rd"
            refine ⟨sl, o.1, true, ys, rfl, hsl8, by omega, by omega, fun H9 tl xs s9 ntl htl hxs => ?_⟩
            have hdk9 := s9 _ _ hdk8
            have hlt9 := s9 _ _ hlt8
            have sm9 := sm8.trans s9
            have hys9 := hys8.tx (same_tx s9)
            have hxl := paired_len hxs
            have hxf : xs.length ≤ 10000 := by
              rw [hxl]
              exact tupsV_few (by omega) (by omega)
            have htd : tl ≠ lt := ne_some ntl hlt8
            refine ⟨true, tl, xs, rfl, htl, fun J2 w2 => for_it w2 (fun j σ H' => ∃ lv lr y9 y10, σ = [some (nv sz), some (.ref oa), some (nv ar), some (.ref ra), some (.ref dk), some (.ref fl), y6, some (nv i), some (.ref lt), y9, y10] ∧ Kp lt H9 H' ∧ H' lt = some (.lst lv) ∧ Rws H' lv lr ∧ lr.length ≤ j ∧ lr.Nodup ∧ (∀ r ∈ lr, r ∉ ks ∧ r.length = ar ∧ Lt sz r) ∧ ∀ Z, ClZ sz ar o Z → (∀ r ∈ rows, r ∈ Z) → ∀ r ∈ lr, r ∈ Z) ?_ (fun j σ H' _ q => ?_) (fun j x σ H10 H11 hj q10 y => ?_) fun σ H10 q10 => ?_⟩
            · exact ⟨[], [], _, _, rfl, Kp.refl _ _, hlt9, .nil, Nat.le_refl _, .nil, fun r h => absurd h List.not_mem_nil, fun _ _ _ r h => absurd h List.not_mem_nil⟩
            · obtain ⟨_, _, _, _, _, kp, _⟩ := q
              exact sq_l (kp _ _ htd htl)
            · obtain ⟨lv, lr, y9, y10, rfl, kp, hlt', hlr, hlrl, hlnd, hlok, hlZ⟩ := q10
              obtain ⟨s11, hx⟩ := yat_same y
              have kp11 := kp.trans (same_kp s11)
              have sm11 : Same H H11 := same_kpT sm9 kp11 nltH
              obtain ⟨tt, htt, htx⟩ := paired_get hxs hx
              obtain ⟨ta, rfl, hta⟩ := htx
              have htm := List.mem_of_getElem? htt
              have ntl : ta ≠ lt := fun e => by rw [e, hlt9] at hta; cases hta
              have hta11 := kp11 _ _ ntl hta
              have tx11 : Tx H9 H11 := fun b o t e => by
                refine kp11 b o (fun q => ?_) e
                rw [q, hlt9] at e
                cases e
                rcases t with ⟨_, z⟩ | ⟨_, _, z⟩
                · cases z
                · cases z
              obtain ⟨rr, hrr11, hrs⟩ := tup_rows (hys9.tx tx11) (tupsV_sub htm)
              have hrrl : rr.length = o.1 := by rw [← paired_len hrr11]; exact tupsV_mem_len htm
              have hrk : ∀ r ∈ rr, r ∈ ks := fun r hr => hpm.mem_iff.mp (hrs r hr)
              have hdk11 := kp11 _ _ hld.symm hdk9
              have hlt11 := s11 _ _ hlt'
              walk_at "rd"
              refine ⟨sz, ar, _, o, ta, tt, rr, rfl, hsz, hop.tx (same_tx sm11), hta11, hrr11, fun e => ?_, by omega, har4, fun r hr => kok.ok r (hrk r hr), by rw [hrrl]; exact oko.len, fun H12 mt row s12 hmt hcar => ?_⟩
              · rw [e] at hrrl
                simp at hrrl
                omega
              · have hdk12 := s12 _ _ hdk11
                have hlt12 := s12 _ _ hlt11
                have hlr12 := hlr.tx (same_tx (s11.trans s12))
                have hrowok := hcar.lt oko
                have hlv := paired_len hlr12
                walk_at "rd"
                refine ⟨dk, valV kvs (rKey row), rfl, .inr ⟨kvs, rKey row, mt, .inl hdk12, rfl, by rw [rKey_nv]; exact hmt, rfl⟩, ?_⟩
                walk_at "rd"
                refine ite_of kok.isSome (fun hnk => ?_) fun hnk => ?_
                · walk_at "rd"
                  refine ⟨true, lt, lv, row, lr, rfl, ⟨mt, rfl, hmt⟩, hlt12, hlr12, ?_⟩
                  rw [if_pos rfl]
                  walk_at "rd"
                  refine ite_of (p := row ∉ lr) (by simp) (fun hnl => ?_) fun hnl => ?_
                  · walk_at "rd"
                    refine ⟨.inl ⟨rfl, _, SqL.of hlt12⟩, ?_⟩
                    walk_at "rd"
                    refine ⟨lt, lv, _, rfl, rfl, hlt12, small_lt (m := 20000) (by omega), ?_⟩
                    have hmtl : mt ≠ lt := fun e => by rw [e, hlt12] at hmt; cases hmt
                    refine ⟨lv ++ [.ref mt], lr ++ [row], _, _, rfl, (kp11.trans (same_kp s12)).trans kp_upd, upd_same, paired_snoc ⟨mt, rfl, by rw [upd_ne hmtl]; exact hmt⟩ (hlr12.tx (tx_lst hlt12)), by rw [List.length_append, List.length_singleton]; omega, nodup_snocL hlnd hnl, fun r hr => ?_, fun Z hC hr0 r hr => ?_⟩
                    · rcases List.mem_append.mp hr with e | e
                      · exact hlok r e
                      · rw [List.mem_singleton.mp e]; exact ⟨hnk, hrowok⟩
                    · rcases List.mem_append.mp hr with e | e
                      · exact hlZ Z hC hr0 r e
                      · rw [List.mem_singleton.mp e]
                        exact hC rr row hrrl (fun r hr => hZ Z hC hr0 r (hrk r hr)) hcar
                  · exact ⟨lv, lr, _, _, rfl, kp11.trans (same_kp s12), hlt12, hlr12, Nat.le_succ_of_le hlrl, hlnd, hlok, hlZ⟩
                · exact ⟨lv, lr, _, _, rfl, kp11.trans (same_kp s12), hlt12, hlr12, Nat.le_succ_of_le hlrl, hlnd, hlok, hlZ⟩
            · obtain ⟨lv, lr, y9, y10, rfl, kp, hlt', hlr, hlrl, hlnd, hlok, hlZ⟩ := q10
              have sm10 : Same H H10 := same_kpT sm9 kp nltH
              have hdk10 := kp _ _ hld.symm hdk9
              have hlv := paired_len hlr
              walk_at "rd"
              refine fun J3 w3 => for_it w3 (fun j σ H' => ∃ kv2 y6, σ = [some (nv sz), some (.ref oa), some (nv ar), some (.ref ra), some (.ref dk), some (.ref fl), y6, some (nv i), some (.ref lt), y9, y10] ∧ Same H H' ∧ Kp dk H10 H' ∧ H' dk = some (.dT kv2) ∧ KOk sz ar kv2 (ks ++ lr.take j)) ?_ (fun j σ H' _ q => ?_) (fun j x σ H11 H12 hj q11 y => ?_) fun σ H11 q11 => ?_
              · exact ⟨kvs, _, rfl, sm10, Kp.refl _ _, hdk10, by rw [List.take_zero, List.append_nil]; exact kok⟩
              · obtain ⟨_, _, _, _, kp2, _⟩ := q
                exact sq_l (kp2 _ _ hld hlt')
              · obtain ⟨kv2, y6, rfl, sm11, kp2, hdk11, kok2⟩ := q11
                obtain ⟨s12, hx⟩ := yat_same y
                obtain ⟨r, hr', a, rfl, ha⟩ := paired_get hlr hx
                have had : a ≠ dk := fun e => by rw [e, hdk10] at ha; cases ha
                have kp12 := kp2.trans (same_kp s12)
                have ha12 := kp12 _ _ had ha
                have hdk12 := s12 _ _ hdk11
                obtain ⟨hrk, hrok⟩ := hlok r (List.mem_of_getElem? hr')
                have hni : r ∉ ks ++ lr.take j := fun hm => by
                  rcases List.mem_append.mp hm with e | e
                  · exact hrk e
                  · obtain ⟨l, hl'⟩ := List.mem_iff_getElem?.mp e
                    have hjl := (List.getElem?_eq_some_iff.mp hl').1
                    rw [List.length_take] at hjl
                    have hji : l < j := by omega
                    rw [List.getElem?_take_of_lt hji] at hl'
                    have := (List.getElem?_inj (by omega) hlnd).mp (hl'.trans hr'.symm)
                    omega
                walk_at "rd"
                refine ⟨dk, _, rfl, .inr ⟨kv2, rKey r, a, hdk12, rfl, by rw [rKey_nv]; exact ha12, small_lt (m := 20000) (by rw [kok2.len, List.length_append, List.length_take]; omega), rfl⟩, ?_⟩
                refine ⟨_, _, rfl, same_upd (sm11.trans s12) ndk, kp12.trans kp_upd, upd_same, ?_⟩
                rw [take_snoc hr', ← List.append_assoc]
                exact kok2.put hni hrok
              · obtain ⟨kv2, y6, rfl, sm11, kp2, hdk11, kok2⟩ := q11
                rw [hlv, List.take_length] at kok2
                have hZ2 : ∀ Z, ClZ sz ar o Z → (∀ r ∈ rows, r ∈ Z) → ∀ r ∈ ks ++ lr, r ∈ Z := fun Z hC h0 r hr => by
                  rcases List.mem_append.mp hr with e | e
                  · exact hZ Z hC h0 r e
                  · exact hlZ Z hC h0 r e
                walk_at "rd"
                refine ⟨dk, kv2, rfl, hdk11, ?_⟩
                walk_at "rd"
                refine ite_of (p := 8 < (ks ++ lr).length) (by rw [kok2.len]; simp; omega) (fun h8 => ?_) fun h8 => ?_
                · walk_at "rd"
                  rcases hz with ⟨Z, hZl, hC, h0⟩ | hz
                  · have := nodup_sub_len kok2.nd (hZ2 Z hC h0)
                    omega
                  · exact hz _ sm11
                · walk_at "rd"
                  exact ⟨kv2, ks ++ lr, lt, lv, _, _, _, _, _, rfl, sm11, hdk11, kp2 _ _ hld hlt', kok2, by omega, hZ2⟩
        · obtain ⟨kvs, ks, fl, fv, y6, y7, y8, y9, y10, rfl, sm, hdk, hfl, kok, hkl, hZ⟩ := q4
          show Mid _ _
          rw [hMid]
          exact ⟨kvs, ks, _, _, _, _, _, _, rfl, sm, hdk, kok, hkl⟩
      · clear hdk hfl kok sm
        rw [hMid] at q5
        obtain ⟨kvs, ks, y5, y6, y7, y8, y9, y10, rfl, sm, hdk, kok, hkl⟩ := q5
        walk_at "rd"
        refine ⟨dk, kvs, ks, rfl, hdk, kok.keys, by omega, kok.nd, fun r hr => ⟨(kok.ok r hr).1, fun x hx => by have := (kok.ok r hr).2 x hx; omega⟩, fun ys rs' sl hpm hasc hys nsl => ?_⟩
        refine ⟨sl, ys, rfl, upd_same, fun t nt => ?_⟩
        have s1 := (same_new (o := .lst ys) nsl).trans (same_new (o := .tup ys) nt)
        refine ⟨sz_le (by show 2 ≤ 1000000; decide), fun v nvv => ?_⟩
        have s2 := s1.trans (same_new (o := .tup [nv ar, .ref t]) nvv)
        refine q _ (.ref v) (ar, rs') (sm.trans s2) ⟨v, t, ys, rfl, upd_same, same_new nvv _ _ upd_same, hys.tx (same_tx s2)⟩ rfl ⟨har, har4, ?_, hasc, fun r hr => kok.ok r (hpm.mem_iff.mp hr)⟩
        rw [hpm.length_eq]
        omega
end
end G
namespace G
open PySem PySem.Spec PyProof.Rows L2
local macro_rules | `(tactic| walk_at "rd") => `(tactic| repeat (first | (refine ⟨_, rfl, ?_⟩) | (refine ⟨_, _, rfl, rfl, ?_⟩) | (refine iteT ?_) | (refine iteF ?_) | (refine ⟨_, "tuple", _, true, rfl, .tup (.inl (by assumption)), kb_tt, ?_⟩) | (refine ⟨_, "tuple", _, true, rfl, .tup (by assumption), kb_tt, ?_⟩) | (refine ⟨false, _, _, rfl, sq_t (by assumption), ?_⟩) | (refine ⟨false, _, _, rfl, sq_r (by assumption), ?_⟩) | (refine ⟨true, _, _, rfl, sq_l (by assumption), ?_⟩) | (refine ⟨false, _, _, _, _, rfl, rfl, sq_t (by assumption), at0, ?_⟩) | (refine ⟨false, _, _, _, _, rfl, rfl, sq_t (by assumption), at1, ?_⟩) | (refine ⟨false, _, _, _, _, rfl, rfl, sq_t (by assumption), (by assumption), ?_⟩) | (refine ⟨false, _, _, _, _, rfl, rfl, sq_r (by assumption), (by assumption), ?_⟩) | (refine ⟨true, _, _, _, _, rfl, rfl, sq_l (by assumption), (by assumption), ?_⟩) | (refine ⟨rfl, ?_⟩)))
/-- y may stand in a table at the row r -/
def Ent (sz : Nat) (r : List Nat) (y : Nat) : Prop := y < sz ∧ ∀ x, (∀ z ∈ r, z = x) → y = x
theorem ent_mem {sz : Nat} {r : List Nat} {y : Nat} (hr : Lt sz r) (h : y ∈ r) : Ent sz r y := ⟨hr y h, fun x hx => hx y h⟩
def TabOk (sz : Nat) (rows : List (List Nat)) (i : Nat) (acc : List V) : Prop := ∃ tb : List Nat, tb.length = i ∧ acc = tb.map nv ∧ ∀ j r, j < i → rows[j]? = some r → Ent sz r (gd tb j)
theorem TabOk.nil {sz : Nat} {rows : List (List Nat)} : TabOk sz rows 0 [] := ⟨[], rfl, rfl, fun j r h => absurd h (Nat.not_lt_zero _)⟩
theorem TabOk.snoc {sz : Nat} {rows : List (List Nat)} {i : Nat} {acc : List V} {r : List Nat} {y : Nat} (h : TabOk sz rows i acc) (hr : rows[i]? = some r) (e : Ent sz r y) : TabOk sz rows (i + 1) (acc ++ [nv y]) := by
  obtain ⟨tb, h1, h2, h3⟩ := h
  refine ⟨tb ++ [y], by rw [List.length_append, h1] <;> rfl, by rw [h2, List.map_append] <;> rfl, fun j s hj hs => ?_⟩
  by_cases q : j = i
  · subst q
    rw [hr] at hs
    rw [← Option.some.inj hs, gd_some (by rw [List.getElem?_append_right (by omega), h1, Nat.sub_self] <;> rfl)]
    exact e
  · have := h3 j s (by omega) hs
    unfold gd at this ⊢
    rw [List.getD_eq_getElem?_getD] at this ⊢
    rwa [List.getElem?_append_left (by omega)]
theorem TabOk.op {sz k : Nat} {acc : List V} (h : TabOk sz (rowsN sz k) (rowsN sz k).length acc) (h1 : 1 ≤ k) (h3 : k ≤ 3) (hsz : sz ≤ 3) : ∃ tb, acc = tb.map nv ∧ OpOk sz (k, tb) := by
  obtain ⟨tb, e1, e2, e3⟩ := h
  have hat : ∀ sz < 4, ∀ k < 4, ∀ x < sz, (rowsN sz k)[foldB sz (List.replicate k x)]? = some (List.replicate k x) := by decide +kernel
  refine ⟨tb, e2, h1, h3, by rw [e1, rowsN_len], fun y hy => ?_, .inl fun x hx => ?_⟩
  · obtain ⟨j, hj⟩ := List.mem_iff_getElem?.mp hy
    have hjl : j < tb.length := (List.getElem?_eq_some_iff.mp hj).1
    have := (e3 j _ (by omega) (List.getElem?_eq_getElem (by omega))).1
    rwa [gd_some hj] at this
  · have h := hat sz (by omega) k (by omega) x hx
    have hl := (List.getElem?_eq_some_iff.mp h).1
    have := (e3 _ _ hl h).2 x fun z hz => (List.mem_replicate.mp hz).2
    show tb[foldB sz (List.replicate k x)]? = some x
    rw [gd_get (by omega), this]
theorem zero_op {sz : Nat} (h : 1 ≤ sz) : OpOk sz (1, List.replicate sz 0) :=
  ⟨Nat.le_refl _, by show 1 ≤ 3; decide, by rw [List.length_replicate, Nat.pow_one], fun y hy => by rw [(List.mem_replicate.mp hy).2]; omega, .inr fun y hy => (List.mem_replicate.mp hy).2⟩
theorem repT0 (n : Nat) : (List.replicate ((n : Nat) : Int).toNat [V.int 0]).flatten = (List.replicate n 0).map nv := rep0 n
theorem zs_mem {r : List Nat} {m : Int} (h : m ∈ zs r) : ∃ y, y ∈ r ∧ V.int m = nv y := by
  obtain ⟨y, hy, rfl⟩ := List.mem_map.mp h
  exact ⟨y, hy, rfl⟩
theorem TabOk.len {sz : Nat} {rows : List (List Nat)} {i : Nat} {acc : List V} (h : TabOk sz rows i acc) : acc.length = i := by
  obtain ⟨tb, e1, e2, _⟩ := h
  rw [e2, List.length_map, e1]
/-- the operations found so far -/
def OpsI (H0 H : Hp) (sz : Nat) (fl : Addr) (j : Nat) : Prop := Same H0 H ∧ H0 fl = none ∧ ∃ xs ops, H fl = some (.lst xs) ∧ Paired (IsOp H) xs ops ∧ (∀ o ∈ ops, OpOk sz o) ∧ ops.length = j
theorem OpsI.same {H0 H H' : Hp} {sz : Nat} {fl : Addr} {j : Nat} (h : OpsI H0 H sz fl j) (s : Same H H') : OpsI H0 H' sz fl j := by
  obtain ⟨h1, h2, xs, ops, h3, h4, h5, h6⟩ := h
  exact ⟨h1.trans s, h2, xs, ops, s _ _ h3, paired_imp (fun _ _ q => q.tx (same_tx s)) h4, h5, h6⟩
/-- a list of rows stands at t, and not at fl -/
def RowsI (H : Hp) (fl t : Addr) (rows : List (List Nat)) : Prop := t ≠ fl ∧ ∃ xs, H t = some (.lst xs) ∧ Rws H xs rows
theorem RowsI.same {H H' : Hp} {fl t : Addr} {rows : List (List Nat)} (h : RowsI H fl t rows) (s : Same H H') : RowsI H' fl t rows := by
  obtain ⟨h1, xs, h2, h3⟩ := h
  exact ⟨h1, xs, s _ _ h2, h3.tx (same_tx s)⟩
theorem OpsI.add {H0 H : Hp} {sz : Nat} {fl o t : Addr} {j k : Nat} {tb : List Nat} (h : OpsI H0 H sz fl j) (ho : H o = some (.tup [nv k, .ref t])) (ht : H t = some (.tup (tb.map nv))) (ok : OpOk sz (k, tb)) (hj : j ≤ 6) :
    ∃ xs, H fl = some (.lst xs) ∧ xs.length < sizeLine ∧ OpsI H0 (upd H fl (.lst (xs ++ [.ref o]))) sz fl (j + 1) := by
  obtain ⟨h1, h2, xs, ops, h3, h4, h5, h6⟩ := h
  have hl := paired_len h4
  have tx := tx_lst (o := .lst (xs ++ [.ref o])) h3
  refine ⟨xs, h3, small_lt (m := 1000) (by omega), same_upd h1 h2, h2, xs ++ [.ref o], ops ++ [(k, tb)], upd_same, paired_snoc ⟨o, t, rfl, tx.t ho, tx.t ht⟩ (paired_imp (fun _ _ q => q.tx tx) h4), fun p hp => ?_, by rw [List.length_append, h6] <;> rfl⟩
  rcases List.mem_append.mp hp with e | e
  · exact h5 p e
  · rw [List.mem_singleton.mp e]; exact ok
theorem RowsI.upd {H : Hp} {fl t : Addr} {rows : List (List Nat)} {xs ys : List V} (h : RowsI H fl t rows) (hf : H fl = some (.lst xs)) : RowsI (upd H fl (.lst ys)) fl t rows := by
  obtain ⟨h1, zs, h2, h3⟩ := h
  exact ⟨h1, zs, by rw [upd_ne h1]; exact h2, h3.tx (tx_lst hf)⟩
section
variable {P : Program} {w : World} {K : PySem.W.Frag} {mg : Str → Option Value} {base : Heap}
def sp_l_named : Sp := fun vs H Q _ => ∃ (sz : Nat), vs = [nv sz] ∧ 2 ≤ sz ∧ sz ≤ 3 ∧ ∀ H' l xs (ops : List Opn), Same H H' → H l = none → H' l = some (.lst xs) → Paired (IsOp H') xs ops → (∀ o ∈ ops, OpOk sz o) → ops.length = 6 → Q (.ref l) H'
theorem ok_l_named (T : TX K mg) : FnOk P w K mg base CX0 2 T.l_named.f T.l_named.fd ["_law_size"] sp_l_named := by
  refine T.l_named.F.ok sc_l_named (fun vs H Q E h => ?_) (fun cdv A0 outer s H vs Q E hr h => ?_)
  · obtain ⟨_, rfl, _⟩ := h
    rfl
  · obtain ⟨sz, rfl, h2, h3, q⟩ := h
    refine ⟨_, (C8.pss_cut (ps_set (i := 1) sc_l_named.nd rfl (.inl rfl) (pe_lst (pa_cons (pe_tup (pa_cons pe_int (pa_cons (pe_callTy call_tupL (by rfl) T.n_tuple bb_tuple (pa_cons (pe_lc (own := [("_law_told", 3)]) rfl sc_l_named.nd (pi_sq (pe_call (ok_l_rows T) (hr.mono (by decide)) (by rfl) T.l_rows.g T.l_rows.F.kp T.l_rows.b .nil pass0 (pa_cons (pv 0) (pa_cons pe_int pa_nil)))) (blkOk_by (N := N_l_named) (sc := defScope s_l_named) (by decide +kernel)) (fun _ _ _ _ _ => (pg_name (i := 3) sc_l_named.nd rfl (Or.inl rfl))) (fun _ _ _ _ _ => pts_nil) (fun _ _ _ _ _ => (pe_callB (cr_minT rfl (by exact hr.units)) (by rfl) T.n_min bb_min (pa_cons (pv 3) pa_nil)))) pa_nil)) pa_nil))) pa_nil)))
      (C8.pss_cut (ps_expr (pe_bm PySem.F.plainAttrs_list PySem.F.slot_list_append PySem.F.type_list_append mt_append (pv 1) (pa_cons (pe_tup (pa_cons pe_int (pa_cons (pe_callTy call_tupL (by rfl) T.n_tuple bb_tuple (pa_cons (pe_lc (own := [("_law_told", 3)]) rfl sc_l_named.nd (pi_sq (pe_call (ok_l_rows T) (hr.mono (by decide)) (by rfl) T.l_rows.g T.l_rows.F.kp T.l_rows.b .nil pass0 (pa_cons (pv 0) (pa_cons pe_int pa_nil)))) (blkOk_by (N := N_l_named) (sc := defScope s_l_named) (by decide +kernel)) (fun _ _ _ _ _ => (pg_name (i := 3) sc_l_named.nd rfl (Or.inl rfl))) (fun _ _ _ _ _ => pts_nil) (fun _ _ _ _ _ => (pe_callB (cr_maxT rfl (by exact hr.units)) (by rfl) T.n_max bb_max (pa_cons (pv 3) pa_nil)))) pa_nil)) pa_nil))) pa_nil)))
      (C8.pss_cut (ps_set (i := 2) sc_l_named.nd rfl (.inl rfl) (pe_call (ok_l_rows T) (hr.mono (by decide)) (by rfl) T.l_rows.g T.l_rows.F.kp T.l_rows.b .nil pass0 (pa_cons (pv 0) (pa_cons pe_int pa_nil))))
      (C8.pss_cut (ps_expr (pe_bm PySem.F.plainAttrs_list PySem.F.slot_list_append PySem.F.type_list_append mt_append (pv 1) (pa_cons (pe_tup (pa_cons pe_int (pa_cons (pe_callTy call_tupL (by rfl) T.n_tuple bb_tuple (pa_cons (pe_lc (own := [("_law_told", 3)]) rfl sc_l_named.nd (pi_sq (pv 2)) (blkOk_by (N := N_l_named) (sc := defScope s_l_named) (by decide +kernel)) (fun _ _ _ _ _ => (pg_name (i := 3) sc_l_named.nd rfl (Or.inl rfl))) (fun _ _ _ _ _ => pts_nil) (fun _ _ _ _ _ => (pe_ix ix_any (pe_callB cr_sortTI (by rfl) T.n_sorted bb_sorted (pa_cons (pv 3) pa_nil)) pe_int (fun _ _ => rfl)))) pa_nil)) pa_nil))) pa_nil)))
      (C8.pss_cut (ps_expr (pe_bm PySem.F.plainAttrs_list PySem.F.slot_list_append PySem.F.type_list_append mt_append (pv 1) (pa_cons (pe_tup (pa_cons pe_int (pa_cons (pe_callTy call_tupL (by rfl) T.n_tuple bb_tuple (pa_cons (pe_lc (own := [("_law_told", 3)]) rfl sc_l_named.nd (pi_sq (pv 2)) (blkOk_by (N := N_l_named) (sc := defScope s_l_named) (by decide +kernel)) (fun _ _ _ _ _ => (pg_name (i := 3) sc_l_named.nd rfl (Or.inl rfl))) (fun _ _ _ _ _ => pts_nil) (fun _ _ _ _ _ => (pe_op op_mod (pe_callTy call_int1 (by rfl) T.n_int bb_int (pa_cons (pe_op op_add (pe_op op_sub (pe_ix ix_any (pv 3) pe_int (fun _ _ => rfl)) (pe_ix ix_any (pv 3) pe_int (fun _ _ => rfl))) (pe_ix ix_any (pv 3) pe_int (fun _ _ => rfl))) pa_nil)) (pv 0)))) pa_nil)) pa_nil))) pa_nil)))
      (C8.pss_cut (ps_expr (pe_bm PySem.F.plainAttrs_list PySem.F.slot_list_append PySem.F.type_list_append mt_append (pv 1) (pa_cons (pe_tup (pa_cons pe_int (pa_cons (pe_op op_repT (pe_tup (pa_cons pe_int pa_nil)) (pv 0)) pa_nil))) pa_nil)))
      (pss_one (ps_ret (pe_op op_cat (pv 1) (pe_lst (pa_cons (pe_tup (pa_cons pe_int (pa_cons (pe_callTy call_tupL (by rfl) T.n_tuple bb_tuple (pa_cons (pe_lc (own := [("_law_told", 3)]) rfl sc_l_named.nd (pi_sq (pv 2)) (blkOk_by (N := N_l_named) (sc := defScope s_l_named) (by decide +kernel)) (fun _ _ _ _ _ => (pg_name (i := 3) sc_l_named.nd rfl (Or.inl rfl))) (fun _ _ _ _ _ => pts_nil) (fun _ _ _ _ _ => (pe_ifExp (pt_cmpR op_eq (pe_ix ix_any (pv 3) pe_int (fun _ _ => rfl)) (pe_ix ix_any (pv 3) pe_int (fun _ _ => rfl)) (nomark _)) (pe_ix ix_any (pv 3) pe_int (fun _ _ => rfl)) (pe_ix ix_any (pv 3) pe_int (fun _ _ => rfl))))) pa_nil)) pa_nil))) pa_nil))))))))))), ?_⟩
    have row3 : ∀ {r : List Nat}, r ∈ rowsN sz 3 → ∃ a b c, r = [a, b, c] := fun {r} h => by
      have hl := (rowsN_mem h).1
      match r, hl with
      | [a, b, c], _ => exact ⟨a, b, c, rfl⟩
    have few2 : (rowsN sz 2).length ≤ 256 := rowsN_few (by omega) (by omega)
    have few3 : (rowsN sz 3).length ≤ 256 := rowsN_few (by omega) (by omega)
    refine ⟨fun σ H' => ∃ fl, σ = [some (nv sz), some (.ref fl), none, none] ∧ OpsI H H' sz fl 1, ?_, ?_⟩
    · walk_at "rd"
      refine ⟨sz, 2, rfl, by omega, by omega, fun H1 l1 xs1 s1 _ hl1 hx1 => ?_⟩
      have hxl1 := paired_len hx1
      refine ⟨true, l1, xs1, rfl, hl1, fun J wJ D0 nD0 => lc_R wJ (fun i acc _ => i ≤ 256 ∧ TabOk sz (rowsN sz 2) i acc) nD0 yat_s (fun _ _ _ _ _ h => h) (fun i acc _ h => by rw [h.2.len]; exact small_lt (m := 1000) (by omega)) (fun H' sm => sq_l (sm _ _ hl1)) ⟨Nat.zero_le _, TabOk.nil⟩ ?_ ?_⟩
      · intro i x H2 H3 acc Q' N hi s2 _ hacc y kq _
        obtain ⟨s3, hx⟩ := yat_same y
        obtain ⟨r, hr', a, rfl, ha⟩ := paired_get (hx1.tx (same_tx (s2.trans s3))) hx
        have hrm := List.mem_of_getElem? hr'
        refine ⟨rfl, lcY ?_⟩
        walk_at "rd"
        refine ⟨a, zs r, rfl, .inl (by rw [zs_nv]; exact ha), fun e => ?_, fun m hm => ?_⟩
        · have := zs_len r
          rw [e, (rowsN_mem hrm).1] at this
          cases this
        · obtain ⟨y, hy, ey⟩ := zs_mem hm
          rw [ey]
          exact kq _ _ (Same.refl _) ⟨by omega, hacc.2.snoc hr' (ent_mem (rowsN_mem hrm).2 hy)⟩
      · intro H2 acc s2 hD0 hacc
        rw [hxl1] at hacc
        obtain ⟨tb1, rfl, ok1⟩ := hacc.2.op (by omega) (by omega) h3
        refine ⟨D0, _, rfl, hD0, fun t1 nt1 => ?_⟩
        have s3 := (s1.trans s2).trans (same_new (o := .tup (tb1.map nv)) nt1)
        have ht1 : upd H2 t1 (.tup (tb1.map nv)) t1 = some (.tup (tb1.map nv)) := upd_same
        generalize upd H2 t1 (.tup (tb1.map nv)) = H3 at s3 ht1
        refine ⟨sz_le (by show 2 ≤ 1000000; decide), fun o1 no1 => ?_⟩
        have s4 := s3.trans (same_new (o := .tup [.int 2, .ref t1]) no1)
        have iop1 : IsOp (upd H3 o1 (.tup [.int 2, .ref t1])) (.ref o1) (2, tb1) := ⟨o1, t1, rfl, upd_same, same_new no1 _ _ ht1⟩
        generalize upd H3 o1 (.tup [.int 2, .ref t1]) = H4 at s4 iop1
        refine ⟨sz_le (by show 1 ≤ 1000000; decide), fun fl nfl => ?_⟩
        exact ⟨fl, rfl, s4.trans (same_new nfl), none_same s4 nfl, [.ref o1], [(2, tb1)], upd_same, .cons (iop1.tx (tx_new nfl)) .nil, fun o ho => by rw [List.mem_singleton.mp ho]; exact ok1, rfl⟩
    · rintro σ H1 ⟨fl, rfl, I1⟩
      refine ⟨fun σ H' => ∃ fl, σ = [some (nv sz), some (.ref fl), none, none] ∧ OpsI H H' sz fl 2, ?_, ?_⟩
      · obtain ⟨_, _, xs0, _, hf0, _⟩ := id I1
        walk_at "rd"
        refine ⟨.inl ⟨rfl, _, SqL.of hf0⟩, ?_⟩
        walk_at "rd"
        refine ⟨sz, 2, rfl, by omega, by omega, fun H2 l1 xs1 s2 nl1 hl1 hx1 => ?_⟩
        have hxl1 := paired_len hx1
        refine ⟨true, l1, xs1, rfl, hl1, fun J wJ D0 nD0 => lc_R wJ (fun i acc _ => i ≤ 256 ∧ TabOk sz (rowsN sz 2) i acc) nD0 yat_s (fun _ _ _ _ _ h => h) (fun i acc _ h => by rw [h.2.len]; exact small_lt (m := 1000) (by omega)) (fun H' sm => sq_l (sm _ _ hl1)) ⟨Nat.zero_le _, TabOk.nil⟩ ?_ ?_⟩
        · intro i x H3 H4 acc Q' N hi s3 _ hacc y kq _
          obtain ⟨s4, hx⟩ := yat_same y
          obtain ⟨r, hr', a, rfl, ha⟩ := paired_get (hx1.tx (same_tx (s3.trans s4))) hx
          have hrm := List.mem_of_getElem? hr'
          refine ⟨rfl, lcY ?_⟩
          walk_at "rd"
          refine ⟨a, zs r, rfl, .inl (by rw [zs_nv]; exact ha), fun e => ?_, fun m hm _ => ?_⟩
          · have := zs_len r
            rw [e, (rowsN_mem hrm).1] at this
            cases this
          · obtain ⟨y, hy, ey⟩ := zs_mem hm
            rw [ey]
            exact kq _ _ (Same.refl _) ⟨by omega, hacc.2.snoc hr' (ent_mem (rowsN_mem hrm).2 hy)⟩
        · intro H3 acc s3 hD0 hacc
          rw [hxl1] at hacc
          obtain ⟨tb, rfl, ok⟩ := hacc.2.op (by omega) (by omega) h3
          refine ⟨D0, _, rfl, hD0, fun t nt => ?_⟩
          have s4 := (s2.trans s3).trans (same_new (o := .tup (tb.map nv)) nt)
          have ht : upd H3 t (.tup (tb.map nv)) t = some (.tup (tb.map nv)) := upd_same
          generalize upd H3 t (.tup (tb.map nv)) = H4 at s4 ht
          refine ⟨sz_le (by show 2 ≤ 1000000; decide), fun o no => ?_⟩
          have s5 := s4.trans (same_new (o := .tup [.int 2, .ref t]) no)
          obtain ⟨xs, hf, hz, I2⟩ := (I1.same s5).add (o := o) (t := t) (k := 2) upd_same (same_new no _ _ ht) ok (by omega)
          exact ⟨fl, xs, _, rfl, rfl, hf, hz, fl, rfl, I2⟩
      · rintro σ H2 ⟨fl, rfl, I2⟩
        refine ⟨fun σ H' => ∃ fl t3, σ = [some (nv sz), some (.ref fl), some (.ref t3), none] ∧ OpsI H H' sz fl 2 ∧ RowsI H' fl t3 (rowsN sz 3), ?_, ?_⟩
        · walk_at "rd"
          refine ⟨sz, 3, rfl, by omega, by omega, fun H3 l3 xs3 s3 nl3 hl3 hx3 => ?_⟩
          obtain ⟨_, _, xs0, _, hf0, _⟩ := id I2
          exact ⟨fl, l3, rfl, I2.same s3, ne_some nl3 hf0, xs3, hl3, hx3⟩
        · rintro σ H3 ⟨fl, t3, rfl, I3, R3⟩
          refine ⟨fun σ H' => ∃ fl t3, σ = [some (nv sz), some (.ref fl), some (.ref t3), none] ∧ OpsI H H' sz fl 3 ∧ RowsI H' fl t3 (rowsN sz 3), ?_, ?_⟩
          · obtain ⟨_, _, xs0, _, hf0, _⟩ := id I3
            obtain ⟨_, xs1, hl1, hx1⟩ := id R3
            have hxl1 := paired_len hx1
            walk_at "rd"
            refine ⟨.inl ⟨rfl, _, SqL.of hf0⟩, ?_⟩
            walk_at "rd"
            refine fun J wJ D0 nD0 => lc_R wJ (fun i acc _ => i ≤ 256 ∧ TabOk sz (rowsN sz 3) i acc) nD0 yat_s (fun _ _ _ _ _ h => h) (fun i acc _ h => by rw [h.2.len]; exact small_lt (m := 1000) (by omega)) (fun H' sm => sq_l (sm _ _ hl1)) ⟨Nat.zero_le _, TabOk.nil⟩ ?_ ?_
            · intro i x H4 H5 acc Q' N hi s4 _ hacc y kq _
              obtain ⟨s5, hx⟩ := yat_same y
              obtain ⟨r, hr', a, rfl, ha⟩ := paired_get (hx1.tx (same_tx (s4.trans s5))) hx
              have hrm := List.mem_of_getElem? hr'
              have hzl : (zs r).length = 3 := by rw [zs_len, (rowsN_mem hrm).1]
              refine ⟨rfl, lcY ?_⟩
              walk_at "rd"
              refine ⟨a, zs r, rfl, .inl (by rw [zs_nv]; exact ha), by omega, fun ns' p hp _ np => ?_⟩
              have hnl : 1 < ns'.length := by rw [hp.length_eq]; omega
              have hg : (ns'.map V.int)[1]? = some (V.int ns'[1]) := by rw [List.getElem?_map, List.getElem?_eq_getElem hnl] <;> rfl
              obtain ⟨y, hy, ey⟩ := zs_mem (hp.mem_iff.mp (List.getElem_mem hnl))
              have hat : atI (ns'.map V.int) 1 = some (V.int ns'[1]) := at_nv (j := 1) hg
              refine ⟨true, p, _, 1, _, rfl, rfl, upd_same, hat, ?_⟩
              rw [ey]
              exact kq _ _ (same_new np) ⟨by omega, hacc.2.snoc hr' (ent_mem (rowsN_mem hrm).2 hy)⟩
            · intro H4 acc s4 hD0 hacc
              rw [hxl1] at hacc
              obtain ⟨tb, rfl, ok⟩ := hacc.2.op (by omega) (by omega) h3
              refine ⟨D0, _, rfl, hD0, fun t nt => ?_⟩
              have s5 := s4.trans (same_new (o := .tup (tb.map nv)) nt)
              have ht : upd H4 t (.tup (tb.map nv)) t = some (.tup (tb.map nv)) := upd_same
              generalize upd H4 t (.tup (tb.map nv)) = H5 at s5 ht
              refine ⟨sz_le (by show 2 ≤ 1000000; decide), fun o no => ?_⟩
              have s6 := s5.trans (same_new (o := .tup [.int 3, .ref t]) no)
              obtain ⟨xs, hf, hz, I4⟩ := (I3.same s6).add (o := o) (t := t) (k := 3) upd_same (same_new no _ _ ht) ok (by omega)
              exact ⟨fl, xs, _, rfl, rfl, hf, hz, fl, t3, rfl, I4, (R3.same s6).upd hf⟩
          · rintro σ H4 ⟨fl, t3, rfl, I3, R3⟩
            refine ⟨fun σ H' => ∃ fl t3, σ = [some (nv sz), some (.ref fl), some (.ref t3), none] ∧ OpsI H H' sz fl 4 ∧ RowsI H' fl t3 (rowsN sz 3), ?_, ?_⟩
            · obtain ⟨_, _, xs0, _, hf0, _⟩ := id I3
              obtain ⟨_, xs1, hl1, hx1⟩ := id R3
              have hxl1 := paired_len hx1
              walk_at "rd"
              refine ⟨.inl ⟨rfl, _, SqL.of hf0⟩, ?_⟩
              walk_at "rd"
              refine fun J wJ D0 nD0 => lc_R wJ (fun i acc _ => i ≤ 256 ∧ TabOk sz (rowsN sz 3) i acc) nD0 yat_s (fun _ _ _ _ _ h => h) (fun i acc _ h => by rw [h.2.len]; exact small_lt (m := 1000) (by omega)) (fun H' sm => sq_l (sm _ _ hl1)) ⟨Nat.zero_le _, TabOk.nil⟩ ?_ ?_
              · intro i x H5 H6 acc Q' N hi s5 _ hacc y kq _
                obtain ⟨s6, hx⟩ := yat_same y
                obtain ⟨r, hr', a, rfl, ha⟩ := paired_get (hx1.tx (same_tx (s5.trans s6))) hx
                have hrm := List.mem_of_getElem? hr'
                obtain ⟨r0, r1, r2, rfl⟩ := row3 hrm
                have a0 : atI ([r0, r1, r2].map nv) 0 = some (nv r0) := rfl
                have a1 : atI ([r0, r1, r2].map nv) 1 = some (nv r1) := rfl
                have a2 : atI ([r0, r1, r2].map nv) 2 = some (nv r2) := rfl
                refine ⟨rfl, lcY ?_⟩
                walk_at "rd"
                refine .inl ⟨_, rfl, ?_⟩
                walk_at "rd"
                refine ⟨by omega, ?_⟩
                obtain ⟨y, ey, hy⟩ := mod_nat ((r0 : Int) - r1 + r2) sz (by omega)
                dsimp only
                rw [ey]
                refine kq _ _ (Same.refl _) ⟨by omega, hacc.2.snoc hr' ⟨by omega, fun x hx => ?_⟩⟩
                have h0 := hx r0 (by simp)
                have h1 := hx r1 (by simp)
                have h2' := hx r2 (by simp)
                have hxs : r0 < sz := (rowsN_mem hrm).2 r0 (by simp)
                subst h0
                rw [h1, h2'] at ey
                rw [show (r0 : Int) - r0 + r0 = (r0 : Int) by omega, Int.emod_eq_of_lt (by omega) (by omega)] at ey
                omega
              · intro H5 acc s5 hD0 hacc
                rw [hxl1] at hacc
                obtain ⟨tb, rfl, ok⟩ := hacc.2.op (by omega) (by omega) h3
                refine ⟨D0, _, rfl, hD0, fun t nt => ?_⟩
                have s6 := s5.trans (same_new (o := .tup (tb.map nv)) nt)
                have ht : upd H5 t (.tup (tb.map nv)) t = some (.tup (tb.map nv)) := upd_same
                generalize upd H5 t (.tup (tb.map nv)) = H6 at s6 ht
                refine ⟨sz_le (by show 2 ≤ 1000000; decide), fun o no => ?_⟩
                have s7 := s6.trans (same_new (o := .tup [.int 3, .ref t]) no)
                obtain ⟨xs, hf, hz, I4⟩ := (I3.same s7).add (o := o) (t := t) (k := 3) upd_same (same_new no _ _ ht) ok (by omega)
                exact ⟨fl, xs, _, rfl, rfl, hf, hz, fl, t3, rfl, I4, (R3.same s7).upd hf⟩
            · rintro σ H5 ⟨fl, t3, rfl, I3, R3⟩
              refine ⟨fun σ H' => ∃ fl t3, σ = [some (nv sz), some (.ref fl), some (.ref t3), none] ∧ OpsI H H' sz fl 5 ∧ RowsI H' fl t3 (rowsN sz 3), ?_, ?_⟩
              · obtain ⟨_, _, xs0, _, hf0, _⟩ := id I3
                walk_at "rd"
                refine ⟨.inl ⟨rfl, _, SqL.of hf0⟩, ?_⟩
                refine ⟨sz_le (by show 1 ≤ 1000000; decide), fun u nu => ?_⟩
                have s6 := same_new (o := .tup [.int 0]) nu
                walk_at "rd"
                refine ⟨u, _, _, rfl, rfl, SqT.of upd_same, by simp, by omega, by omega, by decide, fun t nt => ?_⟩
                rw [repT0]
                have s7 := s6.trans (same_new (o := .tup ((List.replicate sz 0).map nv)) nt)
                have ht : upd (upd H5 u (.tup [.int 0])) t (.tup ((List.replicate sz 0).map nv)) t = some (.tup ((List.replicate sz 0).map nv)) := upd_same
                generalize upd (upd H5 u (.tup [.int 0])) t (.tup ((List.replicate sz 0).map nv)) = H6 at s7 ht
                refine ⟨sz_le (by show 2 ≤ 1000000; decide), fun o no => ?_⟩
                have s8 := s7.trans (same_new (o := .tup [.int 1, .ref t]) no)
                obtain ⟨xs, hf, hz, I4⟩ := (I3.same s8).add (o := o) (t := t) (k := 1) upd_same (same_new no _ _ ht) (zero_op (by omega)) (by omega)
                exact ⟨fl, xs, _, rfl, rfl, hf, hz, fl, t3, rfl, I4, (R3.same s8).upd hf⟩
              · rintro σ H6 ⟨fl, t3, rfl, I3, R3⟩
                obtain ⟨_, _, xs0, _, hf0, _⟩ := id I3
                obtain ⟨_, xs1, hl1, hx1⟩ := id R3
                have hxl1 := paired_len hx1
                walk_at "rd"
                refine fun J wJ D0 nD0 => lc_R wJ (fun i acc _ => i ≤ 256 ∧ TabOk sz (rowsN sz 3) i acc) nD0 yat_s (fun _ _ _ _ _ h => h) (fun i acc _ h => by rw [h.2.len]; exact small_lt (m := 1000) (by omega)) (fun H' sm => sq_l (sm _ _ hl1)) ⟨Nat.zero_le _, TabOk.nil⟩ ?_ ?_
                · intro i x H7 H8 acc Q' N hi s7 _ hacc y kq _
                  obtain ⟨s8, hx⟩ := yat_same y
                  obtain ⟨r, hr', a, rfl, ha⟩ := paired_get (hx1.tx (same_tx (s7.trans s8))) hx
                  have hrm := List.mem_of_getElem? hr'
                  obtain ⟨r0, r1, r2, rfl⟩ := row3 hrm
                  have a0 : atI ([r0, r1, r2].map nv) 0 = some (nv r0) := rfl
                  have a1 : atI ([r0, r1, r2].map nv) 1 = some (nv r1) := rfl
                  have a2 : atI ([r0, r1, r2].map nv) 2 = some (nv r2) := rfl
                  refine ⟨rfl, lcY ?_⟩
                  walk_at "rd"
                  refine ite_of (p := r1 = r2) (by rw [decide_eq_true_iff]; exact ⟨fun h => nv_inj h, fun h => by rw [h]⟩) (fun e => ?_) fun e => ?_
                  · walk_at "rd"
                    exact kq _ _ (Same.refl _) ⟨by omega, hacc.2.snoc hr' (ent_mem (rowsN_mem hrm).2 (by simp))⟩
                  · walk_at "rd"
                    exact kq _ _ (Same.refl _) ⟨by omega, hacc.2.snoc hr' (ent_mem (rowsN_mem hrm).2 (by simp))⟩
                · intro H7 acc s7 hD0 hacc
                  rw [hxl1] at hacc
                  obtain ⟨tb, rfl, ok⟩ := hacc.2.op (by omega) (by omega) h3
                  refine ⟨D0, _, rfl, hD0, fun t nt => ?_⟩
                  have s8 := s7.trans (same_new (o := .tup (tb.map nv)) nt)
                  have ht : upd H7 t (.tup (tb.map nv)) t = some (.tup (tb.map nv)) := upd_same
                  generalize upd H7 t (.tup (tb.map nv)) = H8 at s8 ht
                  refine ⟨sz_le (by show 2 ≤ 1000000; decide), fun o no => ?_⟩
                  have s9 := s8.trans (same_new (o := .tup [.int 3, .ref t]) no)
                  have iop : IsOp (upd H8 o (.tup [.int 3, .ref t])) (.ref o) (3, tb) := ⟨o, t, rfl, upd_same, same_new no _ _ ht⟩
                  have I4 := I3.same s9
                  generalize upd H8 o (.tup [.int 3, .ref t]) = H9 at iop I4
                  refine ⟨sz_le (by show 1 ≤ 1000000; decide), fun u nu => ?_⟩
                  have I5 := I4.same (same_new (o := .lst [.ref o]) nu)
                  have iop5 := iop.tx (tx_new (o := .lst [.ref o]) nu)
                  have hu : upd H9 u (.lst [.ref o]) u = some (.lst [.ref o]) := upd_same
                  generalize upd H9 u (.lst [.ref o]) = H10 at I5 iop5 hu
                  obtain ⟨e1, e2, ys, ops, e3, e4, e5, e6⟩ := I5
                  have hyl := paired_len e4
                  refine ⟨fl, u, ys, _, rfl, rfl, e3, hu, sz_le (by rw [List.length_singleton]; omega), fun p np => ?_⟩
                  have s11 := e1.trans (same_new (o := .lst (ys ++ [.ref o])) np)
                  walk_at "rd"
                  refine q _ p (ys ++ [.ref o]) (ops ++ [(3, tb)]) s11 (none_same e1 np) upd_same (paired_snoc (iop5.tx (tx_new np)) (paired_imp (fun _ _ q => q.tx (tx_new np)) e4)) (fun p hp => ?_) (by rw [List.length_append, e6] <;> rfl)
                  rcases List.mem_append.mp hp with e | e
                  · exact e5 p e
                  · rw [List.mem_singleton.mp e]; exact ok
end
end G
namespace G
open PySem PySem.Spec PyProof.Rows L2
local macro_rules | `(tactic| walk_at "rd") => `(tactic| repeat (first | (refine ⟨_, rfl, ?_⟩) | (refine ⟨_, _, rfl, rfl, ?_⟩) | (refine iteT ?_) | (refine iteF ?_) | (refine ⟨_, "tuple", _, true, rfl, .tup (.inl (by assumption)), kb_tt, ?_⟩) | (refine ⟨_, "tuple", _, true, rfl, .tup (by assumption), kb_tt, ?_⟩) | (refine ⟨false, _, _, rfl, sq_t (by assumption), ?_⟩) | (refine ⟨false, _, _, rfl, sq_r (by assumption), ?_⟩) | (refine ⟨true, _, _, rfl, sq_l (by assumption), ?_⟩) | (refine ⟨false, _, _, _, _, rfl, rfl, sq_t (by assumption), at0, ?_⟩) | (refine ⟨false, _, _, _, _, rfl, rfl, sq_t (by assumption), at1, ?_⟩) | (refine ⟨false, _, _, _, _, rfl, rfl, sq_t (by assumption), (by assumption), ?_⟩) | (refine ⟨false, _, _, _, _, rfl, rfl, sq_r (by assumption), (by assumption), ?_⟩) | (refine ⟨true, _, _, _, _, rfl, rfl, sq_l (by assumption), (by assumption), ?_⟩) | (refine ⟨rfl, ?_⟩)))
theorem RowI.ne {K : PySem.W.Frag} {A H : Hp} {r b : Addr} {xs : List V} (h : RowI K A H r) (e : H b = some (.tup xs)) : b ≠ r := fun q => by
  obtain ⟨ys, e2⟩ := h.at
  rw [q, e2] at e
  cases e
theorem RowI.tx {K : PySem.W.Frag} {A H H' : Hp} {r : Addr} (h : RowI K A H r) (k : Kp r H H') : Tx H H' := fun b o t e => by
  refine k b o (fun q => ?_) e
  obtain ⟨ys, e2⟩ := h.at
  rw [q, e2] at e
  cases e
  rcases t with ⟨_, z⟩ | ⟨_, _, z⟩
  · cases z
  · cases z
section
variable {P : Program} {w : World} {K : PySem.W.Frag} {mg : Str → Option Value} {base : Heap}
def sp_l_some_rows (K : PySem.W.Frag) : Sp := fun vs H Q _ => ∃ (r : Addr) (sz ar mo : Nat) (A : Hp), vs = [.ref r, nv sz, nv ar, nv mo] ∧ RowI K A H r ∧ 1 ≤ sz ∧ sz ≤ 4 ∧ 1 ≤ ar ∧ ar ≤ 4 ∧ 1 ≤ mo ∧ mo ≤ 3 ∧
  ∀ H' t ys rows, Kp r H H' → RowI K A H' r → H' t = some (.tup ys) → Rws H' ys rows → Asc rows → (∀ x ∈ rows, x.length = ar ∧ Lt sz x) → 1 ≤ rows.length → rows.length ≤ 3 → rows.Nodup → Q (.ref t) H'
theorem ok_l_some_rows (T : TX K mg) : FnOk P w K mg base CX0 3 T.l_some_rows.f T.l_some_rows.fd ["_law_row", "_law_size", "_law_arity", "_law_most"] (sp_l_some_rows K) := by
  refine T.l_some_rows.F.ok sc_l_some_rows (fun vs H Q E h => ?_) (fun cdv A0 outer s H vs Q E hr h => ?_)
  · obtain ⟨_, _, _, _, _, rfl, _⟩ := h
    rfl
  · obtain ⟨r, sz, ar, mo, A, rfl, hrow, hsz, hsz4, har, har4, hmo, hmo3, q⟩ := h
    refine ⟨_, (pss_cons (ps_par (i := 4) (j := 5) (by rfl) sc_l_some_rows.nd rfl rfl (by decide) rfl rfl (pa_cons (pe_call (ok_l_rows T) (hr.mono (by decide)) (by rfl) T.l_rows.g T.l_rows.F.kp T.l_rows.b .nil pass0 (pa_cons (pv 1) (pa_cons (pv 2) pa_nil))) (pa_cons (pe_lst pa_nil) pa_nil)) (by rfl))
      (pss_cons (ps_for PassesOwn.never rfl (pi_range1 (by rfl) T.n_range (pa_cons (pe_op op_add pe_int (pe_call (ok_l_taken T) (hr.mono (by decide)) (by rfl) T.l_taken.g T.l_taken.F.kp T.l_taken.b .nil pass0 (pa_cons (pv 0) (pa_cons (pv 3) pa_nil)))) pa_nil)) (pg_name (i := 6) sc_l_some_rows.nd rfl (Or.inl rfl))
      (pss_cons (ps_set (i := 7) sc_l_some_rows.nd rfl (.inl rfl) (pe_call (ok_l_pick T) (hr.mono (by decide)) (by rfl) T.l_pick.g T.l_pick.F.kp T.l_pick.b .nil pass0 (pa_cons (pv 0) (pa_cons (pv 4) pa_nil))))
      (pss_one (ps_if (pt_cmpR (op_notInR (by exact hr.units)) (pv 7) (pv 5) (by rfl))
      (pss_one (ps_expr (pe_bm PySem.F.plainAttrs_list PySem.F.slot_list_append PySem.F.type_list_append mt_append (pv 5) (pa_cons (pv 7) pa_nil))))
      pss_nil))))
      (pss_one (ps_ret (pe_callTy call_tupL (by rfl) T.n_tuple bb_tuple (pa_cons (pe_callB (cr_sortR (d := ar) har) (by rfl) T.n_sorted bb_sorted (pa_cons (pv 5) pa_nil)) pa_nil)))))), ?_⟩
    obtain ⟨rxs, hrx⟩ := hrow.at
    walk_at "rd"
    refine ⟨sz, ar, rfl, hsz4, har4, fun H1 el evs s1 nel hel hevs => ?_⟩
    have hrow1 := hrow.same s1
    have elr : el ≠ r := ne_some nel hrx
    refine ⟨sz_le (by decide), fun fl nfl => ?_⟩
    have s2 := s1.trans (same_new (o := .lst []) nfl)
    have hfl2 : upd H1 fl (.lst []) fl = some (.lst []) := upd_same
    have hel2 := same_new (o := .lst []) nfl _ _ hel
    have hevs2 := hevs.tx (tx_new (o := .lst []) nfl)
    have nflH := none_same s1 nfl
    have flr : fl ≠ r := ne_some nflH hrx
    have fle : el ≠ fl := (ne_some nfl hel).symm
    have hrow2 := hrow.same s2
    generalize upd H1 fl (.lst []) = H2 at s2 hfl2 hel2 hevs2 hrow2
    refine ⟨_, _, rfl, ?_⟩
    walk_at "rd"
    refine ⟨r, (mo : Int), A, rfl, hrow2, by omega, by omega, fun H3 v kp3 hrow3 hv => ?_⟩
    have hfew := rowsN_few hsz4 har4
    have hpos : 0 < (rowsN sz ar).length := by rw [rowsN_len]; exact Nat.pow_pos (by omega)
    walk_at "rd"
    refine ⟨by omega, by omega, for_it (walk_nv (n := (1 + (v : Int)).toNat)) (fun i σ H' => ∃ fv fr y6 y7, σ = [some (.ref r), some (nv sz), some (nv ar), some (nv mo), some (.ref el), some (.ref fl), y6, y7] ∧ Kp r H H' ∧ RowI K A H' r ∧ H' el = some (.lst evs) ∧ Rws H' evs (rowsN sz ar) ∧ H' fl = some (.lst fv) ∧ Rws H' fv fr ∧ fr.Nodup ∧ (∀ x ∈ fr, x.length = ar ∧ Lt sz x) ∧ fr.length ≤ i ∧ (0 < i → 0 < fr.length)) ?_ (fun _ _ _ _ _ => trivial) (fun i x σ H4 H5 hi q4 y => ?_) fun σ H4 q4 => ?_⟩
    · exact ⟨[], [], _, _, rfl, (same_kp s2).trans kp3, hrow3, kp3 _ _ elr hel2, hevs2.tx (hrow2.tx kp3), kp3 _ _ flr hfl2, .nil, .nil, fun x h => absurd h List.not_mem_nil, Nat.le_refl _, fun h => absurd h (Nat.lt_irrefl _)⟩
    · obtain ⟨rfl, rfl⟩ := y
      obtain ⟨fv, fr, y6, y7, rfl, kp, hrow4, hel4, hevs4, hfl4, hfr4, hnd, hok, hle, hpo⟩ := q4
      have hlen := paired_len hevs4
      have hfl := paired_len hfr4
      walk_at "rd"
      refine ⟨r, el, A, true, evs, rfl, hrow4, hel4, elr, fun e => ?_, by omega, fun H6 k x kp6 hrow6 hx => ?_⟩
      · rw [e] at hlen
        simp at hlen
        omega
      · have tx6 := hrow4.tx kp6
        obtain ⟨row, hrw, hxr⟩ := paired_get (hevs4.tx tx6) hx
        have hrok := rowsN_mem (List.mem_of_getElem? hrw)
        have hfl6 := kp6 _ _ flr hfl4
        have hel6 := kp6 _ _ elr hel4
        have hfr6 := hfr4.tx tx6
        walk_at "rd"
        refine ⟨true, fl, fv, row, fr, rfl, hxr, hfl6, hfr6, ?_⟩
        rw [if_pos rfl]
        walk_at "rd"
        refine ite_of (p := row ∉ fr) (by simp) (fun hni => ?_) fun hni => ?_
        · walk_at "rd"
          refine ⟨.inl ⟨rfl, _, SqL.of hfl6⟩, ?_⟩
          walk_at "rd"
          refine ⟨fl, fv, _, rfl, rfl, hfl6, small_lt (m := 1000) (by omega), ?_⟩
          have tx7 := tx_lst (o := .lst (fv ++ [x])) hfl6
          refine ⟨fv ++ [x], fr ++ [row], _, _, rfl, kp_updN (kp.trans kp6) nflH, hrow6.updN (none_same hrow.1 nflH) flr, by rw [upd_ne fle]; exact hel6, (hevs4.tx tx6).tx tx7, upd_same, paired_snoc (hxr.tx tx7) (hfr6.tx tx7), nodup_snocL hnd hni, fun z hz => ?_, by rw [List.length_append, List.length_singleton]; omega, fun _ => by rw [List.length_append, List.length_singleton]; omega⟩
          rcases List.mem_append.mp hz with e | e
          · exact hok z e
          · rw [List.mem_singleton.mp e]; exact hrok
        · refine ⟨fv, fr, _, _, rfl, kp.trans kp6, hrow6, hel6, hevs4.tx tx6, hfl6, hfr6, hnd, hok, Nat.le_succ_of_le hle, fun _ => ?_⟩
          exact List.length_pos_of_mem (Classical.not_not.mp hni)
    · obtain ⟨fv, fr, y6, y7, rfl, kp, hrow4, hel4, hevs4, hfl4, hfr4, hnd, hok, hle, hpo⟩ := q4
      walk_at "rd"
      refine ⟨fl, fv, fr, rfl, hfl4, hfr4, by omega, hnd, fun z hz => ⟨(hok z hz).1, fun y hy => by have := (hok z hz).2 y hy; omega⟩, fun ys rs' sl hpm hasc hys nsl => ?_⟩
      have s5 := same_new (o := .lst ys) nsl
      walk_at "rd"
      refine ⟨sl, ys, rfl, upd_same, fun t nt => ?_⟩
      have s6 := s5.trans (same_new (o := .tup ys) nt)
      have hl2 := hpm.length_eq
      walk_at "rd"
      exact q _ t ys rs' (kp.trans (same_kp s6)) (hrow4.same s6) upd_same (hys.tx (same_tx s6)) hasc (fun z hz => hok z (hpm.mem_iff.mp hz)) (by have := hpo (by omega); omega) (by omega) (hpm.nodup_iff.mpr hnd)
end
end G
namespace G
open PySem PySem.Spec PyProof.Rows L2
local macro_rules | `(tactic| walk_at "rd") => `(tactic| repeat (first | (refine ⟨_, rfl, ?_⟩) | (refine ⟨_, _, rfl, rfl, ?_⟩) | (refine iteT ?_) | (refine iteF ?_) | (refine ⟨_, "tuple", _, true, rfl, .tup (.inl (by assumption)), kb_tt, ?_⟩) | (refine ⟨_, "tuple", _, true, rfl, .tup (by assumption), kb_tt, ?_⟩) | (refine ⟨false, _, _, rfl, sq_t (by assumption), ?_⟩) | (refine ⟨false, _, _, rfl, sq_r (by assumption), ?_⟩) | (refine ⟨true, _, _, rfl, sq_l (by assumption), ?_⟩) | (refine ⟨false, _, _, _, _, rfl, rfl, sq_t (by assumption), at0, ?_⟩) | (refine ⟨false, _, _, _, _, rfl, rfl, sq_t (by assumption), at1, ?_⟩) | (refine ⟨false, _, _, _, _, rfl, rfl, sq_t (by assumption), (by assumption), ?_⟩) | (refine ⟨false, _, _, _, _, rfl, rfl, sq_r (by assumption), (by assumption), ?_⟩) | (refine ⟨true, _, _, _, _, rfl, rfl, sq_l (by assumption), (by assumption), ?_⟩) | (refine ⟨rfl, ?_⟩)))
theorem row_ext {a b : List Nat} {d : Nat} (ha : a.length = d) (hb : b.length = d) (h : ∀ j, j < d → gd a j = gd b j) : a = b := by
  apply List.ext_getElem?
  intro j
  by_cases hj : j < d
  · rw [gd_get (by omega : j < a.length), gd_get (by omega : j < b.length), h j hj]
  · rw [List.getElem?_eq_none (by omega), List.getElem?_eq_none (by omega)]
theorem map_rep {α β : Type} {f : α → β} {y : β} : ∀ {l : List α} {k : Nat}, l.length = k → (∀ x ∈ l, f x = y) → l.map f = List.replicate k y
  | [], k, h, _ => by
    have : k = 0 := by simpa using h.symm
    rw [this] <;> rfl
  | a :: l, k, h, hx => by
    cases k with
    | zero => simp at h
    | succ k =>
      rw [List.map_cons, hx a List.mem_cons_self, map_rep (by simpa using h) fun x hm => hx x (List.mem_cons_of_mem _ hm), List.replicate_succ]
/-- one row alone: few are made of it -/
theorem one_cl {sz ar : Nat} {o : Opn} {r0 : List Nat} (ok : OpOk sz o) (hl : r0.length = ar) (hlt : Lt sz r0) : ∃ Z : List (List Nat), Z.length ≤ 8 ∧ ClZ sz ar o Z ∧ r0 ∈ Z := by
  rcases ok.one with h | h
  · refine ⟨[r0], by show 1 ≤ 8; decide, fun rr row hrr hm hcar => ?_, List.mem_singleton.mpr rfl⟩
    refine List.mem_singleton.mpr (row_ext hcar.1 hl fun j hj => ?_)
    have h1 := hcar.2 j hj
    rw [map_rep (y := gd r0 j) hrr fun x hx => by rw [List.mem_singleton.mp (hm x hx)], h _ (hlt _ (gd_mem (by omega)))] at h1
    exact (Option.some.inj h1).symm
  · refine ⟨[r0, List.replicate ar 0], by show 2 ≤ 8; decide, fun rr row hrr hm hcar => ?_, List.mem_cons_self⟩
    refine List.mem_cons_of_mem _ (List.mem_singleton.mpr (row_ext hcar.1 (List.length_replicate) fun j hj => ?_))
    have h1 := h _ (List.mem_of_getElem? (hcar.2 j hj))
    rw [h1]
    exact (gd_some (by rw [List.getElem?_replicate, if_pos hj])).symm
section
variable {P : Program} {w : World} {K : PySem.W.Frag} {mg : Str → Option Value} {base : Heap}
def sp_l_kept (K : PySem.W.Frag) : Sp := fun vs H Q _ => ∃ (r : Addr) (sz ar : Nat) (ov : V) (o : Opn) (A : Hp), vs = [.ref r, nv sz, ov, nv ar] ∧ RowI K A H r ∧ 1 ≤ sz ∧ sz ≤ 4 ∧ IsOp H ov o ∧ OpOk sz o ∧ 1 ≤ ar ∧ ar ≤ 4 ∧
  ∀ H' v R, Kp r H H' → RowI K A H' r → IsRel H' v R → R.1 = ar → RelOk sz R → Q v H'
theorem ok_l_kept (T : TX K mg) : FnOk P w K mg base CX0 4 T.l_kept.f T.l_kept.fd ["_law_row", "_law_size", "_law_operation", "_law_arity"] (sp_l_kept K) := by
  refine T.l_kept.F.ok sc_l_kept (fun vs H Q E h => ?_) (fun cdv A0 outer s H vs Q E hr h => ?_)
  · obtain ⟨_, _, _, _, _, _, rfl, _⟩ := h
    rfl
  · obtain ⟨r, sz, ar, ov, o, A, rfl, hrow, hsz, hsz4, hop, oko, har, har4, q⟩ := h
    refine ⟨_, (pss_cons (ps_set (i := 4) sc_l_kept.nd rfl (.inl rfl) (pe_call (ok_l_some_rows T) (hr.mono (by decide)) (by rfl) T.l_some_rows.g T.l_some_rows.F.kp T.l_some_rows.b .nil pass0 (pa_cons (pv 0) (pa_cons (pv 1) (pa_cons (pv 3) (pa_cons pe_int pa_nil))))))
      (pss_cons (ps_set (i := 5) sc_l_kept.nd rfl (.inl rfl) (pe_call (ok_l_closed T) (hr.mono (by decide)) (by rfl) T.l_closed.g T.l_closed.F.kp T.l_closed.b .nil pass0 (pa_cons (pv 1) (pa_cons (pv 2) (pa_cons (pv 3) (pa_cons (pv 4) pa_nil))))))
      (pss_one (ps_ret (pe_ifExp (pt_cmpR op_notN (pv 5) pe_non (nomark _)) (pv 5) (pe_call (ok_l_closed T) (hr.mono (by decide)) (by rfl) T.l_closed.g T.l_closed.F.kp T.l_closed.b .nil pass0 (pa_cons (pv 1) (pa_cons (pv 2) (pa_cons (pv 3) (pa_cons (pe_slice sl_tupW (pv 4) po_none (po_some pe_int)) pa_nil)))))))))), ?_⟩
    walk_at "rd"
    refine ⟨r, sz, ar, 3, A, rfl, hrow, hsz, hsz4, har, har4, by decide, by decide, fun H1 t ys rows kp1 hrow1 ht hys hasc hok hl1 hl3 hnd => ?_⟩
    have hop1 := hop.tx (hrow.tx kp1)
    walk_at "rd"
    refine ⟨sz, ar, ov, o, t, ys, rows, rfl, hsz4, hop1, oko, har, har4, ht, hys, hnd, by omega, hok, .inr fun H2 s2 => ?_, fun H2 v R s2 hR hR1 hRo => ?_⟩
    · have hyl := paired_len hys
      walk_at "rd"
      have ht2 := s2 _ _ ht
      refine ⟨t, ys, rfl, ht2, fun p H3 s3 hp => ?_⟩
      have s13 := s2.trans s3
      have ecut : cutV ys none (some 1) = ys.take 1 := by
        unfold cutV
        rw [HT.sIx_none, List.drop_zero]
        have : HT.sIx ys.length ys.length (some 1) = min 1 ys.length := HT.sIx_nat _ _ 1
        rw [this, Nat.sub_zero, Nat.min_eq_left (by omega)]
      rw [ecut] at hp
      obtain ⟨r0, rs, rfl⟩ : ∃ r0 rs, rows = r0 :: rs := by
        cases rows with
        | nil => simp at hl1
        | cons a b => exact ⟨a, b, rfl⟩
      have hys1 : Rws H3 (ys.take 1) [r0] := by
        cases hys with
        | cons h1 _ => exact .cons (h1.tx (same_tx s13)) .nil
      have hok0 := hok r0 List.mem_cons_self
      obtain ⟨Z, hZ1, hZ2, hZ3⟩ := one_cl oko hok0.1 hok0.2
      refine ⟨sz, ar, ov, o, p, _, [r0], rfl, hsz4, hop1.tx (same_tx s13), oko, har, har4, hp, hys1, by simp, by show 1 ≤ 8; decide, fun x hx => by rw [List.mem_singleton.mp hx]; exact hok0, .inl ⟨Z, hZ1, hZ2, fun x hx => by rw [List.mem_singleton.mp hx]; exact hZ3⟩, fun H4 v R s4 hR hR1 hRo => ?_⟩
      exact q _ v R (kp1.trans (same_kp (s13.trans s4))) (hrow1.same (s13.trans s4)) hR hR1 hRo
    · obtain ⟨a, b, c, rfl, h⟩ := id hR
      walk_at "rd"
      exact q _ _ R (kp1.trans (same_kp s2)) (hrow1.same s2) hR hR1 hRo
def sp_l_relation (K : PySem.W.Frag) : Sp := fun vs H Q _ => ∃ (r : Addr) (sz ar : Nat) (A : Hp), vs = [.ref r, nv sz, nv ar, nv 3] ∧ RowI K A H r ∧ 2 ≤ sz ∧ sz ≤ 3 ∧ 1 ≤ ar ∧ ar ≤ 4 ∧
  ∀ H' v R, Kp r H H' → RowI K A H' r → IsRel H' v R → R.1 = ar → RelOk sz R → Q v H'
theorem ok_l_relation (T : TX K mg) : FnOk P w K mg base CX0 5 T.l_relation.f T.l_relation.fd ["_law_row", "_law_size", "_law_arity", "_law_most"] (sp_l_relation K) := by
  refine T.l_relation.F.ok sc_l_relation (fun vs H Q E h => ?_) (fun cdv A0 outer s H vs Q E hr h => ?_)
  · obtain ⟨_, _, _, _, rfl, _⟩ := h
    rfl
  · obtain ⟨r, sz, ar, A, rfl, hrow, hsz2, hsz3, har, har4, q⟩ := h
    refine ⟨_, (pss_cons (ps_set (i := 4) sc_l_relation.nd rfl (.inl rfl) (pe_call (ok_l_some_rows T) (hr.mono (by decide)) (by rfl) T.l_some_rows.g T.l_some_rows.F.kp T.l_some_rows.b .nil pass0 (pa_cons (pv 0) (pa_cons (pv 1) (pa_cons (pv 2) (pa_cons (pv 3) pa_nil))))))
      (pss_cons (ps_if (pt_cmpR op_eq (pe_call (ok_l_taken T) (hr.mono (by decide)) (by rfl) T.l_taken.g T.l_taken.F.kp T.l_taken.b .nil pass0 (pa_cons (pv 0) (pa_cons pe_int pa_nil))) pe_int (nomark _))
      (pss_one (ps_ret (pe_call (ok_l_kept T) (hr.mono (by decide)) (by rfl) T.l_kept.g T.l_kept.F.kp T.l_kept.b .nil pass0 (pa_cons (pv 0) (pa_cons (pv 1) (pa_cons (pe_call (ok_l_pick T) (hr.mono (by decide)) (by rfl) T.l_pick.g T.l_pick.F.kp T.l_pick.b .nil pass0 (pa_cons (pv 0) (pa_cons (pe_call (ok_l_named T) (hr.mono (by decide)) (by rfl) T.l_named.g T.l_named.F.kp T.l_named.b .nil pass0 (pa_cons (pv 1) pa_nil)) pa_nil))) (pa_cons (pv 2) pa_nil)))))))
      pss_nil)
      (pss_one (ps_ret (pe_tup (pa_cons (pv 2) (pa_cons (pv 4) pa_nil))))))), ?_⟩
    walk_at "rd"
    refine ⟨r, sz, ar, 3, A, rfl, hrow, by omega, by omega, har, har4, by decide, by decide, fun H1 t ys rows kp1 hrow1 ht hys hasc hok hl1 hl3 hnd => ?_⟩
    walk_at "rd"
    refine ⟨r, 2, A, rfl, hrow1, by decide, by decide, fun H2 v kp2 hrow2 hv => ?_⟩
    have tx2 := hrow1.tx kp2
    have kp12 := kp1.trans kp2
    walk_at "rd"
    refine ite_of (p := v = 0) (by rw [decide_eq_true_iff]; exact ⟨fun h => nv_inj (b := 0) h, fun h => by rw [h] <;> rfl⟩) (fun h0 => ?_) fun h0 => ?_
    · walk_at "rd"
      refine ⟨hsz2, hsz3, fun H3 l xs ops s3 nl hl hops hopk hlen => ?_⟩
      obtain ⟨rxs, hrx⟩ := hrow2.at
      have hrow3 := hrow2.same s3
      have hxl := paired_len hops
      refine ⟨r, l, A, true, xs, rfl, hrow3, hl, ne_some nl hrx, fun e => ?_, by omega, fun H4 k x kp4 hrow4 hx => ?_⟩
      · rw [e] at hxl
        simp at hxl
        omega
      · obtain ⟨o, ho, hxo⟩ := paired_get (paired_imp (S := IsOp H4) (fun _ _ q => q.tx (hrow3.tx kp4)) hops) hx
        walk_at "rd"
        refine ⟨r, sz, ar, x, o, A, rfl, hrow4, by omega, by omega, hxo, hopk o (List.mem_of_getElem? ho), har, har4, fun H5 v R kp5 hrow5 hR hR1 hRo => ?_⟩
        exact q _ v R (((kp12.trans (same_kp s3)).trans kp4).trans kp5) hrow5 hR hR1 hRo
    · walk_at "rd"
      refine ⟨sz_le (by show 2 ≤ 1000000; decide), fun p np => ?_⟩
      have s3 := same_new (o := .tup [nv ar, .ref t]) np
      exact q _ (.ref p) (ar, rows) (kp12.trans (same_kp s3)) (hrow2.same s3) ⟨p, t, ys, rfl, upd_same, s3 _ _ (tx2.t ht), (hys.tx tx2).tx (same_tx s3)⟩ rfl ⟨har, har4, by show rows.length ≤ 1000; omega, hasc, hok⟩
end
end G
namespace G
open PySem PySem.Spec PyProof.Rows L2
local macro_rules | `(tactic| walk_at "rd") => `(tactic| repeat (first | (refine ⟨_, rfl, ?_⟩) | (refine ⟨_, _, rfl, rfl, ?_⟩) | (refine iteT ?_) | (refine iteF ?_) | (refine ⟨_, "tuple", _, true, rfl, .tup (.inl (by assumption)), kb_tt, ?_⟩) | (refine ⟨_, "tuple", _, true, rfl, .tup (by assumption), kb_tt, ?_⟩) | (refine ⟨false, _, _, rfl, sq_t (by assumption), ?_⟩) | (refine ⟨false, _, _, rfl, sq_r (by assumption), ?_⟩) | (refine ⟨true, _, _, rfl, sq_l (by assumption), ?_⟩) | (refine ⟨false, _, _, _, _, rfl, rfl, sq_t (by assumption), at0, ?_⟩) | (refine ⟨false, _, _, _, _, rfl, rfl, sq_t (by assumption), at1, ?_⟩) | (refine ⟨false, _, _, _, _, rfl, rfl, sq_t (by assumption), (by assumption), ?_⟩) | (refine ⟨false, _, _, _, _, rfl, rfl, sq_r (by assumption), (by assumption), ?_⟩) | (refine ⟨true, _, _, _, _, rfl, rfl, sq_l (by assumption), (by assumption), ?_⟩) | (refine ⟨rfl, ?_⟩)))
section
variable {X : Cx}
/-- tuple(a list): the new tuple known by its object -/
def rTupF (xs : List V) (H : Hp) (Q : VK) : Prop := ∃ a ys, xs = [.ref a] ∧ H a = some (.lst ys) ∧ ∀ l o, H l = none → o.dict = none → Q (.ref l) (upd H l (.frz o (.tup ys)))
theorem call_tupF : CallR X (.type "tuple") rTupF := by
  intro pins s σ H xs us Q I r h
  obtain ⟨a, ys, rfl, ha, q⟩ := h
  obtain ⟨its, rv, pl, hz⟩ := I.list (SqL.of ha)
  rw [Vals.ref1 r]
  have hle := rv.length
  refine call_tuple_list pl.isList (fun h2 kp => ?_) (by rw [List.size_toArray]; omega)
  have I1 : Inv X pins σ H { s with heap := h2 } := I.kept (t' := s.toks) kp
  have at2 : (h2.push { cls := .type "tuple", data := .seq its.toArray }).get? h2.objs.size = some { cls := .type "tuple", data := .seq its.toArray } := Heap.get?_push_size _ rfl
  refine ⟨.ref h2.objs.size, _, I1.laid (t' := s.toks) (a := h2.objs.size) (o := .frz { cls := .type "tuple", data := .seq its.toArray } (.tup ys)) (fun b o e => Heap.get?_push_of_some _ e) (Nat.le_refl _) ⟨at2, ?_⟩, rfl, q _ _ (I1.hok.fresh (Nat.le_refl _)) rfl⟩
  exact (show ObjOk X.prog X.w _ _ _ (.tup ys) from ⟨hz, its, rv, IsTup.new _ _⟩)
end
section
variable {P : Program} {w : World} {K : PySem.W.Frag} {mg : Str → Option Value} {base : Heap}
def sp_l_template (K : PySem.W.Frag) : Sp := fun vs H Q _ => ∃ (r : Addr) (sz : Nat) (A : Hp), vs = [.ref r, nv sz, nv 3, nv 3, nv 3] ∧ RowI K A H r ∧ 2 ≤ sz ∧ sz ≤ 3 ∧
  ∀ H' v rels, Kp r H H' → RowI K A H' r → IsTpl H' v sz rels → TplOk sz rels → 1 ≤ rels.length → Q v H'
theorem ok_l_template (T : TX K mg) : FnOk P w K mg base CX0 6 T.l_template.f T.l_template.fd ["_law_row", "_law_size", "_law_many", "_law_arity", "_law_most"] (sp_l_template K) := by
  refine T.l_template.F.ok sc_l_template (fun vs H Q E h => ?_) (fun cdv A0 outer s H vs Q E hr h => ?_)
  · obtain ⟨_, _, _, rfl, _⟩ := h
    rfl
  · obtain ⟨r, sz, A, rfl, hrow, hsz2, hsz3, q⟩ := h
    refine ⟨_, (pss_cons (ps_set (i := 5) sc_l_template.nd rfl (.inl rfl) (pe_lst pa_nil))
      (pss_cons (ps_set (i := 6) sc_l_template.nd rfl (.inl rfl) (pe_call (ok_l_pick T) (hr.mono (by decide)) (by rfl) T.l_pick.g T.l_pick.F.kp T.l_pick.b .nil pass0 (pa_cons (pv 0) (pa_cons (pe_op op_cat (pe_call (ok_l_named T) (hr.mono (by decide)) (by rfl) T.l_named.g T.l_named.F.kp T.l_named.b .nil pass0 (pa_cons (pv 1) pa_nil)) (pe_lst (pa_cons pe_non pa_nil))) pa_nil))))
      (pss_cons (ps_for PassesOwn.never rfl (pi_range1 (by rfl) T.n_range (pa_cons (pe_op op_add pe_int (pe_call (ok_l_taken T) (hr.mono (by decide)) (by rfl) T.l_taken.g T.l_taken.F.kp T.l_taken.b .nil pass0 (pa_cons (pv 0) (pa_cons (pv 2) pa_nil)))) pa_nil)) (pg_name (i := 7) sc_l_template.nd rfl (Or.inl rfl))
      (pss_cons (ps_set (i := 8) sc_l_template.nd rfl (.inl rfl) (pe_op op_add pe_int (pe_call (ok_l_taken T) (hr.mono (by decide)) (by rfl) T.l_taken.g T.l_taken.F.kp T.l_taken.b .nil pass0 (pa_cons (pv 0) (pa_cons (pv 3) pa_nil)))))
      (pss_one (ps_if (pt_cmpR op_notN (pv 6) pe_non (nomark _))
      (pss_one (ps_expr (pe_bm PySem.F.plainAttrs_list PySem.F.slot_list_append PySem.F.type_list_append mt_append (pv 5) (pa_cons (pe_call (ok_l_kept T) (hr.mono (by decide)) (by rfl) T.l_kept.g T.l_kept.F.kp T.l_kept.b .nil pass0 (pa_cons (pv 0) (pa_cons (pv 1) (pa_cons (pv 6) (pa_cons (pv 8) pa_nil))))) pa_nil))))
      (pss_one (ps_expr (pe_bm PySem.F.plainAttrs_list PySem.F.slot_list_append PySem.F.type_list_append mt_append (pv 5) (pa_cons (pe_call (ok_l_relation T) (hr.mono (by decide)) (by rfl) T.l_relation.g T.l_relation.F.kp T.l_relation.b .nil pass0 (pa_cons (pv 0) (pa_cons (pv 1) (pa_cons (pv 8) (pa_cons (pv 4) pa_nil))))) pa_nil))))))))
      (pss_one (ps_ret (pe_tup (pa_cons (pv 1) (pa_cons (pe_callTy call_tupL (by rfl) T.n_tuple bb_tuple (pa_cons (pv 5) pa_nil)) pa_nil)))))))), ?_⟩
    obtain ⟨rxs, hrx⟩ := hrow.at
    refine ⟨sz_le (by decide), fun fl nfl => ?_⟩
    have s1 := same_new (o := .lst []) nfl
    have hfl1 : upd H fl (.lst []) fl = some (.lst []) := upd_same
    have flr : fl ≠ r := ne_some nfl hrx
    have hrow1 := hrow.same s1
    generalize upd H fl (.lst []) = H1 at s1 hfl1 hrow1
    walk_at "rd"
    refine ⟨hsz2, hsz3, fun H2 l xs ops s2 nl hl hops hopk hlen => ?_⟩
    have hxl := paired_len hops
    refine ⟨sz_le (by show 1 ≤ 1000000; decide), fun u nu => ?_⟩
    have s3 := s2.trans (same_new (o := .lst [V.non]) nu)
    have hl3 := same_new (o := .lst [V.non]) nu _ _ hl
    have hu3 : upd H2 u (.lst [V.non]) u = some (.lst [V.non]) := upd_same
    have hops3 := paired_imp (S := IsOp (upd H2 u (.lst [V.non]))) (fun _ _ q => q.tx (tx_new nu)) hops
    generalize upd H2 u (.lst [V.non]) = H3 at s3 hl3 hu3 hops3
    refine ⟨l, u, xs, _, rfl, rfl, hl3, hu3, sz_le (by rw [List.length_singleton]; omega), fun c nc => ?_⟩
    have s4 := s3.trans (same_new (o := .lst (xs ++ [V.non])) nc)
    have hc4 : upd H3 c (.lst (xs ++ [V.non])) c = some (.lst (xs ++ [V.non])) := upd_same
    have hops4 := paired_imp (S := IsOp (upd H3 c (.lst (xs ++ [V.non])))) (fun _ _ q => q.tx (tx_new nc)) hops3
    have hrow4 := hrow1.same s4
    generalize upd H3 c (.lst (xs ++ [V.non])) = H4 at s4 hc4 hops4 hrow4
    have hfl4 := s4 _ _ hfl1
    obtain ⟨rxs4, hrx4⟩ := hrow4.at
    have hcr : c ≠ r := ne_some (none_same (s1.trans s3) nc) hrx
    refine ⟨r, c, A, true, xs ++ [V.non], rfl, hrow4, hc4, hcr, by simp, by rw [List.length_append, List.length_singleton]; omega, fun H5 k cv kp5 hrow5 hcv => ?_⟩
    have hcvo : cv = .non ∨ ∃ o, IsOp H5 cv o ∧ OpOk sz o := by
      by_cases hk : k < xs.length
      · rw [List.getElem?_append_left hk] at hcv
        obtain ⟨o, ho, hxo⟩ := paired_get hops4 hcv
        exact .inr ⟨o, hxo.tx (hrow4.tx kp5), hopk o (List.mem_of_getElem? ho)⟩
      · rw [List.getElem?_append_right (by omega)] at hcv
        exact .inl (List.mem_singleton.mp (List.mem_of_getElem? hcv))
    have kp15 : Kp r H H5 := (same_kp (s1.trans s4)).trans kp5
    have hfl5 := kp5 _ _ flr hfl4
    walk_at "rd"
    refine ⟨r, 3, A, rfl, hrow5, by decide, by decide, fun H6 v kp6 hrow6 hv => ?_⟩
    have hcv6 : cv = .non ∨ ∃ o, IsOp H6 cv o ∧ OpOk sz o := hcvo.imp id fun ⟨o, h1, h2⟩ => ⟨o, h1.tx (hrow5.tx kp6), h2⟩
    walk_at "rd"
    refine ⟨by omega, by omega, for_it (walk_nv (n := (1 + (v : Int)).toNat)) (fun i σ H' => ∃ fv rels y7 y8, σ = [some (.ref r), some (nv sz), some (nv 3), some (nv 3), some (nv 3), some (.ref fl), some cv, y7, y8] ∧ Kp r H H' ∧ RowI K A H' r ∧ H' fl = some (.lst fv) ∧ Paired (IsRel H') fv rels ∧ (∀ R ∈ rels, RelOk sz R) ∧ rels.length = i ∧ (cv = .non ∨ ∃ o, IsOp H' cv o ∧ OpOk sz o)) ?_ (fun _ _ _ _ _ => trivial) (fun i x σ H7 H8 hi q7 y => ?_) fun σ H7 q7 => ?_⟩
    · exact ⟨[], [], _, _, rfl, kp15.trans kp6, hrow6, kp6 _ _ flr hfl5, .nil, fun R h => absurd h List.not_mem_nil, rfl, hcv6⟩
    · obtain ⟨rfl, rfl⟩ := y
      obtain ⟨fv, rels, y7, y8, rfl, kp, hrow7, hfl7, hrels, hok, hle, hcv7⟩ := q7
      have hfvl := paired_len hrels
      walk_at "rd"
      refine ⟨r, 3, A, rfl, hrow7, by decide, by decide, fun H9 a kp9 hrow9 ha => ?_⟩
      have tx9 := hrow7.tx kp9
      have hfl9 := kp9 _ _ flr hfl7
      have hrels9 := paired_imp (S := IsRel H9) (fun _ _ q => q.tx tx9) hrels
      have ea : V.int (1 + (a : Int)) = nv (1 + a) := by unfold nv; congr 1
      have done : ∀ (H10 : Hp) (rv : V) (R : Rel), Kp r H9 H10 → RowI K A H10 r → IsRel H10 rv R → RelOk sz R → (cv = .non ∨ ∃ o, IsOp H10 cv o ∧ OpOk sz o) →
          H10 fl = some (.lst fv) ∧ fv.length < sizeLine ∧ Kp r H (upd H10 fl (.lst (fv ++ [rv]))) ∧ RowI K A (upd H10 fl (.lst (fv ++ [rv]))) r ∧ upd H10 fl (.lst (fv ++ [rv])) fl = some (.lst (fv ++ [rv])) ∧ Paired (IsRel (upd H10 fl (.lst (fv ++ [rv])))) (fv ++ [rv]) (rels ++ [R]) ∧ (∀ S ∈ rels ++ [R], RelOk sz S) ∧ (rels ++ [R]).length = i + 1 ∧ (cv = .non ∨ ∃ o, IsOp (upd H10 fl (.lst (fv ++ [rv]))) cv o ∧ OpOk sz o) := fun H10 rv R kp10 hrow10 hR hRo hcv10 => by
        have hfl10 := kp10 _ _ flr hfl9
        have tx11 := tx_lst (o := .lst (fv ++ [rv])) hfl10
        refine ⟨hfl10, small_lt (m := 1000) (by omega), kp_updN ((kp.trans kp9).trans kp10) nfl, hrow10.updN (none_same hrow.1 nfl) flr, upd_same, paired_snoc (hR.tx tx11) (paired_imp (fun _ _ q => (q.tx (hrow9.tx kp10)).tx tx11) hrels9), fun S hS => ?_, by rw [List.length_append, hle] <;> rfl, hcv10.imp id fun ⟨o, h1, h2⟩ => ⟨o, h1.tx tx11, h2⟩⟩
        rcases List.mem_append.mp hS with e | e
        · exact hok S e
        · rw [List.mem_singleton.mp e]; exact hRo
      rcases hcv7 with rfl | ⟨o, hio, oko⟩
      · walk_at "rd"
        refine ⟨.inl ⟨rfl, _, SqL.of hfl9⟩, ?_⟩
        walk_at "rd"
        refine ⟨r, sz, 1 + a, A, ?_, hrow9, hsz2, hsz3, by omega, by omega, fun H10 rv R kp10 hrow10 hR hR1 hRo => ?_⟩
        · show [V.ref r, nv sz, V.int (1 + (a : Int)), nv 3] = _
          rw [ea]
        · obtain ⟨d1, d2, d3⟩ := done H10 rv R kp10 hrow10 hR hRo (.inl rfl)
          exact ⟨fl, fv, rv, rfl, rfl, d1, d2, fv ++ [rv], rels ++ [R], _, _, rfl, d3⟩
      · obtain ⟨oa, ot, rfl, hoa, hot⟩ := id hio
        walk_at "rd"
        refine ⟨.inl ⟨rfl, _, SqL.of hfl9⟩, ?_⟩
        walk_at "rd"
        refine ⟨r, sz, 1 + a, .ref oa, o, A, ?_, hrow9, by omega, by omega, hio.tx tx9, oko, by omega, by omega, fun H10 rv R kp10 hrow10 hR hR1 hRo => ?_⟩
        · show [V.ref r, nv sz, V.ref oa, V.int (1 + (a : Int))] = _
          rw [ea]
        · obtain ⟨d1, d2, d3⟩ := done H10 rv R kp10 hrow10 hR hRo (.inr ⟨o, (hio.tx tx9).tx (hrow9.tx kp10), oko⟩)
          exact ⟨fl, fv, rv, rfl, rfl, d1, d2, fv ++ [rv], rels ++ [R], _, _, rfl, d3⟩
    · obtain ⟨fv, rels, y7, y8, rfl, kp, hrow7, hfl7, hrels, hok, hle, hcv7⟩ := q7
      walk_at "rd"
      refine ⟨fl, fv, rfl, hfl7, fun t nt => ?_⟩
      have s8 := same_new (o := .tup fv) nt
      refine ⟨sz_le (by show 2 ≤ 1000000; decide), fun p np => ?_⟩
      have s9 := s8.trans (same_new (o := .tup [nv sz, .ref t]) np)
      refine q _ (.ref p) rels (kp.trans (same_kp s9)) (hrow7.same s9) ⟨p, t, fv, rfl, upd_same, same_new np _ _ upd_same, paired_imp (fun _ _ q => q.tx (same_tx s9)) hrels⟩ ⟨by omega, by omega, by omega, hok⟩ (by omega)
end
end G
namespace G
open PySem PySem.Spec PyProof.Rows L2
local macro_rules | `(tactic| walk_at "rd") => `(tactic| repeat (first | (refine ⟨_, rfl, ?_⟩) | (refine ⟨_, _, rfl, rfl, ?_⟩) | (refine iteT ?_) | (refine iteF ?_) | (refine ⟨_, "tuple", _, true, rfl, .tup (.inl (by assumption)), kb_tt, ?_⟩) | (refine ⟨_, "tuple", _, true, rfl, .tup (by assumption), kb_tt, ?_⟩) | (refine ⟨false, _, _, rfl, sq_t (by assumption), ?_⟩) | (refine ⟨false, _, _, rfl, sq_r (by assumption), ?_⟩) | (refine ⟨true, _, _, rfl, sq_l (by assumption), ?_⟩) | (refine ⟨false, _, _, _, _, rfl, rfl, sq_t (by assumption), at0, ?_⟩) | (refine ⟨false, _, _, _, _, rfl, rfl, sq_t (by assumption), at1, ?_⟩) | (refine ⟨false, _, _, _, _, rfl, rfl, sq_t (by assumption), (by assumption), ?_⟩) | (refine ⟨false, _, _, _, _, rfl, rfl, sq_r (by assumption), (by assumption), ?_⟩) | (refine ⟨true, _, _, _, _, rfl, rfl, sq_l (by assumption), (by assumption), ?_⟩) | (refine ⟨rfl, ?_⟩)))
section
variable {P : Program} {w : World} {K : PySem.W.Frag} {mg : Str → Option Value} {base : Heap}
def sp_l_instance (K : PySem.W.Frag) : Sp := fun vs H Q _ => ∃ (r : Addr) (tv : V) (sz : Nat) (rels : List Rel) (n mo : Nat) (A : Hp), vs = [.ref r, tv, nv n, nv mo] ∧ RowI K A H r ∧ IsTpl H tv sz rels ∧ TplOk sz rels ∧ 1 ≤ rels.length ∧ 1 ≤ n ∧ n ≤ 16 ∧ mo ≤ 100 ∧
  ∀ H' v cs, Kp r H H' → RowI K A H' r → IsIns H' v n cs → (∀ c ∈ cs, ConOk n rels c) → cs.length ≤ mo → Q v H'
theorem ok_l_instance (T : TX K mg) : FnOk P w K mg base CX0 2 T.l_instance.f T.l_instance.fd ["_law_row", "_law_template_here", "_law_variables", "_law_most"] (sp_l_instance K) := by
  refine T.l_instance.F.ok sc_l_instance (fun vs H Q E h => ?_) (fun cdv A0 outer s H vs Q E hr h => ?_)
  · obtain ⟨_, _, _, _, _, _, _, rfl, _⟩ := h
    rfl
  · obtain ⟨r, tv, sz, rels, n, mo, A, rfl, hrow, htp, tok, hrl, hn1, hn16, hmo, q⟩ := h
    refine ⟨_, (pss_cons (ps_set (i := 4) sc_l_instance.nd rfl (.inl rfl) (pe_lst pa_nil))
      (pss_cons (ps_if (PW.pt (pw_and (pt_cmpR op_gt (pv 2) pe_int (nomark _)) (pw_and1 (pt_cmpR (op_neE (by exact hr.units0)) (pe_ix ix_any (pv 1) pe_int (fun _ _ => rfl)) (pe_tup pa_nil) (nomark _)))))
      (pss_one (ps_for PassesOwn.never rfl (pi_range1 (by rfl) T.n_range (pa_cons (pe_call (ok_l_taken T) (hr.mono (by decide)) (by rfl) T.l_taken.g T.l_taken.F.kp T.l_taken.b .nil pass0 (pa_cons (pv 0) (pa_cons (pe_op op_add (pv 3) pe_int) pa_nil))) pa_nil)) (pg_name (i := 5) sc_l_instance.nd rfl (Or.inl rfl))
      (pss_cons (ps_set (i := 6) sc_l_instance.nd rfl (.inl rfl) (pe_call (ok_l_taken T) (hr.mono (by decide)) (by rfl) T.l_taken.g T.l_taken.F.kp T.l_taken.b .nil pass0 (pa_cons (pv 0) (pa_cons (pe_callB call_lenS (by rfl) T.n_len bb_len (pa_cons (pe_ix ix_any (pv 1) pe_int (fun _ _ => rfl)) pa_nil)) pa_nil))))
      (pss_cons (ps_set (i := 7) sc_l_instance.nd rfl (.inl rfl) (pe_ix ix_any (pe_ix ix_any (pe_ix ix_any (pv 1) pe_int (fun _ _ => rfl)) (pv 6) (fun _ _ => rfl)) pe_int (fun _ _ => rfl)))
      (pss_one (ps_expr (pe_bm PySem.F.plainAttrs_list PySem.F.slot_list_append PySem.F.type_list_append mt_append (pv 4) (pa_cons (pe_tup (pa_cons (pv 6) (pa_cons (pe_callTy call_tupF (by rfl) T.n_tuple bb_tuple (pa_cons (pe_lc (own := [("_law_place", 8)]) rfl sc_l_instance.nd (pi_range1 (by rfl) T.n_range (pa_cons (pv 7) pa_nil)) (blkOk_by (N := N_l_instance) (sc := defScope s_l_instance) (by decide +kernel)) (fun _ _ _ _ _ => (pg_name (i := 8) sc_l_instance.nd rfl (Or.inl rfl))) (fun _ _ _ _ _ => pts_nil) (fun _ _ _ _ _ => (pe_call (ok_l_taken T) (hr.mono (by decide)) (by rfl) T.l_taken.g T.l_taken.F.kp T.l_taken.b .nil pass0 (pa_cons (pv 0) (pa_cons (pv 2) pa_nil))))) pa_nil)) pa_nil))) pa_nil))))))))
      pss_nil)
      (pss_one (ps_ret (pe_tup (pa_cons (pv 2) (pa_cons (pe_callTy call_tupL (by rfl) T.n_tuple bb_tuple (pa_cons (pv 4) pa_nil)) pa_nil))))))), ?_⟩
    obtain ⟨rxs, hrx⟩ := hrow.at
    obtain ⟨ta, tt, ts, rfl, hta, htt, hts⟩ := id htp
    have htl := paired_len hts
    refine ⟨sz_le (by decide), fun fl nfl => ?_⟩
    have s1 := same_new (o := .lst []) nfl
    have hfl1 : upd H fl (.lst []) fl = some (.lst []) := upd_same
    have flr : fl ≠ r := ne_some nfl hrx
    have hrow1 := hrow.same s1
    generalize upd H fl (.lst []) = H1 at s1 hfl1 hrow1
    have hta1 := s1 _ _ hta
    have htt1 := s1 _ _ htt
    walk_at "rd"
    refine ite_of (p := 0 < n) (by rw [decide_eq_true_iff]; omega) (fun _ => ?_) fun h => absurd hn1 h
    walk_at "rd"
    refine ⟨Nat.zero_le _, fun e ne => ?_⟩
    have s2 := s1.trans (same_new (o := .tup []) ne)
    have he2 : upd H1 e (.tup []) e = some (.tup []) := upd_same
    have hfl2 := same_new (o := .tup []) ne _ _ hfl1
    have hrow2 := hrow1.same (same_new (o := .tup []) ne)
    have htt2 := same_new (o := .tup []) ne _ _ htt1
    generalize upd H1 e (.tup []) = H2 at s2 he2 hfl2 hrow2 htt2
    refine ⟨false, tt, e, ts, rfl, rfl, sq_t htt2, sq_t he2, ?_⟩
    walk_at "rd"
    have hne : (if true = true then !ts.isEmpty else ts.isEmpty) = true ↔ True := by
      cases ts with
      | nil => simp at htl; omega
      | cons a b => simp
    refine ite_of hne (fun _ => ?_) fun h => absurd trivial h
    walk_at "rd"
    refine ⟨r, (mo : Int) + 1, A, rfl, hrow2, by omega, by omega, fun H3 v kp3 hrow3 hv => ?_⟩
    have htp3 := (htp.tx (same_tx s2)).tx (hrow2.tx kp3)
    have hfl3 := kp3 _ _ flr hfl2
    walk_at "rd"
    refine ⟨by omega, by omega, for_it (walk_nv (n := v)) (fun i σ H' => ∃ fv cs y5 y6 y7, σ = [some (.ref r), some (.ref ta), some (nv n), some (nv mo), some (.ref fl), y5, y6, y7, none] ∧ Kp r H H' ∧ RowI K A H' r ∧ IsTpl H' (.ref ta) sz rels ∧ H' fl = some (.lst fv) ∧ Paired (IsCon H') fv cs ∧ (∀ c ∈ cs, ConOk n rels c) ∧ cs.length = i) ?_ (fun _ _ _ _ _ => trivial) (fun i x σ H4 H5 hi q4 y => ?_) fun σ H4 q4 => ?_⟩
    · exact ⟨[], [], _, _, _, rfl, (same_kp s2).trans kp3, hrow3, htp3, hfl3, .nil, fun c h => absurd h List.not_mem_nil, rfl⟩
    · obtain ⟨rfl, rfl⟩ := y
      obtain ⟨fv, cs, y5, y6, y7, rfl, kp, hrow4, htp4, hfl4, hcs, hok, hle⟩ := q4
      obtain ⟨_, tt4, ts4, e4, hta4, htt4, hts4⟩ := id htp4
      cases e4
      have htl4 := paired_len hts4
      have hfvl := paired_len hcs
      have hfew := tok.few
      walk_at "rd"
      refine ⟨r, (ts4.length : Nat), A, rfl, hrow4, by omega, by omega, fun H6 wh kp6 hrow6 hwh => ?_⟩
      have tx6 := hrow4.tx kp6
      have kp06 := kp.trans kp6
      obtain ⟨tt6, ts6, hta6, htt6, hts6⟩ : ∃ tt6 ts6, H6 ta = some (.tup [nv sz, .ref tt6]) ∧ H6 tt6 = some (.tup ts6) ∧ Paired (IsRel H6) ts6 rels := ⟨tt4, ts4, tx6.t hta4, tx6.t htt4, paired_imp (fun _ _ q => q.tx tx6) hts4⟩
      have hwr : wh < rels.length := by omega
      obtain ⟨rv, hrv, ra, rt, rts, rfl, hra, hrt, hrw⟩ := paired_getR hts6 (List.getElem?_eq_getElem hwr)
      have hat := at_nv hrv
      have hR := List.getElem?_eq_getElem hwr
      have hro := tok.rel _ (List.getElem_mem hwr)
      generalize rels[wh] = R at hR hro hra hrt hrw
      have hRhi := hro.hi
      have hfl6 := kp6 _ _ flr hfl4
      walk_at "rd"
      refine ⟨.inl ⟨rfl, _, SqL.of hfl6⟩, ?_⟩
      walk_at "rd"
      refine ⟨by omega, by omega, fun D0 nD0 => lc_KE (walk_nv (n := R.1)) (fun b => b = r) (fun H' => RowI K A H' r) (fun i acc _ => ∃ sc : List Nat, acc = sc.map nv ∧ sc.length = i ∧ Lt n sc ∧ i ≤ R.1) nD0 (fun e => ?_) yfn_s (fun i acc H H' _ h => h) (fun i acc _ h => ?_) (fun H7 H8 hb h7 => ?_) (fun _ _ _ => trivial) ⟨[], rfl, rfl, fun x h => absurd h List.not_mem_nil, Nat.zero_le _⟩ hrow6 ?_ ?_⟩
      · obtain ⟨xs, hx⟩ := hrow6.at
        rw [e, hx] at nD0
        cases nD0
      · obtain ⟨sc, h1, h2, h3, h4⟩ := h
        rw [h1, List.length_map, h2]
        exact small_lt (m := 1000) (by omega)
      · obtain ⟨a1, a2, sa, ns, k, st, rs, a3, a4, a5, a6⟩ := h7
        obtain ⟨f1, f2⟩ := hrow6.fresh nD0
        exact ⟨fun b o eb => by rw [hb b (ne_of_none eb f1)]; exact a1 b o eb, a2, sa, ns, k, st, rs, a3, a4, by rw [hb r f2.symm]; exact a5, a6⟩
      · intro i2 x H7 H8 acc Q' N hi2 ke7 hrow7 hDacc hacc y kq _
        obtain ⟨rfl, rfl⟩ := y
        obtain ⟨sc, h1, h2, h3, h4⟩ := hacc
        refine ⟨rfl, lcY ?_⟩
        walk_at "rd"
        refine ⟨r, (n : Int), A, rfl, hrow7, by omega, by omega, fun H9 u kp9 hrow9 hu => ?_⟩
        refine kq _ _ (fun b o hb e => kp9 b o hb e) (hrow7.tx kp9) hrow9 ⟨sc ++ [u], by rw [h1, List.map_append] <;> rfl, by rw [List.length_append, h2] <;> rfl, fun z hz => ?_, by omega⟩
        rcases List.mem_append.mp hz with e | e
        · exact h3 z e
        · rw [List.mem_singleton.mp e]; omega
      · intro H7 acc ke7 hrow7 hD0 hacc
        obtain ⟨sc, h1, h2, h3, h4⟩ := hacc
        have kp7 : Kp r H6 H7 := fun b o hb e => ke7 b o hb e
        have tx7 := hrow6.tx kp7
        refine ⟨D0, acc, rfl, hD0, fun s ob ns hob => ?_⟩
        have s8 := same_new (o := .frz ob (.tup acc)) ns
        have hs8 : upd H7 s (.frz ob (.tup acc)) s = some (.frz ob (.tup acc)) := upd_same
        generalize upd H7 s (.frz ob (.tup acc)) = H8 at s8 hs8
        refine ⟨sz_le (by show 2 ≤ 1000000; decide), fun p np => ?_⟩
        have s9 := s8.trans (same_new (o := .tup [nv wh, .ref s]) np)
        have hs9 := same_new (o := .tup [nv wh, .ref s]) np _ _ hs8
        have hp9 : upd H8 p (.tup [nv wh, .ref s]) p = some (.tup [nv wh, .ref s]) := upd_same
        generalize upd H8 p (.tup [nv wh, .ref s]) = H9 at s9 hs9 hp9
        have hfl9 := s9 _ _ (kp7 _ _ flr hfl6)
        have tx9 := tx7.trans (same_tx s9)
        have tx10 := tx_lst (o := .lst (fv ++ [.ref p])) hfl9
        have hcon : IsCon H9 (.ref p) (wh, sc) := ⟨p, .ref s, rfl, hp9, ⟨s, ob, rfl, hob, by rw [hs9, h1]⟩⟩
        refine ⟨fl, fv, _, rfl, rfl, hfl9, small_lt (m := 1000) (by omega), ?_⟩
        refine ⟨fv ++ [.ref p], cs ++ [(wh, sc)], _, _, _, rfl, kp_updN ((kp06.trans kp7).trans (same_kp s9)) nfl, (hrow7.same s9).updN (none_same hrow.1 nfl) flr, (((htp4.tx tx6).tx tx9).tx tx10), upd_same, paired_snoc (hcon.tx tx10) (paired_imp (fun _ _ q => ((q.tx tx6).tx tx9).tx tx10) hcs), fun c hc => ?_, by rw [List.length_append, hle] <;> rfl⟩
        rcases List.mem_append.mp hc with e | e
        · exact hok c e
        · rw [List.mem_singleton.mp e]
          exact ⟨R, hR, h2, h3⟩
    · obtain ⟨fv, cs, y5, y6, y7, rfl, kp, hrow4, htp4, hfl4, hcs, hok, hle⟩ := q4
      walk_at "rd"
      refine ⟨fl, fv, rfl, hfl4, fun t nt => ?_⟩
      have s8 := same_new (o := .tup fv) nt
      refine ⟨sz_le (by show 2 ≤ 1000000; decide), fun p np => ?_⟩
      have s9 := s8.trans (same_new (o := .tup [nv n, .ref t]) np)
      have hle2 : cs.length = v := hle
      exact q _ (.ref p) cs (kp.trans (same_kp s9)) (hrow4.same s9) ⟨p, t, fv, rfl, upd_same, same_new np _ _ upd_same, paired_imp (fun _ _ q => q.tx (same_tx s9)) hcs⟩ hok (by omega)
end
end G
namespace G
open PySem PySem.Spec PyProof.Rows L2
local macro_rules | `(tactic| walk_at "rd") => `(tactic| repeat (first | (refine ⟨_, rfl, ?_⟩) | (refine ⟨_, _, rfl, rfl, ?_⟩) | (refine iteT ?_) | (refine iteF ?_) | (refine ⟨_, "tuple", _, true, rfl, .tup (.inl (by assumption)), kb_tt, ?_⟩) | (refine ⟨_, "tuple", _, true, rfl, .tup (by assumption), kb_tt, ?_⟩) | (refine ⟨false, _, _, rfl, sq_t (by assumption), ?_⟩) | (refine ⟨false, _, _, rfl, sq_r (by assumption), ?_⟩) | (refine ⟨true, _, _, rfl, sq_l (by assumption), ?_⟩) | (refine ⟨false, _, _, _, _, rfl, rfl, sq_t (by assumption), at0, ?_⟩) | (refine ⟨false, _, _, _, _, rfl, rfl, sq_t (by assumption), at1, ?_⟩) | (refine ⟨false, _, _, _, _, rfl, rfl, sq_t (by assumption), (by assumption), ?_⟩) | (refine ⟨false, _, _, _, _, rfl, rfl, sq_r (by assumption), (by assumption), ?_⟩) | (refine ⟨true, _, _, _, _, rfl, rfl, sq_l (by assumption), (by assumption), ?_⟩) | (refine ⟨rfl, ?_⟩)))
section
variable {P : Program} {w : World} {K : PySem.W.Frag} {mg : Str → Option Value} {base : Heap}
def sp_l_meets : Sp := fun vs H Q _ => ∃ (tv : V) (ca va : Addr) (sz : Nat) (rels : List Rel) (k : Bool) (cvs : List V) (cs : List Con) (l : List Nat), vs = [tv, .ref ca, .ref va] ∧ IsTpl H tv sz rels ∧ TplOk sz rels ∧ Sq k H ca cvs ∧ Paired (IsCon H) cvs cs ∧ H va = some (.tup (l.map nv)) ∧
  (∀ c ∈ cs, (∃ R, rels[c.1]? = some R) ∧ Lt l.length c.2 ∧ c.2.length ≤ 16) ∧ ∀ H' b, Same H H' → (b = true ↔ ∀ c ∈ cs, SatI rels c (gd l)) → Q (.bl b) H'
theorem ok_l_meets (T : TX K mg) : FnOk P w K mg base CX0 1 T.l_meets.f T.l_meets.fd ["_law_template_here", "_law_constraints", "_law_values"] sp_l_meets := by
  refine T.l_meets.F.ok sc_l_meets (fun vs H Q E h => ?_) (fun cdv A0 outer s H vs Q E hr h => ?_)
  · obtain ⟨_, _, _, _, _, _, _, _, _, rfl, _⟩ := h
    rfl
  · obtain ⟨tv, ca, va, sz, rels, k, cvs, cs, l, rfl, htp, tok, hca, hcs, hva, hcon, q⟩ := h
    refine ⟨_, (pss_cons (ps_for PassesOwn.never rfl (pi_sq (pv 1)) (pg_name (i := 3) sc_l_meets.nd rfl (Or.inl rfl))
      (pss_one (ps_if (pt_cmpR (op_notInR (by exact hr.units)) (pe_callTy call_tupL (by rfl) T.n_tuple bb_tuple (pa_cons (pe_lc (own := [("_law_name", 4)]) rfl sc_l_meets.nd (pi_sq (pe_ix ix_any (pv 3) pe_int (fun _ _ => rfl))) (blkOk_by (N := N_l_meets) (sc := defScope s_l_meets) (by decide +kernel)) (fun _ _ _ _ _ => (pg_name (i := 4) sc_l_meets.nd rfl (Or.inl rfl))) (fun _ _ _ _ _ => pts_nil) (fun _ _ _ _ _ => (pe_ix ix_any (pv 2) (pv 4) (fun _ _ => rfl)))) pa_nil)) (pe_ix ix_any (pe_ix ix_any (pe_ix ix_any (pv 0) pe_int (fun _ _ => rfl)) (pe_ix ix_any (pv 3) pe_int (fun _ _ => rfl)) (fun _ _ => rfl)) pe_int (fun _ _ => rfl)) (by rfl))
      (pss_one (ps_ret pe_bl))
      pss_nil)))
      (pss_one (ps_ret pe_bl))), ?_⟩
    have hcl := paired_len hcs
    obtain ⟨ta, tt, ts, rfl, hta, htt, hts⟩ := id htp
    refine ⟨_, rfl, k, ca, cvs, rfl, hca, fun J wJ => for_it wJ (fun i σ H' => ∃ y3, σ = [some (.ref ta), some (.ref ca), some (.ref va), y3, none] ∧ Same H H' ∧ ∀ c ∈ cs.take i, SatI rels c (gd l)) ⟨_, rfl, Same.refl _, fun c h => absurd h (by rw [List.take_zero]; exact List.not_mem_nil)⟩ (fun i σ H' _ q => ?_) (fun i x σ H1 H2 hi q1 y => ?_) fun σ H1 q1 => ?_⟩
    · obtain ⟨_, _, sm, _⟩ := q
      exact hca.same sm
    · obtain ⟨y3, rfl, sm, hsat⟩ := q1
      obtain ⟨s2, hx⟩ := yat_same y
      have sm2 := sm.trans s2
      obtain ⟨c, hc, a, sv, rfl, ha, sa, ob, rfl, hob, hsa⟩ := paired_get (paired_imp (fun _ _ q => q.tx (same_tx sm2)) hcs) hx
      obtain ⟨⟨R, hR⟩, hlt, hlen⟩ := hcon c (List.mem_of_getElem? hc)
      have hrd : Rd H2 sa (.tup (c.2.map nv)) := .inr ⟨ob, hsa⟩
      have hva2 := sm2 _ _ hva
      walk_at "rd"
      refine fun J2 w2 D0 nD0 => lc_F w2 (fun j => ((c.2.map (gd l)).map nv).take j) List.take_zero (fun j _ => take_lt (by rw [List.length_map, List.length_map]; exact hlen) (by decide) j) nD0 yat_s (fun H' s => sq_r (rd_same s hrd)) ?_ ?_
      · intro j x H3 H4 Q' N hj s3 y kq _
        obtain ⟨s4, hx⟩ := yat_same y
        obtain ⟨v, hv, rfl⟩ := nv_at hx
        have hva4 := s4 _ _ (s3 _ _ hva2)
        have hat := at_nv (nv_get (gd_get (D := l) (hlt v (List.mem_of_getElem? hv))))
        refine ⟨rfl, lcY ?_⟩
        walk_at "rd"
        refine kq _ _ (Same.refl _) ?_
        refine take_snoc ?_
        rw [List.getElem?_map, List.getElem?_map, hv] <;> rfl
      · intro H3 s3 hD0
        have e : ((c.2.map (gd l)).map nv).take (c.2.map nv).length = (c.2.map (gd l)).map nv := by
          rw [List.take_of_length_le]
          simp
        rw [e] at hD0
        refine ⟨D0, _, rfl, hD0, fun t nt => ?_⟩
        have s4 := s3.trans (same_new (o := .tup ((c.2.map (gd l)).map nv)) nt)
        have ht : upd H3 t (.tup ((c.2.map (gd l)).map nv)) t = some (.tup ((c.2.map (gd l)).map nv)) := upd_same
        generalize upd H3 t (.tup ((c.2.map (gd l)).map nv)) = H4 at s4 ht
        have sm4 := sm2.trans s4
        obtain ⟨rv, hrv, ra, rt, rts, rfl, hra, hrt, hrw⟩ := paired_getR (paired_imp (fun _ _ q => q.tx (same_tx sm4)) hts) hR
        have hta4 := sm4 _ _ hta
        have htt4 := sm4 _ _ htt
        have ha4 := s4 _ _ ha
        have hat := at_nv hrv
        have hat0 : atI [nv c.1, V.ref sa] 0 = some (nv c.1) := rfl
        walk_at "rd"
        refine ⟨false, rt, rts, c.2.map (gd l), R.2, rfl, ⟨t, rfl, ht⟩, sq_t hrt, hrw, ?_⟩
        rw [if_pos rfl]
        walk_at "rd"
        have hsi : SatI rels c (gd l) ↔ c.2.map (gd l) ∈ R.2 := ⟨fun ⟨R', h, q⟩ => by rw [hR] at h; rw [Option.some.inj h]; exact q, fun q => ⟨R, hR, q⟩⟩
        refine ite_of (p := c.2.map (gd l) ∉ R.2) (by simp) (fun hno => ?_) fun hyes => ?_
        · walk_at "rd"
          refine q _ _ sm4 ⟨fun h => Bool.noConfusion h, fun h => absurd (hsi.mp (h c (List.mem_of_getElem? hc))) hno⟩
        · refine ⟨_, rfl, sm4, fun d hd => ?_⟩
          rw [take_snoc hc] at hd
          rcases List.mem_append.mp hd with e | e
          · exact hsat d e
          · rw [List.mem_singleton.mp e]
            exact hsi.mpr (Classical.not_not.mp hyes)
    · obtain ⟨y3, rfl, sm, hsat⟩ := q1
      rw [hcl, List.take_length] at hsat
      walk_at "rd"
      exact q _ _ sm ⟨fun _ => hsat, fun _ => rfl⟩
end
end G
namespace G
open PySem PySem.Spec PyProof.Rows L2
local macro_rules | `(tactic| walk_at "rd") => `(tactic| repeat (first | (refine ⟨_, rfl, ?_⟩) | (refine ⟨_, _, rfl, rfl, ?_⟩) | (refine iteT ?_) | (refine iteF ?_) | (refine ⟨_, "tuple", _, true, rfl, .tup (.inl (by assumption)), kb_tt, ?_⟩) | (refine ⟨_, "tuple", _, true, rfl, .tup (by assumption), kb_tt, ?_⟩) | (refine ⟨false, _, _, rfl, sq_t (by assumption), ?_⟩) | (refine ⟨false, _, _, rfl, sq_r (by assumption), ?_⟩) | (refine ⟨true, _, _, rfl, sq_l (by assumption), ?_⟩) | (refine ⟨false, _, _, _, _, rfl, rfl, sq_t (by assumption), at0, ?_⟩) | (refine ⟨false, _, _, _, _, rfl, rfl, sq_t (by assumption), at1, ?_⟩) | (refine ⟨false, _, _, _, _, rfl, rfl, sq_t (by assumption), (by assumption), ?_⟩) | (refine ⟨false, _, _, _, _, rfl, rfl, sq_r (by assumption), (by assumption), ?_⟩) | (refine ⟨true, _, _, _, _, rfl, rfl, sq_l (by assumption), (by assumption), ?_⟩) | (refine ⟨rfl, ?_⟩)))
def mxN : List Nat → Nat
  | [] => 0
  | x :: r => max x (mxN r)
theorem le_mx {y : Nat} : ∀ {l : List Nat}, y ∈ l → y ≤ mxN l
  | x :: r, h => by
    rcases List.mem_cons.mp h with e | e
    · rw [e]; exact Nat.le_max_left _ _
    · exact Nat.le_trans (le_mx e) (Nat.le_max_right _ _)
theorem mx_le {m : Nat} : ∀ {l : List Nat}, (∀ y ∈ l, y ≤ m) → mxN l ≤ m
  | [], _ => Nat.zero_le _
  | x :: r, h => Nat.max_le.mpr ⟨h x List.mem_cons_self, mx_le fun y hy => h y (List.mem_cons_of_mem _ hy)⟩
theorem mx_eq {l : List Nat} {m : Nat} (h1 : m ∈ l) (h2 : ∀ y ∈ l, y ≤ m) : mxN l = m := Nat.le_antisymm (mx_le h2) (le_mx h1)
noncomputable def goodB (rels : List Rel) (due : List Con) (l : List Nat) : Bool := @decide (∀ c ∈ due, SatI rels c (gd l)) (Classical.propDecidable _)
theorem goodB_iff {rels : List Rel} {due : List Con} {l : List Nat} : goodB rels due l = true ↔ ∀ c ∈ due, SatI rels c (gd l) := @decide_eq_true_iff _ (Classical.propDecidable _)
def dueL (cs : List Con) (i : Nat) : List Con := cs.filter fun c => decide (mxN c.2 = i)
theorem mem_due {cs : List Con} {i : Nat} {c : Con} : c ∈ dueL cs i ↔ c ∈ cs ∧ mxN c.2 = i := by
  unfold dueL
  rw [List.mem_filter, decide_eq_true_iff]
noncomputable def growT (sz : Nat) (rels : List Rel) (due : List Con) (t : List Nat) : List (List Nat) := (extN sz t).filter (goodB rels due)
def SolL (sz : Nat) (rels : List Rel) (cs : List Con) (i : Nat) (S : List (List Nat)) : Prop := ∀ l, l ∈ S ↔ l.length = i ∧ Lt sz l ∧ ∀ c ∈ cs, mxN c.2 < i → SatI rels c (gd l)
theorem gd_app {t : List Nat} {v x : Nat} (h : x < t.length) : gd (t ++ [v]) x = gd t x := by
  unfold gd
  rw [List.getD_eq_getElem?_getD, List.getD_eq_getElem?_getD, List.getElem?_append_left h]
theorem sat_app {rels : List Rel} {c : Con} {t : List Nat} {v : Nat} (h : mxN c.2 < t.length) : SatI rels c (gd (t ++ [v])) ↔ SatI rels c (gd t) := by
  have e : c.2.map (gd (t ++ [v])) = c.2.map (gd t) := by
    apply List.map_congr_left
    intro x hx
    exact gd_app (Nat.lt_of_le_of_lt (le_mx hx) h)
  unfold SatI
  rw [e]
theorem mem_grow {sz : Nat} {rels : List Rel} {due : List Con} {t l : List Nat} : l ∈ growT sz rels due t ↔ ∃ v, v < sz ∧ l = t ++ [v] ∧ ∀ c ∈ due, SatI rels c (gd l) := by
  unfold growT extN
  rw [List.mem_filter, List.mem_map, goodB_iff]
  constructor
  · rintro ⟨⟨v, hv, rfl⟩, h⟩
    exact ⟨v, List.mem_range.mp hv, rfl, h⟩
  · rintro ⟨v, hv, rfl, h⟩
    exact ⟨⟨v, List.mem_range.mpr hv, rfl⟩, h⟩
theorem SolL.nil {sz : Nat} {rels : List Rel} {cs : List Con} : SolL sz rels cs 0 [[]] := fun l => by
  rw [List.mem_singleton]
  constructor
  · intro h
    rw [h]
    exact ⟨rfl, fun x hx => absurd hx List.not_mem_nil, fun c _ h => absurd h (Nat.not_lt_zero _)⟩
  · intro h
    exact List.eq_nil_of_length_eq_zero h.1
theorem SolL.step {sz i : Nat} {rels : List Rel} {cs : List Con} {S : List (List Nat)} (h : SolL sz rels cs i S) : SolL sz rels cs (i + 1) (S.flatMap (growT sz rels (dueL cs i))) := fun l => by
  rw [List.mem_flatMap]
  constructor
  · rintro ⟨t, ht, hl⟩
    obtain ⟨v, hv, rfl, hg⟩ := mem_grow.mp hl
    obtain ⟨h1, h2, h3⟩ := (h t).mp ht
    refine ⟨by rw [List.length_append, h1] <;> rfl, fun x hx => ?_, fun c hc hm => ?_⟩
    · rcases List.mem_append.mp hx with e | e
      · exact h2 x e
      · rw [List.mem_singleton.mp e]; exact hv
    · by_cases e : mxN c.2 = i
      · exact hg c (mem_due.mpr ⟨hc, e⟩)
      · exact (sat_app (by omega)).mpr (h3 c hc (by omega))
  · rintro ⟨h1, h2, h3⟩
    have hne : l ≠ [] := fun e => by rw [e] at h1; cases h1
    obtain ⟨t, v, rfl⟩ : ∃ t v, l = t ++ [v] := ⟨l.dropLast, l.getLast hne, (List.dropLast_concat_getLast hne).symm⟩
    have htl : t.length = i := by
      rw [List.length_append, List.length_singleton] at h1
      omega
    refine ⟨t, (h t).mpr ⟨htl, fun x hx => h2 x (List.mem_append_left _ hx), fun c hc hm => ?_⟩, mem_grow.mpr ⟨v, h2 v (List.mem_append_right _ (List.mem_singleton.mpr rfl)), rfl, fun c hc => ?_⟩⟩
    · exact (sat_app (by omega)).mp (h3 c hc (by omega))
    · obtain ⟨h4, h5⟩ := mem_due.mp hc
      exact h3 c h4 (by omega)
theorem SolL.iff {sz n : Nat} {rels : List Rel} {cs : List Con} {S : List (List Nat)} (h : SolL sz rels cs n S) (hc : ∀ c ∈ cs, c.2 ≠ [] ∧ Lt n c.2) : S = [] ↔ ¬ SolvI sz n rels cs := by
  constructor
  · rintro rfl ⟨a, h1, h2⟩
    have hgd : ∀ x, x < n → gd ((List.range n).map a) x = a x := fun x hx => gd_some (by rw [List.getElem?_map, List.getElem?_range hx] <;> rfl)
    have := (h ((List.range n).map a)).mpr ⟨by rw [List.length_map, List.length_range], fun x hx => ?_, fun c hcm _ => ?_⟩
    · cases this
    · obtain ⟨i, hi, rfl⟩ := List.mem_map.mp hx
      exact h1 i (List.mem_range.mp hi)
    · have e : c.2.map (gd ((List.range n).map a)) = c.2.map a := by
        apply List.map_congr_left
        intro x hx
        exact hgd x ((hc c hcm).2 x hx)
      have := h2 c hcm
      unfold SatI at this ⊢
      rw [e]
      exact this
  · intro hno
    cases S with
    | nil => rfl
    | cons l r =>
      obtain ⟨h1, h2, h3⟩ := (h l).mp List.mem_cons_self
      refine absurd ⟨gd l, fun i hi => h2 _ (gd_mem (by omega)), fun c hcm => h3 c hcm ?_⟩ hno
      obtain ⟨h4, h5⟩ := hc c hcm
      obtain ⟨x, hx⟩ := List.exists_mem_of_ne_nil _ h4
      have h6 : mxN c.2 ≤ n - 1 := mx_le fun y hy => by have := h5 y hy; omega
      have := h5 x hx
      omega
theorem grow_len {sz : Nat} {rels : List Rel} {due : List Con} {t : List Nat} : (growT sz rels due t).length ≤ sz := by
  have := List.length_filter_le (goodB rels due) (extN sz t)
  rw [extN_len] at this
  exact this
theorem flatG_len {sz : Nat} {rels : List Rel} {due : List Con} : ∀ {S : List (List Nat)}, (S.flatMap (growT sz rels due)).length ≤ S.length * sz
  | [] => by simp
  | t :: S => by
    have h1 := grow_len (sz := sz) (rels := rels) (due := due) (t := t)
    have h2 := flatG_len (sz := sz) (rels := rels) (due := due) (S := S)
    rw [List.flatMap_cons, List.length_append, List.length_cons, Nat.add_mul, Nat.one_mul]
    omega
/-- a part of a grown row list -/
noncomputable def partG (rels : List Rel) (due : List Con) (t : List Nat) (j : Nat) : List (List Nat) := ((List.range j).map fun v => t ++ [v]).filter (goodB rels due)
theorem partG_zero {rels : List Rel} {due : List Con} {t : List Nat} : partG rels due t 0 = [] := rfl
theorem partG_all {sz : Nat} {rels : List Rel} {due : List Con} {t : List Nat} : partG rels due t sz = growT sz rels due t := rfl
theorem partG_succ {rels : List Rel} {due : List Con} {t : List Nat} {j : Nat} : partG rels due t (j + 1) = if goodB rels due (t ++ [j]) = true then partG rels due t j ++ [t ++ [j]] else partG rels due t j := by
  unfold partG
  rw [range_snoc, List.map_append, List.filter_append, List.map_singleton]
  cases h : goodB rels due (t ++ [j]) with
  | true => simp [h]
  | false => simp [h]
theorem partG_len {rels : List Rel} {due : List Con} {t : List Nat} {j : Nat} : (partG rels due t j).length ≤ j := by
  have := List.length_filter_le (goodB rels due) ((List.range j).map fun v => t ++ [v])
  rw [List.length_map, List.length_range] at this
  exact this
theorem flatG_snoc {sz : Nat} {rels : List Rel} {due : List Con} {S : List (List Nat)} {i : Nat} {t : List Nat} (h : S[i]? = some t) : (S.take (i + 1)).flatMap (growT sz rels due) = (S.take i).flatMap (growT sz rels due) ++ growT sz rels due t := by
  rw [take_snoc h, List.flatMap_append, List.flatMap_cons, List.flatMap_nil, List.append_nil]
theorem due_snoc {cs : List Con} {i k : Nat} {c : Con} (h : cs[k]? = some c) : dueL (cs.take (k + 1)) i = if mxN c.2 = i then dueL (cs.take k) i ++ [c] else dueL (cs.take k) i := by
  rw [take_snoc h]
  unfold dueL
  rw [List.filter_append]
  by_cases e : mxN c.2 = i
  · simp [e]
  · simp [e]
end G
namespace G
open PySem PySem.Spec PyProof.Rows L2
local macro_rules | `(tactic| walk_at "rd") => `(tactic| repeat (first | (refine ⟨_, rfl, ?_⟩) | (refine ⟨_, _, rfl, rfl, ?_⟩) | (refine iteT ?_) | (refine iteF ?_) | (refine ⟨_, "tuple", _, true, rfl, .tup (.inl (by assumption)), kb_tt, ?_⟩) | (refine ⟨_, "tuple", _, true, rfl, .tup (by assumption), kb_tt, ?_⟩) | (refine ⟨false, _, _, rfl, sq_t (by assumption), ?_⟩) | (refine ⟨false, _, _, rfl, sq_r (by assumption), ?_⟩) | (refine ⟨true, _, _, rfl, sq_l (by assumption), ?_⟩) | (refine ⟨false, _, _, _, _, rfl, rfl, sq_t (by assumption), at0, ?_⟩) | (refine ⟨false, _, _, _, _, rfl, rfl, sq_t (by assumption), at1, ?_⟩) | (refine ⟨false, _, _, _, _, rfl, rfl, sq_t (by assumption), (by assumption), ?_⟩) | (refine ⟨false, _, _, _, _, rfl, rfl, sq_r (by assumption), (by assumption), ?_⟩) | (refine ⟨true, _, _, _, _, rfl, rfl, sq_l (by assumption), (by assumption), ?_⟩) | (refine ⟨rfl, ?_⟩)))
theorem Rws.kp {H H' : Hp} {l : Addr} {xs ys : List V} {rs : List (List Nat)} (h : Rws H xs rs) (k : Kp l H H') (e : H l = some (.lst ys)) : Rws H' xs rs := h.tx fun b o t eb => by
  refine k b o (fun q => ?_) eb
  rw [q, e] at eb
  cases eb
  rcases t with ⟨_, z⟩ | ⟨_, _, z⟩
  · cases z
  · cases z
theorem tx_kp {H H' : Hp} {l : Addr} {ys : List V} (k : Kp l H H') (e : H l = some (.lst ys)) : Tx H H' := fun b o t eb => by
  refine k b o (fun q => ?_) eb
  rw [q, e] at eb
  cases eb
  rcases t with ⟨_, z⟩ | ⟨_, _, z⟩
  · cases z
  · cases z
section
variable {P : Program} {w : World} {K : PySem.W.Frag} {mg : Str → Option Value} {base : Heap}
def sp_l_solutions : Sp := fun vs H Q _ => ∃ (tv iv : V) (sz : Nat) (rels : List Rel) (n : Nat) (cs : List Con), vs = [tv, iv] ∧ IsTpl H tv sz rels ∧ TplOk sz rels ∧ sz ≤ 3 ∧ IsIns H iv n cs ∧ n ≤ 4 ∧ cs.length ≤ 200 ∧ (∀ c ∈ cs, ConOk n rels c) ∧
  ∀ H' l xs, Same H H' → H l = none → H' l = some (.lst xs) → (xs = [] ↔ ¬ SolvI sz n rels cs) → Q (.ref l) H'
theorem ok_l_solutions (T : TX K mg) : FnOk P w K mg base CX0 2 T.l_solutions.f T.l_solutions.fd ["_law_template_here", "_law_instance_here"] sp_l_solutions := by
  refine T.l_solutions.F.ok sc_l_solutions (fun vs H Q E h => ?_) (fun cdv A0 outer s H vs Q E hr h => ?_)
  · obtain ⟨_, _, _, _, _, _, rfl, _⟩ := h
    rfl
  · obtain ⟨tv, iv, sz, rels, n, cs, rfl, htp, tok, hsz, ⟨ia, ic, cvs, rfl, hia, hic, hcs⟩, hn, hfew, hcon, q⟩ := h
    refine ⟨_, (pss_cons (ps_set (i := 2) sc_l_solutions.nd rfl (.inl rfl) (pe_lst (pa_cons (pe_tup pa_nil) pa_nil)))
      (pss_cons (ps_for PassesOwn.never rfl (pi_range1 (by rfl) T.n_range (pa_cons (pe_ix ix_any (pv 1) pe_int (fun _ _ => rfl)) pa_nil)) (pg_name (i := 3) sc_l_solutions.nd rfl (Or.inr rfl))
      (pss_cons (ps_setLc (i := 4) (own := [("_law_told", 6)]) rfl sc_l_solutions.nd rfl rfl (sw_true rfl rfl rfl (by decide +kernel)) (pi_sq (pe_ix ix_any (pv 1) pe_int (fun _ _ => rfl))) (blkOk_by (N := N_l_solutions) (sc := defScope s_l_solutions) (by decide +kernel)) (fun _ _ _ _ _ => (pg_name (i := 6) sc_l_solutions.nd rfl (Or.inl rfl))) (fun _ _ _ _ _ => (pts_one (pt_cmpR op_eq (pe_callB (cr_maxT rfl (by exact hr.units)) (by rfl) T.n_max bb_max (pa_cons (pe_ix ix_any (pv 6) pe_int (fun _ _ => rfl)) pa_nil)) (pv 3) (nomark _)))) (fun _ _ _ _ _ => (pv 6)))
      (pss_cons (ps_set (i := 5) sc_l_solutions.nd rfl (.inl rfl) (pe_lst pa_nil))
      (pss_cons (ps_for PassesOwn.never rfl (pi_sq (pv 2)) (pg_name (i := 6) sc_l_solutions.nd rfl (Or.inl rfl))
      (pss_one (ps_for PassesOwn.never rfl (pi_range1 (by rfl) T.n_range (pa_cons (pe_ix ix_any (pv 0) pe_int (fun _ _ => rfl)) pa_nil)) (pg_name (i := 7) sc_l_solutions.nd rfl (Or.inl rfl))
      (pss_one (ps_if (pt_val (pe_call (ok_l_meets T) (hr.mono (by decide)) (by rfl) T.l_meets.g T.l_meets.F.kp T.l_meets.b .nil pass0 (pa_cons (pv 0) (pa_cons (pv 4) (pa_cons (pe_op op_catS (pv 6) (pe_tup (pa_cons (pv 7) pa_nil))) pa_nil)))))
      (pss_one (ps_expr (pe_bm PySem.F.plainAttrs_list PySem.F.slot_list_append PySem.F.type_list_append mt_append (pv 5) (pa_cons (pe_op op_catS (pv 6) (pe_tup (pa_cons (pv 7) pa_nil))) pa_nil))))
      pss_nil)))))
      (pss_one (ps_set (i := 2) sc_l_solutions.nd rfl (.inl rfl) (pv 5)))))))
      (pss_one (ps_ret (pv 2))))), ?_⟩
    have hcl := paired_len hcs
    obtain ⟨ta, tt, ts, rfl, hta, htt, hts⟩ := id htp
    have scope : ∀ c ∈ cs, c.2 ≠ [] ∧ Lt n c.2 ∧ c.2.length ≤ 4 ∧ ∃ R, rels[c.1]? = some R := fun c hc => by
      obtain ⟨R, hR, hl, hlt⟩ := hcon c hc
      have hro := tok.rel R (List.mem_of_getElem? hR)
      have h1 := hro.lo
      have h2 := hro.hi
      refine ⟨fun e => ?_, hlt, by omega, R, hR⟩
      rw [e] at hl
      simp at hl
      omega
    refine ⟨Nat.zero_le _, fun e0 ne0 => ?_⟩
    have g1 := same_new (o := .tup []) ne0
    refine ⟨sz_le (by show 1 ≤ 1000000; decide), fun l0 nl0 => ?_⟩
    have g2 := g1.trans (same_new (o := .lst [.ref e0]) nl0)
    have hl0 : upd (upd H e0 (.tup [])) l0 (.lst [.ref e0]) l0 = some (.lst [.ref e0]) := upd_same
    have he0 : upd (upd H e0 (.tup [])) l0 (.lst [.ref e0]) e0 = some (.tup []) := same_new nl0 _ _ upd_same
    generalize upd (upd H e0 (.tup [])) l0 (.lst [.ref e0]) = H1 at g2 hl0 he0
    have nl0H := none_same g1 nl0
    have hia1 := g2 _ _ hia
    walk_at "rd"
    refine ⟨by omega, by omega, for_it (walk_nv (n := n)) (fun i σ H' => ∃ l xs S y3 y4 y5 y6 y7, σ = [some (.ref ta), some (.ref ia), some (.ref l), y3, y4, y5, y6, y7] ∧ Same H H' ∧ H l = none ∧ H' l = some (.lst xs) ∧ Rws H' xs S ∧ SolL sz rels cs i S ∧ S.length ≤ 3 ^ i) ?_ (fun _ _ _ _ _ => trivial) (fun i x σ H2 H3 hi q2 y => ?_) fun σ H2 q2 => ?_⟩
    · exact ⟨l0, _, [[]], _, _, _, _, _, rfl, g2, nl0H, hl0, .cons ⟨e0, rfl, he0⟩ .nil, SolL.nil, Nat.le_refl _⟩
    · obtain ⟨rfl, rfl⟩ := y
      obtain ⟨l, xs, S, y3, y4, y5, y6, y7, rfl, s2, nl, hl, hp, hS, hSl⟩ := q2
      have hia3 := s2 _ _ hia
      have hic3 := s2 _ _ hic
      have hi81 : 3 ^ i ≤ 81 := Nat.pow_le_pow_right (by decide : 0 < 3) (by omega : i ≤ 4)
      walk_at "rd"
      refine fun J wJ D0 nD0 => lc_R wJ (fun k acc H' => k ≤ cs.length ∧ Paired (IsCon H') acc (dueL (cs.take k) i)) nD0 yat_s (fun k acc H H' t h => ⟨h.1, paired_imp (fun _ _ q => q.tx t) h.2⟩) (fun k acc H' h => ?_) (fun H' sm => sq_t (sm _ _ hic3)) ⟨Nat.zero_le _, by rw [List.take_zero]; exact .nil⟩ ?_ ?_
      · rw [paired_len h.2]
        exact Nat.lt_of_le_of_lt (List.length_filter_le _ _) (take_lt hfew (by decide) k)
      · intro k x H4 H5 acc Q' N hk s4 _ hacc y kq kn
        obtain ⟨s5, hx⟩ := yat_same y
        have s25 := (s2.trans s4).trans s5
        obtain ⟨c, hc, a, sv, rfl, ha, sa, ob, rfl, hob, hsa⟩ := paired_get (paired_imp (fun _ _ q => q.tx (same_tx s25)) hcs) hx
        obtain ⟨hne, hlt, hsl, _⟩ := scope c (List.mem_of_getElem? hc)
        have hacc5 := paired_imp (S := IsCon H5) (fun _ _ q => q.tx (same_tx s5)) hacc.2
        refine ⟨rfl, ?_⟩
        walk_at "rd"
        refine ⟨sa, zs c.2, rfl, .inr ⟨ob, by rw [zs_nv]; exact hsa⟩, fun e => hne ?_, fun m hm hle => ?_⟩
        · have := zs_len c.2
          rw [e] at this
          exact List.eq_nil_of_length_eq_zero this.symm
        · obtain ⟨z, hz, ez⟩ := zs_mem hm
          have hmx : mxN c.2 = z := mx_eq hz fun y hy => by
            have h1 := hle (y : Int) (List.mem_map.mpr ⟨y, hy, rfl⟩)
            have h2 : m = (z : Int) := by injection ez
            omega
          rw [ez]
          walk_at "rd"
          refine ite_of (p := mxN c.2 = i) (by rw [decide_eq_true_iff, hmx]; exact ⟨fun h => nv_inj h, fun h => by rw [h]⟩) (fun h1 => ?_) fun h1 => ?_
          · walk_at "rd"
            refine kq _ _ (Same.refl _) ⟨by omega, ?_⟩
            rw [due_snoc hc, if_pos h1]
            exact paired_snoc ⟨a, .ref sa, rfl, ha, sa, ob, rfl, hob, hsa⟩ hacc5
          · refine kn _ (Same.refl _) ⟨by omega, ?_⟩
            rw [due_snoc hc, if_neg h1]
            exact hacc5
      · intro H4 dv s4 hD0 hdv
        rw [hcl, List.take_length] at hdv
        have hdv := hdv.2
        have hl4 := s4 _ _ hl
        have hp4 := hp.tx (same_tx s4)
        have s24 := s2.trans s4
        refine ⟨Nat.zero_le _, fun ml nml => ?_⟩
        have g5 := same_new (o := .lst []) nml
        have hml5 : upd H4 ml (.lst []) ml = some (.lst []) := upd_same
        have hl5 := g5 _ _ hl4
        have hD5 := g5 _ _ hD0
        have hp5 := hp4.tx (same_tx g5)
        have hdv5 := paired_imp (S := IsCon (upd H4 ml (.lst []))) (fun _ _ q => q.tx (same_tx g5)) hdv
        have s25 := s24.trans g5
        have nmlH := none_same s24 nml
        have mll : ml ≠ l := ne_some nml hl4
        have mlD : ml ≠ D0 := ne_some nml hD0
        generalize upd H4 ml (.lst []) = H5 at g5 hml5 hl5 hD5 hp5 hdv5 s25
        have hxl := paired_len hp5
        walk_at "rd"
        refine fun J2 w2 => for_it w2 (fun p σ H' => ∃ mv y6 y7, σ = [some (.ref ta), some (.ref ia), some (.ref l), some (nv i), some (.ref D0), some (.ref ml), y6, y7] ∧ Kp ml H5 H' ∧ H' ml = some (.lst mv) ∧ Rws H' mv ((S.take p).flatMap (growT sz rels (dueL cs i)))) ?_ (fun p σ H' _ q => ?_) (fun p x σ H6 H7 hp' q6 y => ?_) fun σ H6 q6 => ?_
        · exact ⟨[], _, _, rfl, Kp.refl _ _, hml5, by rw [List.take_zero]; exact .nil⟩
        · obtain ⟨_, _, _, _, kp, _⟩ := q
          exact sq_l (kp _ _ mll.symm hl5)
        · obtain ⟨mv, y6, y7, rfl, kp, hmv, hmr⟩ := q6
          obtain ⟨s7, hx⟩ := yat_same y
          have kp7 := kp.trans (same_kp s7)
          obtain ⟨t, ht, a, rfl, ha⟩ := paired_get (hp5.tx (tx_kp kp7 hml5)) hx
          have htS := (hS t).mp (List.mem_of_getElem? ht)
          have hmv7 := s7 _ _ hmv
          have hmr7 := hmr.tx (same_tx s7)
          have aml : a ≠ ml := fun e => by rw [e, hmv7] at ha; cases ha
          have hta7 : H7 ta = some (.tup [nv sz, .ref tt]) := (same_kpT s25 kp7 nmlH) _ _ hta
          walk_at "rd"
          refine ⟨by omega, by omega, for_it (walk_nv (n := sz)) (fun j σ H' => ∃ mv y7, σ = [some (.ref ta), some (.ref ia), some (.ref l), some (nv i), some (.ref D0), some (.ref ml), some (.ref a), y7] ∧ Kp ml H5 H' ∧ H' a = some (.tup (t.map nv)) ∧ H' ml = some (.lst mv) ∧ Rws H' mv ((S.take p).flatMap (growT sz rels (dueL cs i)) ++ partG rels (dueL cs i) t j)) ?_ (fun _ _ _ _ _ => trivial) (fun j x σ H8 H9 hj q8 y => ?_) fun σ H8 q8 => ?_⟩
          · exact ⟨mv, _, rfl, kp7, ha, hmv7, by rw [partG_zero, List.append_nil]; exact hmr7⟩
          · obtain ⟨rfl, rfl⟩ := y
            obtain ⟨mv, y7, rfl, kp8, ha8, hmv8, hmr8⟩ := q8
            have sm8 : Same H H9 := same_kpT s25 kp8 nmlH
            have hmvl : mv.length ≤ 1000 := by
              rw [paired_len hmr8, List.length_append]
              have h1 := flatG_len (sz := sz) (rels := rels) (due := dueL cs i) (S := S.take p)
              have h2 := partG_len (rels := rels) (due := dueL cs i) (t := t) (j := j)
              have h3 : (S.take p).length ≤ 81 := by rw [List.length_take]; omega
              have h4 : (S.take p).length * sz ≤ 81 * 3 := Nat.mul_le_mul h3 hsz
              omega
            walk_at "rd"
            refine ⟨sz_le (by show 1 ≤ 1000000; decide), fun u nu => ?_⟩
            have s10 := same_new (o := .tup [nv j]) nu
            have htl := htS.1
            refine ⟨a, u, t.map nv, [nv j], rfl, rfl, s10 _ _ ha8, upd_same, sz_le (by rw [List.length_map, List.length_singleton]; omega), fun va H11 s11 hva => ?_⟩
            have s911 := s10.trans s11
            have hva' : H11 va = some (.tup ((t ++ [j]).map nv)) := by rw [hva, List.map_append] <;> rfl
            have kp11 := kp8.trans (same_kp s911)
            have sm11 := sm8.trans s911
            have tx11 : Tx H5 H11 := tx_kp kp11 hml5
            refine ⟨.ref ta, D0, va, sz, rels, true, dv, dueL cs i, t ++ [j], rfl, htp.tx (same_tx sm11), tok, kp11 _ _ mlD.symm hD5, paired_imp (fun _ _ q => q.tx tx11) hdv5, hva', fun c hc => ?_, fun H12 b s12 hb => ?_⟩
            · obtain ⟨h1, h2⟩ := mem_due.mp hc
              obtain ⟨_, _, h5, h6⟩ := scope c h1
              refine ⟨h6, fun x hx => ?_, by omega⟩
              have := le_mx hx
              rw [List.length_append, List.length_singleton]
              omega
            · have s912 := s911.trans s12
              have hmv12 := s912 _ _ hmv8
              have ha12 := s912 _ _ ha8
              have hmr12 := hmr8.tx (same_tx s912)
              have kp12 := kp8.trans (same_kp s912)
              walk_at "rd"
              refine ite_of (hb.trans goodB_iff.symm) (fun hg => ?_) fun hg => ?_
              · walk_at "rd"
                refine ⟨.inl ⟨rfl, _, SqL.of hmv12⟩, ?_⟩
                walk_at "rd"
                refine ⟨sz_le (by show 1 ≤ 1000000; decide), fun u2 nu2 => ?_⟩
                have s13 := same_new (o := .tup [nv j]) nu2
                refine ⟨a, u2, t.map nv, [nv j], rfl, rfl, s13 _ _ ha12, upd_same, sz_le (by rw [List.length_map, List.length_singleton]; omega), fun vb H14 s14 hvb => ?_⟩
                have s1214 := s13.trans s14
                have hvb' : H14 vb = some (.tup ((t ++ [j]).map nv)) := by rw [hvb, List.map_append] <;> rfl
                have hmv14 := s1214 _ _ hmv12
                have tx15 := tx_lst (o := .lst (mv ++ [.ref vb])) hmv14
                refine ⟨ml, mv, _, rfl, rfl, hmv14, small_lt (m := 1000) (by omega), ?_⟩
                refine ⟨mv ++ [.ref vb], _, rfl, (kp12.trans (same_kp s1214)).trans kp_upd, by rw [upd_ne aml]; exact s1214 _ _ ha12, upd_same, ?_⟩
                rw [partG_succ, if_pos hg, ← List.append_assoc]
                exact paired_snoc ⟨vb, rfl, tx15.t hvb'⟩ ((hmr12.tx (same_tx s1214)).tx tx15)
              · refine ⟨mv, _, rfl, kp12, ha12, hmv12, ?_⟩
                rw [partG_succ, if_neg hg]
                exact hmr12
          · obtain ⟨mv, y7, rfl, kp8, ha8, hmv8, hmr8⟩ := q8
            refine ⟨mv, _, _, rfl, kp8, hmv8, ?_⟩
            rw [flatG_snoc ht]
            exact hmr8
        · obtain ⟨mv, y6, y7, rfl, kp, hmv, hmr⟩ := q6
          rw [hxl, List.take_length] at hmr
          walk_at "rd"
          refine ⟨ml, mv, _, _, _, _, _, _, rfl, same_kpT s25 kp nmlH, nmlH, hmv, hmr, hS.step, ?_⟩
          have h1 := flatG_len (sz := sz) (rels := rels) (due := dueL cs i) (S := S)
          rw [Nat.pow_succ]
          exact Nat.le_trans h1 (Nat.mul_le_mul hSl hsz)
    · obtain ⟨l, xs, S, y3, y4, y5, y6, y7, rfl, s2, nl, hl, hp, hS, hSl⟩ := q2
      walk_at "rd"
      refine q _ l xs s2 nl hl ?_
      rw [← hS.iff fun c hc => ⟨(scope c hc).1, (scope c hc).2.1⟩]
      have := paired_len hp
      constructor
      · intro e
        rw [e] at this
        exact List.eq_nil_of_length_eq_zero this.symm
      · intro e
        rw [e] at this
        exact List.eq_nil_of_length_eq_zero this
end
end G
namespace G
open PySem PySem.Spec PyProof.Rows L2
local macro_rules | `(tactic| walk_at "rd") => `(tactic| repeat (first | (refine ⟨_, rfl, ?_⟩) | (refine ⟨_, _, rfl, rfl, ?_⟩) | (refine iteT ?_) | (refine iteF ?_) | (refine ⟨_, "tuple", _, true, rfl, .tup (.inl (by assumption)), kb_tt, ?_⟩) | (refine ⟨_, "tuple", _, true, rfl, .tup (by assumption), kb_tt, ?_⟩) | (refine ⟨false, _, _, rfl, sq_t (by assumption), ?_⟩) | (refine ⟨false, _, _, rfl, sq_r (by assumption), ?_⟩) | (refine ⟨true, _, _, rfl, sq_l (by assumption), ?_⟩) | (refine ⟨false, _, _, _, _, rfl, rfl, sq_t (by assumption), at0, ?_⟩) | (refine ⟨false, _, _, _, _, rfl, rfl, sq_t (by assumption), at1, ?_⟩) | (refine ⟨false, _, _, _, _, rfl, rfl, sq_t (by assumption), (by assumption), ?_⟩) | (refine ⟨false, _, _, _, _, rfl, rfl, sq_r (by assumption), (by assumption), ?_⟩) | (refine ⟨true, _, _, _, _, rfl, rfl, sq_l (by assumption), (by assumption), ?_⟩) | (refine ⟨rfl, ?_⟩)))
theorem paired_take {α β : Type} {R : α → β → Prop} : ∀ {xs : List α} {ys : List β} {i : Nat}, Paired R xs ys → Paired R (xs.take i) (ys.take i)
  | _, _, 0, _ => by rw [List.take_zero, List.take_zero]; exact .nil
  | _, _, _ + 1, .nil => .nil
  | _, _, _ + 1, .cons r t => .cons r (paired_take t)
theorem paired_drop {α β : Type} {R : α → β → Prop} : ∀ {xs : List α} {ys : List β} {i : Nat}, Paired R xs ys → Paired R (xs.drop i) (ys.drop i)
  | _, _, 0, h => h
  | _, _, _ + 1, .nil => .nil
  | _, _, _ + 1, .cons _ t => by rw [List.drop_succ_cons, List.drop_succ_cons]; exact paired_drop t
theorem wo_at {idx : List Nat} {i x : Nat} (nd : idx.Nodup) (h : idx[i]? = some x) : wo idx x = idx.take i ++ idx.drop (i + 1) := by
  have hl := (List.getElem?_eq_some_iff.mp h).1
  have e : idx = idx.take i ++ x :: idx.drop (i + 1) := by
    have h2 : idx[i] = x := (List.getElem?_eq_some_iff.mp h).2
    rw [← h2, ← List.drop_eq_getElem_cons hl, List.take_append_drop]
  have h1 : x ∉ idx.take i := not_mem_take nd h
  have h3 : x ∉ idx.drop (i + 1) := fun hm => by
    rw [e] at nd
    have := (List.nodup_cons.mp (List.nodup_append.mp nd).2.1).1
    exact this hm
  have f : ∀ l : List Nat, x ∉ l → wo l x = l := fun l hx => by
    unfold wo
    rw [List.filter_eq_self]
    intro y hy
    exact decide_eq_true fun q => hx (q ▸ hy)
  have g : wo idx x = wo (idx.take i ++ x :: idx.drop (i + 1)) x := by rw [← e]
  rw [g]
  unfold wo at f ⊢
  rw [List.filter_append, f _ h1, List.filter_cons, if_neg (by simp), f _ h3]
theorem cut_lo {xs : List V} {i : Nat} (h : i ≤ xs.length) : cutV xs none (some ((i : Nat) : Int)) = xs.take i := by
  unfold cutV
  rw [HT.sIx_none, HT.sIx_nat, List.drop_zero, Nat.min_eq_left h] <;> rfl
theorem cut_hi {xs : List V} {i : Nat} (h : i ≤ xs.length) : cutV xs (some ((i : Nat) : Int)) none = xs.drop i := by
  unfold cutV
  rw [HT.sIx_nat, HT.sIx_none, Nat.min_eq_left h, List.take_of_length_le]
  rw [List.length_drop]
  exact Nat.le_refl _
theorem subc_len {cs : List Con} {idx : List Nat} : (subc cs idx).length = idx.length := by unfold subc; rw [List.length_map]
theorem asc_of_le {ns : List Int} {idx : List Nat} (hp : ns.Perm (zs idx)) (hw : ns.Pairwise (· ≤ ·)) (nd : idx.Nodup) : ∃ out : List Nat, ns = zs out ∧ AscN out ∧ ∀ x, x ∈ out ↔ x ∈ idx := by
  have hmem : ∀ m ∈ ns, 0 ≤ m := fun m hm => by
    obtain ⟨y, _, e⟩ := List.mem_map.mp (hp.mem_iff.mp hm)
    omega
  have e : ns = zs (ns.map Int.toNat) := by
    unfold zs
    rw [List.map_map]
    symm
    have : ∀ l : List Int, (∀ m ∈ l, 0 ≤ m) → l.map ((fun n : Nat => (n : Int)) ∘ Int.toNat) = l := fun l hl => by
      induction l with
      | nil => rfl
      | cons a r ih =>
        rw [List.map_cons, ih fun m hm => hl m (List.mem_cons_of_mem _ hm)]
        congr 1
        have := hl a List.mem_cons_self
        show ((a.toNat : Nat) : Int) = a
        omega
    exact this ns hmem
  refine ⟨ns.map Int.toNat, e, ?_, fun x => ?_⟩
  · have nd2 : ns.Nodup := hp.nodup_iff.mpr (by
      unfold zs
      rw [List.nodup_iff_pairwise_ne] at nd ⊢
      exact List.pairwise_map.mpr (nd.imp fun h q => h (by omega)))
    have h1 : ns.Pairwise (fun a b => a < b) := (hw.and nd2).imp fun h => by
      obtain ⟨h1, h2⟩ := h
      omega
    unfold AscN
    rw [List.pairwise_map]
    refine List.Pairwise.imp_of_mem (R := fun a b => a < b) (fun {a b} ha hb h => ?_) h1
    have := hmem a ha
    have := hmem b hb
    omega
  · constructor
    · intro h
      obtain ⟨m, hm, rfl⟩ := List.mem_map.mp h
      obtain ⟨y, hy, e⟩ := List.mem_map.mp (hp.mem_iff.mp hm)
      have : m.toNat = y := by omega
      rw [this]
      exact hy
    · intro h
      refine List.mem_map.mpr ⟨(x : Int), hp.mem_iff.mpr (List.mem_map.mpr ⟨x, h, rfl⟩), by omega⟩
section
variable {P : Program} {w : World} {K : PySem.W.Frag} {mg : Str → Option Value} {base : Heap}
def sp_l_once : Sp := fun vs H Q _ => ∃ (va : Addr) (k : Bool) (idx : List Nat), vs = [.ref va] ∧ Sq k H va (idx.map nv) ∧ idx.length ≤ 60 ∧
  ∀ H' l out, Same H H' → H l = none → H' l = some (.lst (out.map nv)) → AscN out → (∀ x, x ∈ out ↔ x ∈ idx) → Q (.ref l) H'
theorem ok_l_once (T : TX K mg) : FnOk P w K mg base CX0 1 T.l_once.f T.l_once.fd ["_law_values"] sp_l_once := by
  refine T.l_once.F.ok sc_l_once (fun vs H Q E h => ?_) (fun cdv A0 outer s H vs Q E hr h => ?_)
  · obtain ⟨_, _, _, rfl, _⟩ := h
    rfl
  · obtain ⟨va, k, idx, rfl, hva, hil, q⟩ := h
    refine ⟨_, (pss_cons (ps_set (i := 1) sc_l_once.nd rfl (.inl rfl) (pe_lst pa_nil))
      (pss_cons (ps_for PassesOwn.never rfl (pi_sq (pv 0)) (pg_name (i := 2) sc_l_once.nd rfl (Or.inl rfl))
      (pss_one (ps_if (pt_cmpR op_notInI (pv 2) (pv 1) (by rfl))
      (pss_one (ps_expr (pe_bm PySem.F.plainAttrs_list PySem.F.slot_list_append PySem.F.type_list_append mt_append (pv 1) (pa_cons (pv 2) pa_nil))))
      pss_nil)))
      (pss_one (ps_ret (pe_callB cr_sorted (by rfl) T.n_sorted bb_sorted (pa_cons (pv 1) pa_nil)))))), ?_⟩
    refine ⟨sz_le (by decide), fun fl nfl => ?_⟩
    have g1 := same_new (o := .lst []) nfl
    have hfl1 : upd H fl (.lst []) fl = some (.lst []) := upd_same
    have hva1 := hva.same g1
    refine ⟨_, rfl, k, va, _, rfl, hva1, fun J wJ => for_it wJ (fun i σ H' => ∃ fr y2, σ = [some (.ref va), some (.ref fl), y2] ∧ Same H H' ∧ H' fl = some (.lst (fr.map nv)) ∧ fr.Nodup ∧ fr.length ≤ i ∧ ∀ x, x ∈ fr ↔ x ∈ idx.take i) ⟨[], _, rfl, g1, hfl1, .nil, Nat.le_refl _, fun x => by rw [List.take_zero]⟩ (fun i σ H' _ q => ?_) (fun i x σ H1 H2 hi q1 y => ?_) fun σ H1 q1 => ?_⟩
    · obtain ⟨_, _, _, sm, _⟩ := q
      exact hva.same sm
    · obtain ⟨fr, y2, rfl, sm, hfl, hnd, hle, hm⟩ := q1
      obtain ⟨s2, hx⟩ := yat_same y
      obtain ⟨v, hv, rfl⟩ := nv_at hx
      have hfl2 := s2 _ _ hfl
      have hi2 : i < idx.length := by rwa [List.length_map] at hi
      have hmem : (!decide ((v : Int) ∈ zs fr)) = true ↔ v ∉ fr := by
        rw [Bool.not_eq_true', decide_eq_false_iff_not]
        refine not_congr ⟨fun hz => ?_, fun hz => List.mem_map.mpr ⟨v, hz, rfl⟩⟩
        obtain ⟨z, hz, e⟩ := List.mem_map.mp hz
        have : z = v := by omega
        rw [← this]
        exact hz
      walk_at "rd"
      refine ⟨true, fl, (v : Int), zs fr, rfl, rfl, by rw [zs_nv]; exact hfl2, ?_⟩
      walk_at "rd"
      refine ite_of hmem (fun h1 => ?_) fun h1 => ?_
      · walk_at "rd"
        refine ⟨.inl ⟨rfl, _, SqL.of hfl2⟩, ?_⟩
        walk_at "rd"
        refine ⟨fl, _, _, rfl, rfl, hfl2, small_lt (m := 1000) (by rw [List.length_map]; omega), ?_⟩
        refine ⟨fr ++ [v], _, rfl, same_upd (sm.trans s2) nfl, by rw [upd_same, List.map_append] <;> rfl, nodup_snoc hnd h1, by rw [List.length_append, List.length_singleton]; omega, fun x => ?_⟩
        rw [take_snoc hv, List.mem_append, List.mem_append, hm x]
      · refine ⟨fr, _, rfl, sm.trans s2, hfl2, hnd, Nat.le_succ_of_le hle, fun x => ?_⟩
        rw [take_snoc hv, List.mem_append, ← hm x, List.mem_singleton]
        constructor
        · exact .inl
        · rintro (h | h)
          · exact h
          · rw [h]; exact Classical.not_not.mp h1
    · obtain ⟨fr, y2, rfl, sm, hfl, hnd, hle, hm⟩ := q1
      rw [List.length_map] at hle hm
      rw [List.take_length] at hm
      walk_at "rd"
      refine ⟨fl, zs fr, rfl, SqL.of (by rw [zs_nv]; exact hfl), by rw [zs_len]; omega, fun ns' p hp hw np => ?_⟩
      obtain ⟨out, rfl, ho, hom⟩ := asc_of_le hp hw hnd
      rw [zs_nv]
      walk_at "rd"
      exact q _ p out (sm.trans (same_new np)) (none_same sm np) upd_same ho fun x => (hom x).trans (hm x)
def sp_l_whole : Sp := fun vs H Q _ => ∃ (i : Nat) (hi : Int), vs = [nv i, .int 0, .int hi] ∧ (i : Int) ≤ hi ∧ Q (.bl true) H
theorem ok_l_whole (T : TX K mg) : FnOk P w K mg base CX0 1 T.l_whole.f T.l_whole.fd ["_law_value_here", "_law_least", "_law_most"] sp_l_whole := by
  refine T.l_whole.F.ok sc_l_whole (fun vs H Q E h => ?_) (fun cdv A0 outer s H vs Q E hr h => ?_)
  · obtain ⟨_, _, rfl, _⟩ := h
    rfl
  · obtain ⟨i, hi, rfl, hle, q⟩ := h
    refine ⟨_, (pss_one (ps_ret (pe_and (pe_callB call_isB (by rfl) T.n_isinstance bb_isinstance (pa_cons (pv 0) (pa_cons (pe_bltn (v := .ty "int") (by rfl) T.n_int bb_int rfl) pa_nil))) (pe_and (pe_not (pe_callB call_isB (by rfl) T.n_isinstance bb_isinstance (pa_cons (pv 0) (pa_cons (pe_bltn (v := .ty "bool") (by rfl) T.n_bool bb_bool rfl) pa_nil)))) (pe_one (pe_chain op_le op_le (pv 1) (pv 0) (pv 2))))))), ?_⟩
    refine ⟨_, rfl, nv i, "int", "int", true, rfl, .int _, by decide +kernel, _, rfl, iteT ⟨_, rfl, nv i, "int", "bool", false, rfl, .int _, by decide +kernel, ?_⟩⟩
    walk_at "rd"
    show Q (V.bl (decide ((i : Int) ≤ hi))) H
    rw [decide_eq_true hle]
    exact q
def sp_l_alike : Sp := fun vs H Q _ => ∃ a b : Bool, vs = [.bl a, .bl b] ∧ ∀ H', Same H H' → Q (.bl (a == b)) H'
theorem ok_l_alike (T : TX K mg) : FnOk P w K mg base CX0 1 T.l_alike.f T.l_alike.fd ["_law_found", "_law_due"] sp_l_alike := by
  refine T.l_alike.F.ok sc_l_alike (fun vs H Q E h => ?_) (fun cdv A0 outer s H vs Q E hr h => ?_)
  · obtain ⟨_, _, rfl, _⟩ := h
    rfl
  · obtain ⟨a, b, rfl, q⟩ := h
    refine ⟨_, (pss_cons (ps_if (pt_val (pe_callB call_isiT (by rfl) T.n_isinstance bb_isinstance (pa_cons (pv 1) (pa_cons (pe_tup (pa_cons (pe_bltn (v := .ty "tuple") (by rfl) T.n_tuple bb_tuple rfl) (pa_cons (pe_bltn (v := .ty "list") (by rfl) T.n_list bb_list rfl) pa_nil))) pa_nil))))
      (pss_cons ps_never
      (pss_cons ps_never
      (pss_one ps_never)))
      pss_nil)
      (pss_cons (ps_if (PW.pt (pw_or (pt_cmpR op_isN (pv 1) pe_non (nomark _)) (pw_or1 (pt_val (pe_callB call_isB (by rfl) T.n_isinstance bb_isinstance (pa_cons (pv 1) (pa_cons (pe_bltn (v := .ty "str") (by rfl) T.n_str bb_str rfl) pa_nil)))))))
      (pss_one (ps_ret (pe_and (pe_cmpR op_eq (pv 0) (pv 1) (nomark _)) (pe_one (pe_cmpR op_eq (pe_callB call_isB (by rfl) T.n_isinstance bb_isinstance (pa_cons (pv 0) (pa_cons (pe_bltn (v := .ty "str") (by rfl) T.n_str bb_str rfl) pa_nil))) (pe_callB call_isB (by rfl) T.n_isinstance bb_isinstance (pa_cons (pv 1) (pa_cons (pe_bltn (v := .ty "str") (by rfl) T.n_str bb_str rfl) pa_nil))) (nomark _))))))
      pss_nil)
      (pss_one (ps_ret (pe_and (pe_callB call_isB (by rfl) T.n_isinstance bb_isinstance (pa_cons (pv 0) (pa_cons (pe_bltn (v := .ty "int") (by rfl) T.n_int bb_int rfl) pa_nil))) (pe_and (pe_cmpR op_eq (pe_callB call_isB (by rfl) T.n_isinstance bb_isinstance (pa_cons (pv 0) (pa_cons (pe_bltn (v := .ty "bool") (by rfl) T.n_bool bb_bool rfl) pa_nil))) (pe_callB call_isB (by rfl) T.n_isinstance bb_isinstance (pa_cons (pv 1) (pa_cons (pe_bltn (v := .ty "bool") (by rfl) T.n_bool bb_bool rfl) pa_nil))) (nomark _)) (pe_one (pe_cmpR op_eq (pv 0) (pv 1) (nomark _))))))))), ?_⟩
    refine ⟨_, rfl, sz_le (by show 2 ≤ 1000000; decide), fun p np => ?_⟩
    have s1 := same_new (o := .tup [.ty "tuple", .ty "list"]) np
    have hp : upd H p (.tup [.ty "tuple", .ty "list"]) p = some (.tup [.ty "tuple", .ty "list"]) := upd_same
    generalize upd H p (.tup [.ty "tuple", .ty "list"]) = H1 at s1 hp
    have kd : Kd H1 (.bl b) "bool" := .bl b
    refine ⟨.bl b, p, [.ty "tuple", .ty "list"], .type "bool", [.type "tuple", .type "list"], false, rfl, hp, .cons (.ty _) (.cons (.ty _) .nil), kd.ty, kitAny_cons (kit_ty (a := "bool") (b := "tuple") (r := false) (by decide +kernel)) (fun _ => kitAny_cons (kit_ty (a := "bool") (b := "list") (r := false) (by decide +kernel)) (fun _ => kitAny_nil) fun h => Bool.noConfusion h) fun h => Bool.noConfusion h, ?_⟩
    walk_at "rd"
    refine ⟨.bl b, "bool", "str", false, rfl, .bl b, by decide +kernel, ?_⟩
    walk_at "rd"
    refine ⟨.bl a, "bool", "int", true, rfl, .bl a, by decide +kernel, ?_⟩
    walk_at "rd"
    refine ⟨.bl a, "bool", "bool", true, rfl, .bl a, by decide +kernel, ?_⟩
    walk_at "rd"
    refine ⟨.bl b, "bool", "bool", true, rfl, .bl b, by decide +kernel, ?_⟩
    walk_at "rd"
    have e : decide (V.bl a = V.bl b) = (a == b) := by cases a <;> cases b <;> rfl
    show Q (V.bl (decide (V.bl a = V.bl b))) H1
    rw [e]
    exact q _ s1
end
end G
namespace G
open PySem PySem.Spec PyProof.Rows L2
local macro_rules | `(tactic| walk_at "rd") => `(tactic| repeat (first | (refine ⟨_, rfl, ?_⟩) | (refine ⟨_, _, rfl, rfl, ?_⟩) | (refine iteT ?_) | (refine iteF ?_) | (refine ⟨_, "tuple", _, true, rfl, .tup (.inl (by assumption)), kb_tt, ?_⟩) | (refine ⟨_, "tuple", _, true, rfl, .tup (by assumption), kb_tt, ?_⟩) | (refine ⟨false, _, _, rfl, sq_t (by assumption), ?_⟩) | (refine ⟨false, _, _, rfl, sq_r (by assumption), ?_⟩) | (refine ⟨true, _, _, rfl, sq_l (by assumption), ?_⟩) | (refine ⟨false, _, _, _, _, rfl, rfl, sq_t (by assumption), at0, ?_⟩) | (refine ⟨false, _, _, _, _, rfl, rfl, sq_t (by assumption), at1, ?_⟩) | (refine ⟨false, _, _, _, _, rfl, rfl, sq_t (by assumption), (by assumption), ?_⟩) | (refine ⟨false, _, _, _, _, rfl, rfl, sq_r (by assumption), (by assumption), ?_⟩) | (refine ⟨true, _, _, _, _, rfl, rfl, sq_l (by assumption), (by assumption), ?_⟩) | (refine ⟨rfl, ?_⟩)))
section
variable {P : Program} {w : World} {K : PySem.W.Frag} {mg : Str → Option Value} {base : Heap}
def sp_l_is_conflict : Sp := fun vs H Q _ => ∃ (tv iv : V) (va : Addr) (sz : Nat) (rels : List Rel) (n : Nat) (cs : List Con) (k : Bool) (idx : List Nat), vs = [tv, iv, .ref va] ∧ IsTpl H tv sz rels ∧ TplOk sz rels ∧ sz ≤ 3 ∧ IsIns H iv n cs ∧ n ≤ 4 ∧ cs.length ≤ 200 ∧ (∀ c ∈ cs, ConOk n rels c) ∧
  Sq k H va (idx.map nv) ∧ AscN idx ∧ (∀ i ∈ idx, i < cs.length) ∧ ∀ H' b, Same H H' → (b = true ↔ IsConf sz n rels cs idx) → Q (.bl b) H'
theorem ok_l_is_conflict (T : TX K mg) : FnOk P w K mg base CX0 3 T.l_is_conflict.f T.l_is_conflict.fd ["_law_template_here", "_law_instance_here", "_law_value_here"] sp_l_is_conflict := by
  refine T.l_is_conflict.F.ok sc_l_is_conflict (fun vs H Q E h => ?_) (fun cdv A0 outer s H vs Q E hr h => ?_)
  · obtain ⟨_, _, _, _, _, _, _, _, _, rfl, _⟩ := h
    rfl
  · obtain ⟨tv, iv, va, sz, rels, n, cs, k, idx, rfl, htp, tok, hsz, ⟨ia, ic, cvs, rfl, hia, hic, hcs⟩, hn, hfew, hcon, hva, hasc, hidx, q⟩ := h
    refine ⟨_, (pss_cons (ps_setLc (i := 3) (own := [("_law_at", 4)]) rfl sc_l_is_conflict.nd rfl rfl (sw_true rfl rfl rfl (by decide +kernel)) (pi_sq (pv 2)) (blkOk_by (N := N_l_is_conflict) (sc := defScope s_l_is_conflict) (by decide +kernel)) (fun _ _ _ _ _ => (pg_name (i := 4) sc_l_is_conflict.nd rfl (Or.inl rfl))) (fun _ _ _ _ _ => pts_nil) (fun _ _ _ _ _ => (pe_ix ix_any (pe_ix ix_any (pv 1) pe_int (fun _ _ => rfl)) (pv 4) (fun _ _ => rfl))))
      (pss_cons (ps_if (pt_cmpR (op_neE (by exact hr.units0)) (pe_call (ok_l_solutions T) (hr.mono (by decide)) (by rfl) T.l_solutions.g T.l_solutions.F.kp T.l_solutions.b .nil pass0 (pa_cons (pv 0) (pa_cons (pe_tup (pa_cons (pe_ix ix_any (pv 1) pe_int (fun _ _ => rfl)) (pa_cons (pe_callTy call_tupL (by rfl) T.n_tuple bb_tuple (pa_cons (pv 3) pa_nil)) pa_nil))) pa_nil))) (pe_lst pa_nil) (nomark _))
      (pss_one (ps_ret pe_bl))
      pss_nil)
      (pss_cons (ps_for PassesOwn.never rfl (pi_range1 (by rfl) T.n_range (pa_cons (pe_callB call_lenS (by rfl) T.n_len bb_len (pa_cons (pv 3) pa_nil)) pa_nil)) (pg_name (i := 4) sc_l_is_conflict.nd rfl (Or.inl rfl))
      (pss_one (ps_if (pt_cmpR (op_eqE (by exact hr.units0)) (pe_call (ok_l_solutions T) (hr.mono (by decide)) (by rfl) T.l_solutions.g T.l_solutions.F.kp T.l_solutions.b .nil pass0 (pa_cons (pv 0) (pa_cons (pe_tup (pa_cons (pe_ix ix_any (pv 1) pe_int (fun _ _ => rfl)) (pa_cons (pe_callTy call_tupL (by rfl) T.n_tuple bb_tuple (pa_cons (pe_op op_cat (pe_slice sl_listS (pv 3) po_none (po_some (pv 4))) (pe_slice sl_listS (pv 3) (po_some (pe_op op_add (pv 4) pe_int)) po_none)) pa_nil)) pa_nil))) pa_nil))) (pe_lst pa_nil) (nomark _))
      (pss_one (ps_ret pe_bl))
      pss_nil)))
      (pss_one (ps_ret pe_bl))))), ?_⟩
    have hcl := paired_len hcs
    have hil : idx.length ≤ 200 := Nat.le_trans (nodup_lt hasc.nodup hidx) hfew
    have sublen : (subc cs idx).length = idx.length := subc_len
    have subok : ∀ ix : List Nat, (∀ i ∈ ix, i ∈ idx) → ∀ c ∈ subc cs ix, ConOk n rels c := fun ix hix c hc => by
      obtain ⟨i, hi, rfl⟩ := List.mem_map.mp hc
      have := hidx i (hix i hi)
      rw [getD_some (List.getElem?_eq_getElem this)]
      exact hcon _ (List.getElem_mem this)
    walk_at "rd"
    refine ⟨k, va, _, rfl, hva, fun J wJ D0 nD0 => lc_R wJ (fun i acc H' => Paired (IsCon H') acc ((subc cs idx).take i)) nD0 yat_s (fun i acc H H' t h => paired_imp (fun v c q => q.tx t) h) (fun i acc H' h => ?_) (fun H' sm => hva.same sm) (by rw [List.take_zero]; exact .nil) ?_ ?_⟩
    · rw [paired_len h]
      exact take_lt (by rw [sublen]; exact hil) (by decide) i
    · intro i x H1 H2 acc Q' N hi s1 _ hacc y kq _
      obtain ⟨s2, hx⟩ := yat_same y
      have sm := s1.trans s2
      obtain ⟨j, hj, rfl⟩ := nv_at hx
      have hjl := hidx j (List.mem_of_getElem? hj)
      obtain ⟨cv, hcv, hcn⟩ := paired_getR (paired_imp (fun _ _ q => q.tx (same_tx sm)) hcs) (List.getElem?_eq_getElem hjl)
      have hia2 := sm _ _ hia
      have hic2 := sm _ _ hic
      have hat := at_nv hcv
      refine ⟨rfl, lcY ?_⟩
      walk_at "rd"
      refine kq _ _ (Same.refl _) ?_
      have : (subc cs idx)[i]? = some cs[j] := by
        unfold subc
        rw [List.getElem?_map, hj]
        show some (cs.getD j (0, [])) = _
        rw [getD_some (List.getElem?_eq_getElem hjl)]
      rw [take_snoc this]
      exact paired_snoc hcn (paired_imp (fun v c q => q.tx (same_tx s2)) hacc)
    · intro H1 sv s1 hD0 hsv
      rw [List.length_map, ← sublen, List.take_length] at hsv
      have hsvl := paired_len hsv
      have hia1 := s1 _ _ hia
      walk_at "rd"
      refine ⟨D0, sv, rfl, hD0, fun t nt => ?_⟩
      have s2 := same_new (o := .tup sv) nt
      have ht2 : upd H1 t (.tup sv) t = some (.tup sv) := upd_same
      refine ⟨sz_le (by show 2 ≤ 1000000; decide), fun p np => ?_⟩
      have s3 := s2.trans (same_new (o := .tup [nv n, .ref t]) np)
      have hp3 : upd (upd H1 t (.tup sv)) p (.tup [nv n, .ref t]) p = some (.tup [nv n, .ref t]) := upd_same
      have ht3 := same_new (o := .tup [nv n, .ref t]) np _ _ ht2
      generalize upd (upd H1 t (.tup sv)) p (.tup [nv n, .ref t]) = H3 at s3 hp3 ht3
      have s13 := s1.trans s3
      refine ⟨tv, .ref p, sz, rels, n, subc cs idx, rfl, htp.tx (same_tx s13), tok, hsz, ⟨p, t, sv, rfl, hp3, ht3, paired_imp (fun _ _ q => q.tx (same_tx s3)) hsv⟩, hn, by rw [sublen]; exact hil, subok idx fun _ h => h, fun H4 l4 xs4 s4 nl4 hl4 hsol => ?_⟩
      have s14 := s13.trans s4
      refine ⟨sz_le (by decide), fun e ne => ?_⟩
      have s5 := same_new (o := .lst []) ne
      have he5 : upd H4 e (.lst []) e = some (.lst []) := upd_same
      have hl5 := s5 _ _ hl4
      have s15 := s14.trans s5
      have hD5 := (s3.trans (s4.trans s5)) _ _ hD0
      have hsv5 := paired_imp (S := IsCon (upd H4 e (.lst []))) (fun _ _ q => q.tx (same_tx (s3.trans (s4.trans s5)))) hsv
      generalize upd H4 e (.lst []) = H5 at s5 he5 hl5 s15 hD5 hsv5
      refine ⟨true, l4, e, xs4, rfl, rfl, sq_l hl5, sq_l he5, ?_⟩
      walk_at "rd"
      refine ite_of (p := SolvI sz n rels (subc cs idx)) ?_ (fun hy => ?_) fun hno => ?_
      · have : xs4 = [] ↔ ¬ SolvI sz n rels (subc cs idx) := hsol
        cases xs4 with
        | nil => simp; exact this.mp rfl
        | cons a b => simp at this ⊢; exact this
      · walk_at "rd"
        exact q _ _ s15 ⟨fun h => Bool.noConfusion h, fun h => absurd hy h.no⟩
      · walk_at "rd"
        rw [hsvl, sublen]
        refine ⟨by omega, by omega, for_it (walk_nv (n := idx.length)) (fun i σ H' => ∃ y4, σ = [some tv, some (.ref ia), some (.ref va), some (.ref D0), y4] ∧ Same H5 H' ∧ ∀ (j x : Nat), j < i → idx[j]? = some x → SolvI sz n rels (subc cs (wo idx x))) ⟨_, rfl, Same.refl _, fun j x h => absurd h (Nat.not_lt_zero _)⟩ (fun _ _ _ _ _ => trivial) (fun i x σ H6 H7 hi q6 y => ?_) fun σ H6 q6 => ?_⟩
        · obtain ⟨rfl, rfl⟩ := y
          obtain ⟨y4, rfl, s7, hall⟩ := q6
          have s17 := s15.trans s7
          have hia7 := s17 _ _ hia
          have hD7 := s7 _ _ hD5
          have hxi : idx[i]? = some idx[i] := List.getElem?_eq_getElem hi
          generalize idx[i] = xi at hxi
          have hwo := wo_at hasc.nodup hxi
          have hisv : i ≤ sv.length := by rw [hsvl, sublen]; omega
          have hisv1 : i + 1 ≤ sv.length := by rw [hsvl, sublen]; omega
          walk_at "rd"
          refine ⟨D0, sv, rfl, hD7, fun a na => ?_⟩
          rw [cut_lo hisv]
          have s8 := same_new (o := .lst (sv.take i)) na
          have ha8 : upd H7 a (.lst (sv.take i)) a = some (.lst (sv.take i)) := upd_same
          have hD8 := s8 _ _ hD7
          generalize upd H7 a (.lst (sv.take i)) = H8 at s8 ha8 hD8
          walk_at "rd"
          refine ⟨D0, sv, rfl, hD8, fun b nb => ?_⟩
          have e1 : cutV sv (some ((i : Int) + 1)) none = sv.drop (i + 1) := by
            have := cut_hi hisv1
            rwa [show ((i + 1 : Nat) : Int) = (i : Int) + 1 by omega] at this
          rw [e1]
          have s9 := s8.trans (same_new (o := .lst (sv.drop (i + 1))) nb)
          have ha9 := same_new (o := .lst (sv.drop (i + 1))) nb _ _ ha8
          have hb9 : upd H8 b (.lst (sv.drop (i + 1))) b = some (.lst (sv.drop (i + 1))) := upd_same
          generalize upd H8 b (.lst (sv.drop (i + 1))) = H9 at s9 ha9 hb9
          have hcutl : (sv.take i).length + (sv.drop (i + 1)).length ≤ 200 := by rw [List.length_take, List.length_drop]; omega
          refine ⟨a, b, _, _, rfl, rfl, ha9, hb9, sz_le (by omega), fun c nc => ?_⟩
          have s10 := s9.trans (same_new (o := .lst (sv.take i ++ sv.drop (i + 1))) nc)
          have hc10 : upd H9 c (.lst (sv.take i ++ sv.drop (i + 1))) c = some (.lst (sv.take i ++ sv.drop (i + 1))) := upd_same
          generalize upd H9 c (.lst (sv.take i ++ sv.drop (i + 1))) = H10 at s10 hc10
          refine ⟨c, _, rfl, hc10, fun t2 nt2 => ?_⟩
          have s11 := s10.trans (same_new (o := .tup (sv.take i ++ sv.drop (i + 1))) nt2)
          have ht11 : upd H10 t2 (.tup (sv.take i ++ sv.drop (i + 1))) t2 = some (.tup (sv.take i ++ sv.drop (i + 1))) := upd_same
          generalize upd H10 t2 (.tup (sv.take i ++ sv.drop (i + 1))) = H11 at s11 ht11
          refine ⟨sz_le (by show 2 ≤ 1000000; decide), fun p2 np2 => ?_⟩
          have s12 := s11.trans (same_new (o := .tup [nv n, .ref t2]) np2)
          have ht12 := same_new (o := .tup [nv n, .ref t2]) np2 _ _ ht11
          have hp12 : upd H11 p2 (.tup [nv n, .ref t2]) p2 = some (.tup [nv n, .ref t2]) := upd_same
          generalize upd H11 p2 (.tup [nv n, .ref t2]) = H12 at s12 ht12 hp12
          have s712 := s7.trans s12
          have s112 := s17.trans s12
          have hpair : Paired (IsCon H12) (sv.take i ++ sv.drop (i + 1)) (subc cs (wo idx xi)) := by
            have e2 : subc cs (wo idx xi) = (subc cs idx).take i ++ (subc cs idx).drop (i + 1) := by
              rw [hwo]
              unfold subc
              rw [List.map_append, List.map_take, List.map_drop]
            rw [e2]
            have h12 := paired_imp (S := IsCon H12) (fun _ _ q => q.tx (same_tx s712)) hsv5
            exact paired_app (paired_take h12) (paired_drop h12)
          have hsub : ∀ j ∈ wo idx xi, j ∈ idx := fun j hj => (mem_wo.mp hj).1
          refine ⟨tv, .ref p2, sz, rels, n, subc cs (wo idx xi), rfl, htp.tx (same_tx s112), tok, hsz, ⟨p2, t2, _, rfl, hp12, ht12, hpair⟩, hn, by rw [subc_len]; exact Nat.le_trans wo_len hil, subok _ hsub, fun H13 l13 xs13 s13' nl13 hl13 hsol13 => ?_⟩
          refine ⟨sz_le (by decide), fun e2 ne2 => ?_⟩
          have s14' := s13'.trans (same_new (o := .lst []) ne2)
          have hl14 := same_new (o := .lst []) ne2 _ _ hl13
          have he14 : upd H13 e2 (.lst []) e2 = some (.lst []) := upd_same
          generalize upd H13 e2 (.lst []) = H14 at s14' hl14 he14
          refine ⟨true, l13, e2, xs13, rfl, rfl, sq_l hl14, sq_l he14, ?_⟩
          walk_at "rd"
          refine ite_of (p := ¬ SolvI sz n rels (subc cs (wo idx xi))) ?_ (fun hn' => ?_) fun hy' => ?_
          · have : xs13 = [] ↔ ¬ SolvI sz n rels (subc cs (wo idx xi)) := hsol13
            cases xs13 with
            | nil => simp; exact this.mp rfl
            | cons a b => simp at this ⊢; exact this
          · walk_at "rd"
            exact q _ _ (s112.trans s14') ⟨fun h => Bool.noConfusion h, fun h => absurd (h.min xi (List.mem_of_getElem? hxi)) hn'⟩
          · refine ⟨_, rfl, s712.trans s14', fun j x hj hx => ?_⟩
            by_cases ej : j = i
            · subst ej
              rw [hxi] at hx
              rw [← Option.some.inj hx]
              exact Classical.not_not.mp hy'
            · exact hall j x (by omega) hx
        · obtain ⟨y4, rfl, s7, hall⟩ := q6
          walk_at "rd"
          refine q _ _ (s15.trans s7) ⟨fun _ => ⟨hasc, hidx, hno, fun i hi => ?_⟩, fun _ => rfl⟩
          obtain ⟨j, hj⟩ := List.mem_iff_getElem?.mp hi
          exact hall j i (List.getElem?_eq_some_iff.mp hj).1 hj
end
end G
namespace G
open PySem PySem.Spec PyProof.Rows L2
local macro_rules | `(tactic| walk_at "rd") => `(tactic| repeat (first | (refine ⟨_, rfl, ?_⟩) | (refine ⟨_, _, rfl, rfl, ?_⟩) | (refine iteT ?_) | (refine iteF ?_) | (refine ⟨_, "tuple", _, true, rfl, .tup (.inl (by assumption)), kb_tt, ?_⟩) | (refine ⟨_, "tuple", _, true, rfl, .tup (by assumption), kb_tt, ?_⟩) | (refine ⟨false, _, _, rfl, sq_t (by assumption), ?_⟩) | (refine ⟨false, _, _, rfl, sq_r (by assumption), ?_⟩) | (refine ⟨true, _, _, rfl, sq_l (by assumption), ?_⟩) | (refine ⟨false, _, _, _, _, rfl, rfl, sq_t (by assumption), at0, ?_⟩) | (refine ⟨false, _, _, _, _, rfl, rfl, sq_t (by assumption), at1, ?_⟩) | (refine ⟨false, _, _, _, _, rfl, rfl, sq_t (by assumption), (by assumption), ?_⟩) | (refine ⟨false, _, _, _, _, rfl, rfl, sq_r (by assumption), (by assumption), ?_⟩) | (refine ⟨true, _, _, _, _, rfl, rfl, sq_l (by assumption), (by assumption), ?_⟩) | (refine ⟨rfl, ?_⟩)))
theorem asc_same : ∀ {a b : List Nat}, AscN a → AscN b → (∀ x, x ∈ a ↔ x ∈ b) → a = b
  | [], [], _, _, _ => rfl
  | [], y :: b, _, _, h => absurd ((h y).mpr List.mem_cons_self) List.not_mem_nil
  | x :: a, [], _, _, h => absurd ((h x).mp List.mem_cons_self) List.not_mem_nil
  | x :: a, y :: b, ha, hb, h => by
    obtain ⟨a1, a2⟩ := List.pairwise_cons.mp ha
    obtain ⟨b1, b2⟩ := List.pairwise_cons.mp hb
    have e : x = y := by
      have h1 := (h x).mp List.mem_cons_self
      have h2 := (h y).mpr List.mem_cons_self
      rcases List.mem_cons.mp h1 with q | q
      · exact q
      · rcases List.mem_cons.mp h2 with r | r
        · exact r.symm
        · have := a1 y r
          have := b1 x q
          omega
    subst e
    have : a = b := asc_same a2 b2 fun z => by
      constructor
      · intro hz
        rcases List.mem_cons.mp ((h z).mp (List.mem_cons_of_mem _ hz)) with q | q
        · have := a1 z hz
          omega
        · exact q
      · intro hz
        rcases List.mem_cons.mp ((h z).mpr (List.mem_cons_of_mem _ hz)) with q | q
        · have := b1 z hz
          omega
        · exact q
    rw [this]
theorem subc_mem {cs : List Con} {idx : List Nat} (h : ∀ i ∈ idx, i < cs.length) : ∀ c ∈ subc cs idx, c ∈ cs := fun c hc => by
  obtain ⟨i, hi, rfl⟩ := List.mem_map.mp hc
  rw [getD_some (List.getElem?_eq_getElem (h i hi))]
  exact List.getElem_mem _
theorem conf_no {sz n : Nat} {rels : List Rel} {cs : List Con} {idx : List Nat} (h : IsConf sz n rels cs idx) : ¬ SolvI sz n rels cs := fun ⟨a, h1, h2⟩ => h.no ⟨a, h1, fun c hc => h2 c (subc_mem h.lt c hc)⟩
theorem conf_ne {sz n : Nat} {rels : List Rel} {cs : List Con} {idx : List Nat} (h : IsConf sz n rels cs idx) (hsz : 1 ≤ sz) : idx ≠ [] := fun e => h.no (by
  rw [e]
  exact ⟨fun _ => 0, fun _ _ => hsz, fun c hc => absurd hc List.not_mem_nil⟩)
/-- what the law makes, to be read again and again -/
structure Made (H : Hp) (tv iv : V) (sz n : Nat) (rels : List Rel) (cs : List Con) : Prop where
  tpl : IsTpl H tv sz rels
  tok : TplOk sz rels
  hsz : sz ≤ 3
  ins : IsIns H iv n cs
  iok : InsOk n rels cs
  hn : n ≤ 4
  few : cs.length ≤ 10
theorem Made.tx {H H' : Hp} {tv iv : V} {sz n : Nat} {rels : List Rel} {cs : List Con} (h : Made H tv iv sz n rels cs) (t : Tx H H') : Made H' tv iv sz n rels cs := ⟨h.tpl.tx t, h.tok, h.hsz, h.ins.tx t, h.iok, h.hn, h.few⟩
/-- a value that shows no conflict: no tuple, or a tuple of one thing that is no index -/
def OddV (H : Hp) (m : Nat) (v : V) : Prop := (∃ t, Kd H v t ∧ kitB t "tuple" = some false) ∨ ∃ a x t, v = .ref a ∧ H a = some (.tup [x]) ∧ Kd H x t ∧ ∀ i, x = nv i → m ≤ i
theorem OddV.same {H H' : Hp} {m : Nat} {v : V} (h : OddV H m v) (s : Same H H') : OddV H' m v := by
  rcases h with ⟨t, k, e⟩ | ⟨a, x, t, e, h1, h2, h3⟩
  · exact .inl ⟨t, k.same s, e⟩
  · exact .inr ⟨a, x, t, e, s _ _ h1, h2.same s, h3⟩
theorem say_rev {sz n : Nat} {rels : List Rel} {cs : List Con} {idx : List Nat} (hc : IsConf sz n rels cs idx) (h1 : 1 < idx.length) : ¬ SaysC sz n rels cs (idx.map nv).reverse := by
  rintro ⟨idx', e', hc'⟩
  have e2 : idx' = idx.reverse := nvs_inj (by rw [← e', List.map_reverse])
  have h2 := hc'.asc
  unfold AscN at h2
  rw [e2, List.pairwise_reverse] at h2
  have a1 := List.pairwise_iff_getElem.mp h2 0 1 (by omega) h1 (by omega)
  have a2 := List.pairwise_iff_getElem.mp hc.asc 0 1 (by omega) h1 (by omega)
  omega
theorem say_last {sz n : Nat} {rels : List Rel} {cs : List Con} {idx : List Nat} {x : Nat} (hx : x ∈ idx) : ¬ SaysC sz n rels cs (idx.map nv ++ [nv x]) := by
  rintro ⟨idx', e', hc'⟩
  have e2 : idx' = idx ++ [x] := nvs_inj (by rw [← e', List.map_append] <;> rfl)
  have h1 := hc'.asc
  unfold AscN at h1
  rw [e2] at h1
  have := (List.pairwise_append.mp h1).2.2 x hx x (List.mem_singleton.mpr rfl)
  omega
theorem at_last {idx : List Nat} (h : idx ≠ []) : ∃ x, x ∈ idx ∧ atI (idx.map nv) (-1) = some (nv x) := by
  have hl := List.length_pos_iff.mpr h
  refine ⟨idx[idx.length - 1], List.getElem_mem _, ?_⟩
  unfold atI ixN
  rw [if_neg (by decide), if_pos (by rw [List.length_map]; omega)]
  show (idx.map nv)[(-1 + ((idx.map nv).length : Int)).toNat]? = _
  have : (-1 + ((idx.map nv).length : Int)).toNat = idx.length - 1 := by rw [List.length_map]; omega
  rw [this, List.getElem?_map, List.getElem?_eq_getElem (by omega)] <;> rfl
section
variable {P : Program} {w : World} {K : PySem.W.Frag} {mg : Str → Option Value} {base : Heap}
def sp_law (K : PySem.W.Frag) : Sp := fun vs H Q _ => ∃ (a : Addr) (ns : List Int), vs = [.ref a] ∧ SqL K H a (ns.map V.int) ∧ ns.length ≤ 63 ∧ ∀ H', Q (.bl true) H'
theorem ok_law (T : TX K mg) : FnOk P w K mg base CX0 8 T.law.f T.law.fd ["_law_script"] (sp_law K) := by
  refine T.law.F.ok sc_law (fun vs H Q E h => ?_) (fun cdv A0 outer s H vs Q E hr h => ?_)
  · obtain ⟨_, _, rfl, _⟩ := h
    rfl
  · obtain ⟨a, ns, rfl, hS, hns, q⟩ := h
    refine ⟨_, (pss_cons (ps_set (i := 1) sc_law.nd rfl (.inr rfl) (pe_lst (pa_cons (pv 0) (pa_cons pe_int (pa_cons pe_int (pa_cons pe_int pa_nil))))))
      (pss_cons (ps_set (i := 2) sc_law.nd rfl (.inl rfl) (pe_op op_add pe_int (pe_call (ok_l_taken T) (hr.mono (by decide)) (by rfl) T.l_taken.g T.l_taken.F.kp T.l_taken.b .nil pass0 (pa_cons (pv 1) (pa_cons pe_int pa_nil)))))
      (pss_cons (ps_set (i := 3) sc_law.nd rfl (.inl rfl) (pe_call (ok_l_template T) (hr.mono (by decide)) (by rfl) T.l_template.g T.l_template.F.kp T.l_template.b .nil pass0 (pa_cons (pv 1) (pa_cons (pv 2) (pa_cons pe_int (pa_cons pe_int (pa_cons pe_int pa_nil)))))))
      (pss_cons (ps_set (i := 4) sc_law.nd rfl (.inl rfl) (pe_op op_add pe_int (pe_call (ok_l_taken T) (hr.mono (by decide)) (by rfl) T.l_taken.g T.l_taken.F.kp T.l_taken.b .nil pass0 (pa_cons (pv 1) (pa_cons pe_int pa_nil)))))
      (pss_cons (ps_set (i := 5) sc_law.nd rfl (.inl rfl) (pe_op op_catS (pe_ix ix_any (pe_call (ok_l_instance T) (hr.mono (by decide)) (by rfl) T.l_instance.g T.l_instance.F.kp T.l_instance.b .nil pass0 (pa_cons (pv 1) (pa_cons (pv 3) (pa_cons (pv 4) (pa_cons pe_int pa_nil))))) pe_int (fun _ _ => rfl)) (pe_ix ix_any (pe_call (ok_l_instance T) (hr.mono (by decide)) (by rfl) T.l_instance.g T.l_instance.F.kp T.l_instance.b .nil pass0 (pa_cons (pv 1) (pa_cons (pv 3) (pa_cons (pv 4) (pa_cons pe_int pa_nil))))) pe_int (fun _ _ => rfl))))
      (pss_cons (ps_asg (pe_tup (pa_cons (pe_tup (pa_cons (pv 4) (pa_cons (pv 5) pa_nil))) (pa_cons (pe_callB call_lenS (by rfl) T.n_len bb_len (pa_cons (pv 5) pa_nil)) pa_nil))) (pg_tupS (n := 2) rfl (pgs_cons (pg_name (i := 6) sc_law.nd rfl (Or.inl rfl)) (pgs_cons (pg_name (i := 7) sc_law.nd rfl (Or.inr rfl)) pgs_nil))))
      (C8.pss_cut (ps_set (i := 8) sc_law.nd rfl (.inl rfl) (pe_call (ok_conflict T) (hr.mono (by decide)) (by rfl) T.conflict.g T.conflict.F.kp T.conflict.b .nil pass0 (pa_cons (pv 3) (pa_cons (pv 6) pa_nil))))
      (C8.pss_cut (ps_if (pt_cmpR (op_neE (by exact hr.units0)) (pe_call (ok_l_solutions T) (hr.mono (by decide)) (by rfl) T.l_solutions.g T.l_solutions.F.kp T.l_solutions.b .nil pass0 (pa_cons (pv 3) (pa_cons (pv 6) pa_nil))) (pe_lst pa_nil) (nomark _))
      (pss_one (ps_if (pt_cmpR op_notN (pv 8) pe_non (nomark _))
      (pss_one (ps_ret pe_bl))
      pss_nil))
      (pss_cons (ps_if (PW.pt (pw_or (pt_not (pt_val (pe_callB call_isB (by rfl) T.n_isinstance bb_isinstance (pa_cons (pv 8) (pa_cons (pe_bltn (v := .ty "tuple") (by rfl) T.n_tuple bb_tuple rfl) pa_nil))))) (pw_or1 (pt_cmpR (op_neIL (by exact hr.units)) (pe_callTy call_listS (by rfl) T.n_list bb_list (pa_cons (pv 8) pa_nil)) (pe_call (ok_l_once T) (hr.mono (by decide)) (by rfl) T.l_once.g T.l_once.F.kp T.l_once.b .nil pass0 (pa_cons (pv 8) pa_nil)) (nomark _)))))
      (pss_one (ps_ret pe_bl))
      pss_nil)
      (pss_cons (ps_if (PW.pt (pw_or (pt_cmpR (op_neE (by exact hr.units0)) (pe_lc (own := [("_law_at", 12)]) rfl sc_law.nd (pi_sq (pv 8)) (blkOk_by (N := N_law) (sc := defScope s_law) (by decide +kernel)) (fun _ _ _ _ _ => (pg_name (i := 12) sc_law.nd rfl (Or.inl rfl))) (fun _ _ _ _ _ => (pts_one (pt_not (pt_val (pe_call (ok_l_whole T) (hr.mono (by decide)) (by rfl) T.l_whole.g T.l_whole.F.kp T.l_whole.b .nil pass0 (pa_cons (pv 12) (pa_cons pe_int (pa_cons (pe_op op_sub (pv 7) pe_int) pa_nil)))))))) (fun _ _ _ _ _ => (pv 12))) (pe_lst pa_nil) (nomark _)) (pw_or1 (pt_not (pt_val (pe_call (ok_l_is_conflict T) (hr.mono (by decide)) (by rfl) T.l_is_conflict.g T.l_is_conflict.F.kp T.l_is_conflict.b .nil pass0 (pa_cons (pv 3) (pa_cons (pv 6) (pa_cons (pv 8) pa_nil)))))))))
      (pss_one (ps_ret pe_bl))
      pss_nil)
      (pss_cons (ps_if (PW.pt (pw_or (pt_cmpR op_notBl (pe_call (ok_shows_conflict T) (hr.mono (by decide)) (by rfl) T.shows_conflict.g T.shows_conflict.F.kp T.shows_conflict.b .nil pass0 (pa_cons (pv 3) (pa_cons (pv 6) (pa_cons (pv 8) pa_nil)))) pe_bl (nomark _)) (pw_or1 (pt_cmpR op_notBl (pe_call (ok_shows_conflict T) (hr.mono (by decide)) (by rfl) T.shows_conflict.g T.shows_conflict.F.kp T.shows_conflict.b .nil pass0 (pa_cons (pv 3) (pa_cons (pv 6) (pa_cons (pe_callTy call_listS (by rfl) T.n_list bb_list (pa_cons (pv 8) pa_nil)) pa_nil)))) pe_bl (nomark _)))))
      (pss_one (ps_ret pe_bl))
      pss_nil)
      (C8.pss_cut (ps_if (PW.pt (pw_and (pt_cmpR op_gt (pe_callB call_lenS (by rfl) T.n_len bb_len (pa_cons (pv 8) pa_nil)) pe_int (nomark _)) (pw_and1 (pt_cmpR op_notBl (pe_call (ok_shows_conflict T) (hr.mono (by decide)) (by rfl) T.shows_conflict.g T.shows_conflict.F.kp T.shows_conflict.b .nil pass0 (pa_cons (pv 3) (pa_cons (pv 6) (pa_cons (pe_revT (pv 8)) pa_nil)))) pe_bl (nomark _)))))
      (pss_one (ps_ret pe_bl))
      pss_nil)
      (pss_one (ps_if (pt_cmpR op_notBl (pe_call (ok_shows_conflict T) (hr.mono (by decide)) (by rfl) T.shows_conflict.g T.shows_conflict.F.kp T.shows_conflict.b .nil pass0 (pa_cons (pv 3) (pa_cons (pv 6) (pa_cons (pe_op op_catS (pv 8) (pe_tup (pa_cons (pe_ix ix_any (pv 8) (pe_un un_neg pe_int) (fun _ _ => rfl)) pa_nil))) pa_nil)))) pe_bl (nomark _))
      (pss_one (ps_ret pe_bl))
      pss_nil)))))))
      (C8.pss_cut (ps_for PassesOwn.never rfl (pi_range1 (by rfl) T.n_range (pa_cons pe_int pa_nil)) (pg_name (i := 9) sc_law.nd rfl (Or.inl rfl))
      (C8.pss_cut (ps_set (i := 10) sc_law.nd rfl (.inl rfl) (pe_ifExp (pt_cmpR op_gt (pv 7) pe_int (nomark _)) (pe_callTy call_tupL (by rfl) T.n_tuple bb_tuple (pa_cons (pe_call (ok_l_once T) (hr.mono (by decide)) (by rfl) T.l_once.g T.l_once.F.kp T.l_once.b .nil pass0 (pa_cons (pe_lc (own := [("_law_at", 12)]) rfl sc_law.nd (pi_range1 (by rfl) T.n_range (pa_cons (pe_op op_add pe_int (pe_call (ok_l_taken T) (hr.mono (by decide)) (by rfl) T.l_taken.g T.l_taken.F.kp T.l_taken.b .nil pass0 (pa_cons (pv 1) (pa_cons pe_int pa_nil)))) pa_nil)) (blkOk_by (N := N_law) (sc := defScope s_law) (by decide +kernel)) (fun _ _ _ _ _ => (pg_name (i := 12) sc_law.nd rfl (Or.inl rfl))) (fun _ _ _ _ _ => pts_nil) (fun _ _ _ _ _ => (pe_call (ok_l_taken T) (hr.mono (by decide)) (by rfl) T.l_taken.g T.l_taken.F.kp T.l_taken.b .nil pass0 (pa_cons (pv 1) (pa_cons (pv 7) pa_nil))))) pa_nil)) pa_nil)) (pe_tup pa_nil)))
      (pss_one (ps_if (pt_not (pt_val (pe_call (ok_l_alike T) (hr.mono (by decide)) (by rfl) T.l_alike.g T.l_alike.F.kp T.l_alike.b .nil pass0 (pa_cons (pe_call (ok_shows_conflict T) (hr.mono (by decide)) (by rfl) T.shows_conflict.g T.shows_conflict.F.kp T.shows_conflict.b .nil pass0 (pa_cons (pv 3) (pa_cons (pv 6) (pa_cons (pv 10) pa_nil)))) (pa_cons (pe_call (ok_l_is_conflict T) (hr.mono (by decide)) (by rfl) T.l_is_conflict.g T.l_is_conflict.F.kp T.l_is_conflict.b .nil pass0 (pa_cons (pv 3) (pa_cons (pv 6) (pa_cons (pv 10) pa_nil)))) pa_nil)))))
      (pss_one (ps_ret pe_bl))
      pss_nil))))
      (pss_cons (ps_for PassesOwn.never rfl (pi_sq (pe_lst (pa_cons pe_non (pa_cons pe_int (pa_cons (pe_tup (pa_cons (pv 7) pa_nil)) (pa_cons (pe_tup (pa_cons (pe_un un_neg pe_int) pa_nil)) (pa_cons (pe_tup (pa_cons pe_bl pa_nil)) (pa_cons (pe_tup (pa_cons pe_non pa_nil)) (pa_cons pe_dnewK (pa_cons pe_str (pa_cons (pe_tup (pa_cons (pe_lst pa_nil) pa_nil)) (pa_cons (pe_lst (pa_cons pe_int pa_nil)) pa_nil)))))))))))) (pg_name (i := 11) sc_law.nd rfl (Or.inl rfl))
      (pss_one (ps_if (pt_cmpR op_notBl (pe_call (ok_shows_conflict T) (hr.mono (by decide)) (by rfl) T.shows_conflict.g T.shows_conflict.F.kp T.shows_conflict.b .nil pass0 (pa_cons (pv 3) (pa_cons (pv 6) (pa_cons (pv 11) pa_nil)))) pe_bl (nomark _))
      (pss_one (ps_ret pe_bl))
      pss_nil)))
      (pss_one (ps_ret pe_bl)))))))))))), ?_⟩
    walk_at "rd"
    refine ⟨sz_le (by show 4 ≤ 1000000; decide), fun r nr => ?_⟩
    have row0 : RowI K H (upd H r (.lst [.ref a, .int 0, .int 3255, .int 0])) r := ⟨same_new nr, nr, a, ns, 0, 3255, 0, hS, by omega, upd_same, by decide, by decide, by decide, by decide⟩
    generalize upd H r (.lst [.ref a, .int 0, .int 3255, .int 0]) = H1 at row0
    walk_at "rd"
    refine ⟨r, 2, H, rfl, row0, by decide, by decide, fun H2 v kp2 row2 hv => ?_⟩
    have esz : V.int (2 + (v : Int)) = nv (2 + v) := by unfold nv; congr 1
    walk_at "rd"
    refine ⟨r, 2 + v, H, ?_, row2, by omega, by omega, fun H3 tv rels kp3 row3 htp tok hrl => ?_⟩
    · show [V.ref r, V.int (2 + (v : Int)), nv 3, nv 3, nv 3] = _
      rw [esz]
    walk_at "rd"
    refine ⟨r, 4, H, rfl, row3, by decide, by decide, fun H4 u kp4 row4 hu => ?_⟩
    have en : V.int (1 + (u : Int)) = nv (1 + u) := by unfold nv; congr 1
    have htp4 := htp.tx (row3.tx kp4)
    walk_at "rd"
    refine ⟨r, tv, 2 + v, rels, 1 + u, 6, H, ?_, row4, htp4, tok, hrl, by omega, by omega, by decide, fun H5 iv1 cs1 kp5 row5 hin1 hcon1 hle1 => ?_⟩
    · show [V.ref r, tv, V.int (1 + (u : Int)), nv 6] = _
      rw [en]
    obtain ⟨ia1, it1, ts1, rfl, hia1, hit1, hp1⟩ := hin1
    have htp5 := htp4.tx (row4.tx kp5)
    walk_at "rd"
    refine ⟨r, tv, 2 + v, rels, 1 + u, 4, H, ?_, row5, htp5, tok, hrl, by omega, by omega, by decide, fun H6 iv2 cs2 kp6 row6 hin2 hcon2 hle2 => ?_⟩
    · show [V.ref r, tv, V.int (1 + (u : Int)), nv 4] = _
      rw [en]
    obtain ⟨ia2, it2, ts2, rfl, hia2, hit2, hp2⟩ := hin2
    have tx6 := row5.tx kp6
    have hit16 := tx6.t hit1
    have hp16 := paired_imp (S := IsCon H6) (fun _ _ q => q.tx tx6) hp1
    have hl1 := paired_len hp16
    have hl2 := paired_len hp2
    walk_at "rd"
    refine ⟨it1, it2, ts1, ts2, rfl, rfl, hit16, hit2, sz_le (by omega), fun tl H7 s7 htl => ?_⟩
    have row7 := row6.same s7
    have htp7 := (htp5.tx tx6).tx (same_tx s7)
    have hcs7 : Paired (IsCon H7) (ts1 ++ ts2) (cs1 ++ cs2) := paired_imp (fun _ _ q => q.tx (same_tx s7)) (paired_app hp16 hp2)
    have hcon : ∀ c ∈ cs1 ++ cs2, ConOk (1 + u) rels c := fun c hc => by
      rcases List.mem_append.mp hc with e | e
      · exact hcon1 c e
      · exact hcon2 c e
    have hlen : (cs1 ++ cs2).length ≤ 10 := by rw [List.length_append]; omega
    generalize cs1 ++ cs2 = cs at hcs7 hcon hlen
    generalize ts1 ++ ts2 = ts at hcs7 htl
    have hcl := paired_len hcs7
    walk_at "rd"
    refine ⟨sz_le (by show 2 ≤ 1000000; decide), fun ia nia => ?_⟩
    have s8 := same_new (o := .tup [V.int (1 + (u : Int)), .ref tl]) nia
    have hia8 : upd H7 ia (.tup [V.int (1 + (u : Int)), .ref tl]) ia = some (.tup [nv (1 + u), .ref tl]) := by rw [upd_same, en]
    have htl8 := s8 _ _ htl
    have row8 := row7.same s8
    have made8 : Made (upd H7 ia (.tup [V.int (1 + (u : Int)), .ref tl])) tv (.ref ia) (2 + v) (1 + u) rels cs := ⟨htp7.tx (same_tx s8), tok, by omega, ⟨ia, tl, ts, rfl, hia8, htl8, paired_imp (fun _ _ q => q.tx (same_tx s8)) hcs7⟩, ⟨by omega, by omega, hcon⟩, by omega, hlen⟩
    show tCons _ _ _ (upd H7 ia (.tup [V.int (1 + (u : Int)), .ref tl])) _
    generalize upd H7 ia (.tup [V.int (1 + (u : Int)), .ref tl]) = H8 at hia8 htl8 row8 made8
    clear s8 nia htp7 row7 hcs7 htl s7 hp2 hit2 hia2 hp16 hit16
    walk_at "rd"
    refine ⟨sz_le (by show 2 ≤ 1000000; decide), fun p9 np9 => ?_⟩
    have s9 := same_new (o := .tup [V.ref ia, V.int (ts.length : Nat)]) np9
    have hp9 : upd H8 p9 (.tup [V.ref ia, V.int (ts.length : Nat)]) p9 = some (.tup [V.ref ia, nv cs.length]) := by rw [upd_same, hcl] <;> rfl
    have row9 := row8.same s9
    have made9 := made8.tx (same_tx s9)
    generalize upd H8 p9 (.tup [V.ref ia, V.int (ts.length : Nat)]) = H9 at hp9 row9 made9
    refine ⟨p9, _, rfl, hp9, rfl, _, _, rfl, _, _, rfl, rfl, ?_⟩
    have hsz2 : 2 ≤ 2 + v := by omega
    have hn1 : 1 ≤ 1 + u := by omega
    obtain ⟨sz, esz'⟩ : ∃ sz, sz = 2 + v := ⟨_, rfl⟩
    obtain ⟨n, en'⟩ : ∃ n, n = 1 + u := ⟨_, rfl⟩
    rw [← esz'] at hsz2 made9
    rw [← en'] at hn1 made9
    refine ⟨fun σ H' => ∃ fv, σ = [some (.ref a), some (.ref r), some (V.int (2 + (v : Int))), some tv, some (V.int (1 + (u : Int))), some (.ref tl), some (.ref ia), some (nv cs.length), some fv, none, none, none, none] ∧ RowI K H H' r ∧ Made H' tv (.ref ia) sz n rels cs ∧ ((fv = .non ∧ SolvI sz n rels cs) ∨ ∃ t idx, fv = .ref t ∧ H' t = some (.tup (idx.map nv)) ∧ IsConf sz n rels cs idx), ?_, ?_⟩
    · walk_at "rd"
      refine ⟨tv, .ref ia, sz, n, rels, cs, rfl, made9.tpl, made9.tok, made9.ins, made9.iok, fun H10 s10 hsol => ?_, fun H10 t idx s10 ht hconf => ?_⟩
      · exact ⟨_, rfl, row9.same s10, made9.tx (same_tx s10), .inl ⟨rfl, hsol⟩⟩
      · exact ⟨_, rfl, row9.same s10, made9.tx (same_tx s10), .inr ⟨t, idx, rfl, ht, hconf⟩⟩
    · clear made9 row9 hp9 s9 np9 made8 row8 htl8 hia8
      rintro σ H10 ⟨fv, rfl, row, made, hfv⟩
      refine ⟨fun σ H' => ∃ fv, σ = [some (.ref a), some (.ref r), some (V.int (2 + (v : Int))), some tv, some (V.int (1 + (u : Int))), some (.ref tl), some (.ref ia), some (nv cs.length), some fv, none, none, none, none] ∧ RowI K H H' r ∧ Made H' tv (.ref ia) sz n rels cs, ?_, ?_⟩
      · walk_at "rd"
        refine ⟨tv, .ref ia, sz, rels, n, cs, rfl, made.tpl, made.tok, made.hsz, made.ins, made.hn, made.iok.few, made.iok.con, fun H11 l11 xs11 s11 nl11 hl11 hsol11 => ?_⟩
        refine ⟨sz_le (by decide), fun e ne => ?_⟩
        have s12 := s11.trans (same_new (o := .lst []) ne)
        have hl12 := same_new (o := .lst []) ne _ _ hl11
        have he12 : upd H11 e (.lst []) e = some (.lst []) := upd_same
        generalize upd H11 e (.lst []) = H12 at s12 hl12 he12
        have row12 := row.same s12
        have made12 := made.tx (same_tx s12)
        refine ⟨true, l11, e, xs11, rfl, rfl, sq_l hl12, sq_l he12, ?_⟩
        walk_at "rd"
        refine ite_of (p := SolvI sz n rels cs) ?_ (fun hy => ?_) fun hno => ?_
        · have : xs11 = [] ↔ ¬ SolvI sz n rels cs := hsol11
          cases xs11 with
          | nil => simp; exact this.mp rfl
          | cons a b => simp at this ⊢; exact this
        · rcases hfv with ⟨rfl, _⟩ | ⟨t, idx, rfl, ht, hconf⟩
          · walk_at "rd"
            exact ⟨row12, made12⟩
          · exact absurd hy (conf_no hconf)
        · rcases hfv with ⟨rfl, hy⟩ | ⟨t, idx, rfl, ht, hconf⟩
          · exact absurd hy hno
          · have ht12 := s12 _ _ ht
            clear s12 s11 hl12 he12 hl11 ht ne nl11 hsol11 row made
            have hil : idx.length ≤ 10 := Nat.le_trans (nodup_lt hconf.asc.nodup hconf.lt) hlen
            walk_at "rd"
            intro l nl
            have s13 := same_new (o := .lst (idx.map nv)) nl
            have hl13 : upd H12 l (.lst (idx.map nv)) l = some (.lst (idx.map nv)) := upd_same
            have ht13 := s13 _ _ ht12
            have row13 := row12.same s13
            have made13 := made12.tx (same_tx s13)
            generalize upd H12 l (.lst (idx.map nv)) = H13 at hl13 ht13 row13 made13
            clear s13 nl
            walk_at "rd"
            refine ⟨t, false, idx, rfl, sq_t ht13, by omega, fun H14 o out s14 no ho hasc hmem => ?_⟩
            have hl14 := s14 _ _ hl13
            have ht14 := s14 _ _ ht13
            have row14 := row13.same s14
            have made14 := made13.tx (same_tx s14)
            have eo : out = idx := asc_same hasc hconf.asc hmem
            subst eo
            refine ⟨l, o, zs out, zs out, rfl, rfl, by rw [zs_nv]; exact hl14, by rw [zs_nv]; exact ho, ?_⟩
            walk_at "rd"
            refine ite_of (p := False) (by simp) (fun h => h.elim) fun _ => ?_
            walk_at "rd"
            refine fun J wJ D0 nD0 => lc_F wJ (fun _ => []) rfl (fun _ _ => small_lt (m := 1000) (Nat.zero_le _)) nD0 yat_s (fun H' sm => sq_t (sm _ _ ht14)) ?_ ?_
            · intro i x H15 H16 Q' N hi s15 y kq kn
              obtain ⟨s16, hx⟩ := yat_same y
              obtain ⟨j, hj, rfl⟩ := nv_at hx
              have hjl := hconf.lt j (List.mem_of_getElem? hj)
              refine ⟨rfl, ?_⟩
              walk_at "rd"
              refine ⟨j, _, rfl, by omega, ?_⟩
              walk_at "rd"
              exact kn _ (Same.refl _) rfl
            · intro H15 s15 hD0
              refine ⟨sz_le (by decide), fun e2 ne2 => ?_⟩
              have s16 := s15.trans (same_new (o := .lst []) ne2)
              have hD16 := same_new (o := .lst []) ne2 _ _ hD0
              have he16 : upd H15 e2 (.lst []) e2 = some (.lst []) := upd_same
              generalize upd H15 e2 (.lst []) = H16 at s16 hD16 he16
              have ht16 := s16 _ _ ht14
              have row16 := row14.same s16
              have made16 := made14.tx (same_tx s16)
              refine ⟨true, D0, e2, [], rfl, rfl, sq_l hD16, sq_l he16, ?_⟩
              walk_at "rd"
              refine ⟨tv, .ref ia, t, sz, rels, n, cs, false, out, rfl, made16.tpl, made16.tok, made16.hsz, made16.ins, made16.hn, made16.iok.few, made16.iok.con, sq_t ht16, hconf.asc, hconf.lt, fun H17 b s17 hb => ?_⟩
              have ht17 := s17 _ _ ht16
              have row17 := row16.same s17
              have made17 := made16.tx (same_tx s17)
              rw [hb.mpr hconf]
              clear s17 s16 s15 hD16 he16 hD0 ne2 row16 made16 ht16 row14 made14 ht14 hl14 ho no s14 row13 made13 ht13 hl13 hb nD0 wJ
              walk_at "rd"
              have ks : ∀ x ∈ out.map nv, ∀ H : Hp, ∃ t, Kd H x t := fun x hx H => by
                obtain ⟨i, _, rfl⟩ := List.mem_map.mp hx
                exact ⟨"int", .int _⟩
              refine ⟨tv, .ref ia, .ref t, sz, n, rels, cs, rfl, made17.tpl, made17.tok, made17.ins, made17.iok, .inr ⟨t, out.map nv, rfl, .inl ht17, fun x hx => ks x hx _, by rw [List.length_map]; omega, fun H18 b s18 hb => ?_⟩⟩
              rw [hb.mpr ⟨out, rfl, hconf⟩]
              have ht18 := s18 _ _ ht17
              have row18 := row17.same s18
              have made18 := made17.tx (same_tx s18)
              clear s18 row17 made17 ht17 hb
              walk_at "rd"
              intro l2 nl2
              have s19 := same_new (o := .lst (out.map nv)) nl2
              have hl19 : upd H18 l2 (.lst (out.map nv)) l2 = some (.lst (out.map nv)) := upd_same
              have ht19 := s19 _ _ ht18
              have row19 := row18.same s19
              have made19 := made18.tx (same_tx s19)
              generalize upd H18 l2 (.lst (out.map nv)) = H19 at hl19 ht19 row19 made19
              clear s19 nl2 row18 made18 ht18
              refine ⟨tv, .ref ia, .ref l2, sz, n, rels, cs, rfl, made19.tpl, made19.tok, made19.ins, made19.iok, .inl ⟨"list", .lst hl19, by decide +kernel, fun H20 s20 => ?_⟩⟩
              have ht20 := s20 _ _ ht19
              have row20 := row19.same s20
              have made20 := made19.tx (same_tx s20)
              clear s20 row19 made19 ht19 hl19
              walk_at "rd"
              refine ⟨fun σ H' => σ = [some (.ref a), some (.ref r), some (V.int (2 + (v : Int))), some tv, some (V.int (1 + (u : Int))), some (.ref tl), some (.ref ia), some (nv cs.length), some (.ref t), none, none, none, none] ∧ H' t = some (.tup (out.map nv)) ∧ RowI K H H' r ∧ Made H' tv (.ref ia) sz n rels cs, ?_, ?_⟩
              · walk_at "rd"
                rw [List.length_map]
                refine ite_of (p := 1 < out.length) (by rw [decide_eq_true_iff]; omega) (fun h1 => ?_) fun h1 => ?_
                · walk_at "rd"
                  refine ⟨t, _, rfl, ht20, fun p np => ?_⟩
                  have s21 := same_new (o := .tup (out.map nv).reverse) np
                  have hp21 : upd H20 p (.tup (out.map nv).reverse) p = some (.tup (out.map nv).reverse) := upd_same
                  have ht21 := s21 _ _ ht20
                  have row21 := row20.same s21
                  have made21 := made20.tx (same_tx s21)
                  generalize upd H20 p (.tup (out.map nv).reverse) = H21 at hp21 ht21 row21 made21
                  refine ⟨tv, .ref ia, .ref p, sz, n, rels, cs, rfl, made21.tpl, made21.tok, made21.ins, made21.iok, .inr ⟨p, _, rfl, .inl hp21, fun x hx => ks x (List.mem_reverse.mp hx) _, by rw [List.length_reverse, List.length_map]; omega, fun H22 b s22 hb => ?_⟩⟩
                  have eb : b = false := by
                    cases b with
                    | false => rfl
                    | true => exact absurd (hb.mp rfl) (say_rev hconf h1)
                  rw [eb]
                  walk_at "rd"
                  exact ⟨s22 _ _ ht21, row21.same s22, made21.tx (same_tx s22)⟩
                · exact ⟨rfl, ht20, row20, made20⟩
              · clear made20 row20 ht20
                rintro σ H21 ⟨rfl, ht21, row21, made21⟩
                obtain ⟨x, hx, hat⟩ := at_last (conf_ne hconf (by omega : 1 ≤ sz))
                walk_at "rd"
                refine ⟨sz_le (by show 1 ≤ 1000000; decide), fun p np => ?_⟩
                have s22 := same_new (o := .tup [nv x]) np
                have hp22 : upd H21 p (.tup [nv x]) p = some (.tup [nv x]) := upd_same
                have ht22 := s22 _ _ ht21
                refine ⟨t, p, out.map nv, [nv x], rfl, rfl, ht22, hp22, sz_le (by rw [List.length_map, List.length_singleton]; omega), fun p2 H23 s23 hp23 => ?_⟩
                have s24 := s22.trans s23
                have row23 := row21.same s24
                have made23 := made21.tx (same_tx s24)
                refine ⟨tv, .ref ia, .ref p2, sz, n, rels, cs, rfl, made23.tpl, made23.tok, made23.ins, made23.iok, .inr ⟨p2, _, rfl, .inl hp23, fun y hy => ?_, by rw [List.length_append, List.length_map, List.length_singleton]; omega, fun H24 b s24' hb => ?_⟩⟩
                · rcases List.mem_append.mp hy with e | e
                  · exact ks y e _
                  · rw [List.mem_singleton.mp e]
                    exact ⟨"int", .int _⟩
                · have eb : b = false := by
                    cases b with
                    | false => rfl
                    | true => exact absurd (hb.mp rfl) (say_last hx)
                  rw [eb]
                  walk_at "rd"
                  exact ⟨row23.same s24', made23.tx (same_tx s24')⟩
      · rintro σ H11 ⟨fv2, rfl, row11, made11⟩
        clear hfv made row
        refine ⟨fun σ H' => ∃ y9 y10, σ = [some (.ref a), some (.ref r), some (V.int (2 + (v : Int))), some tv, some (V.int (1 + (u : Int))), some (.ref tl), some (.ref ia), some (nv cs.length), some fv2, y9, y10, none, none] ∧ Made H' tv (.ref ia) sz n rels cs, ?_, ?_⟩
        · walk_at "rd"
          refine ⟨by decide, by decide, for_it (walk_nv (n := 3)) (fun i σ H' => ∃ y9 y10, σ = [some (.ref a), some (.ref r), some (V.int (2 + (v : Int))), some tv, some (V.int (1 + (u : Int))), some (.ref tl), some (.ref ia), some (nv cs.length), some fv2, y9, y10, none, none] ∧ RowI K H H' r ∧ Made H' tv (.ref ia) sz n rels cs) ⟨_, _, rfl, row11, made11⟩ (fun _ _ _ _ _ => trivial) (fun i x σ H12 H13 hi q12 y => ?_) fun σ H12 q12 => ?_⟩
          · obtain ⟨rfl, rfl⟩ := y
            obtain ⟨y9, y10, rfl, row, made⟩ := q12
            refine ⟨fun σ H' => ∃ st idx y9, σ = [some (.ref a), some (.ref r), some (V.int (2 + (v : Int))), some tv, some (V.int (1 + (u : Int))), some (.ref tl), some (.ref ia), some (nv cs.length), some fv2, y9, some (.ref st), none, none] ∧ RowI K H H' r ∧ Made H' tv (.ref ia) sz n rels cs ∧ H' st = some (.tup (idx.map nv)) ∧ AscN idx ∧ ∀ i ∈ idx, i < cs.length, ?_, ?_⟩
            · walk_at "rd"
              refine ite_of (p := 0 < cs.length) (by rw [decide_eq_true_iff]; omega) (fun hpos => ?_) fun hpos => ?_
              · walk_at "rd"
                refine ⟨r, 4, H, rfl, row, by decide, by decide, fun H14 u2 kp14 row14 hu2 => ?_⟩
                have made14 := made.tx (row.tx kp14)
                walk_at "rd"
                refine ⟨by omega, by omega, fun D0 nD0 => lc_KE (walk_nv (n := (1 + (u2 : Int)).toNat)) (fun b => b = r) (fun H' => RowI K H H' r) (fun i acc _ => ∃ l : List Nat, acc = l.map nv ∧ l.length = i ∧ Lt cs.length l ∧ i ≤ 4) nD0 (fun e => ?_) yfn_s (fun i acc H H' _ h => h) (fun i acc _ h => ?_) (fun H7 H8 hb h7 => ?_) (fun _ _ _ => trivial) ⟨[], rfl, rfl, fun x h => absurd h List.not_mem_nil, Nat.zero_le _⟩ row14 ?_ ?_⟩
                · obtain ⟨xs, hx⟩ := row14.at
                  rw [e, hx] at nD0
                  cases nD0
                · obtain ⟨l, h1, h2, h3, h4⟩ := h
                  rw [h1, List.length_map, h2]
                  exact small_lt (m := 1000) (by omega)
                · obtain ⟨a1, a2, sa, ns, k, st, rs, a3, a4, a5, a6⟩ := h7
                  obtain ⟨f1, f2⟩ := row14.fresh nD0
                  exact ⟨fun b o eb => by rw [hb b (ne_of_none eb f1)]; exact a1 b o eb, a2, sa, ns, k, st, rs, a3, a4, by rw [hb r f2.symm]; exact a5, a6⟩
                · intro i2 x H7 H8 acc Q' N hi2 ke7 hrow7 hDacc hacc y kq _
                  obtain ⟨rfl, rfl⟩ := y
                  obtain ⟨l, h1, h2, h3, h4⟩ := hacc
                  refine ⟨rfl, lcY ?_⟩
                  walk_at "rd"
                  refine ⟨r, (cs.length : Int), H, rfl, hrow7, by omega, by omega, fun H9 w9 kp9 hrow9 hw => ?_⟩
                  refine kq _ _ (fun b o hb e => kp9 b o hb e) (hrow7.tx kp9) hrow9 ⟨l ++ [w9], by rw [h1, List.map_append] <;> rfl, by rw [List.length_append, h2] <;> rfl, fun z hz => ?_, by omega⟩
                  rcases List.mem_append.mp hz with e | e
                  · exact h3 z e
                  · rw [List.mem_singleton.mp e]; omega
                · intro H15 acc ke15 row15 hD0 hacc
                  obtain ⟨l, rfl, h2, h3, h4⟩ := hacc
                  have kp15 : Kp r H14 H15 := fun b o hb e => ke15 b o hb e
                  have made15 := made14.tx (row14.tx kp15)
                  refine ⟨D0, true, l, rfl, hD0, by omega, fun H16 o out s16 no ho hasc hmem => ?_⟩
                  refine ⟨o, _, rfl, ho, fun st nst => ?_⟩
                  have s17 := s16.trans (same_new (o := .tup (out.map nv)) nst)
                  exact ⟨st, out, _, rfl, row15.same s17, made15.tx (same_tx s17), upd_same, hasc, fun i hi => h3 i ((hmem i).mp hi)⟩
              · refine ⟨sz_le (by decide), fun st nst => ?_⟩
                have s14 := same_new (o := .tup []) nst
                exact ⟨st, [], _, rfl, row.same s14, made.tx (same_tx s14), upd_same, .nil, fun i h => absurd h List.not_mem_nil⟩
            · rintro σ H14 ⟨st, idx, y9, rfl, row14, made14, hst, hasc, hidx⟩
              have hil : idx.length ≤ 10 := Nat.le_trans (nodup_lt hasc.nodup hidx) hlen
              walk_at "rd"
              refine ⟨tv, .ref ia, .ref st, sz, n, rels, cs, rfl, made14.tpl, made14.tok, made14.ins, made14.iok, .inr ⟨st, idx.map nv, rfl, .inl hst, fun x hx => ?_, by rw [List.length_map]; omega, fun H15 b1 s15 hb1 => ?_⟩⟩
              · obtain ⟨i, _, rfl⟩ := List.mem_map.mp hx
                exact ⟨"int", .int _⟩
              · have hst15 := s15 _ _ hst
                have made15 := made14.tx (same_tx s15)
                walk_at "rd"
                refine ⟨tv, .ref ia, st, sz, rels, n, cs, false, idx, rfl, made15.tpl, made15.tok, made15.hsz, made15.ins, made15.hn, made15.iok.few, made15.iok.con, sq_t hst15, hasc, hidx, fun H16 b2 s16 hb2 => ?_⟩
                refine ⟨b1, b2, rfl, fun H17 s17 => ?_⟩
                have eb : b1 = b2 := by
                  rw [Bool.eq_iff_iff, hb1, hb2]
                  constructor
                  · rintro ⟨idx', e, hc⟩
                    rw [nvs_inj e]
                    exact hc
                  · exact fun hc => ⟨idx, rfl, hc⟩
                rw [eb, beq_self_eq_true]
                have s1417 := s15.trans (s16.trans s17)
                walk_at "rd"
                exact ⟨_, _, rfl, row14.same s1417, made14.tx (same_tx s1417)⟩
          · obtain ⟨y9, y10, rfl, row, made⟩ := q12
            exact ⟨_, _, rfl, made⟩
        · rintro σ H12 ⟨y9, y10, rfl, made⟩
          walk_at "rd"
          refine ⟨sz_le (by show 1 ≤ 1000000; decide), fun p1 n1 => ?_⟩
          have made1 := made.tx (tx_new (o := .tup [nv cs.length]) n1)
          have o1 : OddV (upd H12 p1 (.tup [nv cs.length])) cs.length (.ref p1) := .inr ⟨p1, _, "int", rfl, upd_same, .int _, fun i e => by rw [nv_inj e]; exact Nat.le_refl _⟩
          generalize upd H12 p1 (.tup [nv cs.length]) = G1 at made1 o1
          walk_at "rd"
          refine ⟨sz_le (by show 1 ≤ 1000000; decide), fun p2 n2 => ?_⟩
          have g2 := same_new (o := .tup [V.int (-1)]) n2
          have o2 : OddV (upd G1 p2 (.tup [V.int (-1)])) cs.length (.ref p2) := .inr ⟨p2, _, "int", rfl, upd_same, .int _, fun i e => by unfold nv at e; injection e with e; omega⟩
          have made2 := made1.tx (same_tx g2)
          have o1 := o1.same g2
          show tCons _ _ _ (upd G1 p2 (.tup [V.int (-1)])) _
          generalize upd G1 p2 (.tup [V.int (-1)]) = G2 at made2 o1 o2
          refine ⟨sz_le (by show 1 ≤ 1000000; decide), fun p3 n3 => ?_⟩
          have g3 := same_new (o := .tup [V.bl true]) n3
          have o3 : OddV (upd G2 p3 (.tup [V.bl true])) cs.length (.ref p3) := .inr ⟨p3, _, "bool", rfl, upd_same, .bl _, fun i e => nomatch e⟩
          have made3 := made2.tx (same_tx g3)
          have o1 := o1.same g3
          have o2 := o2.same g3
          generalize upd G2 p3 (.tup [V.bl true]) = G3 at made3 o1 o2 o3
          refine ⟨sz_le (by show 1 ≤ 1000000; decide), fun p4 n4 => ?_⟩
          have g4 := same_new (o := .tup [V.non]) n4
          have o4 : OddV (upd G3 p4 (.tup [V.non])) cs.length (.ref p4) := .inr ⟨p4, _, "NoneType", rfl, upd_same, .non, fun i e => nomatch e⟩
          have made4 := made3.tx (same_tx g4)
          have o1 := o1.same g4
          have o2 := o2.same g4
          have o3 := o3.same g4
          generalize upd G3 p4 (.tup [V.non]) = G4 at made4 o1 o2 o3 o4
          intro p5 n5
          have g5 := same_new (o := .dK []) n5
          have o5 : OddV (upd G4 p5 (.dK [])) cs.length (.ref p5) := .inl ⟨"dict", .dct upd_same, by decide +kernel⟩
          have made5 := made4.tx (same_tx g5)
          have o1 := o1.same g5
          have o2 := o2.same g5
          have o3 := o3.same g5
          have o4 := o4.same g5
          generalize upd G4 p5 (.dK []) = G5 at made5 o1 o2 o3 o4 o5
          refine ⟨sz_le (by decide), fun l6 n6 => ?_⟩
          have g6 := same_new (o := .lst []) n6
          have hl6 : upd G5 l6 (.lst []) l6 = some (.lst []) := upd_same
          have made6 := made5.tx (same_tx g6)
          have o1 := o1.same g6
          have o2 := o2.same g6
          have o3 := o3.same g6
          have o4 := o4.same g6
          have o5 := o5.same g6
          generalize upd G5 l6 (.lst []) = G6 at made6 o1 o2 o3 o4 o5 hl6
          refine ⟨sz_le (by show 1 ≤ 1000000; decide), fun p7 n7 => ?_⟩
          have g7 := same_new (o := .tup [V.ref l6]) n7
          have o7 : OddV (upd G6 p7 (.tup [V.ref l6])) cs.length (.ref p7) := .inr ⟨p7, _, "list", rfl, upd_same, .lst (g7 _ _ hl6), fun i e => nomatch e⟩
          have made7 := made6.tx (same_tx g7)
          have o1 := o1.same g7
          have o2 := o2.same g7
          have o3 := o3.same g7
          have o4 := o4.same g7
          have o5 := o5.same g7
          generalize upd G6 p7 (.tup [V.ref l6]) = G7 at made7 o1 o2 o3 o4 o5 o7
          refine ⟨sz_le (by show 1 ≤ 1000000; decide), fun l8 n8 => ?_⟩
          have g8 := same_new (o := .lst [V.int 0]) n8
          have o8 : OddV (upd G7 l8 (.lst [V.int 0])) cs.length (.ref l8) := .inl ⟨"list", .lst upd_same, by decide +kernel⟩
          have made8 := made7.tx (same_tx g8)
          have o1 := o1.same g8
          have o2 := o2.same g8
          have o3 := o3.same g8
          have o4 := o4.same g8
          have o5 := o5.same g8
          have o7 := o7.same g8
          generalize upd G7 l8 (.lst [V.int 0]) = G8 at made8 o1 o2 o3 o4 o5 o7 o8
          refine ⟨sz_le (by show 10 ≤ 1000000; decide), fun l9 n9 => ?_⟩
          have g9 := same_new (o := .lst [V.non, .int 3, .ref p1, .ref p2, .ref p3, .ref p4, .ref p5, .str "0", .ref p7, .ref l8]) n9
          have hl9 : upd G8 l9 (.lst [V.non, .int 3, .ref p1, .ref p2, .ref p3, .ref p4, .ref p5, .str "0", .ref p7, .ref l8]) l9 = some (.lst [V.non, .int 3, .ref p1, .ref p2, .ref p3, .ref p4, .ref p5, .str "0", .ref p7, .ref l8]) := upd_same
          have made9 := made8.tx (same_tx g9)
          have odd : ∀ x ∈ [V.non, .int 3, .ref p1, .ref p2, .ref p3, .ref p4, .ref p5, .str "0", .ref p7, .ref l8], OddV (upd G8 l9 (.lst [V.non, .int 3, .ref p1, .ref p2, .ref p3, .ref p4, .ref p5, .str "0", .ref p7, .ref l8])) cs.length x := by
            intro x hx
            simp only [List.mem_cons, List.not_mem_nil, or_false] at hx
            rcases hx with rfl | rfl | rfl | rfl | rfl | rfl | rfl | rfl | rfl | rfl
            · exact .inl ⟨"NoneType", .non, by decide +kernel⟩
            · exact .inl ⟨"int", .int _, by decide +kernel⟩
            · exact o1.same g9
            · exact o2.same g9
            · exact o3.same g9
            · exact o4.same g9
            · exact o5.same g9
            · exact .inl ⟨"str", .str _, by decide +kernel⟩
            · exact o7.same g9
            · exact o8.same g9
          generalize upd G8 l9 (.lst [V.non, .int 3, .ref p1, .ref p2, .ref p3, .ref p4, .ref p5, .str "0", .ref p7, .ref l8]) = G9 at hl9 made9 odd
          refine ⟨true, l9, _, rfl, hl9, fun J wJ => for_it wJ (fun i σ H' => ∃ y11, σ = [some (.ref a), some (.ref r), some (V.int (2 + (v : Int))), some tv, some (V.int (1 + (u : Int))), some (.ref tl), some (.ref ia), some (nv cs.length), some fv2, y9, y10, y11, none] ∧ Same G9 H') ⟨_, rfl, Same.refl _⟩ (fun i σ H' _ q => ?_) (fun i x σ H13 H14 hi q13 y => ?_) fun σ H13 q13 => ?_⟩
          · obtain ⟨_, _, sm⟩ := q
            exact sm _ _ hl9
          · obtain ⟨y11, rfl, sm⟩ := q13
            obtain ⟨s14, hx⟩ := yat_same y
            have sm14 := sm.trans s14
            have made14 := made9.tx (same_tx sm14)
            have ox := (odd x (List.mem_of_getElem? hx)).same sm14
            walk_at "rd"
            refine ⟨tv, .ref ia, x, sz, n, rels, cs, rfl, made14.tpl, made14.tok, made14.ins, made14.iok, ?_⟩
            rcases ox with ⟨t, kd, e⟩ | ⟨pa, z, t, rfl, hpa, kd, hz⟩
            · refine .inl ⟨t, kd, e, fun H15 s15 => ?_⟩
              walk_at "rd"
              exact sm14.trans s15
            · refine .inr ⟨pa, [z], rfl, .inl hpa, fun y hy => by rw [List.mem_singleton.mp hy]; exact ⟨t, kd⟩, by show 1 ≤ 1000; decide, fun H15 b s15 hb => ?_⟩
              have eb : b = false := by
                cases b with
                | false => rfl
                | true =>
                  obtain ⟨idx, e, hc⟩ := hb.mp rfl
                  match idx, e with
                  | [i], e =>
                    have e2 : z = nv i := by
                      have := List.cons.inj e
                      exact this.1
                    have h1 := hz i e2
                    have h2 := hc.lt i (List.mem_singleton.mpr rfl)
                    omega
              rw [eb]
              walk_at "rd"
              exact sm14.trans s15
          · obtain ⟨y11, rfl, sm⟩ := q13
            walk_at "rd"
            exact q _
end
end G
/-! The end: what the top has left, and the theorem. -/
namespace G
open PySem PySem.Spec PyProof.Rows L2
section
variable {K : PySem.W.Frag} {h : Heap} {mg : Str → Option Value} {α : Type}
abbrev FnO (K : PySem.W.Frag) (x qual : Str) (st : Stmt) (f : Addr) (oc : Value) (od an : Option Addr) (osl : Array (Option Value)) (kV doc pm cdv ct : Value) : Prop :=
  K.lookup f = some ⟨oc, od, .func (PySem.W.fnOf x qual (defArgs st) (defBody st) (defScope st) .none kV doc pm an cdv ct), osl⟩
abbrev BindO (x qual : Str) (st : Stmt) (ps : List Str) : Prop :=
  ∀ (kV doc pm : Value) (an : Option Addr) (cdv ct : Value) (us : List Value), us.length = ps.length → bindArgs (PySem.W.fnOf x qual (defArgs st) (defBody st) (defScope st) .none kV doc pm an cdv ct) ⟨us, []⟩ = pure (ps.zip us)
noncomputable def then_def (x : Str) (st : Stmt) (ps : List Str) (X : K.In h) (g : h.Ns mainGlobals mg) {f : Addr} {oc : Value} {od an : Option Addr} {osl : Array (Option Value)} {kV doc pm cdv ct : Value}
    (a : PySem.W.nsIn K mainGlobals x = some (some (.ref f))) (l : K.lookup f = some ⟨oc, od, .func (PySem.W.fnOf x x (defArgs st) (defBody st) (defScope st) .none kV doc pm an cdv ct), osl⟩) (c : PySem.W.codeIn K cdv x = true) (k : PySem.W.keepIn K (.ref f) = true) (b : BindO x x st ps)
    (rest : Def K mg x st ps → α) : α := rest ⟨f, _, fun_mk l c k, (fun_mk l c k).binds b, PySem.W.mg_of X g a⟩
noncomputable def then_mdef (x qual : Str) (st : Stmt) (ps : List Str) {C : Addr} (cl : Cls K C) {f : Addr} {oc : Value} {od an : Option Addr} {osl : Array (Option Value)} {kV doc pm cdv ct : Value}
    (a : PySem.W.findIn K (.ref C) x = some (some (.ref f))) (i : PySem.W.isFn K (.ref f) = true) (l : K.lookup f = some ⟨oc, od, .func (PySem.W.fnOf x qual (defArgs st) (defBody st) (defScope st) .none kV doc pm an cdv ct), osl⟩) (c : PySem.W.codeIn K cdv qual = true) (k : PySem.W.keepIn K (.ref f) = true) (b : BindO x qual st ps)
    (rest : MDef K C x qual st ps → α) : α := rest ⟨f, _, fun_mk l c k, (fun_mk l c k).binds b, ⟨a, i, k⟩⟩
noncomputable def then_init (x qual : Str) (st : Stmt) (ps : List Str) {C : Addr} (cl : Cls K C) {f : Addr} {oc : Value} {od an : Option Addr} {osl : Array (Option Value)} {kV doc pm cdv ct : Value}
    (a : PySem.W.findIn K (.ref C) "__init__" = some (some (.ref f))) (i : PySem.W.isFn K (.ref f) = true) (l : K.lookup f = some ⟨oc, od, .func (PySem.W.fnOf x qual (defArgs st) (defBody st) (defScope st) .none kV doc pm an cdv ct), osl⟩) (c : PySem.W.codeIn K cdv qual = true) (k : PySem.W.keepIn K (.ref f) = true)
    (m : PySem.W.makesIn K C = true) (kc : PySem.W.keepIn K (.ref C) = true) (b : BindO x qual st ps) (rest : (d : Def0 K x qual st ps) → Mk K C d.f → α) : α := rest ⟨f, _, fun_mk l c k, (fun_mk l c k).binds b⟩ ⟨m, a, i, kc⟩
noncomputable def then_cls (x : Str) (X : K.In h) (g : h.Ns mainGlobals mg) {C : Addr} (a : PySem.W.nsIn K mainGlobals x = some (some (.ref C))) (pg : PySem.W.plainGet K C Str.empty = true) (hd : PySem.W.hasDictIn K C = true) (po : PySem.W.plainOver K C = true)
    (sa : PySem.W.findIn K (.ref C) "__setattr__" = some (some (.builtin "object.__setattr__"))) (rest : Cls K C → mg x = some (.ref C) → α) : α := rest ⟨pg, hd, po, sa⟩ (PySem.W.mg_of X g a)
noncomputable def then_none (x : Str) (X : K.In h) (g : h.Ns mainGlobals mg) (a : PySem.W.nsIn K mainGlobals x = some none) (rest : mg x = none → α) : α := rest (PySem.W.mg_none_of X g a)
noncomputable def then_const (x : Str) (i : Int) (X : K.In h) (g : h.Ns mainGlobals mg) {t : Tok} (a : PySem.W.nsIn K mainGlobals x = some (some (.int i t))) (rest : mg x = some (.int i t) → α) : α := rest (PySem.W.mg_of X g a)
noncomputable def then_attr (x : Str) {C : Addr} (cl : Cls K C) (a : PySem.W.findIn K (.ref C) x = some none) (rest : NoAttr K C x → α) : α := rest a
end
theorem fin {l : PySem.W.OpenLaw} {w : World} {K : PySem.W.Frag} {mg : Str → Option Value} {fa : Addr} (T : TX K mg) (hfa : mg "law" = some (.ref fa)) :
    ∃ fd : FuncData, (∀ (s : Shared) (v : Value), BindsTo s fd ⟨[v], []⟩ [("_law_script", v)]) ∧ ∀ base : Heap, K.In base → base.Ns mainGlobals mg → FnOk l.prog w K mg base CX0 8 fa fd ["_law_script"] (sp_law K) := by
  have e := hfa.symm.trans T.law.g
  cases e
  refine ⟨T.law.fd, fun s v => ?_, fun base _ _ => ok_law T⟩
  obtain ⟨oc, od, kV, doc, pm, an, cdv, ct, osl, e, _⟩ := T.law.F.ex
  rw [e]
  exact .of_eq rfl
theorem walk {l : PySem.W.OpenLaw} {q : Program} {loose : List Str} {XP : (Str → Option Value) → Heap → Prop} {YP : World → Heap → Prop} {d : DefRec} {K : Params → PySem.W.Frag} (hn : l.most = some 63) (hdf : d.params.defaults = [])
    (hY : ∀ (w : World) (h : Heap), YP w h → (K w.params).In h)
    (F : ∀ (w : World) (mg : Str → Option Value) (fa : Addr) (h : Heap), (K w.params).In h → h.Ns mainGlobals mg → mg d.name = some (.ref fa) →
      ∃ fd : FuncData, (∀ (s : Shared) (u : Value), BindsTo s fd ⟨[u], []⟩ [("_law_script", u)]) ∧ ∀ base : Heap, (K w.params).In base → base.Ns mainGlobals mg → FnOk l.prog w (K w.params) mg base CX0 8 fa fd ["_law_script"] (sp_law (K w.params))) :
    PySem.W.WalkO q loose XP YP l.row.toRowW d [] (fun f vs => PySem.call f vs) :=
  L2.walk_of (n := 63) (k := 8) (x := "_law_script") (CX := fun _ => CX0) (sp := fun w => sp_law (K w.params)) hn (by decide) hdf ⟨rfl, by decide, by decide⟩ hY F (fun _ _ a ns hl _ hS => ⟨a, ns, rfl, hS, hl, fun _ => rfl⟩) fun _ _ _ _ _ z => z
end G

open PySem PySem.W PyProof.Rows in
set_option maxRecDepth 100000 in
set_option maxHeartbeats 0 in
theorem PySem.Challenge.cw_templates_k55_whole_conflicts_holds : PySem.Challenge.rw_templates_k55_whole_conflicts.Holds := by
  w_on; o_law; k_head; (case hw => w_witness2)
  k_fill
  refine G.walk (l := PySem.Challenge.rw_templates_k55_whole_conflicts) rfl rfl (fun w h Y => PySem.W.kIn_of Y) ?F
  case F =>
    intro w mg fa h KX Gn hmg
    refine G.fin ?T hmg
    case T =>
      refine' G.then_cls "Problem" KX Gn ?a1 ?pg1 ?hd1 ?po1 ?sa1 ?rest1
      (case a1 => k_is)
      (case pg1 => k_is)
      (case hd1 => k_is)
      (case po1 => k_is)
      (case sa1 => k_is)
      intro cl gP
      refine' G.then_def "is_int" G.s_is_int ["value"] KX Gn ?a2 ?l2 ?c2 ?k2 (fun _ _ _ _ _ _ us hl => match us, hl with | [_], _ => rfl) ?rest2
      (case a2 => k_is)
      (case l2 => k_is)
      (case c2 => k_is)
      (case k2 => k_is)
      intro d_is_int
      refine' G.then_def "is_in" G.s_is_in ["value", "least", "most"] KX Gn ?a3 ?l3 ?c3 ?k3 (fun _ _ _ _ _ _ us hl => match us, hl with | [_, _, _], _ => rfl) ?rest3
      (case a3 => k_is)
      (case l3 => k_is)
      (case c3 => k_is)
      (case k3 => k_is)
      intro d_is_in
      refine' G.then_def "is_row" G.s_is_row ["size", "arity", "value"] KX Gn ?a4 ?l4 ?c4 ?k4 (fun _ _ _ _ _ _ us hl => match us, hl with | [_, _, _], _ => rfl) ?rest4
      (case a4 => k_is)
      (case l4 => k_is)
      (case c4 => k_is)
      (case k4 => k_is)
      intro d_is_row
      refine' G.then_def "is_relation" G.s_is_relation ["size", "value"] KX Gn ?a5 ?l5 ?c5 ?k5 (fun _ _ _ _ _ _ us hl => match us, hl with | [_, _], _ => rfl) ?rest5
      (case a5 => k_is)
      (case l5 => k_is)
      (case c5 => k_is)
      (case k5 => k_is)
      intro d_is_relation
      refine' G.then_init "__init__" "Problem.__init__" G.s_P_init ["self", "size", "many", "told"] cl ?a6 ?i6 ?l6 ?c6 ?k6 ?m6 ?kc6 (fun _ _ _ _ _ _ us hl => match us, hl with | [_, _, _, _], _ => rfl) ?rest6
      (case a6 => k_is)
      (case i6 => k_is)
      (case l6 => k_is)
      (case c6 => k_is)
      (case k6 => k_is)
      (case m6 => k_is)
      (case kc6 => k_is)
      intro d_P_init mkP
      refine' G.then_mdef "lay" "Problem.lay" G.s_P_lay ["self", "scope", "rows"] cl ?a7 ?i7 ?l7 ?c7 ?k7 (fun _ _ _ _ _ _ us hl => match us, hl with | [_, _, _], _ => rfl) ?rest7
      (case a7 => k_is)
      (case i7 => k_is)
      (case l7 => k_is)
      (case c7 => k_is)
      (case k7 => k_is)
      intro d_P_lay
      refine' G.then_mdef "shrink" "Problem.shrink" G.s_P_shrink ["self", "domains", "index"] cl ?a8 ?i8 ?l8 ?c8 ?k8 (fun _ _ _ _ _ _ us hl => match us, hl with | [_, _, _], _ => rfl) ?rest8
      (case a8 => k_is)
      (case i8 => k_is)
      (case l8 => k_is)
      (case c8 => k_is)
      (case k8 => k_is)
      intro d_P_shrink
      refine' G.then_mdef "settle" "Problem.settle" G.s_P_settle ["self", "domains", "waiting"] cl ?a9 ?i9 ?l9 ?c9 ?k9 (fun _ _ _ _ _ _ us hl => match us, hl with | [_, _, _], _ => rfl) ?rest9
      (case a9 => k_is)
      (case i9 => k_is)
      (case l9 => k_is)
      (case c9 => k_is)
      (case k9 => k_is)
      intro d_P_settle
      refine' G.then_mdef "settle_base" "Problem.settle_base" G.s_P_settle_base ["self"] cl ?a10 ?i10 ?l10 ?c10 ?k10 (fun _ _ _ _ _ _ us hl => match us, hl with | [_], _ => rfl) ?rest10
      (case a10 => k_is)
      (case i10 => k_is)
      (case l10 => k_is)
      (case c10 => k_is)
      (case k10 => k_is)
      intro d_P_settle_base
      refine' G.then_mdef "start" "Problem.start" G.s_P_start ["self", "fixed"] cl ?a11 ?i11 ?l11 ?c11 ?k11 (fun _ _ _ _ _ _ us hl => match us, hl with | [_, _], _ => rfl) ?rest11
      (case a11 => k_is)
      (case i11 => k_is)
      (case l11 => k_is)
      (case c11 => k_is)
      (case k11 => k_is)
      intro d_P_start
      refine' G.then_mdef "values_in" "Problem.values_in" G.s_P_values_in ["self", "mask"] cl ?a12 ?i12 ?l12 ?c12 ?k12 (fun _ _ _ _ _ _ us hl => match us, hl with | [_, _], _ => rfl) ?rest12
      (case a12 => k_is)
      (case i12 => k_is)
      (case l12 => k_is)
      (case c12 => k_is)
      (case k12 => k_is)
      intro d_P_values_in
      refine' G.then_mdef "branches" "Problem.branches" G.s_P_branches ["self", "domains", "variable"] cl ?a13 ?i13 ?l13 ?c13 ?k13 (fun _ _ _ _ _ _ us hl => match us, hl with | [_, _, _], _ => rfl) ?rest13
      (case a13 => k_is)
      (case i13 => k_is)
      (case l13 => k_is)
      (case c13 => k_is)
      (case k13 => k_is)
      intro d_P_branches
      refine' G.then_mdef "any_from" "Problem.any_from" G.s_P_any_from ["self", "fixed"] cl ?a14 ?i14 ?l14 ?c14 ?k14 (fun _ _ _ _ _ _ us hl => match us, hl with | [_, _], _ => rfl) ?rest14
      (case a14 => k_is)
      (case i14 => k_is)
      (case l14 => k_is)
      (case c14 => k_is)
      (case k14 => k_is)
      intro d_P_any_from
      refine' G.then_def "problem_of" G.s_problem_of ["template", "instance"] KX Gn ?a15 ?l15 ?c15 ?k15 (fun _ _ _ _ _ _ us hl => match us, hl with | [_, _], _ => rfl) ?rest15
      (case a15 => k_is)
      (case l15 => k_is)
      (case c15 => k_is)
      (case k15 => k_is)
      intro d_problem_of
      refine' G.then_def "need_template" G.s_need_template ["value"] KX Gn ?a16 ?l16 ?c16 ?k16 (fun _ _ _ _ _ _ us hl => match us, hl with | [_], _ => rfl) ?rest16
      (case a16 => k_is)
      (case l16 => k_is)
      (case c16 => k_is)
      (case k16 => k_is)
      intro d_need_template
      refine' G.then_def "is_constraint" G.s_is_constraint ["template", "variables", "value"] KX Gn ?a17 ?l17 ?c17 ?k17 (fun _ _ _ _ _ _ us hl => match us, hl with | [_, _, _], _ => rfl) ?rest17
      (case a17 => k_is)
      (case l17 => k_is)
      (case c17 => k_is)
      (case k17 => k_is)
      intro d_is_constraint
      refine' G.then_def "need_instance" G.s_need_instance ["template", "value"] KX Gn ?a18 ?l18 ?c18 ?k18 (fun _ _ _ _ _ _ us hl => match us, hl with | [_, _], _ => rfl) ?rest18
      (case a18 => k_is)
      (case l18 => k_is)
      (case c18 => k_is)
      (case k18 => k_is)
      intro d_need_instance
      refine' G.then_def "need_problem" G.s_need_problem ["template", "instance"] KX Gn ?a19 ?l19 ?c19 ?k19 (fun _ _ _ _ _ _ us hl => match us, hl with | [_, _], _ => rfl) ?rest19
      (case a19 => k_is)
      (case l19 => k_is)
      (case c19 => k_is)
      (case k19 => k_is)
      intro d_need_problem
      refine' G.then_def "is_solvable" G.s_is_solvable ["template", "instance", "indexes"] KX Gn ?a20 ?l20 ?c20 ?k20 (fun _ _ _ _ _ _ us hl => match us, hl with | [_, _, _], _ => rfl) ?rest20
      (case a20 => k_is)
      (case l20 => k_is)
      (case c20 => k_is)
      (case k20 => k_is)
      intro d_is_solvable
      refine' G.then_def "conflict" G.s_conflict ["template", "instance"] KX Gn ?a21 ?l21 ?c21 ?k21 (fun _ _ _ _ _ _ us hl => match us, hl with | [_, _], _ => rfl) ?rest21
      (case a21 => k_is)
      (case l21 => k_is)
      (case c21 => k_is)
      (case k21 => k_is)
      intro d_conflict
      refine' G.then_def "shows_conflict" G.s_shows_conflict ["template", "instance", "value"] KX Gn ?a22 ?l22 ?c22 ?k22 (fun _ _ _ _ _ _ us hl => match us, hl with | [_, _, _], _ => rfl) ?rest22
      (case a22 => k_is)
      (case l22 => k_is)
      (case c22 => k_is)
      (case k22 => k_is)
      intro d_shows_conflict
      refine' G.then_def "_law_taken" G.s_l_taken ["_law_row", "_law_many"] KX Gn ?a23 ?l23 ?c23 ?k23 (fun _ _ _ _ _ _ us hl => match us, hl with | [_, _], _ => rfl) ?rest23
      (case a23 => k_is)
      (case l23 => k_is)
      (case c23 => k_is)
      (case k23 => k_is)
      intro d_l_taken
      refine' G.then_def "_law_pick" G.s_l_pick ["_law_row", "_law_things"] KX Gn ?a24 ?l24 ?c24 ?k24 (fun _ _ _ _ _ _ us hl => match us, hl with | [_, _], _ => rfl) ?rest24
      (case a24 => k_is)
      (case l24 => k_is)
      (case c24 => k_is)
      (case k24 => k_is)
      intro d_l_pick
      refine' G.then_def "_law_alike" G.s_l_alike ["_law_found", "_law_due"] KX Gn ?a25 ?l25 ?c25 ?k25 (fun _ _ _ _ _ _ us hl => match us, hl with | [_, _], _ => rfl) ?rest25
      (case a25 => k_is)
      (case l25 => k_is)
      (case c25 => k_is)
      (case k25 => k_is)
      intro d_l_alike
      refine' G.then_def "_law_whole" G.s_l_whole ["_law_value_here", "_law_least", "_law_most"] KX Gn ?a26 ?l26 ?c26 ?k26 (fun _ _ _ _ _ _ us hl => match us, hl with | [_, _, _], _ => rfl) ?rest26
      (case a26 => k_is)
      (case l26 => k_is)
      (case c26 => k_is)
      (case k26 => k_is)
      intro d_l_whole
      refine' G.then_def "_law_rows" G.s_l_rows ["_law_size", "_law_arity"] KX Gn ?a27 ?l27 ?c27 ?k27 (fun _ _ _ _ _ _ us hl => match us, hl with | [_, _], _ => rfl) ?rest27
      (case a27 => k_is)
      (case l27 => k_is)
      (case c27 => k_is)
      (case k27 => k_is)
      intro d_l_rows
      refine' G.then_def "_law_tuples" G.s_l_tuples ["_law_things", "_law_many"] KX Gn ?a28 ?l28 ?c28 ?k28 (fun _ _ _ _ _ _ us hl => match us, hl with | [_, _], _ => rfl) ?rest28
      (case a28 => k_is)
      (case l28 => k_is)
      (case c28 => k_is)
      (case k28 => k_is)
      intro d_l_tuples
      refine' G.then_def "_law_value" G.s_l_value ["_law_size", "_law_operation", "_law_arguments"] KX Gn ?a29 ?l29 ?c29 ?k29 (fun _ _ _ _ _ _ us hl => match us, hl with | [_, _, _], _ => rfl) ?rest29
      (case a29 => k_is)
      (case l29 => k_is)
      (case c29 => k_is)
      (case k29 => k_is)
      intro d_l_value
      refine' G.then_def "_law_carried" G.s_l_carried ["_law_size", "_law_operation", "_law_rows_here"] KX Gn ?a30 ?l30 ?c30 ?k30 (fun _ _ _ _ _ _ us hl => match us, hl with | [_, _, _], _ => rfl) ?rest30
      (case a30 => k_is)
      (case l30 => k_is)
      (case c30 => k_is)
      (case k30 => k_is)
      intro d_l_carried
      refine' G.then_def "_law_closed" G.s_l_closed ["_law_size", "_law_operation", "_law_arity", "_law_rows_here"] KX Gn ?a31 ?l31 ?c31 ?k31 (fun _ _ _ _ _ _ us hl => match us, hl with | [_, _, _, _], _ => rfl) ?rest31
      (case a31 => k_is)
      (case l31 => k_is)
      (case c31 => k_is)
      (case k31 => k_is)
      intro d_l_closed
      refine' G.then_def "_law_kept" G.s_l_kept ["_law_row", "_law_size", "_law_operation", "_law_arity"] KX Gn ?a32 ?l32 ?c32 ?k32 (fun _ _ _ _ _ _ us hl => match us, hl with | [_, _, _, _], _ => rfl) ?rest32
      (case a32 => k_is)
      (case l32 => k_is)
      (case c32 => k_is)
      (case k32 => k_is)
      intro d_l_kept
      refine' G.then_def "_law_named" G.s_l_named ["_law_size"] KX Gn ?a33 ?l33 ?c33 ?k33 (fun _ _ _ _ _ _ us hl => match us, hl with | [_], _ => rfl) ?rest33
      (case a33 => k_is)
      (case l33 => k_is)
      (case c33 => k_is)
      (case k33 => k_is)
      intro d_l_named
      refine' G.then_def "_law_some_rows" G.s_l_some_rows ["_law_row", "_law_size", "_law_arity", "_law_most"] KX Gn ?a34 ?l34 ?c34 ?k34 (fun _ _ _ _ _ _ us hl => match us, hl with | [_, _, _, _], _ => rfl) ?rest34
      (case a34 => k_is)
      (case l34 => k_is)
      (case c34 => k_is)
      (case k34 => k_is)
      intro d_l_some_rows
      refine' G.then_def "_law_relation" G.s_l_relation ["_law_row", "_law_size", "_law_arity", "_law_most"] KX Gn ?a35 ?l35 ?c35 ?k35 (fun _ _ _ _ _ _ us hl => match us, hl with | [_, _, _, _], _ => rfl) ?rest35
      (case a35 => k_is)
      (case l35 => k_is)
      (case c35 => k_is)
      (case k35 => k_is)
      intro d_l_relation
      refine' G.then_def "_law_template" G.s_l_template ["_law_row", "_law_size", "_law_many", "_law_arity", "_law_most"] KX Gn ?a36 ?l36 ?c36 ?k36 (fun _ _ _ _ _ _ us hl => match us, hl with | [_, _, _, _, _], _ => rfl) ?rest36
      (case a36 => k_is)
      (case l36 => k_is)
      (case c36 => k_is)
      (case k36 => k_is)
      intro d_l_template
      refine' G.then_def "_law_instance" G.s_l_instance ["_law_row", "_law_template_here", "_law_variables", "_law_most"] KX Gn ?a37 ?l37 ?c37 ?k37 (fun _ _ _ _ _ _ us hl => match us, hl with | [_, _, _, _], _ => rfl) ?rest37
      (case a37 => k_is)
      (case l37 => k_is)
      (case c37 => k_is)
      (case k37 => k_is)
      intro d_l_instance
      refine' G.then_def "_law_meets" G.s_l_meets ["_law_template_here", "_law_constraints", "_law_values"] KX Gn ?a38 ?l38 ?c38 ?k38 (fun _ _ _ _ _ _ us hl => match us, hl with | [_, _, _], _ => rfl) ?rest38
      (case a38 => k_is)
      (case l38 => k_is)
      (case c38 => k_is)
      (case k38 => k_is)
      intro d_l_meets
      refine' G.then_def "_law_solutions" G.s_l_solutions ["_law_template_here", "_law_instance_here"] KX Gn ?a39 ?l39 ?c39 ?k39 (fun _ _ _ _ _ _ us hl => match us, hl with | [_, _], _ => rfl) ?rest39
      (case a39 => k_is)
      (case l39 => k_is)
      (case c39 => k_is)
      (case k39 => k_is)
      intro d_l_solutions
      refine' G.then_def "_law_once" G.s_l_once ["_law_values"] KX Gn ?a40 ?l40 ?c40 ?k40 (fun _ _ _ _ _ _ us hl => match us, hl with | [_], _ => rfl) ?rest40
      (case a40 => k_is)
      (case l40 => k_is)
      (case c40 => k_is)
      (case k40 => k_is)
      intro d_l_once
      refine' G.then_def "_law_is_conflict" G.s_l_is_conflict ["_law_template_here", "_law_instance_here", "_law_value_here"] KX Gn ?a41 ?l41 ?c41 ?k41 (fun _ _ _ _ _ _ us hl => match us, hl with | [_, _, _], _ => rfl) ?rest41
      (case a41 => k_is)
      (case l41 => k_is)
      (case c41 => k_is)
      (case k41 => k_is)
      intro d_l_is_conflict
      refine' G.then_def "law" G.s_law ["_law_script"] KX Gn ?a42 ?l42 ?c42 ?k42 (fun _ _ _ _ _ _ us hl => match us, hl with | [_], _ => rfl) ?rest42
      (case a42 => k_is)
      (case l42 => k_is)
      (case c42 => k_is)
      (case k42 => k_is)
      intro d_law
      refine' G.then_attr "size" cl ?a43 ?rest43
      (case a43 => k_is)
      intro a_size
      refine' G.then_attr "domains" cl ?a44 ?rest44
      (case a44 => k_is)
      intro a_domains
      refine' G.then_attr "told" cl ?a45 ?rest45
      (case a45 => k_is)
      intro a_told
      refine' G.then_attr "uses" cl ?a46 ?rest46
      (case a46 => k_is)
      intro a_uses
      refine' G.then_attr "base" cl ?a47 ?rest47
      (case a47 => k_is)
      intro a_base
      refine' G.then_attr "is_empty" cl ?a48 ?rest48
      (case a48 => k_is)
      intro a_is_empty
      refine' G.then_none "isinstance" KX Gn ?a49 ?rest49
      (case a49 => k_is)
      intro n_isinstance
      refine' G.then_none "int" KX Gn ?a50 ?rest50
      (case a50 => k_is)
      intro n_int
      refine' G.then_none "bool" KX Gn ?a51 ?rest51
      (case a51 => k_is)
      intro n_bool
      refine' G.then_none "tuple" KX Gn ?a52 ?rest52
      (case a52 => k_is)
      intro n_tuple
      refine' G.then_none "list" KX Gn ?a53 ?rest53
      (case a53 => k_is)
      intro n_list
      refine' G.then_none "str" KX Gn ?a54 ?rest54
      (case a54 => k_is)
      intro n_str
      refine' G.then_none "len" KX Gn ?a55 ?rest55
      (case a55 => k_is)
      intro n_len
      refine' G.then_none "all" KX Gn ?a56 ?rest56
      (case a56 => k_is)
      intro n_all
      refine' G.then_none "range" KX Gn ?a57 ?rest57
      (case a57 => k_is)
      intro n_range
      refine' G.then_none "enumerate" KX Gn ?a58 ?rest58
      (case a58 => k_is)
      intro n_enumerate
      refine' G.then_none "zip" KX Gn ?a59 ?rest59
      (case a59 => k_is)
      intro n_zip
      refine' G.then_none "min" KX Gn ?a60 ?rest60
      (case a60 => k_is)
      intro n_min
      refine' G.then_none "max" KX Gn ?a61 ?rest61
      (case a61 => k_is)
      intro n_max
      refine' G.then_none "sorted" KX Gn ?a62 ?rest62
      (case a62 => k_is)
      intro n_sorted
      refine' G.then_const "MOST_SIZE" 4 KX Gn ?a63 ?rest63
      (case a63 => k_is)
      intro c_MOST_SIZE
      refine' G.then_const "MOST_ARITY" 4 KX Gn ?a64 ?rest64
      (case a64 => k_is)
      intro c_MOST_ARITY
      refine' G.then_const "MOST_RELATIONS" 6 KX Gn ?a65 ?rest65
      (case a65 => k_is)
      intro c_MOST_RELATIONS
      refine' G.then_const "MOST_VARIABLES" 16 KX Gn ?a66 ?rest66
      (case a66 => k_is)
      intro c_MOST_VARIABLES
      refine' G.then_const "MOST_CONSTRAINTS" 200 KX Gn ?a67 ?rest67
      (case a67 => k_is)
      intro c_MOST_CONSTRAINTS
      exact { C := _, cl := cl, g_Problem := gP, is_int := d_is_int, is_in := d_is_in, is_row := d_is_row, is_relation := d_is_relation, P_init := d_P_init, mkP := mkP, P_lay := d_P_lay, P_shrink := d_P_shrink, P_settle := d_P_settle, P_settle_base := d_P_settle_base, P_start := d_P_start, P_values_in := d_P_values_in, P_branches := d_P_branches, P_any_from := d_P_any_from, problem_of := d_problem_of, need_template := d_need_template, is_constraint := d_is_constraint, need_instance := d_need_instance, need_problem := d_need_problem, is_solvable := d_is_solvable, conflict := d_conflict, shows_conflict := d_shows_conflict, l_taken := d_l_taken, l_pick := d_l_pick, l_alike := d_l_alike, l_whole := d_l_whole, l_rows := d_l_rows, l_tuples := d_l_tuples, l_value := d_l_value, l_carried := d_l_carried, l_closed := d_l_closed, l_kept := d_l_kept, l_named := d_l_named, l_some_rows := d_l_some_rows, l_relation := d_l_relation, l_template := d_l_template, l_instance := d_l_instance, l_meets := d_l_meets, l_solutions := d_l_solutions, l_once := d_l_once, l_is_conflict := d_l_is_conflict, law := d_law, a_size := a_size, a_domains := a_domains, a_told := a_told, a_uses := a_uses, a_base := a_base, a_is_empty := a_is_empty, n_isinstance := n_isinstance, n_int := n_int, n_bool := n_bool, n_tuple := n_tuple, n_list := n_list, n_str := n_str, n_len := n_len, n_all := n_all, n_range := n_range, n_enumerate := n_enumerate, n_zip := n_zip, n_min := n_min, n_max := n_max, n_sorted := n_sorted, t_MOST_SIZE := _, c_MOST_SIZE := c_MOST_SIZE, t_MOST_ARITY := _, c_MOST_ARITY := c_MOST_ARITY, t_MOST_RELATIONS := _, c_MOST_RELATIONS := c_MOST_RELATIONS, t_MOST_VARIABLES := _, c_MOST_VARIABLES := c_MOST_VARIABLES, t_MOST_CONSTRAINTS := _, c_MOST_CONSTRAINTS := c_MOST_CONSTRAINTS }
