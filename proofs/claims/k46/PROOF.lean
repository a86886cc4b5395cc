import PyProof.Rows.All
import Wide.All
import OpenK.AllK
import Wide.FinOn
import PyProof.EqAt
import PyProof.EqKinds
import PyProof.TupleCall
import KE.KLam
import HandS.ForMost
import HandS.Exc
import HandS.TryOnly
import HandS.ExcOwn
import HandS.WordsExc
import HandS.Defaults
import HandS.Flow
import HandS.Codes
import HandS.Lambda
import HandS.EndBits
import HandS.EndTab
import HandS.Star
import HandS.ClsMeth
import HandS.IsInst
import HandS.OwnEq
import HandS.ExcSuper
import HandS.ExcIs
import HandS.ExcField
import HandS.ExcValue
import HandS.GenCall
import HandS.IterVal
import HandS.TupAny
import HandS.TupMul
import HandS.DictComp
import HandS.SortInts
import HandS.Evl
import HandS.Head0
import HandS.Head1
import HandS.Head2
import HandS.HeadHook1
import HandS.HeadHook2
import HandS.HeadHook3
import HandS.HeadHook4
import HandS.HeadNt
import HandS.HeadWalk
import HandS.ExcInit
import KE.KExcSuper
import HandS.Conv
import HandS.Walk
import KE.GoesMore
import HandS.Nested
import HandS.GenList
import KE.KCallOwn
import KE.KExcIs
import PySem.Challenge.RW_freetakes_k46_whole_rules_of_the_greates
set_option Elab.async false
set_option linter.all false
set_option maxRecDepth 100000
namespace Fk
open PySem PySem.Spec PyProof.Rows L2
/-! ### the text by places -/
def top (i : Nat) : Stmt := PySem.Challenge.pw_freetakes_k46_whole_rules_of_the_greates.main.body.getD i (.Pass ⟨0, 0, 0, 0⟩)
abbrev s_is_integer : Stmt := top 14
abbrev N_is_integer : List Str := ["value", "least", "most"]
theorem sc_is_integer : FnScope N_is_integer ["value", "least", "most"] (defScope s_is_integer) := ⟨rfl, rfl, rfl, by decide +kernel, rfl, by decide +kernel, by decide +kernel⟩
abbrev s_is_heap : Stmt := top 15
abbrev N_is_heap : List Str := ["value"]
theorem sc_is_heap : FnScope N_is_heap ["value"] (defScope s_is_heap) := ⟨rfl, rfl, rfl, by decide +kernel, rfl, by decide +kernel, by decide +kernel⟩
abbrev s_need_heap : Stmt := top 16
abbrev N_need_heap : List Str := ["value"]
theorem sc_need_heap : FnScope N_need_heap ["value"] (defScope s_need_heap) := ⟨rfl, rfl, rfl, by decide +kernel, rfl, by decide +kernel, by decide +kernel⟩
abbrev s_common_multiple : Stmt := top 17
abbrev N_common_multiple : List Str := ["one", "other", "found"]
theorem sc_common_multiple : FnScope N_common_multiple ["one", "other"] (defScope s_common_multiple) := ⟨rfl, rfl, rfl, by decide +kernel, rfl, by decide +kernel, by decide +kernel⟩
abbrev s_need_part : Stmt := top 22
abbrev N_need_part : List Str := ["value", "least", "most", "part"]
theorem sc_need_part : FnScope N_need_part ["value", "least", "most", "part"] (defScope s_need_part) := ⟨rfl, rfl, rfl, by decide +kernel, rfl, by decide +kernel, by decide +kernel⟩
abbrev s_Rested_init : Stmt := inClass (top 29) 0
abbrev N_Rested_init : List Str := ["self", "rest", "modulus"]
theorem sc_Rested_init : FnScope N_Rested_init ["self", "rest", "modulus"] (defScope s_Rested_init) := ⟨rfl, rfl, rfl, by decide +kernel, rfl, by decide +kernel, by decide +kernel⟩
abbrev s_Sized_init : Stmt := inClass (top 30) 0
abbrev N_Sized_init : List Str := ["self", "size", "leave"]
theorem sc_Sized_init : FnScope N_Sized_init ["self", "size", "leave"] (defScope s_Sized_init) := ⟨rfl, rfl, rfl, by decide +kernel, rfl, by decide +kernel, by decide +kernel⟩
abbrev s_Fixed_init : Stmt := inClass (top 31) 0
abbrev N_Fixed_init : List Str := ["self", "size", "rest", "modulus", "leave"]
theorem sc_Fixed_init : FnScope N_Fixed_init ["self", "size", "rest", "modulus", "leave"] (defScope s_Fixed_init) := ⟨rfl, rfl, rfl, by decide +kernel, rfl, by decide +kernel, by decide +kernel⟩
abbrev s_Fixed_stands_at : Stmt := inClass (top 31) 1
abbrev N_Fixed_stands_at : List Str := ["self", "n"]
theorem sc_Fixed_stands_at : FnScope N_Fixed_stands_at ["self", "n"] (defScope s_Fixed_stands_at) := ⟨rfl, rfl, rfl, by decide +kernel, rfl, by decide +kernel, by decide +kernel⟩
abbrev s_Fixed_left_at : Stmt := inClass (top 31) 2
abbrev N_Fixed_left_at : List Str := ["self", "n"]
theorem sc_Fixed_left_at : FnScope N_Fixed_left_at ["self", "n"] (defScope s_Fixed_left_at) := ⟨rfl, rfl, rfl, by decide +kernel, rfl, by decide +kernel, by decide +kernel⟩
abbrev s_Fixed_number_in_order : Stmt := inClass (top 31) 5
abbrev N_Fixed_number_in_order : List Str := ["self"]
theorem sc_Fixed_number_in_order : FnScope N_Fixed_number_in_order ["self"] (defScope s_Fixed_number_in_order) := ⟨rfl, rfl, rfl, by decide +kernel, rfl, by decide +kernel, by decide +kernel⟩
abbrev s_Down_init : Stmt := inClass (top 32) 0
abbrev N_Down_init : List Str := ["self", "to", "rest", "modulus"]
theorem sc_Down_init : FnScope N_Down_init ["self", "to", "rest", "modulus"] (defScope s_Down_init) := ⟨rfl, rfl, rfl, by decide +kernel, rfl, by decide +kernel, by decide +kernel⟩
abbrev s_Down_stands_at : Stmt := inClass (top 32) 1
abbrev N_Down_stands_at : List Str := ["self", "n"]
theorem sc_Down_stands_at : FnScope N_Down_stands_at ["self", "n"] (defScope s_Down_stands_at) := ⟨rfl, rfl, rfl, by decide +kernel, rfl, by decide +kernel, by decide +kernel⟩
abbrev s_Down_left_at : Stmt := inClass (top 32) 2
abbrev N_Down_left_at : List Str := ["self", "n"]
theorem sc_Down_left_at : FnScope N_Down_left_at ["self", "n"] (defScope s_Down_left_at) := ⟨rfl, rfl, rfl, by decide +kernel, rfl, by decide +kernel, by decide +kernel⟩
abbrev s_Down_number_in_order : Stmt := inClass (top 32) 4
abbrev N_Down_number_in_order : List Str := ["self"]
theorem sc_Down_number_in_order : FnScope N_Down_number_in_order ["self"] (defScope s_Down_number_in_order) := ⟨rfl, rfl, rfl, by decide +kernel, rfl, by decide +kernel, by decide +kernel⟩
abbrev s_FreeAnswer_init : Stmt := inClass (top 34) 0
abbrev N_FreeAnswer_init : List Str := ["self", "rule"]
theorem sc_FreeAnswer_init : FnScope N_FreeAnswer_init ["self", "rule"] (defScope s_FreeAnswer_init) := ⟨rfl, rfl, rfl, by decide +kernel, rfl, by decide +kernel, by decide +kernel⟩
abbrev s_Free_bool : Stmt := inClass (top 35) 1
abbrev N_Free_bool : List Str := ["self"]
theorem sc_Free_bool : FnScope N_Free_bool ["self"] (defScope s_Free_bool) := ⟨rfl, rfl, rfl, by decide +kernel, rfl, by decide +kernel, by decide +kernel⟩
abbrev s_Barred_bool : Stmt := inClass (top 36) 2
abbrev N_Barred_bool : List Str := ["self"]
theorem sc_Barred_bool : FnScope N_Barred_bool ["self"] (defScope s_Barred_bool) := ⟨rfl, rfl, rfl, by decide +kernel, rfl, by decide +kernel, by decide +kernel⟩
abbrev s_is_barred : Stmt := top 37
abbrev N_is_barred : List Str := ["table", "rule", "heap"]
theorem sc_is_barred : FnScope N_is_barred ["table", "rule", "heap"] (defScope s_is_barred) := ⟨rfl, rfl, rfl, by decide +kernel, rfl, by decide +kernel, by decide +kernel⟩
abbrev s_settled_from : Stmt := top 38
abbrev N_settled_from : List Str := ["table", "rule", "reach"]
theorem sc_settled_from : FnScope N_settled_from ["table", "rule"] (defScope s_settled_from) := ⟨rfl, rfl, rfl, by decide +kernel, rfl, by decide +kernel, by decide +kernel⟩
abbrev s_bars : Stmt := top 39
abbrev N_bars : List Str := ["table", "rule", "first", "settled", "heap", "whole", "at", "spots"]
theorem sc_bars : GScope N_bars ["table", "rule", "first"] (defScope s_bars) := ⟨rfl, rfl, rfl, by decide +kernel, rfl, by decide +kernel, by decide +kernel⟩
abbrev s_free : Stmt := top 40
abbrev N_free : List Str := ["table", "rule", "heap"]
theorem sc_free : FnScope N_free ["table", "rule"] (defScope s_free) := ⟨rfl, rfl, rfl, by decide +kernel, rfl, by decide +kernel, by decide +kernel⟩
abbrev s_is_free : Stmt := top 41
abbrev N_is_free : List Str := ["table", "rule"]
theorem sc_is_free : FnScope N_is_free ["table", "rule"] (defScope s_is_free) := ⟨rfl, rfl, rfl, by decide +kernel, rfl, by decide +kernel, by decide +kernel⟩
abbrev s_are_worths : Stmt := top 47
abbrev N_are_worths : List Str := ["value", "many", "worth"]
theorem sc_are_worths : FnScope N_are_worths ["value", "many"] (defScope s_are_worths) := ⟨rfl, rfl, rfl, by decide +kernel, rfl, by decide +kernel, by decide +kernel⟩
abbrev s_shortest_turn : Stmt := top 48
abbrev N_shortest_turn : List Str := ["again", "many", "size"]
theorem sc_shortest_turn : FnScope N_shortest_turn ["again"] (defScope s_shortest_turn) := ⟨rfl, rfl, rfl, by decide +kernel, rfl, by decide +kernel, by decide +kernel⟩
abbrev s_least_form : Stmt := top 49
abbrev N_least_form : List Str := ["ahead", "again", "many"]
theorem sc_least_form : FnScope N_least_form ["ahead", "again"] (defScope s_least_form) := ⟨rfl, rfl, rfl, by decide +kernel, rfl, by decide +kernel, by decide +kernel⟩
abbrev s_Table_init : Stmt := inClass (top 52) 1
abbrev N_Table_init : List Str := ["self", "begin", "period", "numbers", "ahead", "again"]
theorem sc_Table_init : FnScope N_Table_init ["self", "begin", "period", "numbers"] (defScope s_Table_init) := ⟨rfl, rfl, rfl, by decide +kernel, rfl, by decide +kernel, by decide +kernel⟩
abbrev s_Table_worth_at : Stmt := inClass (top 52) 4
abbrev N_Table_worth_at : List Str := ["self", "heap"]
theorem sc_Table_worth_at : FnScope N_Table_worth_at ["self", "heap"] (defScope s_Table_worth_at) := ⟨rfl, rfl, rfl, by decide +kernel, rfl, by decide +kernel, by decide +kernel⟩
abbrev s_Table_eq : Stmt := inClass (top 52) 9
abbrev N_Table_eq : List Str := ["self", "other"]
theorem sc_Table_eq : FnScope N_Table_eq ["self", "other"] (defScope s_Table_eq) := ⟨rfl, rfl, rfl, by decide +kernel, rfl, by decide +kernel, by decide +kernel⟩
abbrev s_Table_str : Stmt := inClass (top 52) 10
abbrev N_Table_str : List Str := ["self", "words", "worth"]
theorem sc_Table_str : FnScope N_Table_str ["self"] (defScope s_Table_str) := ⟨rfl, rfl, rfl, by decide +kernel, rfl, by decide +kernel, by decide +kernel⟩
abbrev s_are_bools : Stmt := top 64
abbrev N_are_bools : List Str := ["value", "one"]
theorem sc_are_bools : FnScope N_are_bools ["value"] (defScope s_are_bools) := ⟨rfl, rfl, rfl, by decide +kernel, rfl, by decide +kernel, by decide +kernel⟩
abbrev s_Sizes_init : Stmt := inClass (top 68) 1
abbrev N_Sizes_init : List Str := ["self", "ahead", "again"]
theorem sc_Sizes_init : FnScope N_Sizes_init ["self", "ahead", "again"] (defScope s_Sizes_init) := ⟨rfl, rfl, rfl, by decide +kernel, rfl, by decide +kernel, by decide +kernel⟩
abbrev s_Sizes_eq : Stmt := inClass (top 68) 19
abbrev N_Sizes_eq : List Str := ["self", "other"]
theorem sc_Sizes_eq : FnScope N_Sizes_eq ["self", "other"] (defScope s_Sizes_eq) := ⟨rfl, rfl, rfl, by decide +kernel, rfl, by decide +kernel, by decide +kernel⟩
abbrev s_whole_asked : Stmt := top 71
abbrev N_whole_asked : List Str := ["table", "rule", "whole"]
theorem sc_whole_asked : FnScope N_whole_asked ["table", "rule"] (defScope s_whole_asked) := ⟨rfl, rfl, rfl, by decide +kernel, rfl, by decide +kernel, by decide +kernel⟩
abbrev s_is_unbarred : Stmt := top 72
abbrev N_is_unbarred : List Str := ["worths_so", "size", "rule", "last", "left"]
theorem sc_is_unbarred : FnScope N_is_unbarred ["worths_so", "size", "rule", "last"] (defScope s_is_unbarred) := ⟨rfl, rfl, rfl, by decide +kernel, rfl, by decide +kernel, by decide +kernel⟩
abbrev s_free_sizes : Stmt := top 73
abbrev N_free_sizes : List Str := ["table", "rest", "modulus", "leave", "rule", "whole", "begin", "last", "worths_so", "found", "heap", "size"]
theorem sc_free_sizes : FnScope N_free_sizes ["table", "rest", "modulus", "leave"] (defScope s_free_sizes) := ⟨rfl, rfl, rfl, by decide +kernel, rfl, by decide +kernel, by decide +kernel⟩
abbrev s_is_pair : Stmt := top 75
abbrev N_is_pair : List Str := ["value", "heap"]
theorem sc_is_pair : FnScope N_is_pair ["value"] (defScope s_is_pair) := ⟨rfl, rfl, rfl, by decide +kernel, rfl, by decide +kernel, by decide +kernel⟩
abbrev s_far_worth : Stmt := top 76
abbrev N_far_worth : List Str := ["table", "heap"]
theorem sc_far_worth : FnScope N_far_worth ["table", "heap"] (defScope s_far_worth) := ⟨rfl, rfl, rfl, by decide +kernel, rfl, by decide +kernel, by decide +kernel⟩
abbrev s_is_like : Stmt := top 77
abbrev N_is_like : List Str := ["table", "one", "other"]
theorem sc_is_like : FnScope N_is_like ["table", "one", "other"] (defScope s_is_like) := ⟨rfl, rfl, rfl, by decide +kernel, rfl, by decide +kernel, by decide +kernel⟩
abbrev s_has_fixed : Stmt := top 78
abbrev N_has_fixed : List Str := ["table", "size", "leave", "rested", "last", "lefts", "left"]
theorem sc_has_fixed : FnScope N_has_fixed ["table", "size", "leave", "rested"] (defScope s_has_fixed) := ⟨rfl, rfl, rfl, by decide +kernel, rfl, by decide +kernel, by decide +kernel⟩
abbrev s_has_down : Stmt := top 79
abbrev N_has_down : List Str := ["table", "to", "rested", "last", "heaps", "heap"]
theorem sc_has_down : FnScope N_has_down ["table", "to", "rested"] (defScope s_has_down) := ⟨rfl, rfl, rfl, by decide +kernel, rfl, by decide +kernel, by decide +kernel⟩
abbrev s_Greatest_init : Stmt := inClass (top 81) 0
abbrev N_Greatest_init : List Str := ["self", "table"]
theorem sc_Greatest_init : FnScope N_Greatest_init ["self", "table"] (defScope s_Greatest_init) := ⟨rfl, rfl, rfl, by decide +kernel, rfl, by decide +kernel, by decide +kernel⟩
abbrev s_Greatest_has : Stmt := inClass (top 81) 2
abbrev N_Greatest_has : List Str := ["self", "book", "rule"]
theorem sc_Greatest_has : FnScope N_Greatest_has ["self", "book"] (defScope s_Greatest_has) := ⟨rfl, rfl, rfl, by decide +kernel, rfl, by decide +kernel, by decide +kernel⟩
abbrev s_Greatest_sizes : Stmt := inClass (top 81) 5
abbrev N_Greatest_sizes : List Str := ["self", "rest", "modulus", "leave"]
theorem sc_Greatest_sizes : FnScope N_Greatest_sizes ["self", "rest", "modulus", "leave"] (defScope s_Greatest_sizes) := ⟨rfl, rfl, rfl, by decide +kernel, rfl, by decide +kernel, by decide +kernel⟩
abbrev s_Greatest_contains : Stmt := inClass (top 81) 6
abbrev N_Greatest_contains : List Str := ["self", "thing"]
theorem sc_Greatest_contains : FnScope N_Greatest_contains ["self", "thing"] (defScope s_Greatest_contains) := ⟨rfl, rfl, rfl, by decide +kernel, rfl, by decide +kernel, by decide +kernel⟩
abbrev s_Greatest_eq : Stmt := inClass (top 81) 7
abbrev N_Greatest_eq : List Str := ["self", "other"]
theorem sc_Greatest_eq : FnScope N_Greatest_eq ["self", "other"] (defScope s_Greatest_eq) := ⟨rfl, rfl, rfl, by decide +kernel, rfl, by decide +kernel, by decide +kernel⟩
abbrev s_common_modulus : Stmt := top 85
abbrev N_common_modulus : List Str := ["rules", "found", "rule"]
theorem sc_common_modulus : FnScope N_common_modulus ["rules"] (defScope s_common_modulus) := ⟨rfl, rfl, rfl, by decide +kernel, rfl, by decide +kernel, by decide +kernel⟩
abbrev s_in_order : Stmt := top 86
abbrev N_in_order : List Str := ["rules", "known", "rule", "number"]
theorem sc_in_order : FnScope N_in_order ["rules"] (defScope s_in_order) := ⟨rfl, rfl, rfl, by decide +kernel, rfl, by decide +kernel, by decide +kernel⟩
abbrev s_Book_init : Stmt := inClass (top 88) 1
abbrev N_Book_init : List Str := ["self", "rules", "at", "rule"]
theorem sc_Book_init : FnScope N_Book_init ["self", "rules"] (defScope s_Book_init) := ⟨rfl, rfl, rfl, by decide +kernel, rfl, by decide +kernel, by decide +kernel⟩
abbrev s_law_pen : Stmt := top 90
abbrev N_law_pen : List Str := ["_law_script"]
theorem sc_law_pen : FnScope N_law_pen ["_law_script"] (defScope s_law_pen) := ⟨rfl, rfl, rfl, by decide +kernel, rfl, by decide +kernel, by decide +kernel⟩
abbrev s_law_draw : Stmt := top 91
abbrev N_law_draw : List Str := ["_law_pen_here", "_law_many", "_law_digit", "_law_at", "_law_cell", "_law_great", "_law_mixed"]
theorem sc_law_draw : FnScope N_law_draw ["_law_pen_here", "_law_many"] (defScope s_law_draw) := ⟨rfl, rfl, rfl, by decide +kernel, rfl, by decide +kernel, by decide +kernel⟩
abbrev s_law_pick : Stmt := top 92
abbrev N_law_pick : List Str := ["_law_pen_here", "_law_some"]
theorem sc_law_pick : FnScope N_law_pick ["_law_pen_here", "_law_some"] (defScope s_law_pick) := ⟨rfl, rfl, rfl, by decide +kernel, rfl, by decide +kernel, by decide +kernel⟩
abbrev s_law_table : Stmt := top 93
abbrev N_law_table : List Str := ["_law_pen_here", "_law_begin_most", "_law_turn_most", "_law_worths_so", "_law_fore", "_law_wheel", "_law_k"]
theorem sc_law_table : FnScope N_law_table ["_law_pen_here", "_law_begin_most", "_law_turn_most", "_law_worths_so"] (defScope s_law_table) := ⟨rfl, rfl, rfl, by decide +kernel, rfl, by decide +kernel, by decide +kernel⟩
abbrev s_law_worth : Stmt := top 94
abbrev N_law_worth : List Str := ["_law_plan", "_law_heap", "_law_fore", "_law_wheel"]
theorem sc_law_worth : FnScope N_law_worth ["_law_plan", "_law_heap"] (defScope s_law_worth) := ⟨rfl, rfl, rfl, by decide +kernel, rfl, by decide +kernel, by decide +kernel⟩
abbrev s_law_real : Stmt := top 95
abbrev N_law_real : List Str := ["_law_plan"]
theorem sc_law_real : FnScope N_law_real ["_law_plan"] (defScope s_law_real) := ⟨rfl, rfl, rfl, by decide +kernel, rfl, by decide +kernel, by decide +kernel⟩
abbrev s_law_whole : Stmt := top 96
abbrev N_law_whole : List Str := ["_law_one", "_law_other", "_law_found"]
theorem sc_law_whole : FnScope N_law_whole ["_law_one", "_law_other"] (defScope s_law_whole) := ⟨rfl, rfl, rfl, by decide +kernel, rfl, by decide +kernel, by decide +kernel⟩
abbrev s_law_rules : Stmt := top 97
abbrev N_law_rules : List Str := ["_law_pen_here", "_law_many", "_law_found", "_law_k", "_law_turn_so", "_law_at_rest"]
theorem sc_law_rules : FnScope N_law_rules ["_law_pen_here", "_law_many"] (defScope s_law_rules) := ⟨rfl, rfl, rfl, by decide +kernel, rfl, by decide +kernel, by decide +kernel⟩
abbrev s_law_rule : Stmt := top 98
abbrev N_law_rule : List Str := ["_law_row"]
theorem sc_law_rule : FnScope N_law_rule ["_law_row"] (defScope s_law_rule) := ⟨rfl, rfl, rfl, by decide +kernel, rfl, by decide +kernel, by decide +kernel⟩
abbrev s_law_is_free : Stmt := top 99
abbrev N_law_is_free : List Str := ["_law_plan", "_law_row", "_law_word", "_law_first", "_law_at_rest", "_law_turn_so", "_law_kept", "_law_whole_here", "_law_heaps", "_law_lefts", "_law_heap", "_law_left"]
theorem sc_law_is_free : FnScope N_law_is_free ["_law_plan", "_law_row"] (defScope s_law_is_free) := ⟨rfl, rfl, rfl, by decide +kernel, rfl, by decide +kernel, by decide +kernel⟩
abbrev s_law_great_rule : Stmt := top 100
abbrev N_law_great_rule : List Str := ["_law_pen_here", "_law_turn_so", "_law_at_rest", "_law_first"]
theorem sc_law_great_rule : FnScope N_law_great_rule ["_law_pen_here"] (defScope s_law_great_rule) := ⟨rfl, rfl, rfl, by decide +kernel, rfl, by decide +kernel, by decide +kernel⟩
abbrev s_law_heard : Stmt := top 101
abbrev N_law_heard : List Str := ["_law_ask", "_law_caught", "_law_found", "error", "_law_told"]
theorem sc_law_heard : FnScope N_law_heard ["_law_ask"] (defScope s_law_heard) := ⟨rfl, rfl, rfl, by decide +kernel, rfl, by decide +kernel, by decide +kernel⟩
abbrev s_law_refused_right : Stmt := top 102
abbrev N_law_refused_right : List Str := ["_law_real_here", "_law_told", "_law_tall"]
theorem sc_law_refused_right : FnScope N_law_refused_right ["_law_real_here"] (defScope s_law_refused_right) := ⟨rfl, rfl, rfl, by decide +kernel, rfl, by decide +kernel, by decide +kernel⟩
abbrev s_law : Stmt := top 103
abbrev N_law : List Str := ["_law_script", "_law_pen_here", "_law_turn", "_law_plan", "_law_table_so", "_law_real_here", "_law_again", "_law_row", "_law_rows", "_law_due", "_law_some", "_law_rival", "_law_is_due", "_law_thing"]
theorem sc_law : FnScope N_law ["_law_script"] (defScope s_law) := ⟨rfl, rfl, rfl, by decide +kernel, rfl, by decide +kernel, by decide +kernel⟩
end Fk
set_option maxRecDepth 100000
set_option maxHeartbeats 2000000
namespace Fk
open PySem PySem.Spec PyProof.Rows L2 Evl
/-! ### the weakest readings -/
def wE (X : Cx) (e : Expr) : TE := fun σ H Q => ∀ (pins : List (Addr × Obj)) (s : Shared), Inv X pins σ H s → wpAny (model X.prog X.w) X.A (eval e X.env) (EP X pins σ Q) X.xe s
def wT (X : Cx) (e : Expr) : TT := fun σ H Q => ∀ (pins : List (Addr × Obj)) (s : Shared), Inv X pins σ H s → wpAny (model X.prog X.w) X.A (isTrue e X.env (eval e X.env)) (TP X pins σ Q) X.xe s
def wW (X : Cx) (e : Expr) : TT := fun σ H Q => ∀ (whole : Sem Value) (pins : List (Addr × Obj)) (s : Shared), Inv X pins σ H s → wpAny (model X.prog X.w) X.A (isTrue e X.env whole) (TP X pins σ Q) X.xe s
def wA (X : Cx) (es : List Expr) : TA := fun σ H Q => ∀ (pos : Pos) (pins : List (Addr × Obj)) (s : Shared), Inv X pins σ H s → wpAny (model X.prog X.w) X.A (spliced (backTo pos (starEach es X.env))) (AP X pins σ Q) X.xe s
def wS (X : Cx) (st : Stmt) : TS := fun D σ H => ∀ (pins : List (Addr × Obj)) (s : Shared), Inv X pins σ H s → wpAny (model X.prog X.w) X.A (exec st X.env) (SP X pins D) X.xe s
def wSs (X : Cx) (sts : List Stmt) : TS := fun D σ H => ∀ (pins : List (Addr × Obj)) (s : Shared), Inv X pins σ H s → wpAny (model X.prog X.w) X.A (execs sts X.env) (SP X pins D) X.xe s
section
variable {X : Cx} {e : Expr} {es : List Expr} {st : Stmt} {sts : List Stmt} {σ : L2.St} {H : Hp} {Q Q' : VK}
theorem pe_w : PE X e (wE X e) := ⟨fun pins s σ H Q I h => h pins s I⟩
theorem pt_w : PT X e (wT X e) := ⟨fun pins s σ H Q I h => h pins s I⟩
theorem pw_w : PW X e (wW X e) := ⟨fun wh pins s σ H Q I h => h wh pins s I⟩
theorem pa_w : PA X es (wA X es) := ⟨fun pos pins s σ H Q I h => h pos pins s I⟩
theorem ps_w : PS X st (wS X st) := ⟨fun pins s σ H D I h => h pins s I⟩
theorem pss_w : PSs X sts (wSs X sts) := ⟨fun pins s σ H D I h => h pins s I⟩
theorem wE.of {t : TE} (h : PE X e t) (q : t σ H Q) : wE X e σ H Q := fun pins s I => h.run pins s σ H Q I q
theorem wT.of {t : TT} {Q : Bool → Hp → Prop} (h : PT X e t) (q : t σ H Q) : wT X e σ H Q := fun pins s I => h.run pins s σ H Q I q
theorem wW.of {t : TT} {Q : Bool → Hp → Prop} (h : PW X e t) (q : t σ H Q) : wW X e σ H Q := fun wh pins s I => h.run wh pins s σ H Q I q
theorem wA.of {t : TA} {Q : List V → Hp → Prop} (h : PA X es t) (q : t σ H Q) : wA X es σ H Q := fun pos pins s I => h.run pos pins s σ H Q I q
theorem wS.of {t : TS} {D : Ends} (h : PS X st t) (q : t D σ H) : wS X st D σ H := fun pins s I => h.run pins s σ H D I q
theorem wSs.of {t : TS} {D : Ends} (h : PSs X sts t) (q : t D σ H) : wSs X sts D σ H := fun pins s I => h.run pins s σ H D I q
theorem wE.mono (h : wE X e σ H Q) (q : ∀ v H1, Q v H1 → Q' v H1) : wE X e σ H Q' := fun pins s I => thn (h pins s I) fun _ _ ⟨v, H1, I1, r, z⟩ => ⟨v, H1, I1, r, q v H1 z⟩
theorem wA.mono {Q Q' : List V → Hp → Prop} (h : wA X es σ H Q) (q : ∀ v H1, Q v H1 → Q' v H1) : wA X es σ H Q' := fun pos pins s I => thn (h pos pins s I) fun _ _ ⟨v, H1, I1, r, z⟩ => ⟨v, H1, I1, r, q v H1 z⟩
theorem wT.mono {Q Q' : Bool → Hp → Prop} (h : wT X e σ H Q) (q : ∀ v H1, Q v H1 → Q' v H1) : wT X e σ H Q' := fun pins s I => thn (h pins s I) fun _ _ ⟨H1, I1, z⟩ => ⟨H1, I1, q _ H1 z⟩
end
/-! ### a body's context -/
class Bx (P : outParam Program) (w : outParam World) (K : outParam PySem.W.Frag) (mg : outParam (Str → Option Value)) (base : outParam Heap) (N : outParam (List Str)) (sc : outParam Scope) (k : outParam Nat) (X : Cx) : Prop where
  qP : X.prog = P
  qw : X.w = w
  qK : X.K = K
  qm : X.mg = mg
  qb : X.base = base
  qN : X.N = N
  nd : N.Nodup
  qs : X.env.scope = sc
  calm : X.calm = true
  room : Room k X.A
/-- of a def's own body (no comprehension's block) -/
class Dx (X : Cx) : Prop where
  own : PassesOwn (model X.prog X.w) X.A X.env X.xe
  fn : ∀ x, X.fn x = true
def visB (sc : Scope) (x : Str) : Bool := match sc.names.lookup x with
  | some .local => decide (x ≠ "__debug__") && decide (x ≠ "__classdict__")
  | some .cell => decide (x ≠ "__debug__") && decide (x ≠ "__classdict__")
  | some .free => decide (x ≠ "__debug__") && decide (x ≠ "__classdict__")
  | _ => false
def locB (sc : Scope) (x : Str) : Bool := match sc.names.lookup x with
  | some .local => true
  | some .cell => true
  | _ => false
def gloB (sc : Scope) (x : Str) : Bool := match sc.names.lookup x with
  | some .globalImplicit => decide (x ≠ "__debug__") && decide (x ≠ "__name__")
  | _ => false
theorem visB_ok {sc : Scope} {x : Str} (h : visB sc x = true) : Vis sc x ∧ (x == ("__debug__" : Str)) = false ∧ (x == ("__classdict__" : Str)) = false := by
  have fin : (decide (x ≠ "__debug__") && decide (x ≠ "__classdict__")) = true → (x == ("__debug__" : Str)) = false ∧ (x == ("__classdict__" : Str)) = false := fun h => by
    rw [Bool.and_eq_true, decide_eq_true_eq, decide_eq_true_eq] at h
    exact ⟨beq_eq_false_iff_ne.mpr h.1, beq_eq_false_iff_ne.mpr h.2⟩
  unfold visB at h
  split at h
  · exact ⟨.inl (by assumption), fin h⟩
  · exact ⟨.inr (.inl (by assumption)), fin h⟩
  · exact ⟨.inr (.inr (by assumption)), fin h⟩
  · cases h
theorem locB_ok {sc : Scope} {x : Str} (h : locB sc x = true) : Loc sc x := by
  unfold locB at h
  split at h
  · exact .inl (by assumption)
  · exact .inr (by assumption)
  · cases h
theorem gloB_ok {sc : Scope} {x : Str} (h : gloB sc x = true) : sc.names.lookup x = some .globalImplicit ∧ (x == ("__debug__" : Str)) = false ∧ x ≠ "__name__" := by
  unfold gloB at h
  split at h
  · rw [Bool.and_eq_true, decide_eq_true_eq, decide_eq_true_eq] at h
    exact ⟨by assumption, beq_eq_false_iff_ne.mpr h.1, h.2⟩
  · cases h
section
variable {P : Program} {w : World} {K : PySem.W.Frag} {mg : Str → Option Value} {base : Heap} {N : List Str} {sc : Scope} {k : Nat} {X : Cx} {x : Str}
theorem Bx.gl (B : Bx P w K mg base N sc k X) (h : gloB sc x = true) : Gl X x := by
  show X.env.scope.names.lookup x = _
  rw [B.qs]
  exact (gloB_ok h).1
theorem Bx.vis (B : Bx P w K mg base N sc k X) (h : visB sc x = true) : Vis X.env.scope x := by
  rw [B.qs]
  exact (visB_ok h).1
theorem Bx.loc (B : Bx P w K mg base N sc k X) (h : locB sc x = true) : Loc X.env.scope x := by
  rw [B.qs]
  exact locB_ok h
theorem Bx.ix (B : Bx P w K mg base N sc k X) {i : Nat} (h : N[i]? = some x) : X.N[i]? = some x := by
  rw [B.qN]
  exact h
theorem Bx.ndx (B : Bx P w K mg base N sc k X) : X.N.Nodup := by
  rw [B.qN]
  exact B.nd
theorem Bx.low {j : Nat} (B : Bx P w K mg base N sc k X) (h : j ≤ k) : Bx P w K mg base N sc j X := ⟨B.qP, B.qw, B.qK, B.qm, B.qb, B.qN, B.nd, B.qs, B.calm, B.room.mono h⟩
end
/-! ### a def by its body -/
section
variable {P : Program} {w : World} {K : PySem.W.Frag} {mg : Str → Option Value} {base : Heap} {x qual : Str} {params : Arguments} {body : List Stmt} {scope : Scope} {dvs : List V} {kws : List (Str × V)} {f : Addr} {fd : FuncData}
theorem bx_of {N ps : List Str} {k : Nat} {cdv : Value} {A : Around} {outer : List Env} {s : Shared} {H : Hp} {E : XK} (S : FnScope N ps scope) (hr : Room k (A.deeper (envOfC qual scope s.heap.objs.size f cdv))) :
    Bx P w K mg base N scope k (cxOf CX0 P w K mg base N qual scope f cdv A outer s H E).nox := ⟨rfl, rfl, rfl, rfl, rfl, rfl, S.nd, rfl, rfl, hr⟩
theorem dx_of {N : List Str} {cdv : Value} {A : Around} {outer : List Env} {s : Shared} {H : Hp} {E : XK} : Dx (cxOf CX0 P w K mg base N qual scope f cdv A outer s H E).nox := ⟨PassesOwn.never, fun _ => rfl⟩
theorem fn_by {N ps : List Str} {k : Nat} {sp : Sp} (F : FunD K x qual params body scope dvs kws f fd) (S : FnScope N ps scope) (len : ∀ vs H Q E, sp vs H Q E → vs.length = ps.length)
    (hb : ∀ (X : Cx) (vs : List V) (H : Hp) (Q : VK) (E : XK), Bx P w K mg base N scope k X → Dx X → sp vs H Q E → wSs X body { nx := fun _ H' => Q .non H', rt := Q } (start N vs) H) : FnOk P w K mg base CX0 (k + 1) f fd ps sp :=
  F.ok S len fun cdv A outer s H vs Q E hr hsp => ⟨_, PSs.nox pss_w, hb _ vs H Q E (bx_of S hr) dx_of hsp⟩
end
end Fk
set_option maxRecDepth 100000
set_option maxHeartbeats 2000000
namespace Fk
open PySem PySem.Spec PyProof.Rows L2 Evl
/-! ### judgements -/
abbrev EE (X : Cx) (e : Expr) (σ : L2.St) (H : Hp) (v : V) : Prop := Ev (wE X e) σ H v
abbrev ET (X : Cx) (e : Expr) (σ : L2.St) (H : Hp) (b : Bool) : Prop := EvT (wT X e) σ H b
abbrev EW (X : Cx) (e : Expr) (σ : L2.St) (H : Hp) (b : Bool) : Prop := EvT (wW X e) σ H b
abbrev EA (X : Cx) (es : List Expr) (σ : L2.St) (H : Hp) (vs : List V) : Prop := EvA (wA X es) σ H vs
abbrev EL (X : Cx) (e : Expr) (σ : L2.St) (H : Hp) (xs : List V) : Prop := EvL (wE X e) σ H xs
abbrev EU (X : Cx) (e : Expr) (σ : L2.St) (H : Hp) (xs : List V) : Prop := EvU (wE X e) σ H xs
/-- a value of which P holds | arguments -/
def EvQ (te : TE) (σ : L2.St) (H : Hp) (P : V → Hp → Prop) : Prop := ∀ H1, Ex H H1 → ∀ Q : VK, (∀ v H2, Ex H1 H2 → P v H2 → Q v H2) → te σ H1 Q
def EvAQ (ta : TA) (σ : L2.St) (H : Hp) (P : List V → Hp → Prop) : Prop := ∀ H1, Ex H H1 → ∀ Q : List V → Hp → Prop, (∀ vs H2, Ex H1 H2 → P vs H2 → Q vs H2) → ta σ H1 Q
abbrev EQ (X : Cx) (e : Expr) (σ : L2.St) (H : Hp) (P : V → Hp → Prop) : Prop := EvQ (wE X e) σ H P
abbrev EAQ (X : Cx) (es : List Expr) (σ : L2.St) (H : Hp) (P : List V → Hp → Prop) : Prop := EvAQ (wA X es) σ H P
/-- statements, from any heap that keeps H -/
def SS (X : Cx) (sts : List Stmt) (D : Ends) (σ : L2.St) (H : Hp) : Prop := ∀ H1, Ex H H1 → wSs X sts D σ H1
section
variable {X : Cx} {e : Expr} {es : List Expr} {σ : L2.St} {H H' : Hp} {v : V} {vs : List V} {b : Bool} {P P' : V → Hp → Prop}
theorem EE.of {t : TE} (h : PE X e t) (q : Ev t σ H v) : EE X e σ H v := fun H1 e1 Q k => wE.of h (q H1 e1 Q k)
theorem EQ.of {t : TE} (h : PE X e t) (q : EvQ t σ H P) : EQ X e σ H P := fun H1 e1 Q k => wE.of h (q H1 e1 Q k)
theorem EL.of {t : TE} {xs : List V} (h : PE X e t) (q : EvL t σ H xs) : EL X e σ H xs := fun H1 e1 Q k => wE.of h (q H1 e1 Q k)
theorem EU.of {t : TE} {xs : List V} (h : PE X e t) (q : EvU t σ H xs) : EU X e σ H xs := fun H1 e1 Q k => wE.of h (q H1 e1 Q k)
theorem ET.of {t : TT} (h : PT X e t) (q : EvT t σ H b) : ET X e σ H b := fun H1 e1 Q k => wT.of h (q H1 e1 Q k)
theorem EW.of {t : TT} (h : PW X e t) (q : EvT t σ H b) : EW X e σ H b := fun H1 e1 Q k => wW.of h (q H1 e1 Q k)
theorem EA.of {t : TA} (h : PA X es t) (q : EvA t σ H vs) : EA X es σ H vs := fun H1 e1 Q k => wA.of h (q H1 e1 Q k)
theorem EAQ.of {t : TA} {P : List V → Hp → Prop} (h : PA X es t) (q : EvAQ t σ H P) : EAQ X es σ H P := fun H1 e1 Q k => wA.of h (q H1 e1 Q k)
theorem EvU.mono {tu : TE} {xs : List V} (e : Ex H H') (h : EvU tu σ H xs) : EvU tu σ H' xs := fun H1 a Q q => h H1 (e.trans a) Q q
theorem EvQ.mono {te : TE} (e : Ex H H') (h : EvQ te σ H P) : EvQ te σ H' P := fun H1 a Q q => h H1 (e.trans a) Q q
theorem EvQ.imp {te : TE} (h : EvQ te σ H P) (q : ∀ v H1, Ex H H1 → P v H1 → P' v H1) : EvQ te σ H P' := fun H1 a Q k => h H1 a Q fun v H2 e2 p => k v H2 e2 (q v H2 (a.trans e2) p)
theorem SS.mono {sts : List Stmt} {D : Ends} (e : Ex H H') (h : SS X sts D σ H) : SS X sts D σ H' := fun H1 a => h H1 (e.trans a)
theorem EE.q (h : EE X e σ H v) (p : ∀ H1, Ex H H1 → P v H1) : EQ X e σ H P := fun H1 e1 Q k => h H1 e1 Q fun H2 e2 => k v H2 e2 (p H2 (e1.trans e2))
theorem EL.q {xs : List V} (h : EL X e σ H xs) (p : ∀ a H1, Ex H H1 → H1 a = some (.lst xs) → P (.ref a) H1) : EQ X e σ H P := fun H1 e1 Q k => h H1 e1 Q fun a H2 _ e2 h2 => k _ H2 e2 (p a H2 (e1.trans e2) h2)
theorem EU.q {xs : List V} (h : EU X e σ H xs) (p : ∀ a H1, Ex H H1 → H1 a = some (.tup xs) → P (.ref a) H1) : EQ X e σ H P := fun H1 e1 Q k => h H1 e1 Q fun a H2 _ e2 h2 => k _ H2 e2 (p a H2 (e1.trans e2) h2)
theorem EE.is {u : V} (h : EE X e σ H v) (q : v = u) : EE X e σ H u := ev_is h q
theorem ET.is {c : Bool} (h : ET X e σ H b) (q : b = c) : ET X e σ H c := et_is h q
theorem EQ.val (h : EQ X e σ H fun u _ => u = v) : EE X e σ H v := fun H1 e1 Q k => h H1 e1 Q fun u H2 e2 q => by
  rw [q]
  exact k H2 e2
end
section
variable {P : Program} {w : World} {K : PySem.W.Frag} {mg : Str → Option Value} {base : Heap} {N : List Str} {sc : Scope} {k : Nat} {X : Cx} {σ : L2.St} {H : Hp} {a b c e : Expr} {es : List Expr} {v v1 v2 : V} {i j l : Int} {x : Str} {pos : Pos}
/-! ### values -/
theorem ee_var [B : Bx P w K mg base N sc k X] (m : Nat) (hN : N[m]? = some x := by rfl) (hs : σ[m]? = some (some v) := by rfl) (hv : visB sc x = true := by decide +kernel) : EE X (.Name x pos) σ H v :=
  EE.of (pe_var (B.ix hN) (B.vis hv) (visB_ok hv).2.1 (visB_ok hv).2.2) (ev_var hs)
theorem ee_int {j : Nat} {m : Int} : EE X (.Constant (.int m) j pos) σ H (.int m) := EE.of pe_int ev_c
theorem ee_bl {j : Nat} {m : Bool} : EE X (.Constant (.bool m) j pos) σ H (.bl m) := EE.of pe_bl ev_c
theorem ee_str {j : Nat} {m : Str} : EE X (.Constant (.str m) j pos) σ H (.str m) := EE.of pe_str ev_c
theorem ee_non {j : Nat} : EE X (.Constant .none j pos) σ H .non := EE.of pe_non ev_c
theorem ee_glob [B : Bx P w K mg base N sc k X] {u : Value} (hm : mg x = some u) (r : RelV v u) (hg : gloB sc x = true := by decide +kernel) : EE X (.Name x pos) σ H v :=
  EE.of (pe_glob (B.gl hg) (by rw [B.qm]; exact hm) r (gloB_ok hg).2.1) ev_c
theorem ee_bltn [B : Bx P w K mg base N sc k X] {u : Value} (hm : mg x = none) (hv : bootBuiltins x = some u) (r : RelV v u) (hg : gloB sc x = true := by decide +kernel) : EE X (.Name x pos) σ H v :=
  EE.of (pe_bltn (B.gl hg) (by rw [B.qm]; exact hm) hv r (gloB_ok hg).2.2 (gloB_ok hg).2.1) ev_c
theorem ee_ty [B : Bx P w K mg base N sc k X] {n : String} (hm : mg x = none) (hv : bootBuiltins x = some (.type n) := by rfl) (hg : gloB sc x = true := by decide +kernel) : EE X (.Name x pos) σ H (.ty n) := ee_bltn hm hv rfl hg
theorem ee_obj [B : Bx P w K mg base N sc k X] {p : Addr} (hm : mg x = some (.ref p)) (hg : gloB sc x = true := by decide +kernel) : EE X (.Name x pos) σ H (.ref p) := ee_glob hm rfl hg
theorem ee_num [B : Bx P w K mg base N sc k X] (hm : ∃ t, mg x = some (.int i t)) (hg : gloB sc x = true := by decide +kernel) : EE X (.Name x pos) σ H (.int i) := by
  obtain ⟨t, hm⟩ := hm
  exact ee_glob hm ⟨t, rfl⟩ hg
theorem ee_op {op : Operator} {r : R2} (ho : OpR X (binaryOp op) r) (ha : EE X a σ H v1) (hb : EE X b σ H v2) (hr : RV r v1 v2 H v) : EE X (.BinOp a op b pos) σ H v := EE.of (pe_op ho pe_w pe_w) (ev_op ha hb hr)
theorem ee_add (ha : EE X a σ H (.int i)) (hb : EE X b σ H (.int j)) : EE X (.BinOp a .Add b pos) σ H (.int (i + j)) := ee_op op_add ha hb rv_I0
theorem ee_sub (ha : EE X a σ H (.int i)) (hb : EE X b σ H (.int j)) : EE X (.BinOp a .Sub b pos) σ H (.int (i - j)) := ee_op op_sub ha hb rv_I0
theorem ee_mul (ha : EE X a σ H (.int i)) (hb : EE X b σ H (.int j)) (hc : CMul i j) : EE X (.BinOp a .Mult b pos) σ H (.int (i * j)) := ee_op op_mul ha hb (rv_I hc)
theorem ee_mod (ha : EE X a σ H (.int i)) (hb : EE X b σ H (.int j)) (hc : 0 < j) : EE X (.BinOp a .Mod b pos) σ H (.int (i % j)) := ee_op op_mod ha hb (rv_I hc)
theorem ee_fdiv (ha : EE X a σ H (.int i)) (hb : EE X b σ H (.int j)) (hc : CDiv i j) : EE X (.BinOp a .FloorDiv b pos) σ H (.int (i / j)) := ee_op op_fdiv ha hb (rv_I hc)
theorem ee_pow (ha : EE X a σ H (.int i)) (hb : EE X b σ H (.int j)) (hc : CPow i j) : EE X (.BinOp a .Pow b pos) σ H (.int (i ^ j.toNat)) := ee_op op_pow ha hb (rv_I hc)
theorem ee_neg (ha : EE X a σ H (.int i)) : EE X (.UnaryOp .USub a pos) σ H (.int (-i)) := EE.of (pe_un un_neg pe_w) (ev_un ha ru_neg)
/-! ### comparisons -/
theorem ee_cmp {op : CmpOp} {r : R2} (ho : OpR X (compareOp op) r) (hm : behindInMarks op b = false) (ha : EE X a σ H v1) (hb : EE X b σ H v2) (hr : RV r v1 v2 H v) : EE X (.Compare a [op] [b] pos) σ H v := EE.of (pe_cmpR ho pe_w pe_w hm) (ev_op ha hb hr)
theorem et_cmp {op : CmpOp} {r : R2} {z : Bool} (ho : OpR X (compareOp op) r) (hm : behindInMarks op b = false) (ha : EE X a σ H v1) (hb : EE X b σ H v2) (hr : RV r v1 v2 H (.bl z)) : ET X (.Compare a [op] [b] pos) σ H z := ET.of (pt_cmpR ho pe_w pe_w hm) (et_test (ev_op ha hb hr))
theorem ee_lt (ha : EE X a σ H (.int i)) (hb : EE X b σ H (.int j)) : EE X (.Compare a [.Lt] [b] pos) σ H (.bl (decide (i < j))) := ee_cmp op_lt (nomark _) ha hb rv_I0
theorem ee_le (ha : EE X a σ H (.int i)) (hb : EE X b σ H (.int j)) : EE X (.Compare a [.LtE] [b] pos) σ H (.bl (decide (i ≤ j))) := ee_cmp op_le (nomark _) ha hb rv_I0
theorem ee_gt (ha : EE X a σ H (.int i)) (hb : EE X b σ H (.int j)) : EE X (.Compare a [.Gt] [b] pos) σ H (.bl (decide (j < i))) := ee_cmp op_gt (nomark _) ha hb rv_I0
theorem ee_ge (ha : EE X a σ H (.int i)) (hb : EE X b σ H (.int j)) : EE X (.Compare a [.GtE] [b] pos) σ H (.bl (decide (j ≤ i))) := ee_cmp op_ge (nomark _) ha hb rv_I0
theorem ee_eqI (ha : EE X a σ H (.int i)) (hb : EE X b σ H (.int j)) : EE X (.Compare a [.Eq] [b] pos) σ H (.bl (decide (i = j))) := ee_cmp op_eq (nomark _) ha hb (by
  have h := rv_eq (H := H) (x := .int i) (y := .int j) rfl
  rwa [dec_int, Bool.beq_eq_decide_eq] at h)
theorem ee_neI (ha : EE X a σ H (.int i)) (hb : EE X b σ H (.int j)) : EE X (.Compare a [.NotEq] [b] pos) σ H (.bl (!decide (i = j))) := ee_cmp op_ne (nomark _) ha hb (by
  have h := rv_ne (H := H) (x := .int i) (y := .int j) rfl
  rwa [dec_int, Bool.beq_eq_decide_eq] at h)
theorem et_lt (ha : EE X a σ H (.int i)) (hb : EE X b σ H (.int j)) : ET X (.Compare a [.Lt] [b] pos) σ H (decide (i < j)) := et_cmp op_lt (nomark _) ha hb rv_I0
theorem et_le (ha : EE X a σ H (.int i)) (hb : EE X b σ H (.int j)) : ET X (.Compare a [.LtE] [b] pos) σ H (decide (i ≤ j)) := et_cmp op_le (nomark _) ha hb rv_I0
theorem et_gt (ha : EE X a σ H (.int i)) (hb : EE X b σ H (.int j)) : ET X (.Compare a [.Gt] [b] pos) σ H (decide (j < i)) := et_cmp op_gt (nomark _) ha hb rv_I0
theorem et_ge (ha : EE X a σ H (.int i)) (hb : EE X b σ H (.int j)) : ET X (.Compare a [.GtE] [b] pos) σ H (decide (j ≤ i)) := et_cmp op_ge (nomark _) ha hb rv_I0
theorem et_eqI (ha : EE X a σ H (.int i)) (hb : EE X b σ H (.int j)) : ET X (.Compare a [.Eq] [b] pos) σ H (decide (i = j)) := et_cmp op_eq (nomark _) ha hb (by
  have h := rv_eq (H := H) (x := .int i) (y := .int j) rfl
  rwa [dec_int, Bool.beq_eq_decide_eq] at h)
theorem et_neI (ha : EE X a σ H (.int i)) (hb : EE X b σ H (.int j)) : ET X (.Compare a [.NotEq] [b] pos) σ H (!decide (i = j)) := et_cmp op_ne (nomark _) ha hb (by
  have h := rv_ne (H := H) (x := .int i) (y := .int j) rfl
  rwa [dec_int, Bool.beq_eq_decide_eq] at h)
/-- scalars of any two kinds -/
theorem ee_eqV (ha : EE X a σ H v1) (hb : EE X b σ H v2) (hs : scal v1 v2 = true) : EE X (.Compare a [.Eq] [b] pos) σ H (.bl (decide (v1 = v2))) := ee_cmp op_eq (nomark _) ha hb (rv_eq hs)
theorem et_eqV (ha : EE X a σ H v1) (hb : EE X b σ H v2) (hs : scal v1 v2 = true) : ET X (.Compare a [.Eq] [b] pos) σ H (decide (v1 = v2)) := et_cmp op_eq (nomark _) ha hb (rv_eq hs)
theorem et_neV (ha : EE X a σ H v1) (hb : EE X b σ H v2) (hs : scal v1 v2 = true) : ET X (.Compare a [.NotEq] [b] pos) σ H (!decide (v1 = v2)) := et_cmp op_ne (nomark _) ha hb (rv_ne hs)
theorem et_isN {j : Nat} {p' : Pos} (ha : EE X a σ H v) : ET X (.Compare a [.Is] [.Constant .none j p'] pos) σ H (decide (v = .non)) := et_cmp op_isN (nomark _) ha ee_non (fun H1 _ Q q => ⟨rfl, q H1 (Ex.refl H1)⟩)
/-- a op b op c -/
theorem ev_chain {r r' : R2} {ta tb tc : TE} {v3 : V} {z z' : Bool} (ha : Ev ta σ H v1) (hb : Ev tb σ H v2) (hr : RV r v1 v2 H (.bl z)) (hc : z = true → Ev tc σ H v3) (hr' : z = true → RV r' v2 v3 H (.bl z')) : Ev (tChain r r' ta tb tc) σ H (.bl (z && z')) := fun H1 e Q q =>
  ha H1 e _ fun H2 e2 => hb H2 (e.trans e2) _ fun H3 e3 => hr H3 ((e.trans e2).trans e3) _ fun H4 e4 => ⟨z, rfl, by
    cases z with
    | true =>
      show tc σ H4 fun w' H5 => r' v2 w' H5 Q
      exact hc rfl H4 (((e.trans e2).trans e3).trans e4) _ fun H5 e5 => hr' rfl H5 ((((e.trans e2).trans e3).trans e4).trans e5) Q fun H6 e6 => q H6 ((((e2.trans e3).trans e4).trans e5).trans e6)
    | false =>
      show Q (.bl false) H4
      exact q H4 ((e2.trans e3).trans e4)⟩
theorem ee_chain {op op' : CmpOp} {r r' : R2} {v3 : V} {z z' : Bool} (ho : OpR X (compareOp op) r) (ho' : OpR X (compareOp op') r') (hm : lastMarks [op, op'] [b, c] = false) (ha : EE X a σ H v1) (hb : EE X b σ H v2) (hr : RV r v1 v2 H (.bl z)) (hc : EE X c σ H v3) (hr' : RV r' v2 v3 H (.bl z')) :
    EE X (.Compare a [op, op'] [b, c] pos) σ H (.bl (z && z')) := EE.of (pe_chain ho ho' pe_w pe_w pe_w hm) (ev_chain ha hb hr (fun _ => hc) (fun _ => hr'))
theorem et_chain {op op' : CmpOp} {r r' : R2} {v3 : V} {z z' : Bool} (ho : OpR X (compareOp op) r) (ho' : OpR X (compareOp op') r') (hm : lastMarks [op, op'] [b, c] = false) (ha : EE X a σ H v1) (hb : EE X b σ H v2) (hr : RV r v1 v2 H (.bl z)) (hc : EE X c σ H v3) (hr' : RV r' v2 v3 H (.bl z')) :
    ET X (.Compare a [op, op'] [b, c] pos) σ H (z && z') := ET.of (pt_chain ho ho' pe_w pe_w pe_w hm) (et_test (ev_chain ha hb hr (fun _ => hc) (fun _ => hr')))
theorem ee_lele (ha : EE X a σ H (.int i)) (hb : EE X b σ H (.int j)) (hc : EE X c σ H (.int l)) (hm : lastMarks [.LtE, .LtE] [b, c] = false := by with_unfolding_all rfl) : EE X (.Compare a [.LtE, .LtE] [b, c] pos) σ H (.bl (decide (i ≤ j) && decide (j ≤ l))) :=
  ee_chain op_le op_le hm ha hb rv_I0 hc rv_I0
theorem ee_lelt (ha : EE X a σ H (.int i)) (hb : EE X b σ H (.int j)) (hc : EE X c σ H (.int l)) (hm : lastMarks [.LtE, .Lt] [b, c] = false := by with_unfolding_all rfl) : EE X (.Compare a [.LtE, .Lt] [b, c] pos) σ H (.bl (decide (i ≤ j) && decide (j < l))) :=
  ee_chain op_le op_lt hm ha hb rv_I0 hc rv_I0
/-! ### and, or, not, if -/
theorem ee_one {op} (h : EE X a σ H v) : EE X (.BoolOp op [a] pos) σ H v := EE.of (pe_one pe_w) h
theorem ee_and {y z : Bool} {rest : List Expr} (h1 : EE X a σ H (.bl y)) (h2 : y = true → EE X (.BoolOp .And (b :: rest) pos) σ H (.bl z)) : EE X (.BoolOp .And (a :: b :: rest) pos) σ H (.bl (y && z)) := EE.of (pe_and pe_w pe_w) (ev_andV h1 h2)
theorem ee_or {y z : Bool} {rest : List Expr} (h1 : EE X a σ H (.bl y)) (h2 : y = false → EE X (.BoolOp .Or (b :: rest) pos) σ H (.bl z)) : EE X (.BoolOp .Or (a :: b :: rest) pos) σ H (.bl (y || z)) := EE.of (pe_or pe_w pe_w) (ev_orV h1 h2)
theorem ee_not {y : Bool} (h : EE X a σ H (.bl y)) : EE X (.UnaryOp .Not a pos) σ H (.bl (!y)) := EE.of (pe_not pe_w) (ev_notV h)
theorem ee_if {y : Bool} (h : ET X c σ H y) (h1 : y = true → EE X a σ H v) (h2 : y = false → EE X b σ H v) : EE X (.IfExp c a b pos) σ H v := EE.of (pe_ifExp pt_w pe_w pe_w) (ev_if h h1 h2)
theorem et_not {y : Bool} (h : ET X a σ H y) : ET X (.UnaryOp .Not a pos) σ H (!y) := ET.of (pt_not pt_w) (Evl.et_not h)
theorem et_val {y : Bool} (h : EE X e σ H (.bl y)) (he : ∀ whole, isTrue e X.env whole = (do let v ← whole; standAt e.pos; holding [v] (truthy v)) := by intro _; rfl) : ET X e σ H y := ET.of (pt_val pe_w he) (et_B h)
theorem et_w {y : Bool} (h : EW X e σ H y) : ET X e σ H y := ET.of pw_w.pt h
theorem ew_and1 {y : Bool} (h : ET X a σ H y) : EW X (.BoolOp .And [a] pos) σ H y := EW.of (pw_and1 pt_w) h
theorem ew_or1 {y : Bool} (h : ET X a σ H y) : EW X (.BoolOp .Or [a] pos) σ H y := EW.of (pw_or1 pt_w) h
theorem ew_and {y z : Bool} {rest : List Expr} (h1 : ET X a σ H y) (h2 : y = true → EW X (.BoolOp .And (b :: rest) pos) σ H z) : EW X (.BoolOp .And (a :: b :: rest) pos) σ H (y && z) := EW.of (pw_and pt_w pw_w) (Evl.et_and h1 h2)
theorem ew_or {y z : Bool} {rest : List Expr} (h1 : ET X a σ H y) (h2 : y = false → EW X (.BoolOp .Or (b :: rest) pos) σ H z) : EW X (.BoolOp .Or (a :: b :: rest) pos) σ H (y || z) := EW.of (pw_or pt_w pw_w) (Evl.et_or h1 h2)
/-! ### items, slices, fields -/
theorem ee_ixT [B : Bx P w K mg base N sc k X] {p : Addr} {xs : List V} (ha : EE X a σ H (.ref p)) (hb : EE X b σ H (.int i)) (hx : SqT K H p xs) (hi : atI xs i = some v) (hs : PlainIx b := by intro _ _; rfl) : EE X (.Subscript a b pos) σ H v :=
  EE.of (pe_ix ix_tup pe_w pe_w hs) (ev_op ha hb (rv_ixT (by rw [B.qK]; exact hx) hi))
theorem ee_ixL [B : Bx P w K mg base N sc k X] {p : Addr} {xs : List V} (ha : EE X a σ H (.ref p)) (hb : EE X b σ H (.int i)) (hx : SqL K H p xs) (hi : atI xs i = some v) (hs : PlainIx b := by intro _ _; rfl) : EE X (.Subscript a b pos) σ H v :=
  EE.of (pe_ix ix_list pe_w pe_w hs) (ev_op ha hb (rv_ixL (by rw [B.qK]; exact hx) hi))
theorem ev_fld {te : TE} {p C dx : Addr} {fs : List (Str × V)} {f : Str} (he : Ev te σ H (.ref p)) (hp : H p = some (.ins C dx fs)) (c : Cls K C) (n : NoAttr K C f) (l : fs.lookup f = some v) : Ev (tFld K te f) σ H v := fun H1 e1 Q q =>
  he H1 e1 _ fun H2 e2 => ⟨p, C, dx, fs, v, rfl, e2 _ _ (e1 _ _ hp), c, n, l, q H2 e2⟩
theorem ee_fld [B : Bx P w K mg base N sc k X] {p C dx : Addr} {fs : List (Str × V)} {f : Str} (he : EE X e σ H (.ref p)) (hp : H p = some (.ins C dx fs)) (c : Cls K C) (n : NoAttr K C f) (l : fs.lookup f = some v) (hb : attributeBase e f X.env (eval e X.env) = eval e X.env := by rfl) : EE X (.Attribute e f pos) σ H v :=
  EE.of (pe_fld pe_w hb) (by rw [B.qK]; exact ev_fld he hp c n l)
/-! ### arguments, displays -/
theorem ea_nil : EA X [] σ H [] := EA.of pa_nil Evl.ea_nil
theorem ea_cons {vs : List V} (h : EE X e σ H v) (hr : EA X es σ H vs) (hs : starEach (e :: es) X.env = (false, eval e X.env) :: starEach es X.env := by rfl) : EA X (e :: es) σ H (v :: vs) := EA.of (pa_cons pe_w pa_w hs) (Evl.ea_cons h hr)
theorem eu_tup {vs : List V} {x1} (h : EA X es σ H vs) (hl : vs.length ≤ 100000 := by decide) : EU X (.Tuple es x1 pos) σ H vs := EU.of (pe_tup pa_w) (Evl.eu_tup h hl)
theorem el_lst {vs : List V} (h : EA X es σ H vs) (hl : vs.length ≤ 100000 := by decide) : EL X (.List es pos) σ H vs := EL.of (pe_lst pa_w) (Evl.el_lst h hl)
theorem eaq_nil {P : List V → Hp → Prop} (h : ∀ H1, Ex H H1 → P [] H1) : EAQ X [] σ H P := EAQ.of pa_nil fun H1 e1 Q k => k [] H1 (Ex.refl H1) (h H1 e1)
theorem eaq_cons {P1 : V → Hp → Prop} {P : List V → Hp → Prop} (h : EQ X e σ H P1) (hr : ∀ v H1, Ex H H1 → P1 v H1 → EAQ X es σ H1 fun vs H2 => P (v :: vs) H2) (hs : starEach (e :: es) X.env = (false, eval e X.env) :: starEach es X.env := by rfl) : EAQ X (e :: es) σ H P :=
  EAQ.of (pa_cons pe_w pa_w hs) fun H1 e1 Q k => h H1 e1 _ fun v H2 e2 p => hr v H2 (e1.trans e2) p H2 (Ex.refl H2) _ fun vs H3 e3 q => k _ H3 (e2.trans e3) q
theorem EA.q {vs : List V} {P : List V → Hp → Prop} (h : EA X es σ H vs) (p : ∀ H1, Ex H H1 → P vs H1) : EAQ X es σ H P := fun H1 e1 Q k => h H1 e1 _ fun H2 e2 => k vs H2 e2 (p H2 (e1.trans e2))
end
end Fk
set_option maxRecDepth 100000
set_option maxHeartbeats 2000000
namespace Fk
open PySem PySem.Spec PyProof.Rows L2 Evl
section
variable {P : Program} {w : World} {K : PySem.W.Frag} {mg : Str → Option Value} {base : Heap} {N : List Str} {sc : Scope} {k : Nat} {X : Cx} {σ : L2.St} {H : Hp} {a b c e : Expr} {es : List Expr} {v v1 v2 : V} {i j l : Int} {x : Str} {pos pos' : Pos}
variable {st : Stmt} {rest th el : List Stmt} {D : Ends} {R : V → Hp → Prop}
/-! ### statements -/
theorem wss_cons {t : TS} (h : PS X st t) (q : t { D with nx := wSs X rest D } σ H) : wSs X (st :: rest) D σ H := wSs.of (pss_cons h pss_w) q
theorem ss_nil (h : ∀ H1, Ex H H1 → D.nx σ H1) : SS X [] D σ H := fun H1 e1 => wSs.of pss_nil (h H1 e1)
theorem ss_doc {m : Str} {q : Nat} {p' : Pos} (h : SS X rest D σ H) : SS X (.Expr (.Constant (.str m) q pos) p' :: rest) D σ H := fun H1 e1 => wss_cons ps_doc (h H1 e1)
theorem ss_ret (h : EE X e σ H v) (k : ∀ H1, Ex H H1 → D.rt v H1) : SS X (.Return (some e) pos :: rest) D σ H := fun H1 e1 => wss_cons (ps_ret pe_w) (h H1 e1 _ fun H2 e2 => k H2 (e1.trans e2))
theorem ss_retQ (h : EQ X e σ H R) (k : ∀ v H1, Ex H H1 → R v H1 → D.rt v H1) : SS X (.Return (some e) pos :: rest) D σ H := fun H1 e1 => wss_cons (ps_ret pe_w) (h H1 e1 _ fun v H2 e2 p => k v H2 (e1.trans e2) p)
theorem ss_retN (k : ∀ H1, Ex H H1 → D.rt .non H1) : SS X (.Return none pos :: rest) D σ H := fun H1 e1 => wss_cons ps_retN (k H1 e1)
theorem ss_if {y : Bool} (h : ET X c σ H y) (h1 : y = true → SS X th { D with nx := wSs X rest D } σ H) (h2 : y = false → SS X el { D with nx := wSs X rest D } σ H) : SS X (.If c th el pos :: rest) D σ H := fun H1 e1 =>
  wss_cons (ps_if pt_w pss_w pss_w) (h H1 e1 _ fun H2 e2 => by
    cases y with
    | true =>
      show wSs X th _ σ H2
      exact h1 rfl H2 (e1.trans e2)
    | false =>
      show wSs X el _ σ H2
      exact h2 rfl H2 (e1.trans e2))
/-- an if without else -/
theorem ss_when {y : Bool} (h : ET X c σ H y) (h1 : y = true → SS X th { D with nx := wSs X rest D } σ H) (h2 : y = false → SS X rest D σ H) : SS X (.If c th [] pos :: rest) D σ H := ss_if h h1 fun hb => ss_nil fun H1 e1 => h2 hb H1 e1
/-- the test is known to fail: a raise that is not reached -/
theorem ss_skip (h : ET X c σ H false) (h2 : SS X rest D σ H) : SS X (.If c th [] pos :: rest) D σ H := ss_when h (fun z => Bool.noConfusion z) fun _ => h2
theorem ss_set [B : Bx P w K mg base N sc k X] [G : Dx X] (m : Nat) (h : EE X e σ H v) (r : SS X rest D (σ.set m (some v)) H) (hN : N[m]? = some x := by rfl) (hv : locB sc x = true := by decide +kernel) (hs : swapsWith e (some (.Name x pos')) pos.line X.env = pure false := by rfl) :
    SS X (.Assign [.Name x pos'] e pos :: rest) D σ H := fun H1 e1 => wss_cons (ps_set B.ndx (B.ix hN) (B.loc hv) pe_w hs (.inl (G.fn x))) (h H1 e1 _ fun H2 e2 => r H2 (e1.trans e2))
theorem ss_setQ [B : Bx P w K mg base N sc k X] [G : Dx X] (m : Nat) (h : EQ X e σ H R) (r : ∀ v H1, Ex H H1 → R v H1 → SS X rest D (σ.set m (some v)) H1) (hN : N[m]? = some x := by rfl) (hv : locB sc x = true := by decide +kernel) (hs : swapsWith e (some (.Name x pos')) pos.line X.env = pure false := by rfl) :
    SS X (.Assign [.Name x pos'] e pos :: rest) D σ H := fun H1 e1 => wss_cons (ps_set B.ndx (B.ix hN) (B.loc hv) pe_w hs (.inl (G.fn x))) (h H1 e1 _ fun v H2 e2 p => r v H2 (e1.trans e2) p H2 (Ex.refl H2))
theorem ss_setL [B : Bx P w K mg base N sc k X] [G : Dx X] {xs : List V} (m : Nat) (h : EL X e σ H xs) (r : ∀ p H1, Ex H H1 → H p = none → H1 p = some (.lst xs) → SS X rest D (σ.set m (some (.ref p))) H1) (hN : N[m]? = some x := by rfl) (hv : locB sc x = true := by decide +kernel) (hs : swapsWith e (some (.Name x pos')) pos.line X.env = pure false := by rfl) :
    SS X (.Assign [.Name x pos'] e pos :: rest) D σ H := fun H1 e1 => wss_cons (ps_set B.ndx (B.ix hN) (B.loc hv) pe_w hs (.inl (G.fn x))) (h H1 e1 _ fun p H2 hp e2 h2 => r p H2 (e1.trans e2) (fresh_back e1 hp) h2 H2 (Ex.refl H2))
theorem ss_setU [B : Bx P w K mg base N sc k X] [G : Dx X] {xs : List V} (m : Nat) (h : EU X e σ H xs) (r : ∀ p H1, Ex H H1 → H1 p = some (.tup xs) → SS X rest D (σ.set m (some (.ref p))) H1) (hN : N[m]? = some x := by rfl) (hv : locB sc x = true := by decide +kernel) (hs : swapsWith e (some (.Name x pos')) pos.line X.env = pure false := by rfl) :
    SS X (.Assign [.Name x pos'] e pos :: rest) D σ H := ss_setQ (R := fun v H1 => ∃ p, v = .ref p ∧ H1 p = some (.tup xs)) m (h.q fun a H1 _ h1 => ⟨a, rfl, h1⟩) (fun v H1 e1 ⟨p, hv, hp⟩ => by rw [hv]; exact r p H1 e1 hp) hN hv hs
theorem ss_drop (h : EE X e σ H v) (r : SS X rest D σ H) (hs : swapsWith e none pos.line X.env = pure false := by rfl) : SS X (.Expr e pos :: rest) D σ H := fun H1 e1 => wss_cons (ps_expr pe_w hs) (h H1 e1 _ fun H2 e2 => r H2 (e1.trans e2))
theorem ss_dropQ (h : EQ X e σ H R) (r : ∀ v H1, Ex H H1 → R v H1 → SS X rest D σ H1) (hs : swapsWith e none pos.line X.env = pure false := by rfl) : SS X (.Expr e pos :: rest) D σ H := fun H1 e1 => wss_cons (ps_expr pe_w hs) (h H1 e1 _ fun v H2 e2 p => r v H2 (e1.trans e2) p H2 (Ex.refl H2))
/-! ### loops that change no object: the turn and the slots alone -/
theorem ss_forR1 [B : Bx P w K mg base N sc k X] [G : Dx X] {body : List Stmt} {n : Int} {p pf : Pos} {px : Pos} (m : Nat) (I : Nat → L2.St → Prop) (ha : EE X a σ H (.int n)) (hn : 0 ≤ n ∧ n ≤ 100000) (h0 : I 0 σ)
    (hb : ∀ (i : Nat) σ', (i : Int) < n → I i σ' → SS X body { D with nx := fun σ2 H2 => I (i + 1) σ2 ∧ Ex H H2, ct := fun σ2 H2 => I (i + 1) σ2 ∧ Ex H H2, bk := wSs X rest D } (σ'.set m (some (.int (i : Int)))) H)
    (hd : ∀ σ', I n.toNat σ' → SS X rest D σ' H) (hm : mg "range" = none) (hN : N[m]? = some x := by rfl) (hv : locB sc x = true := by decide +kernel) (hg : gloB sc "range" = true := by decide +kernel) (hs1 : starEach [a] X.env = [(false, eval a X.env)] := by rfl)
    (hs : ∀ y, foldedSetIterable (.Call (.Name "range" p) [a] [] pf) X.env y = pure y := by intro _; rfl) :
    SS X (.For (.Name x px) (.Call (.Name "range" p) [a] [] pf) body [] pos :: rest) D σ H := fun H1 e1 =>
  wss_cons (ps_for G.own B.calm (pi_range1 (B.gl hg) (by rw [B.qm]; exact hm) (pa_cons pe_w pa_nil hs1) hs1) (pg_name B.ndx (B.ix hN) (B.loc hv) (.inl (G.fn x))) pss_w hs)
    (s_forR1 (D := { D with nx := wSs X rest D }) (Evl.ea_cons (ha.mono e1) Evl.ea_nil) hn (fun i σ' H' => I i σ' ∧ Ex H H') (fun H2 e2 => ⟨h0, e1.trans e2⟩) (fun i σ' H' hi p => hb i σ' hi p.1 H' p.2) fun σ' H' p => hd σ' p.1 H' p.2)
theorem ss_forR2 [B : Bx P w K mg base N sc k X] [G : Dx X] {body : List Stmt} {lo n : Int} {p pf : Pos} {px : Pos} (m : Nat) (I : Nat → L2.St → Prop) (ha : EE X a σ H (.int lo)) (hb2 : EE X b σ H (.int n)) (hn : 0 ≤ lo ∧ lo ≤ 100000 ∧ -100000 ≤ n ∧ n ≤ 100000) (h0 : I 0 σ)
    (hb : ∀ (i : Nat) σ', lo + (i : Int) < n → I i σ' → SS X body { D with nx := fun σ2 H2 => I (i + 1) σ2 ∧ Ex H H2, ct := fun σ2 H2 => I (i + 1) σ2 ∧ Ex H H2, bk := wSs X rest D } (σ'.set m (some (.int (lo + (i : Int))))) H)
    (hd : ∀ σ', I (n - lo).toNat σ' → SS X rest D σ' H) (hm : mg "range" = none) (hN : N[m]? = some x := by rfl) (hv : locB sc x = true := by decide +kernel) (hg : gloB sc "range" = true := by decide +kernel) (hs1 : starEach [a, b] X.env = [(false, eval a X.env), (false, eval b X.env)] := by rfl) (hs2 : starEach [b] X.env = [(false, eval b X.env)] := by rfl)
    (hs : ∀ y, foldedSetIterable (.Call (.Name "range" p) [a, b] [] pf) X.env y = pure y := by intro _; rfl) :
    SS X (.For (.Name x px) (.Call (.Name "range" p) [a, b] [] pf) body [] pos :: rest) D σ H := fun H1 e1 =>
  wss_cons (ps_for G.own B.calm (pi_range2 (B.gl hg) (by rw [B.qm]; exact hm) (pa_cons pe_w (pa_cons pe_w pa_nil hs2) (by rw [hs1, hs2])) hs1 hs2) (pg_name B.ndx (B.ix hN) (B.loc hv) (.inl (G.fn x))) pss_w hs)
    (s_forR2 (D := { D with nx := wSs X rest D }) (Evl.ea_cons (ha.mono e1) (Evl.ea_cons (hb2.mono e1) Evl.ea_nil)) hn (fun i σ' H' => I i σ' ∧ Ex H H') (fun H2 e2 => ⟨h0, e1.trans e2⟩) (fun i σ' H' hi p => hb i σ' hi p.1 H' p.2) fun σ' H' p => hd σ' p.1 H' p.2)
/-- while: I by a measure and the slots -/
theorem ss_while [B : Bx P w K mg base N sc k X] [G : Dx X] {body : List Stmt} (I : Nat → L2.St → Prop) (m0 : Nat) (h0 : I m0 σ)
    (hs : ∀ m σ', I m σ' → ∃ y, ET X c σ' H y ∧ (y = true → SS X body { D with nx := fun σ2 H2 => (∃ m', m' < m ∧ I m' σ2) ∧ Ex H H2, ct := fun σ2 H2 => (∃ m', m' < m ∧ I m' σ2) ∧ Ex H H2, bk := wSs X rest D } σ' H) ∧ (y = false → SS X rest D σ' H)) :
    SS X (.While c body [] pos :: rest) D σ H := fun H1 e1 =>
  wss_cons (ps_while G.own pt_w pss_w) (s_while (D := { D with nx := wSs X rest D }) (fun m σ' H' => I m σ' ∧ Ex H H') m0 ⟨h0, e1⟩ fun m σ' H' p => by
    obtain ⟨y, t, h1, h2⟩ := hs m σ' p.1
    refine ⟨y, t.mono p.2, fun hy H2 e2 => ⟨fun σ2 H2 => (∃ m', m' < m ∧ I m' σ2) ∧ Ex H H2, fun σ2 H2 q => ?_, h1 hy H2 (p.2.trans e2)⟩, fun hy H2 e2 => h2 hy H2 (p.2.trans e2)⟩
    obtain ⟨⟨m', hm, q⟩, e3⟩ := q
    exact ⟨m', hm, q, e3⟩)
/-! ### calls of built-ins -/
theorem ee_callB [B : Bx P w K mg base N sc k X] {id : String} {r : List V → Hp → VK → Prop} {vs : List V} (hc : CallR X (.builtin id) r) (hm : mg x = none) (hv : bootBuiltins x = some (.builtin id)) (ha : EA X (e :: es) σ H vs) (hr : RC r vs H v) (hg : gloB sc x = true := by decide +kernel)
    (he : starEach (e :: es) X.env = (false, eval e X.env) :: starEach es X.env := by rfl) (hpl : (backTo pos (starEach es X.env)).any (·.1) = false := by rfl) : EE X (.Call (.Name x pos') (e :: es) [] pos) σ H v :=
  EE.of (pe_callB hc (B.gl hg) (by rw [B.qm]; exact hm) hv pa_w (gloB_ok hg).2.2 (gloB_ok hg).2.1 he hpl) (ev_cb ha hr)
theorem ee_callT [B : Bx P w K mg base N sc k X] {id : String} {r : List V → Hp → VK → Prop} {vs : List V} (hc : CallR X (.type id) r) (hm : mg x = none) (hv : bootBuiltins x = some (.type id)) (ha : EA X (e :: es) σ H vs) (hr : RC r vs H v) (hg : gloB sc x = true := by decide +kernel)
    (he : starEach (e :: es) X.env = (false, eval e X.env) :: starEach es X.env := by rfl) (hpl : (backTo pos (starEach es X.env)).any (·.1) = false := by rfl) : EE X (.Call (.Name x pos') (e :: es) [] pos) σ H v :=
  EE.of (pe_callTy hc (B.gl hg) (by rw [B.qm]; exact hm) hv pa_w (gloB_ok hg).2.2 (gloB_ok hg).2.1 he hpl) (ev_cb ha hr)
theorem rc_of {r : List V → Hp → VK → Prop} {vs : List V} (h : ∀ H1, Ex H H1 → ∀ Q : VK, Q v H1 → r vs H1 Q) : RC r vs H v := fun H1 e1 Q q => h H1 e1 Q (q H1 (Ex.refl H1))
theorem ee_intI [B : Bx P w K mg base N sc k X] (hm : mg "int" = none) (h : EE X e σ H (.int i)) (hg : gloB sc "int" = true := by decide +kernel) (he : starEach (e :: []) X.env = (false, eval e X.env) :: starEach [] X.env := by rfl) : EE X (.Call (.Name "int" pos') [e] [] pos) σ H (.int i) :=
  ee_callT call_int1 hm rfl (ea_cons h ea_nil he) (rc_of fun H1 _ Q q => .inl ⟨i, rfl, q⟩) hg he
theorem ee_intB [B : Bx P w K mg base N sc k X] {y : Bool} (hm : mg "int" = none) (h : EE X e σ H (.bl y)) (hg : gloB sc "int" = true := by decide +kernel) (he : starEach (e :: []) X.env = (false, eval e X.env) :: starEach [] X.env := by rfl) : EE X (.Call (.Name "int" pos') [e] [] pos) σ H (.int (if y then 1 else 0)) :=
  ee_callT call_int1 hm rfl (ea_cons h ea_nil he) (rc_of fun H1 _ Q q => .inr ⟨y, rfl, q⟩) hg he
theorem ee_abs [B : Bx P w K mg base N sc k X] (hm : mg "abs" = none) (h : EE X e σ H (.int i)) (hg : gloB sc "abs" = true := by decide +kernel) (he : starEach (e :: []) X.env = (false, eval e X.env) :: starEach [] X.env := by rfl) : EE X (.Call (.Name "abs" pos') [e] [] pos) σ H (.int (if i < 0 then -i else i)) :=
  ee_callB call_abs hm rfl (ea_cons h ea_nil he) (rc_of fun H1 _ Q q => ⟨i, rfl, q⟩) hg he
theorem ee_max [B : Bx P w K mg base N sc k X] (hm : mg "max" = none) (ha : EE X a σ H (.int i)) (hb : EE X b σ H (.int j)) (hg : gloB sc "max" = true := by decide +kernel) (he : starEach [a, b] X.env = (false, eval a X.env) :: starEach [b] X.env := by rfl) (he2 : starEach [b] X.env = (false, eval b X.env) :: starEach [] X.env := by rfl)
    (hpl : (backTo pos (starEach [b] X.env)).any (·.1) = false := by rfl) : EE X (.Call (.Name "max" pos') [a, b] [] pos) σ H (.int (max i j)) :=
  ee_callB (call_max2 B.calm) hm rfl (ea_cons ha (ea_cons hb ea_nil he2) he) (rc_of fun H1 _ Q q => ⟨i, j, rfl, by
    rw [show max i j = if j > i then j else i by rw [Int.max_def]; split <;> split <;> omega] at q
    exact q⟩) hg he hpl
theorem ee_lenT [B : Bx P w K mg base N sc k X] {p : Addr} {xs : List V} (hm : mg "len" = none) (h : EE X e σ H (.ref p)) (hx : SqT K H p xs) (hg : gloB sc "len" = true := by decide +kernel) (he : starEach (e :: []) X.env = (false, eval e X.env) :: starEach [] X.env := by rfl) : EE X (.Call (.Name "len" pos') [e] [] pos) σ H (.int (xs.length : Int)) :=
  ee_callB call_len_seq hm rfl (ea_cons h ea_nil he) (rc_of fun H1 e1 Q q => ⟨p, xs, rfl, .inr (by rw [B.qK]; exact ex_t e1 hx), q⟩) hg he
theorem ee_lenL [B : Bx P w K mg base N sc k X] {p : Addr} {xs : List V} (hm : mg "len" = none) (h : EE X e σ H (.ref p)) (hx : SqL K H p xs) (hg : gloB sc "len" = true := by decide +kernel) (he : starEach (e :: []) X.env = (false, eval e X.env) :: starEach [] X.env := by rfl) : EE X (.Call (.Name "len" pos') [e] [] pos) σ H (.int (xs.length : Int)) :=
  ee_callB call_len_seq hm rfl (ea_cons h ea_nil he) (rc_of fun H1 e1 Q q => ⟨p, xs, rfl, .inl (by rw [B.qK]; exact ex_l e1 hx), q⟩) hg he
/-! ### isinstance -/
theorem TyX.up {H' : Hp} {t : Value} (h : TyX K H v t) (e : Ex H H') : TyX K H' v t := by
  cases h with
  | base b =>
    refine .base ?_
    cases b with
    | non => exact .non
    | bl y => exact .bl y
    | int i => exact .int i
    | str y => exact .str y
    | flt y => exact .flt y
    | lst ea => exact .lst (e _ _ ea)
    | frz ea => exact .frz (e _ _ ea)
    | tup ea => exact .tup (e _ _ ea)
    | dK ea => exact .dK (e _ _ ea)
    | dT ea => exact .dT (e _ _ ea)
    | ins ea cl ha hn htk hm => exact .ins (e _ _ ea) cl ha hn htk hm
  | byt y => exact .byt y
  | set ea => exact .set (e _ _ ea)
  | kList e c => exact .kList e c
  | kTuple e c => exact .kTuple e c
  | kDict e c => exact .kDict e c
  | fTuple ea => exact .fTuple (e _ _ ea)
  | fDict ea => exact .fDict (e _ _ ea)
theorem ee_isi [B : Bx P w K mg base N sc k X] {cv : V} {t u : Value} {y : Bool} (hm : mg "isinstance" = none) (ha : EE X a σ H v) (hb : EE X b σ H cv) (hc : ClsV cv u) (ht : TyX K H v t) (hk : PySem.W.kitOne K t u = some y) (hg : gloB sc "isinstance" = true := by decide +kernel)
    (he : starEach [a, b] X.env = (false, eval a X.env) :: starEach [b] X.env := by rfl) (he2 : starEach [b] X.env = (false, eval b X.env) :: starEach [] X.env := by rfl) (hpl : (backTo pos (starEach [b] X.env)).any (·.1) = false := by rfl) :
    EE X (.Call (.Name "isinstance" pos') [a, b] [] pos) σ H (.bl y) :=
  ee_callB call_isi hm rfl (ea_cons ha (ea_cons hb ea_nil he2) he) (rc_of fun H1 e1 Q q => by
    rw [B.qK]
    exact ⟨v, cv, t, u, y, rfl, hc, TyX.up ht e1, hk, q⟩) hg he hpl
theorem ee_isi2 [B : Bx P w K mg base N sc k X] {cv cv2 : V} {t u u2 : Value} {y : Bool} {b2 : Expr} {x1 : Nat} {p2 : Pos} (hm : mg "isinstance" = none) (ha : EE X a σ H v) (hb : EE X b σ H cv) (hb2 : EE X b2 σ H cv2) (hc : ClsV cv u) (hc2 : ClsV cv2 u2) (ht : TyX K H v t) (hk : PySem.W.kitAny K t [u, u2] = some y) (hg : gloB sc "isinstance" = true := by decide +kernel)
    (he : starEach [a, .Tuple [b, b2] x1 p2] X.env = (false, eval a X.env) :: starEach [.Tuple [b, b2] x1 p2] X.env := by rfl) (he2 : starEach [.Tuple [b, b2] x1 p2] X.env = (false, eval (.Tuple [b, b2] x1 p2) X.env) :: starEach [] X.env := by rfl) (he3 : starEach [b, b2] X.env = (false, eval b X.env) :: starEach [b2] X.env := by rfl) (he4 : starEach [b2] X.env = (false, eval b2 X.env) :: starEach [] X.env := by rfl)
    (hpl : (backTo pos (starEach [.Tuple [b, b2] x1 p2] X.env)).any (·.1) = false := by rfl) :
    EE X (.Call (.Name "isinstance" pos') [a, .Tuple [b, b2] x1 p2] [] pos) σ H (.bl y) :=
  EE.of (pe_callB call_isiT (B.gl hg) (by rw [B.qm]; exact hm) rfl pa_w (gloB_ok hg).2.2 (gloB_ok hg).2.1 he hpl) fun H1 e1 Q q =>
    (eaq_cons (P1 := fun u _ => u = v) (P := fun vs H2 => ∃ tp, vs = [v, .ref tp] ∧ H2 tp = some (.tup [cv, cv2])) (ha.q fun _ _ => rfl) (fun u H2 e2 hu => by
      rw [hu]
      exact eaq_cons (P1 := fun z H3 => ∃ tp, z = .ref tp ∧ H3 tp = some (.tup [cv, cv2])) (EU.q (EvU.mono e2 (eu_tup (ea_cons hb (ea_cons hb2 ea_nil he4) he3) (by simp))) fun a H1 _ h1 => ⟨a, rfl, h1⟩) (fun z H3 e3 ⟨tp, hz, hp⟩ => eaq_nil fun H4 e4 => ⟨tp, by rw [hz], e4 _ _ hp⟩) he2) he) H1 e1 _ fun vs H2 e2 ⟨tp, hvs, hp⟩ => by
        rw [hvs, B.qK]
        exact ⟨v, tp, [cv, cv2], t, [u, u2], y, rfl, hp, .cons hc (.cons hc2 .nil), TyX.up ht (e1.trans e2), hk, q H2 e2⟩
/-! ### own defs -/
structure Cl (P : Program) (w : World) (K : PySem.W.Frag) (mg : Str → Option Value) (base : Heap) (k : Nat) (x : Str) (sp : Sp) : Prop where
  ex : ∃ f : Addr, FnR P w K mg base CX0 k f sp ∧ mg x = some (.ref f) ∧ PySem.W.keepIn K (.ref f) = true
structure Mt (P : Program) (w : World) (K : PySem.W.Frag) (mg : Str → Option Value) (base : Heap) (k : Nat) (C : Addr) (m : Str) (sp : Sp) : Prop where
  ex : ∃ f : Addr, FnR P w K mg base CX0 k f sp ∧ Cls K C ∧ Meth K C m f
structure Ma (P : Program) (w : World) (K : PySem.W.Frag) (mg : Str → Option Value) (base : Heap) (k : Nat) (x : Str) (C : Addr) (sp : Sp) : Prop where
  ex : ∃ f : Addr, FnR P w K mg base CX0 k f sp ∧ Mk K C f ∧ mg x = some (.ref C)
/-- a promise: R vs H T: at these arguments and this heap a value of which T holds -/
def spR (R : List V → Hp → (V → Hp → Prop) → Prop) : Sp := fun vs H Q _ => ∃ T, R vs H T ∧ ∀ v H', Ex H H' → T v H' → Q v H'
end
end Fk
set_option maxRecDepth 100000
set_option maxHeartbeats 2000000
namespace Fk
open PySem PySem.Spec PyProof.Rows L2 Evl
/-- all but what stands at p -/
def ExB (p : Addr) (H H' : Hp) : Prop := ∀ b o, b ≠ p → H b = some o → H' b = some o
theorem ExB.to {p : Addr} {H0 H H' : Hp} (h : ExB p H H') (e : Ex H0 H) (h0 : H0 p = none) : Ex H0 H' := fun b o hb => h b o (ne_of_none hb h0) (e b o hb)
theorem ExB.ex {p : Addr} {H H' H1 : Hp} (h : ExB p H H') (e : Ex H' H1) : ExB p H H1 := fun b o hb q => e b o (h b o hb q)
/-- what __init__ promises: R args H T at the arguments and a heap without the instance; T the attributes and the heap behind -/
def spI (C : Addr) (R : List V → Hp → (List (Str × V) → Hp → Prop) → Prop) : Sp := fun vs H Q _ => ∃ x dx args H0 T, vs = .ref x :: args ∧ H0 x = none ∧ Ex H0 H ∧ H x = some (.ins C dx []) ∧ R args H0 T ∧
  ∀ fs H', Ex H0 H' → H' x = some (.ins C dx fs) → T fs H' → Q .non H'
section
variable {P : Program} {w : World} {K : PySem.W.Frag} {mg : Str → Option Value} {base : Heap} {N : List Str} {sc : Scope} {j k : Nat} {X : Cx} {σ : L2.St} {H : Hp} {a b c e o : Expr} {es : List Expr} {v v1 v2 : V} {x m : Str} {pos pos' apos : Pos}
variable {R : List V → Hp → (V → Hp → Prop) → Prop} {RI : List V → Hp → (List (Str × V) → Hp → Prop) → Prop} {T : V → Hp → Prop} {f C : Addr} {vs : List V}
theorem pe_clR (F : FnR X.prog X.w X.K X.mg X.base CX0 j f sp) (hr : Room j X.A) (hg : Gl X x) (hm : X.mg x = some (.ref f)) (hk : PySem.W.keepIn X.K (.ref f) = true) (hdb : (x == ("__debug__" : Str)) = false)
    (he : starEach (e :: es) X.env = (false, eval e X.env) :: starEach es X.env := by rfl) (hpl : (backTo pos (starEach es X.env)).any (·.1) = false := by rfl) :
    PE X (.Call (.Name x pos') (e :: es) [] pos) (fun σ H Q => wA X (e :: es) σ H fun vs H1 => sp vs H1 Q E0) := by
  refine ⟨fun pins s σ H Q I h => ?_⟩
  refine wpAny_Call_Name_kw (ld_glob I hg hm ?_ hdb)
  refine PySem.W.callWith_K (h₀ := X.base) I.ok.mod.kin hk (thn (pa_w.run pos pins s σ H _ I h) fun us s1 ⟨vs, H1, I1, r, q⟩ => ⟨I1.kIn, ?_⟩) he hpl
  exact wpAny_call (run_fnR F hr pass0 I1 r q)
theorem cl_raw [B : Bx P w K mg base N sc k X] (c : Cl P w K mg base j x sp) (hj : j ≤ k) (hg : gloB sc x = true) (he : starEach (e :: es) X.env = (false, eval e X.env) :: starEach es X.env) (hpl : (backTo pos (starEach es X.env)).any (·.1) = false) :
    PE X (.Call (.Name x pos') (e :: es) [] pos) (fun σ H Q => wA X (e :: es) σ H fun vs H1 => sp vs H1 Q E0) := by
  obtain ⟨f, F, hm, kp⟩ := c.ex
  obtain ⟨rfl, rfl, rfl, rfl, rfl, _, _, _, _, hr⟩ := id B
  exact pe_clR F (hr.mono hj) (B.gl hg) hm kp (gloB_ok hg).2.1 he hpl
/-- f(e, ..) -/
theorem eq_call [B : Bx P w K mg base N sc k X] (c : Cl P w K mg base j x (spR R)) (ha : EAQ X (e :: es) σ H fun vs H1 => R vs H1 T) (hj : j ≤ k := by decide) (hg : gloB sc x = true := by decide +kernel) (he : starEach (e :: es) X.env = (false, eval e X.env) :: starEach es X.env := by rfl) (hpl : (backTo pos (starEach es X.env)).any (·.1) = false := by rfl) :
    EQ X (.Call (.Name x pos') (e :: es) [] pos) σ H T :=
  EQ.of (cl_raw c hj hg he hpl) fun H1 e1 Q q => ha H1 e1 _ fun vs H2 e2 hR => ⟨T, hR, fun v H' e3 t => q v H' (e2.trans e3) t⟩
theorem ee_call [B : Bx P w K mg base N sc k X] (c : Cl P w K mg base j x (spR R)) (ha : EA X (e :: es) σ H vs) (hR : ∀ H1, Ex H H1 → R vs H1 fun u _ => u = v) (hj : j ≤ k := by decide) (hg : gloB sc x = true := by decide +kernel) (he : starEach (e :: es) X.env = (false, eval e X.env) :: starEach es X.env := by rfl) (hpl : (backTo pos (starEach es X.env)).any (·.1) = false := by rfl) :
    EE X (.Call (.Name x pos') (e :: es) [] pos) σ H v := EQ.val (eq_call c (ha.q hR) hj hg he hpl)
/-- o.m(e, ..) -/
theorem mt_raw [B : Bx P w K mg base N sc k X] {pl : Sem Bool} (c : Mt P w K mg base j C m sp) (hj : j ≤ k) (hst : starEach (e :: es) X.env = (false, eval e X.env) :: starEach es X.env) (hpl : (backTo pos (starEach es X.env)).any (·.1) = false)
    (ht : eval (.Call (.Attribute o m apos) (e :: es) [] pos) X.env = (do
      let ov ← eval o X.env
      standAt apos.atName
      let (f, first) ← holding [ov] (getMethod ov m pl)
      callWith pos f first (backTo pos (starEach (e :: es) X.env)) (backToKw pos (keywordEach [] X.env)))) :
    PE X (.Call (.Attribute o m apos) (e :: es) [] pos) (tMethR C m sp E0 (wE X o) (wA X (e :: es))) := by
  obtain ⟨f, F, hc, hm⟩ := c.ex
  obtain ⟨rfl, rfl, rfl, rfl, rfl, _, _, _, _, hr⟩ := id B
  exact pe_methR (pl := pl) pe_w hc hm F (hr.mono hj) pass0 pa_w hst hpl ht
theorem eq_meth [B : Bx P w K mg base N sc k X] {pl : Sem Bool} {p dx : Addr} {fs : List (Str × V)} (c : Mt P w K mg base j C m (spR R)) (ho : EE X o σ H (.ref p)) (hp : H p = some (.ins C dx fs)) (hl : fs.lookup m = none) (ha : EAQ X (e :: es) σ H fun vs H1 => R (.ref p :: vs) H1 T) (hj : j ≤ k := by decide)
    (hst : starEach (e :: es) X.env = (false, eval e X.env) :: starEach es X.env := by rfl) (hpl : (backTo pos (starEach es X.env)).any (·.1) = false := by rfl)
    (ht : eval (.Call (.Attribute o m apos) (e :: es) [] pos) X.env = (do
      let ov ← eval o X.env
      standAt apos.atName
      let (f, first) ← holding [ov] (getMethod ov m pl)
      callWith pos f first (backTo pos (starEach (e :: es) X.env)) (backToKw pos (keywordEach [] X.env))) := by rfl) : EQ X (.Call (.Attribute o m apos) (e :: es) [] pos) σ H T :=
  EQ.of (mt_raw (pl := pl) c hj hst hpl ht) fun H1 e1 Q q => ho H1 e1 _ fun H2 e2 => ⟨p, dx, fs, rfl, e2 _ _ (e1 _ _ hp), hl, ha H2 (e1.trans e2) _ fun vs H3 e3 hR => ⟨T, hR, fun v H' e4 t => q v H' ((e2.trans e3).trans e4) t⟩⟩
theorem ee_meth [B : Bx P w K mg base N sc k X] {pl : Sem Bool} {p dx : Addr} {fs : List (Str × V)} (c : Mt P w K mg base j C m (spR R)) (ho : EE X o σ H (.ref p)) (hp : H p = some (.ins C dx fs)) (hl : fs.lookup m = none) (ha : EA X (e :: es) σ H vs) (hR : ∀ H1, Ex H H1 → R (.ref p :: vs) H1 fun u _ => u = v) (hj : j ≤ k := by decide)
    (hst : starEach (e :: es) X.env = (false, eval e X.env) :: starEach es X.env := by rfl) (hpl : (backTo pos (starEach es X.env)).any (·.1) = false := by rfl)
    (ht : eval (.Call (.Attribute o m apos) (e :: es) [] pos) X.env = (do
      let ov ← eval o X.env
      standAt apos.atName
      let (f, first) ← holding [ov] (getMethod ov m pl)
      callWith pos f first (backTo pos (starEach (e :: es) X.env)) (backToKw pos (keywordEach [] X.env))) := by rfl) : EE X (.Call (.Attribute o m apos) (e :: es) [] pos) σ H v :=
  EQ.val (eq_meth (pl := pl) c ho hp hl (ha.q hR) hj hst hpl ht)
/-- o.m() -/
theorem mt_raw0 [B : Bx P w K mg base N sc k X] {pl : Sem Bool} (c : Mt P w K mg base j C m sp) (hj : j ≤ k)
    (ht : eval (.Call (.Attribute o m apos) [] [] pos) X.env = (do
      let ov ← eval o X.env
      standAt apos.atName
      let (f, first) ← holding [ov] (getMethod ov m pl)
      callWith pos f first (backTo pos (starEach [] X.env)) (backToKw pos (keywordEach [] X.env)))) :
    PE X (.Call (.Attribute o m apos) [] [] pos) (tMethR C m sp E0 (wE X o) tNil) := by
  obtain ⟨f, F, hc, hm⟩ := c.ex
  obtain ⟨rfl, rfl, rfl, rfl, rfl, _, _, _, _, hr⟩ := id B
  refine ⟨fun pins s σ H Q I h => ?_⟩
  refine PySem.W.methodCall_KW (pl := pl) (thn (pe_w.run pins s σ H _ I h) fun u s1 ⟨x, H1, I1, rx, a, dx, fs, ex, ea, l, q⟩ => ?_) ht
  subst ex
  obtain rfl : u = Value.ref a := rx
  refine getmeth_ok I1 ea hc hm l ?_
  exact PySem.W.callWith_K0 (first := [.ref a]) I1.kIn hm.kp (wpAny_call (run_fnR (us := [.ref a]) (vs := [.ref a]) F (hr.mono hj) pass0 I1 (.cons rfl .nil) q))
theorem eq_meth0 [B : Bx P w K mg base N sc k X] {pl : Sem Bool} {p dx : Addr} {fs : List (Str × V)} (c : Mt P w K mg base j C m (spR R)) (ho : EE X o σ H (.ref p)) (hp : H p = some (.ins C dx fs)) (hl : fs.lookup m = none) (hR : ∀ H1, Ex H H1 → R [.ref p] H1 T) (hj : j ≤ k := by decide)
    (ht : eval (.Call (.Attribute o m apos) [] [] pos) X.env = (do
      let ov ← eval o X.env
      standAt apos.atName
      let (f, first) ← holding [ov] (getMethod ov m pl)
      callWith pos f first (backTo pos (starEach [] X.env)) (backToKw pos (keywordEach [] X.env))) := by rfl) : EQ X (.Call (.Attribute o m apos) [] [] pos) σ H T :=
  EQ.of (mt_raw0 (pl := pl) c hj ht) fun H1 e1 Q q => ho H1 e1 _ fun H2 e2 => ⟨p, dx, fs, rfl, e2 _ _ (e1 _ _ hp), hl, T, hR H2 (e1.trans e2), fun v H' e4 t => q v H' (e2.trans e4) t⟩
theorem ee_meth0 [B : Bx P w K mg base N sc k X] {pl : Sem Bool} {p dx : Addr} {fs : List (Str × V)} (c : Mt P w K mg base j C m (spR R)) (ho : EE X o σ H (.ref p)) (hp : H p = some (.ins C dx fs)) (hl : fs.lookup m = none) (hR : ∀ H1, Ex H H1 → R [.ref p] H1 fun u _ => u = v) (hj : j ≤ k := by decide)
    (ht : eval (.Call (.Attribute o m apos) [] [] pos) X.env = (do
      let ov ← eval o X.env
      standAt apos.atName
      let (f, first) ← holding [ov] (getMethod ov m pl)
      callWith pos f first (backTo pos (starEach [] X.env)) (backToKw pos (keywordEach [] X.env))) := by rfl) : EE X (.Call (.Attribute o m apos) [] [] pos) σ H v := EQ.val (eq_meth0 (pl := pl) c ho hp hl hR hj ht)
/-- C(e, ..) -/
theorem ma_raw [B : Bx P w K mg base N sc k X] (c : Ma P w K mg base j x C sp) (hj : j + 1 ≤ k) (hg : gloB sc x = true) (he : starEach (e :: es) X.env = (false, eval e X.env) :: starEach es X.env) (hpl : (backTo pos (starEach es X.env)).any (·.1) = false) :
    PE X (.Call (.Name x pos') (e :: es) [] pos) (StX.tMakeR C sp E0 (wA X (e :: es))) := by
  obtain ⟨f, F, M, hm⟩ := c.ex
  obtain ⟨rfl, rfl, rfl, rfl, rfl, _, _, _, _, hr⟩ := id B
  exact StX.pe_makeR M F (hr.mono hj) (B.gl hg) hm pass0 pa_w (gloB_ok hg).2.1 he hpl
theorem make_q {Q : VK} {vs : List V} {H1 : Hp} {TI : List (Str × V) → Hp → Prop} (hR : RI vs H1 TI) (q : ∀ v H', Ex H1 H' → (∃ x dx fs, v = .ref x ∧ H' x = some (.ins C dx fs) ∧ TI fs H') → Q v H') :
    ∀ x dx, H1 x = none → H1 dx = none → dx ≠ x → spI C RI (V.ref x :: vs) (upd (upd H1 dx (.own x)) x (.ins C dx [])) (fun v H2 => v = .non ∧ Q (.ref x) H2) E0 := fun x dx hx hdx ne =>
  ⟨x, dx, vs, H1, TI, rfl, hx, (Ex.new hdx).trans (Ex.new (by rw [upd_ne (Ne.symm ne)]; exact hx)), upd_same, hR, fun fs H' e h t => ⟨rfl, q _ H' e ⟨x, dx, fs, rfl, h, t⟩⟩⟩
theorem eq_make [B : Bx P w K mg base N sc k X] {TI : List (Str × V) → Hp → Prop} (c : Ma P w K mg base j x C (spI C RI)) (ha : EAQ X (e :: es) σ H fun vs H1 => RI vs H1 TI) (hj : j + 1 ≤ k := by decide) (hg : gloB sc x = true := by decide +kernel) (he : starEach (e :: es) X.env = (false, eval e X.env) :: starEach es X.env := by rfl) (hpl : (backTo pos (starEach es X.env)).any (·.1) = false := by rfl) :
    EQ X (.Call (.Name x pos') (e :: es) [] pos) σ H fun v H' => ∃ x dx fs, v = .ref x ∧ H' x = some (.ins C dx fs) ∧ TI fs H' :=
  EQ.of (ma_raw c hj hg he hpl) fun H1 e1 Q q => ha H1 e1 _ fun vs H2 e2 hR => make_q hR fun v H' e3 t => q v H' (e2.trans e3) t
theorem ma_raw0 [B : Bx P w K mg base N sc k X] (c : Ma P w K mg base j x C sp) (hj : j + 1 ≤ k) (hg : gloB sc x = true) : PE X (.Call (.Name x pos') [] [] pos) (StX.tMakeR C sp E0 tNil) := by
  obtain ⟨f, F, M, hm⟩ := c.ex
  obtain ⟨rfl, rfl, rfl, rfl, rfl, _, _, _, _, hr⟩ := id B
  refine ⟨fun pins s σ H Q I h => ?_⟩
  refine wpAny_Call_Name_kw (ld_glob I (B.gl hg) hm ?_ (gloB_ok hg).2.1)
  exact PySem.W.callWith_K0 I.kIn M.kp (StX.run_makeR (us := []) M F (hr.mono hj) pass0 I .nil h)
theorem eq_make0 [B : Bx P w K mg base N sc k X] {TI : List (Str × V) → Hp → Prop} (c : Ma P w K mg base j x C (spI C RI)) (hR : ∀ H1, Ex H H1 → RI [] H1 TI) (hj : j + 1 ≤ k := by decide) (hg : gloB sc x = true := by decide +kernel) :
    EQ X (.Call (.Name x pos') [] [] pos) σ H fun v H' => ∃ x dx fs, v = .ref x ∧ H' x = some (.ins C dx fs) ∧ TI fs H' :=
  EQ.of (ma_raw0 c hj hg) fun H1 e1 Q q => make_q (hR H1 e1) fun v H' e3 t => q v H' e3 t
/-! ### self.f = e, in __init__ -/
theorem ss_fld [B : Bx P w K mg base N sc k X] {rest : List Stmt} {D : Ends} {p dx : Addr} {fs : List (Str × V)} {f : Str} (hp : H p = some (.ins C dx fs)) (ho : EE X o σ H (.ref p)) (hv : EE X e σ H v) (cl : Cls K C) (n : NoAttr K C f) (hl : fs.length < 1000)
    (r : ∀ H1, ExB p H H1 → H1 p = some (.ins C dx (putF f v fs)) → SS X rest D σ H1) (hs : swapsWith e (some (.Attribute o f pos')) pos.line X.env = pure false := by rfl) : SS X (.Assign [.Attribute o f pos'] e pos :: rest) D σ H := fun H1 e1 =>
  wss_cons (ps_fld pe_w pe_w hs) (hv H1 e1 _ fun H2 e2 => ho H2 (e1.trans e2) _ fun H3 e3 => ⟨p, C, dx, fs, rfl, e3 _ _ (e2 _ _ (e1 _ _ hp)), by rw [B.qK]; exact cl, by rw [B.qK]; exact n, hl,
    r _ (fun b o hb h => by rw [upd_ne hb]; exact e3 _ _ (e2 _ _ (e1 _ _ h))) upd_same _ (Ex.refl _)⟩)
theorem ss_fldQ [B : Bx P w K mg base N sc k X] {rest : List Stmt} {D : Ends} {p dx : Addr} {fs : List (Str × V)} {f : Str} {T : V → Hp → Prop} (hp : H p = some (.ins C dx fs)) (ho : EE X o σ H (.ref p)) (hv : EQ X e σ H T) (cl : Cls K C) (n : NoAttr K C f) (hl : fs.length < 1000)
    (r : ∀ v H2 H1, Ex H H2 → T v H2 → ExB p H2 H1 → H1 p = some (.ins C dx (putF f v fs)) → SS X rest D σ H1) (hs : swapsWith e (some (.Attribute o f pos')) pos.line X.env = pure false := by rfl) : SS X (.Assign [.Attribute o f pos'] e pos :: rest) D σ H := fun H1 e1 =>
  wss_cons (ps_fld pe_w pe_w hs) (hv H1 e1 _ fun v H2 e2 t => ho H2 (e1.trans e2) _ fun H3 e3 => ⟨p, C, dx, fs, rfl, e3 _ _ (e2 _ _ (e1 _ _ hp)), by rw [B.qK]; exact cl, by rw [B.qK]; exact n, hl,
    r v H2 _ (e1.trans e2) t (fun b o hb h => by rw [upd_ne hb]; exact e3 _ _ h) upd_same _ (Ex.refl _)⟩)
end
/-! ### own defs by their bodies -/
section
variable {P : Program} {w : World} {K : PySem.W.Frag} {mg : Str → Option Value} {base : Heap} {x qual : Str} {params : Arguments} {body : List Stmt} {scope : Scope} {dvs : List V} {kws : List (Str × V)} {f C : Addr} {fd : FuncData} {N ps : List Str} {k : Nat}
theorem ok_fn {R : List V → Hp → (V → Hp → Prop) → Prop} (F : FunD K x qual params body scope dvs kws f fd) (S : FnScope N ps scope) (len : ∀ vs H T, R vs H T → vs.length = ps.length)
    (hb : ∀ (X : Cx) (vs : List V) (H : Hp) (T : V → Hp → Prop) (D : Ends), Bx P w K mg base N scope k X → Dx X → R vs H T → (∀ v H', Ex H H' → T v H' → D.rt v H') → (∀ σ H', Ex H H' → T .non H' → D.nx σ H') → SS X body D (start N vs) H) : FnOk P w K mg base CX0 (k + 1) f fd ps (spR R) :=
  fn_by F S (fun vs H Q E ⟨T, h, _⟩ => len vs H T h) fun X vs H Q E B G ⟨T, hR, q⟩ => hb X vs H T _ B G hR q (fun σ H' e t => q .non H' e t) H (Ex.refl H)
theorem ok_init {R : List V → Hp → (List (Str × V) → Hp → Prop) → Prop} (F : FunD K x qual params body scope dvs kws f fd) (S : FnScope N ps scope) (len : ∀ vs H T, R vs H T → vs.length + 1 = ps.length)
    (hb : ∀ (X : Cx) (p dx : Addr) (vs : List V) (H0 H : Hp) (T : List (Str × V) → Hp → Prop) (D : Ends), Bx P w K mg base N scope k X → Dx X → H0 p = none → Ex H0 H → H p = some (.ins C dx []) → R vs H0 T → (∀ σ fs H', Ex H0 H' → H' p = some (.ins C dx fs) → T fs H' → D.nx σ H') → SS X body D (start N (.ref p :: vs)) H) : FnOk P w K mg base CX0 (k + 1) f fd ps (spI C R) :=
  fn_by F S (fun vs H Q E ⟨p, dx, args, H0, T, hv, _, _, _, h, _⟩ => by rw [hv]; exact len args H0 T h) fun X vs H Q E B G ⟨p, dx, args, H0, T, hv, h0, e0, hp, hR, q⟩ => by
    rw [hv]
    exact hb X p dx args H0 H T _ B G h0 e0 hp hR (fun σ fs H' e h t => q fs H' e h t) H (Ex.refl H)
theorem FnOk.raw0 {sp : Sp} (F : FnOk P w K mg base CX0 k f fd ps sp) (hb : Binds K fd ps []) : FnR P w K mg base CX0 k f sp := (F.raw hb .nil).imp fun vs H Q E h => by
  rw [List.append_nil]
  exact h
end
end Fk
set_option maxRecDepth 100000
set_option maxHeartbeats 2000000
namespace Fk
open PySem PySem.Spec PyProof.Rows L2 He
/-! ### the data that the head tells (printed by gen_tx.py) -/
def d_is_integer : DefD := ⟨("is_integer", none), "is_integer", "is_integer", defArgs s_is_integer, defBody s_is_integer, defScope s_is_integer, [], []⟩
def d_is_heap : DefD := ⟨("is_heap", none), "is_heap", "is_heap", defArgs s_is_heap, defBody s_is_heap, defScope s_is_heap, [], []⟩
def d_need_heap : DefD := ⟨("need_heap", none), "need_heap", "need_heap", defArgs s_need_heap, defBody s_need_heap, defScope s_need_heap, [], []⟩
def d_common_multiple : DefD := ⟨("common_multiple", none), "common_multiple", "common_multiple", defArgs s_common_multiple, defBody s_common_multiple, defScope s_common_multiple, [], []⟩
def d_need_part : DefD := ⟨("need_part", none), "need_part", "need_part", defArgs s_need_part, defBody s_need_part, defScope s_need_part, [], []⟩
def d_Rested_init : DefD := ⟨("Rested", some "__init__"), "__init__", "Rested.__init__", defArgs s_Rested_init, defBody s_Rested_init, defScope s_Rested_init, [], []⟩
def d_Sized_init : DefD := ⟨("Sized", some "__init__"), "__init__", "Sized.__init__", defArgs s_Sized_init, defBody s_Sized_init, defScope s_Sized_init, [], []⟩
def d_Fixed_init : DefD := ⟨("Fixed", some "__init__"), "__init__", "Fixed.__init__", defArgs s_Fixed_init, defBody s_Fixed_init, defScope s_Fixed_init, [.int 0, .int 1, .int 0], []⟩
def d_Fixed_stands_at : DefD := ⟨("Fixed", some "stands_at"), "stands_at", "Fixed.stands_at", defArgs s_Fixed_stands_at, defBody s_Fixed_stands_at, defScope s_Fixed_stands_at, [], []⟩
def d_Fixed_left_at : DefD := ⟨("Fixed", some "left_at"), "left_at", "Fixed.left_at", defArgs s_Fixed_left_at, defBody s_Fixed_left_at, defScope s_Fixed_left_at, [], []⟩
def d_Fixed_number_in_order : DefD := ⟨("Fixed", some "number_in_order"), "number_in_order", "Fixed.number_in_order", defArgs s_Fixed_number_in_order, defBody s_Fixed_number_in_order, defScope s_Fixed_number_in_order, [], []⟩
def d_Down_init : DefD := ⟨("Down", some "__init__"), "__init__", "Down.__init__", defArgs s_Down_init, defBody s_Down_init, defScope s_Down_init, [.int 0, .int 1], []⟩
def d_Down_stands_at : DefD := ⟨("Down", some "stands_at"), "stands_at", "Down.stands_at", defArgs s_Down_stands_at, defBody s_Down_stands_at, defScope s_Down_stands_at, [], []⟩
def d_Down_left_at : DefD := ⟨("Down", some "left_at"), "left_at", "Down.left_at", defArgs s_Down_left_at, defBody s_Down_left_at, defScope s_Down_left_at, [], []⟩
def d_Down_number_in_order : DefD := ⟨("Down", some "number_in_order"), "number_in_order", "Down.number_in_order", defArgs s_Down_number_in_order, defBody s_Down_number_in_order, defScope s_Down_number_in_order, [], []⟩
def d_FreeAnswer_init : DefD := ⟨("FreeAnswer", some "__init__"), "__init__", "FreeAnswer.__init__", defArgs s_FreeAnswer_init, defBody s_FreeAnswer_init, defScope s_FreeAnswer_init, [], []⟩
def d_Free_bool : DefD := ⟨("Free", some "__bool__"), "__bool__", "Free.__bool__", defArgs s_Free_bool, defBody s_Free_bool, defScope s_Free_bool, [], []⟩
def d_Barred_bool : DefD := ⟨("Barred", some "__bool__"), "__bool__", "Barred.__bool__", defArgs s_Barred_bool, defBody s_Barred_bool, defScope s_Barred_bool, [], []⟩
def d_is_barred : DefD := ⟨("is_barred", none), "is_barred", "is_barred", defArgs s_is_barred, defBody s_is_barred, defScope s_is_barred, [], []⟩
def d_settled_from : DefD := ⟨("settled_from", none), "settled_from", "settled_from", defArgs s_settled_from, defBody s_settled_from, defScope s_settled_from, [], []⟩
def d_bars : DefD := ⟨("bars", none), "bars", "bars", defArgs s_bars, defBody s_bars, defScope s_bars, [.int 0], []⟩
def d_free : DefD := ⟨("free", none), "free", "free", defArgs s_free, defBody s_free, defScope s_free, [], []⟩
def d_is_free : DefD := ⟨("is_free", none), "is_free", "is_free", defArgs s_is_free, defBody s_is_free, defScope s_is_free, [], []⟩
def d_are_worths : DefD := ⟨("are_worths", none), "are_worths", "are_worths", defArgs s_are_worths, defBody s_are_worths, defScope s_are_worths, [], []⟩
def d_shortest_turn : DefD := ⟨("shortest_turn", none), "shortest_turn", "shortest_turn", defArgs s_shortest_turn, defBody s_shortest_turn, defScope s_shortest_turn, [], []⟩
def d_least_form : DefD := ⟨("least_form", none), "least_form", "least_form", defArgs s_least_form, defBody s_least_form, defScope s_least_form, [], []⟩
def d_Table_init : DefD := ⟨("Table", some "__init__"), "__init__", "Table.__init__", defArgs s_Table_init, defBody s_Table_init, defScope s_Table_init, [], []⟩
def d_Table_worth_at : DefD := ⟨("Table", some "worth_at"), "worth_at", "Table.worth_at", defArgs s_Table_worth_at, defBody s_Table_worth_at, defScope s_Table_worth_at, [], []⟩
def d_Table_eq : DefD := ⟨("Table", some "__eq__"), "__eq__", "Table.__eq__", defArgs s_Table_eq, defBody s_Table_eq, defScope s_Table_eq, [], []⟩
def d_Table_str : DefD := ⟨("Table", some "__str__"), "__str__", "Table.__str__", defArgs s_Table_str, defBody s_Table_str, defScope s_Table_str, [], []⟩
def d_are_bools : DefD := ⟨("are_bools", none), "are_bools", "are_bools", defArgs s_are_bools, defBody s_are_bools, defScope s_are_bools, [], []⟩
def d_Sizes_init : DefD := ⟨("Sizes", some "__init__"), "__init__", "Sizes.__init__", defArgs s_Sizes_init, defBody s_Sizes_init, defScope s_Sizes_init, [], []⟩
def d_Sizes_eq : DefD := ⟨("Sizes", some "__eq__"), "__eq__", "Sizes.__eq__", defArgs s_Sizes_eq, defBody s_Sizes_eq, defScope s_Sizes_eq, [], []⟩
def d_whole_asked : DefD := ⟨("whole_asked", none), "whole_asked", "whole_asked", defArgs s_whole_asked, defBody s_whole_asked, defScope s_whole_asked, [], []⟩
def d_is_unbarred : DefD := ⟨("is_unbarred", none), "is_unbarred", "is_unbarred", defArgs s_is_unbarred, defBody s_is_unbarred, defScope s_is_unbarred, [], []⟩
def d_free_sizes : DefD := ⟨("free_sizes", none), "free_sizes", "free_sizes", defArgs s_free_sizes, defBody s_free_sizes, defScope s_free_sizes, [.int 0, .int 1, .int 0], []⟩
def d_is_pair : DefD := ⟨("is_pair", none), "is_pair", "is_pair", defArgs s_is_pair, defBody s_is_pair, defScope s_is_pair, [], []⟩
def d_far_worth : DefD := ⟨("far_worth", none), "far_worth", "far_worth", defArgs s_far_worth, defBody s_far_worth, defScope s_far_worth, [], []⟩
def d_is_like : DefD := ⟨("is_like", none), "is_like", "is_like", defArgs s_is_like, defBody s_is_like, defScope s_is_like, [], []⟩
def d_has_fixed : DefD := ⟨("has_fixed", none), "has_fixed", "has_fixed", defArgs s_has_fixed, defBody s_has_fixed, defScope s_has_fixed, [], []⟩
def d_has_down : DefD := ⟨("has_down", none), "has_down", "has_down", defArgs s_has_down, defBody s_has_down, defScope s_has_down, [], []⟩
def d_Greatest_init : DefD := ⟨("Greatest", some "__init__"), "__init__", "Greatest.__init__", defArgs s_Greatest_init, defBody s_Greatest_init, defScope s_Greatest_init, [], []⟩
def d_Greatest_has : DefD := ⟨("Greatest", some "has"), "has", "Greatest.has", defArgs s_Greatest_has, defBody s_Greatest_has, defScope s_Greatest_has, [], []⟩
def d_Greatest_sizes : DefD := ⟨("Greatest", some "sizes"), "sizes", "Greatest.sizes", defArgs s_Greatest_sizes, defBody s_Greatest_sizes, defScope s_Greatest_sizes, [.int 0, .int 1, .int 0], []⟩
def d_Greatest_contains : DefD := ⟨("Greatest", some "__contains__"), "__contains__", "Greatest.__contains__", defArgs s_Greatest_contains, defBody s_Greatest_contains, defScope s_Greatest_contains, [], []⟩
def d_Greatest_eq : DefD := ⟨("Greatest", some "__eq__"), "__eq__", "Greatest.__eq__", defArgs s_Greatest_eq, defBody s_Greatest_eq, defScope s_Greatest_eq, [], []⟩
def d_common_modulus : DefD := ⟨("common_modulus", none), "common_modulus", "common_modulus", defArgs s_common_modulus, defBody s_common_modulus, defScope s_common_modulus, [], []⟩
def d_in_order : DefD := ⟨("in_order", none), "in_order", "in_order", defArgs s_in_order, defBody s_in_order, defScope s_in_order, [], []⟩
def d_Book_init : DefD := ⟨("Book", some "__init__"), "__init__", "Book.__init__", defArgs s_Book_init, defBody s_Book_init, defScope s_Book_init, [], []⟩
def d_law_pen : DefD := ⟨("_law_pen", none), "_law_pen", "_law_pen", defArgs s_law_pen, defBody s_law_pen, defScope s_law_pen, [], []⟩
def d_law_draw : DefD := ⟨("_law_draw", none), "_law_draw", "_law_draw", defArgs s_law_draw, defBody s_law_draw, defScope s_law_draw, [], []⟩
def d_law_pick : DefD := ⟨("_law_pick", none), "_law_pick", "_law_pick", defArgs s_law_pick, defBody s_law_pick, defScope s_law_pick, [], []⟩
def d_law_table : DefD := ⟨("_law_table", none), "_law_table", "_law_table", defArgs s_law_table, defBody s_law_table, defScope s_law_table, [], []⟩
def d_law_worth : DefD := ⟨("_law_worth", none), "_law_worth", "_law_worth", defArgs s_law_worth, defBody s_law_worth, defScope s_law_worth, [], []⟩
def d_law_real : DefD := ⟨("_law_real", none), "_law_real", "_law_real", defArgs s_law_real, defBody s_law_real, defScope s_law_real, [], []⟩
def d_law_whole : DefD := ⟨("_law_whole", none), "_law_whole", "_law_whole", defArgs s_law_whole, defBody s_law_whole, defScope s_law_whole, [], []⟩
def d_law_rules : DefD := ⟨("_law_rules", none), "_law_rules", "_law_rules", defArgs s_law_rules, defBody s_law_rules, defScope s_law_rules, [], []⟩
def d_law_rule : DefD := ⟨("_law_rule", none), "_law_rule", "_law_rule", defArgs s_law_rule, defBody s_law_rule, defScope s_law_rule, [], []⟩
def d_law_is_free : DefD := ⟨("_law_is_free", none), "_law_is_free", "_law_is_free", defArgs s_law_is_free, defBody s_law_is_free, defScope s_law_is_free, [], []⟩
def d_law_great_rule : DefD := ⟨("_law_great_rule", none), "_law_great_rule", "_law_great_rule", defArgs s_law_great_rule, defBody s_law_great_rule, defScope s_law_great_rule, [], []⟩
def d_law_heard : DefD := ⟨("_law_heard", none), "_law_heard", "_law_heard", defArgs s_law_heard, defBody s_law_heard, defScope s_law_heard, [], []⟩
def d_law_refused_right : DefD := ⟨("_law_refused_right", none), "_law_refused_right", "_law_refused_right", defArgs s_law_refused_right, defBody s_law_refused_right, defScope s_law_refused_right, [], []⟩
def d_law : DefD := ⟨("law", none), "law", "law", defArgs s_law, defBody s_law, defScope s_law, [], []⟩
def d_Free_init : DefD := ⟨("Free", some "__init__"), "__init__", "FreeAnswer.__init__", defArgs s_FreeAnswer_init, defBody s_FreeAnswer_init, defScope s_FreeAnswer_init, [], []⟩
def fnL0 : List DefD := [d_is_integer, d_is_heap, d_need_heap, d_common_multiple, d_need_part, d_Rested_init, d_Sized_init, d_Fixed_init, d_Fixed_stands_at, d_Fixed_left_at, d_Fixed_number_in_order, d_Down_init, d_Down_stands_at, d_Down_left_at, d_Down_number_in_order, d_FreeAnswer_init, d_Free_bool, d_Barred_bool, d_is_barred, d_settled_from, d_bars, d_free, d_is_free, d_are_worths, d_shortest_turn, d_least_form, d_Table_init, d_Table_worth_at, d_Table_eq, d_Table_str]
def fnL1 : List DefD := [d_are_bools, d_Sizes_init, d_Sizes_eq, d_whole_asked, d_is_unbarred, d_free_sizes, d_is_pair, d_far_worth, d_is_like, d_has_fixed, d_has_down, d_Greatest_init, d_Greatest_has, d_Greatest_sizes, d_Greatest_contains, d_Greatest_eq, d_common_modulus, d_in_order, d_Book_init, d_law_pen, d_law_draw, d_law_pick, d_law_table, d_law_worth, d_law_real, d_law_whole, d_law_rules, d_law_rule, d_law_is_free, d_law_great_rule]
def fnL2 : List DefD := [d_law_heard, d_law_refused_right, d_law, d_Free_init]
def fnL : List DefD := fnL0 ++ fnL1 ++ fnL2
def gloL0 : List Str := ["is_integer", "is_heap", "need_heap", "common_multiple", "need_part", "Rule", "Rested", "Sized", "Fixed", "Down", "FreeAnswer", "Free", "Barred", "is_barred", "settled_from", "bars", "free", "is_free", "are_worths", "shortest_turn", "least_form", "Table", "are_bools", "Sizes", "whole_asked", "is_unbarred", "free_sizes", "is_pair", "far_worth", "is_like"]
def gloL1 : List Str := ["has_fixed", "has_down", "Greatest", "common_modulus", "in_order", "Book", "BadRule", "TooMany", "FreeError", "_law_pen", "_law_draw", "_law_pick", "_law_table", "_law_worth", "_law_real", "_law_whole", "_law_rules", "_law_rule", "_law_is_free", "_law_great_rule", "_law_heard", "_law_refused_right", "law"]
def gloL : List Str := gloL0 ++ gloL1
def freL0 : List Str := ["isinstance", "int", "bool", "max", "range", "len", "all", "any", "tuple", "list", "sorted", "repr", "str", "abs", "enumerate", "ValueError", "super"]
def freL : List Str := freL0
def intL : List (Str × Int) := [("MOST_HEAP", 1000000000000000000000000000000), ("MOST_NUMBER", 400), ("MOST_MODULUS", 6), ("MOST_PARTS", 1000), ("MOST_WORTH", 400), ("MOST_SIZES", 1000), ("MOST_HEAPS", 400), ("MOST_RULES", 400), ("MOST_COMMON", 12)]
def clsL0 : List Str := ["Fixed", "Down", "Table", "Sizes", "Greatest", "Book", "Free", "Barred"]
def clsL : List Str := clsL0
def fldL0 : List (Str × Str) := [("Fixed", "rest"), ("Fixed", "modulus"), ("Fixed", "size"), ("Fixed", "leave"), ("Fixed", "start"), ("Fixed", "reach"), ("Down", "rest"), ("Down", "modulus"), ("Down", "to"), ("Down", "start"), ("Down", "reach"), ("Table", "begin"), ("Table", "period"), ("Table", "numbers"), ("Sizes", "ahead"), ("Sizes", "again"), ("Greatest", "table"), ("Book", "modulus"), ("Book", "rules"), ("Book", "start"), ("Book", "reach"), ("Free", "rule"), ("Barred", "rule"), ("Barred", "heap"), ("Barred", "left")]
def fldL : List (Str × Str) := fldL0
def metL0 : List (Str × Str) := [("Fixed", "stands_at"), ("Fixed", "left_at"), ("Fixed", "number_in_order"), ("Down", "stands_at"), ("Down", "left_at"), ("Down", "number_in_order"), ("Table", "worth_at"), ("Greatest", "has"), ("Greatest", "sizes"), ("Table", "__eq__"), ("Sizes", "__eq__"), ("Greatest", "__eq__"), ("Greatest", "__contains__"), ("Free", "__bool__"), ("Barred", "__bool__"), ("Table", "__str__")]
def metL : List (Str × Str) := metL0
def faL : List Fa := gloL.map .glo ++ freL.map .free ++ intL.map (fun p => .int p.1 p.2) ++ clsL.map .cls ++ fldL.map (fun p => .noat p.1 p.2) ++ metL.map (fun p => .meth p.1 p.2) ++ clsL.map .mkr
/-- one more fact: isinstance's answer by two values | what isinstance asks of an own class -/
inductive Fx where
  | kit (a : PySem.W.Frag → Value) (b : PySem.W.Frag → Value) (r : Bool)
  | own (x : Str)
  | read (x : Str)
  | cfun (x m : Str)
  | cmet (x m : Str)
  | ne (x : Str)
  | nf (x y : Str)
def isVal (f : Addr) : Option PySem.W.CFound → Bool
  | some (.val (.ref g)) => decide (g = f)
  | _ => false
def Fx.ok (K : PySem.W.Frag) : Fx → Bool
  | .kit a b r => decide (PySem.W.kitOne K (a K) (b K) = some r)
  | .own x => eqO (PySem.W.findIn K (.ref (ga K x)) "__class__") (some (some (.builtin "object.__class__"))) && (eqO (PySem.W.specialIn K (.builtin "object.__class__") "__get__") (some (some (.builtin "getset_descriptor.__get__"))) && (decide (PySem.W.takesIn K (.builtin "object.__class__") = some true) && decide (PySem.W.mroIn K (ga K x) (.type "object") = some true)))
  | .read x => PySem.W.readsIn K (ga K x) (.type "type") && eqO (PySem.W.specialIn K (.ref (ga K x)) "__getattribute__") (some (some (.builtin "type.__getattribute__")))
  | .cfun x m => isVal (ma K (ga K x) m) (PySem.W.findCls K (.ref (ga K x)) (.type "type") m) && PySem.W.keepIn K (.ref (ma K (ga K x) m))
  | .ne x => eqO (PySem.W.findIn K (.ref (ga K x)) "__ne__") (some (some (.builtin "object.__ne__")))
  | .nf x y => PySem.W.notFirst K (ga K x) (.ref (ga K y))
  | .cmet x m => He5.wrapB K (ga K x) "classmethod" "classmethod.__get__" m && PySem.W.fnIn K (He5.wf K (ga K x) "classmethod" m)
def fxL0 : List Fx := [.own "Fixed", .own "Down", .own "Table", .own "Sizes", .own "Greatest", .own "Book", .own "Free", .own "Barred", .kit (fun K => .ref (ga K "Fixed")) (fun K => .ref (ga K "Rule")) true, .kit (fun K => .ref (ga K "Fixed")) (fun K => .ref (ga K "Fixed")) true, .kit (fun K => .ref (ga K "Fixed")) (fun K => .ref (ga K "Down")) false, .kit (fun K => .ref (ga K "Fixed")) (fun K => .ref (ga K "Table")) false, .kit (fun K => .ref (ga K "Fixed")) (fun K => .ref (ga K "Sizes")) false, .kit (fun K => .ref (ga K "Fixed")) (fun K => .ref (ga K "Greatest")) false, .kit (fun K => .ref (ga K "Fixed")) (fun K => .ref (ga K "Book")) false, .kit (fun K => .ref (ga K "Down")) (fun K => .ref (ga K "Rule")) true, .kit (fun K => .ref (ga K "Down")) (fun K => .ref (ga K "Fixed")) false, .kit (fun K => .ref (ga K "Down")) (fun K => .ref (ga K "Down")) true, .kit (fun K => .ref (ga K "Down")) (fun K => .ref (ga K "Table")) false, .kit (fun K => .ref (ga K "Down")) (fun K => .ref (ga K "Sizes")) false, .kit (fun K => .ref (ga K "Down")) (fun K => .ref (ga K "Greatest")) false, .kit (fun K => .ref (ga K "Down")) (fun K => .ref (ga K "Book")) false, .kit (fun K => .ref (ga K "Table")) (fun K => .ref (ga K "Rule")) false, .kit (fun K => .ref (ga K "Table")) (fun K => .ref (ga K "Fixed")) false, .kit (fun K => .ref (ga K "Table")) (fun K => .ref (ga K "Down")) false, .kit (fun K => .ref (ga K "Table")) (fun K => .ref (ga K "Table")) true, .kit (fun K => .ref (ga K "Table")) (fun K => .ref (ga K "Sizes")) false, .kit (fun K => .ref (ga K "Table")) (fun K => .ref (ga K "Greatest")) false, .kit (fun K => .ref (ga K "Table")) (fun K => .ref (ga K "Book")) false, .kit (fun K => .ref (ga K "Sizes")) (fun K => .ref (ga K "Rule")) false]
def fxL1 : List Fx := [.kit (fun K => .ref (ga K "Sizes")) (fun K => .ref (ga K "Fixed")) false, .kit (fun K => .ref (ga K "Sizes")) (fun K => .ref (ga K "Down")) false, .kit (fun K => .ref (ga K "Sizes")) (fun K => .ref (ga K "Table")) false, .kit (fun K => .ref (ga K "Sizes")) (fun K => .ref (ga K "Sizes")) true, .kit (fun K => .ref (ga K "Sizes")) (fun K => .ref (ga K "Greatest")) false, .kit (fun K => .ref (ga K "Sizes")) (fun K => .ref (ga K "Book")) false, .kit (fun K => .ref (ga K "Greatest")) (fun K => .ref (ga K "Rule")) false, .kit (fun K => .ref (ga K "Greatest")) (fun K => .ref (ga K "Fixed")) false, .kit (fun K => .ref (ga K "Greatest")) (fun K => .ref (ga K "Down")) false, .kit (fun K => .ref (ga K "Greatest")) (fun K => .ref (ga K "Table")) false, .kit (fun K => .ref (ga K "Greatest")) (fun K => .ref (ga K "Sizes")) false, .kit (fun K => .ref (ga K "Greatest")) (fun K => .ref (ga K "Greatest")) true, .kit (fun K => .ref (ga K "Greatest")) (fun K => .ref (ga K "Book")) false, .kit (fun K => .ref (ga K "Book")) (fun K => .ref (ga K "Rule")) false, .kit (fun K => .ref (ga K "Book")) (fun K => .ref (ga K "Fixed")) false, .kit (fun K => .ref (ga K "Book")) (fun K => .ref (ga K "Down")) false, .kit (fun K => .ref (ga K "Book")) (fun K => .ref (ga K "Table")) false, .kit (fun K => .ref (ga K "Book")) (fun K => .ref (ga K "Sizes")) false, .kit (fun K => .ref (ga K "Book")) (fun K => .ref (ga K "Greatest")) false, .kit (fun K => .ref (ga K "Book")) (fun K => .ref (ga K "Book")) true, .kit (fun K => .ref (ga K "Free")) (fun K => .ref (ga K "Rule")) false, .kit (fun K => .ref (ga K "Free")) (fun K => .ref (ga K "Fixed")) false, .kit (fun K => .ref (ga K "Free")) (fun K => .ref (ga K "Down")) false, .kit (fun K => .ref (ga K "Free")) (fun K => .ref (ga K "Table")) false, .kit (fun K => .ref (ga K "Free")) (fun K => .ref (ga K "Sizes")) false, .kit (fun K => .ref (ga K "Free")) (fun K => .ref (ga K "Greatest")) false, .kit (fun K => .ref (ga K "Free")) (fun K => .ref (ga K "Book")) false, .kit (fun K => .ref (ga K "Barred")) (fun K => .ref (ga K "Rule")) false, .kit (fun K => .ref (ga K "Barred")) (fun K => .ref (ga K "Fixed")) false, .kit (fun K => .ref (ga K "Barred")) (fun K => .ref (ga K "Down")) false]
def fxL2 : List Fx := [.kit (fun K => .ref (ga K "Barred")) (fun K => .ref (ga K "Table")) false, .kit (fun K => .ref (ga K "Barred")) (fun K => .ref (ga K "Sizes")) false, .kit (fun K => .ref (ga K "Barred")) (fun K => .ref (ga K "Greatest")) false, .kit (fun K => .ref (ga K "Barred")) (fun K => .ref (ga K "Book")) false, .kit (fun K => .type "int") (fun K => .ref (ga K "Rule")) false, .kit (fun K => .type "int") (fun K => .ref (ga K "Fixed")) false, .kit (fun K => .type "int") (fun K => .ref (ga K "Down")) false, .kit (fun K => .type "int") (fun K => .ref (ga K "Table")) false, .kit (fun K => .type "int") (fun K => .ref (ga K "Sizes")) false, .kit (fun K => .type "int") (fun K => .ref (ga K "Greatest")) false, .kit (fun K => .type "int") (fun K => .ref (ga K "Book")) false, .kit (fun K => .type "bool") (fun K => .ref (ga K "Rule")) false, .kit (fun K => .type "bool") (fun K => .ref (ga K "Fixed")) false, .kit (fun K => .type "bool") (fun K => .ref (ga K "Down")) false, .kit (fun K => .type "bool") (fun K => .ref (ga K "Table")) false, .kit (fun K => .type "bool") (fun K => .ref (ga K "Sizes")) false, .kit (fun K => .type "bool") (fun K => .ref (ga K "Greatest")) false, .kit (fun K => .type "bool") (fun K => .ref (ga K "Book")) false, .kit (fun K => .type "str") (fun K => .ref (ga K "Rule")) false, .kit (fun K => .type "str") (fun K => .ref (ga K "Fixed")) false, .kit (fun K => .type "str") (fun K => .ref (ga K "Down")) false, .kit (fun K => .type "str") (fun K => .ref (ga K "Table")) false, .kit (fun K => .type "str") (fun K => .ref (ga K "Sizes")) false, .kit (fun K => .type "str") (fun K => .ref (ga K "Greatest")) false, .kit (fun K => .type "str") (fun K => .ref (ga K "Book")) false, .kit (fun K => .type "NoneType") (fun K => .ref (ga K "Rule")) false, .kit (fun K => .type "NoneType") (fun K => .ref (ga K "Fixed")) false, .kit (fun K => .type "NoneType") (fun K => .ref (ga K "Down")) false, .kit (fun K => .type "NoneType") (fun K => .ref (ga K "Table")) false, .kit (fun K => .type "NoneType") (fun K => .ref (ga K "Sizes")) false]
def fxL3 : List Fx := [.kit (fun K => .type "NoneType") (fun K => .ref (ga K "Greatest")) false, .kit (fun K => .type "NoneType") (fun K => .ref (ga K "Book")) false, .kit (fun K => .type "list") (fun K => .ref (ga K "Rule")) false, .kit (fun K => .type "list") (fun K => .ref (ga K "Fixed")) false, .kit (fun K => .type "list") (fun K => .ref (ga K "Down")) false, .kit (fun K => .type "list") (fun K => .ref (ga K "Table")) false, .kit (fun K => .type "list") (fun K => .ref (ga K "Sizes")) false, .kit (fun K => .type "list") (fun K => .ref (ga K "Greatest")) false, .kit (fun K => .type "list") (fun K => .ref (ga K "Book")) false, .kit (fun K => .type "tuple") (fun K => .ref (ga K "Rule")) false, .kit (fun K => .type "tuple") (fun K => .ref (ga K "Fixed")) false, .kit (fun K => .type "tuple") (fun K => .ref (ga K "Down")) false, .kit (fun K => .type "tuple") (fun K => .ref (ga K "Table")) false, .kit (fun K => .type "tuple") (fun K => .ref (ga K "Sizes")) false, .kit (fun K => .type "tuple") (fun K => .ref (ga K "Greatest")) false, .kit (fun K => .type "tuple") (fun K => .ref (ga K "Book")) false, .kit (fun K => .ref (ga K "Fixed")) (fun K => .type "tuple") false, .kit (fun K => .ref (ga K "Fixed")) (fun K => .type "list") false, .kit (fun K => .ref (ga K "Fixed")) (fun K => .type "int") false, .kit (fun K => .ref (ga K "Fixed")) (fun K => .type "bool") false, .kit (fun K => .ref (ga K "Down")) (fun K => .type "tuple") false, .kit (fun K => .ref (ga K "Down")) (fun K => .type "list") false, .kit (fun K => .ref (ga K "Down")) (fun K => .type "int") false, .kit (fun K => .ref (ga K "Down")) (fun K => .type "bool") false, .kit (fun K => .ref (ga K "Table")) (fun K => .type "tuple") false, .kit (fun K => .ref (ga K "Table")) (fun K => .type "list") false, .kit (fun K => .ref (ga K "Table")) (fun K => .type "int") false, .kit (fun K => .ref (ga K "Table")) (fun K => .type "bool") false, .kit (fun K => .ref (ga K "Sizes")) (fun K => .type "tuple") false, .kit (fun K => .ref (ga K "Sizes")) (fun K => .type "list") false]
def fxL4 : List Fx := [.kit (fun K => .ref (ga K "Sizes")) (fun K => .type "int") false, .kit (fun K => .ref (ga K "Sizes")) (fun K => .type "bool") false, .kit (fun K => .ref (ga K "Greatest")) (fun K => .type "tuple") false, .kit (fun K => .ref (ga K "Greatest")) (fun K => .type "list") false, .kit (fun K => .ref (ga K "Greatest")) (fun K => .type "int") false, .kit (fun K => .ref (ga K "Greatest")) (fun K => .type "bool") false, .kit (fun K => .ref (ga K "Book")) (fun K => .type "tuple") false, .kit (fun K => .ref (ga K "Book")) (fun K => .type "list") false, .kit (fun K => .ref (ga K "Book")) (fun K => .type "int") false, .kit (fun K => .ref (ga K "Book")) (fun K => .type "bool") false, .kit (fun K => .ref (ga K "Free")) (fun K => .type "tuple") false, .kit (fun K => .ref (ga K "Free")) (fun K => .type "list") false, .kit (fun K => .ref (ga K "Free")) (fun K => .type "int") false, .kit (fun K => .ref (ga K "Free")) (fun K => .type "bool") false, .kit (fun K => .ref (ga K "Barred")) (fun K => .type "tuple") false, .kit (fun K => .ref (ga K "Barred")) (fun K => .type "list") false, .kit (fun K => .ref (ga K "Barred")) (fun K => .type "int") false, .kit (fun K => .ref (ga K "Barred")) (fun K => .type "bool") false, .kit (fun K => .ref (ga K "BadRule")) (fun K => .ref (ga K "BadRule")) true, .kit (fun K => .ref (ga K "BadRule")) (fun K => .ref (ga K "TooMany")) false, .kit (fun K => .ref (ga K "BadRule")) (fun K => .type "ValueError") true, .kit (fun K => .ref (ga K "TooMany")) (fun K => .ref (ga K "BadRule")) false, .kit (fun K => .ref (ga K "TooMany")) (fun K => .ref (ga K "TooMany")) true, .kit (fun K => .ref (ga K "TooMany")) (fun K => .type "ValueError") true, .read "Sized", .read "Rested", .read "Book", .cfun "Sized" "__init__", .cfun "Rested" "__init__", .ne "Sizes"]
def fxL5 : List Fx := [.ne "Greatest", .nf "Greatest" "Table", .nf "Greatest" "Book", .cmet "Book" "of"]
def fxL : List Fx := fxL0 ++ fxL1 ++ fxL2 ++ fxL3 ++ fxL4 ++ fxL5
/-! ### defs that say super(); the classmethod Book.of; the exceptions' classes -/
abbrev s_Barred_init : Stmt := inClass (top 36) 0
abbrev N_Barred_init : List Str := ["self", "rule", "heap", "left", "__class__"]
abbrev s_BadRule_init : Stmt := inClass (top 3) 0
abbrev N_BadRule_init : List Str := ["self", "part", "__class__"]
abbrev s_TooMany_init : Stmt := inClass (top 10) 0
abbrev N_TooMany_init : List Str := ["self", "what", "most", "__class__"]
abbrev s_Book_of : Stmt := inClass (top 88) 2
abbrev N_Book_of : List Str := ["cls", "rules"]
theorem sc_Book_of : FnScope N_Book_of ["cls", "rules"] (defScope s_Book_of) := ⟨rfl, rfl, rfl, by decide +kernel, rfl, by decide +kernel, by decide +kernel⟩
def lawFile : Str := "/claim/cut.py"
def fnS (K : PySem.W.Frag) (a : Addr) : FnW := match K.lookup a with
  | some ⟨_, _, .func fd, _⟩ => some (fd.name, fd.qualname, fd.params, fd.body, fd.scope, fd.globals, [], fd.builtins)
  | _ => none
/-- such a def: its class, the text -/
structure SupD where
  cls : Str
  qual : Str
  params : Arguments
  body : List Stmt
  scope : Scope
def SupD.at_ (d : SupD) (K : PySem.W.Frag) : Addr := ma K (ga K d.cls) "__init__"
def SupD.val (d : SupD) : FnW := some ("__init__", d.qual, d.params, .stmts d.body, d.scope, mainGlobals, [], builtinsNs)
def isNone : Value → Bool
  | .none => true
  | _ => false
theorem isNone_ok {v : Value} (h : isNone v = true) : v = .none := by
  cases v <;> first | rfl | cases h
def cellB (K : PySem.W.Frag) (D : Addr) : List (Str × Addr) → Bool
  | [(x, c)] => decide (x = "__class__") && (match K.lookup c with | some ⟨_, _, .cell (some (.ref b)), _⟩ => decide (b = D) | _ => false)
  | _ => false
def nameB : Option Value → Bool
  | some (.str n _) => decide (n = lawFile)
  | _ => false
def codeB (K : PySem.W.Frag) (q : Str) : Value → Bool
  | .ref c => PySem.W.codeIn K (.ref c) q && (match K.lookup c with | some ⟨_, _, .fields vs, _⟩ => nameB vs[2]? | _ => false)
  | _ => false
def SupD.ok (K : PySem.W.Frag) (d : SupD) : Bool := PySem.W.keepIn K (.ref (d.at_ K)) && ((PySem.W.clsIn K (ga K d.cls)).isSome && (match K.lookup (d.at_ K) with
  | some ⟨_, _, .func fd, _⟩ => cellB K (ga K d.cls) fd.closure && (isNone fd.defaults && (isNone fd.kwdefaults && codeB K d.qual fd.code))
  | _ => false))
/-- the def at f says super() in the class at D -/
structure SupF (K : PySem.W.Frag) (f D : Addr) (qual : Str) (params : Arguments) (body : List Stmt) (scope : Scope) : Prop where
  ex : ∃ (oc : Value) (od : Option Addr) (doc pm : Value) (an : Option Addr) (cda : Addr) (ct : Value) (osl : Array (Option Value)) (cc : Addr) (ccl : Value) (cdd : Option Addr) (vs : Array Value) (ccs : Array (Option Value)) (tf : Tok) (cl : Value) (cld : Option Addr) (csl : Array (Option Value)),
    K.lookup f = some ⟨oc, od, .func (PySem.W.fnX "__init__" qual params body scope [("__class__", cc)] .none .none doc pm an (.ref cda) ct), osl⟩ ∧ PySem.W.codeIn K (.ref cda) qual = true ∧ K.lookup cda = some ⟨ccl, cdd, .fields vs, ccs⟩ ∧ vs[2]? = some (.str lawFile tf) ∧ K.lookup cc = some ⟨cl, cld, .cell (some (.ref D)), csl⟩
  kp : PySem.W.keepIn K (.ref f) = true
  hD : (PySem.W.clsIn K D).isSome = true
theorem SupD.supF {K : PySem.W.Frag} {d : SupD} (e : fnS K (d.at_ K) = d.val) (c : d.ok K = true) : SupF K (d.at_ K) (ga K d.cls) d.qual d.params d.body d.scope := by
  obtain ⟨kp, c1⟩ := ba c
  obtain ⟨hD, c2⟩ := ba c1
  unfold fnS at e
  cases q : K.lookup (d.at_ K) with
  | none =>
    rw [q] at c2
    cases c2
  | some o =>
    obtain ⟨oc, od, dt, osl⟩ := o
    rw [q] at c2 e
    cases dt with
    | func fd =>
      obtain ⟨n1, n2, n3, n4, n5, n6, n7, n8, n9, n10, n11, n12, n13, n14, n15⟩ := fd
      have e2 : (some (n1, n2, n3, n4, n5, n6, [], n15) : FnW) = some (("__init__" : Str), d.qual, d.params, FuncBody.stmts d.body, d.scope, mainGlobals, [], builtinsNs) := e
      simp only [Option.some.injEq, Prod.mk.injEq] at e2
      obtain ⟨h1, h2, h3, h4, h5, h6, _, h8⟩ := e2
      subst h1 h2 h3 h4 h5 h6 h8
      have c3 : (cellB K (ga K d.cls) n7 && (isNone n8 && (isNone n9 && codeB K d.qual n13))) = true := c2
      obtain ⟨k1, c4⟩ := ba c3
      obtain ⟨k2, c5⟩ := ba c4
      obtain ⟨k3, k4⟩ := ba c5
      obtain rfl := isNone_ok k2
      obtain rfl := isNone_ok k3
      unfold cellB at k1
      split at k1
      · rename_i x cc
        obtain ⟨k5, k6⟩ := ba k1
        obtain rfl := of_decide_eq_true k5
        split at k6
        · rename_i cl cld b csl hcc
          obtain rfl := of_decide_eq_true k6
          unfold codeB at k4
          split at k4
          · rename_i cda
            obtain ⟨k7, k8⟩ := ba k4
            split at k8
            · rename_i ccl cdd vs ccs hcda
              have hv : ∃ tf, vs[2]? = some (.str lawFile tf) := by
                unfold nameB at k8
                split at k8
                · rename_i n tf hv
                  obtain rfl := of_decide_eq_true k8
                  exact ⟨tf, hv⟩
                · cases k8
              obtain ⟨tf, hv⟩ := hv
              exact ⟨⟨oc, od, _, _, _, cda, _, osl, cc, ccl, cdd, vs, ccs, tf, cl, cld, csl, q, k7, hcda, hv, hcc⟩, kp, hD⟩
            · cases k8
          · cases k4
        · cases k6
      · cases k1
    | _ => cases c2
def u_Barred_init : SupD := ⟨"Barred", "Barred.__init__", defArgs s_Barred_init, defBody s_Barred_init, defScope s_Barred_init⟩
def u_BadRule_init : SupD := ⟨"BadRule", "BadRule.__init__", defArgs s_BadRule_init, defBody s_BadRule_init, defScope s_BadRule_init⟩
def u_TooMany_init : SupD := ⟨"TooMany", "TooMany.__init__", defArgs s_TooMany_init, defBody s_TooMany_init, defScope s_TooMany_init⟩
def supL : List SupD := [u_Barred_init, u_BadRule_init, u_TooMany_init]
def a_Book_of : He5.DefA := { at_ := fun K => He5.wf K (ga K "Book") "classmethod" "of", name := "of", qual := "Book.of", params := defArgs s_Book_of, body := defBody s_Book_of, scope := defScope s_Book_of }
def lkS (K : PySem.W.Frag) : List FnW := He5.fnA K (a_Book_of.at_ K) :: supL.map fun d => fnS K (d.at_ K)
def lkV : List FnW := a_Book_of.val :: supL.map SupD.val
/-- an exception's class -/
def oexB (K : PySem.W.Frag) (C : Addr) : Bool := match K.lookup C with
  | some ⟨.type "type", _, .cls cd, sl⟩ => (match cd.mro, sl.toList with
    | .ref C' :: bm, [_, _, _, _, some (.builtin n), _] => decide (C' = C) && (decide (n = "ValueError.__new__") && (!cd.hasDel && (cd.hasDict && PySem.HandSPX.refsVE bm)))
    | _, _ => false)
  | _ => false
def xcB (K : PySem.W.Frag) (C : Addr) (fl : List Str) : Bool := oexB K C && (eqO (PySem.W.findIn K (.ref C) "__setattr__") (some (some (.builtin "object.__setattr__"))) && (decide (PySem.W.typeIn K (.ref C) = some (.type "type")) && (PySem.W.keepIn K (.ref C) && (xfB K C &&
  (eqO (PySem.W.findIn K (.ref C) "__class__") (some (some (.builtin "object.__class__"))) && (eqO (PySem.W.specialIn K (.builtin "object.__class__") "__get__") (some (some (.builtin "getset_descriptor.__get__"))) && (decide (PySem.W.takesIn K (.builtin "object.__class__") = some true) && (decide (PySem.W.mroIn K C (.type "object") = some true) &&
  (eqO (PySem.W.findIn K (.ref C) "__init__") (some (some (.ref (ma K C "__init__")))) && (decide (PySem.W.typeIn K (.ref (ma K C "__init__")) = some (.type "function")) && (eqO (PySem.W.ks_superIn K C C "__init__") (some (some (.builtin "ValueError.__init__"))) &&
  (decide (PySem.W.subIn K (.ref C) (.type "ValueError") = some true) && (decide (PySem.W.exmOne K (.ref C) (.ref (ga K "FreeError")) = some true) && (decide (PySem.W.mroIn K C (.ref C) = some true) && fl.all fun f => eqO (PySem.W.findIn K (.ref C) f) (some none)))))))))))))))
structure XcF (K : PySem.W.Frag) (C : Addr) (fl : List Str) : Prop where
  ox : OexC K C
  xf : XfC K C
  ec : ExcC K C
  iC : PySem.W.findIn K (.ref C) "__init__" = some (some (.ref (ma K C "__init__")))
  tI : PySem.W.typeIn K (.ref (ma K C "__init__")) = some (.type "function")
  su : PySem.W.ks_superIn K C C "__init__" = some (some (.builtin "ValueError.__init__"))
  sv : PySem.W.subIn K (.ref C) (.type "ValueError") = some true
  te : PySem.W.exmOne K (.ref C) (.ref (ga K "FreeError")) = some true
  sf : PySem.W.mroIn K C (.ref C) = some true
  no : ∀ f ∈ fl, PySem.W.findIn K (.ref C) f = some none
theorem oexB_ok {K : PySem.W.Frag} {C : Addr} (h : oexB K C = true) : ∃ nm q N bs bm sn sub ab col dd k0 k1 k2 k3 k5, K.lookup C = some (excClassObj nm q C N bs bm true sn sub ab col dd k0 k1 k2 k3 k5 "ValueError.__new__") ∧ PySem.HandSPX.refsVE bm = true := by
  unfold oexB at h
  split at h
  · rename_i dd cd sl ho
    split at h
    · rename_i C' bm k0 k1 k2 k3 n k5 hm hs
      obtain ⟨h1, h⟩ := ba h
      obtain ⟨h2, h⟩ := ba h
      obtain ⟨h3, h⟩ := ba h
      obtain ⟨h4, h5⟩ := ba h
      obtain rfl := of_decide_eq_true h1
      obtain rfl := of_decide_eq_true h2
      obtain ⟨nm, bs, mro, ns, qn, hd, sn, sub, ab, col, del⟩ := cd
      dsimp only at hm h3 h4
      have h3 : del = false := by simpa using h3
      subst hm h3 h4
      have hsl : sl = #[k0, k1, k2, k3, some (.builtin "ValueError.__new__"), k5] := by
        obtain ⟨l⟩ := sl
        simp only at hs
        rw [hs]
      subst hsl
      exact ⟨nm, qn, ns, bs, bm, sn, sub, ab, col, dd, k0, k1, k2, k3, k5, ho, h5⟩
    · cases h
  · cases h
theorem xcB_ok {K : PySem.W.Frag} {C : Addr} {fl : List Str} (h : xcB K C fl = true) : XcF K C fl := by
  obtain ⟨h1, h⟩ := ba h
  obtain ⟨h2, h⟩ := ba h
  obtain ⟨h3, h⟩ := ba h
  obtain ⟨h4, h⟩ := ba h
  obtain ⟨h5, h⟩ := ba h
  obtain ⟨h6, h⟩ := ba h
  obtain ⟨h7, h⟩ := ba h
  obtain ⟨h8, h⟩ := ba h
  obtain ⟨h9, h⟩ := ba h
  obtain ⟨h10, h⟩ := ba h
  obtain ⟨h11, h⟩ := ba h
  obtain ⟨h12, h⟩ := ba h
  obtain ⟨h13, h⟩ := ba h
  obtain ⟨h14, h⟩ := ba h
  obtain ⟨h15, h16⟩ := ba h
  have X := xfB_ok h5
  exact ⟨⟨oexB_ok h1, eqO_ok h2, X.exC, of_decide_eq_true h3, h4⟩, X, ⟨X.ga, X.gg, X.exC, X.hdC, eqO_ok h6, eqO_ok h7, of_decide_eq_true h8, of_decide_eq_true h9⟩, eqO_ok h10, of_decide_eq_true h11, eqO_ok h12, of_decide_eq_true h13, of_decide_eq_true h14, of_decide_eq_true h15, fun f hf => eqO_ok (List.all_eq_true.mp h16 f hf)⟩
/-- Barred's super() -/
def barB0 (K : PySem.W.Frag) : Bool := eqO (PySem.W.ks_superIn K (ga K "Barred") (ga K "Barred") "__init__") (some (some (.ref (ma K (ga K "FreeAnswer") "__init__")))) && (decide (PySem.W.typeIn K (.ref (ma K (ga K "FreeAnswer") "__init__")) = some (.type "function")) && (PySem.W.fnIn K (ma K (ga K "FreeAnswer") "__init__") && decide (PySem.W.mroIn K (ga K "Barred") (.ref (ga K "Barred")) = some true)))
def suB (K : PySem.W.Frag) : Bool := (supL.all fun d => d.ok K) && (a_Book_of.ok K && (xcB K (ga K "BadRule") ["part"] && (xcB K (ga K "TooMany") ["what", "most"] && (barB0 K && eqO (PySem.W.nsIn K cStatics "thirdparty.any") (some none)))))
def exB (K : PySem.W.Frag) : Bool := (fxL.all fun f => f.ok K) && suB K
/-- what is known of K and of the module's names -/
class Tx (K : outParam PySem.W.Frag) (mg : outParam (Str → Option Value)) : Prop where
  ctx : ∃ h : Heap, K.In h ∧ h.Ns mainGlobals mg
  fd : SaysD faL fnL K
  ex : exB K = true
  lk : lkS K = lkV
section
variable {K : PySem.W.Frag} {mg : Str → Option Value}
theorem tglo [T : Tx K mg] (x : Str) (h : gloL.contains x = true := by decide +kernel) : mg x = some (.ref (ga K x)) := by
  obtain ⟨_, X, G⟩ := T.ctx
  exact glo_ok X G (T.fd.facts (by
    unfold faL
    simp only [List.mem_append, List.mem_map]
    exact .inl (.inl (.inl (.inl (.inl (.inl ⟨x, List.contains_iff_mem.mp h, rfl⟩)))))))
theorem tfre [T : Tx K mg] (x : Str) (h : freL.contains x = true := by decide +kernel) : mg x = none := by
  obtain ⟨_, X, G⟩ := T.ctx
  exact free_ok X G (T.fd.facts (by
    unfold faL
    simp only [List.mem_append, List.mem_map]
    exact .inl (.inl (.inl (.inl (.inl (.inr ⟨x, List.contains_iff_mem.mp h, rfl⟩)))))))
theorem tint [T : Tx K mg] (x : Str) (i : Int) (h : intL.contains (x, i) = true := by decide +kernel) : ∃ t, mg x = some (.int i t) := by
  obtain ⟨_, X, G⟩ := T.ctx
  exact int_ok X G (T.fd.facts (by
    unfold faL
    simp only [List.mem_append, List.mem_map]
    exact .inl (.inl (.inl (.inl (.inr ⟨(x, i), List.contains_iff_mem.mp h, rfl⟩))))))
theorem tcls [T : Tx K mg] (x : Str) (h : clsL.contains x = true := by decide +kernel) : Cls K (ga K x) := cls_ok (T.fd.facts (by
    unfold faL
    simp only [List.mem_append, List.mem_map]
    exact .inl (.inl (.inl (.inr ⟨x, List.contains_iff_mem.mp h, rfl⟩)))))
theorem tfld [T : Tx K mg] (x f : Str) (h : fldL.contains (x, f) = true := by decide +kernel) : NoAttr K (ga K x) f := noat_ok (T.fd.facts (by
    unfold faL
    simp only [List.mem_append, List.mem_map]
    exact .inl (.inl (.inr ⟨(x, f), List.contains_iff_mem.mp h, rfl⟩))))
theorem tmet [T : Tx K mg] (x f : Str) (h : metL.contains (x, f) = true := by decide +kernel) : Meth K (ga K x) f (ma K (ga K x) f) := meth_ok (T.fd.facts (by
    unfold faL
    simp only [List.mem_append, List.mem_map]
    exact .inl (.inr ⟨(x, f), List.contains_iff_mem.mp h, rfl⟩)))
theorem tmak [T : Tx K mg] (x : Str) (h : clsL.contains x = true := by decide +kernel) : Mk K (ga K x) (ma K (ga K x) "__init__") := mkr_ok (T.fd.facts (by
    unfold faL
    simp only [List.mem_append, List.mem_map]
    exact .inr ⟨x, List.contains_iff_mem.mp h, rfl⟩))
theorem tex [T : Tx K mg] (i : Nat) {f : Fx} (h : fxL[i]? = some f) : f.ok K = true := List.all_eq_true.mp (ba T.ex).1 f (List.mem_of_getElem? h)
theorem tkit [T : Tx K mg] (i : Nat) {a b : PySem.W.Frag → Value} {r : Bool} (h : fxL[i]? = some (.kit a b r) := by rfl) : PySem.W.kitOne K (a K) (b K) = some r := of_decide_eq_true (tex i h)
theorem town [T : Tx K mg] (i : Nat) {x : Str} {H : Hp} {a dx : Addr} {fs : List (Str × V)} (e : H a = some (.ins (ga K x) dx fs)) (h : fxL[i]? = some (.own x) := by rfl) (hc : clsL.contains x = true := by decide +kernel) : TyX K H (.ref a) (.ref (ga K x)) := by
  have q : Fx.ok K (.own x) = true := tex i h
  obtain ⟨c1, q⟩ := ba q
  obtain ⟨c2, q⟩ := ba q
  obtain ⟨c3, c4⟩ := ba q
  exact .base (.ins e (tcls x hc) (eqO_ok c1) (eqO_ok c2) (of_decide_eq_true c3) (of_decide_eq_true c4))
theorem f_is_integer [T : Tx K mg] : ∃ fd, FunD K "is_integer" "is_integer" (defArgs s_is_integer) (defBody s_is_integer) (defScope s_is_integer) [] [] (ga K "is_integer") fd := T.fd.def_ 0 (d := d_is_integer) rfl
theorem f_is_heap [T : Tx K mg] : ∃ fd, FunD K "is_heap" "is_heap" (defArgs s_is_heap) (defBody s_is_heap) (defScope s_is_heap) [] [] (ga K "is_heap") fd := T.fd.def_ 1 (d := d_is_heap) rfl
theorem f_need_heap [T : Tx K mg] : ∃ fd, FunD K "need_heap" "need_heap" (defArgs s_need_heap) (defBody s_need_heap) (defScope s_need_heap) [] [] (ga K "need_heap") fd := T.fd.def_ 2 (d := d_need_heap) rfl
theorem f_common_multiple [T : Tx K mg] : ∃ fd, FunD K "common_multiple" "common_multiple" (defArgs s_common_multiple) (defBody s_common_multiple) (defScope s_common_multiple) [] [] (ga K "common_multiple") fd := T.fd.def_ 3 (d := d_common_multiple) rfl
theorem f_need_part [T : Tx K mg] : ∃ fd, FunD K "need_part" "need_part" (defArgs s_need_part) (defBody s_need_part) (defScope s_need_part) [] [] (ga K "need_part") fd := T.fd.def_ 4 (d := d_need_part) rfl
theorem f_Rested_init [T : Tx K mg] : ∃ fd, FunD K "__init__" "Rested.__init__" (defArgs s_Rested_init) (defBody s_Rested_init) (defScope s_Rested_init) [] [] (ma K (ga K "Rested") "__init__") fd := T.fd.def_ 5 (d := d_Rested_init) rfl
theorem f_Sized_init [T : Tx K mg] : ∃ fd, FunD K "__init__" "Sized.__init__" (defArgs s_Sized_init) (defBody s_Sized_init) (defScope s_Sized_init) [] [] (ma K (ga K "Sized") "__init__") fd := T.fd.def_ 6 (d := d_Sized_init) rfl
theorem f_Fixed_init [T : Tx K mg] : ∃ fd, FunD K "__init__" "Fixed.__init__" (defArgs s_Fixed_init) (defBody s_Fixed_init) (defScope s_Fixed_init) [.int 0, .int 1, .int 0] [] (ma K (ga K "Fixed") "__init__") fd := T.fd.def_ 7 (d := d_Fixed_init) rfl
theorem f_Fixed_stands_at [T : Tx K mg] : ∃ fd, FunD K "stands_at" "Fixed.stands_at" (defArgs s_Fixed_stands_at) (defBody s_Fixed_stands_at) (defScope s_Fixed_stands_at) [] [] (ma K (ga K "Fixed") "stands_at") fd := T.fd.def_ 8 (d := d_Fixed_stands_at) rfl
theorem f_Fixed_left_at [T : Tx K mg] : ∃ fd, FunD K "left_at" "Fixed.left_at" (defArgs s_Fixed_left_at) (defBody s_Fixed_left_at) (defScope s_Fixed_left_at) [] [] (ma K (ga K "Fixed") "left_at") fd := T.fd.def_ 9 (d := d_Fixed_left_at) rfl
theorem f_Fixed_number_in_order [T : Tx K mg] : ∃ fd, FunD K "number_in_order" "Fixed.number_in_order" (defArgs s_Fixed_number_in_order) (defBody s_Fixed_number_in_order) (defScope s_Fixed_number_in_order) [] [] (ma K (ga K "Fixed") "number_in_order") fd := T.fd.def_ 10 (d := d_Fixed_number_in_order) rfl
theorem f_Down_init [T : Tx K mg] : ∃ fd, FunD K "__init__" "Down.__init__" (defArgs s_Down_init) (defBody s_Down_init) (defScope s_Down_init) [.int 0, .int 1] [] (ma K (ga K "Down") "__init__") fd := T.fd.def_ 11 (d := d_Down_init) rfl
theorem f_Down_stands_at [T : Tx K mg] : ∃ fd, FunD K "stands_at" "Down.stands_at" (defArgs s_Down_stands_at) (defBody s_Down_stands_at) (defScope s_Down_stands_at) [] [] (ma K (ga K "Down") "stands_at") fd := T.fd.def_ 12 (d := d_Down_stands_at) rfl
theorem f_Down_left_at [T : Tx K mg] : ∃ fd, FunD K "left_at" "Down.left_at" (defArgs s_Down_left_at) (defBody s_Down_left_at) (defScope s_Down_left_at) [] [] (ma K (ga K "Down") "left_at") fd := T.fd.def_ 13 (d := d_Down_left_at) rfl
theorem f_Down_number_in_order [T : Tx K mg] : ∃ fd, FunD K "number_in_order" "Down.number_in_order" (defArgs s_Down_number_in_order) (defBody s_Down_number_in_order) (defScope s_Down_number_in_order) [] [] (ma K (ga K "Down") "number_in_order") fd := T.fd.def_ 14 (d := d_Down_number_in_order) rfl
theorem f_FreeAnswer_init [T : Tx K mg] : ∃ fd, FunD K "__init__" "FreeAnswer.__init__" (defArgs s_FreeAnswer_init) (defBody s_FreeAnswer_init) (defScope s_FreeAnswer_init) [] [] (ma K (ga K "FreeAnswer") "__init__") fd := T.fd.def_ 15 (d := d_FreeAnswer_init) rfl
theorem f_Free_bool [T : Tx K mg] : ∃ fd, FunD K "__bool__" "Free.__bool__" (defArgs s_Free_bool) (defBody s_Free_bool) (defScope s_Free_bool) [] [] (ma K (ga K "Free") "__bool__") fd := T.fd.def_ 16 (d := d_Free_bool) rfl
theorem f_Barred_bool [T : Tx K mg] : ∃ fd, FunD K "__bool__" "Barred.__bool__" (defArgs s_Barred_bool) (defBody s_Barred_bool) (defScope s_Barred_bool) [] [] (ma K (ga K "Barred") "__bool__") fd := T.fd.def_ 17 (d := d_Barred_bool) rfl
theorem f_is_barred [T : Tx K mg] : ∃ fd, FunD K "is_barred" "is_barred" (defArgs s_is_barred) (defBody s_is_barred) (defScope s_is_barred) [] [] (ga K "is_barred") fd := T.fd.def_ 18 (d := d_is_barred) rfl
theorem f_settled_from [T : Tx K mg] : ∃ fd, FunD K "settled_from" "settled_from" (defArgs s_settled_from) (defBody s_settled_from) (defScope s_settled_from) [] [] (ga K "settled_from") fd := T.fd.def_ 19 (d := d_settled_from) rfl
theorem f_bars [T : Tx K mg] : ∃ fd, FunD K "bars" "bars" (defArgs s_bars) (defBody s_bars) (defScope s_bars) [.int 0] [] (ga K "bars") fd := T.fd.def_ 20 (d := d_bars) rfl
theorem f_free [T : Tx K mg] : ∃ fd, FunD K "free" "free" (defArgs s_free) (defBody s_free) (defScope s_free) [] [] (ga K "free") fd := T.fd.def_ 21 (d := d_free) rfl
theorem f_is_free [T : Tx K mg] : ∃ fd, FunD K "is_free" "is_free" (defArgs s_is_free) (defBody s_is_free) (defScope s_is_free) [] [] (ga K "is_free") fd := T.fd.def_ 22 (d := d_is_free) rfl
theorem f_are_worths [T : Tx K mg] : ∃ fd, FunD K "are_worths" "are_worths" (defArgs s_are_worths) (defBody s_are_worths) (defScope s_are_worths) [] [] (ga K "are_worths") fd := T.fd.def_ 23 (d := d_are_worths) rfl
theorem f_shortest_turn [T : Tx K mg] : ∃ fd, FunD K "shortest_turn" "shortest_turn" (defArgs s_shortest_turn) (defBody s_shortest_turn) (defScope s_shortest_turn) [] [] (ga K "shortest_turn") fd := T.fd.def_ 24 (d := d_shortest_turn) rfl
theorem f_least_form [T : Tx K mg] : ∃ fd, FunD K "least_form" "least_form" (defArgs s_least_form) (defBody s_least_form) (defScope s_least_form) [] [] (ga K "least_form") fd := T.fd.def_ 25 (d := d_least_form) rfl
theorem f_Table_init [T : Tx K mg] : ∃ fd, FunD K "__init__" "Table.__init__" (defArgs s_Table_init) (defBody s_Table_init) (defScope s_Table_init) [] [] (ma K (ga K "Table") "__init__") fd := T.fd.def_ 26 (d := d_Table_init) rfl
theorem f_Table_worth_at [T : Tx K mg] : ∃ fd, FunD K "worth_at" "Table.worth_at" (defArgs s_Table_worth_at) (defBody s_Table_worth_at) (defScope s_Table_worth_at) [] [] (ma K (ga K "Table") "worth_at") fd := T.fd.def_ 27 (d := d_Table_worth_at) rfl
theorem f_Table_eq [T : Tx K mg] : ∃ fd, FunD K "__eq__" "Table.__eq__" (defArgs s_Table_eq) (defBody s_Table_eq) (defScope s_Table_eq) [] [] (ma K (ga K "Table") "__eq__") fd := T.fd.def_ 28 (d := d_Table_eq) rfl
theorem f_Table_str [T : Tx K mg] : ∃ fd, FunD K "__str__" "Table.__str__" (defArgs s_Table_str) (defBody s_Table_str) (defScope s_Table_str) [] [] (ma K (ga K "Table") "__str__") fd := T.fd.def_ 29 (d := d_Table_str) rfl
theorem f_are_bools [T : Tx K mg] : ∃ fd, FunD K "are_bools" "are_bools" (defArgs s_are_bools) (defBody s_are_bools) (defScope s_are_bools) [] [] (ga K "are_bools") fd := T.fd.def_ 30 (d := d_are_bools) rfl
theorem f_Sizes_init [T : Tx K mg] : ∃ fd, FunD K "__init__" "Sizes.__init__" (defArgs s_Sizes_init) (defBody s_Sizes_init) (defScope s_Sizes_init) [] [] (ma K (ga K "Sizes") "__init__") fd := T.fd.def_ 31 (d := d_Sizes_init) rfl
theorem f_Sizes_eq [T : Tx K mg] : ∃ fd, FunD K "__eq__" "Sizes.__eq__" (defArgs s_Sizes_eq) (defBody s_Sizes_eq) (defScope s_Sizes_eq) [] [] (ma K (ga K "Sizes") "__eq__") fd := T.fd.def_ 32 (d := d_Sizes_eq) rfl
theorem f_whole_asked [T : Tx K mg] : ∃ fd, FunD K "whole_asked" "whole_asked" (defArgs s_whole_asked) (defBody s_whole_asked) (defScope s_whole_asked) [] [] (ga K "whole_asked") fd := T.fd.def_ 33 (d := d_whole_asked) rfl
theorem f_is_unbarred [T : Tx K mg] : ∃ fd, FunD K "is_unbarred" "is_unbarred" (defArgs s_is_unbarred) (defBody s_is_unbarred) (defScope s_is_unbarred) [] [] (ga K "is_unbarred") fd := T.fd.def_ 34 (d := d_is_unbarred) rfl
theorem f_free_sizes [T : Tx K mg] : ∃ fd, FunD K "free_sizes" "free_sizes" (defArgs s_free_sizes) (defBody s_free_sizes) (defScope s_free_sizes) [.int 0, .int 1, .int 0] [] (ga K "free_sizes") fd := T.fd.def_ 35 (d := d_free_sizes) rfl
theorem f_is_pair [T : Tx K mg] : ∃ fd, FunD K "is_pair" "is_pair" (defArgs s_is_pair) (defBody s_is_pair) (defScope s_is_pair) [] [] (ga K "is_pair") fd := T.fd.def_ 36 (d := d_is_pair) rfl
theorem f_far_worth [T : Tx K mg] : ∃ fd, FunD K "far_worth" "far_worth" (defArgs s_far_worth) (defBody s_far_worth) (defScope s_far_worth) [] [] (ga K "far_worth") fd := T.fd.def_ 37 (d := d_far_worth) rfl
theorem f_is_like [T : Tx K mg] : ∃ fd, FunD K "is_like" "is_like" (defArgs s_is_like) (defBody s_is_like) (defScope s_is_like) [] [] (ga K "is_like") fd := T.fd.def_ 38 (d := d_is_like) rfl
theorem f_has_fixed [T : Tx K mg] : ∃ fd, FunD K "has_fixed" "has_fixed" (defArgs s_has_fixed) (defBody s_has_fixed) (defScope s_has_fixed) [] [] (ga K "has_fixed") fd := T.fd.def_ 39 (d := d_has_fixed) rfl
theorem f_has_down [T : Tx K mg] : ∃ fd, FunD K "has_down" "has_down" (defArgs s_has_down) (defBody s_has_down) (defScope s_has_down) [] [] (ga K "has_down") fd := T.fd.def_ 40 (d := d_has_down) rfl
theorem f_Greatest_init [T : Tx K mg] : ∃ fd, FunD K "__init__" "Greatest.__init__" (defArgs s_Greatest_init) (defBody s_Greatest_init) (defScope s_Greatest_init) [] [] (ma K (ga K "Greatest") "__init__") fd := T.fd.def_ 41 (d := d_Greatest_init) rfl
theorem f_Greatest_has [T : Tx K mg] : ∃ fd, FunD K "has" "Greatest.has" (defArgs s_Greatest_has) (defBody s_Greatest_has) (defScope s_Greatest_has) [] [] (ma K (ga K "Greatest") "has") fd := T.fd.def_ 42 (d := d_Greatest_has) rfl
theorem f_Greatest_sizes [T : Tx K mg] : ∃ fd, FunD K "sizes" "Greatest.sizes" (defArgs s_Greatest_sizes) (defBody s_Greatest_sizes) (defScope s_Greatest_sizes) [.int 0, .int 1, .int 0] [] (ma K (ga K "Greatest") "sizes") fd := T.fd.def_ 43 (d := d_Greatest_sizes) rfl
theorem f_Greatest_contains [T : Tx K mg] : ∃ fd, FunD K "__contains__" "Greatest.__contains__" (defArgs s_Greatest_contains) (defBody s_Greatest_contains) (defScope s_Greatest_contains) [] [] (ma K (ga K "Greatest") "__contains__") fd := T.fd.def_ 44 (d := d_Greatest_contains) rfl
theorem f_Greatest_eq [T : Tx K mg] : ∃ fd, FunD K "__eq__" "Greatest.__eq__" (defArgs s_Greatest_eq) (defBody s_Greatest_eq) (defScope s_Greatest_eq) [] [] (ma K (ga K "Greatest") "__eq__") fd := T.fd.def_ 45 (d := d_Greatest_eq) rfl
theorem f_common_modulus [T : Tx K mg] : ∃ fd, FunD K "common_modulus" "common_modulus" (defArgs s_common_modulus) (defBody s_common_modulus) (defScope s_common_modulus) [] [] (ga K "common_modulus") fd := T.fd.def_ 46 (d := d_common_modulus) rfl
theorem f_in_order [T : Tx K mg] : ∃ fd, FunD K "in_order" "in_order" (defArgs s_in_order) (defBody s_in_order) (defScope s_in_order) [] [] (ga K "in_order") fd := T.fd.def_ 47 (d := d_in_order) rfl
theorem f_Book_init [T : Tx K mg] : ∃ fd, FunD K "__init__" "Book.__init__" (defArgs s_Book_init) (defBody s_Book_init) (defScope s_Book_init) [] [] (ma K (ga K "Book") "__init__") fd := T.fd.def_ 48 (d := d_Book_init) rfl
theorem f_law_pen [T : Tx K mg] : ∃ fd, FunD K "_law_pen" "_law_pen" (defArgs s_law_pen) (defBody s_law_pen) (defScope s_law_pen) [] [] (ga K "_law_pen") fd := T.fd.def_ 49 (d := d_law_pen) rfl
theorem f_law_draw [T : Tx K mg] : ∃ fd, FunD K "_law_draw" "_law_draw" (defArgs s_law_draw) (defBody s_law_draw) (defScope s_law_draw) [] [] (ga K "_law_draw") fd := T.fd.def_ 50 (d := d_law_draw) rfl
theorem f_law_pick [T : Tx K mg] : ∃ fd, FunD K "_law_pick" "_law_pick" (defArgs s_law_pick) (defBody s_law_pick) (defScope s_law_pick) [] [] (ga K "_law_pick") fd := T.fd.def_ 51 (d := d_law_pick) rfl
theorem f_law_table [T : Tx K mg] : ∃ fd, FunD K "_law_table" "_law_table" (defArgs s_law_table) (defBody s_law_table) (defScope s_law_table) [] [] (ga K "_law_table") fd := T.fd.def_ 52 (d := d_law_table) rfl
theorem f_law_worth [T : Tx K mg] : ∃ fd, FunD K "_law_worth" "_law_worth" (defArgs s_law_worth) (defBody s_law_worth) (defScope s_law_worth) [] [] (ga K "_law_worth") fd := T.fd.def_ 53 (d := d_law_worth) rfl
theorem f_law_real [T : Tx K mg] : ∃ fd, FunD K "_law_real" "_law_real" (defArgs s_law_real) (defBody s_law_real) (defScope s_law_real) [] [] (ga K "_law_real") fd := T.fd.def_ 54 (d := d_law_real) rfl
theorem f_law_whole [T : Tx K mg] : ∃ fd, FunD K "_law_whole" "_law_whole" (defArgs s_law_whole) (defBody s_law_whole) (defScope s_law_whole) [] [] (ga K "_law_whole") fd := T.fd.def_ 55 (d := d_law_whole) rfl
theorem f_law_rules [T : Tx K mg] : ∃ fd, FunD K "_law_rules" "_law_rules" (defArgs s_law_rules) (defBody s_law_rules) (defScope s_law_rules) [] [] (ga K "_law_rules") fd := T.fd.def_ 56 (d := d_law_rules) rfl
theorem f_law_rule [T : Tx K mg] : ∃ fd, FunD K "_law_rule" "_law_rule" (defArgs s_law_rule) (defBody s_law_rule) (defScope s_law_rule) [] [] (ga K "_law_rule") fd := T.fd.def_ 57 (d := d_law_rule) rfl
theorem f_law_is_free [T : Tx K mg] : ∃ fd, FunD K "_law_is_free" "_law_is_free" (defArgs s_law_is_free) (defBody s_law_is_free) (defScope s_law_is_free) [] [] (ga K "_law_is_free") fd := T.fd.def_ 58 (d := d_law_is_free) rfl
theorem f_law_great_rule [T : Tx K mg] : ∃ fd, FunD K "_law_great_rule" "_law_great_rule" (defArgs s_law_great_rule) (defBody s_law_great_rule) (defScope s_law_great_rule) [] [] (ga K "_law_great_rule") fd := T.fd.def_ 59 (d := d_law_great_rule) rfl
theorem f_law_heard [T : Tx K mg] : ∃ fd, FunD K "_law_heard" "_law_heard" (defArgs s_law_heard) (defBody s_law_heard) (defScope s_law_heard) [] [] (ga K "_law_heard") fd := T.fd.def_ 60 (d := d_law_heard) rfl
theorem f_law_refused_right [T : Tx K mg] : ∃ fd, FunD K "_law_refused_right" "_law_refused_right" (defArgs s_law_refused_right) (defBody s_law_refused_right) (defScope s_law_refused_right) [] [] (ga K "_law_refused_right") fd := T.fd.def_ 61 (d := d_law_refused_right) rfl
theorem f_law [T : Tx K mg] : ∃ fd, FunD K "law" "law" (defArgs s_law) (defBody s_law) (defScope s_law) [] [] (ga K "law") fd := T.fd.def_ 62 (d := d_law) rfl
theorem f_Free_init [T : Tx K mg] : ∃ fd, FunD K "__init__" "FreeAnswer.__init__" (defArgs s_FreeAnswer_init) (defBody s_FreeAnswer_init) (defScope s_FreeAnswer_init) [] [] (ma K (ga K "Free") "__init__") fd := T.fd.def_ 63 (d := d_Free_init) rfl
end
theorem cread_ok {K : PySem.W.Frag} {x : Str} (h : Fx.ok K (.read x) = true) : ClX.CRead K (ga K x) (.type "type") := ⟨(ba h).1, eqO_ok (ba h).2⟩
theorem cfun_ok {K : PySem.W.Frag} {x m : Str} (h : Fx.ok K (.cfun x m) = true) : ClX.CVal K (ga K x) (.type "type") m (.ref (ma K (ga K x) m)) (.ref (ma K (ga K x) m)) ∧ PySem.W.keepIn K (.ref (ma K (ga K x) m)) = true := by
  obtain ⟨h1, h2⟩ := ba h
  refine ⟨⟨?_, rfl⟩, h2⟩
  unfold isVal at h1
  split at h1
  · rename_i g e
    rw [e, of_decide_eq_true h1]
  · cases h1
theorem cmet_ok {K : PySem.W.Frag} {x m : Str} (h : Fx.ok K (.cmet x m) = true) : ClX.CMet K (ga K x) (.type "type") m (ma K (ga K x) m) (He5.wf K (ga K x) "classmethod" m) := He5.cmet_of (ba h).1 (ba h).2
section
variable {K : PySem.W.Frag} {mg : Str → Option Value}
theorem ty_Fixed [T : Tx K mg] {H : Hp} {a dx : Addr} {fs : List (Str × V)} (e : H a = some (.ins (ga K "Fixed") dx fs)) : TyX K H (.ref a) (.ref (ga K "Fixed")) := town 0 e
theorem ty_Down [T : Tx K mg] {H : Hp} {a dx : Addr} {fs : List (Str × V)} (e : H a = some (.ins (ga K "Down") dx fs)) : TyX K H (.ref a) (.ref (ga K "Down")) := town 1 e
theorem ty_Table [T : Tx K mg] {H : Hp} {a dx : Addr} {fs : List (Str × V)} (e : H a = some (.ins (ga K "Table") dx fs)) : TyX K H (.ref a) (.ref (ga K "Table")) := town 2 e
theorem ty_Sizes [T : Tx K mg] {H : Hp} {a dx : Addr} {fs : List (Str × V)} (e : H a = some (.ins (ga K "Sizes") dx fs)) : TyX K H (.ref a) (.ref (ga K "Sizes")) := town 3 e
theorem ty_Greatest [T : Tx K mg] {H : Hp} {a dx : Addr} {fs : List (Str × V)} (e : H a = some (.ins (ga K "Greatest") dx fs)) : TyX K H (.ref a) (.ref (ga K "Greatest")) := town 4 e
theorem ty_Book [T : Tx K mg] {H : Hp} {a dx : Addr} {fs : List (Str × V)} (e : H a = some (.ins (ga K "Book") dx fs)) : TyX K H (.ref a) (.ref (ga K "Book")) := town 5 e
theorem ty_Free [T : Tx K mg] {H : Hp} {a dx : Addr} {fs : List (Str × V)} (e : H a = some (.ins (ga K "Free") dx fs)) : TyX K H (.ref a) (.ref (ga K "Free")) := town 6 e
theorem ty_Barred [T : Tx K mg] {H : Hp} {a dx : Addr} {fs : List (Str × V)} (e : H a = some (.ins (ga K "Barred") dx fs)) : TyX K H (.ref a) (.ref (ga K "Barred")) := town 7 e
theorem rd_Sized [T : Tx K mg] : ClX.CRead K (ga K "Sized") (.type "type") := cread_ok (tex (f := .read "Sized") 144 rfl)
theorem rd_Rested [T : Tx K mg] : ClX.CRead K (ga K "Rested") (.type "type") := cread_ok (tex (f := .read "Rested") 145 rfl)
theorem rd_Book [T : Tx K mg] : ClX.CRead K (ga K "Book") (.type "type") := cread_ok (tex (f := .read "Book") 146 rfl)
theorem cf_Sized [T : Tx K mg] : ClX.CVal K (ga K "Sized") (.type "type") "__init__" (.ref (ma K (ga K "Sized") "__init__")) (.ref (ma K (ga K "Sized") "__init__")) ∧ PySem.W.keepIn K (.ref (ma K (ga K "Sized") "__init__")) = true := cfun_ok (tex (f := .cfun "Sized" "__init__") 147 rfl)
theorem cf_Rested [T : Tx K mg] : ClX.CVal K (ga K "Rested") (.type "type") "__init__" (.ref (ma K (ga K "Rested") "__init__")) (.ref (ma K (ga K "Rested") "__init__")) ∧ PySem.W.keepIn K (.ref (ma K (ga K "Rested") "__init__")) = true := cfun_ok (tex (f := .cfun "Rested" "__init__") 148 rfl)
theorem ne_Sizes [T : Tx K mg] : PySem.W.findIn K (.ref (ga K "Sizes")) "__ne__" = some (some (.builtin "object.__ne__")) := eqO_ok (tex (f := .ne "Sizes") 149 rfl)
theorem ne_Greatest [T : Tx K mg] : PySem.W.findIn K (.ref (ga K "Greatest")) "__ne__" = some (some (.builtin "object.__ne__")) := eqO_ok (tex (f := .ne "Greatest") 150 rfl)
theorem nf_Greatest_Table [T : Tx K mg] : PySem.W.notFirst K (ga K "Greatest") (.ref (ga K "Table")) = true := tex (f := .nf "Greatest" "Table") 151 rfl
theorem nf_Greatest_Book [T : Tx K mg] : PySem.W.notFirst K (ga K "Greatest") (.ref (ga K "Book")) = true := tex (f := .nf "Greatest" "Book") 152 rfl
theorem cm_Book [T : Tx K mg] : ClX.CMet K (ga K "Book") (.type "type") "of" (ma K (ga K "Book") "of") (He5.wf K (ga K "Book") "classmethod" "of") := cmet_ok (tex (f := .cmet "Book" "of") 153 rfl)
theorem k_Fixed_Rule [T : Tx K mg] : PySem.W.kitOne K (.ref (ga K "Fixed")) (.ref (ga K "Rule")) = some true := tkit 8 (a := fun K => .ref (ga K "Fixed")) (b := fun K => .ref (ga K "Rule"))
theorem k_Fixed_Fixed [T : Tx K mg] : PySem.W.kitOne K (.ref (ga K "Fixed")) (.ref (ga K "Fixed")) = some true := tkit 9 (a := fun K => .ref (ga K "Fixed")) (b := fun K => .ref (ga K "Fixed"))
theorem k_Fixed_Down [T : Tx K mg] : PySem.W.kitOne K (.ref (ga K "Fixed")) (.ref (ga K "Down")) = some false := tkit 10 (a := fun K => .ref (ga K "Fixed")) (b := fun K => .ref (ga K "Down"))
theorem k_Fixed_Table [T : Tx K mg] : PySem.W.kitOne K (.ref (ga K "Fixed")) (.ref (ga K "Table")) = some false := tkit 11 (a := fun K => .ref (ga K "Fixed")) (b := fun K => .ref (ga K "Table"))
theorem k_Fixed_Sizes [T : Tx K mg] : PySem.W.kitOne K (.ref (ga K "Fixed")) (.ref (ga K "Sizes")) = some false := tkit 12 (a := fun K => .ref (ga K "Fixed")) (b := fun K => .ref (ga K "Sizes"))
theorem k_Fixed_Greatest [T : Tx K mg] : PySem.W.kitOne K (.ref (ga K "Fixed")) (.ref (ga K "Greatest")) = some false := tkit 13 (a := fun K => .ref (ga K "Fixed")) (b := fun K => .ref (ga K "Greatest"))
theorem k_Fixed_Book [T : Tx K mg] : PySem.W.kitOne K (.ref (ga K "Fixed")) (.ref (ga K "Book")) = some false := tkit 14 (a := fun K => .ref (ga K "Fixed")) (b := fun K => .ref (ga K "Book"))
theorem k_Down_Rule [T : Tx K mg] : PySem.W.kitOne K (.ref (ga K "Down")) (.ref (ga K "Rule")) = some true := tkit 15 (a := fun K => .ref (ga K "Down")) (b := fun K => .ref (ga K "Rule"))
theorem k_Down_Fixed [T : Tx K mg] : PySem.W.kitOne K (.ref (ga K "Down")) (.ref (ga K "Fixed")) = some false := tkit 16 (a := fun K => .ref (ga K "Down")) (b := fun K => .ref (ga K "Fixed"))
theorem k_Down_Down [T : Tx K mg] : PySem.W.kitOne K (.ref (ga K "Down")) (.ref (ga K "Down")) = some true := tkit 17 (a := fun K => .ref (ga K "Down")) (b := fun K => .ref (ga K "Down"))
theorem k_Down_Table [T : Tx K mg] : PySem.W.kitOne K (.ref (ga K "Down")) (.ref (ga K "Table")) = some false := tkit 18 (a := fun K => .ref (ga K "Down")) (b := fun K => .ref (ga K "Table"))
theorem k_Down_Sizes [T : Tx K mg] : PySem.W.kitOne K (.ref (ga K "Down")) (.ref (ga K "Sizes")) = some false := tkit 19 (a := fun K => .ref (ga K "Down")) (b := fun K => .ref (ga K "Sizes"))
theorem k_Down_Greatest [T : Tx K mg] : PySem.W.kitOne K (.ref (ga K "Down")) (.ref (ga K "Greatest")) = some false := tkit 20 (a := fun K => .ref (ga K "Down")) (b := fun K => .ref (ga K "Greatest"))
theorem k_Down_Book [T : Tx K mg] : PySem.W.kitOne K (.ref (ga K "Down")) (.ref (ga K "Book")) = some false := tkit 21 (a := fun K => .ref (ga K "Down")) (b := fun K => .ref (ga K "Book"))
theorem k_Table_Rule [T : Tx K mg] : PySem.W.kitOne K (.ref (ga K "Table")) (.ref (ga K "Rule")) = some false := tkit 22 (a := fun K => .ref (ga K "Table")) (b := fun K => .ref (ga K "Rule"))
theorem k_Table_Fixed [T : Tx K mg] : PySem.W.kitOne K (.ref (ga K "Table")) (.ref (ga K "Fixed")) = some false := tkit 23 (a := fun K => .ref (ga K "Table")) (b := fun K => .ref (ga K "Fixed"))
theorem k_Table_Down [T : Tx K mg] : PySem.W.kitOne K (.ref (ga K "Table")) (.ref (ga K "Down")) = some false := tkit 24 (a := fun K => .ref (ga K "Table")) (b := fun K => .ref (ga K "Down"))
theorem k_Table_Table [T : Tx K mg] : PySem.W.kitOne K (.ref (ga K "Table")) (.ref (ga K "Table")) = some true := tkit 25 (a := fun K => .ref (ga K "Table")) (b := fun K => .ref (ga K "Table"))
theorem k_Table_Sizes [T : Tx K mg] : PySem.W.kitOne K (.ref (ga K "Table")) (.ref (ga K "Sizes")) = some false := tkit 26 (a := fun K => .ref (ga K "Table")) (b := fun K => .ref (ga K "Sizes"))
theorem k_Table_Greatest [T : Tx K mg] : PySem.W.kitOne K (.ref (ga K "Table")) (.ref (ga K "Greatest")) = some false := tkit 27 (a := fun K => .ref (ga K "Table")) (b := fun K => .ref (ga K "Greatest"))
theorem k_Table_Book [T : Tx K mg] : PySem.W.kitOne K (.ref (ga K "Table")) (.ref (ga K "Book")) = some false := tkit 28 (a := fun K => .ref (ga K "Table")) (b := fun K => .ref (ga K "Book"))
theorem k_Sizes_Rule [T : Tx K mg] : PySem.W.kitOne K (.ref (ga K "Sizes")) (.ref (ga K "Rule")) = some false := tkit 29 (a := fun K => .ref (ga K "Sizes")) (b := fun K => .ref (ga K "Rule"))
theorem k_Sizes_Fixed [T : Tx K mg] : PySem.W.kitOne K (.ref (ga K "Sizes")) (.ref (ga K "Fixed")) = some false := tkit 30 (a := fun K => .ref (ga K "Sizes")) (b := fun K => .ref (ga K "Fixed"))
theorem k_Sizes_Down [T : Tx K mg] : PySem.W.kitOne K (.ref (ga K "Sizes")) (.ref (ga K "Down")) = some false := tkit 31 (a := fun K => .ref (ga K "Sizes")) (b := fun K => .ref (ga K "Down"))
theorem k_Sizes_Table [T : Tx K mg] : PySem.W.kitOne K (.ref (ga K "Sizes")) (.ref (ga K "Table")) = some false := tkit 32 (a := fun K => .ref (ga K "Sizes")) (b := fun K => .ref (ga K "Table"))
theorem k_Sizes_Sizes [T : Tx K mg] : PySem.W.kitOne K (.ref (ga K "Sizes")) (.ref (ga K "Sizes")) = some true := tkit 33 (a := fun K => .ref (ga K "Sizes")) (b := fun K => .ref (ga K "Sizes"))
theorem k_Sizes_Greatest [T : Tx K mg] : PySem.W.kitOne K (.ref (ga K "Sizes")) (.ref (ga K "Greatest")) = some false := tkit 34 (a := fun K => .ref (ga K "Sizes")) (b := fun K => .ref (ga K "Greatest"))
theorem k_Sizes_Book [T : Tx K mg] : PySem.W.kitOne K (.ref (ga K "Sizes")) (.ref (ga K "Book")) = some false := tkit 35 (a := fun K => .ref (ga K "Sizes")) (b := fun K => .ref (ga K "Book"))
theorem k_Greatest_Rule [T : Tx K mg] : PySem.W.kitOne K (.ref (ga K "Greatest")) (.ref (ga K "Rule")) = some false := tkit 36 (a := fun K => .ref (ga K "Greatest")) (b := fun K => .ref (ga K "Rule"))
theorem k_Greatest_Fixed [T : Tx K mg] : PySem.W.kitOne K (.ref (ga K "Greatest")) (.ref (ga K "Fixed")) = some false := tkit 37 (a := fun K => .ref (ga K "Greatest")) (b := fun K => .ref (ga K "Fixed"))
theorem k_Greatest_Down [T : Tx K mg] : PySem.W.kitOne K (.ref (ga K "Greatest")) (.ref (ga K "Down")) = some false := tkit 38 (a := fun K => .ref (ga K "Greatest")) (b := fun K => .ref (ga K "Down"))
theorem k_Greatest_Table [T : Tx K mg] : PySem.W.kitOne K (.ref (ga K "Greatest")) (.ref (ga K "Table")) = some false := tkit 39 (a := fun K => .ref (ga K "Greatest")) (b := fun K => .ref (ga K "Table"))
theorem k_Greatest_Sizes [T : Tx K mg] : PySem.W.kitOne K (.ref (ga K "Greatest")) (.ref (ga K "Sizes")) = some false := tkit 40 (a := fun K => .ref (ga K "Greatest")) (b := fun K => .ref (ga K "Sizes"))
theorem k_Greatest_Greatest [T : Tx K mg] : PySem.W.kitOne K (.ref (ga K "Greatest")) (.ref (ga K "Greatest")) = some true := tkit 41 (a := fun K => .ref (ga K "Greatest")) (b := fun K => .ref (ga K "Greatest"))
theorem k_Greatest_Book [T : Tx K mg] : PySem.W.kitOne K (.ref (ga K "Greatest")) (.ref (ga K "Book")) = some false := tkit 42 (a := fun K => .ref (ga K "Greatest")) (b := fun K => .ref (ga K "Book"))
theorem k_Book_Rule [T : Tx K mg] : PySem.W.kitOne K (.ref (ga K "Book")) (.ref (ga K "Rule")) = some false := tkit 43 (a := fun K => .ref (ga K "Book")) (b := fun K => .ref (ga K "Rule"))
theorem k_Book_Fixed [T : Tx K mg] : PySem.W.kitOne K (.ref (ga K "Book")) (.ref (ga K "Fixed")) = some false := tkit 44 (a := fun K => .ref (ga K "Book")) (b := fun K => .ref (ga K "Fixed"))
theorem k_Book_Down [T : Tx K mg] : PySem.W.kitOne K (.ref (ga K "Book")) (.ref (ga K "Down")) = some false := tkit 45 (a := fun K => .ref (ga K "Book")) (b := fun K => .ref (ga K "Down"))
theorem k_Book_Table [T : Tx K mg] : PySem.W.kitOne K (.ref (ga K "Book")) (.ref (ga K "Table")) = some false := tkit 46 (a := fun K => .ref (ga K "Book")) (b := fun K => .ref (ga K "Table"))
theorem k_Book_Sizes [T : Tx K mg] : PySem.W.kitOne K (.ref (ga K "Book")) (.ref (ga K "Sizes")) = some false := tkit 47 (a := fun K => .ref (ga K "Book")) (b := fun K => .ref (ga K "Sizes"))
theorem k_Book_Greatest [T : Tx K mg] : PySem.W.kitOne K (.ref (ga K "Book")) (.ref (ga K "Greatest")) = some false := tkit 48 (a := fun K => .ref (ga K "Book")) (b := fun K => .ref (ga K "Greatest"))
theorem k_Book_Book [T : Tx K mg] : PySem.W.kitOne K (.ref (ga K "Book")) (.ref (ga K "Book")) = some true := tkit 49 (a := fun K => .ref (ga K "Book")) (b := fun K => .ref (ga K "Book"))
theorem k_Free_Rule [T : Tx K mg] : PySem.W.kitOne K (.ref (ga K "Free")) (.ref (ga K "Rule")) = some false := tkit 50 (a := fun K => .ref (ga K "Free")) (b := fun K => .ref (ga K "Rule"))
theorem k_Free_Fixed [T : Tx K mg] : PySem.W.kitOne K (.ref (ga K "Free")) (.ref (ga K "Fixed")) = some false := tkit 51 (a := fun K => .ref (ga K "Free")) (b := fun K => .ref (ga K "Fixed"))
theorem k_Free_Down [T : Tx K mg] : PySem.W.kitOne K (.ref (ga K "Free")) (.ref (ga K "Down")) = some false := tkit 52 (a := fun K => .ref (ga K "Free")) (b := fun K => .ref (ga K "Down"))
theorem k_Free_Table [T : Tx K mg] : PySem.W.kitOne K (.ref (ga K "Free")) (.ref (ga K "Table")) = some false := tkit 53 (a := fun K => .ref (ga K "Free")) (b := fun K => .ref (ga K "Table"))
theorem k_Free_Sizes [T : Tx K mg] : PySem.W.kitOne K (.ref (ga K "Free")) (.ref (ga K "Sizes")) = some false := tkit 54 (a := fun K => .ref (ga K "Free")) (b := fun K => .ref (ga K "Sizes"))
theorem k_Free_Greatest [T : Tx K mg] : PySem.W.kitOne K (.ref (ga K "Free")) (.ref (ga K "Greatest")) = some false := tkit 55 (a := fun K => .ref (ga K "Free")) (b := fun K => .ref (ga K "Greatest"))
theorem k_Free_Book [T : Tx K mg] : PySem.W.kitOne K (.ref (ga K "Free")) (.ref (ga K "Book")) = some false := tkit 56 (a := fun K => .ref (ga K "Free")) (b := fun K => .ref (ga K "Book"))
theorem k_Barred_Rule [T : Tx K mg] : PySem.W.kitOne K (.ref (ga K "Barred")) (.ref (ga K "Rule")) = some false := tkit 57 (a := fun K => .ref (ga K "Barred")) (b := fun K => .ref (ga K "Rule"))
theorem k_Barred_Fixed [T : Tx K mg] : PySem.W.kitOne K (.ref (ga K "Barred")) (.ref (ga K "Fixed")) = some false := tkit 58 (a := fun K => .ref (ga K "Barred")) (b := fun K => .ref (ga K "Fixed"))
theorem k_Barred_Down [T : Tx K mg] : PySem.W.kitOne K (.ref (ga K "Barred")) (.ref (ga K "Down")) = some false := tkit 59 (a := fun K => .ref (ga K "Barred")) (b := fun K => .ref (ga K "Down"))
theorem k_Barred_Table [T : Tx K mg] : PySem.W.kitOne K (.ref (ga K "Barred")) (.ref (ga K "Table")) = some false := tkit 60 (a := fun K => .ref (ga K "Barred")) (b := fun K => .ref (ga K "Table"))
theorem k_Barred_Sizes [T : Tx K mg] : PySem.W.kitOne K (.ref (ga K "Barred")) (.ref (ga K "Sizes")) = some false := tkit 61 (a := fun K => .ref (ga K "Barred")) (b := fun K => .ref (ga K "Sizes"))
theorem k_Barred_Greatest [T : Tx K mg] : PySem.W.kitOne K (.ref (ga K "Barred")) (.ref (ga K "Greatest")) = some false := tkit 62 (a := fun K => .ref (ga K "Barred")) (b := fun K => .ref (ga K "Greatest"))
theorem k_Barred_Book [T : Tx K mg] : PySem.W.kitOne K (.ref (ga K "Barred")) (.ref (ga K "Book")) = some false := tkit 63 (a := fun K => .ref (ga K "Barred")) (b := fun K => .ref (ga K "Book"))
theorem k_int_Rule [T : Tx K mg] : PySem.W.kitOne K (.type "int") (.ref (ga K "Rule")) = some false := tkit 64 (a := fun K => .type "int") (b := fun K => .ref (ga K "Rule"))
theorem k_int_Fixed [T : Tx K mg] : PySem.W.kitOne K (.type "int") (.ref (ga K "Fixed")) = some false := tkit 65 (a := fun K => .type "int") (b := fun K => .ref (ga K "Fixed"))
theorem k_int_Down [T : Tx K mg] : PySem.W.kitOne K (.type "int") (.ref (ga K "Down")) = some false := tkit 66 (a := fun K => .type "int") (b := fun K => .ref (ga K "Down"))
theorem k_int_Table [T : Tx K mg] : PySem.W.kitOne K (.type "int") (.ref (ga K "Table")) = some false := tkit 67 (a := fun K => .type "int") (b := fun K => .ref (ga K "Table"))
theorem k_int_Sizes [T : Tx K mg] : PySem.W.kitOne K (.type "int") (.ref (ga K "Sizes")) = some false := tkit 68 (a := fun K => .type "int") (b := fun K => .ref (ga K "Sizes"))
theorem k_int_Greatest [T : Tx K mg] : PySem.W.kitOne K (.type "int") (.ref (ga K "Greatest")) = some false := tkit 69 (a := fun K => .type "int") (b := fun K => .ref (ga K "Greatest"))
theorem k_int_Book [T : Tx K mg] : PySem.W.kitOne K (.type "int") (.ref (ga K "Book")) = some false := tkit 70 (a := fun K => .type "int") (b := fun K => .ref (ga K "Book"))
theorem k_bool_Rule [T : Tx K mg] : PySem.W.kitOne K (.type "bool") (.ref (ga K "Rule")) = some false := tkit 71 (a := fun K => .type "bool") (b := fun K => .ref (ga K "Rule"))
theorem k_bool_Fixed [T : Tx K mg] : PySem.W.kitOne K (.type "bool") (.ref (ga K "Fixed")) = some false := tkit 72 (a := fun K => .type "bool") (b := fun K => .ref (ga K "Fixed"))
theorem k_bool_Down [T : Tx K mg] : PySem.W.kitOne K (.type "bool") (.ref (ga K "Down")) = some false := tkit 73 (a := fun K => .type "bool") (b := fun K => .ref (ga K "Down"))
theorem k_bool_Table [T : Tx K mg] : PySem.W.kitOne K (.type "bool") (.ref (ga K "Table")) = some false := tkit 74 (a := fun K => .type "bool") (b := fun K => .ref (ga K "Table"))
theorem k_bool_Sizes [T : Tx K mg] : PySem.W.kitOne K (.type "bool") (.ref (ga K "Sizes")) = some false := tkit 75 (a := fun K => .type "bool") (b := fun K => .ref (ga K "Sizes"))
theorem k_bool_Greatest [T : Tx K mg] : PySem.W.kitOne K (.type "bool") (.ref (ga K "Greatest")) = some false := tkit 76 (a := fun K => .type "bool") (b := fun K => .ref (ga K "Greatest"))
theorem k_bool_Book [T : Tx K mg] : PySem.W.kitOne K (.type "bool") (.ref (ga K "Book")) = some false := tkit 77 (a := fun K => .type "bool") (b := fun K => .ref (ga K "Book"))
theorem k_str_Rule [T : Tx K mg] : PySem.W.kitOne K (.type "str") (.ref (ga K "Rule")) = some false := tkit 78 (a := fun K => .type "str") (b := fun K => .ref (ga K "Rule"))
theorem k_str_Fixed [T : Tx K mg] : PySem.W.kitOne K (.type "str") (.ref (ga K "Fixed")) = some false := tkit 79 (a := fun K => .type "str") (b := fun K => .ref (ga K "Fixed"))
theorem k_str_Down [T : Tx K mg] : PySem.W.kitOne K (.type "str") (.ref (ga K "Down")) = some false := tkit 80 (a := fun K => .type "str") (b := fun K => .ref (ga K "Down"))
theorem k_str_Table [T : Tx K mg] : PySem.W.kitOne K (.type "str") (.ref (ga K "Table")) = some false := tkit 81 (a := fun K => .type "str") (b := fun K => .ref (ga K "Table"))
theorem k_str_Sizes [T : Tx K mg] : PySem.W.kitOne K (.type "str") (.ref (ga K "Sizes")) = some false := tkit 82 (a := fun K => .type "str") (b := fun K => .ref (ga K "Sizes"))
theorem k_str_Greatest [T : Tx K mg] : PySem.W.kitOne K (.type "str") (.ref (ga K "Greatest")) = some false := tkit 83 (a := fun K => .type "str") (b := fun K => .ref (ga K "Greatest"))
theorem k_str_Book [T : Tx K mg] : PySem.W.kitOne K (.type "str") (.ref (ga K "Book")) = some false := tkit 84 (a := fun K => .type "str") (b := fun K => .ref (ga K "Book"))
theorem k_NoneType_Rule [T : Tx K mg] : PySem.W.kitOne K (.type "NoneType") (.ref (ga K "Rule")) = some false := tkit 85 (a := fun K => .type "NoneType") (b := fun K => .ref (ga K "Rule"))
theorem k_NoneType_Fixed [T : Tx K mg] : PySem.W.kitOne K (.type "NoneType") (.ref (ga K "Fixed")) = some false := tkit 86 (a := fun K => .type "NoneType") (b := fun K => .ref (ga K "Fixed"))
theorem k_NoneType_Down [T : Tx K mg] : PySem.W.kitOne K (.type "NoneType") (.ref (ga K "Down")) = some false := tkit 87 (a := fun K => .type "NoneType") (b := fun K => .ref (ga K "Down"))
theorem k_NoneType_Table [T : Tx K mg] : PySem.W.kitOne K (.type "NoneType") (.ref (ga K "Table")) = some false := tkit 88 (a := fun K => .type "NoneType") (b := fun K => .ref (ga K "Table"))
theorem k_NoneType_Sizes [T : Tx K mg] : PySem.W.kitOne K (.type "NoneType") (.ref (ga K "Sizes")) = some false := tkit 89 (a := fun K => .type "NoneType") (b := fun K => .ref (ga K "Sizes"))
theorem k_NoneType_Greatest [T : Tx K mg] : PySem.W.kitOne K (.type "NoneType") (.ref (ga K "Greatest")) = some false := tkit 90 (a := fun K => .type "NoneType") (b := fun K => .ref (ga K "Greatest"))
theorem k_NoneType_Book [T : Tx K mg] : PySem.W.kitOne K (.type "NoneType") (.ref (ga K "Book")) = some false := tkit 91 (a := fun K => .type "NoneType") (b := fun K => .ref (ga K "Book"))
theorem k_list_Rule [T : Tx K mg] : PySem.W.kitOne K (.type "list") (.ref (ga K "Rule")) = some false := tkit 92 (a := fun K => .type "list") (b := fun K => .ref (ga K "Rule"))
theorem k_list_Fixed [T : Tx K mg] : PySem.W.kitOne K (.type "list") (.ref (ga K "Fixed")) = some false := tkit 93 (a := fun K => .type "list") (b := fun K => .ref (ga K "Fixed"))
theorem k_list_Down [T : Tx K mg] : PySem.W.kitOne K (.type "list") (.ref (ga K "Down")) = some false := tkit 94 (a := fun K => .type "list") (b := fun K => .ref (ga K "Down"))
theorem k_list_Table [T : Tx K mg] : PySem.W.kitOne K (.type "list") (.ref (ga K "Table")) = some false := tkit 95 (a := fun K => .type "list") (b := fun K => .ref (ga K "Table"))
theorem k_list_Sizes [T : Tx K mg] : PySem.W.kitOne K (.type "list") (.ref (ga K "Sizes")) = some false := tkit 96 (a := fun K => .type "list") (b := fun K => .ref (ga K "Sizes"))
theorem k_list_Greatest [T : Tx K mg] : PySem.W.kitOne K (.type "list") (.ref (ga K "Greatest")) = some false := tkit 97 (a := fun K => .type "list") (b := fun K => .ref (ga K "Greatest"))
theorem k_list_Book [T : Tx K mg] : PySem.W.kitOne K (.type "list") (.ref (ga K "Book")) = some false := tkit 98 (a := fun K => .type "list") (b := fun K => .ref (ga K "Book"))
theorem k_tuple_Rule [T : Tx K mg] : PySem.W.kitOne K (.type "tuple") (.ref (ga K "Rule")) = some false := tkit 99 (a := fun K => .type "tuple") (b := fun K => .ref (ga K "Rule"))
theorem k_tuple_Fixed [T : Tx K mg] : PySem.W.kitOne K (.type "tuple") (.ref (ga K "Fixed")) = some false := tkit 100 (a := fun K => .type "tuple") (b := fun K => .ref (ga K "Fixed"))
theorem k_tuple_Down [T : Tx K mg] : PySem.W.kitOne K (.type "tuple") (.ref (ga K "Down")) = some false := tkit 101 (a := fun K => .type "tuple") (b := fun K => .ref (ga K "Down"))
theorem k_tuple_Table [T : Tx K mg] : PySem.W.kitOne K (.type "tuple") (.ref (ga K "Table")) = some false := tkit 102 (a := fun K => .type "tuple") (b := fun K => .ref (ga K "Table"))
theorem k_tuple_Sizes [T : Tx K mg] : PySem.W.kitOne K (.type "tuple") (.ref (ga K "Sizes")) = some false := tkit 103 (a := fun K => .type "tuple") (b := fun K => .ref (ga K "Sizes"))
theorem k_tuple_Greatest [T : Tx K mg] : PySem.W.kitOne K (.type "tuple") (.ref (ga K "Greatest")) = some false := tkit 104 (a := fun K => .type "tuple") (b := fun K => .ref (ga K "Greatest"))
theorem k_tuple_Book [T : Tx K mg] : PySem.W.kitOne K (.type "tuple") (.ref (ga K "Book")) = some false := tkit 105 (a := fun K => .type "tuple") (b := fun K => .ref (ga K "Book"))
theorem k_Fixed_tuple [T : Tx K mg] : PySem.W.kitOne K (.ref (ga K "Fixed")) (.type "tuple") = some false := tkit 106 (a := fun K => .ref (ga K "Fixed")) (b := fun K => .type "tuple")
theorem k_Fixed_list [T : Tx K mg] : PySem.W.kitOne K (.ref (ga K "Fixed")) (.type "list") = some false := tkit 107 (a := fun K => .ref (ga K "Fixed")) (b := fun K => .type "list")
theorem k_Fixed_int [T : Tx K mg] : PySem.W.kitOne K (.ref (ga K "Fixed")) (.type "int") = some false := tkit 108 (a := fun K => .ref (ga K "Fixed")) (b := fun K => .type "int")
theorem k_Fixed_bool [T : Tx K mg] : PySem.W.kitOne K (.ref (ga K "Fixed")) (.type "bool") = some false := tkit 109 (a := fun K => .ref (ga K "Fixed")) (b := fun K => .type "bool")
theorem k_Down_tuple [T : Tx K mg] : PySem.W.kitOne K (.ref (ga K "Down")) (.type "tuple") = some false := tkit 110 (a := fun K => .ref (ga K "Down")) (b := fun K => .type "tuple")
theorem k_Down_list [T : Tx K mg] : PySem.W.kitOne K (.ref (ga K "Down")) (.type "list") = some false := tkit 111 (a := fun K => .ref (ga K "Down")) (b := fun K => .type "list")
theorem k_Down_int [T : Tx K mg] : PySem.W.kitOne K (.ref (ga K "Down")) (.type "int") = some false := tkit 112 (a := fun K => .ref (ga K "Down")) (b := fun K => .type "int")
theorem k_Down_bool [T : Tx K mg] : PySem.W.kitOne K (.ref (ga K "Down")) (.type "bool") = some false := tkit 113 (a := fun K => .ref (ga K "Down")) (b := fun K => .type "bool")
theorem k_Table_tuple [T : Tx K mg] : PySem.W.kitOne K (.ref (ga K "Table")) (.type "tuple") = some false := tkit 114 (a := fun K => .ref (ga K "Table")) (b := fun K => .type "tuple")
theorem k_Table_list [T : Tx K mg] : PySem.W.kitOne K (.ref (ga K "Table")) (.type "list") = some false := tkit 115 (a := fun K => .ref (ga K "Table")) (b := fun K => .type "list")
theorem k_Table_int [T : Tx K mg] : PySem.W.kitOne K (.ref (ga K "Table")) (.type "int") = some false := tkit 116 (a := fun K => .ref (ga K "Table")) (b := fun K => .type "int")
theorem k_Table_bool [T : Tx K mg] : PySem.W.kitOne K (.ref (ga K "Table")) (.type "bool") = some false := tkit 117 (a := fun K => .ref (ga K "Table")) (b := fun K => .type "bool")
theorem k_Sizes_tuple [T : Tx K mg] : PySem.W.kitOne K (.ref (ga K "Sizes")) (.type "tuple") = some false := tkit 118 (a := fun K => .ref (ga K "Sizes")) (b := fun K => .type "tuple")
theorem k_Sizes_list [T : Tx K mg] : PySem.W.kitOne K (.ref (ga K "Sizes")) (.type "list") = some false := tkit 119 (a := fun K => .ref (ga K "Sizes")) (b := fun K => .type "list")
theorem k_Sizes_int [T : Tx K mg] : PySem.W.kitOne K (.ref (ga K "Sizes")) (.type "int") = some false := tkit 120 (a := fun K => .ref (ga K "Sizes")) (b := fun K => .type "int")
theorem k_Sizes_bool [T : Tx K mg] : PySem.W.kitOne K (.ref (ga K "Sizes")) (.type "bool") = some false := tkit 121 (a := fun K => .ref (ga K "Sizes")) (b := fun K => .type "bool")
theorem k_Greatest_tuple [T : Tx K mg] : PySem.W.kitOne K (.ref (ga K "Greatest")) (.type "tuple") = some false := tkit 122 (a := fun K => .ref (ga K "Greatest")) (b := fun K => .type "tuple")
theorem k_Greatest_list [T : Tx K mg] : PySem.W.kitOne K (.ref (ga K "Greatest")) (.type "list") = some false := tkit 123 (a := fun K => .ref (ga K "Greatest")) (b := fun K => .type "list")
theorem k_Greatest_int [T : Tx K mg] : PySem.W.kitOne K (.ref (ga K "Greatest")) (.type "int") = some false := tkit 124 (a := fun K => .ref (ga K "Greatest")) (b := fun K => .type "int")
theorem k_Greatest_bool [T : Tx K mg] : PySem.W.kitOne K (.ref (ga K "Greatest")) (.type "bool") = some false := tkit 125 (a := fun K => .ref (ga K "Greatest")) (b := fun K => .type "bool")
theorem k_Book_tuple [T : Tx K mg] : PySem.W.kitOne K (.ref (ga K "Book")) (.type "tuple") = some false := tkit 126 (a := fun K => .ref (ga K "Book")) (b := fun K => .type "tuple")
theorem k_Book_list [T : Tx K mg] : PySem.W.kitOne K (.ref (ga K "Book")) (.type "list") = some false := tkit 127 (a := fun K => .ref (ga K "Book")) (b := fun K => .type "list")
theorem k_Book_int [T : Tx K mg] : PySem.W.kitOne K (.ref (ga K "Book")) (.type "int") = some false := tkit 128 (a := fun K => .ref (ga K "Book")) (b := fun K => .type "int")
theorem k_Book_bool [T : Tx K mg] : PySem.W.kitOne K (.ref (ga K "Book")) (.type "bool") = some false := tkit 129 (a := fun K => .ref (ga K "Book")) (b := fun K => .type "bool")
theorem k_Free_tuple [T : Tx K mg] : PySem.W.kitOne K (.ref (ga K "Free")) (.type "tuple") = some false := tkit 130 (a := fun K => .ref (ga K "Free")) (b := fun K => .type "tuple")
theorem k_Free_list [T : Tx K mg] : PySem.W.kitOne K (.ref (ga K "Free")) (.type "list") = some false := tkit 131 (a := fun K => .ref (ga K "Free")) (b := fun K => .type "list")
theorem k_Free_int [T : Tx K mg] : PySem.W.kitOne K (.ref (ga K "Free")) (.type "int") = some false := tkit 132 (a := fun K => .ref (ga K "Free")) (b := fun K => .type "int")
theorem k_Free_bool [T : Tx K mg] : PySem.W.kitOne K (.ref (ga K "Free")) (.type "bool") = some false := tkit 133 (a := fun K => .ref (ga K "Free")) (b := fun K => .type "bool")
theorem k_Barred_tuple [T : Tx K mg] : PySem.W.kitOne K (.ref (ga K "Barred")) (.type "tuple") = some false := tkit 134 (a := fun K => .ref (ga K "Barred")) (b := fun K => .type "tuple")
theorem k_Barred_list [T : Tx K mg] : PySem.W.kitOne K (.ref (ga K "Barred")) (.type "list") = some false := tkit 135 (a := fun K => .ref (ga K "Barred")) (b := fun K => .type "list")
theorem k_Barred_int [T : Tx K mg] : PySem.W.kitOne K (.ref (ga K "Barred")) (.type "int") = some false := tkit 136 (a := fun K => .ref (ga K "Barred")) (b := fun K => .type "int")
theorem k_Barred_bool [T : Tx K mg] : PySem.W.kitOne K (.ref (ga K "Barred")) (.type "bool") = some false := tkit 137 (a := fun K => .ref (ga K "Barred")) (b := fun K => .type "bool")
theorem k_BadRule_BadRule [T : Tx K mg] : PySem.W.kitOne K (.ref (ga K "BadRule")) (.ref (ga K "BadRule")) = some true := tkit 138 (a := fun K => .ref (ga K "BadRule")) (b := fun K => .ref (ga K "BadRule"))
theorem k_BadRule_TooMany [T : Tx K mg] : PySem.W.kitOne K (.ref (ga K "BadRule")) (.ref (ga K "TooMany")) = some false := tkit 139 (a := fun K => .ref (ga K "BadRule")) (b := fun K => .ref (ga K "TooMany"))
theorem k_BadRule_ValueError [T : Tx K mg] : PySem.W.kitOne K (.ref (ga K "BadRule")) (.type "ValueError") = some true := tkit 140 (a := fun K => .ref (ga K "BadRule")) (b := fun K => .type "ValueError")
theorem k_TooMany_BadRule [T : Tx K mg] : PySem.W.kitOne K (.ref (ga K "TooMany")) (.ref (ga K "BadRule")) = some false := tkit 141 (a := fun K => .ref (ga K "TooMany")) (b := fun K => .ref (ga K "BadRule"))
theorem k_TooMany_TooMany [T : Tx K mg] : PySem.W.kitOne K (.ref (ga K "TooMany")) (.ref (ga K "TooMany")) = some true := tkit 142 (a := fun K => .ref (ga K "TooMany")) (b := fun K => .ref (ga K "TooMany"))
theorem k_TooMany_ValueError [T : Tx K mg] : PySem.W.kitOne K (.ref (ga K "TooMany")) (.type "ValueError") = some true := tkit 143 (a := fun K => .ref (ga K "TooMany")) (b := fun K => .type "ValueError")
theorem tsu [T : Tx K mg] : suB K = true := (ba T.ex).2
theorem tsup [T : Tx K mg] (i : Nat) {d : SupD} (h : supL[i]? = some d) : SupF K (d.at_ K) (ga K d.cls) d.qual d.params d.body d.scope := by
  refine SupD.supF ?_ (List.all_eq_true.mp (ba tsu).1 d (List.mem_of_getElem? h))
  have e := List.cons.inj (show He5.fnA K (a_Book_of.at_ K) :: (supL.map fun d => fnS K (d.at_ K)) = a_Book_of.val :: supL.map SupD.val from T.lk)
  have e2 := congrArg (fun l => l[i]?) e.2
  simp only [List.getElem?_map, h, Option.map_some] at e2
  exact Option.some.inj e2
theorem f_Book_of [T : Tx K mg] : ∃ fd, FunD K "of" "Book.of" (defArgs s_Book_of) (defBody s_Book_of) (defScope s_Book_of) [] [] (He5.wf K (ga K "Book") "classmethod" "of") fd :=
  He5.DefA.funD (d := a_Book_of) (List.cons.inj (show He5.fnA K (a_Book_of.at_ K) :: (supL.map fun d => fnS K (d.at_ K)) = a_Book_of.val :: supL.map SupD.val from T.lk)).1 (ba (ba tsu).2).1
theorem u_Barred [T : Tx K mg] : SupF K (ma K (ga K "Barred") "__init__") (ga K "Barred") "Barred.__init__" (defArgs s_Barred_init) (defBody s_Barred_init) (defScope s_Barred_init) := tsup 0 (d := u_Barred_init) rfl
theorem u_BadRule [T : Tx K mg] : SupF K (ma K (ga K "BadRule") "__init__") (ga K "BadRule") "BadRule.__init__" (defArgs s_BadRule_init) (defBody s_BadRule_init) (defScope s_BadRule_init) := tsup 1 (d := u_BadRule_init) rfl
theorem u_TooMany [T : Tx K mg] : SupF K (ma K (ga K "TooMany") "__init__") (ga K "TooMany") "TooMany.__init__" (defArgs s_TooMany_init) (defBody s_TooMany_init) (defScope s_TooMany_init) := tsup 2 (d := u_TooMany_init) rfl
theorem x_BadRule [T : Tx K mg] : XcF K (ga K "BadRule") ["part"] := xcB_ok (ba (ba (ba tsu).2).2).1
theorem x_TooMany [T : Tx K mg] : XcF K (ga K "TooMany") ["what", "most"] := xcB_ok (ba (ba (ba (ba tsu).2).2).2).1
theorem b_Barred [T : Tx K mg] : PySem.W.ks_superIn K (ga K "Barred") (ga K "Barred") "__init__" = some (some (.ref (ma K (ga K "FreeAnswer") "__init__"))) ∧ PySem.W.typeIn K (.ref (ma K (ga K "FreeAnswer") "__init__")) = some (.type "function") ∧ PySem.W.fnIn K (ma K (ga K "FreeAnswer") "__init__") = true ∧ PySem.W.mroIn K (ga K "Barred") (.ref (ga K "Barred")) = some true := by
  have h : barB0 K = true := (ba (ba (ba (ba (ba tsu).2).2).2).2).1
  obtain ⟨h1, h⟩ := ba h
  obtain ⟨h2, h⟩ := ba h
  obtain ⟨h3, h4⟩ := ba h
  exact ⟨eqO_ok h1, of_decide_eq_true h2, h3, of_decide_eq_true h4⟩
theorem t_third [T : Tx K mg] : PySem.W.nsIn K cStatics "thirdparty.any" = some none := eqO_ok (ba (ba (ba (ba (ba tsu).2).2).2).2).2
end
end Fk
set_option maxRecDepth 100000
set_option maxHeartbeats 0
namespace Fk
open PySem PySem.Spec PyProof.Rows L2 He
/-! ### the part of the heap that is looked at -/
def valR : Obj → List Addr
  | ⟨_, _, .dict es _, _⟩ => es.toList.flatMap fun e => refV e.val
  | ⟨_, _, .fields vs, _⟩ => vs.toList.flatMap refV
  | ⟨_, _, .seq vs _, _⟩ => vs.toList.flatMap refV
  | _ => []
def upR : Obj → List Addr
  | ⟨_, _, .func fd, _⟩ => refV fd.code ++ refV fd.defaults
  | ⟨_, _, .cls cd, _⟩ => [cd.ns]
  | _ => []
def at1 (g : Addr → Option Obj) (f : Obj → List Addr) (a : Addr) : List Addr := match g a with
  | some o => f o
  | none => []
/-- a class's own names: of its namespace, then of what stands there -/
def clsR (g : Addr → Option Obj) (a : Addr) : List Addr := match g a with
  | some ⟨_, _, .cls cd, _⟩ => cd.ns :: (at1 g valR cd.ns).flatMap fun b => b :: at1 g (fun o => match o with
    | ⟨_, _, .func fd, _⟩ => refV fd.code ++ refV fd.defaults ++ fd.closure.map Prod.snd
    | ⟨_, _, .fields vs, _⟩ => (vs.toList.flatMap refV).flatMap fun c => c :: at1 g upR c
    | _ => []) b
  | some ⟨_, _, .func fd, _⟩ => refV fd.code ++ refV fd.defaults
  | _ => []
def asF (g : Addr → Option Obj) : List Addr := cStatics :: mainGlobals :: (at1 g valR mainGlobals).flatMap fun a => a :: clsR g a
def frL {α : Type} : PySem.W.Frag → (PySem.W.Frag → α) → α
  | [], k => k []
  | (a, o) :: r, k => HandSHeadRun.frNat a fun a => frL r fun r' => k ((a, o) :: r')
theorem frL_eq {α : Type} : ∀ (l : PySem.W.Frag) (k : PySem.W.Frag → α), frL l k = k l
  | [], _ => rfl
  | (a, o) :: r, k => by
    unfold frL
    rw [HandSHeadRun.frNat_eq, frL_eq r]
end Fk
set_option maxRecDepth 100000
set_option maxHeartbeats 0
namespace Fk
open PySem PySem.Spec PyProof.Rows L2 He
def loose0 : List PySem.Str := ["_wall", "FreeError", "BadRule", "BadBook", "BadSize", "BadTable", "BadSizes", "BadNumber", "NoTake", "TooMany", "BadText", "MOST_HEAP", "is_integer", "is_heap", "need_heap", "common_multiple", "MOST_NUMBER", "MOST_MODULUS", "FIGURES_rules", "need_part", "number_in", "rest_in", "leave_in", "rule_in", "rest_text", "Rule", "Rested", "Sized", "Fixed", "Down"]
def loose1 : List PySem.Str := ["FreeAnswer", "Free", "Barred", "is_barred", "settled_from", "bars", "free", "is_free", "MOST_PARTS", "MOST_WORTH", "FIRST_BOUND", "FIGURES_tables", "are_worths", "shortest_turn", "least_form", "worth_in", "rows_in", "Table", "least_missing", "grown", "begin_of", "table_in", "table_of", "MOST_SIZES", "BOTH", "EITHER", "ONE_ALONE", "JUST_ONE", "are_bools", "bools_in"]
def loose2 : List PySem.Str := ["figures_of", "joined", "Sizes", "MOST_HEAPS", "whole_asked", "is_unbarred", "free_sizes", "is_pair", "far_worth", "is_like", "has_fixed", "has_down", "like_below", "Greatest", "MOST_RULES", "MOST_COMMON", "common_modulus", "in_order", "rules_of", "Book", "_law_pen", "_law_draw", "_law_pick", "_law_table", "_law_worth", "_law_real", "_law_whole", "_law_rules", "_law_rule", "_law_is_free"]
def loose3 : List PySem.Str := ["_law_great_rule", "_law_heard", "_law_refused_right"]
def loose : List PySem.Str := loose0 ++ loose1 ++ loose2 ++ loose3
abbrev R : PySem.W.OpenRow := PySem.W.OpenLaw.row PySem.Challenge.rw_freetakes_k46_whole_rules_of_the_greates
def tfL : List Defn := [("_law_refused_right", none)]
abbrev AlF : Type := Bool × List FnW
def obsK (g : Addr → Option Obj) (K : PySem.W.Frag) : AlF := (((faL.all fun f => f.ok K) && fnL.all fun d => d.ok K) && (exB K && tabsB g tfL K), (fnL.map fun d => fnW K d.at_) ++ lkS K)
def obsF (g : Addr → Option Obj) : AlF := frL (frT g (asF g)) fun K => obsK g K
def valF : AlF := (true, fnL.map DefD.val ++ lkV)
structure SaysF (h : Heap) (K : PySem.W.Frag) : Prop where
  d : SaysD faL fnL K
  x : exB K = true
  l : lkS K = lkV
  hd : PySem.W.codeHdIn K (cT K ("_law_refused_right", none)).1 (cT K ("_law_refused_right", none)).2 = true
  out : K.lookup (cT K ("_law_refused_right", none)).2 = none
  empty : h.get? (cT K ("_law_refused_right", none)).2 = some { cls := .none, data := .fields #[] }
theorem saysK {h : Heap} {as : List Addr} {K : PySem.W.Frag} (hK : K = frT h.get? as) (e : obsK h.get? K = valF) : SaysF h K := by
  unfold obsK valF at e
  obtain ⟨e1, e2⟩ := Prod.mk.inj e
  obtain ⟨h1, h2⟩ := ba e1
  obtain ⟨h3, h4⟩ := ba h2
  obtain ⟨h5, h6⟩ := ba (List.all_eq_true.mp h4 ("_law_refused_right", none) (List.mem_singleton.mpr rfl))
  have e3 := List.append_inj e2 (by rw [List.length_map, List.length_map])
  refine ⟨?_, h3, e3.2, h5, ?_, ?_⟩
  · unfold SaysD obsD valD
    rw [h1, e3.1]
  · cases q : h.get? (cT K ("_law_refused_right", none)).2 with
    | none =>
      rw [q] at h6
      cases h6
    | some o =>
      rw [q] at h6
      rw [hK] at q ⊢
      exact frT_none q h6
  · cases q : h.get? (cT K ("_law_refused_right", none)).2 with
    | none =>
      rw [q] at h6
      cases h6
    | some o =>
      rw [q] at h6
      rw [emptyTab_eq h6]
def hk : PySem.W.Hook where
  α := AlF
  obs := fun s => obsF s.heap.get?
  val := fun _ => valF
  says := fun _ h => ∃ K : PySem.W.Frag, K.In h ∧ SaysF h K
  of := fun _ s e => ⟨_, frT_in, saysK rfl ((frL_eq _ _).symm.trans e)⟩
  keeps := fun _ _ _ ⟨K, hK, c⟩ k => ⟨K, PySem.W.Frag.In.keeps hK k, ⟨c.d, c.x, c.l, c.hd, c.out, k _ _ c.empty⟩⟩
def ob (s : PySem.W.SharedT) : AlF := obsF (HandSHeadRun.getT s)
theorem ob_eq (s : PySem.W.SharedT) : ob s = hk.obs s.abs := by
  have e : HandSHeadRun.getT s = s.abs.heap.get? := funext (HandSHeadRun.getT_eq s)
  show obsF _ = obsF _
  rw [e]
/-! ### the run in parts -/
abbrev qv : Program := PySem.W.view R.prog [103]
noncomputable abbrev runM (w : World) (os : OsState) : Option PySem.W.SharedT := HandSHeadRun.endF (HandSHeadRun.stepQ (HandSHeadRun.denQ HandSHeadRun.tabQ) R.prog w) 12000 R.prog w os
abbrev lookK {α : Type} (s : PySem.W.SharedT) (f : PySem.W.Frag → α) : α := frL (frT (HandSHeadRun.getT s) (asF (HandSHeadRun.getT s))) f
end Fk
set_option maxRecDepth 100000
set_option maxHeartbeats 0
namespace Fk
open PySem PySem.W PySem.Calls L2 He
theorem run1 (w : World) (os : OsState) : (runM w os).map (fun s => (HandSHeadRun.looksF R.prog (boot_heap w.params) s.abs, HandSHeadRun.seenQ qv loose (importedModules R.prog.main.body) (fun s => xlAt qv [] s && recOk R.toRowW.records s) s.abs)) = some (true, openGood qv loose) := by
  kernel_rfl
end Fk
set_option maxRecDepth 100000
set_option maxHeartbeats 0
namespace Fk
open PySem PySem.W PySem.Calls L2 He
theorem run2 (w : World) (os : OsState) : (runM w os).map (fun s => lookK s fun K => faL.all fun f => f.ok K) = some true := by
  kernel_rfl
end Fk
set_option maxRecDepth 100000
set_option maxHeartbeats 0
namespace Fk
open PySem PySem.W PySem.Calls L2 He
theorem run3 (w : World) (os : OsState) : (runM w os).map (fun s => lookK s fun K => fnL.all fun d => d.ok K) = some true := by
  kernel_rfl
end Fk
set_option maxRecDepth 100000
set_option maxHeartbeats 0
namespace Fk
open PySem PySem.W PySem.Calls L2 He
theorem run4 (w : World) (os : OsState) : (runM w os).map (fun s => lookK s fun K => (exB K && tabsB (HandSHeadRun.getT s) tfL K, (fnL.map fun d => fnW K d.at_) ++ lkS K)) = some (true, fnL.map DefD.val ++ lkV) := by
  kernel_rfl
end Fk
set_option maxRecDepth 100000
set_option maxHeartbeats 2000000
namespace Fk
open PySem PySem.Spec PyProof.Rows L2 Evl
section
variable {P : Program} {w : World} {K : PySem.W.Frag} {mg : Str → Option Value} {base : Heap}
/-- a value that is told -/
def Gives (T : V → Hp → Prop) (H : Hp) (v : V) : Prop := ∀ H', Ex H H' → T v H'
theorem Gives.me {H : Hp} {v : V} : Gives (fun u _ => u = v) H v := fun _ _ => rfl
/-! ### checks -/
def R_is_integer : List V → Hp → (V → Hp → Prop) → Prop := fun vs H T => ∃ v l m : Int, vs = [.int v, .int l, .int m] ∧ Gives T H (.bl (decide (l ≤ v) && decide (v ≤ m)))
theorem cl_is_integer [T : Tx K mg] : Cl P w K mg base 1 "is_integer" (spR R_is_integer) := by
  obtain ⟨fd, F⟩ := f_is_integer (K := K) (mg := mg)
  refine ⟨⟨_, FnOk.raw0 (ok_fn F sc_is_integer ?_ ?_) (F.bindsN fun _ _ _ _ _ _ us hl => match us, hl with | [_, _, _], _ => rfl), tglo "is_integer", F.kp⟩⟩
  · rintro vs H T ⟨v, l, m, rfl, _⟩
    rfl
  · rintro X vs H T D B _ ⟨v, l, m, rfl, h⟩ hr _
    refine ss_ret (EE.is (ee_and (ee_isi (tfre "isinstance") (ee_var 0) (ee_ty (tfre "int")) (.ty _) (.base (.int _)) (y := true) (kit_ty (by decide +kernel)))
      fun _ => ee_and (ee_not (ee_isi (tfre "isinstance") (ee_var 0) (ee_ty (tfre "bool")) (.ty _) (.base (.int _)) (y := false) (kit_ty (by decide +kernel)))) fun _ => ee_one (ee_lele (ee_var 1) (ee_var 0) (ee_var 2))) ?_) fun H1 e1 => hr _ _ e1 (h _ e1)
    rfl
end
end Fk
set_option maxRecDepth 100000
set_option maxHeartbeats 2000000
namespace Fk
open PySem PySem.Spec PyProof.Rows L2 Evl He
/-! ### the objects -/
/-- a rule: the size or the heap left, rest, modulus, leave -/
inductive Rl where
  | fixed (n r m l : Int)
  | down (n r m : Int)
  deriving DecidableEq
def Rl.n : Rl → Int
  | .fixed n _ _ _ => n
  | .down n _ _ => n
def Rl.r : Rl → Int
  | .fixed _ r _ _ => r
  | .down _ r _ => r
def Rl.m : Rl → Int
  | .fixed _ _ m _ => m
  | .down _ _ m => m
def Rl.l : Rl → Int
  | .fixed _ _ _ l => l
  | .down _ _ _ => 0
def Rl.start : Rl → Int
  | .fixed n _ _ l => n + l
  | .down n _ _ => n + 1
/-- within the bounds that the constructors ask -/
def Rl.ok : Rl → Prop
  | .fixed n r m l => 1 ≤ n ∧ n ≤ 400 ∧ 0 ≤ l ∧ l ≤ 400 ∧ 1 ≤ m ∧ m ≤ 6 ∧ 0 ≤ r ∧ r < m
  | .down n r m => 0 ≤ n ∧ n ≤ 400 ∧ 1 ≤ m ∧ m ≤ 6 ∧ 0 ≤ r ∧ r < m
def Rl.cls : Rl → Str
  | .fixed _ _ _ _ => "Fixed"
  | .down _ _ _ => "Down"
def Rl.fs : Rl → List (Str × V)
  | .fixed n r m l => [("size", .int n), ("leave", .int l), ("rest", .int r), ("modulus", .int m), ("start", .int (n + l)), ("reach", .int n)]
  | .down n r m => [("rest", .int r), ("modulus", .int m), ("to", .int n), ("start", .int (n + 1)), ("reach", .int 0)]
/-- an instance with these attributes -/
def InsAt (K : PySem.W.Frag) (C : Str) (fs : List (Str × V)) (v : V) (H : Hp) : Prop := ∃ a dx, v = .ref a ∧ H a = some (.ins (ga K C) dx fs)
theorem InsAt.up {K : PySem.W.Frag} {C : Str} {fs : List (Str × V)} {v : V} {H H' : Hp} (h : InsAt K C fs v H) (e : Ex H H') : InsAt K C fs v H' := by
  obtain ⟨a, dx, h1, h2⟩ := h
  exact ⟨a, dx, h1, e _ _ h2⟩
def RlAt (K : PySem.W.Frag) (r : Rl) (v : V) (H : Hp) : Prop := r.ok ∧ InsAt K r.cls r.fs v H
theorem RlAt.up {K : PySem.W.Frag} {r : Rl} {v : V} {H H' : Hp} (h : RlAt K r v H) (e : Ex H H') : RlAt K r v H' := ⟨h.1, h.2.up e⟩
/-- a table: begin, period, the numbers -/
structure Tb where
  b : Int
  p : Int
  ns : List Int
structure Tb.ok (t : Tb) : Prop where
  hb : 0 ≤ t.b
  hp : 1 ≤ t.p
  len : (t.ns.length : Int) = t.b + t.p
  most : t.b + t.p ≤ 1000
/-- the worth of a heap -/
def Tb.w (t : Tb) (h : Int) : Int := if h < t.b then t.ns.getD h.toNat 0 else t.ns.getD (t.b + (h - t.b) % t.p).toNat 0
def TbAt (K : PySem.W.Frag) (t : Tb) (v : V) (H : Hp) : Prop := t.ok ∧ ∃ N, H N = some (.tup (t.ns.map V.int)) ∧ InsAt K "Table" [("begin", .int t.b), ("period", .int t.p), ("numbers", .ref N)] v H
theorem TbAt.up {K : PySem.W.Frag} {t : Tb} {v : V} {H H' : Hp} (h : TbAt K t v H) (e : Ex H H') : TbAt K t v H' := by
  obtain ⟨h0, N, h1, h2⟩ := h
  exact ⟨h0, N, e _ _ h1, h2.up e⟩
theorem atI_ints {ns : List Int} {i : Int} (h0 : 0 ≤ i) (h1 : i < ns.length) : atI (ns.map V.int) i = some (.int (ns.getD i.toNat 0)) := by
  obtain ⟨j, rfl⟩ := Int.eq_ofNat_of_zero_le h0
  have hj : j < ns.length := by omega
  refine atI_nat ?_
  rw [List.getElem?_map, List.getElem?_eq_getElem hj]
  simp [List.getD, hj]
end Fk
set_option maxRecDepth 100000
set_option maxHeartbeats 2000000
namespace Fk
open PySem PySem.Spec PyProof.Rows L2 Evl He
section
variable {P : Program} {w : World} {K : PySem.W.Frag} {mg : Str → Option Value} {base : Heap}
/-! ### checks of heaps -/
def HeapZ (h : Int) : Prop := 0 ≤ h ∧ h ≤ 10 ^ 30
def R_heap : List V → Hp → (V → Hp → Prop) → Prop := fun vs H T => ∃ h : Int, vs = [.int h] ∧ HeapZ h ∧ Gives T H (.bl true)
theorem cl_is_heap [T : Tx K mg] : Cl P w K mg base 2 "is_heap" (spR R_heap) := by
  obtain ⟨fd, F⟩ := f_is_heap (K := K) (mg := mg)
  refine ⟨⟨_, FnOk.raw0 (ok_fn F sc_is_heap ?_ ?_) (F.bindsN fun _ _ _ _ _ _ us hl => match us, hl with | [_], _ => rfl), tglo "is_heap", F.kp⟩⟩
  · rintro vs H T ⟨h, rfl, _⟩
    rfl
  · rintro X vs H T D B _ ⟨h, rfl, hz, ht⟩ hr _
    refine ss_ret (ee_call cl_is_integer (ea_cons (ee_var 0) (ea_cons ee_int (ea_cons (ee_num (tint "MOST_HEAP" (10 ^ 30))) ea_nil))) fun H1 _ => ⟨h, 0, 10 ^ 30, rfl, ?_⟩) fun H1 e1 => hr (.bl true) _ e1 (ht _ e1)
    rw [decide_eq_true hz.1, decide_eq_true hz.2]
    exact Gives.me
def R_need_heap : List V → Hp → (V → Hp → Prop) → Prop := fun vs H T => ∃ h : Int, vs = [.int h] ∧ HeapZ h ∧ Gives T H .non
theorem cl_need_heap [T : Tx K mg] : Cl P w K mg base 3 "need_heap" (spR R_need_heap) := by
  obtain ⟨fd, F⟩ := f_need_heap (K := K) (mg := mg)
  refine ⟨⟨_, FnOk.raw0 (ok_fn F sc_need_heap ?_ ?_) (F.bindsN fun _ _ _ _ _ _ us hl => match us, hl with | [_], _ => rfl), tglo "need_heap", F.kp⟩⟩
  · rintro vs H T ⟨h, rfl, _⟩
    rfl
  · rintro X vs H T D B _ ⟨h, rfl, hz, ht⟩ _ hr
    exact ss_skip (et_not (et_val (ee_call (v := .bl true) cl_is_heap (ea_cons (ee_var 0) ea_nil) fun H1 _ => ⟨h, rfl, hz, Gives.me⟩))) (ss_nil fun H1 e1 => hr _ _ e1 (ht _ e1))
/-- the least common multiple -/
def lcmZ (a b : Int) : Int := (Nat.lcm a.toNat b.toNat : Nat)
theorem lcmZ_pos {a b : Int} (ha : 1 ≤ a) (hb : 1 ≤ b) : 1 ≤ lcmZ a b := by
  have : 0 < Nat.lcm a.toNat b.toNat := Nat.lcm_pos (by omega) (by omega)
  unfold lcmZ
  omega
theorem lcmZ_left {a b : Int} (ha : 1 ≤ a) : a ∣ lcmZ a b := by
  have h : ((a.toNat : Nat) : Int) ∣ lcmZ a b := Int.natCast_dvd_natCast.mpr (Nat.dvd_lcm_left _ _)
  rwa [Int.toNat_of_nonneg (by omega)] at h
theorem lcmZ_right {a b : Int} (hb : 1 ≤ b) : b ∣ lcmZ a b := by
  have h : ((b.toNat : Nat) : Int) ∣ lcmZ a b := Int.natCast_dvd_natCast.mpr (Nat.dvd_lcm_right _ _)
  rwa [Int.toNat_of_nonneg (by omega)] at h
theorem lcmZ_le {a b c : Int} (ha : 1 ≤ a) (hb : 1 ≤ b) (hc : 1 ≤ c) (h1 : a ∣ c) (h2 : b ∣ c) : lcmZ a b ≤ c := by
  have e1 : a.toNat ∣ c.toNat := by
    have : ((a.toNat : Nat) : Int) ∣ ((c.toNat : Nat) : Int) := by rwa [Int.toNat_of_nonneg (by omega), Int.toNat_of_nonneg (by omega)]
    exact Int.natCast_dvd_natCast.mp this
  have e2 : b.toNat ∣ c.toNat := by
    have : ((b.toNat : Nat) : Int) ∣ ((c.toNat : Nat) : Int) := by rwa [Int.toNat_of_nonneg (by omega), Int.toNat_of_nonneg (by omega)]
    exact Int.natCast_dvd_natCast.mp this
  have := Nat.le_of_dvd (by omega) (Nat.lcm_dvd e1 e2)
  unfold lcmZ
  omega
theorem lcmZ_le_mul {a b : Int} (ha : 1 ≤ a) (hb : 1 ≤ b) : lcmZ a b ≤ a * b := lcmZ_le ha hb (by have := Int.mul_le_mul ha hb (by omega) (by omega); omega) (Int.dvd_mul_right a b) (Int.dvd_mul_left a b)
/-- a multiple of a that is not yet the least common one -/
theorem lcm_step {a b j : Int} (ha : 1 ≤ a) (hb : 1 ≤ b) (h1 : a ∣ j) (h2 : 1 ≤ j) (h3 : j ≤ lcmZ a b) (h4 : j % b ≠ 0) : j + a ≤ lcmZ a b := by
  have hne : j ≠ lcmZ a b := fun e => h4 (Int.emod_eq_zero_of_dvd (e ▸ lcmZ_right hb))
  obtain ⟨x, rfl⟩ := h1
  obtain ⟨y, hy⟩ := lcmZ_left (b := b) ha
  rw [hy] at h3 hne ⊢
  have hxy : x < y := by
    rcases Int.lt_trichotomy x y with h | h | h
    · exact h
    · exact absurd (by rw [h]) hne
    · have := Int.mul_lt_mul_of_pos_left h (show 0 < a by omega)
      omega
  have := Int.mul_le_mul_of_nonneg_left (show x + 1 ≤ y by omega) (show 0 ≤ a by omega)
  rw [Int.mul_add, Int.mul_one] at this
  exact this
theorem lcm_end {a b j : Int} (ha : 1 ≤ a) (hb : 1 ≤ b) (h1 : a ∣ j) (h2 : 1 ≤ j) (h3 : j ≤ lcmZ a b) (h4 : j % b = 0) : j = lcmZ a b := Int.le_antisymm h3 (lcmZ_le ha hb h2 h1 (Int.dvd_of_emod_eq_zero h4))
def R_common : List V → Hp → (V → Hp → Prop) → Prop := fun vs H T => ∃ a b : Int, vs = [.int a, .int b] ∧ 1 ≤ a ∧ 1 ≤ b ∧ Gives T H (.int (lcmZ a b))
theorem cl_common [T : Tx K mg] : Cl P w K mg base 1 "common_multiple" (spR R_common) := by
  obtain ⟨fd, F⟩ := f_common_multiple (K := K) (mg := mg)
  refine ⟨⟨_, FnOk.raw0 (ok_fn F sc_common_multiple ?_ ?_) (F.bindsN fun _ _ _ _ _ _ us hl => match us, hl with | [_, _], _ => rfl), tglo "common_multiple", F.kp⟩⟩
  · rintro vs H T ⟨a, b, rfl, _⟩
    rfl
  · rintro X vs H T D B _ ⟨a, b, rfl, ha, hb, ht⟩ hr _
    refine ss_set 2 (ee_var 0) ?_
    refine ss_while (fun m σ => ∃ j, σ = [some (.int a), some (.int b), some (.int j)] ∧ a ∣ j ∧ 1 ≤ j ∧ j ≤ lcmZ a b ∧ m = (lcmZ a b - j).toNat) (lcmZ a b - a).toNat ⟨a, rfl, Int.dvd_refl a, ha, ?_, rfl⟩ ?_
    · exact Int.le_of_dvd (by have := lcmZ_pos ha hb; omega) (lcmZ_left ha)
    · rintro m σ' ⟨j, rfl, h1, h2, h3, rfl⟩
      refine ⟨_, et_neI (ee_mod (ee_var 2) (ee_var 1) (by omega)) ee_int, fun hy => ?_, fun hy => ?_⟩
      · have h4 : j % b ≠ 0 := by simpa using hy
        refine ss_set 2 (ee_add (ee_var 2) (ee_var 0)) (ss_nil fun H1 e1 => ⟨⟨_, ?_, j + a, rfl, Int.dvd_add h1 (Int.dvd_refl a), by omega, lcm_step ha hb h1 h2 h3 h4, rfl⟩, e1⟩)
        have := lcm_step ha hb h1 h2 h3 h4
        omega
      · have h4 : j % b = 0 := by simpa using hy
        rw [lcm_end ha hb h1 h2 h3 h4]
        exact ss_ret (ee_var 2) fun H1 e1 => hr _ _ e1 (ht _ e1)
end
end Fk
set_option maxRecDepth 100000
set_option maxHeartbeats 2000000
namespace Fk
open PySem PySem.Spec PyProof.Rows L2 Evl He
def Rl.stands (r : Rl) (n : Int) : Bool := decide (r.start ≤ n) && decide (n % r.m = r.r)
def Rl.left (r : Rl) (n : Int) : Int := match r with
  | .fixed s _ _ _ => n - s
  | .down t _ _ => t
def Rl.number : Rl → Int
  | .fixed n r m l => ((n * 7 + m) * 7 + r) * 1000 + l
  | .down n r m => (((1000 + n) * 7 + m) * 7 + r) * 1000
section
variable {P : Program} {w : World} {K : PySem.W.Frag} {mg : Str → Option Value} {base : Heap}
def R_stands (C : Str) : List V → Hp → (V → Hp → Prop) → Prop := fun vs H T => ∃ (r : Rl) (o : V) (n : Int), vs = [o, .int n] ∧ r.cls = C ∧ RlAt K r o H ∧ HeapZ n ∧ Gives T H (.bl (r.stands n))
theorem mt_Fixed_stands [T : Tx K mg] : Mt P w K mg base 4 (ga K "Fixed") "stands_at" (spR (R_stands (K := K) "Fixed")) := by
  obtain ⟨fd, F⟩ := f_Fixed_stands_at (K := K) (mg := mg)
  refine ⟨⟨_, FnOk.raw0 (ok_fn F sc_Fixed_stands_at ?_ ?_) (F.bindsN fun _ _ _ _ _ _ us hl => match us, hl with | [_, _], _ => rfl), tcls "Fixed", tmet "Fixed" "stands_at"⟩⟩
  · rintro vs H T ⟨r, o, n, rfl, _⟩
    rfl
  · rintro X vs H T D B _ ⟨r, o, n, rfl, hc, hr, hn, ht⟩ hd _
    cases r with
    | down => exact absurd (show ("Down" : Str) = "Fixed" from hc) (by decide)
    | fixed s r m l =>
      obtain ⟨hok, p, dx, rfl, hp⟩ := hr
      refine ss_drop (ee_call (v := .non) cl_need_heap (ea_cons (ee_var 1) ea_nil) fun H1 _ => ⟨n, rfl, hn, Gives.me⟩) ?_
      refine ss_ret (EE.is (ee_and (ee_ge (ee_var 1) (ee_fld (ee_var 0) hp (tcls "Fixed") (tfld "Fixed" "start") rfl)) fun _ => ee_one (ee_eqI (ee_mod (ee_var 1) (ee_fld (ee_var 0) hp (tcls "Fixed") (tfld "Fixed" "modulus") rfl) ?_) (ee_fld (ee_var 0) hp (tcls "Fixed") (tfld "Fixed" "rest") rfl))) rfl) fun H1 e1 => hd _ _ e1 (ht _ e1)
      have : 1 ≤ m := hok.2.2.2.2.1
      omega
theorem mt_Down_stands [T : Tx K mg] : Mt P w K mg base 4 (ga K "Down") "stands_at" (spR (R_stands (K := K) "Down")) := by
  obtain ⟨fd, F⟩ := f_Down_stands_at (K := K) (mg := mg)
  refine ⟨⟨_, FnOk.raw0 (ok_fn F sc_Down_stands_at ?_ ?_) (F.bindsN fun _ _ _ _ _ _ us hl => match us, hl with | [_, _], _ => rfl), tcls "Down", tmet "Down" "stands_at"⟩⟩
  · rintro vs H T ⟨r, o, n, rfl, _⟩
    rfl
  · rintro X vs H T D B _ ⟨r, o, n, rfl, hc, hr, hn, ht⟩ hd _
    cases r with
    | fixed => exact absurd (show ("Fixed" : Str) = "Down" from hc) (by decide)
    | down s r m =>
      obtain ⟨hok, p, dx, rfl, hp⟩ := hr
      refine ss_drop (ee_call (v := .non) cl_need_heap (ea_cons (ee_var 1) ea_nil) fun H1 _ => ⟨n, rfl, hn, Gives.me⟩) ?_
      refine ss_ret (EE.is (ee_and (ee_ge (ee_var 1) (ee_fld (ee_var 0) hp (tcls "Down") (tfld "Down" "start") rfl)) fun _ => ee_one (ee_eqI (ee_mod (ee_var 1) (ee_fld (ee_var 0) hp (tcls "Down") (tfld "Down" "modulus") rfl) ?_) (ee_fld (ee_var 0) hp (tcls "Down") (tfld "Down" "rest") rfl))) rfl) fun H1 e1 => hd _ _ e1 (ht _ e1)
      have : 1 ≤ m := hok.2.2.1
      omega
def R_left (C : Str) : List V → Hp → (V → Hp → Prop) → Prop := fun vs H T => ∃ (r : Rl) (o : V) (n : Int), vs = [o, .int n] ∧ r.cls = C ∧ RlAt K r o H ∧ HeapZ n ∧ r.stands n = true ∧ Gives T H (.int (r.left n))
theorem mt_Fixed_left [T : Tx K mg] : Mt P w K mg base 5 (ga K "Fixed") "left_at" (spR (R_left (K := K) "Fixed")) := by
  obtain ⟨fd, F⟩ := f_Fixed_left_at (K := K) (mg := mg)
  refine ⟨⟨_, FnOk.raw0 (ok_fn F sc_Fixed_left_at ?_ ?_) (F.bindsN fun _ _ _ _ _ _ us hl => match us, hl with | [_, _], _ => rfl), tcls "Fixed", tmet "Fixed" "left_at"⟩⟩
  · rintro vs H T ⟨r, o, n, rfl, _⟩
    rfl
  · rintro X vs H T D B _ ⟨r, o, n, rfl, hc, hr, hn, hs, ht⟩ hd _
    cases r with
    | down => exact absurd (show ("Down" : Str) = "Fixed" from hc) (by decide)
    | fixed s r m l =>
      have hr0 := hr
      obtain ⟨hok, p, dx, rfl, hp⟩ := hr
      refine ss_skip (et_not (et_val (ee_meth (v := .bl true) mt_Fixed_stands (ee_var 0) hp rfl (ea_cons (ee_var 1) ea_nil) fun H1 e1 => ⟨_, _, _, rfl, rfl, hr0.up e1, hn, by rw [hs]; exact Gives.me⟩))) ?_
      exact ss_ret (ee_sub (ee_var 1) (ee_fld (ee_var 0) hp (tcls "Fixed") (tfld "Fixed" "size") rfl)) fun H1 e1 => hd _ _ e1 (ht _ e1)
theorem mt_Down_left [T : Tx K mg] : Mt P w K mg base 5 (ga K "Down") "left_at" (spR (R_left (K := K) "Down")) := by
  obtain ⟨fd, F⟩ := f_Down_left_at (K := K) (mg := mg)
  refine ⟨⟨_, FnOk.raw0 (ok_fn F sc_Down_left_at ?_ ?_) (F.bindsN fun _ _ _ _ _ _ us hl => match us, hl with | [_, _], _ => rfl), tcls "Down", tmet "Down" "left_at"⟩⟩
  · rintro vs H T ⟨r, o, n, rfl, _⟩
    rfl
  · rintro X vs H T D B _ ⟨r, o, n, rfl, hc, hr, hn, hs, ht⟩ hd _
    cases r with
    | fixed => exact absurd (show ("Fixed" : Str) = "Down" from hc) (by decide)
    | down s r m =>
      have hr0 := hr
      obtain ⟨hok, p, dx, rfl, hp⟩ := hr
      refine ss_skip (et_not (et_val (ee_meth (v := .bl true) mt_Down_stands (ee_var 0) hp rfl (ea_cons (ee_var 1) ea_nil) fun H1 e1 => ⟨_, _, _, rfl, rfl, hr0.up e1, hn, by rw [hs]; exact Gives.me⟩))) ?_
      exact ss_ret (ee_fld (ee_var 0) hp (tcls "Down") (tfld "Down" "to") rfl) fun H1 e1 => hd _ _ e1 (ht _ e1)
def R_number (C : Str) : List V → Hp → (V → Hp → Prop) → Prop := fun vs H T => ∃ (r : Rl) (o : V), vs = [o] ∧ r.cls = C ∧ RlAt K r o H ∧ Gives T H (.int r.number)
theorem mt_Fixed_number [T : Tx K mg] : Mt P w K mg base 1 (ga K "Fixed") "number_in_order" (spR (R_number (K := K) "Fixed")) := by
  obtain ⟨fd, F⟩ := f_Fixed_number_in_order (K := K) (mg := mg)
  refine ⟨⟨_, FnOk.raw0 (ok_fn F sc_Fixed_number_in_order ?_ ?_) (F.bindsN fun _ _ _ _ _ _ us hl => match us, hl with | [_], _ => rfl), tcls "Fixed", tmet "Fixed" "number_in_order"⟩⟩
  · rintro vs H T ⟨r, o, rfl, _⟩
    rfl
  · rintro X vs H T D B _ ⟨r, o, rfl, hc, hr, ht⟩ hd _
    cases r with
    | down => exact absurd (show ("Down" : Str) = "Fixed" from hc) (by decide)
    | fixed s r m l =>
      obtain ⟨hok, p, dx, rfl, hp⟩ := hr
      have fl : ∀ {f : Str} {v : V} {pos pos' : Pos}, (Rl.fixed s r m l).fs.lookup f = some v → fldL.contains ("Fixed", f) = true → ∀ hb, EE X (.Attribute (.Name "self" pos) f pos') (L2.start N_Fixed_number_in_order [V.ref p]) H v := fun hl hc hb => ee_fld (ee_var 0) hp (tcls "Fixed") (tfld "Fixed" _ hc) hl hb
      refine ss_ret (ee_add (ee_mul (ee_add (ee_mul (ee_add (ee_mul (fl rfl (by decide +kernel) rfl) ee_int (.inr (by decide))) (fl rfl (by decide +kernel) rfl)) ee_int (.inr (by decide))) (fl rfl (by decide +kernel) rfl)) ee_int (.inr (by decide))) (fl rfl (by decide +kernel) rfl)) fun H1 e1 => hd _ _ e1 (ht _ e1)
theorem mt_Down_number [T : Tx K mg] : Mt P w K mg base 1 (ga K "Down") "number_in_order" (spR (R_number (K := K) "Down")) := by
  obtain ⟨fd, F⟩ := f_Down_number_in_order (K := K) (mg := mg)
  refine ⟨⟨_, FnOk.raw0 (ok_fn F sc_Down_number_in_order ?_ ?_) (F.bindsN fun _ _ _ _ _ _ us hl => match us, hl with | [_], _ => rfl), tcls "Down", tmet "Down" "number_in_order"⟩⟩
  · rintro vs H T ⟨r, o, rfl, _⟩
    rfl
  · rintro X vs H T D B _ ⟨r, o, rfl, hc, hr, ht⟩ hd _
    cases r with
    | fixed => exact absurd (show ("Fixed" : Str) = "Down" from hc) (by decide)
    | down s r m =>
      obtain ⟨hok, p, dx, rfl, hp⟩ := hr
      have fl : ∀ {f : Str} {v : V} {pos pos' : Pos}, (Rl.down s r m).fs.lookup f = some v → fldL.contains ("Down", f) = true → ∀ hb, EE X (.Attribute (.Name "self" pos) f pos') (L2.start N_Down_number_in_order [V.ref p]) H v := fun hl hc hb => ee_fld (ee_var 0) hp (tcls "Down") (tfld "Down" _ hc) hl hb
      refine ss_ret (ee_mul (ee_add (ee_mul (ee_add (ee_mul (ee_add ee_int (fl rfl (by decide +kernel) rfl)) ee_int (.inr (by decide))) (fl rfl (by decide +kernel) rfl)) ee_int (.inr (by decide))) (fl rfl (by decide +kernel) rfl)) ee_int (.inr (by decide))) fun H1 e1 => hd _ _ e1 (ht _ e1)
/-! ### worths -/
def R_worth : List V → Hp → (V → Hp → Prop) → Prop := fun vs H T => ∃ (t : Tb) (o : V) (n : Int), vs = [o, .int n] ∧ TbAt K t o H ∧ HeapZ n ∧ Gives T H (.int (t.w n))
theorem mt_worth [T : Tx K mg] : Mt P w K mg base 4 (ga K "Table") "worth_at" (spR (R_worth (K := K))) := by
  obtain ⟨fd, F⟩ := f_Table_worth_at (K := K) (mg := mg)
  refine ⟨⟨_, FnOk.raw0 (ok_fn F sc_Table_worth_at ?_ ?_) (F.bindsN fun _ _ _ _ _ _ us hl => match us, hl with | [_, _], _ => rfl), tcls "Table", tmet "Table" "worth_at"⟩⟩
  · rintro vs H T ⟨r, o, n, rfl, _⟩
    rfl
  · rintro X vs H T D B _ ⟨t, o, n, rfl, ⟨hok, N, hN, p, dx, rfl, hp⟩, hn, ht⟩ hd _
    refine ss_drop (ee_call (v := .non) cl_need_heap (ea_cons (ee_var 1) ea_nil) fun H1 _ => ⟨n, rfl, hn, Gives.me⟩) ?_
    have h0 := hn.1
    have hl := hok.len
    refine ss_when (et_lt (ee_var 1) (ee_fld (ee_var 0) hp (tcls "Table") (tfld "Table" "begin") rfl)) (fun hy => ?_) fun hy => ?_
    · have h1 : n < t.b := of_decide_eq_true hy
      refine ss_ret (ee_ixT (ee_fld (ee_var 0) hp (tcls "Table") (tfld "Table" "numbers") rfl) (ee_var 1) (st_of hN) (atI_ints h0 (by have := hok.hp; omega))) fun H1 e1 => hd _ _ e1 ?_
      have := ht _ e1
      unfold Tb.w at this
      rwa [if_pos h1] at this
    · have h1 : ¬ n < t.b := of_decide_eq_false hy
      have hp1 := hok.hp
      have := Int.emod_nonneg (n - t.b) (show t.p ≠ 0 by omega)
      have := Int.emod_lt_of_pos (n - t.b) (show 0 < t.p by omega)
      have hb := hok.hb
      refine ss_ret (ee_ixT (ee_fld (ee_var 0) hp (tcls "Table") (tfld "Table" "numbers") rfl) (ee_add (ee_fld (ee_var 0) hp (tcls "Table") (tfld "Table" "begin") rfl) (ee_mod (ee_sub (ee_var 1) (ee_fld (ee_var 0) hp (tcls "Table") (tfld "Table" "begin") rfl)) (ee_fld (ee_var 0) hp (tcls "Table") (tfld "Table" "period") rfl) (by omega))) (st_of hN) (atI_ints (by omega) (by omega))) fun H1 e1 => hd _ _ e1 ?_
      have := ht _ e1
      unfold Tb.w at this
      rwa [if_neg h1] at this
def R_far : List V → Hp → (V → Hp → Prop) → Prop := fun vs H T => ∃ (t : Tb) (o : V) (n : Int), vs = [o, .int n] ∧ TbAt K t o H ∧ 0 ≤ n ∧ Gives T H (.int (t.w n))
theorem cl_far [T : Tx K mg] : Cl P w K mg base 1 "far_worth" (spR (R_far (K := K))) := by
  obtain ⟨fd, F⟩ := f_far_worth (K := K) (mg := mg)
  refine ⟨⟨_, FnOk.raw0 (ok_fn F sc_far_worth ?_ ?_) (F.bindsN fun _ _ _ _ _ _ us hl => match us, hl with | [_, _], _ => rfl), tglo "far_worth", F.kp⟩⟩
  · rintro vs H T ⟨r, o, n, rfl, _⟩
    rfl
  · rintro X vs H T D B _ ⟨t, o, n, rfl, ⟨hok, N, hN, p, dx, rfl, hp⟩, h0, ht⟩ hd _
    have hl := hok.len
    refine ss_when (et_lt (ee_var 1) (ee_fld (ee_var 0) hp (tcls "Table") (tfld "Table" "begin") rfl)) (fun hy => ?_) fun hy => ?_
    · have h1 : n < t.b := of_decide_eq_true hy
      refine ss_ret (ee_ixT (ee_fld (ee_var 0) hp (tcls "Table") (tfld "Table" "numbers") rfl) (ee_var 1) (st_of hN) (atI_ints h0 (by have := hok.hp; omega))) fun H1 e1 => hd _ _ e1 ?_
      have := ht _ e1
      unfold Tb.w at this
      rwa [if_pos h1] at this
    · have h1 : ¬ n < t.b := of_decide_eq_false hy
      have hp1 := hok.hp
      have := Int.emod_nonneg (n - t.b) (show t.p ≠ 0 by omega)
      have := Int.emod_lt_of_pos (n - t.b) (show 0 < t.p by omega)
      have hb := hok.hb
      refine ss_ret (ee_ixT (ee_fld (ee_var 0) hp (tcls "Table") (tfld "Table" "numbers") rfl) (ee_add (ee_fld (ee_var 0) hp (tcls "Table") (tfld "Table" "begin") rfl) (ee_mod (ee_sub (ee_var 1) (ee_fld (ee_var 0) hp (tcls "Table") (tfld "Table" "begin") rfl)) (ee_fld (ee_var 0) hp (tcls "Table") (tfld "Table" "period") rfl) (by omega))) (st_of hN) (atI_ints (by omega) (by omega))) fun H1 e1 => hd _ _ e1 ?_
      have := ht _ e1
      unfold Tb.w at this
      rwa [if_neg h1] at this
def R_like : List V → Hp → (V → Hp → Prop) → Prop := fun vs H T => ∃ (t : Tb) (o : V) (n m : Int), vs = [o, .int n, .int m] ∧ TbAt K t o H ∧ 0 ≤ n ∧ 0 ≤ m ∧ Gives T H (.bl (decide (t.w n = t.w m)))
theorem cl_like [T : Tx K mg] : Cl P w K mg base 2 "is_like" (spR (R_like (K := K))) := by
  obtain ⟨fd, F⟩ := f_is_like (K := K) (mg := mg)
  refine ⟨⟨_, FnOk.raw0 (ok_fn F sc_is_like ?_ ?_) (F.bindsN fun _ _ _ _ _ _ us hl => match us, hl with | [_, _, _], _ => rfl), tglo "is_like", F.kp⟩⟩
  · rintro vs H T ⟨r, o, n, m, rfl, _⟩
    rfl
  · rintro X vs H T D B _ ⟨t, o, n, m, rfl, hT, hn, hm, ht⟩ hd _
    exact ss_ret (ee_eqI (ee_call cl_far (ea_cons (ee_var 0) (ea_cons (ee_var 1) ea_nil)) fun H1 e1 => ⟨t, o, n, rfl, hT.up e1, hn, Gives.me⟩) (ee_call cl_far (ea_cons (ee_var 0) (ea_cons (ee_var 2) ea_nil)) fun H1 e1 => ⟨t, o, m, rfl, hT.up e1, hm, Gives.me⟩)) fun H1 e1 => hd _ _ e1 (ht _ e1)
end
end Fk
set_option maxRecDepth 100000
set_option maxHeartbeats 2000000
namespace Fk
open PySem PySem.Spec PyProof.Rows L2 Evl He
/-! ### a comprehension's block -/
def bE (X : Cx) (scope : Scope) (e : Expr) : TE := fun σ H Q => ∀ (s : Shared) (H0 : Hp) (C : Addr) (cl : List (Str × Addr)) (fp : List Addr), wE (X.blk s H0 scope (compEnvC scope cl C X.env) fp) e σ H Q
def bT (X : Cx) (scope : Scope) (e : Expr) : TT := fun σ H Q => ∀ (s : Shared) (H0 : Hp) (C : Addr) (cl : List (Str × Addr)) (fp : List Addr), wT (X.blk s H0 scope (compEnvC scope cl C X.env) fp) e σ H Q
section
variable {P : Program} {w : World} {K : PySem.W.Frag} {mg : Str → Option Value} {base : Heap} {N : List Str} {sc scope : Scope} {k : Nat} {X : Cx} {σ : L2.St} {H : Hp} {a b c e elt tg : Expr} {v : V} {x y : Str} {pos p pf py : Pos}
theorem bx_blk [B : Bx P w K mg base N sc k X] {s : Shared} {H0 : Hp} {C : Addr} {cl : List (Str × Addr)} {fp : List Addr} : Bx P w K mg base N (relS scope sc) k (X.blk s H0 scope (compEnvC scope cl C X.env) fp) :=
  ⟨B.qP, B.qw, B.qK, B.qm, B.qb, B.qN, B.nd, by
    show relS scope X.env.scope = _
    rw [B.qs], B.calm, B.room⟩
theorem be_of [B : Bx P w K mg base N sc k X] (h : ∀ X', Bx P w K mg base N (relS scope sc) k X' → EE X' e σ H v) : Ev (bE X scope e) σ H v := fun H1 e1 Q q s H0 C cl fp => h _ bx_blk H1 e1 Q q
theorem bt_of {y : Bool} [B : Bx P w K mg base N sc k X] (h : ∀ X', Bx P w K mg base N (relS scope sc) k X' → ET X' e σ H y) : EvT (bT X scope e) σ H y := fun H1 e1 Q q s H0 C cl fp => h _ bx_blk H1 e1 Q q
theorem pg_blk [B : Bx P w K mg base N sc k X] {m : Nat} (hN : N[m]? = some y) (hl : (relS scope sc).names.lookup y = some .local) (s : Shared) (H0 : Hp) (C : Addr) (cl : List (Str × Addr)) (fp : List Addr) : PG (X.blk s H0 scope (compEnvC scope cl C X.env) fp) (.Name y py) (gName m) := by
  have hB : Bx P w K mg base N (relS scope sc) k (X.blk s H0 scope (compEnvC scope cl C X.env) fp) := bx_blk
  have hq : (X.blk s H0 scope (compEnvC scope cl C X.env) fp).env.scope.names.lookup y = some .local := by
    rw [hB.qs]
    exact hl
  exact pg_name hB.ndx (hB.ix hN) (.inl hq) (.inr hq)
theorem blk_ok [B : Bx P w K mg base N sc k X] {own : List (Str × Nat)} (h : blkC N sc scope own = true) : BlkOk X.N X.env.scope scope own := by
  rw [B.qN, B.qs]
  exact blkOk_by h
/-- the slots in the block -/
abbrev inB (σ : L2.St) (m : Nat) (x : V) : L2.St := (wipe σ [m]).set m (some x)
theorem wipe1 (σ : L2.St) (m : Nat) (x : V) : wipe (inB σ m x) [m] = wipe σ [m] := by
  show ((σ.set m none).set m (some x)).set m none = σ.set m none
  rw [List.set_set, List.set_set]
/-- all looks of a comprehension with one own name at once -/
def lcB (N : List Str) (sc scope : Scope) (y : Str) (m : Nat) : Bool := blkC N sc scope [(y, m)] && decide ((relS scope sc).names.lookup y = some .local)
theorem lcB_ok {m : Nat} (h : lcB N sc scope y m = true) : blkC N sc scope [(y, m)] = true ∧ (relS scope sc).names.lookup y = some .local := by
  obtain ⟨h1, h2⟩ := ba h
  exact ⟨h1, of_decide_eq_true h2⟩
variable {ifs : List Expr} {it : Expr} {wi : TI} {tt : TT} {te : TE}
theorem pe_lc1 [B : Bx P w K mg base N sc k X] {m : Nat} (hB : lcB N sc scope y m = true) (hN : N[m]? = some y) (hi : PI X (.Name y py) it wi) (ht : ∀ (s : Shared) (H : Hp) (C : Addr) (cl : List (Str × Addr)) (fp : List Addr), PTs (X.blk s H scope (compEnvC scope cl C X.env) fp) ifs tt)
    (hs : ∀ z, foldedSetIterable it X.env z = pure z) : PE X (.ListComp elt [⟨.Name y py, it, ifs, 0⟩] scope pos) (tLc wi (gName m) tt (bE X scope elt) [m]) :=
  pe_lc (own := [(y, m)]) B.calm B.ndx hi (blk_ok (lcB_ok hB).1) (pg_blk hN (lcB_ok hB).2) ht (fun s H C cl fp => ⟨fun pins s' σ H' Q I h => h s H C cl fp pins s' I⟩) hs
/-- a comprehension's parts and what it gives -/
def LC (X : Cx) (elt : Expr) (y : Str) (py : Pos) (it : Expr) (ifs : List Expr) (scope : Scope) (σ : L2.St) (H : Hp) (xs : List V) : Prop :=
  ∃ (wi : TI) (g : TG) (tt : TT) (te : TE) (own : List (Str × Nat)), X.calm = true ∧ X.N.Nodup ∧ PI X (.Name y py) it wi ∧ BlkOk X.N X.env.scope scope own ∧ (∀ (s : Shared) (H : Hp) (C : Addr) (cl : List (Str × Addr)) (fp : List Addr), PG (X.blk s H scope (compEnvC scope cl C X.env) fp) (.Name y py) g) ∧
    (∀ (s : Shared) (H : Hp) (C : Addr) (cl : List (Str × Addr)) (fp : List Addr), PTs (X.blk s H scope (compEnvC scope cl C X.env) fp) ifs tt) ∧ (∀ (s : Shared) (H : Hp) (C : Addr) (cl : List (Str × Addr)) (fp : List Addr), PE (X.blk s H scope (compEnvC scope cl C X.env) fp) elt te) ∧
    (∀ z, foldedSetIterable it X.env z = pure z) ∧ EvL (tLc wi g tt te (own.map (·.2))) σ H xs
theorem LC.el {xs : List V} (h : LC X elt y py it ifs scope σ H xs) : EL X (.ListComp elt [⟨.Name y py, it, ifs, 0⟩] scope pos) σ H xs := by
  obtain ⟨wi, g, tt, te, own, h1, h2, h3, h4, h5, h6, h7, h8, h9⟩ := h
  exact EL.of (pe_lc h1 h2 h3 h4 h5 h6 h7 h8) h9
theorem LC.is {xs ys : List V} (h : LC X elt y py it ifs scope σ H xs) (e : xs = ys) : LC X elt y py it ifs scope σ H ys := e ▸ h
theorem EL.is {xs ys : List V} (h : EL X e σ H xs) (q : xs = ys) : EL X e σ H ys := q ▸ h
theorem lc_of [B : Bx P w K mg base N sc k X] {m : Nat} {xs : List V} (hB : lcB N sc scope y m = true) (hN : N[m]? = some y) (hi : PI X (.Name y py) it wi) (ht : ∀ (s : Shared) (H : Hp) (C : Addr) (cl : List (Str × Addr)) (fp : List Addr), PTs (X.blk s H scope (compEnvC scope cl C X.env) fp) ifs tt)
    (hs : ∀ z, foldedSetIterable it X.env z = pure z) (h : EvL (tLc wi (gName m) tt (bE X scope elt) [m]) σ H xs) : LC X elt y py it ifs scope σ H xs :=
  ⟨wi, gName m, tt, bE X scope elt, [(y, m)], B.calm, B.ndx, hi, blk_ok (lcB_ok hB).1, pg_blk hN (lcB_ok hB).2, ht, (fun s H C cl fp => ⟨fun pins s' σ H' Q I h => h s H C cl fp pins s' I⟩), hs, h⟩
theorem ss_setC [B : Bx P w K mg base N sc k X] {xs : List V} {z : Str} {pz spos : Pos} {rest : List Stmt} {D : Ends} (q : Nat) (h : LC X elt y py it ifs scope σ H xs) (r : ∀ l H1, Ex H H1 → H l = none → H1 l = some (.lst xs) → SS X rest D (σ.set q (some (.ref l))) H1) (hN : N[q]? = some z := by rfl) (hl : decide (sc.names.lookup z = some .local) = true := by decide +kernel)
    (hk : decide (sc.kind = .function) = true := by decide +kernel) (hln : (pz.line == pos.line) = true := by rfl) (ha : (scope.names.any fun (n, k) => n == z && (k == .local || k == .cell)) = false := by decide +kernel) :
    SS X (.Assign [.Name z pz] (.ListComp elt [⟨.Name y py, it, ifs, 0⟩] scope pos) spos :: rest) D σ H := fun H1 e1 => by
  obtain ⟨wi, g, tt, te, own, h1, h2, h3, h4, h5, h6, h7, h8, h9⟩ := h
  have hz : X.env.scope.names.lookup z = some .local := by
    rw [B.qs]
    exact of_decide_eq_true hl
  have hk' : X.env.scope.kind = .function := by
    rw [B.qs]
    exact of_decide_eq_true hk
  exact wss_cons (ps_setLc h1 h2 (B.ix hN) hz (sw_true hk' hz hln ha) h3 h4 h5 h6 h7 h8) (h9 H1 e1 _ fun l H2 hp e2 h2' => r l H2 (e1.trans e2) (fresh_back e1 hp) h2' H2 (Ex.refl H2))
theorem pts_w : ∀ (s : Shared) (H : Hp) (C : Addr) (cl : List (Str × Addr)) (fp : List Addr), PTs (X.blk s H scope (compEnvC scope cl C X.env) fp) [c] (bT X scope c) := fun s H C cl fp => pts_one ⟨fun pins s' σ H' Q I h => h s H C cl fp pins s' I⟩
theorem et_yes : EvT tYes σ H true := fun H1 _ Q q => q H1 (Ex.refl H1)
/-- [elt for y in range(a) if c] -/
theorem el_cR1 [B : Bx P w K mg base N sc k X] {n : Int} (m : Nat) (f : Nat → Bool) (g : Nat → V) (ha : EE X a σ H (.int n)) (hn : 0 ≤ n ∧ n ≤ 40000) (hm : mg "range" = none)
    (ht : ∀ X' (i : Nat) H1, Bx P w K mg base N (relS scope sc) k X' → Ex H H1 → (i : Int) < n → ET X' c (inB σ m (.int i)) H1 (f i)) (he : ∀ X' (i : Nat) H1, Bx P w K mg base N (relS scope sc) k X' → Ex H H1 → (i : Int) < n → f i = true → EE X' elt (inB σ m (.int i)) H1 (g i))
    (hB : lcB N sc scope y m = true := by decide +kernel) (hN : N[m]? = some y := by rfl) (hg : gloB sc "range" = true := by decide +kernel) (hs1 : starEach [a] X.env = [(false, eval a X.env)] := by rfl) (hs : ∀ z, foldedSetIterable (.Call (.Name "range" p) [a] [] pf) X.env z = pure z := by intro _; rfl) :
    LC X elt y py (.Call (.Name "range" p) [a] [] pf) [c] scope σ H (given n.toNat f g) :=
  lc_of hB hN (pi_range1 (B.gl hg) (by rw [B.qm]; exact hm) (pa_cons pe_w pa_nil hs1) hs1) pts_w hs
    (el_lcR1 f g (Evl.ea_cons ha Evl.ea_nil) hn (wipe1 σ m) (fun i H1 e1 hi => bt_of fun X' B' => ht X' i H1 B' e1 hi) (fun i H1 e1 hi hf => be_of fun X' B' => he X' i H1 B' e1 hi hf))
/-- [elt for y in range(a)] -/
theorem el_cR1n [B : Bx P w K mg base N sc k X] {n : Int} (m : Nat) (g : Nat → V) (ha : EE X a σ H (.int n)) (hn : 0 ≤ n ∧ n ≤ 40000) (hm : mg "range" = none)
    (he : ∀ X' (i : Nat) H1, Bx P w K mg base N (relS scope sc) k X' → Ex H H1 → (i : Int) < n → EE X' elt (inB σ m (.int i)) H1 (g i))
    (hB : lcB N sc scope y m = true := by decide +kernel) (hN : N[m]? = some y := by rfl) (hg : gloB sc "range" = true := by decide +kernel) (hs1 : starEach [a] X.env = [(false, eval a X.env)] := by rfl) (hs : ∀ z, foldedSetIterable (.Call (.Name "range" p) [a] [] pf) X.env z = pure z := by intro _; rfl) :
    LC X elt y py (.Call (.Name "range" p) [a] [] pf) [] scope σ H ((List.range n.toNat).map g) := by
  have h := lc_of (elt := elt) (py := py) hB hN (pi_range1 (p := p) (pos := pf) (B.gl hg) (by rw [B.qm]; exact hm) (pa_cons pe_w pa_nil hs1) hs1) (fun s H C cl fp => pts_nil) hs
    (el_lcR1 (fun _ => true) g (Evl.ea_cons ha Evl.ea_nil) hn (wipe1 σ m) (fun i H1 e1 hi => et_yes) (fun i H1 e1 hi hf => be_of fun X' B' => he X' i H1 B' e1 hi))
  rw [show given n.toNat (fun _ => true) g = (List.range n.toNat).map g by unfold given; rw [List.filter_eq_self.mpr (fun _ _ => rfl)]] at h
  exact h
/-- .. range(a, b): the turn i stands for lo + i -/
theorem el_lcR2 {ta : TA} {j : Nat} {vs : List Nat} {lo n : Int} {t : TT} {te : TE} (f : Nat → Bool) (v : Nat → V) (h : EvA ta σ H [.int lo, .int n]) (hn : 0 ≤ lo ∧ lo ≤ 40000 ∧ -40000 ≤ n ∧ n ≤ 40000) (hw : ∀ x, wipe ((wipe σ vs).set j (some x)) vs = wipe σ vs)
    (ht : ∀ (i : Nat) H1, Ex H H1 → lo + (i : Int) < n → EvT t ((wipe σ vs).set j (some (.int (lo + (i : Int))))) H1 (f i)) (he : ∀ (i : Nat) H1, Ex H H1 → lo + (i : Int) < n → f i = true → Ev te ((wipe σ vs).set j (some (.int (lo + (i : Int))))) H1 (v i)) :
    EvL (tLc (iRng2 ta) (gName j) t te vs) σ H (given (n - lo).toNat f v) := fun H0 e Q q => h H0 e _ fun H1 e1 => ⟨lo, n, rfl, ⟨by omega, by omega, by omega, by omega⟩, fun Dl hD =>
  lc_range (lo := lo) (n := (n - lo).toNat) (Cw H1 f v Dl) ⟨hD, Ex.new hD, upd_same⟩ (fun i H' hi p => ⟨hw _, cw_turn p (by omega) (ht i H1 (e.trans e1) (by omega)) (fun hf => he i H1 (e.trans e1) (by omega) hf)⟩) (fun H' p => q Dl H' (fresh_back e1 p.1) (e1.trans p.2.1) p.2.2)⟩
theorem pi_r2 [B : Bx P w K mg base N sc k X] (hm : mg "range" = none) (hg : gloB sc "range" = true) (hs1 : starEach [a, b] X.env = [(false, eval a X.env), (false, eval b X.env)]) (hs2 : starEach [b] X.env = [(false, eval b X.env)]) :
    PI X tg (.Call (.Name "range" p) [a, b] [] pf) (iRng2 (tCons (wE X a) (tCons (wE X b) tNil))) := pi_range2 (B.gl hg) (by rw [B.qm]; exact hm) (pa_cons pe_w (pa_cons pe_w pa_nil hs2) (by rw [hs1, hs2])) hs1 hs2
theorem el_cR2 [B : Bx P w K mg base N sc k X] {lo n : Int} (m : Nat) (f : Nat → Bool) (g : Nat → V) (ha : EE X a σ H (.int lo)) (hb : EE X b σ H (.int n)) (hn : 0 ≤ lo ∧ lo ≤ 40000 ∧ -40000 ≤ n ∧ n ≤ 40000) (hm : mg "range" = none)
    (ht : ∀ X' (i : Nat) H1, Bx P w K mg base N (relS scope sc) k X' → Ex H H1 → lo + (i : Int) < n → ET X' c (inB σ m (.int (lo + i))) H1 (f i)) (he : ∀ X' (i : Nat) H1, Bx P w K mg base N (relS scope sc) k X' → Ex H H1 → lo + (i : Int) < n → f i = true → EE X' elt (inB σ m (.int (lo + i))) H1 (g i))
    (hB : lcB N sc scope y m = true := by decide +kernel) (hN : N[m]? = some y := by rfl) (hg : gloB sc "range" = true := by decide +kernel) (hs1 : starEach [a, b] X.env = [(false, eval a X.env), (false, eval b X.env)] := by rfl) (hs2 : starEach [b] X.env = [(false, eval b X.env)] := by rfl) (hs : ∀ z, foldedSetIterable (.Call (.Name "range" p) [a, b] [] pf) X.env z = pure z := by intro _; rfl) :
    LC X elt y py (.Call (.Name "range" p) [a, b] [] pf) [c] scope σ H (given (n - lo).toNat f g) :=
  lc_of hB hN (pi_r2 hm hg hs1 hs2) pts_w hs
    (el_lcR2 f g (Evl.ea_cons ha (Evl.ea_cons hb Evl.ea_nil)) hn (wipe1 σ m) (fun i H1 e1 hi => bt_of fun X' B' => ht X' i H1 B' e1 hi) (fun i H1 e1 hi hf => be_of fun X' B' => he X' i H1 B' e1 hi hf))
theorem el_cR2n [B : Bx P w K mg base N sc k X] {lo n : Int} (m : Nat) (g : Nat → V) (ha : EE X a σ H (.int lo)) (hb : EE X b σ H (.int n)) (hn : 0 ≤ lo ∧ lo ≤ 40000 ∧ -40000 ≤ n ∧ n ≤ 40000) (hm : mg "range" = none)
    (he : ∀ X' (i : Nat) H1, Bx P w K mg base N (relS scope sc) k X' → Ex H H1 → lo + (i : Int) < n → EE X' elt (inB σ m (.int (lo + i))) H1 (g i))
    (hB : lcB N sc scope y m = true := by decide +kernel) (hN : N[m]? = some y := by rfl) (hg : gloB sc "range" = true := by decide +kernel) (hs1 : starEach [a, b] X.env = [(false, eval a X.env), (false, eval b X.env)] := by rfl) (hs2 : starEach [b] X.env = [(false, eval b X.env)] := by rfl) (hs : ∀ z, foldedSetIterable (.Call (.Name "range" p) [a, b] [] pf) X.env z = pure z := by intro _; rfl) :
    LC X elt y py (.Call (.Name "range" p) [a, b] [] pf) [] scope σ H ((List.range (n - lo).toNat).map g) := by
  have h := lc_of (elt := elt) (py := py) hB hN (pi_r2 (tg := .Name y py) (p := p) (pf := pf) hm hg hs1 hs2) (fun s H C cl fp => pts_nil) hs
    (el_lcR2 (fun _ => true) g (Evl.ea_cons ha (Evl.ea_cons hb Evl.ea_nil)) hn (wipe1 σ m) (fun i H1 e1 hi => et_yes) (fun i H1 e1 hi hf => be_of fun X' B' => he X' i H1 B' e1 hi))
  rw [show given (n - lo).toNat (fun _ => true) g = (List.range (n - lo).toNat).map g by unfold given; rw [List.filter_eq_self.mpr (fun _ _ => rfl)]] at h
  exact h
/-! ### over a list, a tuple: by the items -/
theorem given_items {xs : List V} {f : V → Bool} {g : V → V} : given xs.length (fun i => f (xs.getD i .non)) (fun i => g (xs.getD i .non)) = (xs.filter f).map g := by
  have e : xs = (List.range xs.length).map fun i => xs.getD i .non := by
    refine List.ext_getElem (by simp) fun i h1 h2 => ?_
    simp [List.getD, h1]
  unfold given
  conv => rhs; rw [e, List.filter_map, List.map_map]
  rfl
theorem getD_of {xs : List V} {i : Nat} {x d : V} (h : xs[i]? = some x) : xs.getD i d = x := by
  simp [List.getD, h]
/-- [elt for y in e if c], e a list -/
theorem el_cL [B : Bx P w K mg base N sc k X] {l : Addr} {xs : List V} (m : Nat) (f : V → Bool) (g : V → V) (hl : EE X e σ H (.ref l)) (hx : SqL K H l xs) (hz : xs.length ≤ 40000)
    (ht : ∀ X' x H1, Bx P w K mg base N (relS scope sc) k X' → Ex H H1 → x ∈ xs → ET X' c (inB σ m x) H1 (f x)) (he : ∀ X' x H1, Bx P w K mg base N (relS scope sc) k X' → Ex H H1 → x ∈ xs → f x = true → EE X' elt (inB σ m x) H1 (g x))
    (hB : lcB N sc scope y m = true := by decide +kernel) (hN : N[m]? = some y := by rfl) (hs : ∀ z, foldedSetIterable e X.env z = pure z := by intro _; rfl) :
    LC X elt y py (e) [c] scope σ H ((xs.filter f).map g) := by
  rw [← given_items]
  refine lc_of hB hN (pi_list pe_w) pts_w hs ?_
  rw [B.qK]
  exact el_lcL _ _ hl hx hz (wipe1 σ m) (fun i x H1 e1 hi => bt_of fun X' B' => by rw [getD_of hi]; exact ht X' x H1 B' e1 (List.mem_of_getElem? hi)) (fun i x H1 e1 hi hf => be_of fun X' B' => by
    rw [getD_of hi] at hf ⊢
    exact he X' x H1 B' e1 (List.mem_of_getElem? hi) hf)
theorem el_cLn [B : Bx P w K mg base N sc k X] {l : Addr} {xs : List V} (m : Nat) (g : V → V) (hl : EE X e σ H (.ref l)) (hx : SqL K H l xs) (hz : xs.length ≤ 40000)
    (he : ∀ X' x H1, Bx P w K mg base N (relS scope sc) k X' → Ex H H1 → x ∈ xs → EE X' elt (inB σ m x) H1 (g x))
    (hB : lcB N sc scope y m = true := by decide +kernel) (hN : N[m]? = some y := by rfl) (hs : ∀ z, foldedSetIterable e X.env z = pure z := by intro _; rfl) :
    LC X elt y py (e) [] scope σ H (xs.map g) := by
  rw [← show (xs.filter fun _ => true).map g = xs.map g by rw [List.filter_eq_self.mpr (fun _ _ => rfl)], ← given_items]
  refine lc_of hB hN (pi_list pe_w) (fun s H C cl fp => pts_nil) hs ?_
  rw [B.qK]
  exact el_lcL _ _ hl hx hz (wipe1 σ m) (fun i x H1 e1 hi => et_yes) (fun i x H1 e1 hi hf => be_of fun X' B' => by
    rw [getD_of hi]
    exact he X' x H1 B' e1 (List.mem_of_getElem? hi))
/-- .. e a new list -/
theorem el_cN [B : Bx P w K mg base N sc k X] {xs : List V} (m : Nat) (f : V → Bool) (g : V → V) (hl : EL X e σ H xs) (hz : xs.length ≤ 40000)
    (ht : ∀ X' x H1, Bx P w K mg base N (relS scope sc) k X' → Ex H H1 → x ∈ xs → ET X' c (inB σ m x) H1 (f x)) (he : ∀ X' x H1, Bx P w K mg base N (relS scope sc) k X' → Ex H H1 → x ∈ xs → f x = true → EE X' elt (inB σ m x) H1 (g x))
    (hB : lcB N sc scope y m = true := by decide +kernel) (hN : N[m]? = some y := by rfl) (hs : ∀ z, foldedSetIterable e X.env z = pure z := by intro _; rfl) :
    LC X elt y py (e) [c] scope σ H ((xs.filter f).map g) := by
  rw [← given_items]
  refine lc_of hB hN (pi_list pe_w) pts_w hs ?_
  exact el_lcNL _ _ hl hz (wipe1 σ m) (fun i x H1 e1 hi => bt_of fun X' B' => by rw [getD_of hi]; exact ht X' x H1 B' e1 (List.mem_of_getElem? hi)) (fun i x H1 e1 hi hf => be_of fun X' B' => by
    rw [getD_of hi] at hf ⊢
    exact he X' x H1 B' e1 (List.mem_of_getElem? hi) hf)
theorem el_cNn [B : Bx P w K mg base N sc k X] {xs : List V} (m : Nat) (g : V → V) (hl : EL X e σ H xs) (hz : xs.length ≤ 40000)
    (he : ∀ X' x H1, Bx P w K mg base N (relS scope sc) k X' → Ex H H1 → x ∈ xs → EE X' elt (inB σ m x) H1 (g x))
    (hB : lcB N sc scope y m = true := by decide +kernel) (hN : N[m]? = some y := by rfl) (hs : ∀ z, foldedSetIterable e X.env z = pure z := by intro _; rfl) :
    LC X elt y py (e) [] scope σ H (xs.map g) := by
  rw [← show (xs.filter fun _ => true).map g = xs.map g by rw [List.filter_eq_self.mpr (fun _ _ => rfl)], ← given_items]
  refine lc_of hB hN (pi_list pe_w) (fun s H C cl fp => pts_nil) hs ?_
  exact el_lcNL _ _ hl hz (wipe1 σ m) (fun i x H1 e1 hi => et_yes) (fun i x H1 e1 hi hf => be_of fun X' B' => by
    rw [getD_of hi]
    exact he X' x H1 B' e1 (List.mem_of_getElem? hi))
/-- .. e a tuple -/
theorem el_lcT {l : Addr} {xs : List V} {tl : TE} {t : TT} {j : Nat} {vs : List Nat} (f : Nat → Bool) (v : Nat → V) (h : Ev tl σ H (.ref l)) (hx : SqT K H l xs) (hz : xs.length ≤ 40000) (hw : ∀ x, wipe ((wipe σ vs).set j (some x)) vs = wipe σ vs)
    (ht : ∀ (i : Nat) (x : V) H1, Ex H H1 → xs[i]? = some x → EvT t ((wipe σ vs).set j (some x)) H1 (f i)) (he : ∀ (i : Nat) (x : V) H1, Ex H H1 → xs[i]? = some x → f i = true → Ev te ((wipe σ vs).set j (some x)) H1 (v i)) :
    EvL (tLc (iTup K tl) (gName j) t te vs) σ H (given xs.length f v) := fun H0 e Q q => h H0 e _ fun H1 e1 => ⟨l, rfl, ⟨xs, ex_t (e.trans e1) hx⟩, fun Dl hD =>
  lc_tup (xs := xs) (Cw H1 f v Dl) ⟨hD, Ex.new hD, upd_same⟩ (fun i H' _ p => ex_t ((e.trans e1).trans p.2.1) hx) (fun i x H' hi p => ⟨hw x, cw_turn p (by have := (List.getElem?_eq_some_iff.mp hi).1; omega) (ht i x H1 (e.trans e1) hi) (fun hf => he i x H1 (e.trans e1) hi hf)⟩)
    (fun H' p => q Dl H' (fresh_back e1 p.1) (e1.trans p.2.1) p.2.2)⟩
theorem el_cTn [B : Bx P w K mg base N sc k X] {l : Addr} {xs : List V} (m : Nat) (g : V → V) (hl : EE X e σ H (.ref l)) (hx : SqT K H l xs) (hz : xs.length ≤ 40000)
    (he : ∀ X' x H1, Bx P w K mg base N (relS scope sc) k X' → Ex H H1 → x ∈ xs → EE X' elt (inB σ m x) H1 (g x))
    (hB : lcB N sc scope y m = true := by decide +kernel) (hN : N[m]? = some y := by rfl) (hs : ∀ z, foldedSetIterable e X.env z = pure z := by intro _; rfl) :
    LC X elt y py (e) [] scope σ H (xs.map g) := by
  rw [← show (xs.filter fun _ => true).map g = xs.map g by rw [List.filter_eq_self.mpr (fun _ _ => rfl)], ← given_items]
  refine lc_of hB hN (pi_tup pe_w) (fun s H C cl fp => pts_nil) hs ?_
  rw [B.qK]
  exact el_lcT _ _ hl hx hz (wipe1 σ m) (fun i x H1 e1 hi => et_yes) (fun i x H1 e1 hi hf => be_of fun X' B' => by
    rw [getD_of hi]
    exact he X' x H1 B' e1 (List.mem_of_getElem? hi))
/-! ### all, any of such a list -/
theorem ee_all [B : Bx P w K mg base N sc k X] {bs : List Bool} (hm : mg "all" = none) (h : EL X e σ H (bs.map V.bl)) (hg : gloB sc "all" = true := by decide +kernel) (he : starEach (e :: []) X.env = (false, eval e X.env) :: starEach [] X.env := by rfl) : EE X (.Call (.Name "all" p) [e] [] pos) σ H (.bl (bs.all id)) :=
  EE.of (pe_callB (cr_all B.calm) (B.gl hg) (by rw [B.qm]; exact hm) rfl pa_w (gloB_ok hg).2.2 (gloB_ok hg).2.1 he) fun H1 e1 Q q =>
    (eaq_cons (P1 := fun u H2 => ∃ l, u = .ref l ∧ H2 l = some (.lst (bs.map V.bl))) (P := fun vs H2 => ∃ l, vs = [.ref l] ∧ H2 l = some (.lst (bs.map V.bl))) (h.q fun l H2 _ hl => ⟨l, rfl, hl⟩) (fun u H2 e2 ⟨l, hu, hl⟩ => eaq_nil fun H3 e3 => ⟨l, by rw [hu], e3 _ _ hl⟩) he) H1 e1 _ fun vs H2 e2 ⟨l, hv, hl⟩ => ⟨l, bs, hv, sq_of hl, q H2 e2⟩
theorem ee_any [B : Bx P w K mg base N sc k X] {bs : List Bool} (hm : mg "any" = none) (h : EL X e σ H (bs.map V.bl)) (hg : gloB sc "any" = true := by decide +kernel) (he : starEach (e :: []) X.env = (false, eval e X.env) :: starEach [] X.env := by rfl) : EE X (.Call (.Name "any" p) [e] [] pos) σ H (.bl (bs.any id)) :=
  EE.of (pe_callB (cr_any B.calm) (B.gl hg) (by rw [B.qm]; exact hm) rfl pa_w (gloB_ok hg).2.2 (gloB_ok hg).2.1 he) fun H1 e1 Q q =>
    (eaq_cons (P1 := fun u H2 => ∃ l, u = .ref l ∧ H2 l = some (.lst (bs.map V.bl))) (P := fun vs H2 => ∃ l, vs = [.ref l] ∧ H2 l = some (.lst (bs.map V.bl))) (h.q fun l H2 _ hl => ⟨l, rfl, hl⟩) (fun u H2 e2 ⟨l, hu, hl⟩ => eaq_nil fun H3 e3 => ⟨l, by rw [hu], e3 _ _ hl⟩) he) H1 e1 _ fun vs H2 e2 ⟨l, hv, hl⟩ => ⟨l, bs, hv, sq_of hl, q H2 e2⟩
end
end Fk
set_option maxRecDepth 100000
set_option maxHeartbeats 2000000
namespace Fk
open PySem PySem.Spec PyProof.Rows L2 Evl He
theorem mem_given {n : Nat} {f : Nat → Bool} {g : Nat → V} {x : V} (h : x ∈ given n f g) : ∃ i, i < n ∧ f i = true ∧ x = g i := by
  unfold given at h
  obtain ⟨i, hi, rfl⟩ := List.mem_map.mp h
  obtain ⟨h1, h2⟩ := List.mem_filter.mp hi
  exact ⟨i, List.mem_range.mp h1, h2, rfl⟩
/-- the int of a value -/
def iv : V → Int
  | .int i => i
  | _ => 0
def lastZ (t : Tb) (l m : Int) : Int := max t.b l + lcmZ t.p m
theorem lastZ_le {t : Tb} (ht : t.ok) {l m : Int} (hl : 0 ≤ l ∧ l ≤ 401) (hm : 1 ≤ m ∧ m ≤ 6) : 0 ≤ lastZ t l m ∧ lastZ t l m ≤ 8000 := by
  have h1 := lcmZ_le_mul ht.hp hm.1
  have h2 := lcmZ_pos ht.hp hm.1
  have h3 : t.p * m ≤ t.p * 6 := Int.mul_le_mul_of_nonneg_left hm.2 (by have := ht.hp; omega)
  have := ht.hb
  have := ht.most
  unfold lastZ
  omega
/-- is the rule in the greatest book -/
def hasF (t : Tb) (n r m l : Int) : Bool := !(((List.range (lastZ t l m - l).toNat).filter fun (i : Nat) => decide ((l + (i : Int) + n) % m = r)).any fun (i : Nat) => decide (t.w (l + (i : Int) + n) = t.w (l + (i : Int))))
def hasD (t : Tb) (n r m : Int) : Bool := !(((List.range (lastZ t (n + 1) m - (n + 1)).toNat).filter fun (i : Nat) => decide ((n + 1 + (i : Int)) % m = r)).any fun (i : Nat) => decide (t.w (n + 1 + (i : Int)) = t.w n))
section
variable {P : Program} {w : World} {K : PySem.W.Frag} {mg : Str → Option Value} {base : Heap}
def R_has_fixed : List V → Hp → (V → Hp → Prop) → Prop := fun vs H T => ∃ (t : Tb) (o ro : V) (n r m l : Int), vs = [o, .int n, .int l, ro] ∧ TbAt K t o H ∧ RlAt K (.fixed n r m l) ro H ∧ Gives T H (.bl (hasF t n r m l))
theorem cl_has_fixed [T : Tx K mg] : Cl P w K mg base 3 "has_fixed" (spR (R_has_fixed (K := K))) := by
  obtain ⟨fd, F⟩ := f_has_fixed (K := K) (mg := mg)
  refine ⟨⟨_, FnOk.raw0 (ok_fn F sc_has_fixed ?_ ?_) (F.bindsN fun _ _ _ _ _ _ us hl => match us, hl with | [_, _, _, _], _ => rfl), tglo "has_fixed", F.kp⟩⟩
  · rintro vs H T ⟨t, o, ro, n, r, m, l, rfl, _⟩
    rfl
  · rintro X vs H T D B _ ⟨t, o, ro, n, r, m, l, rfl, hT, ⟨hok, q, dq, rfl, hq⟩, ht⟩ hd _
    have hT0 := hT
    obtain ⟨hto, A, hA, p, dx, rfl, hp⟩ := hT
    obtain ⟨h1, h2, h3, h4, h5, h6, h7, h8⟩ := hok
    have hlast := lastZ_le hto (l := l) (m := m) ⟨h3, by omega⟩ ⟨h5, h6⟩
    refine ss_set 4 (ee_add (ee_max (tfre "max") (ee_intI (tfre "int") (ee_fld (ee_var 0) hp (tcls "Table") (tfld "Table" "begin") rfl)) (ee_intI (tfre "int") (ee_var 2)))
      (ee_call cl_common (ea_cons (ee_fld (ee_var 0) hp (tcls "Table") (tfld "Table" "period") rfl) (ea_cons (ee_fld (ee_var 3) hq (tcls "Fixed") (tfld "Fixed" "modulus") rfl) ea_nil)) fun H1 _ => ⟨t.p, m, rfl, hto.hp, h5, Gives.me⟩)) ?_
    refine ss_setC 5 (el_cR2 6 (lo := l) (n := lastZ t l m) (fun i => decide ((l + (i : Int) + n) % m = r)) (fun i => .int (l + (i : Int))) (ee_var 2) (ee_var 4) (by omega) (tfre "range")
      (fun X' i H1 B' e1 hi => et_eqI (ee_mod (ee_add (ee_var 6) (ee_var 1)) (ee_fld (ee_var 3) (e1 _ _ hq) (tcls "Fixed") (tfld "Fixed" "modulus") rfl) (by omega)) (ee_fld (ee_var 3) (e1 _ _ hq) (tcls "Fixed") (tfld "Fixed" "rest") rfl))
      (fun X' i H1 B' e1 hi hf => ee_var 6)) fun L H1 e1 _ hL => ?_
    refine ss_ret (EE.is (ee_not (ee_any (tfre "any") (EL.is (LC.el (el_cLn 6 (fun x => .bl (decide (t.w (iv x + n) = t.w (iv x)))) (ee_var 5) (sq_of hL) (by have := given_len (lastZ t l m - l).toNat (fun i => decide ((l + (i : Int) + n) % m = r)) (fun i => .int (l + (i : Int))); omega) fun X' x H2 B' e2 hx => ?_))
      (show _ = ((((List.range (lastZ t l m - l).toNat).filter fun (i : Nat) => decide ((l + (i : Int) + n) % m = r)).map fun (i : Nat) => decide (t.w (l + (i : Int) + n) = t.w (l + (i : Int)))).map V.bl) from ?_)))) ?_) fun H1 e2 => hd _ _ (e1.trans e2) (ht _ (e1.trans e2))
    · obtain ⟨i, hi, hf, rfl⟩ := mem_given hx
      exact ee_call cl_like (ea_cons (ee_var 0) (ea_cons (ee_add (ee_var 6) (ee_var 1)) (ea_cons (ee_var 6) ea_nil))) fun H3 e3 => ⟨t, _, l + i + n, l + i, rfl, hT0.up ((e1.trans e2).trans e3), by omega, by omega, Gives.me⟩
    · unfold given
      rw [List.map_map, List.map_map]
      rfl
    · unfold hasF
      rw [List.any_map]
      rfl
def R_has_down : List V → Hp → (V → Hp → Prop) → Prop := fun vs H T => ∃ (t : Tb) (o ro : V) (n r m : Int), vs = [o, .int n, ro] ∧ TbAt K t o H ∧ RlAt K (.down n r m) ro H ∧ Gives T H (.bl (hasD t n r m))
theorem cl_has_down [T : Tx K mg] : Cl P w K mg base 3 "has_down" (spR (R_has_down (K := K))) := by
  obtain ⟨fd, F⟩ := f_has_down (K := K) (mg := mg)
  refine ⟨⟨_, FnOk.raw0 (ok_fn F sc_has_down ?_ ?_) (F.bindsN fun _ _ _ _ _ _ us hl => match us, hl with | [_, _, _], _ => rfl), tglo "has_down", F.kp⟩⟩
  · rintro vs H T ⟨t, o, ro, n, r, m, rfl, _⟩
    rfl
  · rintro X vs H T D B _ ⟨t, o, ro, n, r, m, rfl, hT, ⟨hok, q, dq, rfl, hq⟩, ht⟩ hd _
    have hT0 := hT
    obtain ⟨hto, A, hA, p, dx, rfl, hp⟩ := hT
    obtain ⟨h1, h2, h5, h6, h7, h8⟩ := hok
    have hlast := lastZ_le hto (l := n + 1) (m := m) ⟨by omega, by omega⟩ ⟨h5, h6⟩
    refine ss_set 3 (ee_add (ee_max (tfre "max") (ee_intI (tfre "int") (ee_fld (ee_var 0) hp (tcls "Table") (tfld "Table" "begin") rfl)) (ee_intI (tfre "int") (ee_add (ee_var 1) ee_int)))
      (ee_call cl_common (ea_cons (ee_fld (ee_var 0) hp (tcls "Table") (tfld "Table" "period") rfl) (ea_cons (ee_fld (ee_var 2) hq (tcls "Down") (tfld "Down" "modulus") rfl) ea_nil)) fun H1 _ => ⟨t.p, m, rfl, hto.hp, h5, Gives.me⟩)) ?_
    refine ss_setC 4 (el_cR2 5 (lo := n + 1) (n := lastZ t (n + 1) m) (fun i => decide ((n + 1 + (i : Int)) % m = r)) (fun i => .int (n + 1 + (i : Int))) (ee_add (ee_var 1) ee_int) (ee_var 3) (by omega) (tfre "range")
      (fun X' i H1 B' e1 hi => et_eqI (ee_mod (ee_var 5) (ee_fld (ee_var 2) (e1 _ _ hq) (tcls "Down") (tfld "Down" "modulus") rfl) (by omega)) (ee_fld (ee_var 2) (e1 _ _ hq) (tcls "Down") (tfld "Down" "rest") rfl))
      (fun X' i H1 B' e1 hi hf => ee_var 5)) fun L H1 e1 _ hL => ?_
    refine ss_ret (EE.is (ee_not (ee_any (tfre "any") (EL.is (LC.el (el_cLn 5 (fun x => .bl (decide (t.w (iv x) = t.w n))) (ee_var 4) (sq_of hL) (by have := given_len (lastZ t (n + 1) m - (n + 1)).toNat (fun i => decide ((n + 1 + (i : Int)) % m = r)) (fun i => .int (n + 1 + (i : Int))); omega) fun X' x H2 B' e2 hx => ?_))
      (show _ = ((((List.range (lastZ t (n + 1) m - (n + 1)).toNat).filter fun (i : Nat) => decide ((n + 1 + (i : Int)) % m = r)).map fun (i : Nat) => decide (t.w (n + 1 + (i : Int)) = t.w n)).map V.bl) from ?_)))) ?_) fun H1 e2 => hd _ _ (e1.trans e2) (ht _ (e1.trans e2))
    · obtain ⟨i, hi, hf, rfl⟩ := mem_given hx
      exact ee_call cl_like (ea_cons (ee_var 0) (ea_cons (ee_var 5) (ea_cons (ee_var 1) ea_nil))) fun H3 e3 => ⟨t, _, n + 1 + i, n, rfl, hT0.up ((e1.trans e2).trans e3), by omega, by omega, Gives.me⟩
    · unfold given
      rw [List.map_map, List.map_map]
      rfl
    · unfold hasD
      rw [List.any_map]
      rfl
end
end Fk
set_option maxRecDepth 100000
set_option maxHeartbeats 2000000
namespace Fk
open PySem PySem.Spec PyProof.Rows L2 Evl He
/-! ### flat data -/
def fl : V → Bool
  | .int _ => true
  | .bl _ => true
  | _ => false
def dat : V → PyData
  | .int i => .int i
  | .bl b => .bool b
  | _ => .none
theorem dp_flat {K : PySem.W.Frag} {H : Hp} {v : V} (h : fl v = true) : Dp K H v (dat v) := by
  cases v with
  | int i => exact .int i
  | bl b => exact .bl b
  | _ => cases h
theorem dpAll_flat {K : PySem.W.Frag} {H : Hp} : ∀ {xs : List V}, xs.all fl = true → DpAll K H xs (xs.map dat)
  | [], _ => .nil
  | x :: xs, h => by
    rw [List.all_cons, Bool.and_eq_true] at h
    exact .cons (dp_flat h.1) (dpAll_flat h.2)
theorem lay_dat (v : V) : (dat v).canLay0 = true ∧ (dat v).depth = 0 := by
  cases v <;> exact ⟨rfl, rfl⟩
theorem lay_all : ∀ xs : List V, PyData.canLayAll0 (xs.map dat) = true ∧ PyData.depthAll (xs.map dat) = 0
  | [] => ⟨rfl, rfl⟩
  | x :: xs => by
    obtain ⟨h1, h2⟩ := lay_all xs
    obtain ⟨h3, h4⟩ := lay_dat x
    rw [List.map_cons]
    simp only [PyData.canLayAll0, PyData.depthAll, h1, h2, h3, h4]
    exact ⟨rfl, rfl⟩
theorem shaped_tup (xs : List V) : SeqAt.shaped (.tuple (xs.map dat)) = true := by
  obtain ⟨h1, h2⟩ := lay_all xs
  simp [SeqAt.shaped, PyData.canLay0, PyData.depth, h1, h2]
/-- two flat tuples compared -/
def eqT (xs ys : List V) : Bool := PyData.eqvAll (xs.map dat) (ys.map dat)
theorem eqT_ints : ∀ ns ms : List Int, eqT (ns.map V.int) (ms.map V.int) = decide (ns = ms)
  | [], [] => rfl
  | [], _ :: _ => rfl
  | _ :: _, [] => rfl
  | n :: ns, m :: ms => by
    have h := eqT_ints ns ms
    unfold eqT at h ⊢
    simp only [List.map_cons, dat, PyData.eqvAll, PyData.eqv] at h ⊢
    rw [h]
    by_cases e : n = m <;> by_cases f : ns = ms <;> simp [e, f]
theorem eqT_bools : ∀ ns ms : List Bool, eqT (ns.map V.bl) (ms.map V.bl) = decide (ns = ms)
  | [], [] => rfl
  | [], _ :: _ => rfl
  | _ :: _, [] => rfl
  | n :: ns, m :: ms => by
    have h := eqT_bools ns ms
    unfold eqT at h ⊢
    simp only [List.map_cons, dat, PyData.eqvAll, PyData.eqv] at h ⊢
    rw [h]
    cases n <;> cases m <;> simp
/-! ### a tuple, a list of what -/
def TP (xs : List V) : V → Hp → Prop := fun v H => ∃ a, v = .ref a ∧ H a = some (.tup xs)
def LP (xs : List V) : V → Hp → Prop := fun v H => ∃ a, v = .ref a ∧ H a = some (.lst xs)
theorem TP.up {xs : List V} {v : V} {H H' : Hp} (h : TP xs v H) (e : Ex H H') : TP xs v H' := by
  obtain ⟨a, h1, h2⟩ := h
  exact ⟨a, h1, e _ _ h2⟩
theorem LP.up {xs : List V} {v : V} {H H' : Hp} (h : LP xs v H) (e : Ex H H') : LP xs v H' := by
  obtain ⟨a, h1, h2⟩ := h
  exact ⟨a, h1, e _ _ h2⟩
section
variable {P : Program} {w : World} {K : PySem.W.Frag} {mg : Str → Option Value} {base : Heap} {N : List Str} {sc : Scope} {k : Nat} {X : Cx} {σ : L2.St} {H : Hp} {a b c e : Expr} {es : List Expr} {v : V} {x : Str} {pos p p2 : Pos} {P1 P2 T : V → Hp → Prop} {xs ys : List V}
theorem EU.tp (h : EU X e σ H xs) : EQ X e σ H (TP xs) := h.q fun a H1 _ h1 => ⟨a, rfl, h1⟩
theorem EL.lp (h : EL X e σ H xs) : EQ X e σ H (LP xs) := h.q fun a H1 _ h1 => ⟨a, rfl, h1⟩
theorem EE.tp {l : Addr} (h : EE X e σ H (.ref l)) (hl : H l = some (.tup xs)) : EQ X e σ H (TP xs) := h.q fun H1 e1 => ⟨l, rfl, e1 _ _ hl⟩
theorem EE.lp {l : Addr} (h : EE X e σ H (.ref l)) (hl : H l = some (.lst xs)) : EQ X e σ H (LP xs) := h.q fun H1 e1 => ⟨l, rfl, e1 _ _ hl⟩
theorem EQ.tis (h : EQ X e σ H (TP xs)) (q : xs = ys) : EQ X e σ H (TP ys) := q ▸ h
theorem evq_op {r : R2} {ta tb : TE} (ha : EvQ ta σ H P1) (hb : EvQ tb σ H P2) (h1 : ∀ v H1 H2, Ex H1 H2 → P1 v H1 → P1 v H2) (hr : ∀ x y H1, Ex H H1 → P1 x H1 → P2 y H1 → ∀ Q : VK, (∀ v H2, Ex H1 H2 → T v H2 → Q v H2) → r x y H1 Q) : EvQ (tOp r ta tb) σ H T := fun H1 e Q q =>
  ha H1 e _ fun x H2 e2 p1 => hb H2 (e.trans e2) _ fun y H3 e3 p2 => hr x y H3 ((e.trans e2).trans e3) (h1 _ _ _ e3 p1) p2 Q fun v H4 e4 t => q v H4 ((e2.trans e3).trans e4) t
theorem eq_op {op : Operator} {r : R2} (ho : OpR X (binaryOp op) r) (ha : EQ X a σ H P1) (hb : EQ X b σ H P2) (h1 : ∀ v H1 H2, Ex H1 H2 → P1 v H1 → P1 v H2) (hr : ∀ x y H1, Ex H H1 → P1 x H1 → P2 y H1 → ∀ Q : VK, (∀ v H2, Ex H1 H2 → T v H2 → Q v H2) → r x y H1 Q) : EQ X (.BinOp a op b pos) σ H T :=
  EQ.of (pe_op ho pe_w pe_w) (evq_op ha hb h1 hr)
theorem eq_cmp {op : CmpOp} {r : R2} (ho : OpR X (compareOp op) r) (hm : behindInMarks op b = false) (ha : EQ X a σ H P1) (hb : EQ X b σ H P2) (h1 : ∀ v H1 H2, Ex H1 H2 → P1 v H1 → P1 v H2) (hr : ∀ x y H1, Ex H H1 → P1 x H1 → P2 y H1 → ∀ Q : VK, (∀ v H2, Ex H1 H2 → T v H2 → Q v H2) → r x y H1 Q) : EQ X (.Compare a [op] [b] pos) σ H T :=
  EQ.of (pe_cmpR ho pe_w pe_w hm) (evq_op ha hb h1 hr)
theorem et_cmpQ {op : CmpOp} {r : R2} {z : Bool} (ho : OpR X (compareOp op) r) (hm : behindInMarks op b = false) (ha : EQ X a σ H P1) (hb : EQ X b σ H P2) (h1 : ∀ v H1 H2, Ex H1 H2 → P1 v H1 → P1 v H2) (hr : ∀ x y H1, Ex H H1 → P1 x H1 → P2 y H1 → ∀ Q : VK, (∀ H2, Ex H1 H2 → Q (.bl z) H2) → r x y H1 Q) : ET X (.Compare a [op] [b] pos) σ H z :=
  ET.of (pt_cmpR ho pe_w pe_w hm) (et_test fun H1 e Q q => evq_op (T := fun u _ => u = .bl z) ha hb h1 (fun x y H2 e2 p1 p2 Q' q' => hr x y H2 e2 p1 p2 Q' fun H3 e3 => q' _ H3 e3 rfl) H1 e Q fun v H2 e2 hv => by
    rw [hv]
    exact q H2 e2)
/-- t + u -/
theorem eq_catT [B : Bx P w K mg base N sc k X] (ha : EQ X a σ H (TP xs)) (hb : EQ X b σ H (TP ys)) (hz : xs.length + ys.length ≤ 100000) : EQ X (.BinOp a .Add b pos) σ H (TP (xs ++ ys)) :=
  eq_op op_catA ha hb (fun _ _ _ e p => p.up e) fun x y H1 e1 ⟨l, hx, hl⟩ ⟨m, hy, hm⟩ Q q => by
    rw [B.qK]
    refine ⟨l, m, xs, ys, hx, hy, st_of hl, st_of hm, sz_of hz, fun h => q _ H1 (Ex.refl H1) ⟨m, rfl, by rw [hm, h, List.nil_append]⟩, fun _ h => q _ H1 (Ex.refl H1) ⟨l, rfl, by rw [hl, h, List.append_nil]⟩, fun _ _ n hn => q _ _ (Ex.new hn) ⟨n, rfl, upd_same⟩⟩
/-- t * k -/
theorem eq_repT [B : Bx P w K mg base N sc k X] {m : Int} (ha : EQ X a σ H (TP xs)) (hb : EE X b σ H (.int m)) (h0 : xs ≠ []) (h2 : 2 ≤ m ∧ m ≤ 1000) (hz : xs.length ≤ 1000) : EQ X (.BinOp a .Mult b pos) σ H (TP (List.replicate m.toNat xs).flatten) :=
  eq_op (P2 := fun u _ => u = .int m) op_repT ha (hb.q fun _ _ => rfl) (fun _ _ _ e p => p.up e) fun x y H1 e1 ⟨l, hx, hl⟩ hy Q q => by
    rw [B.qK]
    exact ⟨l, m, xs, hx, hy, st_of hl, h0, h2.1, h2.2, hz, fun n hn => q _ _ (Ex.new hn) ⟨n, rfl, upd_same⟩⟩
/-- t == u -/
theorem et_eqT [B : Bx P w K mg base N sc k X] (ha : EQ X a σ H (TP xs)) (hb : EQ X b σ H (TP ys)) (h1 : xs.all fl = true) (h2 : ys.all fl = true) : ET X (.Compare a [.Eq] [b] pos) σ H (eqT xs ys) :=
  et_cmpQ (op_eqD B.room.units) (nomark _) ha hb (fun _ _ _ e p => p.up e) fun x y H1 e1 ⟨l, hx, hl⟩ ⟨m, hy, hm⟩ Q q => by
    rw [B.qK]
    refine ⟨.tuple (xs.map dat), .tuple (ys.map dat), by rw [hx]; exact .tup (st_of hl) (dpAll_flat h1), by rw [hy]; exact .tup (st_of hm) (dpAll_flat h2), shaped_tup xs, shaped_tup ys, ?_⟩
    have := q H1 (Ex.refl H1)
    unfold eqT at this
    simp only [PyData.eqv]
    exact this
theorem ee_eqT [B : Bx P w K mg base N sc k X] (ha : EQ X a σ H (TP xs)) (hb : EQ X b σ H (TP ys)) (h1 : xs.all fl = true) (h2 : ys.all fl = true) : EE X (.Compare a [.Eq] [b] pos) σ H (.bl (eqT xs ys)) :=
  EQ.val (eq_cmp (op_eqD B.room.units) (nomark _) ha hb (fun _ _ _ e p => p.up e) fun x y H1 e1 ⟨l, hx, hl⟩ ⟨m, hy, hm⟩ Q q => by
    rw [B.qK]
    refine ⟨.tuple (xs.map dat), .tuple (ys.map dat), by rw [hx]; exact .tup (st_of hl) (dpAll_flat h1), by rw [hy]; exact .tup (st_of hm) (dpAll_flat h2), shaped_tup xs, shaped_tup ys, ?_⟩
    have := q _ H1 (Ex.refl H1) rfl
    unfold eqT at this
    simp only [PyData.eqv]
    exact this)
/-! ### slices -/
variable {lo hi : Option Expr} {ol oh : Option Int}
/-- a slice's part -/
def EO (X : Cx) (e : Option Expr) (σ : L2.St) (H : Hp) (o : Option Int) : Prop := ∃ t : TO, PO X e t ∧ EvO t σ H o
theorem eo_no : EO X none σ H none := ⟨_, po_none, eo_none⟩
theorem eo_of {i : Int} (h : EE X e σ H (.int i)) : EO X (some e) σ H (some i) := ⟨_, po_some pe_w, eo_some h⟩
theorem eq_slT [B : Bx P w K mg base N sc k X] (ha : EQ X a σ H (TP xs)) (hl : EO X lo σ H ol) (hh : EO X hi σ H oh) : EQ X (.Subscript a (.Slice lo hi none p2) pos) σ H (TP (cutV xs ol oh)) := by
  obtain ⟨tl, pl, el⟩ := hl
  obtain ⟨th, ph, eh⟩ := hh
  refine EQ.of (pe_slice sl_tupA pe_w pl ph) fun H1 e1 Q q => ha H1 e1 _ fun x H2 e2 ⟨l, hx, hl⟩ => el H2 (e1.trans e2) _ fun H3 e3 => eh H3 ((e1.trans e2).trans e3) _ fun H4 e4 => ?_
  rw [B.qK]
  have hl4 := e4 _ _ (e3 _ _ hl)
  refine ⟨l, xs, hx, st_of hl4, fun h => q _ H4 ((e2.trans e3).trans e4) ⟨l, rfl, ?_⟩, fun _ n hn => q _ _ (((e2.trans e3).trans e4).trans (Ex.new hn)) ⟨n, rfl, upd_same⟩⟩
  rw [hl4]
  unfold cutV
  rw [h.1, h.2, List.drop_zero, Nat.sub_zero, List.take_length]
theorem eq_slL [B : Bx P w K mg base N sc k X] (ha : EQ X a σ H (LP xs)) (hl : EO X lo σ H ol) (hh : EO X hi σ H oh) : EL X (.Subscript a (.Slice lo hi none p2) pos) σ H (cutV xs ol oh) := by
  obtain ⟨tl, pl, el⟩ := hl
  obtain ⟨th, ph, eh⟩ := hh
  refine EL.of (pe_slice sl_list pe_w pl ph) fun H1 e1 Q q => ha H1 e1 _ fun x H2 e2 ⟨l, hx, hl⟩ => el H2 (e1.trans e2) _ fun H3 e3 => eh H3 ((e1.trans e2).trans e3) _ fun H4 e4 => ?_
  rw [B.qK]
  exact ⟨l, xs, hx, sq_of (e4 _ _ (e3 _ _ hl)), fun n hn => q n _ (fresh_back ((e2.trans e3).trans e4) hn) (((e2.trans e3).trans e4).trans (Ex.new hn)) upd_same⟩
theorem cut_to (xs : List V) (n : Nat) : cutV xs none (some (n : Int)) = xs.take n := by
  unfold cutV
  rw [HT.sIx_none, HT.sIx_nat, List.drop_zero, Nat.sub_zero]
  by_cases h : n ≤ xs.length
  · rw [Nat.min_eq_left h]
  · rw [Nat.min_eq_right (by omega), List.take_length, List.take_of_length_le (by omega)]
theorem cut_from (xs : List V) (n : Nat) : cutV xs (some (n : Int)) none = xs.drop n := by
  unfold cutV
  rw [HT.sIx_none, HT.sIx_nat]
  by_cases h : n ≤ xs.length
  · rw [Nat.min_eq_left h]
    exact List.take_of_length_le (by rw [List.length_drop]; omega)
  · rw [Nat.min_eq_right (by omega), List.drop_length, List.drop_eq_nil_of_le (by omega)]
    exact List.take_nil
theorem cut_last (xs : List V) (h : 0 < xs.length) : cutV xs (some (-1)) none = xs.drop (xs.length - 1) := by
  unfold cutV
  rw [HT.sIx_none]
  have e : HT.sIx xs.length 0 (some (-1)) = xs.length - 1 := by
    show (if (-1 : Int) < 0 then ((-1 : Int) + (xs.length : Int)).toNat else min (-1 : Int).toNat xs.length) = _
    rw [if_pos (by decide)]
    omega
  rw [e]
  exact List.take_of_length_le (by rw [List.length_drop]; omega)
theorem cut_but (xs : List V) (h : 0 < xs.length) : cutV xs none (some (-1)) = xs.take (xs.length - 1) := by
  unfold cutV
  rw [HT.sIx_none, List.drop_zero, Nat.sub_zero]
  have e : HT.sIx xs.length xs.length (some (-1)) = xs.length - 1 := by
    show (if (-1 : Int) < 0 then ((-1 : Int) + (xs.length : Int)).toNat else min (-1 : Int).toNat xs.length) = _
    rw [if_pos (by decide)]
    omega
  rw [e]
/-! ### tuple(e), len, displays with stars -/
theorem eq_one {r : List V → Hp → VK → Prop} {t : TA} (h : EAQ X [e] σ H fun vs H1 => ∀ Q : VK, (∀ v H2, Ex H1 H2 → T v H2 → Q v H2) → r vs H1 Q) : EvQ (tCB r (wA X [e])) σ H T := fun H1 e1 Q q => h H1 e1 _ fun vs H2 e2 hr => hr Q fun v H3 e3 t => q v H3 (e2.trans e3) t
theorem eaq_one {P1 : V → Hp → Prop} {P2 : List V → Hp → Prop} (h : EQ X e σ H P1) (k : ∀ v H1, Ex H H1 → P1 v H1 → P2 [v] H1) (h1 : ∀ v H1 H2, Ex H1 H2 → P1 v H1 → P1 v H2) (hs : starEach (e :: []) X.env = (false, eval e X.env) :: starEach [] X.env := by rfl) : EAQ X [e] σ H P2 :=
  eaq_cons h (fun v H1 e1 p => eaq_nil fun H2 e2 => k v H2 (e1.trans e2) (h1 _ _ _ e2 p)) hs
theorem eq_tupleL [B : Bx P w K mg base N sc k X] (hm : mg "tuple" = none) (h : EQ X e σ H (LP xs)) (hg : gloB sc "tuple" = true := by decide +kernel) (he : starEach (e :: []) X.env = (false, eval e X.env) :: starEach [] X.env := by rfl) : EQ X (.Call (.Name "tuple" p) [e] [] pos) σ H (TP xs) :=
  EQ.of (pe_callTy call_tuple_of (B.gl hg) (by rw [B.qm]; exact hm) rfl pa_w (gloB_ok hg).2.2 (gloB_ok hg).2.1 he) (eq_one (t := tNil) (eaq_one h (fun v H1 _ ⟨l, hv, hl⟩ Q q => by
    rw [B.qK]
    exact ⟨l, xs, by rw [hv], .inl ⟨sq_of hl, fun n hn => q _ _ (Ex.new hn) ⟨n, rfl, upd_same⟩⟩⟩) (fun _ _ _ e p => p.up e) he))
theorem ee_lenQ [B : Bx P w K mg base N sc k X] (hm : mg "len" = none) (h : EQ X e σ H fun v H1 => TP xs v H1 ∨ LP xs v H1) (hg : gloB sc "len" = true := by decide +kernel) (he : starEach (e :: []) X.env = (false, eval e X.env) :: starEach [] X.env := by rfl) : EE X (.Call (.Name "len" p) [e] [] pos) σ H (.int (xs.length : Int)) :=
  EQ.val (EQ.of (pe_callB call_len_seq (B.gl hg) (by rw [B.qm]; exact hm) rfl pa_w (gloB_ok hg).2.2 (gloB_ok hg).2.1 he) (eq_one (t := tNil) (eaq_one h (fun v H1 _ hv Q q => by
    rw [B.qK]
    rcases hv with ⟨l, hv, hl⟩ | ⟨l, hv, hl⟩
    · exact ⟨l, xs, by rw [hv], .inr (st_of hl), q _ H1 (Ex.refl H1) rfl⟩
    · exact ⟨l, xs, by rw [hv], .inl (sq_of hl), q _ H1 (Ex.refl H1) rfl⟩) (fun _ _ _ e p => p.elim (fun p => .inl (p.up e)) fun p => .inr (p.up e)) he)))
theorem EQ.orT (h : EQ X e σ H (TP xs)) : EQ X e σ H fun v H1 => TP xs v H1 ∨ LP xs v H1 := EvQ.imp h fun _ _ _ p => .inl p
theorem EQ.orL (h : EQ X e σ H (LP xs)) : EQ X e σ H fun v H1 => TP xs v H1 ∨ LP xs v H1 := EvQ.imp h fun _ _ _ p => .inr p
/-- ( *e, ..) -/
theorem eaq_star [B : Bx P w K mg base N sc k X] {P2 : List V → Hp → Prop} (h : EQ X e σ H fun v H1 => TP xs v H1 ∨ LP xs v H1) (hr : ∀ H1, Ex H H1 → EAQ X es σ H1 fun vs H2 => P2 (xs ++ vs) H2) (hs : starEach (.Starred e p :: es) X.env = (true, eval e X.env) :: starEach es X.env := by rfl) : EAQ X (.Starred e p :: es) σ H P2 :=
  EAQ.of (StX.pa_star pe_w pa_w hs) fun H1 e1 Q q => h H1 e1 _ fun v H2 e2 hv => by
    rw [B.qK]
    have go : (∃ l, v = V.ref l ∧ (SqT K H2 l xs ∨ SqL K H2 l xs)) := by
      rcases hv with ⟨l, hv, hl⟩ | ⟨l, hv, hl⟩
      · exact ⟨l, hv, .inl (st_of hl)⟩
      · exact ⟨l, hv, .inr (sq_of hl)⟩
    obtain ⟨l, hv, hl⟩ := go
    exact ⟨l, xs, hv, hl, hr H2 (e1.trans e2) H2 (Ex.refl H2) _ fun vs H3 e3 hp => q _ H3 (e2.trans e3) hp⟩
theorem eq_tupD {x1 : Nat} (h : EAQ X es σ H fun vs _ => vs = xs) (hz : xs.length ≤ 100000) : EQ X (.Tuple es x1 pos) σ H (TP xs) :=
  EQ.of (pe_tup pa_w) fun H1 e1 Q q => h H1 e1 _ fun vs H2 e2 hv => by
    subst hv
    exact ⟨sz_of hz, fun n hn => q _ _ (e2.trans (Ex.new hn)) ⟨n, rfl, upd_same⟩⟩
theorem el_lstD (h : EAQ X es σ H fun vs _ => vs = xs) (hz : xs.length ≤ 100000) : EQ X (.List es pos) σ H (LP xs) :=
  EQ.of (pe_lst pa_w) fun H1 e1 Q q => h H1 e1 _ fun vs H2 e2 hv => by
    subst hv
    exact ⟨sz_of hz, fun n hn => q _ _ (e2.trans (Ex.new hn)) ⟨n, rfl, upd_same⟩⟩
/-- an item of a tuple that an expression gives -/
theorem ee_ixQ [B : Bx P w K mg base N sc k X] {i : Int} (ha : EQ X a σ H (TP xs)) (hb : EE X b σ H (.int i)) (hi : atI xs i = some v) (hs : PlainIx b := by intro _ _; rfl) : EE X (.Subscript a b pos) σ H v :=
  EQ.val (EQ.of (pe_ix ix_tup pe_w pe_w hs) (evq_op (P2 := fun u _ => u = .int i) ha (hb.q fun _ _ => rfl) (fun _ _ _ e p => p.up e) fun x y H1 e1 ⟨l, hx, hl⟩ hy Q q => by
    rw [B.qK]
    exact ⟨l, xs, i, v, hx, hy, st_of hl, hi, q _ H1 (Ex.refl H1) rfl⟩))
end
end Fk
set_option maxRecDepth 100000
set_option maxHeartbeats 2000000
namespace Fk
open PySem PySem.Spec PyProof.Rows L2 Evl He
/-! ### the shortest turn, the least form -/
def turnAt (xs : List V) (s : Nat) : Bool := decide ((xs.length : Int) % (s : Int) = 0) && eqT xs (List.replicate (xs.length / s) (xs.take s)).flatten
def shortT (xs : List V) : List V := match (List.range (xs.length - 1)).find? fun i => turnAt xs (1 + i) with
  | some i => xs.take (1 + i)
  | none => xs
theorem all_take {xs : List V} (h : xs.all fl = true) (n : Nat) : (xs.take n).all fl = true := List.all_eq_true.mpr fun x hx => List.all_eq_true.mp h x (List.mem_of_mem_take hx)
theorem all_rep {xs : List V} (h : xs.all fl = true) (n : Nat) : (List.replicate n xs).flatten.all fl = true := List.all_eq_true.mpr fun x hx => by
  obtain ⟨l, h1, h2⟩ := List.mem_flatten.mp hx
  rw [(List.mem_replicate.mp h1).2] at h2
  exact List.all_eq_true.mp h x h2
section
variable {P : Program} {w : World} {K : PySem.W.Frag} {mg : Str → Option Value} {base : Heap}
/-- a new tuple's promise -/
def GivesT (T : V → Hp → Prop) (H : Hp) (R : V → Hp → Prop) : Prop := ∀ v H', Ex H H' → R v H' → T v H'
def R_shortest : List V → Hp → (V → Hp → Prop) → Prop := fun vs H T => ∃ (a : Addr) (xs : List V), vs = [.ref a] ∧ H a = some (.tup xs) ∧ xs.all fl = true ∧ xs.length ≤ 1000 ∧ GivesT T H (TP (shortT xs))
theorem cl_shortest [T : Tx K mg] : Cl P w K mg base 1 "shortest_turn" (spR R_shortest) := by
  obtain ⟨fd, F⟩ := f_shortest_turn (K := K) (mg := mg)
  refine ⟨⟨_, FnOk.raw0 (ok_fn F sc_shortest_turn ?_ ?_) (F.bindsN fun _ _ _ _ _ _ us hl => match us, hl with | [_], _ => rfl), tglo "shortest_turn", F.kp⟩⟩
  · rintro vs H T ⟨a, xs, rfl, _⟩
    rfl
  · rintro X vs H T D B _ ⟨a, xs, rfl, ha, hf, hz, ht⟩ hd _
    refine ss_set 1 (ee_lenT (tfre "len") (ee_var 0) (st_of ha)) ?_
    refine ss_forR2 2 (fun i σ => (∃ z, σ = [some (.ref a), some (.int (xs.length : Int)), z]) ∧ ∀ j, j < i → turnAt xs (1 + j) = false) (lo := 1) (n := (xs.length : Int)) ee_int (ee_var 1) (by omega) ⟨⟨none, rfl⟩, fun j hj => absurd hj (Nat.not_lt_zero _)⟩ ?_ ?_ (tfre "range")
    · rintro i σ' hi ⟨⟨z, rfl⟩, hp⟩
      have e1 : ((1 : Int) + (i : Int)) = ((1 + i : Nat) : Int) := by omega
      rw [e1]
      have hne : xs.take (1 + i) ≠ [] := fun e => by
        have := congrArg List.length e
        rw [List.length_take, List.length_nil] at this
        omega
      refine ss_when (y := turnAt xs (1 + i)) (et_w (ew_and (et_eqI (ee_mod (ee_var 1) (ee_var 2) (by omega)) ee_int) fun hy => ew_and1 ?_)) (fun hy => ?_) fun hy => ?_
      · have h0 : (xs.length : Int) % ((1 + i : Nat) : Int) = 0 := of_decide_eq_true hy
        have h1 : xs.length % (1 + i) = 0 := by exact_mod_cast h0
        have h3 : 2 ≤ xs.length / (1 + i) := by
          rcases Nat.lt_or_ge (xs.length / (1 + i)) 2 with h | h
          · have h4 := Nat.div_add_mod xs.length (1 + i)
            rw [h1, Nat.add_zero] at h4
            have : (1 + i) * (xs.length / (1 + i)) ≤ (1 + i) * 1 := Nat.mul_le_mul_left _ (by omega)
            omega
          · exact h
        have h4 : xs.length / (1 + i) ≤ 1000 := Nat.le_trans (Nat.div_le_self _ _) hz
        have e2 : (xs.length : Int) / ((1 + i : Nat) : Int) = ((xs.length / (1 + i) : Nat) : Int) := rfl
        refine et_eqT (EE.tp (ee_var 0) ha) (EQ.tis (eq_repT (xs := xs.take (1 + i)) (m := ((xs.length / (1 + i) : Nat) : Int)) (EQ.tis (eq_slT (EE.tp (ee_var 0) ha) eo_no (eo_of (ee_var 2))) (cut_to xs (1 + i))) (EE.is (ee_fdiv (ee_var 1) (ee_var 2) ⟨by omega, by omega⟩) (by rw [e2])) hne ⟨by omega, by omega⟩ (by rw [List.length_take]; omega)) (by rw [Int.toNat_natCast])) hf (all_rep (all_take hf _) _)
      · refine ss_retQ (EQ.tis (eq_slT (EE.tp (ee_var 0) ha) eo_no (eo_of (ee_var 2))) (cut_to xs (1 + i))) fun v H1 e1 hv => hd v H1 e1 (ht v H1 e1 ?_)
        have hs : shortT xs = xs.take (1 + i) := by
          unfold shortT
          rw [List.find?_range_eq_some (i := i) (p := fun i => turnAt xs (1 + i)) |>.mpr ⟨hy, List.mem_range.mpr (by omega), fun j hj => by show (!turnAt xs (1 + j)) = true; rw [hp j hj]; rfl⟩]
        rw [hs]
        exact hv
      · exact ss_nil fun H1 e1 => ⟨⟨⟨_, rfl⟩, fun j hj => by
          rcases Nat.lt_succ_iff_lt_or_eq.mp hj with h | h
          · exact hp j h
          · rw [h]
            exact hy⟩, e1⟩
    · rintro σ' ⟨⟨z, rfl⟩, hp⟩
      refine ss_retQ (EE.tp (ee_var 0) ha) fun v H1 e1 hv => hd v H1 e1 (ht v H1 e1 ?_)
      have hs : shortT xs = xs := by
        unfold shortT
        rw [List.find?_range_eq_none (p := fun i => turnAt xs (1 + i)) |>.mpr fun j hj => by show (!turnAt xs (1 + j)) = true; rw [hp j (by omega)]; rfl]
      rw [hs]
      exact hv
end
end Fk
set_option maxRecDepth 100000
set_option maxHeartbeats 2000000
namespace Fk
open PySem PySem.Spec PyProof.Rows L2 Evl He
section
variable {P : Program} {w : World} {K : PySem.W.Frag} {mg : Str → Option Value} {base : Heap} {N : List Str} {sc : Scope} {k : Nat} {X : Cx} {σ : L2.St} {H : Hp} {a b c e : Expr} {x : Str} {pos pos' : Pos} {rest : List Stmt} {D : Ends}
/-- while, the invariant by the heap too -/
theorem ss_whileH [B : Bx P w K mg base N sc k X] [G : Dx X] {body : List Stmt} (I : Nat → L2.St → Hp → Prop) (m0 : Nat) (h0 : ∀ H1, Ex H H1 → I m0 σ H1)
    (hs : ∀ m σ' H', Ex H H' → I m σ' H' → ∃ y, ET X c σ' H' y ∧ (y = true → SS X body { D with nx := fun σ2 H2 => (∃ m', m' < m ∧ I m' σ2 H2) ∧ Ex H H2, ct := fun σ2 H2 => (∃ m', m' < m ∧ I m' σ2 H2) ∧ Ex H H2, bk := wSs X rest D } σ' H') ∧ (y = false → SS X rest D σ' H')) :
    SS X (.While c body [] pos :: rest) D σ H := fun H1 e1 =>
  wss_cons (ps_while G.own pt_w pss_w) (s_while (D := { D with nx := wSs X rest D }) (fun m σ' H' => I m σ' H' ∧ Ex H H') m0 ⟨h0 H1 e1, e1⟩ fun m σ' H' p => by
    obtain ⟨y, t, h1, h2⟩ := hs m σ' H' p.2 p.1
    refine ⟨y, t, fun hy H2 e2 => ⟨fun σ2 H2 => (∃ m', m' < m ∧ I m' σ2 H2) ∧ Ex H H2, fun σ2 H2 q => ?_, h1 hy H2 e2⟩, fun hy H2 e2 => h2 hy H2 e2⟩
    obtain ⟨⟨m', hm, q⟩, e3⟩ := q
    exact ⟨m', hm, q, e3⟩)
end
/-- ints (true), bools (false) -/
def isK : Bool → V → Bool
  | true, .int _ => true
  | false, .bl _ => true
  | _, _ => false
theorem isK_fl {k : Bool} {v : V} (h : isK k v = true) : fl v = true := by
  cases k <;> cases v <;> first | rfl | cases h
theorem isK_scal {k : Bool} {v u : V} (h : isK k v = true) (h' : isK k u = true) : scal v u = true := by
  cases k <;> cases v <;> simp [isK] at h <;> cases u <;> simp [isK] at h' <;> rfl
theorem allK_fl {k : Bool} {xs : List V} (h : xs.all (isK k) = true) : xs.all fl = true := List.all_eq_true.mpr fun x hx => isK_fl (List.all_eq_true.mp h x hx)
theorem allK_mem {k : Bool} {xs ys : List V} (h : xs.all (isK k) = true) (hs : ∀ y ∈ ys, y ∈ xs) : ys.all (isK k) = true := List.all_eq_true.mpr fun y hy => List.all_eq_true.mp h y (hs y hy)
theorem short_mem (xs : List V) : ∀ y ∈ shortT xs, y ∈ xs := fun y hy => by
  unfold shortT at hy
  split at hy
  · exact List.mem_of_mem_take hy
  · exact hy
theorem short_ne {xs : List V} (h : xs ≠ []) : shortT xs ≠ [] := by
  unfold shortT
  split
  · intro e
    have := congrArg List.length e
    rw [List.length_take, List.length_nil] at this
    have : 0 < xs.length := List.length_pos_iff.mpr h
    omega
  · exact h
theorem short_len (xs : List V) : (shortT xs).length ≤ xs.length := by
  unfold shortT
  split
  · rw [List.length_take]
    omega
  · exact Nat.le_refl _
def lastV (xs : List V) : V := xs.getD (xs.length - 1) .non
def rot (xs : List V) : List V := xs.drop (xs.length - 1) ++ xs.take (xs.length - 1)
/-- the rows back to the left -/
def backT (as : List V) : Nat → List V → List V × List V
  | 0, ag => ([], ag)
  | m + 1, ag => if as.getD m .non = lastV ag then backT as m (rot ag) else (as.take (m + 1), ag)
def leastT (as ag : List V) : List V × List V := backT as as.length (shortT ag)
theorem rot_mem (xs : List V) : ∀ y ∈ rot xs, y ∈ xs := fun y hy => by
  rcases List.mem_append.mp hy with h | h
  · exact List.mem_of_mem_drop h
  · exact List.mem_of_mem_take h
theorem rot_len (xs : List V) : (rot xs).length = xs.length := by
  unfold rot
  rw [List.length_append, List.length_drop, List.length_take]
  omega
theorem atI_lastV {xs : List V} (h : 0 < xs.length) : atI xs (-1) = some (lastV xs) := by
  unfold atI ixN
  rw [if_neg (by omega), if_pos (by omega)]
  show xs[((-1 : Int) + (xs.length : Int)).toNat]? = _
  rw [show ((-1 : Int) + (xs.length : Int)).toNat = xs.length - 1 by omega]
  unfold lastV
  rw [List.getElem?_eq_getElem (by omega)]
  simp [List.getD, show xs.length - 1 < xs.length by omega]
theorem atI_getV {xs : List V} {i : Nat} (h : i < xs.length) : atI xs (i : Int) = some (xs.getD i .non) := atI_nat (by simp [List.getD, h])
theorem getD_mem {xs : List V} {i : Nat} (h : i < xs.length) : xs.getD i .non ∈ xs := by
  have : xs.getD i .non = xs[i] := by simp [List.getD, h]
  rw [this]
  exact List.getElem_mem h
/-- a pair of tuples -/
def PP (xs ys : List V) : V → Hp → Prop := fun v H => ∃ p q r, v = .ref p ∧ H p = some (.tup [.ref q, .ref r]) ∧ H q = some (.tup xs) ∧ H r = some (.tup ys)
section
variable {P : Program} {w : World} {K : PySem.W.Frag} {mg : Str → Option Value} {base : Heap} {X : Cx} {σ : L2.St} {H : Hp} {a b : Expr} {xs ys : List V} {pos : Pos} {x1 : Nat}
theorem eq_tup2 (h1 : EQ X a σ H (TP xs)) (h2 : EQ X b σ H (TP ys)) (he : starEach [a, b] X.env = (false, eval a X.env) :: starEach [b] X.env := by rfl) (he2 : starEach [b] X.env = (false, eval b X.env) :: starEach [] X.env := by rfl) : EQ X (.Tuple [a, b] x1 pos) σ H (PP xs ys) :=
  EQ.of (pe_tup pa_w) fun H1 e1 Q q => eaq_cons (P := fun vs H4 => ∃ u v, vs = [u, v] ∧ TP xs u H4 ∧ TP ys v H4) h1 (fun u H2 e2 hu => eaq_cons (EvQ.mono e2 h2) (fun v H3 e3 hv => eaq_nil fun H4 e4 => ⟨u, v, rfl, (hu.up e3).up e4, hv.up e4⟩) he2) he H1 e1 _ fun vs H2 e2 ⟨u, v, hvs, ⟨p, hu, hp⟩, ⟨r, hv, hr⟩⟩ => by
    subst hvs hu hv
    refine ⟨(show 2 ≤ sizeLine by decide), fun n hn => q _ _ (e2.trans (Ex.new hn)) ⟨n, p, r, rfl, upd_same, ?_, ?_⟩⟩
    · rw [upd_ne (ne_of_none hp hn)]
      exact hp
    · rw [upd_ne (ne_of_none hr hn)]
      exact hr
def R_least : List V → Hp → (V → Hp → Prop) → Prop := fun vs H T => ∃ (a b : Addr) (as ag : List V) (k : Bool), vs = [.ref a, .ref b] ∧ H a = some (.tup as) ∧ H b = some (.tup ag) ∧ as.all (isK k) = true ∧ ag.all (isK k) = true ∧ as.length ≤ 1000 ∧ 1 ≤ ag.length ∧ ag.length ≤ 1000 ∧ GivesT T H (PP (leastT as ag).1 (leastT as ag).2)
theorem cl_least [T : Tx K mg] : Cl P w K mg base 2 "least_form" (spR R_least) := by
  obtain ⟨fd, F⟩ := f_least_form (K := K) (mg := mg)
  refine ⟨⟨_, FnOk.raw0 (ok_fn F sc_least_form ?_ ?_) (F.bindsN fun _ _ _ _ _ _ us hl => match us, hl with | [_, _], _ => rfl), tglo "least_form", F.kp⟩⟩
  · rintro vs H T ⟨a, b, as, ag, k, rfl, _⟩
    rfl
  · rintro X vs H T D B _ ⟨a, b, as, ag, k, rfl, ha, hb, ka, kg, la, l1, lg, ht⟩ hd _
    refine ss_setQ (R := TP (shortT ag)) 1 (eq_call cl_shortest (EA.q (ea_cons (ee_var 1) ea_nil) fun H1 e1 => ⟨b, ag, rfl, e1 _ _ hb, allK_fl kg, lg, fun v H' e h => h⟩)) fun v H1 e1 ⟨q, hv, hq⟩ => ?_
    subst hv
    refine ss_set 2 (ee_lenT (tfre "len") (ee_var 0) (st_of (e1 _ _ ha))) ?_
    refine ss_whileH (fun m σ H' => ∃ q gg, σ = [some (.ref a), some (.ref q), some (.int (m : Int))] ∧ H' q = some (.tup gg) ∧ gg.all (isK k) = true ∧ 1 ≤ gg.length ∧ gg.length ≤ 1000 ∧ m ≤ as.length ∧ backT as m gg = leastT as ag) as.length (fun H2 e2 => ⟨q, shortT ag, rfl, e2 _ _ hq, allK_mem kg (short_mem ag), ?_, ?_, Nat.le_refl _, rfl⟩) ?_
    · have : shortT ag ≠ [] := short_ne fun e => by rw [e] at l1; exact absurd l1 (by decide)
      exact List.length_pos_iff.mpr this
    · exact Nat.le_trans (short_len ag) lg
    · rintro m σ' H2 e2 ⟨q2, gg, rfl, hq2, kk, g1, g2, hm, hbk⟩
      have ha2 : H2 a = some (.tup as) := e2 _ _ (e1 _ _ ha)
      cases m with
      | zero =>
        refine ⟨false, ET.is (et_w (ew_and (z := false) (et_gt (ee_var 2) ee_int) fun hy => absurd hy (by decide))) rfl, fun hy => absurd hy (by decide), fun _ => ?_⟩
        have hb2 : ([], gg) = leastT as ag := hbk
        refine ss_retQ (eq_tup2 (EQ.tis (eq_slT (EE.tp (ee_var 0) ha2) eo_no (eo_of (ee_var 2))) (cut_to as 0)) (EE.tp (ee_var 1) hq2)) fun v H3 e3 hv => hd v H3 ((e1.trans e2).trans e3) (ht v H3 ((e1.trans e2).trans e3) ?_)
        rw [← congrArg Prod.fst hb2, ← congrArg Prod.snd hb2]
        exact hv
      | succ m =>
        have sc : scal (as.getD m .non) (lastV gg) = true := isK_scal (List.all_eq_true.mp ka _ (getD_mem (by omega))) (List.all_eq_true.mp kk _ (getD_mem (by omega)))
        refine ⟨decide (as.getD m .non = lastV gg), ET.is (et_w (ew_and (et_gt (ee_var 2) ee_int) fun _ => ew_and1 (et_eqV (ee_ixT (ee_var 0) (EE.is (ee_sub (ee_var 2) ee_int) (show _ = V.int (m : Int) by congr 1; omega)) (st_of ha2) (atI_getV (by omega))) (ee_ixT (ee_var 1) (ee_neg ee_int) (st_of hq2) (atI_lastV (by omega))) sc))) ?_, fun hy => ?_, fun hy => ?_⟩
        · rw [show decide ((0 : Int) < ((m + 1 : Nat) : Int)) = true from decide_eq_true (by omega), Bool.true_and]
        · have he : as.getD m .non = lastV gg := of_decide_eq_true hy
          refine ss_setQ (R := TP (rot gg)) 1 (eq_catT (EQ.tis (eq_slT (EE.tp (ee_var 1) hq2) (eo_of (ee_neg ee_int)) eo_no) (cut_last gg (by omega))) (EQ.tis (eq_slT (EE.tp (ee_var 1) hq2) eo_no (eo_of (ee_neg ee_int))) (cut_but gg (by omega))) (by have := rot_len gg; unfold rot at this; rw [List.length_append] at this; omega)) fun v H3 e3 ⟨q3, hv, hq3⟩ => ?_
          subst hv
          refine ss_set 2 (EE.is (ee_sub (ee_var 2) ee_int) (show _ = V.int (m : Int) by congr 1; omega)) (ss_nil fun H4 e4 => ⟨⟨m, Nat.lt_succ_self m, q3, rot gg, rfl, e4 _ _ hq3, allK_mem kk (rot_mem gg), by rw [rot_len]; exact g1, by rw [rot_len]; exact g2, by omega, ?_⟩, (e2.trans e3).trans e4⟩)
          rw [← hbk]
          exact (if_pos he).symm
        · have he : ¬ as.getD m .non = lastV gg := of_decide_eq_false hy
          have hb2 : (as.take (m + 1), gg) = leastT as ag := by
            rw [← hbk]
            exact (if_neg he).symm
          refine ss_retQ (eq_tup2 (EQ.tis (eq_slT (EE.tp (ee_var 0) ha2) eo_no (eo_of (ee_var 2))) (cut_to as (m + 1))) (EE.tp (ee_var 1) hq2)) fun v H3 e3 hv => hd v H3 ((e1.trans e2).trans e3) (ht v H3 ((e1.trans e2).trans e3) ?_)
          rw [← congrArg Prod.fst hb2, ← congrArg Prod.snd hb2]
          exact hv
end
end Fk
set_option maxRecDepth 100000
set_option maxHeartbeats 2000000
namespace Fk
open PySem PySem.Spec PyProof.Rows L2 Evl He
section
variable {P : Program} {w : World} {K : PySem.W.Frag} {mg : Str → Option Value} {base : Heap} {N : List Str} {sc : Scope} {k : Nat} {X : Cx} {σ : L2.St} {H : Hp} {a b c e : Expr} {x y : Str} {pos pos' px py pt : Pos} {rest : List Stmt} {D : Ends} {kt : Nat} {RR : V → V → Hp → Prop}
/-- x, y = e, e a tuple of two -/
theorem ss_set2 [B : Bx P w K mg base N sc k X] [G : Dx X] (m n : Nat) (h : EQ X e σ H fun v H1 => ∃ p u z, v = .ref p ∧ H1 p = some (.tup [u, z]) ∧ RR u z H1) (r : ∀ u z H1, Ex H H1 → RR u z H1 → SS X rest D ((σ.set m (some u)).set n (some z)) H1)
    (hN : N[m]? = some x := by rfl) (hN2 : N[n]? = some y := by rfl) (hv : locB sc x = true := by decide +kernel) (hv2 : locB sc y = true := by decide +kernel)
    (hs : swapsWithSole [.Tuple [.Name x px, .Name y py] kt pt] e pos.line X.env = pure false := by rfl) (hw : swappedStores [.Tuple [.Name x px, .Name y py] kt pt] e X.env = pure none := by rfl) :
    SS X (.Assign [.Tuple [.Name x px, .Name y py] kt pt] e pos :: rest) D σ H := fun H1 e1 =>
  wss_cons (ps_asg pe_w (pg_tup B.calm (pgs_cons (pg_name B.ndx (B.ix hN) (B.loc hv) (.inl (G.fn x))) (pgs_cons (pg_name B.ndx (B.ix hN2) (B.loc hv2) (.inl (G.fn y))) pgs_nil))) hs hw)
    (h H1 e1 _ fun v H2 e2 ⟨p, u, z, hv, hp, hr⟩ => ⟨p, [u, z], hv, st_of hp, rfl, u, [z], rfl, z, [], rfl, rfl, r u z H2 (e1.trans e2) hr H2 (Ex.refl H2)⟩)
/-- o.f as a target -/
theorem pg_fld {o : Expr} {f : Str} {to : TE} (ho : PE X o to) : PG X (.Attribute o f pos) (fun v σ H Q => to σ H fun x H1 => ∃ a C dx fs, x = .ref a ∧ H1 a = some (.ins C dx fs) ∧ Cls X.K C ∧ NoAttr X.K C f ∧ fs.length < 1000 ∧ Q σ (upd H1 a (.ins C dx (putF f v fs)))) := by
  refine ⟨fun pins s σ H v u Q I r h => ?_⟩
  rw [assign_Attribute]
  refine wpAny_bind (wpAny_holding (thn (ho.run pins s σ H _ I h) fun ov s1 ⟨x, H1, I1, rx, a, C, dx, fs, ex, ea, c, n, l, q⟩ => ?_))
  subst ex
  obtain rfl : ov = Value.ref a := rx
  refine wpAny_bind (wpAny_standAt (wpAny_bind (wpAny_holding (setattr_ok I1 ea c n l r fun s3 I3 => ?_))))
  exact wpAny_release ⟨σ, _, I3, q⟩
end

section
variable {K : PySem.W.Frag}
theorem kit_lt1 : PySem.W.kitAny K (.type "list") [.type "list", .type "tuple"] = some true := kitAny_cons (b := true) (kit_ty (by decide +kernel)) (fun h => Bool.noConfusion h) fun _ => rfl
theorem kit_lt2 : PySem.W.kitAny K (.type "tuple") [.type "list", .type "tuple"] = some true := kitAny_cons (b := false) (kit_ty (by decide +kernel)) (fun _ => kitAny_cons (b := true) (kit_ty (by decide +kernel)) (fun h => Bool.noConfusion h) fun _ => rfl) (fun h => Bool.noConfusion h)
end
/-- the numbers that a table is made of -/
structure Nums (b p : Int) (ns : List Int) : Prop where
  hb : 0 ≤ b
  hp : 1 ≤ p
  len : (ns.length : Int) = b + p
  most : b + p ≤ 1000
  wb : ∀ n ∈ ns, 0 ≤ n ∧ n ≤ 400
  fst : ns.getD 0 1 = 0
theorem intsK (ns : List Int) : (ns.map V.int).all (isK true) = true := by
  rw [List.all_map]
  exact List.all_eq_true.mpr fun _ _ => rfl
theorem leastT_mem : ∀ (as : List V) (m : Nat) (ag : List V), (∀ y ∈ (backT as m ag).1, y ∈ as) ∧ (∀ y ∈ (backT as m ag).2, y ∈ ag) ∧ (backT as m ag).1.length ≤ m ∧ (backT as m ag).2.length = ag.length
  | as, 0, ag => ⟨fun y h => absurd h (by simp [backT]), fun y h => h, Nat.le_refl _, rfl⟩
  | as, m + 1, ag => by
    unfold backT
    by_cases h : as.getD m .non = lastV ag
    · rw [if_pos h]
      obtain ⟨h1, h2, h3, h4⟩ := leastT_mem as m (rot ag)
      exact ⟨h1, fun y hy => rot_mem ag y (h2 y hy), Nat.le_succ_of_le h3, h4.trans (rot_len ag)⟩
    · rw [if_neg h]
      refine ⟨fun y hy => List.mem_of_mem_take hy, fun y hy => hy, ?_, rfl⟩
      show (as.take (m + 1)).length ≤ m + 1
      rw [List.length_take]
      omega
/-- the table that these numbers make -/
def mkA (b : Int) (ns : List Int) : List V := (leastT ((ns.take b.toNat).map V.int) ((ns.drop b.toNat).map V.int)).1
def mkG (b : Int) (ns : List Int) : List V := (leastT ((ns.take b.toNat).map V.int) ((ns.drop b.toNat).map V.int)).2
def mkT (b : Int) (ns : List Int) : Tb := ⟨((mkA b ns).length : Int), ((mkG b ns).length : Int), (mkA b ns ++ mkG b ns).map iv⟩
theorem mk_facts {b p : Int} {ns : List Int} (h : Nums b p ns) : (∀ y ∈ mkA b ns, ∃ i, y = .int i) ∧ (∀ y ∈ mkG b ns, ∃ i, y = .int i) ∧ (mkA b ns).length ≤ b.toNat ∧ 1 ≤ (mkG b ns).length ∧ (mkG b ns).length ≤ p.toNat := by
  have hl := h.len
  have hb := h.hb
  have hp := h.hp
  obtain ⟨h1, h2, h3, h4⟩ := leastT_mem ((ns.take b.toNat).map V.int) ((ns.take b.toNat).map V.int).length (shortT ((ns.drop b.toNat).map V.int))
  have hd : ((ns.drop b.toNat).map V.int).length = p.toNat := by rw [List.length_map, List.length_drop]; omega
  have ne : (ns.drop b.toNat).map V.int ≠ [] := fun e => by rw [e] at hd; simp at hd; omega
  have hs := List.length_pos_iff.mpr (short_ne ne)
  have hs2 := short_len ((ns.drop b.toNat).map V.int)
  refine ⟨fun y hy => ?_, fun y hy => ?_, ?_, ?_, ?_⟩
  · obtain ⟨i, _, rfl⟩ := List.mem_map.mp (h1 y hy)
    exact ⟨i, rfl⟩
  · obtain ⟨i, _, rfl⟩ := List.mem_map.mp (short_mem _ _ (h2 y hy))
    exact ⟨i, rfl⟩
  · refine Nat.le_trans h3 ?_
    rw [List.length_map, List.length_take]
    omega
  · show 1 ≤ (leastT _ _).2.length
    unfold leastT
    rw [h4]
    exact hs
  · show (leastT _ _).2.length ≤ _
    unfold leastT
    rw [h4]
    omega
theorem ints_iv : ∀ {xs : List V}, (∀ y ∈ xs, ∃ i, y = V.int i) → (xs.map iv).map V.int = xs
  | [], _ => rfl
  | x :: xs, h => by
    obtain ⟨i, rfl⟩ := h x (List.mem_cons_self ..)
    rw [List.map_cons, List.map_cons, ints_iv fun y hy => h y (List.mem_cons_of_mem _ hy)] <;> rfl
theorem mkT_ok {b p : Int} {ns : List Int} (h : Nums b p ns) : (mkT b ns).ok := by
  obtain ⟨h1, h2, h3, h4, h5⟩ := mk_facts h
  have := h.most
  have := h.hb
  have := h.hp
  refine ⟨?_, ?_, ?_, ?_⟩ <;> simp only [mkT]
  · omega
  · omega
  · rw [List.length_map, List.length_append]
    omega
  · omega
section
variable {P : Program} {w : World} {K : PySem.W.Frag} {mg : Str → Option Value} {base : Heap}
def R_are_worths : List V → Hp → (V → Hp → Prop) → Prop := fun vs H T => ∃ (l : Addr) (ns : List Int), vs = [.ref l, .int (ns.length : Int)] ∧ H l = some (.lst (ns.map V.int)) ∧ ns.length ≤ 1000 ∧ 1 ≤ ns.length ∧ (∀ n ∈ ns, 0 ≤ n ∧ n ≤ 400) ∧ ns.getD 0 1 = 0 ∧ Gives T H (.bl true)
theorem cl_are_worths [T : Tx K mg] : Cl P w K mg base 2 "are_worths" (spR R_are_worths) := by
  obtain ⟨fd, F⟩ := f_are_worths (K := K) (mg := mg)
  refine ⟨⟨_, FnOk.raw0 (ok_fn F sc_are_worths ?_ ?_) (F.bindsN fun _ _ _ _ _ _ us hl => match us, hl with | [_, _], _ => rfl), tglo "are_worths", F.kp⟩⟩
  · rintro vs H T ⟨l, ns, rfl, _⟩
    rfl
  · rintro X vs H T D B _ ⟨l, ns, rfl, hl, hz, h1, hw, h0, ht⟩ hd _
    refine ss_skip (ET.is (et_w (ew_or (et_not (et_val (ee_isi2 (tfre "isinstance") (ee_var 0) (ee_ty (tfre "list")) (ee_ty (tfre "tuple")) (.ty _) (.ty _) (.base (.lst hl)) kit_lt1))) fun _ => ew_or1 (et_neI (ee_lenL (tfre "len") (ee_var 0) (sq_of hl)) (ee_var 1)))) ?_) ?_
    · rw [List.length_map]
      simp
    refine ss_ret (EE.is (ee_and (ee_all (bs := ns.map fun _ => true) (tfre "all") (EL.is (LC.el (el_cLn 2 (fun _ => .bl true) (ee_var 0) (sq_of hl) (by rw [List.length_map]; omega) fun X' x H1 B' e1 hx => ?_)) ?_)) fun _ => ee_one (ee_eqI (ee_ixL (ee_var 0) ee_int (sq_of hl) (atI_ints (by omega) (by omega))) ee_int)) ?_) fun H1 e1 => hd (.bl true) _ e1 (ht _ e1)
    · obtain ⟨n, hn, rfl⟩ := List.mem_map.mp hx
      obtain ⟨h2, h3⟩ := hw n hn
      refine ee_call cl_is_integer (ea_cons (ee_var 2) (ea_cons ee_int (ea_cons (ee_num (tint "MOST_WORTH" 400)) ea_nil))) fun H2 _ => ⟨n, 0, 400, rfl, ?_⟩
      rw [decide_eq_true h2, decide_eq_true h3]
      exact Gives.me
    · rw [List.map_map, List.map_map]
      rfl
    · have e0 : ns.getD (0 : Int).toNat 0 = 0 := by
        cases ns with
        | nil => exact absurd h1 (by decide)
        | cons n ns => exact h0
      rw [e0, List.all_map]
      rw [show (ns.all (id ∘ fun _ => true)) = true from List.all_eq_true.mpr fun _ _ => rfl]
      rfl
def fsT (t : Tb) (N : Addr) : List (Str × V) := [("begin", .int t.b), ("period", .int t.p), ("numbers", .ref N)]
def I_Table : List V → Hp → (List (Str × V) → Hp → Prop) → Prop := fun vs H T => ∃ (l : Addr) (b p : Int) (ns : List Int), vs = [.int b, .int p, .ref l] ∧ H l = some (.lst (ns.map V.int)) ∧ Nums b p ns ∧
  ∀ N H', Ex H H' → H' N = some (.tup ((mkT b ns).ns.map V.int)) → T (fsT (mkT b ns) N) H'
theorem ma_Table [T : Tx K mg] : Ma P w K mg base 3 "Table" (ga K "Table") (spI (ga K "Table") I_Table) := by
  obtain ⟨fd, F⟩ := f_Table_init (K := K) (mg := mg)
  refine ⟨⟨_, FnOk.raw0 (ok_init F sc_Table_init ?_ ?_) (F.bindsN fun _ _ _ _ _ _ us hl => match us, hl with | [_, _, _, _], _ => rfl), tmak "Table", tglo "Table"⟩⟩
  · rintro vs H T ⟨l, b, p, ns, rfl, _⟩
    rfl
  · rintro X q dq vs H0 H T D B _ h0 e0 hq ⟨l, b, p, ns, rfl, hl0, hN, ht⟩ hd
    have hl : H l = some (.lst (ns.map V.int)) := e0 _ _ hl0
    have hb := hN.hb
    have hp := hN.hp
    have hlen := hN.len
    have hmost := hN.most
    have eb : ((b.toNat : Nat) : Int) = b := by omega
    refine ss_skip (et_not (et_val (ee_call (v := .bl true) cl_is_integer (ea_cons (ee_var 1) (ea_cons ee_int (ea_cons (ee_num (tint "MOST_PARTS" 1000)) ea_nil))) fun H2 _ => ⟨b, 0, 1000, rfl, by rw [decide_eq_true hb, decide_eq_true (show b ≤ 1000 by omega)]; exact Gives.me⟩))) ?_
    refine ss_skip (et_not (et_val (ee_call (v := .bl true) cl_is_integer (ea_cons (ee_var 2) (ea_cons ee_int (ea_cons (ee_num (tint "MOST_PARTS" 1000)) ea_nil))) fun H2 _ => ⟨p, 1, 1000, rfl, by rw [decide_eq_true hp, decide_eq_true (show p ≤ 1000 by omega)]; exact Gives.me⟩))) ?_
    refine ss_skip (et_not (et_val (ee_call (v := .bl true) cl_are_worths (ea_cons (ee_var 3) (ea_cons (ee_add (ee_var 1) (ee_var 2)) ea_nil)) fun H2 e2 => ⟨l, ns, by rw [hlen], e2 _ _ hl, by omega, by omega, hN.wb, hN.fst, Gives.me⟩))) ?_
    obtain ⟨m1, m2, m3, m4, m5⟩ := mk_facts hN
    have hk : (mkA b ns ++ mkG b ns).all (isK true) = true := List.all_eq_true.mpr fun y hy => by
      rcases List.mem_append.mp hy with h | h
      · obtain ⟨i, rfl⟩ := m1 y h
        rfl
      · obtain ⟨i, rfl⟩ := m2 y h
        rfl
    refine ss_set2 (RR := fun u z H1 => TP (mkA b ns) u H1 ∧ TP (mkG b ns) z H1) 4 5 (EvQ.imp (eq_call (T := PP (mkA b ns) (mkG b ns)) cl_least (eaq_cons (P1 := TP ((ns.take b.toNat).map V.int)) (eq_tupleL (tfre "tuple") (EL.lp (EL.is (eq_slL (EE.lp (ee_var 3) hl) eo_no (eo_of (EE.is (ee_var 1) (show V.int b = .int ((b.toNat : Nat) : Int) by rw [eb])))) (by rw [cut_to, List.map_take])))) fun v1 H1 e1 hv1 =>
      eaq_one (P1 := TP ((ns.drop b.toNat).map V.int)) (eq_tupleL (tfre "tuple") (EL.lp (EL.is (eq_slL (EE.lp (ee_var 3) (e1 _ _ hl)) (eo_of (EE.is (ee_var 1) (show V.int b = .int ((b.toNat : Nat) : Int) by rw [eb]))) eo_no) (by rw [cut_from, List.map_drop])))) (fun v2 H2 e2 hv2 => ?_) fun _ _ _ e p => p.up e)) fun v H1 e1 hv => ?_) fun u z H1 e1 hr => ?_
    · obtain ⟨q1, rfl, g1⟩ := hv1
      obtain ⟨q2, rfl, g2⟩ := hv2
      have hd1 : ((ns.drop b.toNat).map V.int).length = p.toNat := by rw [List.length_map, List.length_drop]; omega
      exact ⟨q1, q2, _, _, true, rfl, e2 _ _ g1, g2, intsK _, intsK _, by rw [List.length_map, List.length_take]; omega, by omega, by omega, fun v H' e h => h⟩
    · obtain ⟨p', q', r', h1, h2, h3, h4⟩ := hv
      exact ⟨p', _, _, h1, h2, ⟨q', rfl, h3⟩, ⟨r', rfl, h4⟩⟩
    · obtain ⟨⟨qa, rfl, ga⟩, ⟨qg, rfl, gg⟩⟩ := hr
      have na : qa ≠ q := ne_of ga (e1 _ _ hq) (by simp)
      have ng : qg ≠ q := ne_of gg (e1 _ _ hq) (by simp)
      refine ss_fld (e1 _ _ hq) (ee_var 0) (ee_lenT (tfre "len") (ee_var 4) (st_of ga)) (tcls "Table") (tfld "Table" "begin") (by decide) fun H2 e2 hq2 => ?_
      refine ss_fld hq2 (ee_var 0) (ee_lenT (tfre "len") (ee_var 5) (st_of (e2 _ _ ng gg))) (tcls "Table") (tfld "Table" "period") (show (1 : Nat) < 1000 by decide) fun H3 e3 hq3 => ?_
      refine ss_fldQ (T := TP (mkA b ns ++ mkG b ns)) hq3 (ee_var 0) (eq_tupD (eaq_star (EQ.orT (EE.tp (ee_var 4) (e3 _ _ na (e2 _ _ na ga)))) fun H4 e4 => eaq_star (EQ.orT (EE.tp (ee_var 5) (e4 _ _ (e3 _ _ ng (e2 _ _ ng gg))))) fun H5 e5 => eaq_nil fun _ _ => by rw [List.append_nil]) (by rw [List.length_append]; omega)) (tcls "Table") (tfld "Table" "numbers") (show (2 : Nat) < 1000 by decide) fun v H4 H5 e4 ⟨qn, hv, gn⟩ e5 hq5 => ?_
      subst hv
      have eT : (mkT b ns).ns.map V.int = mkA b ns ++ mkG b ns := ints_iv fun y hy => (List.mem_append.mp hy).elim (m1 y) (m2 y)
      refine ss_nil fun H6 e6 => hd _ (fsT (mkT b ns) qn) H6 ?_ (e6 _ _ hq5) (ht qn H6 ?_ ?_)
      · exact ((e5.to ((e3.to (e2.to (e0.trans e1) h0) h0).trans e4) h0)).trans e6
      · exact ((e5.to ((e3.to (e2.to (e0.trans e1) h0) h0).trans e4) h0)).trans e6
      · rw [eT]
        exact e6 _ _ (e5 _ _ (ne_of gn (e4 _ _ hq3) (by simp)) gn)
end
end Fk
set_option maxRecDepth 100000
set_option maxHeartbeats 2000000
namespace Fk
open PySem PySem.Spec PyProof.Rows L2 Evl He
/-- a Greatest over a table | a set of sizes -/
def GrAt (K : PySem.W.Frag) (t : Tb) (v : V) (H : Hp) : Prop := ∃ o, TbAt K t o H ∧ InsAt K "Greatest" [("table", o)] v H
theorem GrAt.up {K : PySem.W.Frag} {t : Tb} {v : V} {H H' : Hp} (h : GrAt K t v H) (e : Ex H H') : GrAt K t v H' := by
  obtain ⟨o, h1, h2⟩ := h
  exact ⟨o, h1.up e, h2.up e⟩
def SzAt (K : PySem.W.Frag) (as ag : List V) (v : V) (H : Hp) : Prop := ∃ p q, H p = some (.tup as) ∧ H q = some (.tup ag) ∧ InsAt K "Sizes" [("ahead", .ref p), ("again", .ref q)] v H
theorem SzAt.up {K : PySem.W.Frag} {as ag : List V} {v : V} {H H' : Hp} (h : SzAt K as ag v H) (e : Ex H H') : SzAt K as ag v H' := by
  obtain ⟨p, q, h1, h2, h3⟩ := h
  exact ⟨p, q, e _ _ h1, e _ _ h2, h3.up e⟩
section
variable {P : Program} {w : World} {K : PySem.W.Frag} {mg : Str → Option Value} {base : Heap}
/-! ### equal tables -/
theorem tb_ins {t : Tb} {v : V} {H : Hp} (h : TbAt K t v H) : ∃ N, H N = some (.tup (t.ns.map V.int)) ∧ InsAt K "Table" (fsT t N) v H := h.2
theorem ints_flat (ns : List Int) : (ns.map V.int).all fl = true := allK_fl (intsK ns)
def R_Table_eq : List V → Hp → (V → Hp → Prop) → Prop := fun vs H T => ∃ (t u : Tb) (a b : V), vs = [a, b] ∧ TbAt K t a H ∧ TbAt K u b H ∧ Gives T H (.bl (decide (t.b = u.b) && decide (t.ns = u.ns)))
theorem fn_Table_eq [T : Tx K mg] : FnR P w K mg base CX0 1 (ma K (ga K "Table") "__eq__") (spR (R_Table_eq (K := K))) := by
  obtain ⟨fd, F⟩ := f_Table_eq (K := K) (mg := mg)
  refine FnOk.raw0 (ok_fn F sc_Table_eq ?_ ?_) (F.bindsN fun _ _ _ _ _ _ us hl => match us, hl with | [_, _], _ => rfl)
  · rintro vs H T ⟨t, u, a, b, rfl, _⟩
    rfl
  · rintro X vs H T D B _ ⟨t, u, a, b, rfl, ⟨_, N, hN, p, dp, rfl, hp⟩, ⟨_, M, hM, q, dq, rfl, hq⟩, ht⟩ hd _
    refine ss_skip (et_not (et_val (ee_isi (tfre "isinstance") (ee_var 1) (ee_obj (tglo "Table")) (.own _) (ty_Table hq) k_Table_Table))) ?_
    refine ss_ret (EE.is (ee_and (ee_eqI (ee_fld (ee_var 0) hp (tcls "Table") (tfld "Table" "begin") rfl) (ee_fld (ee_var 1) hq (tcls "Table") (tfld "Table" "begin") rfl)) fun _ => ee_one (ee_eqT (EE.tp (ee_fld (ee_var 0) hp (tcls "Table") (tfld "Table" "numbers") rfl) hN) (EE.tp (ee_fld (ee_var 1) hq (tcls "Table") (tfld "Table" "numbers") rfl) hM) (ints_flat _) (ints_flat _))) ?_) fun H1 e1 => hd _ _ e1 (ht _ e1)
    rw [eqT_ints]
/-! ### Greatest(table) -/
def I_Greatest : List V → Hp → (List (Str × V) → Hp → Prop) → Prop := fun vs H T => ∃ (t : Tb) (o : V), vs = [o] ∧ TbAt K t o H ∧ ∀ H', Ex H H' → T [("table", o)] H'
theorem ma_Greatest [T : Tx K mg] : Ma P w K mg base 1 "Greatest" (ga K "Greatest") (spI (ga K "Greatest") (I_Greatest (K := K))) := by
  obtain ⟨fd, F⟩ := f_Greatest_init (K := K) (mg := mg)
  refine ⟨⟨_, FnOk.raw0 (ok_init F sc_Greatest_init ?_ ?_) (F.bindsN fun _ _ _ _ _ _ us hl => match us, hl with | [_, _], _ => rfl), tmak "Greatest", tglo "Greatest"⟩⟩
  · rintro vs H T ⟨t, o, rfl, _⟩
    rfl
  · rintro X q dq vs H0 H T D B _ h0 e0 hq ⟨t, o, rfl, hT, ht⟩ hd
    obtain ⟨_, N, hN, p, dp, rfl, hp⟩ := hT.up e0
    refine ss_skip (et_not (et_val (ee_isi (tfre "isinstance") (ee_var 1) (ee_obj (tglo "Table")) (.own _) (ty_Table hp) k_Table_Table))) ?_
    refine ss_fld hq (ee_var 0) (ee_var 1) (tcls "Greatest") (tfld "Greatest" "table") (by decide) fun H1 e1 hq1 => ss_nil fun H2 e2 => hd _ _ H2 ((e1.to e0 h0).trans e2) (e2 _ _ hq1) (ht H2 ((e1.to e0 h0).trans e2))
/-! ### bools -/
theorem blsK (bs : List Bool) : (bs.map V.bl).all (isK false) = true := by
  rw [List.all_map]
  exact List.all_eq_true.mpr fun _ _ => rfl
def R_are_bools : List V → Hp → (V → Hp → Prop) → Prop := fun vs H T => ∃ (l : Addr) (bs : List Bool), vs = [.ref l] ∧ H l = some (.lst (bs.map V.bl)) ∧ bs.length ≤ 1000 ∧ Gives T H (.bl true)
theorem cl_are_bools [T : Tx K mg] : Cl P w K mg base 1 "are_bools" (spR R_are_bools) := by
  obtain ⟨fd, F⟩ := f_are_bools (K := K) (mg := mg)
  refine ⟨⟨_, FnOk.raw0 (ok_fn F sc_are_bools ?_ ?_) (F.bindsN fun _ _ _ _ _ _ us hl => match us, hl with | [_], _ => rfl), tglo "are_bools", F.kp⟩⟩
  · rintro vs H T ⟨l, bs, rfl, _⟩
    rfl
  · rintro X vs H T D B _ ⟨l, bs, rfl, hl, hz, ht⟩ hd _
    refine ss_ret (EE.is (ee_and (ee_isi2 (tfre "isinstance") (ee_var 0) (ee_ty (tfre "list")) (ee_ty (tfre "tuple")) (.ty _) (.ty _) (.base (.lst hl)) kit_lt1) fun _ => ee_one (ee_all (bs := bs.map fun _ => true) (tfre "all") (EL.is (LC.el (el_cLn 1 (fun _ => .bl true) (ee_var 0) (sq_of hl) (by rw [List.length_map]; omega) fun X' x H1 B' e1 hx => ?_)) ?_))) ?_) fun H1 e1 => hd (.bl true) _ e1 (ht _ e1)
    · obtain ⟨n, hn, rfl⟩ := List.mem_map.mp hx
      exact ee_isi (tfre "isinstance") (ee_var 1) (ee_ty (tfre "bool")) (.ty _) (.base (.bl n)) (kit_ty (by decide +kernel))
    · rw [List.map_map, List.map_map]
      rfl
    · rw [List.all_map, show (bs.all (id ∘ fun _ => true)) = true from List.all_eq_true.mpr fun _ _ => rfl]
      rfl
/-! ### Sizes(ahead, again) -/
def szA (as ag : List Bool) : List V := (leastT (as.map V.bl) (ag.map V.bl)).1
def szG (as ag : List Bool) : List V := (leastT (as.map V.bl) (ag.map V.bl)).2
theorem sz_fl (as ag : List Bool) : (szA as ag).all fl = true ∧ (szG as ag).all fl = true := by
  obtain ⟨h1, h2, _, _⟩ := leastT_mem (as.map V.bl) (as.map V.bl).length (shortT (ag.map V.bl))
  exact ⟨allK_fl (allK_mem (blsK as) h1), allK_fl (allK_mem (allK_mem (blsK ag) (short_mem _)) h2)⟩
def I_Sizes : List V → Hp → (List (Str × V) → Hp → Prop) → Prop := fun vs H T => ∃ (l m : Addr) (as ag : List Bool), vs = [.ref l, .ref m] ∧ H l = some (.lst (as.map V.bl)) ∧ H m = some (.lst (ag.map V.bl)) ∧ as.length + ag.length ≤ 1000 ∧ 1 ≤ ag.length ∧
  ∀ p q H', Ex H H' → H' p = some (.tup (szA as ag)) → H' q = some (.tup (szG as ag)) → T [("ahead", .ref p), ("again", .ref q)] H'
theorem ma_Sizes [T : Tx K mg] : Ma P w K mg base 3 "Sizes" (ga K "Sizes") (spI (ga K "Sizes") I_Sizes) := by
  obtain ⟨fd, F⟩ := f_Sizes_init (K := K) (mg := mg)
  refine ⟨⟨_, FnOk.raw0 (ok_init F sc_Sizes_init ?_ ?_) (F.bindsN fun _ _ _ _ _ _ us hl => match us, hl with | [_, _, _], _ => rfl), tmak "Sizes", tglo "Sizes"⟩⟩
  · rintro vs H T ⟨l, m, as, ag, rfl, _⟩
    rfl
  · rintro X q dq vs H0 H T D B G h0 e0 hq ⟨l, m, as, ag, rfl, hl0, hm0, hz, h1, ht⟩ hd
    have hl := e0 _ _ hl0
    have hm := e0 _ _ hm0
    refine ss_skip (et_not (et_val (ee_call (v := .bl true) cl_are_bools (ea_cons (ee_var 1) ea_nil) fun H2 e2 => ⟨l, as, rfl, e2 _ _ hl, by omega, Gives.me⟩))) ?_
    refine ss_skip (ET.is (et_w (ew_or (et_not (et_val (ee_call (v := .bl true) cl_are_bools (ea_cons (ee_var 2) ea_nil) fun H2 e2 => ⟨m, ag, rfl, e2 _ _ hm, by omega, Gives.me⟩))) fun _ => ew_or1 (et_eqI (ee_lenL (tfre "len") (ee_var 2) (sq_of hm)) ee_int))) ?_) ?_
    · rw [List.length_map]
      show decide ((ag.length : Int) = 0) = false
      exact decide_eq_false (by omega)
    refine ss_skip (ET.is (et_gt (ee_add (ee_lenL (tfre "len") (ee_var 1) (sq_of hl)) (ee_lenL (tfre "len") (ee_var 2) (sq_of hm))) (ee_num (tint "MOST_SIZES" 1000))) ?_) ?_
    · rw [List.length_map, List.length_map]
      exact decide_eq_false (by omega)
    refine fun H1 e1 => wss_cons (ps_asg pe_w (pg_tup B.calm (pgs_cons (pg_fld pe_w) (pgs_cons (pg_fld pe_w) pgs_nil))) rfl rfl) ?_
    refine (eq_call (T := PP (szA as ag) (szG as ag)) cl_least (eaq_cons (P1 := TP (as.map V.bl)) (eq_tupleL (tfre "tuple") (EE.lp (ee_var 1) hl)) fun v1 H1 e1 hv1 => eaq_one (P1 := TP (ag.map V.bl)) (eq_tupleL (tfre "tuple") (EE.lp (ee_var 2) (e1 _ _ hm))) (fun v2 H2 e2 hv2 => ?_) fun _ _ _ e p => p.up e)) H1 e1 _ fun v H2 e2 hv => ?_
    · obtain ⟨q1, rfl, g1⟩ := hv1
      obtain ⟨q2, rfl, g2⟩ := hv2
      exact ⟨q1, q2, _, _, false, rfl, e2 _ _ g1, g2, blsK _, blsK _, by rw [List.length_map]; omega, by rw [List.length_map]; omega, by rw [List.length_map]; omega, fun v H' e h => h⟩
    · obtain ⟨pp, pa, pg, rfl, hpp, hpa, hpg⟩ := hv
      have hq2 : H2 q = some (.ins (ga K "Sizes") dq []) := e2 _ _ (e1 _ _ hq)
      have na : pa ≠ q := ne_of hpa hq2 (by simp)
      have ng : pg ≠ q := ne_of hpg hq2 (by simp)
      refine ⟨pp, [.ref pa, .ref pg], rfl, st_of hpp, rfl, .ref pa, [.ref pg], rfl, ?_⟩
      refine (show EE X _ _ H2 (V.ref q) from ee_var 0) H2 (Ex.refl H2) _ fun H3 e3 => ⟨q, ga K "Sizes", dq, [], rfl, e3 _ _ hq2, by rw [B.qK]; exact tcls "Sizes", by rw [B.qK]; exact tfld "Sizes" "ahead", by decide, .ref pg, [], rfl, ?_⟩
      refine (show EE X _ _ _ (V.ref q) from ee_var 0) _ (Ex.refl _) _ fun H4 e4 => ⟨q, ga K "Sizes", dq, _, rfl, e4 _ _ upd_same, by rw [B.qK]; exact tcls "Sizes", by rw [B.qK]; exact tfld "Sizes" "again", show (1 : Nat) < 1000 by decide, rfl, ?_⟩
      refine ss_nil (fun H5 e5 => ?_) _ (Ex.refl _)
      have b3 : ExB q H2 (upd H3 q (.ins (ga K "Sizes") dq (putF "ahead" (.ref pa) []))) := fun b o hb h => by
        rw [upd_ne hb]
        exact e3 _ _ h
      have b4 : ExB q H2 (upd H4 q (.ins (ga K "Sizes") dq (putF "again" (.ref pg) (putF "ahead" (.ref pa) [])))) := fun b o hb h => by
        rw [upd_ne hb]
        exact e4 _ _ (b3 b o hb h)
      have ex : Ex H0 H5 := (b4.to ((e0.trans e1).trans e2) h0).trans e5
      exact hd _ _ H5 ex (e5 _ _ upd_same) (ht pa pg H5 ex (e5 _ _ (b4 _ _ na hpa)) (e5 _ _ (b4 _ _ ng hpg)))
def R_Sizes_eq : List V → Hp → (V → Hp → Prop) → Prop := fun vs H T => ∃ (as ag bs bg : List V) (a b : V), vs = [a, b] ∧ SzAt K as ag a H ∧ SzAt K bs bg b H ∧ as.all fl = true ∧ ag.all fl = true ∧ bs.all fl = true ∧ bg.all fl = true ∧ Gives T H (.bl (eqT as bs && eqT ag bg))
theorem fn_Sizes_eq [T : Tx K mg] : FnR P w K mg base CX0 1 (ma K (ga K "Sizes") "__eq__") (spR (R_Sizes_eq (K := K))) := by
  obtain ⟨fd, F⟩ := f_Sizes_eq (K := K) (mg := mg)
  refine FnOk.raw0 (ok_fn F sc_Sizes_eq ?_ ?_) (F.bindsN fun _ _ _ _ _ _ us hl => match us, hl with | [_, _], _ => rfl)
  · rintro vs H T ⟨as, ag, bs, bg, a, b, rfl, _⟩
    rfl
  · rintro X vs H T D B _ ⟨as, ag, bs, bg, a, b, rfl, ⟨pa, pg, hpa, hpg, p, dp, rfl, hp⟩, ⟨qa, qg, hqa, hqg, q, dq, rfl, hq⟩, f1, f2, f3, f4, ht⟩ hd _
    refine ss_ret (EE.is (ee_and (ee_isi (tfre "isinstance") (ee_var 1) (ee_obj (tglo "Sizes")) (.own _) (ty_Sizes hq) k_Sizes_Sizes) fun _ => ee_and (ee_eqT (EE.tp (ee_fld (ee_var 0) hp (tcls "Sizes") (tfld "Sizes" "ahead") rfl) hpa) (EE.tp (ee_fld (ee_var 1) hq (tcls "Sizes") (tfld "Sizes" "ahead") rfl) hqa) f1 f3) fun _ => ee_one (ee_eqT (EE.tp (ee_fld (ee_var 0) hp (tcls "Sizes") (tfld "Sizes" "again") rfl) hpg) (EE.tp (ee_fld (ee_var 1) hq (tcls "Sizes") (tfld "Sizes" "again") rfl) hqg) f2 f4)) rfl) fun H1 e1 => hd _ _ e1 (ht _ e1)
end
end Fk
set_option maxRecDepth 100000
set_option maxHeartbeats 2000000
namespace Fk
open PySem PySem.Spec PyProof.Rows L2 Evl He
section
variable {P : Program} {w : World} {K : PySem.W.Frag} {mg : Str → Option Value} {base : Heap} {N : List Str} {sc : Scope} {j k : Nat} {X : Cx} {σ : L2.St} {H : Hp} {o e : Expr} {es : List Expr} {vs : List V} {m : Str} {pos apos : Pos} {rest : List Stmt} {D : Ends} {C f p : Addr} {sp : Sp}
/-- C.m(e, ..), m a def of the class at C, as a function -/
theorem cf_raw [B : Bx P w K mg base N sc k X] {pl : Sem Bool} (r : ClX.CRead K C (.type "type")) (c : ClX.CVal K C (.type "type") m (.ref f) (.ref f) ∧ PySem.W.keepIn K (.ref f) = true) (F : FnR P w K mg base CX0 j f sp) (hj : j ≤ k)
    (hst : starEach (e :: es) X.env = (false, eval e X.env) :: starEach es X.env) (hpl : (backTo pos (starEach es X.env)).any (·.1) = false)
    (ht : eval (.Call (.Attribute o m apos) (e :: es) [] pos) X.env = (do
      let ov ← eval o X.env
      standAt apos.atName
      let (f, first) ← holding [ov] (getMethod ov m pl)
      callWith pos f first (backTo pos (starEach (e :: es) X.env)) (backToKw pos (keywordEach [] X.env)))) :
    PE X (.Call (.Attribute o m apos) (e :: es) [] pos) (fun σ H Q => wE X o σ H fun x H1 => x = .ref C ∧ wA X (e :: es) σ H1 fun vs H2 => sp vs H2 Q E0) := by
  obtain ⟨rfl, rfl, rfl, rfl, rfl, _, _, _, _, hr⟩ := id B
  refine ⟨fun pins s σ H Q I h => ?_⟩
  refine PySem.W.methodCall_KW (pl := pl) (thn (pe_w.run pins s σ H _ I h) fun u s1 ⟨x, H1, I1, rx, ex, q⟩ => ?_) ht
  subst ex
  obtain rfl : u = Value.ref C := rx
  refine PySem.W.method_cls I1.kIn r.ga (ClX.getcval_ok I1 r c.1 fun s2 I2 => ?_)
  refine PySem.W.callWith_K (first := []) (h₀ := X.base) I2.ok.mod.kin c.2 (thn (pa_w.run pos pins s2 σ H1 _ I2 q) fun us s3 ⟨vs, H2, I3, rv, q2⟩ => ⟨I3.kIn, ?_⟩) hst hpl
  exact wpAny_call (run_fnR F (hr.mono hj) pass0 I3 rv q2)
/-- C.m(self, ..) that changes self alone -/
theorem ss_cfun [B : Bx P w K mg base N sc k X] {pl : Sem Bool} {ob : HO} (r : ClX.CRead K C (.type "type")) (c : ClX.CVal K C (.type "type") m (.ref f) (.ref f) ∧ PySem.W.keepIn K (.ref f) = true) (F : FnR P w K mg base CX0 j f sp) (hj : j ≤ k) (ho : EE X o σ H (.ref C)) (ha : EA X (e :: es) σ H vs)
    (hs : ∀ H1, Ex H H1 → ∀ Q : VK, (∀ v H2, ExB p H1 H2 → H2 p = some ob → Q v H2) → sp vs H1 Q E0) (q : ∀ H1, ExB p H H1 → H1 p = some ob → SS X rest D σ H1)
    (hst : starEach (e :: es) X.env = (false, eval e X.env) :: starEach es X.env := by rfl) (hpl : (backTo pos (starEach es X.env)).any (·.1) = false := by rfl)
    (ht : eval (.Call (.Attribute o m apos) (e :: es) [] pos) X.env = (do
      let ov ← eval o X.env
      standAt apos.atName
      let (f, first) ← holding [ov] (getMethod ov m pl)
      callWith pos f first (backTo pos (starEach (e :: es) X.env)) (backToKw pos (keywordEach [] X.env))) := by rfl) (hsw : swapsWith (.Call (.Attribute o m apos) (e :: es) [] pos) none pos.line X.env = pure false := by rfl) :
    SS X (.Expr (.Call (.Attribute o m apos) (e :: es) [] pos) pos :: rest) D σ H := fun H1 e1 =>
  wss_cons (ps_expr (cf_raw (pl := pl) r c F hj hst hpl ht) hsw) (ho H1 e1 _ fun H2 e2 => ⟨rfl, ha H2 (e1.trans e2) _ fun H3 e3 => hs H3 ((e1.trans e2).trans e3) _ fun v H4 e4 h4 => q H4 (fun b ob hb h => e4 b ob hb (e3 _ _ (e2 _ _ (e1 _ _ h)))) h4 _ (Ex.refl _)⟩)
end
section
variable {P : Program} {w : World} {K : PySem.W.Frag} {mg : Str → Option Value} {base : Heap}
/-! ### the parts of a rule -/
def R_need_part : List V → Hp → (V → Hp → Prop) → Prop := fun vs H T => ∃ (v l m : Int) (x : Str), vs = [.int v, .int l, .int m, .str x] ∧ l ≤ v ∧ v ≤ m ∧ Gives T H .non
theorem cl_need_part [T : Tx K mg] : Cl P w K mg base 2 "need_part" (spR R_need_part) := by
  obtain ⟨fd, F⟩ := f_need_part (K := K) (mg := mg)
  refine ⟨⟨_, FnOk.raw0 (ok_fn F sc_need_part ?_ ?_) (F.bindsN fun _ _ _ _ _ _ us hl => match us, hl with | [_, _, _, _], _ => rfl), tglo "need_part", F.kp⟩⟩
  · rintro vs H T ⟨v, l, m, x, rfl, _⟩
    rfl
  · rintro X vs H T D B _ ⟨v, l, m, x, rfl, h1, h2, ht⟩ _ hr
    exact ss_skip (et_not (et_val (ee_call (v := .bl true) cl_is_integer (ea_cons (ee_var 0) (ea_cons (ee_var 1) (ea_cons (ee_var 2) ea_nil))) fun H1 _ => ⟨v, l, m, rfl, by rw [decide_eq_true h1, decide_eq_true h2]; exact Gives.me⟩))) (ss_nil fun H1 e1 => hr _ _ e1 (ht _ e1))
/-- self.a = .., self.b = ..: an instance of C gets two more attributes -/
def spTwo (R : Addr → V → V → Prop) (a b : Str) : Sp := fun vs H Q _ => ∃ (x C dx : Addr) (fs : List (Str × V)) (u v : V), vs = [.ref x, u, v] ∧ H x = some (.ins C dx fs) ∧ fs.length ≤ 900 ∧ R C u v ∧ ∀ H', ExB x H H' → H' x = some (.ins C dx (putF b v (putF a u fs))) → Q .non H'
def R_rested : Addr → V → V → Prop := fun C u v => (C = ga K "Fixed" ∨ C = ga K "Down") ∧ ∃ r m : Int, u = .int r ∧ v = .int m ∧ 1 ≤ m ∧ m ≤ 6 ∧ 0 ≤ r ∧ r < m
theorem fn_Rested [T : Tx K mg] : FnR P w K mg base CX0 3 (ma K (ga K "Rested") "__init__") (spTwo (R_rested (K := K)) "rest" "modulus") := by
  obtain ⟨fd, F⟩ := f_Rested_init (K := K) (mg := mg)
  refine FnOk.raw0 (fn_by F sc_Rested_init ?_ ?_) (F.bindsN fun _ _ _ _ _ _ us hl => match us, hl with | [_, _, _], _ => rfl)
  · rintro vs H Q E ⟨x, C, dx, fs, u, v, rfl, _⟩
    rfl
  · rintro X vs H Q E B _ ⟨x, C, dx, fs, u, v, rfl, hx, hz, ⟨hC, r, m, rfl, rfl, h1, h2, h3, h4⟩, hq⟩
    have cl : Cls K C ∧ NoAttr K C "rest" ∧ NoAttr K C "modulus" := by
      rcases hC with rfl | rfl
      · exact ⟨tcls "Fixed", tfld "Fixed" "rest", tfld "Fixed" "modulus"⟩
      · exact ⟨tcls "Down", tfld "Down" "rest", tfld "Down" "modulus"⟩
    refine (show SS X _ _ _ H from ?_) H (Ex.refl H)
    refine ss_drop (ee_call (v := .non) cl_need_part (ea_cons (ee_var 2) (ea_cons ee_int (ea_cons (ee_num (tint "MOST_MODULUS" 6)) (ea_cons ee_str ea_nil)))) fun H1 _ => ⟨m, 1, 6, _, rfl, h1, h2, Gives.me⟩) ?_
    refine ss_drop (ee_call (v := .non) cl_need_part (ea_cons (ee_var 1) (ea_cons ee_int (ea_cons (ee_sub (ee_var 2) ee_int) (ea_cons ee_str ea_nil)))) fun H1 _ => ⟨r, 0, m - 1, _, rfl, h3, by omega, Gives.me⟩) ?_
    refine ss_fld hx (ee_var 0) (ee_var 1) cl.1 cl.2.1 (by omega) fun H1 e1 hx1 => ?_
    refine ss_fld hx1 (ee_var 0) (ee_var 2) cl.1 cl.2.2 (by have := length_putF "rest" (.int r) fs; omega) fun H2 e2 hx2 => ss_nil fun H3 e3 => hq H3 (fun b o hb h => e3 _ _ (e2 b o hb (e1 b o hb h))) (e3 _ _ hx2)
def R_sized : Addr → V → V → Prop := fun C u v => C = ga K "Fixed" ∧ ∃ s l : Int, u = .int s ∧ v = .int l ∧ 1 ≤ s ∧ s ≤ 400 ∧ 0 ≤ l ∧ l ≤ 400
theorem fn_Sized [T : Tx K mg] : FnR P w K mg base CX0 3 (ma K (ga K "Sized") "__init__") (spTwo (R_sized (K := K)) "size" "leave") := by
  obtain ⟨fd, F⟩ := f_Sized_init (K := K) (mg := mg)
  refine FnOk.raw0 (fn_by F sc_Sized_init ?_ ?_) (F.bindsN fun _ _ _ _ _ _ us hl => match us, hl with | [_, _, _], _ => rfl)
  · rintro vs H Q E ⟨x, C, dx, fs, u, v, rfl, _⟩
    rfl
  · rintro X vs H Q E B _ ⟨x, C, dx, fs, u, v, rfl, hx, hz, ⟨rfl, r, m, rfl, rfl, h1, h2, h3, h4⟩, hq⟩
    refine (show SS X _ _ _ H from ?_) H (Ex.refl H)
    refine ss_drop (ee_call (v := .non) cl_need_part (ea_cons (ee_var 1) (ea_cons ee_int (ea_cons (ee_num (tint "MOST_NUMBER" 400)) (ea_cons ee_str ea_nil)))) fun H1 _ => ⟨r, 1, 400, _, rfl, h1, h2, Gives.me⟩) ?_
    refine ss_drop (ee_call (v := .non) cl_need_part (ea_cons (ee_var 2) (ea_cons ee_int (ea_cons (ee_num (tint "MOST_NUMBER" 400)) (ea_cons ee_str ea_nil)))) fun H1 _ => ⟨m, 0, 400, _, rfl, h3, by omega, Gives.me⟩) ?_
    refine ss_fld hx (ee_var 0) (ee_var 1) (tcls "Fixed") (tfld "Fixed" "size") (by omega) fun H1 e1 hx1 => ?_
    refine ss_fld hx1 (ee_var 0) (ee_var 2) (tcls "Fixed") (tfld "Fixed" "leave") (by have := length_putF "size" (.int r) fs; omega) fun H2 e2 hx2 => ss_nil fun H3 e3 => hq H3 (fun b o hb h => e3 _ _ (e2 b o hb (e1 b o hb h))) (e3 _ _ hx2)
/-! ### Fixed(..), Down(..) -/
def I_Fixed : List V → Hp → (List (Str × V) → Hp → Prop) → Prop := fun vs H T => ∃ n r m l : Int, vs = [.int n, .int r, .int m, .int l] ∧ (Rl.fixed n r m l).ok ∧ ∀ H', Ex H H' → T (Rl.fixed n r m l).fs H'
theorem fn_Fixed [T : Tx K mg] : ∃ fd, FunD K "__init__" "Fixed.__init__" (defArgs s_Fixed_init) (defBody s_Fixed_init) (defScope s_Fixed_init) [.int 0, .int 1, .int 0] [] (ma K (ga K "Fixed") "__init__") fd ∧ FnOk P w K mg base CX0 4 (ma K (ga K "Fixed") "__init__") fd ["self", "size", "rest", "modulus", "leave"] (spI (ga K "Fixed") I_Fixed) := by
  obtain ⟨fd, F⟩ := f_Fixed_init (K := K) (mg := mg)
  refine ⟨fd, F, ok_init F sc_Fixed_init ?_ ?_⟩
  · rintro vs H T ⟨n, r, m, l, rfl, _⟩
    rfl
  · rintro X q dq vs H0 H T D B _ h0 e0 hq ⟨n, r, m, l, rfl, hok, ht⟩ hd
    obtain ⟨k1, k2, k3, k4, k5, k6, k7, k8⟩ := hok
    refine ss_cfun (p := q) (ob := .ins (ga K "Fixed") dq (putF "leave" (.int l) (putF "size" (.int n) []))) rd_Sized cf_Sized fn_Sized (by decide) (ee_obj (tglo "Sized")) (ea_cons (ee_var 0) (ea_cons (ee_var 1) (ea_cons (ee_var 4) ea_nil))) (fun H1 e1 Q hQ => ⟨q, _, dq, [], _, _, rfl, e1 _ _ hq, by decide, ⟨rfl, n, l, rfl, rfl, k1, k2, k3, k4⟩, fun H' e h => hQ _ H' e h⟩) fun H1 e1 hq1 => ?_
    refine ss_cfun (p := q) (ob := .ins (ga K "Fixed") dq (putF "modulus" (.int m) (putF "rest" (.int r) (putF "leave" (.int l) (putF "size" (.int n) []))))) rd_Rested cf_Rested fn_Rested (by decide) (ee_obj (tglo "Rested")) (ea_cons (ee_var 0) (ea_cons (ee_var 2) (ea_cons (ee_var 3) ea_nil))) (fun H2 e2 Q hQ => ⟨q, _, dq, _, _, _, rfl, e2 _ _ hq1, show (2 : Nat) ≤ 900 by decide, ⟨.inl rfl, r, m, rfl, rfl, k5, k6, k7, k8⟩, fun H' e h => hQ _ H' e h⟩) fun H2 e2 hq2 => ?_
    refine ss_fld hq2 (ee_var 0) (ee_add (ee_var 1) (ee_var 4)) (tcls "Fixed") (tfld "Fixed" "start") (show (4 : Nat) < 1000 by decide) fun H3 e3 hq3 => ?_
    refine ss_fld hq3 (ee_var 0) (ee_var 1) (tcls "Fixed") (tfld "Fixed" "reach") (show (5 : Nat) < 1000 by decide) fun H4 e4 hq4 => ss_nil fun H5 e5 => ?_
    have ex : Ex H0 H5 := (e4.to (e3.to (e2.to (e1.to e0 h0) h0) h0) h0).trans e5
    exact hd _ _ H5 ex (e5 _ _ hq4) (ht H5 ex)
theorem ma_Fixed [T : Tx K mg] : Ma P w K mg base 4 "Fixed" (ga K "Fixed") (spI (ga K "Fixed") I_Fixed) := by
  obtain ⟨fd, F, O⟩ := fn_Fixed (P := P) (w := w) (K := K) (mg := mg) (base := base)
  obtain ⟨ds, hd, hb⟩ := F.binds1 (ps := ["self", "size", "rest", "modulus", "leave"]) 5 3 (by simp) rfl fun T kV doc pm an cdv ct us its l1 l2 => match us, its, l1, l2 with | [_, _, _, _, _], [_, _, _], _, _ => ⟨_, rfl, rfl⟩
  exact ⟨⟨_, (O.raw hb hd).imp fun vs H Q E h => by
    show spI _ _ (vs ++ []) H Q E
    rw [List.append_nil]
    exact h, tmak "Fixed", tglo "Fixed"⟩⟩
def I_Down : List V → Hp → (List (Str × V) → Hp → Prop) → Prop := fun vs H T => ∃ n r m : Int, vs = [.int n, .int r, .int m] ∧ (Rl.down n r m).ok ∧ ∀ H', Ex H H' → T (Rl.down n r m).fs H'
theorem ma_Down [T : Tx K mg] : Ma P w K mg base 4 "Down" (ga K "Down") (spI (ga K "Down") I_Down) := by
  obtain ⟨fd, F⟩ := f_Down_init (K := K) (mg := mg)
  obtain ⟨ds, hd, hb⟩ := F.binds1 (ps := ["self", "to", "rest", "modulus"]) 4 2 (by simp) rfl fun T kV doc pm an cdv ct us its l1 l2 => match us, its, l1, l2 with | [_, _, _, _], [_, _], _, _ => ⟨_, rfl, rfl⟩
  refine ⟨⟨_, (FnOk.raw (ok_init (C := ga K "Down") (R := I_Down) F sc_Down_init ?_ ?_) hb hd).imp fun vs H Q E h => by
    show spI _ _ (vs ++ []) H Q E
    rw [List.append_nil]
    exact h, tmak "Down", tglo "Down"⟩⟩
  · rintro vs H T ⟨n, r, m, rfl, _⟩
    rfl
  · rintro X q dq vs H0 H T D B _ h0 e0 hq ⟨n, r, m, rfl, hok, ht⟩ hd
    obtain ⟨k1, k2, k5, k6, k7, k8⟩ := hok
    refine ss_drop (ee_call (v := .non) cl_need_part (ea_cons (ee_var 1) (ea_cons ee_int (ea_cons (ee_num (tint "MOST_NUMBER" 400)) (ea_cons ee_str ea_nil)))) fun H1 _ => ⟨n, 0, 400, _, rfl, k1, k2, Gives.me⟩) ?_
    refine ss_cfun (p := q) (ob := .ins (ga K "Down") dq (putF "modulus" (.int m) (putF "rest" (.int r) []))) rd_Rested cf_Rested fn_Rested (by decide) (ee_obj (tglo "Rested")) (ea_cons (ee_var 0) (ea_cons (ee_var 2) (ea_cons (ee_var 3) ea_nil))) (fun H2 e2 Q hQ => ⟨q, _, dq, _, _, _, rfl, e2 _ _ hq, show (0 : Nat) ≤ 900 by decide, ⟨.inr rfl, r, m, rfl, rfl, k5, k6, k7, k8⟩, fun H' e h => hQ _ H' e h⟩) fun H2 e2 hq2 => ?_
    refine ss_fld hq2 (ee_var 0) (ee_var 1) (tcls "Down") (tfld "Down" "to") (show (2 : Nat) < 1000 by decide) fun H3 e3 hq3 => ?_
    refine ss_fld hq3 (ee_var 0) (ee_add (ee_var 1) ee_int) (tcls "Down") (tfld "Down" "start") (show (3 : Nat) < 1000 by decide) fun H4 e4 hq4 => ?_
    refine ss_fld hq4 (ee_var 0) ee_int (tcls "Down") (tfld "Down" "reach") (show (4 : Nat) < 1000 by decide) fun H5 e5 hq5 => ss_nil fun H6 e6 => ?_
    have ex : Ex H0 H6 := (e5.to (e4.to (e3.to (e2.to e0 h0) h0) h0) h0).trans e6
    exact hd _ _ H6 ex (e6 _ _ hq5) (ht H6 ex)
end
end Fk
set_option maxRecDepth 100000
set_option maxHeartbeats 2000000
namespace Fk
open PySem PySem.Spec PyProof.Rows L2 Evl He
theorem sw_cell {elt : Expr} {gs : List Comprehension} {scope : Scope} {pos pz : Pos} {z : Str} {l : Nat} {env : Env} (hz : env.scope.names.lookup z = some .cell) : swapsWith (.ListComp elt gs scope pos) (some (.Name z pz)) l env = pure false := by
  have ky : env.kindOf z = some .cell := hz
  unfold swapsWith
  simp only [ky]
  rw [show ((some NameKind.cell : Option NameKind) == some NameKind.local) = false from rfl, Bool.and_false, Bool.false_and, Bool.false_and]
theorem bx_cell {P : Program} {w : World} {K : PySem.W.Frag} {mg : Str → Option Value} {base : Heap} {N : List Str} {sc : Scope} {k : Nat} {X : Cx} [B : Bx P w K mg base N sc k X] {z : Str} (h : decide (sc.names.lookup z = some .cell) = true := by decide +kernel) : X.env.scope.names.lookup z = some .cell := by
  rw [B.qs]
  exact of_decide_eq_true h
/-- no take of a size keeps a worth -/
def barB (ws : List Int) (s r m l : Int) (i : Nat) : Bool := decide ((l + (i : Int) + s) % m = r) && decide (ws.getD (l + (i : Int) + s).toNat 0 = ws.getD (l + (i : Int)).toNat 0)
def unb (ws : List Int) (s r m l last : Int) : Bool := !((List.range (last - l).toNat).any fun i => barB ws s r m l i)
section
variable {P : Program} {w : World} {K : PySem.W.Frag} {mg : Str → Option Value} {base : Heap}
def R_is_unbarred : List V → Hp → (V → Hp → Prop) → Prop := fun vs H T => ∃ (A : Addr) (ws : List Int) (s r m l last : Int) (ro : V), vs = [.ref A, .int s, ro, .int last] ∧ H A = some (.lst (ws.map V.int)) ∧ (∃ n, RlAt K (.fixed n r m l) ro H) ∧ 0 ≤ s ∧ 0 ≤ last ∧ last + s ≤ ws.length ∧ ws.length ≤ 40000 ∧ Gives T H (.bl (unb ws s r m l last))
theorem cl_is_unbarred [T : Tx K mg] : Cl P w K mg base 1 "is_unbarred" (spR (R_is_unbarred (K := K))) := by
  obtain ⟨fd, F⟩ := f_is_unbarred (K := K) (mg := mg)
  refine ⟨⟨_, FnOk.raw0 (ok_fn F sc_is_unbarred ?_ ?_) (F.bindsN fun _ _ _ _ _ _ us hl => match us, hl with | [_, _, _, _], _ => rfl), tglo "is_unbarred", F.kp⟩⟩
  · rintro vs H T ⟨A, ws, s, r, m, l, last, ro, rfl, _⟩
    rfl
  · rintro X vs H T D B _ ⟨A, ws, s, r, m, l, last, ro, rfl, hA, ⟨n, hok, q, dq, rfl, hq⟩, hs, h0, hl, hz, ht⟩ hd _
    obtain ⟨k1, k2, k3, k4, k5, k6, k7, k8⟩ := hok
    refine ss_forR2 4 (fun i σ => (∃ z, σ = [some (.ref A), some (.int s), some (.ref q), some (.int last), z]) ∧ ∀ j, j < i → barB ws s r m l j = false) (lo := l) (n := last) (ee_fld (ee_var 2) hq (tcls "Fixed") (tfld "Fixed" "leave") rfl) (ee_var 3) (by omega) ⟨⟨none, rfl⟩, fun j hj => absurd hj (Nat.not_lt_zero _)⟩ ?_ ?_ (tfre "range")
    · rintro i σ' hi ⟨⟨z, rfl⟩, hp⟩
      refine ss_when (y := barB ws s r m l i) (et_w (ew_and (et_eqI (ee_mod (ee_add (ee_var 4) (ee_var 1)) (ee_fld (ee_var 2) hq (tcls "Fixed") (tfld "Fixed" "modulus") rfl) (by omega)) (ee_fld (ee_var 2) hq (tcls "Fixed") (tfld "Fixed" "rest") rfl)) fun _ => ew_and1 (et_eqI (ee_ixL (ee_var 0) (ee_add (ee_var 4) (ee_var 1)) (sq_of hA) (atI_ints (by omega) (by omega))) (ee_ixL (ee_var 0) (ee_var 4) (sq_of hA) (atI_ints (by omega) (by omega)))))) (fun hy => ?_) fun hy => ?_
      · refine ss_ret ee_bl fun H1 e1 => hd _ _ e1 ?_
        have hu : unb ws s r m l last = false := by
          unfold unb
          rw [show ((List.range (last - l).toNat).any fun i => barB ws s r m l i) = true from List.any_eq_true.mpr ⟨i, List.mem_range.mpr (by omega), hy⟩]
          rfl
        have := ht _ e1
        rwa [hu] at this
      · exact ss_nil fun H1 e1 => ⟨⟨⟨_, rfl⟩, fun j hj => by
          rcases Nat.lt_succ_iff_lt_or_eq.mp hj with h | h
          · exact hp j h
          · rw [h]
            exact hy⟩, e1⟩
    · rintro σ' ⟨⟨z, rfl⟩, hp⟩
      refine ss_ret ee_bl fun H1 e1 => hd _ _ e1 ?_
      have hu : unb ws s r m l last = true := by
        unfold unb
        rw [show ((List.range (last - l).toNat).any fun i => barB ws s r m l i) = false from List.any_eq_false.mpr fun i hi => by rw [hp i (List.mem_range.mp hi)]; exact Bool.false_ne_true]
        rfl
      have := ht _ e1
      rwa [hu] at this
def R_whole_asked : List V → Hp → (V → Hp → Prop) → Prop := fun vs H T => ∃ (t : Tb) (o ro : V) (n r m l : Int), vs = [o, ro] ∧ TbAt K t o H ∧ RlAt K (.fixed n r m l) ro H ∧ t.b + lcmZ t.p m ≤ 400 ∧ Gives T H (.int (lcmZ t.p m))
theorem cl_whole_asked [T : Tx K mg] : Cl P w K mg base 2 "whole_asked" (spR (R_whole_asked (K := K))) := by
  obtain ⟨fd, F⟩ := f_whole_asked (K := K) (mg := mg)
  refine ⟨⟨_, FnOk.raw0 (ok_fn F sc_whole_asked ?_ ?_) (F.bindsN fun _ _ _ _ _ _ us hl => match us, hl with | [_, _], _ => rfl), tglo "whole_asked", F.kp⟩⟩
  · rintro vs H T ⟨t, o, ro, n, r, m, l, rfl, _⟩
    rfl
  · rintro X vs H T D B _ ⟨t, o, ro, n, r, m, l, rfl, ⟨hto, A, hA, p, dp, rfl, hp⟩, ⟨hok, q, dq, rfl, hq⟩, hm, ht⟩ hd _
    refine ss_set 2 (ee_call cl_common (ea_cons (ee_fld (ee_var 0) hp (tcls "Table") (tfld "Table" "period") rfl) (ea_cons (ee_fld (ee_var 1) hq (tcls "Fixed") (tfld "Fixed" "modulus") rfl) ea_nil)) fun H1 _ => ⟨t.p, m, rfl, hto.hp, hok.2.2.2.2.1, Gives.me⟩) ?_
    refine ss_skip (ET.is (et_gt (ee_add (ee_fld (ee_var 0) hp (tcls "Table") (tfld "Table" "begin") rfl) (ee_var 2)) (ee_num (tint "MOST_HEAPS" 400))) (decide_eq_false (by omega))) ?_
    exact ss_ret (ee_var 2) fun H1 e1 => hd _ _ e1 (ht _ e1)
def fsZ (p q : Addr) : List (Str × V) := [("ahead", .ref p), ("again", .ref q)]
/-- the sizes that are found -/
def fsWh (t : Tb) (m : Int) : Int := lcmZ t.p m
def fsBg (t : Tb) : Int := max 0 (t.b - 1)
def fsLast (t : Tb) (m l : Int) : Int := max t.b l + fsWh t m
def fsWs (t : Tb) (m l : Int) : List Int := (List.range (fsLast t m l + fsBg t + fsWh t m + 1).toNat).map fun (i : Nat) => t.w (i : Int)
def fsFound (t : Tb) (r m l : Int) : List Bool := (List.range (fsBg t + fsWh t m).toNat).map fun (i : Nat) => unb (fsWs t m l) (1 + (i : Int)) r m l (fsLast t m l)
def fsA (t : Tb) (r m l : Int) : List V := szA ((fsFound t r m l).take (fsBg t).toNat) ((fsFound t r m l).drop (fsBg t).toNat)
def fsG (t : Tb) (r m l : Int) : List V := szG ((fsFound t r m l).take (fsBg t).toNat) ((fsFound t r m l).drop (fsBg t).toNat)
def R_free_sizes : List V → Hp → (V → Hp → Prop) → Prop := fun vs H T => ∃ (t : Tb) (o : V) (r m l : Int), vs = [o, .int r, .int m, .int l] ∧ TbAt K t o H ∧ (Rl.fixed 1 r m l).ok ∧ t.b + lcmZ t.p m ≤ 400 ∧ GivesT T H (SzAt K (fsA t r m l) (fsG t r m l))
theorem ok_free_sizes [T : Tx K mg] : ∃ fd, FunD K "free_sizes" "free_sizes" (defArgs s_free_sizes) (defBody s_free_sizes) (defScope s_free_sizes) [.int 0, .int 1, .int 0] [] (ga K "free_sizes") fd ∧ FnOk P w K mg base CX0 6 (ga K "free_sizes") fd ["table", "rest", "modulus", "leave"] (spR (R_free_sizes (K := K))) := by
  obtain ⟨fd, F⟩ := f_free_sizes (K := K) (mg := mg)
  refine ⟨fd, F, ok_fn F sc_free_sizes ?_ ?_⟩
  · rintro vs H T ⟨t, o, r, m, l, rfl, _⟩
    rfl
  · rintro X vs H T D B _ ⟨t, o, r, m, l, rfl, hT, hok, hm, ht⟩ hd _
    have hT0 := hT
    obtain ⟨hto, A, hA, p, dp, rfl, hp⟩ := hT
    obtain ⟨k1, k2, k3, k4, k5, k6, k7, k8⟩ := id hok
    have hwh := lcmZ_pos hto.hp k5
    have hb := hto.hb
    refine ss_skip (et_not (et_val (ee_isi (tfre "isinstance") (ee_var 0) (ee_obj (tglo "Table")) (.own _) (ty_Table hp) k_Table_Table))) ?_
    refine ss_setQ (R := RlAt K (.fixed 1 r m l)) 4 (EvQ.imp (eq_make (TI := fun fs _ => fs = (Rl.fixed 1 r m l).fs) ma_Fixed (EA.q (ea_cons ee_int (ea_cons (ee_var 1) (ea_cons (ee_var 2) (ea_cons (ee_var 3) ea_nil)))) fun H1 e1 => ⟨1, r, m, l, rfl, hok, fun H' e => rfl⟩)) fun v H1 e1 ⟨x, dx, fs, hv, hx, hfs⟩ => ⟨hok, x, dx, hv, by rw [hx, hfs]; rfl⟩) fun ro H1 e1 hR => ?_
    have hR0 := hR
    obtain ⟨_, q, dq, rfl, hq⟩ := hR
    have hp1 := e1 _ _ hp
    refine ss_set 5 (ee_call cl_whole_asked (ea_cons (ee_var 0) (ea_cons (ee_var 4) ea_nil)) fun H2 e2 => ⟨t, _, _, 1, r, m, l, rfl, hT0.up (e1.trans e2), hR0.up e2, hm, Gives.me⟩) ?_
    refine ss_set 6 (ee_max (tfre "max") ee_int (ee_intI (tfre "int") (ee_sub (ee_fld (ee_var 0) hp1 (tcls "Table") (tfld "Table" "begin") rfl) ee_int))) ?_
    refine ss_set 7 (ee_add (ee_max (tfre "max") (ee_intI (tfre "int") (ee_fld (ee_var 0) hp1 (tcls "Table") (tfld "Table" "begin") rfl)) (ee_intI (tfre "int") (ee_fld (ee_var 4) hq (tcls "Fixed") (tfld "Fixed" "leave") rfl))) (ee_var 5)) ?_
    have hbg : 0 ≤ fsBg t ∧ fsBg t ≤ 400 := by unfold fsBg; omega
    have hla : 0 ≤ fsLast t m l ∧ fsLast t m l ≤ 800 ∧ l ≤ fsLast t m l := by unfold fsLast fsWh; omega
    have hw2 : 1 ≤ fsWh t m ∧ fsWh t m ≤ 400 := by unfold fsWh; omega
    refine ss_setL 8 (EL.is (LC.el (el_cR1n 10 (n := fsLast t m l + fsBg t + fsWh t m + 1) (fun i => .int (t.w (i : Int))) (ee_add (ee_add (ee_add (ee_var 7) (ee_var 6)) (ee_var 5)) ee_int) (by omega) (tfre "range") fun X' i H2 B' e2 hi => ?_)) (show _ = (fsWs t m l).map V.int from ?_)) (hs := sw_cell bx_cell) fun W H2 e2 _ hW => ?_
    · exact ee_meth mt_worth (ee_var 0) (e2 _ _ hp1) rfl (ea_cons (ee_var 10) ea_nil) fun H3 e3 => ⟨t, _, (i : Int), rfl, hT0.up ((e1.trans e2).trans e3), ⟨by omega, by omega⟩, Gives.me⟩
    · unfold fsWs
      rw [List.map_map]
      rfl
    have hlW : ((fsWs t m l).length : Int) = fsLast t m l + fsBg t + fsWh t m + 1 := by
      unfold fsWs
      rw [List.length_map, List.length_range]
      omega
    refine ss_setC 9 (LC.is (el_cR2n 11 (lo := 1) (n := fsBg t + fsWh t m + 1) (fun i => .bl (unb (fsWs t m l) (1 + (i : Int)) r m l (fsLast t m l))) ee_int (ee_add (ee_add (ee_var 6) (ee_var 5)) ee_int) (by omega) (tfre "range") fun X' i H3 B' e3 hi => ?_) (show _ = (fsFound t r m l).map V.bl from ?_)) fun Fd H3 e3 _ hFd => ?_
    · exact ee_call cl_is_unbarred (ea_cons (ee_var 8) (ea_cons (ee_var 11) (ea_cons (ee_var 4) (ea_cons (ee_var 7) ea_nil)))) fun H4 e4 => ⟨W, fsWs t m l, _, r, m, l, fsLast t m l, _, rfl, e4 _ _ (e3 _ _ hW), ⟨1, hR0.up ((e2.trans e3).trans e4)⟩, by omega, by omega, by omega, by omega, Gives.me⟩
    · unfold fsFound
      rw [List.map_map, show (fsBg t + fsWh t m + 1 - 1).toNat = (fsBg t + fsWh t m).toNat by omega]
      rfl
    have hlF : ((fsFound t r m l).length : Int) = fsBg t + fsWh t m := by
      unfold fsFound
      rw [List.length_map, List.length_range]
      omega
    have ebg : ((fsBg t).toNat : Int) = fsBg t := by omega
    refine ss_retQ (R := SzAt K (fsA t r m l) (fsG t r m l)) (EvQ.imp (eq_make (TI := fun (fs : List (Str × V)) H' => ∃ p q : Addr, fs = fsZ p q ∧ H' p = some (.tup (fsA t r m l)) ∧ H' q = some (.tup (fsG t r m l))) ma_Sizes (eaq_cons (P1 := LP (((fsFound t r m l).take (fsBg t).toNat).map V.bl)) (EL.lp (EL.is (eq_slL (EE.lp (ee_var 9) hFd) eo_no (eo_of (EE.is (ee_var 6) (show V.int (fsBg t) = .int (((fsBg t).toNat : Nat) : Int) by rw [ebg])))) (by rw [cut_to, List.map_take]))) fun v1 H4 e4 hv1 =>
      eaq_one (P1 := LP (((fsFound t r m l).drop (fsBg t).toNat).map V.bl)) (EL.lp (EL.is (eq_slL (EE.lp (ee_var 9) (e4 _ _ hFd)) (eo_of (EE.is (ee_var 6) (show V.int (fsBg t) = .int (((fsBg t).toNat : Nat) : Int) by rw [ebg]))) eo_no) (by rw [cut_from, List.map_drop]))) (fun v2 H5 e5 hv2 => ?_) fun _ _ _ e p => p.up e)) fun v H4 e4 hv => ?_) fun v H4 e4 hv => hd v H4 (((e1.trans e2).trans e3).trans e4) (ht v H4 (((e1.trans e2).trans e3).trans e4) hv)
    · obtain ⟨q1, rfl, g1⟩ := hv1
      obtain ⟨q2, rfl, g2⟩ := hv2
      refine ⟨q1, q2, _, _, rfl, e5 _ _ g1, g2, ?_, ?_, fun p q H' e hp hq => ⟨p, q, rfl, hp, hq⟩⟩
      · rw [List.length_take, List.length_drop]
        omega
      · rw [List.length_drop]
        omega
    · obtain ⟨x, dx, fs, hv, hx, pa, pg, hfs, ha, hg⟩ := hv
      exact ⟨pa, pg, ha, hg, x, dx, hv, by rw [hx, hfs]; rfl⟩
/-- free_sizes(table) | (table, r, m, l) -/
theorem cl_free_sizes4 [T : Tx K mg] : Cl P w K mg base 6 "free_sizes" (spR (R_free_sizes (K := K))) := by
  obtain ⟨fd, F, O⟩ := ok_free_sizes (P := P) (w := w) (K := K) (mg := mg) (base := base)
  obtain ⟨ds, hd, hb⟩ := F.binds1 (ps := ["table", "rest", "modulus", "leave"]) 4 3 (by simp) rfl fun T kV doc pm an cdv ct us its l1 l2 => match us, its, l1, l2 with | [_, _, _, _], [_, _, _], _, _ => ⟨_, rfl, rfl⟩
  exact ⟨⟨_, (O.raw hb hd).imp fun vs H Q E h => by
    show spR _ (vs ++ []) H Q E
    rw [List.append_nil]
    exact h, tglo "free_sizes", F.kp⟩⟩
def R_free_sizes1 : List V → Hp → (V → Hp → Prop) → Prop := fun vs H T => R_free_sizes (K := K) (vs ++ [.int 0, .int 1, .int 0]) H T
theorem cl_free_sizes1 [T : Tx K mg] : Cl P w K mg base 6 "free_sizes" (spR (R_free_sizes1 (K := K))) := by
  obtain ⟨fd, F, O⟩ := ok_free_sizes (P := P) (w := w) (K := K) (mg := mg) (base := base)
  obtain ⟨ds, hd, hb⟩ := F.binds1 (ps := ["table", "rest", "modulus", "leave"]) 1 0 (by simp) rfl fun T kV doc pm an cdv ct us its l1 l2 => match us, its, l1, l2 with | [_], [_, _, _], _, _ => ⟨_, rfl, rfl⟩
  exact ⟨⟨_, (O.raw hb hd).imp fun vs H Q E h => h, tglo "free_sizes", F.kp⟩⟩
/-! ### Greatest.sizes -/
def R_sizes : List V → Hp → (V → Hp → Prop) → Prop := fun vs H T => ∃ (t : Tb) (o : V) (r m l : Int), vs = [o, .int r, .int m, .int l] ∧ GrAt K t o H ∧ (Rl.fixed 1 r m l).ok ∧ t.b + lcmZ t.p m ≤ 400 ∧ GivesT T H (SzAt K (fsA t r m l) (fsG t r m l))
theorem ok_sizes [T : Tx K mg] : ∃ fd, FunD K "sizes" "Greatest.sizes" (defArgs s_Greatest_sizes) (defBody s_Greatest_sizes) (defScope s_Greatest_sizes) [.int 0, .int 1, .int 0] [] (ma K (ga K "Greatest") "sizes") fd ∧ FnOk P w K mg base CX0 7 (ma K (ga K "Greatest") "sizes") fd ["self", "rest", "modulus", "leave"] (spR (R_sizes (K := K))) := by
  obtain ⟨fd, F⟩ := f_Greatest_sizes (K := K) (mg := mg)
  refine ⟨fd, F, ok_fn F sc_Greatest_sizes ?_ ?_⟩
  · rintro vs H T ⟨t, o, r, m, l, rfl, _⟩
    rfl
  · rintro X vs H T D B _ ⟨t, o, r, m, l, rfl, ⟨o2, hT, p, dp, rfl, hp⟩, hok, hm, ht⟩ hd _
    exact ss_retQ (eq_call (T := SzAt K (fsA t r m l) (fsG t r m l)) cl_free_sizes4 (EA.q (ea_cons (ee_fld (ee_var 0) hp (tcls "Greatest") (tfld "Greatest" "table") rfl) (ea_cons (ee_var 1) (ea_cons (ee_var 2) (ea_cons (ee_var 3) ea_nil)))) fun H1 e1 => ⟨t, o2, r, m, l, rfl, hT.up e1, hok, hm, fun v H' e h => h⟩)) fun v H1 e1 hv => hd v H1 e1 (ht v H1 e1 hv)
theorem mt_sizes4 [T : Tx K mg] : Mt P w K mg base 7 (ga K "Greatest") "sizes" (spR (R_sizes (K := K))) := by
  obtain ⟨fd, F, O⟩ := ok_sizes (P := P) (w := w) (K := K) (mg := mg) (base := base)
  obtain ⟨ds, hd, hb⟩ := F.binds1 (ps := ["self", "rest", "modulus", "leave"]) 4 3 (by simp) rfl fun T kV doc pm an cdv ct us its l1 l2 => match us, its, l1, l2 with | [_, _, _, _], [_, _, _], _, _ => ⟨_, rfl, rfl⟩
  exact ⟨⟨_, (O.raw hb hd).imp fun vs H Q E h => by
    show spR _ (vs ++ []) H Q E
    rw [List.append_nil]
    exact h, tcls "Greatest", tmet "Greatest" "sizes"⟩⟩
def R_sizes1 : List V → Hp → (V → Hp → Prop) → Prop := fun vs H T => R_sizes (K := K) (vs ++ [.int 0, .int 1, .int 0]) H T
theorem mt_sizes1 [T : Tx K mg] : Mt P w K mg base 7 (ga K "Greatest") "sizes" (spR (R_sizes1 (K := K))) := by
  obtain ⟨fd, F, O⟩ := ok_sizes (P := P) (w := w) (K := K) (mg := mg) (base := base)
  obtain ⟨ds, hd, hb⟩ := F.binds1 (ps := ["self", "rest", "modulus", "leave"]) 1 0 (by simp) rfl fun T kV doc pm an cdv ct us its l1 l2 => match us, its, l1, l2 with | [_], [_, _, _], _, _ => ⟨_, rfl, rfl⟩
  exact ⟨⟨_, (O.raw hb hd).imp fun vs H Q E h => h, tcls "Greatest", tmet "Greatest" "sizes"⟩⟩
end
end Fk
set_option maxRecDepth 100000
set_option maxHeartbeats 2000000
namespace Fk
open PySem PySem.Spec PyProof.Rows L2 Evl He
/-! ### operators that a class of the text defines -/
section
variable {X : Cx} {pins : List (Addr × Obj)} {σ : L2.St} {H : Hp} {s : Shared} {n : Nat} {f : Addr} {sp : Sp}
/-- a def run below the body -/
theorem run_at {A : Around} {Q : VK} {us : List Value} {vs : List V} (F : FnR X.prog X.w X.K X.mg X.base CX0 n f sp) (sb : Sub X n A) (I : Inv X pins σ H s) (r : Vals vs us) (h : sp vs H Q E0) : wpAny (model X.prog X.w) A (call (.ref f) us) (EP X pins σ Q) X.xe s := by
  have e0 : Env0 X.prog X.w X.K X.mg X.base A X.stack s H := by
    have e := I.env0
    exact ⟨by rw [sb.fr]; exact e.frames, e.mod, e.bs, e.bsz, e.funs, e.frf, e.hok, e.bare⟩
  refine wpAny_call (codeAny_mono (F A X.stack s H us vs Q E0 sb.room e0 r h) fun r s' hq => ?_)
  cases r with
  | error e => exact False.elim hq
  | ok fl =>
    cases fl with
    | ret u => exact I.after hq
    | next => exact False.elim hq
    | brk => exact False.elim hq
    | cont => exact False.elim hq
theorem look_at {a C dx : Addr} {fs : List (Str × V)} (I : Inv X pins σ H s) (h : H a = some (.ins C dx fs)) : ∃ od, PySem.W.InstAt s.heap a (PySem.W.instObj C dx) C (some od) := by
  obtain ⟨mA, J, _⟩ := ins_get I.hok h
  obtain ⟨od, J, _⟩ := J.look
  exact ⟨od, J⟩
theorem type_at {x : V} {u t : Value} (I : Inv X pins σ H s) (rx : RelV x u) (ty : TyX X.K H x t) : PySem.W.Looks (model X.prog X.w) s.heap (typeOf u) t := by
  obtain ⟨P, Z, p, _⟩ := kit_of I rx ty
  exact Z.ty _ _ I.kIn p
end
theorem vals_ref {a : Addr} {y : V} {u : Value} (r : RelV y u) : Vals [V.ref a, y] [Value.ref a, u] := .cons (show RelV (V.ref a) (Value.ref a) from rfl) (.cons r .nil)
/-- an own method that an operator asks for -/
structure OpM (K : PySem.W.Frag) (C f : Addr) (m : Str) : Prop where
  at_ : PySem.W.findIn K (.ref C) m = some (some (.ref f))
  fn : PySem.W.isFn K (.ref f) = true
section
variable {X : Cx} {n : Nat} {f C : Addr} {sp : Sp}
theorem op_eqO (m : OpM X.K C f "__eq__") (Fn : FnR X.prog X.w X.K X.mg X.base CX0 n f sp) (hr : Room n X.A) :
    OpR X (compareOp .Eq) (fun x y H Q => ∃ a dx fs t, x = .ref a ∧ H a = some (.ins C dx fs) ∧ TyX X.K H y t ∧ PySem.W.notFirst X.K C t = true ∧ sp [x, y] H (fun v H' => ∃ b, v = .bl b ∧ Q (.bl b) H') E0) := by
  intro pins s σ H x y v u Q I rx ry ⟨a, dx, fs, t, ex, ha, ty, hn, h⟩
  subst ex
  cases rx
  obtain ⟨od, J⟩ := look_at I ha
  obtain ⟨m', hF⟩ := I.fr
  refine PySem.W.cmp_K (op := .Eq) (tb := t) hr.units0 hF I.ok.mod.kin J (type_at I ry ty) hn m.at_ m.fn (thn (run_at Fn ⟨hr, rfl⟩ I (vals_ref ry) h) fun r s' ⟨z, H', I', rz, b, ez, q⟩ => ?_)
  subst ez
  cases rz
  exact ⟨.bl b, H', I', rfl, q⟩
theorem ne_entry {M : Model} {A : Around} {E : Value → Shared → Prop} {s : Shared} {K : PySem.W.Frag} {x : Addr} {y : Value} {ox : Obj} {od : Option Obj} {Q : Fin → Shared → Prop} (XK : K.In s.heap) (J : PySem.W.InstAt s.heap x ox C od) (m : OpM K C f "__eq__") (hu : A.units < cLine)
    (h : wpAny M A (call (.ref f) [.ref x, y]) (fun v s' => ∃ b, v = .bool b ∧ Q (.done (.ret (.bool (!b)))) s') E s) : wpAny M A (Builtin.«object.__ne__» ⟨[.ref x, y], []⟩) Q E s := by
  unfold Builtin.«object.__ne__»
  repeat (first
    | with_reducible refine wpAny_cRoomFor hu ?_
    | (refine wpAny_bind (m := callSpecialIfBound? (.ref x) (Str.ofString "__eq__") [y])
        (PySem.W.ifBound_K XK J m.at_ m.fn (wpAny_mono h (fun r s' hr => by
          obtain ⟨b, rfl, hq⟩ := hr
          repeat (first | exact hq | exact wpAny_pure hq | exact wpAny_truthy_bool hq | (refine wpAny_bind (m := truthy (.bool _)) (wpAny_truthy_bool ?_)) | wp_step)) fun _ _ e => e)))
    | wp_step)
theorem ifBound_objNe {M : Model} {A : Around} {E : Value → Shared → Prop} {s : Shared} {K : PySem.W.Frag} {x : Addr} {ox : Obj} {od : Option Obj} {args : List Value} {Q : Option Value → Shared → Prop} (XK : K.In s.heap) (I : PySem.W.InstAt s.heap x ox C od) (hs : PySem.W.findIn K (.ref C) "__ne__" = some (some (.builtin "object.__ne__")))
    (h : wpAny M A (call (.builtin "object.__ne__") (.ref x :: args)) (fun v => Q (some v)) E s) : wpAny M A (callSpecialIfBound? (.ref x) "__ne__" args) Q E s := by
  simp only [callSpecialIfBound?, bindSpecialIfBound?]
  refine wpAny_holding (wpAny_bind (wpAny_bind (wpAny_bind (I.type.here ((PySem.W.looks_findIn XK hs).here ?_)))))
  refine wpAny_bind (wpAny_askSetting (wpAny_ite ?_))
  have fin : wpAny M A (call (.builtin "object.__ne__") ([.ref x] ++ args) >>= fun v => pure (some v)) Q E s := wpAny_bind (wpAny_mono h (fun v s' h' => wpAny_pure h') fun _ _ h' => h')
  split
  · exact wpAny_bind (wpAny_of_eq (F.cmp_object.ne.bind _) (wpAny_pure (by exact fin)))
  · exact wpAny_tryCatch (wpAny_bind (wpAny_of_eq (F.cmp_object.ne.bind _) (wpAny_pure (by exact fin))))
theorem op_neO (m : OpM X.K C f "__eq__") (hne : PySem.W.findIn X.K (.ref C) "__ne__" = some (some (.builtin "object.__ne__"))) (hm : PySem.W.mroIn X.K C (.type "object") = some true) (Fn : FnR X.prog X.w X.K X.mg X.base CX0 n f sp) (hr : Room (n + 1) X.A) :
    OpR X (compareOp .NotEq) (fun x y H Q => ∃ a dx fs t, x = .ref a ∧ H a = some (.ins C dx fs) ∧ TyX X.K H y t ∧ PySem.W.notFirst X.K C t = true ∧ sp [x, y] H (fun v H' => ∃ b, v = .bl b ∧ Q (.bl (!b)) H') E0) := by
  intro pins s σ H x y v u Q I rx ry ⟨a, dx, fs, t, ex, ha, ty, hn, h⟩
  subst ex
  cases rx
  obtain ⟨od, J⟩ := look_at I ha
  have XK := I.kIn
  have sb : Sub X n X.A.in1 := ⟨hr.in1, rfl⟩
  show wpAny (model X.prog X.w) X.A (richCompare .NotEq (.ref a) u) (EP X pins σ Q) X.xe s
  have cc : wpAny (model X.prog X.w) X.A (call (.builtin "object.__ne__") [.ref a, u]) (EP X pins σ fun v H' => ∃ b, v = .bl b ∧ Q (.bl b) H') X.xe s := by
    refine wpAny_call (codeAny_call_builtin F.cmp_object.ne.plain F.cmpEntry_ne (PySem.W.check_slot F.cmpKind_ne F.cmpSplit_ne (J.type.andThen (PySem.W.looks_mroIn XK hm)) (F.cmpArgs_ne _ _) (ne_entry XK J m sb.room.units0 (wpAny_mono (run_at Fn sb I (vals_ref ry) h) (fun r s' z => ?_) fun _ _ e => e))))
    obtain ⟨z, H', I', rz, b, ez, q⟩ := z
    subst ez
    cases rz
    exact ⟨b, rfl, .bl (!b), H', I', rfl, !b, rfl, q⟩
  have one : wpAny (model X.prog X.w) X.A (tryCompare (.ref a) (cmpInfo .NotEq).2.1 u) (fun r s' => ∃ v, r = some v ∧ EP X pins σ Q v s') X.xe s := by
    unfold tryCompare
    refine wpAny_bind (ifBound_objNe XK J hne (wpAny_mono cc (fun v s' hv => ?_) fun _ _ e => e))
    obtain ⟨z, H', I', rz, b, ez, q⟩ := hv
    subst ez
    cases rz
    exact wpAny_pure ⟨_, rfl, .bl b, H', I', rfl, q⟩
  unfold richCompare
  simp only [oneThing_ref]
  refine wpAny_holding (wpAny_bind (wpAny_cRoomFor hr.units0 ?_))
  refine wpAny_bind (J.type.here (wpAny_bind ((type_at I ry ty).here ?_)))
  split
  · rename_i q
    have e : PySem.W.subIn X.K t (.ref C) = some false := by
      rcases Bool.or_eq_true_iff.mp hn with e | e
      · rw [beq_iff_eq.mp e] at q
        simp at q
      · exact beq_iff_eq.mp e
    refine wpAny_bind ((PySem.W.looks_subIn XK e).here ?_)
    simp only [Bool.false_eq_true, if_false]
    refine wpAny_bind (wpAny_mono one (fun r s' z => ?_) fun _ _ e => e)
    obtain ⟨v, rfl, hq⟩ := z
    exact wpAny_pure hq
  · refine wpAny_bind (wpAny_pure ?_)
    simp only [Bool.false_eq_true, if_false]
    refine wpAny_bind (wpAny_mono one (fun r s' z => ?_) fun _ _ e => e)
    obtain ⟨v, rfl, hq⟩ := z
    exact wpAny_pure hq
theorem op_inO (m : OpM X.K C f "__contains__") (Fn : FnR X.prog X.w X.K X.mg X.base CX0 n f sp) (hr : Room n X.A) :
    OpR X (compareOp .In) (fun x y H Q => ∃ a dx fs, y = .ref a ∧ H a = some (.ins C dx fs) ∧ sp [y, x] H (fun v H' => ∃ b, v = .bl b ∧ Q (.bl b) H') E0) := by
  intro pins s σ H x y v u Q I rx ry ⟨a, dx, fs, ey, ha, h⟩
  subst ey
  cases ry
  obtain ⟨od, J⟩ := look_at I ha
  obtain ⟨m', hF⟩ := I.fr
  refine PySem.W.in_K hF I.ok.mod.kin J m.at_ m.fn (thn (run_at Fn ⟨hr, rfl⟩ I (vals_ref rx) h) fun r s' ⟨z, H', I', rz, b, ez, q⟩ => ?_)
  subst ez
  cases rz
  exact wpAny_truthy_bool ⟨.bl b, H', I', rfl, q⟩
end
end Fk
set_option maxRecDepth 100000
set_option maxHeartbeats 2000000
namespace Fk
open PySem PySem.Spec PyProof.Rows L2 Evl He
theorem nf_self {K : PySem.W.Frag} {C : Addr} : PySem.W.notFirst K C (.ref C) = true := by simp [PySem.W.notFirst]
/-- a built-in type that stands above nothing -/
def nfB (n : String) : Bool := match fastBuiltinMro n with
  | some l => l.all fun v => match v with
    | .type _ => true
    | _ => false
  | none => false
theorem nf_ty {K : PySem.W.Frag} {C : Addr} {n : String} (h : nfB n = true) : PySem.W.notFirst K C (.type n) = true := by
  unfold PySem.W.notFirst
  have e : PySem.W.subIn K (.type n) (.ref C) = (fastBuiltinMro n).map (·.contains (.ref C)) := rfl
  rw [e]
  unfold nfB at h
  cases q : fastBuiltinMro n with
  | none =>
    rw [q] at h
    cases h
  | some l =>
    rw [q] at h
    have : l.contains (Value.ref C) = false := by
      cases c : l.contains (Value.ref C) with
      | false => rfl
      | true =>
        have := List.all_eq_true.mp h _ (List.contains_iff_mem.mp c)
        cases this
    rw [Option.map_some, this]
    simp
section
variable {P : Program} {w : World} {K : PySem.W.Frag} {mg : Str → Option Value} {base : Heap} {N : List Str} {sc : Scope} {j k : Nat} {X : Cx} {σ : L2.St} {H : Hp} {a b e : Expr} {pos : Pos} {C f : Addr} {P1 P2 : V → Hp → Prop} {R : List V → Hp → (V → Hp → Prop) → Prop}
theorem opm_of {x m : Str} [T : Tx K mg] (h : metL.contains (x, m) = true := by decide +kernel) : OpM K (ga K x) (ma K (ga K x) m) m := ⟨(tmet x m h).at_, (tmet x m h).fn⟩
/-- a == b, a an instance of C with its own == -/
theorem ee_eqO [B : Bx P w K mg base N sc k X] {z : Bool} (m : OpM K C f "__eq__") (F : FnR P w K mg base CX0 j f (spR R)) (ha : EQ X a σ H P1) (hb : EQ X b σ H P2) (h1 : ∀ v H1 H2, Ex H1 H2 → P1 v H1 → P1 v H2)
    (hr : ∀ x y H1, Ex H H1 → P1 x H1 → P2 y H1 → (∃ a dx fs t, x = .ref a ∧ H1 a = some (.ins C dx fs) ∧ TyX K H1 y t ∧ PySem.W.notFirst K C t = true) ∧ R [x, y] H1 fun u _ => u = .bl z) (hj : j ≤ k := by decide) : EE X (.Compare a [.Eq] [b] pos) σ H (.bl z) := by
  obtain ⟨rfl, rfl, rfl, rfl, rfl, _, _, _, _, hR⟩ := id B
  exact EQ.val (eq_cmp (op_eqO m F (hR.mono hj)) (nomark _) ha hb h1 fun x y H1 e1 p1 p2 Q q => by
    obtain ⟨⟨a, dx, fs, t, hx, hin, ty, hn⟩, hRR⟩ := hr x y H1 e1 p1 p2
    exact ⟨a, dx, fs, t, hx, hin, ty, hn, _, hRR, fun v H' e hv => ⟨z, hv, q _ H' e rfl⟩⟩)
theorem et_eqO [B : Bx P w K mg base N sc k X] {z : Bool} (m : OpM K C f "__eq__") (F : FnR P w K mg base CX0 j f (spR R)) (ha : EQ X a σ H P1) (hb : EQ X b σ H P2) (h1 : ∀ v H1 H2, Ex H1 H2 → P1 v H1 → P1 v H2)
    (hr : ∀ x y H1, Ex H H1 → P1 x H1 → P2 y H1 → (∃ a dx fs t, x = .ref a ∧ H1 a = some (.ins C dx fs) ∧ TyX K H1 y t ∧ PySem.W.notFirst K C t = true) ∧ R [x, y] H1 fun u _ => u = .bl z) (hj : j ≤ k := by decide) : ET X (.Compare a [.Eq] [b] pos) σ H z := by
  obtain ⟨rfl, rfl, rfl, rfl, rfl, _, _, _, _, hR⟩ := id B
  exact et_cmpQ (op_eqO m F (hR.mono hj)) (nomark _) ha hb h1 fun x y H1 e1 p1 p2 Q q => by
    obtain ⟨⟨a, dx, fs, t, hx, hin, ty, hn⟩, hRR⟩ := hr x y H1 e1 p1 p2
    exact ⟨a, dx, fs, t, hx, hin, ty, hn, _, hRR, fun v H' e hv => ⟨z, hv, q H' e⟩⟩
/-- a != b -/
theorem ee_neO [B : Bx P w K mg base N sc k X] {z : Bool} (m : OpM K C f "__eq__") (hne : PySem.W.findIn K (.ref C) "__ne__" = some (some (.builtin "object.__ne__"))) (hm : PySem.W.mroIn K C (.type "object") = some true) (F : FnR P w K mg base CX0 j f (spR R)) (ha : EQ X a σ H P1) (hb : EQ X b σ H P2) (h1 : ∀ v H1 H2, Ex H1 H2 → P1 v H1 → P1 v H2)
    (hr : ∀ x y H1, Ex H H1 → P1 x H1 → P2 y H1 → (∃ a dx fs t, x = .ref a ∧ H1 a = some (.ins C dx fs) ∧ TyX K H1 y t ∧ PySem.W.notFirst K C t = true) ∧ R [x, y] H1 fun u _ => u = .bl z) (hj : j + 1 ≤ k := by decide) : EE X (.Compare a [.NotEq] [b] pos) σ H (.bl (!z)) := by
  obtain ⟨rfl, rfl, rfl, rfl, rfl, _, _, _, _, hR⟩ := id B
  exact EQ.val (eq_cmp (op_neO m hne hm F (hR.mono hj)) (nomark _) ha hb h1 fun x y H1 e1 p1 p2 Q q => by
    obtain ⟨⟨a, dx, fs, t, hx, hin, ty, hn⟩, hRR⟩ := hr x y H1 e1 p1 p2
    exact ⟨a, dx, fs, t, hx, hin, ty, hn, _, hRR, fun v H' e hv => ⟨z, hv, q _ H' e rfl⟩⟩)
theorem et_neO [B : Bx P w K mg base N sc k X] {z : Bool} (m : OpM K C f "__eq__") (hne : PySem.W.findIn K (.ref C) "__ne__" = some (some (.builtin "object.__ne__"))) (hm : PySem.W.mroIn K C (.type "object") = some true) (F : FnR P w K mg base CX0 j f (spR R)) (ha : EQ X a σ H P1) (hb : EQ X b σ H P2) (h1 : ∀ v H1 H2, Ex H1 H2 → P1 v H1 → P1 v H2)
    (hr : ∀ x y H1, Ex H H1 → P1 x H1 → P2 y H1 → (∃ a dx fs t, x = .ref a ∧ H1 a = some (.ins C dx fs) ∧ TyX K H1 y t ∧ PySem.W.notFirst K C t = true) ∧ R [x, y] H1 fun u _ => u = .bl z) (hj : j + 1 ≤ k := by decide) : ET X (.Compare a [.NotEq] [b] pos) σ H (!z) := by
  obtain ⟨rfl, rfl, rfl, rfl, rfl, _, _, _, _, hR⟩ := id B
  exact et_cmpQ (op_neO m hne hm F (hR.mono hj)) (nomark _) ha hb h1 fun x y H1 e1 p1 p2 Q q => by
    obtain ⟨⟨a, dx, fs, t, hx, hin, ty, hn⟩, hRR⟩ := hr x y H1 e1 p1 p2
    exact ⟨a, dx, fs, t, hx, hin, ty, hn, _, hRR, fun v H' e hv => ⟨z, hv, q H' e⟩⟩
/-- a in b, b an instance of C -/
theorem ee_inO [B : Bx P w K mg base N sc k X] {z : Bool} (m : OpM K C f "__contains__") (F : FnR P w K mg base CX0 j f (spR R)) (hm : behindInMarks .In b = false) (ha : EQ X a σ H P1) (hb : EQ X b σ H P2) (h1 : ∀ v H1 H2, Ex H1 H2 → P1 v H1 → P1 v H2)
    (hr : ∀ x y H1, Ex H H1 → P1 x H1 → P2 y H1 → (∃ a dx fs, y = .ref a ∧ H1 a = some (.ins C dx fs)) ∧ R [y, x] H1 fun u _ => u = .bl z) (hj : j ≤ k := by decide) : EE X (.Compare a [.In] [b] pos) σ H (.bl z) := by
  obtain ⟨rfl, rfl, rfl, rfl, rfl, _, _, _, _, hR⟩ := id B
  exact EQ.val (eq_cmp (op_inO m F (hR.mono hj)) hm ha hb h1 fun x y H1 e1 p1 p2 Q q => by
    obtain ⟨⟨a, dx, fs, hy, hin⟩, hRR⟩ := hr x y H1 e1 p1 p2
    exact ⟨a, dx, fs, hy, hin, _, hRR, fun v H' e hv => ⟨z, hv, q _ H' e rfl⟩⟩)
theorem et_inO [B : Bx P w K mg base N sc k X] {z : Bool} (m : OpM K C f "__contains__") (F : FnR P w K mg base CX0 j f (spR R)) (hm : behindInMarks .In b = false) (ha : EQ X a σ H P1) (hb : EQ X b σ H P2) (h1 : ∀ v H1 H2, Ex H1 H2 → P1 v H1 → P1 v H2)
    (hr : ∀ x y H1, Ex H H1 → P1 x H1 → P2 y H1 → (∃ a dx fs, y = .ref a ∧ H1 a = some (.ins C dx fs)) ∧ R [y, x] H1 fun u _ => u = .bl z) (hj : j ≤ k := by decide) : ET X (.Compare a [.In] [b] pos) σ H z := by
  obtain ⟨rfl, rfl, rfl, rfl, rfl, _, _, _, _, hR⟩ := id B
  exact et_cmpQ (op_inO m F (hR.mono hj)) hm ha hb h1 fun x y H1 e1 p1 p2 Q q => by
    obtain ⟨⟨a, dx, fs, hy, hin⟩, hRR⟩ := hr x y H1 e1 p1 p2
    exact ⟨a, dx, fs, hy, hin, _, hRR, fun v H' e hv => ⟨z, hv, q H' e⟩⟩
end
/-- is the rule in the greatest book of the table -/
def hasR (t : Tb) : Rl → Bool
  | .fixed n r m l => hasF t n r m l
  | .down n r m => hasD t n r m
/-- a value of another kind: its type is of no rule, and it is no pair -/
def OddV (K : PySem.W.Frag) (x : V) (H : Hp) : Prop := ∃ ty, TyX K H x ty ∧ PySem.W.kitOne K ty (.ref (ga K "Fixed")) = some false ∧ PySem.W.kitOne K ty (.ref (ga K "Down")) = some false ∧
  (PySem.W.kitOne K ty (.type "tuple") = some false ∨ (PySem.W.kitOne K ty (.type "tuple") = some true ∧ ∃ p xs, x = .ref p ∧ H p = some (.tup xs) ∧ xs.length ≠ 2))
theorem OddV.up {K : PySem.W.Frag} {x : V} {H H' : Hp} (h : OddV K x H) (e : Ex H H') : OddV K x H' := by
  obtain ⟨ty, h1, h2, h3, h4⟩ := h
  refine ⟨ty, TyX.up h1 e, h2, h3, h4.imp id fun ⟨q, p, xs, hx, hp, hl⟩ => ⟨q, p, xs, hx, e _ _ hp, hl⟩⟩
section
variable {P : Program} {w : World} {K : PySem.W.Frag} {mg : Str → Option Value} {base : Heap}
/-! ### ==, in of a Greatest -/
def R_Greatest_eq : List V → Hp → (V → Hp → Prop) → Prop := fun vs H T => ∃ (t : Tb) (a b : V), vs = [a, b] ∧ GrAt K t a H ∧ ((∃ u, GrAt K u b H ∧ Gives T H (.bl (decide (t.b = u.b) && decide (t.ns = u.ns)))) ∨ (∃ ty, TyX K H b ty ∧ PySem.W.kitOne K ty (.ref (ga K "Greatest")) = some false ∧ Gives T H (.bl false)))
theorem fn_Greatest_eq [T : Tx K mg] : FnR P w K mg base CX0 2 (ma K (ga K "Greatest") "__eq__") (spR (R_Greatest_eq (K := K))) := by
  obtain ⟨fd, F⟩ := f_Greatest_eq (K := K) (mg := mg)
  refine FnOk.raw0 (ok_fn F sc_Greatest_eq ?_ ?_) (F.bindsN fun _ _ _ _ _ _ us hl => match us, hl with | [_, _], _ => rfl)
  · rintro vs H T ⟨t, a, b, rfl, _⟩
    rfl
  · rintro X vs H T D B _ ⟨t, a, b, rfl, ⟨o, hT, p, dp, rfl, hp⟩, hc⟩ hd _
    rcases hc with ⟨u, ⟨o2, hU, q, dq, rfl, hq⟩, ht⟩ | ⟨ty, hty, hk, ht⟩
    · refine ss_ret (EE.is (ee_and (ee_isi (tfre "isinstance") (ee_var 1) (ee_obj (tglo "Greatest")) (.own _) (ty_Greatest hq) k_Greatest_Greatest) fun _ => ee_one (ee_eqO (P1 := TbAt K t) (P2 := TbAt K u) opm_of fn_Table_eq ((ee_fld (ee_var 0) hp (tcls "Greatest") (tfld "Greatest" "table") rfl).q fun H1 e1 => hT.up e1) ((ee_fld (ee_var 1) hq (tcls "Greatest") (tfld "Greatest" "table") rfl).q fun H1 e1 => hU.up e1) (fun _ _ _ e p => p.up e)
        fun x y H1 e1 hx hy => ⟨?_, t, u, x, y, rfl, hx, hy, Gives.me⟩)) rfl) fun H1 e1 => hd _ _ e1 (ht _ e1)
      obtain ⟨_, N, hN, a, da, rfl, ha⟩ := hx
      obtain ⟨_, M, hM, b, db, rfl, hb⟩ := hy
      exact ⟨a, da, _, _, rfl, ha, ty_Table hb, nf_self⟩
    · exact ss_ret (EE.is (ee_and (z := false) (ee_isi (tfre "isinstance") (ee_var 1) (ee_obj (tglo "Greatest")) (.own _) hty hk) fun h => Bool.noConfusion h) rfl) fun H1 e1 => hd _ _ e1 (ht _ e1)
def R_is_pair : List V → Hp → (V → Hp → Prop) → Prop := fun vs H T => ∃ x : V, vs = [x] ∧ OddV K x H ∧ Gives T H (.bl false)
theorem cl_is_pair [T : Tx K mg] : Cl P w K mg base 1 "is_pair" (spR (R_is_pair (K := K))) := by
  obtain ⟨fd, F⟩ := f_is_pair (K := K) (mg := mg)
  refine ⟨⟨_, FnOk.raw0 (ok_fn F sc_is_pair ?_ ?_) (F.bindsN fun _ _ _ _ _ _ us hl => match us, hl with | [_], _ => rfl), tglo "is_pair", F.kp⟩⟩
  · rintro vs H T ⟨x, rfl, _⟩
    rfl
  · rintro X vs H T D B _ ⟨x, rfl, ⟨ty, hty, _, _, hc⟩, ht⟩ hd _
    rcases hc with hk | ⟨hk, p, xs, rfl, hp, hl⟩
    · exact ss_when (y := true) (ET.is (et_w (ew_or (z := true) (et_not (et_val (ee_isi (tfre "isinstance") (ee_var 0) (ee_ty (tfre "tuple")) (.ty _) hty hk))) fun h => Bool.noConfusion h)) rfl) (fun _ => ss_ret ee_bl fun H1 e1 => hd _ _ e1 (ht _ e1)) fun h => Bool.noConfusion h
    · refine ss_when (y := true) (ET.is (et_w (ew_or (et_not (et_val (ee_isi (tfre "isinstance") (ee_var 0) (ee_ty (tfre "tuple")) (.ty _) hty hk))) fun _ => ew_or1 (et_neI (ee_lenT (tfre "len") (ee_var 0) (st_of hp)) ee_int))) ?_) (fun _ => ss_ret ee_bl fun H1 e1 => hd _ _ e1 (ht _ e1)) fun h => Bool.noConfusion h
      show (false || !decide ((xs.length : Int) = 2)) = true
      rw [decide_eq_false (by omega)]
      rfl
def R_contains : List V → Hp → (V → Hp → Prop) → Prop := fun vs H T => ∃ (t : Tb) (o x : V), vs = [o, x] ∧ GrAt K t o H ∧ ((∃ r, RlAt K r x H ∧ Gives T H (.bl (hasR t r))) ∨ (OddV K x H ∧ Gives T H (.bl false)))
theorem fn_contains [T : Tx K mg] : FnR P w K mg base CX0 4 (ma K (ga K "Greatest") "__contains__") (spR (R_contains (K := K))) := by
  obtain ⟨fd, F⟩ := f_Greatest_contains (K := K) (mg := mg)
  refine FnOk.raw0 (ok_fn F sc_Greatest_contains ?_ ?_) (F.bindsN fun _ _ _ _ _ _ us hl => match us, hl with | [_, _], _ => rfl)
  · rintro vs H T ⟨t, a, b, rfl, _⟩
    rfl
  · rintro X vs H T D B _ ⟨t, o, x, rfl, ⟨o2, hT, p, dp, rfl, hp⟩, hc⟩ hd _
    rcases hc with ⟨r, hR, ht⟩ | ⟨hO, ht⟩
    · have hR0 := hR
      cases r with
      | fixed n r m l =>
        obtain ⟨hok, q, dq, rfl, hq⟩ := hR
        exact ss_when (y := true) (et_val (ee_isi (tfre "isinstance") (ee_var 1) (ee_obj (tglo "Fixed")) (.own _) (ty_Fixed hq) k_Fixed_Fixed)) (fun _ => ss_ret (ee_call cl_has_fixed (ea_cons (ee_fld (ee_var 0) hp (tcls "Greatest") (tfld "Greatest" "table") rfl) (ea_cons (ee_fld (ee_var 1) hq (tcls "Fixed") (tfld "Fixed" "size") rfl) (ea_cons (ee_fld (ee_var 1) hq (tcls "Fixed") (tfld "Fixed" "leave") rfl) (ea_cons (ee_var 1) ea_nil)))) fun H1 e1 => ⟨t, o2, _, n, r, m, l, rfl, hT.up e1, hR0.up e1, Gives.me⟩) fun H1 e1 => hd _ _ e1 (ht _ e1)) fun h => Bool.noConfusion h
      | down n r m =>
        obtain ⟨hok, q, dq, rfl, hq⟩ := hR
        refine ss_skip (et_val (ee_isi (tfre "isinstance") (ee_var 1) (ee_obj (tglo "Fixed")) (.own _) (ty_Down hq) k_Down_Fixed)) ?_
        exact ss_when (y := true) (et_val (ee_isi (tfre "isinstance") (ee_var 1) (ee_obj (tglo "Down")) (.own _) (ty_Down hq) k_Down_Down)) (fun _ => ss_ret (ee_call cl_has_down (ea_cons (ee_fld (ee_var 0) hp (tcls "Greatest") (tfld "Greatest" "table") rfl) (ea_cons (ee_fld (ee_var 1) hq (tcls "Down") (tfld "Down" "to") rfl) (ea_cons (ee_var 1) ea_nil))) fun H1 e1 => ⟨t, o2, _, n, r, m, rfl, hT.up e1, hR0.up e1, Gives.me⟩) fun H1 e1 => hd _ _ e1 (ht _ e1)) fun h => Bool.noConfusion h
    · have hO0 := hO
      obtain ⟨ty, hty, k1, k2, _⟩ := hO
      refine ss_skip (et_val (ee_isi (tfre "isinstance") (ee_var 1) (ee_obj (tglo "Fixed")) (.own _) hty k1)) ?_
      refine ss_skip (et_val (ee_isi (tfre "isinstance") (ee_var 1) (ee_obj (tglo "Down")) (.own _) hty k2)) ?_
      exact ss_ret (EE.is (ee_and (z := false) (ee_call (v := .bl false) cl_is_pair (ea_cons (ee_var 1) ea_nil) fun H1 e1 => ⟨_, rfl, hO0.up e1, Gives.me⟩) fun h => Bool.noConfusion h) rfl) fun H1 e1 => hd _ _ e1 (ht _ e1)
/-! ### bars -/
def barR (t : Tb) (r : Rl) (h : Int) : Bool := r.stands h && decide (t.w h = t.w (r.left h))
theorem ee_stands [T : Tx K mg] {pl : Sem Bool} {N : List Str} {sc : Scope} {k : Nat} {X : Cx} {σ : L2.St} {H : Hp} {o e : Expr} {r : Rl} {v : V} {h : Int} {pos apos : Pos} [B : Bx P w K mg base N sc k X] (ho : EE X o σ H v) (hR : RlAt K r v H) (he : EE X e σ H (.int h)) (hz : HeapZ h) (hj : 4 ≤ k := by decide)
    (hst : starEach [e] X.env = (false, eval e X.env) :: starEach [] X.env := by rfl) (ht : eval (.Call (.Attribute o "stands_at" apos) [e] [] pos) X.env = (do
      let ov ← eval o X.env
      standAt apos.atName
      let (f, first) ← holding [ov] (getMethod ov "stands_at" pl)
      callWith pos f first (backTo pos (starEach [e] X.env)) (backToKw pos (keywordEach [] X.env))) := by rfl) : EE X (.Call (.Attribute o "stands_at" apos) [e] [] pos) σ H (.bl (r.stands h)) := by
  have hR0 := hR
  obtain ⟨hok, q, dq, rfl, hq⟩ := hR
  cases r with
  | fixed n r m l => exact ee_meth mt_Fixed_stands ho hq rfl (ea_cons he ea_nil hst) (fun H1 e1 => ⟨_, _, _, rfl, rfl, hR0.up e1, hz, Gives.me⟩) hj hst rfl ht
  | down n r m => exact ee_meth mt_Down_stands ho hq rfl (ea_cons he ea_nil hst) (fun H1 e1 => ⟨_, _, _, rfl, rfl, hR0.up e1, hz, Gives.me⟩) hj hst rfl ht
theorem ee_left [T : Tx K mg] {pl : Sem Bool} {N : List Str} {sc : Scope} {k : Nat} {X : Cx} {σ : L2.St} {H : Hp} {o e : Expr} {r : Rl} {v : V} {h : Int} {pos apos : Pos} [B : Bx P w K mg base N sc k X] (ho : EE X o σ H v) (hR : RlAt K r v H) (he : EE X e σ H (.int h)) (hz : HeapZ h) (hs : r.stands h = true) (hj : 5 ≤ k := by decide)
    (hst : starEach [e] X.env = (false, eval e X.env) :: starEach [] X.env := by rfl) (ht : eval (.Call (.Attribute o "left_at" apos) [e] [] pos) X.env = (do
      let ov ← eval o X.env
      standAt apos.atName
      let (f, first) ← holding [ov] (getMethod ov "left_at" pl)
      callWith pos f first (backTo pos (starEach [e] X.env)) (backToKw pos (keywordEach [] X.env))) := by rfl) : EE X (.Call (.Attribute o "left_at" apos) [e] [] pos) σ H (.int (r.left h)) := by
  have hR0 := hR
  obtain ⟨hok, q, dq, rfl, hq⟩ := hR
  cases r with
  | fixed n r m l => exact ee_meth mt_Fixed_left ho hq rfl (ea_cons he ea_nil hst) (fun H1 e1 => ⟨_, _, _, rfl, rfl, hR0.up e1, hz, hs, Gives.me⟩) hj hst rfl ht
  | down n r m => exact ee_meth mt_Down_left ho hq rfl (ea_cons he ea_nil hst) (fun H1 e1 => ⟨_, _, _, rfl, rfl, hR0.up e1, hz, hs, Gives.me⟩) hj hst rfl ht
theorem left_nn {r : Rl} (hok : r.ok) {h : Int} (hs : r.stands h = true) : 0 ≤ r.left h ∧ r.left h ≤ h := by
  unfold Rl.stands at hs
  rw [Bool.and_eq_true, decide_eq_true_eq] at hs
  cases r with
  | fixed n r m l =>
    have h1 : n + l ≤ h := hs.1
    have h2 : 1 ≤ n ∧ 0 ≤ l := ⟨hok.1, hok.2.2.1⟩
    exact ⟨show 0 ≤ h - n by omega, show h - n ≤ h by omega⟩
  | down n r m =>
    have h1 : n + 1 ≤ h := hs.1
    have h2 : 0 ≤ n := hok.1
    exact ⟨h2, show n ≤ h by omega⟩
def R_is_barred : List V → Hp → (V → Hp → Prop) → Prop := fun vs H T => ∃ (t : Tb) (r : Rl) (o x : V) (h : Int), vs = [o, x, .int h] ∧ TbAt K t o H ∧ RlAt K r x H ∧ HeapZ h ∧ Gives T H (.bl (barR t r h))
theorem cl_is_barred [T : Tx K mg] : Cl P w K mg base 6 "is_barred" (spR (R_is_barred (K := K))) := by
  obtain ⟨fd, F⟩ := f_is_barred (K := K) (mg := mg)
  refine ⟨⟨_, FnOk.raw0 (ok_fn F sc_is_barred ?_ ?_) (F.bindsN fun _ _ _ _ _ _ us hl => match us, hl with | [_, _, _], _ => rfl), tglo "is_barred", F.kp⟩⟩
  · rintro vs H T ⟨t, r, o, x, h, rfl, _⟩
    rfl
  · rintro X vs H T D B _ ⟨t, r, o, x, h, rfl, hT, hR, hz, ht⟩ hd _
    have hT0 := hT
    obtain ⟨_, A, hA, p, dp, rfl, hp⟩ := hT
    refine ss_ret (ee_and (ee_stands (ee_var 1) hR (ee_var 2) hz) fun hs => ee_one (ee_eqI (ee_meth mt_worth (ee_var 0) hp rfl (ea_cons (ee_var 2) ea_nil) fun H1 e1 => ⟨t, _, h, rfl, hT0.up e1, hz, Gives.me⟩) (ee_meth mt_worth (ee_var 0) hp rfl (ea_cons (ee_left (ee_var 1) hR (ee_var 2) hz hs) ea_nil) fun H1 e1 => ⟨t, _, r.left h, rfl, hT0.up e1, ?_, Gives.me⟩))) fun H1 e1 => hd _ _ e1 (ht _ e1)
    have := left_nn hR.1 hs
    have h1 := hz.1
    have h2 := hz.2
    exact ⟨this.1, Int.le_trans this.2 h2⟩
def settR (t : Tb) (r : Rl) : Int := max r.start (t.b + (match r with | .fixed n _ _ _ => n | .down _ _ _ => 0))
def R_settled : List V → Hp → (V → Hp → Prop) → Prop := fun vs H T => ∃ (t : Tb) (r : Rl) (o x : V), vs = [o, x] ∧ TbAt K t o H ∧ RlAt K r x H ∧ Gives T H (.int (settR t r))
theorem cl_settled [T : Tx K mg] : Cl P w K mg base 1 "settled_from" (spR (R_settled (K := K))) := by
  obtain ⟨fd, F⟩ := f_settled_from (K := K) (mg := mg)
  refine ⟨⟨_, FnOk.raw0 (ok_fn F sc_settled_from ?_ ?_) (F.bindsN fun _ _ _ _ _ _ us hl => match us, hl with | [_, _], _ => rfl), tglo "settled_from", F.kp⟩⟩
  · rintro vs H T ⟨t, r, o, x, rfl, _⟩
    rfl
  · rintro X vs H T D B _ ⟨t, r, o, x, rfl, hT, hR, ht⟩ hd _
    obtain ⟨_, A, hA, p, dp, rfl, hp⟩ := hT
    cases r with
    | fixed n r m l =>
      obtain ⟨hok, q, dq, rfl, hq⟩ := hR
      refine ss_set 2 (ee_if (et_val (ee_isi (tfre "isinstance") (ee_var 1) (ee_obj (tglo "Fixed")) (.own _) (ty_Fixed hq) k_Fixed_Fixed)) (fun _ => ee_fld (ee_var 1) hq (tcls "Fixed") (tfld "Fixed" "size") rfl) fun h => Bool.noConfusion h) ?_
      exact ss_ret (ee_max (tfre "max") (ee_intI (tfre "int") (ee_fld (ee_var 1) hq (tcls "Fixed") (tfld "Fixed" "start") rfl)) (ee_intI (tfre "int") (ee_add (ee_fld (ee_var 0) hp (tcls "Table") (tfld "Table" "begin") rfl) (ee_var 2)))) fun H1 e1 => hd _ _ e1 (ht _ e1)
    | down n r m =>
      obtain ⟨hok, q, dq, rfl, hq⟩ := hR
      refine ss_set 2 (ee_if (et_val (ee_isi (tfre "isinstance") (ee_var 1) (ee_obj (tglo "Fixed")) (.own _) (ty_Down hq) k_Down_Fixed)) (fun h => Bool.noConfusion h) fun _ => ee_int) ?_
      exact ss_ret (ee_max (tfre "max") (ee_intI (tfre "int") (ee_fld (ee_var 1) hq (tcls "Down") (tfld "Down" "start") rfl)) (ee_intI (tfre "int") (ee_add (ee_fld (ee_var 0) hp (tcls "Table") (tfld "Table" "begin") rfl) (ee_var 2)))) fun H1 e1 => hd _ _ e1 (ht _ e1)
end
end Fk
set_option maxRecDepth 100000
set_option maxHeartbeats 2000000
namespace Fk
open PySem PySem.Spec PyProof.Rows L2 Evl He
section
variable {P : Program} {w : World} {K : PySem.W.Frag} {mg : Str → Option Value} {base : Heap} {N : List Str} {sc : Scope} {k : Nat} {X : Cx} {σ : L2.St} {H : Hp} {a b o e : Expr} {pos pos' : Pos} {rest : List Stmt} {D : Ends} {v : V}
/-- o[i] = e, o a list -/
theorem ss_setIx [B : Bx P w K mg base N sc k X] {l : Addr} {xs : List V} {j : Nat} (hl : H l = some (.lst xs)) (he : EE X e σ H v) (ho : EE X a σ H (.ref l)) (hi : EE X b σ H (.int (j : Int))) (hj : j < xs.length) (r : ∀ H1, ExB l H H1 → H1 l = some (.lst (xs.set j v)) → SS X rest D σ H1)
    (hs : swapsWithSole [.Subscript a b pos'] e pos.line X.env = pure false := by rfl) (hw : swappedStores [.Subscript a b pos'] e X.env = pure none := by rfl) (h1 : (assignEach [.Subscript a b pos'] X.env).map (·.2) = [assign (.Subscript a b pos') X.env] := by rfl)
    (ha : ∀ v, assign (.Subscript a b pos') X.env v = (do
      let ov ← holding [v] (eval a X.env)
      let iv ← holding [v, ov] (eval b X.env)
      standAt pos'
      holding [v, ov, iv] (setItem ov iv v)
      release [v, ov, iv] []) := by intro _; rfl) : SS X (.Assign [.Subscript a b pos'] e pos :: rest) D σ H := fun H1 e1 =>
  wss_cons (ps_asg pe_w (pg_sub pe_w pe_w set_list ha) hs hw h1) (s_setL (D := { D with nx := wSs X rest D }) (e1 _ _ hl) (he.mono e1) (ho.mono e1) (hi.mono e1) hj fun H2 e2 => r _ (fun b o hb h => by rw [upd_ne hb]; exact e2 _ _ (e1 _ _ h)) upd_same _ (Ex.refl _))
theorem wSs.weak {sts : List Stmt} {D D' : Ends} (h : wSs X sts D σ H) (hn : ∀ σ H, D.nx σ H → D'.nx σ H) (hr : ∀ v H, D.rt v H → D'.rt v H) (hb : ∀ σ H, D.bk σ H → D'.bk σ H) (hc : ∀ σ H, D.ct σ H → D'.ct σ H) : wSs X sts D' σ H := fun pins s I => thn (h pins s I) fun f s' q => by
  cases f with
  | next =>
    obtain ⟨σ', H', I', q⟩ := q
    exact ⟨σ', H', I', hn _ _ q⟩
  | brk =>
    obtain ⟨σ', H', I', q⟩ := q
    exact ⟨σ', H', I', hb _ _ q⟩
  | cont =>
    obtain ⟨σ', H', I', q⟩ := q
    exact ⟨σ', H', I', hc _ _ q⟩
  | ret u =>
    obtain ⟨v, σ', H', I', r, q⟩ := q
    exact ⟨v, σ', H', I', r, hr _ _ q⟩
/-- an if that changes slots, cut by a word M of them -/
theorem ss_whenC {c : Expr} {th : List Stmt} {y : Bool} (M : L2.St → Prop) (h : ET X c σ H y) (h1 : y = true → SS X th { D with nx := fun σ2 H2 => M σ2 ∧ Ex H H2 } σ H) (h2 : y = false → M σ) (r : ∀ σ', M σ' → SS X rest D σ' H) : SS X (.If c th [] pos :: rest) D σ H :=
  ss_when h (fun hy H1 e1 => (h1 hy H1 e1).weak (fun σ2 H2 q => r σ2 q.1 H2 q.2) (fun _ _ q => q) (fun _ _ q => q) fun _ _ q => q) fun hy => r σ (h2 hy)
/-- e != [] -/
theorem et_neNil [B : Bx P w K mg base N sc k X] {l : Addr} {ns : List Int} (ha : EE X a σ H (.ref l)) (hl : H l = some (.lst (ns.map V.int))) : ET X (.Compare a [.NotEq] [.List [] pos'] pos) σ H (!ns.isEmpty) :=
  et_cmpQ (P1 := LP (ns.map V.int)) (P2 := LP []) (op_neD B.room.units) (nomark _) (EE.lp ha hl) (EL.lp (el_lst ea_nil)) (fun _ _ _ e p => p.up e) fun x y H1 e1 ⟨p, hx, hp⟩ ⟨q, hy, hq⟩ Q k => by
    rw [B.qK]
    refine ⟨.list ((ns.map V.int).map dat), .list [], by rw [hx]; exact .lst (sq_of hp) (dpAll_flat (ints_flat ns)), by rw [hy]; exact .lst (sq_of hq) .nil, ?_, rfl, ?_⟩
    · obtain ⟨h1, h2⟩ := lay_all (ns.map V.int)
      unfold SeqAt.shaped
      simp only [PyData.canLay0, PyData.depth, h1, h2]
      rfl
    · have := k H1 (Ex.refl H1)
      cases ns with
      | nil => exact this
      | cons n ns => exact this
end
/-- the pen: where it lies, its cells' list, the cells -/
structure Pn where
  a : Addr
  c : Addr
  ns : List Int
/-- the pen's state: the index of the next cell, what is left -/
def PenAt (pn : Pn) (i : Int) (H : Hp) : Prop := ∃ g : Int, pn.c ≠ pn.a ∧ H pn.a = some (.lst [.ref pn.c, .int i, .int g]) ∧ H pn.c = some (.lst (pn.ns.map V.int)) ∧ pn.ns.length ≤ 63 ∧ 0 ≤ i
theorem PenAt.up {pn : Pn} {i : Int} {H H' : Hp} (h : PenAt pn i H) (e : Ex H H') : PenAt pn i H' := by
  obtain ⟨g, h1, h2, h3, h4⟩ := h
  exact ⟨g, h1, e _ _ h2, e _ _ h3, h4⟩
def spDraw : Sp := fun vs H Q _ => ∃ (pn : Pn) (m i : Int), vs = [.ref pn.a, .int m] ∧ PenAt pn i H ∧ i ≤ 100000 ∧ 1 ≤ m ∧ m ≤ 1000 ∧ ∀ (d i' : Int) H', ExB pn.a H H' → PenAt pn i' H' → i' ≤ i + 1 → 0 ≤ d → d < m → Q (.int d) H'
section
variable {P : Program} {w : World} {K : PySem.W.Frag} {mg : Str → Option Value} {base : Heap}
theorem cl_draw [T : Tx K mg] : Cl P w K mg base 1 "_law_draw" spDraw := by
  obtain ⟨fd, F⟩ := f_law_draw (K := K) (mg := mg)
  refine ⟨⟨_, FnOk.raw0 (fn_by F sc_law_draw ?_ ?_) (F.bindsN fun _ _ _ _ _ _ us hl => match us, hl with | [_, _], _ => rfl), tglo "_law_draw", F.kp⟩⟩
  · rintro vs H Q E ⟨pn, m, i, rfl, _⟩
    rfl
  · rintro X vs H Q E B _ ⟨⟨pn, c, ns⟩, m, i, rfl, ⟨g, hc, hpn, hcs, hlen, h0⟩, hi, h1, h2, hq⟩
    simp only at hc hpn hcs hlen hq
    have md : ∀ x : Int, 0 ≤ x % m ∧ x % m < m := fun x => ⟨Int.emod_nonneg x (by omega), Int.emod_lt_of_pos x (by omega)⟩
    refine (show SS X _ _ _ H from ?_) H (Ex.refl H)
    refine ss_when (et_gt (ee_ixL (ee_var 0) ee_int (sq_of hpn) rfl) ee_int) (fun hg => ?_) fun hg => ?_
    · refine ss_set 2 (ee_mod (ee_intI (tfre "int") (ee_ixL (ee_var 0) ee_int (sq_of hpn) rfl)) (ee_var 1) (by omega)) ?_
      refine ss_setIx (j := 2) hpn (ee_fdiv (ee_intI (tfre "int") (ee_ixL (ee_var 0) ee_int (sq_of hpn) rfl)) (ee_var 1) ⟨by omega, by omega⟩) (ee_var 0) ee_int (by simp) fun H1 e1 hpn1 => ?_
      exact ss_ret (ee_var 2) fun H2 e2 => hq (g % m) i H2 (e1.ex e2) ⟨_, hc, e2 _ _ hpn1, e2 _ _ (e1 _ _ hc hcs), hlen, h0⟩ (by omega) (md g).1 (md g).2
    · refine ss_set 3 (ee_ixL (ee_var 0) ee_int (sq_of hpn) rfl) ?_
      refine ss_setIx (j := 1) hpn (ee_add (ee_var 3) ee_int) (ee_var 0) ee_int (by simp) fun H1 e1 hpn1 => ?_
      have hcs1 := e1 _ _ hc hcs
      have fin : ∀ (d : Int) H2, ExB pn H H2 → (∃ g2, H2 pn = some (.lst [.ref c, .int (i + 1), .int g2])) → 0 ≤ d → d < m → Q (.int d) H2 := fun d H2 e ⟨g2, hp2⟩ d1 d2 => hq d (i + 1) H2 e ⟨g2, hc, hp2, e _ _ hc hcs, hlen, by omega⟩ (by omega) d1 d2
      refine ss_set 4 (ee_add (ee_mul ee_int (ee_var 3) (.inl (by decide))) ee_int) ?_
      refine ss_whenC (fun σ' => ∃ z : Int, σ' = [some (.ref pn), some (.int m), none, some (.int i), some (.int z), none, none]) (et_neNil (ns := ns) (ee_ixL (ee_var 0) ee_int (sq_of hpn1) rfl) hcs1) (fun hne => ?_) (fun hne => ⟨61874 * i + 1418, rfl⟩) ?_
      · have hp : 0 < ns.length := by
          cases ns with
          | nil => exact absurd hne (by decide)
          | cons n ns => exact Nat.succ_pos _
        have e1 := Int.emod_nonneg i (show ((ns.map V.int).length : Int) ≠ 0 by rw [List.length_map]; omega)
        have e2 := Int.emod_lt_of_pos i (show (0 : Int) < ((ns.map V.int).length : Int) by rw [List.length_map]; omega)
        refine ss_set 4 (ee_ixL (ee_ixL (ee_var 0) ee_int (sq_of hpn1) rfl) (ee_mod (ee_intI (tfre "int") (ee_var 3)) (ee_lenL (tfre "len") (ee_ixL (ee_var 0) ee_int (sq_of hpn1) rfl) (sq_of hcs1)) (by rw [List.length_map]; omega)) (sq_of hcs1) (atI_ints e1 (by rw [List.length_map] at e2 ⊢; exact e2))) (ss_nil fun H2 e2 => ⟨⟨_, rfl⟩, e2⟩)
      · rintro σ' ⟨z, rfl⟩
        have ha : 0 ≤ (if z < 0 then -z else z) := by split <;> omega
        refine ss_when (y := decide (i < ((ns.map V.int).length : Int)) && decide ((10 : Int) ^ (18 : Int).toNat ≤ if z < 0 then -z else z)) (et_w (ew_and (et_lt (ee_var 3) (ee_lenL (tfre "len") (ee_ixL (ee_var 0) ee_int (sq_of hpn1) rfl) (sq_of hcs1))) fun _ => ew_and1 (et_ge (ee_abs (tfre "abs") (ee_var 4)) (ee_pow ee_int ee_int ⟨by decide, by decide, by decide⟩)))) (fun hb => ?_) fun _ => ?_
        · refine ss_set 5 (ee_add (ee_mul ee_int (ee_sub (ee_abs (tfre "abs") (ee_var 4)) (ee_pow ee_int ee_int ⟨by decide, by decide, by decide⟩)) (.inl (by decide))) (ee_intB (tfre "int") (ee_lt (ee_var 4) ee_int))) ?_
          refine ss_setIx (j := 2) hpn1 (ee_fdiv (ee_intI (tfre "int") (ee_var 5)) (ee_var 1) ⟨by omega, by omega⟩) (ee_var 0) ee_int (by simp) fun H2 e2 hpn2 => ?_
          exact ss_ret (ee_mod (ee_intI (tfre "int") (ee_var 5)) (ee_var 1) (by omega)) fun H3 e3 => fin _ H3 (fun b o hb h => e3 _ _ (e2 _ _ hb (e1 _ _ hb h))) ⟨_, e3 _ _ hpn2⟩ (md _).1 (md _).2
        · have b1 := Int.emod_nonneg z (show (2147483549 : Int) ≠ 0 by decide)
          have b2 := Int.emod_lt_of_pos z (show (0 : Int) < 2147483549 by decide)
          refine ss_set 6 (ee_mod (ee_intI (tfre "int") (ee_pow (ee_add (ee_add (ee_mod (ee_intI (tfre "int") (ee_var 4)) ee_int (by decide)) (ee_mul ee_int (ee_var 3) (.inl (by decide)))) ee_int) ee_int ⟨by decide, by decide, by omega⟩)) ee_int (by decide)) ?_
          generalize hm0 : (z % 2147483549 + 52540 * i + 854) ^ (5 : Int).toNat % 2147483629 = m0
          have c1 : 0 ≤ m0 := by rw [← hm0]; exact Int.emod_nonneg _ (by decide)
          have c2 : m0 < 2147483629 := by rw [← hm0]; exact Int.emod_lt_of_pos _ (by decide)
          have c3 : m0 * (2 * i + 71) ≤ 2147483629 * 200071 := by
            refine Int.le_trans (Int.mul_le_mul_of_nonneg_right (Int.le_of_lt c2) (by omega)) (Int.mul_le_mul_of_nonneg_left (by omega) (by decide))
          have c4 : 0 ≤ m0 * (2 * i + 71) := Int.mul_nonneg c1 (by omega)
          have c5 : 0 ≤ 47350 * i * i := Int.mul_nonneg (by omega) h0
          have c6 : 47350 * i * i ≤ 47350 * 100000 * 100000 := by
            refine Int.le_trans (Int.mul_le_mul_of_nonneg_left hi (by omega)) (Int.mul_le_mul_of_nonneg_right (by omega) (by decide))
          refine ss_set 6 (ee_mod (ee_intI (tfre "int") (ee_pow (ee_add (ee_add (ee_mul (ee_var 6) (ee_add (ee_mul ee_int (ee_var 3) (.inl (by decide))) ee_int) (.inl ⟨by omega, by omega⟩)) (ee_mul (ee_mul ee_int (ee_var 3) (.inl (by decide))) (ee_var 3) (.inr ⟨by omega, by omega⟩))) ee_int) ee_int ⟨by decide, by decide, by omega⟩)) ee_int (by decide)) ?_
          exact ss_ret (ee_mod (ee_intI (tfre "int") (ee_fdiv (ee_var 6) ee_int ⟨by decide, by decide⟩)) (ee_var 1) (by omega)) fun H3 e3 => fin _ H3 (fun b o hb h => e3 _ _ (e1 _ _ hb h)) ⟨_, e3 _ _ hpn1⟩ (md _).1 (md _).2
end
end Fk
set_option maxRecDepth 100000
set_option maxHeartbeats 2000000
namespace Fk
open PySem PySem.Spec PyProof.Rows L2 Evl He
/-! ### what draws: everything but the pen stays -/
def PenB (pn : Pn) (a : Int) (H : Hp) : Prop := ∃ i, PenAt pn i H ∧ i ≤ a
theorem PenB.up {pn : Pn} {a : Int} {H H' : Hp} (h : PenB pn a H) (e : Ex H H') : PenB pn a H' := by
  obtain ⟨i, h1, h2⟩ := h
  exact ⟨i, h1.up e, h2⟩
theorem PenB.le {pn : Pn} {a b : Int} {H : Hp} (h : PenB pn a H) (q : a ≤ b) : PenB pn b H := by
  obtain ⟨i, h1, h2⟩ := h
  exact ⟨i, h1, by omega⟩
/-- the heap without the pen -/
def off (pn : Pn) (H : Hp) : Hp := fun b => if b = pn.a then none else H b
theorem off_pn {pn : Pn} {H : Hp} : off pn H pn.a = none := if_pos rfl
theorem off_ne {pn : Pn} {b : Addr} {H : Hp} (h : b ≠ pn.a) : off pn H b = H b := if_neg h
theorem off_ex {pn : Pn} {H : Hp} : Ex (off pn H) H := fun b o h => by
  unfold off at h
  split at h
  · cases h
  · exact h
theorem ex_off {pn : Pn} {G H : Hp} (e : Ex G H) (h0 : G pn.a = none) : Ex G (off pn H) := fun b o h => by
  rw [off_ne (ne_of_none h h0)]
  exact e b o h
theorem off_b {pn : Pn} {H H' : Hp} (e : ExB pn.a H H') : Ex (off pn H) (off pn H') := fun b o h => by
  by_cases hb : b = pn.a
  · subst hb
    rw [off_pn] at h
    cases h
  · rw [off_ne hb] at h ⊢
    exact e b o hb h
theorem exb {pn : Pn} {H H' : Hp} (e : Ex H H') : ExB pn.a H H' := fun b o _ h => e b o h
theorem ExB.trans {pn : Pn} {H H1 H2 : Hp} (a : ExB pn.a H H1) (b : ExB pn.a H1 H2) : ExB pn.a H H2 := fun c o h q => b c o h (a c o h q)
def EvD (te : TE) (pn : Pn) (n : Int) (σ : L2.St) (G : Hp) (P : V → Hp → Prop) : Prop := ∀ H1 a, Ex G H1 → PenB pn a H1 → a + n ≤ 100000 → ∀ Q : VK, (∀ v H2, ExB pn.a H1 H2 → PenB pn (a + n) H2 → P v (off pn H2) → Q v H2) → te σ H1 Q
def EvAD (ta : TA) (pn : Pn) (n : Int) (σ : L2.St) (G : Hp) (P : List V → Hp → Prop) : Prop := ∀ H1 a, Ex G H1 → PenB pn a H1 → a + n ≤ 100000 → ∀ Q : List V → Hp → Prop, (∀ v H2, ExB pn.a H1 H2 → PenB pn (a + n) H2 → P v (off pn H2) → Q v H2) → ta σ H1 Q
abbrev ED (X : Cx) (e : Expr) (pn : Pn) (n : Int) (σ : L2.St) (G : Hp) (P : V → Hp → Prop) : Prop := EvD (wE X e) pn n σ G P
abbrev EAD (X : Cx) (es : List Expr) (pn : Pn) (n : Int) (σ : L2.St) (G : Hp) (P : List V → Hp → Prop) : Prop := EvAD (wA X es) pn n σ G P
def SD (X : Cx) (sts : List Stmt) (D : Ends) (pn : Pn) (a : Int) (σ : L2.St) (G : Hp) : Prop := ∀ H1, Ex G H1 → PenB pn a H1 → wSs X sts D σ H1
/-- a promise of what draws -/
def spDr (n : Int) (R : List V → Hp → (V → Hp → Prop) → Prop) : Sp := fun vs H Q _ => ∃ pn args a T, vs = .ref pn.a :: args ∧ PenB pn a H ∧ a + n ≤ 100000 ∧ R args (off pn H) T ∧ ∀ v H', ExB pn.a H H' → PenB pn (a + n) H' → T v (off pn H') → Q v H'
section
variable {P : Program} {w : World} {K : PySem.W.Frag} {mg : Str → Option Value} {base : Heap} {N : List Str} {sc : Scope} {j k : Nat} {X : Cx} {σ : L2.St} {G H : Hp} {a b c e : Expr} {es : List Expr} {x : Str} {pos pos' : Pos} {rest th el : List Stmt} {D : Ends} {v : V} {vs : List V} {pn : Pn} {n m i : Int} {P1 P2 T : V → Hp → Prop} {PA' : List V → Hp → Prop}
theorem EvD.of {t : TE} (h : PE X e t) (q : EvD t pn n σ G P1) : ED X e pn n σ G P1 := fun H1 a e1 hp hn Q k => wE.of h (q H1 a e1 hp hn Q k)
theorem EvAD.of {t : TA} (h : PA X es t) (q : EvAD t pn n σ G PA') : EAD X es pn n σ G PA' := fun H1 a e1 hp hn Q k => wA.of h (q H1 a e1 hp hn Q k)
theorem EvD.imp {te : TE} (h : EvD te pn n σ G P1) (q : ∀ v G2, Ex G G2 → G2 pn.a = none → P1 v G2 → P2 v G2) (h0 : G pn.a = none) : EvD te pn n σ G P2 := fun H1 a e1 hp hn Q k => h H1 a e1 hp hn Q fun v H2 b2 p2 q2 => k v H2 b2 p2 (q v _ (ex_off (b2.to e1 h0) h0) off_pn q2)
theorem EvD.mono {te : TE} {G' : Hp} (h : EvD te pn n σ G P1) (e : Ex G G') : EvD te pn n σ G' P1 := fun H1 a e1 => h H1 a (e.trans e1)
theorem ed_ee (h : EE X e σ G v) : ED X e pn 0 σ G fun u _ => u = v := fun H1 a e1 hp _ Q q => h H1 e1 Q fun H2 e2 => q v H2 (exb e2) (by rw [Int.add_zero]; exact hp.up e2) rfl
theorem ed_eq (h : EQ X e σ G T) (ht : ∀ v H1, PenB pn 100000 H1 → T v H1 → P1 v (off pn H1)) (h0 : G pn.a = none) : ED X e pn 0 σ G P1 := fun H1 a e1 hp hn Q q => h H1 e1 Q fun v H2 e2 t => q v H2 (exb e2) (by rw [Int.add_zero]; exact hp.up e2) (ht v H2 ((hp.up e2).le (by omega)) t)
theorem ea_d (h : EA X es σ G vs) : EAD X es pn 0 σ G fun us _ => us = vs := fun H1 a e1 hp _ Q q => h H1 e1 Q fun H2 e2 => q vs H2 (exb e2) (by rw [Int.add_zero]; exact hp.up e2) rfl
/-- a draw -/
theorem ed_draw [B : Bx P w K mg base N sc k X] [Tx K mg] (ha : EA X (e :: es) σ G [.ref pn.a, .int m]) (hm : 1 ≤ m ∧ m ≤ 1000) (hj : 1 ≤ k := by decide) (hg : gloB sc "_law_draw" = true := by decide +kernel) (he : starEach (e :: es) X.env = (false, eval e X.env) :: starEach es X.env := by rfl) (hpl : (backTo pos (starEach es X.env)).any (·.1) = false := by rfl) :
    ED X (.Call (.Name "_law_draw" pos') (e :: es) [] pos) pn 1 σ G fun u _ => ∃ d : Int, u = .int d ∧ 0 ≤ d ∧ d < m :=
  EvD.of (cl_raw cl_draw hj hg he hpl) fun H1 a e1 ⟨i, hp, hi⟩ hn Q q => ha H1 e1 _ fun H2 e2 => ⟨pn, m, i, rfl, hp.up e2, by omega, hm.1, hm.2, fun d i' H3 b3 p3 h1 h2 h3 => q _ H3 (fun b o hb h => b3 b o hb (e2 b o h)) ⟨i', p3, by omega⟩ ⟨d, rfl, h2, h3⟩⟩
/-- f(pen, ..) that draws, the arguments too -/
theorem ed_callD [B : Bx P w K mg base N sc k X] {R : List V → Hp → (V → Hp → Prop) → Prop} {n1 n2 : Int} (cl : Cl P w K mg base j x (spDr n2 R)) (ha : EAD X (e :: es) pn n1 σ G PA') (hR : ∀ vs G2, Ex G G2 → G2 pn.a = none → PA' vs G2 → ∃ args, vs = .ref pn.a :: args ∧ R args G2 T) (h0 : G pn.a = none) (h2 : 0 ≤ n2) (hj : j ≤ k := by decide) (hg : gloB sc x = true := by decide +kernel) (he : starEach (e :: es) X.env = (false, eval e X.env) :: starEach es X.env := by rfl) (hpl : (backTo pos (starEach es X.env)).any (·.1) = false := by rfl) :
    ED X (.Call (.Name x pos') (e :: es) [] pos) pn (n1 + n2) σ G T :=
  EvD.of (cl_raw cl hj hg he hpl) fun H1 a e1 hp hn Q q => ha H1 a e1 hp (by omega) _ fun vs H2 b2 p2 hv => by
    obtain ⟨args, hvs, hRR⟩ := hR vs _ (ex_off (b2.to e1 h0) h0) off_pn hv
    exact ⟨pn, args, a + n1, T, hvs, p2, by omega, hRR, fun v H3 b3 p3 t => q v H3 (b2.trans b3) (by rw [← Int.add_assoc]; exact p3) t⟩
theorem ed_call [B : Bx P w K mg base N sc k X] {R : List V → Hp → (V → Hp → Prop) → Prop} (cl : Cl P w K mg base j x (spDr n R)) (ha : EA X (e :: es) σ G (.ref pn.a :: vs)) (hR : ∀ G2, Ex G G2 → G2 pn.a = none → R vs G2 T) (h0 : G pn.a = none) (h2 : 0 ≤ n) (hj : j ≤ k := by decide) (hg : gloB sc x = true := by decide +kernel) (he : starEach (e :: es) X.env = (false, eval e X.env) :: starEach es X.env := by rfl) (hpl : (backTo pos (starEach es X.env)).any (·.1) = false := by rfl) :
    ED X (.Call (.Name x pos') (e :: es) [] pos) pn n σ G T := by
  have h := ed_callD (PA' := fun us _ => us = .ref pn.a :: vs) (T := T) (pos := pos) (pos' := pos') cl (ea_d (pn := pn) ha) (fun us G2 e2 hn hus => ⟨vs, hus, hR G2 e2 hn⟩) h0 h2 hj hg he hpl
  rwa [Int.zero_add] at h
/-! ### argument lists -/
theorem ead_nil (h : ∀ G2, Ex G G2 → G2 pn.a = none → PA' [] G2) (h0 : G pn.a = none) : EAD X [] pn 0 σ G PA' := EvAD.of pa_nil fun H1 a e1 hp _ Q q => q [] H1 (fun _ _ _ h => h) (by rw [Int.add_zero]; exact hp) (h _ (ex_off e1 h0) off_pn)
theorem ead_cons {n1 n2 : Int} (h : ED X e pn n1 σ G P1) (hr : ∀ v G2, Ex G G2 → G2 pn.a = none → P1 v G2 → EAD X es pn n2 σ G2 fun vs H2 => PA' (v :: vs) H2) (h0 : G pn.a = none) (hn2 : 0 ≤ n2) (hs : starEach (e :: es) X.env = (false, eval e X.env) :: starEach es X.env := by rfl) : EAD X (e :: es) pn (n1 + n2) σ G PA' :=
  EvAD.of (pa_cons pe_w pa_w hs) fun H1 a e1 hp hn Q q => h H1 a e1 hp (by omega) _ fun v H2 b2 p2 t => hr v _ (ex_off (b2.to e1 h0) h0) off_pn t H2 (a + n1) off_ex p2 (by omega) _ fun vs H3 b3 p3 t3 => q _ H3 (b2.trans b3) (by rw [← Int.add_assoc]; exact p3) t3
theorem ead_ee {v : V} (h : EE X e σ G v) (hr : EAD X es pn n σ G fun vs H2 => PA' (v :: vs) H2) (hs : starEach (e :: es) X.env = (false, eval e X.env) :: starEach es X.env := by rfl) : EAD X (e :: es) pn n σ G PA' :=
  EvAD.of (pa_cons pe_w pa_w hs) fun H1 a e1 hp hn Q q => h H1 e1 _ fun H2 e2 => hr H2 a (e1.trans e2) (hp.up e2) hn _ fun vs H3 b3 p3 t3 => q _ H3 (fun b o hb h => b3 b o hb (e2 b o h)) p3 t3
/-! ### operators -/
theorem ed_addR (ha : EE X a σ G (.int i)) (hb : ED X b pn n σ G P1) (h : ∀ v G2, P1 v G2 → ∃ d, v = .int d ∧ P2 (.int (i + d)) G2) : ED X (.BinOp a .Add b pos) pn n σ G P2 :=
  EvD.of (pe_op op_add pe_w pe_w) fun H1 q e1 hp hn Q k => ha H1 e1 _ fun H2 e2 => hb H2 q (e1.trans e2) (hp.up e2) hn _ fun v H3 b3 p3 t => by
    obtain ⟨d, rfl, t2⟩ := h v _ t
    exact ⟨i, d, rfl, rfl, k _ H3 (fun b o hb h => b3 b o hb (e2 b o h)) p3 t2⟩
/-! ### statements -/
theorem SD.ss {q : Int} (h : SD X rest D pn q σ G) (e : Ex G H) (hp : PenB pn q H) : SS X rest D σ H := fun H2 e2 => h H2 (e.trans e2) (hp.up e2)
theorem sd_of {q : Int} (h : ∀ H1, Ex G H1 → PenB pn q H1 → SS X rest D σ H1) : SD X rest D pn q σ G := fun H1 e1 hp => h H1 e1 hp H1 (Ex.refl H1)
theorem sd_set [B : Bx P w K mg base N sc k X] [Gx : Dx X] {q : Int} (y : Nat) (h : ED X e pn n σ G P1) (r : ∀ v G2, Ex G G2 → G2 pn.a = none → P1 v G2 → SD X rest D pn (q + n) (σ.set y (some v)) G2) (h0 : G pn.a = none) (hn : q + n ≤ 100000 := by omega) (hN : N[y]? = some x := by rfl) (hv : locB sc x = true := by decide +kernel)
    (hs : swapsWith e (some (.Name x pos')) pos.line X.env = pure false := by rfl) : SD X (.Assign [.Name x pos'] e pos :: rest) D pn q σ G := fun H1 e1 hp =>
  wss_cons (ps_set B.ndx (B.ix hN) (B.loc hv) pe_w hs (.inl (Gx.fn x))) (h H1 q e1 hp hn _ fun v H2 b2 p2 t => r v _ (ex_off (b2.to e1 h0) h0) off_pn t H2 off_ex p2)
theorem sd_ret {q : Int} (h : ED X e pn n σ G P1) (r : ∀ v H1, Ex G H1 → PenB pn (q + n) H1 → P1 v (off pn H1) → D.rt v H1) (h0 : G pn.a = none) (hn : q + n ≤ 100000 := by omega) : SD X (.Return (some e) pos :: rest) D pn q σ G := fun H1 e1 hp =>
  wss_cons (ps_ret pe_w) (h H1 q e1 hp hn _ fun v H2 b2 p2 t => r v H2 (b2.to e1 h0) p2 t)
theorem sd_if {y : Bool} {q : Int} (h : ET X c σ G y) (h1 : y = true → SD X th { D with nx := wSs X rest D } pn q σ G) (h2 : y = false → SD X el { D with nx := wSs X rest D } pn q σ G) : SD X (.If c th el pos :: rest) D pn q σ G := fun H1 e1 hp =>
  wss_cons (ps_if pt_w pss_w pss_w) (h H1 e1 _ fun H2 e2 => by
    cases y with
    | true =>
      show wSs X th _ σ H2
      exact h1 rfl H2 (e1.trans e2) (hp.up e2)
    | false =>
      show wSs X el _ σ H2
      exact h2 rfl H2 (e1.trans e2) (hp.up e2))
theorem sd_nil {q : Int} (h : ∀ H1, Ex G H1 → PenB pn q H1 → D.nx σ H1) : SD X [] D pn q σ G := fun H1 e1 hp => wSs.of pss_nil (h H1 e1 hp)
end
end Fk
set_option maxRecDepth 100000
set_option maxHeartbeats 2000000
namespace Fk
open PySem PySem.Spec PyProof.Rows L2 Evl He
section
variable {P : Program} {w : World} {K : PySem.W.Frag} {mg : Str → Option Value} {base : Heap} {x qual : Str} {params : Arguments} {body : List Stmt} {scope : Scope} {dvs : List V} {kws : List (Str × V)} {f : Addr} {fd : FuncData} {N ps : List Str} {k : Nat}
theorem ok_fnD {n : Int} {R : List V → Hp → (V → Hp → Prop) → Prop} (F : FunD K x qual params body scope dvs kws f fd) (S : FnScope N ps scope) (len : ∀ vs H T, R vs H T → vs.length + 1 = ps.length)
    (hb : ∀ (X : Cx) (pn : Pn) (vs : List V) (a : Int) (G : Hp) (T : V → Hp → Prop) (D : Ends), Bx P w K mg base N scope k X → Dx X → G pn.a = none → a + n ≤ 100000 → R vs G T → (∀ v H', Ex G H' → PenB pn (a + n) H' → T v (off pn H') → D.rt v H') → SD X body D pn a (start N (.ref pn.a :: vs)) G) : FnOk P w K mg base CX0 (k + 1) f fd ps (spDr n R) :=
  fn_by F S (fun vs H Q E ⟨pn, args, a, T, hv, _, _, h, _⟩ => by rw [hv]; exact len args _ T h) fun X vs H Q E B G ⟨pn, args, a, T, hv, hp, hn, hR, q⟩ => by
    rw [hv]
    exact hb X pn args a (off pn H) T _ B G off_pn hn hR (fun v H' e p t => q v H' (fun b o hb h => e b o (by rw [off_ne hb]; exact h)) p t) H off_ex hp
end
section
variable {P : Program} {w : World} {K : PySem.W.Frag} {mg : Str → Option Value} {base : Heap} {N : List Str} {sc scope : Scope} {j k : Nat} {X : Cx} {σ : L2.St} {G H : Hp} {a b c e elt : Expr} {es : List Expr} {x y : Str} {pos p pf py pos' : Pos} {rest : List Stmt} {D : Ends} {v : V} {pn : Pn} {n m i : Int} {P1 P2 T : V → Hp → Prop}
/-- a comprehension that draws -/
def LCD (X : Cx) (elt : Expr) (y : Str) (py : Pos) (it : Expr) (ifs : List Expr) (scope : Scope) (pn : Pn) (n : Int) (σ : L2.St) (G : Hp) (P1 : V → Hp → Prop) : Prop :=
  ∃ (wi : TI) (g : TG) (tt : TT) (te : TE) (own : List (Str × Nat)), X.calm = true ∧ X.N.Nodup ∧ PI X (.Name y py) it wi ∧ BlkOk X.N X.env.scope scope own ∧ (∀ (s : Shared) (H : Hp) (C : Addr) (cl : List (Str × Addr)) (fp : List Addr), PG (X.blk s H scope (compEnvC scope cl C X.env) fp) (.Name y py) g) ∧
    (∀ (s : Shared) (H : Hp) (C : Addr) (cl : List (Str × Addr)) (fp : List Addr), PTs (X.blk s H scope (compEnvC scope cl C X.env) fp) ifs tt) ∧ (∀ (s : Shared) (H : Hp) (C : Addr) (cl : List (Str × Addr)) (fp : List Addr), PE (X.blk s H scope (compEnvC scope cl C X.env) fp) elt te) ∧
    (∀ z, foldedSetIterable it X.env z = pure z) ∧ EvD (tLc wi g tt te (own.map (·.2))) pn n σ G P1
theorem bd_of [B : Bx P w K mg base N sc k X] (h : ∀ X', Bx P w K mg base N (relS scope sc) k X' → ED X' e pn n σ G P1) : EvD (bE X scope e) pn n σ G P1 := fun H1 a e1 hp hn Q q s H0 C cl fp => h _ bx_blk H1 a e1 hp hn Q q
theorem pen_keep {Dl : Addr} {H H' : Hp} {q : Int} (hp : PenB pn q H) (hD : H Dl ≠ none → False) (h1 : Dl ≠ pn.a) (h2 : Dl ≠ pn.c) (e : ∀ b, b ≠ Dl → H' b = H b) : PenB pn q H' := by
  obtain ⟨i, ⟨g, h3, h4, h5, h6⟩, hi⟩ := hp
  exact ⟨i, ⟨g, h3, by rw [e _ (Ne.symm h1)]; exact h4, by rw [e _ (Ne.symm h2)]; exact h5, h6⟩, hi⟩
theorem pen_upd {Dl : Addr} {H : Hp} {o : HO} {q : Int} (hp : PenB pn q H) (h1 : Dl ≠ pn.a) (h2 : Dl ≠ pn.c) : PenB pn q (upd H Dl o) := by
  obtain ⟨i, ⟨g, h3, h4, h5, h6⟩, hi⟩ := hp
  exact ⟨i, ⟨g, h3, by rw [upd_ne (Ne.symm h1)]; exact h4, by rw [upd_ne (Ne.symm h2)]; exact h5, h6⟩, hi⟩
theorem pen_ne {Dl : Addr} {H : Hp} {q : Int} (hp : PenB pn q H) (h : H Dl = none) : Dl ≠ pn.a ∧ Dl ≠ pn.c := by
  obtain ⟨i, ⟨g, h3, h4, h5, h6⟩, hi⟩ := hp
  exact ⟨fun z => (ne_of_none h4 h) z.symm, fun z => (ne_of_none h5 h) z.symm⟩
/-- a list of drawn ints -/
def Ints (pn : Pn) (G : Hp) (lo hi : Int) (Pd : Int → Prop) : V → Hp → Prop := fun v H => ∃ (l : Addr) (ns : List Int), v = .ref l ∧ H l = some (.lst (ns.map V.int)) ∧ l ≠ pn.c ∧ G l = none ∧ lo ≤ ns.length ∧ (ns.length : Int) ≤ hi ∧ ∀ d ∈ ns, Pd d
theorem lcd_draws [B : Bx P w K mg base N sc k X] {n1 lo hi : Int} {Pd : Int → Prop} (z : Nat) (ha : ED X a pn n1 σ G fun u _ => ∃ d : Int, u = .int d ∧ lo ≤ d ∧ d ≤ hi) (h01 : 0 ≤ n1) (hlo : 0 ≤ lo) (hhi : 0 ≤ hi ∧ hi ≤ 1000) (h0 : G pn.a = none) (hm : mg "range" = none)
    (he : ∀ X' (i : Nat) G', Bx P w K mg base N (relS scope sc) k X' → Ex G G' → ED X' elt pn 1 (inB σ z (.int i)) G' fun u _ => ∃ d : Int, u = .int d ∧ Pd d)
    (hB : lcB N sc scope y z = true := by decide +kernel) (hN : N[z]? = some y := by rfl) (hg : gloB sc "range" = true := by decide +kernel) (hs1 : starEach [a] X.env = [(false, eval a X.env)] := by rfl) (hs : ∀ q, foldedSetIterable (.Call (.Name "range" p) [a] [] pf) X.env q = pure q := by intro _; rfl) :
    LCD X elt y py (.Call (.Name "range" p) [a] [] pf) [] scope pn (n1 + hi) σ G (Ints pn G lo hi Pd) := by
  refine ⟨_, gName z, tYes, bE X scope elt, [(y, z)], B.calm, B.ndx, pi_range1 (B.gl hg) (by rw [B.qm]; exact hm) (pa_cons pe_w pa_nil hs1) hs1, blk_ok (lcB_ok hB).1, pg_blk hN (lcB_ok hB).2, fun s H C cl fp => pts_nil, (fun s H C cl fp => ⟨fun pins s' σ H' Q I h => h s H C cl fp pins s' I⟩), hs, ?_⟩
  intro H1 q0 e1 hp hn Q qk
  refine ha H1 q0 e1 hp (by omega) _ fun u H2 b2 p2 ⟨d, hu, d1, d2⟩ => ?_
  subst hu
  refine ⟨d, rfl, by omega, by omega, fun Dl hD => ?_⟩
  obtain ⟨na, nc⟩ := pen_ne p2 hD
  have eG : Ex G H2 := b2.to e1 h0
  refine lc_range (lo := 0) (n := d.toNat) (fun i H => ∃ ns : List Int, H Dl = some (.lst (ns.map V.int)) ∧ ns.length = i ∧ (∀ d ∈ ns, Pd d) ∧ (∀ b o, b ≠ pn.a → H2 b = some o → H b = some o) ∧ PenB pn (q0 + n1 + i) H) ⟨[], upd_same, rfl, fun _ h => absurd h (by simp), fun b o _ h => by
      rw [upd_ne (ne_of_none h hD)]
      exact h, pen_upd (by rw [show q0 + n1 + ((0 : Nat) : Int) = q0 + n1 by omega]; exact p2) na nc⟩ ?_ ?_
  · rintro i H hi ⟨ns, h1, h2, h3, h4, h5⟩
    have eGH : Ex G H := fun b o h => h4 b o (ne_of_none h h0) (eG b o h)
    refine ⟨wipe1 σ z _, ?_⟩
    have e0 : (0 : Int) + (i : Int) = (i : Int) := Int.zero_add _
    show bE X scope elt ((wipe σ [z]).set z (some (.int ((0 : Int) + (i : Int))))) H _
    rw [e0]
    refine bd_of (fun X' B' => he X' i (off pn H) B' (ex_off eGH h0)) H (q0 + n1 + i) off_ex h5 (by omega) _ fun v H3 b3 p3 ⟨d', hv, hd'⟩ => ?_
    subst hv
    have g1 : H3 Dl = some (.lst (ns.map V.int)) := b3 _ _ na h1
    refine ⟨ns.map V.int, g1, sz_lt (by rw [List.length_map]; omega), ns ++ [d'], ?_, ?_, ?_, ?_, ?_⟩
    · rw [List.map_append]
      exact upd_same
    · rw [List.length_append, h2]
      rfl
    · intro d hd
      rcases List.mem_append.mp hd with h | h
      · exact h3 d h
      · rw [List.mem_singleton.mp h]
        exact hd'
    · intro b o hb h
      rw [upd_ne (ne_of_none h hD)]
      exact b3 b o hb (h4 b o hb h)
    · refine pen_upd ?_ na nc
      rw [show q0 + n1 + ((i + 1 : Nat) : Int) = q0 + n1 + (i : Int) + 1 by omega]
      exact p3
  · rintro H ⟨ns, h1, h2, h3, h4, h5⟩
    refine qk _ H (fun b o hb h => h4 b o hb (b2 b o hb h)) (h5.le (by omega)) ⟨Dl, ns, rfl, by rw [off_ne na]; exact h1, nc, fresh_back eG hD, by omega, by omega, h3⟩
theorem sd_setC [B : Bx P w K mg base N sc k X] {z : Str} {it : Expr} {ifs : List Expr} {pz spos : Pos} {a0 : Int} (q : Nat) (h : LCD X elt y py it ifs scope pn n σ G P1) (r : ∀ v G2, Ex G G2 → G2 pn.a = none → P1 v G2 → SD X rest D pn (a0 + n) (σ.set q (some v)) G2) (h0 : G pn.a = none) (hn : a0 + n ≤ 100000 := by omega) (hN : N[q]? = some z := by rfl) (hl : decide (sc.names.lookup z = some .local) = true := by decide +kernel)
    (hk : decide (sc.kind = .function) = true := by decide +kernel) (hln : (pz.line == pos.line) = true := by rfl) (ha : (scope.names.any fun (n, k) => n == z && (k == .local || k == .cell)) = false := by decide +kernel) :
    SD X (.Assign [.Name z pz] (.ListComp elt [⟨.Name y py, it, ifs, 0⟩] scope pos) spos :: rest) D pn a0 σ G := fun H1 e1 hp => by
  obtain ⟨wi, g, tt, te, own, h1, h2, h3, h4, h5, h6, h7, h8, h9⟩ := h
  have hz : X.env.scope.names.lookup z = some .local := by
    rw [B.qs]
    exact of_decide_eq_true hl
  have hk' : X.env.scope.kind = .function := by
    rw [B.qs]
    exact of_decide_eq_true hk
  exact wss_cons (ps_setLc h1 h2 (B.ix hN) hz (sw_true hk' hz hln ha) h3 h4 h5 h6 h7 h8) (h9 H1 a0 e1 hp hn _ fun v H2 b2 p2 t => r v _ (ex_off (b2.to e1 h0) h0) off_pn t H2 off_ex p2)
/-- l + m, lists -/
theorem el_cat {xs ys : List V} (ha : EQ X a σ H (LP xs)) (hb : EQ X b σ H (LP ys)) (hz : xs.length + ys.length ≤ 100000) : EL X (.BinOp a .Add b pos) σ H (xs ++ ys) := fun H1 e1 Q q =>
  wE.of (pe_op op_cat pe_w pe_w) (ha H1 e1 _ fun u H2 e2 ⟨l, hu, hl⟩ => hb H2 (e1.trans e2) _ fun v H3 e3 ⟨m, hv, hm⟩ => ⟨l, m, xs, ys, hu, hv, e3 _ _ hl, hm, sz_of hz, fun p hp => q p _ (fresh_back (e2.trans e3) hp) ((e2.trans e3).trans (Ex.new hp)) upd_same⟩)
end
section
variable {P : Program} {w : World} {K : PySem.W.Frag} {mg : Str → Option Value} {base : Heap}
def R_pick : List V → Hp → (V → Hp → Prop) → Prop := fun vs G T => ∃ (l : Addr) (xs : List V), vs = [.ref l] ∧ G l = some (.lst xs) ∧ 1 ≤ xs.length ∧ xs.length ≤ 1000 ∧ ∀ v G', Ex G G' → v ∈ xs → T v G'
theorem cl_pick [T : Tx K mg] : Cl P w K mg base 2 "_law_pick" (spDr 1 R_pick) := by
  obtain ⟨fd, F⟩ := f_law_pick (K := K) (mg := mg)
  refine ⟨⟨_, FnOk.raw0 (ok_fnD F sc_law_pick ?_ ?_) (F.bindsN fun _ _ _ _ _ _ us hl => match us, hl with | [_, _], _ => rfl), tglo "_law_pick", F.kp⟩⟩
  · rintro vs H T ⟨l, xs, rfl, _⟩
    rfl
  · rintro X pn vs a G T D B _ h0 hn ⟨l, xs, rfl, hl, h1, h2, ht⟩ hd
    refine fun H1 e1 hp => wss_cons (ps_ret (pe_ix ix_list pe_w pe_w (by intro _ _; rfl))) ?_
    refine (show EE X _ _ G (V.ref l) from ee_var 1) H1 e1 _ fun H2 e2 => ?_
    refine (show ED X _ pn 1 _ G _ from ed_draw (ea_cons (ee_var 0) (ea_cons (ee_lenL (tfre "len") (ee_var 1) (sq_of hl)) ea_nil)) ⟨by omega, by omega⟩) H2 a (e1.trans e2) (hp.up e2) hn _ fun v H3 b3 p3 ⟨d, hv, d1, d2⟩ => ?_
    subst hv
    have e3 : Ex G H3 := b3.to (e1.trans e2) h0
    obtain ⟨i, rfl⟩ := Int.eq_ofNat_of_zero_le d1
    have hi : i < xs.length := by omega
    rw [B.qK]
    exact ⟨l, xs, (i : Int), xs[i], rfl, rfl, sq_of (e3 _ _ hl), atI_nat (List.getElem?_eq_getElem hi), hd _ _ e3 p3 (ht _ _ (ex_off e3 h0) (List.getElem_mem hi))⟩
/-- a drawn table: the worths ahead, the ones that come again -/
structure Pl where
  f : List Int
  g : List Int
structure Pl.ok (q : Pl) (b t m : Int) : Prop where
  lf : (q.f.length : Int) ≤ b
  l1 : 1 ≤ q.g.length
  lg : (q.g.length : Int) ≤ t
  bf : ∀ d ∈ q.f, 0 ≤ d ∧ d < m
  bg : ∀ d ∈ q.g, 0 ≤ d ∧ d < m
  fst : (q.f ++ q.g).getD 0 1 = 0
def PlAt (q : Pl) : V → Hp → Prop := fun v H => ∃ p u z, v = .ref p ∧ H p = some (.tup [u, z]) ∧ LP (q.f.map V.int) u H ∧ LP (q.g.map V.int) z H
theorem PlAt.up {q : Pl} {v : V} {H H' : Hp} (h : PlAt q v H) (e : Ex H H') : PlAt q v H' := by
  obtain ⟨p, u, z, h1, h2, h3, h4⟩ := h
  exact ⟨p, u, z, h1, e _ _ h2, h3.up e, h4.up e⟩
theorem ints_pen {pn : Pn} {q : Int} {H : Hp} {l : Addr} {ns : List Int} (hp : PenB pn q H) (h : H l = some (.lst (ns.map V.int))) : l ≠ pn.a := fun z => by
  obtain ⟨i, ⟨g, _, h4, _⟩, _⟩ := hp
  rw [z, h4] at h
  cases ns with
  | nil => simp at h
  | cons n ns => simp at h
theorem PlAt.off {q : Pl} {v : V} {H : Hp} {pn : Pn} {i : Int} (h : PlAt q v H) (hp : PenB pn i H) : PlAt q v (off pn H) := by
  obtain ⟨p, u, z, h1, h2, ⟨a, h3, h4⟩, ⟨b, h5, h6⟩⟩ := h
  refine ⟨p, u, z, h1, ?_, ⟨a, h3, ?_⟩, ⟨b, h5, ?_⟩⟩
  · rw [off_ne]
    · exact h2
    · obtain ⟨j, ⟨g, _, h7, _⟩, _⟩ := hp
      exact ne_of h2 h7 (by simp)
  · rw [off_ne (ints_pen hp h4)]
    exact h4
  · rw [off_ne (ints_pen hp h6)]
    exact h6
def R_table : List V → Hp → (V → Hp → Prop) → Prop := fun vs G T => ∃ b t m : Int, vs = [.int b, .int t, .int m] ∧ 0 ≤ b ∧ b ≤ 10 ∧ 1 ≤ t ∧ t ≤ 10 ∧ 1 ≤ m ∧ m ≤ 10 ∧ ∀ q v G', Ex G G' → Pl.ok q b t m → PlAt q v G' → T v G'
theorem cl_table [T : Tx K mg] : Cl P w K mg base 2 "_law_table" (spDr 30 R_table) := by
  obtain ⟨fd, F⟩ := f_law_table (K := K) (mg := mg)
  refine ⟨⟨_, FnOk.raw0 (ok_fnD F sc_law_table ?_ ?_) (F.bindsN fun _ _ _ _ _ _ us hl => match us, hl with | [_, _, _, _], _ => rfl), tglo "_law_table", F.kp⟩⟩
  · rintro vs H T ⟨b, t, m, rfl, _⟩
    rfl
  · rintro X pn vs a G T D B _ h0 hn ⟨b, t, m, rfl, b1, b2, t1, t2, m1, m2, ht⟩ hd
    refine sd_setC 4 (lcd_draws (lo := 0) (hi := b) (n1 := 1) (Pd := fun d => 0 ≤ d ∧ d < m) 6 (EvD.imp (ed_draw (m := b + 1) (ea_cons (ee_var 0) (ea_cons (ee_add (ee_var 1) ee_int) ea_nil)) ⟨by omega, by omega⟩) (fun v G2 _ _ ⟨d, hv, h1, h2⟩ => ⟨d, hv, h1, by omega⟩) h0) (by omega) (by omega) ⟨b1, by omega⟩ h0 (tfre "range") fun X' i G' B' e' => ed_draw (ea_cons (ee_var 0) (ea_cons (ee_var 3) ea_nil)) ⟨by omega, by omega⟩) (fun v1 G1 e1 g1 hv1 => ?_) h0
    obtain ⟨l1, ns, rfl, hl1, nc1, f1, n1, n2, n3⟩ := hv1
    refine sd_setC 5 (lcd_draws (lo := 1) (hi := t) (n1 := 1) (Pd := fun d => 0 ≤ d ∧ d < m) 6 (ed_addR ee_int (ed_draw (m := t) (ea_cons (ee_var 0) (ea_cons (ee_var 2) ea_nil)) ⟨by omega, by omega⟩) fun v G2 ⟨d, hv, h1, h2⟩ => ⟨d, hv, 1 + d, rfl, by omega, by omega⟩) (by omega) (by omega) ⟨by omega, by omega⟩ g1 (tfre "range") fun X' i G' B' e' => ed_draw (ea_cons (ee_var 0) (ea_cons (ee_var 3) ea_nil)) ⟨by omega, by omega⟩) (fun v2 G2 e2 g2 hv2 => ?_) g1
    obtain ⟨l2, ms, rfl, hl2, nc2, f2, k1, k2, k3⟩ := hv2
    have hl1' := e2 _ _ hl1
    have na1 : l1 ≠ pn.a := ne_of_none hl1' g2
    have na2 : l2 ≠ pn.a := ne_of_none hl2 g2
    have n12 : l2 ≠ l1 := fun z => by rw [z, hl1] at f2; cases f2
    have pen2 : ∀ {H1 H2 : Hp} {l : Addr}, l ≠ pn.a → l ≠ pn.c → PenB pn (a + (1 + b) + (1 + t)) H1 → ExB l H1 H2 → PenB pn (a + (1 + b) + (1 + t)) H2 := fun ha hc ⟨i, ⟨g, q1, q2, q3, q4⟩, hi⟩ bb => ⟨i, ⟨g, q1, bb _ _ (Ne.symm ha) q2, bb _ _ (Ne.symm hc) q3, q4⟩, hi⟩
    have fin : ∀ (fs gs : List Int) (v : V) H, Ex G H → PenB pn (a + (1 + b) + (1 + t)) H → Pl.ok ⟨fs, gs⟩ b t m → PlAt ⟨fs, gs⟩ v H → D.rt v H := fun fs gs v H e p ok q => hd v H e (p.le (by omega)) (ht ⟨fs, gs⟩ v _ (ex_off e h0) ok (q.off p))
    refine sd_if (et_neNil (ns := ns) (ee_var 4) hl1') (fun hne => sd_of fun H1 e3 p3 => ?_) fun hne => sd_of fun H1 e3 p3 => ?_
    · have h0' : 0 < ns.length := by
        cases ns with
        | nil => exact absurd hne (by decide)
        | cons n ns => exact Nat.succ_pos _
      refine ss_setIx (j := 0) (e3 _ _ hl1') ee_int (ee_var 4) ee_int (by rw [List.length_map]; exact h0') fun H2 b2' hs2 => ss_nil fun H3 e4 => ?_
      have hs2' : H2 l1 = some (.lst ((ns.set 0 0).map V.int)) := by
        rw [List.map_set]
        exact hs2
      have hl22 : H2 l2 = some (.lst (ms.map V.int)) := b2' _ _ n12 (e3 _ _ hl2)
      refine (show SS X _ _ _ H3 from ss_retQ (R := PlAt ⟨ns.set 0 0, ms⟩) (EU.q (eu_tup (ea_cons (ee_var 4) (ea_cons (ee_var 5) ea_nil)) (by simp)) fun p H4 e5 hp4 => ⟨p, _, _, rfl, hp4, ⟨l1, rfl, e5 _ _ (e4 _ _ hs2')⟩, ⟨l2, rfl, e5 _ _ (e4 _ _ hl22)⟩⟩) fun v H4 e5 hv => fin _ _ v H4 ?_ (((pen2 na1 nc1 p3 b2').up e4).up e5) ?_ hv) H3 (Ex.refl H3)
      · exact ((b2'.to ((e1.trans e2).trans e3) f1).trans e4).trans e5
      · refine ⟨by rw [List.length_set]; exact n2, (show 1 ≤ ms.length by omega), k2, fun d hd => ?_, k3, ?_⟩
        · rcases List.mem_or_eq_of_mem_set hd with h | h
          · exact n3 d h
          · omega
        · cases ns with
          | nil => exact absurd h0' (by decide)
          | cons n ns => rfl
    · have hns : ns = [] := by
        cases ns with
        | nil => rfl
        | cons n ns => exact absurd hne (by simp)
      subst hns
      have h0' : 0 < ms.length := by omega
      refine ss_setIx (j := 0) (e3 _ _ hl2) ee_int (ee_var 5) ee_int (by rw [List.length_map]; exact h0') fun H2 b2' hs2 => ss_nil fun H3 e4 => ?_
      have hs2' : H2 l2 = some (.lst ((ms.set 0 0).map V.int)) := by
        rw [List.map_set]
        exact hs2
      have hl11 : H2 l1 = some (.lst (([] : List Int).map V.int)) := b2' _ _ (Ne.symm n12) (e3 _ _ hl1')
      refine (show SS X _ _ _ H3 from ss_retQ (R := PlAt ⟨[], ms.set 0 0⟩) (EU.q (eu_tup (ea_cons (ee_var 4) (ea_cons (ee_var 5) ea_nil)) (by simp)) fun p H4 e5 hp4 => ⟨p, _, _, rfl, hp4, ⟨l1, rfl, e5 _ _ (e4 _ _ hl11)⟩, ⟨l2, rfl, e5 _ _ (e4 _ _ hs2')⟩⟩) fun v H4 e5 hv => fin _ _ v H4 ?_ (((pen2 na2 nc2 p3 b2').up e4).up e5) ?_ hv) H3 (Ex.refl H3)
      · exact ((b2'.to ((e1.trans e2).trans e3) (fresh_back e1 f2)).trans e4).trans e5
      · refine ⟨n2, by rw [List.length_set]; omega, by rw [List.length_set]; exact k2, n3, fun d hd => ?_, ?_⟩
        · rcases List.mem_or_eq_of_mem_set hd with h | h
          · exact k3 d h
          · omega
        · cases ms with
          | nil => exact absurd h0' (by decide)
          | cons n ns => rfl
end
end Fk
set_option maxRecDepth 100000
set_option maxHeartbeats 2000000
namespace Fk
open PySem PySem.Spec PyProof.Rows L2 Evl He
/-- the law's row of a rule -/
def rowV : Rl → List V
  | .fixed n r m l => [.str "fixed", .int n, .int r, .int m, .int l]
  | .down n r m => [.str "down", .int n, .int r, .int m, .int 0]
def Pl.w (q : Pl) (h : Int) : Int := if h < q.f.length then q.f.getD h.toNat 0 else q.g.getD ((h - q.f.length) % q.g.length).toNat 0
def isDown : Rl → Bool
  | .down _ _ _ => true
  | _ => false
/-- what the law finds: no such heap -/
def lawL0 (q : Pl) (l m : Int) : List V := rgV l (max (q.f.length : Int) l + lcmZ q.g.length m)
def lawF (q : Pl) (n r m l : Int) : Bool := (((lawL0 q l m).filter fun v => decide ((iv v + n) % m = r)).filter fun v => decide (q.w (iv v + n) = q.w (iv v))).isEmpty
def lawD (q : Pl) (n r m : Int) : Bool := (((lawL0 q (n + 1) m).filter fun v => decide (iv v % m = r)).filter fun v => decide (q.w (iv v) = q.w n)).isEmpty
def lawR (q : Pl) : Rl → Bool
  | .fixed n r m l => lawF q n r m l
  | .down n r m => lawD q n r m
theorem eqvAll_nil (ds : List PyData) : PyData.eqvAll ds [] = ds.isEmpty := by
  cases ds <;> rfl
section
variable {P : Program} {w : World} {K : PySem.W.Frag} {mg : Str → Option Value} {base : Heap} {N : List Str} {sc : Scope} {k : Nat} {X : Cx} {σ : L2.St} {H : Hp} {a b e : Expr} {pos pos' p p2 pt : Pos} {rest : List Stmt} {D : Ends} {v : V}
/-- e == [] -/
theorem ee_eqNil [B : Bx P w K mg base N sc k X] {xs : List V} (ha : EL X a σ H xs) (hx : xs.all fl = true) : EE X (.Compare a [.Eq] [.List [] pos'] pos) σ H (.bl xs.isEmpty) :=
  EQ.val (eq_cmp (P1 := LP xs) (P2 := LP []) (op_eqD B.room.units) (nomark _) (EL.lp ha) (EL.lp (el_lst ea_nil)) (fun _ _ _ e p => p.up e) fun x y H1 e1 ⟨p, hx', hp⟩ ⟨q, hy, hq⟩ Q kk => by
    rw [B.qK]
    refine ⟨.list (xs.map dat), .list [], by rw [hx']; exact .lst (sq_of hp) (dpAll_flat hx), by rw [hy]; exact .lst (sq_of hq) .nil, ?_, rfl, ?_⟩
    · obtain ⟨h1, h2⟩ := lay_all xs
      unfold SeqAt.shaped
      simp only [PyData.canLay0, PyData.depth, h1, h2]
      rfl
    · have := kk _ H1 (Ex.refl H1) rfl
      simp only [PyData.eqv, eqvAll_nil, List.isEmpty_map]
      exact this)
/-- list(range(a, b)) -/
theorem el_rg2 [B : Bx P w K mg base N sc k X] {lo hi : Int} (hm : mg "list" = none) (hm2 : mg "range" = none) (ha : EE X a σ H (.int lo)) (hb : EE X b σ H (.int hi)) (hr : 0 ≤ lo ∧ lo ≤ 100000 ∧ 0 ≤ hi ∧ hi ≤ 100000) (hg : gloB sc "list" = true := by decide +kernel) (hg2 : gloB sc "range" = true := by decide +kernel)
    (na : starEach [a, b] X.env = (false, eval a X.env) :: starEach [b] X.env := by rfl) (nb : starEach [b] X.env = (false, eval b X.env) :: starEach [] X.env := by rfl) (hp : (backTo pt (starEach [b] X.env)).any (·.1) = false := by rfl)
    (n1 : starEach [.Call (.Name "range" p2) [a, b] [] pt] X.env = (false, eval (.Call (.Name "range" p2) [a, b] [] pt) X.env) :: starEach [] X.env := by rfl) : EL X (.Call (.Name "list" p) [.Call (.Name "range" p2) [a, b] [] pt] [] pos) σ H (rgV lo hi) :=
  EL.of (pe_listRg B.calm (B.gl hg) (by rw [B.qm]; exact hm) (prg_2 (B.gl hg2) (by rw [B.qm]; exact hm2) pe_w pe_w na nb hp) n1) fun H1 e1 Q q => ha H1 e1 _ fun H2 e2 => hb H2 (e1.trans e2) _ fun H3 e3 => ⟨lo, hi, rfl, rfl, .of_le hr.1 (by omega) (by omega) hr.2.2.1, fun l hl => q l _ (fresh_back (e2.trans e3) hl) ((e2.trans e3).trans (Ex.new hl)) upd_same⟩
/-- five names from a tuple of five -/
theorem ss_set5 [B : Bx P w K mg base N sc k X] [G : Dx X] {x0 x1 x2 x3 x4 : Str} {q0 q1 q2 q3 q4 : Pos} {kt : Nat} {v0 v1 v2 v3 v4 : V} {l : Addr} (m : Nat) (h : EE X e σ H (.ref l)) (hl : H l = some (.tup [v0, v1, v2, v3, v4])) (r : SS X rest D (((((σ.set m (some v0)).set (m + 1) (some v1)).set (m + 2) (some v2)).set (m + 3) (some v3)).set (m + 4) (some v4)) H)
    (hN0 : N[m]? = some x0 := by rfl) (hN1 : N[m + 1]? = some x1 := by rfl) (hN2 : N[m + 2]? = some x2 := by rfl) (hN3 : N[m + 3]? = some x3 := by rfl) (hN4 : N[m + 4]? = some x4 := by rfl) (hv : (locB sc x0 && locB sc x1 && locB sc x2 && locB sc x3 && locB sc x4) = true := by decide +kernel)
    (hs : swapsWithSole [.Tuple [.Name x0 q0, .Name x1 q1, .Name x2 q2, .Name x3 q3, .Name x4 q4] kt pt] e pos.line X.env = pure false := by rfl) (hw : swappedStores [.Tuple [.Name x0 q0, .Name x1 q1, .Name x2 q2, .Name x3 q3, .Name x4 q4] kt pt] e X.env = pure none := by rfl) :
    SS X (.Assign [.Tuple [.Name x0 q0, .Name x1 q1, .Name x2 q2, .Name x3 q3, .Name x4 q4] kt pt] e pos :: rest) D σ H := fun H1 e1 => by
  obtain ⟨hv, h4⟩ := ba hv
  obtain ⟨hv, h3⟩ := ba hv
  obtain ⟨hv, h2⟩ := ba hv
  obtain ⟨h0, h1⟩ := ba hv
  exact wss_cons (ps_asg pe_w (pg_tup B.calm (pgs_cons (pg_name B.ndx (B.ix hN0) (B.loc h0) (.inl (G.fn x0))) (pgs_cons (pg_name B.ndx (B.ix hN1) (B.loc h1) (.inl (G.fn x1))) (pgs_cons (pg_name B.ndx (B.ix hN2) (B.loc h2) (.inl (G.fn x2))) (pgs_cons (pg_name B.ndx (B.ix hN3) (B.loc h3) (.inl (G.fn x3))) (pgs_cons (pg_name B.ndx (B.ix hN4) (B.loc h4) (.inl (G.fn x4))) pgs_nil)))))) hs hw)
    (h H1 e1 _ fun H2 e2 => ⟨l, _, rfl, st_of (e2 _ _ (e1 _ _ hl)), rfl, v0, _, rfl, v1, _, rfl, v2, _, rfl, v3, _, rfl, v4, _, rfl, rfl, r H2 (e1.trans e2)⟩)
end
section
variable {P : Program} {w : World} {K : PySem.W.Frag} {mg : Str → Option Value} {base : Heap}
def R_lworth : List V → Hp → (V → Hp → Prop) → Prop := fun vs H T => ∃ (q : Pl) (o : V) (h : Int), vs = [o, .int h] ∧ PlAt q o H ∧ 0 ≤ h ∧ 1 ≤ q.g.length ∧ Gives T H (.int (q.w h))
theorem cl_lworth [T : Tx K mg] : Cl P w K mg base 1 "_law_worth" (spR R_lworth) := by
  obtain ⟨fd, F⟩ := f_law_worth (K := K) (mg := mg)
  refine ⟨⟨_, FnOk.raw0 (ok_fn F sc_law_worth ?_ ?_) (F.bindsN fun _ _ _ _ _ _ us hl => match us, hl with | [_, _], _ => rfl), tglo "_law_worth", F.kp⟩⟩
  · rintro vs H T ⟨q, o, h, rfl, _⟩
    rfl
  · rintro X vs H T D B _ ⟨q, o, h, rfl, hP, h0, hg, ht⟩ hd _
    refine ss_set2 (RR := fun u z H1 => LP (q.f.map V.int) u H1 ∧ LP (q.g.map V.int) z H1) 2 3 ((ee_var 0).q fun H1 e1 => ?_) fun u z H1 e1 ⟨⟨lf, hu, hf⟩, ⟨lg, hz, hgg⟩⟩ => ?_
    · obtain ⟨p, u, z, h1, h2, h3, h4⟩ := hP.up e1
      exact ⟨p, u, z, h1, h2, h3, h4⟩
    subst hu hz
    refine ss_when (et_lt (ee_var 1) (ee_lenL (tfre "len") (ee_var 2) (sq_of hf))) (fun hy => ?_) fun hy => ?_
    · have h1 : h < q.f.length := by
        have := of_decide_eq_true hy
        rwa [List.length_map] at this
      refine ss_ret (ee_ixL (ee_var 2) (ee_var 1) (sq_of hf) (atI_ints h0 h1)) fun H2 e2 => hd _ _ (e1.trans e2) ?_
      have := ht _ (e1.trans e2)
      unfold Pl.w at this
      rwa [if_pos h1] at this
    · have h1 : ¬ h < q.f.length := by
        have := of_decide_eq_false hy
        rwa [List.length_map] at this
      have c1 := Int.emod_nonneg (h - q.f.length) (show (q.g.length : Int) ≠ 0 by omega)
      have c2 := Int.emod_lt_of_pos (h - q.f.length) (show (0 : Int) < q.g.length by omega)
      refine ss_ret (ee_ixL (ee_var 3) (EE.is (ee_mod (ee_intI (tfre "int") (ee_sub (ee_var 1) (ee_lenL (tfre "len") (ee_var 2) (sq_of hf)))) (ee_lenL (tfre "len") (ee_var 3) (sq_of hgg)) (by rw [List.length_map]; omega)) (show _ = V.int ((h - q.f.length) % q.g.length) by rw [List.length_map, List.length_map])) (sq_of hgg) (atI_ints c1 c2)) fun H2 e2 => hd _ _ (e1.trans e2) ?_
      have := ht _ (e1.trans e2)
      unfold Pl.w at this
      rwa [if_neg h1] at this
theorem cl_lwhole [T : Tx K mg] : Cl P w K mg base 1 "_law_whole" (spR R_common) := by
  obtain ⟨fd, F⟩ := f_law_whole (K := K) (mg := mg)
  refine ⟨⟨_, FnOk.raw0 (ok_fn F sc_law_whole ?_ ?_) (F.bindsN fun _ _ _ _ _ _ us hl => match us, hl with | [_, _], _ => rfl), tglo "_law_whole", F.kp⟩⟩
  · rintro vs H T ⟨a, b, rfl, _⟩
    rfl
  · rintro X vs H T D B _ ⟨a, b, rfl, ha, hb, ht⟩ hr _
    refine ss_set 2 (ee_var 0) ?_
    refine ss_while (fun m σ => ∃ j, σ = [some (.int a), some (.int b), some (.int j)] ∧ a ∣ j ∧ 1 ≤ j ∧ j ≤ lcmZ a b ∧ m = (lcmZ a b - j).toNat) (lcmZ a b - a).toNat ⟨a, rfl, Int.dvd_refl a, ha, ?_, rfl⟩ ?_
    · exact Int.le_of_dvd (by have := lcmZ_pos ha hb; omega) (lcmZ_left ha)
    · rintro m σ' ⟨j, rfl, h1, h2, h3, rfl⟩
      refine ⟨_, et_neI (ee_mod (ee_intI (tfre "int") (ee_var 2)) (ee_var 1) (by omega)) ee_int, fun hy => ?_, fun hy => ?_⟩
      · have h4 : j % b ≠ 0 := by simpa using hy
        refine ss_set 2 (ee_add (ee_var 2) (ee_var 0)) (ss_nil fun H1 e1 => ⟨⟨_, ?_, j + a, rfl, Int.dvd_add h1 (Int.dvd_refl a), by omega, lcm_step ha hb h1 h2 h3 h4, rfl⟩, e1⟩)
        have := lcm_step ha hb h1 h2 h3 h4
        omega
      · have h4 : j % b = 0 := by simpa using hy
        rw [lcm_end ha hb h1 h2 h3 h4]
        exact ss_ret (ee_var 2) fun H1 e1 => hr _ _ e1 (ht _ e1)
/-- the plan's numbers are a table's -/
def Pl.tb (q : Pl) : Tb := mkT q.f.length (q.f ++ q.g)
def Pl.good (q : Pl) : Prop := Nums q.f.length q.g.length (q.f ++ q.g)
def R_lreal : List V → Hp → (V → Hp → Prop) → Prop := fun vs H T => ∃ (q : Pl) (o : V), vs = [o] ∧ PlAt q o H ∧ q.good ∧ GivesT T H (TbAt K q.tb)
theorem cl_lreal [T : Tx K mg] : Cl P w K mg base 5 "_law_real" (spR (R_lreal (K := K))) := by
  obtain ⟨fd, F⟩ := f_law_real (K := K) (mg := mg)
  refine ⟨⟨_, FnOk.raw0 (ok_fn F sc_law_real ?_ ?_) (F.bindsN fun _ _ _ _ _ _ us hl => match us, hl with | [_], _ => rfl), tglo "_law_real", F.kp⟩⟩
  · rintro vs H T ⟨q, o, rfl, _⟩
    rfl
  · rintro X vs H T D B _ ⟨q, o, rfl, ⟨p, u, z, rfl, hp, ⟨lf, rfl, hf⟩, ⟨lg, rfl, hg⟩⟩, hq, ht⟩ hd _
    refine ss_retQ (R := TbAt K q.tb) (EvQ.imp (eq_make (TI := fun fs H' => ∃ N, fs = fsT q.tb N ∧ H' N = some (.tup (q.tb.ns.map V.int))) ma_Table (eaq_cons (P1 := fun v _ => v = .int q.f.length) (EE.q (EE.is (ee_lenL (tfre "len") (ee_ixT (ee_var 0) ee_int (st_of hp) rfl) (sq_of hf)) (by rw [List.length_map])) fun _ _ => rfl) fun v1 H1 e1 h1 => eaq_cons (P1 := fun v _ => v = .int q.g.length) (EE.q (EE.is (ee_lenL (tfre "len") (ee_ixT (ee_var 0) ee_int (st_of (e1 _ _ hp)) rfl) (sq_of (e1 _ _ hg))) (by rw [List.length_map])) fun _ _ => rfl) fun v2 H2 e2 h2 =>
      eaq_one (P1 := LP ((q.f ++ q.g).map V.int)) (EL.lp (EL.is (el_cat (EE.lp (ee_ixT (ee_var 0) ee_int (st_of (e2 _ _ (e1 _ _ hp))) rfl) (e2 _ _ (e1 _ _ hf))) (EE.lp (ee_ixT (ee_var 0) ee_int (st_of (e2 _ _ (e1 _ _ hp))) rfl) (e2 _ _ (e1 _ _ hg))) (by rw [List.length_map, List.length_map]; have := hq.len; have := hq.most; rw [List.length_append] at *; omega)) (by rw [List.map_append]))) (fun v3 H3 e3 ⟨l, h3, hl⟩ => ?_) fun _ _ _ e p => p.up e)) fun v H1 e1 hv => ?_) fun v H1 e1 hv => hd v H1 e1 (ht v H1 e1 hv)
    · subst h1 h2 h3
      exact ⟨l, _, _, _, rfl, hl, hq, fun N H' e hN => ⟨N, rfl, hN⟩⟩
    · obtain ⟨x, dx, fs, hv, hx, N, hfs, hN⟩ := hv
      exact ⟨mkT_ok hq, N, hN, x, dx, hv, by rw [hx, hfs]; rfl⟩
def R_lrule : List V → Hp → (V → Hp → Prop) → Prop := fun vs H T => ∃ (r : Rl) (o : V), vs = [o] ∧ TP (rowV r) o H ∧ r.ok ∧ GivesT T H (RlAt K r)
theorem cl_lrule [T : Tx K mg] : Cl P w K mg base 6 "_law_rule" (spR (R_lrule (K := K))) := by
  obtain ⟨fd, F⟩ := f_law_rule (K := K) (mg := mg)
  refine ⟨⟨_, FnOk.raw0 (ok_fn F sc_law_rule ?_ ?_) (F.bindsN fun _ _ _ _ _ _ us hl => match us, hl with | [_], _ => rfl), tglo "_law_rule", F.kp⟩⟩
  · rintro vs H T ⟨r, o, rfl, _⟩
    rfl
  · rintro X vs H T D B _ ⟨r, o, rfl, ⟨l, rfl, hl⟩, hok, ht⟩ hd _
    cases r with
    | fixed n r m l' =>
      have it : ∀ {i : Int} {v : V} {j : Nat} {p1 p2 p3 : Pos} hs, atI (rowV (.fixed n r m l')) i = some v → EE X (.Subscript (.Name "_law_row" p1) (.Constant (.int i) j p2) p3) (L2.start N_law_rule [V.ref l]) H v := fun hs hi => ee_ixT (ee_var 0) ee_int (st_of hl) hi hs
      refine ss_skip (ET.is (et_eqV (ee_ixT (ee_var 0) ee_int (st_of hl) rfl) ee_str rfl) (show decide (V.str "fixed" = V.str "down") = false by decide)) ?_
      refine ss_retQ (R := RlAt K (.fixed n r m l')) (EvQ.imp (eq_make (TI := fun fs _ => fs = (Rl.fixed n r m l').fs) ma_Fixed (EA.q (ea_cons (ee_ixT (ee_var 0) ee_int (st_of hl) rfl) (ea_cons (ee_ixT (ee_var 0) ee_int (st_of hl) rfl) (ea_cons (ee_ixT (ee_var 0) ee_int (st_of hl) rfl) (ea_cons (ee_ixT (ee_var 0) ee_int (st_of hl) rfl) ea_nil)))) fun H1 e1 => ⟨n, r, m, l', rfl, hok, fun H' e => rfl⟩)) fun v H1 e1 ⟨x, dx, fs, hv, hx, hfs⟩ => ⟨hok, x, dx, hv, by rw [hx, hfs]; rfl⟩) fun v H1 e1 hv => hd v H1 e1 (ht v H1 e1 hv)
    | down n r m =>
      refine ss_when (y := true) (ET.is (et_eqV (ee_ixT (ee_var 0) ee_int (st_of hl) rfl) ee_str rfl) (show decide (V.str "down" = V.str "down") = true by decide)) (fun _ => ?_) fun h => Bool.noConfusion h
      refine ss_retQ (R := RlAt K (.down n r m)) (EvQ.imp (eq_make (TI := fun fs _ => fs = (Rl.down n r m).fs) ma_Down (EA.q (ea_cons (ee_ixT (ee_var 0) ee_int (st_of hl) rfl) (ea_cons (ee_ixT (ee_var 0) ee_int (st_of hl) rfl) (ea_cons (ee_ixT (ee_var 0) ee_int (st_of hl) rfl) ea_nil))) fun H1 e1 => ⟨n, r, m, rfl, hok, fun H' e => rfl⟩)) fun v H1 e1 ⟨x, dx, fs, hv, hx, hfs⟩ => ⟨hok, x, dx, hv, by rw [hx, hfs]; rfl⟩) fun v H1 e1 hv => hd v H1 e1 (ht v H1 e1 hv)
theorem rgV_mem {lo hi : Int} {v : V} (h : v ∈ rgV lo hi) : ∃ i : Int, v = .int i ∧ lo ≤ i ∧ i < hi := by
  unfold rgV at h
  obtain ⟨i, hi, rfl⟩ := List.mem_map.mp h
  have := List.mem_range.mp hi
  exact ⟨_, rfl, by omega, by omega⟩
theorem filt_fl {xs : List V} {f : V → Bool} (h : xs.all fl = true) : (xs.filter f).all fl = true := List.all_eq_true.mpr fun v hv => List.all_eq_true.mp h v (List.mem_filter.mp hv).1
theorem rgV_fl (lo hi : Int) : (rgV lo hi).all fl = true := List.all_eq_true.mpr fun v hv => by
  obtain ⟨i, rfl, _⟩ := rgV_mem hv
  rfl
theorem filt_id {xs : List V} {f : V → Bool} : (xs.filter f).map (fun x => x) = xs.filter f := List.map_id' _
def R_lfree : List V → Hp → (V → Hp → Prop) → Prop := fun vs H T => ∃ (q : Pl) (r : Rl) (o x : V), vs = [o, x] ∧ PlAt q o H ∧ TP (rowV r) x H ∧ r.ok ∧ 1 ≤ q.g.length ∧ q.g.length ≤ 1000 ∧ q.f.length ≤ 1000 ∧ Gives T H (.bl (lawR q r))
theorem cl_lfree [T : Tx K mg] : Cl P w K mg base 2 "_law_is_free" (spR R_lfree) := by
  obtain ⟨fd, F⟩ := f_law_is_free (K := K) (mg := mg)
  refine ⟨⟨_, FnOk.raw0 (ok_fn F sc_law_is_free ?_ ?_) (F.bindsN fun _ _ _ _ _ _ us hl => match us, hl with | [_, _], _ => rfl), tglo "_law_is_free", F.kp⟩⟩
  · rintro vs H T ⟨q, r, o, x, rfl, _⟩
    rfl
  · rintro X vs H T D B _ ⟨q, r, o, x, rfl, hP, ⟨lx, rfl, hx⟩, hok, g1, g2, f1, ht⟩ hd _
    have hP0 := hP
    obtain ⟨p, u, z, rfl, hp, ⟨lf, rfl, hf⟩, ⟨lg, rfl, hg⟩⟩ := hP
    have main : ∀ {n s m l : Int}, 1 ≤ m → m ≤ 6 → 0 ≤ l → l ≤ 401 → 0 ≤ max (q.f.length : Int) l + lcmZ q.g.length m ∧ max (q.f.length : Int) l + lcmZ q.g.length m ≤ 8000 := fun {n s m l} h1 h2 h3 h4 => by
      have c1 := lcmZ_pos (a := q.g.length) (b := m) (by omega) h1
      have c2 := lcmZ_le_mul (a := q.g.length) (b := m) (by omega) h1
      have c3 : (q.g.length : Int) * m ≤ q.g.length * 6 := Int.mul_le_mul_of_nonneg_left h2 (by omega)
      omega
    cases r with
    | fixed n r m l =>
      obtain ⟨k1, k2, k3, k4, k5, k6, k7, k8⟩ := hok
      have hM := main (n := n) (s := r) (m := m) (l := l) k5 k6 k3 (by omega)
      refine ss_set5 2 (ee_var 1) hx ?_
      refine ss_set 7 (EE.is (ee_call cl_lwhole (ea_cons (ee_lenL (tfre "len") (ee_ixT (ee_var 0) ee_int (st_of hp) rfl) (sq_of hg)) (ea_cons (ee_var 5) ea_nil)) fun H1 _ => ⟨_, m, rfl, by rw [List.length_map]; omega, k5, Gives.me⟩) (show _ = V.int (lcmZ q.g.length m) by rw [List.length_map])) ?_
      refine ss_skip (ET.is (et_eqV (ee_var 2) ee_str rfl) (show decide (V.str "fixed" = V.str "down") = false by decide)) ?_
      refine ss_setL 9 (EL.is (el_rg2 (tfre "list") (tfre "range") (ee_var 6) (EE.is (ee_add (ee_max (tfre "max") (ee_lenL (tfre "len") (ee_ixT (ee_var 0) ee_int (st_of hp) rfl) (sq_of hf)) (ee_intI (tfre "int") (ee_var 6))) (ee_var 7)) (show _ = V.int (max (q.f.length : Int) l + lcmZ q.g.length m) by rw [List.length_map])) (by omega)) (show _ = lawL0 q l m from rfl)) fun L0 H1 e1 _ hL0 => ?_
      have len0 : (lawL0 q l m).length ≤ 8000 := by
        unfold lawL0
        rw [rgV_length]
        omega
      refine ss_setC 9 (LC.is (el_cL 11 (fun v => decide ((iv v + n) % m = r)) (fun v => v) (ee_var 9) (sq_of hL0) (by omega) (fun X' v H2 B' e2 hv => ?_) fun X' v H2 B' e2 hv hf => ee_var 11) filt_id) fun L1 H2 e2 _ hL1 => ?_
      · obtain ⟨i, rfl, i1, i2⟩ := rgV_mem hv
        exact et_eqI (ee_mod (ee_intI (tfre "int") (ee_add (ee_var 11) (ee_var 3))) (ee_var 5) (by omega)) (ee_var 4)
      have len1 := List.length_filter_le (fun v => decide ((iv v + n) % m = r)) (lawL0 q l m)
      refine ss_ret (ee_eqNil (EL.is (LC.el (el_cL 11 (fun v => decide (q.w (iv v + n) = q.w (iv v))) (fun v => v) (ee_var 9) (sq_of hL1) (by omega) (fun X' v H3 B' e3 hv => ?_) fun X' v H3 B' e3 hv hf => ee_var 11)) filt_id) (filt_fl (filt_fl (rgV_fl _ _)))) fun H3 e3 => hd _ _ ((e1.trans e2).trans e3) (ht _ ((e1.trans e2).trans e3))
      obtain ⟨i, rfl, i1, i2⟩ := rgV_mem (List.mem_filter.mp hv).1
      exact et_eqI (ee_call cl_lworth (ea_cons (ee_var 0) (ea_cons (ee_add (ee_var 11) (ee_var 3)) ea_nil)) fun H4 e4 => ⟨q, _, i + n, rfl, hP0.up (((e1.trans e2).trans e3).trans e4), by omega, g1, Gives.me⟩) (ee_call cl_lworth (ea_cons (ee_var 0) (ea_cons (ee_var 11) ea_nil)) fun H4 e4 => ⟨q, _, i, rfl, hP0.up (((e1.trans e2).trans e3).trans e4), by omega, g1, Gives.me⟩)
    | down n r m =>
      obtain ⟨k1, k2, k5, k6, k7, k8⟩ := hok
      have hM := main (n := n) (s := r) (m := m) (l := n + 1) k5 k6 (by omega) (by omega)
      refine ss_set5 2 (ee_var 1) hx ?_
      refine ss_set 7 (EE.is (ee_call cl_lwhole (ea_cons (ee_lenL (tfre "len") (ee_ixT (ee_var 0) ee_int (st_of hp) rfl) (sq_of hg)) (ea_cons (ee_var 5) ea_nil)) fun H1 _ => ⟨_, m, rfl, by rw [List.length_map]; omega, k5, Gives.me⟩) (show _ = V.int (lcmZ q.g.length m) by rw [List.length_map])) ?_
      refine ss_when (y := true) (ET.is (et_eqV (ee_var 2) ee_str rfl) (show decide (V.str "down" = V.str "down") = true by decide)) (fun _ => ?_) fun h => Bool.noConfusion h
      refine ss_setL 8 (EL.is (el_rg2 (tfre "list") (tfre "range") (ee_add (ee_var 3) ee_int) (EE.is (ee_add (ee_max (tfre "max") (ee_lenL (tfre "len") (ee_ixT (ee_var 0) ee_int (st_of hp) rfl) (sq_of hf)) (ee_intI (tfre "int") (ee_add (ee_var 3) ee_int))) (ee_var 7)) (show _ = V.int (max (q.f.length : Int) (n + 1) + lcmZ q.g.length m) by rw [List.length_map])) (by omega)) (show _ = lawL0 q (n + 1) m from rfl)) fun L0 H1 e1 _ hL0 => ?_
      have len0 : (lawL0 q (n + 1) m).length ≤ 8000 := by
        unfold lawL0
        rw [rgV_length]
        omega
      refine ss_setC 8 (LC.is (el_cL 10 (fun v => decide (iv v % m = r)) (fun v => v) (ee_var 8) (sq_of hL0) (by omega) (fun X' v H2 B' e2 hv => ?_) fun X' v H2 B' e2 hv hf => ee_var 10) filt_id) fun L1 H2 e2 _ hL1 => ?_
      · obtain ⟨i, rfl, i1, i2⟩ := rgV_mem hv
        exact et_eqI (ee_mod (ee_intI (tfre "int") (ee_var 10)) (ee_var 5) (by omega)) (ee_var 4)
      have len1 := List.length_filter_le (fun v => decide (iv v % m = r)) (lawL0 q (n + 1) m)
      refine ss_ret (ee_eqNil (EL.is (LC.el (el_cL 10 (fun v => decide (q.w (iv v) = q.w n)) (fun v => v) (ee_var 8) (sq_of hL1) (by omega) (fun X' v H3 B' e3 hv => ?_) fun X' v H3 B' e3 hv hf => ee_var 10)) filt_id) (filt_fl (filt_fl (rgV_fl _ _)))) fun H3 e3 => hd _ _ ((e1.trans e2).trans e3) (ht _ ((e1.trans e2).trans e3))
      obtain ⟨i, rfl, i1, i2⟩ := rgV_mem (List.mem_filter.mp hv).1
      exact et_eqI (ee_call cl_lworth (ea_cons (ee_var 0) (ea_cons (ee_var 10) ea_nil)) fun H4 e4 => ⟨q, _, i, rfl, hP0.up (((e1.trans e2).trans e3).trans e4), by omega, g1, Gives.me⟩) (ee_call cl_lworth (ea_cons (ee_var 0) (ea_cons (ee_var 3) ea_nil)) fun H4 e4 => ⟨q, _, n, rfl, hP0.up (((e1.trans e2).trans e3).trans e4), by omega, g1, Gives.me⟩)
end
end Fk
set_option maxRecDepth 100000
set_option maxHeartbeats 2000000
namespace Fk
open PySem PySem.Spec PyProof.Rows L2 Evl He
def EvTD (tt : TT) (pn : Pn) (n : Int) (σ : L2.St) (G : Hp) : Prop := ∀ H1 a, Ex G H1 → PenB pn a H1 → a + n ≤ 100000 → ∀ Q : Bool → Hp → Prop, (∀ b H2, ExB pn.a H1 H2 → PenB pn (a + n) H2 → Q b H2) → tt σ H1 Q
section
variable {P : Program} {w : World} {K : PySem.W.Frag} {mg : Str → Option Value} {base : Heap} {N : List Str} {sc scope : Scope} {j k : Nat} {X : Cx} {σ : L2.St} {G H : Hp} {a b c e o : Expr} {es : List Expr} {x y : Str} {pos p pf py pos' apos : Pos} {rest th el body : List Stmt} {D : Ends} {v : V} {pn : Pn} {n m i : Int} {P1 P2 T : V → Hp → Prop} {PV : List V → Prop}
theorem ed_lst (h : EAD X es pn n σ G fun vs _ => PV vs) (hz : ∀ vs, PV vs → vs.length ≤ 1000) : ED X (.List es pos) pn n σ G fun v G2 => ∃ vs, LP vs v G2 ∧ PV vs :=
  EvD.of (pe_lst pa_w) fun H1 q e1 hp hn Q qk => h H1 q e1 hp hn _ fun vs H2 b2 p2 hv => ⟨sz_of (by have := hz vs hv; omega), fun l hl => qk _ _ (fun b o hb h => by
    rw [upd_ne (ne_of_none (b2 b o hb h) hl)]
    exact b2 b o hb h) (pen_upd p2 (pen_ne p2 hl).1 (pen_ne p2 hl).2) ⟨vs, ⟨l, rfl, by rw [off_ne (pen_ne p2 hl).1]; exact upd_same⟩, hv⟩⟩
theorem ed_tup {x1 : Nat} (h : EAD X es pn n σ G fun vs _ => PV vs) (hz : ∀ vs, PV vs → vs.length ≤ 1000) : ED X (.Tuple es x1 pos) pn n σ G fun v G2 => ∃ vs, TP vs v G2 ∧ PV vs :=
  EvD.of (pe_tup pa_w) fun H1 q e1 hp hn Q qk => h H1 q e1 hp hn _ fun vs H2 b2 p2 hv => ⟨sz_of (by have := hz vs hv; omega), fun l hl => qk _ _ (fun b o hb h => by
    rw [upd_ne (ne_of_none (b2 b o hb h) hl)]
    exact b2 b o hb h) (pen_upd p2 (pen_ne p2 hl).1 (pen_ne p2 hl).2) ⟨vs, ⟨l, rfl, by rw [off_ne (pen_ne p2 hl).1]; exact upd_same⟩, hv⟩⟩
theorem etd_eq0 {j0 : Nat} {pz : Pos} (h : ED X a pn n σ G fun u _ => ∃ d : Int, u = .int d ∧ 0 ≤ d ∧ d < m) : EvTD (wT X (.Compare a [.Eq] [.Constant (.int i) j0 pz] pos)) pn n σ G := fun H1 q e1 hp hn Q qk =>
  wT.of (pt_cmpR op_eq pe_w pe_w (nomark _)) (h H1 q e1 hp hn _ fun v H2 b2 p2 ⟨d, hv, _⟩ => by
    subst hv
    exact (show EE X _ _ H2 (V.int i) from ee_int) H2 (Ex.refl H2) _ fun H3 e3 => ⟨rfl, _, rfl, qk _ H3 (fun b o hb h => e3 _ _ (b2 b o hb h)) (p2.up e3)⟩)
theorem sd_ifD {q : Int} (h : EvTD (wT X c) pn n σ G) (h1 : ∀ G2, Ex G G2 → G2 pn.a = none → SD X th { D with nx := wSs X rest D } pn (q + n) σ G2) (h2 : ∀ G2, Ex G G2 → G2 pn.a = none → SD X el { D with nx := wSs X rest D } pn (q + n) σ G2) (h0 : G pn.a = none) (hn : q + n ≤ 100000 := by omega) : SD X (.If c th el pos :: rest) D pn q σ G := fun H1 e1 hp =>
  wss_cons (ps_if pt_w pss_w pss_w) (h H1 q e1 hp hn _ fun b H2 b2 p2 => by
    have eg := ex_off (b2.to e1 h0) h0
    cases b with
    | true =>
      show wSs X th _ σ H2
      exact h1 _ eg off_pn H2 off_ex p2
    | false =>
      show wSs X el _ σ H2
      exact h2 _ eg off_pn H2 off_ex p2)
/-- pick(pen, [..]) -/
theorem ed_pick [B : Bx P w K mg base N sc k X] [Tx K mg] {pl : Pos} (hv : EE X e σ G (.ref pn.a)) (h : EAD X es pn n σ G fun vs _ => PV vs) (hz : ∀ vs, PV vs → 1 ≤ vs.length ∧ vs.length ≤ 1000) (h0 : G pn.a = none) (hn : 0 ≤ n) (hj : 2 ≤ k := by decide) (hg : gloB sc "_law_pick" = true := by decide +kernel)
    (he : starEach [e, .List es pl] X.env = (false, eval e X.env) :: starEach [.List es pl] X.env := by rfl) (he2 : starEach [.List es pl] X.env = (false, eval (.List es pl) X.env) :: starEach [] X.env := by rfl) (hpl : (backTo pos (starEach [.List es pl] X.env)).any (·.1) = false := by rfl) :
    ED X (.Call (.Name "_law_pick" pos') [e, .List es pl] [] pos) pn (n + 1) σ G fun u _ => ∃ vs, PV vs ∧ u ∈ vs := by
  have h' := ed_callD (X := X) (G := G) (pn := pn) (T := fun u _ => ∃ vs, PV vs ∧ u ∈ vs) (PA' := fun us G2 => ∃ l xs, us = [.ref pn.a, .ref l] ∧ G2 l = some (.lst xs) ∧ PV xs) (n1 := n + 0) (n2 := 1) (pos := pos) (pos' := pos') cl_pick (ead_ee hv (ead_cons (ed_lst h fun vs hv => (hz vs hv).2) (fun u G2 e2 g2 ⟨xs, ⟨l, hu, hl⟩, hx⟩ => ead_nil (fun G3 e3 g3 => ⟨l, xs, by rw [hu], e3 _ _ hl, hx⟩) g2) h0 (by omega) he2) he)
    (fun us G2 e2 g2 ⟨l, xs, hus, hl, hx⟩ => ⟨[.ref l], hus, l, xs, rfl, hl, (hz xs hx).1, (hz xs hx).2, fun v G' e hv => ⟨xs, hx, hv⟩⟩) h0 (by omega) hj hg he hpl
  rwa [Int.add_zero] at h'
/-- found.append(e), the last statement of its block -/
theorem sd_app [B : Bx P w K mg base N sc k X] {L : Addr} {xs : List V} {q : Int} (hL : G L = some (.lst xs)) (ho : EE X o σ G (.ref L)) (h : ED X e pn n σ G P1) (h0 : G pn.a = none) (hz : xs.length < 100000) (r : ∀ v H3, Ex G H3 → PenB pn (q + n) H3 → P1 v (off pn H3) → D.nx σ (upd H3 L (.lst (xs ++ [v])))) (hn : q + n ≤ 100000 := by omega)
    (hbase : attributeBase o "append" X.env (eval o X.env) = eval o X.env := by rfl)
    (hfew : ((backTo pos' (starEach (e :: []) X.env)).all (fun x => !x.1) && (backToKw pos' (keywordEach [] X.env)).all (fun x => x.1.isSome)
      && decide ((e :: []).length + ([] : List Keyword).length + (if ([] : List Keyword).isEmpty then 0 else 1) < 30)) = true := by rfl)
    (hline : (apos.endLine == pos'.line) = true := by rfl) (hs : starEach (e :: []) X.env = (false, eval e X.env) :: starEach [] X.env := by rfl) (hplain : (backTo pos' (starEach [] X.env)).any (·.1) = false := by rfl)
    (hsw : swapsWith (.Call (.Attribute o "append" apos) [e] [] pos') none pos.line X.env = pure false := by rfl) : SD X [.Expr (.Call (.Attribute o "append" apos) [e] [] pos') pos] D pn q σ G := fun H1 e1 hp =>
  wss_cons (ps_expr (pe_bm PySem.F.plainAttrs_list PySem.F.slot_list_append PySem.F.type_list_append mt_append pe_w (pa_cons pe_w pa_nil hs) hbase hfew hline hs hplain) hsw) (ho H1 e1 _ fun H2 e2 => ⟨Or.inl ⟨rfl, xs, sq_of (e2 _ _ (e1 _ _ hL))⟩, h H2 q (e1.trans e2) (hp.up e2) hn _ fun v H3 b3 p3 t => by
    have e3 : Ex G H3 := b3.to (e1.trans e2) h0
    exact ⟨L, xs, v, rfl, rfl, e3 _ _ hL, sz_lt hz, wSs.of pss_nil (r v H3 e3 p3 t)⟩⟩)
/-- for y in range(a), the bound drawn -/
theorem sd_forD [B : Bx P w K mg base N sc k X] [Gx : Dx X] {hi q : Int} (z : Nat) (I : Nat → L2.St → Hp → Prop) (ha : ED X a pn n σ G fun u _ => ∃ d : Int, u = .int d ∧ 0 ≤ d ∧ d ≤ hi) (hhi : hi ≤ 1000) (h0 : G pn.a = none) (hm : mg "range" = none) (hI : ∀ H, Ex G H → PenB pn (q + n) H → I 0 σ H)
    (hb : ∀ (i : Nat) σ' H', (i : Int) < hi → I i σ' H' → wSs X body { D with nx := I (i + 1), ct := I (i + 1), bk := wSs X rest D } (σ'.set z (some (.int (i : Int)))) H') (hd : ∀ (i : Nat) σ' H', (i : Int) ≤ hi → I i σ' H' → wSs X rest D σ' H') (hn : q + n ≤ 100000 := by omega) (hN : N[z]? = some x := by rfl) (hv : locB sc x = true := by decide +kernel) (hg : gloB sc "range" = true := by decide +kernel) (hs1 : starEach [a] X.env = [(false, eval a X.env)] := by rfl)
    (hs : ∀ y, foldedSetIterable (.Call (.Name "range" p) [a] [] pf) X.env y = pure y := by intro _; rfl) : SD X (.For (.Name x py) (.Call (.Name "range" p) [a] [] pf) body [] pos :: rest) D pn q σ G := fun H1 e1 hp =>
  wss_cons (ps_for Gx.own B.calm (pi_range1 (B.gl hg) (by rw [B.qm]; exact hm) (pa_cons pe_w pa_nil hs1) hs1) (pg_name B.ndx (B.ix hN) (B.loc hv) (.inl (Gx.fn x))) pss_w hs)
    (ha H1 q e1 hp hn _ fun u H2 b2 p2 ⟨d, hu, d1, d2⟩ => by
      subst hu
      refine ⟨d, rfl, by omega, by omega, for_range (lo := 0) (n := d.toNat) I (hI H2 (b2.to e1 h0) p2) (fun i σ' H' hi p => ?_) (fun σ' H' p => hd d.toNat σ' H' (by omega) p)⟩
      have e0 : (0 : Int) + (i : Int) = (i : Int) := Int.zero_add _
      show wSs X body _ (σ'.set z (some (.int ((0 : Int) + (i : Int))))) H'
      rw [e0]
      exact hb i σ' H' (by omega) p)
end
/-- drawn rows -/
def Rows : List Rl → List V → Hp → Prop
  | [], [], _ => True
  | r :: rs, x :: xs, H => TP (rowV r) x H ∧ Rows rs xs H
  | _, _, _ => False
theorem Rows.up {H H' : Hp} : ∀ {rs : List Rl} {xs : List V}, Rows rs xs H → (∀ p xs, H p = some (.tup xs) → H' p = some (.tup xs)) → Rows rs xs H'
  | [], [], _, _ => trivial
  | r :: rs, x :: xs, ⟨⟨a, h1, h2⟩, h3⟩, e => ⟨⟨a, h1, e _ _ h2⟩, Rows.up h3 e⟩
  | [], _ :: _, h, _ => h
  | _ :: _, [], h, _ => h
theorem Rows.snoc {H : Hp} {r : Rl} {x : V} (h : TP (rowV r) x H) : ∀ {rs : List Rl} {xs : List V}, Rows rs xs H → Rows (rs ++ [r]) (xs ++ [x]) H
  | [], [], _ => ⟨h, trivial⟩
  | _ :: _, _ :: _, ⟨h1, h2⟩ => ⟨h1, Rows.snoc h h2⟩
  | [], _ :: _, h' => h'.elim
  | _ :: _, [], h' => h'.elim
theorem Rows.len {H : Hp} : ∀ {rs : List Rl} {xs : List V}, Rows rs xs H → xs.length = rs.length
  | [], [], _ => rfl
  | _ :: _, _ :: _, ⟨_, h2⟩ => congrArg Nat.succ (Rows.len h2)
  | [], _ :: _, h' => h'.elim
  | _ :: _, [], h' => h'.elim
theorem pen_tup {pn : Pn} {q : Int} {H : Hp} {p : Addr} {xs : List V} (hp : PenB pn q H) (h : H p = some (.tup xs)) : p ≠ pn.a := by
  obtain ⟨j, ⟨g, _, h7, _⟩, _⟩ := hp
  exact ne_of h h7 (by simp)
section
variable {P : Program} {w : World} {K : PySem.W.Frag} {mg : Str → Option Value} {base : Heap}
def R_great_rule : List V → Hp → (V → Hp → Prop) → Prop := fun vs G T => vs = [] ∧ ∀ r v G', Ex G G' → r.ok → TP (rowV r) v G' → T v G'
theorem cl_great_rule [T : Tx K mg] : Cl P w K mg base 3 "_law_great_rule" (spDr 10 R_great_rule) := by
  obtain ⟨fd, F⟩ := f_law_great_rule (K := K) (mg := mg)
  refine ⟨⟨_, FnOk.raw0 (ok_fnD F sc_law_great_rule ?_ ?_) (F.bindsN fun _ _ _ _ _ _ us hl => match us, hl with | [_], _ => rfl), tglo "_law_great_rule", F.kp⟩⟩
  · rintro vs H T ⟨rfl, _⟩
    rfl
  · rintro X pn vs a G T D B _ h0 hn ⟨rfl, ht⟩ hd
    refine sd_set 1 (P1 := fun u _ => ∃ d : Int, u = .int d ∧ 1 ≤ d ∧ d ≤ 6) (ed_addR ee_int (ed_draw (m := 6) (ea_cons (ee_var 0) (ea_cons ee_int ea_nil)) ⟨by omega, by omega⟩) fun v G2 ⟨d, hv, h1, h2⟩ => ⟨d, hv, 1 + d, rfl, by omega, by omega⟩) (fun v1 G1 e1 g1 ⟨m, hv1, m1, m2⟩ => ?_) h0
    subst hv1
    refine sd_set 2 (ed_draw (m := m) (ea_cons (ee_var 0) (ea_cons (ee_var 1) ea_nil)) ⟨by omega, by omega⟩) (fun v2 G2 e2 g2 ⟨r, hv2, r1, r2⟩ => ?_) g1
    subst hv2
    have E2 := e1.trans e2
    refine sd_ifD (etd_eq0 (ed_draw (m := 3) (ea_cons (ee_var 0) (ea_cons ee_int ea_nil)) ⟨by omega, by omega⟩)) (fun G3 e3 g3 => ?_) (fun G3 e3 g3 => ?_) g2
    · refine sd_ret (P1 := fun v G2 => ∃ vs, TP vs v G2 ∧ ∃ n : Int, (0 ≤ n ∧ n ≤ 400) ∧ vs = [.str "down", .int n, .int r, .int m, .int 0]) (ed_tup (ead_ee ee_str (ead_cons (ed_pick (PV := fun vs => ∃ d : Int, (0 ≤ d ∧ d ≤ 400) ∧ vs = [.int 0, .int 1, .int 2, .int 5, .int 400, .int d]) (ee_var 0) (ead_ee ee_int (ead_ee ee_int (ead_ee ee_int (ead_ee ee_int (ead_ee ee_int (ead_cons (ed_draw (m := 401) (ea_cons (ee_var 0) (ea_cons ee_int ea_nil)) ⟨by omega, by omega⟩) (fun u G4 e4 g4 ⟨d, hu, d1, d2⟩ => ead_nil (fun G5 e5 g5 => ⟨d, ⟨d1, by omega⟩, by rw [hu]⟩) g4) g3 (by omega))))))) (fun vs ⟨d, _, hvs⟩ => by rw [hvs]; exact ⟨by simp, by simp⟩) g3 (by omega)) (fun u G4 e4 g4 ⟨vs, ⟨d, hd, hvs⟩, hu⟩ => ead_ee (ee_var 2) (ead_ee (ee_var 1) (ead_ee ee_int (ead_nil (fun G5 e5 g5 => ?_) g4)))) g3 (by omega))) fun vs ⟨n, _, hvs⟩ => by rw [hvs]; simp) (fun v H4 e4 p4 ⟨vs, hv, n, hn', hvs⟩ => ?_) g3
      · subst hvs
        have hz : ∃ z : Int, u = .int z ∧ 0 ≤ z ∧ z ≤ 400 := by
          simp only [List.mem_cons, List.not_mem_nil, or_false] at hu
          rcases hu with rfl | rfl | rfl | rfl | rfl | rfl <;> exact ⟨_, rfl, by omega, by omega⟩
        obtain ⟨z, rfl, z1, z2⟩ := hz
        exact ⟨z, ⟨z1, z2⟩, rfl⟩
      · subst hvs
        exact hd v H4 ((E2.trans e3).trans e4) (p4.le (by omega)) (ht (.down n r m) v _ (ex_off ((E2.trans e3).trans e4) h0) ⟨hn'.1, hn'.2, m1, m2, r1, r2⟩ hv)
    · refine sd_nil fun H4 e4 p4 => ?_
      have g4 := off_pn (pn := pn) (H := H4)
      have e4' := ex_off e4 g3
      refine (show SD X _ D pn (a + 1 + 1 + 1) _ (off pn H4) from ?_) H4 off_ex p4
      refine sd_set 3 (P1 := fun u _ => ∃ d : Int, u = .int d ∧ 1 ≤ d ∧ d ≤ 400) (EvD.imp (ed_pick (PV := fun vs => ∃ d : Int, (1 ≤ d ∧ d ≤ 400) ∧ vs = [.int 1, .int 2, .int 3, .int 4, .int 6, .int 400, .int d]) (ee_var 0) (ead_ee ee_int (ead_ee ee_int (ead_ee ee_int (ead_ee ee_int (ead_ee ee_int (ead_ee ee_int (ead_cons (P1 := fun u _ => ∃ d : Int, u = .int d ∧ 1 ≤ d ∧ d ≤ 400) (ed_addR ee_int (ed_draw (m := 400) (ea_cons (ee_var 0) (ea_cons ee_int ea_nil)) ⟨by omega, by omega⟩) fun v G2 ⟨d, hv, h1, h2⟩ => ⟨d, hv, 1 + d, rfl, by omega, by omega⟩) (fun u G4 e4 g4 ⟨d, hu, d1, d2⟩ => ead_nil (fun G5 e5 g5 => ⟨d, ⟨d1, by omega⟩, by rw [hu]⟩) g4) g4 (by omega)))))))) (fun vs ⟨d, _, hvs⟩ => by rw [hvs]; exact ⟨by simp, by simp⟩) g4 (by omega)) (fun u G5 _ _ ⟨vs, ⟨d, hd, hvs⟩, hu⟩ => ?_) g4) (fun v5 G5 e5 g5 ⟨n, hv5, n1, n2⟩ => ?_) g4
      · subst hvs
        simp only [List.mem_cons, List.not_mem_nil, or_false] at hu
        rcases hu with rfl | rfl | rfl | rfl | rfl | rfl | rfl <;> exact ⟨_, rfl, by omega, by omega⟩
      · subst hv5
        refine sd_ret (P1 := fun v G2 => ∃ vs, TP vs v G2 ∧ ∃ l : Int, (0 ≤ l ∧ l ≤ 400) ∧ vs = [.str "fixed", .int n, .int r, .int m, .int l]) (ed_tup (ead_ee ee_str (ead_ee (ee_var 3) (ead_ee (ee_var 2) (ead_ee (ee_var 1) (ead_cons (ed_pick (PV := fun vs => ∃ d : Int, (0 ≤ d ∧ d ≤ 400) ∧ vs = [.int 0, .int 0, .int 1, .int 2, .int 4, .int 400, .int d]) (ee_var 0) (ead_ee ee_int (ead_ee ee_int (ead_ee ee_int (ead_ee ee_int (ead_ee ee_int (ead_ee ee_int (ead_cons (ed_draw (m := 401) (ea_cons (ee_var 0) (ea_cons ee_int ea_nil)) ⟨by omega, by omega⟩) (fun u G4 e4 g4 ⟨d, hu, d1, d2⟩ => ead_nil (fun G5 e5 g5 => ⟨d, ⟨d1, by omega⟩, by rw [hu]⟩) g4) g5 (by omega)))))))) (fun vs ⟨d, _, hvs⟩ => by rw [hvs]; exact ⟨by simp, by simp⟩) g5 (by omega)) (fun u G6 e6 g6 ⟨vs, ⟨d, hd, hvs⟩, hu⟩ => ead_nil (fun G7 e7 g7 => ?_) g6) g5 (by omega)))))) fun vs ⟨n, _, hvs⟩ => by rw [hvs]; simp) (fun v H6 e6 p6 ⟨vs, hv, l, hl, hvs⟩ => ?_) g5
        · subst hvs
          have hz : ∃ z : Int, u = .int z ∧ 0 ≤ z ∧ z ≤ 400 := by
            simp only [List.mem_cons, List.not_mem_nil, or_false] at hu
            rcases hu with rfl | rfl | rfl | rfl | rfl | rfl | rfl <;> exact ⟨_, rfl, by omega, by omega⟩
          obtain ⟨z, rfl, z1, z2⟩ := hz
          exact ⟨z, ⟨z1, z2⟩, rfl⟩
        · subst hvs
          have E6 := (((E2.trans e3).trans e4').trans e5).trans e6
          exact hd v H6 E6 (p6.le (by omega)) (ht (.fixed n r m l) v _ (ex_off E6 h0) ⟨n1, n2, hl.1, hl.2, m1, m2, r1, r2⟩ hv)
/-- the rows that are drawn, in a list -/
def RowsAt (rs : List Rl) : V → Hp → Prop := fun v H => ∃ vs, LP vs v H ∧ Rows rs vs H
def R_rules : List V → Hp → (V → Hp → Prop) → Prop := fun vs G T => vs = [.int 3] ∧ ∀ rs v G', Ex G G' → (∀ r ∈ rs, r.ok) → (∀ r ∈ rs, r.m = 1 ∨ r.m = 2 ∨ r.m = 3) → rs.length ≤ 3 → RowsAt rs v G' → T v G'
theorem cl_rules [T : Tx K mg] : Cl P w K mg base 3 "_law_rules" (spDr 40 R_rules) := by
  obtain ⟨fd, F⟩ := f_law_rules (K := K) (mg := mg)
  refine ⟨⟨_, FnOk.raw0 (ok_fnD F sc_law_rules ?_ ?_) (F.bindsN fun _ _ _ _ _ _ us hl => match us, hl with | [_, _], _ => rfl), tglo "_law_rules", F.kp⟩⟩
  · rintro vs H T ⟨rfl, _⟩
    rfl
  · rintro X pn vs a G T D B _ h0 hn ⟨rfl, ht⟩ hd
    refine sd_of fun H1 e1 p1 => ss_setL 2 (el_lst ea_nil) fun L H2 e2 hLn hL => ?_
    have p2 := p1.up e2
    obtain ⟨na, nc⟩ := pen_ne p1 hLn
    have gL : G L = none := fresh_back e1 hLn
    have E2 : Ex G H2 := e1.trans e2
    refine SD.ss (G := off pn H2) (q := a) ?_ off_ex p2
    refine sd_forD (n := 1) (hi := 3) 3 (fun i σ H => ∃ (vs : List V) (rs : List Rl) (z1 z2 z3 : Option V), σ = [some (.ref pn.a), some (.int 3), some (.ref L), z1, z2, z3] ∧ H L = some (.lst vs) ∧ Rows rs vs H ∧ rs.length = i ∧ (∀ r ∈ rs, r.ok) ∧ (∀ r ∈ rs, r.m = 1 ∨ r.m = 2 ∨ r.m = 3) ∧ Ex G H ∧ PenB pn (a + 1 + 8 * i) H)
      (EvD.imp (ed_draw (m := 3 + 1) (ea_cons (ee_var 0) (ea_cons (ee_add (ee_var 1) ee_int) ea_nil)) ⟨by omega, by omega⟩) (fun v G2 _ _ ⟨d, hv, h1, h2⟩ => ⟨d, hv, h1, by omega⟩) off_pn) (by omega) off_pn (tfre "range") (fun H e p => ⟨[], [], none, none, none, rfl, e _ _ (by rw [off_ne na]; exact hL), trivial, rfl, fun _ h => absurd h (by simp), fun _ h => absurd h (by simp), (ex_off E2 h0).trans e, by rw [show a + 1 + 8 * ((0 : Nat) : Int) = a + 1 by omega]; exact p⟩) ?_ ?_
    · rintro i σ' H hlt ⟨vs, rs, z1, z2, z3, rfl, hLv, hR, hi, hok, hm, eG, pH⟩
      have hlen := hR.len
      have cR : ∀ {G' : Hp}, Ex (off pn H) G' → Rows rs vs G' := fun e => Rows.up hR fun p xs hp => e _ _ (by rw [off_ne (pen_tup pH hp)]; exact hp)
      have cL : ∀ {G' : Hp}, Ex (off pn H) G' → G' L = some (.lst vs) := fun e => e _ _ (by rw [off_ne na]; exact hLv)
      have cG : ∀ {G' : Hp}, Ex (off pn H) G' → Ex G G' := fun e => (ex_off eG h0).trans e
      refine (show SD X _ _ pn (a + 1 + 8 * i) _ (off pn H) from ?_) H off_ex pH
      have fin : ∀ (r : Rl) (v : V) (G5 H3 : Hp) (z1 z2 z3 : Option V), r.ok → (r.m = 1 ∨ r.m = 2 ∨ r.m = 3) → Ex (off pn H) G5 → Ex G5 H3 → PenB pn (a + 1 + 8 * (i + 1 : Nat)) H3 → TP (rowV r) v (off pn H3) → ∃ (vs' : List V) (rs' : List Rl) (y1 y2 y3 : Option V), [some (V.ref pn.a), some (.int 3), some (.ref L), z1, z2, z3] = [some (V.ref pn.a), some (.int 3), some (.ref L), y1, y2, y3] ∧ upd H3 L (.lst (vs ++ [v])) L = some (.lst vs') ∧ Rows rs' vs' (upd H3 L (.lst (vs ++ [v]))) ∧ rs'.length = i + 1 ∧ (∀ r ∈ rs', r.ok) ∧ (∀ r ∈ rs', r.m = 1 ∨ r.m = 2 ∨ r.m = 3) ∧ Ex G (upd H3 L (.lst (vs ++ [v]))) ∧ PenB pn (a + 1 + 8 * (i + 1 : Nat)) (upd H3 L (.lst (vs ++ [v]))) := fun r v G5 H3 z1 z2 z3 h1 h2 e5 e6 p6 t6 => by
        have eL := cL (e5.trans e6)
        have tupK : ∀ p xs, H3 p = some (.tup xs) → upd H3 L (.lst (vs ++ [v])) p = some (.tup xs) := fun p xs hp => by
          rw [upd_ne (ne_of hp eL (by simp))]
          exact hp
        refine ⟨vs ++ [v], rs ++ [r], z1, z2, z3, rfl, upd_same, Rows.snoc ?_ (Rows.up (cR (e5.trans e6)) tupK), by rw [List.length_append, hi]; rfl, fun r' hr' => ?_, fun r' hr' => ?_, Ex.mut (cG (e5.trans e6)) gL, pen_upd p6 na nc⟩
        · obtain ⟨p, hv, hp⟩ := t6
          exact ⟨p, hv, tupK _ _ (off_ex _ _ hp)⟩
        · rcases List.mem_append.mp hr' with h | h
          · exact hok r' h
          · rw [List.mem_singleton.mp h]
            exact h1
        · rcases List.mem_append.mp hr' with h | h
          · exact hm r' h
          · rw [List.mem_singleton.mp h]
            exact h2
      refine sd_set 4 (P1 := fun u _ => ∃ d : Int, u = .int d ∧ (d = 1 ∨ d = 2 ∨ d = 3)) (EvD.imp (ed_pick (PV := fun vs => vs = [.int 1, .int 1, .int 1, .int 2, .int 3]) (n := 0) (ee_var 0) (ead_ee ee_int (ead_ee ee_int (ead_ee ee_int (ead_ee ee_int (ead_ee ee_int (ead_nil (fun G5 e5 g5 => rfl) off_pn)))))) (fun vs hvs => by rw [hvs]; exact ⟨by decide, by decide⟩) off_pn (by omega)) (fun u G5 _ _ ⟨vs, hvs, hu⟩ => ?_) off_pn) (fun v1 G1 e1' g1 ⟨m, hv1, hm1⟩ => ?_) off_pn
      · subst hvs
        simp only [List.mem_cons, List.not_mem_nil, or_false] at hu
        rcases hu with rfl | rfl | rfl | rfl | rfl
        · exact ⟨1, rfl, .inl rfl⟩
        · exact ⟨1, rfl, .inl rfl⟩
        · exact ⟨1, rfl, .inl rfl⟩
        · exact ⟨2, rfl, .inr (.inl rfl)⟩
        · exact ⟨3, rfl, .inr (.inr rfl)⟩
      · subst hv1
        refine sd_set 5 (ed_draw (m := m) (ea_cons (ee_var 0) (ea_cons (ee_var 4) ea_nil)) ⟨by omega, by omega⟩) (fun v2 G2 e2' g2 ⟨r, hv2, r1, r2⟩ => ?_) g1
        subst hv2
        have E2' := e1'.trans e2'
        refine sd_ifD (etd_eq0 (ed_draw (m := 4) (ea_cons (ee_var 0) (ea_cons ee_int ea_nil)) ⟨by omega, by omega⟩)) (fun G3 e3 g3 => ?_) (fun G3 e3 g3 => ?_) g2
        · refine sd_app (n := 1) (P1 := fun v G2 => ∃ vs, TP vs v G2 ∧ ∃ n : Int, (0 ≤ n ∧ n ≤ 3) ∧ vs = [.str "down", .int n, .int r, .int m, .int 0]) (cL (E2'.trans e3)) (ee_var 2) (ed_tup (ead_ee ee_str (ead_cons (n1 := 1) (n2 := 0) (ed_draw (m := 4) (ea_cons (ee_var 0) (ea_cons ee_int ea_nil)) ⟨by omega, by omega⟩) (fun u G4 e4 g4 ⟨d, hu, d1, d2⟩ => ead_ee (ee_var 5) (ead_ee (ee_var 4) (ead_ee ee_int (ead_nil (fun G5 e5 g5 => ⟨d, ⟨d1, by omega⟩, by rw [hu]⟩) g4)))) g3 (by omega))) fun vs ⟨n, _, hvs⟩ => by rw [hvs]; simp) g3 (by omega) fun v H3 e5 p5 ⟨xs, hv, n, hn', hxs⟩ => ?_
          subst hxs
          have pp : PenB pn (a + 1 + 8 * (i + 1 : Nat)) H3 := p5.le (by omega)
          exact wSs.of pss_nil (fin (.down n r m) v _ H3 _ _ _ ⟨hn'.1, by omega, by omega, by omega, r1, r2⟩ hm1 (E2'.trans e3) e5 pp hv)
        · refine sd_app (n := 1 + (0 + 1 + 0)) (P1 := fun v G2 => ∃ vs, TP vs v G2 ∧ ∃ n l : Int, (1 ≤ n ∧ n ≤ 5) ∧ (0 ≤ l ∧ l ≤ 3) ∧ vs = [.str "fixed", .int n, .int r, .int m, .int l]) (cL (E2'.trans e3)) (ee_var 2) (ed_tup (ead_ee ee_str (ead_cons (n1 := 1) (n2 := 0 + 1 + 0) (P1 := fun u _ => ∃ d : Int, u = .int d ∧ 1 ≤ d ∧ d ≤ 5) (ed_addR ee_int (ed_draw (m := 5) (ea_cons (ee_var 0) (ea_cons ee_int ea_nil)) ⟨by omega, by omega⟩) fun v G2 ⟨d, hv, h1, h2⟩ => ⟨d, hv, 1 + d, rfl, by omega, by omega⟩) (fun u G4 e4 g4 ⟨d, hu, d1, d2⟩ => ead_ee (ee_var 5) (ead_ee (ee_var 4) (ead_cons (n1 := 0 + 1) (n2 := 0) (ed_pick (n := 0) (PV := fun vs => vs = [.int 0, .int 0, .int 0, .int 1, .int 3]) (ee_var 0) (ead_ee ee_int (ead_ee ee_int (ead_ee ee_int (ead_ee ee_int (ead_ee ee_int (ead_nil (fun G5 e5 g5 => rfl) g4)))))) (fun vs hvs => by rw [hvs]; exact ⟨by decide, by decide⟩) g4 (by omega)) (fun u' G6 e6 g6 ⟨vs, hvs, hu'⟩ => ead_nil (fun G7 e7 g7 => ?_) g6) g4 (by omega)))) g3 (by omega))) fun vs ⟨n, l, _, _, hvs⟩ => by rw [hvs]; simp) g3 (by omega) fun v H3 e5 p5 ⟨xs, hv, n, l, hn', hl', hxs⟩ => ?_
          · subst hu hvs
            have hz : ∃ z : Int, u' = .int z ∧ 0 ≤ z ∧ z ≤ 3 := by
              simp only [List.mem_cons, List.not_mem_nil, or_false] at hu'
              rcases hu' with rfl | rfl | rfl | rfl | rfl <;> exact ⟨_, rfl, by omega, by omega⟩
            obtain ⟨z, rfl, z1, z2⟩ := hz
            exact ⟨d, z, ⟨d1, d2⟩, ⟨z1, z2⟩, rfl⟩
          · subst hxs
            have pp : PenB pn (a + 1 + 8 * (i + 1 : Nat)) H3 := p5.le (by omega)
            exact wSs.of pss_nil (fin (.fixed n r m l) v _ H3 _ _ _ ⟨hn'.1, by omega, hl'.1, by omega, by omega, by omega, r1, r2⟩ hm1 (E2'.trans e3) e5 pp hv)
    · rintro i σ' H hlt ⟨vs, rs, z1, z2, z3, rfl, hLv, hR, hi, hok, hm, eG, pH⟩
      refine (show SS X _ D _ H from ss_ret (ee_var 2) fun H3 e3 => ?_) H (Ex.refl H)
      have p3 := pH.up e3
      refine hd _ H3 (eG.trans e3) (p3.le (by omega)) (ht rs _ _ (ex_off (eG.trans e3) h0) hok hm (by omega) ⟨vs, ⟨L, rfl, by rw [off_ne na]; exact e3 _ _ hLv⟩, Rows.up hR fun p xs hp => ?_⟩)
      rw [off_ne (pen_tup p3 (e3 _ _ hp))]
      exact e3 _ _ hp
end
end Fk
set_option maxRecDepth 100000
set_option maxHeartbeats 2000000
namespace Fk
open PySem PySem.Spec PyProof.Rows L2 Evl He
/-! ### rules side by side -/
def Rls (K : PySem.W.Frag) : List Rl → List V → Hp → Prop
  | [], [], _ => True
  | r :: rs, x :: xs, H => RlAt K r x H ∧ Rls K rs xs H
  | _, _, _ => False
theorem Rls.up {K : PySem.W.Frag} {H H' : Hp} (e : Ex H H') : ∀ {rs : List Rl} {xs : List V}, Rls K rs xs H → Rls K rs xs H'
  | [], [], _ => trivial
  | _ :: _, _ :: _, ⟨h1, h2⟩ => ⟨h1.up e, Rls.up e h2⟩
  | [], _ :: _, h => h
  | _ :: _, [], h => h
theorem Rls.len {K : PySem.W.Frag} {H : Hp} : ∀ {rs : List Rl} {xs : List V}, Rls K rs xs H → xs.length = rs.length
  | [], [], _ => rfl
  | _ :: _, _ :: _, ⟨_, h2⟩ => congrArg Nat.succ (Rls.len h2)
  | [], _ :: _, h' => h'.elim
  | _ :: _, [], h' => h'.elim
theorem Rls.get {K : PySem.W.Frag} {H : Hp} : ∀ {rs : List Rl} {xs : List V} {i : Nat} {x : V}, Rls K rs xs H → xs[i]? = some x → ∃ r, rs[i]? = some r ∧ RlAt K r x H
  | r :: _, _ :: _, 0, _, ⟨h1, _⟩, h => ⟨r, rfl, by
    have : _ = _ := Option.some.inj h
    rw [← this]
    exact h1⟩
  | _ :: rs, _ :: xs, i + 1, x, ⟨_, h2⟩, h => Rls.get (rs := rs) (xs := xs) (i := i) h2 h
  | [], [], _, _, _, h => by cases h
  | [], _ :: _, _, _, h', _ => h'.elim
  | _ :: _, [], _, _, h', _ => h'.elim
theorem Rls.of {K : PySem.W.Frag} {H : Hp} : ∀ {rs : List Rl} {xs : List V}, xs.length = rs.length → (∀ (i : Nat) r x, rs[i]? = some r → xs[i]? = some x → RlAt K r x H) → Rls K rs xs H
  | [], [], _, _ => trivial
  | _ :: rs, _ :: xs, h, q => ⟨q 0 _ _ rfl rfl, Rls.of (Nat.succ.inj h) fun i r x h1 h2 => q (i + 1) r x h1 h2⟩
  | [], _ :: _, h, _ => by cases h
  | _ :: _, [], h, _ => by cases h
section
variable {P : Program} {w : World} {K : PySem.W.Frag} {mg : Str → Option Value} {base : Heap} {N : List Str} {sc scope : Scope} {j k : Nat} {X : Cx} {σ : L2.St} {H : Hp} {a b c e o elt : Expr} {es : List Expr} {x y : Str} {pos p pf py pos' apos : Pos} {rest body : List Stmt} {D : Ends} {v : V}
theorem ee_rm [B : Bx P w K mg base N sc k X] [Tx K mg] {r : Rl} (ho : EE X o σ H v) (hR : RlAt K r v H) (hb : attributeBase o "modulus" X.env (eval o X.env) = eval o X.env := by rfl) : EE X (.Attribute o "modulus" pos) σ H (.int r.m) := by
  obtain ⟨hok, q, dq, rfl, hq⟩ := hR
  cases r with
  | fixed n r m l => exact ee_fld ho hq (tcls "Fixed") (tfld "Fixed" "modulus") rfl hb
  | down n r m => exact ee_fld ho hq (tcls "Down") (tfld "Down" "modulus") rfl hb
theorem ee_rstart [B : Bx P w K mg base N sc k X] [Tx K mg] {r : Rl} (ho : EE X o σ H v) (hR : RlAt K r v H) (hb : attributeBase o "start" X.env (eval o X.env) = eval o X.env := by rfl) : EE X (.Attribute o "start" pos) σ H (.int r.start) := by
  obtain ⟨hok, q, dq, rfl, hq⟩ := hR
  cases r with
  | fixed n r m l => exact ee_fld ho hq (tcls "Fixed") (tfld "Fixed" "start") rfl hb
  | down n r m => exact ee_fld ho hq (tcls "Down") (tfld "Down" "start") rfl hb
def Rl.reach : Rl → Int
  | .fixed n _ _ _ => n
  | .down _ _ _ => 0
theorem ee_rreach [B : Bx P w K mg base N sc k X] [Tx K mg] {r : Rl} (ho : EE X o σ H v) (hR : RlAt K r v H) (hb : attributeBase o "reach" X.env (eval o X.env) = eval o X.env := by rfl) : EE X (.Attribute o "reach" pos) σ H (.int r.reach) := by
  obtain ⟨hok, q, dq, rfl, hq⟩ := hR
  cases r with
  | fixed n r m l => exact ee_fld ho hq (tcls "Fixed") (tfld "Fixed" "reach") rfl hb
  | down n r m => exact ee_fld ho hq (tcls "Down") (tfld "Down" "reach") rfl hb
theorem ee_number [B : Bx P w K mg base N sc k X] [Tx K mg] {pl : Sem Bool} {r : Rl} (ho : EE X o σ H v) (hR : RlAt K r v H) (hj : 1 ≤ k := by decide)
    (ht : eval (.Call (.Attribute o "number_in_order" apos) [] [] pos) X.env = (do
      let ov ← eval o X.env
      standAt apos.atName
      let (f, first) ← holding [ov] (getMethod ov "number_in_order" pl)
      callWith pos f first (backTo pos (starEach [] X.env)) (backToKw pos (keywordEach [] X.env))) := by rfl) : EE X (.Call (.Attribute o "number_in_order" apos) [] [] pos) σ H (.int r.number) := by
  have hR0 := hR
  obtain ⟨hok, q, dq, rfl, hq⟩ := hR
  cases r with
  | fixed n r m l => exact ee_meth0 (pl := pl) mt_Fixed_number ho hq rfl (fun H1 e1 => ⟨_, _, rfl, rfl, hR0.up e1, Gives.me⟩) hj ht
  | down n r m => exact ee_meth0 (pl := pl) mt_Down_number ho hq rfl (fun H1 e1 => ⟨_, _, rfl, rfl, hR0.up e1, Gives.me⟩) hj ht
/-- for y in e, e a tuple -/
theorem ss_forT [B : Bx P w K mg base N sc k X] [Gx : Dx X] {A : Addr} {xs : List V} (z : Nat) (I : Nat → L2.St → Hp → Prop) (ha : EE X e σ H (.ref A)) (hx : H A = some (.tup xs)) (h0 : ∀ H1, Ex H H1 → I 0 σ H1) (hl : ∀ i σ' H', I i σ' H' → H' A = some (.tup xs))
    (hb : ∀ i x σ' H', xs[i]? = some x → I i σ' H' → wSs X body { D with nx := I (i + 1), ct := I (i + 1), bk := wSs X rest D } (σ'.set z (some x)) H') (hd : ∀ σ' H', I xs.length σ' H' → wSs X rest D σ' H') (hN : N[z]? = some x := by rfl) (hv : locB sc x = true := by decide +kernel)
    (hs : ∀ y, foldedSetIterable e X.env y = pure y := by intro _; rfl) : SS X (.For (.Name x py) e body [] pos :: rest) D σ H := fun H1 e1 =>
  wss_cons (ps_for Gx.own B.calm (pi_tup pe_w) (pg_name B.ndx (B.ix hN) (B.loc hv) (.inl (Gx.fn x))) pss_w hs)
    (s_forT (K := X.K) (D := { D with nx := wSs X rest D }) (ha.mono e1) (st_of (e1 _ _ hx)) I (fun H2 e2 => h0 H2 (e1.trans e2)) (fun i σ' H' _ p => st_of (hl i σ' H' p)) (fun i x σ' H' hi p => hb i x σ' H' hi p) hd)
end
/-! ### common_modulus -/
theorem lcm6 {z m : Int} (hz : z = 1 ∨ z = 2 ∨ z = 3 ∨ z = 6) (hm : m = 1 ∨ m = 2 ∨ m = 3) : lcmZ z m = 1 ∨ lcmZ z m = 2 ∨ lcmZ z m = 3 ∨ lcmZ z m = 6 := by
  rcases hz with rfl | rfl | rfl | rfl <;> rcases hm with rfl | rfl | rfl <;> decide
section
variable {P : Program} {w : World} {K : PySem.W.Frag} {mg : Str → Option Value} {base : Heap}
/-- of rules in a tuple, of few moduli -/
def InT (K : PySem.W.Frag) (rs : List Rl) (v : V) (H : Hp) : Prop := ∃ A xs, v = .ref A ∧ H A = some (.tup xs) ∧ Rls K rs xs H
def FewR (rs : List Rl) : Prop := rs.length ≤ 10 ∧ ∀ r ∈ rs, r.m = 1 ∨ r.m = 2 ∨ r.m = 3
def R_common_modulus : List V → Hp → (V → Hp → Prop) → Prop := fun vs H T => ∃ (rs : List Rl) (x : V), vs = [x] ∧ InT K rs x H ∧ FewR rs ∧ ∀ z : Int, Gives T H (.int z)
theorem cl_common_modulus [T : Tx K mg] : Cl P w K mg base 2 "common_modulus" (spR (R_common_modulus (K := K))) := by
  obtain ⟨fd, F⟩ := f_common_modulus (K := K) (mg := mg)
  refine ⟨⟨_, FnOk.raw0 (ok_fn F sc_common_modulus ?_ ?_) (F.bindsN fun _ _ _ _ _ _ us hl => match us, hl with | [_], _ => rfl), tglo "common_modulus", F.kp⟩⟩
  · rintro vs H T ⟨rs, x, rfl, _⟩
    rfl
  · rintro X vs H T D B _ ⟨rs, x, rfl, ⟨A, xs, rfl, hA, hR⟩, ⟨hl, hm⟩, ht⟩ hd _
    refine ss_set 1 ee_int ?_
    refine ss_forT 2 (fun i σ H' => ∃ (z : Int) (q : Option V), σ = [some (.ref A), some (.int z), q] ∧ (z = 1 ∨ z = 2 ∨ z = 3 ∨ z = 6) ∧ Ex H H') (ee_var 0) hA (fun H1 e1 => ⟨1, none, rfl, .inl rfl, e1⟩) (fun i σ' H' ⟨_, _, _, _, e⟩ => e _ _ hA) ?_ ?_
    · rintro i x σ' H' hi ⟨z, q, rfl, hz, e⟩
      obtain ⟨r, hr, hx⟩ := hR.get hi
      have hmr := hm r (List.mem_of_getElem? hr)
      have hl6 := lcm6 hz hmr
      refine (show SS X _ _ _ H' from ?_) H' (Ex.refl H')
      refine ss_set 1 (ee_call cl_common (ea_cons (ee_var 1) (ea_cons (ee_rm (ee_var 2) (hx.up e)) ea_nil)) fun H1 _ => ⟨z, r.m, rfl, by omega, by omega, Gives.me⟩) ?_
      refine ss_skip (ET.is (et_gt (ee_var 1) (ee_num (tint "MOST_COMMON" 12))) (decide_eq_false (by omega))) ?_
      exact ss_nil fun H2 e2 => ⟨_, _, rfl, hl6, e.trans e2⟩
    · rintro σ' H' ⟨z, q, rfl, hz, e⟩
      exact (show SS X _ _ _ H' from ss_ret (ee_var 1) fun H2 e2 => hd _ _ (e.trans e2) (ht z _ (e.trans e2))) H' (Ex.refl H')
end
end Fk
set_option maxRecDepth 100000
set_option maxHeartbeats 2000000
namespace Fk
open PySem PySem.Spec PyProof.Rows L2 Evl He
theorem sw_cellD {env : Env} {a b : Expr} {gs : List Comprehension} {scope : Scope} {pos : Pos} {z : Str} {pz : Pos} {l : Nat} (hz : env.scope.names.lookup z = some .cell) : swapsWith (.DictComp a b gs scope pos) (some (.Name z pz)) l env = pure false := by
  have ky : env.kindOf z = some .cell := hz
  unfold swapsWith
  simp only [ky]
  rw [show ((some NameKind.cell : Option NameKind) == some NameKind.local) = false from rfl, Bool.and_false, Bool.false_and, Bool.false_and]
/-! ### the numbers in order -/
theorem num_inj {r r' : Rl} (h : r.ok) (h' : r'.ok) (e : r.number = r'.number) : r = r' := by
  cases r with
  | fixed n r m l =>
    cases r' with
    | fixed n' r' m' l' =>
      simp only [Rl.ok, Rl.number] at h h' e
      have h1 : (n * 7 + m) * 7 + r = (n' * 7 + m') * 7 + r' := by omega
      have h2 : n * 7 + m = n' * 7 + m' := by omega
      obtain rfl : n = n' := by omega
      obtain rfl : m = m' := by omega
      obtain rfl : r = r' := by omega
      obtain rfl : l = l' := by omega
      rfl
    | down n' r' m' =>
      simp only [Rl.ok, Rl.number] at h h' e
      omega
  | down n r m =>
    cases r' with
    | fixed n' r' m' l' =>
      simp only [Rl.ok, Rl.number] at h h' e
      omega
    | down n' r' m' =>
      simp only [Rl.ok, Rl.number] at h h' e
      have h1 : ((1000 + n) * 7 + m) * 7 + r = ((1000 + n') * 7 + m') * 7 + r' := by omega
      have h2 : (1000 + n) * 7 + m = (1000 + n') * 7 + m' := by omega
      obtain rfl : n = n' := by omega
      obtain rfl : m = m' := by omega
      obtain rfl : r = r' := by omega
      rfl
/-- the dict of the rules so far -/
def Kn (K : PySem.W.Frag) (rs : List Rl) (i : Nat) (kvs : List (Key × V)) (H : Hp) : Prop := kvs.length ≤ i ∧ (∀ kv ∈ kvs, ∃ r ∈ rs, kv.1 = .inl r.number ∧ RlAt K r kv.2 H) ∧ ∀ j r, j < i → rs[j]? = some r → ∃ kv ∈ kvs, kv.1 = .inl r.number
theorem Kn.put {K : PySem.W.Frag} {rs : List Rl} {i : Nat} {kvs : List (Key × V)} {H : Hp} {r : Rl} {x : V} (h : Kn K rs i kvs H) (hi : rs[i]? = some r) (hx : RlAt K r x H) : Kn K rs (i + 1) (putK kvs (.inl r.number) x) H := by
  obtain ⟨h1, h2, h3⟩ := h
  unfold putK
  split
  · rename_i ha
    refine ⟨by rw [List.length_map]; omega, fun kv hkv => ?_, fun j r' hj hr' => ?_⟩
    · obtain ⟨kv0, hk0, rfl⟩ := List.mem_map.mp hkv
      by_cases e : kv0.1 = .inl r.number
      · rw [if_pos e]
        exact ⟨r, List.mem_of_getElem? hi, e, hx⟩
      · rw [if_neg e]
        exact h2 kv0 hk0
    · have key : ∀ kv0 ∈ kvs, ∃ kv ∈ kvs.map (fun kv => if kv.1 = Sum.inl r.number then (kv.1, x) else kv), kv.1 = kv0.1 := fun kv0 hk0 => ⟨_, List.mem_map.mpr ⟨kv0, hk0, rfl⟩, by split <;> rfl⟩
      rcases Nat.lt_succ_iff_lt_or_eq.mp hj with hj | hj
      · obtain ⟨kv0, hk0, e⟩ := h3 j r' hj hr'
        obtain ⟨kv, hkv, e'⟩ := key kv0 hk0
        exact ⟨kv, hkv, e'.trans e⟩
      · subst hj
        obtain rfl : r = r' := Option.some.inj (hi.symm.trans hr')
        obtain ⟨kv0, hk0, e⟩ := List.any_eq_true.mp ha
        obtain ⟨kv, hkv, e'⟩ := key kv0 hk0
        exact ⟨kv, hkv, e'.trans (of_decide_eq_true e)⟩
  · refine ⟨by rw [List.length_append]; exact Nat.succ_le_succ h1, fun kv hkv => ?_, fun j r' hj hr' => ?_⟩
    · rcases List.mem_append.mp hkv with h | h
      · exact h2 kv h
      · rw [List.mem_singleton.mp h]
        exact ⟨r, List.mem_of_getElem? hi, rfl, hx⟩
    · rcases Nat.lt_succ_iff_lt_or_eq.mp hj with hj | hj
      · obtain ⟨kv0, hk0, e⟩ := h3 j r' hj hr'
        exact ⟨kv0, List.mem_append_left _ hk0, e⟩
      · subst hj
        obtain rfl : r = r' := Option.some.inj (hi.symm.trans hr')
        exact ⟨_, List.mem_append_right _ (List.mem_singleton.mpr rfl), rfl⟩
theorem Kn.up {K : PySem.W.Frag} {rs : List Rl} {i : Nat} {kvs : List (Key × V)} {H H' : Hp} (h : Kn K rs i kvs H) (e : Ex H H') : Kn K rs i kvs H' := ⟨h.1, fun kv hkv => by
  obtain ⟨r, hr, h1, h2⟩ := h.2.1 kv hkv
  exact ⟨r, hr, h1, h2.up e⟩, h.2.2⟩
section
variable {P : Program} {w : World} {K : PySem.W.Frag} {mg : Str → Option Value} {base : Heap} {N : List Str} {sc scope : Scope} {j k : Nat} {X : Cx} {σ : L2.St} {H : Hp} {a b c e o elt kx vx : Expr} {es : List Expr} {x y : Str} {pos p pf py pos' apos : Pos} {rest body : List Stmt} {D : Ends} {v : V} {T P1 : V → Hp → Prop}
/-- {number of y: y for y in e} -/
theorem eq_dcR [B : Bx P w K mg base N sc k X] {A : Addr} {xs : List V} {rs : List Rl} (m : Nat) (ha : EE X e σ H (.ref A)) (hA : H A = some (.tup xs)) (hR : Rls K rs xs H) (hz : xs.length ≤ 1000)
    (hk : ∀ X' r x H1, Bx P w K mg base N (relS scope sc) k X' → Ex H H1 → RlAt K r x H1 → EE X' kx (inB σ m x) H1 (.int r.number)) (hv : ∀ X' x H1, Bx P w K mg base N (relS scope sc) k X' → Ex H H1 → EE X' vx (inB σ m x) H1 x)
    (hB : lcB N sc scope y m = true := by decide +kernel) (hN : N[m]? = some y := by rfl) (hs : ∀ z, foldedSetIterable e X.env z = pure z := by intro _; rfl) :
    EQ X (.DictComp kx vx [⟨.Name y py, e, [], 0⟩] scope pos) σ H fun v H' => ∃ d kvs, v = .ref d ∧ H' d = some (.dK kvs) ∧ Kn K rs xs.length kvs H' := by
  refine EQ.of (pe_dc (own := [(y, m)]) (tk := bE X scope kx) (tv := bE X scope vx) B.calm B.ndx (pi_tup pe_w) (blk_ok (lcB_ok hB).1) (pg_blk hN (lcB_ok hB).2) (fun s H C cl fp => pts_nil) (fun s H C cl fp => ⟨fun pins s' σ H' Q I h => h s H C cl fp pins s' I⟩) (fun s H C cl fp => ⟨fun pins s' σ H' Q I h => h s H C cl fp pins s' I⟩) hs) fun H1 e1 Q q => ?_
  refine ha H1 e1 _ fun H2 e2 => ⟨A, rfl, ⟨xs, st_of (e2 _ _ (e1 _ _ hA))⟩, fun Dl hD => ?_⟩
  have E2 := e1.trans e2
  refine dc_tup (xs := xs) (fun i H' => Ex H2 H' ∧ ∃ kvs, H' Dl = some (.dK kvs) ∧ Kn K rs i kvs H2) ⟨Ex.new hD, [], upd_same, Nat.le_refl _, fun kv h => absurd h (by simp), fun j r hj => absurd hj (Nat.not_lt_zero _)⟩ (fun i H' _ p => st_of (p.1 _ _ (E2 _ _ hA))) (fun i x H' hi p => ⟨wipe1 σ m x, ?_⟩) (fun H' ⟨e', kvs, hd, hk⟩ => q _ H' (e2.trans e') ⟨Dl, kvs, rfl, hd, hk.up e'⟩)
  obtain ⟨e', kvs, hd, hkn⟩ := p
  obtain ⟨r, hr, hx⟩ := hR.get hi
  show bE X scope kx (inB σ m x) H' fun y H4 => bE X scope vx (inB σ m x) H4 fun z H5 => ∃ kvs k, y = kV k ∧ H5 Dl = some (.dK kvs) ∧ kvs.length < sizeLine ∧ (Ex H2 (upd H5 Dl (.dK (putK kvs k z))) ∧ ∃ kvs', (upd H5 Dl (.dK (putK kvs k z))) Dl = some (.dK kvs') ∧ Kn K rs (i + 1) kvs' H2)
  have hxi := (List.getElem?_eq_some_iff.mp hi).1
  refine be_of (H := H') (fun X' B' => hk X' r x H' B' (E2.trans e') (hx.up (E2.trans e'))) H' (Ex.refl _) _ fun H4 e4 => be_of (H := H4) (fun X' B' => hv X' x H4 B' ((E2.trans e').trans e4)) H4 (Ex.refl _) _ fun H5 e5 => ⟨kvs, .inl r.number, rfl, e5 _ _ (e4 _ _ hd), sz_lt (by have := hkn.1; omega), Ex.mut ((e'.trans e4).trans e5) hD, _, upd_same, hkn.put hr (hx.up E2)⟩
/-- the keys of a dict, as ints -/
theorem el_keysI [B : Bx P w K mg base N sc k X] {d : Addr} {kvs : List (Key × V)} {g : Nat → Int} (m : Nat) (ho : ∀ H, EE X e σ H (.ref d)) (hd : H d = some (.dK kvs)) (hz : kvs.length ≤ 1000) (hg : ∀ (i : Nat) (k : Key) (v : V), kvs[i]? = some (k, v) → k = .inl (g i)) (he : ∀ X' (n : Int) H1, Bx P w K mg base N (relS scope sc) k X' → EE X' elt (inB σ m (.int n)) H1 (.int n))
    (hB : lcB N sc scope y m = true := by decide +kernel) (hN : N[m]? = some y := by rfl) (hs : ∀ z, foldedSetIterable e X.env z = pure z := by intro _; rfl) :
    EL X (.ListComp elt [⟨.Name y py, e, [], 0⟩] scope pos) σ H (((List.range kvs.length).map g).map V.int) := by
  refine EL.of (pe_lock (pe_lc1 (m := m) hB hN (pi_keys pe_w) (fun s H C cl fp => pts_nil) hs)) fun H1 e1 Q q => ⟨d, .dK kvs, e1 _ _ hd, trivial, fun od => ?_⟩
  refine ho (upd H1 d (.frz od (.dK kvs))) _ (Ex.refl _) _ fun H2 e2 => ⟨d, od, rfl, .inl ⟨kvs, e2 _ _ upd_same, fun Dl hD => ?_⟩⟩
  have hdD : d ≠ Dl := fun z => by
    rw [← z, e2 _ _ upd_same] at hD
    cases hD
  refine lc_it (walk_keys (d := d) (o := od) (kvs := kvs)) (fun i H' => Ex H2 H' ∧ H' Dl = some (.lst (((List.range i).map g).map V.int))) ⟨Ex.new hD, upd_same⟩ (fun i H' _ p => p.1 _ _ (e2 _ _ upd_same)) ?_ ?_
  · rintro i x Ha Hb hi ⟨e', hl⟩ ⟨rfl, kk, v, hkv, rfl⟩
    have hk := hg i kk v hkv
    subst hk
    refine ⟨wipe1 σ m _, ?_⟩
    show bE X scope elt (inB σ m (.int (g i))) Hb fun y H4 => ∃ acc, H4 Dl = some (.lst acc) ∧ acc.length < sizeLine ∧ (Ex H2 (upd H4 Dl (.lst (acc ++ [y]))) ∧ (upd H4 Dl (.lst (acc ++ [y]))) Dl = some (.lst (((List.range (i + 1)).map g).map V.int)))
    refine be_of (H := Hb) (fun X' B' => he X' (g i) Hb B') Hb (Ex.refl _) _ fun H4 e4 => ⟨_, e4 _ _ hl, sz_lt (by rw [List.length_map, List.length_map, List.length_range]; omega), Ex.mut (e'.trans e4) hD, ?_⟩
    rw [upd_same, List.range_succ, List.map_append, List.map_append]
    rfl
  · rintro H' ⟨e', hl⟩
    have hnd : H' d = some (.frz od (.dK kvs)) := e' _ _ (e2 _ _ upd_same)
    refine ⟨hnd, q Dl _ ?_ (fun b ob hb => ?_) ?_⟩
    · have := fresh_back e2 hD
      rwa [upd_ne (Ne.symm hdD)] at this
    · by_cases z : b = d
      · rw [z] at hb ⊢
        rw [upd_same]
        exact (e1 _ _ hd).symm.trans hb |>.symm ▸ rfl
      · rw [upd_ne z]
        refine e' _ _ (e2 _ _ ?_)
        rw [upd_ne z]
        exact hb
    · rw [upd_ne (Ne.symm hdD)]
      exact hl
/-- sorted(e), ints -/
theorem eq_sortI [B : Bx P w K mg base N sc k X] {ns : List Int} (hm : mg "sorted" = none) (h : EL X e σ H (ns.map V.int)) (hg : gloB sc "sorted" = true := by decide +kernel) (he : starEach (e :: []) X.env = (false, eval e X.env) :: starEach [] X.env := by rfl) :
    EQ X (.Call (.Name "sorted" p) [e] [] pos) σ H fun v H' => ∃ ns' : List Int, ns'.Perm ns ∧ LP (ns'.map V.int) v H' :=
  EQ.of (pe_callB cr_sortedI (B.gl hg) (by rw [B.qm]; exact hm) rfl pa_w (gloB_ok hg).2.2 (gloB_ok hg).2.1 he rfl) (eq_one (t := tNil) (eaq_one (P1 := LP (ns.map V.int)) (EL.lp h) (fun v H1 e1 ⟨l, hv, hl⟩ Q q => ⟨l, ns, by rw [hv], sq_of hl, fun ns' p hp _ hn => q _ _ (Ex.new hn) ⟨ns', hp, p, rfl, upd_same⟩⟩) (fun _ _ _ e p => p.up e) he))
/-- [elt for y in e], e a list that is told by a word -/
theorem eq_lcQ [B : Bx P w K mg base N sc k X] (m : Nat) (hl : EQ X e σ H P1)
    (h : ∀ v H1, Ex H H1 → P1 v H1 → ∃ l xs, ∃ g : V → V, v = .ref l ∧ H1 l = some (.lst xs) ∧ xs.length ≤ 40000 ∧ (∀ X' x H2, Bx P w K mg base N (relS scope sc) k X' → Ex H1 H2 → x ∈ xs → EE X' elt (inB σ m x) H2 (g x)) ∧ ∀ l' H2, Ex H1 H2 → H2 l' = some (.lst (xs.map g)) → T (.ref l') H2)
    (hB : lcB N sc scope y m = true := by decide +kernel) (hN : N[m]? = some y := by rfl) (hs : ∀ z, foldedSetIterable e X.env z = pure z := by intro _; rfl) :
    EQ X (.ListComp elt [⟨.Name y py, e, [], 0⟩] scope pos) σ H T := by
  refine EQ.of (pe_lc1 (m := m) hB hN (pi_list pe_w) (fun s H C cl fp => pts_nil) hs) fun H1 e1 Q q => ?_
  refine hl H1 e1 _ fun v H2 e2 p => ?_
  obtain ⟨l, xs, g, rfl, hx, hz, he, hT⟩ := h v H2 (e1.trans e2) p
  have z := el_lcL (K := X.K) (te := bE X scope elt) (tl := fun σ H Q => Q (.ref l) H) (σ := σ) (H := H2) (j := m) (vs := [m]) (t := tYes) (fun _ => true) (fun i => g (xs.getD i .non)) (fun H3 e3 Q q => q H3 (Ex.refl _)) (by rw [B.qK]; exact sq_of hx) hz (wipe1 σ m) (fun i x H1 e1 hi => et_yes) (fun i x H3 e3 hi hf => be_of fun X' B' => by
    rw [getD_of hi]
    exact he X' x H3 B' e3 (List.mem_of_getElem? hi))
  rw [show given xs.length (fun _ => true) (fun i => g (xs.getD i .non)) = xs.map g by
    have := given_items (xs := xs) (f := fun _ => true) (g := g)
    rwa [List.filter_eq_self.mpr (fun _ _ => rfl)] at this] at z
  exact z H2 (Ex.refl _) Q fun l' H3 _ e3 h3 => q _ H3 (e2.trans e3) (hT l' H3 e3 h3)
end
end Fk
set_option maxRecDepth 100000
set_option maxHeartbeats 2000000
namespace Fk
open PySem PySem.Spec PyProof.Rows L2 Evl He
section
variable {P : Program} {w : World} {K : PySem.W.Frag} {mg : Str → Option Value} {base : Heap}
/-- the same rules, each once or more -/
def SameR (rs rs' : List Rl) : Prop := ∀ r, r ∈ rs' ↔ r ∈ rs
def R_in_order : List V → Hp → (V → Hp → Prop) → Prop := fun vs H T => ∃ (rs : List Rl) (x : V), vs = [x] ∧ InT K rs x H ∧ rs.length ≤ 10 ∧ ∀ rs' v H', Ex H H' → rs'.length ≤ 10 → SameR rs rs' → InT K rs' v H' → T v H'
/-- the rule of a number -/
def ofNum (rs : List Rl) (n : Int) : Rl := (rs.find? fun r => decide (r.number = n)).getD (.down 0 0 1)
theorem ofNum_of {rs : List Rl} (hok : ∀ r ∈ rs, r.ok) {r : Rl} (h : r ∈ rs) : ofNum rs r.number = r := by
  unfold ofNum
  cases q : rs.find? fun r' => decide (r'.number = r.number) with
  | none =>
    have := List.find?_eq_none.mp q r h
    simp at this
  | some r' =>
    have h1 := List.mem_of_find?_eq_some q
    have h2 := List.find?_some q
    exact num_inj (hok r' h1) (hok r h) (of_decide_eq_true h2)
theorem Rls.oks {H : Hp} {rs : List Rl} {xs : List V} (h : Rls K rs xs H) : ∀ r ∈ rs, r.ok := fun r hr => by
  obtain ⟨i, hi⟩ := List.getElem?_of_mem hr
  have hl : i < xs.length := by
    rw [h.len]
    exact (List.getElem?_eq_some_iff.mp hi).1
  obtain ⟨r', hr', hx⟩ := h.get (List.getElem?_eq_getElem hl)
  obtain rfl : r = r' := Option.some.inj (hi.symm.trans hr')
  exact hx.1
/-- what stands at the keys, in an order -/
theorem Kn.out {rs : List Rl} {kvs : List (Key × V)} {H : Hp} (hok : ∀ r ∈ rs, r.ok) (h : Kn K rs rs.length kvs H) {ks ns : List Int} (hk : kvs.map (·.1) = ks.map Sum.inl) (hp : ns.Perm ks) :
    Rls K (ns.map (ofNum rs)) (ns.map fun n => (valV kvs (.inl n)).getD .non) H ∧ SameR rs (ns.map (ofNum rs)) ∧ ∀ n ∈ ns, ∃ v, valV kvs (.inl n) = some v := by
  have key : ∀ n ∈ ns, ∃ v r, valV kvs (.inl n) = some v ∧ r ∈ rs ∧ n = r.number ∧ RlAt K r v H := fun n hn => by
    have h1 : (Sum.inl n : Key) ∈ kvs.map (·.1) := by
      rw [hk]
      exact List.mem_map.mpr ⟨n, hp.mem_iff.mp hn, rfl⟩
    obtain ⟨kv, hkv, e⟩ := List.mem_map.mp h1
    unfold valV
    cases q : kvs.find? fun kv => decide (kv.1 = (Sum.inl n : Key)) with
    | none =>
      have := List.find?_eq_none.mp q kv hkv
      exact absurd (decide_eq_true e) this
    | some kv' =>
      obtain ⟨r, hr, h3, h4⟩ := h.2.1 kv' (List.mem_of_find?_eq_some q)
      have h2 : kv'.1 = Sum.inl n := of_decide_eq_true (List.find?_some (p := fun (kv : Key × V) => decide (kv.1 = (Sum.inl n : Key))) q)
      exact ⟨_, r, rfl, hr, Sum.inl.inj (h2.symm.trans h3), h4⟩
  refine ⟨Rls.of (by rw [List.length_map, List.length_map]) fun i r x hr hx => ?_, fun r => ⟨fun hr => ?_, fun hr => ?_⟩, fun n hn => ?_⟩
  · rw [List.getElem?_map] at hr hx
    cases q : ns[i]? with
    | none =>
      rw [q] at hr
      cases hr
    | some n =>
      rw [q] at hr hx
      obtain ⟨v, r', h1, h2, h3, h4⟩ := key n (List.mem_of_getElem? q)
      have e1 : ofNum rs n = r := Option.some.inj hr
      have e2 : (valV kvs (.inl n)).getD .non = x := Option.some.inj hx
      rw [h1] at e2
      rw [h3, ofNum_of hok h2] at e1
      rw [← e1, ← show v = x from e2]
      exact h4
  · obtain ⟨n, hn, rfl⟩ := List.mem_map.mp hr
    obtain ⟨v, r', h1, h2, h3, h4⟩ := key n hn
    rw [h3, ofNum_of hok h2]
    exact h2
  · obtain ⟨i, hi⟩ := List.getElem?_of_mem hr
    obtain ⟨kv, hkv, e⟩ := h.2.2 i r (List.getElem?_eq_some_iff.mp hi).1 hi
    refine List.mem_map.mpr ⟨r.number, hp.mem_iff.mpr ?_, ofNum_of hok hr⟩
    have h1 : (Sum.inl r.number : Key) ∈ ks.map Sum.inl := by
      rw [← hk]
      exact List.mem_map.mpr ⟨kv, hkv, e⟩
    obtain ⟨n, hn, e'⟩ := List.mem_map.mp h1
    exact Sum.inl.inj e' ▸ hn
  · obtain ⟨v, r', h1, _⟩ := key n hn
    exact ⟨v, h1⟩
theorem cl_in_order [T : Tx K mg] : Cl P w K mg base 2 "in_order" (spR (R_in_order (K := K))) := by
  obtain ⟨fd, F⟩ := f_in_order (K := K) (mg := mg)
  refine ⟨⟨_, FnOk.raw0 (ok_fn F sc_in_order ?_ ?_) (F.bindsN fun _ _ _ _ _ _ us hl => match us, hl with | [_], _ => rfl), tglo "in_order", F.kp⟩⟩
  · rintro vs H T ⟨rs, x, rfl, _⟩
    rfl
  · rintro X vs H T D B _ ⟨rs, x, rfl, ⟨A, xs, rfl, hA, hR⟩, hl, ht⟩ hd _
    have hlx := hR.len
    refine ss_setQ 1 (eq_dcR 2 (ee_var 0) hA hR (by omega) (fun X' r x H1 B' e1 hx => ee_number (ee_var 2) hx) (fun X' x H1 B' e1 => ee_var 2)) (hs := sw_cellD bx_cell) fun v H1 e1 ⟨d, kvs, hv, hd1, hK⟩ => ?_
    subst hv
    rw [hlx] at hK
    have hkl : kvs.length ≤ 10 := Nat.le_trans hK.1 hl
    -- the numbers
    have hks : ∃ g : Nat → Int, ∀ (i : Nat) (k : Key) (v : V), kvs[i]? = some (k, v) → k = .inl (g i) := by
      refine ⟨fun i => match kvs[i]? with | some (.inl n, _) => n | _ => 0, fun i k v hi => ?_⟩
      obtain ⟨r, hr, e, _⟩ := hK.2.1 (k, v) (List.mem_of_getElem? hi)
      have e : k = .inl r.number := e
      subst e
      show Sum.inl r.number = Sum.inl (match kvs[i]? with | some (.inl n, _) => n | _ => 0)
      rw [hi]
    obtain ⟨g, hg⟩ := hks
    have hk0 : kvs.map (·.1) = ((List.range kvs.length).map g).map Sum.inl := by
      refine List.ext_getElem? fun i => ?_
      rw [List.getElem?_map, List.getElem?_map, List.getElem?_map]
      by_cases hi : i < kvs.length
      · rw [List.getElem?_range hi, List.getElem?_eq_getElem hi]
        exact congrArg some (hg i kvs[i].1 kvs[i].2 (List.getElem?_eq_getElem hi))
      · rw [List.getElem?_eq_none (by omega), List.getElem?_eq_none (by rw [List.length_range]; omega)]
        rfl
    refine ss_retQ (R := fun v H' => ∃ ns : List Int, ns.Perm ((List.range kvs.length).map g) ∧ TP (ns.map fun n => (valV kvs (.inl n)).getD .non) v H') (EQ.of (pe_callTy call_tuple_of (B.gl (by decide +kernel)) (by rw [B.qm]; exact tfre "tuple") rfl pa_w (by decide) rfl rfl) (eq_one (t := tNil) (eaq_one (P1 := fun v H' => ∃ ns : List Int, ns.Perm ((List.range kvs.length).map g) ∧ LP (ns.map fun n => (valV kvs (.inl n)).getD .non) v H')
      (eq_lcQ 3 (eq_sortI (tfre "sorted") (el_keysI 3 (fun H => ee_var 1) hd1 (by omega) hg fun X' n H1 B' => ee_intI (tfre "int") (ee_var 3))) fun v H2 e2 ⟨ns, hp, l, hv, hl2⟩ => ?_) (fun v H2 e2 ⟨ns, hp, l, hv, hl2⟩ Q q => ?_) fun _ _ _ e ⟨ns, hp, p⟩ => ⟨ns, hp, p.up e⟩))) fun v H2 e2 ⟨ns, hp, l, hv, hl2⟩ => ?_
    · have hz : ns.length ≤ 10 := by
        rw [hp.length_eq, List.length_map, List.length_range]
        exact hkl
      refine ⟨l, ns.map V.int, fun x => match x with | .int n => (valV kvs (.inl n)).getD .non | _ => .non, hv, hl2, by rw [List.length_map]; omega, fun X' x H3 B' e3 hx => ?_, fun l' H3 e3 h3 => ⟨ns, hp, l', rfl, by rw [h3, List.map_map]; rfl⟩⟩
      obtain ⟨n, hn, rfl⟩ := List.mem_map.mp hx
      obtain ⟨v, hv⟩ := (hK.out hR.oks hk0 hp).2.2 n hn
      refine EE.of (pe_dget (by have := B'.room.units; omega) pe_w pe_w (by intro _ _; rfl)) fun H4 e4 Q q => ?_
      refine (show EE X' _ _ _ (.ref d) from ee_var 1) H4 e4 _ fun H5 e5 => (show EE X' _ _ H4 (.int n) from ee_var 3) H5 e5 _ fun H6 e6 => ⟨d, v, rfl, ?_, ?_⟩
      · have := DGet.k (k := Sum.inl n) (((((e2.trans e3).trans e4).trans e5).trans e6) _ _ hd1)
        rw [hv] at this
        exact this
      · have q6 : Q ((valV kvs (.inl n)).getD .non) H6 := q H6 (e5.trans e6)
        rw [hv] at q6
        exact q6
    · rw [B.qK]
      exact ⟨l, _, by rw [hv], .inl ⟨sq_of hl2, fun n hn => q _ _ (Ex.new hn) ⟨ns, hp, n, rfl, upd_same⟩⟩⟩
    · obtain ⟨h1, h2, h3⟩ := hK.out hR.oks hk0 hp
      refine hd v H2 (e1.trans e2) (ht (ns.map (ofNum rs)) v H2 (e1.trans e2) ?_ h2 ⟨l, _, hv, hl2, h1.up e2⟩)
      rw [List.length_map, hp.length_eq, List.length_map, List.length_range]
      exact hkl
end
end Fk
set_option maxRecDepth 100000
set_option maxHeartbeats 2000000
namespace Fk
open PySem PySem.Spec PyProof.Rows L2 Evl He
open Sem (wp)
/-! ### enumerate(tuple) -/
theorem meets_enumB {v : Value} {o : Obj} {H : Heap → Prop} (B : Begins v o H) :
    Meets (Builtin.«enumerate.__new__» ⟨[.type "enumerate", v], []⟩) (fun _ R s => H s.heap ∧
      R (.ok (.ret (.ref (s.heap.push o).objs.size))) { s with heap := (s.heap.push o).push { cls := .type "enumerate", data := .fields #[.none, .bool false, .ref s.heap.objs.size, rawInt 0, .none, .none] } }) :=
  .of_wp fun prog w A R s h => by
    obtain ⟨hp, g, d, tk, os⟩ := s; obtain ⟨h1, h⟩ := h
    have hsub := sub_enumerate
    have q1 : ∀ {A' : Around} {E : Value → Shared → Prop} {Q : Value → Shared → Prop}, Q (.ref hp.objs.size) ⟨hp.push o, g, d, tk, os⟩ → wpAny (model prog w) A' (pyIter v) Q E ⟨hp, g, d, tk, os⟩ :=
      fun q => B.iter prog w _ _ ⟨hp, g, d, tk, os⟩ _ h1 q
    wp_walk using q1
    refine wpAny_stack_any fun st => wpAny_pure ?_
    split
    · rename_i c _ _ _ _ _
      cases (c == Value.type "enumerate")
      · wp_walk using q1
        exact ⟨_, rfl, h⟩
      · wp_walk using q1
        exact ⟨_, rfl, h⟩
    · wp_walk using q1
      exact ⟨_, rfl, h⟩
theorem call_enumB {prog : Program} {w : World} {A : Around} {E : Value → Shared → Prop} {s : Shared} {v : Value} {o : Obj} {H : Heap → Prop} {Q : Value → Shared → Prop} (B : Begins v o H) (h1 : H s.heap)
    (h : ∀ h', IsEnum h' (s.heap.objs.size + 1) s.heap.objs.size 0 .none → h'.get? s.heap.objs.size = some o → h'.objs.size = s.heap.objs.size + 2 →
      (∀ b o, s.heap.get? b = some o → h'.get? b = some o) → Q (.ref (s.heap.objs.size + 1)) { s with heap := h' }) :
    wpAny (model prog w) A (call (.type "enumerate") [v]) Q E s := by
  refine callType_new F.called_enumerate (by decide) (F.typeCall_enumerate_1 _) (F.newCall_enumerate_1 _) (fun obj => F.args_object_init_2 obj _) F.entry_enumerate_new (meets_enumB B) ⟨h1, ?_⟩
  have hz : (s.heap.push o).objs.size = s.heap.objs.size + 1 := Heap.size_push ..
  show _ ∧ _
  rw [hz]
  have he : IsEnum ((s.heap.push o).push { cls := .type "enumerate", data := .fields #[.none, .bool false, .ref s.heap.objs.size, rawInt 0, .none, .none] }) (s.heap.objs.size + 1) s.heap.objs.size 0 .none := by
    have := Heap.get?_push_size (s.heap.push o) (o := { cls := .type "enumerate", data := .fields #[.none, .bool false, .ref s.heap.objs.size, rawInt 0, .none, .none] }) rfl
    rw [hz] at this; exact this
  exact ⟨⟨_, he, rfl⟩, h _ he (Heap.get?_push_of_some _ (Heap.get?_push_size _ B.free)) (by rw [Heap.size_push, hz]) fun b o x => Heap.get?_push_of_some _ (Heap.get?_push_of_some _ x)⟩
/-- the tuple at a, each item in a new pair -/
def Ieu (K : PySem.W.Frag) (a : Addr) : It :=
  ⟨fun i H => ∃ (xs : List V) (x : V), SqT K H a xs ∧ xs[i]? = some x, fun i H v H' => ∃ T x, v = .ref T ∧ H T = none ∧ H' = upd H T (.tup [.int (i : Nat), x]) ∧ ∀ xs, SqT K H a xs → xs[i]? = some x, fun i H => ∃ xs : List V, SqT K H a xs ∧ xs.length ≤ i⟩
theorem turn_enumT {P : Program} {w : World} {K : PySem.W.Frag} {elts : List Expr} {kk : Nat} {tpos : Pos} (a e it : Addr) :
    Turn P w K (.Tuple elts kk tpos) (Ieu K a) [e, it] e (fun i h => (∃ old, IsEnum h e it ((i : Nat) : Int) old) ∧ h.IsTupleIter it a i ∧ e ≠ it) where
  mem := by simp
  obj := fun i h st b hb => by
    obtain ⟨⟨old, he⟩, ⟨o, ho, hc, hd⟩, _⟩ := st
    have e' : b = e ∨ b = it := by simpa using hb
    rcases e' with z | z
    · rw [z]; exact ⟨_, he, fun v q => nomatch q⟩
    · rw [z]; exact ⟨o, ho, fun v q => by rw [hd] at q; cases q⟩
  keep := fun i h h' st k => let ⟨⟨old, he⟩, hi, hne⟩ := st; ⟨⟨old, k e (by simp) _ he⟩, hi.at fun o q => k it (by simp) o q, hne⟩
  item := by
    intro X hP hw hK hc i pins s σ H E I hf st hg
    subst hP hw hK
    obtain ⟨⟨old, he⟩, hit, hne⟩ := st
    obtain ⟨xs, x, hq, hx⟩ := hg
    obtain ⟨its, rv, p, hz⟩ := I.tuple hq
    obtain ⟨u, hu, ru⟩ := rv.get hx
    have hel : e < s.heap.objs.size := Heap.lt_size he
    have hil : it < s.heap.objs.size := by obtain ⟨_, q, _⟩ := hit; exact Heap.lt_size q
    have hT : s.heap.IsTuple a its.toArray := p
    have hai : a ≠ it := fun z => by
      obtain ⟨o1, g1, c1, _⟩ := hT
      obtain ⟨o2, g2, c2, _⟩ := hit
      rw [z, g2] at g1
      cases g1
      rw [c2] at c1
      simp at c1
    have hae : e ∉ [it, a] := fun hm => by
      have e' : e = it ∨ e = a := by simpa using hm
      rcases e' with z | z
      · exact hne z
      · obtain ⟨o1, g1, c1, _⟩ := hT
        rw [← z, he] at g1
        cases g1
        simp at c1
    have hlt : i < its.toArray.size := by
      have := (List.getElem?_eq_some_iff.mp hu).1
      simpa using this
    refine wpAny_pyNext_enum_itemD (Draws.tuple (prog := X.prog) (w := X.w) (A := X.A.in1) (I.ok.hd hc) it a hai its.toArray) he ⟨hit, hT⟩ hlt hne hae fun u' h' tk hP ho hit' hT2' hsz hk => ?_
    have eu : u' = u := by
      have h1 : its.toArray[i]? = some u' := hP
      have h2 : its.toArray[i]? = some u := by simpa using hu
      exact Option.some.inj (h1.symm.trans h2)
    subst eu
    refine ⟨_, rfl, wpAny_letOwnedTupleGo_enum (s := { s with heap := h', toks := tk + 1 }) ho fun h'' he' sb => ?_⟩
    have hT2 : h''.get? s.heap.objs.size = some { cls := .type "tuple", data := .seq #[.int i tk, u'] } := (sb.2 _ (Nat.ne_of_gt hel)).trans hT2'
    have new : ObjOk X.prog X.w (upd H s.heap.objs.size (.tup [.int (i : Nat), x])) h'' s.heap.objs.size (.tup [.int (i : Nat), x]) :=
      ⟨by show 2 ≤ sizeLine; decide, [.int i tk, u'], .cons ⟨_, rfl⟩ (.cons ru .nil), ⟨_, hT2, rfl, _, rfl⟩⟩
    have I1 : Inv X pins σ (upd H s.heap.objs.size (.tup [.int (i : Nat), x])) { s with heap := h'', toks := tk + 1 } :=
      I.turnedNew (ch := [e, it]) (fun b ob hb q => (sb.2 b (fun z => hb (by simp [z]))).trans (hk b ob (fun z => hb (by simp [z])) (fun z => hb (by simp [z])) q)) hf (Nat.le_refl _) new
    refine ⟨.ref s.heap.objs.size, _, I1, rfl, ⟨_, x, rfl, I.hok.fresh (Nat.le_refl _), rfl, fun ys hy => by rw [I.tuple_inj hy hq]; exact hx⟩, ⟨⟨u', ?_⟩, hit'.1.at fun o q => (sb.2 it (Ne.symm hne)).trans q, hne⟩, fun b hb => ?_⟩
    · have e1 : ((i + 1 : Nat) : Int) = (i : Int) + 1 := by omega
      rw [e1]; exact he'
    · have hb' : b < s.heap.objs.size := by
        have e' : b = e ∨ b = it := by simpa using hb
        rcases e' with z | z
        · rw [z]; exact hel
        · rw [z]; exact hil
      rw [upd_ne (Nat.ne_of_lt hb')]
      exact (hf b hb).1
  done := by
    intro X hP hw hK hc i pins s σ H E I hf st hg
    subst hP hw hK
    obtain ⟨⟨old, he⟩, hit, hne⟩ := st
    obtain ⟨xs, hq, hx⟩ := hg
    obtain ⟨its, rv, p, hz⟩ := I.tuple hq
    obtain ⟨f0, f1, f2, f3, f4, f5⟩ := hf it (by simp)
    have hl := rv.length
    have hT : s.heap.IsTuple a its.toArray := p
    have hai : a ≠ it := fun z => by
      obtain ⟨o1, g1, c1, _⟩ := hT
      obtain ⟨o2, g2, c2, _⟩ := hit
      rw [z, g2] at g1
      cases g1
      rw [c2] at c1
      simp at c1
    have hT' : s.TypeIs (.ref e) "enumerate" := ⟨_, he, rfl⟩
    unfold pyNext
    refine wpAny_bind (wpAny_attempt (wpAny_callSpecial?_slot (name := Str.ofString "__next__") hT' F.slot_enumerate_next
      (wpAny_call_entry F.slot_enumerate_next hT' F.entry_enumerate_next ?_ (F.args_enumerate_next_1 _))))
    show wpAny _ _ (field (.ref e) 2 >>= _) _ _ _
    refine wpAny_bind (wpAny_field he rfl (x := .ref it) rfl ?_)
    refine wpAny_bind (wpAny_nextOf_tuple_end (I.ok.hd hc) hit hT (by simp; omega) fun h' x he' hx' => ?_)
    obtain ⟨o, ho, hcl⟩ := hx'
    refine wpAny_bind (wpAny_isInstance (T := "StopIteration") (b := true) ⟨o, ho, hcl⟩ isSubtype_stop ?_)
    exact wpAny_pure ⟨rfl, I.turned (t' := s.toks) (fun b o hb q => he' b o hb q) f0 f1 f3 f4 f5⟩
  self := fun A i s Q E st h => let ⟨⟨_, he⟩, _⟩ := st; wpAny_pyIter_enum he h
def iEnuT (K : PySem.W.Frag) (ta : TA) : TI := fun σ H R => ta σ H fun vs H1 => ∃ a xs, vs = [.ref a] ∧ SqT K H1 a xs ∧ R (Ieu K a) H1
theorem pi_enumT {X : Cx} {e : Expr} {ta : TA} {p pos tpos : Pos} {elts : List Expr} {kk : Nat} (hg : Gl X "enumerate") (hm : X.mg "enumerate" = none) (ha : PA X [e] ta) (hs : starEach [e] X.env = [(false, eval e X.env)] := by rfl) :
    PI X (.Tuple elts kk tpos) (.Call (.Name "enumerate" p) [e] [] pos) (iEnuT X.K ta) := by
  refine ⟨fun pins s σ H R I h => ?_⟩
  refine Call_ (ld_blt I hg hm boot_enumerate (PyProof.Rows.callWith_type1 (thn (ha.run pos pins s σ H _ I h) fun us s1 ⟨vs, H1, I1, r1, q1⟩ => ?_) hs rfl))
  obtain ⟨a, xs, ex, hq, q⟩ := q1
  subst ex
  cases r1 with
  | cons r rr =>
    cases rr
    cases r
    obtain ⟨its, rv, p', hz⟩ := I1.tuple hq
    refine call_enumB (begins_tuple a its.toArray) p' fun h' he hit hsz hk => wpAny_pyIter_enum he ?_
    have I2 : Inv X pins σ H1 { s1 with heap := h' } := I1.kept (t' := s1.toks) hk
    refine ⟨s1.heap.objs.size + 1, [s1.heap.objs.size + 1, s1.heap.objs.size], _, _, H1, rfl, I2, turn_enumT a (s1.heap.objs.size + 1) s1.heap.objs.size, ⟨⟨.none, he⟩, ⟨_, hit, rfl, rfl⟩, Nat.succ_ne_self _⟩, fun b hb => ?_, q⟩
    have e' : b = s1.heap.objs.size + 1 ∨ b = s1.heap.objs.size := by simpa using hb
    have hle : s1.heap.objs.size ≤ b := by
      rcases e' with z | z
      · rw [z]; exact Nat.le_add_right _ _
      · rw [z]; exact Nat.le_refl _
    exact I1.fpOk hle (I1.hok.fresh hle)
theorem walk_enumT {K : PySem.W.Frag} {a : Addr} {xs : List V} : Walk (Ieu K a) xs.length (fun H => SqT K H a xs) (YPair (fun i => some (.int (i : Nat))) (fun i => xs[i]?)) := by
  refine ⟨fun i _ hi q => ⟨xs, xs[i], q, by simp [hi]⟩, fun _ q => ⟨xs, q, Nat.le_refl _⟩, fun i H v H' _ q y => ?_⟩
  obtain ⟨T, x, h1, h2, h3, h4⟩ := y
  exact ⟨T, .int (i : Nat), x, h1, h2, h3, rfl, h4 xs q⟩
end Fk
set_option maxRecDepth 100000
set_option maxHeartbeats 2000000
namespace Fk
open PySem PySem.Spec PyProof.Rows L2 Evl He
theorem RlAt.upB {K : PySem.W.Frag} {r : Rl} {v : V} {H H' : Hp} {p C dx : Addr} {fs : List (Str × V)} (h : RlAt K r v H) (e : ExB p H H') (hp : H p = some (.ins C dx fs)) (hl : fs.length < 5) : RlAt K r v H' := by
  obtain ⟨hok, a, da, rfl, ha⟩ := h
  refine ⟨hok, a, da, rfl, e _ _ (fun z => ?_) ha⟩
  rw [z, hp] at ha
  cases ha
  cases r <;> simp [Rl.fs] at hl
theorem Rls.upB {K : PySem.W.Frag} {H H' : Hp} {p C dx : Addr} {fs : List (Str × V)} (e : ExB p H H') (hp : H p = some (.ins C dx fs)) (hl : fs.length < 5) : ∀ {rs : List Rl} {xs : List V}, Rls K rs xs H → Rls K rs xs H'
  | [], [], _ => trivial
  | _ :: _, _ :: _, ⟨h1, h2⟩ => ⟨h1.upB e hp hl, Rls.upB e hp hl h2⟩
  | [], _ :: _, h => h
  | _ :: _, [], h => h
/-- a book of these rules, in any order -/
def bkF (m : Int) (A : Addr) (s r : Int) : List (Str × V) := [("modulus", .int m), ("rules", .ref A), ("start", .int s), ("reach", .int r)]
def BkAt (K : PySem.W.Frag) (rs : List Rl) (v : V) (H : Hp) : Prop := ∃ rs' A xs m s r, SameR rs rs' ∧ rs'.length ≤ 10 ∧ H A = some (.tup xs) ∧ Rls K rs' xs H ∧ InsAt K "Book" (bkF m A s r) v H
theorem BkAt.up {K : PySem.W.Frag} {rs : List Rl} {v : V} {H H' : Hp} (h : BkAt K rs v H) (e : Ex H H') : BkAt K rs v H' := by
  obtain ⟨rs', A, xs, m, s, r, h1, h2, h3, h4, h5⟩ := h
  exact ⟨rs', A, xs, m, s, r, h1, h2, e _ _ h3, h4.up e, h5.up e⟩
section
variable {P : Program} {w : World} {K : PySem.W.Frag} {mg : Str → Option Value} {base : Heap} {N : List Str} {sc scope : Scope} {j k : Nat} {X : Cx} {σ : L2.St} {H : Hp} {a b c e o : Expr} {es : List Expr} {x y : Str} {pos p pf py px pt pos' apos : Pos} {rest body : List Stmt} {D : Ends} {v : V}
/-- for x, y in enumerate(e), e a tuple -/
theorem ss_forE [B : Bx P w K mg base N sc k X] [Gx : Dx X] {A : Addr} {xs : List V} {kt : Nat} (z : Nat) (I : Nat → L2.St → Prop) (ha : EE X e σ H (.ref A)) (hx : H A = some (.tup xs)) (h0 : I 0 σ)
    (hb : ∀ i x σ', xs[i]? = some x → I i σ' → SS X body { D with nx := fun σ2 H2 => I (i + 1) σ2 ∧ Ex H H2, ct := fun σ2 H2 => I (i + 1) σ2 ∧ Ex H H2, bk := wSs X rest D } ((σ'.set z (some (.int (i : Nat)))).set (z + 1) (some x)) H) (hd : ∀ σ', I xs.length σ' → SS X rest D σ' H) (hm : mg "enumerate" = none)
    (hN : N[z]? = some x := by rfl) (hN1 : N[z + 1]? = some y := by rfl) (hv : (locB sc x && locB sc y) = true := by decide +kernel) (hg : gloB sc "enumerate" = true := by decide +kernel) (hs1 : starEach [e] X.env = [(false, eval e X.env)] := by rfl)
    (hs : ∀ y, foldedSetIterable (.Call (.Name "enumerate" p) [e] [] pf) X.env y = pure y := by intro _; rfl) : SS X (.For (.Tuple [.Name x px, .Name y py] kt pt) (.Call (.Name "enumerate" p) [e] [] pf) body [] pos :: rest) D σ H := fun H1 e1 => by
  obtain ⟨hv, hv1⟩ := ba hv
  refine wss_cons (ps_for Gx.own B.calm (pi_enumT (B.gl hg) (by rw [B.qm]; exact hm) (pa_cons pe_w pa_nil hs1) hs1) (pg_tup B.calm (pgs_cons (pg_name B.ndx (B.ix hN) (B.loc hv) (.inl (Gx.fn x))) (pgs_cons (pg_name B.ndx (B.ix hN1) (B.loc hv1) (.inl (Gx.fn y))) pgs_nil))) pss_w hs) (ha H1 e1 _ fun H2 e2 => ?_)
  have E2 := e1.trans e2
  refine ⟨A, xs, rfl, st_of (E2 _ _ hx), for_it (walk_enumT (xs := xs)) (fun i σ' H' => I i σ' ∧ Ex H H') ⟨h0, E2⟩ (fun i σ' H' _ p => st_of (p.2 _ _ hx)) ?_ (fun σ' H' p => hd σ' p.1 H' p.2)⟩
  rintro i v σ' Ha Hb hi ⟨hI, ea⟩ ⟨Tp, x1, x2, rfl, hT, rfl, h1, h2⟩
  cases h1
  refine ⟨Tp, _, rfl, st_of upd_same, rfl, .int (i : Nat), [x2], rfl, x2, [], rfl, rfl, ?_⟩
  exact hb i x2 σ' h2 hI _ (ea.trans (Ex.new hT))
end
section
variable {P : Program} {w : World} {K : PySem.W.Frag} {mg : Str → Option Value} {base : Heap}
def R_Book : List V → Hp → (List (Str × V) → Hp → Prop) → Prop := fun vs H T => ∃ (rs : List Rl) (A : Addr) (xs : List V), vs = [.ref A] ∧ H A = some (.tup xs) ∧ Rls K rs xs H ∧ FewR rs ∧
  ∀ rs' A' xs' m s r H', Ex H H' → SameR rs rs' → rs'.length ≤ 10 → H' A' = some (.tup xs') → Rls K rs' xs' H' → T (bkF m A' s r) H'
theorem ok_Book [T : Tx K mg] {X : Cx} {p dx : Addr} {vs : List V} {H0 H : Hp} {T : List (Str × V) → Hp → Prop} {D : Ends} (B : Bx P w K mg base N_Book_init (defScope s_Book_init) 3 X) (G : Dx X) (h0 : H0 p = none) (e0 : Ex H0 H) (hp : H p = some (.ins (ga K "Book") dx [])) (hR : R_Book (K := K) vs H0 T) (hd : ∀ σ fs H', Ex H0 H' → H' p = some (.ins (ga K "Book") dx fs) → T fs H' → D.nx σ H') : SS X (defBody s_Book_init) D (start N_Book_init (.ref p :: vs)) H := by
  obtain ⟨rs, A, xs, rfl, hA0, hR0, hfew, ht⟩ := hR
  have hA := e0 _ _ hA0
  have hRH := hR0.up e0
  have hlx := hR0.len
  have cls := tcls (K := K) (mg := mg) "Book"
  have nf : ∀ f : Str, fldL.contains ("Book", f) = true → NoAttr K (ga K "Book") f := fun f h => tfld (mg := mg) "Book" f h
  refine ss_forE 2 (fun i σ => ∃ z1 z2, σ = [some (.ref p), some (.ref A), z1, z2]) (ee_var 1) hA ⟨none, none, rfl⟩ ?_ ?_ (tfre "enumerate")
  · rintro i x σ' hi ⟨z1, z2, rfl⟩
    obtain ⟨r, hr, hx⟩ := hRH.get hi
    refine ss_skip (et_not (et_val (ee_isi (y := true) (tfre "isinstance") (ee_var 3) (ee_obj (tglo "Rule")) (.own _) (t := .ref (ga K r.cls)) ?_ ?_))) (ss_nil fun H1 e1 => ⟨⟨_, _, rfl⟩, e1⟩)
    · obtain ⟨hok, q, dq, rfl, hq⟩ := hx
      cases r with
      | fixed => exact ty_Fixed hq
      | down => exact ty_Down hq
    · cases r with
      | fixed => exact k_Fixed_Rule
      | down => exact k_Down_Rule
  rintro σ' ⟨z1, z2, rfl⟩
  -- modulus
  refine ss_fldQ (T := fun v _ => ∃ z : Int, v = .int z) hp (ee_var 0) (eq_call cl_common_modulus (EA.q (ea_cons (ee_var 1) ea_nil) fun H1 e1 => ⟨rs, _, rfl, ⟨A, xs, rfl, e1 _ _ hA, hRH.up e1⟩, hfew, fun z H' _ => ⟨z, rfl⟩⟩)) cls (nf _ (by decide +kernel)) (by simp) fun v H2 H1 e2 ⟨z, hv⟩ b1 hp1 => ?_
  subst hv
  have hp2 := e2 _ _ hp
  have ne1 : ∀ {q : Addr} {ys : List V} {G : Hp} {fs : List (Str × V)}, G p = some (.ins (ga K "Book") dx fs) → G q = some (.tup ys) → q ≠ p := fun hq hy z => by
    rw [z, hq] at hy
    cases hy
  have E1 : Ex H0 H1 := b1.to (e0.trans e2) h0
  have hA1 : H1 A = some (.tup xs) := E1 _ _ hA0
  -- rules
  refine ss_fldQ (T := fun v H' => ∃ rs', rs'.length ≤ 10 ∧ SameR rs rs' ∧ InT K rs' v H') hp1 (ee_var 0) (eq_call cl_in_order (EA.q (ea_cons (ee_var 1) ea_nil) fun H3 e3 => ⟨rs, _, rfl, ⟨A, xs, rfl, e3 _ _ hA1, hR0.up (E1.trans e3)⟩, hfew.1, fun rs' v H' _ h1 h2 h3 => ⟨rs', h1, h2, h3⟩⟩)) cls (nf _ (by decide +kernel)) (by simp [putF]) fun v H3 H4 e3 ⟨rs', hl', hs', A', xs', hv, hA', hR'⟩ b4 hp4 => ?_
  subst hv
  have hp1' : H1 p = some (.ins (ga K "Book") dx [("modulus", .int z)]) := hp1
  have hp4 : H4 p = some (.ins (ga K "Book") dx [("modulus", .int z), ("rules", .ref A')]) := hp4
  have hp3 := e3 _ _ hp1'
  have E4 : Ex H0 H4 := b4.to (E1.trans e3) h0
  have hA4 : H4 A' = some (.tup xs') := b4 _ _ (ne1 hp3 hA') hA'
  have hR4 : Rls K rs' xs' H4 := hR'.upB b4 hp3 (by simp)
  have hlx' := hR'.len
  -- not too many
  refine ss_skip (ET.is (et_gt (ee_lenT (tfre "len") (ee_fld (ee_var 0) hp4 cls (nf _ (by decide +kernel)) rfl) (st_of hA4)) (ee_num (tint "MOST_RULES" 400))) (decide_eq_false (by omega))) ?_
  refine ss_fld hp4 (ee_var 0) ee_int cls (nf _ (by decide +kernel)) (by simp) fun H5 b5 hp5 => ?_
  have hp5 : H5 p = some (.ins (ga K "Book") dx [("modulus", .int z), ("rules", .ref A'), ("start", .int 0)]) := hp5
  refine ss_fld hp5 (ee_var 0) ee_int cls (nf _ (by decide +kernel)) (by simp) fun H6 b6 hp6 => ?_
  have hA6 : H6 A' = some (.tup xs') := b6 _ _ (ne1 hp5 (b5 _ _ (ne1 hp4 hA4) hA4)) (b5 _ _ (ne1 hp4 hA4) hA4)
  have hR6 : Rls K rs' xs' H6 := (hR4.upB b5 hp4 (by simp)).upB b6 hp5 (by simp)
  have E6 : Ex H0 H6 := b6.to (b5.to E4 h0) h0
  have hp6' : H6 p = some (.ins (ga K "Book") dx (bkF z A' 0 0)) := hp6
  refine ss_forT 3 (fun i σ H' => ∃ s r z1 z2, σ = [some (.ref p), some (.ref A), z1, z2] ∧ ExB p H6 H' ∧ H' p = some (.ins (ga K "Book") dx (bkF z A' s r))) (ee_fld (ee_var 0) hp6' cls (nf _ (by decide +kernel)) rfl) hA6 (fun H7 e7 => ⟨0, 0, _, _, rfl, fun b o _ h => e7 b o h, e7 _ _ hp6'⟩) (fun i σ' H' ⟨_, _, _, _, _, b, _⟩ => b _ _ (ne1 hp6 hA6) hA6) ?_ ?_
  · rintro i x σ' H' hi ⟨s, r, y1, y2, rfl, b7, hp7⟩
    obtain ⟨q, hq, hx⟩ := hR6.get hi
    have hx7 := hx.upB b7 hp6' (by simp [bkF])
    refine (show SS X _ _ _ H' from ?_) H' (Ex.refl H')
    refine ss_fld hp7 (ee_var 0) (ee_max (tfre "max") (ee_intI (tfre "int") (ee_fld (ee_var 0) hp7 cls (nf _ (by decide +kernel)) rfl)) (ee_intI (tfre "int") (ee_rstart (ee_var 3) hx7))) cls (nf _ (by decide +kernel)) (by simp [bkF]) fun H8 b8 hp8 => ?_
    have hp8' : H8 p = some (.ins (ga K "Book") dx (bkF z A' (max s q.start) r)) := hp8
    have hx8 := hx7.upB b8 hp7 (by simp [bkF])
    refine ss_fld hp8' (ee_var 0) (ee_max (tfre "max") (ee_intI (tfre "int") (ee_fld (ee_var 0) hp8' cls (nf _ (by decide +kernel)) rfl)) (ee_intI (tfre "int") (ee_rreach (ee_var 3) hx8))) cls (nf _ (by decide +kernel)) (by simp [bkF]) fun H9 b9 hp9 => ?_
    exact ss_nil fun H10 e10 => ⟨_, _, _, _, rfl, fun b o hb h => e10 _ _ (b9 _ _ hb (b8 _ _ hb (b7 _ _ hb h))), e10 _ _ hp9⟩
  · rintro σ' H' ⟨s, r, y1, y2, rfl, b7, hp7⟩
    refine (show SS X _ _ _ H' from ss_nil fun H8 e8 => ?_) H' (Ex.refl H')
    have b8 : ExB p H6 H8 := b7.ex e8
    have E8 : Ex H0 H8 := b8.to E6 h0
    exact hd _ _ H8 E8 (e8 _ _ hp7) (ht rs' A' xs' z s r H8 E8 hs' hl' (b8 _ _ (ne1 hp6 hA6) hA6) (hR6.upB b8 hp6' (by simp [bkF])))
end
end Fk
set_option maxRecDepth 100000
set_option maxHeartbeats 2000000
namespace Fk
open PySem PySem.Spec PyProof.Rows L2 Evl He
section
variable {P : Program} {w : World} {K : PySem.W.Frag} {mg : Str → Option Value} {base : Heap}
/-- Book(*rules) -/
def R_BookS : List V → Hp → (List (Str × V) → Hp → Prop) → Prop := fun vs H T => ∃ rs : List Rl, Rls K rs vs H ∧ FewR rs ∧ ∀ rs' A' xs' m s r H', Ex H H' → SameR rs rs' → rs'.length ≤ 10 → H' A' = some (.tup xs') → Rls K rs' xs' H' → T (bkF m A' s r) H'
theorem ma_Book [T : Tx K mg] : Ma P w K mg base 4 "Book" (ga K "Book") (spI (ga K "Book") (R_BookS (K := K))) := by
  obtain ⟨fd, F⟩ := f_Book_init (K := K) (mg := mg)
  obtain ⟨oc, od, dV, kV, doc, pm, an, cdv, ct, osl, hfd, lk, hcd, hdf, hkw⟩ := F.ex
  subst hfd
  have hd0 : dV = .none := by
    rcases hdf with ⟨_, e2⟩ | ⟨e2, _⟩
    · exact e2
    · exact absurd rfl e2
  subst hd0
  have R0 := StX.fn_star (P := P) (w := w) (K := K) (mg := mg) (base := base) (CX := CX0) (k := 3) (ps := ["self"]) (pv := "rules") (sp := spI (ga K "Book") (R_Book (K := K))) lk hcd sc_Book_init StX.cxUp_none (fun us rest h => StX.bind_star1 (B := fun us => bindArgs (PySem.W.fnOf "__init__" "Book.__init__" (defArgs s_Book_init) (defBody s_Book_init) (defScope s_Book_init) .none kV doc pm an cdv ct) ⟨us, []⟩) (p1 := "self") (pv := "rules") (fun a => rfl) (fun a r rs => rfl) us rest h) (fun A outer s H vs Q E hr ⟨p, dx, args, H0, T0, hv, h0, e0, hp, hR, q⟩ => by
    subst hv
    exact ⟨_, PSs.nox pss_w, ok_Book (bx_of sc_Book_init hr) dx_of h0 e0 hp hR (fun σ fs H' e h t => q fs H' e h t) H (Ex.refl H)⟩)
  refine ⟨⟨_, R0.imp fun vs H Q E ⟨x, dx, args, H0, T0, hv, h0, e0, hx, ⟨rs, hR, hf, hT⟩, q⟩ => ?_, tmak "Book", tglo "Book"⟩⟩
  refine ⟨[.ref x], args, hv, rfl, ?_, fun p hp => ?_⟩
  · have := hR.len
    have := hf.1
    exact sz_of (by omega)
  have hpx : p ≠ x := fun z => by
    rw [z, hx] at hp
    cases hp
  have hp0 : H0 p = none := fresh_back e0 hp
  have E0 : Ex H0 (upd H0 p (.tup args)) := Ex.new hp0
  refine ⟨x, dx, [.ref p], upd H0 p (.tup args), T0, rfl, by rw [upd_ne (Ne.symm hpx)]; exact h0, fun b o hb => ?_, by rw [upd_ne (Ne.symm hpx)]; exact hx, ⟨rs, p, args, rfl, upd_same, hR.up E0, hf, fun rs' A' xs' m s r H' e h1 h2 h3 h4 => hT rs' A' xs' m s r H' (E0.trans e) h1 h2 h3 h4⟩, fun fs H' e hx' ht => q fs H' (E0.trans e) hx' ht⟩
  by_cases hbp : b = p
  · rw [hbp] at hb ⊢
    rw [upd_same] at hb ⊢
    exact hb
  · rw [upd_ne hbp] at hb ⊢
    exact e0 _ _ hb
end
end Fk
set_option maxRecDepth 100000
set_option maxHeartbeats 2000000
namespace Fk
open PySem PySem.Spec PyProof.Rows L2 Evl He
section
variable {P : Program} {w : World} {K : PySem.W.Frag} {mg : Str → Option Value} {base : Heap} {N : List Str} {sc scope : Scope} {j k : Nat} {X : Cx} {σ : L2.St} {H : Hp} {a b c e o : Expr} {es : List Expr} {x y : Str} {pos p pf py px pt pos' apos sp_ : Pos} {rest body : List Stmt} {D : Ends} {v : V} {C : Addr} {T : V → Hp → Prop}
theorem ma_rawS [B : Bx P w K mg base N sc k X] {xc : Str} {sp : Sp} {m : Nat} (c : Ma P w K mg base j xc C sp) (hj : j + 1 ≤ k) (hN : N[m]? = some x) (hv : visB sc x = true) (hst : starEach [.Starred e sp_] X.env = [(true, eval e X.env)]) :
    PE X (.Call (.Name x p) [.Starred e sp_] [] pos) (fun σ H Q => tVar m σ H fun v H1 => v = .ref C ∧ wE X e σ H1 fun y H2 => ∃ a xs, y = V.ref a ∧ (SqT K H2 a xs ∨ SqL K H2 a xs) ∧ ∀ x dx, H2 x = none → H2 dx = none → dx ≠ x → sp (V.ref x :: xs) (upd (upd H2 dx (.own x)) x (.ins C dx [])) (fun v H3 => v = .non ∧ Q (.ref x) H3) E0) := by
  obtain ⟨f, F, M, hm⟩ := c.ex
  obtain ⟨rfl, rfl, rfl, rfl, rfl, _, _, _, _, hr⟩ := id B
  refine ⟨fun pins s σ H Q I h => ?_⟩
  refine wpAny_Call_Name_kw (thn ((pe_var (B.ix hN) (B.vis hv) (visB_ok hv).2.1 (visB_ok hv).2.2).run pins s σ H _ I h) fun u s1 ⟨y, H1, I1, ry, hy, q⟩ => ?_)
  subst hy
  obtain rfl : u = Value.ref C := ry
  refine PySem.W.callWith_S (h₀ := X.base) I1.ok.mod.kin M.kp (thn (pe_w.run pins s1 σ H1 _ I1 q) fun v s2 ⟨y, H2, I2, ry, a, xs, ey, hxs, q2⟩ => ?_) hst
  subst ey
  obtain rfl : v = Value.ref a := ry
  exact StX.star_any I2 hxs fun us s3 I3 rv => ⟨I3.kIn, StX.run_makeR M F (hr.mono hj) pass0 I3 rv q2⟩
/-- C(*e), C in a local name -/
theorem eq_makeS [B : Bx P w K mg base N sc k X] {xc : Str} {RI : List V → Hp → (List (Str × V) → Hp → Prop) → Prop} {TI : List (Str × V) → Hp → Prop} {l : Addr} {xs : List V} (m : Nat) (c : Ma P w K mg base j xc C (spI C RI)) (hs : σ[m]? = some (some (.ref C))) (he : EE X e σ H (.ref l)) (hl : H l = some (.lst xs)) (hR : ∀ H1, Ex H H1 → RI xs H1 TI) (hj : j + 1 ≤ k := by decide) (hN : N[m]? = some x := by rfl) (hv : visB sc x = true := by decide +kernel)
    (hst : starEach [.Starred e sp_] X.env = [(true, eval e X.env)] := by rfl) : EQ X (.Call (.Name x p) [.Starred e sp_] [] pos) σ H fun v H' => ∃ x dx fs, v = .ref x ∧ H' x = some (.ins C dx fs) ∧ TI fs H' :=
  EQ.of (ma_rawS c hj hN hv hst) fun H1 e1 Q q => ⟨.ref C, hs, rfl, he H1 e1 _ fun H2 e2 => ⟨l, xs, rfl, .inr (sq_of (e2 _ _ (e1 _ _ hl))), make_q (hR H2 (e1.trans e2)) fun v H' e3 t => q v H' (e2.trans e3) t⟩⟩
end
section
variable {P : Program} {w : World} {K : PySem.W.Frag} {mg : Str → Option Value} {base : Heap}
def R_Book_of : List V → Hp → (V → Hp → Prop) → Prop := fun vs H T => ∃ (l : Addr) (xs : List V) (rs : List Rl), vs = [.ref (ga K "Book"), .ref l] ∧ H l = some (.lst xs) ∧ Rls K rs xs H ∧ FewR rs ∧ ∀ v H', Ex H H' → BkAt K rs v H' → T v H'
theorem fn_Book_of [T : Tx K mg] : FnR P w K mg base CX0 6 (He5.wf K (ga K "Book") "classmethod" "of") (spR (R_Book_of (K := K))) := by
  obtain ⟨fd, F⟩ := f_Book_of (K := K) (mg := mg)
  refine FnOk.raw0 (ok_fn F sc_Book_of ?_ ?_) (F.bindsN fun _ _ _ _ _ _ us hl => match us, hl with | [_, _], _ => rfl)
  · rintro vs H T ⟨l, xs, rs, rfl, _⟩
    rfl
  · rintro X vs H T D B _ ⟨l, xs, rs, rfl, hl, hR, hf, ht⟩ hd _
    refine ss_skip (et_not (et_val (ee_isi2 (y := true) (tfre "isinstance") (ee_var 1) (ee_ty (tfre "list")) (ee_ty (tfre "tuple")) (.ty _) (.ty _) (.base (.lst hl)) (by rfl)))) ?_
    refine ss_retQ (eq_makeS (TI := fun fs H' => ∃ rs' A xs' m s r, fs = bkF m A s r ∧ SameR rs rs' ∧ rs'.length ≤ 10 ∧ H' A = some (.tup xs') ∧ Rls K rs' xs' H') 0 ma_Book rfl (ee_var 1) hl fun H1 e1 => ⟨rs, hR.up e1, hf, fun rs' A' xs' m s r H' _ h1 h2 h3 h4 => ⟨rs', A', xs', m, s, r, rfl, h1, h2, h3, h4⟩⟩) fun v H1 e1 ⟨x, dx, fs, hv, hx, rs', A, xs', m, s, r, hfs, h1, h2, h3, h4⟩ => ?_
    subst hfs
    exact hd v H1 e1 (ht v H1 e1 ⟨rs', A, xs', m, s, r, h1, h2, h3, h4, x, dx, hv, hx⟩)
/-- Book.of(e) -/
theorem eq_book_of [T : Tx K mg] {pl : Sem Bool} {N : List Str} {sc : Scope} {k : Nat} {X : Cx} {σ : L2.St} {H : Hp} {e : Expr} {pos p1 apos : Pos} {rs : List Rl} [B : Bx P w K mg base N sc k X] (h : EQ X e σ H fun v H1 => ∃ l xs, v = .ref l ∧ H1 l = some (.lst xs) ∧ Rls K rs xs H1) (hf : FewR rs) (hj : 6 ≤ k := by decide) (hg : gloB sc "Book" = true := by decide +kernel)
    (hst : starEach [e] X.env = (false, eval e X.env) :: starEach [] X.env := by rfl)
    (ht : eval (.Call (.Attribute (.Name "Book" p1) "of" apos) [e] [] pos) X.env = (do
      let ov ← eval (.Name "Book" p1) X.env
      standAt apos.atName
      let (f, first) ← holding [ov] (getMethod ov "of" pl)
      callWith pos f first (backTo pos (starEach [e] X.env)) (backToKw pos (keywordEach [] X.env))) := by rfl) : EQ X (.Call (.Attribute (.Name "Book" p1) "of" apos) [e] [] pos) σ H (BkAt K rs) := by
  obtain ⟨rfl, rfl, rfl, rfl, rfl, _, _, _, _, hr⟩ := id B
  refine EQ.of (ClX.pe_cmeth (pl := pl) (E := E0) pe_w rd_Book cm_Book fn_Book_of (hr.mono hj) pass0 pa_w hst rfl ht) fun H1 e1 Q q => ?_
  refine (show EE X _ σ H (.ref (ga X.K "Book")) from ee_obj (tglo "Book") hg) H1 e1 _ fun H2 e2 => ⟨rfl, ?_⟩
  refine (eaq_one (P1 := fun v H1 => ∃ l xs, v = .ref l ∧ H1 l = some (.lst xs) ∧ Rls X.K rs xs H1) (P2 := fun vs H3 => ∃ l xs, vs = [.ref l] ∧ H3 l = some (.lst xs) ∧ Rls X.K rs xs H3) h (fun v H3 _ ⟨l, xs, hv, h1, h2⟩ => ⟨l, xs, by rw [hv], h1, h2⟩) (fun _ _ _ e ⟨l, xs, hv, h1, h2⟩ => ⟨l, xs, hv, e _ _ h1, h2.up e⟩) hst) H2 (e1.trans e2) _ fun vs H3 e3 ⟨l, xs, hv, h1, h2⟩ => ?_
  exact ⟨fun v H' => BkAt X.K rs v H', ⟨l, xs, rs, by rw [hv], h1, h2, hf, fun v H' _ hb => hb⟩, fun v H' e4 hb => q v H' ((e2.trans e3).trans e4) hb⟩
/-- Book() -/
theorem eq_book0 [T : Tx K mg] {N : List Str} {sc : Scope} {k : Nat} {X : Cx} {σ : L2.St} {H : Hp} {pos pos' : Pos} [B : Bx P w K mg base N sc k X] (hj : 5 ≤ k := by decide) (hg : gloB sc "Book" = true := by decide +kernel) : EQ X (.Call (.Name "Book" pos') [] [] pos) σ H (BkAt K []) :=
  EvQ.imp (eq_make0 (TI := fun fs H' => ∃ rs' A xs' m s r, fs = bkF m A s r ∧ SameR [] rs' ∧ rs'.length ≤ 10 ∧ H' A = some (.tup xs') ∧ Rls K rs' xs' H') ma_Book (fun H1 e1 => ⟨[], trivial, ⟨by decide, fun _ h => absurd h (by simp)⟩, fun rs' A' xs' m s r H' _ h1 h2 h3 h4 => ⟨rs', A', xs', m, s, r, rfl, h1, h2, h3, h4⟩⟩) hj hg) fun v H1 e1 ⟨x, dx, fs, hv, hx, rs', A, xs', m, s, r, hfs, h1, h2, h3, h4⟩ => by
    subst hfs
    exact ⟨rs', A, xs', m, s, r, h1, h2, h3, h4, x, dx, hv, hx⟩
end
end Fk
set_option maxRecDepth 100000
set_option maxHeartbeats 2000000
namespace Fk
open PySem PySem.Spec PyProof.Rows L2 Evl He NdefX PySem.W PySem.Calls
/-- what super() asks of the program -/
class Px (P : Program) : Prop where
  file : ((P.main.file : Str) == lawFile) = true
  top : (P.main.scope.names.lookup ("super" : Str)).isSome = false
/-- what the written part tells of such a def's cell and code object -/
structure CodeF (K : Frag) (f D cda cc : Addr) (params : Arguments) : Prop where
  fn : ∃ oc od fd osl, K.lookup f = some ⟨oc, od, .func fd, osl⟩ ∧ fd.params = params
  code : ∃ ccl cdd vs ccs tf, K.lookup cda = some ⟨ccl, cdd, .fields vs, ccs⟩ ∧ vs[2]? = some (.str lawFile tf)
  cell : ∃ cl cld csl, K.lookup cc = some ⟨cl, cld, .cell (some (.ref D)), csl⟩
  hD : (clsIn K D).isSome = true
/-- the frame of such a def -/
structure SupC (f cda cc : Addr) (X : Cx) : Prop where
  fu : X.env.func = some f
  co : X.env.code = .ref cda
  cl : X.env.cells.lookup ("__class__" : Str) = some cc
  it : interactive X.env = false
abbrev nfOf (qual : Str) (params : Arguments) (body : List Stmt) (scope : Scope) (cc cda : Addr) : NF := ⟨"__init__", qual, params, body, scope, [("__class__", cc)], cda⟩
section
variable {P : Program} {w : World} {K : Frag} {mg : Str → Option Value} {base : Heap} {f D C x cda cc : Addr} {qual : Str} {params : Arguments} {body : List Stmt} {scope : Scope} {N ps : List Str} {k : Nat} {sp : Sp} {X : Cx} {pins : List (Addr × Obj)} {σ : L2.St} {H : Hp} {s : Shared}
theorem fn_sup (U : SupF K f D qual params body scope) (S : NScope N ps ["__class__"] scope)
    (hb : ∀ (doc pm : Value) (an : Option Addr) (cda cc : Addr) (ct : Value) (us : List Value), us.length = ps.length → bindArgs (fnX "__init__" qual params body scope [("__class__", cc)] .none .none doc pm an (.ref cda) ct) ⟨us, []⟩ = pure (ps.zip us))
    (len : ∀ vs H Q E, sp vs H Q E → vs.length = ps.length)
    (hbody : ∀ (cda cc : Addr) (X : Cx) (H : Hp) (vs : List V) (Q : VK) (E : XK) (s1 : Shared), CodeF K f D cda cc params → Bx P w K mg base N scope k X → SupC f cda cc X → sp vs H Q E → Inv X [] (startF N vs [none]) H s1 →
      _root_.PySem.wpAt (model X.prog X.w) X.A (.func body X.env) (execs body X.env) (SP X [] { nx := fun _ H' => Q .non H', rt := Q }) X.xe s1) :
    FnR P w K mg base CX0 (k + 1) f sp := by
  intro A outer s H us vs Q E hr e0 r hsp
  obtain ⟨oc, od, doc, pm, an, cda, ct, osl, cc, ccl, cdd, cvs, ccs, tf, cl, cld, csl, lk, hcd, hcda, hv, hcc⟩ := U.ex
  have hl := len _ _ _ _ hsp
  have KX : K.In s.heap := e0.mod.kin.keeps fun b o e => (e0.bs b o e).1
  have lim : s.heap.NoLimit := e0.mod.nolimit.keeps fun b o e => (e0.bs b o e).1
  refine ks_codeAny_call_defAt (body := body) (binds := ps.zip us) hr.depth (KX _ _ lk) rfl lim (codeRec_of KX hcd) rfl (BindsTo.of_eq (hb doc pm an cda cc ct us (by rw [← r.length]; exact hl))) S.nocell (fun ⟨n, _⟩ hy => S.par n (List.of_mem_zip hy).1) (fun h₁ hns kp => ?_) S.co S.gen S.kind
  have Cl : CellsAt (nfOf qual params body scope cc cda).cl ["__class__"] [none] s.heap H := by
    have hlk : ∀ y c, List.lookup y [(("__class__" : Str), cc)] = some c → y = "__class__" ∧ c = cc := fun y c h => by
      by_cases hy : y = "__class__"
      · subst hy
        simp [List.lookup] at h
        exact ⟨rfl, h.symm⟩
      · have : (y == ("__class__" : Str)) = false := by simpa using hy
        simp [List.lookup, this] at h
    refine ⟨rfl, fun y c h => ?_, fun a b c h1 h2 => (hlk _ _ h1).1.trans (hlk _ _ h2).1.symm, fun i y hi => ?_⟩
    · obtain ⟨_, rfl⟩ := hlk y c h
      exact ⟨(e0.bs _ _ (e0.mod.kin _ _ hcc)).2, _, ⟨_, KX _ _ hcc, rfl⟩⟩
    · cases i with
      | zero =>
        have : _ = _ := Option.some.inj hi
        subst this
        exact ⟨cc, by simp [List.lookup], fun v hv => by cases hv⟩
      | succ i => simp at hi
  have I := inv_startN (CX := CX0) (F := nfOf qual params body scope cc cda) (f := f) (E := E) (tk := s.toks + (ps.zip us).length) S hr.hd e0 hl r Cl hns kp
  refine ks_wpAt_mono (hbody cda cc (ncx CX0 P w K mg base N (nfOf qual params body scope cc cda) f A outer s H E) H vs Q E _ ⟨⟨oc, od, _, osl, lk, rfl⟩, ⟨ccl, cdd, cvs, ccs, tf, hcda, hv⟩, ⟨cl, cld, csl, hcc⟩, U.hD⟩ ⟨rfl, rfl, rfl, rfl, rfl, rfl, S.nd, rfl, rfl, hr.deeper _⟩ ⟨rfl, rfl, by show List.lookup ("__class__" : Str) [(("__class__" : Str), cc)] = some cc; simp [List.lookup], by
    unfold interactive
    simp only [show (ncx CX0 P w K mg base N (nfOf qual params body scope cc cda) f A outer s H E).env.scope.kind = .function from S.kind]
    rfl⟩ hsp I) (fun fl s' hs => ?_) fun e s' hs => hs
  have fin : ∀ {σ' : L2.St} {H' : Hp} {v : V} {u : Value}, Inv (ncx CX0 P w K mg base N (nfOf qual params body scope cc cda) f A outer s H E) [] σ' H' s' → L2.RelV v u → Q v H' → CE outer P w H s Q u s' :=
    fun {σ' H' v u} J rv q => ⟨v, H', J.os, J.bare, J.base, J.hok, rv, q⟩
  cases fl with
  | ret u =>
    obtain ⟨v, σ', H', J, rv, q⟩ := hs
    exact fin J rv q
  | next =>
    obtain ⟨σ', H', J, q⟩ := hs
    exact fin (v := V.non) (u := Value.none) J rfl q
  | brk =>
    obtain ⟨_, _, _, q⟩ := hs
    exact False.elim q
  | cont =>
    obtain ⟨_, _, _, q⟩ := hs
    exact False.elim q
/-- super() -/
theorem sup_obj [Q : Px X.prog] {ar : Arg} {ox : Obj} {p0 p1 : Pos} {body : List Stmt} {whole : Sem Value} (F : CodeF X.K f D cda cc params) (I : Inv X pins σ H s) (hm : X.mg "super" = none) (hfu : X.env.func = some f) (hco : X.env.code = .ref cda) (hcl : X.env.cells.lookup ("__class__" : Str) = some cc)
    (hks : X.env.scope.names.lookup ("super" : Str) = some .globalImplicit) (hkc : X.env.scope.names.lookup ("__class__" : Str) = some .free) (hp : (params.posonlyargs ++ params.args).head? = some ar) (hN : X.N[0]? = some ar.arg) (hs : σ[0]? = some (some (.ref x))) (hka : X.env.scope.names.lookup ar.arg = some .local)
    (hx : s.heap.get? x = some ox) (hxc : ox.cls = .ref C) (hnc : ∀ c, ox.data ≠ .cls c) (hsub : mroIn X.K C (.ref D) = some true) :
    _root_.PySem.wpAt (model X.prog X.w) X.A (.func body X.env) (attributeBase (.Call (.Name "super" p0) [] [] p1) "__init__" X.env whole) (fun v s' => ∃ so, v = .ref so ∧ Inv X ((so, ks_superObj D x C) :: pins) σ H s') X.xe s := by
  obtain ⟨oc, od, fd, osl, hf, hfp⟩ := F.fn
  obtain ⟨ccl, cdd, vs, ccs, tf, hcda, hv⟩ := F.code
  obtain ⟨cl, cld, csl, hcc⟩ := F.cell
  obtain ⟨cdD, hD⟩ := Option.isSome_iff_exists.mp F.hD
  have KX := I.kIn
  obtain ⟨oD, hD1, hD2⟩ : ∃ oD, s.heap.get? D = some oD ∧ oD.data = .cls cdD := by
    unfold clsIn at hD
    split at hD
    · rename_i c d cd' sl ho
      cases hD
      exact ⟨_, KX _ _ ho, rfl⟩
    · cases hD
  obtain ⟨mb, b1, b2⟩ := I.mod.blt
  obtain ⟨m, hns, hlook⟩ := I.loc
  obtain ⟨u, ru, hl⟩ := hlook 0 ar.arg (.ref x) hN hs (.inl hka)
  obtain rfl : u = Value.ref x := ru
  have hmx : m ar.arg = some (.ref x) := by
    rcases hl with ⟨_, h⟩ | ⟨h, _⟩
    · exact h
    · have hk : X.env.kindOf ar.arg = some .local := hka
      rw [hk] at h
      rcases h with h | h <;> cases h
  have hg := I.mod.glob.keeps I.bk
  have hb := b1.keeps I.bk
  have hglob := I.ok.glob
  have hblt := I.ok.blt
  have hkind := I.ok.kind
  obtain ⟨hh, g, d, t, os⟩ := s
  refine ks_wpAt_super_base (env := X.env) hks hkc (by decide) hfu (KX _ _ hf) rfl (by rw [hfp]; exact hp) hco (KX _ _ hcda) rfl hv Q.file Q.top ?_
  refine ks_loadName_global hkind hks (loadGlobal_builtin (by rw [hglob]; exact hg) hm (by rw [hblt]; exact hb) ((b2 "super" (by decide)).trans (show bootBuiltins "super" = some (.type "super") by rfl)) ⟨rfl, ?_⟩)
  refine wpAny_loadName_free hkind hkc hcl ⟨_, KX _ _ hcc, rfl⟩ ?_
  refine wpAny_loadName_local hkind hka hns hmx ?_
  refine ks_wpAny_isType_cls hD1 hD2 ⟨rfl, ?_⟩
  exact ks_wpAny_call_super hD1 hD2 hx hxc hnc (looks_mroIn KX hsub) fun h' e k => ⟨_, rfl, ClX.pin_new I k (Nat.le_refl _) e fun v z => by cases z⟩
end
end Fk
set_option maxRecDepth 100000
set_option maxHeartbeats 2000000
namespace Fk
open PySem PySem.Spec PyProof.Rows L2 Evl He NdefX PySem.W PySem.Calls
section
variable {P : Program} {w : World} {K : Frag} {mg : Str → Option Value} {base : Heap} {f f2 D C x cda cc : Addr} {params : Arguments} {body rest : List Stmt} {k : Nat} {sp : Sp} {X : Cx} {pins : List (Addr × Obj)} {σ : L2.St} {H : Hp} {s : Shared} {e callE : Expr} {es : List Expr} {pos apos p0 p1 epos : Pos} {D' : Ends} {Qv : VK}
/-- the body: the call of super().__init__, then the rest -/
theorem body_sup (h : _root_.PySem.wpAt (model X.prog X.w) X.A (.func body X.env) (eval callE X.env) (EP X [] σ Qv) X.xe s) (hr : ∀ v H', Qv v H' → wSs X rest D' σ H') (hi : interactive X.env = false := by rfl) (hs : swapsWith callE none epos.line X.env = pure false := by rfl) :
    _root_.PySem.wpAt (model X.prog X.w) X.A (.func body X.env) (execs (.Expr callE epos :: rest) X.env) (SP X [] D') X.xe s :=
  ks_wpAt_execs_cons (ks_wpAt_Expr_any (ks_wpAt_mono h (fun v s' ⟨v', H', I, _, q⟩ => wpAt_of_wpAny (hr v' H' q [] s' I)) fun _ _ z => z) hi hs)
/-- super().__init__(e, ..), a def of a class above -/
theorem sup_meth [Q : Px X.prog] {ar : Arg} {ox : Obj} {pl : Sem Bool} (F : CodeF X.K f D cda cc params) (I : Inv X [] σ H s) (hm : X.mg "super" = none) (hfu : X.env.func = some f) (hco : X.env.code = .ref cda) (hcl : X.env.cells.lookup ("__class__" : Str) = some cc)
    (hks : X.env.scope.names.lookup ("super" : Str) = some .globalImplicit) (hkc : X.env.scope.names.lookup ("__class__" : Str) = some .free) (hp : (params.posonlyargs ++ params.args).head? = some ar) (hN : X.N[0]? = some ar.arg) (hs : σ[0]? = some (some (.ref x))) (hka : X.env.scope.names.lookup ar.arg = some .local)
    (hx : s.heap.get? x = some ox) (hxc : ox.cls = .ref C) (hnc : ∀ c, ox.data ≠ .cls c) (hsub : mroIn X.K C (.ref D) = some true) (third : nsIn X.K cStatics "thirdparty.any" = some none)
    (hm2 : ks_superIn X.K C D "__init__" = some (some (.ref f2))) (ht : typeIn X.K (.ref f2) = some (.type "function")) (hfn : fnIn X.K f2 = true) {j : Nat} (Fn : FnR X.prog X.w X.K X.mg X.base CX0 j f2 sp) (hr : Room j X.A) (ha : wA X (e :: es) σ H fun vs H1 => sp (.ref x :: vs) H1 Qv E0)
    (he : eval (.Call (.Attribute (.Call (.Name "super" p0) [] [] p1) "__init__" apos) (e :: es) [] pos) X.env = (do
      let ov ← attributeBase (.Call (.Name "super" p0) [] [] p1) "__init__" X.env (eval (.Call (.Name "super" p0) [] [] p1) X.env)
      standAt apos.atName
      let (f, first) ← holding [ov] (getMethod ov "__init__" pl)
      callWith pos f first (backTo pos (starEach (e :: es) X.env)) []))
    (hst : starEach (e :: es) X.env = (false, eval e X.env) :: starEach es X.env) (hpl : (backTo pos (starEach es X.env)).any (·.1) = false) :
    _root_.PySem.wpAt (model X.prog X.w) X.A (.func body X.env) (eval (.Call (.Attribute (.Call (.Name "super" p0) [] [] p1) "__init__" apos) (e :: es) [] pos) X.env) (EP X [] σ Qv) X.xe s := by
  have hxC : x ≠ C := fun z => by
    unfold ks_superIn at hm2
    cases hc : clsIn X.K C with
    | none =>
      rw [hc] at hm2
      cases hm2
    | some cd =>
      unfold clsIn at hc
      split at hc
      · rename_i c d cd' sl ho
        have := I.kIn _ _ ho
        rw [← z, hx] at this
        cases this
        exact hnc _ rfl
      · cases hc
  refine ks_wpAt_MethodCall (pl := pl) (ks_wpAt_mono (sup_obj F I hm hfu hco hcl hks hkc hp hN hs hka hx hxc hnc hsub) (fun v s1 ⟨so, hv, I1⟩ => ?_) fun _ _ z => z) he
  subst hv
  have KX := I1.kIn
  cases hc : clsIn X.K C with
  | none => unfold ks_superIn at hm2; rw [hc] at hm2; cases hm2
  | some cd =>
    unfold ks_superIn at hm2
    rw [hc] at hm2
    obtain ⟨of, hof, hofc⟩ : ∃ of, s1.heap.get? f2 = some of ∧ of.cls = .type "function" := by
      have ht' : (X.K.lookup f2).map (·.cls) = some (.type "function") := ht
      cases z : X.K.lookup f2 with
      | none => rw [z] at ht'; cases ht'
      | some of => rw [z] at ht'; exact ⟨of, KX _ _ z, Option.some.inj ht'⟩
    have hso := ClX.pin_at I1
    obtain ⟨hh, g, d, t, os⟩ := s1
    refine ks_wpAny_getMethod_super hso (looks_opaque KX third) (l₀ := cd.mro) (fun A Q E s k q => wpAny_bind ((looks_clsIn KX hc) A _ E s k (wpAny_pure q))) rfl KX hm2 hof hofc hxC (by decide) ?_
    have I2 := ClX.pin_new (t' := t + 1) (o := methodObj (.ref f2) (.ref x)) (h' := hh.push (methodObj (.ref f2) (.ref x))) (ClX.unpin I1) (fun b o e => Heap.get?_push_of_some _ e) (Nat.le_refl _) (Heap.get?_push_size hh rfl) (fun v z => by cases z)
    refine ClX.callwith_cm (g := f2) (C := x) I2 (ClX.base_none (ClX.unpin I1) (Nat.le_refl _)) hfn (thn (pa_w.run pos _ _ σ H _ I2 ha) fun us s3 ⟨vs, H2, I3, rv, q2⟩ => ⟨⟨ClX.pin_at I3, I3.kIn⟩, ?_⟩) hst hpl
    exact ClX.run_cm (C := x) Fn hr pass0 I3 rv q2
end
/-! ### FreeAnswer.__init__, Free, Barred -/
section
variable {P : Program} {w : World} {K : Frag} {mg : Str → Option Value} {base : Heap}
def spOne (C : Addr) (a : Str) : Sp := fun vs H Q _ => ∃ (x dx : Addr) (fs : List (Str × V)) (v : V), vs = [.ref x, v] ∧ H x = some (.ins C dx fs) ∧ fs.length ≤ 900 ∧ ∀ H', ExB x H H' → H' x = some (.ins C dx (putF a v fs)) → Q .non H'
theorem fn_FreeAnswer [T : Tx K mg] : FnR P w K mg base CX0 1 (ma K (ga K "FreeAnswer") "__init__") (spOne (ga K "Barred") "rule") := by
  obtain ⟨fd, F⟩ := f_FreeAnswer_init (K := K) (mg := mg)
  refine FnOk.raw0 (fn_by F sc_FreeAnswer_init ?_ ?_) (F.bindsN fun _ _ _ _ _ _ us hl => match us, hl with | [_, _], _ => rfl)
  · rintro vs H Q E ⟨x, dx, fs, v, rfl, _⟩
    rfl
  · rintro X vs H Q E B _ ⟨x, dx, fs, v, rfl, hx, hz, hq⟩
    refine (show SS X _ _ _ H from ?_) H (Ex.refl H)
    exact ss_fld hx (ee_var 0) (ee_var 1) (tcls "Barred") (tfld "Barred" "rule") (by omega) fun H1 e1 hx1 => ss_nil fun H3 e3 => hq H3 (fun b o hb h => e3 _ _ (e1 b o hb h)) (e3 _ _ hx1)
def R_Free : List V → Hp → (List (Str × V) → Hp → Prop) → Prop := fun vs H T => ∃ v : V, vs = [v] ∧ ∀ H', Ex H H' → T [("rule", v)] H'
theorem ma_Free [T : Tx K mg] : Ma P w K mg base 1 "Free" (ga K "Free") (spI (ga K "Free") R_Free) := by
  obtain ⟨fd, F⟩ := f_Free_init (K := K) (mg := mg)
  refine ⟨⟨_, FnOk.raw0 (ok_init F sc_FreeAnswer_init ?_ ?_) (F.bindsN fun _ _ _ _ _ _ us hl => match us, hl with | [_, _], _ => rfl), tmak "Free", tglo "Free"⟩⟩
  · rintro vs H T ⟨v, rfl, _⟩
    rfl
  · rintro X p dx vs H0 H T D B _ h0 e0 hp ⟨v, rfl, ht⟩ hd
    exact ss_fld hp (ee_var 0) (ee_var 1) (tcls "Free") (tfld "Free" "rule") (by simp) fun H1 e1 hx1 => ss_nil fun H3 e3 => hd _ _ H3 ((e1.ex e3).to e0 h0) (e3 _ _ hx1) (ht _ ((e1.ex e3).to e0 h0))
def brF (v h l : V) : List (Str × V) := [("rule", v), ("heap", h), ("left", l)]
def R_Barred : List V → Hp → (List (Str × V) → Hp → Prop) → Prop := fun vs H T => ∃ v h l : V, vs = [v, h, l] ∧ ∀ H', Ex H H' → T (brF v h l) H'
theorem sc_Barred : NScope N_Barred_init ["self", "rule", "heap", "left"] ["__class__"] (defScope s_Barred_init) := nscope_by (by decide +kernel)
theorem ma_Barred [T : Tx K mg] [Q : Px P] : Ma P w K mg base 3 "Barred" (ga K "Barred") (spI (ga K "Barred") R_Barred) := by
  obtain ⟨b1, b2, b3, b4⟩ := b_Barred (K := K) (mg := mg)
  refine ⟨⟨_, fn_sup (k := 2) u_Barred sc_Barred (fun doc pm an cda cc ct us h => match us, h with | [_, _, _, _], _ => rfl) ?_ ?_, tmak "Barred", tglo "Barred"⟩⟩
  · rintro vs H Q E ⟨x, dx, args, H0, T0, rfl, _, _, _, ⟨v, h, l, rfl, _⟩, _⟩
    rfl
  · rintro cda cc X H vs Qv E s1 F B C ⟨x, dx, args, H0, T0, rfl, h0, e0, hx, ⟨v, h, l, rfl, ht⟩, hq⟩ I
    obtain ⟨rfl, rfl, rfl, rfl, rfl, qN, _, qs, _, hr⟩ := id B
    obtain ⟨od, J⟩ := look_at I hx
    have sc : ∀ {y : Str} {z : NameKind}, (defScope s_Barred_init).names.lookup y = some z → X.env.scope.names.lookup y = some z := fun h => by
      rw [qs]
      exact h
    refine body_sup (sup_meth (sp := spOne (ga X.K "Barred") "rule") (Qv := fun v' H' => ExB x H H' ∧ H' x = some (.ins (ga X.K "Barred") dx [("rule", v)])) (ox := instObj (ga X.K "Barred") dx) F I (tfre "super") C.fu C.co C.cl (sc (by decide +kernel)) (sc (by decide +kernel)) rfl (by rw [qN]; rfl) rfl (sc (by decide +kernel)) J.at_ rfl (fun c z => by cases z) b4 t_third b1 b2 b3 fn_FreeAnswer (hr.mono (by decide)) ?_ rfl rfl rfl) (fun v' H' ⟨hb, hx'⟩ => ?_) C.it
    · exact (show EA X _ _ H [v] from ea_cons (ee_var 1) ea_nil) H (Ex.refl H) _ fun H1 e1 => ⟨x, dx, [], v, rfl, e1 _ _ hx, by simp, fun H' hb hx' => ⟨fun b o hbx hbo => hb b o hbx (e1 _ _ hbo), hx'⟩⟩
    · refine (show SS X _ _ _ H' from ?_) H' (Ex.refl H')
      refine ss_fld hx' (ee_var 0) (ee_var 2) (tcls "Barred") (tfld "Barred" "heap") (by simp) fun H1 b1 hx1 => ?_
      have hx1 : H1 x = some (.ins (ga X.K "Barred") dx [("rule", v), ("heap", h)]) := hx1
      refine ss_fld hx1 (ee_var 0) (ee_var 3) (tcls "Barred") (tfld "Barred" "left") (by simp) fun H2 b2 hx2 => ss_nil fun H3 e3 => ?_
      have b3 : ExB x H H3 := fun b o hbx hbo => e3 _ _ (b2 b o hbx (b1 b o hbx (hb b o hbx hbo)))
      exact hq _ H3 (b3.to e0 h0) (e3 _ _ hx2) (ht H3 (b3.to e0 h0))
end
end Fk
set_option maxRecDepth 100000
set_option maxHeartbeats 2000000
namespace Fk
open PySem PySem.Spec PyProof.Rows L2 Evl He
open PySem (Fin)
/-! ### one segment of a generator: up to the first item that it hands out -/
/-- what is wanted of the item; what comes behind it is not looked at -/
def YF (Pv : Value → Shared → Prop) : Protocol := fun _ _ v s _ => Pv v s
def nvr : Value → Shared → Prop := fun _ _ => False
section
variable {prog : Program} {w : World} {A : Around} {R : GenEnd} {Y : Protocol} {n : Nat} {s₀ : Shared} {fs : List Frame} {s : Shared} {env : Env} {c : Code} {K : Flow → Sem PySem.Fin} {J : Value → Sem PySem.Fin} {gd : Bool → Bool} {lv : List Value → List Value}
theorem seg_If {t : Expr} {th el : List Stmt} {pos : Pos}
    (h : wpAny (model prog w) (A.over c fs) (isTrue t env (eval t env)) (fun b s' => if b = true then Seg (model prog w) A R Y n s₀ c ((execs th env).wrap K J gd lv) fs s' else Seg (model prog w) A R Y n s₀ c ((execs el env).wrap K J gd lv) fs s') nvr s) :
    Seg (model prog w) A R Y n s₀ c ((exec (.If t th el pos) env).wrap K J gd lv) fs s := by
  rw [exec_If]
  refine seg_bind_wrap (wpAny_standAt (seg_bind_wrap (wpAny_mono h (fun b s' hb => ?_) fun _ _ z => z.elim)))
  cases b with
  | true =>
    rw [if_pos rfl] at hb ⊢
    exact hb
  | false =>
    rw [if_neg Bool.false_ne_true] at hb ⊢
    exact hb
theorem seg_forLoop {target : Expr} {it : Value} {body orelse : List Stmt}
    (h : wpAny (model prog w) (A.over (.forLoop target it body orelse env) fs) (pyNext it) (fun r s1 => match r with
      | none => Seg (model prog w) A R Y n s₀ (.forLoop target it body orelse env) (.pure (.again (.block orelse env))) fs s1
      | some v => wpAny (model prog w) (A.over (.forLoop target it body orelse env) fs) (letOwnedTupleGo target it v) (fun _ s2 => wpAny (model prog w) (A.over (.forLoop target it body orelse env) fs) (assign target env v) (fun _ s3 =>
        Seg (model prog w) A R Y n s₀ (.forLoop target it body orelse env) ((execs body env).wrap (fun f => match f with
            | .next | .cont => .pure (.again (.forLoop target it body orelse env))
            | .brk => .pure (.done .next)
            | .ret v => .pure (.done (.ret v))) (fun e => (do noteFrame e env; theTreesLotGoes e : Sem Unit).wrap (fun _ => .raise e) .raise id id) id id) fs s3) nvr s2) nvr s1) nvr s) :
    Seg (model prog w) A R Y n s₀ (.forLoop target it body orelse env) ((model prog w).den (.forLoop target it body orelse env)) fs s := by
  show Seg _ A R Y n s₀ _ ((forTurn target it body orelse env).onRaise (fun x => do noteFrame x env; theTreesLotGoes x)) fs s
  unfold forTurn
  rw [Sem.onRaise_eq_wrap]
  refine seg_bind_wrap (wpAny_standAt (seg_bind_wrap (wpAny_onRaise (wpAny_mono h (fun r s1 h1 => ?_) fun _ _ z => z.elim))))
  cases r with
  | none => exact h1
  | some v =>
    refine seg_bind_wrap (wpAny_mono h1 (fun _ s2 h2 => ?_) fun _ _ z => z.elim)
    refine seg_bind_wrap (wpAny_mono h2 (fun _ s3 h3 => ?_) fun _ _ z => z.elim)
    rw [Sem.bind_eq_wrap', Sem.wrap_wrap]
    rw [Sem.wrap_congr (execs body env) _ _ (K' := fun f => match f with
            | .next | .cont => .pure (.again (.forLoop target it body orelse env))
            | .brk => .pure (.done .next)
            | .ret v => .pure (.done (.ret v))) (H' := (fun e => (do noteFrame e env; theTreesLotGoes e : Sem Unit).wrap (fun _ => .raise e) .raise id id))
        (fun f => by cases f <;> rfl)
        (fun e => by first | exact Sem.bind_eq_wrap _ _ | (show (do noteFrame e env; theTreesLotGoes e : Sem Unit).bind (fun _ => .raise e) = _; rw [Sem.bind_eq_wrap]))]
    exact h3
theorem seg_block0 (h : Seg (model prog w) A R Y n s₀ (.block [] env) (leafOf (.ok .next)) fs s) : Seg (model prog w) A R Y n s₀ c (.pure (.again (.block [] env))) fs s := seg_again rfl h
end
end Fk
set_option maxRecDepth 100000
set_option maxHeartbeats 2000000
namespace Fk
open PySem PySem.Spec PyProof.Rows L2 Evl He GenW
/-- where the generator's code stands -/
structure GCx (X : Cx) (A : Around) (c : Code) (fs : List Frame) (gd : Bool → Bool) : Prop where
  over : A.over c fs = X.A
  split : splitAtGen fs = none
  guard : fs.any Frame.guarded = false
  gd : gd false = false
abbrev SegG (X : Cx) (A : Around) (R : GenEnd) (Pv : Value → Shared → Prop) (s₀ : Shared) (c : Code) (t : Sem PySem.Fin) (fs : List Frame) (s : Shared) : Prop := Seg (model X.prog X.w) A R (YF Pv) 1 s₀ c t fs s
/-- a statement, statements of a generator: it runs to D, or hands out something of which Y holds -/
def gS1 (X : Cx) (st : Stmt) (Y : V → Hp → Prop) (D : Ends) (σ : L2.St) (H : Hp) : Prop := ∀ (pins : List (Addr × Obj)) (s s₀ : Shared) (A : Around) (R : GenEnd) (Pv : Value → Shared → Prop) (c : Code) (fs : List Frame) (K : Flow → Sem PySem.Fin) (J : Value → Sem PySem.Fin) (gd : Bool → Bool) (lv : List Value → List Value),
  GCx X A c fs gd → (∀ f s', SP X pins D f s' → SegG X A R Pv s₀ c (K f) fs s') → (∀ pins' σ' H' s' x v, Inv X (pins ++ pins') σ' H' s' → RelV x v → Y x H' → Pv v s') → Inv X pins σ H s → SegG X A R Pv s₀ c ((exec st X.env).wrap K J gd lv) fs s
def gSs (X : Cx) (sts : List Stmt) (Y : V → Hp → Prop) (D : Ends) (σ : L2.St) (H : Hp) : Prop := ∀ (pins : List (Addr × Obj)) (s s₀ : Shared) (A : Around) (R : GenEnd) (Pv : Value → Shared → Prop) (c : Code) (fs : List Frame) (K : Flow → Sem PySem.Fin) (J : Value → Sem PySem.Fin) (gd : Bool → Bool) (lv : List Value → List Value),
  GCx X A c fs gd → (∀ f s', SP X pins D f s' → SegG X A R Pv s₀ c (K f) fs s') → (∀ pins' σ' H' s' x v, Inv X (pins ++ pins') σ' H' s' → RelV x v → Y x H' → Pv v s') → Inv X pins σ H s → SegG X A R Pv s₀ c ((execs sts X.env).wrap K J gd lv) fs s
/-- no exception leaves the code here -/
class Nx (X : Cx) : Prop where
  no : ∀ e s, ¬ X.xe e s
section
variable {X : Cx} {st : Stmt} {rest th el body : List Stmt} {Y : V → Hp → Prop} {D : Ends} {σ : L2.St} {H : Hp} {e c iter tg : Expr} {pos yp : Pos}
theorem gs_nil (h : D.nx σ H) : gSs X [] Y D σ H := fun pins s s₀ A R Pv c fs K J gd lv g k y I => seg_execs_nil (k .next s ⟨σ, H, I, h⟩)
theorem gs_cons (h : gS1 X st Y { D with nx := fun σ' H' => gSs X rest Y D σ' H' } σ H) : gSs X (st :: rest) Y D σ H := fun pins s s₀ A R Pv c fs K J gd lv g k y I =>
  seg_execs_cons (h pins s s₀ A R Pv c fs _ J gd lv g (fun f s' q => by
    cases f with
    | next =>
      obtain ⟨σ', H', I', q⟩ := q
      exact q pins s' s₀ A R Pv c fs K J gd lv g k y I'
    | brk => exact k .brk s' q
    | cont => exact k .cont s' q
    | ret u => exact k (.ret u) s' q) y I)
theorem g1_plain [N : Nx X] (h : wS X st D σ H) : gS1 X st Y D σ H := fun pins s s₀ A R Pv c fs K J gd lv g k y I => by
  refine seg_wrap ?_
  rw [g.over]
  exact wpAny_mono (h pins s I) (fun f s' q => k f s' q) fun x s' hx => (N.no x s' hx).elim
theorem gs_plain [N : Nx X] (h : wSs X rest D σ H) : gSs X rest Y D σ H := fun pins s s₀ A R Pv c fs K J gd lv g k y I => by
  refine seg_wrap ?_
  rw [g.over]
  exact wpAny_mono (h pins s I) (fun f s' q => k f s' q) fun x s' hx => (N.no x s' hx).elim
theorem g1_if [N : Nx X] (h : wT X c σ H fun b H1 => if b = true then gSs X th Y D σ H1 else gSs X el Y D σ H1) : gS1 X (.If c th el pos) Y D σ H := fun pins s s₀ A R Pv cc fs K J gd lv g k y I => by
  refine seg_If ?_
  rw [g.over]
  refine wpAny_mono (h pins s I) (fun b s' ⟨H1, I1, q⟩ => ?_) fun x s' hx => (N.no x s' hx).elim
  cases b with
  | true =>
    rw [if_pos rfl] at q ⊢
    exact q pins s' s₀ A R Pv cc fs K J gd lv g k y I1
  | false =>
    rw [if_neg Bool.false_ne_true] at q ⊢
    exact q pins s' s₀ A R Pv cc fs K J gd lv g k y I1
theorem g1_yield [N : Nx X] (h : wE X e σ H Y) (hco : X.env.scope.isCoroutine = false) (hi : interactive X.env = false) : gS1 X (.Expr (.Yield (some e) yp) pos) Y D σ H := fun pins s s₀ A R Pv cc fs K J gd lv g k y I => by
  refine seg_Expr_Yield g.split g.gd g.guard ?_ hco hi
  rw [g.over]
  refine wpAny_mono (h pins s I) (fun v s' ⟨x, H1, I1, rx, q⟩ kap hk => ?_) fun x s' hx => (N.no x s' hx).elim
  exact y [] σ H1 s' x v (by rw [List.append_nil]; exact I1) rx q
theorem gcx_loop {A : Around} {c c' : Code} {fs : List Frame} {gd : Bool → Bool} {k : Result → Sem PySem.Fin} {l kp : List Value} {p : Pos} (g : GCx X A c fs gd) (hw : c'.weight = 0) (hu : c'.cUnits = 0) : GCx X A c' (.ret k none (gd false) l c p kp :: fs) id where
  over := (over_loop hw hu).trans g.over
  split := by
    show (splitAtGen fs).map _ = none
    rw [g.split]; rfl
  guard := by
    show (gd false || fs.any Frame.guarded) = false
    rw [g.gd, g.guard]; rfl
  gd := rfl
theorem g1_for [N : Nx X] {wi : TI} {g : TG} (hc : X.calm = true) (hi : PI X tg iter wi) (hg : PG X tg g)
    (h : wi σ H fun J H1 => ∃ W : Nat → Nat → L2.St → Hp → Prop, (∃ m, W 0 m σ H1) ∧ ∀ i m σ H, W i m σ H →
      (J.stop i H ∧ D.nx σ H) ∨ (J.go i H ∧ ∃ Nn : L2.St → Hp → Prop, (∀ σ' H', Nn σ' H' → ∃ m', m' < m ∧ W (i + 1) m' σ' H') ∧ ∀ x H', J.yld i H x H' → g x σ H' fun σ2 H2 => gSs X body Y { D with nx := Nn, ct := Nn, bk := D.nx } σ2 H2))
    (hs : ∀ x, foldedSetIterable iter X.env x = pure x := by intro _; rfl) : gS1 X (.For tg iter body [] pos) Y D σ H := fun pins s s₀ A R Pv cc fs K J gd lv gc k y I => by
  rw [exec_For]
  refine seg_bind_wrap (wpAny_standAt (seg_bind_wrap ?_))
  rw [gc.over]
  refine wpAny_mono (hi.run pins s σ H _ I h) (fun v s1 h1 => ?_) fun x s' hx => (N.no x s' hx).elim
  refine seg_bind_wrap ?_
  rw [hs v, gc.over]
  refine wpAny_pure (seg_bind_wrap (wpAny_standAt (seg_bind_wrap ?_)))
  rw [gc.over]
  refine wpAny_holding (wpAny_mono h1 (fun itv s2 h2 => ?_) fun x s' hx => (N.no x s' hx).elim)
  obtain ⟨it, fp, tn, Jt, H2, e, I2, T, st2, f2, W, ⟨m0, w0⟩, turn⟩ := h2
  subst e
  have stat : ∀ {H' : Hp}, (∀ b ∈ fp, H' b = none) → ∀ b ∈ fp, FpOk X pins H' b := fun hn b hb => ⟨hn b hb, (f2 b hb).2⟩
  refine seg_call (c' := .forLoop tg (.ref it) body [] X.env) fun p => ?_
  have gl := fun (kk : Result → Sem PySem.Fin) => gcx_loop (X := X) (k := kk) (c' := .forLoop tg (.ref it) body [] X.env) (l := lv []) (kp := []) (p := p) gc rfl rfl
  have loop : ∀ (m i : Nat) (s3 : Shared) (σ3 : L2.St) (H3 : Hp), Inv X pins σ3 H3 s3 → tn i s3.heap → (∀ b ∈ fp, H3 b = none) → W i m σ3 H3 →
      SegG X A R Pv s₀ (.forLoop tg (.ref it) body [] X.env) ((model X.prog X.w).den (.forLoop tg (.ref it) body [] X.env))
        (.ret (fun r => ((match r with | .ok f => (.pure f : Sem Flow) | .error e => .raise e).onRaise (cameBack X.env)).wrap K J gd lv) none (gd false) (lv []) cc p [] :: fs) s3 := by
    intro m
    induction m using Nat.strongRecOn with
    | ind m ih =>
      intro i s3 σ3 H3 I3 st3 fr3 w3
      refine seg_forLoop ?_
      rw [(gl _).over]
      rcases turn i m σ3 H3 w3 with ⟨stop, qn⟩ | ⟨go, Nn, hN, step⟩
      · refine thn (T.done X rfl rfl rfl hc i pins s3 σ3 H3 nvr I3 (stat fr3) st3 stop) fun r s4 ⟨hr, I4⟩ => ?_
        subst hr
        exact seg_block0 (seg_leaf (.ok .next) (k .next s4 ⟨σ3, H3, I4, qn⟩))
      · refine thn (T.item X rfl rfl rfl hc i pins s3 σ3 H3 nvr I3 (stat fr3) st3 go) fun r s4 ⟨u, hr, h4⟩ => ?_
        subst hr
        refine thn h4 fun _ s5 ⟨x, H5, I5, r5, y5, st5, fr5⟩ => ?_
        have I5' := I5.pinned (stat fr5) (T.obj _ _ st5)
        refine wpAny_mono (hg.run _ s5 σ3 H5 x u _ I5' r5 (step x H5 y5)) (fun _ s6 ⟨σ6, H6, I6, q6⟩ => ?_) fun x s' hx => (N.no x s' hx).elim
        refine q6 (pins ++ pinsAt fp s5.heap) s6 s₀ A R Pv _ _ _ _ id id (gl _) (fun f s7 q7 => ?_) (fun pins' σ' H' s' x v I' rx hy => y (pinsAt fp s5.heap ++ pins') σ' H' s' x v (by rw [← List.append_assoc]; exact I') rx hy) I6
        have again : ∀ {σ7 : L2.St} {H7 : Hp}, Inv X (pins ++ pinsAt fp s5.heap) σ7 H7 s7 → Nn σ7 H7 → ∃ m', m' < m ∧ ∃ σ' H', Inv X pins σ' H' s7 ∧ tn (i + 1) s7.heap ∧ (∀ b ∈ fp, H' b = none) ∧ W (i + 1) m' σ' H' := fun {σ7 H7} I7 n7 => by
          obtain ⟨m', hm, w7⟩ := hN σ7 H7 n7
          refine ⟨m', hm, σ7, H7, I7.unpinned, T.keep _ _ _ st5 fun b hb o e => (I7.pin (b, o) (List.mem_append_right _ (List.mem_append_right _ (mem_pinsAt hb e)))).1, fun b hb => ?_, w7⟩
          obtain ⟨o, e, d⟩ := T.obj _ _ st5 b hb
          exact (I7.pin (b, o) (List.mem_append_right _ (List.mem_append_right _ (mem_pinsAt hb e)))).2.1
        cases f with
        | next =>
          obtain ⟨σ7, H7, I7, n7⟩ := q7
          obtain ⟨m', hm, σ', H', J7, t7, f7, w7⟩ := again I7 n7
          exact seg_again rfl (ih m' hm (i + 1) s7 σ' H' J7 t7 f7 w7)
        | cont =>
          obtain ⟨σ7, H7, I7, n7⟩ := q7
          obtain ⟨m', hm, σ', H', J7, t7, f7, w7⟩ := again I7 n7
          exact seg_again rfl (ih m' hm (i + 1) s7 σ' H' J7 t7 f7 w7)
        | brk =>
          obtain ⟨σ7, H7, I7, q7⟩ := q7
          exact seg_leaf (.ok .next) (k .next s7 ⟨σ7, H7, I7.unpinned, q7⟩)
        | ret v =>
          obtain ⟨x7, σ7, H7, I7, r7, q7⟩ := q7
          exact seg_leaf (.ok (.ret v)) (k (.ret v) s7 ⟨x7, σ7, H7, I7.unpinned, r7, q7⟩)
  exact loop m0 0 s2 σ H2 I2 st2 (fun b hb => (f2 b hb).1) w0
/-- while, one turn at most: the test fails, or the suite runs and does not come back -/
theorem g1_while1 [N : Nx X] {test : Expr} (h : wT X test σ H fun b H1 => if b = true then gSs X body Y { nx := fun _ _ => False, rt := D.rt } σ H1 else D.nx σ H1) : gS1 X (.While test body [] pos) Y D σ H := fun pins s s₀ A R Pv cc fs K J gd lv gc k y I => by
  refine seg_While fun p => ?_
  have gl := fun (kk : Result → Sem PySem.Fin) => gcx_loop (X := X) (k := kk) (c' := .whileLoop test body [] X.env) (l := lv []) (kp := []) (p := p) gc rfl rfl
  refine seg_whileLoop ?_
  rw [(gl _).over]
  refine wpAny_mono (h pins s I) (fun b s' ⟨H1, I1, q⟩ => ?_) fun x s' hx => (N.no x s' hx).elim
  cases b with
  | true =>
    rw [if_pos rfl] at q ⊢
    refine q pins s' s₀ A R Pv _ _ _ _ id id (gl _) (fun f s7 q7 => ?_) y I1
    cases f with
    | next =>
      obtain ⟨_, _, _, n7⟩ := q7
      exact False.elim n7
    | cont =>
      obtain ⟨_, _, _, n7⟩ := q7
      exact False.elim n7
    | brk =>
      obtain ⟨_, _, _, n7⟩ := q7
      exact False.elim n7
    | ret v => exact seg_leaf (.ok (.ret v)) (k (.ret v) s7 q7)
  | false =>
    rw [if_neg Bool.false_ne_true] at q ⊢
    exact seg_execs_nil (seg_leaf (.ok .next) (k .next s' ⟨σ, H1, I1, q⟩))
end
end Fk
set_option maxRecDepth 100000
set_option maxHeartbeats 2000000
namespace Fk
open PySem PySem.Spec PyProof.Rows L2 Evl He GenW
/-! ### a generator def: what its first turn does -/
/-- the first turn ends: nothing handed out (Dn), or an item (Y) -/
def GFin (P : Program) (w : World) (outer : List Env) (H : Hp) (s : Shared) (Dn : Hp → Prop) (s1 : Shared) : Prop := ∃ H', s1.os = s.os ∧ AllBare s1.gens ∧ Un (frs outer) [] H H' s.heap s1.heap ∧ HOk P w H' s1.heap ∧ Dn H'
def GOut (P : Program) (w : World) (outer : List Env) (H : Hp) (s : Shared) (Y : V → Hp → Prop) (v : Value) (s1 : Shared) : Prop := ∃ x H', L2.RelV x v ∧ s1.os = s.os ∧ AllBare s1.gens ∧ Un (frs outer) [] H H' s.heap s1.heap ∧ HOk P w H' s1.heap ∧ Y x H'
def GR1 (F : Shared → Prop) : GenEnd := fun _ _ r s1 => ((r = .ok (.ret .none) ∨ r = .ok .next) ∧ F s1) ∨ ∃ e, r = .error e ∧ nvr e s1
def GMade1 (P : Program) (w : World) (k : Nat) (outer : List Env) (H : Hp) (s : Shared) (Y : V → Hp → Prop) (Dn : Hp → Prop) (u : Value) (s' : Shared) : Prop :=
  ∃ (a : Addr) (g : Nat) (c : Code), u = .ref a ∧ s'.heap.IsGen a g ∧ s'.gens[g]? = some (.fresh c) ∧ s'.os = s.os ∧ AllBare s'.gens ∧ s'.heap.NoLimit ∧ (∀ b o, s.heap.get? b = some o → s'.heap.get? b = some o) ∧
    ∀ (A : Around) (s2 : Shared), Room k A → A.frames = some outer → (∀ b o, s'.heap.get? b = some o → s2.heap.get? b = some o) → s2.os = s.os → AllBare s2.gens →
      Seg (model P w) A (GR1 (GFin P w outer H s Dn)) (YF (GOut P w outer H s Y)) 1 s2 c ((model P w).den c) [] s2
abbrev SpG1 := List V → Hp → (V → Hp → Prop) → (Hp → Prop) → Prop
def FnG (P : Program) (w : World) (K : PySem.W.Frag) (mg : Str → Option Value) (base : Heap) (k : Nat) (f : Addr) (sp : SpG1) : Prop := ∀ (A : Around) (outer : List Env) (s : Shared) (H : Hp) (us : List Value) (vs : List V) (Y : V → Hp → Prop) (Dn : Hp → Prop), Room k A → Env0 P w K mg base A outer s H → Vals vs us → sp vs H Y Dn →
  codeAny (model P w) A (.call (.ref f) ⟨us, []⟩) (fun r s' => match r with | .ok (.ret u) => GMade1 P w k outer H s Y Dn u s' | _ => False) s
theorem inv_wish {X : Cx} {pins : List (Addr × Obj)} {σ : L2.St} {H : Hp} {s : Shared} {E : Value → Shared → Prop} (I : Inv X pins σ H s) : Inv (X.wish E) pins σ H s :=
  ⟨⟨I.ok.mod, I.ok.kind, I.ok.glob, I.ok.blt, I.ok.above, I.ok.inj, I.ok.has, I.ok.cab, I.ok.hd, I.ok.frames, I.ok.stk, I.ok.exf, I.ok.bs, I.ok.bsz, I.ok.noex, I.ok.exfs, I.ok.funs, I.ok.frf⟩, I.os, I.bare, I.base, I.loc, I.cell, I.free, I.freeC, I.pin, I.hok, I.len⟩
section
variable {P : Program} {w : World} {K : PySem.W.Frag} {mg : Str → Option Value} {base : Heap} {x qual : Str} {params : Arguments} {body : List Stmt} {scope : Scope} {dvs : List V} {f : Addr} {fd : FuncData} {N ps : List Str} {k : Nat} {sp : SpG1} {ds : List Value}
theorem gen_by (F : FunD K x qual params body scope dvs [] f fd) (S : GScope N ps scope) (len : ∀ vs H Y Dn, sp vs H Y Dn → vs.length = ps.length) {dv : List V} (hb : Binds K fd ps ds) (hd : Vals dv ds)
    (hbody : ∀ (X : Cx) (vs : List V) (H : Hp) (Y : V → Hp → Prop) (Dn : Hp → Prop), Bx P w K mg base N scope k X → Dx X → Nx X → interactive X.env = false → sp vs H Y Dn → gSs X body Y { nx := fun _ H' => Dn H', rt := fun v H' => v = .non ∧ Dn H' } (start N vs) H) :
    FnG P w K mg base (k + 1) f (fun vs => sp (vs ++ dv)) := by
  intro A outer s H us vs Y Dn hr e0 r hsp
  obtain ⟨oc, od, dV, kV, doc, pm, an, cdv, ct, osl, hfd, lk, hcd, _, _⟩ := F.ex
  have r2 : Vals (vs ++ dv) (us ++ ds) := r.append hd
  have hl := len _ _ _ _ hsp
  have KX : K.In s.heap := e0.mod.kin.keeps fun b o e => (e0.bs b o e).1
  have hbt : BindsTo s fd ⟨us, []⟩ (ps.zip (us ++ ds)) := hb s us KX (by rw [← r2.length]; exact hl)
  subst hfd
  have lim : s.heap.NoLimit := e0.mod.nolimit.keeps fun b o e => (e0.bs b o e).1
  have hkind : ∀ y ∈ ps.zip (us ++ ds), scope.names.lookup y.1 = some .local ∨ (scope.names.lookup y.1 = some .cell ∧ ((cellsFrom (s.heap.objs.size + 1) scope.names []).lookup y.1).isSome = true) := fun ⟨n, v⟩ hy => by
    rcases S.par n (List.of_mem_zip hy).1 with q | q
    · exact .inl q
    · exact .inr ⟨q, PySem.W.cellsFrom_some _ _ _ (.inl q)⟩
  refine codeAny_call_generator hr.depth (KX _ _ lk) rfl S.co S.gen rfl (PySem.W.codeRec_of KX hcd) (hbt _ _ _ _ ?_)
  refine wpAny_newFunctionEnv_cells S.kind hkind fun env he s1 x => ?_
  subst he
  have lim1 : s1.heap.NoLimit := lim.keeps x.toInCall.keep
  refine ⟨lim1, ?_⟩
  obtain ⟨h1, tk, es1, hk1⟩ := x.done
  have os1 : s1.os = s.os := by rw [es1]
  have gen1 : s1.gens = s.gens := by rw [es1]
  have kp1 : ∀ b o, s.heap.get? b = some o → s1.heap.get? b = some o := x.toInCall.keep
  have main : ∀ (go : Obj) (nm qn : Value) (tk2 : Nat), go.cls = .type "generator" → go.data = .fields #[.int s1.gens.size 0, nm, qn] → go.slots = #[] → (∀ h : Heap, (h.push go).get? h.objs.size = some go) →
      GMade1 P w (k + 1) outer H s Y Dn (.ref s1.heap.objs.size) { s1 with gens := s1.gens.push (.fresh (.func body (envOfC qual scope s.heap.objs.size f cdv))), toks := tk2, heap := s1.heap.push go } := by
    intro go nm qn tk2 hgc hgd0 hgs hgp
    refine ⟨s1.heap.objs.size, s1.gens.size, _, rfl, ⟨go, nm, qn, hgp _, hgc, hgd0, hgs⟩, Array.getElem?_push_size .., os1, AllBare.push (by rw [gen1]; exact e0.bare) rfl, lim1.keeps fun b o e => Heap.get?_push_of_some _ e, fun b o e => Heap.get?_push_of_some _ (kp1 b o e), ?_⟩
    intro Aw s2 hrw hfr hk2 hos hba
    have e0w : Env0 P w K mg base Aw outer s H := ⟨hfr, e0.mod, e0.bs, e0.bsz, e0.funs, e0.frf, e0.hok, e0.bare⟩
    have I1 : Inv (gcxOf P w K mg base N qual scope f cdv Aw outer s H E0 []) [] (start N (vs ++ dv)) H s1 := inv_startG S hrw.hd e0w hl r2 x
    have kp2 : ∀ b o, s1.heap.get? b = some o → s2.heap.get? b = some o := fun b o e => hk2 b o (Heap.get?_push_of_some _ e)
    have I2 : Inv (gcxOf P w K mg base N qual scope f cdv Aw outer s H E0 []) [] (start N (vs ++ dv)) H s2 := I1.call' (ch := []) (hos.trans os1.symm) (Un.kept kp2) (I1.hok.kept kp2) hba fun b z => by simp at z
    have I3 : Inv (gcxOf P w K mg base N qual scope f cdv Aw outer s H E0 []).nox [] (start N (vs ++ dv)) H s2 := inv_wish I2
    have hint : interactive (envOfC qual scope s.heap.objs.size f cdv) = false := by
      unfold interactive
      simp only [show (envOfC qual scope s.heap.objs.size f cdv).scope.kind = .function from S.kind]
      rfl
    refine seg_func ?_
    refine hbody (gcxOf P w K mg base N qual scope f cdv Aw outer s H E0 []).nox (vs ++ dv) H Y Dn ⟨rfl, rfl, rfl, rfl, rfl, rfl, S.nd, rfl, rfl, hrw.deeper _⟩ ⟨PassesOwn.never, fun _ => rfl⟩ ⟨fun _ _ z => z⟩ hint hsp [] s2 s2 Aw _ _ _ _ _ _ id id ⟨over_func, rfl, rfl, rfl⟩ (fun fl s' hs => ?_) (fun pins' σ' H' s' x v I' rx hy => ?_) I3
    · cases fl with
      | next =>
        obtain ⟨σ', H', J, hQ⟩ := hs
        exact seg_end (.ok (.ret .none)) (.inl ⟨.inl rfl, H', J.os, J.bare, J.base, J.hok, hQ⟩)
      | brk => obtain ⟨_, _, _, q⟩ := hs; exact False.elim q
      | cont => obtain ⟨_, _, _, q⟩ := hs; exact False.elim q
      | ret u =>
        obtain ⟨v, σ', H', J, rv, ev, hQ⟩ := hs
        subst ev
        obtain rfl : u = Value.none := rv
        exact seg_end (.ok (.ret .none)) (.inl ⟨.inl rfl, H', J.os, J.bare, J.base, J.hok, hQ⟩)
    · exact ⟨x, H', rx, I'.os, I'.bare, I'.base, I'.hok, hy⟩
  first
    | exact main _ _ _ _ rfl rfl rfl fun h => Heap.get?_push_size h rfl
    | (refine wpAny_mono (?_) (fun _ _ q => q) fun _ _ q => q; exact main _ _ _ _ rfl rfl rfl fun h => Heap.get?_push_size h rfl)
end
end Fk
set_option maxRecDepth 100000
set_option maxHeartbeats 2000000
namespace Fk
open PySem PySem.Spec PyProof.Rows L2 Evl He
def GSs (X : Cx) (sts : List Stmt) (Y : V → Hp → Prop) (D : Ends) (σ : L2.St) (H : Hp) : Prop := ∀ H1, Ex H H1 → gSs X sts Y D σ H1
section
variable {P : Program} {w : World} {K : PySem.W.Frag} {mg : Str → Option Value} {base : Heap} {N : List Str} {sc scope : Scope} {k : Nat} {X : Cx} {σ : L2.St} {H : Hp} {a b c e o : Expr} {es : List Expr} {x y : Str} {pos p pf py px pos' apos : Pos} {st : Stmt} {rest th el body : List Stmt} {D : Ends} {Y : V → Hp → Prop} {v : V}
theorem gs_head [Nv : Nx X] (h : wSs X [st] { D with nx := fun σ' H' => gSs X rest Y D σ' H' } σ H) : gSs X (st :: rest) Y D σ H := fun pins s s₀ A R Pv cc fs K J gd lv g k y I => by
  have z := gs_plain (Y := Y) h pins s s₀ A R Pv cc fs (fun f => match f with | .next => (execs rest X.env).wrap K J gd lv | f => K f) J gd lv g (fun f s' q => by
    cases f with
    | next =>
      obtain ⟨σ', H', I', q⟩ := q
      exact q pins s' s₀ A R Pv cc fs K J gd lv g k y I'
    | brk => exact k .brk s' q
    | cont => exact k .cont s' q
    | ret u => exact k (.ret u) s' q) y I
  rw [execs_cons_wrap] at z ⊢
  rwa [Sem.wrap_congr (exec st X.env) _ _ (K' := fun f => match f with | .next => (execs rest X.env).wrap K J gd lv | f => K f) (H' := J) (fun f => by cases f <;> rfl) fun _ => rfl] at z
theorem gss_head [Nv : Nx X] (h : SS X [st] { D with nx := fun σ' H' => gSs X rest Y D σ' H' } σ H) : GSs X (st :: rest) Y D σ H := fun H1 e1 => gs_head (h H1 e1)
theorem gss_if [Nv : Nx X] {y : Bool} (h : ET X c σ H y) (h1 : y = true → GSs X th Y { D with nx := fun σ' H' => gSs X rest Y D σ' H' } σ H) (h2 : y = false → GSs X el Y { D with nx := fun σ' H' => gSs X rest Y D σ' H' } σ H) : GSs X (.If c th el pos :: rest) Y D σ H := fun H1 e1 =>
  gs_cons (g1_if (h H1 e1 _ fun H2 e2 => by
    cases y with
    | true =>
      rw [if_pos rfl]
      exact h1 rfl H2 (e1.trans e2)
    | false =>
      rw [if_neg Bool.false_ne_true]
      exact h2 rfl H2 (e1.trans e2)))
theorem gss_nil (h : ∀ H1, Ex H H1 → D.nx σ H1) : GSs X [] Y D σ H := fun H1 e1 => gs_nil (h H1 e1)
theorem gss_yield [Nv : Nx X] {yp : Pos} (h : EE X e σ H v) (hy : ∀ H1, Ex H H1 → Y v H1) (hco : X.env.scope.isCoroutine = false) (hi : interactive X.env = false) : GSs X (.Expr (.Yield (some e) yp) pos :: rest) Y D σ H := fun H1 e1 =>
  gs_cons (g1_yield (h H1 e1 _ fun H2 e2 => hy H2 (e1.trans e2)) hco hi)
theorem gss_forR2 [B : Bx P w K mg base N sc k X] [G : Dx X] [Nv : Nx X] {lo n : Int} (m : Nat) (I : Nat → L2.St → Prop) (ha : EE X a σ H (.int lo)) (hb2 : EE X b σ H (.int n)) (hn : 0 ≤ lo ∧ lo ≤ 100000 ∧ -100000 ≤ n ∧ n ≤ 100000) (h0 : I 0 σ)
    (hb : ∀ (i : Nat) σ', lo + (i : Int) < n → I i σ' → GSs X body Y { D with nx := fun σ2 H2 => I (i + 1) σ2 ∧ Ex H H2, ct := fun σ2 H2 => I (i + 1) σ2 ∧ Ex H H2, bk := fun σ' H' => gSs X rest Y D σ' H' } (σ'.set m (some (.int (lo + (i : Int))))) H)
    (hd : ∀ σ', I (n - lo).toNat σ' → GSs X rest Y D σ' H) (hm : mg "range" = none) (hN : N[m]? = some x := by rfl) (hv : locB sc x = true := by decide +kernel) (hg : gloB sc "range" = true := by decide +kernel) (hs1 : starEach [a, b] X.env = [(false, eval a X.env), (false, eval b X.env)] := by rfl) (hs2 : starEach [b] X.env = [(false, eval b X.env)] := by rfl)
    (hs : ∀ y, foldedSetIterable (.Call (.Name "range" p) [a, b] [] pf) X.env y = pure y := by intro _; rfl) :
    GSs X (.For (.Name x px) (.Call (.Name "range" p) [a, b] [] pf) body [] pos :: rest) Y D σ H := fun H1 e1 => by
  refine gs_cons (g1_for B.calm (pi_r2 hm hg hs1 hs2) (pg_name B.ndx (B.ix hN) (B.loc hv) (.inl (G.fn x))) ?_ hs)
  refine Evl.ea_cons (ha.mono e1) (Evl.ea_cons (hb2.mono e1) Evl.ea_nil) H1 (Ex.refl H1) _ fun H2 e2 => ⟨lo, n, rfl, ⟨by omega, by omega, by omega, by omega⟩, ?_⟩
  refine ⟨fun i m' σ' H' => m' = (n - lo).toNat - i ∧ i ≤ (n - lo).toNat ∧ I i σ' ∧ Ex H H', ⟨_, rfl, Nat.zero_le _, h0, e1.trans e2⟩, ?_⟩
  rintro i m' σ' H' ⟨rfl, hi, hI, e'⟩
  by_cases hlt : i < (n - lo).toNat
  · refine .inr ⟨hlt, fun σ2 H2 => I (i + 1) σ2 ∧ Ex H H2, fun σ2 H2 q => ⟨(n - lo).toNat - (i + 1), by omega, rfl, hlt, q.1, q.2⟩, fun z H3 y => ?_⟩
    obtain ⟨rfl, rfl⟩ := y
    exact hb i σ' (by omega) hI H3 e'
  · have : i = (n - lo).toNat := by omega
    subst this
    exact .inl ⟨Nat.le_refl _, hd σ' hI H' e'⟩
end
section
variable {P : Program} {w : World} {K : PySem.W.Frag} {mg : Str → Option Value} {base : Heap}
/-- is a rule barred: at a heap from its start to behind one common period -/
def barAt (t : Tb) (r : Rl) (h : Int) : Prop := r.start ≤ h ∧ h < settR t r + lcmZ t.p r.m ∧ barR t r h = true
def Sp_bars : SpG1 := fun vs H Y Dn => ∃ (t : Tb) (r : Rl) (o x : V), vs = [o, x, .int 0] ∧ TbAt K t o H ∧ RlAt K r x H ∧ (∀ h H', Ex H H' → barAt t r h → Y (.int h) H') ∧ ((∀ h, ¬ barAt t r h) → ∀ H', Ex H H' → Dn H')
theorem start_pos {r : Rl} (hok : r.ok) : 1 ≤ r.start ∧ r.start ≤ 800 ∧ 1 ≤ r.m ∧ r.m ≤ 6 := by
  cases r with
  | fixed n r m l => exact ⟨by show 1 ≤ n + l; have := hok; simp only [Rl.ok] at this; omega, by show n + l ≤ 800; have := hok; simp only [Rl.ok] at this; omega, by show 1 ≤ m; have := hok; simp only [Rl.ok] at this; omega, by show m ≤ 6; have := hok; simp only [Rl.ok] at this; omega⟩
  | down n r m => exact ⟨by show 1 ≤ n + 1; have := hok; simp only [Rl.ok] at this; omega, by show n + 1 ≤ 800; have := hok; simp only [Rl.ok] at this; omega, by show 1 ≤ m; have := hok; simp only [Rl.ok] at this; omega, by show m ≤ 6; have := hok; simp only [Rl.ok] at this; omega⟩
theorem sett_bd {t : Tb} (ht : t.ok) {r : Rl} (hok : r.ok) : r.start ≤ settR t r ∧ settR t r ≤ 2000 := by
  have h1 := start_pos hok
  have h2 := ht.hb
  have h3 := ht.most
  have h4 := ht.hp
  unfold settR
  cases r with
  | fixed n r m l => 
    have := hok
    simp only [Rl.ok] at this
    refine ⟨Int.le_max_left _ _, Int.max_le.mpr ⟨by omega, by show t.b + n ≤ 2000; omega⟩⟩
  | down n r m => exact ⟨Int.le_max_left _ _, Int.max_le.mpr ⟨by omega, by show t.b + 0 ≤ 2000; omega⟩⟩
theorem fn_bars [T : Tx K mg] : ∃ fd, FunD K "bars" "bars" (defArgs s_bars) (defBody s_bars) (defScope s_bars) [.int 0] [] (ga K "bars") fd ∧ FnG P w K mg base 7 (ga K "bars") (fun vs => Sp_bars (K := K) (vs ++ [.int 0])) := by
  obtain ⟨fd, F⟩ := f_bars (K := K) (mg := mg)
  obtain ⟨ds, hd, hb⟩ := F.binds1 (ps := ["table", "rule", "first"]) 2 0 (by simp) rfl fun T kV doc pm an cdv ct us its l1 l2 => match us, its, l1, l2 with | [_, _], [_], _, _ => ⟨_, rfl, rfl⟩
  refine ⟨fd, F, gen_by F sc_bars ?_ hb hd ?_⟩
  · rintro vs H Y Dn ⟨t, r, o, x, rfl, _⟩
    rfl
  · rintro X vs H Y Dn B _ Nv hint ⟨t, r, o, x, rfl, hT, hR, hY, hD⟩
    have hT0 := hT
    obtain ⟨hto, A, hA, p, dp, rfl, hp⟩ := hT
    have hok := hR.1
    have hst := start_pos hok
    have hse := sett_bd hto hok
    have hwp := lcmZ_pos hto.hp hst.2.2.1
    have hwm := lcmZ_le_mul hto.hp hst.2.2.1
    have hw6 : lcmZ t.p r.m ≤ 6000 := by
      have h1 : t.p * r.m ≤ 1000 * 6 := by
        have h3 := hto.most
        have h4 := hto.hb
        have h5 := hto.hp
        exact Int.mul_le_mul (by omega) hst.2.2.2 (by omega) (by omega)
      omega
    refine (show GSs X _ _ _ _ H from ?_) H (Ex.refl H)
    refine gss_head (ss_drop (ee_call (v := .non) cl_need_heap (ea_cons (ee_var 2) ea_nil) fun H1 _ => ⟨0, rfl, ⟨by omega, by decide⟩, Gives.me⟩) (ss_nil fun H1 e1 => ?_))
    refine (show GSs X _ _ _ _ H from ?_) H1 e1
    refine gss_head (ss_set 3 (ee_call cl_settled (ea_cons (ee_var 0) (ea_cons (ee_var 1) ea_nil)) fun H1 e1 => ⟨t, r, _, _, rfl, hT0.up e1, hR.up e1, Gives.me⟩) (ss_nil fun H1 e1 => ?_))
    refine (show GSs X _ _ _ _ H from ?_) H1 e1
    have hco : X.env.scope.isCoroutine = false := by
      rw [B.qs]
      exact sc_bars.co
    refine gss_forR2 4 (fun i σ => (∃ z, σ = [some (.ref p), some x, some (.int 0), some (.int (settR t r)), z, none, none, none]) ∧ ∀ j, j < i → barR t r (r.start + (j : Int)) = false) (lo := r.start) (n := settR t r) (EE.is (ee_max (tfre "max") (ee_intI (tfre "int") (ee_var 2)) (ee_intI (tfre "int") (ee_rstart (ee_var 1) hR))) (show V.int (max 0 r.start) = .int r.start by rw [Int.max_eq_right (by omega)])) (ee_var 3) (by omega) ⟨⟨none, rfl⟩, fun j hj => absurd hj (Nat.not_lt_zero _)⟩ ?_ ?_ (tfre "range")
    · rintro i σ' hi ⟨⟨z, rfl⟩, hj⟩
      refine gss_if (y := barR t r (r.start + (i : Int))) (et_val (ee_call cl_is_barred (ea_cons (ee_var 0) (ea_cons (ee_var 1) (ea_cons (ee_var 4) ea_nil))) fun H1 e1 => ⟨t, r, _, _, _, rfl, hT0.up e1, hR.up e1, ⟨by omega, by omega⟩, Gives.me⟩)) (fun hb => ?_) fun hb => ?_
      · exact gss_yield (ee_var 4) (fun H1 e1 => hY _ H1 e1 ⟨by omega, by omega, hb⟩) hco hint
      · refine gss_nil fun H1 e1 => (show gSs X [] _ _ _ H1 from gs_nil ⟨⟨⟨_, rfl⟩, fun j hj' => ?_⟩, e1⟩)
        rcases Nat.lt_succ_iff_lt_or_eq.mp hj' with h | h
        · exact hj j h
        · rw [h]
          exact hb
    rintro σ' ⟨⟨z, rfl⟩, hnb⟩
    refine gss_head (ss_set 5 (ee_call cl_common (ea_cons (ee_fld (ee_var 0) hp (tcls "Table") (tfld "Table" "period") rfl) (ea_cons (ee_rm (ee_var 1) hR) ea_nil)) fun H1 _ => ⟨t.p, r.m, rfl, hto.hp, hst.2.2.1, Gives.me⟩) (ss_nil fun H1 e1 => ?_))
    refine (show GSs X _ _ _ _ H from ?_) H1 e1
    refine gss_head (ss_setC 7 (el_cR1 6 (n := lcmZ t.p r.m) (fun i => barR t r (settR t r + (i : Int))) (fun i => .int (i : Int)) (ee_var 5) (by omega) (tfre "range") (fun X' i H2 B' e2 hi => ?_) fun X' i H2 B' e2 hi hf => ee_var 6) fun L H1 e1 _ hL => ss_nil fun H2 e2 => ?_)
    · exact et_val (ee_call cl_is_barred (ea_cons (ee_var 0) (ea_cons (ee_var 1) (ea_cons (ee_add (ee_var 3) (ee_var 6)) ea_nil))) fun H3 e3 => ⟨t, r, _, _, _, rfl, hT0.up (e2.trans e3), hR.up (e2.trans e3), ⟨by omega, by omega⟩, Gives.me⟩)
    have hL2 := e2 _ _ hL
    have E2 := e1.trans e2
    refine (show GSs X _ _ _ _ H2 from ?_) H2 (Ex.refl _)
    refine gss_head (ss_skip (ET.is (et_gt (ee_var 2) (ee_var 3)) (decide_eq_false (by omega))) (ss_nil fun H3 e3 => ?_))
    refine gs_cons (g1_while1 ?_)
    refine (show ET X _ _ H2 _ from et_gt (ee_lenL (tfre "len") (ee_var 7) (sq_of hL2)) ee_int) H3 e3 _ fun H4 e4 => ?_
    have hL4 := e4 _ _ (e3 _ _ hL2)
    have E4 := (E2.trans e3).trans e4
    by_cases hem : given (lcmZ t.p r.m).toNat (fun i => barR t r (settR t r + (i : Int))) (fun i => V.int (i : Int)) = []
    · rw [hem, if_neg (by decide)]
      refine gs_nil (hD (fun h ⟨h1, h2, h3⟩ => ?_) H4 E4)
      by_cases hs : h < settR t r
      · have := hnb (h - r.start).toNat (by omega)
        rw [show r.start + ((h - r.start).toNat : Int) = h by omega, h3] at this
        cases this
      · have hm : V.int (((h - settR t r).toNat : Nat) : Int) ∈ given (lcmZ t.p r.m).toNat (fun i => barR t r (settR t r + (i : Int))) (fun i => V.int (i : Int)) := by
          unfold given
          refine List.mem_map.mpr ⟨(h - settR t r).toNat, List.mem_filter.mpr ⟨List.mem_range.mpr (by omega), ?_⟩, rfl⟩
          show barR t r (settR t r + ((h - settR t r).toNat : Int)) = true
          rw [show settR t r + ((h - settR t r).toNat : Int) = h by omega]
          exact h3
        rw [hem] at hm
        simp at hm
    · obtain ⟨v0, tl, hvt⟩ := List.exists_cons_of_ne_nil hem
      have hv0 : v0 ∈ given (lcmZ t.p r.m).toNat (fun i => barR t r (settR t r + (i : Int))) (fun i => V.int (i : Int)) := by
        rw [hvt]
        exact List.mem_cons_self
      unfold given at hv0
      obtain ⟨i0, hi0, rfl⟩ := List.mem_map.mp hv0
      obtain ⟨hi1, hi2⟩ := List.mem_filter.mp hi0
      have hi1 := List.mem_range.mp hi1
      have hi2 : barR t r (settR t r + (i0 : Int)) = true := hi2
      rw [if_pos (by rw [hvt]; simp)]
      refine gs_cons (g1_for B.calm (pi_list pe_w) (pg_name (i := 6) B.ndx (B.ix (by rfl)) (B.loc (by decide +kernel)) (.inl (Dx.fn _))) ?_ (by intro _; rfl))
      refine (show EE X _ _ H4 (.ref L) from ee_var 7) H4 (Ex.refl _) _ fun H5 e5 => ⟨L, rfl, ⟨_, by rw [B.qK]; exact sq_of (e5 _ _ hL4)⟩, ?_⟩
      refine ⟨fun i m σ' H' => i = 0 ∧ m = 0 ∧ σ' = _ ∧ Ex H5 H', ⟨0, rfl, rfl, rfl, Ex.refl _⟩, ?_⟩
      rintro i m σ' H' ⟨rfl, rfl, rfl, e6⟩
      have hL6 := sq_of (K := X.K) (e6 _ _ (e5 _ _ hL4))
      refine .inr ⟨⟨_, V.int (i0 : Int), hL6, by rw [hvt]; rfl⟩, fun _ _ => False, fun _ _ z => z.elim, fun z H7 y => ?_⟩
      obtain ⟨rfl, y⟩ := y
      have hz := y _ hL6
      rw [hvt] at hz
      have hz : V.int (i0 : Int) = z := Option.some.inj hz
      subst hz
      refine (show GSs X _ _ _ _ H7 from ?_) H7 (Ex.refl _)
      refine gss_if (ET.is (et_gt (ee_add (ee_var 3) (ee_var 6)) (ee_num (tint "MOST_HEAP" (10 ^ 30)))) (decide_eq_false (by omega))) (fun h => Bool.noConfusion h) fun _ => gss_nil fun H8 e8 => ?_
      refine (show GSs X _ _ _ _ H7 from ?_) H8 e8
      refine gss_if (ET.is (et_ge (ee_add (ee_var 3) (ee_var 6)) (ee_var 2)) (decide_eq_true (by omega))) (fun _ => ?_) fun h => Bool.noConfusion h
      exact gss_yield (ee_add (ee_var 3) (ee_var 6)) (fun H9 e9 => hY _ H9 (((E4.trans e5).trans e6).trans e9) ⟨by omega, by omega, hi2⟩) hco hint
end
end Fk
set_option maxRecDepth 100000
set_option maxHeartbeats 2000000
namespace Fk
open PySem PySem.Spec PyProof.Rows L2 Evl He GenW
section
variable {P : Program} {w : World} {K : PySem.W.Frag} {mg : Str → Option Value} {base : Heap} {N : List Str} {sc scope : Scope} {j k : Nat} {X : Cx} {σ : L2.St} {H : Hp} {e : Expr} {es : List Expr} {x y : Str} {pos p pf py px : Pos} {rest body : List Stmt} {D : Ends} {v : V} {f : Addr} {vs : List V}
/-- for x in f(e, ..): .., f a generator def, the suite leaves at once -/
theorem ss_forG [B : Bx P w K mg base N sc k X] [G : Dx X] {sp : SpG1} (m : Nat) (Y : V → Hp → Prop) (Dn : Hp → Prop) (F : FnG P w K mg base j f sp) (hm : mg y = some (.ref f)) (hk : PySem.W.keepIn K (.ref f) = true) (ha : EA X (e :: es) σ H vs) (hsp : ∀ H1, Ex H H1 → sp vs H1 (fun v H' => Y v H' ∧ Ex H1 H') fun H' => Dn H' ∧ Ex H1 H')
    (hb : ∀ v H', Ex H H' → Y v H' → SS X body { nx := fun _ _ => False, rt := D.rt } (σ.set m (some v)) H') (hd : ∀ H', Ex H H' → Dn H' → SS X rest D σ H') (hj : j + 2 ≤ k := by decide) (hN : N[m]? = some x := by rfl) (hv : locB sc x = true := by decide +kernel) (hg : gloB sc y = true := by decide +kernel)
    (he : starEach (e :: es) X.env = (false, eval e X.env) :: starEach es X.env := by rfl) (hpl : (backTo pf (starEach es X.env)).any (·.1) = false := by rfl) (hs : ∀ z, foldedSetIterable (.Call (.Name y p) (e :: es) [] pf) X.env z = pure z := by intro _; rfl) :
    SS X (.For (.Name x px) (.Call (.Name y p) (e :: es) [] pf) body [] pos :: rest) D σ H := fun H1 e1 => by
  obtain ⟨rfl, rfl, rfl, rfl, rfl, qN, _, _, calm, hr⟩ := id B
  have pg := pg_name (pos := px) B.ndx (B.ix hN) (B.loc hv) (.inl (G.fn x))
  refine wss_cons ps_w fun pins s I => ?_
  refine wpAny_For ?_ hs
  refine wpAny_Call_Name_kw (ld_glob I (B.gl hg) hm ?_ (gloB_ok hg).2.1)
  refine PySem.W.callWith_K (h₀ := X.base) I.ok.mod.kin hk (thn (pa_w.run pf pins s σ H1 _ I (ha H1 e1 (fun us H2 => us = vs ∧ Ex H1 H2) fun H2 e2 => ⟨rfl, e2⟩)) fun us s1 ⟨vs', H2, I1, r, hv, e2⟩ => ⟨I1.kIn, ?_⟩) he hpl
  subst hv
  have E2 := e1.trans e2
  refine wpAny_call (codeAny_mono (F X.A X.stack s1 H2 us vs' _ _ (hr.mono (by omega)) I1.env0 r ((hsp H2 E2))) fun r s' hq => ?_)
  cases r with
  | error e => exact hq.elim
  | ok fl =>
    cases fl with
    | next => exact hq.elim
    | brk => exact hq.elim
    | cont => exact hq.elim
    | ret u =>
      obtain ⟨a, g, c, rfl, hgen, hgs, os1, bare1, lim1, keep1, run⟩ := hq
      refine wpAny_pyIter_gen hgen ?_
      refine codeAny_forLoop_any (fun n s'' => n = 0 ∧ s'' = s') ?_ 0 ⟨rfl, rfl⟩
      rintro n s'' ⟨rfl, rfl⟩
      have bareR : AllBare (s''.setGen g .running).gens := allBare_setGen bare1 rfl
      refine next_genG (n := 1) (F := fun _ _ s1' => GFin X.prog X.w X.stack H2 s1 _ s1') (Er := nvr) (Y := YF (GOut X.prog X.w X.stack H2 s1 _)) hr.hd lim1 hr.depth hgen hgs ⟨rfl, run X.A.in1 (s''.setGen g .running) ((hr.mono (by omega) : Room (j + 1) X.A).in1) I1.env0.frames (fun _ _ z => z) os1 bareR⟩ (fun v s₁ gs' hbr hy => ?_) (fun s₁ hp h' kp => ?_) fun e s₁ z => z.elim
      · obtain ⟨z, H', rz, os2, bare2, un2, hok2, hYz, eH⟩ := hy
        have J : Inv X pins σ H' (s₁.setGen g gs') := I1.call' (ch := []) (s' := s₁.setGen g gs') os2 un2 hok2 (allBare_setGen bare2 hbr) fun b z => by simp at z
        unfold letOwnedTupleGo
        refine wpAny_pure ?_
        refine wpAny_passesOwn G.own (thn (pg.run pins (s₁.setGen g gs') σ H' z v (fun σ2 H2 => σ2 = σ.set m (some z) ∧ H2 = H') J rz ⟨rfl, rfl⟩) fun _ s6 ⟨σ6, H6, I6, hσ, hH⟩ => ?_)
        subst hσ hH
        refine wpAny_passesOwn G.own (thn (hb z H6 (E2.trans eH) hYz H6 (Ex.refl H6) pins s6 I6) fun f s7 q7 => ?_)
        cases f with
        | next =>
          obtain ⟨_, _, _, q⟩ := q7
          exact q.elim
        | cont =>
          obtain ⟨_, _, _, q⟩ := q7
          exact q.elim
        | brk =>
          obtain ⟨_, _, _, q⟩ := q7
          exact q.elim
        | ret v => exact q7
      · obtain ⟨H', os2, bare2, un2, hok2, hD, eH⟩ := hp
        have J : Inv X pins σ H' { s₁.setGen g .finished with heap := h' } := I1.call' (ch := []) (s' := { s₁.setGen g .finished with heap := h' }) os2 (un2.trans (Un.kept kp)) (hok2.kept kp) (allBare_setGen bare2 rfl) fun b z => by simp at z
        exact wpAny_execs_nil ⟨σ, H', J, hd H' (E2.trans eH) hD H' (Ex.refl H')⟩
end
end Fk
set_option maxRecDepth 100000
set_option maxHeartbeats 2000000
namespace Fk
open PySem PySem.Spec PyProof.Rows L2 Evl He
/-- bool(x), x an instance of a class with its own __bool__ -/
theorem kbo_call {prog : Program} {w : World} {A : Around} {E : Value → Shared → Prop} {s : Shared} {x : Addr} {Q : Value → Shared → Prop} (h : wpAny (model prog w) A.in1.in1 (truthy (.ref x)) (fun b => Q (.bool b)) E s) : wpAny (model prog w) A (call (.type "bool") [.ref x]) Q E s := by
  refine callType_codes (T := "bool") (Bi := Builtin.«object.__init__») (Q₁ := fun r s₁ => ∃ b, r = .bool b ∧ Q r s₁) PySem.F.called_bool (PySem.F.typeCall_bool_1 _) PySem.F.entry_object_init ?_ ?_
  · refine codeAny_of_tree ?_
    show wpAny _ A.in1.in1 (do checkBuiltinCall "bool.__new__" ⟨[.type "bool", .ref x], []⟩; again (.builtin "bool.__new__" ⟨[.type "bool", .ref x], []⟩)) _ _ s
    refine wpAny_bind (wpAny_of_eq (PySem.F.newCall_bool_1 _) (wpAny_pure ⟨plainId_quiet (by decide +kernel) _, codeAny_builtin PySem.F.entry_bool_new ?_⟩))
    rw [Around.under_plainId (by decide +kernel) _]
    obtain ⟨hp, g, d, tk, os⟩ := s
    have f1 := PySem.F.conv_sub_bool
    unfold Builtin.«bool.__new__»
    repeat (any_goals (first | assumption | (refine wpAny_mono h (fun b s' hb => ?_) fun _ _ y => y) | wp_step))
    all_goals exact ⟨_, rfl, hb⟩
  · rintro obj s₁ ⟨b, rfl, hq⟩
    exact ⟨rfl, PySem.F.args_object_init_2 _ _, object_init_meets PySem.F.called_bool.init.lookup PySem.F.called_bool.made (by decide) prog w A.in1 _ s₁ ⟨rfl, rfl, hq⟩⟩

section
variable {X : Cx} {n : Nat} {f C : Addr} {sp : Sp}
theorem call_boolO (m : OpM X.K C f "__bool__") (Fn : FnR X.prog X.w X.K X.mg X.base CX0 n f sp) (hr : Room (n + 2) X.A) : CallR X (.type "bool") (fun xs H Q => ∃ a dx fs, xs = [.ref a] ∧ H a = some (.ins C dx fs) ∧ sp [.ref a] H (fun v H' => ∃ b, v = .bl b ∧ Q (.bl b) H') E0) := by
  intro pins s σ H xs us Q I r ⟨a, dx, fs, hx, ha, h⟩
  subst hx
  obtain rfl := Vals.ref1 r
  obtain ⟨od, J⟩ := look_at I ha
  obtain ⟨m', hF⟩ := I.fr
  refine kbo_call (PySem.W.truthy_K hF I.ok.mod.kin J m.at_ m.fn (thn (run_at (us := [.ref a]) (vs := [.ref a]) Fn ⟨hr.in1.in1, rfl⟩ I (.cons rfl .nil) h) fun r s' ⟨z, H', I', rz, b, ez, q⟩ => ?_))
  subst ez
  cases rz
  exact ⟨.bl b, H', I', rfl, q⟩
end
section
variable {P : Program} {w : World} {K : PySem.W.Frag} {mg : Str → Option Value} {base : Heap}
def R_boolB (b : Bool) : List V → Hp → (V → Hp → Prop) → Prop := fun vs H T => ∃ o : V, vs = [o] ∧ Gives T H (.bl b)
theorem fn_Free_bool [T : Tx K mg] : FnR P w K mg base CX0 1 (ma K (ga K "Free") "__bool__") (spR (R_boolB true)) := by
  obtain ⟨fd, F⟩ := f_Free_bool (K := K) (mg := mg)
  refine FnOk.raw0 (ok_fn F sc_Free_bool ?_ ?_) (F.bindsN fun _ _ _ _ _ _ us hl => match us, hl with | [_], _ => rfl)
  · rintro vs H T ⟨o, rfl, _⟩
    rfl
  · rintro X vs H T D B _ ⟨o, rfl, ht⟩ hd _
    exact ss_ret ee_bl fun H1 e1 => hd _ _ e1 (ht _ e1)
theorem fn_Barred_bool [T : Tx K mg] : FnR P w K mg base CX0 1 (ma K (ga K "Barred") "__bool__") (spR (R_boolB false)) := by
  obtain ⟨fd, F⟩ := f_Barred_bool (K := K) (mg := mg)
  refine FnOk.raw0 (ok_fn F sc_Barred_bool ?_ ?_) (F.bindsN fun _ _ _ _ _ _ us hl => match us, hl with | [_], _ => rfl)
  · rintro vs H T ⟨o, rfl, _⟩
    rfl
  · rintro X vs H T D B _ ⟨o, rfl, ht⟩ hd _
    exact ss_ret ee_bl fun H1 e1 => hd _ _ e1 (ht _ e1)
/-- bool(e) -/
theorem ee_boolO {N : List Str} {sc : Scope} {j k : Nat} {X : Cx} {σ : L2.St} {H : Hp} {e : Expr} {pos p : Pos} {C : Str} {f : Addr} {b : Bool} [B : Bx P w K mg base N sc k X] (m : OpM K (ga K C) f "__bool__") (Fn : FnR P w K mg base CX0 j f (spR (R_boolB b))) (hm : mg "bool" = none) (h : EQ X e σ H fun v H' => ∃ fs, InsAt K C fs v H') (hj : j + 2 ≤ k := by decide) (hg : gloB sc "bool" = true := by decide +kernel)
    (he : starEach (e :: []) X.env = (false, eval e X.env) :: starEach [] X.env := by rfl) : EE X (.Call (.Name "bool" p) [e] [] pos) σ H (.bl b) := by
  obtain ⟨rfl, rfl, rfl, rfl, rfl, _, _, _, _, hr⟩ := id B
  refine EE.of (pe_callTy (call_boolO m Fn (hr.mono hj)) (B.gl hg) hm rfl pa_w (gloB_ok hg).2.2 (gloB_ok hg).2.1 he) fun H1 e1 Q q => ?_
  refine (eaq_one (P1 := fun v H' => ∃ fs, InsAt X.K C fs v H') (P2 := fun vs H' => ∃ a dx fs, vs = [.ref a] ∧ H' a = some (.ins (ga X.K C) dx fs)) h (fun v H' _ ⟨fs, a, dx, hv, ha⟩ => ⟨a, dx, fs, by rw [hv], ha⟩) (fun _ _ _ e ⟨fs, h⟩ => ⟨fs, h.up e⟩) he) H1 e1 _ fun vs H2 e2 ⟨a, dx, fs, hv, ha⟩ => ?_
  exact ⟨a, dx, fs, hv, ha, fun u _ => u = .bl b, ⟨_, rfl, Gives.me⟩, fun v H' e hv => ⟨b, hv, q H' (e2.trans e)⟩⟩
/-- what free tells -/
def FreeAt (K : PySem.W.Frag) (t : Tb) (r : Rl) (v : V) (H : Hp) : Prop := ((∃ h, barAt t r h) ∧ ∃ fs, InsAt K "Barred" fs v H) ∨ ((∀ h, ¬ barAt t r h) ∧ ∃ fs, InsAt K "Free" fs v H)
def R_free : List V → Hp → (V → Hp → Prop) → Prop := fun vs H T => ∃ (t : Tb) (r : Rl) (o x : V), vs = [o, x] ∧ TbAt K t o H ∧ RlAt K r x H ∧ ∀ v H', Ex H H' → FreeAt K t r v H' → T v H'
theorem cl_free [T : Tx K mg] [Px P] : Cl P w K mg base 10 "free" (spR (R_free (K := K))) := by
  obtain ⟨fd, F⟩ := f_free (K := K) (mg := mg)
  obtain ⟨fdB, FB, hB⟩ := fn_bars (P := P) (w := w) (K := K) (mg := mg) (base := base)
  refine ⟨⟨_, FnOk.raw0 (ok_fn F sc_free ?_ ?_) (F.bindsN fun _ _ _ _ _ _ us hl => match us, hl with | [_, _], _ => rfl), tglo "free", F.kp⟩⟩
  · rintro vs H T ⟨t, r, o, x, rfl, _⟩
    rfl
  · rintro X vs H T D B _ ⟨t, r, o, x, rfl, hT, hR, ht⟩ hd _
    refine ss_forG 2 (fun v _ => ∃ h, v = .int h ∧ barAt t r h) (fun _ => ∀ h, ¬ barAt t r h) hB (tglo "bars") FB.kp (ea_cons (ee_var 0) (ea_cons (ee_var 1) ea_nil)) (fun H1 e1 => ⟨t, r, o, x, rfl, hT.up e1, hR.up e1, fun h H' e hb => ⟨⟨h, rfl, hb⟩, e⟩, fun hn H' e => ⟨hn, e⟩⟩) ?_ ?_
    · rintro v H1 e1 ⟨h, rfl, hb⟩
      obtain ⟨b1, b2, b3⟩ := id hb
      have hs : r.stands h = true := by
        unfold barR at b3
        exact (ba b3).1
      have hst := start_pos hR.1
      have hse := sett_bd hT.1 hR.1
      have hwm := lcmZ_le_mul hT.1.hp hst.2.2.1
      have h6 : t.p * r.m ≤ 1000 * 6 := by
        have h3 := hT.1.most
        have h4 := hT.1.hb
        have h5 := hT.1.hp
        exact Int.mul_le_mul (by omega) hst.2.2.2 (by omega) (by omega)
      have hz : HeapZ h := ⟨by omega, by omega⟩
      exact ss_retQ (EvQ.imp (eq_make (TI := fun fs _ => fs = brF x (.int h) (.int (r.left h))) ma_Barred (EA.q (ea_cons (ee_var 1) (ea_cons (ee_var 2) (ea_cons (ee_left (ee_var 1) (hR.up e1) (ee_var 2) hz hs) ea_nil))) fun H2 e2 => ⟨_, _, _, rfl, fun H' _ => rfl⟩)) fun v H2 e2 ⟨q, dq, fs, hv, hq, _⟩ => show FreeAt K t r v H2 from .inl ⟨⟨h, hb⟩, fs, q, dq, hv, hq⟩) fun v H2 e2 hv => hd v H2 (e1.trans e2) (ht v H2 (e1.trans e2) hv)
    · intro H1 e1 hn
      exact ss_retQ (EvQ.imp (eq_make (TI := fun fs _ => True) ma_Free (EA.q (ea_cons (ee_var 1) ea_nil) fun H2 e2 => ⟨_, rfl, fun H' _ => trivial⟩)) fun v H2 e2 ⟨q, dq, fs, hv, hq, _⟩ => show FreeAt K t r v H2 from .inr ⟨hn, fs, q, dq, hv, hq⟩) fun v H2 e2 hv => hd v H2 (e1.trans e2) (ht v H2 (e1.trans e2) hv)
/-- is a rule free -/
noncomputable def freeR (t : Tb) (r : Rl) : Bool := @decide (∀ h, ¬ barAt t r h) (Classical.propDecidable _)
def R_is_free : List V → Hp → (V → Hp → Prop) → Prop := fun vs H T => ∃ (t : Tb) (r : Rl) (o x : V), vs = [o, x] ∧ TbAt K t o H ∧ RlAt K r x H ∧ Gives T H (.bl (freeR t r))
theorem cl_is_free [T : Tx K mg] [Px P] : Cl P w K mg base 11 "is_free" (spR (R_is_free (K := K))) := by
  obtain ⟨fd, F⟩ := f_is_free (K := K) (mg := mg)
  refine ⟨⟨_, FnOk.raw0 (ok_fn F sc_is_free ?_ ?_) (F.bindsN fun _ _ _ _ _ _ us hl => match us, hl with | [_, _], _ => rfl), tglo "is_free", F.kp⟩⟩
  · rintro vs H T ⟨t, r, o, x, rfl, _⟩
    rfl
  · rintro X vs H T D B _ ⟨t, r, o, x, rfl, hT, hR, ht⟩ hd _
    refine ss_ret (v := .bl (freeR t r)) ?_ fun H1 e1 => hd _ _ e1 (ht _ e1)
    by_cases hb : ∀ h, ¬ barAt t r h
    · have e : freeR t r = true := by
        unfold freeR
        exact @decide_eq_true _ (Classical.propDecidable _) hb
      rw [e]
      exact ee_boolO opm_of fn_Free_bool (tfre "bool") (EvQ.imp (P := FreeAt K t r) (eq_call cl_free (EA.q (ea_cons (ee_var 0) (ea_cons (ee_var 1) ea_nil)) fun H1 e1 => ⟨t, r, o, x, rfl, hT.up e1, hR.up e1, fun v H' _ h => (h : FreeAt K t r v H')⟩)) fun v H1 e1 h => by
        rcases h with ⟨⟨h, hh⟩, _⟩ | ⟨_, h⟩
        · exact absurd hh (hb h)
        · exact h)
    · have e : freeR t r = false := by
        unfold freeR
        exact @decide_eq_false _ (Classical.propDecidable _) hb
      rw [e]
      exact ee_boolO opm_of fn_Barred_bool (tfre "bool") (EvQ.imp (P := FreeAt K t r) (eq_call cl_free (EA.q (ea_cons (ee_var 0) (ea_cons (ee_var 1) ea_nil)) fun H1 e1 => ⟨t, r, o, x, rfl, hT.up e1, hR.up e1, fun v H' _ h => (h : FreeAt K t r v H')⟩)) fun v H1 e1 h => by
        rcases h with ⟨_, h⟩ | ⟨h, _⟩
        · exact h
        · exact absurd h hb)
theorem LC_T {N : List Str} {sc scope : Scope} {k : Nat} {X : Cx} {σ : L2.St} {H : Hp} {e elt : Expr} {y : Str} {py : Pos} [B : Bx P w K mg base N sc k X] {l : Addr} {xs : List V} {g : Nat → V} (m : Nat) (hl : EE X e σ H (.ref l)) (hx : SqT K H l xs) (hz : xs.length ≤ 40000)
    (he : ∀ X' (i : Nat) x H1, Bx P w K mg base N (relS scope sc) k X' → Ex H H1 → xs[i]? = some x → EE X' elt (inB σ m x) H1 (g i))
    (hB : lcB N sc scope y m = true := by decide +kernel) (hN : N[m]? = some y := by rfl) (hs : ∀ z, foldedSetIterable e X.env z = pure z := by intro _; rfl) : LC X elt y py e [] scope σ H ((List.range xs.length).map g) := by
  have h : LC X elt y py e [] scope σ H (given xs.length (fun _ => true) g) := by
    refine lc_of hB hN (pi_tup pe_w) (fun s H C cl fp => pts_nil) hs ?_
    rw [B.qK]
    exact el_lcT _ _ hl hx hz (wipe1 σ m) (fun i x H1 e1 hi => et_yes) (fun i x H1 e1 hi hf => be_of fun X' B' => he X' i x H1 B' e1 hi)
  rwa [show given xs.length (fun _ => true) g = (List.range xs.length).map g by unfold given; rw [List.filter_eq_self.mpr (fun _ _ => rfl)]] at h
/-! ### Greatest.has -/
def R_has : List V → Hp → (V → Hp → Prop) → Prop := fun vs H T => ∃ (t : Tb) (rs : List Rl) (o b : V), vs = [o, b] ∧ GrAt K t o H ∧ BkAt K rs b H ∧ Gives T H (.bl (rs.all (freeR t)))
theorem mt_has [T : Tx K mg] [Px P] : Mt P w K mg base 12 (ga K "Greatest") "has" (spR (R_has (K := K))) := by
  obtain ⟨fd, F⟩ := f_Greatest_has (K := K) (mg := mg)
  refine ⟨⟨_, FnOk.raw0 (ok_fn F sc_Greatest_has ?_ ?_) (F.bindsN fun _ _ _ _ _ _ us hl => match us, hl with | [_, _], _ => rfl), tcls "Greatest", tmet "Greatest" "has"⟩⟩
  · rintro vs H T ⟨t, rs, o, b, rfl, _⟩
    rfl
  · rintro X vs H T D B _ ⟨t, rs, o, b, rfl, ⟨o2, hT, p, dp, rfl, hp⟩, ⟨rs', A, xs, m, s, r, hsame, hlen, hA, hRl, q, dq, rfl, hq⟩, ht⟩ hd _
    have hlx := hRl.len
    refine ss_ret (EE.is (ee_all (bs := (List.range xs.length).map fun i => freeR t (rs'.getD i (.down 0 0 1))) (tfre "all") (EL.is (LC.el (LC_T (g := fun i => .bl (freeR t (rs'.getD i (.down 0 0 1)))) 2 (ee_fld (ee_var 1) hq (tcls "Book") (tfld "Book" "rules") rfl) (st_of hA) (by omega) fun X' i x H1 B' e1 hi => ?_)) ?_)) ?_) fun H1 e1 => hd _ _ e1 (ht _ e1)
    · obtain ⟨r, hr, hx⟩ := hRl.get hi
      have e2 : rs'.getD i (.down 0 0 1) = r := by simp [List.getD, hr]
      rw [e2]
      exact ee_call cl_is_free (ea_cons (ee_fld (ee_var 0) (e1 _ _ hp) (tcls "Greatest") (tfld "Greatest" "table") rfl) (ea_cons (ee_var 2) ea_nil)) fun H2 e2 => ⟨t, r, _, _, rfl, hT.up (e1.trans e2), hx.up (e1.trans e2), Gives.me⟩
    · rw [List.map_map]
      rfl
    · have e : (((List.range xs.length).map fun i => freeR t (rs'.getD i (.down 0 0 1))).all id) = rs.all (freeR t) := by
        rw [Bool.eq_iff_iff, List.all_eq_true, List.all_eq_true]
        constructor
        · intro h r hr
          obtain ⟨i, hi⟩ := List.getElem?_of_mem ((hsame r).mpr hr)
          have hlt : i < xs.length := by
            rw [hlx]
            exact (List.getElem?_eq_some_iff.mp hi).1
          have := h _ (List.mem_map.mpr ⟨i, List.mem_range.mpr hlt, rfl⟩)
          rwa [show rs'.getD i (.down 0 0 1) = r by simp [List.getD, hi]] at this
        · intro h b hb
          obtain ⟨i, hi, rfl⟩ := List.mem_map.mp hb
          have hlt : i < rs'.length := by
            rw [← hlx]
            exact List.mem_range.mp hi
          refine h _ ((hsame _).mp ?_)
          rw [show rs'.getD i (.down 0 0 1) = rs'[i] by simp [List.getD, hlt]]
          exact List.getElem_mem hlt
      rw [e]
end
end Fk
set_option maxRecDepth 100000
set_option maxHeartbeats 2000000
namespace Fk
open PySem PySem.Spec PyProof.Rows L2 Evl He NdefX PySem.W PySem.Calls
section
variable {prog : Program} {w : World} {A : Around} {E : Value → Shared → Prop} {s : Shared} {K : Frag} {x C u t : Addr}
/-- ValueError.__init__ bound to an exception, called -/
theorem call_mw {rest : List Value} {Q : Value → Shared → Prop} (X : K.In s.heap) (T : OexC K C) (hu : s.heap.get? u = some (kxs_mw "ValueError.__init__" x)) (he : s.heap.get? x = some ({ cls := .ref C, dict := none, data := .fields #[.ref t, .none, .none, .none, .bool false, .none] } : Obj)) (hz : rest.length ≤ sizeLine)
    (h : ∀ t' h', (∀ b o, b ≠ x → s.heap.get? b = some o → h'.get? b = some o) → h'.get? x = some ({ cls := .ref C, dict := none, data := .fields #[.ref t', .none, .none, .none, .bool false, .none] } : Obj) → Q .none { s with heap := h' }) :
    wpAny (model prog w) A (call (.ref u) rest) Q E s := by
  obtain ⟨nm, q, N, bs, bm, sn, sub, ab, col, dd, k0, k1, k2, k3, k5, hC, hbm⟩ := T.cls
  have FB := PySem.F.excBase_ValueError
  obtain ⟨hh, g, d, tk, os⟩ := s
  refine wpAny_call (codeAny_of_tree ?_)
  show wpAny _ A.in1 (callAny (.ref u) ⟨rest, []⟩) _ _ _
  simp only [callAny]
  refine wpAny_bind (wpAny_load hu ?_)
  simp only [kxs_mw, show (Value.type "method-wrapper" == Value.type "method" || Value.type "method-wrapper" == Value.type "builtin_function_or_method" || Value.type "method-wrapper" == Value.type "method-wrapper") = true by decide, if_true]
  refine KFB.if_so (by decide) ?_
  refine wpAny_bind (check_bound_init FB.toExcCallFacts (X _ _ hC) he rfl ?_)
  refine wpAny_bind (wpAny_pure (wpAny_pure ?_))
  refine ⟨plainId_quiet FB.init.plain _, codeAny_builtin FB.initEntry ?_⟩
  exact exc_init_tree (cls := .ref C) (t0 := t) (dv := none) (c2 := .none) (c3 := .none) (b4 := .bool false) he hz fun h' k e' _ => h _ h' k e'
end
section
variable {f D C x cda cc : Addr} {params : Arguments} {body : List Stmt} {X : Cx} {σ : L2.St} {H : Hp} {s : Shared} {e : Expr} {es : List Expr} {pos apos p0 p1 : Pos} {Qv : VK}
/-- super().__init__(e, ..) of an own exception over ValueError: nothing of it is told -/
theorem sup_exc [Q : Px X.prog] {ar : Arg} {fl : List Str} {pl : Sem Bool} (F : CodeF X.K f C cda cc params) (T : XcF X.K C fl) (I : Inv X [] σ H s) (hm : X.mg "super" = none) (hfu : X.env.func = some f) (hco : X.env.code = .ref cda) (hcl : X.env.cells.lookup ("__class__" : Str) = some cc)
    (hks : X.env.scope.names.lookup ("super" : Str) = some .globalImplicit) (hkc : X.env.scope.names.lookup ("__class__" : Str) = some .free) (hp : (params.posonlyargs ++ params.args).head? = some ar) (hN : X.N[0]? = some ar.arg) (hs : σ[0]? = some (some (.ref x))) (hka : X.env.scope.names.lookup ar.arg = some .local)
    (hx : H x = some (exo x C none)) (third : nsIn X.K cStatics "thirdparty.any" = some none) (ha : wA X (e :: es) σ H fun vs H1 => vs.length ≤ 1000 ∧ H1 x = some (exo x C none) ∧ Qv .non H1)
    (he : eval (.Call (.Attribute (.Call (.Name "super" p0) [] [] p1) "__init__" apos) (e :: es) [] pos) X.env = (do
      let ov ← attributeBase (.Call (.Name "super" p0) [] [] p1) "__init__" X.env (eval (.Call (.Name "super" p0) [] [] p1) X.env)
      standAt apos.atName
      let (f, first) ← holding [ov] (getMethod ov "__init__" pl)
      callWith pos f first (backTo pos (starEach (e :: es) X.env)) []))
    (hst : starEach (e :: es) X.env = (false, eval e X.env) :: starEach es X.env) (hpl : (backTo pos (starEach es X.env)).any (·.1) = false) :
    _root_.PySem.wpAt (model X.prog X.w) X.A (.func body X.env) (eval (.Call (.Attribute (.Call (.Name "super" p0) [] [] p1) "__init__" apos) (e :: es) [] pos) X.env) (EP X [] σ Qv) X.xe s := by
  obtain ⟨t0, hxo⟩ := exo_at I.hok hx
  refine ks_wpAt_MethodCall (pl := pl) (ks_wpAt_mono (sup_obj F I hm hfu hco hcl hks hkc hp hN hs hka hxo rfl (fun c z => by cases z) T.sf) (fun v s1 ⟨so, hv, I1⟩ => ?_) fun _ _ z => z) he
  subst hv
  have KX := I1.kIn
  obtain ⟨t1, hx1⟩ := exo_at I1.hok hx
  have J : InstAt s1.heap x ({ cls := .ref C, dict := none, data := .fields #[.ref t1, .none, .none, .none, .bool false, .none] } : Obj) C none := ⟨hx1, rfl, rfl, trivial⟩
  have hm2 := T.su
  cases hc : clsIn X.K C with
  | none => unfold ks_superIn at hm2; rw [hc] at hm2; cases hm2
  | some cd =>
    unfold ks_superIn at hm2
    rw [hc] at hm2
    have hso := ClX.pin_at I1
    have hxC := ks_ne KX J hc
    have hI : Looks (model X.prog X.w) s1.heap (isInstance (.ref x) (.type "ValueError")) true := J.type.andThen (looks_subIn KX T.sv)
    obtain ⟨hh, g, d, t, os⟩ := s1
    refine kxs_getMethod kxs_ValueError hso (looks_opaque KX third) (l₀ := cd.mro) (fun A Q E s k q => wpAny_bind ((looks_clsIn KX hc) A _ E s k (wpAny_pure q))) rfl KX hm2 hI hxC (by decide) ?_
    have I2 := ClX.pin_new (t' := t + 1) (o := kxs_mw "ValueError.__init__" x) (h' := hh.push (kxs_mw "ValueError.__init__" x)) (ClX.unpin I1) (fun b o e => Heap.get?_push_of_some _ e) (Nat.le_refl _) (Heap.get?_push_size hh rfl) (fun v z => by cases z)
    show wpAny _ _ (callWith pos (.ref hh.objs.size) [] (backTo pos (starEach (e :: es) X.env)) []) _ _ _
    have z := pa_w.run pos _ _ σ H _ I2 ha
    rw [hst] at z ⊢
    refine kxs_callWith (i := "ValueError.__init__") (x := x) (by show (false || (backTo pos (starEach es X.env)).any (·.1)) = false; rw [hpl]; rfl) ?_
    refine evalArgs_plain (thn z fun us s3 ⟨vs, H2, I3, rv, hl, hx3, q⟩ => ?_)
    have hu := ClX.pin_at I3
    refine ⟨hu, ?_⟩
    obtain ⟨t3, hx3o⟩ := exo_at I3.hok hx3
    have hlen : us.length ≤ sizeLine := by
      rw [← Paired.length rv, sizeLine_eq]
      omega
    refine call_mw (K := X.K) I3.kIn T.ox hu hx3o hlen fun t' h' k hx' => ?_
    obtain ⟨hh3, g3, d3, tk3, os3⟩ := s3
    have J3 := (ClX.unpin I3).write (t' := tk3) (x := x) (e := x) (o := exo x C none) (by rw [hx3]; exact True.intro) (.inl rfl) k ⟨_, hx'⟩ (exo_ok hx')
    have eu : upd H2 x (exo x C none) = H2 := by
      funext b
      by_cases hb : b = x
      · rw [hb, upd_same, hx3]
      · rw [upd_ne hb]
    rw [eu] at J3
    exact ⟨.non, H2, J3, rfl, q⟩
end
end Fk
set_option maxRecDepth 100000
set_option maxHeartbeats 2000000
namespace Fk
open PySem PySem.Spec PyProof.Rows L2 Evl He NdefX PySem.W PySem.Calls
/-- what __init__ leaves: the exception at a has its dict at d, with these fields; all else is kept -/
def XEnd (a C : Addr) (fs : List (Str × V)) (H : Hp) (Q : VK) : Prop := ∀ d H2, H d = none → d ≠ a → (∀ b o, b ≠ a → H b = some o → H2 b = some o) → H2 a = some (exo a C (some d)) → H2 d = some (exd d fs) → Q .non H2
def spX1 (C : Addr) (f : Str) : Sp := fun vs H Q _ => ∃ a v, vs = [.ref a, v] ∧ H a = some (exo a C none) ∧ XEnd a C [(f, v)] H Q
def spX2 (C : Addr) (f g : Str) : Sp := fun vs H Q _ => ∃ a v u, vs = [.ref a, v, u] ∧ H a = some (exo a C none) ∧ XEnd a C [(g, u), (f, v)] H Q
theorem sc_BadRule : NScope N_BadRule_init ["self", "part"] ["__class__"] (defScope s_BadRule_init) := nscope_by (by decide +kernel)
theorem sc_TooMany : NScope N_TooMany_init ["self", "what", "most"] ["__class__"] (defScope s_TooMany_init) := nscope_by (by decide +kernel)
section
variable {P : Program} {w : World} {K : Frag} {mg : Str → Option Value} {base : Heap} {N : List Str} {sc : Scope} {k : Nat} {X : Cx} {σ : L2.St} {H : Hp} {a C dx : Addr} {f : Str} {v : V} {o e : Expr} {pos pos' : Pos} {rest : List Stmt} {D : Ends} {fs : List (Str × V)}
/-- self.f = e, the first one -/
theorem ss_xfst [B : Bx P w K mg base N sc k X] (T : OexC K C) (hno : findIn K (.ref C) f = some none) (ha : H a = some (exo a C none)) (ho : EE X o σ H (.ref a)) (he : EE X e σ H v) (r : ∀ d H2, H d = none → d ≠ a → (∀ b o, b ≠ a → H b = some o → H2 b = some o) → H2 a = some (exo a C (some d)) → H2 d = some (exd d [(f, v)]) → SS X rest D σ H2)
    (hs : swapsWith e (some (.Attribute o f pos')) pos.line X.env = pure false := by rfl) : SS X (.Assign [.Attribute o f pos'] e pos :: rest) D σ H := fun H1 e1 =>
  wss_cons (ps_ost pe_w pe_w hs) (he H1 e1 _ fun H2 e2 => ho H2 (e1.trans e2) _ fun H3 e3 => ⟨a, C, rfl, by rw [B.qK]; exact T, by rw [B.qK]; exact hno, .inl ⟨e3 _ _ (e2 _ _ (e1 _ _ ha)), fun d hd hda => r d _ (fresh_back ((e1.trans e2).trans e3) hd) hda (fun b ob hb h => by
    rw [upd_ne hb, upd_ne (ne_of_none (e3 _ _ (e2 _ _ (e1 _ _ h))) hd)]
    exact e3 _ _ (e2 _ _ (e1 _ _ h))) upd_same (by rw [upd_ne hda]; exact upd_same) _ (Ex.refl _)⟩⟩)
/-- a further one -/
theorem ss_xfld [B : Bx P w K mg base N sc k X] (T : OexC K C) (hno : findIn K (.ref C) f = some none) (ha : H a = some (exo a C (some dx))) (hd : H dx = some (exd dx fs)) (hl : fs.length ≤ 900) (hda : dx ≠ a) (ho : EE X o σ H (.ref a)) (he : EE X e σ H v) (r : ∀ H2, (∀ b o, b ≠ dx → H b = some o → H2 b = some o) → H2 dx = some (exd dx ((f, v) :: fs)) → SS X rest D σ H2)
    (hs : swapsWith e (some (.Attribute o f pos')) pos.line X.env = pure false := by rfl) : SS X (.Assign [.Attribute o f pos'] e pos :: rest) D σ H := fun H1 e1 =>
  wss_cons (ps_ost pe_w pe_w hs) (he H1 e1 _ fun H2 e2 => ho H2 (e1.trans e2) _ fun H3 e3 => ⟨a, C, rfl, by rw [B.qK]; exact T, by rw [B.qK]; exact hno, .inr ⟨dx, fs, e3 _ _ (e2 _ _ (e1 _ _ ha)), e3 _ _ (e2 _ _ (e1 _ _ hd)), hl, r _ (fun b ob hb h => by
    rw [upd_ne hb]
    exact e3 _ _ (e2 _ _ (e1 _ _ h))) upd_same _ (Ex.refl _)⟩⟩)
end
section
variable {P : Program} {w : World} {K : Frag} {mg : Str → Option Value} {base : Heap}
theorem fn_BadRule [T : Tx K mg] [Q : Px P] : FnR P w K mg base CX0 2 (ma K (ga K "BadRule") "__init__") (spX1 (ga K "BadRule") "part") := by
  refine fn_sup (k := 1) u_BadRule sc_BadRule (fun doc pm an cda cc ct us h => match us, h with | [_, _], _ => rfl) ?_ ?_
  · rintro vs H Q E ⟨a, v, rfl, _⟩
    rfl
  · rintro cda cc X H vs Qv E s1 F B C ⟨a, v, rfl, ha, hq⟩ I
    obtain ⟨rfl, rfl, rfl, rfl, rfl, qN, _, qs, _, hr⟩ := id B
    have sc : ∀ {y : Str} {z : NameKind}, (defScope s_BadRule_init).names.lookup y = some z → X.env.scope.names.lookup y = some z := fun h => by
      rw [qs]
      exact h
    refine body_sup (sup_exc (Qv := fun _ H' => Ex H H') F (x_BadRule (K := X.K) (mg := X.mg)) I (tfre "super") C.fu C.co C.cl (sc (by decide +kernel)) (sc (by decide +kernel)) rfl (by rw [qN]; rfl) rfl (sc (by decide +kernel)) ha t_third ?_ rfl rfl rfl) (fun v' H' e' => ?_) C.it
    · exact (show EA X _ _ H [_] from ea_cons ee_str ea_nil) H (Ex.refl H) _ fun H1 e1 => ⟨by simp, e1 _ _ ha, e1⟩
    · refine (show SS X _ _ _ H' from ?_) H' (Ex.refl H')
      refine ss_xfst x_BadRule.ox (x_BadRule.no "part" (by simp)) (e' _ _ ha) (ee_var 0) (ee_var 1) fun d H2 hd hda hk h2a h2d => ss_nil fun H3 e3 => ?_
      exact hq d H3 (fresh_back e' hd) hda (fun b o hb h => e3 _ _ (hk b o hb (e' _ _ h))) (e3 _ _ h2a) (e3 _ _ h2d)
theorem fn_TooMany [T : Tx K mg] [Q : Px P] : FnR P w K mg base CX0 2 (ma K (ga K "TooMany") "__init__") (spX2 (ga K "TooMany") "what" "most") := by
  refine fn_sup (k := 1) u_TooMany sc_TooMany (fun doc pm an cda cc ct us h => match us, h with | [_, _, _], _ => rfl) ?_ ?_
  · rintro vs H Q E ⟨a, v, u, rfl, _⟩
    rfl
  · rintro cda cc X H vs Qv E s1 F B C ⟨a, v, u, rfl, ha, hq⟩ I
    obtain ⟨rfl, rfl, rfl, rfl, rfl, qN, _, qs, _, hr⟩ := id B
    have sc : ∀ {y : Str} {z : NameKind}, (defScope s_TooMany_init).names.lookup y = some z → X.env.scope.names.lookup y = some z := fun h => by
      rw [qs]
      exact h
    refine body_sup (sup_exc (Qv := fun _ H' => Ex H H') F (x_TooMany (K := X.K) (mg := X.mg)) I (tfre "super") C.fu C.co C.cl (sc (by decide +kernel)) (sc (by decide +kernel)) rfl (by rw [qN]; rfl) rfl (sc (by decide +kernel)) ha t_third ?_ rfl rfl rfl) (fun v' H' e' => ?_) C.it
    · exact (show EA X _ _ H [_] from ea_cons ee_str ea_nil) H (Ex.refl H) _ fun H1 e1 => ⟨by simp, e1 _ _ ha, e1⟩
    · refine (show SS X _ _ _ H' from ?_) H' (Ex.refl H')
      refine ss_xfst x_TooMany.ox (x_TooMany.no "what" (by simp)) (e' _ _ ha) (ee_var 0) (ee_var 1) fun d H2 hd hda hk h2a h2d => ?_
      refine ss_xfld x_TooMany.ox (x_TooMany.no "most" (by simp)) h2a h2d (by simp) hda (ee_var 0) (ee_var 2) fun H4 hk4 h4d => ss_nil fun H3 e3 => ?_
      exact hq d H3 (fresh_back e' hd) hda (fun b o hb h => e3 _ _ (hk4 b o (ne_of_none (e' _ _ h) hd) (hk b o hb (e' _ _ h)))) (e3 _ _ (hk4 _ _ (Ne.symm hda) h2a)) (e3 _ _ h4d)
end
end Fk
set_option maxRecDepth 100000
set_option maxHeartbeats 2000000
namespace Fk
open PySem PySem.Spec PyProof.Rows L2 Evl He PySem.W PySem.Calls
section
variable {X : Cx} {x : Str} {C fI : Addr} {k : Nat} {sp : Sp} {e : Expr} {es : List Expr} {ta : TA} {p pos : Pos}
/-- C(e, ..), an own exception whose __init__ keeps sp -/
theorem pmk_x (T : OexC X.K C) (iC : findIn X.K (.ref C) "__init__" = some (some (.ref fI))) (tI : typeIn X.K (.ref fI) = some (.type "function")) (F : FnR X.prog X.w X.K X.mg X.base CX0 k fI sp) (hr : Room (k + 1) X.A) (hg : Gl X x) (hm : X.mg x = some (.ref C)) (ha : PA X (e :: es) ta)
    (hdb : (x == ("__debug__" : Str)) = false) (he : starEach (e :: es) X.env = (false, eval e X.env) :: starEach es X.env) (hpl : (backTo pos (starEach es X.env)).any (·.1) = false) : PMk X (.Call (.Name x p) (e :: es) [] pos) (tMkO C sp [] ta) := by
  intro pins s σ H Q I h
  obtain ⟨nm, q, N, bs, bm, sn, sub, ab, col, dd, k0, k1, k2, k3, k5, hC, hbm⟩ := T.cls
  refine wpAny_Call_Name_kw (ld_glob I hg hm ?_ hdb)
  refine PySem.W.callWith_K (h₀ := X.base) I.ok.mod.kin T.kC (thn (ha.run pos pins s σ H _ I h) fun us s1 ⟨vs, H1, I1, r1, hz, q1⟩ => ⟨I1.kIn, ?_⟩) he hpl
  show wpAny _ _ (call (.ref C) us) _ _ _
  obtain ⟨hp, g, dr, tk, os⟩ := s1
  have hsz : hp.objs.size ≤ hp.objs.size + 1 := Nat.le_succ _
  have hn : H1 (hp.objs.size + 1) = none := I1.hok.fresh hsz
  have hq := q1 (hp.objs.size + 1) hn
  rw [List.append_nil] at hq
  have kk : ∀ b o, hp.get? b = some o → ((hp.push (kdv_tup us)).push (HandSPX.excO C hp.objs.size)).get? b = some o := fun b o e => Heap.get?_push_of_some _ (Heap.get?_push_of_some _ e)
  have hget : ((hp.push (kdv_tup us)).push (HandSPX.excO C hp.objs.size)).get? (hp.objs.size + 1) = some (HandSPX.excO C hp.objs.size) := by heap_get
  have I2 : Inv X pins σ (upd H1 (hp.objs.size + 1) (exo (hp.objs.size + 1) C none)) ⟨(hp.push (kdv_tup us)).push (HandSPX.excO C hp.objs.size), g, dr, tk, os⟩ :=
    I1.laid (t' := tk) (a := hp.objs.size + 1) (o := exo (hp.objs.size + 1) C none) (h' := (hp.push (kdv_tup us)).push (HandSPX.excO C hp.objs.size)) kk hsz (exo_ok hget)
  have r2 : Vals (V.ref (hp.objs.size + 1) :: vs) (Value.ref (hp.objs.size + 1) :: us) := .cons rfl r1
  have hus : us.length ≤ sizeLine := by
    rw [← Paired.length r1, sizeLine_eq]
    omega
  refine wpAny_call (HandSPX.call_own PySem.F.excBase_ValueError (fun Y => HandSPX.refsVE_contains Y bm hbm) (I1.kIn _ _ hC) (looks_findIn I1.kIn iC) (fun self => bind_fn I1.kIn self tI) hus
    (codeAny_mono (F _ X.stack _ _ (Value.ref (hp.objs.size + 1) :: us) _ _ (fun _ _ _ => False) (hr.make C us []) (I2.env0.make C us []) r2 hq) fun r s' hq' => ?_))
  cases r with
  | error er => exact hq'.elim
  | ok fl =>
    cases fl with
    | ret u =>
      obtain ⟨v, H2, os2, bare2, un2, hok2, rv, ev, d, fs, ea, ed, hd1, q2⟩ := hq'
      subst ev
      obtain ⟨h2, g2, d2, t2, os'⟩ := s'
      exact ⟨rv, mk_end (raises_own T.exC T.tyC) I1 hsz kk un2 hok2 os2 bare2 ea ed hd1 q2⟩
    | next => exact False.elim hq'
    | brk => exact False.elim hq'
    | cont => exact False.elim hq'
end
/-! ### what leaves a def: an exception of class C whose dict holds fs -/
/-- in the heap behind it: its dict at d, new; all that stood before is kept -/
def XQ (H : Hp) (C : Addr) (fs : List (Str × V)) (E : XK) : Prop := ∀ d H', H d = none → Ex H H' → H' d = some (.xd fs) → E (.ref C) (some d) H'
section
variable {P : Program} {w : World} {K : Frag} {mg : Str → Option Value} {base : Heap} {N : List Str} {sc : Scope} {j k : Nat} {X : Cx} {σ : L2.St} {H : Hp} {e a b : Expr} {es : List Expr} {v u : V} {pos pos' pos2 : Pos} {rest : List Stmt} {D : Ends} {W : WX}
/-- raise BadRule(e) -/
theorem ss_badRule [B : Bx P w K mg base N sc k X] [T : Tx K mg] [Q : Px P] (tk : Takes X W) (h : EE X e σ H v) (q : ∀ d H', H d = none → Ex H H' → H' d = some (.xd [("part", v)]) → W (.ref (ga K "BadRule")) (some d) σ H') (hj : 3 ≤ k := by decide) (hg : gloB sc "BadRule" = true := by decide +kernel)
    (he : starEach [e] X.env = (false, eval e X.env) :: starEach [] X.env := by rfl) : SS X (.Raise (some (.Call (.Name "BadRule" pos') [e] [] pos)) none pos2 :: rest) D σ H := fun H1 e1 => by
  obtain ⟨rfl, rfl, rfl, rfl, rfl, _, _, _, calm, hr⟩ := id B
  have xr := x_BadRule (K := X.K) (mg := X.mg)
  refine wss_cons (ps_raise calm tk (pmk_x (k := 2) xr.ox xr.iC xr.tI fn_BadRule (hr.mono hj) (B.gl hg) (tglo "BadRule") pa_w (gloB_ok hg).2.1 he rfl)) ?_
  refine (show EA X [e] σ H [v] from ea_cons h ea_nil he) H1 e1 _ fun H2 e2 => ⟨by simp, fun a ha => ⟨a, v, rfl, upd_same, fun d H3 hd hda hk h3a h3d => ⟨rfl, d, _, h3a, h3d, ?_, ?_⟩⟩⟩
  · rwa [upd_ne hda] at hd
  · rw [upd_ne hda] at hd
    refine q d _ (fresh_back (e1.trans e2) hd) (fun b o hb => ?_) upd_same
    have hbH : H2 b = some o := e2 _ _ (e1 _ _ hb)
    have hbd : b ≠ d := ne_of_none hbH hd
    have hba : b ≠ a := ne_of_none hbH ha
    rw [upd_ne hbd, del_ne hba]
    exact hk b o hba (by rw [upd_ne hba]; exact hbH)
/-- raise TooMany(e, e') -/
theorem ss_tooMany [B : Bx P w K mg base N sc k X] [T : Tx K mg] [Q : Px P] (tk : Takes X W) (h : EE X a σ H v) (h2 : EE X b σ H u) (q : ∀ d H', H d = none → Ex H H' → H' d = some (.xd [("most", u), ("what", v)]) → W (.ref (ga K "TooMany")) (some d) σ H') (hj : 3 ≤ k := by decide) (hg : gloB sc "TooMany" = true := by decide +kernel)
    (he : starEach [a, b] X.env = (false, eval a X.env) :: starEach [b] X.env := by rfl) (he2 : starEach [b] X.env = (false, eval b X.env) :: starEach [] X.env := by rfl) (hpl : (backTo pos (starEach [b] X.env)).any (·.1) = false := by rfl) : SS X (.Raise (some (.Call (.Name "TooMany" pos') [a, b] [] pos)) none pos2 :: rest) D σ H := fun H1 e1 => by
  obtain ⟨rfl, rfl, rfl, rfl, rfl, _, _, _, calm, hr⟩ := id B
  have xr := x_TooMany (K := X.K) (mg := X.mg)
  refine wss_cons (ps_raise calm tk (pmk_x (k := 2) xr.ox xr.iC xr.tI fn_TooMany (hr.mono hj) (B.gl hg) (tglo "TooMany") pa_w (gloB_ok hg).2.1 he hpl)) ?_
  refine (show EA X [a, b] σ H [v, u] from ea_cons h (ea_cons h2 ea_nil he2) he) H1 e1 _ fun H2 e2 => ⟨by simp, fun a ha => ⟨a, v, u, rfl, upd_same, fun d H3 hd hda hk h3a h3d => ⟨rfl, d, _, h3a, h3d, ?_, ?_⟩⟩⟩
  · rwa [upd_ne hda] at hd
  · rw [upd_ne hda] at hd
    refine q d _ (fresh_back (e1.trans e2) hd) (fun b o hb => ?_) upd_same
    have hbH : H2 b = some o := e2 _ _ (e1 _ _ hb)
    have hbd : b ≠ d := ne_of_none hbH hd
    have hba : b ≠ a := ne_of_none hbH ha
    rw [upd_ne hbd, del_ne hba]
    exact hk b o hba (by rw [upd_ne hba]; exact hbH)
end
end Fk
set_option maxRecDepth 100000
set_option maxHeartbeats 2000000
namespace Fk
open PySem PySem.Spec PyProof.Rows L2 Evl He
/-! ### defs that raise: what they let out -/
abbrev RXs := List V → Hp → XK → Prop
abbrev spE (R : RXs) : Sp := fun vs H _ E => R vs H E
/-- an expression that does not come back -/
def ER (X : Cx) (e : Expr) (σ : L2.St) (H : Hp) : Prop := ∀ H1, Ex H H1 → ∀ Q : VK, wE X e σ H1 Q
structure ClE (P : Program) (w : World) (K : PySem.W.Frag) (mg : Str → Option Value) (base : Heap) (k : Nat) (x : Str) (R : RXs) : Prop where
  ex : ∃ f : Addr, FnR P w K mg base (L2.CX P w) k f (spE R) ∧ mg x = some (.ref f) ∧ PySem.W.keepIn K (.ref f) = true
structure MtE (P : Program) (w : World) (K : PySem.W.Frag) (mg : Str → Option Value) (base : Heap) (k : Nat) (C : Addr) (m : Str) (R : RXs) : Prop where
  ex : ∃ f : Addr, FnR P w K mg base (L2.CX P w) k f (spE R) ∧ Cls K C ∧ Meth K C m f
structure MaE (P : Program) (w : World) (K : PySem.W.Frag) (mg : Str → Option Value) (base : Heap) (k : Nat) (x : Str) (C : Addr) (R : RXs) : Prop where
  ex : ∃ f : Addr, FnR P w K mg base (L2.CX P w) k f (spE R) ∧ Mk K C f ∧ mg x = some (.ref C)
section
variable {P : Program} {w : World} {K : PySem.W.Frag} {mg : Str → Option Value} {base : Heap} {x qual : Str} {params : Arguments} {body : List Stmt} {scope : Scope} {dvs : List V} {f : Addr} {fd : FuncData} {N ps : List Str} {k : Nat} {R : RXs}
theorem ok_fnX (F : FunD K x qual params body scope dvs [] f fd) (S : FnScope N ps scope) (len : ∀ vs H E, R vs H E → vs.length = ps.length)
    (hb : ∀ (X : Cx) (vs : List V) (H : Hp) (E : XK) (D : Ends), Bx P w K mg base N scope k X → Dx X → Takes X (fun cls d _ H => E cls d H) → R vs H E → SS X body D (start N vs) H) : FnOk P w K mg base (L2.CX P w) (k + 1) f fd ps (spE R) :=
  F.ok S (fun vs H Q E h => len vs H E h) fun cdv A outer s H vs Q E hr hsp => ⟨_, pss_w, hb (cxOf (L2.CX P w) P w K mg base N qual scope f cdv A outer s H E) vs H E _ ⟨rfl, rfl, rfl, rfl, rfl, rfl, S.nd, rfl, rfl, hr⟩ ⟨passes_of rfl, fun _ => rfl⟩ (takes_of rfl rfl rfl rfl) hsp H (Ex.refl H)⟩
theorem FnOk.rawE {ds : List Value} {dv : List V} (F : FnOk P w K mg base (L2.CX P w) k f fd ps (spE R)) (hb : Binds K fd ps ds) (hd : Vals dv ds) : FnR P w K mg base (L2.CX P w) k f (spE fun vs => R (vs ++ dv)) := F.raw hb hd
end
section
variable {P : Program} {w : World} {K : PySem.W.Frag} {mg : Str → Option Value} {base : Heap} {N : List Str} {sc : Scope} {j k : Nat} {X : Cx} {σ : L2.St} {H : Hp} {e o : Expr} {es : List Expr} {x m : Str} {vs : List V} {pos pos' apos : Pos} {R : RXs} {E : XK} {C p dx : Addr} {fs : List (Str × V)} {rest : List Stmt} {D : Ends}
theorem pass_of (tk : Takes X fun cls d _ H => E cls d H) : Passes (L2.CX X.prog X.w) X E := passes_call tk fun _ _ _ _ h => h
/-- f(e, ..) -/
theorem er_call [B : Bx P w K mg base N sc k X] (tk : Takes X fun cls d _ H => E cls d H) (c : ClE P w K mg base j x R) (ha : EA X (e :: es) σ H vs) (hR : ∀ H1, Ex H H1 → R vs H1 E) (hj : j ≤ k := by decide) (hg : gloB sc x = true := by decide +kernel) (he : starEach (e :: es) X.env = (false, eval e X.env) :: starEach es X.env := by rfl) (hpl : (backTo pos (starEach es X.env)).any (·.1) = false := by rfl) : ER X (.Call (.Name x pos') (e :: es) [] pos) σ H := by
  obtain ⟨f, F, hm, kp⟩ := c.ex
  obtain ⟨rfl, rfl, rfl, rfl, rfl, _, _, _, _, hr⟩ := id B
  intro H1 e1 Q pins s I
  refine wpAny_Call_Name_kw (ld_glob I (B.gl hg) hm ?_ (gloB_ok hg).2.1)
  refine PySem.W.callWith_K (h₀ := X.base) I.ok.mod.kin kp (thn (pa_w.run pos pins s σ H1 _ I (ha H1 e1 (fun us H2 => us = vs ∧ Ex H1 H2) fun H2 e2 => ⟨rfl, e2⟩)) fun us s1 ⟨vs', H2, I1, r, hv, e2⟩ => ⟨I1.kIn, ?_⟩) he hpl
  subst hv
  exact wpAny_call (run_fnR F (hr.mono hj) (pass_of tk) I1 r (hR H2 (e1.trans e2)))
/-- o.m(e, ..) -/
theorem er_meth [B : Bx P w K mg base N sc k X] {pl : Sem Bool} (tk : Takes X fun cls d _ H => E cls d H) (c : MtE P w K mg base j C m R) (ho : EE X o σ H (.ref p)) (hp : H p = some (.ins C dx fs)) (hl : fs.lookup m = none) (ha : EA X (e :: es) σ H vs) (hR : ∀ H1, Ex H H1 → R (.ref p :: vs) H1 E) (hj : j ≤ k := by decide)
    (hst : starEach (e :: es) X.env = (false, eval e X.env) :: starEach es X.env := by rfl) (hpl : (backTo pos (starEach es X.env)).any (·.1) = false := by rfl)
    (ht : eval (.Call (.Attribute o m apos) (e :: es) [] pos) X.env = (do
      let ov ← eval o X.env
      standAt apos.atName
      let (f, first) ← holding [ov] (getMethod ov m pl)
      callWith pos f first (backTo pos (starEach (e :: es) X.env)) (backToKw pos (keywordEach [] X.env))) := by rfl) : ER X (.Call (.Attribute o m apos) (e :: es) [] pos) σ H := by
  obtain ⟨f, F, hc, hm⟩ := c.ex
  obtain ⟨rfl, rfl, rfl, rfl, rfl, _, _, _, _, hr⟩ := id B
  intro H1 e1 Q
  exact wE.of (pe_methR (pl := pl) pe_w hc hm F (hr.mono hj) (pass_of tk) pa_w hst hpl ht) (ho H1 e1 _ fun H2 e2 => ⟨p, dx, fs, rfl, e2 _ _ (e1 _ _ hp), hl, ha H2 (e1.trans e2) _ fun H3 e3 => hR H3 ((e1.trans e2).trans e3)⟩)
/-- o.m() -/
theorem er_meth0 [B : Bx P w K mg base N sc k X] {pl : Sem Bool} (tk : Takes X fun cls d _ H => E cls d H) (c : MtE P w K mg base j C m R) (ho : EE X o σ H (.ref p)) (hp : H p = some (.ins C dx fs)) (hl : fs.lookup m = none) (hR : ∀ H1, Ex H H1 → R [.ref p] H1 E) (hj : j ≤ k := by decide)
    (ht : eval (.Call (.Attribute o m apos) [] [] pos) X.env = (do
      let ov ← eval o X.env
      standAt apos.atName
      let (f, first) ← holding [ov] (getMethod ov m pl)
      callWith pos f first (backTo pos (starEach [] X.env)) (backToKw pos (keywordEach [] X.env))) := by rfl) : ER X (.Call (.Attribute o m apos) [] [] pos) σ H := by
  obtain ⟨f, F, hc, hm⟩ := c.ex
  obtain ⟨rfl, rfl, rfl, rfl, rfl, _, _, _, _, hr⟩ := id B
  intro H1 e1 Q pins s I
  refine PySem.W.methodCall_KW (pl := pl) (thn (pe_w.run pins s σ H1 (fun x H2 => x = .ref p ∧ Ex H1 H2) I (ho H1 e1 _ fun H2 e2 => ⟨rfl, e2⟩)) fun u s1 ⟨x, H2, I1, rx, ex, e2⟩ => ?_) ht
  subst ex
  obtain rfl : u = Value.ref p := rx
  refine getmeth_ok I1 (e2 _ _ (e1 _ _ hp)) hc hm hl ?_
  exact PySem.W.callWith_K0 (first := [.ref p]) I1.kIn hm.kp (wpAny_call (run_fnR (us := [.ref p]) (vs := [.ref p]) F (hr.mono hj) (pass_of tk) I1 (.cons rfl .nil) (hR H2 (e1.trans e2))))
/-- C(e, ..) -/
theorem er_make [B : Bx P w K mg base N sc k X] (tk : Takes X fun cls d _ H => E cls d H) (c : MaE P w K mg base j x C R) (ha : EA X (e :: es) σ H vs) (hR : ∀ H1, Ex H H1 → ∀ x dx, H1 x = none → H1 dx = none → dx ≠ x → R (.ref x :: vs) (upd (upd H1 dx (.own x)) x (.ins C dx [])) E) (hj : j + 1 ≤ k := by decide) (hg : gloB sc x = true := by decide +kernel) (he : starEach (e :: es) X.env = (false, eval e X.env) :: starEach es X.env := by rfl) (hpl : (backTo pos (starEach es X.env)).any (·.1) = false := by rfl) : ER X (.Call (.Name x pos') (e :: es) [] pos) σ H := by
  obtain ⟨f, F, M, hm⟩ := c.ex
  obtain ⟨rfl, rfl, rfl, rfl, rfl, _, _, _, _, hr⟩ := id B
  intro H1 e1 Q
  exact wE.of (StX.pe_makeR M F (hr.mono hj) (B.gl hg) hm (pass_of tk) pa_w (gloB_ok hg).2.1 he hpl) (ha H1 e1 _ fun H2 e2 x dx h1 h2 h3 => hR H2 (e1.trans e2) x dx h1 h2 h3)
/-! statements -/
theorem ss_erX (h : ER X e σ H) (hs : swapsWith e none pos.line X.env = pure false := by rfl) : SS X (.Expr e pos :: rest) D σ H := fun H1 e1 => wss_cons (ps_expr pe_w hs) (h H1 e1 _)
theorem ss_erR (h : ER X e σ H) : SS X (.Return (some e) pos :: rest) D σ H := fun H1 e1 => wss_cons (ps_ret pe_w) (h H1 e1 _)
theorem ss_erS [B : Bx P w K mg base N sc k X] [G : Dx X] (m : Nat) (h : ER X e σ H) (hN : N[m]? = some x := by rfl) (hv : locB sc x = true := by decide +kernel) (hs : swapsWith e (some (.Name x pos')) pos.line X.env = pure false := by rfl) : SS X (.Assign [.Name x pos'] e pos :: rest) D σ H := fun H1 e1 => wss_cons (ps_set B.ndx (B.ix hN) (B.loc hv) pe_w hs (.inl (G.fn x))) (h H1 e1 _)
end
end Fk
set_option maxRecDepth 100000
set_option maxHeartbeats 2000000
namespace Fk
open PySem PySem.Spec PyProof.Rows L2 Evl He
theorem rawE0 {P : Program} {w : World} {K : PySem.W.Frag} {mg : Str → Option Value} {base : Heap} {k : Nat} {f : Addr} {fd : FuncData} {ps : List Str} {R : RXs} (F : FnOk P w K mg base (L2.CX P w) k f fd ps (spE R)) (hb : L2.Binds K fd ps []) : FnR P w K mg base (L2.CX P w) k f (spE R) := (F.raw hb .nil).imp fun vs H Q E h => by
  show spE R (vs ++ []) H Q E
  rw [List.append_nil]
  exact h
theorem XQ.mono {H H1 : Hp} {C : Addr} {fs : List (Str × V)} {E : XK} (h : XQ H C fs E) (e : Ex H H1) : XQ H1 C fs E := fun d H' hd e' hx => h d H' (fresh_back e hd) (e.trans e') hx
section
variable {P : Program} {w : World} {K : PySem.W.Frag} {mg : Str → Option Value} {base : Heap}
def X_need_part : RXs := fun vs H E => ∃ (v l m : Int) (x : Str), vs = [.int v, .int l, .int m, .str x] ∧ ¬ (l ≤ v ∧ v ≤ m) ∧ XQ H (ga K "BadRule") [("part", .str x)] E
theorem ce_need_part [T : Tx K mg] [Px P] : ClE P w K mg base 4 "need_part" (X_need_part (K := K)) := by
  obtain ⟨fd, F⟩ := f_need_part (K := K) (mg := mg)
  refine ⟨⟨_, rawE0 (ok_fnX F sc_need_part ?_ ?_) (F.bindsN fun _ _ _ _ _ _ us hl => match us, hl with | [_, _, _, _], _ => rfl), tglo "need_part", F.kp⟩⟩
  · rintro vs H E ⟨v, l, m, x, rfl, _⟩
    rfl
  · rintro X vs H E D B _ tk ⟨v, l, m, x, rfl, hn, hx⟩
    refine ss_when (y := true) (ET.is (et_not (et_val (ee_call (v := .bl (decide (l ≤ v) && decide (v ≤ m))) cl_is_integer (ea_cons (ee_var 0) (ea_cons (ee_var 1) (ea_cons (ee_var 2) ea_nil))) fun H1 _ => ⟨v, l, m, rfl, Gives.me⟩))) ?_) (fun _ => ?_) fun h => Bool.noConfusion h
    · rw [← Bool.decide_and, decide_eq_false hn]
      rfl
    · exact ss_badRule tk (ee_var 3) fun d H' hd e' h' => hx d H' hd e' h'
/-- Rested.__init__ refuses -/
def X_Rested : RXs := fun vs H E => ∃ (o : V) (r m : Int) (x : Str), vs = [o, .int r, .int m] ∧ ((¬ (1 ≤ m ∧ m ≤ 6) ∧ x = "modulus") ∨ ((1 ≤ m ∧ m ≤ 6) ∧ ¬ (0 ≤ r ∧ r ≤ m - 1) ∧ x = "rest")) ∧ XQ H (ga K "BadRule") [("part", .str x)] E
theorem fe_Rested [T : Tx K mg] [Px P] : FnR P w K mg base (L2.CX P w) 5 (ma K (ga K "Rested") "__init__") (spE (X_Rested (K := K))) := by
  obtain ⟨fd, F⟩ := f_Rested_init (K := K) (mg := mg)
  refine rawE0 (ok_fnX F sc_Rested_init ?_ ?_) (F.bindsN fun _ _ _ _ _ _ us hl => match us, hl with | [_, _, _], _ => rfl)
  · rintro vs H E ⟨o, r, m, x, rfl, _⟩
    rfl
  · rintro X vs H E D B _ tk ⟨o, r, m, x, rfl, hc, hx⟩
    rcases hc with ⟨hm, rfl⟩ | ⟨hm, hr, rfl⟩
    · exact ss_erX (er_call tk ce_need_part (ea_cons (ee_var 2) (ea_cons ee_int (ea_cons (ee_num (tint "MOST_MODULUS" 6)) (ea_cons ee_str ea_nil)))) fun H1 e1 => ⟨m, 1, 6, _, rfl, hm, hx.mono e1⟩)
    · refine ss_drop (ee_call (v := .non) cl_need_part (ea_cons (ee_var 2) (ea_cons ee_int (ea_cons (ee_num (tint "MOST_MODULUS" 6)) (ea_cons ee_str ea_nil)))) fun H1 _ => ⟨m, 1, 6, _, rfl, hm.1, hm.2, Gives.me⟩) ?_
      exact ss_erX (er_call tk ce_need_part (ea_cons (ee_var 1) (ea_cons ee_int (ea_cons (ee_sub (ee_var 2) ee_int) (ea_cons ee_str ea_nil)))) fun H1 e1 => ⟨r, 0, m - 1, _, rfl, hr, hx.mono e1⟩)
/-- Sized.__init__ refuses the leave -/
def X_Sized : RXs := fun vs H E => ∃ (o : V) (s l : Int), vs = [o, .int s, .int l] ∧ (1 ≤ s ∧ s ≤ 400) ∧ ¬ (0 ≤ l ∧ l ≤ 400) ∧ XQ H (ga K "BadRule") [("part", .str "leave")] E
theorem fe_Sized [T : Tx K mg] [Px P] : FnR P w K mg base (L2.CX P w) 5 (ma K (ga K "Sized") "__init__") (spE (X_Sized (K := K))) := by
  obtain ⟨fd, F⟩ := f_Sized_init (K := K) (mg := mg)
  refine rawE0 (ok_fnX F sc_Sized_init ?_ ?_) (F.bindsN fun _ _ _ _ _ _ us hl => match us, hl with | [_, _, _], _ => rfl)
  · rintro vs H E ⟨o, s, l, rfl, _⟩
    rfl
  · rintro X vs H E D B _ tk ⟨o, s, l, rfl, hs, hl, hx⟩
    refine ss_drop (ee_call (v := .non) cl_need_part (ea_cons (ee_var 1) (ea_cons ee_int (ea_cons (ee_num (tint "MOST_NUMBER" 400)) (ea_cons ee_str ea_nil)))) fun H1 _ => ⟨s, 1, 400, _, rfl, hs.1, hs.2, Gives.me⟩) ?_
    exact ss_erX (er_call tk ce_need_part (ea_cons (ee_var 2) (ea_cons ee_int (ea_cons (ee_num (tint "MOST_NUMBER" 400)) (ea_cons ee_str ea_nil)))) fun H1 e1 => ⟨l, 0, 400, _, rfl, hl, hx.mono e1⟩)
end
end Fk
set_option maxRecDepth 100000
set_option maxHeartbeats 2000000
namespace Fk
open PySem PySem.Spec PyProof.Rows L2 Evl He
section
variable {P : Program} {w : World} {K : PySem.W.Frag} {mg : Str → Option Value} {base : Heap} {N : List Str} {sc : Scope} {j k : Nat} {X : Cx} {σ : L2.St} {H : Hp} {o e : Expr} {es : List Expr} {vs : List V} {m : Str} {pos apos : Pos} {rest : List Stmt} {D : Ends} {C f p : Addr} {R : RXs} {E : XK}
/-- C.m(e, ..), m a def of the class at C, as a function -/
theorem er_cfun [B : Bx P w K mg base N sc k X] {pl : Sem Bool} (tk : Takes X fun cls d _ H => E cls d H) (r : ClX.CRead K C (.type "type")) (c : ClX.CVal K C (.type "type") m (.ref f) (.ref f) ∧ PySem.W.keepIn K (.ref f) = true) (F : FnR P w K mg base (L2.CX P w) j f (spE R)) (hj : j ≤ k) (ho : EE X o σ H (.ref C)) (ha : EA X (e :: es) σ H vs) (hR : ∀ H1, Ex H H1 → R vs H1 E)
    (hst : starEach (e :: es) X.env = (false, eval e X.env) :: starEach es X.env := by rfl) (hpl : (backTo pos (starEach es X.env)).any (·.1) = false := by rfl)
    (ht : eval (.Call (.Attribute o m apos) (e :: es) [] pos) X.env = (do
      let ov ← eval o X.env
      standAt apos.atName
      let (f, first) ← holding [ov] (getMethod ov m pl)
      callWith pos f first (backTo pos (starEach (e :: es) X.env)) (backToKw pos (keywordEach [] X.env))) := by rfl) : ER X (.Call (.Attribute o m apos) (e :: es) [] pos) σ H := by
  obtain ⟨rfl, rfl, rfl, rfl, rfl, _, _, _, _, hr⟩ := id B
  intro H1 e1 Q pins s I
  refine PySem.W.methodCall_KW (pl := pl) (thn (pe_w.run pins s σ H1 (fun x H2 => x = .ref C ∧ Ex H1 H2) I (ho H1 e1 _ fun H2 e2 => ⟨rfl, e2⟩)) fun u s1 ⟨x, H2, I1, rx, ex, e2⟩ => ?_) ht
  subst ex
  obtain rfl : u = Value.ref C := rx
  refine PySem.W.method_cls I1.kIn r.ga (ClX.getcval_ok I1 r c.1 fun s2 I2 => ?_)
  refine PySem.W.callWith_K (first := []) (h₀ := X.base) I2.ok.mod.kin c.2 (thn (pa_w.run pos pins s2 σ H2 (fun us H3 => us = vs ∧ Ex H2 H3) I2 (ha H2 (e1.trans e2) _ fun H3 e3 => ⟨rfl, e3⟩)) fun us s3 ⟨vs', H3, I3, rv, hv, e3⟩ => ⟨I3.kIn, ?_⟩) hst hpl
  subst hv
  exact wpAny_call (run_fnR F (hr.mono hj) (pass_of tk) I3 rv (hR H3 ((e1.trans e2).trans e3)))
end
/-- which part of Fixed(1, r, m, l) is refused -/
inductive BadP (r m l : Int) : Str → Prop
  | leave (h : ¬ (0 ≤ l ∧ l ≤ 400)) : BadP r m l "leave"
  | modulus (h : 0 ≤ l ∧ l ≤ 400) (h2 : ¬ (1 ≤ m ∧ m ≤ 6)) : BadP r m l "modulus"
  | rest (h : 0 ≤ l ∧ l ≤ 400) (h2 : 1 ≤ m ∧ m ≤ 6) (h3 : ¬ (0 ≤ r ∧ r ≤ m - 1)) : BadP r m l "rest"
section
variable {P : Program} {w : World} {K : PySem.W.Frag} {mg : Str → Option Value} {base : Heap}
def X_Fixed : RXs := fun vs H E => ∃ (x dx : Addr) (r m l : Int) (pt : Str) (H0 : Hp), vs = [.ref x, .int 1, .int r, .int m, .int l] ∧ H0 x = none ∧ Ex H0 H ∧ H x = some (.ins (ga K "Fixed") dx []) ∧ BadP r m l pt ∧ XQ H0 (ga K "BadRule") [("part", .str pt)] E
theorem me_Fixed [T : Tx K mg] [Px P] : MaE P w K mg base 6 "Fixed" (ga K "Fixed") (X_Fixed (K := K)) := by
  obtain ⟨fd, F⟩ := f_Fixed_init (K := K) (mg := mg)
  obtain ⟨ds, hd, hb⟩ := F.binds1 (ps := ["self", "size", "rest", "modulus", "leave"]) 5 3 (by simp) rfl fun T kV doc pm an cdv ct us its l1 l2 => match us, its, l1, l2 with | [_, _, _, _, _], [_, _, _], _, _ => ⟨_, rfl, rfl⟩
  refine ⟨⟨_, (FnOk.raw (ok_fnX (R := X_Fixed (K := K)) F sc_Fixed_init ?_ ?_) hb hd).imp fun vs H Q E h => by
    show spE _ (vs ++ []) H Q E
    rw [List.append_nil]
    exact h, tmak "Fixed", tglo "Fixed"⟩⟩
  · rintro vs H E ⟨x, dx, r, m, l, pt, H0, rfl, _⟩
    rfl
  · rintro X vs H E D B _ tk ⟨q, dq, r, m, l, pt, H0, rfl, h0, e0, hq, hbad, hx⟩
    have hH : XQ H (ga K "BadRule") [("part", .str pt)] E := hx.mono e0
    cases hbad with
    | leave h => exact ss_erX (er_cfun tk rd_Sized cf_Sized fe_Sized (by decide) (ee_obj (tglo "Sized")) (ea_cons (ee_var 0) (ea_cons (ee_var 1) (ea_cons (ee_var 4) ea_nil))) fun H1 e1 => ⟨_, 1, l, rfl, by omega, h, hH.mono e1⟩)
    | modulus h h2 =>
      refine ss_cfun (p := q) (ob := .ins (ga K "Fixed") dq (putF "leave" (.int l) (putF "size" (.int 1) []))) rd_Sized cf_Sized fn_Sized (by decide) (ee_obj (tglo "Sized")) (ea_cons (ee_var 0) (ea_cons (ee_var 1) (ea_cons (ee_var 4) ea_nil))) (fun H1 e1 Q hQ => ⟨q, _, dq, [], _, _, rfl, e1 _ _ hq, by decide, ⟨rfl, 1, l, rfl, rfl, by omega, by omega, h.1, h.2⟩, fun H' e h => hQ _ H' e h⟩) fun H1 e1 hq1 => ?_
      exact ss_erX (er_cfun tk rd_Rested cf_Rested fe_Rested (by decide) (ee_obj (tglo "Rested")) (ea_cons (ee_var 0) (ea_cons (ee_var 2) (ea_cons (ee_var 3) ea_nil))) fun H2 e2 => ⟨_, r, m, _, rfl, .inl ⟨h2, rfl⟩, hx.mono ((e1.to e0 h0).trans e2)⟩)
    | rest h h2 h3 =>
      refine ss_cfun (p := q) (ob := .ins (ga K "Fixed") dq (putF "leave" (.int l) (putF "size" (.int 1) []))) rd_Sized cf_Sized fn_Sized (by decide) (ee_obj (tglo "Sized")) (ea_cons (ee_var 0) (ea_cons (ee_var 1) (ea_cons (ee_var 4) ea_nil))) (fun H1 e1 Q hQ => ⟨q, _, dq, [], _, _, rfl, e1 _ _ hq, by decide, ⟨rfl, 1, l, rfl, rfl, by omega, by omega, h.1, h.2⟩, fun H' e h => hQ _ H' e h⟩) fun H1 e1 hq1 => ?_
      exact ss_erX (er_cfun tk rd_Rested cf_Rested fe_Rested (by decide) (ee_obj (tglo "Rested")) (ea_cons (ee_var 0) (ea_cons (ee_var 2) (ea_cons (ee_var 3) ea_nil))) fun H2 e2 => ⟨_, r, m, _, rfl, .inr ⟨h2, h3, rfl⟩, hx.mono ((e1.to e0 h0).trans e2)⟩)
/-- whole_asked: too many heaps -/
def X_whole : RXs := fun vs H E => ∃ (t : Tb) (o ro : V) (n r m l : Int), vs = [o, ro] ∧ TbAt K t o H ∧ RlAt K (.fixed n r m l) ro H ∧ ¬ (t.b + lcmZ t.p m ≤ 400) ∧ XQ H (ga K "TooMany") [("most", .int 400), ("what", .str "heaps")] E
theorem ce_whole [T : Tx K mg] [Px P] : ClE P w K mg base 4 "whole_asked" (X_whole (K := K)) := by
  obtain ⟨fd, F⟩ := f_whole_asked (K := K) (mg := mg)
  refine ⟨⟨_, rawE0 (ok_fnX F sc_whole_asked ?_ ?_) (F.bindsN fun _ _ _ _ _ _ us hl => match us, hl with | [_, _], _ => rfl), tglo "whole_asked", F.kp⟩⟩
  · rintro vs H E ⟨t, o, ro, n, r, m, l, rfl, _⟩
    rfl
  · rintro X vs H E D B _ tk ⟨t, o, ro, n, r, m, l, rfl, ⟨hto, A, hA, p, dp, rfl, hp⟩, ⟨hok, q, dq, rfl, hq⟩, hm, hx⟩
    refine ss_set 2 (ee_call cl_common (ea_cons (ee_fld (ee_var 0) hp (tcls "Table") (tfld "Table" "period") rfl) (ea_cons (ee_fld (ee_var 1) hq (tcls "Fixed") (tfld "Fixed" "modulus") rfl) ea_nil)) fun H1 _ => ⟨t.p, m, rfl, hto.hp, hok.2.2.2.2.1, Gives.me⟩) ?_
    exact ss_when (y := true) (ET.is (et_gt (ee_add (ee_fld (ee_var 0) hp (tcls "Table") (tfld "Table" "begin") rfl) (ee_var 2)) (ee_num (tint "MOST_HEAPS" 400))) (decide_eq_true (by omega))) (fun _ => ss_tooMany tk ee_str (ee_num (tint "MOST_HEAPS" 400)) fun d H' hd e' h' => hx d H' hd e' h') fun h => Bool.noConfusion h
end
end Fk
set_option maxRecDepth 100000
set_option maxHeartbeats 2000000
namespace Fk
open PySem PySem.Spec PyProof.Rows L2 Evl He
section
variable {P : Program} {w : World} {K : PySem.W.Frag} {mg : Str → Option Value} {base : Heap}
/-- what free_sizes refuses -/
def RefS (K : PySem.W.Frag) (t : Tb) (r m l : Int) (H : Hp) (E : XK) : Prop := (∃ pt, BadP r m l pt ∧ XQ H (ga K "BadRule") [("part", .str pt)] E) ∨ ((Rl.fixed 1 r m l).ok ∧ ¬ (t.b + lcmZ t.p m ≤ 400) ∧ XQ H (ga K "TooMany") [("most", .int 400), ("what", .str "heaps")] E)
theorem RefS.mono {t : Tb} {r m l : Int} {H H1 : Hp} {E : XK} (h : RefS K t r m l H E) (e : Ex H H1) : RefS K t r m l H1 E := h.imp (fun ⟨pt, h1, h2⟩ => ⟨pt, h1, h2.mono e⟩) fun ⟨h1, h2, h3⟩ => ⟨h1, h2, h3.mono e⟩
def X_free_sizes : RXs := fun vs H E => ∃ (t : Tb) (o : V) (r m l : Int), vs = [o, .int r, .int m, .int l] ∧ TbAt K t o H ∧ RefS K t r m l H E
theorem ce_free_sizes [T : Tx K mg] [Px P] : ClE P w K mg base 8 "free_sizes" (X_free_sizes (K := K)) := by
  obtain ⟨fd, F⟩ := f_free_sizes (K := K) (mg := mg)
  obtain ⟨ds, hd, hb⟩ := F.binds1 (ps := ["table", "rest", "modulus", "leave"]) 4 3 (by simp) rfl fun T kV doc pm an cdv ct us its l1 l2 => match us, its, l1, l2 with | [_, _, _, _], [_, _, _], _, _ => ⟨_, rfl, rfl⟩
  refine ⟨⟨_, (FnOk.raw (ok_fnX (R := X_free_sizes (K := K)) F sc_free_sizes ?_ ?_) hb hd).imp fun vs H Q E h => by
    show spE _ (vs ++ []) H Q E
    rw [List.append_nil]
    exact h, tglo "free_sizes", F.kp⟩⟩
  · rintro vs H E ⟨t, o, r, m, l, rfl, _⟩
    rfl
  · rintro X vs H E D B _ tk ⟨t, o, r, m, l, rfl, hT, href⟩
    have hT0 := hT
    obtain ⟨hto, A, hA, p, dp, rfl, hp⟩ := hT
    refine ss_skip (et_not (et_val (ee_isi (tfre "isinstance") (ee_var 0) (ee_obj (tglo "Table")) (.own _) (ty_Table hp) k_Table_Table))) ?_
    rcases href with ⟨pt, hbad, hx⟩ | ⟨hok, hm, hx⟩
    · exact ss_erS 4 (er_make tk me_Fixed (ea_cons ee_int (ea_cons (ee_var 1) (ea_cons (ee_var 2) (ea_cons (ee_var 3) ea_nil)))) fun H1 e1 x dx h1 h2 h3 => ⟨x, dx, r, m, l, pt, H1, rfl, h1, (Ex.new h2).trans (Ex.new (by rw [upd_ne (Ne.symm h3)]; exact h1)), upd_same, hbad, hx.mono e1⟩)
    · refine ss_setQ (R := RlAt K (.fixed 1 r m l)) 4 (EvQ.imp (eq_make (TI := fun fs _ => fs = (Rl.fixed 1 r m l).fs) ma_Fixed (EA.q (ea_cons ee_int (ea_cons (ee_var 1) (ea_cons (ee_var 2) (ea_cons (ee_var 3) ea_nil)))) fun H1 e1 => ⟨1, r, m, l, rfl, hok, fun H' e => rfl⟩)) fun v H1 e1 ⟨x, dx, fs, hv, hx, hfs⟩ => ⟨hok, x, dx, hv, by rw [hx, hfs]; rfl⟩) fun ro H1 e1 hR => ?_
      exact ss_erS 5 (er_call tk ce_whole (ea_cons (ee_var 0) (ea_cons (ee_var 4) ea_nil)) fun H2 e2 => ⟨t, _, _, 1, r, m, l, rfl, hT0.up (e1.trans e2), hR.up e2, hm, hx.mono (e1.trans e2)⟩)
def X_sizes : RXs := fun vs H E => ∃ (t : Tb) (o : V) (r m l : Int), vs = [o, .int r, .int m, .int l] ∧ GrAt K t o H ∧ RefS K t r m l H E
theorem oe_sizes [T : Tx K mg] [Px P] : ∃ fd, FunD K "sizes" "Greatest.sizes" (defArgs s_Greatest_sizes) (defBody s_Greatest_sizes) (defScope s_Greatest_sizes) [.int 0, .int 1, .int 0] [] (ma K (ga K "Greatest") "sizes") fd ∧ FnOk P w K mg base (L2.CX P w) 9 (ma K (ga K "Greatest") "sizes") fd ["self", "rest", "modulus", "leave"] (spE (X_sizes (K := K))) := by
  obtain ⟨fd, F⟩ := f_Greatest_sizes (K := K) (mg := mg)
  refine ⟨fd, F, ok_fnX F sc_Greatest_sizes ?_ ?_⟩
  · rintro vs H E ⟨t, o, r, m, l, rfl, _⟩
    rfl
  · rintro X vs H E D B _ tk ⟨t, o, r, m, l, rfl, ⟨o2, hT, p, dp, rfl, hp⟩, href⟩
    exact ss_erR (er_call tk ce_free_sizes (ea_cons (ee_fld (ee_var 0) hp (tcls "Greatest") (tfld "Greatest" "table") rfl) (ea_cons (ee_var 1) (ea_cons (ee_var 2) (ea_cons (ee_var 3) ea_nil)))) fun H1 e1 => ⟨t, o2, r, m, l, rfl, hT.up e1, href.mono e1⟩)
/-- o.sizes(r, m, l) | (r, m) | () -/
theorem me_sizes3 [T : Tx K mg] [Px P] : MtE P w K mg base 9 (ga K "Greatest") "sizes" (X_sizes (K := K)) := by
  obtain ⟨fd, F, O⟩ := oe_sizes (P := P) (w := w) (K := K) (mg := mg) (base := base)
  obtain ⟨ds, hd, hb⟩ := F.binds1 (ps := ["self", "rest", "modulus", "leave"]) 4 3 (by simp) rfl fun T kV doc pm an cdv ct us its l1 l2 => match us, its, l1, l2 with | [_, _, _, _], [_, _, _], _, _ => ⟨_, rfl, rfl⟩
  exact ⟨⟨_, (O.raw hb hd).imp fun vs H Q E h => by
    show spE _ (vs ++ []) H Q E
    rw [List.append_nil]
    exact h, tcls "Greatest", tmet "Greatest" "sizes"⟩⟩
theorem me_sizes2 [T : Tx K mg] [Px P] : MtE P w K mg base 9 (ga K "Greatest") "sizes" (fun vs => X_sizes (K := K) (vs ++ [.int 0])) := by
  obtain ⟨fd, F, O⟩ := oe_sizes (P := P) (w := w) (K := K) (mg := mg) (base := base)
  obtain ⟨ds, hd, hb⟩ := F.binds1 (ps := ["self", "rest", "modulus", "leave"]) 3 2 (by simp) rfl fun T kV doc pm an cdv ct us its l1 l2 => match us, its, l1, l2 with | [_, _, _], [_, _, _], _, _ => ⟨_, rfl, rfl⟩
  exact ⟨⟨_, (O.raw hb hd).imp fun vs H Q E h => h, tcls "Greatest", tmet "Greatest" "sizes"⟩⟩
theorem me_sizes0 [T : Tx K mg] [Px P] : MtE P w K mg base 9 (ga K "Greatest") "sizes" (fun vs => X_sizes (K := K) (vs ++ [.int 0, .int 1, .int 0])) := by
  obtain ⟨fd, F, O⟩ := oe_sizes (P := P) (w := w) (K := K) (mg := mg) (base := base)
  obtain ⟨ds, hd, hb⟩ := F.binds1 (ps := ["self", "rest", "modulus", "leave"]) 1 0 (by simp) rfl fun T kV doc pm an cdv ct us its l1 l2 => match us, its, l1, l2 with | [_], [_, _, _], _, _ => ⟨_, rfl, rfl⟩
  exact ⟨⟨_, (O.raw hb hd).imp fun vs H Q E h => h, tcls "Greatest", tmet "Greatest" "sizes"⟩⟩
end
end Fk
set_option maxRecDepth 100000
set_option maxHeartbeats 2000000
namespace Fk
open PySem PySem.Spec PyProof.Rows L2 Evl He
section
variable {X : Cx} {x n : Str} {c : Value} {i : Nat} {body suite : List Stmt} {b₀ : Stmt} {np pos pos' : Pos} {tb : WX → TS} {pins : List (Addr × Obj)} {σ : L2.St} {H : Hp} {s : Shared} {Q : Flow → Shared → Prop}
/-- try: .. except x as n: .., every exception of the body is the clause's; behind the suite the exception is known as it stands -/
theorem try_keep (hs : X.stack = X.env :: X.outer) (hf : X.env.frame = some X.env.locals) (hN : X.N.Nodup) (hi : X.N[i]? = some n) (hln : X.env.kindOf n = some .local) (hc : Names X x c) (I : Inv X pins σ H s)
    (hb : ∀ (W : WX) (pn : List (Addr × Obj)) (xe : Value → Shared → Prop), Takes (X.tr pn xe) W → PassesOwn (model X.prog X.w) X.A X.env xe → PSs (X.tr pn xe) body (tb W))
    (h : tb (fun cls d σ' H' => PySem.W.exmOne X.K cls c = some true ∧ ∀ a oe, H' a = none → Zc cls d oe → (∃ vs, oe.data = .fields vs) → ∃ N : L2.St → Hp → Prop, wSs (X.suite a ((a, oe) :: (X.pn ++ pins))) (b₀ :: suite) { nx := N, rt := fun _ _ => False } (σ'.set i (some (.ref a))) H' ∧ ∀ σ6 H6 s7, N σ6 H6 → Inv X ((a, oe) :: pins) (σ6.set i none) H6 s7 → Q .next s7)
      { nx := fun σ' H' => ∀ s', Inv X pins σ' H' s' → Q .next s', rt := fun v H' => ∀ σ' s' u, Inv X pins σ' H' s' → RelV v u → Q (.ret u) s' } σ H) :
    wpAny (model X.prog X.w) X.A (exec (.Try body [.ExceptHandler (some (.Name x np)) (some n) (b₀ :: suite) pos'] [] [] pos) X.env) Q X.xe s := by
  have ok := I.ok
  have hfr : X.A.frames = some (X.env :: X.outer) := by rw [ok.frames, hs]
  have hloc : Loc X.env.scope n := .inl hln
  refine wpAny_Try_except ?_
  refine wpAny_mono ((hb _ (X.pn ++ pins) (fun e s₁ => wpAny (model X.prog X.w) X.A (noteFrame e X.env) (fun _ s₂ => wpAny (model X.prog X.w) X.A (setFlight e none) (fun _ s₃ =>
    wpAny (model X.prog X.w) X.A (handleBy e X.env [.ExceptHandler (some (.Name x np)) (some n) (b₀ :: suite) pos']) Q X.xe s₃) X.xe s₂) X.xe s₁) (fun u s' xx => ?_) PassesOwn.looking).run [] s σ H _ (I.toTry _) h) (fun f s1 hsp => ?_) (fun e s1 he => he)
  · obtain ⟨a, B, sI, pins', σ', H', cls, d, rfl, J', nb, up, sky, na, os, ag, hb1, hyes⟩ := xx
    have J : Inv X pins σ' H' sI := J'.ofTry ok
    have sky' : Sky B (X.env :: X.outer) a (Zc cls d) X.env.locals s'.heap := by rw [← hs]; exact sky
    show wpAny (model X.prog X.w) X.A (noteFrame (.ref a) X.env) _ _ _
    refine Sky.land Zc.steady hfr hf sky' fun h3 fl3 up3 => ?_
    have J3 : Inv X pins σ' H' { s' with heap := h3 } := J.landed nb fl3.1 (up.trans up3) os ag
    obtain ⟨oe3, vs3, he3, hz3, hd3⟩ := fl3.there
    have notFr : ∀ {h : Heap} {o : Obj} {vs : Array Value}, h.FunFrames B (X.env :: X.outer) → h.get? a = some o → o.data = .fields vs → a ∉ frs (X.env :: X.outer) := fun {h o vs} ff e dd hm => by
      obtain ⟨_, o', e', hnf⟩ := ff.mem hm
      rw [e] at e'; cases e'
      exact hnf _ dd
    have nfr := notFr fl3.2.2.1 he3 hd3
    have nL : a ≠ X.env.locals := fun z => nfr (List.mem_filterMap.mpr ⟨X.env, List.mem_cons_self, by rw [hf, z]⟩)
    have nF : a ∉ X.fs := fun hm => by
      obtain ⟨e, he, q⟩ := List.mem_filterMap.mp hm
      exact nfr (List.mem_filterMap.mpr ⟨e, List.mem_cons_of_mem _ he, q⟩)
    have S3 := J3.suite he3 hd3 na nL nF
    refine wpAny_handleBy_cons (codeAny_handlers_test ?_) (by intro q; cases q)
    have LT : PySem.W.Looks (model X.prog X.w) h3 (typeOf (.ref a)) cls := fun A Q E s k q => wpAny_typeOf_ref (k _ _ he3) (by rw [hz3.1]; exact q)
    have LM := PySem.W.exm_one (M := model X.prog X.w) (J3.kIn) LT hb1
    have test : ∀ {Q : Value → Shared → Prop} {E : Value → Shared → Prop}, Q c { s' with heap := h3 } → wpAny (model X.prog X.w) (X.A.mark (some (.ref a))) (eval (.Name x np) X.env) Q E { s' with heap := h3 } := fun {Q E} q => by
      obtain ⟨hg, hdbg, hm | ⟨hm, hv, hnn⟩⟩ := hc
      · exact ld_glob (X := X.suite a ((a, oe3) :: (X.pn ++ pins))) S3 hg hm q hdbg
      · exact ld_blt (X := X.suite a ((a, oe3) :: (X.pn ++ pins))) S3 hg hm hv q hnn hdbg
    refine test (LM.here ?_)
    refine codeAny_handlers_suite_as ?_
    refine HandSPX.lands_againZ fl3 fun h4 fl4 up4 => ?_
    have J4 : Inv X pins σ' H' { s' with heap := h4 } := J.landed nb fl4.1 ((up.trans up3).trans up4) os ag
    obtain ⟨oe4, vs4, he4, hz4, hd4⟩ := fl4.there
    have S4 := J4.suite he4 hd4 na nL nF
    refine store_ok (X := X.suite a ((a, oe4) :: (X.pn ++ pins))) (v := .ref a) S4 hN hi hloc rfl (fun s5 S5 => ?_) (.inr hln)
    obtain ⟨Nn, hsu, hend⟩ := hyes a oe4 na hz4 ⟨_, hd4⟩
    refine wpAny_mono (hsu [] s5 S5) (fun f s6 hsp => ?_) (fun _ _ z => False.elim z)
    cases f with
    | next =>
      obtain ⟨σ6, H6, S6, q6⟩ := hsp
      have J6 : Inv X ((a, oe4) :: pins) σ6 H6 s6 := (S6.unsuite (q := (a, oe4)) (pins := pins) ok).pins_of fun p hp => by
        rcases List.mem_cons.mp hp with z | z
        · rw [z]
          exact S6.pin (a, oe4) (List.mem_append_left _ List.mem_cons_self)
        · exact S6.pin p (List.mem_append_left _ (List.mem_cons_of_mem _ (List.mem_append_right _ z)))
      exact gone_ok J6 hN hi hln fun s7 J7 => hend σ6 H6 s7 q6 J7
    | brk =>
      obtain ⟨_, _, _, q⟩ := hsp
      exact False.elim q
    | cont =>
      obtain ⟨_, _, _, q⟩ := hsp
      exact False.elim q
    | ret u =>
      obtain ⟨_, _, _, _, _, q⟩ := hsp
      exact False.elim q
  · cases f with
    | next =>
      obtain ⟨σ', H', J', q⟩ := hsp
      exact wpAny_execs_nil (q s1 (J'.ofTry ok))
    | brk =>
      obtain ⟨_, _, _, q⟩ := hsp
      exact False.elim q
    | cont =>
      obtain ⟨_, _, _, q⟩ := hsp
      exact False.elim q
    | ret u =>
      obtain ⟨v, σ', H', J', r, q⟩ := hsp
      exact q σ' s1 u (J'.ofTry ok) r
end
end Fk
set_option maxRecDepth 100000
set_option maxHeartbeats 2000000
namespace Fk
open PySem PySem.Spec PyProof.Rows L2 Evl He
/-! ### the worth of a heap by two rows -/
def wV (as ag : List V) (h : Nat) : V := if h < as.length then as.getD h .non else ag.getD ((h - as.length) % ag.length) .non
theorem flat_rep (ys : List V) : ∀ (n j : Nat), j < n * ys.length → (List.replicate n ys).flatten.getD j .non = ys.getD (j % ys.length) .non
  | 0, j, h => by
    rw [Nat.zero_mul] at h
    exact absurd h (Nat.not_lt_zero _)
  | n + 1, j, h => by
    rw [List.replicate_succ, List.flatten_cons]
    rw [Nat.succ_mul] at h
    by_cases hj : j < ys.length
    · rw [Nat.mod_eq_of_lt hj]
      simp only [List.getD_eq_getElem?_getD]
      rw [List.getElem?_append_left hj]
    · have h2 : (List.replicate n ys).flatten.getD (j - ys.length) .non = ys.getD ((j - ys.length) % ys.length) .non := flat_rep ys n (j - ys.length) (by omega)
      simp only [List.getD_eq_getElem?_getD] at h2 ⊢
      rw [List.getElem?_append_right (by omega), h2]
      have : j % ys.length = (j - ys.length) % ys.length := Nat.mod_eq_sub_mod (by omega)
      rw [this]
theorem short_at {ns : List Int} (hn : 1 ≤ ns.length) (k : Nat) : (shortT (ns.map V.int)).getD (k % (shortT (ns.map V.int)).length) .non = (ns.map V.int).getD (k % (ns.map V.int).length) .non := by
  unfold shortT
  split
  · rename_i i hi
    have h1 := List.find?_some hi
    have h2 := List.mem_range.mp (List.mem_of_find?_eq_some hi)
    rw [List.length_map] at h2
    have h3 := (Bool.and_eq_true _ _).mp (show (decide (((ns.map V.int).length : Int) % ((1 + i : Nat) : Int) = 0) && eqT (ns.map V.int) (List.replicate ((ns.map V.int).length / (1 + i)) ((ns.map V.int).take (1 + i))).flatten) = true from h1)
    obtain ⟨h3, h4⟩ := h3
    have h3 : (ns.map V.int).length % (1 + i) = 0 := by
      have := of_decide_eq_true h3
      exact_mod_cast this
    have e : (List.replicate ((ns.map V.int).length / (1 + i)) ((ns.map V.int).take (1 + i))).flatten = ((List.replicate (ns.length / (1 + i)) (ns.take (1 + i))).flatten).map V.int := by
      rw [List.map_flatten, List.map_replicate, List.map_take, List.length_map]
    rw [e, eqT_ints] at h4
    have h5 := of_decide_eq_true h4
    have hl : ((ns.map V.int).take (1 + i)).length = 1 + i := by
      rw [List.length_take, List.length_map]
      omega
    rw [hl]
    have h6 : (ns.map V.int) = (List.replicate ((ns.map V.int).length / (1 + i)) ((ns.map V.int).take (1 + i))).flatten := by
      rw [e]
      exact congrArg (List.map V.int) h5
    have h7 : k % (ns.map V.int).length < (ns.map V.int).length / (1 + i) * ((ns.map V.int).take (1 + i)).length := by
      rw [hl, Nat.div_mul_cancel (Nat.dvd_of_mod_eq_zero h3)]
      exact Nat.mod_lt _ (by rw [List.length_map]; omega)
    have h8 := flat_rep ((ns.map V.int).take (1 + i)) ((ns.map V.int).length / (1 + i)) _ h7
    rw [← h6, hl, Nat.mod_mod_of_dvd k (Nat.dvd_of_mod_eq_zero h3)] at h8
    exact h8.symm
  · rfl
theorem rot_at {ag : List V} (h : 1 ≤ ag.length) (k : Nat) : (rot ag).getD ((k + 1) % ag.length) .non = ag.getD (k % ag.length) .non := by
  unfold rot
  have hk := Nat.mod_lt k (show 0 < ag.length by omega)
  simp only [List.getD_eq_getElem?_getD]
  by_cases hc : k % ag.length + 1 = ag.length
  · have e : (k + 1) % ag.length = 0 := by
      rw [Nat.add_mod]
      by_cases h1 : ag.length = 1
      · rw [h1]; omega
      · rw [Nat.mod_eq_of_lt (show 1 < ag.length by omega), hc, Nat.mod_self]
    rw [e, List.getElem?_append_left (by rw [List.length_drop]; omega), List.getElem?_drop, show ag.length - 1 + 0 = k % ag.length by omega]
  · have e : (k + 1) % ag.length = k % ag.length + 1 := by
      rw [Nat.add_mod, Nat.mod_eq_of_lt (show 1 < ag.length by omega), Nat.mod_eq_of_lt (by omega)]
    rw [e, List.getElem?_append_right (by rw [List.length_drop]; omega), List.length_drop, show k % ag.length + 1 - (ag.length - (ag.length - 1)) = k % ag.length by omega, List.getElem?_take_of_lt (by omega)]
theorem rot_zero {ag : List V} (h : 1 ≤ ag.length) : (rot ag).getD 0 .non = lastV ag := by
  unfold rot lastV
  simp only [List.getD_eq_getElem?_getD]
  rw [List.getElem?_append_left (by rw [List.length_drop]; omega), List.getElem?_drop, Nat.add_zero]
theorem back_at (as : List V) : ∀ (m : Nat) (ag : List V) (h : Nat), m ≤ as.length → 1 ≤ ag.length → wV (backT as m ag).1 (backT as m ag).2 h = wV (as.take m) ag h
  | 0, ag, h, _, _ => by
    unfold backT
    rw [List.take_zero]
  | m + 1, ag, h, hm, hg => by
    unfold backT
    by_cases he : as.getD m .non = lastV ag
    · rw [if_pos he, back_at as m (rot ag) h (by omega) (by rw [rot_len]; exact hg)]
      unfold wV
      rw [rot_len, List.length_take, List.length_take, Nat.min_eq_left (by omega), Nat.min_eq_left hm]
      by_cases h1 : h < m
      · rw [if_pos h1, if_pos (by omega)]
        simp only [List.getD_eq_getElem?_getD]
        rw [List.getElem?_take_of_lt h1, List.getElem?_take_of_lt (by omega)]
      · rw [if_neg h1]
        by_cases h2 : h = m
        · subst h2
          rw [if_pos (by omega), Nat.sub_self, Nat.zero_mod, rot_zero hg, ← he]
          simp only [List.getD_eq_getElem?_getD]
          rw [List.getElem?_take_of_lt (by omega)]
        · rw [if_neg (by omega), show h - m = (h - (m + 1)) + 1 by omega]
          exact rot_at hg _
    · rw [if_neg he]
theorem least_at {as : List V} {gs : List Int} (hg : 1 ≤ gs.length) (hs : 1 ≤ (shortT (gs.map V.int)).length) (h : Nat) : wV (leastT as (gs.map V.int)).1 (leastT as (gs.map V.int)).2 h = wV as (gs.map V.int) h := by
  unfold leastT
  rw [back_at as as.length _ h (Nat.le_refl _) hs, List.take_length]
  unfold wV
  by_cases h1 : h < as.length
  · rw [if_pos h1, if_pos h1]
  · rw [if_neg h1, if_neg h1]
    exact short_at hg _
theorem getD_iv {xs : List V} {i : Nat} (h : i < xs.length) : (xs.map iv).getD i 0 = iv (xs.getD i .non) := by
  simp only [List.getD_eq_getElem?_getD]
  rw [List.getElem?_map, List.getElem?_eq_getElem h]
  rfl
/-- a table's worths by its rows -/
theorem mkT_w {b p : Int} {ns : List Int} (hN : Nums b p ns) {h : Int} (h0 : 0 ≤ h) : (mkT b ns).w h = iv (wV (mkA b ns) (mkG b ns) h.toNat) := by
  obtain ⟨_, _, _, h4, _⟩ := mk_facts hN
  obtain ⟨j, rfl⟩ := Int.eq_ofNat_of_zero_le h0
  unfold Tb.w wV mkT
  simp only [Int.toNat_natCast]
  by_cases h1 : j < (mkA b ns).length
  · rw [if_pos (by exact_mod_cast h1), if_pos h1, getD_iv (by rw [List.length_append]; omega)]
    simp only [List.getD_eq_getElem?_getD]
    rw [List.getElem?_append_left h1]
  · rw [if_neg (by omega), if_neg h1]
    have e : ((mkA b ns).length + ((j : Int) - (mkA b ns).length) % (mkG b ns).length).toNat = (mkA b ns).length + (j - (mkA b ns).length) % (mkG b ns).length := by
      rw [show ((j : Int) - (mkA b ns).length) = ((j - (mkA b ns).length : Nat) : Int) by omega]
      have : (((j - (mkA b ns).length : Nat) : Int) % ((mkG b ns).length : Int)) = (((j - (mkA b ns).length) % (mkG b ns).length : Nat) : Int) := by simp
      rw [this]
      omega
    have hlt := Nat.mod_lt (j - (mkA b ns).length) (show 0 < (mkG b ns).length by omega)
    rw [e, getD_iv (by rw [List.length_append]; omega)]
    simp only [List.getD_eq_getElem?_getD]
    rw [List.getElem?_append_right (by omega), show ∀ a c : Nat, a + c - a = c by intros; omega]
theorem pl_w {q : Pl} {h : Int} (h0 : 0 ≤ h) (hg : 1 ≤ q.g.length) : q.w h = iv (wV (q.f.map V.int) (q.g.map V.int) h.toNat) := by
  obtain ⟨j, rfl⟩ := Int.eq_ofNat_of_zero_le h0
  unfold Pl.w wV
  simp only [Int.toNat_natCast, List.length_map]
  have get : ∀ (xs : List Int) (i : Nat), i < xs.length → iv ((xs.map V.int).getD i .non) = xs.getD i 0 := fun xs i hi => by
    simp only [List.getD_eq_getElem?_getD]
    rw [List.getElem?_map, List.getElem?_eq_getElem hi]
    rfl
  by_cases h1 : j < q.f.length
  · rw [if_pos (by exact_mod_cast h1), if_pos h1, get _ _ h1]
  · rw [if_neg (by omega), if_neg h1, get _ _ (Nat.mod_lt _ (by omega))]
    rw [show ((j : Int) - q.f.length) = ((j - q.f.length : Nat) : Int) by omega]
    have : (((j - q.f.length : Nat) : Int) % (q.g.length : Int)) = (((j - q.f.length) % q.g.length : Nat) : Int) := by simp
    rw [this, Int.toNat_natCast]
theorem Pl.same {q : Pl} (hq : q.good) {h : Int} (h0 : 0 ≤ h) : q.tb.w h = q.w h := by
  have hg : 1 ≤ q.g.length := by
    have := hq.hp
    omega
  have e1 : (q.f ++ q.g).take (q.f.length : Int).toNat = q.f := by rw [Int.toNat_natCast, List.take_left]
  have e2 : (q.f ++ q.g).drop (q.f.length : Int).toNat = q.g := by rw [Int.toNat_natCast, List.drop_left]
  unfold Pl.tb
  rw [mkT_w hq h0, pl_w h0 hg]
  unfold mkA mkG
  rw [e1, e2, least_at hg]
  have h4 := (mk_facts hq).2.2.2.1
  unfold mkG at h4
  rw [e2] at h4
  have : shortT (q.g.map V.int) ≠ [] := fun e => by
    unfold leastT at h4
    rw [e] at h4
    have := back_len ((((q.f ++ q.g).take (q.f.length : Int).toNat).map V.int)) (((q.f ++ q.g).take (q.f.length : Int).toNat).map V.int).length []
    rw [this] at h4
    exact absurd h4 (by decide)
  exact List.length_pos_iff.mpr this
where
  back_len (as : List V) : ∀ (m : Nat) (ag : List V), (backT as m ag).2.length = ag.length
    | 0, ag => rfl
    | m + 1, ag => by
      unfold backT
      split
      · rw [back_len as m (rot ag), rot_len]
      · rfl
/-! ### worths that come again -/
structure Per (W : Int → Int) (b p : Int) : Prop where
  hb : 0 ≤ b
  hp : 1 ≤ p
  per : ∀ h, b ≤ h → W (h + p) = W h
theorem Per.mul {W : Int → Int} {b p : Int} (h : Per W b p) : ∀ (k : Nat) (x : Int), b ≤ x → W (x + k * p) = W x
  | 0, x, _ => by simp
  | k + 1, x, hx => by
    have := h.hp
    have hk : 0 ≤ (k : Int) * p := Int.mul_nonneg (by omega) (by omega)
    rw [show x + ((k + 1 : Nat) : Int) * p = (x + (k : Int) * p) + p by rw [Int.natCast_add, Int.add_mul]; simp; omega, h.per _ (by omega), Per.mul h k x hx]
theorem Per.dvd {W : Int → Int} {b p : Int} (h : Per W b p) {x c : Int} (hx : b ≤ x) (hc : 0 ≤ c) (hd : p ∣ c) : W (x + c) = W x := by
  obtain ⟨k, rfl⟩ := hd
  have := h.hp
  have hk : 0 ≤ k := by
    rcases Int.lt_or_le k 0 with hk | hk
    · have : p * k < 0 := Int.mul_neg_of_pos_of_neg (by omega) hk
      omega
    · exact hk
  obtain ⟨n, rfl⟩ := Int.eq_ofNat_of_zero_le hk
  rw [Int.mul_comm]
  exact h.mul n x hx
theorem lcmZ_l (a b : Int) (ha : 1 ≤ a) : a ∣ lcmZ a b := by
  obtain ⟨n, rfl⟩ := Int.eq_ofNat_of_zero_le (show 0 ≤ a by omega)
  exact Int.ofNat_dvd.mpr (Nat.dvd_lcm_left n b.toNat)
theorem lcmZ_r (a b : Int) (hb : 1 ≤ b) : b ∣ lcmZ a b := by
  obtain ⟨n, rfl⟩ := Int.eq_ofNat_of_zero_le (show 0 ≤ b by omega)
  exact Int.ofNat_dvd.mpr (Nat.dvd_lcm_right a.toNat n)
theorem lcmZ_p {a b : Int} (ha : 1 ≤ a) (hb : 1 ≤ b) : 1 ≤ lcmZ a b := by
  have : 0 < Nat.lcm a.toNat b.toNat := Nat.lcm_pos (by omega) (by omega)
  unfold lcmZ
  omega
/-- what comes again from L on is found within one turn -/
theorem turn {B : Int → Prop} {L c : Int} (hc : 1 ≤ c) (hB : ∀ x k, L ≤ x → 0 ≤ k → (B (x + c * k) ↔ B x)) {x : Int} (h : B x) (hl : L ≤ x) : ∃ y, L ≤ y ∧ y < L + c ∧ B y := by
  refine ⟨L + (x - L) % c, by have := Int.emod_nonneg (x - L) (show c ≠ 0 by omega); omega, by have := Int.emod_lt_of_pos (x - L) (show 0 < c by omega); omega, ?_⟩
  have h1 := Int.emod_nonneg (x - L) (show c ≠ 0 by omega)
  refine (hB _ ((x - L) / c) (by omega) (Int.ediv_nonneg (by omega) (by omega))).mp ?_
  rw [show L + (x - L) % c + c * ((x - L) / c) = x by have := Int.emod_add_mul_ediv (x - L) c; omega]
  exact h
theorem turn2 {B : Int → Prop} {l L c : Int} (hc : 1 ≤ c) (hB : ∀ x k, L ≤ x → 0 ≤ k → (B (x + c * k) ↔ B x)) {x : Int} (h : B x) (hx : l ≤ x) (hL : l ≤ L) : ∃ y, l ≤ y ∧ y < L + c ∧ B y := by
  by_cases hl : L ≤ x
  · obtain ⟨y, h1, h2, h3⟩ := turn hc hB h hl
    exact ⟨y, by omega, h2, h3⟩
  · exact ⟨x, hx, by omega, h⟩
def FreeF (W : Int → Int) (n r m l : Int) : Prop := ∀ x, l ≤ x → (x + n) % m = r → W (x + n) ≠ W x
def FreeD (W : Int → Int) (n r m : Int) : Prop := ∀ x, n + 1 ≤ x → x % m = r → W x ≠ W n
theorem mod_per {x c k m : Int} (h : m ∣ c) : (x + c * k) % m = x % m := by
  obtain ⟨d, rfl⟩ := h
  rw [Int.mul_assoc, Int.add_mul_emod_self_left]
/-- from L on, L at least begin: a multiple of both periods changes nothing -/
theorem freeF_in {W : Int → Int} {b p n r m l : Int} (hW : Per W b p) (hn : 0 ≤ n) (hm : 1 ≤ m) (h : ∀ x, l ≤ x → x < max b l + lcmZ p m → (x + n) % m = r → W (x + n) ≠ W x) : FreeF W n r m l := fun x h1 h2 h3 => by
  have hc := lcmZ_p hW.hp hm
  have hl := lcmZ_l p m hW.hp
  have hr := lcmZ_r p m hm
  have hcc : ∀ k : Int, 0 ≤ k → 0 ≤ lcmZ p m * k := fun k hk => Int.mul_nonneg (by omega) hk
  obtain ⟨y, h4, h5, h6, h7⟩ := turn2 (B := fun x => (x + n) % m = r ∧ W (x + n) = W x) (l := l) (L := max b l) (c := lcmZ p m) hc (fun x k hx hk => by
    have := hcc k hk
    rw [show x + lcmZ p m * k + n = (x + n) + lcmZ p m * k by omega, mod_per hr, hW.dvd (x := x + n) (by omega) this (Int.dvd_trans hl (Int.dvd_mul_right _ _)), hW.dvd (x := x) (by omega) this (Int.dvd_trans hl (Int.dvd_mul_right _ _))]) ⟨h2, h3⟩ h1 (by omega)
  exact h y h4 h5 h6 h7
theorem freeD_in {W : Int → Int} {b p n r m : Int} (hW : Per W b p) (hm : 1 ≤ m) (h : ∀ x, n + 1 ≤ x → x < max b (n + 1) + lcmZ p m → x % m = r → W x ≠ W n) : FreeD W n r m := fun x h1 h2 h3 => by
  have hc := lcmZ_p hW.hp hm
  have hl := lcmZ_l p m hW.hp
  have hr := lcmZ_r p m hm
  have hcc : ∀ k : Int, 0 ≤ k → 0 ≤ lcmZ p m * k := fun k hk => Int.mul_nonneg (by omega) hk
  obtain ⟨y, h4, h5, h6, h7⟩ := turn2 (B := fun x => x % m = r ∧ W x = W n) (l := n + 1) (L := max b (n + 1)) (c := lcmZ p m) hc (fun x k hx hk => by
    have := hcc k hk
    rw [mod_per hr, hW.dvd (x := x) (by omega) this (Int.dvd_trans hl (Int.dvd_mul_right _ _))]) ⟨h2, h3⟩ h1 (by omega)
  exact h y h4 h5 h6 h7
theorem tb_per {t : Tb} (ht : t.ok) : Per t.w t.b t.p := by
  refine ⟨ht.hb, ht.hp, fun h hh => ?_⟩
  have := ht.hp
  unfold Tb.w
  rw [if_neg (by omega), if_neg (by omega), show h + t.p - t.b = h - t.b + t.p by omega, Int.add_emod_right]
theorem pl_per {q : Pl} (hg : 1 ≤ q.g.length) : Per q.w q.f.length q.g.length := by
  refine ⟨by omega, by omega, fun h hh => ?_⟩
  unfold Pl.w
  rw [if_neg (by omega), if_neg (by omega), show h + q.g.length - q.f.length = h - q.f.length + q.g.length by omega, Int.add_emod_right]
theorem hasF_iff {t : Tb} {n r m l : Int} (ht : t.ok) (hn : 0 ≤ n) (hm : 1 ≤ m) : hasF t n r m l = true ↔ FreeF t.w n r m l := by
  unfold hasF lastZ
  rw [Bool.not_eq_true', List.any_eq_false]
  constructor
  · intro h
    refine freeF_in (tb_per ht) hn hm fun x h1 h2 h3 h4 => ?_
    have e : l + ((x - l).toNat : Int) = x := by omega
    refine h (x - l).toNat (List.mem_filter.mpr ⟨List.mem_range.mpr (by omega), ?_⟩) ?_
    · rw [e]
      exact decide_eq_true h3
    · rw [e]
      exact decide_eq_true h4
  · intro h i hi h2
    obtain ⟨_, h3⟩ := List.mem_filter.mp hi
    exact h _ (by omega) (of_decide_eq_true h3) (of_decide_eq_true h2)
theorem hasD_iff {t : Tb} {n r m : Int} (ht : t.ok) (hm : 1 ≤ m) : hasD t n r m = true ↔ FreeD t.w n r m := by
  unfold hasD lastZ
  rw [Bool.not_eq_true', List.any_eq_false]
  constructor
  · intro h
    refine freeD_in (tb_per ht) hm fun x h1 h2 h3 h4 => ?_
    have e : n + 1 + ((x - (n + 1)).toNat : Int) = x := by omega
    refine h (x - (n + 1)).toNat (List.mem_filter.mpr ⟨List.mem_range.mpr (by omega), ?_⟩) ?_
    · rw [e]
      exact decide_eq_true h3
    · rw [e]
      exact decide_eq_true h4
  · intro h i hi h2
    obtain ⟨_, h3⟩ := List.mem_filter.mp hi
    exact h _ (by omega) (of_decide_eq_true h3) (of_decide_eq_true h2)
theorem rg_mem {lo hi i : Int} (h : lo ≤ i) (h2 : i < hi) : V.int i ∈ rgV lo hi := by
  unfold rgV
  exact List.mem_map.mpr ⟨(i - lo).toNat, List.mem_range.mpr (by omega), by congr 1; omega⟩
theorem lawF_iff {q : Pl} {n r m l : Int} (hg : 1 ≤ q.g.length) (hn : 0 ≤ n) (hm : 1 ≤ m) : lawF q n r m l = true ↔ FreeF q.w n r m l := by
  unfold lawF lawL0
  rw [List.isEmpty_iff, List.filter_eq_nil_iff]
  constructor
  · intro h
    refine freeF_in (pl_per hg) hn hm fun x h1 h2 h3 h4 => ?_
    exact h (.int x) (List.mem_filter.mpr ⟨rg_mem h1 h2, decide_eq_true h3⟩) (decide_eq_true h4)
  · intro h v hv h2
    obtain ⟨h3, h4⟩ := List.mem_filter.mp hv
    obtain ⟨i, rfl, h5, h6⟩ := rgV_mem h3
    exact h i h5 (of_decide_eq_true h4) (of_decide_eq_true h2)
theorem lawD_iff {q : Pl} {n r m : Int} (hg : 1 ≤ q.g.length) (hm : 1 ≤ m) : lawD q n r m = true ↔ FreeD q.w n r m := by
  unfold lawD lawL0
  rw [List.isEmpty_iff, List.filter_eq_nil_iff]
  constructor
  · intro h
    refine freeD_in (pl_per hg) hm fun x h1 h2 h3 h4 => ?_
    exact h (.int x) (List.mem_filter.mpr ⟨rg_mem h1 h2, decide_eq_true h3⟩) (decide_eq_true h4)
  · intro h v hv h2
    obtain ⟨h3, h4⟩ := List.mem_filter.mp hv
    obtain ⟨i, rfl, h5, h6⟩ := rgV_mem h3
    exact h i h5 (of_decide_eq_true h4) (of_decide_eq_true h2)
theorem freeR_iff {t : Tb} {r : Rl} : freeR t r = true ↔ ∀ h, ¬ barAt t r h := by
  unfold freeR
  exact @decide_eq_true_iff _ (Classical.propDecidable _)
theorem freeF_iff {t : Tb} {n r m l : Int} (ht : t.ok) (hn : 0 ≤ n) (hm : 1 ≤ m) : freeR t (.fixed n r m l) = true ↔ FreeF t.w n r m l := by
  rw [freeR_iff]
  constructor
  · intro h
    refine freeF_in (tb_per ht) hn hm fun x h1 h2 h3 h4 => ?_
    refine h (x + n) ⟨show n + l ≤ x + n by omega, show x + n < max (n + l) (t.b + n) + lcmZ t.p m by omega, ?_⟩
    show ((decide (n + l ≤ x + n) && decide ((x + n) % m = r)) && decide (t.w (x + n) = t.w (x + n - n))) = true
    rw [decide_eq_true (show n + l ≤ x + n by omega), decide_eq_true h3, show x + n - n = x by omega, decide_eq_true h4]
    rfl
  · rintro h x ⟨h1, h2, h3⟩
    obtain ⟨h3, h4⟩ := (Bool.and_eq_true _ _).mp h3
    obtain ⟨h5, h6⟩ := (Bool.and_eq_true _ _).mp h3
    have h6 : x % m = r := of_decide_eq_true h6
    have h4 : t.w x = t.w (x - n) := of_decide_eq_true h4
    have h1 : n + l ≤ x := h1
    refine h (x - n) (by omega) ?_ ?_
    · rw [show x - n + n = x by omega]
      exact h6
    · rw [show x - n + n = x by omega]
      exact h4
theorem freeD_iff {t : Tb} {n r m : Int} (ht : t.ok) (hm : 1 ≤ m) : freeR t (.down n r m) = true ↔ FreeD t.w n r m := by
  rw [freeR_iff]
  constructor
  · intro h
    refine freeD_in (tb_per ht) hm fun x h1 h2 h3 h4 => ?_
    refine h x ⟨h1, show x < max (n + 1) (t.b + 0) + lcmZ t.p m by omega, ?_⟩
    show ((decide (n + 1 ≤ x) && decide (x % m = r)) && decide (t.w x = t.w n)) = true
    rw [decide_eq_true h1, decide_eq_true h3, decide_eq_true h4]
    rfl
  · rintro h x ⟨h1, h2, h3⟩
    obtain ⟨h3, h4⟩ := (Bool.and_eq_true _ _).mp h3
    obtain ⟨h5, h6⟩ := (Bool.and_eq_true _ _).mp h3
    exact h x h1 (of_decide_eq_true h6) (of_decide_eq_true h4)
theorem FreeF.congr {W W' : Int → Int} {n r m l : Int} (hl : 0 ≤ l) (hn : 0 ≤ n) (h : ∀ x, 0 ≤ x → W x = W' x) (f : FreeF W n r m l) : FreeF W' n r m l := fun x h1 h2 h3 => f x h1 h2 (by rw [h _ (by omega), h _ (by omega)]; exact h3)
theorem FreeD.congr {W W' : Int → Int} {n r m : Int} (hn : 0 ≤ n) (h : ∀ x, 0 ≤ x → W x = W' x) (f : FreeD W n r m) : FreeD W' n r m := fun x h1 h2 h3 => f x h1 h2 (by rw [h _ (by omega), h _ (by omega)]; exact h3)
/-- what the law finds is what the greatest book says, and what free says -/
theorem law_has {q : Pl} (hq : q.good) {r : Rl} (hr : r.ok) : hasR q.tb r = lawR q r := by
  have ht := mkT_ok hq
  have hg : 1 ≤ q.g.length := by
    have := hq.hp
    omega
  rw [Bool.eq_iff_iff]
  cases r with
  | fixed n r m l =>
    obtain ⟨h1, h2, h3, h4, h5, h6, h7, h8⟩ := hr
    exact (hasF_iff ht (by omega) h5).trans (Iff.trans ⟨fun f => f.congr h3 (by omega) fun x hx => Pl.same hq hx, fun f => f.congr h3 (by omega) fun x hx => (Pl.same hq hx).symm⟩ (lawF_iff hg (by omega) h5).symm)
  | down n r m =>
    obtain ⟨h1, h2, h5, h6, h7, h8⟩ := hr
    exact (hasD_iff ht h5).trans (Iff.trans ⟨fun f => f.congr h1 fun x hx => Pl.same hq hx, fun f => f.congr h1 fun x hx => (Pl.same hq hx).symm⟩ (lawD_iff hg h5).symm)
theorem law_free {q : Pl} (hq : q.good) {r : Rl} (hr : r.ok) : freeR q.tb r = lawR q r := by
  rw [← law_has hq hr, Bool.eq_iff_iff]
  have ht := mkT_ok hq
  cases r with
  | fixed n r m l =>
    obtain ⟨h1, h2, h3, h4, h5, h6, h7, h8⟩ := hr
    exact (freeF_iff ht (by omega) h5).trans (hasF_iff ht (by omega) h5).symm
  | down n r m =>
    obtain ⟨h1, h2, h5, h6, h7, h8⟩ := hr
    exact (freeD_iff ht h5).trans (hasD_iff ht h5).symm
theorem Pl.ok.good {q : Pl} {b t m : Int} (h : q.ok b t m) (h1 : b + t ≤ 1000) (h2 : m ≤ 400) : q.good := by
  obtain ⟨g1, g2, g3, g4, g5, g6⟩ := h
  refine ⟨by omega, by omega, by rw [List.length_append]; omega, by omega, fun n hn => ?_, g6⟩
  rcases List.mem_append.mp hn with h | h
  · have := g4 n h
    omega
  · have := g5 n h
    omega
/-- few worths: the sizes are found -/
theorem tb_few {q : Pl} {b t m : Int} (hq : q.good) (h : q.ok b t m) : q.tb.b + q.tb.p ≤ b + t ∧ q.tb.b ≤ b ∧ q.tb.p ≤ t := by
  obtain ⟨_, _, h3, _, h5⟩ := mk_facts hq
  have := h.lf
  have := h.lg
  have e : q.tb.b = ((mkA q.f.length (q.f ++ q.g)).length : Int) := rfl
  have e2 : q.tb.p = ((mkG q.f.length (q.f ++ q.g)).length : Int) := rfl
  omega
theorem whole_few {q : Pl} {b t m c : Int} (hq : q.good) (h : q.ok b t m) (hc : 1 ≤ c) (hl : b + t * c ≤ 400) : q.tb.b + lcmZ q.tb.p c ≤ 400 := by
  have h1 := tb_few hq h
  have hp := (mkT_ok hq).hp
  have h2 : lcmZ q.tb.p c ≤ q.tb.p * c := lcmZ_le_mul hp hc
  have h3 : q.tb.p * c ≤ t * c := Int.mul_le_mul_of_nonneg_right h1.2.2 (by omega)
  omega
end Fk
set_option maxRecDepth 100000
set_option maxHeartbeats 2000000
namespace Fk
open PySem PySem.Spec PyProof.Rows L2 Evl He
/-! ### behind a try that kept its exception -/
abbrev kCx (X : Cx) (q : Addr × Obj) (pins : List (Addr × Obj)) : Cx := X.tr (X.pn ++ (q :: pins)) X.xe
section
variable {P : Program} {w : World} {K : PySem.W.Frag} {mg : Str → Option Value} {base : Heap} {N : List Str} {sc : Scope} {k : Nat} {X : Cx} {σ : L2.St} {H : Hp} {q : Addr × Obj} {pins pn : List (Addr × Obj)} {s : Shared} {sts : List Stmt} {D : Ends}
theorem bx_k [B : Bx P w K mg base N sc k X] : Bx P w K mg base N sc k (kCx X q pins) := ⟨B.qP, B.qw, B.qK, B.qm, B.qb, B.qN, B.nd, B.qs, B.calm, B.room⟩
theorem dx_k [G : Dx X] : Dx (kCx X q pins) := ⟨G.own, G.fn⟩
theorem drop_pin (I : Inv X (q :: pins) σ H s) : Inv X pins σ H s := I.pins_of fun p hp => I.pin p (by
  rcases List.mem_append.mp (List.mem_append_right X.pn hp) with h | h
  · exact List.mem_append_left _ h
  · exact List.mem_append_right _ (List.mem_cons_of_mem _ h))
theorem back_k (h : wSs (kCx X q pins) sts D σ H) (I : Inv X (q :: pins) σ H s) : wpAny (model X.prog X.w) X.A (execs sts X.env) (SP X pins D) X.xe s := by
  have ok := I.ok
  refine wpAny_mono (h [] s (I.toTry X.xe)) (fun f s1 hsp => ?_) fun _ _ z => z
  cases f with
  | next =>
    obtain ⟨σ', H', J, z⟩ := hsp
    exact ⟨σ', H', drop_pin (J.ofTry ok), z⟩
  | brk =>
    obtain ⟨σ', H', J, z⟩ := hsp
    exact ⟨σ', H', drop_pin (J.ofTry ok), z⟩
  | cont =>
    obtain ⟨σ', H', J, z⟩ := hsp
    exact ⟨σ', H', drop_pin (J.ofTry ok), z⟩
  | ret u =>
    obtain ⟨v, σ', H', J, r, z⟩ := hsp
    exact ⟨v, σ', H', drop_pin (J.ofTry ok), r, z⟩
end
/-- the exception at a, of class D, its dict at dd -/
structure Kept (X : Cx) (a D dd : Addr) (fs : List (Str × V)) (H : Hp) : Prop where
  ex : ∃ oe, (a, oe) ∈ X.pn ∧ Zc (.ref D) (some dd) oe ∧ ∃ vs, oe.data = .fields vs
  at_ : H dd = some (.xd fs)
section
variable {X : Cx} {a D dd : Addr} {fs : List (Str × V)} {H H' : Hp} {pins : List (Addr × Obj)} {σ : L2.St} {s : Shared}
theorem Kept.up (h : Kept X a D dd fs H) (e : Ex H H') : Kept X a D dd fs H' := ⟨h.ex, e _ _ h.at_⟩
theorem kept_at (h : Kept X a D dd fs H) (I : Inv X pins σ H s) : ∃ (ox od : Obj), PySem.W.InstAt s.heap a ox D (some od) ∧ ∀ n v, fs.lookup n = some v → ∃ u, PySem.W.lookIn n od = some (some u) ∧ RelV v u := by
  obtain ⟨oe, hp, hz, vs, hd⟩ := h.ex
  obtain ⟨ha, _⟩ := I.pin (a, oe) (List.mem_append_left _ hp)
  have hx : ObjOk X.prog X.w H s.heap dd (.xd fs) := I.hok dd _ h.at_
  obtain ⟨mA, hns, hr⟩ := hx
  obtain ⟨od, ho, hl⟩ := lookIn_ns hns
  refine ⟨oe, od, ⟨ha, hz.1, ?_, ?_⟩, fun n v l => ?_⟩
  · unfold PySem.W.notCls
    rw [hd] <;> rfl
  · rw [hz.2]
    exact ho
  · obtain ⟨u, hu, ru⟩ := RelO.some_of (v := v) (o := mA n) (by rw [← l]; exact hr n)
    exact ⟨u, by rw [hl, hu], ru⟩
theorem call_isX : CallR X (.builtin "isinstance") (fun xs H Q => ∃ (a D dd : Addr) (fs : List (Str × V)) (c : V) (cv : Value) (b : Bool), xs = [.ref a, c] ∧ Kept X a D dd fs H ∧ ExcC X.K D ∧ (∀ u, RelV c u → u = cv) ∧ PySem.W.kitOne X.K (.ref D) cv = some b ∧ Q (.bl b) H) := by
  intro pins s σ H xs us Q I r h
  obtain ⟨a, D, dd, fs, c, cv, b, rfl, hk, C, hcv, e, q⟩ := h
  cases r with
  | cons rx rr =>
    cases rr with
    | cons rt rr =>
      cases rr
      cases rx
      have ec := hcv _ rt
      subst ec
      obtain ⟨ox, od, J, _⟩ := kept_at hk I
      have hc : (PySem.W.clsIn X.K D).isSome = true := by
        obtain ⟨cd, hc, _⟩ := PySem.W.any_some C.hd
        rw [hc]
        rfl
      exact PySem.W.kia_one (PySem.W.kitx_exc hc C.hg C.hk C.hs C.ha C.hn C.ht C.hm) I.kIn J e (fun z => nomatch z) fun tk => ⟨.bl b, H, I.kept (t' := tk) fun _ _ z => z, rfl, q⟩
/-- e.n of the exception -/
def tXfK (X : Cx) (n : Str) (te : TE) : TE := fun σ H Q => te σ H fun x H1 => ∃ (a D dd : Addr) (fs : List (Str × V)) (v : V), x = .ref a ∧ Kept X a D dd fs H1 ∧ XfC X.K D ∧ PySem.W.findIn X.K (.ref D) n = some none ∧ fs.lookup n = some v ∧ Q v H1
theorem pe_xfK {e : Expr} {te : TE} {pos : Pos} {n : Str} (he : PE X e te) (hb : attributeBase e n X.env (eval e X.env) = eval e X.env := by rfl) : PE X (.Attribute e n pos) (tXfK X n te) := by
  refine ⟨fun pins s σ H Q I h => ?_⟩
  refine attr_of hb (thn (he.run pins s σ H _ I h) fun u s1 hh => ?_)
  obtain ⟨x, H1, I1, rx, a, D, dd, fs, v, ex, hk, T, hno, l, q⟩ := hh
  subst ex
  obtain rfl : u = Value.ref a := rx
  obtain ⟨ox, od, J, hl⟩ := kept_at hk I1
  obtain ⟨u, hu, ru⟩ := hl n v l
  exact HandSPX.exc_get I1.kIn J T.ga T.gg T.exC (PySem.W.findObj_own T.hdC hno rfl hu) (handed_of ru) ⟨v, H1, I1.tok _, ru, q⟩
end
section
variable {P : Program} {w : World} {K : PySem.W.Frag} {mg : Str → Option Value} {base : Heap} {N : List Str} {sc : Scope} {k : Nat} {X : Cx} {σ : L2.St} {H : Hp} {a b e o : Expr} {pos pos' apos : Pos} {p D dd : Addr} {fs : List (Str × V)} {rest : List Stmt} {Ed : Ends} {v : V}
theorem ee_isX [B : Bx P w K mg base N sc k X] {cv : V} {u : Value} {y : Bool} (hm : mg "isinstance" = none) (hk : Kept X p D dd fs H) (C : ExcC K D) (ha : EE X a σ H (.ref p)) (hb : EE X b σ H cv) (hc : ∀ z, RelV cv z → z = u) (hy : PySem.W.kitOne K (.ref D) u = some y) (hg : gloB sc "isinstance" = true := by decide +kernel)
    (he : starEach [a, b] X.env = (false, eval a X.env) :: starEach [b] X.env := by rfl) (he2 : starEach [b] X.env = (false, eval b X.env) :: starEach [] X.env := by rfl) (hpl : (backTo pos (starEach [b] X.env)).any (·.1) = false := by rfl) :
    EE X (.Call (.Name "isinstance" pos') [a, b] [] pos) σ H (.bl y) :=
  ee_callB call_isX hm rfl (ea_cons ha (ea_cons hb ea_nil he2) he) (rc_of fun H1 e1 Q q => by
    rw [B.qK]
    exact ⟨p, D, dd, fs, cv, u, y, rfl, hk.up e1, C, hc, hy, q⟩) hg he hpl
theorem ee_xfK [B : Bx P w K mg base N sc k X] {n : Str} (he : EE X e σ H (.ref p)) (hk : Kept X p D dd fs H) (T : XfC K D) (hno : PySem.W.findIn K (.ref D) n = some none) (l : fs.lookup n = some v) (hb : attributeBase e n X.env (eval e X.env) = eval e X.env := by rfl) : EE X (.Attribute e n pos) σ H v :=
  EE.of (pe_xfK pe_w hb) fun H1 e1 Q q => he H1 e1 _ fun H2 e2 => ⟨p, D, dd, fs, v, rfl, hk.up (e1.trans e2), by rw [B.qK]; exact T, by rw [B.qK]; exact hno, l, q H2 e2⟩
/-- o.append(e) -/
theorem ss_app [B : Bx P w K mg base N sc k X] {L : Addr} {xs : List V} {R : V → Hp → Prop} (hL : H L = some (.lst xs)) (ho : EE X o σ H (.ref L)) (h : EQ X e σ H R) (hz : xs.length < 100000) (r : ∀ v H1 H2, Ex H H1 → R v H1 → ExB L H1 H2 → H2 L = some (.lst (xs ++ [v])) → SS X rest Ed σ H2)
    (hbase : attributeBase o "append" X.env (eval o X.env) = eval o X.env := by rfl)
    (hfew : ((backTo pos' (starEach (e :: []) X.env)).all (fun x => !x.1) && (backToKw pos' (keywordEach [] X.env)).all (fun x => x.1.isSome)
      && decide ((e :: []).length + ([] : List Keyword).length + (if ([] : List Keyword).isEmpty then 0 else 1) < 30)) = true := by rfl)
    (hline : (apos.endLine == pos'.line) = true := by rfl) (hs : starEach (e :: []) X.env = (false, eval e X.env) :: starEach [] X.env := by rfl) (hplain : (backTo pos' (starEach [] X.env)).any (·.1) = false := by rfl)
    (hsw : swapsWith (.Call (.Attribute o "append" apos) [e] [] pos') none pos.line X.env = pure false := by rfl) : SS X (.Expr (.Call (.Attribute o "append" apos) [e] [] pos') pos :: rest) Ed σ H := fun H1 e1 =>
  wss_cons (ps_expr (pe_bm PySem.F.plainAttrs_list PySem.F.slot_list_append PySem.F.type_list_append mt_append pe_w (pa_cons pe_w pa_nil hs) hbase hfew hline hs hplain) hsw) (ho H1 e1 _ fun H2 e2 => ⟨Or.inl ⟨rfl, xs, sq_of (e2 _ _ (e1 _ _ hL))⟩, h H2 (e1.trans e2) _ fun v H3 e3 t =>
    ⟨L, xs, v, rfl, rfl, e3 _ _ (e2 _ _ (e1 _ _ hL)), sz_lt hz, r v H3 _ ((e1.trans e2).trans e3) t (fun b o hb h => by rw [upd_ne hb]; exact h) upd_same _ (Ex.refl _)⟩⟩)
end
end Fk
set_option maxRecDepth 100000
set_option maxHeartbeats 2000000
namespace Fk
open PySem PySem.Spec PyProof.Rows L2 Evl He
/-- how the law tells an exception -/
def HearOk (K : PySem.W.Frag) (D : Addr) (fs : List (Str × V)) (res : List V) : Prop :=
  (D = ga K "BadRule" ∧ ∃ v, fs = [(("part" : Str), v)] ∧ res = [.str "rule", v]) ∨ (D = ga K "TooMany" ∧ ∃ u v, fs = [(("most" : Str), u), (("what" : Str), v)] ∧ res = [.str "many", v, u])
def Ehear (K : PySem.W.Frag) (Q : VK) : XK := fun cls d H' => ∃ (D dd : Addr) (fs : List (Str × V)) (res : List V), cls = .ref D ∧ d = some dd ∧ H' dd = some (.xd fs) ∧ HearOk K D fs res ∧ ∀ v H2, Ex H' H2 → TP res v H2 → Q v H2
theorem relv_ref {D : Addr} : ∀ z, RelV (.ref D) z → z = .ref D := fun z h => h
theorem relv_ty {n : String} : ∀ z, RelV (.ty n) z → z = .type n := fun z h => h
theorem swap_none {X : Cx} {x y : Str} {px py pt pv p1 p2 : Pos} {kt kv k1 k2 : Nat} : swappedStores [.Tuple [.Name x px, .Name y py] kt pt] (.Tuple [.Constant .none k1 p1, .Constant .none k2 p2] kv pv) X.env = pure none := by
  have h : ([Expr.Constant Const.none k1 p1, Expr.Constant Const.none k2 p2].all (foldedForSure 8)) = true := rfl
  unfold swappedStores
  simp only [h, if_true, pure_bind]
  split
  · rfl
  · first
      | rfl
      | (split <;> first | rfl | (split <;> first | rfl | (split <;> rfl)))
section
variable {P : Program} {w : World} {K : PySem.W.Frag} {mg : Str → Option Value} {base : Heap}
theorem heard_rest [T : Tx K mg] {k : Nat} {X : Cx} {H : Hp} {D : Ends} {a C dd : Addr} {fs : List (Str × V)} {res : List V} {x0 x2 x4 : Option V} [B : Bx P w K mg base N_law_heard (defScope s_law_heard) k X] [G : Dx X] (hk : Kept X a C dd fs H) (ho : HearOk K C fs res) (hd : ∀ v H', Ex H H' → TP res v H' → D.rt v H') :
    SS X ((defBody s_law_heard).drop 2) D [x0, some (.ref a), x2, none, x4] H := by
  refine ss_skip (ET.is (et_isN (ee_var 1)) (decide_eq_false (by simp))) ?_
  refine ss_setL 4 (el_lst ea_nil) fun l H1 e1 hn hl => ?_
  rcases ho with ⟨rfl, v, rfl, rfl⟩ | ⟨rfl, u, v, rfl, rfl⟩
  · have xf := x_BadRule (K := K) (mg := mg)
    refine ss_when (y := true) (et_val (ee_isX (tfre "isinstance") (hk.up e1) xf.ec (ee_var 1) (ee_obj (tglo "BadRule")) relv_ref k_BadRule_BadRule)) (fun _ => ?_) fun h => Bool.noConfusion h
    refine ss_app (R := TP [.str "rule", v]) hl (ee_var 4) (EU.q (eu_tup (ea_cons ee_str (ea_cons (ee_xfK (ee_var 1) (hk.up e1) xf.xf (xf.no "part" (by simp)) rfl) ea_nil)) (by simp)) fun p H2 _ h2 => ⟨p, rfl, h2⟩) (by simp) fun v' H2 H3 e2 ⟨p, hv', hp⟩ b3 hl3 => ss_nil fun H4 e4 => ?_
    subst hv'
    have hpl : p ≠ l := ne_of hp (e2 _ _ hl) (by simp)
    have e13 : Ex H H3 := b3.to (e1.trans e2) hn
    refine (show SS X _ _ _ H4 from ?_) H4 (Ex.refl H4)
    have hk4 := hk.up (e13.trans e4)
    refine ss_skip (et_val (ee_isX (tfre "isinstance") hk4 xf.ec (ee_var 1) (ee_obj (tglo "TooMany")) relv_ref k_BadRule_TooMany)) ?_
    refine ss_ret (ee_if (y := true) (ET.is (et_w (ew_and (et_eqI (ee_lenL (tfre "len") (ee_var 4) (sq_of (e4 _ _ hl3))) ee_int) fun _ => ew_and1 (et_val (ee_isX (tfre "isinstance") hk4 xf.ec (ee_var 1) (ee_ty (tfre "ValueError")) relv_ty k_BadRule_ValueError)))) rfl) (fun _ => ee_ixL (ee_var 4) ee_int (sq_of (e4 _ _ hl3)) rfl) fun h => Bool.noConfusion h) fun H5 e5 => hd (.ref p) H5 ((e13.trans e4).trans e5) ⟨p, rfl, e5 _ _ (e4 _ _ (b3 _ _ hpl hp))⟩
  · have xf := x_TooMany (K := K) (mg := mg)
    refine ss_skip (et_val (ee_isX (tfre "isinstance") (hk.up e1) xf.ec (ee_var 1) (ee_obj (tglo "BadRule")) relv_ref k_TooMany_BadRule)) ?_
    refine ss_when (y := true) (et_val (ee_isX (tfre "isinstance") (hk.up e1) xf.ec (ee_var 1) (ee_obj (tglo "TooMany")) relv_ref k_TooMany_TooMany)) (fun _ => ?_) fun h => Bool.noConfusion h
    refine ss_app (R := TP [.str "many", v, u]) hl (ee_var 4) (EU.q (eu_tup (ea_cons ee_str (ea_cons (ee_xfK (ee_var 1) (hk.up e1) xf.xf (xf.no "what" (by simp)) rfl) (ea_cons (ee_xfK (ee_var 1) (hk.up e1) xf.xf (xf.no "most" (by simp)) rfl) ea_nil))) (by simp)) fun p H2 _ h2 => ⟨p, rfl, h2⟩) (by simp) fun v' H2 H3 e2 ⟨p, hv', hp⟩ b3 hl3 => ss_nil fun H4 e4 => ?_
    subst hv'
    have hpl : p ≠ l := ne_of hp (e2 _ _ hl) (by simp)
    have e13 : Ex H H3 := b3.to (e1.trans e2) hn
    refine (show SS X _ _ _ H4 from ?_) H4 (Ex.refl H4)
    have hk4 := hk.up (e13.trans e4)
    refine ss_ret (ee_if (y := true) (ET.is (et_w (ew_and (et_eqI (ee_lenL (tfre "len") (ee_var 4) (sq_of (e4 _ _ hl3))) ee_int) fun _ => ew_and1 (et_val (ee_isX (tfre "isinstance") hk4 xf.ec (ee_var 1) (ee_ty (tfre "ValueError")) relv_ty k_TooMany_ValueError)))) rfl) (fun _ => ee_ixL (ee_var 4) ee_int (sq_of (e4 _ _ hl3)) rfl) fun h => Bool.noConfusion h) fun H5 e5 => hd (.ref p) H5 ((e13.trans e4).trans e5) ⟨p, rfl, e5 _ _ (e4 _ _ (b3 _ _ hpl hp))⟩
end
end Fk
set_option maxRecDepth 100000
set_option maxHeartbeats 2000000
namespace Fk
open PySem PySem.Spec PyProof.Rows L2 Evl He LamX
/-- told of a lambda that always raises -/
def TThear (K : PySem.W.Frag) : (XK → Hp → VK → Prop) → Hp → VK → Prop := fun tl H Q => ∀ H' (Q2 : VK), Ex H H' → tl (Ehear K Q) H' Q2
/-- what its lambda must be -/
def Act (X : Cx) (Ng : List Str) (x : Str) (sg : Scope) (g : Addr) (cdg : Value) (q : Str) (f c' : Addr) (s : Shared) (H : Hp) (tl : XK → Hp → VK → Prop) : Prop :=
  ∀ (W : WX) (pn : List (Addr × Obj)) (xe : Value → Shared → Prop) (E : XK) (p1 p2 : Pos), Takes ((cxOf CX0 X.prog X.w X.K X.mg X.base Ng x sg g cdg X.A X.stack s H E0).tr pn xe) W → (∀ cls d σ' H', E cls d H' → W cls d σ' H') →
    PE ((cxOf CX0 X.prog X.w X.K X.mg X.base Ng x sg g cdg X.A X.stack s H E0).tr pn xe) (.Call (.Name "_law_ask" p1) [] [] p2) (fun σZ HZ Q => σZ[0]? = some (some (.ref f)) ∧ HZ c' = some (CodeO c' q) ∧ tl E HZ Q)
section
variable {P : Program} {w : World} {K : PySem.W.Frag} {mg : Str → Option Value} {base : Heap}
theorem heard_body [T : Tx K mg] {k : Nat} {X : Cx} {g f c' : Addr} {cdg : Value} {q : Str} {s : Shared} {H : Hp} {Q : VK} {tl : XK → Hp → VK → Prop} (hK : X.K = K) (hm : X.mg = mg) (hr : Room k (X.A.deeper (envOfC "_law_heard" (defScope s_law_heard) s.heap.objs.size g cdg)))
    (act : Act X N_law_heard "_law_heard" (defScope s_law_heard) g cdg q f c' s H tl) (hc : H c' = some (CodeO c' q)) (ht : TThear K tl H Q) :
    wSs (cxOf CX0 X.prog X.w X.K X.mg X.base N_law_heard "_law_heard" (defScope s_law_heard) g cdg X.A X.stack s H E0).nox (defBody s_law_heard) { nx := fun _ H' => Q .non H', rt := Q } (L2.start N_law_heard [.ref f]) H := by
  have B : Bx X.prog X.w X.K X.mg X.base N_law_heard (defScope s_law_heard) k (cxOf CX0 X.prog X.w X.K X.mg X.base N_law_heard "_law_heard" (defScope s_law_heard) g cdg X.A X.stack s H E0).nox := bx_of sc_law_heard hr
  have G : Dx (cxOf CX0 X.prog X.w X.K X.mg X.base N_law_heard "_law_heard" (defScope s_law_heard) g cdg X.A X.stack s H E0).nox := dx_of
  have kin : ∀ x, (defScope s_law_heard).names.lookup x = some .local → (cxOf CX0 X.prog X.w X.K X.mg X.base N_law_heard "_law_heard" (defScope s_law_heard) g cdg X.A X.stack s H E0).nox.env.kindOf x = some .local := fun x h => h
  subst hK hm
  unfold Act at act
  generalize hY : (cxOf CX0 X.prog X.w X.K X.mg X.base N_law_heard "_law_heard" (defScope s_law_heard) g cdg X.A X.stack s H E0) = Y at *
  have hst : Y.nox.stack = Y.nox.env :: Y.nox.outer := by
    rw [← hY]
    rfl
  have hfr : Y.nox.env.frame = some Y.nox.env.locals := by
    rw [← hY]
    rfl
  have hKY : Y.nox.K = X.K := by
    rw [← hY]
    rfl
  have hfn : ∀ x, Y.fn x = true := fun x => by
    rw [← hY]
    rfl
  refine (show SS Y.nox _ _ _ H from ss_set2 (RR := fun u z _ => u = .non ∧ z = .non) 1 2 (EU.q (eu_tup (ea_cons ee_non (ea_cons ee_non ea_nil))) fun p H1 _ h1 => ⟨p, _, _, rfl, h1, rfl, rfl⟩) (fun u z H1 e1 hz => ?_) rfl rfl (by decide +kernel) (by decide +kernel) rfl swap_none) H (Ex.refl H)
  obtain ⟨rfl, rfl⟩ := hz
  intro H2 e2 pins s2 I
  have e12 := e1.trans e2
  refine wpAny_execs_cons (try_keep (X := Y.nox) (i := 3) (c := .ref (ga X.K "FreeError")) (tb := fun W D σ H => ∃ Ech : XK, (∀ cls d σ' H', Ech cls d H' → W cls d σ' H') ∧ σ[0]? = some (some (.ref f)) ∧ H c' = some (CodeO c' q) ∧ tl Ech H (fun v H' => D.nx (σ.set 2 (some v)) H')) hst hfr B.ndx (B.ix rfl) (kin _ (by decide +kernel)) ⟨B.gl (by decide +kernel), by decide +kernel, .inl (by rw [B.qm]; exact tglo "FreeError")⟩ I (fun W pn xe tk own => ⟨fun pins' s' σ' H' D I' h' => ?_⟩) ?_)
  · obtain ⟨Ech, hW, h1, h2, h3⟩ := h'
    exact (pss_one (ps_set (X := Y.nox.tr pn xe) (i := 2) B.ndx (B.ix rfl) (B.loc (by decide +kernel)) (act W pn xe Ech _ _ tk hW) (by rfl) (.inl (hfn _)))).run pins' s' σ' H' D I' ⟨h1, h2, h3⟩
  · refine ⟨Ehear X.K Q, fun cls d σ' H' hE => ?_, rfl, e12 _ _ hc, ht _ _ e12⟩
    obtain ⟨D, dd, fs, res, rfl, rfl, hdd, hok, hQ⟩ := hE
    refine ⟨?_, fun a oe na hz hv => ⟨fun σ6 H6 => σ6 = (σ'.set 3 (some (.ref a))).set 1 (some (.ref a)) ∧ H6 = H', ?_, ?_⟩⟩
    · rw [hKY]
      rcases hok with ⟨rfl, _⟩ | ⟨rfl, _⟩
      · exact x_BadRule.te
      · exact x_TooMany.te
    · intro pins6 s6 I6
      have hl : (σ'.set 3 (some (.ref a))).length = 5 := I6.len.trans (congrArg List.length B.qN)
      have h3 : (σ'.set 3 (some (V.ref a)))[3]? = some (some (.ref a)) := by
        rw [List.length_set] at hl
        rw [List.getElem?_set_self (by omega)]
      refine (wSs.of (X := Y.nox.suite a ((a, oe) :: (Y.nox.pn ++ pins))) (pss_one (ps_set (X := Y.nox.suite a ((a, oe) :: (Y.nox.pn ++ pins))) B.ndx (B.ix (i := 1) rfl) (B.loc (by decide +kernel)) (pe_var (B.ix (i := 3) rfl) (B.vis (by decide +kernel)) (by decide +kernel) (by decide +kernel)) (by rfl) (.inl (hfn _)))) ?_) pins6 s6 I6
      exact ⟨_, h3, rfl, rfl⟩
    · rintro σ6 H6 s7 ⟨rfl, rfl⟩ I7
      have hl : σ'.length = 5 := by
        have := I7.len.trans (congrArg List.length B.qN)
        rw [List.length_set, List.length_set, List.length_set] at this
        exact this
      match σ', hl with
      | [x0, x1, x2, x3, x4], _ =>
        have Bk : Bx X.prog X.w X.K X.mg X.base N_law_heard (defScope s_law_heard) k (kCx Y.nox (a, oe) pins) := bx_k
        have Gk : Dx (kCx Y.nox (a, oe) pins) := dx_k
        refine back_k ((show SS (kCx Y.nox (a, oe) pins) _ _ _ H6 from heard_rest (x0 := x0) (x2 := x2) (x4 := x4) ⟨⟨oe, List.mem_append_right _ List.mem_cons_self, hz, hv⟩, hdd⟩ hok fun v H8 e8 hv => hQ v H8 e8 hv) H6 (Ex.refl H6)) I7
end
end Fk
set_option maxRecDepth 100000
set_option maxHeartbeats 2000000
namespace Fk
open PySem PySem.Spec PyProof.Rows L2 Evl He LamX
/-! ### where the table of code objects grows: all else is kept -/
def noT (H : Hp) : Hp := fun b => match H b with
  | some (.tbl _) => none
  | o => o
def NoTab (G : Hp) : Prop := ∀ b ps, G b ≠ some (.tbl ps)
theorem noT_ex {H : Hp} : Ex (noT H) H := fun b o h => by
  unfold noT at h
  split at h
  · cases h
  · exact h
theorem noT_no {H : Hp} : NoTab (noT H) := fun b ps h => by
  unfold noT at h
  split at h
  · cases h
  · rename_i o ho
    exact ho ps h
theorem noT_at {H : Hp} {b : Addr} {o : HO} (h : H b = some o) (hn : ∀ ps, o ≠ .tbl ps) : noT H b = some o := by
  unfold noT
  rw [h]
  cases o <;> first | rfl | exact absurd rfl (hn _)
theorem NoTab.ne {G : Hp} (h : NoTab G) {b : Addr} {o : HO} (hb : G b = some o) : ∀ ps, o ≠ .tbl ps := fun ps e => h b ps (by rw [hb, e])
theorem ex_noT {G H : Hp} (e : Ex G H) (hn : NoTab G) : Ex G (noT H) := fun b o h => noT_at (e b o h) (hn.ne h)
theorem ex_extN {G H H1 : Hp} (e : Ex G H) (hn : NoTab G) (h : ExtN H H1) : Ex G H1 := fun b o hb => h b o (e b o hb) (hn.ne hb)
theorem tabs_upL {T : List (Addr × Str)} {H : Hp} {L : Addr} {xs : List V} {o : HO} (t : Tabs T H) (hL : H L = some (.lst xs)) : Tabs T (upd H L o) := fun p hp => by
  obtain ⟨ps, h1, h2, h3⟩ := t p hp
  refine ⟨ps, ?_, h2, fun pos cv hc => ?_⟩
  · rw [upd_ne (ne_of h1 hL (by simp))]
    exact h1
  · obtain ⟨c, e1, e2⟩ := h3 pos cv hc
    refine ⟨c, e1, ?_⟩
    rw [upd_ne (ne_of e2 hL (by unfold CodeO; simp))]
    exact e2
def EN (te : TE) (T : List (Addr × Str)) (σ : L2.St) (G : Hp) (P : V → Hp → Prop) : Prop := ∀ H1, Ex G H1 → Tabs T H1 → ∀ Q : VK, (∀ v H2, Ex G H2 → Tabs T H2 → P v H2 → Q v H2) → te σ H1 Q
def SN (X : Cx) (sts : List Stmt) (D : Ends) (T : List (Addr × Str)) (σ : L2.St) (G : Hp) : Prop := ∀ H1, Ex G H1 → Tabs T H1 → wSs X sts D σ H1
section
variable {P : Program} {w : World} {K : PySem.W.Frag} {mg : Str → Option Value} {base : Heap} {N : List Str} {sc : Scope} {j k : Nat} {X : Cx} {σ : L2.St} {G H : Hp} {a b e o : Expr} {es : List Expr} {x : Str} {pos pos' apos p lpos : Pos} {rest : List Stmt} {D : Ends} {v : V} {T : List (Addr × Str)} {P1 : V → Hp → Prop}
theorem sn_of (h : ∀ H1, Ex G H1 → Tabs T H1 → SS X rest D σ H1) : SN X rest D T σ G := fun H1 e1 t1 => h H1 e1 t1 H1 (Ex.refl H1)
theorem SN.ss (h : SN X rest D T σ G) (e : Ex G H) (t : Tabs T H) : SS X rest D σ H := fun H2 e2 => h H2 (e.trans e2) (t.ext e2)
/-- [e] -/
theorem en_lst1 (h : EN (wE X e) T σ G P1) (hs : starEach [e] X.env = (false, eval e X.env) :: starEach [] X.env := by rfl) : EN (wE X (.List [e] pos)) T σ G fun u H2 => ∃ l v H1, u = .ref l ∧ P1 v H1 ∧ Ex H1 H2 ∧ H2 l = some (.lst [v]) ∧ H1 l = none := fun H1 e1 t1 Q q =>
  wE.of (pe_lst (pa_cons pe_w pa_nil hs)) (h H1 e1 t1 _ fun v H2 e2 t2 p2 => ⟨(show 1 ≤ sizeLine by decide), fun l hl => q _ _ (e2.trans (Ex.new hl)) (t2.ext (Ex.new hl)) ⟨l, v, H2, rfl, p2, Ex.new hl, upd_same, hl⟩⟩)
theorem sn_set [B : Bx P w K mg base N sc k X] [Gx : Dx X] (m : Nat) (h : EN (wE X e) T σ G P1) (r : ∀ v H1, Ex G H1 → Tabs T H1 → P1 v H1 → SN X rest D T (σ.set m (some v)) (noT H1)) (hN : N[m]? = some x := by rfl) (hv : locB sc x = true := by decide +kernel) (hs : swapsWith e (some (.Name x pos')) pos.line X.env = pure false := by rfl) :
    SN X (.Assign [.Name x pos'] e pos :: rest) D T σ G := fun H1 e1 t1 => wss_cons (ps_set B.ndx (B.ix hN) (B.loc hv) pe_w hs (.inl (Gx.fn x))) (h H1 e1 t1 _ fun v H2 e2 t2 p2 => r v H2 e2 t2 p2 H2 noT_ex t2)
theorem sn_app [B : Bx P w K mg base N sc k X] {L : Addr} {xs : List V} (hL : G L = some (.lst xs)) (ho : EE X o σ G (.ref L)) (h : EN (wE X e) T σ G P1) (hz : xs.length < 100000) (r : ∀ v H1 H2, Ex G H1 → P1 v H1 → ExB L H1 H2 → H2 L = some (.lst (xs ++ [v])) → SN X rest D T σ (noT H2))
    (hbase : attributeBase o "append" X.env (eval o X.env) = eval o X.env := by rfl)
    (hfew : ((backTo pos' (starEach (e :: []) X.env)).all (fun x => !x.1) && (backToKw pos' (keywordEach [] X.env)).all (fun x => x.1.isSome)
      && decide ((e :: []).length + ([] : List Keyword).length + (if ([] : List Keyword).isEmpty then 0 else 1) < 30)) = true := by rfl)
    (hline : (apos.endLine == pos'.line) = true := by rfl) (hs : starEach (e :: []) X.env = (false, eval e X.env) :: starEach [] X.env := by rfl) (hplain : (backTo pos' (starEach [] X.env)).any (·.1) = false := by rfl)
    (hsw : swapsWith (.Call (.Attribute o "append" apos) [e] [] pos') none pos.line X.env = pure false := by rfl) : SN X (.Expr (.Call (.Attribute o "append" apos) [e] [] pos') pos :: rest) D T σ G := fun H1 e1 t1 =>
  wss_cons (ps_expr (pe_bm PySem.F.plainAttrs_list PySem.F.slot_list_append PySem.F.type_list_append mt_append pe_w (pa_cons pe_w pa_nil hs) hbase hfew hline hs hplain) hsw) (ho H1 e1 _ fun H2 e2 => ⟨Or.inl ⟨rfl, xs, sq_of (e2 _ _ (e1 _ _ hL))⟩, h H2 (e1.trans e2) (t1.ext e2) _ fun v H3 e3 t3 p3 =>
    ⟨L, xs, v, rfl, rfl, e3 _ _ hL, sz_lt hz, r v H3 _ e3 p3 (fun b o hb h => by rw [upd_ne hb]; exact h) upd_same _ noT_ex (tabs_upL t3 (e3 _ _ hL))⟩⟩)
/-- _law_heard(lambda: body), the body raises -/
theorem en_heard [B : Bx P w K mg base N sc k X] [Tk : Tx K mg] {c Pt C : Addr} {fs : List (Str × V)} {res : List V} {params : Arguments} {body : Expr} {scope : Scope} (TB : TabB base mg c Pt) (hcode : X.env.code = .ref c) (hT : (Pt, X.env.qual ++ "<lambda>") ∈ T) (hu : ∀ p ∈ T, p.1 = Pt → p.2 = X.env.qual ++ "<lambda>") (hn : NoTab G) (hok : HearOk K C fs res)
    (hb : ∀ X' E H', Bx P w K mg base N scope j X' → Takes X' (fun cls d _ H => E cls d H) → Ex G H' → XQ H' C fs E → ER X' body σ H') (hj : j + 2 ≤ k := by decide) (hl : lamSB sc scope = true := by decide +kernel) (hg : gloB sc "_law_heard" = true := by decide +kernel) (hdef : defaultsOf params X.env = ([], []) := by rfl)
    (hbind : ∀ (q : Str) (cl : List (Str × Addr)) (pm cv ctv : Value), bindArgs (PySem.W.kla_fn "<lambda>" q params body scope cl pm cv ctv) ⟨[], []⟩ = pure [] := by intros; rfl) :
    EN (wE X (.Call (.Name "_law_heard" p) [.Lambda params body scope lpos] [] pos)) T σ G (TP res) := by
  obtain ⟨fd, F⟩ := f_law_heard (K := K) (mg := mg)
  have hbi := F.bindsN (ps := ["_law_ask"]) fun _ _ _ _ _ _ us hl => match us, hl with | [_], _ => rfl
  obtain ⟨oc, od, dV, kV, doc, pm, an, cdv, ct, osl, rfl, lk, hcd, _, _⟩ := F.ex
  obtain ⟨rfl, rfl, rfl, rfl, rfl, qN, nd, qs, calm, hr⟩ := id B
  have L : LamS X.env.scope scope := by
    rw [qs]
    exact lamS_by hl
  intro H1 e1 t1 Q q
  refine wE.of (pe_lamcall (T := T) (TT := TThear X.K) (t := fun E σ H Q => ∀ (A : Around) (outer : List Env) (s : Shared) (H0 : Hp) (f c' : Addr), Room j (A.deeper (lamEnv X scope s.heap.objs.size f c')) → wE (lamCx X A outer s H0 E scope f c') body σ H Q) (B.gl hg) (tglo "_law_heard") F.kp lk hcd hbi sc_law_heard rfl (.inl (by decide +kernel))
    (fun f c' s H Q tl act hc ht => ⟨_, pss_w, heard_body rfl rfl ((hr.mono hj).deeper _) act hc ht⟩) TB hcode hT hu (hr.mono hj) L hdef hbind (fun A outer s H E f c' hR => ⟨fun pins s' σ' H' Q' I h => h A outer s H f c' hR pins s' I⟩)) ⟨t1, fun H2 eN t2 H3 Q2 e3 A outer s H0 f c' hR => ?_⟩
  have e13 : Ex G H3 := (ex_extN e1 hn eN).trans e3
  have Bl : Bx X.prog X.w X.K X.mg X.base N scope j (lamCx X A outer s H0 (Ehear X.K Q) scope f c') := ⟨rfl, rfl, rfl, rfl, rfl, qN, nd, rfl, rfl, hR⟩
  refine hb _ _ H3 Bl (takes_of rfl rfl rfl rfl) e13 (fun d H4 hd e4 hx => ?_) H3 (Ex.refl H3) Q2
  exact ⟨C, d, fs, res, rfl, rfl, hx, hok, fun v H5 e5 hv => q v H5 ((e13.trans e4).trans e5) (((t2.ext e3).ext e4).ext e5) hv⟩
end
end Fk
set_option maxRecDepth 100000
set_option maxHeartbeats 2000000
namespace Fk
open PySem PySem.Spec PyProof.Rows L2 Evl He LamX
section
variable {P : Program} {w : World} {K : PySem.W.Frag} {mg : Str → Option Value} {base : Heap} {N : List Str} {sc : Scope} {j k : Nat} {X : Cx} {σ : L2.St} {G H : Hp} {a b e o : Expr} {pos : Pos} {P1 P2 : V → Hp → Prop}
/-- l * m, a list -/
theorem eq_rep [B : Bx P w K mg base N sc k X] {xs : List V} {m : Int} (ha : EQ X a σ H (LP xs)) (hb : EE X b σ H (.int m)) (h2 : 0 ≤ m ∧ m ≤ 1000) (hz : xs.length * m.toNat ≤ 100000) : EQ X (.BinOp a .Mult b pos) σ H (LP (List.replicate m.toNat xs).flatten) :=
  eq_op (P2 := fun u _ => u = .int m) op_rep ha (hb.q fun _ _ => rfl) (fun _ _ _ e p => p.up e) fun x y H1 e1 ⟨l, hx, hl⟩ hy Q q => ⟨l, m, xs, hx, hy, hl, by omega, by omega, sz_of hz, fun n hn => q _ _ (Ex.new hn) ⟨n, rfl, upd_same⟩⟩
end
section
variable {P : Program} {w : World} {K : PySem.W.Frag} {mg : Str → Option Value} {base : Heap} {N : List Str} {sc : Scope} {j k : Nat} {X : Cx} {σ : L2.St} {G H : Hp} {a b c e o : Expr} {pos p : Pos}
/-- Greatest(e) -/
theorem eq_great [T : Tx K mg] [B : Bx P w K mg base N sc k X] {t : Tb} (h : EQ X e σ H (TbAt K t)) (hj : 2 ≤ k := by decide) (hg : gloB sc "Greatest" = true := by decide +kernel) (he : starEach [e] X.env = (false, eval e X.env) :: starEach [] X.env := by rfl) : EQ X (.Call (.Name "Greatest" p) [e] [] pos) σ H (GrAt K t) :=
  EQ.of (ma_raw ma_Greatest hj hg he rfl) fun H1 e1 Q q => (eaq_one (P2 := fun vs H2 => ∃ o, vs = [o] ∧ TbAt K t o H2) h (fun v H2 _ hv => ⟨v, rfl, hv⟩) (fun _ _ _ e h => h.up e) he) H1 e1 _ fun vs H2 e2 ⟨o, hv, ho⟩ =>
    make_q (RI := I_Greatest (K := K)) (TI := fun fs _ => fs = [(("table" : Str), o)]) ⟨t, o, hv, ho, fun _ _ => rfl⟩ fun v H' e3 ⟨x, dx, fs, hv, hx, hfs⟩ => q v H' (e2.trans e3) ⟨o, ho.up e3, x, dx, hv, by rw [hx, hfs]⟩
/-- Table(a, b, c) -/
theorem eq_tab [T : Tx K mg] [B : Bx P w K mg base N sc k X] {bz pz : Int} {ns : List Int} (ha : EE X a σ H (.int bz)) (hb : EE X b σ H (.int pz)) (hc : EQ X c σ H (LP (ns.map V.int))) (hN : Nums bz pz ns) (hj : 4 ≤ k := by decide) (hg : gloB sc "Table" = true := by decide +kernel) (he : starEach [a, b, c] X.env = (false, eval a X.env) :: starEach [b, c] X.env := by rfl) (he2 : starEach [b, c] X.env = (false, eval b X.env) :: starEach [c] X.env := by rfl) (he3 : starEach [c] X.env = (false, eval c X.env) :: starEach [] X.env := by rfl)
    (hpl : (backTo pos (starEach [b, c] X.env)).any (·.1) = false := by rfl) : EQ X (.Call (.Name "Table" p) [a, b, c] [] pos) σ H (TbAt K (mkT bz ns)) :=
  EvQ.imp (eq_make (TI := fun fs H' => ∃ N, fs = fsT (mkT bz ns) N ∧ H' N = some (.tup ((mkT bz ns).ns.map V.int))) ma_Table (eaq_cons (P1 := fun v _ => v = .int bz) (ha.q fun _ _ => rfl) (fun v1 H1 e1 h1 => eaq_cons (P1 := fun v _ => v = .int pz) (EE.q (hb.mono e1) fun _ _ => rfl) (fun v2 H2 e2 h2 =>
      eaq_one (P1 := LP (ns.map V.int)) (EvQ.mono (e1.trans e2) hc) (fun v3 H3 e3 ⟨l, h3, hl⟩ => ⟨l, bz, pz, ns, by rw [h1, h2, h3], hl, hN, fun N H' e hN => ⟨N, rfl, hN⟩⟩) (fun _ _ _ e p => p.up e) he3) he2) he) hj hg he hpl) fun v H1 e1 ⟨x, dx, fs, hv, hx, N, hfs, hN'⟩ => ⟨mkT_ok hN, N, hN', x, dx, hv, by rw [hx, hfs]; rfl⟩
end
/-! ### displays as data -/
theorem dp_up {K : PySem.W.Frag} {H H' : Hp} (e : Ex H H') : (∀ {v : V} {d : PyData}, Dp K H v d → Dp K H' v d) ∧ ∀ {vs : List V} {ds : List PyData}, DpAll K H vs ds → DpAll K H' vs ds := by
  have h : ∀ {v : V} {d : PyData}, Dp K H v d → Dp K H' v d := fun {v d} h => Dp.rec (motive_1 := fun v d _ => Dp K H' v d) (motive_2 := fun vs ds _ => DpAll K H' vs ds) .non (fun b => .bl b) (fun i => .int i) (fun x => .str x) (fun hs _ ih => .lst (ex_l e hs) ih) (fun hs _ ih => .tup (ex_t e hs) ih) .nil (fun _ _ h1 h2 => .cons h1 h2) h
  exact ⟨h, fun {vs ds} h => DpAll.rec (motive_1 := fun v d _ => Dp K H' v d) (motive_2 := fun vs ds _ => DpAll K H' vs ds) .non (fun b => .bl b) (fun i => .int i) (fun x => .str x) (fun hs _ ih => .lst (ex_l e hs) ih) (fun hs _ ih => .tup (ex_t e hs) ih) .nil (fun _ _ h1 h2 => .cons h1 h2) h⟩
section
variable {P : Program} {w : World} {K : PySem.W.Frag} {mg : Str → Option Value} {base : Heap} {N : List Str} {sc : Scope} {j k : Nat} {X : Cx} {σ : L2.St} {G H : Hp} {a b c e o : Expr} {es : List Expr} {pos p : Pos} {d : PyData} {ds : List PyData}
abbrev QD (K : PySem.W.Frag) (X : Cx) (e : Expr) (σ : L2.St) (H : Hp) (d : PyData) : Prop := EQ X e σ H fun v H' => Dp K H' v d
abbrev QDs (K : PySem.W.Frag) (X : Cx) (es : List Expr) (σ : L2.St) (H : Hp) (ds : List PyData) : Prop := EAQ X es σ H fun vs H' => DpAll K H' vs ds
theorem qd_str {m : Str} {q : Nat} : QD K X (.Constant (.str m) q pos) σ H (.str m) := ee_str.q fun _ _ => .str m
theorem qd_int {m : Int} {q : Nat} : QD K X (.Constant (.int m) q pos) σ H (.int m) := ee_int.q fun _ _ => .int m
theorem qds_nil : QDs K X [] σ H [] := eaq_nil fun _ _ => .nil
theorem qds_cons (h : QD K X e σ H d) (hr : QDs K X es σ H ds) (hs : starEach (e :: es) X.env = (false, eval e X.env) :: starEach es X.env := by rfl) : QDs K X (e :: es) σ H (d :: ds) :=
  EAQ.of (pa_cons pe_w pa_w hs) fun H1 e1 Q q => h H1 e1 _ fun v H2 e2 p => hr H2 (e1.trans e2) _ fun vs H3 e3 p2 => q _ H3 (e2.trans e3) (.cons ((dp_up e3).1 p) p2)
theorem DpAll.len {K : PySem.W.Frag} {H : Hp} : ∀ {vs : List V} {ds : List PyData}, DpAll K H vs ds → vs.length = ds.length
  | _, _, .nil => rfl
  | _, _, .cons _ h => congrArg Nat.succ (DpAll.len h)
theorem qd_tup {x1 : Nat} (h : QDs K X es σ H ds) (hz : ds.length ≤ 1000 := by decide) : QD K X (.Tuple es x1 pos) σ H (.tuple ds) :=
  EQ.of (pe_tup pa_w) fun H1 e1 Q q => h H1 e1 _ fun vs H2 e2 hd => ⟨sz_of (by rw [DpAll.len hd]; omega), fun n hn => q _ _ (e2.trans (Ex.new hn)) (.tup (st_of upd_same) ((dp_up (Ex.new hn)).2 hd))⟩
theorem qd_lst (h : QDs K X es σ H ds) (hz : ds.length ≤ 1000 := by decide) : QD K X (.List es pos) σ H (.list ds) :=
  EQ.of (pe_lst pa_w) fun H1 e1 Q q => h H1 e1 _ fun vs H2 e2 hd => ⟨sz_of (by rw [DpAll.len hd]; omega), fun n hn => q _ _ (e2.trans (Ex.new hn)) (.lst (sq_of upd_same) ((dp_up (Ex.new hn)).2 hd))⟩
theorem ee_eqQ [B : Bx P w K mg base N sc k X] {da db : PyData} {r : Bool} (ha : QD K X a σ H da) (hb : QD K X b σ H db) (sa : SeqAt.shaped da = true) (sb : SeqAt.shaped db = true) (hz : PyData.eqv da db = r) : EE X (.Compare a [.Eq] [b] pos) σ H (.bl r) :=
  EQ.val (eq_cmp (op_eqD B.room.units) (nomark _) ha hb (fun _ _ _ e p => (dp_up e).1 p) fun x y H1 e1 d1 d2 Q kk => by
    rw [B.qK]
    refine ⟨da, db, d1, d2, sa, sb, ?_⟩
    rw [hz]
    exact kk _ H1 (Ex.refl H1) rfl)
end
/-! ### the tall table -/
def tallN : List Int := [0, 1] ++ (List.replicate 398 [(0 : Int)]).flatten ++ [2]
theorem tallN_ok : Nums 1 400 tallN := ⟨by decide, by decide, by decide +kernel, by decide, by decide +kernel, by decide +kernel⟩
theorem tall_far : ¬ ((mkT 1 tallN).b + lcmZ (mkT 1 tallN).p 1 ≤ 400) := by decide +kernel

theorem GrAt.exb {K : PySem.W.Frag} {t : Tb} {o : V} {G H : Hp} {L : Addr} {xs : List V} (h : GrAt K t o G) (hL : G L = some (.lst xs)) (e : ExB L G H) : GrAt K t o (noT H) := by
  obtain ⟨o2, ⟨hto, A, hA, p, dp, rfl, hp⟩, q, dq, rfl, hq⟩ := h
  have at_ : ∀ {b : Addr} {u : HO}, G b = some u → u ≠ .lst xs → (∀ ps, u ≠ .tbl ps) → noT H b = some u := fun hb hu hn => noT_at (e _ _ (ne_of hb hL hu) hb) hn
  exact ⟨_, ⟨hto, A, at_ hA (by simp) (by simp), p, dp, rfl, at_ hp (by simp) (by simp)⟩, q, dq, rfl, at_ hq (by simp) (by simp)⟩
theorem GrAt.noT {K : PySem.W.Frag} {t : Tb} {o : V} {H : Hp} (h : GrAt K t o H) : GrAt K t o (noT H) := by
  obtain ⟨o2, ⟨hto, A, hA, p, dp, rfl, hp⟩, q, dq, rfl, hq⟩ := h
  exact ⟨_, ⟨hto, A, noT_at hA (by simp), p, dp, rfl, noT_at hp (by simp)⟩, q, dq, rfl, noT_at hq (by simp)⟩
/-- the name of the lambdas' code objects -/
def qRef : Str := (envOfC "_law_refused_right" (defScope s_law_refused_right) 0 0 .none).qual ++ "<lambda>"
def refT (K : PySem.W.Frag) : List (Addr × Str) := [((cT K ("_law_refused_right", none)).2, qRef)]
def spRef (K : PySem.W.Frag) : Sp := fun vs H Q _ => ∃ (t : Tb) (o : V), vs = [o] ∧ GrAt K t o H ∧ Tabs (refT K) H ∧ ∀ H', Q (.bl true) H'
section
variable {P : Program} {w : World} {K : PySem.W.Frag} {mg : Str → Option Value} {base : Heap}
theorem cl_refused [T : Tx K mg] [Px P] (TB : TabB base mg (cT K ("_law_refused_right", none)).1 (cT K ("_law_refused_right", none)).2) : Cl P w K mg base 13 "_law_refused_right" (spRef K) := by
  obtain ⟨fd, F⟩ := f_law_refused_right (K := K) (mg := mg)
  have hbi := F.bindsN (ps := ["_law_real_here"]) fun _ _ _ _ _ _ us hl => match us, hl with | [_], _ => rfl
  have hkp := F.kp
  obtain ⟨oc, od, dV, kV, doc, pm, an, cdv, ct, osl, rfl, lk, hcd, _, _⟩ := F.ex
  obtain ⟨c, rfl⟩ := codeIn_ref hcd
  have hc : (cT K ("_law_refused_right", none)).1 = c := codeOf_eq (p := ("_law_refused_right", none)) lk rfl
  rw [hc] at TB
  refine ⟨⟨_, FnOk.raw0 (fn_of (sp := spRef K) (k := 12) lk hcd sc_law_refused_right ?_ fun A outer s H vs Q E hr hsp => ⟨_, PSs.nox pss_w, ?_⟩) hbi, tglo "_law_refused_right", hkp⟩⟩
  · rintro vs H Q E ⟨t, o, rfl, _⟩
    rfl
  · obtain ⟨t, o, rfl, hG, hT, hq⟩ := hsp
    have B : Bx P w K mg base N_law_refused_right (defScope s_law_refused_right) 12 (cxOf CX0 P w K mg base N_law_refused_right "_law_refused_right" (defScope s_law_refused_right) (ga K "_law_refused_right") (.ref c) A outer s H E).nox := bx_of sc_law_refused_right hr
    have Gx : Dx (cxOf CX0 P w K mg base N_law_refused_right "_law_refused_right" (defScope s_law_refused_right) (ga K "_law_refused_right") (.ref c) A outer s H E).nox := dx_of
    have hcode : (cxOf CX0 P w K mg base N_law_refused_right "_law_refused_right" (defScope s_law_refused_right) (ga K "_law_refused_right") (.ref c) A outer s H E).nox.env.code = .ref c := rfl
    have hqual : (cxOf CX0 P w K mg base N_law_refused_right "_law_refused_right" (defScope s_law_refused_right) (ga K "_law_refused_right") (.ref c) A outer s H E).nox.env.qual ++ "<lambda>" = qRef := rfl
    generalize (cxOf CX0 P w K mg base N_law_refused_right "_law_refused_right" (defScope s_law_refused_right) (ga K "_law_refused_right") (.ref c) A outer s H E).nox = X at *
    have hmem : ((cT K ("_law_refused_right", none)).2, X.env.qual ++ "<lambda>") ∈ refT K := by
      rw [hqual]
      exact List.mem_singleton.mpr rfl
    have hu : ∀ p ∈ refT K, p.1 = (cT K ("_law_refused_right", none)).2 → p.2 = X.env.qual ++ "<lambda>" := fun p hp _ => by
      rw [hqual, List.mem_singleton.mp hp]
    refine (show SN X (defBody s_law_refused_right) _ (refT K) (L2.start N_law_refused_right [o]) (noT H) from ?_) H noT_ex hT
    have hG0 : GrAt K t o (noT H) := hG.noT
    have hN0 : NoTab (noT H) := noT_no
    generalize noT H = G0 at *
    refine sn_of fun H1 e1 t1 => ss_setQ (R := GrAt K (mkT 1 tallN)) 2 (eq_great (eq_tab ee_int ee_int (EL.lp (EL.is (el_cat (EL.lp (el_cat (EL.lp (el_lst (ea_cons ee_int (ea_cons ee_int ea_nil)))) (eq_rep (EL.lp (el_lst (ea_cons ee_int ea_nil))) ee_int (by omega) (by decide)) (by decide +kernel))) (EL.lp (el_lst (ea_cons ee_int ea_nil))) (by decide +kernel)) (show _ = tallN.map V.int by decide +kernel))) tallN_ok)) fun ot H2 e2 hO => ?_
    refine SN.ss (G := noT H2) ?_ noT_ex (t1.ext e2)
    have hG2 : GrAt K t o (noT H2) := (hG0.up (e1.trans e2)).noT
    have hO2 : GrAt K (mkT 1 tallN) ot (noT H2) := hO.noT
    have hN2 : NoTab (noT H2) := noT_no
    generalize noT H2 = G2 at *
    have br : ∀ (x : Str), HearOk K (ga K "BadRule") [("part", .str x)] [.str "rule", .str x] := fun x => .inl ⟨rfl, _, rfl, rfl⟩
    have tup_b : ∀ {G H : Hp} {p L : Addr} {xs ys : List V}, G p = some (.tup xs) → G L = some (.lst ys) → ExB L G H → noT H p = some (.tup xs) := fun hp hL b => noT_at (b _ _ (ne_of hp hL (by simp)) hp) (by simp)
    refine sn_set 1 (en_lst1 (en_heard (j := 9) (fs := [("part", .str "rest")]) TB hcode hmem hu hN2 (br "rest") fun X' E H' B' tk e3 hx => ?_)) (fun v1 H3 e3 t3 hv1 => ?_)
    · obtain ⟨o2, hT2, q, dq, rfl, hq⟩ := hG2.up e3
      exact er_meth tk me_sizes3 (ee_var 0) hq rfl (ea_cons ee_int (ea_cons ee_int (ea_cons ee_int ea_nil))) fun H4 e4 => ⟨t, _, 9, 2, 0, rfl, (hG2.up e3).up e4, .inl ⟨"rest", .rest (by omega) (by omega) (by omega), hx.mono e4⟩⟩
    obtain ⟨l, v, Hb, rfl, ⟨p1, rfl, hp1⟩, eb, hl, _⟩ := hv1
    have hG3 := (hG2.up e3).noT
    have hO3 := (hO2.up e3).noT
    have hN3 : NoTab (noT H3) := noT_no
    have hl3 := noT_at hl (by simp)
    have hp3 := noT_at (eb _ _ hp1) (by simp)
    generalize noT H3 = G3 at *
    refine sn_app hl3 (ee_var 1) (en_heard (j := 9) (fs := [("part", .str "leave")]) TB hcode hmem hu hN3 (br "leave") fun X' E H' B' tk e4 hx => ?_) (by simp) (fun v2 H4 H5 e4 ⟨p2, hv2, hp2⟩ b5 hl5 => ?_)
    · obtain ⟨o2, hT2, q, dq, rfl, hq⟩ := hG3.up e4
      exact er_meth tk me_sizes3 (ee_var 0) hq rfl (ea_cons ee_int (ea_cons ee_int (ea_cons ee_int ea_nil))) fun H5 e5 => ⟨t, _, 0, 7, 401, rfl, (hG3.up e4).up e5, .inl ⟨"leave", .leave (by omega), hx.mono e5⟩⟩
    subst hv2
    have hG4 := (hG3.up e4).exb (e4 _ _ hl3) b5
    have hO4 := (hO3.up e4).exb (e4 _ _ hl3) b5
    have hp14 := tup_b (e4 _ _ hp3) (e4 _ _ hl3) b5
    have hp24 := tup_b hp2 (e4 _ _ hl3) b5
    have hl4 := noT_at hl5 (by simp)
    have hN4 : NoTab (noT H5) := noT_no
    generalize noT H5 = G4 at *
    refine sn_app hl4 (ee_var 1) (en_heard (j := 9) (fs := [("part", .str "modulus")]) TB hcode hmem hu hN4 (br "modulus") fun X' E H' B' tk e6 hx => ?_) (by simp) (fun v3 H6 H7 e6 ⟨p3, hv3, hp3'⟩ b7 hl7 => ?_)
    · obtain ⟨o2, hT2, q, dq, rfl, hq⟩ := hG4.up e6
      exact er_meth tk me_sizes2 (ee_var 0) hq rfl (ea_cons ee_int (ea_cons ee_int ea_nil)) fun H7 e7 => ⟨t, _, 0, 7, 0, rfl, (hG4.up e6).up e7, .inl ⟨"modulus", .modulus (by omega) (by omega), hx.mono e7⟩⟩
    subst hv3
    have hO5 := (hO4.up e6).exb (e6 _ _ hl4) b7
    have hp15 := tup_b (e6 _ _ hp14) (e6 _ _ hl4) b7
    have hp25 := tup_b (e6 _ _ hp24) (e6 _ _ hl4) b7
    have hp35 := tup_b hp3' (e6 _ _ hl4) b7
    have hl5' := noT_at hl7 (by simp)
    have hN5 : NoTab (noT H7) := noT_no
    generalize noT H7 = G5 at *
    refine sn_app hl5' (ee_var 1) (en_heard (j := 9) (fs := [("most", .int 400), ("what", .str "heaps")]) (res := [.str "many", .str "heaps", .int 400]) TB hcode hmem hu hN5 (.inr ⟨rfl, _, _, rfl, rfl⟩) fun X' E H' B' tk e8 hx => ?_) (by simp) (fun v4 H8 H9 e8 ⟨p4, hv4, hp4⟩ b9 hl9 => ?_)
    · obtain ⟨o2, hT2, q, dq, rfl, hq⟩ := hO5.up e8
      exact er_meth0 tk me_sizes0 (ee_var 2) hq rfl fun H9 e9 => ⟨_, _, 0, 1, 0, rfl, (hO5.up e8).up e9, .inr ⟨(show (1 : Int) ≤ 1 ∧ (1 : Int) ≤ 400 ∧ (0 : Int) ≤ 0 ∧ (0 : Int) ≤ 400 ∧ (1 : Int) ≤ 1 ∧ (1 : Int) ≤ 6 ∧ (0 : Int) ≤ 0 ∧ (0 : Int) < 1 by decide), tall_far, hx.mono e9⟩⟩
    subst hv4
    have hp16 := tup_b (e8 _ _ hp15) (e8 _ _ hl5') b9
    have hp26 := tup_b (e8 _ _ hp25) (e8 _ _ hl5') b9
    have hp36 := tup_b (e8 _ _ hp35) (e8 _ _ hl5') b9
    have hp46 := tup_b hp4 (e8 _ _ hl5') b9
    have hl6 := noT_at hl9 (by simp)
    generalize noT H9 = G6 at *
    have tp : ∀ {H : Hp} {p : Addr} {vs : List V} {ds : List PyData}, H p = some (.tup vs) → DpAll K H vs ds → Dp K H (.ref p) (.tuple ds) := fun hp hd => .tup (st_of hp) hd
    refine sn_of fun H10 e10 t10 => ss_ret (v := .bl true) (ee_eqQ (da := .list [.tuple [.str "rule", .str "rest"], .tuple [.str "rule", .str "leave"], .tuple [.str "rule", .str "modulus"], .tuple [.str "many", .str "heaps", .int 400]]) ((ee_var 1).q fun H11 e11 => ?_)
      (qd_lst (qds_cons (qd_tup (qds_cons qd_str (qds_cons qd_str qds_nil))) (qds_cons (qd_tup (qds_cons qd_str (qds_cons qd_str qds_nil))) (qds_cons (qd_tup (qds_cons qd_str (qds_cons qd_str qds_nil))) (qds_cons (qd_tup (qds_cons qd_str (qds_cons qd_str (qds_cons qd_int qds_nil)))) qds_nil))))) (by decide +kernel) (by decide +kernel) (by decide +kernel)) fun H11 e11 => hq H11
    have e := e10.trans e11
    exact .lst (sq_of (e _ _ hl6)) (.cons (tp (e _ _ hp16) (.cons (.str _) (.cons (.str _) .nil))) (.cons (tp (e _ _ hp26) (.cons (.str _) (.cons (.str _) .nil))) (.cons (tp (e _ _ hp36) (.cons (.str _) (.cons (.str _) .nil))) (.cons (tp (e _ _ hp46) (.cons (.str _) (.cons (.str _) (.cons (.int _) .nil)))) .nil))))
end
end Fk
set_option maxRecDepth 100000
set_option maxHeartbeats 2000000
namespace Fk
open PySem PySem.Spec PyProof.Rows L2 Evl He
section
variable {X : Cx} {n : Nat} {f C : Addr} {sp : Sp}
theorem call_strO (m : OpM X.K C f "__str__") (Fn : FnR X.prog X.w X.K X.mg X.base CX0 n f sp) (hr : Room (n + 2) X.A) : CallR X (.type "str") (fun xs H Q => ∃ a dx fs, xs = [.ref a] ∧ H a = some (.ins C dx fs) ∧ sp [.ref a] H (fun v H' => ∃ y, v = .str y ∧ Q (.str y) H') E0) := by
  intro pins s σ H xs us Q I r ⟨a, dx, fs, hx, ha, h⟩
  subst hx
  obtain rfl := Vals.ref1 r
  obtain ⟨od, J⟩ := look_at I ha
  refine PySem.W.kso_call (by have := hr.un; show X.A.units + 1 + 1 < cLine; omega) I.kIn J m.at_ m.fn (thn (run_at (us := [.ref a]) (vs := [.ref a]) Fn ⟨hr.in1.in1, rfl⟩ I (.cons rfl .nil) h) fun r s' ⟨z, H', I', rz, y, ez, q⟩ => ?_)
  subst ez
  obtain ⟨tk, rfl⟩ := rz
  exact ⟨.str y, H', I', ⟨tk, rfl⟩, q⟩
theorem call_reprB : CallR X (.builtin "repr") (fun xs H Q => ∃ b : Bool, xs = [.bl b] ∧ Q (.str (if b then "True" else "False")) H) := by
  intro pins s σ H xs us Q I r h
  obtain ⟨b, rfl, q⟩ := h
  obtain ⟨u, rfl, ru⟩ := vals1 r
  cases ru
  refine PySem.P.repr_of_bool ⟨.str _, H, I.tok _, ⟨_, rfl⟩, q⟩
/-- repr of a list of bools, no repr around -/
theorem call_reprL (hg : X.A.guards = some []) (hu : X.A.units + 64 < cLine) : CallR X (.builtin "repr") (fun xs H Q => ∃ (p : Addr) (bs : List Bool), xs = [.ref p] ∧ H p = some (.lst (bs.map V.bl)) ∧ bs.length ≤ 2 ∧ ∀ H', Ex H H' → Q (.str (PyData.list (bs.map PyData.bool)).shown) H') := by
  intro pins s σ H xs us Q I r h
  obtain ⟨p, bs, rfl, hp, hb, q⟩ := h
  obtain rfl := Vals.ref1 r
  have hd : Dp X.K H (.ref p) (.list (bs.map PyData.bool)) := .lst (sq_of hp) (by
    clear hp q hb
    induction bs with
    | nil => exact .nil
    | cons b bs ih => exact .cons (.bl b) ih)
  obtain ⟨as, rd⟩ := Dp.reads I _ _ _ hd rfl
  have look : ∀ b c : Bool, (PyData.list [.bool b, .bool c]).showable = true ∧ (PyData.list [.bool b, .bool c]).hasDict = false ∧ (PyData.list [.bool b, .bool c]).depth ≤ 60 ∧ (PyData.list [.bool b, .bool c]).shown.length ≤ sizeLine := by decide +kernel
  have look1 : ∀ b : Bool, (PyData.list [.bool b]).showable = true ∧ (PyData.list [.bool b]).hasDict = false ∧ (PyData.list [.bool b]).depth ≤ 60 ∧ (PyData.list [.bool b]).shown.length ≤ sizeLine := by decide +kernel
  have look0 : (PyData.list []).showable = true ∧ (PyData.list []).hasDict = false ∧ (PyData.list []).depth ≤ 60 ∧ (PyData.list []).shown.length ≤ sizeLine := by decide +kernel
  have lk : (PyData.list (bs.map PyData.bool)).showable = true ∧ (PyData.list (bs.map PyData.bool)).hasDict = false ∧ (PyData.list (bs.map PyData.bool)).depth ≤ 60 ∧ (PyData.list (bs.map PyData.bool)).shown.length ≤ sizeLine := by
    match bs, hb with
    | [], _ => exact look0
    | [b], _ => exact look1 b
    | [b, c], _ => exact look b c
  obtain ⟨k1, k2, k3, k4⟩ := lk
  exact repr_of_reads' rd k1 (PyData.noDict_hsm k2) hg (by omega) (fun _ _ e => e) (fun h' u tk hk => ⟨.str _, H, I.kept (t' := tk) hk, ⟨u, rfl⟩, q H (Ex.refl H)⟩) k4
end
section
variable {P : Program} {w : World} {K : PySem.W.Frag} {mg : Str → Option Value} {base : Heap} {N : List Str} {sc : Scope} {j k : Nat} {X : Cx} {σ : L2.St} {H : Hp} {a b e : Expr} {pos p p2 : Pos}
/-- repr(e), a bool -/
theorem ee_reprB [B : Bx P w K mg base N sc k X] {y : Bool} (hm : mg "repr" = none) (h : EE X e σ H (.bl y)) (hg : gloB sc "repr" = true := by decide +kernel) (he : starEach (e :: []) X.env = (false, eval e X.env) :: starEach [] X.env := by rfl) : EE X (.Call (.Name "repr" p) [e] [] pos) σ H (.str (if y then "True" else "False")) :=
  ee_callB call_reprB hm rfl (ea_cons h ea_nil he) (rc_of fun H1 _ Q q => ⟨y, rfl, q⟩) hg he
/-- repr([a, b]), bools -/
theorem ee_reprL [B : Bx P w K mg base N sc k X] {y z : Bool} (hG : X.A.guards = some []) (hm : mg "repr" = none) (ha : EE X a σ H (.bl y)) (hb : EE X b σ H (.bl z)) (hg : gloB sc "repr" = true := by decide +kernel) (he : starEach [.List [a, b] p2] X.env = (false, eval (.List [a, b] p2) X.env) :: starEach [] X.env := by rfl)
    (he1 : starEach [a, b] X.env = (false, eval a X.env) :: starEach [b] X.env := by rfl) (he2 : starEach [b] X.env = (false, eval b X.env) :: starEach [] X.env := by rfl) : EE X (.Call (.Name "repr" p) [.List [a, b] p2] [] pos) σ H (.str (PyData.list [.bool y, .bool z]).shown) :=
  EE.of (pe_callB (call_reprL hG B.room.units) (B.gl hg) (by rw [B.qm]; exact hm) rfl pa_w (gloB_ok hg).2.2 (gloB_ok hg).2.1 he) fun H1 e1 Q q =>
    (eaq_one (P1 := LP [.bl y, .bl z]) (P2 := fun vs H2 => ∃ l, vs = [.ref l] ∧ H2 l = some (.lst [.bl y, .bl z])) (EL.lp (el_lst (ea_cons ha (ea_cons hb ea_nil he2) he1) (by simp))) (fun v H2 _ ⟨l, hv, hl⟩ => ⟨l, by rw [hv], hl⟩) (fun _ _ _ e p => p.up e) he) H1 e1 _ fun vs H2 e2 ⟨l, hv, hl⟩ => ⟨l, [y, z], hv, hl, by simp, fun H3 e3 => q H3 (e2.trans e3)⟩
/-- str(e), an own instance -/
theorem eq_strO {C : Str} {f : Addr} {R : List V → Hp → (V → Hp → Prop) → Prop} {P1 : V → Hp → Prop} [B : Bx P w K mg base N sc k X] (m : OpM K (ga K C) f "__str__") (Fn : FnR P w K mg base CX0 j f (spR R)) (hm : mg "str" = none) (h : EQ X e σ H P1) (h1 : ∀ v H1 H2, Ex H1 H2 → P1 v H1 → P1 v H2) (hr : ∀ v H1, Ex H H1 → P1 v H1 → ∃ a dx fs, v = .ref a ∧ H1 a = some (.ins (ga K C) dx fs) ∧ R [.ref a] H1 fun u _ => ∃ y, u = .str y) (hj : j + 2 ≤ k := by decide) (hg : gloB sc "str" = true := by decide +kernel)
    (he : starEach (e :: []) X.env = (false, eval e X.env) :: starEach [] X.env := by rfl) : EQ X (.Call (.Name "str" p) [e] [] pos) σ H fun u _ => ∃ y, u = .str y := by
  obtain ⟨rfl, rfl, rfl, rfl, rfl, _, _, _, _, hR⟩ := id B
  refine EQ.of (pe_callTy (call_strO m Fn (hR.mono hj)) (B.gl hg) hm rfl pa_w (gloB_ok hg).2.2 (gloB_ok hg).2.1 he) fun H1 e1 Q q => ?_
  refine (eaq_one (P1 := P1) (P2 := fun vs H2 => ∃ v, vs = [v] ∧ P1 v H2) h (fun v H2 _ hv => ⟨v, rfl, hv⟩) h1 he) H1 e1 _ fun vs H2 e2 ⟨v, hvs, hv⟩ => ?_
  obtain ⟨a, dx, fs, rfl, ha, hRR⟩ := hr v H2 (e1.trans e2) hv
  exact ⟨a, dx, fs, hvs, ha, _, hRR, fun u H3 e3 ⟨y, hy⟩ => ⟨y, hy, q _ H3 (e2.trans e3) ⟨y, rfl⟩⟩⟩
end
/-! ### Table.__str__ -/
def numS (v : V) : Str := ((toString (iv v) : String) : Str)
theorem num_len : ∀ n : Nat, n < 401 → (numS (.int (n : Int))).length ≤ 3 := by
  have h : ((List.range 401).all fun n => decide ((numS (.int (n : Int))).length ≤ 3)) = true := by decide +kernel
  exact fun n hn => of_decide_eq_true (List.all_eq_true.mp h n (List.mem_range.mpr hn))
theorem sum_le {l : List Nat} {m : Nat} (h : ∀ x ∈ l, x ≤ m) : l.sum ≤ l.length * m := by
  induction l with
  | nil => simp
  | cons x l ih =>
    have h1 := h x List.mem_cons_self
    have h2 := ih fun y hy => h y (List.mem_cons_of_mem _ hy)
    rw [List.sum_cons, List.length_cons, Nat.succ_mul]
    omega
section
variable {P : Program} {w : World} {K : PySem.W.Frag} {mg : Str → Option Value} {base : Heap}
def R_Table_str : List V → Hp → (V → Hp → Prop) → Prop := fun vs H T => ∃ (t : Tb) (o : V), vs = [o] ∧ TbAt K t o H ∧ (∀ n ∈ t.ns, 0 ≤ n ∧ n ≤ 400) ∧ ∀ (x : Str) (H' : Hp), Ex H H' → T (.str x) H'
theorem fn_Table_str [T : Tx K mg] : FnR P w K mg base CX0 1 (ma K (ga K "Table") "__str__") (spR (R_Table_str (K := K))) := by
  obtain ⟨fd, F⟩ := f_Table_str (K := K) (mg := mg)
  refine FnOk.raw0 (ok_fn F sc_Table_str ?_ ?_) (F.bindsN fun _ _ _ _ _ _ us hl => match us, hl with | [_], _ => rfl)
  · rintro vs H T ⟨t, o, rfl, _⟩
    rfl
  · rintro X vs H T D B _ ⟨t, o, rfl, ⟨hto, A, hA, p, dp, rfl, hp⟩, hw, ht⟩ hd _
    have hlen := hto.len
    have hmost := hto.most
    have hb0 := hto.hb
    refine ss_setC 1 (el_cTn 2 (fun v => .str (numS v)) (ee_fld (ee_var 0) hp (tcls "Table") (tfld "Table" "numbers") rfl) (st_of hA) (by rw [List.length_map]; omega) fun X' x H1 B' e1 hx => ?_) fun l H1 e1 _ hl => ?_
    · obtain ⟨n, hn, rfl⟩ := List.mem_map.mp hx
      have hn' := hw n hn
      exact ee_callT call_str_int (tfre "str") rfl (ea_cons (ee_var 2) ea_nil) (rc_of fun H2 e2 Q q => ⟨n, rfl, Nat.lt_of_le_of_lt (Nat.log2_le_self _) (by omega), q⟩)
    · have eL : ((t.ns.map V.int).map fun v => V.str (numS v)) = (t.ns.map fun n => numS (.int n)).map V.str := by
        rw [List.map_map, List.map_map]
        rfl
      rw [eL] at hl
      have hys : ∀ y ∈ t.ns.map (fun n => numS (.int n)), y.length ≤ 3 := fun y hy => by
        obtain ⟨n, hn, rfl⟩ := List.mem_map.mp hy
        have hn' := hw n hn
        obtain ⟨m, rfl⟩ := Int.eq_ofNat_of_zero_le hn'.1
        exact num_len m (by omega)
      have hyl : (t.ns.map fun n => numS (.int n)).length ≤ 1000 := by
        rw [List.length_map]
        omega
      generalize (t.ns.map fun n => numS (.int n)) = ys at *
      obtain ⟨bn, hbn⟩ := Int.eq_ofNat_of_zero_le hb0
      have sl : ∀ {lo hi : Option Expr} {a : Expr} {p1 p2 : Pos} {ol oh : Option Int} {zs : List V} {H2 : Hp}, EE X a [some (.ref p), some (.ref l), none] H2 (.ref l) → H2 l = some (.lst (ys.map V.str)) → EO X lo [some (.ref p), some (.ref l), none] H2 ol → EO X hi [some (.ref p), some (.ref l), none] H2 oh → cutV (ys.map V.str) ol oh = zs → EQ X (.Subscript a (.Slice lo hi none p1) p2) [some (.ref p), some (.ref l), none] H2 (fun v H3 => TP zs v H3 ∨ LP zs v H3) := fun ha hl lo hi hz => EvQ.imp (EL.lp (EL.is (eq_slL (EE.lp ha hl) lo hi) hz)) fun _ _ _ p => .inr p
      have bg : ∀ {p1 p2 : Pos} {H2 : Hp}, Ex H H2 → EE X (.Attribute (.Name "self" p1) "begin" p2) [some (.ref p), some (.ref l), none] H2 (.int (bn : Int)) := fun e2 => EE.is (ee_fld (ee_var 0) (e2 _ _ hp) (tcls "Table") (tfld "Table" "begin") rfl) (by rw [hbn])
      refine ss_retQ (R := fun v _ => ∃ y, v = .str y) (EQ.of (pe_join pe_w pe_w) fun H2 e2 Q q => ?_) fun v H2 e2 ⟨y, hy⟩ => hd v H2 (e1.trans e2) (by rw [hy]; exact ht y H2 (e1.trans e2))
      refine (show EE X _ _ H2 (V.str " ") from ee_str) H2 (Ex.refl H2) _ fun H3 e3 => ⟨⟨_, rfl⟩, ?_⟩
      have hl3 : H3 l = some (.lst (ys.map V.str)) := e3 _ _ (e2 _ _ hl)
      have e13 := (e1.trans e2).trans e3
      refine (show EQ X _ _ H3 (LP ((ys.map V.str).take bn ++ (V.str "|" :: ((ys.map V.str).drop bn ++ [])))) from el_lstD (eaq_star (sl (ee_var 1) hl3 eo_no (eo_of (bg e13)) (cut_to _ bn)) fun H4 e4 => EAQ.of (pa_cons pe_w pa_w) fun H5 e5 Q5 q5 => ?_) ?_) H3 (Ex.refl H3) _ fun v H4 e4 ⟨u, hv, hu⟩ => ⟨" ", u, ys.take bn ++ (("|" : Str) :: ys.drop bn), rfl, by rw [hv], .inl (sq_of ?_), ?_, q _ _ (e3.trans e4) ⟨_, rfl⟩⟩
      · refine (show EE X _ _ H5 (V.str "|") from ee_str) H5 (Ex.refl H5) _ fun H6 e6 => ?_
        refine (show EAQ X _ _ H6 (fun vs _ => vs = (ys.map V.str).drop bn ++ []) from eaq_star (sl (ee_var 1) (e6 _ _ (e5 _ _ (e4 _ _ hl3))) (eo_of (bg (((e13.trans e4).trans e5).trans e6))) eo_no (cut_from _ bn)) fun H7 e7 => eaq_nil fun _ _ => rfl) H6 (Ex.refl H6) _ fun vs H7 e7 hvs => q5 _ H7 (e6.trans e7) (by rw [hvs])
      · simp only [List.length_append, List.length_cons, List.length_take, List.length_drop, List.length_map, List.length_nil]
        omega
      · rw [hu]
        simp [List.map_take, List.map_drop]
      · have h1 := sum_le (l := (ys.take bn ++ (("|" : Str) :: ys.drop bn)).map (·.length)) (m := 3) fun x hx => by
          obtain ⟨y, hy, rfl⟩ := List.mem_map.mp hx
          rcases List.mem_append.mp hy with h | h
          · exact hys y (List.mem_of_mem_take h)
          · rcases List.mem_cons.mp h with rfl | h
            · decide
            · exact hys y (List.mem_of_mem_drop h)
        have h2 : (ys.take bn ++ (("|" : Str) :: ys.drop bn)).length ≤ 1001 := by
          simp only [List.length_append, List.length_cons, List.length_take, List.length_drop]
          omega
        have h3 : ((" " : Str)).length = 1 := by decide
        rw [h3]
        rw [List.length_map] at h1
        omega
end
end Fk
set_option maxRecDepth 100000
set_option maxHeartbeats 2000000
namespace Fk
open PySem PySem.Spec PyProof.Rows L2 Evl He
section
variable {P : Program} {w : World} {K : PySem.W.Frag} {mg : Str → Option Value} {base : Heap}
/-- l[lo:hi], l any list -/
theorem eq_slS {N : List Str} {sc : Scope} {k : Nat} {X : Cx} {σ : L2.St} {H : Hp} {a : Expr} {lo hi : Option Expr} {pos p2 : Pos} {ol oh : Option Int} {l : Addr} {xs : List V} [B : Bx P w K mg base N sc k X] (ha : EE X a σ H (.ref l)) (hx : SqL K H l xs) (hl : EO X lo σ H ol) (hh : EO X hi σ H oh) : EL X (.Subscript a (.Slice lo hi none p2) pos) σ H (cutV xs ol oh) := by
  obtain ⟨tl, pl, el⟩ := hl
  obtain ⟨th, ph, eh⟩ := hh
  refine EL.of (pe_slice sl_list pe_w pl ph) fun H1 e1 Q q => ha H1 e1 _ fun H2 e2 => el H2 (e1.trans e2) _ fun H3 e3 => eh H3 ((e1.trans e2).trans e3) _ fun H4 e4 => ?_
  rw [B.qK]
  exact ⟨l, xs, rfl, ex_l (((e1.trans e2).trans e3).trans e4) hx, fun n hn => q n _ (fresh_back ((e2.trans e3).trans e4) hn) (((e2.trans e3).trans e4).trans (Ex.new hn)) upd_same⟩
def R_law_pen : List V → Hp → (V → Hp → Prop) → Prop := fun vs H T => ∃ (s : Addr) (ns : List Int), vs = [.ref s] ∧ SqL K H s (ns.map V.int) ∧ ns.length ≤ 63 ∧ ∀ pn H', Ex H H' → H pn.a = none → PenAt pn 0 H' → T (.ref pn.a) H'
theorem cl_law_pen [T : Tx K mg] : Cl P w K mg base 1 "_law_pen" (spR (R_law_pen (K := K))) := by
  obtain ⟨fd, F⟩ := f_law_pen (K := K) (mg := mg)
  refine ⟨⟨_, FnOk.raw0 (ok_fn F sc_law_pen ?_ ?_) (F.bindsN fun _ _ _ _ _ _ us hl => match us, hl with | [_], _ => rfl), tglo "_law_pen", F.kp⟩⟩
  · rintro vs H T ⟨s, ns, rfl, _⟩
    rfl
  · rintro X vs H T D B _ ⟨s, ns, rfl, hs, hl, ht⟩ hd _
    have hcut : cutV (ns.map V.int) none (some 63) = ns.map V.int := by
      rw [show (63 : Int) = ((63 : Nat) : Int) from rfl, cut_to, List.take_of_length_le (by rw [List.length_map]; exact hl)]
    refine ss_retQ (R := fun v H1 => ∃ pn, v = .ref pn.a ∧ H pn.a = none ∧ PenAt pn 0 H1) (EQ.of (pe_lst pa_w) fun H1 e1 Q q => (show EAQ X _ _ H (fun vs H2 => ∃ c, vs = [.ref c, .int 0, .int 0] ∧ H2 c = some (.lst (ns.map V.int))) from eaq_cons (P1 := LP (ns.map V.int)) (EQ.of (pe_callTy call_list_of (B.gl (by decide +kernel)) (by rw [B.qm]; exact tfre "list") rfl pa_w (by decide +kernel) (by decide +kernel) (by rfl)) fun H1 e1 Q q => ?_) (fun v H2 e2 ⟨c, hv, hc⟩ => EA.q (ea_cons ee_int (ea_cons ee_int ea_nil)) fun H3 e3 => ⟨c, by rw [hv], e3 _ _ hc⟩)) H1 e1 _ fun vs H2 e2 ⟨c, hv, hc⟩ => ?_) fun v H1 e1 ⟨pn, hv, hn, hp⟩ => hd v H1 e1 (by rw [hv]; exact ht pn H1 e1 hn hp)
    · refine (eaq_one (P1 := LP (ns.map V.int)) (P2 := fun vs H2 => ∃ c, vs = [.ref c] ∧ H2 c = some (.lst (ns.map V.int))) (EL.lp (EL.is (eq_slS (ee_var 0) hs eo_no (eo_of ee_int)) hcut)) (fun v H2 _ ⟨c, hv, hc⟩ => ⟨c, by rw [hv], hc⟩) (fun _ _ _ e p => p.up e)) H1 e1 _ fun vs H2 e2 ⟨c, hv, hc⟩ => ?_
      exact ⟨c, _, hv, .inl (sq_of hc), fun l hl => q _ _ (e2.trans (Ex.new hl)) ⟨l, rfl, upd_same⟩⟩
    · subst hv
      refine ⟨(show 3 ≤ sizeLine by decide), fun n hn => q _ _ (e2.trans (Ex.new hn)) ⟨⟨n, c, ns⟩, rfl, fresh_back (e1.trans e2) hn, 0, ne_of_none hc hn, upd_same, ?_, hl, by omega⟩⟩
      rw [upd_ne (ne_of_none hc hn)]
      exact hc
end
end Fk
set_option maxRecDepth 100000
set_option maxHeartbeats 2000000
namespace Fk
open PySem PySem.Spec PyProof.Rows L2 Evl He
/-! ### what stands off the pen -/
theorem off_at {pn : Pn} {i : Int} {H : Hp} {b : Addr} {o : HO} (hp : PenB pn i H) (h : H b = some o) (hn : ∀ c x y, o ≠ .lst [.ref c, .int x, .int y]) : off pn H b = some o := by
  rw [off_ne]
  · exact h
  · obtain ⟨j, ⟨g, _, h7, _⟩, _⟩ := hp
    exact ne_of h h7 (hn _ _ _)
section
variable {K : PySem.W.Frag} {pn : Pn} {i : Int} {H : Hp} {v : V}
theorem InsAt.off {C : Str} {fs : List (Str × V)} (h : InsAt K C fs v H) (hp : PenB pn i H) : InsAt K C fs v (off pn H) := by
  obtain ⟨a, dx, h1, h2⟩ := h
  exact ⟨a, dx, h1, off_at hp h2 (by simp)⟩
theorem TbAt.off {t : Tb} (h : TbAt K t v H) (hp : PenB pn i H) : TbAt K t v (off pn H) := by
  obtain ⟨h0, N, h1, h2⟩ := h
  exact ⟨h0, N, off_at hp h1 (by simp), h2.off hp⟩
theorem GrAt.off {t : Tb} (h : GrAt K t v H) (hp : PenB pn i H) : GrAt K t v (off pn H) := by
  obtain ⟨o, h1, h2⟩ := h
  exact ⟨o, h1.off hp, h2.off hp⟩
theorem RlAt.off {r : Rl} (h : RlAt K r v H) (hp : PenB pn i H) : RlAt K r v (off pn H) := ⟨h.1, h.2.off hp⟩
theorem Rls.off (hp : PenB pn i H) : ∀ {rs : List Rl} {xs : List V}, Rls K rs xs H → Rls K rs xs (off pn H)
  | [], [], _ => trivial
  | _ :: _, _ :: _, ⟨h1, h2⟩ => ⟨h1.off hp, Rls.off hp h2⟩
  | [], _ :: _, h => h
  | _ :: _, [], h => h
theorem BkAt.off {rs : List Rl} (h : BkAt K rs v H) (hp : PenB pn i H) : BkAt K rs v (off pn H) := by
  obtain ⟨rs', A, xs, m, s, r, h1, h2, h3, h4, h5⟩ := h
  exact ⟨rs', A, xs, m, s, r, h1, h2, off_at hp h3 (by simp), h4.off hp, h5.off hp⟩
end
theorem RowsAt.up {rs : List Rl} {v : V} {H H' : Hp} (h : RowsAt rs v H) (e : Ex H H') : RowsAt rs v H' := by
  obtain ⟨vs, h1, h2⟩ := h
  exact ⟨vs, h1.up e, h2.up fun p xs hp => e _ _ hp⟩
theorem Rows.get {H : Hp} : ∀ {rs : List Rl} {xs : List V} {i : Nat} {x : V}, Rows rs xs H → xs[i]? = some x → ∃ r, rs[i]? = some r ∧ TP (rowV r) x H
  | r :: _, _ :: _, 0, _, ⟨h1, _⟩, h => ⟨r, rfl, by
    have : _ = _ := Option.some.inj h
    rw [← this]
    exact h1⟩
  | _ :: rs, _ :: xs, i + 1, x, ⟨_, h2⟩, h => Rows.get (rs := rs) (xs := xs) (i := i) h2 h
  | [], [], _, _, _, h => by cases h
  | [], _ :: _, _, _, h', _ => h'.elim
  | _ :: _, [], _, _, h', _ => h'.elim
/-! ### rows as data -/
def rowD : Rl → PyData
  | .fixed n r m l => .tuple [.str "fixed", .int n, .int r, .int m, .int l]
  | .down n r m => .tuple [.str "down", .int n, .int r, .int m, .int 0]
theorem row_dp {K : PySem.W.Frag} {r : Rl} {v : V} {H : Hp} (h : TP (rowV r) v H) : Dp K H v (rowD r) := by
  obtain ⟨p, rfl, hp⟩ := h
  cases r with
  | fixed n r m l => exact .tup (st_of hp) (.cons (.str _) (.cons (.int _) (.cons (.int _) (.cons (.int _) (.cons (.int _) .nil)))))
  | down n r m => exact .tup (st_of hp) (.cons (.str _) (.cons (.int _) (.cons (.int _) (.cons (.int _) (.cons (.int _) .nil)))))
theorem row_lay (r : Rl) : (rowD r).canLay0 = true ∧ (rowD r).depth = 1 := by
  cases r <;> (simp only [rowD, PyData.canLay0, PyData.canLayAll0, PyData.depth, PyData.depthAll]; decide +kernel)
theorem rows_lay : ∀ rs : List Rl, PyData.canLayAll0 (rs.map rowD) = true ∧ PyData.depthAll (rs.map rowD) ≤ 1
  | [] => ⟨rfl, Nat.zero_le _⟩
  | r :: rs => by
    obtain ⟨h1, h2⟩ := rows_lay rs
    obtain ⟨h3, h4⟩ := row_lay r
    rw [List.map_cons]
    simp only [PyData.canLayAll0, PyData.depthAll, h1, h3, h4]
    exact ⟨rfl, Nat.max_le.mpr ⟨Nat.le_refl _, h2⟩⟩
theorem rows_shaped (rs : List Rl) : SeqAt.shaped (.list (rs.map rowD)) = true := by
  obtain ⟨h1, h2⟩ := rows_lay rs
  unfold SeqAt.shaped
  simp only [PyData.canLay0, PyData.depth, h1, Bool.true_and]
  exact decide_eq_true (by omega)
/-! ### comprehensions by what their items are -/
section
variable {P : Program} {w : World} {K : PySem.W.Frag} {mg : Str → Option Value} {base : Heap} {N : List Str} {sc scope : Scope} {k : Nat} {X : Cx} {σ : L2.St} {H : Hp} {a b c e elt : Expr} {v : V} {x y : Str} {pos p pf py pos' : Pos} {rest : List Stmt} {D : Ends}
/-- [elt for y in e if c], no item passes -/
theorem el_cNo [B : Bx P w K mg base N sc k X] {PX : V → Hp → Prop} (m : Nat) (hl : EQ X e σ H fun v H1 => ∃ l xs, v = .ref l ∧ H1 l = some (.lst xs) ∧ xs.length ≤ 40000 ∧ ∀ x ∈ xs, PX x H1) (hup : ∀ x H1 H2, Ex H1 H2 → PX x H1 → PX x H2)
    (ht : ∀ X' x H1, Bx P w K mg base N (relS scope sc) k X' → Ex H H1 → PX x H1 → ET X' c (inB σ m x) H1 false)
    (hB : lcB N sc scope y m = true := by decide +kernel) (hN : N[m]? = some y := by rfl) (hs : ∀ z, foldedSetIterable e X.env z = pure z := by intro _; rfl) : EL X (.ListComp elt [⟨.Name y py, e, [c], 0⟩] scope pos) σ H [] := by
  refine EL.of (pe_lc1 (m := m) hB hN (pi_list pe_w) pts_w hs) fun H0 e0 Q q => ?_
  refine hl H0 e0 _ fun v H1 e1 ⟨l, xs, hv, hl1, hz, hP⟩ => ?_
  rw [B.qK]
  refine ⟨l, hv, ⟨xs, sq_of hl1⟩, fun Dl hD => ?_⟩
  refine lc_list (xs := xs) (Cw H1 (fun _ => false) (fun _ => .non) Dl) ⟨hD, Ex.new hD, upd_same⟩ (fun i H' _ p => sq_of (p.2.1 l _ hl1)) (fun i x H' hi p => ⟨wipe1 σ m x, cw_turn p (by have := (List.getElem?_eq_some_iff.mp hi).1; omega) (bt_of fun X' B' => ht X' x H1 B' (e0.trans e1) (hP x (List.mem_of_getElem? hi))) (fun hf => Bool.noConfusion hf)⟩) fun H' p => ?_
  have h0 : given xs.length (fun _ => false) (fun _ => V.non) = [] := by
    unfold given
    rw [List.filter_eq_nil_iff.mpr (fun _ _ => by simp)]
    rfl
  exact q Dl H' (fresh_back e1 p.1) (e1.trans p.2.1) (by rw [← h0]; exact p.2.2)
/-- [elt for y in e], the items new -/
theorem eq_cNew [B : Bx P w K mg base N sc k X] {l : Addr} {xs : List V} {PE' : Nat → V → Hp → Prop} (m : Nat) (hl : EE X e σ H (.ref l)) (hx : H l = some (.lst xs)) (hz : xs.length ≤ 40000) (hup : ∀ i x H1 H2, Ex H1 H2 → PE' i x H1 → PE' i x H2) (hmu : ∀ i x H1 L ys zs, H1 L = some (.lst ys) → PE' i x H1 → PE' i x (upd H1 L (.lst zs)))
    (he : ∀ X' i x H1, Bx P w K mg base N (relS scope sc) k X' → Ex H H1 → xs[i]? = some x → EQ X' elt (inB σ m x) H1 (PE' i))
    (hB : lcB N sc scope y m = true := by decide +kernel) (hN : N[m]? = some y := by rfl) (hs : ∀ z, foldedSetIterable e X.env z = pure z := by intro _; rfl) : EQ X (.ListComp elt [⟨.Name y py, e, [], 0⟩] scope pos) σ H fun v H2 => ∃ l ys, v = .ref l ∧ H2 l = some (.lst ys) ∧ ys.length = xs.length ∧ ∀ i y, ys[i]? = some y → PE' i y H2 := by
  refine EQ.of (pe_lc1 (m := m) hB hN (pi_list pe_w) (fun s H C cl fp => pts_nil) hs) fun H0 e0 Q q => ?_
  refine hl H0 e0 _ fun H1 e1 => ?_
  rw [B.qK]
  refine ⟨l, rfl, ⟨xs, sq_of ((e0.trans e1) _ _ hx)⟩, fun Dl hD => ?_⟩
  refine lc_list (xs := xs) (fun i H' => H1 Dl = none ∧ Ex H1 H' ∧ ∃ ys, H' Dl = some (.lst ys) ∧ ys.length = i ∧ ∀ j y, ys[j]? = some y → PE' j y H') ⟨hD, Ex.new hD, [], upd_same, rfl, fun j y h => by cases h⟩ (fun i H' _ p => sq_of (p.2.1 l _ ((e0.trans e1) _ _ hx))) (fun i x H' hi ⟨p1, p2, ys, p3, p4, p5⟩ => ?_) fun H' ⟨p1, p2, ys, p3, p4, p5⟩ => q _ H' (e1.trans p2) ⟨Dl, ys, rfl, p3, p4, p5⟩
  have hlt := (List.getElem?_eq_some_iff.mp hi).1
  refine ⟨wipe1 σ m x, ?_⟩
  show bE X scope elt ((wipe σ [m]).set m (some x)) H' _
  intro s H0' C cl fp
  refine he _ i x H' bx_blk ((e0.trans e1).trans p2) hi H' (Ex.refl H') _ fun z H4 e4 hz' => ?_
  have h4 : H4 Dl = some (.lst ys) := e4 _ _ p3
  refine ⟨ys, h4, sz_lt (by omega), p1, Ex.mut (p2.trans e4) p1, ys ++ [z], upd_same, by rw [List.length_append, p4]; rfl, fun j y hj => ?_⟩
  rcases Nat.lt_or_ge j ys.length with hlt' | hge
  · rw [List.getElem?_append_left hlt'] at hj
    exact hmu _ _ _ _ _ _ h4 (hup _ _ _ _ e4 (p5 j y hj))
  · rw [List.getElem?_append_right hge] at hj
    have hj0 : j = ys.length := by
      have := (List.getElem?_eq_some_iff.mp hj).1
      simp at this
      omega
    subst hj0
    simp at hj
    subst hj
    rw [p4]
    exact hmu _ _ _ _ _ _ h4 hz'
/-- e != [] -/
theorem et_neQ [B : Bx P w K mg base N sc k X] {da db : PyData} {r : Bool} (ha : QD K X a σ H da) (hb : QD K X b σ H db) (sa : SeqAt.shaped da = true) (sb : SeqAt.shaped db = true) (hz : PyData.eqv da db = r) : ET X (.Compare a [.NotEq] [b] pos) σ H (!r) :=
  et_cmpQ (op_neD B.room.units) (nomark _) ha hb (fun _ _ _ e p => (dp_up e).1 p) fun x y H1 e1 d1 d2 Q kk => by
    rw [B.qK]
    refine ⟨da, db, d1, d2, sa, sb, ?_⟩
    rw [hz]
    exact kk H1 (Ex.refl H1)
theorem EL.qd {xs : List V} {ds : List PyData} (h : EL X e σ H xs) (hd : ∀ H1, Ex H H1 → DpAll K H1 xs ds) : QD K X e σ H (.list ds) := h.q fun a H1 e1 h1 => .lst (sq_of h1) (hd H1 e1)
end
end Fk
set_option maxRecDepth 100000
set_option maxHeartbeats 2000000
namespace Fk
open PySem PySem.Spec PyProof.Rows L2 Evl He
theorem eqv_refl {v : V} (h : fl v = true) : PyData.eqv (dat v) (dat v) = true := by
  cases v with
  | int i => simp [dat, PyData.eqv]
  | bl b => cases b <;> simp [dat, PyData.eqv]
  | _ => cases h
theorem eqT_refl : ∀ {xs : List V}, xs.all fl = true → eqT xs xs = true
  | [], _ => rfl
  | x :: xs, h => by
    obtain ⟨h1, h2⟩ := ba h
    have h3 := eqT_refl h2
    unfold eqT at h3 ⊢
    simp only [List.map_cons, PyData.eqvAll, eqv_refl h1, h3]
    rfl
section
variable {P : Program} {w : World} {K : PySem.W.Frag} {mg : Str → Option Value} {base : Heap}
theorem mro_Sizes [T : Tx K mg] : PySem.W.mroIn K (ga K "Sizes") (.type "object") = some true := of_decide_eq_true (ba (ba (ba (show Fx.ok K (.own "Sizes") = true from tex 3 rfl)).2).2).2
theorem mro_Greatest [T : Tx K mg] : PySem.W.mroIn K (ga K "Greatest") (.type "object") = some true := of_decide_eq_true (ba (ba (ba (show Fx.ok K (.own "Greatest") = true from tex 4 rfl)).2).2).2
end
section
variable {P : Program} {w : World} {K : PySem.W.Frag} {mg : Str → Option Value} {base : Heap} {N : List Str} {sc scope : Scope} {j k : Nat} {X : Cx} {σ : L2.St} {G H : Hp} {a b c e o elt : Expr} {es : List Expr} {v : V} {x y : Str} {pos p pf py pos' apos : Pos} {th rest : List Stmt} {D : Ends} {pn : Pn}
theorem sd_skip {q : Int} (h : ET X c σ G false) (r : SD X rest D pn q σ G) : SD X (.If c th [] pos :: rest) D pn q σ G := fun H1 e1 hp => ss_skip (h.mono e1) (r.ss e1 hp) H1 (Ex.refl H1)
/-- [elt for y in e if c], by the places -/
theorem lc_Li [B : Bx P w K mg base N sc k X] {l : Addr} {xs : List V} (m : Nat) (f : Nat → Bool) (g : Nat → V) (hl : EE X e σ H (.ref l)) (hx : SqL K H l xs) (hz : xs.length ≤ 40000)
    (ht : ∀ X' (i : Nat) x H1, Bx P w K mg base N (relS scope sc) k X' → Ex H H1 → xs[i]? = some x → ET X' c (inB σ m x) H1 (f i)) (he : ∀ X' (i : Nat) x H1, Bx P w K mg base N (relS scope sc) k X' → Ex H H1 → xs[i]? = some x → f i = true → EE X' elt (inB σ m x) H1 (g i))
    (hB : lcB N sc scope y m = true := by decide +kernel) (hN : N[m]? = some y := by rfl) (hs : ∀ z, foldedSetIterable e X.env z = pure z := by intro _; rfl) : LC X elt y py e [c] scope σ H (given xs.length f g) := by
  refine lc_of hB hN (pi_list pe_w) pts_w hs ?_
  rw [B.qK]
  exact el_lcL f g hl hx hz (wipe1 σ m) (fun i x H1 e1 hi => bt_of fun X' B' => ht X' i x H1 B' e1 hi) (fun i x H1 e1 hi hf => be_of fun X' B' => he X' i x H1 B' e1 hi hf)
/-- displays whose items all have PX -/
abbrev QA (X : Cx) (es : List Expr) (σ : L2.St) (H : Hp) (PX : V → Hp → Prop) : Prop := EAQ X es σ H fun vs H2 => vs.length = es.length ∧ ∀ x ∈ vs, PX x H2
theorem qa_nil {PX : V → Hp → Prop} : QA X [] σ H PX := eaq_nil fun _ _ => ⟨rfl, fun _ h => absurd h (by simp)⟩
theorem qa_cons {PX : V → Hp → Prop} (hup : ∀ x H1 H2, Ex H1 H2 → PX x H1 → PX x H2) (h : EQ X e σ H PX) (hr : QA X es σ H PX) (hs : starEach (e :: es) X.env = (false, eval e X.env) :: starEach es X.env := by rfl) : QA X (e :: es) σ H PX :=
  EAQ.of (pa_cons pe_w pa_w hs) fun H1 e1 Q q => h H1 e1 _ fun v H2 e2 p => hr H2 (e1.trans e2) _ fun vs H3 e3 ⟨hl, hv⟩ => q _ H3 (e2.trans e3) ⟨congrArg Nat.succ hl, fun x hx => by
    rcases List.mem_cons.mp hx with rfl | hx
    · exact hup _ _ _ e3 p
    · exact hv x hx⟩
theorem eq_lstA {PX : V → Hp → Prop} (hup : ∀ x H1 H2, Ex H1 H2 → PX x H1 → PX x H2) (h : QA X es σ H PX) (hz : es.length ≤ 1000 := by decide) : EQ X (.List es pos) σ H fun v H1 => ∃ l xs, v = .ref l ∧ H1 l = some (.lst xs) ∧ xs.length ≤ 40000 ∧ ∀ x ∈ xs, PX x H1 :=
  EQ.of (pe_lst pa_w) fun H1 e1 Q q => h H1 e1 _ fun vs H2 e2 ⟨hl, hv⟩ => ⟨sz_of (by omega), fun n hn => q _ _ (e2.trans (Ex.new hn)) ⟨n, vs, rfl, upd_same, by omega, fun x hx => hup _ _ _ (Ex.new hn) (hv x hx)⟩⟩
end
/-! ### the law's turn -/
def forB : Stmt → List Stmt
  | .For _ _ b _ _ => b
  | _ => []
abbrev turnB : List Stmt := forB ((defBody s_law).getD 1 (.Pass ⟨0, 0, 0, 0⟩))
abbrev rowB : List Stmt := forB (turnB.getD 3 (.Pass ⟨0, 0, 0, 0⟩))
abbrev restB : List Stmt := turnB.drop 4
section
variable {P : Program} {w : World} {K : PySem.W.Frag} {mg : Str → Option Value} {base : Heap} {X : Cx} {G : Hp} {D : Ends} {pn : Pn} {q : Pl} {v3 v4 v5 : V} {z0 z2 z6 z7 z8 z9 z10 z11 z12 z13 : Option V} {a : Int}
/-- one drawn rule -/
theorem law_row [T : Tx K mg] [Px P] [B : Bx P w K mg base N_law (defScope s_law) 14 X] [Gx : Dx X] (g0 : G pn.a = none) (ha : a + 10 ≤ 100000) (hq : q.good) (hP : PlAt q v3 G) (hGr : GrAt K q.tb v5 G)
    (hnx : ∀ (y7 : Option V) H', Ex G H' → PenB pn (a + 10) H' → D.nx [z0, some (.ref pn.a), z2, some v3, some v4, some v5, z6, y7, z8, z9, z10, z11, z12, z13] H') :
    SD X rowB D pn a [z0, some (.ref pn.a), z2, some v3, some v4, some v5, z6, z7, z8, z9, z10, z11, z12, z13] G := by
  refine sd_set 7 (ed_call (T := fun v G2 => ∃ r, r.ok ∧ TP (rowV r) v G2) cl_great_rule (ea_cons (ee_var 1) ea_nil) (fun G2 e2 g2 => ⟨rfl, fun r v G' e hr hv => ⟨r, hr, hv⟩⟩) g0 (by omega)) (fun v7 G7 e7 g7 ⟨r, hr, hv7⟩ => ?_) g0
  have hg1 : 1 ≤ q.g.length := by
    have := hq.hp
    omega
  have hlen := hq.most
  refine sd_skip (ET.is (et_neV (ee_reprB (y := hasR q.tb r) (tfre "repr") (ee_inO (P1 := RlAt K r) (P2 := GrAt K q.tb) opm_of fn_contains (by rfl) (eq_call cl_lrule (EA.q (ea_cons (ee_var 7) ea_nil) fun H1 e1 => ⟨r, _, rfl, hv7.up e1, hr, fun v H' e h => h⟩)) ((ee_var 5).q fun H1 e1 => (hGr.up e7).up e1) (fun _ _ _ e h => h.up e) fun x y H1 e1 p1 p2 => ⟨?_, q.tb, y, x, rfl, p2, .inl ⟨r, p1, Gives.me⟩⟩))
    (ee_reprB (y := lawR q r) (tfre "repr") (ee_call cl_lfree (ea_cons (ee_var 3) (ea_cons (ee_var 7) ea_nil)) fun H1 e1 => ⟨q, r, _, _, rfl, (hP.up e7).up e1, hv7.up e1, hr, hg1, by omega, by omega, Gives.me⟩)) rfl) ?_) (sd_nil fun H1 e1 p1 => hnx _ H1 (e7.trans e1) p1)
  · obtain ⟨o, _, p, dp, rfl, hp⟩ := p2
    exact ⟨p, dp, _, rfl, hp⟩
  · rw [law_has hq hr, decide_eq_true rfl]
    rfl
end
end Fk
set_option maxRecDepth 100000
set_option maxHeartbeats 2000000
namespace Fk
open PySem PySem.Spec PyProof.Rows L2 Evl He
/-- a value that is no Greatest | that is in none -/
def OddG (K : PySem.W.Frag) : V → Hp → Prop := fun x H => ∃ ty, TyX K H x ty ∧ PySem.W.kitOne K ty (.ref (ga K "Greatest")) = some false ∧ PySem.W.notFirst K (ga K "Greatest") ty = true
theorem OddG.up {K : PySem.W.Frag} (x : V) (H H' : Hp) (e : Ex H H') (h : OddG K x H) : OddG K x H' := by
  obtain ⟨ty, h1, h2, h3⟩ := h
  exact ⟨ty, TyX.up h1 e, h2, h3⟩
section
variable {P : Program} {w : World} {K : PySem.W.Frag} {mg : Str → Option Value} {base : Heap} {X : Cx} {G H : Hp} {D : Ends} {pn : Pn} {q : Pl} {v3 v4 v5 v8 v10 : V} {z0 z2 z6 z7 z8 z9 z10 z11 z12 z13 : Option V} {a : Int} {rs : List Rl}
theorem ma_Fixed1 [T : Tx K mg] : Ma P w K mg base 4 "Fixed" (ga K "Fixed") (spI (ga K "Fixed") fun vs H T => I_Fixed (vs ++ [.int 0, .int 1, .int 0]) H T) := by
  obtain ⟨fd, F, O⟩ := fn_Fixed (P := P) (w := w) (K := K) (mg := mg) (base := base)
  obtain ⟨ds, hd, hb⟩ := F.binds1 (ps := ["self", "size", "rest", "modulus", "leave"]) 2 0 (by simp) rfl fun T kV doc pm an cdv ct us its l1 l2 => match us, its, l1, l2 with | [_, _], [_, _, _], _, _ => ⟨_, rfl, rfl⟩
  exact ⟨⟨_, (O.raw hb hd).imp fun vs H Q E ⟨x, dx, args, H0, T, hv, h1, h2, h3, h4, h5⟩ => ⟨x, dx, args ++ [.int 0, .int 1, .int 0], H0, T, by rw [hv]; rfl, h1, h2, h3, h4, h5⟩, tmak "Fixed", tglo "Fixed"⟩⟩
theorem eq_Fixed1 [T : Tx K mg] {N : List Str} {sc : Scope} {k : Nat} {X : Cx} {σ : L2.St} {H : Hp} {pos p pq : Pos} {j0 : Nat} [B : Bx P w K mg base N sc k X] (hj : 5 ≤ k := by decide) (hg : gloB sc "Fixed" = true := by decide +kernel) (he : starEach [.Constant (.int 1) j0 pq] X.env = (false, eval (.Constant (.int 1) j0 pq) X.env) :: starEach [] X.env := by rfl) : EQ X (.Call (.Name "Fixed" p) [.Constant (.int 1) j0 pq] [] pos) σ H fun _ _ => True :=
  EvQ.imp (eq_make (TI := fun _ _ => True) ma_Fixed1 (EA.q (ea_cons ee_int ea_nil he) fun H1 e1 => ⟨1, 0, 1, 0, rfl, (show (1 : Int) ≤ 1 ∧ (1 : Int) ≤ 400 ∧ (0 : Int) ≤ 0 ∧ (0 : Int) ≤ 400 ∧ (1 : Int) ≤ 1 ∧ (1 : Int) ≤ 6 ∧ (0 : Int) ≤ 0 ∧ (0 : Int) < 1 by decide), fun _ _ => trivial⟩) hj hg he) fun _ _ _ _ => trivial
theorem law_odd [T : Tx K mg] [Px P] [B : Bx P w K mg base N_law (defScope s_law) 14 X] [Gx : Dx X] (g0 : G pn.a = none) (hw : ∀ n ∈ q.tb.ns, 0 ≤ n ∧ n ≤ 400) (hTb : TbAt K q.tb v4 G) (hGr : GrAt K q.tb v5 G) (hBk : BkAt K rs v10 G)
    (hnx : ∀ H', Ex G H' → PenB pn a H' → D.nx [z0, some (.ref pn.a), z2, some v3, some v4, some v5, z6, z7, z8, z9, some v10, z11, z12, z13] H') :
    SD X (restB.drop 8) D pn a [z0, some (.ref pn.a), z2, some v3, some v4, some v5, z6, z7, z8, z9, some v10, z11, z12, z13] G := by
  have hGr0 := hGr
  obtain ⟨o, hTo, p5, dp5, rfl, hp5⟩ := hGr
  have oT : ∀ H1, Ex G H1 → OddG K v4 H1 := fun H1 e1 => by
    obtain ⟨_, A, hA, p, dp, rfl, hp⟩ := hTb.up e1
    exact ⟨_, ty_Table hp, k_Table_Greatest, nf_Greatest_Table⟩
  have oB : ∀ H1, Ex G H1 → OddG K v10 H1 := fun H1 e1 => by
    obtain ⟨rs', A, xs, m, s, r, h1, h2, h3, h4, p, dp, rfl, hp⟩ := hBk.up e1
    exact ⟨_, ty_Book hp, k_Book_Greatest, nf_Greatest_Book⟩
  have cT : ∀ H1, Ex G H1 → OddV K v4 H1 := fun H1 e1 => by
    obtain ⟨_, A, hA, p, dp, rfl, hp⟩ := hTb.up e1
    exact ⟨_, ty_Table hp, k_Table_Fixed, k_Table_Down, .inl k_Table_tuple⟩
  have cB : ∀ H1, Ex G H1 → OddV K v10 H1 := fun H1 e1 => by
    obtain ⟨rs', A, xs, m, s, r, h1, h2, h3, h4, p, dp, rfl, hp⟩ := hBk.up e1
    exact ⟨_, ty_Book hp, k_Book_Fixed, k_Book_Down, .inl k_Book_tuple⟩
  have cG : ∀ H1, Ex G H1 → OddV K (.ref p5) H1 := fun H1 e1 => ⟨_, ty_Greatest (e1 _ _ hp5), k_Greatest_Fixed, k_Greatest_Down, .inl k_Greatest_tuple⟩
  refine sd_skip (et_neQ (EL.qd (el_cNo (PX := OddG K) 13 (eq_lstA OddG.up (qa_cons OddG.up (ee_non.q fun H1 _ => ⟨_, .base .non, k_NoneType_Greatest, nf_ty (by decide +kernel)⟩) (qa_cons OddG.up ((ee_var 4).q oT) (qa_cons OddG.up ((ee_var 10).q oB)
    (qa_cons OddG.up (ee_bl.q fun H1 _ => ⟨_, .base (.bl _), k_bool_Greatest, nf_ty (by decide +kernel)⟩) (qa_cons OddG.up (ee_int.q fun H1 _ => ⟨_, .base (.int _), k_int_Greatest, nf_ty (by decide +kernel)⟩)
    (qa_cons OddG.up (EvQ.imp (eq_strO (P1 := TbAt K q.tb) opm_of fn_Table_str (tfre "str") ((ee_var 4).q fun H1 e1 => hTb.up e1) (fun _ _ _ e h => h.up e) fun v H1 e1 hv => ?_) fun v H1 _ ⟨y, hy⟩ => ?_)
    (qa_cons OddG.up (EU.q (eu_tup (ea_cons ee_int (ea_cons ee_int ea_nil))) fun p H1 _ h1 => ⟨_, .base (.tup h1), k_tuple_Greatest, nf_ty (by decide +kernel)⟩) qa_nil)))))))) OddG.up fun X' x H1 B' e1 hx => ?_) fun _ _ => .nil) (qd_lst qds_nil) rfl rfl rfl) ?_
  · have hv0 := hv
    obtain ⟨_, A, hA, p, dp, rfl, hp⟩ := hv
    exact ⟨p, dp, _, rfl, hp, q.tb, _, rfl, hv0, hw, fun x _ _ => ⟨x, rfl⟩⟩
  · subst hy
    exact ⟨_, .base (.str _), k_str_Greatest, nf_ty (by decide +kernel)⟩
  · exact et_eqO (P1 := fun u _ => u = .ref p5) (P2 := OddG K) opm_of fn_Greatest_eq ((ee_var 5).q fun _ _ => rfl) ((ee_var 13).q fun H2 e2 => OddG.up _ _ _ e2 hx) (fun _ _ _ _ h => h) fun x' y' H2 e2 hx' ⟨ty, hy1, hy2, hy3⟩ => ⟨⟨p5, dp5, _, ty, hx', (e1.trans e2) _ _ hp5, hy1, hy3⟩, q.tb, _, _, rfl, by rw [hx']; exact hGr0.up (e1.trans e2), .inr ⟨ty, hy1, hy2, Gives.me⟩⟩
  refine sd_skip (et_neQ (EL.qd (el_cNo (PX := OddV K) 13 (eq_lstA (fun _ _ _ e h => h.up e) (qa_cons (fun _ _ _ e h => h.up e) (ee_non.q fun H1 _ => ⟨_, .base .non, k_NoneType_Fixed, k_NoneType_Down, .inl (kit_ty (by decide +kernel))⟩) (qa_cons (fun _ _ _ e h => h.up e) ((ee_var 4).q cT) (qa_cons (fun _ _ _ e h => h.up e) ((ee_var 10).q cB)
    (qa_cons (fun _ _ _ e h => h.up e) (ee_str.q fun H1 _ => ⟨_, .base (.str _), k_str_Fixed, k_str_Down, .inl (kit_ty (by decide +kernel))⟩) (qa_cons (fun _ _ _ e h => h.up e) (EQ.of (pe_lst pa_w) fun H1 e1 Q qk => (eaq_one (P2 := fun vs _ => ∃ x, vs = [x]) eq_Fixed1 (fun v _ _ _ => ⟨v, rfl⟩) (fun _ _ _ _ h => h)) H1 e1 _ fun vs H2 e2 ⟨x, hx⟩ => ?_)
    (qa_cons (fun _ _ _ e h => h.up e) (EQ.of (pe_tup pa_w) fun H1 e1 Q qk => (eaq_one (P2 := fun vs _ => ∃ x, vs = [x]) eq_Fixed1 (fun v _ _ _ => ⟨v, rfl⟩) (fun _ _ _ _ h => h)) H1 e1 _ fun vs H2 e2 ⟨x, hx⟩ => ?_)
    (qa_cons (fun _ _ _ e h => h.up e) ((ee_var 5).q cG) qa_nil)))))))) (fun _ _ _ e h => h.up e) fun X' x H1 B' e1 hx => ?_) fun _ _ => .nil) (qd_lst qds_nil) rfl rfl rfl) (sd_nil hnx)
  · subst hx
    exact ⟨(show 1 ≤ sizeLine by decide), fun n hn => qk _ _ (e2.trans (Ex.new hn)) ⟨_, .base (.lst upd_same), k_list_Fixed, k_list_Down, .inl (kit_ty (by decide +kernel))⟩⟩
  · subst hx
    exact ⟨(show 1 ≤ sizeLine by decide), fun n hn => qk _ _ (e2.trans (Ex.new hn)) ⟨_, .base (.tup upd_same), k_tuple_Fixed, k_tuple_Down, .inr ⟨kit_ty (by decide +kernel), n, [x], rfl, upd_same, by simp⟩⟩⟩
  · exact et_inO (P1 := OddV K) (P2 := fun u _ => u = .ref p5) opm_of fn_contains (by rfl) ((ee_var 13).q fun H2 e2 => OddV.up hx e2) ((ee_var 5).q fun _ _ => rfl) (fun _ _ _ e h => h.up e) fun x' y' H2 e2 hx' hy' => ⟨⟨p5, dp5, _, hy', (e1.trans e2) _ _ hp5⟩, q.tb, _, _, rfl, by rw [hy']; exact hGr0.up (e1.trans e2), .inr ⟨hx', Gives.me⟩⟩
end
end Fk
set_option maxRecDepth 100000
set_option maxHeartbeats 2000000
namespace Fk
open PySem PySem.Spec PyProof.Rows L2 Evl He
theorem bl_ne (b c : Bool) (h : b = c) : (!decide (V.bl b = V.bl c)) = false := by
  rw [h, decide_eq_true rfl]
  rfl
theorem bl_not (b : Bool) : decide (V.bl (!b) = V.bl b) = false := decide_eq_false (by cases b <;> simp)
section
variable {P : Program} {w : World} {K : PySem.W.Frag} {mg : Str → Option Value} {base : Heap} {X : Cx} {G H : Hp} {D : Ends} {pn : Pn} {q : Pl} {v3 v4 v5 v8 v10 : V} {z0 z2 z6 z7 z8 z9 z10 z11 z12 z13 : Option V} {a : Int} {rs : List Rl}
theorem sz_same [T : Tx K mg] {as ag : List V} {x y : V} {H : Hp} (ha : as.all fl = true) (hg : ag.all fl = true) (h1 : SzAt K as ag x H) (h2 : SzAt K as ag y H) : (∃ a dx fs t, x = .ref a ∧ H a = some (.ins (ga K "Sizes") dx fs) ∧ TyX K H y t ∧ PySem.W.notFirst K (ga K "Sizes") t = true) ∧ R_Sizes_eq (K := K) [x, y] H fun u _ => u = .bl true := by
  refine ⟨?_, as, ag, as, ag, x, y, rfl, h1, h2, ha, hg, ha, hg, ?_⟩
  · obtain ⟨p, q, _, _, c, dc, rfl, hc⟩ := h1
    obtain ⟨p', q', _, _, d, dd, rfl, hd⟩ := h2
    exact ⟨c, dc, _, _, rfl, hc, ty_Sizes hd, nf_self⟩
  · rw [eqT_refl ha, eqT_refl hg]
    exact Gives.me
theorem fs_fl (t : Tb) (r m l : Int) : (fsA t r m l).all fl = true ∧ (fsG t r m l).all fl = true := sz_fl _ _
theorem law_mid [T : Tx K mg] [Px P] [B : Bx P w K mg base N_law (defScope s_law) 14 X] [Gx : Dx X] (g0 : G pn.a = none) (ha : a + 30 ≤ 100000) (hq : q.good) {m : Int} (hok : q.ok 5 6 m) (hw : ∀ n ∈ q.tb.ns, 0 ≤ n ∧ n ≤ 400) (hTb : TbAt K q.tb v4 G) (hGr : GrAt K q.tb v5 G) (hBk : BkAt K rs v10 G)
    (hnx : ∀ y11 y12 H', Ex G H' → PenB pn (a + 30) H' → D.nx [z0, some (.ref pn.a), z2, some v3, some v4, some v5, z6, z7, z8, z9, some v10, y11, y12, z13] H') :
    SD X (restB.drop 4) D pn a [z0, some (.ref pn.a), z2, some v3, some v4, some v5, z6, z7, z8, z9, some v10, z11, z12, z13] G := by
  have hGr0 := hGr
  obtain ⟨o, hTo, p5, dp5, rfl, hp5⟩ := hGr
  have f1 := fs_fl q.tb 1 2 1
  have f2 := fs_fl q.tb 0 1 0
  have ok1 : (Rl.fixed 1 1 2 1).ok := (show (1 : Int) ≤ 1 ∧ (1 : Int) ≤ 400 ∧ (0 : Int) ≤ 1 ∧ (1 : Int) ≤ 400 ∧ (1 : Int) ≤ 2 ∧ (2 : Int) ≤ 6 ∧ (0 : Int) ≤ 1 ∧ (1 : Int) < 2 by decide)
  have ok2 : (Rl.fixed 1 0 1 0).ok := (show (1 : Int) ≤ 1 ∧ (1 : Int) ≤ 400 ∧ (0 : Int) ≤ 0 ∧ (0 : Int) ≤ 400 ∧ (1 : Int) ≤ 1 ∧ (1 : Int) ≤ 6 ∧ (0 : Int) ≤ 0 ∧ (0 : Int) < 1 by decide)
  have w1 : q.tb.b + lcmZ q.tb.p 2 ≤ 400 := whole_few hq hok (by omega) (by omega)
  have w2 : q.tb.b + lcmZ q.tb.p 1 ≤ 400 := whole_few hq hok (by omega) (by omega)
  refine sd_skip (ET.is (et_w (ew_or (et_neO (z := true) (P1 := SzAt K (fsA q.tb 1 2 1) (fsG q.tb 1 2 1)) (P2 := SzAt K (fsA q.tb 1 2 1) (fsG q.tb 1 2 1)) opm_of ne_Sizes mro_Sizes fn_Sizes_eq
      (eq_meth mt_sizes4 (ee_var 5) hp5 rfl (EA.q (ea_cons ee_int (ea_cons ee_int (ea_cons ee_int ea_nil))) fun H1 e1 => ⟨q.tb, _, 1, 2, 1, rfl, hGr0.up e1, ok1, w1, fun v H' e h => h⟩))
      (eq_call cl_free_sizes4 (EA.q (ea_cons (ee_var 4) (ea_cons ee_int (ea_cons ee_int (ea_cons ee_int ea_nil)))) fun H1 e1 => ⟨q.tb, _, 1, 2, 1, rfl, hTb.up e1, ok1, w1, fun v H' e h => h⟩))
      (fun _ _ _ e h => h.up e) fun x y H1 e1 h1 h2 => sz_same f1.1 f1.2 h1 h2) fun _ =>
    ew_or1 (et_neO (z := true) (P1 := SzAt K (fsA q.tb 0 1 0) (fsG q.tb 0 1 0)) (P2 := SzAt K (fsA q.tb 0 1 0) (fsG q.tb 0 1 0)) opm_of ne_Sizes mro_Sizes fn_Sizes_eq
      (eq_meth0 mt_sizes1 (ee_var 5) hp5 rfl fun H1 e1 => ⟨q.tb, _, 0, 1, 0, rfl, hGr0.up e1, ok2, w2, fun v H' e h => h⟩)
      (eq_call cl_free_sizes1 (EA.q (ea_cons (ee_var 4) ea_nil) fun H1 e1 => ⟨q.tb, _, 0, 1, 0, rfl, hTb.up e1, ok2, w2, fun v H' e h => h⟩))
      (fun _ _ _ e h => h.up e) fun x y H1 e1 h1 h2 => sz_same f2.1 f2.2 h1 h2))) rfl) ?_
  refine sd_set 11 (ed_call (T := fun v G' => ∃ q2 : Pl, q2.ok 4 4 2 ∧ PlAt q2 v G') cl_table (ea_cons (ee_var 1) (ea_cons ee_int (ea_cons ee_int (ea_cons ee_int ea_nil)))) (fun G2 e2 g2 => ⟨4, 4, 2, rfl, by omega, by omega, by omega, by omega, by omega, by omega, fun q2 v G' e h1 h2 => ⟨q2, h1, h2⟩⟩) g0 (by omega)) (fun v11 G1 e1 g1 ⟨q2, hq2, hP2⟩ => ?_) g0
  have good2 : q2.good := hq2.good (by omega) (by omega)
  have hTb1 := hTb.up e1
  have hGr1 := hGr0.up e1
  have hBk1 := hBk.up e1
  have tt : ∀ {x y : V} {H1 : Hp} {t u : Tb}, TbAt K t x H1 → TbAt K u y H1 → (∃ a dx fs t, x = .ref a ∧ H1 a = some (.ins (ga K "Table") dx fs) ∧ TyX K H1 y t ∧ PySem.W.notFirst K (ga K "Table") t = true) := fun h1 h2 => by
    obtain ⟨_, A, hA, p, dp, rfl, hp⟩ := h1
    obtain ⟨_, A2, hA2, p2, dp2, rfl, hp2⟩ := h2
    exact ⟨p, dp, _, _, rfl, hp, ty_Table hp2, nf_self⟩
  have gg : ∀ {x y : V} {H1 : Hp} {t u : Tb}, GrAt K t x H1 → GrAt K u y H1 → (∃ a dx fs t, x = .ref a ∧ H1 a = some (.ins (ga K "Greatest") dx fs) ∧ TyX K H1 y t ∧ PySem.W.notFirst K (ga K "Greatest") t = true) := fun h1 h2 => by
    obtain ⟨o1, _, p, dp, rfl, hp⟩ := h1
    obtain ⟨o2, _, p2, dp2, rfl, hp2⟩ := h2
    exact ⟨p, dp, _, _, rfl, hp, ty_Greatest hp2, nf_self⟩
  refine sd_set 12 (ed_ee (v := .bl (decide (q2.tb.b = q.tb.b) && decide (q2.tb.ns = q.tb.ns))) (ee_eqO (P1 := TbAt K q2.tb) (P2 := TbAt K q.tb) opm_of fn_Table_eq (eq_call cl_lreal (EA.q (ea_cons (ee_var 11) ea_nil) fun H2 e2 => ⟨q2, _, rfl, hP2.up e2, good2, fun v H' e h => h⟩)) ((ee_var 4).q fun H2 e2 => hTb1.up e2) (fun _ _ _ e h => h.up e) fun x y H2 e2 h1 h2 => ⟨tt h1 h2, q2.tb, q.tb, x, y, rfl, h1, h2, Gives.me⟩)) (fun v12 G2 e2 g2 hv12 => ?_) g1
  subst hv12
  have hP22 := hP2.up e2
  have hGr2 := hGr1.up e2
  have grq : ∀ {x y : V} {H1 : Hp}, GrAt K q2.tb x H1 → GrAt K q.tb y H1 → R_Greatest_eq (K := K) [x, y] H1 fun u _ => u = .bl (decide (q2.tb.b = q.tb.b) && decide (q2.tb.ns = q.tb.ns)) := fun h1 h2 => ⟨q2.tb, _, _, rfl, h1, .inl ⟨q.tb, h2, Gives.me⟩⟩
  generalize hdu : (decide (q2.tb.b = q.tb.b) && decide (q2.tb.ns = q.tb.ns)) = du at *
  refine sd_skip (ET.is (et_w (ew_or (et_neV (ee_eqO (P1 := GrAt K q2.tb) (P2 := GrAt K q.tb) opm_of fn_Greatest_eq (eq_great (eq_call cl_lreal (EA.q (ea_cons (ee_var 11) ea_nil) fun H3 e3 => ⟨q2, _, rfl, hP22.up e3, good2, fun v H' e h => h⟩))) ((ee_var 5).q fun H3 e3 => hGr2.up e3) (fun _ _ _ e h => h.up e) fun x y H3 e3 h1 h2 => ⟨gg h1 h2, grq h1 h2⟩) (ee_var 12) rfl) fun _ =>
    ew_or1 (et_eqV (ee_neO (P1 := GrAt K q2.tb) (P2 := GrAt K q.tb) opm_of ne_Greatest mro_Greatest fn_Greatest_eq (eq_great (eq_call cl_lreal (EA.q (ea_cons (ee_var 11) ea_nil) fun H3 e3 => ⟨q2, _, rfl, hP22.up e3, good2, fun v H' e h => h⟩))) ((ee_var 5).q fun H3 e3 => hGr2.up e3) (fun _ _ _ e h => h.up e) fun x y H3 e3 h1 h2 => ⟨gg h1 h2, grq h1 h2⟩) (ee_var 12) rfl))) (by rw [bl_ne _ _ rfl, bl_not]; rfl)) ?_
  exact law_odd (q := q) (rs := rs) g2 hw (hTb1.up e2) hGr2 (hBk1.up e2) fun H' e' p' => hnx _ _ H' ((e1.trans e2).trans e') (p'.le (by omega))
end
end Fk
set_option maxRecDepth 100000
set_option maxHeartbeats 2000000
namespace Fk
open PySem PySem.Spec PyProof.Rows L2 Evl He
/-- the rows that are not free -/
def badI (q : Pl) (rs : List Rl) (i : Nat) : Bool := !lawR q (rs.getD i (.down 0 0 1))
theorem bad_none (q : Pl) (rs : List Rl) : ((((List.range rs.length).filter (badI q rs)).map fun i => rs.getD i (.down 0 0 1)).map rowD).isEmpty = rs.all (lawR q) := by
  rw [List.isEmpty_map, List.isEmpty_map, Bool.eq_iff_iff, List.isEmpty_iff, List.filter_eq_nil_iff, List.all_eq_true]
  constructor
  · intro h r hr
    obtain ⟨i, hi, rfl⟩ := List.getElem_of_mem hr
    have h2 := h i (List.mem_range.mpr hi)
    unfold badI at h2
    rw [show rs.getD i (.down 0 0 1) = rs[i] by simp [List.getD, hi]] at h2
    cases h3 : lawR q rs[i] with
    | true => rfl
    | false => rw [h3] at h2; exact absurd rfl h2
  · intro h i hi h2
    have hi := List.mem_range.mp hi
    unfold badI at h2
    rw [show rs.getD i (.down 0 0 1) = rs[i] by simp [List.getD, hi], h _ (List.getElem_mem hi)] at h2
    cases h2
theorem bad_dp {K : PySem.W.Frag} {H : Hp} {rs : List Rl} {xs : List V} (h : Rows rs xs H) : ∀ is : List Nat, (∀ i ∈ is, i < xs.length) → DpAll K H (is.map fun i => xs.getD i .non) ((is.map fun i => rs.getD i (.down 0 0 1)).map rowD)
  | [], _ => .nil
  | i :: is, hi => by
    have h1 := hi i List.mem_cons_self
    obtain ⟨r, hr, hx⟩ := h.get (List.getElem?_eq_getElem h1)
    have e1 : xs.getD i .non = xs[i] := by simp [List.getD, h1]
    have e2 : rs.getD i (.down 0 0 1) = r := by simp [List.getD, hr]
    rw [List.map_cons, List.map_cons, List.map_cons, e1, e2]
    exact .cons (row_dp hx) (bad_dp h is fun j hj => hi j (List.mem_cons_of_mem _ hj))
section
variable {P : Program} {w : World} {K : PySem.W.Frag} {mg : Str → Option Value} {base : Heap} {X : Cx} {G H : Hp} {D : Ends} {pn : Pn} {q : Pl} {v3 v4 v5 v8 v10 : V} {z0 z2 z6 z7 z8 z9 z10 z11 z12 z13 : Option V} {a : Int} {rs : List Rl}
theorem law_rest [T : Tx K mg] [Px P] [B : Bx P w K mg base N_law (defScope s_law) 14 X] [Gx : Dx X] (hG : X.A.guards = some []) (g0 : G pn.a = none) (ha : a + 70 ≤ 100000) (hq : q.good) {m : Int} (hok : q.ok 5 6 m) (hw : ∀ n ∈ q.tb.ns, 0 ≤ n ∧ n ≤ 400) (hP : PlAt q v3 G) (hTb : TbAt K q.tb v4 G) (hGr : GrAt K q.tb v5 G)
    (hnx : ∀ y8 y9 y10 y11 y12 H', Ex G H' → PenB pn (a + 70) H' → D.nx [z0, some (.ref pn.a), z2, some v3, some v4, some v5, z6, z7, y8, y9, y10, y11, y12, z13] H') :
    SD X restB D pn a [z0, some (.ref pn.a), z2, some v3, some v4, some v5, z6, z7, z8, z9, z10, z11, z12, z13] G := by
  have hg1 : 1 ≤ q.g.length := by
    have := hq.hp
    omega
  have hlen := hq.most
  refine sd_set 8 (ed_call (T := fun v G' => ∃ rs, RowsAt rs v G' ∧ (∀ r ∈ rs, r.ok) ∧ (∀ r ∈ rs, r.m = 1 ∨ r.m = 2 ∨ r.m = 3) ∧ rs.length ≤ 3) cl_rules (ea_cons (ee_var 1) (ea_cons ee_int ea_nil)) (fun G2 e2 g2 => ⟨rfl, fun rs v G' e h1 h2 h3 h4 => ⟨rs, h4, h1, h2, h3⟩⟩) g0 (by omega)) (fun v8 G1 e1 g1 ⟨rs, hR, hr, hm, hl⟩ => ?_) g0
  obtain ⟨xs, ⟨l8, rfl, hl8⟩, hrows⟩ := hR
  have hxl := hrows.len
  refine sd_set 9 (ed_ee (v := .bl (rs.all (lawR q))) (ee_eqQ (da := .list ((((List.range rs.length).filter (badI q rs)).map fun i => rs.getD i (.down 0 0 1)).map rowD)) (EL.qd (LC.el (lc_Li 7 (badI q rs) (fun i => xs.getD i .non) (ee_var 8) (sq_of hl8) (by omega) (fun X' i x H1 B' e' hi => ?_) (fun X' i x H1 B' e' hi hf => ?_))) fun H1 e' => ?_) (qd_lst qds_nil) (rows_shaped _) rfl ?_)) (fun v9 G2 e2 g2 hv9 => ?_) g1
  · obtain ⟨r, hir, hx⟩ := hrows.get hi
    have er : rs.getD i (.down 0 0 1) = r := by simp [List.getD, hir]
    unfold badI
    rw [er]
    exact et_not (et_val (ee_call cl_lfree (ea_cons (ee_var 3) (ea_cons (ee_var 7) ea_nil)) fun H2 e2 => ⟨q, r, _, _, rfl, ((hP.up e1).up e').up e2, (hx.up e').up e2, hr r (List.mem_of_getElem? hir), hg1, by omega, by omega, Gives.me⟩))
  · rw [show xs.getD i .non = x by simp [List.getD, hi]]
    exact ee_var 7
  · unfold given
    rw [hxl]
    exact bad_dp (hrows.up fun p ys hp => e' _ _ hp) _ fun i hi => by
      rw [hxl]
      exact List.mem_range.mp (List.mem_filter.mp hi).1
  · simp only [PyData.eqv, eqvAll_nil]
    exact bad_none q rs
  subst hv9
  have hl82 := e2 _ _ hl8
  have hrows2 : Rows rs xs G2 := hrows.up fun p ys hp => e2 _ _ hp
  refine sd_set 10 (ed_eq (P1 := BkAt K rs) (eq_book_of (rs := rs) (EvQ.imp (eq_cNew (PE' := fun i y H => ∃ r, rs[i]? = some r ∧ RlAt K r y H) 7 (ee_var 8) hl82 (by omega) (fun i x H1 H2 e ⟨r, h1, h2⟩ => ⟨r, h1, h2.up e⟩) (fun i x H1 L ys zs hL ⟨r, h1, h2, b, dx, h3, h4⟩ => ⟨r, h1, h2, b, dx, h3, by rw [upd_ne (ne_of h4 hL (by simp))]; exact h4⟩) fun X' i x H1 B' e' hi => ?_) fun v H1 e' ⟨l, ys, hv, hy, hyl, hys⟩ => ?_) ⟨by omega, hm⟩) (fun v H1 p t => t.off p) g2) (fun v10 G3 e3 g3 hBk => ?_) g2
  · obtain ⟨r, hir, hx⟩ := hrows2.get hi
    exact eq_call cl_lrule (EA.q (ea_cons (ee_var 7) ea_nil) fun H2 e2 => ⟨r, _, rfl, (hx.up e').up e2, hr r (List.mem_of_getElem? hir), fun v H' e h => ⟨r, hir, h⟩⟩)
  · refine ⟨l, ys, hv, hy, Rls.of (by rw [hyl, hxl]) fun i r y h1 h2 => ?_⟩
    obtain ⟨r', h3, h4⟩ := hys i y h2
    rw [h1] at h3
    cases h3
    exact h4
  have e13 := (e1.trans e2).trans e3
  have hGr3 := hGr.up e13
  have hGr0 := hGr3
  obtain ⟨o, hTo, p5, dp5, rfl, hp5⟩ := hGr3
  refine sd_skip (ET.is (et_neV (ee_reprL (y := rs.all (freeR q.tb)) (z := true) hG (tfre "repr") (ee_meth mt_has (ee_var 5) hp5 rfl (ea_cons (ee_var 10) ea_nil) fun H1 e' => ⟨q.tb, rs, _, _, rfl, hGr0.up e', hBk.up e', Gives.me⟩) (EQ.val (eq_meth mt_has (ee_var 5) hp5 rfl (eaq_one (P1 := BkAt K []) (eq_book0) (fun v H1 e' hb => ⟨q.tb, [], _, v, rfl, hGr0.up e', hb, Gives.me⟩) (fun _ _ _ e h => h.up e)))))
    (ee_reprL (y := rs.all (lawR q)) (z := true) hG (tfre "repr") (ee_var 9) ee_bl) rfl) ?_) ?_
  · have : rs.all (freeR q.tb) = rs.all (lawR q) := by
      rw [Bool.eq_iff_iff, List.all_eq_true, List.all_eq_true]
      exact ⟨fun h r hr' => by rw [← law_free hq (hr r hr')]; exact h r hr', fun h r hr' => by rw [law_free hq (hr r hr')]; exact h r hr'⟩
    rw [this, decide_eq_true rfl]
    rfl
  exact law_mid (rs := rs) g3 (by omega) hq hok hw (hTb.up e13) hGr0 hBk fun y11 y12 H' e' p' => hnx _ _ _ _ _ H' (e13.trans e') (p'.le (by omega))
end
end Fk
set_option maxRecDepth 100000
set_option maxHeartbeats 2000000
namespace Fk
open PySem PySem.Spec PyProof.Rows L2 Evl He
theorem mk_wb {b p : Int} {ns : List Int} (h : Nums b p ns) : ∀ n ∈ (mkT b ns).ns, 0 ≤ n ∧ n ≤ 400 := by
  intro n hn
  obtain ⟨y, hy, rfl⟩ := List.mem_map.mp hn
  obtain ⟨h1, h2, _, _⟩ := leastT_mem ((ns.take b.toNat).map V.int) ((ns.take b.toNat).map V.int).length (shortT ((ns.drop b.toNat).map V.int))
  have hin : ∃ i ∈ ns, y = .int i := by
    rcases List.mem_append.mp hy with h' | h'
    · obtain ⟨i, hi, rfl⟩ := List.mem_map.mp (h1 y h')
      exact ⟨i, List.mem_of_mem_take hi, rfl⟩
    · obtain ⟨i, hi, rfl⟩ := List.mem_map.mp (short_mem _ _ (h2 y h'))
      exact ⟨i, List.mem_of_mem_drop hi, rfl⟩
  obtain ⟨i, hi, rfl⟩ := hin
  exact h.wb i hi
section
variable {P : Program} {w : World} {K : PySem.W.Frag} {mg : Str → Option Value} {base : Heap} {X : Cx} {G H : Hp} {D : Ends} {pn : Pn} {v3 v4 v5 v8 v10 : V} {z0 z2 z3 z4 z5 z6 z7 z8 z9 z10 z11 z12 z13 : Option V} {a : Int}
theorem SD.run {sts : List Stmt} {σ : L2.St} {i : Int} (h : SD X sts D pn i σ G) (e : Ex G H) (p : PenB pn i H) : wSs X sts D σ H := h H e p
theorem law_turn [T : Tx K mg] [Px P] [B : Bx P w K mg base N_law (defScope s_law) 14 X] [Gx : Dx X] (hG : X.A.guards = some []) (g0 : G pn.a = none) (ha : 0 ≤ a ∧ a + 200 ≤ 100000)
    (hnx : ∀ y3 y4 y5 y6 y7 y8 y9 y10 y11 y12 H', Ex G H' → PenB pn (a + 200) H' → D.nx [z0, some (.ref pn.a), z2, y3, y4, y5, y6, y7, y8, y9, y10, y11, y12, z13] H') :
    SD X turnB D pn a [z0, some (.ref pn.a), z2, z3, z4, z5, z6, z7, z8, z9, z10, z11, z12, z13] G := by
  refine sd_set 3 (n := 1 + 0 + 30) (P1 := fun v G' => ∃ (q : Pl) (m : Int), q.ok 5 6 m ∧ m ≤ 4 ∧ PlAt q v G') (ed_callD (n1 := 1 + 0) (n2 := 30) (PA' := fun vs _ => ∃ d : Int, vs = [.ref pn.a, .int 5, .int 6, .int (1 + d)] ∧ 0 ≤ d ∧ d < 4) cl_table ?_ (fun vs G2 e2 g2 ⟨d, hvs, h1, h2⟩ => ⟨_, hvs, 5, 6, 1 + d, rfl, by omega, by omega, by omega, by omega, by omega, by omega, fun q v G' e hq hP => ⟨q, 1 + d, hq, by omega, hP⟩⟩) g0 (by omega)) (fun v3 G1 e1 g1 ⟨q, m, hok, hm, hP⟩ => ?_) g0
  · exact ead_ee (ee_var 1) (ead_ee ee_int (ead_ee ee_int (ead_cons (n1 := 1) (n2 := 0) (P1 := fun u _ => ∃ d : Int, u = .int (1 + d) ∧ 0 ≤ d ∧ d < 4) (ed_addR ee_int (ed_draw (m := 4) (ea_cons (ee_var 1) (ea_cons ee_int ea_nil)) ⟨by omega, by omega⟩) fun v G2 ⟨d, hv, h1, h2⟩ => ⟨d, hv, d, rfl, h1, h2⟩) (fun v G2 e2 g2 ⟨d, hv, h1, h2⟩ => ead_nil (fun _ _ _ => ⟨d, by rw [hv], h1, h2⟩) g2) g0 (by omega))))
  have good : q.good := hok.good (by omega) (by omega)
  refine sd_set 4 (ed_eq (P1 := TbAt K q.tb) (eq_call cl_lreal (EA.q (ea_cons (ee_var 3) ea_nil) fun H1 e' => ⟨q, _, rfl, hP.up e', good, fun v H' e h => h⟩)) (fun v H1 p t => t.off p) g1) (fun v4 G2 e2 g2 hTb => ?_) g1
  refine sd_set 5 (ed_eq (P1 := GrAt K q.tb) (eq_great ((ee_var 4).q fun H1 e' => hTb.up e')) (fun v H1 p t => t.off p) g2) (fun v5 G3 e3 g3 hGr => ?_) g2
  have hP3 := (hP.up e2).up e3
  have hTb3 := hTb.up e3
  have e13 := (e1.trans e2).trans e3
  refine sd_forD (hi := 8) (n := 0) 6 (fun i σ' H' => (∃ y6 y7, σ' = [z0, some (.ref pn.a), z2, some v3, some v4, some v5, y6, y7, z8, z9, z10, z11, z12, z13]) ∧ Ex G3 H' ∧ PenB pn (a + 31 + 10 * i) H') (EvD.imp (ed_ee ee_int) (fun v G2 _ _ hv => ⟨8, hv, by omega, by omega⟩) g3) (by omega) g3 (tfre "range") (fun H1 e' p' => ⟨⟨_, _, rfl⟩, e', p'.le (by omega)⟩) ?_ ?_
  · rintro i σ' H' hi ⟨⟨y6, y7, rfl⟩, e', p'⟩
    refine SD.run ?_ e' p'
    exact law_row (q := q) g3 (by omega) good hP3 hGr (fun y7 H2 e2 p2 => ⟨⟨_, y7, rfl⟩, e2, p2.le (by omega)⟩)
  · rintro i σ' H' hi ⟨⟨y6, y7, rfl⟩, e', p'⟩
    refine SD.run ?_ e' p'
    exact law_rest (a := a + 31 + 10 * i) hG g3 (by omega) good hok (mk_wb good) hP3 hTb3 hGr (fun y8 y9 y10 y11 y12 H2 e2 p2 => hnx _ _ _ _ _ _ _ _ _ _ H2 (e13.trans e2) (p2.le (by omega)))
end
end Fk
set_option maxRecDepth 100000
set_option maxHeartbeats 2000000
namespace Fk
open PySem PySem.Spec PyProof.Rows L2 Evl He LamX
section
variable {P : Program} {w : World} {K : PySem.W.Frag} {mg : Str → Option Value} {base : Heap} {X : Cx} {H : Hp} {D : Ends}
theorem law_ok [T : Tx K mg] [Px P] [B : Bx P w K mg base N_law (defScope s_law) 14 X] [Gx : Dx X] (hG : X.A.guards = some []) (cr : Cl P w K mg base 13 "_law_refused_right" (spRef K)) {s : Addr} {ns : List Int} (hs : SqL K H s (ns.map V.int)) (hl : ns.length ≤ 63) (hT : H (cT K ("_law_refused_right", none)).2 = some (.tbl #[])) (hd : ∀ H', D.rt (.bl true) H') :
    SS X (defBody s_law) D (L2.start N_law [.ref s]) H := by
  refine ss_setQ (R := fun v H1 => ∃ pn, v = .ref pn.a ∧ PenAt pn 0 H1) 1 (eq_call cl_law_pen (EA.q (ea_cons (ee_var 0) ea_nil) fun H1 e1 => ⟨s, ns, rfl, ex_l e1 hs, hl, fun pn H2 e2 hn hp => ⟨pn, rfl, hp⟩⟩)) fun v H1 e1 ⟨pn, hv, hp⟩ => ?_
  subst hv
  have hpB : PenB pn 0 H1 := ⟨0, hp, Int.le_refl 0⟩
  have hT1 : off pn H1 (cT K ("_law_refused_right", none)).2 = some (.tbl #[]) := off_at hpB (e1 _ _ hT) (by simp)
  refine SD.ss (G := off pn H1) (q := 0) ?_ off_ex hpB
  have g0 : off pn H1 pn.a = none := off_pn
  generalize off pn H1 = G0 at *
  refine sd_forD (hi := 6) (n := 0) 2 (fun i σ' H' => (∃ y2 y3 y4 y5 y6 y7 y8 y9 y10 y11 y12 y13, σ' = [some (.ref s), some (.ref pn.a), y2, y3, y4, y5, y6, y7, y8, y9, y10, y11, y12, y13]) ∧ Ex G0 H' ∧ PenB pn (200 * i) H') (EvD.imp (ed_ee ee_int) (fun v G2 _ _ hv => ⟨6, hv, by omega, by omega⟩) g0) (by omega) g0 (tfre "range") (fun H2 e' p' => ⟨⟨_, _, _, _, _, _, _, _, _, _, _, _, rfl⟩, e', p'.le (by omega)⟩) ?_ ?_
  · rintro i σ' H' hi ⟨⟨y2, y3, y4, y5, y6, y7, y8, y9, y10, y11, y12, y13, rfl⟩, e', p'⟩
    refine SD.run ?_ e' p'
    exact law_turn hG g0 (by omega) fun x3 x4 x5 x6 x7 x8 x9 x10 x11 x12 H2 e2 p2 => ⟨⟨_, x3, x4, x5, x6, x7, x8, x9, x10, x11, x12, _, rfl⟩, e2, p2.le (by omega)⟩
  · rintro i σ' H' hi ⟨⟨y2, y3, y4, y5, y6, y7, y8, y9, y10, y11, y12, y13, rfl⟩, e', p'⟩
    refine wss_cons (ps_ret (cl_raw cr (by decide) (by decide +kernel) (by rfl) (by rfl))) ?_
    refine (eaq_one (P1 := GrAt K (mkT 0 [0])) (P2 := fun vs H2 => ∃ o, vs = [o] ∧ GrAt K (mkT 0 [0]) o H2) (eq_great (eq_tab ee_int ee_int (EL.lp (el_lst (ea_cons ee_int ea_nil))) ⟨by decide, by decide, by decide, by decide, by decide, by decide⟩)) (fun v H2 _ h => ⟨v, rfl, h⟩) (fun _ _ _ e h => h.up e)) H' (Ex.refl H') _ fun vs H2 e2 ⟨o, hv, hg⟩ => ?_
    exact ⟨_, o, hv, hg, fun p hp => by
      rw [List.mem_singleton.mp hp]
      exact TabS.nil ((e'.trans e2) _ _ hT1), fun H3 => hd H3⟩
end
end Fk
set_option maxRecDepth 100000
set_option maxHeartbeats 2000000
namespace Fk
open PySem PySem.Spec PyProof.Rows L2 LamX
/-- what is known at the law's call: the script, one empty table, all else untracked -/
def lawH (K : PySem.W.Frag) (a Pt : Addr) (ob : Obj) (ns : List Int) : Hp := fun b => if b = Pt then some (.tbl #[]) else if b = a ∧ K.lookup a = none then some (.frz ob (.lst (ns.map V.int))) else none
theorem lawH_in {K : PySem.W.Frag} {a Pt : Addr} {ob : Obj} {ns : List Int} {b : Addr} {u : HO} (h : lawH K a Pt ob ns b = some u) : (b = Pt ∧ u = .tbl #[]) ∨ (b = a ∧ K.lookup a = none ∧ u = .frz ob (.lst (ns.map V.int))) := by
  unfold lawH at h
  split at h
  · rename_i hb
    exact .inl ⟨hb, (Option.some.inj h).symm⟩
  · split at h
    · rename_i hb
      exact .inr ⟨hb.1, hb.2, (Option.some.inj h).symm⟩
    · cases h
/-- the law's call, from the caller's place: what its def promises there -/
theorem law_callG {P : Program} {w : World} {K : PySem.W.Frag} {mg mb : Str → Option Value} {fa a c Pt : Addr} {s₁ : Shared} {vs : List Value} {ns : List Int}
    (KX : K.In s₁.heap) (hns : s₁.heap.Ns mainGlobals mg) (hb : s₁.heap.Ns builtinsNs mb) (hbb : ∀ x : Str, x ≠ "__name__" → mb x = bootBuiltins x) (hlim : s₁.heap.NoLimit) (hg : s₁.gens = #[])
    (hT : s₁.heap.get? Pt = some { cls := .none, data := .fields #[] }) (nT : K.lookup Pt = none) (C : PySem.W.CodeHd s₁.heap c Pt)
    (hbm : ∃ (bm : Addr) (ob : Obj), mg "__builtins__" = some (.ref bm) ∧ bm ≠ builtinsNs ∧ s₁.heap.get? bm = some ob ∧ ob.cls = .type "module" ∧ ob.dict = some builtinsNs ∧ ob.data = .plain)
    (ha : s₁.heap.get? a = some { cls := .type "list", data := .seq vs.toArray }) (hi : IntsAre vs ns) (hl : ns.length ≤ sizeLine)
    (F : ∀ (base : Heap) (H : Hp), K.In base → base.Ns mainGlobals mg → TabB base mg c Pt → Env0 P w K mg base callerA [] s₁ H → H Pt = some (.tbl #[]) → SqL K H a (ns.map V.int) → codeAny (model P w) callerA (.call (.ref fa) ⟨[.ref a], []⟩) (CR CX0 [] P w H s₁ (fun v _ => v = .bl true) fun _ _ _ => False) s₁) :
    codeAny (model P w) callerA (.call (.ref fa) ⟨[.ref a], []⟩) (fun r s' => r = .ok (.ret (.bool true)) ∧ OldK s₁.heap s'.heap ∧ s'.os = s₁.os ∧ AllBare s'.gens) s₁ := by
  have rv := vals_ints hi
  have aP : a ≠ Pt := fun z => by
    rw [z, hT] at ha
    have z' : Data.fields #[] = Data.seq vs.toArray _ := congrArg Obj.data (Option.some.inj ha)
    cases z'
  generalize hH : lawH K a Pt { cls := .type "list", data := .seq vs.toArray } ns = H
  have inH : ∀ {b : Addr} {u : HO}, H b = some u → (b = Pt ∧ u = .tbl #[]) ∨ (b = a ∧ K.lookup a = none ∧ u = .frz { cls := .type "list", data := .seq vs.toArray } (.lst (ns.map V.int))) := fun {b u} h => lawH_in (by rw [hH]; exact h)
  have HPt : H Pt = some (.tbl #[]) := by
    rw [← hH]
    exact if_pos rfl
  -- what is of another kind is not tracked
  have free : ∀ {b : Addr} {o : Obj}, s₁.heap.get? b = some o → (∀ us n, o.data ≠ .seq us n) → o.data ≠ .fields #[] → H b = none := fun {b o} e h1 h2 => by
    cases q : H b with
    | none => rfl
    | some u =>
      rcases inH q with ⟨rfl, _⟩ | ⟨rfl, _, _⟩
      · rw [hT] at e
        cases e
        exact absurd rfl h2
      · rw [ha] at e
        cases e
        exact absurd rfl (h1 _ _)
  have dictF : ∀ {b : Addr} {o : Obj} {es : Array DictEntry} {ep : Nat}, s₁.heap.get? b = some o → o.data = .dict es ep → H b = none := fun {b o es ep} e d => free e (fun us n z => by rw [d] at z; cases z) fun z => by rw [d] at z; cases z
  have nsB : ∀ {b : Addr} {m : Str → Option Value}, s₁.heap.Ns b m → (hidT s₁.heap H).Ns b m := fun {b m} ⟨o, es, ep, e, d, r⟩ => ⟨o, es, ep, hidT_get e (dictF e d), d, r⟩
  have KB : K.In (hidT s₁.heap H) := fun b o e => hidT_get (KX b o e) (by
    cases q : H b with
    | none => rfl
    | some u =>
      rcases inH q with ⟨rfl, _⟩ | ⟨rfl, hk, _⟩
      · rw [nT] at e
        cases e
      · rw [hk] at e
        cases e)
  have TB : TabB (hidT s₁.heap H) mg c Pt := by
    refine ⟨?_, ?_, fun z => ?_⟩
    · obtain ⟨o, us, file, tf, flags, tg, inF, text, tt, e1, r1, r2, r3, r⟩ := C
      refine ⟨o, us, file, tf, flags, tg, inF, text, tt, hidT_get e1 (free e1 (fun us n z => ?_) fun z => ?_), r1, r2, r3, r⟩
      · rw [r2] at z
        cases z
      · rw [r2] at z
        cases z
        simp at r3
    · obtain ⟨bm, ob, b1, b2, b3, b4, b5, b6⟩ := hbm
      refine ⟨bm, ob, b1, b2, fun q => ?_, fun q => ?_, hidT_get b3 (free b3 (fun us n z => ?_) fun z => ?_), b4, b5, b6⟩
      · obtain ⟨o, es, ep, e, hd, _⟩ := hns
        rw [q, e] at b3
        cases b3
        rw [hd] at b6
        cases b6
      · rw [q, hT] at b3
        cases b3
        cases b6
      · rw [b6] at z
        cases z
      · rw [b6] at z
        cases z
    · obtain ⟨o, es, ep, e, hd, _⟩ := hns
      rw [z, hT] at e
      cases e
      cases hd
  have ok : HOk P w H s₁.heap := fun b u q => by
    rcases inH q with ⟨rfl, rfl⟩ | ⟨rfl, _, rfl⟩
    · exact hT
    · exact ⟨ha, by rw [List.length_map]; exact hl, vs, _, rv, ha⟩
  have M : L2.Mod K mg (hidT s₁.heap H) := ⟨KB, nsB hns, ⟨mb, nsB hb, hbb⟩, let ⟨mc, h1, h2⟩ := hlim; ⟨mc, nsB h1, h2⟩⟩
  have e0 : Env0 P w K mg (hidT s₁.heap H) callerA [] s₁ H := ⟨rfl, M, fun b o e => of_hidT e, Nat.le_of_eq (hidT_size _ _), trivial, fun b hb => absurd (show b ∈ ([] : List Addr) from hb) (by simp), ok, .of_eq hg⟩
  have sq : SqL K H a (ns.map V.int) := by
    cases hk : K.lookup a with
    | none =>
      refine .inl (.inr ⟨{ cls := .type "list", data := .seq vs.toArray }, ?_⟩)
      rw [← hH]
      exact (if_neg aP).trans (if_pos ⟨rfl, hk⟩)
    | some o =>
      have e := KX a o hk
      rw [ha] at e
      cases e
      exact .inr ⟨_, vs.toArray, _, hk, rfl, rfl, rfl, by rw [List.size_toArray, hi.length]; exact hl, by simpa using rv⟩
  refine codeAny_mono (F _ H KB (nsB hns) TB e0 HPt sq) fun r s' h => ?_
  cases r with
  | error e => exact False.elim h
  | ok fl =>
    cases fl with
    | next => exact False.elim h
    | brk => exact False.elim h
    | cont => exact False.elim h
    | ret u =>
      obtain ⟨v, H', os, bare, un, hok', r', q⟩ := h
      have q' : v = .bl true := q
      subst q'
      obtain rfl : u = Value.bool true := r'
      obtain ⟨more, zT⟩ := un.tbls Pt #[] HPt
      have grown : s'.heap.get? Pt = some { cls := .none, data := .fields (#[] ++ more) } := hok' Pt _ zT
      have rest : ∀ b o, b ≠ Pt → s₁.heap.get? b = some o → s'.heap.get? b = some o := fun b o nb e => by
        cases q : H b with
        | none => exact un.keep b o e q (fun z => absurd (show b ∈ ([] : List Addr) from z) (by simp)) (by simp)
        | some u =>
          rcases inH q with ⟨z, _⟩ | ⟨rfl, _, rfl⟩
          · exact absurd z nb
          · obtain ⟨e1, _⟩ := ok b _ q
            obtain ⟨e2, _⟩ := hok' b _ (un.frzs b _ _ q)
            rw [e] at e1
            cases e1
            exact e2
      refine ⟨rfl, ⟨fun b o e => ?_, fun b o e => ?_⟩, os, bare⟩
      · by_cases hb : b = Pt
        · subst hb
          rw [hT] at e
          cases e
          exact .inr (.inl ⟨(C.tab hT).isCodeTable, rfl, #[], more, rfl, grown⟩)
        · exact .inl (rest b o hb e)
      · by_cases hb : b = Pt
        · subst hb
          exact ⟨_, grown⟩
        · exact ⟨o, rest b o hb e⟩
end Fk
set_option maxRecDepth 100000
set_option maxHeartbeats 2000000
namespace Fk
open PySem PySem.Spec PyProof.Rows L2 Evl He LamX
theorem law_run {P : Program} {w : World} {K : PySem.W.Frag} {mg : Str → Option Value} {base : Heap} {a : Addr} {s₁ : Shared} {H : Hp} {ns : List Int} [T : Tx K mg] [Px P] (hl : ns.length ≤ 63) (TB : TabB base mg (cT K ("_law_refused_right", none)).1 (cT K ("_law_refused_right", none)).2) (e0 : Env0 P w K mg base callerA [] s₁ H)
    (hT : H (cT K ("_law_refused_right", none)).2 = some (.tbl #[])) (hs : SqL K H a (ns.map V.int)) : codeAny (model P w) callerA (.call (.ref (ga K "law")) ⟨[.ref a], []⟩) (CR CX0 [] P w H s₁ (fun v _ => v = .bl true) fun _ _ _ => False) s₁ := by
  obtain ⟨fd, F⟩ := f_law (K := K) (mg := mg)
  have hbi := F.bindsN (ps := ["_law_script"]) fun _ _ _ _ _ _ us hl => match us, hl with | [_], _ => rfl
  obtain ⟨oc, od, dV, kV, doc, pm, an, cdv, ct, osl, rfl, lk, hcd, _, _⟩ := F.ex
  have KX : K.In s₁.heap := e0.mod.kin.keeps fun b o e => (e0.bs b o e).1
  refine run_ofS (CX := CX0) (k := 14) (ps := ["_law_script"]) (us := [.ref a]) (vs := [.ref a]) lk hcd sc_law ⟨rfl, by decide, by decide⟩ e0 (hbi s₁ [.ref a] KX rfl) (.cons rfl .nil) rfl fun hr => ⟨_, PSs.nox pss_w, ?_⟩
  have B : Bx P w K mg base N_law (defScope s_law) 14 (cxOf CX0 P w K mg base N_law "law" (defScope s_law) (ga K "law") cdv callerA [] s₁ H fun _ _ _ => False).nox := bx_of sc_law hr
  have Gx : Dx (cxOf CX0 P w K mg base N_law "law" (defScope s_law) (ga K "law") cdv callerA [] s₁ H fun _ _ _ => False).nox := dx_of
  exact (show SS _ (defBody s_law) _ _ H from law_ok rfl (cl_refused TB) hs hl hT fun _ => rfl) H (Ex.refl H)
end Fk
set_option maxRecDepth 100000
set_option maxHeartbeats 2000000
namespace Fk
open PySem PySem.Spec PyProof.Rows L2 Evl He
abbrev LW : PySem.W.OpenLaw := PySem.Challenge.rw_freetakes_k46_whole_rules_of_the_greates
instance px_prog : Px LW.prog := ⟨by decide +kernel, by decide +kernel⟩
theorem law_name : (HandSHeadRun.topDef (PySem.W.OpenLaw.row LW).prog 103).name = ("law" : PySem.Str) := by kernel_rfl
end Fk
set_option maxRecDepth 100000
set_option maxHeartbeats 2000000
namespace Fk
open PySem PySem.Spec PyProof.Rows L2 Evl He LamX
/-- the law, called as the row calls it -/
theorem law_walk {XP : (Str → Option Value) → Heap → Prop} : PySem.W.WalkO qv loose XP hk.says LW.row.toRowW (HandSHeadRun.topDef R.prog 103) [] (fun f vs => PySem.call f vs) := by
  refine Att.attach_callB (l := LW) (n := 63) rfl (by kernel_rfl) fun w s₀ s₁ mg mb fa o pm cd doc a vs ns G Y ho hd hcd hmg hobj hints hlen hbits hg => ?_
  obtain ⟨K, KX, S⟩ := Y
  have T : Tx K mg := ⟨⟨s₁.heap, KX, G.T.g⟩, S.d, S.x, S.l⟩
  have hmg2 : mg ("law" : Str) = some (.ref fa) := by
    rw [← law_name]
    exact hmg
  have hfa : fa = ga K "law" := by
    have h := tglo (K := K) (mg := mg) "law"
    rw [hmg2] at h
    cases h
    rfl
  subst hfa
  exact law_callG KX G.T.g G.T.b G.T.builtins G.T.nolimit hg S.empty S.out (PySem.W.codeHd_of_K KX S.hd) G.T.bmain hobj hints (Nat.le_trans hlen (by decide)) fun base H KB nsB TB e0 HPt sq => law_run hlen TB e0 HPt sq
end Fk
set_option maxRecDepth 100000
set_option maxHeartbeats 2000000
namespace Fk
open PySem PySem.W PySem.Calls L2 He
theorem look_eq {α : Type} (s : SharedT) (f : Frag → α) : lookK s f = f (frT (HandSHeadRun.getT s) (asF (HandSHeadRun.getT s))) := frL_eq _ _
theorem run_all (w : World) : HandSHeadRun.RunEq R qv hk ob 12000 loose w := by
  intro os
  have h1 := run1 w os
  have h2 := run2 w os
  have h3 := run3 w os
  have h4 := run4 w os
  show (runM w os).map _ = _
  generalize runM w os = m at h1 h2 h3 h4 ⊢
  cases m with
  | none => cases h1
  | some s =>
    obtain ⟨a1, a2⟩ := Prod.mk.inj (Option.some.inj h1)
    have h2 : lookK s (fun K => faL.all fun f => f.ok K) = true := Option.some.inj h2
    have h3 : lookK s (fun K => fnL.all fun d => d.ok K) = true := Option.some.inj h3
    have h4 : lookK s (fun K => (exB K && tabsB (HandSHeadRun.getT s) tfL K, (fnL.map fun d => fnW K d.at_) ++ lkS K)) = (true, fnL.map DefD.val ++ lkV) := Option.some.inj h4
    rw [look_eq] at h2 h3 h4
    obtain ⟨a4, a5⟩ := Prod.mk.inj h4
    have a8 : ob s = valF := by
      show lookK s (fun K => obsK (HandSHeadRun.getT s) K) = valF
      rw [look_eq]
      generalize hK : frT (HandSHeadRun.getT s) (asF (HandSHeadRun.getT s)) = K at *
      show (((faL.all fun f => f.ok K) && fnL.all fun d => d.ok K) && (exB K && tabsB (HandSHeadRun.getT s) tfL K), (fnL.map fun d => fnW K d.at_) ++ lkS K) = valF
      rw [h2, h3, a4, a5]
      rfl
    show some (_, _, ob s) = some (true, openGood qv loose, valF)
    rw [a8]
    exact congrArg some (Prod.ext a1 (Prod.ext a2 rfl))
end Fk
open PySem PySem.W PySem.Calls PyProof.Rows
theorem PySem.Challenge.cw_freetakes_k46_whole_rules_of_the_greates_holds : PySem.Challenge.rw_freetakes_k46_whole_rules_of_the_greates.Holds := by
  w_on; o_law
  refine HandSHeadRun.head_any (r := OpenLaw.row PySem.Challenge.rw_freetakes_k46_whole_rules_of_the_greates) (q := Fk.qv) (H := Fk.hk) (ob := Fk.ob) (M := 12000) (loose := Fk.loose) (d := HandSHeadRun.topDef Fk.R.prog 103) (kwd := []) Fk.ob_eq (by kernel_rfl) (fun s => by kernel_rfl) Fk.run_all (by kernel_rfl) (by kernel_rfl) (by kernel_rfl) (by rfl) (by first | assumption | decide +kernel) (by decide +kernel) ⟨rfl, rfl, rfl, rfl, rfl, by decide +kernel⟩ ?hw ?hc
  case hw => w_witness2
  case hc => exact Fk.law_walk
